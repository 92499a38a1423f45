import PyProof.Rows.All
import Wide.All
import OpenK.AllK
import Wide.FinOn
import HandS.Base
import HandS.Call
import HandS.List
import HandS.Comp
import HandS.Ends
import HandS.Dict
import HandS.Iter
import HandS.Text
import HandS.Exc
import KE.KNest
import HandS.Wide
import HandS.TupAny
import HandS.IsInst
import HandS.RaiseMore
import PyProof.ReprRoads
import HandS.ExcOwn
import HandS.Words
import HandS.Style
import HandS.EndBits
import HandS.Conv
import HandS.Rev
import HandS.Zip
import HandS.SortRule
import HandS.SortInts
import HandS.Star
import HandS.SetFor
import HandS.Strs
import HandS.NoneIn
import HandS.More
import HandS.Small
import HandS.TupLe
import KE.DataMinMax
import HandS.ExcInit
import HandS.ExcField
import HandS.ExcIs
import HandS.TryOnly
import HandS.WordsExc
import KE.KExcIs
import HandS.TupMul
import PyProof.NeKinds
import KE.KEqNest
import PyProof.Rows.IntBool
import HandS.JoinGen
import PyProof.SumWalkG
import PyProof.WalkInts
import PyProof.FactsAll.subtypes_4
import HandS.GenList
import HandS.ClsMeth
import KE.KSuper
import KE.RegKSuper
import PyProof.Rows.CountFlat
import HandS.Lambda
import HandS.ListEq
import HandS.DictEq
import KE.DataEq
import HandS.Property
import HandS.WideBits
import HandS.Defaults
import KE.GoesEnum
import KE.GoesZip
import KE.KUnpack
import KE.KUnpackStar
import HandS.Replace
import HandS.CallLocal
import PySem.Challenge.RW_copyorigins_k15_errors_of_the_package
set_option Elab.async false
set_option linter.all false
set_option maxRecDepth 100000
set_option maxHeartbeats 4000000

/-! ML1: values of Python as plain data over the abstract heap; what is owned; the state of an activation. -/
namespace ML
open PySem L2

abbrev D := PyData
abbrev Fg := PySem.W.Frag
abbrev OS := Addr → Prop

/-! ### data in the heap, apart from the addresses in O -/
def XL (K : Fg) (H : Hp) (O : OS) (a : Addr) (xs : List V) : Prop := (¬ O a ∧ Rd H a (.lst xs)) ∨ SqL K (fun _ => none) a xs
def XT (K : Fg) (H : Hp) (O : OS) (a : Addr) (xs : List V) : Prop := (¬ O a ∧ Rd H a (.tup xs)) ∨ SqT K (fun _ => none) a xs
theorem rd_none {a : Addr} {u : HO} (h : Rd (fun _ => none) a u) : False := by
  rcases h with h | ⟨o, h⟩ <;> cases h
theorem XL.sq {K : Fg} {H : Hp} {O : OS} {a : Addr} {xs : List V} (h : XL K H O a xs) : SqL K H a xs := by
  rcases h with h | h
  · exact .inl h.2
  · rcases h with h | h
    · exact (rd_none h).elim
    · exact .inr h
theorem XT.sq {K : Fg} {H : Hp} {O : OS} {a : Addr} {xs : List V} (h : XT K H O a xs) : SqT K H a xs := by
  rcases h with h | h
  · exact .inl h.2
  · rcases h with h | h
    · exact (rd_none h).elim
    · exact .inr h

/-- a dict's key as data -/
def keyD : Key → D
  | .inl n => .int n
  | .inr x => .str x
theorem zip_key : ∀ (ks : List Key) (ds : List D), (ks.zip ds).map (fun p => (keyD p.1, p.2)) = (ks.map keyD).zip ds
  | [], _ => rfl
  | _ :: _, [] => rfl
  | k :: ks, d :: ds => by rw [List.zip_cons_cons, List.map_cons, List.map_cons, List.zip_cons_cons, zip_key ks ds]
/-- an exception object at a, of the class at C, its dict at d -/
def exH (a C : Addr) (d : Option Addr) : HO := .ext fun h => ∃ (oe : Obj), h.get? a = some oe ∧ oe.cls = .ref C ∧ oe.dict = d ∧ ∃ vs, oe.data = .fields vs
/-- an exception as data: a dict that no dict of Python is -/
def exD (c : Str) (ns : List Str) (ds : List D) : D := .dict ((.none, .str c) :: (ns.map PyData.str).zip ds)
/-- a dict's own pairs -/
def noX : List (D × D) → Bool
  | (.none, _) :: _ => false
  | _ => true
theorem noX_key {ks : List Key} {ds : List D} : noX ((ks.map keyD).zip ds) = true := by
  cases ks with
  | nil => rfl
  | cons k ks =>
    cases ds with
    | nil => rfl
    | cons d ds => cases k <;> rfl
mutual
inductive RD (K : Fg) (H : Hp) (O : OS) : V → D → Prop
  | non : RD K H O .non .none
  | bl (b : Bool) : RD K H O (.bl b) (.bool b)
  | int (i : Int) : RD K H O (.int i) (.int i)
  | str (x : Str) : RD K H O (.str x) (.str x)
  | lst {a : Addr} {xs : List V} {ds : List D} : ¬ O a → H a = some (.lst xs) → RDs K H O xs ds → RD K H O (.ref a) (.list ds)
  | tup {a : Addr} {xs : List V} {ds : List D} : XT K H O a xs → RDs K H O xs ds → RD K H O (.ref a) (.tuple ds)
  | dct {a : Addr} {ks : List Key} {vs : List V} {ds : List D} : ¬ O a → H a = some (.dK (ks.zip vs)) → ks.length = vs.length → RDs K H O vs ds → RD K H O (.ref a) (.dict ((ks.map keyD).zip ds))
  | exn {a C : Addr} {c : Str} {d : Option Addr} {ns : List Str} {vs : List V} {ds : List D} : ¬ O a → H a = some (exH a C d) → PySem.W.nsIn K mainGlobals c = some (some (.ref C)) → (ns = [] → d = none) → (ns ≠ [] → ∃ dd, d = some dd ∧ ¬ O dd ∧ H dd = some (.xd (ns.zip vs))) →
      ns.length = vs.length → RDs K H O vs ds → RD K H O (.ref a) (exD c ns ds)
inductive RDs (K : Fg) (H : Hp) (O : OS) : List V → List D → Prop
  | nil : RDs K H O [] []
  | cons {v : V} {vs : List V} {d : D} {ds : List D} : RD K H O v d → RDs K H O vs ds → RDs K H O (v :: vs) (d :: ds)
end

/-- what stood apart from O stands apart from O' -/
def Sta (H : Hp) (O : OS) (H' : Hp) (O' : OS) : Prop := ∀ a o, H a = some o → ¬ O a → H' a = some o ∧ ¬ O' a

section
variable {K : Fg} {H H' : Hp} {O O' : OS}
theorem XL.sta (s : Sta H O H' O') {a : Addr} {xs : List V} (h : XL K H O a xs) : XL K H' O' a xs := by
  rcases h with ⟨n, h | ⟨o, h⟩⟩ | h
  · exact .inl ⟨(s _ _ h n).2, .inl (s _ _ h n).1⟩
  · exact .inl ⟨(s _ _ h n).2, .inr ⟨o, (s _ _ h n).1⟩⟩
  · exact .inr h
theorem XT.sta (s : Sta H O H' O') {a : Addr} {xs : List V} (h : XT K H O a xs) : XT K H' O' a xs := by
  rcases h with ⟨n, h | ⟨o, h⟩⟩ | h
  · exact .inl ⟨(s _ _ h n).2, .inl (s _ _ h n).1⟩
  · exact .inl ⟨(s _ _ h n).2, .inr ⟨o, (s _ _ h n).1⟩⟩
  · exact .inr h
theorem RD.sta' (s : Sta H O H' O') {d : D} {v : V} (h : RD K H O v d) : RD K H' O' v d :=
  RD.rec (motive_1 := fun v d _ => RD K H' O' v d) (motive_2 := fun vs ds _ => RDs K H' O' vs ds) .non (fun b => .bl b) (fun i => .int i) (fun x => .str x)
    (fun h0 h1 _ h2 => .lst (s _ _ h1 h0).2 (s _ _ h1 h0).1 h2) (fun h1 _ h2 => .tup (h1.sta s) h2) (fun h0 h1 h2 _ h3 => .dct (s _ _ h1 h0).2 (s _ _ h1 h0).1 h2 h3)
    (fun h0 h1 h2 h6 h4 h5 _ h3 => .exn (s _ _ h1 h0).2 (s _ _ h1 h0).1 h2 h6 (fun n => have ⟨dd, e1, e2, e3⟩ := h4 n; ⟨dd, e1, (s _ _ e3 e2).2, (s _ _ e3 e2).1⟩) h5 h3) .nil (fun _ _ h1 h2 => .cons h1 h2) h
theorem RDs.sta' (s : Sta H O H' O') {ds : List D} {vs : List V} (h : RDs K H O vs ds) : RDs K H' O' vs ds :=
  RDs.rec (motive_1 := fun v d _ => RD K H' O' v d) (motive_2 := fun vs ds _ => RDs K H' O' vs ds) .non (fun b => .bl b) (fun i => .int i) (fun x => .str x)
    (fun h0 h1 _ h2 => .lst (s _ _ h1 h0).2 (s _ _ h1 h0).1 h2) (fun h1 _ h2 => .tup (h1.sta s) h2) (fun h0 h1 h2 _ h3 => .dct (s _ _ h1 h0).2 (s _ _ h1 h0).1 h2 h3)
    (fun h0 h1 h2 h6 h4 h5 _ h3 => .exn (s _ _ h1 h0).2 (s _ _ h1 h0).1 h2 h6 (fun n => have ⟨dd, e1, e2, e3⟩ := h4 n; ⟨dd, e1, (s _ _ e3 e2).2, (s _ _ e3 e2).1⟩) h5 h3) .nil (fun _ _ h1 h2 => .cons h1 h2) h
theorem RD.sta (s : Sta H O H' O') (d : D) (v : V) (h : RD K H O v d) : RD K H' O' v d := RD.sta' s h
theorem RDs.sta (s : Sta H O H' O') (ds : List D) (vs : List V) (h : RDs K H O vs ds) : RDs K H' O' vs ds := RDs.sta' s h
mutual
theorem RD.dp : ∀ (d : D) (v : V), d.hasDict = false → RD K H O v d → Dp K H v d
  | .none, _, _, h => by cases h; exact .non
  | .bool b, _, _, h => by cases h; exact .bl b
  | .int i, _, _, h => by cases h; exact .int i
  | .str x, _, _, h => by cases h; exact .str x
  | .list ds, _, n, h => by
    cases h with
    | lst h0 h1 h2 => exact .lst (SqL.of h1) (RDs.dp ds _ (by simpa [PyData.hasDict] using n) h2)
  | .tuple ds, _, n, h => by
    cases h with
    | tup h1 h2 => exact .tup h1.sq (RDs.dp ds _ (by simpa [PyData.hasDict] using n) h2)
  | .dict _, _, n, _ => by simp [PyData.hasDict] at n
theorem RDs.dp : ∀ (ds : List D) (vs : List V), PyData.hasDictAll ds = false → RDs K H O vs ds → DpAll K H vs ds
  | [], _, _, h => by cases h; exact .nil
  | d :: ds, _, n, h => by
    have n' : d.hasDict = false ∧ PyData.hasDictAll ds = false := by simpa [PyData.hasDictAll] using n
    cases h with
    | cons h1 h2 => exact .cons (RD.dp d _ n'.1 h1) (RDs.dp ds _ n'.2 h2)
end
theorem RDs.len : ∀ {vs : List V} {ds : List D}, RDs K H O vs ds → vs.length = ds.length
  | _, [], h => by cases h; rfl
  | _, d :: ds, h => by
    cases h with
    | cons h1 h2 => simp [RDs.len h2]
theorem RDs.app {vs ws : List V} {ds es : List D} (h : RDs K H O vs ds) (k : RDs K H O ws es) : RDs K H O (vs ++ ws) (ds ++ es) := by
  induction vs generalizing ds with
  | nil => cases h; exact k
  | cons v vs ih => cases h with | cons h1 h2 => exact .cons h1 (ih h2)
theorem RDs.get {vs : List V} {ds : List D} (h : RDs K H O vs ds) {i : Nat} {d : D} (e : ds[i]? = some d) : ∃ v, vs[i]? = some v ∧ RD K H O v d := by
  induction vs generalizing ds i with
  | nil => cases h; simp at e
  | cons v vs ih =>
    cases h with
    | cons h1 h2 =>
      cases i with
      | zero => simp at e; subst e; exact ⟨v, by simp, h1⟩
      | succ i => simp at e; obtain ⟨w, a, b⟩ := ih h2 e; exact ⟨w, by simpa using a, b⟩
theorem RDs.take {vs : List V} {ds : List D} (h : RDs K H O vs ds) (n : Nat) : RDs K H O (vs.take n) (ds.take n) := by
  induction vs generalizing ds n with
  | nil => cases h; simpa using RDs.nil
  | cons v vs ih =>
    cases h with
    | cons h1 h2 =>
      cases n with
      | zero => simpa using RDs.nil
      | succ n => simpa using RDs.cons h1 (ih h2 n)
theorem RDs.drop {vs : List V} {ds : List D} (h : RDs K H O vs ds) (n : Nat) : RDs K H O (vs.drop n) (ds.drop n) := by
  induction vs generalizing ds n with
  | nil => cases h; simpa using RDs.nil
  | cons v vs ih =>
    cases n with
    | zero => simpa using h
    | succ n =>
      cases h with
      | cons h1 h2 => simpa using ih h2 n
theorem RDs.set {vs : List V} {ds : List D} (h : RDs K H O vs ds) {v : V} {d : D} (r : RD K H O v d) (n : Nat) : RDs K H O (vs.set n v) (ds.set n d) := by
  induction vs generalizing ds n with
  | nil => cases h; simpa using RDs.nil
  | cons w vs ih =>
    cases h with
    | cons h1 h2 =>
      cases n with
      | zero => simpa using RDs.cons r h2
      | succ n => simpa using RDs.cons h1 (ih h2 n)
theorem RDs.rep {v : V} {d : D} (r : RD K H O v d) (n : Nat) : RDs K H O (List.replicate n v) (List.replicate n d) := by
  induction n with
  | zero => exact .nil
  | succ n ih => exact .cons r ih
end

/-! ### what is owned -/
/-- the content of an owned object: a list; a dict by ints and texts; an instance, its attributes data or owned -/
inductive OC where
  | lst (xs : List D)
  | dct (kvs : List (Key × D))
  | ins (c : Str) (fs : List (Str × Sum D OC))

mutual
inductive RC (K : Fg) (H : Hp) (O : OS) : Addr → OC → List Addr → Prop
  | lst {a : Addr} {vs : List V} {xs : List D} : H a = some (.lst vs) → RDs K H O vs xs → RC K H O a (.lst xs) [a]
  | dct {a : Addr} {ks : List Key} {vs : List V} {ds : List D} : H a = some (.dK (ks.zip vs)) → ks.length = vs.length → RDs K H O vs ds → RC K H O a (.dct (ks.zip ds)) [a]
  | ins {a C dx : Addr} {c : Str} {fs : List (Str × V)} {gs : List (Str × Sum D OC)} {fp : List Addr} : PySem.W.nsIn K mainGlobals c = some (some (.ref C)) → H a = some (.ins C dx fs) → RFs K H O fs gs fp → RC K H O a (.ins c gs) (a :: fp)
inductive RFs (K : Fg) (H : Hp) (O : OS) : List (Str × V) → List (Str × Sum D OC) → List Addr → Prop
  | nil : RFs K H O [] [] []
  | dat {x : Str} {v : V} {d : D} {fs : List (Str × V)} {gs : List (Str × Sum D OC)} {fp : List Addr} : RD K H O v d → RFs K H O fs gs fp → RFs K H O ((x, v) :: fs) ((x, .inl d) :: gs) fp
  | sub {x : Str} {a : Addr} {c : OC} {fs : List (Str × V)} {gs : List (Str × Sum D OC)} {fp fq : List Addr} : RC K H O a c fq → RFs K H O fs gs fp → RFs K H O ((x, .ref a) :: fs) ((x, .inr c) :: gs) (fq ++ fp)
end

section
variable {K : Fg} {H H' : Hp} {O O' : OS}
mutual
theorem RC.noTbl {a : Addr} {c : OC} {fp : List Addr} (h : RC K H O a c fp) : ∀ b ∈ fp, ∀ ps, H b ≠ some (.tbl ps) := by
  cases h with
  | lst h1 h2 => exact fun b hb ps z => by rw [List.mem_singleton.mp hb, h1] at z; cases z
  | dct h1 h3 h4 => exact fun b hb ps z => by rw [List.mem_singleton.mp hb, h1] at z; cases z
  | ins h0 h1 h2 =>
    intro b hb ps z
    rcases List.mem_cons.mp hb with e | e
    · rw [e, h1] at z
      cases z
    · exact RFs.noTbl h2 b e ps z
theorem RFs.noTbl {fs : List (Str × V)} {gs : List (Str × Sum D OC)} {fp : List Addr} (h : RFs K H O fs gs fp) : ∀ b ∈ fp, ∀ ps, H b ≠ some (.tbl ps) := by
  cases h with
  | nil => exact fun b hb => nomatch hb
  | dat h1 h2 => exact RFs.noTbl h2
  | sub h1 h2 => exact fun b hb ps z => (List.mem_append.mp hb).elim (fun e => RC.noTbl h1 b e ps z) (fun e => RFs.noTbl h2 b e ps z)
end
mutual
theorem RC.sta (s : Sta H O H' O') {a : Addr} {c : OC} {fp : List Addr} (h : RC K H O a c fp) (k : ∀ b ∈ fp, H' b = H b) : RC K H' O' a c fp := by
  cases h with
  | lst h1 h2 => exact .lst (by rw [k a (by simp)]; exact h1) (RDs.sta s _ _ h2)
  | dct h1 h3 h4 => exact .dct (by rw [k a (by simp)]; exact h1) h3 (RDs.sta s _ _ h4)
  | ins h0 h1 h2 => exact .ins h0 (by rw [k a (by simp)]; exact h1) (RFs.sta s h2 fun b hb => k b (by simp [hb]))
theorem RFs.sta (s : Sta H O H' O') {fs : List (Str × V)} {gs : List (Str × Sum D OC)} {fp : List Addr} (h : RFs K H O fs gs fp) (k : ∀ b ∈ fp, H' b = H b) : RFs K H' O' fs gs fp := by
  cases h with
  | nil => exact .nil
  | dat h1 h2 => exact .dat (RD.sta s _ _ h1) (RFs.sta s h2 k)
  | sub h1 h2 => exact .sub (RC.sta s h1 fun b hb => k b (by simp [hb])) (RFs.sta s h2 fun b hb => k b (by simp [hb]))
end
end
end ML
/-! ML2: slots as plain values, the state of an activation, how it moves on. -/
namespace ML
open PySem L2

/-- what a slot holds: nothing known; data; a bare value; an owned object (none: made in this activation; some j: handed in as the j-th argument) -/
inductive SV where
  | un
  | dat (d : D)
  | raw (v : V)
  | frz (xs : List D)
  | own (tag : Option Nat) (c : OC)
abbrev Env := List SV

/-- an activation: the heap at its start, what is owned then, what of that it may change, the arguments' addresses -/
structure Act where
  H0 : Hp
  O0 : OS
  M0 : OS
  pars : List Addr
  tb : List (Addr × Str)

def Tagged (A : Act) : Option Nat → Addr → List Addr → Prop
  | none, a, _ => ¬ A.O0 a
  | some j, a, _ => A.pars[j]? = some a

inductive RS (K : Fg) (A : Act) (H : Hp) (O : OS) : V → SV → List Addr → Prop
  | dat {v : V} {d : D} : RD K H O v d → RS K A H O v (.dat d) []
  | raw (v : V) : RS K A H O v (.raw v) []
  | frz {a : Addr} {vs : List V} {xs : List D} : XL K H O a vs → RDs K H O vs xs → RS K A H O (.ref a) (.frz xs) []
  | own {a : Addr} {c : OC} {fq : List Addr} {tag : Option Nat} : RC K H O a c fq → Tagged A tag a fq → RS K A H O (.ref a) (.own tag c) fq

inductive RE (K : Fg) (A : Act) (H : Hp) (O : OS) : L2.St → Env → List Addr → Prop
  | nil : RE K A H O [] [] []
  | un {x : Option V} {σ : L2.St} {env : Env} {fp : List Addr} : RE K A H O σ env fp → RE K A H O (x :: σ) (.un :: env) fp
  | cons {v : V} {s : SV} {σ : L2.St} {env : Env} {fq fp : List Addr} : RS K A H O v s fq → RE K A H O σ env fp → RE K A H O (some v :: σ) (s :: env) (fq ++ fp)

def Oc (H : Hp) (O : OS) : Prop := ∀ b, O b → H b ≠ none
def Grow (H H' : Hp) : Prop := ∀ a o, H a = some o → H' a = some o
def Tr (T : List Addr) (H : Hp) (O : OS) (H' : Hp) (O' : OS) : Prop := Sta H O H' O' ∧ ∀ a ∈ T, H' a = H a ∧ O' a

/-- the table of a code object, at a: the code objects that it tells bear the name q -/
def CodO (c : Addr) (q : Str) : HO := .ext fun h => ∃ (oc : Obj) (vs : Array Value) (t : Tok), h.get? c = some oc ∧ oc.data = .fields vs ∧ vs[1]? = some (.str q t)
def TabO (H : Hp) (O : OS) (a : Addr) (q : Str) : Prop := ∃ ps : Array Value, H a = some (.tbl ps) ∧ TriplesOk ps.toList ∧ ∀ (pos : Pos) (cv : Value), codeAmong pos ps.toList = some cv → ∃ c, cv = .ref c ∧ H c = some (CodO c q) ∧ ¬ O c
theorem TabO.sta {H H' : Hp} {O O' : OS} {a : Addr} {q : Str} (t : TabO H O a q) (s : Sta H O H' O') (e : H' a = H a) : TabO H' O' a q := by
  obtain ⟨ps, h1, h2, h3⟩ := t
  refine ⟨ps, e.trans h1, h2, fun pos cv hc => ?_⟩
  obtain ⟨c, e1, e2, e3⟩ := h3 pos cv hc
  exact ⟨c, e1, (s c _ e2 e3).1, (s c _ e2 e3).2⟩
theorem TabO.ne {H : Hp} {O : OS} {a b : Addr} {q : Str} (t : TabO H O a q) (h : H b = none) : a ≠ b := by
  obtain ⟨ps, h1, _⟩ := t
  exact ne_of_none h1 h
/-- the state: the slots (their own objects at fp, apart from one another and from the temporaries' T), what is owned, the activation's frame -/
structure Sit (K : Fg) (A : Act) (σ : L2.St) (H : Hp) (O : OS) (env : Env) (T : List Addr) : Prop where
  slots : ∃ fp, RE K A H O σ env fp ∧ (fp ++ T).Nodup ∧ ∀ b ∈ fp ++ T, O b ∧ (A.M0 b ∨ A.H0 b = none)
  oc : Oc H O
  base : ∀ a o, A.H0 a = some o → ¬ A.M0 a → H a = some o
  o0 : ∀ a, A.O0 a → O a
  on : ∀ a, O a → A.O0 a ∨ A.H0 a = none
  m0 : ∀ a, A.M0 a → A.O0 a
  tabs : ∀ p ∈ A.tb, TabO H O p.1 p.2 ∧ A.M0 p.1 ∧ p.1 ∉ T

section
variable {K : Fg} {A : Act} {H H' H1 : Hp} {O O' O1 : OS} {σ : L2.St} {env : Env} {T T' fp fq : List Addr}
theorem Sta.refl : Sta H O H O := fun _ _ h n => ⟨h, n⟩
theorem Sta.trans (a : Sta H O H1 O1) (b : Sta H1 O1 H' O') : Sta H O H' O' := fun x o h n => b x o (a x o h n).1 (a x o h n).2
theorem Tr.refl (t : ∀ a ∈ T, O a) : Tr T H O H O := ⟨.refl, fun a h => ⟨rfl, t a h⟩⟩
theorem Tr.trans (a : Tr T H O H1 O1) (b : Tr T H1 O1 H' O') : Tr T H O H' O' :=
  ⟨a.1.trans b.1, fun x h => ⟨(b.2 x h).1.trans (a.2 x h).1, (b.2 x h).2⟩⟩
theorem Tr.less (a : Tr T H O H' O') (s : ∀ b ∈ T', b ∈ T) : Tr T' H O H' O' := ⟨a.1, fun x h => a.2 x (s x h)⟩
theorem Grow.refl : Grow H H := fun _ _ h => h
theorem Grow.trans (a : Grow H H1) (b : Grow H1 H') : Grow H H' := fun x o h => b x o (a x o h)
theorem Grow.new {p : Addr} {o : HO} (h : H p = none) : Grow H (upd H p o) := fun a u e => by
  rw [upd_ne (ne_of_none e h)]
  exact e
theorem Grow.sta (g : Grow H H') : Sta H O H' O := fun a o h n => ⟨g a o h, n⟩
theorem Grow.eq (g : Grow H H') (c : Oc H O) {b : Addr} (h : O b) : H' b = H b := by
  cases e : H b with
  | none => exact absurd e (c b h)
  | some o => exact g b o e
theorem Oc.grow (c : Oc H O) (g : Grow H H') : Oc H' O := fun b h => by
  rw [g.eq c h]
  exact c b h
theorem Oc.not (c : Oc H O) {p : Addr} (h : H p = none) : ¬ O p := fun q => c p q h
theorem Grow.tr (g : Grow H H') (c : Oc H O) (t : ∀ a ∈ T, O a) : Tr T H O H' O := ⟨g.sta, fun a h => ⟨g.eq c (t a h), t a h⟩⟩
theorem RD.grow (g : Grow H H') {v : V} {d : D} (h : RD K H O v d) : RD K H' O v d := RD.sta g.sta d v h
theorem RDs.grow (g : Grow H H') {vs : List V} {ds : List D} (h : RDs K H O vs ds) : RDs K H' O vs ds := RDs.sta g.sta ds vs h

theorem RS.sta (s : Sta H O H' O') {v : V} {sv : SV} (h : RS K A H O v sv fq) (k : ∀ b ∈ fq, H' b = H b) : RS K A H' O' v sv fq := by
  cases h with
  | dat h => exact .dat (RD.sta s _ _ h)
  | raw => exact .raw _
  | frz h z => exact .frz (h.sta s) (RDs.sta s _ _ z)
  | own h t => exact .own (h.sta s k) t
theorem RE.sta (s : Sta H O H' O') (h : RE K A H O σ env fp) (k : ∀ b ∈ fp, H' b = H b) : RE K A H' O' σ env fp := by
  induction h with
  | nil => exact .nil
  | un _ ih => exact .un (ih k)
  | cons h1 _ ih => exact .cons (h1.sta s fun b hb => k b (by simp [hb])) (ih fun b hb => k b (by simp [hb]))
theorem RE.len (h : RE K A H O σ env fp) : σ.length = env.length := by
  induction h with
  | nil => rfl
  | un _ ih => simp [ih]
  | cons _ _ ih => simp [ih]
/-- a slot, and what stands in its place -/
theorem RE.at (h : RE K A H O σ env fp) {i : Nat} {s : SV} (e : env[i]? = some s) (n : s ≠ .un) :
    ∃ v fq l r, σ[i]? = some (some v) ∧ RS K A H O v s fq ∧ fp = l ++ fq ++ r ∧
      (∀ x, RE K A H O (σ.set i x) (env.set i .un) (l ++ r)) ∧ RE K A H O σ (env.set i .un) (l ++ r) ∧
      ∀ v' s' fq', RS K A H O v' s' fq' → RE K A H O (σ.set i (some v')) (env.set i s') (l ++ fq' ++ r) := by
  induction h generalizing i with
  | nil => simp at e
  | un h1 ih =>
    cases i with
    | zero => simp at e; exact absurd e.symm n
    | succ i =>
      simp at e
      obtain ⟨v, fq, l, r, a, b, c, d, d', f⟩ := ih e
      exact ⟨v, fq, l, r, by simpa using a, b, c, fun x => by simpa using RE.un (d x), by simpa using RE.un d', fun v' s' fq' q => by simpa using RE.un (f v' s' fq' q)⟩
  | @cons v0 s0 σ0 env0 fq0 fp0 h0 h1 ih =>
    cases i with
    | zero =>
      simp at e
      subst e
      refine ⟨v0, fq0, [], fp0, by simp, h0, by simp, fun x => by simpa using RE.un h1, by simpa using RE.un h1, fun v' s' fq' q => ?_⟩
      simpa using RE.cons q h1
    | succ i =>
      simp at e
      obtain ⟨v, fq, l, r, a, b, c, d, d', f⟩ := ih e
      refine ⟨v, fq, fq0 ++ l, r, by simpa using a, b, by simp [c], fun x => ?_, ?_, fun v' s' fq' q => ?_⟩
      · simpa using RE.cons h0 (d x)
      · simpa using RE.cons h0 d'
      · simpa using RE.cons h0 (f v' s' fq' q)
/-- a slot is stored -/
theorem RE.put (h : RE K A H O σ env fp) {i : Nat} (hi : i < env.length) {v : V} {s : SV} (r : RS K A H O v s fq) :
    ∃ l l', fp = l ++ l' ++ (fp.drop (l.length + l'.length)) ∧ RE K A H O (σ.set i (some v)) (env.set i s) (l ++ fq ++ fp.drop (l.length + l'.length)) := by
  induction h generalizing i with
  | nil => simp at hi
  | un h1 ih =>
    cases i with
    | zero => exact ⟨[], [], by simp, by simpa using RE.cons r h1⟩
    | succ i =>
      obtain ⟨l, l', a, b⟩ := ih (by simpa using hi)
      exact ⟨l, l', a, by simpa using RE.un b⟩
  | @cons v0 s0 σ0 env0 fq0 fp0 h0 h1 ih =>
    cases i with
    | zero => exact ⟨[], fq0, by simp, by simpa using RE.cons r h1⟩
    | succ i =>
      obtain ⟨l, l', a, b⟩ := ih (by simpa using hi)
      refine ⟨fq0 ++ l, l', ?_, ?_⟩
      · have e : (fq0 ++ fp0).drop ((fq0 ++ l).length + l'.length) = fp0.drop (l.length + l'.length) := by
          rw [List.length_append, Nat.add_assoc, List.drop_append]
          simp
        rw [e]
        rw [List.append_assoc fq0, List.append_assoc fq0]
        rw [← a]
      · have e : (fq0 ++ fp0).drop ((fq0 ++ l).length + l'.length) = fp0.drop (l.length + l'.length) := by
          rw [List.length_append, Nat.add_assoc, List.drop_append]
          simp
        rw [e]
        simpa using RE.cons h0 b

theorem Sit.grow (S : Sit K A σ H O env T) (g : Grow H H') : Sit K A σ H' O env T := by
  obtain ⟨fp, r, nd, ow⟩ := S.slots
  refine ⟨⟨fp, r.sta g.sta fun b hb => g.eq S.oc (ow b (by simp [hb])).1, nd, ow⟩, S.oc.grow g, fun a o h n => g a o (S.base a o h n), S.o0, S.on, S.m0, fun p hp => ⟨(S.tabs p hp).1.sta g.sta (g.eq S.oc (S.o0 _ (S.m0 _ (S.tabs p hp).2.1))), (S.tabs p hp).2⟩⟩
theorem Sit.tr0 (S : Sit K A σ H O env T) : ∀ a ∈ T, O a := by
  obtain ⟨fp, r, nd, ow⟩ := S.slots
  exact fun a h => (ow a (by simp [h])).1
theorem Sit.gtr (S : Sit K A σ H O env T) (g : Grow H H') : Tr T H O H' O := g.tr S.oc S.tr0
theorem Sit.rtr (S : Sit K A σ H O env T) : Tr T H O H O := .refl S.tr0
theorem Sit.len (S : Sit K A σ H O env T) : σ.length = env.length := by
  obtain ⟨fp, r, nd, ow⟩ := S.slots
  exact r.len
theorem Sit.dat (S : Sit K A σ H O env T) {i : Nat} {d : D} (e : env[i]? = some (.dat d)) : ∃ v, σ[i]? = some (some v) ∧ RD K H O v d := by
  obtain ⟨fp, r, nd, ow⟩ := S.slots
  obtain ⟨v, fq, l, r', a, b, _⟩ := r.at e (by simp)
  cases b with
  | dat b => exact ⟨v, a, b⟩
theorem Sit.rawv (S : Sit K A σ H O env T) {i : Nat} {w : V} (e : env[i]? = some (.raw w)) : σ[i]? = some (some w) := by
  obtain ⟨fp, r, nd, ow⟩ := S.slots
  obtain ⟨v, fq, l, r', a, b, _⟩ := r.at e (by simp)
  cases b with
  | raw => exact a
theorem Sit.ownv (S : Sit K A σ H O env T) {i : Nat} {tag : Option Nat} {c : OC} (e : env[i]? = some (.own tag c)) :
    ∃ a fq, σ[i]? = some (some (.ref a)) ∧ RC K H O a c fq ∧ ∀ b ∈ fq, O b := by
  obtain ⟨fp, r, nd, ow⟩ := S.slots
  obtain ⟨v, fq, l, r', a, b, e', _⟩ := r.at e (by simp)
  cases b with
  | own b t => exact ⟨_, fq, a, b, fun x hx => (ow x (by simp [e', hx])).1⟩
/-- temporaries forgotten -/
theorem Sit.less (S : Sit K A σ H O env (fq ++ T)) : Sit K A σ H O env T := by
  obtain ⟨fp, r, nd, ow⟩ := S.slots
  refine ⟨⟨fp, r, ?_, fun b hb => ow b ?_⟩, S.oc, S.base, S.o0, S.on, S.m0, fun p hp => ⟨(S.tabs p hp).1, (S.tabs p hp).2.1, fun z => (S.tabs p hp).2.2 (List.mem_append_right _ z)⟩⟩
  · rw [← List.append_assoc] at nd
    have : (fp ++ T).Sublist (fp ++ fq ++ T) := by
      exact List.Sublist.append (List.sublist_append_left fp fq) (List.Sublist.refl T)
    exact nd.sublist this
  · rcases List.mem_append.mp hb with h | h <;> simp [h]
/-- a temporary is stored in a slot -/
theorem Sit.put (S : Sit K A σ H O env (fq ++ T)) {i : Nat} (hi : i < env.length) {v : V} {s : SV} (r : RS K A H O v s fq) : Sit K A (σ.set i (some v)) H O (env.set i s) T := by
  obtain ⟨fp, q, nd, ow⟩ := S.slots
  obtain ⟨l, l', e, q'⟩ := q.put hi r
  generalize fp.drop (l.length + l'.length) = r' at e q'
  subst e
  refine ⟨⟨_, q', ?_, fun b hb => ow b ?_⟩, S.oc, S.base, S.o0, S.on, S.m0, fun p hp => ⟨(S.tabs p hp).1, (S.tabs p hp).2.1, fun z => (S.tabs p hp).2.2 (List.mem_append_right _ z)⟩⟩
  · have h1 : (l ++ r' ++ (fq ++ T)).Nodup := nd.sublist (by
      refine List.Sublist.append ?_ (List.Sublist.refl _)
      rw [List.append_assoc]
      exact List.Sublist.append (List.Sublist.refl l) (List.sublist_append_right l' r'))
    refine (List.Perm.nodup_iff ?_).mp h1
    rw [List.append_assoc, List.append_assoc l fq r', List.append_assoc l]
    refine List.Perm.append_left l ?_
    rw [← List.append_assoc]
    exact List.Perm.append_right T List.perm_append_comm
  · simp only [List.mem_append] at hb ⊢
    rcases hb with ((h | h) | h) | h <;> simp [h]
/-- a slot's own object is taken out -/
theorem Sit.out (S : Sit K A σ H O env T) {i : Nat} {tag : Option Nat} {c : OC} (e : env[i]? = some (.own tag c)) :
    ∃ a fq, σ[i]? = some (some (.ref a)) ∧ RS K A H O (.ref a) (.own tag c) fq ∧ Sit K A σ H O (env.set i .un) (fq ++ T) := by
  obtain ⟨fp, r, nd, ow⟩ := S.slots
  obtain ⟨v, fq, l, r', a, b, e', _, d, _⟩ := r.at e (by simp)
  cases b with
  | own b t =>
    refine ⟨_, fq, a, .own b t, ⟨_, d, ?_, fun b hb => ow b ?_⟩, S.oc, S.base, S.o0, S.on, S.m0, fun p hp => ⟨(S.tabs p hp).1, (S.tabs p hp).2.1, fun z => ?_⟩⟩
    · subst e'
      refine (List.Perm.nodup_iff ?_).mp nd
      rw [List.append_assoc, List.append_assoc, List.append_assoc]
      refine List.Perm.append_left l ?_
      rw [← List.append_assoc, ← List.append_assoc]
      exact List.Perm.append_right T List.perm_append_comm
    · subst e'
      simp only [List.mem_append] at hb ⊢
      rcases hb with (h | h) | h | h <;> simp [h]
    · rcases List.mem_append.mp z with z | z
      · obtain ⟨ps, h1, _⟩ := (S.tabs p hp).1
        exact b.noTbl _ z ps h1
      · exact (S.tabs p hp).2.2 z
/-- a temporary of this activation is owned no more: data -/
theorem Sit.freeze (S : Sit K A σ H O env (fq ++ T)) {v : V} {xs : List D} (r : RS K A H O v (.own none (.lst xs)) fq) :
    ∃ O', Sit K A σ H O' env T ∧ RD K H O' v (.list xs) ∧ Tr T H O H O' := by
  obtain ⟨fp, q, nd, ow⟩ := S.slots
  cases r with
  | @own a c fq0 tag rc t =>
    cases rc with
    | @lst a vs _ h1 h2 =>
      have sta : Sta H O H (fun b => O b ∧ b ≠ a) := fun b o h n => ⟨h, fun z => n z.1⟩
      have na : ∀ b ∈ fp ++ T, b ≠ a := fun b hb z => by
        subst z
        have := List.nodup_append.mp nd
        rcases List.mem_append.mp hb with h | h
        · exact this.2.2 b h b (by simp) rfl
        · have h2 := this.2.1
          simp at h2
          exact h2.1 h
      refine ⟨fun b => O b ∧ b ≠ a, ⟨⟨fp, q.sta sta fun _ _ => rfl, ?_, fun b hb => ?_⟩, fun b hb => S.oc b hb.1, S.base, fun b hb => ⟨S.o0 b hb, fun z => ?_⟩, fun b hb => S.on b hb.1, S.m0, fun p hp => ⟨(S.tabs p hp).1.sta sta rfl, (S.tabs p hp).2.1, fun z => (S.tabs p hp).2.2 (List.mem_append_right _ z)⟩⟩, ?_, sta, fun b hb => ⟨rfl, ?_, na b (by simp [hb])⟩⟩
      · refine nd.sublist (List.Sublist.append (List.Sublist.refl _) ?_)
        exact List.sublist_append_right _ _
      · have z := ow b (by rcases List.mem_append.mp hb with h | h <;> simp [h])
        exact ⟨⟨z.1, na b hb⟩, z.2⟩
      · subst z
        exact t hb
      · exact .lst (fun z => z.2 rfl) h1 (RDs.sta sta _ _ h2)
      · exact (ow b (by simp [hb])).1
/-- a new list, owned -/
theorem Sit.adopt' (S : Sit K A σ H O env T) {p : Addr} {vs : List V} {xs : List D} (hp : H p = none) (r : RDs K H O vs xs) :
    Sit K A σ (upd H p (.lst vs)) (fun b => O b ∨ b = p) env ([p] ++ T) ∧ RS K A (upd H p (.lst vs)) (fun b => O b ∨ b = p) (.ref p) (.own none (.lst xs)) [p] ∧ Tr T H O (upd H p (.lst vs)) (fun b => O b ∨ b = p) := by
  obtain ⟨fp, q, nd, ow⟩ := S.slots
  have np : ∀ b ∈ fp ++ T, b ≠ p := fun b hb z => S.oc b (ow b hb).1 (z ▸ hp)
  have sta : Sta H O (upd H p (.lst vs)) (fun b => O b ∨ b = p) := fun b o h n => ⟨Grow.new hp b o h, fun z => by
    rcases z with z | z
    · exact n z
    · rw [z, hp] at h; cases h⟩
  have hu : ∀ b, b ≠ p → (upd H p (.lst vs)) b = H b := fun b z => upd_ne z
  have np0 : ¬ A.O0 p := fun z => S.oc p (S.o0 p z) hp
  have h0 : A.H0 p = none := by
    cases e : A.H0 p with
    | none => rfl
    | some o =>
      have nm : ¬ A.M0 p := fun z => np0 (S.m0 p z)
      rw [S.base p o e nm] at hp
      cases hp
  refine ⟨⟨⟨fp, q.sta sta fun b hb => hu b (np b (by simp [hb])), ?_, fun b hb => ?_⟩, fun b hb => ?_, fun a o h n => ?_, fun b hb => .inl (S.o0 b hb), fun b hb => ?_, S.m0, fun t ht => ⟨(S.tabs t ht).1.sta sta (hu _ ((S.tabs t ht).1.ne hp)), (S.tabs t ht).2.1, fun z => (List.mem_append.mp z).elim (fun z => (S.tabs t ht).1.ne hp (List.mem_singleton.mp z)) (S.tabs t ht).2.2⟩⟩, .own (.lst upd_same (RDs.sta sta _ _ r)) np0, sta, fun b hb => ⟨hu b (np b (by simp [hb])), .inl (ow b (by simp [hb])).1⟩⟩
  · refine (List.perm_middle (l₁ := fp) (l₂ := T) (a := p)).nodup_iff.mpr ?_
    exact List.nodup_cons.mpr ⟨fun z => np p z rfl, nd⟩
  · by_cases z : b = p
    · exact ⟨.inr z, .inr (z ▸ h0)⟩
    · have hb' : b ∈ fp ++ T := by
        simp only [List.mem_append, List.mem_singleton] at hb ⊢
        rcases hb with h | h | h
        · exact .inl h
        · exact absurd h z
        · exact .inr h
      exact ⟨.inl (ow b hb').1, (ow b hb').2⟩
  · rcases hb with h | h
    · rw [hu b (fun z => S.oc b h (z ▸ hp))]
      exact S.oc b h
    · rw [h, upd_same]
      simp
  · rw [hu a (fun z => by rw [z, h0] at h; cases h)]
    exact S.base a o h n
  · rcases hb with h | h
    · exact S.on b h
    · exact .inr (h ▸ h0)
theorem Sit.adopt (S : Sit K A σ H O env T) {p : Addr} {vs : List V} {xs : List D} (hp : H p = none) (r : RDs K H O vs xs) :
    ∃ O', Sit K A σ (upd H p (.lst vs)) O' env ([p] ++ T) ∧ RS K A (upd H p (.lst vs)) O' (.ref p) (.own none (.lst xs)) [p] ∧ Tr T H O (upd H p (.lst vs)) O' := ⟨_, S.adopt' hp r⟩
/-- a temporary's object is written -/
theorem Sit.updT (S : Sit K A σ H O env T) {a : Addr} {o : HO} (ha : a ∈ T) : Sit K A σ (upd H a o) O env T := by
  obtain ⟨fp, q, nd, ow⟩ := S.slots
  have hO := ow a (by simp [ha])
  have sta : Sta H O (upd H a o) O := fun b u h n => by
    have nb : b ≠ a := fun z => n (by rw [z]; exact hO.1)
    rw [upd_ne nb]
    exact ⟨h, n⟩
  refine ⟨⟨fp, q.sta sta fun b hb => upd_ne fun z => ?_, nd, ow⟩, fun b hb => ?_, fun b u h n => ?_, S.o0, S.on, S.m0, fun t ht => ⟨(S.tabs t ht).1.sta sta (upd_ne fun z => (S.tabs t ht).2.2 (by rw [z]; exact ha)), (S.tabs t ht).2⟩⟩
  · exact (List.nodup_append.mp nd).2.2 b hb a ha z
  · by_cases z : b = a
    · rw [z, upd_same]
      simp
    · rw [upd_ne z]
      exact S.oc b hb
  · have nb : b ≠ a := fun z => by
      rcases hO.2 with m | m
      · exact n (by rw [z]; exact m)
      · rw [z, m] at h
        cases h
    rw [upd_ne nb]
    exact S.base b u h n
theorem upd_tr {a : Addr} {o : HO} (hO : O a) (t : ∀ b ∈ T, O b ∧ b ≠ a) : Tr T H O (upd H a o) O :=
  ⟨fun b u h n => by
    have nb : b ≠ a := fun z => n (by rw [z]; exact hO)
    rw [upd_ne nb]
    exact ⟨h, n⟩, fun b hb => ⟨upd_ne (t b hb).2, (t b hb).1⟩⟩
theorem set_self {α : Type} {l : List α} {i : Nat} {x : α} (h : l[i]? = some x) : l.set i x = l := by
  apply List.ext_getElem?
  intro j
  by_cases e : i = j
  · subst e
    obtain ⟨hl, _⟩ := List.getElem?_eq_some_iff.mp h
    rw [List.getElem?_set_self hl, h]
  · rw [List.getElem?_set_ne e]
theorem set_set' {α : Type} (l : List α) (i : Nat) (x y : α) : (l.set i x).set i y = l.set i y := by simp
/-- a slot's own list is changed -/
theorem Sit.mutL (S : Sit K A σ H O env T) {i : Nat} {tag : Option Nat} {xs ys : List D} (e : env[i]? = some (.own tag (.lst xs))) :
    ∃ a vs, σ[i]? = some (some (.ref a)) ∧ H a = some (.lst vs) ∧ RDs K H O vs xs ∧ O a ∧
      ∀ ws, RDs K H O ws ys → Sit K A σ (upd H a (.lst ws)) O (env.set i (.own tag (.lst ys))) T ∧ Tr T H O (upd H a (.lst ws)) O := by
  obtain ⟨a, fq, h1, h2, h3⟩ := S.out e
  cases h2 with
  | own rc t =>
    cases rc with
    | @lst _ vs _ hH hr =>
      have hO : O a := h3.tr0 a (by simp)
      obtain ⟨fp, _, nd, ow⟩ := id h3.slots
      have tr : ∀ ws : List V, Tr T H O (upd H a (.lst ws)) O := fun ws => upd_tr hO fun b hb => ⟨(ow b (by simp [hb])).1, fun z => by
        have := (List.nodup_append.mp nd).2.1
        rw [z] at hb
        exact (List.nodup_cons.mp this).1 hb⟩
      refine ⟨a, vs, h1, hH, hr, hO, fun ws hw => ⟨?_, tr ws⟩⟩
      have s1 := h3.updT (o := .lst ws) (show a ∈ [a] ++ T by simp)
      have hi : i < (env.set i SV.un).length := by
        have := (List.getElem?_eq_some_iff.mp e).1
        simpa using this
      have s2 := s1.put hi (v := .ref a) (s := .own tag (.lst ys)) (.own (.lst upd_same (RDs.sta (tr ws).1 _ _ hw)) t)
      rw [set_set', set_self h1] at s2
      exact s2
end
end ML
/-! ML3: what a piece of a def comes to, as a plain function of the slots. -/
namespace ML
open PySem L2

/-- the table of modules stands in the ground -/
def SysB (base : Heap) : Prop := ∃ mm, base.Ns sysModules mm
abbrev Wish := Value → Option Addr → L2.St → Hp → Prop
/-- where a piece of text stands: its module's facts, its names by slot, its scope, the room for calls, the activation, what is wanted of an exception -/
structure Cxt where
  P : Program
  w : World
  K : Fg
  mg : Str → Option Value
  base : Heap
  N : List Str
  sc : Scope
  k : Nat
  A : Act
  W : Wish
  blk : Bool
  gq : Bool
/-- a def that makes lambdas: its code object, that one's table, the name that the lambdas bear -/
def LamW (X : Cx) (tb : List (Addr × Str)) : Prop := ∃ c P, X.env.code = .ref c ∧ PySem.W.CodeHd X.base c P ∧ X.base.BuiltinsAt X.mg P ∧ mainGlobals ≠ P ∧ (P, X.env.qual ++ "<lambda>") ∈ tb ∧ ∀ p ∈ tb, p.1 = P → p.2 = X.env.qual ++ "<lambda>"
structure Cxt.Ok (S : Cxt) (X : Cx) : Prop where
  p : X.prog = S.P
  w : X.w = S.w
  K : X.K = S.K
  mg : X.mg = S.mg
  base : X.base = S.base
  N : X.N = S.N
  sc : X.env.scope = S.sc
  calm : X.calm = true
  room : Room S.k X.A
  gd : S.gq = true → X.A.guards = some []
  pass : PassesOwn (model X.prog X.w) X.A X.env X.xe
  tk : Takes X S.W
  fn : S.blk = false → ∀ x, X.fn x = true
  kind : X.env.scope.kind = .function
  sysb : SysB X.base
  top : S.blk = false → X.stack = X.env :: X.outer ∧ X.env.frame = some X.env.locals ∧ X.ex = [] ∧ (S.A.tb ≠ [] → LamW X S.A.tb)

/-- an exception that is raised: the name of its class, its attributes -/
structure Exn where
  c : Str
  fs : List (Str × D)
def ExR (K : Fg) (mg : Str → Option Value) (H : Hp) (O : OS) (x : Exn) (cls : Value) (d : Option Addr) : Prop :=
  ∃ C vs, cls = .ref C ∧ PySem.W.nsIn K mainGlobals x.c = some (some (.ref C)) ∧ (x.fs = [] → d = none) ∧ (x.fs ≠ [] → ∃ dd, d = some dd ∧ ¬ O dd ∧ H dd = some (.xd ((x.fs.map (·.1)).zip vs))) ∧ x.fs.length = vs.length ∧ RDs K H O vs (x.fs.map (·.2))
/-- what a piece comes to -/
inductive Res (α : Type) where
  | ok (env : Env) (a : α)
  | err (env : Env) (x : Exn)
  | bad
/-- .. a statement -/
inductive Fl where
  | nx (env : Env)
  | rt (env : Env) (s : SV)
  | bk (env : Env)
  | ct (env : Env)
  | err (env : Env) (x : Exn)
  | bad

/-- a value that may be read at once: data, an owned list, the script -/
def RB (K : Fg) (H : Hp) (O : OS) (v : V) (d : D) : Prop :=
  RD K H O v d ∨ (∃ a vs ds, v = .ref a ∧ d = .list ds ∧ H a = some (.lst vs) ∧ RDs K H O vs ds) ∨
    ∃ (a : Addr) (ks : List Key) (vs : List V) (ds : List D), v = .ref a ∧ d = .dict ((ks.map keyD).zip ds) ∧ H a = some (.dK (ks.zip vs)) ∧ ks.length = vs.length ∧ RDs K H O vs ds

section
variable (S : Cxt)
def SemP (t : TE) (p : Env → Option D) : Prop := ∀ (σ : L2.St) (H : Hp) (O : OS) (env : Env) (T : List Addr) (d : D) (Q : VK), Sit S.K S.A σ H O env T → p env = some d →
  (∀ v H', Grow H H' → RD S.K H' O v d → Q v H') → t σ H Q
def SemB (t : TE) (p : Env → Option D) : Prop := ∀ (σ : L2.St) (H : Hp) (O : OS) (env : Env) (T : List Addr) (d : D) (Q : VK), Sit S.K S.A σ H O env T → p env = some d →
  (∀ v H', Grow H H' → RB S.K H' O v d → Q v H') → t σ H Q
def SemO (t : TE) (p : Env → Option (List D)) : Prop := ∀ (σ : L2.St) (H : Hp) (O : OS) (env : Env) (T : List Addr) (ds : List D) (Q : VK), Sit S.K S.A σ H O env T → p env = some ds →
  (∀ q vs H', Grow H H' → H' q = none → RDs S.K H' O vs ds → Q (.ref q) (upd H' q (.lst vs))) → t σ H Q
def SemTP (t : TT) (p : Env → Option Bool) : Prop := ∀ (σ : L2.St) (H : Hp) (O : OS) (env : Env) (T : List Addr) (b : Bool) (Q : Bool → Hp → Prop), Sit S.K S.A σ H O env T → p env = some b →
  (∀ H', Grow H H' → Q b H') → t σ H Q
def SemAP (t : TA) (p : Env → Option (List D)) : Prop := ∀ (σ : L2.St) (H : Hp) (O : OS) (env : Env) (T : List Addr) (ds : List D) (Q : List V → Hp → Prop), Sit S.K S.A σ H O env T → p env = some ds →
  (∀ vs H', Grow H H' → RDs S.K H' O vs ds → Q vs H') → t σ H Q

/-- a pure expression; one that may be an owned list; one that makes a new list; a pure test; pure arguments -/
def JP (e : Expr) (p : Env → Option D) : Prop := ∃ t, (∀ X, S.Ok X → PE X e t) ∧ SemP S t p
def JB (e : Expr) (p : Env → Option D) : Prop := ∃ t, (∀ X, S.Ok X → PE X e t) ∧ SemB S t p
def JO (e : Expr) (p : Env → Option (List D)) : Prop := ∃ t, (∀ X, S.Ok X → PE X e t) ∧ SemO S t p
def JTP (e : Expr) (p : Env → Option Bool) : Prop := ∃ t, (∀ X, S.Ok X → PT X e t) ∧ SemTP S t p
def JAP (es : List Expr) (p : Env → Option (List D)) : Prop := ∃ t, (∀ X, S.Ok X → PA X es t) ∧ SemAP S t p
end

section
variable {S : Cxt} {e e1 e2 : Expr} {es : List Expr} {p q : Env → Option D} {pos : Pos}
theorem JP.toB (h : JP S e p) : JB S e p := by
  obtain ⟨t, h1, h2⟩ := h
  exact ⟨t, h1, fun σ H O env T d Q s e k => h2 σ H O env T d Q s e fun v H' g r => k v H' g (.inl r)⟩
theorem JO.toP {po : Env → Option (List D)} (h : JO S e po) : JP S e (fun env => (po env).map .list) := by
  obtain ⟨t, h1, h2⟩ := h
  refine ⟨t, h1, fun σ H O env T d Q s e k => ?_⟩
  obtain ⟨ds, e1, e2⟩ := Option.map_eq_some_iff.mp e
  subst e2
  refine h2 σ H O env T ds Q s e1 fun q vs H' g n r => k _ _ (g.trans (Grow.new n)) ?_
  exact .lst ((s.oc.grow g).not n) upd_same (r.grow (Grow.new n))

/-! ### names and constants -/
def xDat (i : Nat) (env : Env) : Option D := match env[i]? with | some (.dat d) => some d | _ => none
def xBor (i : Nat) (env : Env) : Option D := match env[i]? with
  | some (.dat d) => some d
  | some (.own _ (.lst xs)) => some (.list xs)
  | some (.own _ (.dct kvs)) => some (.dict (kvs.map fun p => (keyD p.1, p.2)))
  | _ => none
def xC (d : D) (_ : Env) : Option D := some d
theorem jp_var (i : Nat) {x : Str} (hN : S.N[i]? = some x) (hv : Vis S.sc x) (hd : (x == ("__debug__" : Str)) = false) (hc : (x == ("__classdict__" : Str)) = false) : JP S (.Name x pos) (xDat i) := by
  refine ⟨tVar i, fun X o => pe_var (by rw [o.N]; exact hN) (by rw [o.sc]; exact hv) hd hc, fun σ H O env T d Q s e k => ?_⟩
  unfold xDat at e
  split at e
  · rename_i d' h
    cases e
    obtain ⟨v, h1, h2⟩ := s.dat h
    exact ⟨v, h1, k v H .refl h2⟩
  · cases e
theorem jb_var (i : Nat) {x : Str} (hN : S.N[i]? = some x) (hv : Vis S.sc x) (hd : (x == ("__debug__" : Str)) = false) (hc : (x == ("__classdict__" : Str)) = false) : JB S (.Name x pos) (xBor i) := by
  refine ⟨tVar i, fun X o => pe_var (by rw [o.N]; exact hN) (by rw [o.sc]; exact hv) hd hc, fun σ H O env T d Q s e k => ?_⟩
  unfold xBor at e
  split at e
  · rename_i d' h
    cases e
    obtain ⟨v, h1, h2⟩ := s.dat h
    exact ⟨v, h1, k v H .refl (.inl h2)⟩
  · rename_i h
    cases e
    obtain ⟨a, fq, h1, h2, _⟩ := s.ownv h
    cases h2 with
    | lst h3 h4 => exact ⟨_, h1, k _ H .refl (.inr (.inl ⟨_, _, _, rfl, rfl, h3, h4⟩))⟩
  · rename_i h
    cases e
    obtain ⟨a, fq, h1, h2, _⟩ := s.ownv h
    cases h2 with
    | dct h3 h4 h5 => exact ⟨_, h1, k _ H .refl (.inr (.inr ⟨_, _, _, _, rfl, by rw [zip_key], h3, h4, h5⟩))⟩
  · cases e
theorem jp_int {i : Int} {j} : JP S (.Constant (.int i) j pos) (xC (.int i)) := ⟨_, fun X o => pe_int, fun σ H O env T d Q s e k => by cases e; exact k _ H .refl (.int i)⟩
theorem jp_str {x : Str} {j} : JP S (.Constant (.str x) j pos) (xC (.str x)) := ⟨_, fun X o => pe_str, fun σ H O env T d Q s e k => by cases e; exact k _ H .refl (.str x)⟩
theorem jp_bl {b : Bool} {j} : JP S (.Constant (.bool b) j pos) (xC (.bool b)) := ⟨_, fun X o => pe_bl, fun σ H O env T d Q s e k => by cases e; exact k _ H .refl (.bl b)⟩
theorem jp_non {j} : JP S (.Constant .none j pos) (xC .none) := ⟨_, fun X o => pe_non, fun σ H O env T d Q s e k => by cases e; exact k _ H .refl .non⟩
/-! ### arguments -/
def aNil (_ : Env) : Option (List D) := some []
def aCons (p : Env → Option D) (q : Env → Option (List D)) (env : Env) : Option (List D) := (p env).bind fun d => (q env).map fun ds => d :: ds
theorem jap_nil : JAP S [] aNil := ⟨_, fun X o => pa_nil, fun σ H O env T d Q s e k => by cases e; exact k _ H .refl .nil⟩
theorem jap_cons {q : Env → Option (List D)} (ha : JP S e p) (hr : JAP S es q) (hs : ∀ env, starEach (e :: es) env = (false, eval e env) :: starEach es env := by intro _; rfl) : JAP S (e :: es) (aCons p q) := by
  obtain ⟨t, h1, h2⟩ := ha
  obtain ⟨u, h3, h4⟩ := hr
  refine ⟨tCons t u, fun X o => pa_cons (h1 X o) (h3 X o) (hs _), fun σ H O env T ds Q s e k => ?_⟩
  obtain ⟨d, e1, e2⟩ := Option.bind_eq_some_iff.mp e
  obtain ⟨ds', e3, e4⟩ := Option.map_eq_some_iff.mp e2
  subst e4
  refine h2 σ H O env T d _ s e1 fun v H1 g1 r1 => h4 σ H1 O env T ds' _ (s.grow g1) e3 fun vs H2 g2 r2 => k _ _ (g1.trans g2) (.cons (r1.grow g2) r2)
/-- borrowed arguments (they are read at once) -/
inductive F2 {α β : Type} (R : α → β → Prop) : List α → List β → Prop
  | nil : F2 R [] []
  | cons {a : α} {b : β} {l : List α} {m : List β} : R a b → F2 R l m → F2 R (a :: l) (b :: m)
def SemAB (S : Cxt) (t : TA) (p : Env → Option (List D)) : Prop := ∀ (σ : L2.St) (H : Hp) (O : OS) (env : Env) (T : List Addr) (ds : List D) (Q : List V → Hp → Prop), Sit S.K S.A σ H O env T → p env = some ds →
  (∀ vs H', Grow H H' → F2 (RB S.K H' O) vs ds → Q vs H') → t σ H Q
def JAB (S : Cxt) (es : List Expr) (p : Env → Option (List D)) : Prop := ∃ t, (∀ X, S.Ok X → PA X es t) ∧ SemAB S t p
theorem RB.grow {K : Fg} {H H' : Hp} {O : OS} {v : V} {d : D} (g : Grow H H') (h : RB K H O v d) : RB K H' O v d := by
  rcases h with h | ⟨a, vs, ds, e1, e2, h, r⟩ | ⟨a, ks, vs, ds, e1, e2, h, l, r⟩
  · exact .inl (h.grow g)
  · exact .inr (.inl ⟨a, vs, ds, e1, e2, g _ _ h, r.grow g⟩)
  · exact .inr (.inr ⟨a, ks, vs, ds, e1, e2, g _ _ h, l, r.grow g⟩)
theorem jab_nil : JAB S [] aNil := ⟨_, fun X o => pa_nil, fun σ H O env T d Q s e k => by cases e; exact k _ H .refl .nil⟩
theorem jab_cons {q : Env → Option (List D)} (ha : JB S e p) (hr : JAB S es q) (hs : ∀ env, starEach (e :: es) env = (false, eval e env) :: starEach es env := by intro _; rfl) : JAB S (e :: es) (aCons p q) := by
  obtain ⟨t, h1, h2⟩ := ha
  obtain ⟨u, h3, h4⟩ := hr
  refine ⟨tCons t u, fun X o => pa_cons (h1 X o) (h3 X o) (hs _), fun σ H O env T ds Q s e k => ?_⟩
  obtain ⟨d, e1, e2⟩ := Option.bind_eq_some_iff.mp e
  obtain ⟨ds', e3, e4⟩ := Option.map_eq_some_iff.mp e2
  subst e4
  refine h2 σ H O env T d _ s e1 fun v H1 g1 r1 => h4 σ H1 O env T ds' _ (s.grow g1) e3 fun vs H2 g2 r2 => k _ _ (g1.trans g2) (.cons (r1.grow g2) r2)

/-! ### displays -/
def xTup (q : Env → Option (List D)) (env : Env) : Option D := (q env).bind fun ds => if ds.length ≤ sizeLine then some (.tuple ds) else none
def oLst (q : Env → Option (List D)) (env : Env) : Option (List D) := (q env).bind fun ds => if ds.length ≤ sizeLine then some ds else none
theorem jp_tup {q : Env → Option (List D)} {c} (h : JAP S es q) : JP S (.Tuple es c pos) (xTup q) := by
  obtain ⟨t, h1, h2⟩ := h
  refine ⟨tTup t, fun X o => pe_tup (h1 X o), fun σ H O env T d Q s e k => ?_⟩
  obtain ⟨ds, e1, e2⟩ := Option.bind_eq_some_iff.mp e
  split at e2
  · cases e2
    refine h2 σ H O env T ds _ s e1 fun vs H1 g r => ⟨by rw [r.len]; assumption, fun p n => k _ _ (g.trans (Grow.new n)) ?_⟩
    exact .tup (.inl ⟨(s.oc.grow g).not n, .inl upd_same⟩) (r.grow (Grow.new n))
  · cases e2
theorem jo_lst {q : Env → Option (List D)} (h : JAP S es q) : JO S (.List es pos) (oLst q) := by
  obtain ⟨t, h1, h2⟩ := h
  refine ⟨tLst t, fun X o => pe_lst (h1 X o), fun σ H O env T d Q s e k => ?_⟩
  obtain ⟨ds, e1, e2⟩ := Option.bind_eq_some_iff.mp e
  split at e2
  · cases e2
    exact h2 σ H O env T _ _ s e1 fun vs H1 g r => ⟨by rw [r.len]; assumption, fun p n => k p vs H1 g n r⟩
  · cases e2

/-! ### operations on values -/
/-- r does f, at once, on what may be read -/
def OpV (K : Fg) (r : R2) (f : D → D → Option D) : Prop := ∀ (H : Hp) (O : OS) (x y : V) (d e z : D) (Q : VK), Oc H O → RB K H O x d → RB K H O y e → f d e = some z →
  (∀ v H', Grow H H' → RD K H' O v z → Q v H') → r x y H Q
def xOp (f : D → D → Option D) (p q : Env → Option D) (env : Env) : Option D := (p env).bind fun x => (q env).bind fun y => f x y
theorem jp_op {op : Operator} {r : Fg → R2} {f : D → D → Option D} (ho : ∀ X, S.Ok X → OpR X (binaryOp op) (r X.K)) (hf : OpV S.K (r S.K) f) (ha : JB S e1 p) (hb : JB S e2 q) : JP S (.BinOp e1 op e2 pos) (xOp f p q) := by
  obtain ⟨t, h1, h2⟩ := ha
  obtain ⟨u, h3, h4⟩ := hb
  refine ⟨tOp (r S.K) t u, fun X o => by have z := ho X o; rw [o.K] at z; exact pe_op z (h1 X o) (h3 X o), fun σ H O env T d Q s e k => ?_⟩
  obtain ⟨x, e1, e2⟩ := Option.bind_eq_some_iff.mp e
  obtain ⟨y, e3, e4⟩ := Option.bind_eq_some_iff.mp e2
  refine h2 σ H O env T x _ s e1 fun v H1 g1 r1 => h4 σ H1 O env T y _ (s.grow g1) e3 fun w H2 g2 r2 => ?_
  exact hf H2 O v w x y d Q (s.oc.grow (g1.trans g2)) (r1.grow g2) r2 e4 fun z H3 g3 r3 => k z H3 (g1.trans (g2.trans g3)) r3
theorem jp_cmp {op : CmpOp} {r : Fg → R2} {f : D → D → Option D} (ho : ∀ X, S.Ok X → OpR X (compareOp op) (r X.K)) (hf : OpV S.K (r S.K) f) (ha : JB S e1 p) (hb : JB S e2 q) (hm : behindInMarks op e2 = false) : JP S (.Compare e1 [op] [e2] pos) (xOp f p q) := by
  obtain ⟨t, h1, h2⟩ := ha
  obtain ⟨u, h3, h4⟩ := hb
  refine ⟨tOp (r S.K) t u, fun X o => by have z := ho X o; rw [o.K] at z; exact pe_cmpR z (h1 X o) (h3 X o) hm, fun σ H O env T d Q s e k => ?_⟩
  obtain ⟨x, e1, e2⟩ := Option.bind_eq_some_iff.mp e
  obtain ⟨y, e3, e4⟩ := Option.bind_eq_some_iff.mp e2
  refine h2 σ H O env T x _ s e1 fun v H1 g1 r1 => h4 σ H1 O env T y _ (s.grow g1) e3 fun w H2 g2 r2 => ?_
  exact hf H2 O v w x y d Q (s.oc.grow (g1.trans g2)) (r1.grow g2) r2 e4 fun z H3 g3 r3 => k z H3 (g1.trans (g2.trans g3)) r3
/-- an expression that is True or False, as a test -/
def tOf (p : Env → Option D) (env : Env) : Option Bool := (p env).bind fun d => match d with | .bool b => some b | _ => none
theorem jtp_val (h : JP S e p) (he : ∀ env whole, isTrue e env whole = (do let v ← whole; standAt e.pos; holding [v] (truthy v)) := by intro _ _; rfl) : JTP S e (tOf p) := by
  obtain ⟨t, h1, h2⟩ := h
  refine ⟨tB t, fun X o => pt_val (h1 X o) (he _), fun σ H O env T b Q s e k => ?_⟩
  obtain ⟨d, e1, e2⟩ := Option.bind_eq_some_iff.mp e
  cases d with
  | bool c =>
    cases e2
    exact h2 σ H O env T _ _ s e1 fun v H1 g r => by
      cases r
      exact ⟨_, rfl, k H1 g⟩
  | _ => cases e2
theorem jtp_cmp {op : CmpOp} {r : Fg → R2} {f : D → D → Option D} (ho : ∀ X, S.Ok X → OpR X (compareOp op) (r X.K)) (hf : OpV S.K (r S.K) f) (ha : JB S e1 p) (hb : JB S e2 q) (hm : behindInMarks op e2 = false) : JTP S (.Compare e1 [op] [e2] pos) (tOf (xOp f p q)) := by
  obtain ⟨t, h1, h2⟩ := ha
  obtain ⟨u, h3, h4⟩ := hb
  refine ⟨tTest (tOp (r S.K) t u), fun X o => by have z := ho X o; rw [o.K] at z; exact pt_cmpR z (h1 X o) (h3 X o) hm, fun σ H O env T b Q s e k => ?_⟩
  obtain ⟨d, e0, e5⟩ := Option.bind_eq_some_iff.mp e
  obtain ⟨x, e1, e2⟩ := Option.bind_eq_some_iff.mp e0
  obtain ⟨y, e3, e4⟩ := Option.bind_eq_some_iff.mp e2
  refine h2 σ H O env T x _ s e1 fun v H1 g1 r1 => h4 σ H1 O env T y _ (s.grow g1) e3 fun w H2 g2 r2 => ?_
  refine hf H2 O v w x y d _ (s.oc.grow (g1.trans g2)) (r1.grow g2) r2 e4 fun z H3 g3 r3 => ?_
  cases d with
  | bool c =>
    cases e5
    cases r3
    exact ⟨_, rfl, k H3 (g1.trans (g2.trans g3))⟩
  | _ => cases e5

/-! ### and, or, not; a if t else b -/
section
variable {u v : Env → Option Bool} {rest : List Expr}
def SemWP (S : Cxt) (e : Expr) (p : Env → Option Bool) : Prop := ∃ t, (∀ X, S.Ok X → PW X e t) ∧ SemTP S t p
def tAndP (u v : Env → Option Bool) (env : Env) : Option Bool := (u env).bind fun b => if b then v env else some false
def tOrP (u v : Env → Option Bool) (env : Env) : Option Bool := (u env).bind fun b => if b then some true else v env
def tNotP (u : Env → Option Bool) (env : Env) : Option Bool := (u env).map (!·)
theorem jw_or1 (h : JTP S e1 u) : SemWP S (.BoolOp .Or [e1] pos) u := by
  obtain ⟨t, h1, h2⟩ := h
  exact ⟨t, fun X o => pw_or1 (h1 X o), h2⟩
theorem jw_or (h : JTP S e1 u) (k : SemWP S (.BoolOp .Or (e2 :: rest) pos) v) : SemWP S (.BoolOp .Or (e1 :: e2 :: rest) pos) (tOrP u v) := by
  obtain ⟨t, h1, h2⟩ := h
  obtain ⟨t', h3, h4⟩ := k
  refine ⟨tOr t t', fun X o => pw_or (h1 X o) (h3 X o), fun σ H O env T b Q s e k => ?_⟩
  obtain ⟨c, e1, e2⟩ := Option.bind_eq_some_iff.mp e
  refine h2 σ H O env T c _ s e1 fun H1 g1 => ?_
  cases c with
  | false => exact h4 σ H1 O env T b Q (s.grow g1) e2 fun H2 g2 => k H2 (g1.trans g2)
  | true =>
    simp at e2
    subst e2
    exact k H1 g1
theorem jtp_w (h : SemWP S e u) : JTP S e u := by
  obtain ⟨t, h1, h2⟩ := h
  exact ⟨t, fun X o => (h1 X o).pt, h2⟩
theorem jtp_not (h : JTP S e1 u) : JTP S (.UnaryOp .Not e1 pos) (tNotP u) := by
  obtain ⟨t, h1, h2⟩ := h
  refine ⟨tNot t, fun X o => pt_not (h1 X o), fun σ H O env T b Q s e k => ?_⟩
  obtain ⟨c, e1, e2⟩ := Option.map_eq_some_iff.mp e
  subst e2
  exact h2 σ H O env T c _ s e1 fun H1 g1 => k H1 g1
def xIf (u : Env → Option Bool) (p q : Env → Option D) (env : Env) : Option D := (u env).bind fun b => if b then p env else q env
/-- and, or, not as values (bools) -/
def vOf (u : Env → Option Bool) (env : Env) : Option D := (u env).map .bool
def JV (S : Cxt) (e : Expr) (u : Env → Option Bool) : Prop := JP S e (vOf u)
theorem JV.toP (h : JV S e u) : JP S e (vOf u) := h
end
end
end ML
/-! ML4: operations on plain values. -/
namespace ML
open PySem L2
section
variable {X : Cx}
def rOr (r r' : R2) : R2 := fun x y H Q => r x y H Q ∨ r' x y H Q
theorem OpR_or {f : Value → Value → Sem Value} {r r' : R2} (h : OpR X f r) (h' : OpR X f r') : OpR X f (rOr r r') := by
  intro pins s σ H x y v u Q I rx ry q
  rcases q with q | q
  · exact h pins s σ H x y v u Q I rx ry q
  · exact h' pins s σ H x y v u Q I rx ry q
end
section
variable {K : Fg} {H : Hp} {O : OS}
theorem RB.int {v : V} {i : Int} (h : RB K H O v (.int i)) : v = .int i := by
  rcases h with h | ⟨_, _, _, _, e, _⟩ | ⟨_, _, _, _, _, e, _⟩
  · cases h; rfl
  · cases e
  · cases e
theorem RB.bool {v : V} {b : Bool} (h : RB K H O v (.bool b)) : v = .bl b := by
  rcases h with h | ⟨_, _, _, _, e, _⟩ | ⟨_, _, _, _, _, e, _⟩
  · cases h; rfl
  · cases e
  · cases e
theorem RB.str {v : V} {x : Str} (h : RB K H O v (.str x)) : v = .str x := by
  rcases h with h | ⟨_, _, _, _, e, _⟩ | ⟨_, _, _, _, _, e, _⟩
  · cases h; rfl
  · cases e
  · cases e
theorem RB.non {v : V} (h : RB K H O v .none) : v = .non := by
  rcases h with h | ⟨_, _, _, _, e, _⟩ | ⟨_, _, _, _, _, e, _⟩
  · cases h; rfl
  · cases e
  · cases e
theorem RB.lst {v : V} {ds : List D} (h : RB K H O v (.list ds)) : ∃ a vs, v = .ref a ∧ H a = some (.lst vs) ∧ RDs K H O vs ds := by
  rcases h with h | ⟨a, vs, _, e1, e2, h1, h2⟩ | ⟨_, _, _, _, _, e, _⟩
  · cases h with
    | lst h0 h1 h2 => exact ⟨_, _, rfl, h1, h2⟩
  · cases e2
    exact ⟨a, vs, e1, h1, h2⟩
  · cases e
theorem RB.tup {v : V} {ds : List D} (h : RB K H O v (.tuple ds)) : RD K H O v (.tuple ds) ∧ ∃ a vs, v = .ref a ∧ SqT K H a vs ∧ RDs K H O vs ds := by
  rcases h with h | ⟨_, _, _, _, e, _⟩ | ⟨_, _, _, _, _, e, _⟩
  · refine ⟨h, ?_⟩
    cases h with
    | tup h1 h2 => exact ⟨_, _, rfl, h1.sq, h2⟩
  · cases e
  · cases e
theorem RB.dp {v : V} {d : D} (n : d.hasDict = false) (h : RB K H O v d) : Dp K H v d := by
  rcases h with h | ⟨a, vs, ds, e1, e2, h1, h2⟩ | ⟨_, _, _, _, _, e, _⟩
  · exact RD.dp d v n h
  · subst e1 e2
    exact .lst (SqL.of h1) (RDs.dp _ _ (by simpa [PyData.hasDict] using n) h2)
  · subst e
    simp [PyData.hasDict] at n
/-- a dict, owned or not -/
theorem RB.dct {v : V} {kvs : List (D × D)} (h : RB K H O v (.dict kvs)) (nx : noX kvs = true) : ∃ (a : Addr) (ks : List Key) (vs : List V) (ds : List D), v = .ref a ∧ kvs = (ks.map keyD).zip ds ∧ H a = some (.dK (ks.zip vs)) ∧ ks.length = vs.length ∧ RDs K H O vs ds := by
  rcases h with h | ⟨_, _, _, _, e, _⟩ | ⟨a, ks, vs, ds, e1, e2, h1, h2, h3⟩
  · generalize e : PyData.dict kvs = d at h
    cases h with
    | dct a b c f => cases e; exact ⟨_, _, _, _, rfl, rfl, b, c, f⟩
    | exn a b c f f' g i => cases e; cases nx
    | _ => cases e
  · cases e
  · cases e2
    exact ⟨a, ks, vs, ds, e1, rfl, h1, h2, h3⟩
theorem RD.newT {p : Addr} {vs : List V} {ds : List D} (c : Oc H O) (n : H p = none) (r : RDs K H O vs ds) : RD K (upd H p (.tup vs)) O (.ref p) (.tuple ds) :=
  .tup (.inl ⟨c.not n, .inl upd_same⟩) (r.grow (Grow.new n))
theorem RD.newL {p : Addr} {vs : List V} {ds : List D} (c : Oc H O) (n : H p = none) (r : RDs K H O vs ds) : RD K (upd H p (.lst vs)) O (.ref p) (.list ds) :=
  .lst (c.not n) upd_same (r.grow (Grow.new n))
end

/-! ### + - * // % ** -/
def rAdd (K : Fg) : R2 := rOr (rI0 fun i j => .int (i + j)) (rOr (fun x y H Q => ∃ i j, x = .str i ∧ y = .str j ∧ i.length + j.length ≤ sizeLine ∧ Q (.str (i ++ j)) H) (rOr (rCatA K) rCat))
def dAdd : D → D → Option D
  | .int i, .int j => some (.int (i + j))
  | .str x, .str y => if x.length + y.length ≤ sizeLine then some (.str (x ++ y)) else none
  | .tuple xs, .tuple ys => if xs.length + ys.length ≤ sizeLine then some (.tuple (xs ++ ys)) else none
  | .list xs, .list ys => if xs.length + ys.length ≤ sizeLine then some (.list (xs ++ ys)) else none
  | _, _ => none
theorem op_addK {X : Cx} : OpR X (binaryOp .Add) (rAdd X.K) := OpR_or op_add (OpR_or op_add_str (OpR_or op_catA op_cat))
theorem ov_add {K : Fg} : OpV K (rAdd K) dAdd := by
  intro H O x y d e z Q c rx ry hz k
  unfold dAdd at hz
  split at hz
  · cases hz
    cases rx.int
    cases ry.int
    exact .inl ⟨_, _, rfl, rfl, k _ H .refl (.int _)⟩
  · split at hz
    · rename_i hl
      cases hz
      cases rx.str
      cases ry.str
      exact .inr (.inl ⟨_, _, rfl, rfl, hl, k _ H .refl (.str _)⟩)
    · cases hz
  · split at hz
    · rename_i xs ys hl
      cases hz
      obtain ⟨r1, a, vs, e1, h1, g1⟩ := rx.tup
      obtain ⟨r2, b, ws, e2, h2, g2⟩ := ry.tup
      subst e1 e2
      have l1 := g1.len
      have l2 := g2.len
      refine .inr (.inr (.inl ⟨a, b, vs, ws, rfl, rfl, h1, h2, by omega, fun q => ?_, fun _ q => ?_, fun _ _ p n => ?_⟩))
      · subst q
        cases g1
        exact k _ H .refl r2
      · subst q
        cases g2
        rw [List.append_nil] at k
        exact k _ H .refl r1
      · exact k _ _ (Grow.new n) (.newT c n (g1.app g2))
    · cases hz
  · split at hz
    · rename_i xs ys hl
      cases hz
      obtain ⟨a, vs, e1, h1, g1⟩ := rx.lst
      obtain ⟨b, ws, e2, h2, g2⟩ := ry.lst
      subst e1 e2
      have l1 := g1.len
      have l2 := g2.len
      exact .inr (.inr (.inr ⟨a, b, vs, ws, rfl, rfl, h1, h2, by omega, fun p n => k _ _ (Grow.new n) (.newL c n (g1.app g2))⟩))
    · cases hz
  · cases hz
def dSub : D → D → Option D
  | .int i, .int j => some (.int (i - j))
  | _, _ => none
/-- small enough for a product -/
def mulOk (i j : Int) : Bool := decide (i.natAbs.log2 + j.natAbs.log2 < 1000000)
def rMul (_ : Fg) : R2 := rOr (rI CMulW fun i j => .int (i * j)) rRep
def dMul : D → D → Option D
  | .int i, .int j => if mulOk i j then some (.int (i * j)) else none
  | .list xs, .int k => if k.natAbs < 2 ^ 63 ∧ xs.length * k.toNat ≤ sizeLine then some (.list (List.replicate k.toNat xs).flatten) else none
  | _, _ => none
theorem op_mulK {X : Cx} : OpR X (binaryOp .Mult) (rMul X.K) := OpR_or op_mulW op_rep
theorem RDs.flat {K : Fg} {H : Hp} {O : OS} {vs : List V} {ds : List D} (h : RDs K H O vs ds) (n : Nat) : RDs K H O (List.replicate n vs).flatten (List.replicate n ds).flatten := by
  induction n with
  | zero => exact .nil
  | succ n ih =>
    rw [List.replicate_succ, List.replicate_succ, List.flatten_cons, List.flatten_cons]
    exact h.app ih
theorem ov_mul {K : Fg} : OpV K (rMul K) dMul := by
  intro H O x y d e z Q c rx ry hz k
  unfold dMul at hz
  split at hz
  · split at hz
    · rename_i hm
      cases hz
      cases rx.int
      cases ry.int
      exact .inl ⟨_, _, rfl, rfl, (by unfold CMulW; unfold mulOk at hm; exact of_decide_eq_true hm), k _ H .refl (.int _)⟩
    · cases hz
  · split at hz
    · rename_i xs j hm
      cases hz
      cases ry.int
      obtain ⟨a, vs, e1, h1, g1⟩ := rx.lst
      subst e1
      have l1 := g1.len
      exact .inr ⟨a, j, vs, rfl, rfl, h1, by omega, by omega, by rw [l1]; exact hm.2, fun p n => k _ _ (Grow.new n) (.newL c n (g1.flat _))⟩
    · cases hz
  · cases hz
def dDiv : D → D → Option D
  | .int i, .int j => if 0 < j ∧ j.natAbs.log2 < 9000 then some (.int (i / j)) else none
  | _, _ => none
theorem ov_div {K : Fg} : OpV K (rI CDivW fun i j => .int (i / j)) dDiv := by
  intro H O x y d e z Q c rx ry hz k
  unfold dDiv at hz
  split at hz
  · split at hz
    · rename_i hm
      cases hz
      cases rx.int
      cases ry.int
      exact ⟨_, _, rfl, rfl, hm, k _ H .refl (.int _)⟩
    · cases hz
  · cases hz
def dMod : D → D → Option D
  | .int i, .int j => if 0 < j then some (.int (i % j)) else none
  | _, _ => none
theorem ov_mod {K : Fg} : OpV K (rI (fun _ j => 0 < j) fun i j => .int (i % j)) dMod := by
  intro H O x y d e z Q c rx ry hz k
  unfold dMod at hz
  split at hz
  · split at hz
    · rename_i hm
      cases hz
      cases rx.int
      cases ry.int
      exact ⟨_, _, rfl, rfl, hm, k _ H .refl (.int _)⟩
    · cases hz
  · cases hz
def CPowB (i j : Int) : Prop := 0 ≤ j ∧ (Builtin.Int.intBits i : Int) * j ≤ 2 ^ 27
theorem op_powB {X : Cx} : OpR X (binaryOp .Pow) (rI CPowB fun i j => .int (i ^ j.toNat)) := opI fun _ _ _ _ _ _ _ hc q => PyProof.Rows.pow_int hc.1 hc.2 q
def dPow : D → D → Option D
  | .int i, .int j => if 0 ≤ j ∧ (Builtin.Int.intBits i : Int) * j ≤ 2 ^ 27 then some (.int (i ^ j.toNat)) else none
  | _, _ => none
theorem ov_pow {K : Fg} : OpV K (rI CPowB fun i j => .int (i ^ j.toNat)) dPow := by
  intro H O x y d e z Q c rx ry hz k
  unfold dPow at hz
  split at hz
  · split at hz
    · rename_i hm
      cases hz
      cases rx.int
      cases ry.int
      exact ⟨_, _, rfl, rfl, hm, k _ H .refl (.int _)⟩
    · cases hz
  · cases hz

/-! ### comparisons -/
def dCmp (f : Int → Int → Bool) : D → D → Option D
  | .int i, .int j => some (.bool (f i j))
  | _, _ => none
theorem ov_cmp {K : Fg} {f : Int → Int → Bool} : OpV K (rI0 fun i j => .bl (f i j)) (dCmp f) := by
  intro H O x y d e z Q c rx ry hz k
  unfold dCmp at hz
  split at hz
  · cases hz
    cases rx.int
    cases ry.int
    exact ⟨_, _, rfl, rfl, k _ H .refl (.bl _)⟩
  · cases hz
/-- two texts are compared as they are; else both must be shaped -/
def texts2 : D → D → Bool
  | .str _, .str _ => true
  | _, _ => false
def rEqX (K : Fg) : R2 := rOr rEq (rEqD K)
def rNeX (K : Fg) : R2 := rOr rNe (rNeD K)
theorem op_eqX {X : Cx} (hu : X.A.units + 64 < cLine) : OpR X (compareOp .Eq) (rEqX X.K) := OpR_or op_eq (op_eqD hu)
theorem op_neX {X : Cx} (hu : X.A.units + 64 < cLine) : OpR X (compareOp .NotEq) (rNeX X.K) := OpR_or op_ne (op_neD hu)
def dEq (d e : D) : Option D := if texts2 d e = true ∨ (SeqAt.shaped d = true ∧ SeqAt.shaped e = true) then some (.bool (PyData.eqv d e)) else none
def dNe (d e : D) : Option D := if texts2 d e = true ∨ (SeqAt.shaped d = true ∧ SeqAt.shaped e = true) then some (.bool (!PyData.eqv d e)) else none
theorem eqv_dec {x y : Str} : decide (V.str x = V.str y) = PyData.eqv (.str x) (.str y) := by
  show _ = (x == y)
  by_cases h : x = y
  · subst h
    simp
  · simp [h]
theorem ov_eq {K : Fg} : OpV K (rEqX K) dEq := by
  intro H O x y d e z Q c rx ry hz k
  unfold dEq at hz
  split at hz
  · rename_i hs
    cases hz
    rcases hs with hs | hs
    · unfold texts2 at hs
      split at hs
      · cases rx.str
        cases ry.str
        exact .inl ⟨rfl, by rw [eqv_dec]; exact k _ H .refl (.bl _)⟩
      · cases hs
    · exact .inr ⟨d, e, rx.dp (PyData.hasDict_of_canLay d (SeqAt.canLay_of_shaped hs.1)), ry.dp (PyData.hasDict_of_canLay e (SeqAt.canLay_of_shaped hs.2)), hs.1, hs.2, k _ H .refl (.bl _)⟩
  · cases hz
theorem ov_ne {K : Fg} : OpV K (rNeX K) dNe := by
  intro H O x y d e z Q c rx ry hz k
  unfold dNe at hz
  split at hz
  · rename_i hs
    cases hz
    rcases hs with hs | hs
    · unfold texts2 at hs
      split at hs
      · cases rx.str
        cases ry.str
        exact .inl ⟨rfl, by rw [eqv_dec]; exact k _ H .refl (.bl _)⟩
      · cases hs
    · exact .inr ⟨d, e, rx.dp (PyData.hasDict_of_canLay d (SeqAt.canLay_of_shaped hs.1)), ry.dp (PyData.hasDict_of_canLay e (SeqAt.canLay_of_shaped hs.2)), hs.1, hs.2, k _ H .refl (.bl _)⟩
  · cases hz
def isNone : D → Bool
  | .none => true
  | _ => false
def dNotN (d e : D) : Option D := match e with | .none => some (.bool (!isNone d)) | _ => none
section
variable {S : Cxt} {e1 e2 : Expr} {p q : Env → Option D} {pos : Pos}
abbrev xAdd := xOp dAdd
abbrev xDiv := xOp dDiv
abbrev xMod := xOp dMod
abbrev xPow := xOp dPow
abbrev xEq := xOp dEq
abbrev xNe := xOp dNe
abbrev xLt := xOp (dCmp fun i j => decide (i < j))
abbrev xGt := xOp (dCmp fun i j => decide (j < i))
abbrev xGe := xOp (dCmp fun i j => decide (j ≤ i))
theorem Cxt.Ok.units {X : Cx} (o : S.Ok X) : X.A.units + 64 < cLine := by
  have := o.room.un
  omega
theorem jp_add (ha : JB S e1 p) (hb : JB S e2 q) : JP S (.BinOp e1 .Add e2 pos) (xAdd p q) := jp_op (r := rAdd) (fun _ _ => op_addK) ov_add ha hb
theorem jp_div (ha : JB S e1 p) (hb : JB S e2 q) : JP S (.BinOp e1 .FloorDiv e2 pos) (xDiv p q) := jp_op (r := fun _ => rI CDivW fun i j => .int (i / j)) (fun _ _ => op_fdivW) ov_div ha hb
theorem jp_mod (ha : JB S e1 p) (hb : JB S e2 q) : JP S (.BinOp e1 .Mod e2 pos) (xMod p q) := jp_op (r := fun _ => rI (fun _ j => 0 < j) fun i j => .int (i % j)) (fun _ _ => op_mod) ov_mod ha hb
theorem jp_pow (ha : JB S e1 p) (hb : JB S e2 q) : JP S (.BinOp e1 .Pow e2 pos) (xPow p q) := jp_op (r := fun _ => rI CPowB fun i j => .int (i ^ j.toNat)) (fun _ _ => op_powB) ov_pow ha hb
theorem jp_ge (ha : JB S e1 p) (hb : JB S e2 q) : JP S (.Compare e1 [.GtE] [e2] pos) (xGe p q) := jp_cmp (r := fun _ => rI0 fun i j => .bl (decide (j ≤ i))) (fun _ _ => op_ge) ov_cmp ha hb (nomark _)
theorem jp_eq (ha : JB S e1 p) (hb : JB S e2 q) : JP S (.Compare e1 [.Eq] [e2] pos) (xEq p q) := jp_cmp (r := rEqX) (fun _ o => op_eqX o.units) ov_eq ha hb (nomark _)
theorem jp_ne (ha : JB S e1 p) (hb : JB S e2 q) : JP S (.Compare e1 [.NotEq] [e2] pos) (xNe p q) := jp_cmp (r := rNeX) (fun _ o => op_neX o.units) ov_ne ha hb (nomark _)
theorem jt_lt (ha : JB S e1 p) (hb : JB S e2 q) : JTP S (.Compare e1 [.Lt] [e2] pos) (tOf (xLt p q)) := jtp_cmp (r := fun _ => rI0 fun i j => .bl (decide (i < j))) (fun _ _ => op_lt) ov_cmp ha hb (nomark _)
theorem jt_gt (ha : JB S e1 p) (hb : JB S e2 q) : JTP S (.Compare e1 [.Gt] [e2] pos) (tOf (xGt p q)) := jtp_cmp (r := fun _ => rI0 fun i j => .bl (decide (j < i))) (fun _ _ => op_gt) ov_cmp ha hb (nomark _)
theorem jt_ne (ha : JB S e1 p) (hb : JB S e2 q) : JTP S (.Compare e1 [.NotEq] [e2] pos) (tOf (xNe p q)) := jtp_cmp (r := rNeX) (fun _ o => op_neX o.units) ov_ne ha hb (nomark _)
end
end ML
/-! ML5: subscripts, slices, calls of what is built in. -/
namespace ML
open PySem L2

/-! ### a[i] -/
def dIx : D → D → Option D
  | .list xs, .int i => atI xs i
  | .tuple xs, .int i => atI xs i
  | .str z, .int i => if z.length ≤ sizeLine then (atI z.cps.toList i).map fun c => .str ⟨#[c]⟩ else none
  | _, _ => none
theorem RDs.atI {K : Fg} {H : Hp} {O : OS} {vs : List V} {ds : List D} (h : RDs K H O vs ds) {i : Int} {d : D} (e : atI ds i = some d) : ∃ v, L2.atI vs i = some v ∧ RD K H O v d := by
  unfold L2.atI at e ⊢
  rw [h.len]
  obtain ⟨j, e1, e2⟩ := Option.bind_eq_some_iff.mp e
  rw [e1]
  exact h.get e2
theorem ov_ix {K : Fg} : OpV K (rIx K) dIx := by
  intro H O x y d e z Q c rx ry hz k
  unfold dIx at hz
  split at hz
  · cases ry.int
    obtain ⟨a, vs, e1, h1, g1⟩ := rx.lst
    subst e1
    obtain ⟨v, h2, h3⟩ := g1.atI hz
    exact .inl ⟨_, _, _, v, rfl, rfl, SqL.of h1, h2, k v H .refl h3⟩
  · cases ry.int
    obtain ⟨_, a, vs, e1, h1, g1⟩ := rx.tup
    subst e1
    obtain ⟨v, h2, h3⟩ := g1.atI hz
    exact .inr (.inl ⟨_, _, _, v, rfl, rfl, h1, h2, k v H .refl h3⟩)
  · split at hz
    · rename_i hl
      obtain ⟨cc, e1, e2⟩ := Option.map_eq_some_iff.mp hz
      subst e2
      cases ry.int
      cases rx.str
      exact .inr (.inr ⟨_, _, cc, rfl, rfl, hl, e1, k _ H .refl (.str _)⟩)
    · cases hz
  · cases hz
section
variable {S : Cxt} {e e1 e2 : Expr} {es : List Expr} {p q : Env → Option D} {pos : Pos}
abbrev xIx := xOp dIx
theorem jp_ix (ha : JB S e1 p) (hb : JB S e2 q) (hs : PlainIx e2 := by intro _ _; rfl) : JP S (.Subscript e1 e2 pos) (xIx p q) := by
  obtain ⟨t, h1, h2⟩ := ha
  obtain ⟨u, h3, h4⟩ := hb
  refine ⟨tOp (rIx S.K) t u, fun X o => by have z := pe_ix (pos := pos) (ix_seq (X := X)) (h1 X o) (h3 X o) hs; rw [o.K] at z; exact z, fun σ H O env T d Q s e k => ?_⟩
  obtain ⟨x, e1, e2⟩ := Option.bind_eq_some_iff.mp e
  obtain ⟨y, e3, e4⟩ := Option.bind_eq_some_iff.mp e2
  refine h2 σ H O env T x _ s e1 fun v H1 g1 r1 => h4 σ H1 O env T y _ (s.grow g1) e3 fun w H2 g2 r2 => ?_
  exact ov_ix H2 O v w x y d Q (s.oc.grow (g1.trans g2)) (r1.grow g2) r2 e4 fun z H3 g3 r3 => k z H3 (g1.trans (g2.trans g3)) r3

/-! ### a[i:j] -/
def cutD {α : Type} (xs : List α) (lo hi : Option Int) : List α := (xs.drop (HT.sIx xs.length 0 lo)).take (HT.sIx xs.length xs.length hi - HT.sIx xs.length 0 lo)
def dCut (d : D) (lo hi : Option Int) : Option D := match d with
  | .list xs => some (.list (cutD xs lo hi))
  | .tuple xs => some (.tuple (cutD xs lo hi))
  | .str z => if z.length ≤ sizeLine then some (.str (cutS z lo hi)) else none
  | _ => none
theorem RDs.cut {K : Fg} {H : Hp} {O : OS} {vs : List V} {ds : List D} (h : RDs K H O vs ds) (lo hi : Option Int) : RDs K H O (cutV vs lo hi) (cutD ds lo hi) := by
  unfold cutV cutD
  rw [h.len]
  exact (h.drop _).take _
def cNone (_ : Env) : Option (Option Int) := some none
def cSome (p : Env → Option D) (env : Env) : Option (Option Int) := (p env).bind fun d => match d with | .int i => some (some i) | _ => none
def xCut (p : Env → Option D) (lo hi : Env → Option (Option Int)) (env : Env) : Option D := (p env).bind fun d => (lo env).bind fun a => (hi env).bind fun b => dCut d a b
/-! ### calls of built-in functions and types -/
def CallV (K : Fg) (r : List V → Hp → VK → Prop) (f : List D → Option D) : Prop := ∀ (H : Hp) (O : OS) (xs : List V) (ds : List D) (z : D) (Q : VK), Oc H O → F2 (RB K H O) xs ds → f ds = some z →
  (∀ v H', Grow H H' → RD K H' O v z → Q v H') → r xs H Q
def xCall (f : List D → Option D) (q : Env → Option (List D)) (env : Env) : Option D := (q env).bind f
def oCall (f : List D → Option (List D)) (q : Env → Option (List D)) (env : Env) : Option (List D) := (q env).bind f
/-- a global name -/
abbrev Gn (S : Cxt) (x : Str) : Prop := S.sc.names.lookup x = some NameKind.globalImplicit
section
variable {x : Str} {pp : Pos} {qs : Env → Option (List D)} {r : Fg → List V → Hp → VK → Prop} {f : List D → Option D} {g : List D → Option (List D)}
theorem gl_of {X : Cx} (o : S.Ok X) (hg : Gn S x) : Gl X x := by
  show X.env.kindOf x = _
  unfold Env.kindOf
  rw [o.sc]
  exact hg
theorem jp_callB {id : String} (hc : ∀ X, S.Ok X → CallR X (.builtin id) (r X.K)) (hf : CallV S.K (r S.K) f) (hg : Gn S x) (hm : S.mg x = none) (hv : bootBuiltins x = some (.builtin id)) (ha : JAB S (e :: es) qs)
    (hn : x ≠ "__name__" := by decide) (hdb : (x == ("__debug__" : Str)) = false := by decide)
    (he : ∀ env, starEach (e :: es) env = (false, eval e env) :: starEach es env := by intro _; rfl) (hpl : ∀ env, (backTo pos (starEach es env)).any (·.1) = false := by intro _; rfl) : JP S (.Call (.Name x pp) (e :: es) [] pos) (xCall f qs) := by
  obtain ⟨t, h1, h2⟩ := ha
  refine ⟨tCB (r S.K) t, fun X o => by have z := hc X o; rw [o.K] at z; exact pe_callB z (gl_of o hg) (by rw [o.mg]; exact hm) hv (h1 X o) hn hdb (he _) (hpl _), fun σ H O env T d Q s e k => ?_⟩
  obtain ⟨ds, e1, e2⟩ := Option.bind_eq_some_iff.mp e
  refine h2 σ H O env T ds _ s e1 fun vs H1 g1 r1 => ?_
  exact hf H1 O vs ds d Q (s.oc.grow g1) r1 e2 fun v H2 g2 r2 => k v H2 (g1.trans g2) r2
theorem jp_callT {T : String} (hc : ∀ X, S.Ok X → CallR X (.type T) (r X.K)) (hf : CallV S.K (r S.K) f) (hg : Gn S x) (hm : S.mg x = none) (hv : bootBuiltins x = some (.type T)) (ha : JAB S (e :: es) qs)
    (hn : x ≠ "__name__" := by decide) (hdb : (x == ("__debug__" : Str)) = false := by decide)
    (he : ∀ env, starEach (e :: es) env = (false, eval e env) :: starEach es env := by intro _; rfl) (hpl : ∀ env, (backTo pos (starEach es env)).any (·.1) = false := by intro _; rfl) : JP S (.Call (.Name x pp) (e :: es) [] pos) (xCall f qs) := by
  obtain ⟨t, h1, h2⟩ := ha
  refine ⟨tCB (r S.K) t, fun X o => by have z := hc X o; rw [o.K] at z; exact pe_callTy z (gl_of o hg) (by rw [o.mg]; exact hm) hv (h1 X o) hn hdb (he _) (hpl _), fun σ H O env T d Q s e k => ?_⟩
  obtain ⟨ds, e1, e2⟩ := Option.bind_eq_some_iff.mp e
  refine h2 σ H O env T ds _ s e1 fun vs H1 g1 r1 => ?_
  exact hf H1 O vs ds d Q (s.oc.grow g1) r1 e2 fun v H2 g2 r2 => k v H2 (g1.trans g2) r2
end
theorem f2_1 {α β : Type} {R : α → β → Prop} {xs : List α} {b : β} (h : F2 R xs [b]) : ∃ a, xs = [a] ∧ R a b := by
  cases h with
  | cons h1 h2 => cases h2; exact ⟨_, rfl, h1⟩
theorem f2_2 {α β : Type} {R : α → β → Prop} {xs : List α} {b c : β} (h : F2 R xs [b, c]) : ∃ a a', xs = [a, a'] ∧ R a b ∧ R a' c := by
  cases h with
  | cons h1 h2 =>
    obtain ⟨a', e, h3⟩ := f2_1 h2
    subst e
    exact ⟨_, a', rfl, h1, h3⟩
/-- len -/
def fLen : List D → Option D
  | [.list xs] => some (.int xs.length)
  | [.tuple xs] => some (.int xs.length)
  | [.str z] => if z.length ≤ sizeLine then some (.int z.length) else none
  | _ => none
def fMax : List D → Option D
  | [.int i, .int j] => some (.int (if j > i then j else i))
  | _ => none
def fMin : List D → Option D
  | [.int i, .int j] => some (.int (if j < i then j else i))
  | _ => none
theorem cv_max {K : Fg} : CallV K (fun xs H Q => ∃ i j, xs = [.int i, .int j] ∧ Q (.int (if j > i then j else i)) H) fMax := by
  intro H O xs ds z Q c h hz k
  unfold fMax at hz
  split at hz
  · cases hz
    obtain ⟨a, a', e, h1, h2⟩ := f2_2 h
    cases h1.int
    cases h2.int
    subst e
    exact ⟨_, _, rfl, k _ H .refl (.int _)⟩
  · cases hz
theorem cv_min {K : Fg} : CallV K (fun xs H Q => ∃ i j, xs = [.int i, .int j] ∧ Q (.int (if j < i then j else i)) H) fMin := by
  intro H O xs ds z Q c h hz k
  unfold fMin at hz
  split at hz
  · cases hz
    obtain ⟨a, a', e, h1, h2⟩ := f2_2 h
    cases h1.int
    cases h2.int
    subst e
    exact ⟨_, _, rfl, k _ H .refl (.int _)⟩
  · cases hz
def fAbs : List D → Option D
  | [.int i] => some (.int (if i < 0 then -i else i))
  | _ => none
theorem cv_abs {K : Fg} : CallV K (fun xs H Q => ∃ i, xs = [.int i] ∧ Q (.int (if i < 0 then -i else i)) H) fAbs := by
  intro H O xs ds z Q c h hz k
  unfold fAbs at hz
  split at hz
  · cases hz
    obtain ⟨a, e, h1⟩ := f2_1 h
    cases h1.int
    subst e
    exact ⟨_, rfl, k _ H .refl (.int _)⟩
  · cases hz
/-- int of an int, of a bool -/
def fInt : List D → Option D
  | [.int i] => some (.int i)
  | [.bool b] => some (.int (if b then 1 else 0))
  | _ => none
theorem cv_int {K : Fg} : CallV K (fun xs H Q => (∃ i, xs = [.int i] ∧ Q (.int i) H) ∨ ∃ k, xs = [.bl k] ∧ Q (.int (if k then 1 else 0)) H) fInt := by
  intro H O xs ds z Q c h hz k
  unfold fInt at hz
  split at hz
  · cases hz
    obtain ⟨a, e, h1⟩ := f2_1 h
    cases h1.int
    subst e
    exact .inl ⟨_, rfl, k _ H .refl (.int _)⟩
  · cases hz
    obtain ⟨a, e, h1⟩ := f2_1 h
    cases h1.bool
    subst e
    exact .inr ⟨_, rfl, k _ H .refl (.int _)⟩
  · cases hz
/-- str of an int, of a text -/
def fStr : List D → Option D
  | [.int i] => if i.natAbs.log2 < 1920 then some (.str (toString i)) else none
  | [.str x] => some (.str x)
  | _ => none
def fTuple : List D → Option D
  | [.list xs] => some (.tuple xs)
  | [.tuple xs] => some (.tuple xs)
  | _ => none
def fList : List D → Option (List D)
  | [.list xs] => some xs
  | [.tuple xs] => some xs
  | _ => none
def fRepr : List D → Option D
  | [d] => if d.showable = true ∧ d.hasDict = false ∧ d.depth ≤ 100 ∧ d.shown.length ≤ sizeLine then some (.str d.shown) else none
  | _ => none
section
variable {qs : Env → Option (List D)} {pp : Pos}
theorem Cxt.Ok.units2 {X : Cx} (o : S.Ok X) : X.A.units + 200 < cLine := by
  have := o.room.un
  omega
theorem jp_abs (hg : Gn S "abs") (hm : S.mg "abs" = none) (ha : JAB S [e] qs) (he : ∀ env, starEach [e] env = [(false, eval e env)] := by intro _; rfl) : JP S (.Call (.Name "abs" pp) [e] [] pos) (xCall fAbs qs) :=
  jp_callB (r := fun _ xs H Q => ∃ i, xs = [.int i] ∧ Q (.int (if i < 0 then -i else i)) H) (fun _ _ => call_abs) cv_abs hg hm (by decide +kernel) ha (by decide) (by decide) he (fun _ => rfl)
theorem jp_max2 (hg : Gn S "max") (hm : S.mg "max" = none) (ha : JAB S [e1, e2] qs) (he : ∀ env, starEach [e1, e2] env = [(false, eval e1 env), (false, eval e2 env)] := by intro _; rfl) (he2 : ∀ env, starEach [e2] env = [(false, eval e2 env)] := by intro _; rfl) : JP S (.Call (.Name "max" pp) [e1, e2] [] pos) (xCall fMax qs) :=
  jp_callB (r := fun _ xs H Q => ∃ i j, xs = [.int i, .int j] ∧ Q (.int (if j > i then j else i)) H) (fun _ o => call_max2 o.calm) cv_max hg hm (by decide +kernel) ha (by decide) (by decide) (fun env => by rw [he, he2]) (fun env => by rw [he2]; rfl)
theorem jp_min2 (hg : Gn S "min") (hm : S.mg "min" = none) (ha : JAB S [e1, e2] qs) (he : ∀ env, starEach [e1, e2] env = [(false, eval e1 env), (false, eval e2 env)] := by intro _; rfl) (he2 : ∀ env, starEach [e2] env = [(false, eval e2 env)] := by intro _; rfl) : JP S (.Call (.Name "min" pp) [e1, e2] [] pos) (xCall fMin qs) :=
  jp_callB (r := fun _ xs H Q => ∃ i j, xs = [.int i, .int j] ∧ Q (.int (if j < i then j else i)) H) (fun _ o => call_min2 o.calm) cv_min hg hm (by decide +kernel) ha (by decide) (by decide) (fun env => by rw [he, he2]) (fun env => by rw [he2]; rfl)
theorem jp_intC (hg : Gn S "int") (hm : S.mg "int" = none) (ha : JAB S [e] qs) (he : ∀ env, starEach [e] env = [(false, eval e env)] := by intro _; rfl) : JP S (.Call (.Name "int" pp) [e] [] pos) (xCall fInt qs) :=
  jp_callT (r := fun _ xs H Q => (∃ i, xs = [.int i] ∧ Q (.int i) H) ∨ ∃ k, xs = [.bl k] ∧ Q (.int (if k then 1 else 0)) H) (fun _ _ => call_int1) cv_int hg hm (by decide +kernel) ha (by decide) (by decide) he (fun _ => rfl)
end
end
end ML
/-! ML6: pieces that change owned objects; defs and their calls. -/
namespace ML
open PySem L2

/-! ### outcomes -/
def Res.bind {α β : Type} : Res α → (Env → α → Res β) → Res β
  | .ok env a, k => k env a
  | .err env x, _ => .err env x
  | .bad, _ => .bad
def RPost (S : Cxt) {α : Type} (σ : L2.St) (H : Hp) (O : OS) (T : List Addr) (R : Hp → OS → Env → α → Prop) : Res α → Prop
  | .ok env a => ∀ H' O', Sit S.K S.A σ H' O' env T → Tr T H O H' O' → R H' O' env a
  | .err env x => ∀ cls dd H' O', Sit S.K S.A σ H' O' env T → Tr T H O H' O' → ExR S.K S.mg H' O' x cls dd → S.W cls dd σ H'
  | .bad => False
section
variable {S : Cxt} {σ : L2.St} {H : Hp} {O : OS} {T : List Addr}
theorem rp_tr {α : Type} {R : Hp → OS → Env → α → Prop} {r : Res α} {H1 : Hp} {O1 : OS} (h : RPost S σ H O T R r) (t : Tr T H O H1 O1) : RPost S σ H1 O1 T R r := by
  cases r with
  | ok env a => exact fun H' O' s t' => h H' O' s (t.trans t')
  | err env x => exact fun cls dd H' O' s t' => h cls dd H' O' s (t.trans t')
  | bad => exact h
theorem rp_bind {α β : Type} {R : Hp → OS → Env → β → Prop} {R1 : Hp → OS → Env → α → Prop} {r : Res α} {k : Env → α → Res β} (h : RPost S σ H O T R (r.bind k))
    (q : ∀ H1 O1 env a, r = .ok env a → Sit S.K S.A σ H1 O1 env T → Tr T H O H1 O1 → RPost S σ H1 O1 T R (k env a) → R1 H1 O1 env a) : RPost S σ H O T R1 r := by
  cases r with
  | ok env a => exact fun H1 O1 s t => q H1 O1 env a rfl s t (rp_tr h t)
  | err env x => exact h
  | bad => exact h
end

section
variable (S : Cxt)
/-- data comes back -/
def SemD (t : TE) (f : Env → Res D) : Prop := ∀ (σ : L2.St) (H : Hp) (O : OS) (env : Env) (T : List Addr) (Q : VK), Sit S.K S.A σ H O env T →
  RPost S σ H O T (fun H' O' _ d => ∀ v, RD S.K H' O' v d → Q v H') (f env) → t σ H Q
def SemT (t : TT) (f : Env → Res Bool) : Prop := ∀ (σ : L2.St) (H : Hp) (O : OS) (env : Env) (T : List Addr) (Q : Bool → Hp → Prop), Sit S.K S.A σ H O env T →
  RPost S σ H O T (fun H' _ _ b => Q b H') (f env) → t σ H Q
/-- any value comes back, its own objects at fq -/
def VPost (σ : L2.St) (H : Hp) (O : OS) (T : List Addr) (Q : VK) : Res SV → Prop
  | .ok env s => ∀ v H' O' fq, Sit S.K S.A σ H' O' env (fq ++ T) → RS S.K S.A H' O' v s fq → Tr T H O H' O' → Q v H'
  | .err env x => ∀ cls dd H' O', Sit S.K S.A σ H' O' env T → Tr T H O H' O' → ExR S.K S.mg H' O' x cls dd → S.W cls dd σ H'
  | .bad => False
def SemE (t : TE) (f : Env → Res SV) : Prop := ∀ (σ : L2.St) (H : Hp) (O : OS) (env : Env) (T : List Addr) (Q : VK), Sit S.K S.A σ H O env T → VPost S σ H O T Q (f env) → t σ H Q
def JD (e : Expr) (f : Env → Res D) : Prop := ∃ t, (∀ X, S.Ok X → PE X e t) ∧ SemD S t f
def JT (e : Expr) (f : Env → Res Bool) : Prop := ∃ t, (∀ X, S.Ok X → PT X e t) ∧ SemT S t f
def JE (e : Expr) (f : Env → Res SV) : Prop := ∃ t, (∀ X, S.Ok X → PE X e t) ∧ SemE S t f
end
/-- of a pure piece -/
def up {α : Type} (p : Env → Option α) (env : Env) : Res α := match p env with
  | some a => .ok env a
  | none => .bad
def upO (p : Env → Option (List D)) (env : Env) : Res SV := match p env with
  | some xs => .ok env (.own none (.lst xs))
  | none => .bad
def dRes : Res SV → Res D
  | .ok env (.dat d) => .ok env d
  | .ok env (.own none (.lst xs)) => .ok env (.list xs)
  | .err env x => .err env x
  | _ => .bad
def vRes : Res D → Res SV
  | .ok env d => .ok env (.dat d)
  | .err env x => .err env x
  | .bad => .bad
section
variable {S : Cxt} {e e1 e2 : Expr} {es : List Expr} {p q : Env → Option D} {pos : Pos}
theorem JP.toD (h : JP S e p) : JD S e (up p) := by
  obtain ⟨t, h1, h2⟩ := h
  refine ⟨t, h1, fun σ H O env T Q s r => ?_⟩
  unfold up at r
  cases e : p env with
  | none => simp only [e] at r; exact r.elim
  | some d =>
    simp only [e] at r
    exact h2 σ H O env T d Q s e fun v H' g k => r H' O (s.grow g) (s.gtr g) v k
theorem JTP.toT {u : Env → Option Bool} (h : JTP S e u) : JT S e (up u) := by
  obtain ⟨t, h1, h2⟩ := h
  refine ⟨t, h1, fun σ H O env T Q s r => ?_⟩
  unfold up at r
  cases e : u env with
  | none => simp only [e] at r; exact r.elim
  | some d =>
    simp only [e] at r
    exact h2 σ H O env T d Q s e fun H' g => r H' O (s.grow g) (s.gtr g)
theorem JD.toE {f : Env → Res D} (h : JD S e f) : JE S e (fun env => vRes (f env)) := by
  obtain ⟨t, h1, h2⟩ := h
  refine ⟨t, h1, fun σ H O env T Q s r => h2 σ H O env T Q s ?_⟩
  cases e : f env with
  | ok env' d =>
    simp only [e] at r
    exact fun H' O' s' t' v k => r v H' O' [] s' (.dat k) t'
  | err env' x => simp only [e] at r; exact r
  | bad => simp only [e] at r; exact r
theorem JO.toE {po : Env → Option (List D)} (h : JO S e po) : JE S e (upO po) := by
  obtain ⟨t, h1, h2⟩ := h
  refine ⟨t, h1, fun σ H O env T Q s r => ?_⟩
  unfold upO at r
  cases e : po env with
  | none => simp only [e] at r; exact r.elim
  | some ds =>
    simp only [e] at r
    refine h2 σ H O env T ds Q s e fun q vs H' g n k => ?_
    obtain ⟨O', s1, r1, t1⟩ := (s.grow g).adopt n k
    exact r _ _ O' [q] s1 r1 ((s.gtr g).trans t1)
theorem JE.toD {f : Env → Res SV} (h : JE S e f) : JD S e (fun env => dRes (f env)) := by
  obtain ⟨t, h1, h2⟩ := h
  refine ⟨t, h1, fun σ H O env T Q s r => h2 σ H O env T Q s ?_⟩
  cases e : f env with
  | ok env' sv =>
    simp only [e] at r
    cases sv with
    | dat d =>
      intro v H' O' fq s' k t'
      cases k with
      | dat k => exact r H' O' s' t' v k
    | own tag c =>
      cases tag with
      | none =>
        cases c with
        | lst xs =>
          intro v H' O' fq s' k t'
          obtain ⟨O2, s2, k2, t2⟩ := s'.freeze k
          exact r H' O2 s2 (t'.trans t2) v k2
        | dct _ => exact r.elim
        | ins _ _ => exact r.elim
      | some _ => exact r.elim
    | un => exact r.elim
    | raw _ => exact r.elim
    | frz _ => exact r.elim
  | err env' x => simp only [e] at r; exact r
  | bad => simp only [e] at r; exact r

/-! ### operations on pieces with effects -/
def yOp (f : D → D → Option D) (a b : Env → Res D) (env : Env) : Res D := (a env).bind fun env1 x => (b env1).bind fun env2 y => match f x y with | some z => .ok env2 z | none => .bad
section
variable {fa fb : Env → Res D}
def bRes : Res D → Res Bool
  | .ok env (.bool b) => .ok env b
  | .err env x => .err env x
  | _ => .bad
/-- and, or, not -/
def JW (S : Cxt) (e : Expr) (f : Env → Res Bool) : Prop := ∃ t, (∀ X, S.Ok X → PW X e t) ∧ SemT S t f
section
variable {u v : Env → Res Bool} {rest : List Expr}
def yAnd (u v : Env → Res Bool) (env : Env) : Res Bool := (u env).bind fun env1 b => if b then v env1 else .ok env1 false
def yOr (u v : Env → Res Bool) (env : Env) : Res Bool := (u env).bind fun env1 b => if b then .ok env1 true else v env1
def yNot (u : Env → Res Bool) (env : Env) : Res Bool := (u env).bind fun env1 b => .ok env1 (!b)
theorem JW.toT (h : JW S e u) : JT S e u := by
  obtain ⟨t, h1, h2⟩ := h
  exact ⟨t, fun X o => (h1 X o).pt, h2⟩
def yIf {α : Type} (u : Env → Res Bool) (a b : Env → Res α) (env : Env) : Res α := (u env).bind fun env1 c => if c then a env1 else b env1
end
/-! ### arguments and displays -/
def SemDA (S : Cxt) (t : TA) (f : Env → Res (List D)) : Prop := ∀ (σ : L2.St) (H : Hp) (O : OS) (env : Env) (T : List Addr) (Q : List V → Hp → Prop), Sit S.K S.A σ H O env T →
  RPost S σ H O T (fun H' O' _ ds => ∀ vs, RDs S.K H' O' vs ds → Q vs H') (f env) → t σ H Q
def JDA (S : Cxt) (es : List Expr) (f : Env → Res (List D)) : Prop := ∃ t, (∀ X, S.Ok X → PA X es t) ∧ SemDA S t f
def yNil (env : Env) : Res (List D) := .ok env []
def yCons (a : Env → Res D) (b : Env → Res (List D)) (env : Env) : Res (List D) := (a env).bind fun env1 x => (b env1).bind fun env2 ds => .ok env2 (x :: ds)
theorem jda_nil : JDA S [] yNil := ⟨_, fun X o => pa_nil, fun σ H O env T Q s k => k H O s s.rtr [] .nil⟩
theorem jda_cons {fr : Env → Res (List D)} (ha : JD S e fa) (hr : JDA S es fr) (hs : ∀ env, starEach (e :: es) env = (false, eval e env) :: starEach es env := by intro _; rfl) : JDA S (e :: es) (yCons fa fr) := by
  obtain ⟨t, h1, h2⟩ := ha
  obtain ⟨u, h3, h4⟩ := hr
  refine ⟨tCons t u, fun X o => pa_cons (h1 X o) (h3 X o) (hs _), fun σ H O env T Q s k => ?_⟩
  refine h2 σ H O env T _ s (rp_bind k fun H1 O1 env1 x _ s1 t1 k1 v rv => ?_)
  refine h4 σ H1 O1 env1 T _ s1 (rp_bind k1 fun H2 O2 env2 ds _ s2 t2 k2 vs rs => ?_)
  exact k2 H2 O2 s2 s2.rtr _ (.cons (RD.sta t2.1 _ _ rv) rs)
def sized (f : Env → Res (List D)) (env : Env) : Res (List D) := (f env).bind fun env1 ds => if ds.length ≤ sizeLine then .ok env1 ds else .bad
theorem je_lst {fr : Env → Res (List D)} (h : JDA S es fr) : JE S (.List es pos) (fun env => (sized fr env).bind fun env1 ds => .ok env1 (.own none (.lst ds))) := by
  obtain ⟨t, h1, h2⟩ := h
  refine ⟨tLst t, fun X o => pe_lst (h1 X o), fun σ H O env T Q s k => h2 σ H O env T _ s ?_⟩
  unfold sized at k
  cases e : fr env with
  | ok env1 ds =>
    simp only [e] at k
    by_cases hl : ds.length ≤ sizeLine
    · have k' : VPost S σ H O T Q (.ok env1 (.own none (.lst ds))) := by
        simpa [Res.bind, hl] using k
      refine fun H1 O1 s1 t1 vs rs => ⟨by rw [rs.len]; exact hl, fun p n => ?_⟩
      obtain ⟨O2, s2, r2, t2⟩ := s1.adopt n rs
      exact k' _ _ O2 [p] s2 r2 (t1.trans t2)
    · have : False := by simpa [Res.bind, hl, VPost] using k
      exact this.elim
  | err env1 x => simp only [e] at k; exact k
  | bad => simp only [e] at k; exact k
/-- a built-in call -/
def yCall (f : List D → Option D) (b : Env → Res (List D)) (env : Env) : Res D := (b env).bind fun env1 ds => match f ds with | some z => .ok env1 z | none => .bad
section
variable {x : Str} {pp : Pos} {qs : Env → Res (List D)} {r : Fg → List V → Hp → VK → Prop} {f : List D → Option D}
end
end
end
end ML
/-! ML7: defs and their calls; statements; loops. -/
namespace ML
open PySem L2

/-! ### a def's promise -/
def adr : V → Addr
  | .ref a => a
  | _ => 0
abbrev actOf (H : Hp) (O : OS) (fp : List Addr) (vs : List V) : Act := ⟨H, O, fun b => b ∈ fp, vs.map adr, []⟩
def spF (K : Fg) (mg : Str → Option Value) (F : List SV → Res SV) : Sp := fun vs H Q E => ∃ (O : OS) (args : List SV) (fp : List Addr),
  Oc H O ∧ RE K (actOf H O fp vs) H O (vs.map some) args fp ∧ fp.Nodup ∧ (∀ b ∈ fp, O b) ∧
  match F args with
  | .ok env r => ∀ σ v H' O' fq, Sit K (actOf H O fp vs) σ H' O' env fq → RS K (actOf H O fp vs) H' O' v r fq → Q v H'
  | .err env x => ∀ σ cls dd H' O', Sit K (actOf H O fp vs) σ H' O' env [] → ExR K mg H' O' x cls dd → E cls dd H'
  | .bad => False
structure FnG (P : Program) (w : World) (K : Fg) (mg : Str → Option Value) (base : Heap) (gq : Bool) (k : Nat) (f : Addr) (fd : FuncData) (ps : List Str) (sp : Sp) : Prop where
  len : ∀ vs H Q E, sp vs H Q E → vs.length = ps.length
  run : ∀ (A : Around) (outer : List PySem.Env) (s : Shared) (H : Hp) (args : Args) (us : List Value) (vs : List V) (Q : VK) (E : XK), Room k A → (gq = true → A.guards = some []) → SysB base → Env0 P w K mg base A outer s H →
    BindsTo s fd args (ps.zip us) → Vals vs us → sp vs H Q E → codeAny (model P w) A (.call (.ref f) args) (CR (L2.CX P w) outer P w H s Q E) s

/-! ### statements -/
def FPost (S : Cxt) (σ : L2.St) (H : Hp) (O : OS) (E : Ends) : Fl → Prop
  | .nx env => ∀ σ' H' O', Sit S.K S.A σ' H' O' env [] → Tr [] H O H' O' → E.nx σ' H'
  | .rt env r => ∀ σ' v H' O' fq, Sit S.K S.A σ' H' O' env fq → RS S.K S.A H' O' v r fq → Tr [] H O H' O' → E.rt v H'
  | .bk env => ∀ σ' H' O', Sit S.K S.A σ' H' O' env [] → Tr [] H O H' O' → E.bk σ' H'
  | .ct env => ∀ σ' H' O', Sit S.K S.A σ' H' O' env [] → Tr [] H O H' O' → E.ct σ' H'
  | .err env x => ∀ σ' cls dd H' O', Sit S.K S.A σ' H' O' env [] → Tr [] H O H' O' → ExR S.K S.mg H' O' x cls dd → S.W cls dd σ' H'
  | .bad => False
theorem fp_tr {S : Cxt} {σ : L2.St} {H H1 : Hp} {O O1 : OS} {E : Ends} {fl : Fl} (h : FPost S σ H O E fl) (t : Tr [] H O H1 O1) {σ1 : L2.St} : FPost S σ1 H1 O1 E fl := by
  cases fl with
  | nx env => exact fun σ' H' O' s t' => h σ' H' O' s (t.trans t')
  | rt env r => exact fun σ' v H' O' fq s r t' => h σ' v H' O' fq s r (t.trans t')
  | bk env => exact fun σ' H' O' s t' => h σ' H' O' s (t.trans t')
  | ct env => exact fun σ' H' O' s t' => h σ' H' O' s (t.trans t')
  | err env x => exact fun σ' cls dd H' O' s t' => h σ' cls dd H' O' s (t.trans t')
  | bad => exact h
section
variable (S : Cxt)
def SemS (t : TS) (g : Env → Fl) : Prop := ∀ (σ : L2.St) (H : Hp) (O : OS) (env : Env) (E : Ends), Sit S.K S.A σ H O env [] → FPost S σ H O E (g env) → t E σ H
def JS (st : Stmt) (g : Env → Fl) : Prop := ∃ t, (∀ X, S.Ok X → PS X st t) ∧ SemS S t g
def JSs (sts : List Stmt) (g : Env → Fl) : Prop := ∃ t, (∀ X, S.Ok X → PSs X sts t) ∧ SemS S t g
end
def Fl.then : Fl → (Env → Fl) → Fl
  | .nx env, k => k env
  | f, _ => f
/-- an outcome goes on as a statement -/
def Res.fl {α : Type} : Res α → (Env → α → Fl) → Fl
  | .ok env a, k => k env a
  | .err env x, _ => .err env x
  | .bad, _ => .bad
section
variable {S : Cxt} {st : Stmt} {sts : List Stmt} {e e1 e2 : Expr} {es : List Expr} {pos : Pos} {g k : Env → Fl}
theorem fl_post {σ : L2.St} {H : Hp} {O : OS} {E : Ends} {α : Type} {R1 : Hp → OS → Env → α → Prop} {r : Res α} {k : Env → α → Fl} (h : FPost S σ H O E (r.fl k))
    (q : ∀ H1 O1 env a, r = .ok env a → Sit S.K S.A σ H1 O1 env [] → Tr [] H O H1 O1 → FPost S σ H1 O1 E (k env a) → R1 H1 O1 env a) : RPost S σ H O [] R1 r := by
  cases r with
  | ok env a => exact fun H1 O1 s t => q H1 O1 env a rfl s t (fp_tr h t)
  | err env x => exact fun cls dd H' O' s t ex => h σ cls dd H' O' s t ex
  | bad => exact h
def sNil (env : Env) : Fl := .nx env
def sSeq (g k : Env → Fl) (env : Env) : Fl := (g env).then k
theorem jss_nil : JSs S [] sNil := ⟨_, fun X o => pss_nil, fun σ H O env E s h => h σ H O s s.rtr⟩
theorem jss_cons (h : JS S st g) (h' : JSs S sts k) : JSs S (st :: sts) (sSeq g k) := by
  obtain ⟨t, h1, h2⟩ := h
  obtain ⟨u, h3, h4⟩ := h'
  refine ⟨tSeq t u, fun X o => pss_cons (h1 X o) (h3 X o), fun σ H O env E s q => h2 σ H O env _ s ?_⟩
  unfold sSeq at q
  cases e : g env with
  | nx env1 =>
    rw [e] at q
    exact fun σ' H' O' s' t' => h4 σ' H' O' env1 E s' (fp_tr q t')
  | rt env1 r => rw [e] at q; exact q
  | bk env1 => rw [e] at q; exact q
  | ct env1 => rw [e] at q; exact q
  | err env1 x => rw [e] at q; exact q
  | bad => rw [e] at q; exact q
def sBreak (env : Env) : Fl := .bk env
def sIf (u : Env → Res Bool) (g k : Env → Fl) (env : Env) : Fl := (u env).fl fun env1 b => if b then g env1 else k env1
theorem js_if {c : Expr} {a b : List Stmt} {u : Env → Res Bool} (hc : JT S c u) (ha : JSs S a g) (hb : JSs S b k) : JS S (.If c a b pos) (sIf u g k) := by
  obtain ⟨t, h1, h2⟩ := hc
  obtain ⟨ta, h3, h4⟩ := ha
  obtain ⟨tb, h5, h6⟩ := hb
  refine ⟨tIfS t ta tb, fun X o => ps_if (h1 X o) (h3 X o) (h5 X o), fun σ H O env E s q => h2 σ H O env [] _ s (fl_post q fun H1 O1 env1 b _ s1 t1 k1 => ?_)⟩
  cases b with
  | true => exact h4 σ H1 O1 env1 E s1 k1
  | false => exact h6 σ H1 O1 env1 E s1 k1
def sRet (f : Env → Res SV) (env : Env) : Fl := (f env).fl fun env1 r => .rt env1 r
theorem vl_post {σ : L2.St} {H : Hp} {O : OS} {E : Ends} {Q : VK} {r : Res SV} {k : Env → SV → Fl} (h : FPost S σ H O E (r.fl k))
    (q : ∀ env s v H1 O1 fq, r = .ok env s → Sit S.K S.A σ H1 O1 env (fq ++ []) → RS S.K S.A H1 O1 v s fq → Tr [] H O H1 O1 → FPost S σ H1 O1 E (k env s) → Q v H1) : VPost S σ H O [] Q r := by
  cases r with
  | ok env a => exact fun v H1 O1 fq s rs t => q env a v H1 O1 fq rfl s rs t (fp_tr h t)
  | err env x => exact fun cls dd H' O' s t ex => h σ cls dd H' O' s t ex
  | bad => exact h
theorem js_ret {f : Env → Res SV} (he : JE S e f) : JS S (.Return (some e) pos) (sRet f) := by
  obtain ⟨t, h1, h2⟩ := he
  refine ⟨tRet t, fun X o => ps_ret (h1 X o), fun σ H O env E s q => h2 σ H O env [] _ s (vl_post q fun env1 sv v H1 O1 fq _ s1 r1 t1 k1 => ?_)⟩
  rw [List.append_nil] at s1
  exact k1 σ v H1 O1 fq s1 r1 (.refl fun a h => nomatch h)
def sRetN (env : Env) : Fl := .rt env (.dat .none)
/-- an expression alone -/
def sDrop (f : Env → Res SV) (env : Env) : Fl := (f env).fl fun env1 _ => .nx env1
def sSet (i : Nat) (f : Env → Res SV) (env : Env) : Fl := (f env).fl fun env1 r => if i < env1.length then .nx (env1.set i r) else .bad
theorem Cxt.Ok.fnx {X : Cx} (o : S.Ok X) {x : Str} (hx : Loc S.sc x) (hl : S.blk = false ∨ S.sc.names.lookup x = some .local) : X.fn x = true ∨ X.env.scope.names.lookup x = some .local := by
  rcases hl with h | h
  · exact .inl (o.fn h x)
  · exact .inr (by rw [o.sc]; exact h)
theorem js_set (i : Nat) {x : Str} {pos' : Pos} {f : Env → Res SV} (nd : S.N.Nodup) (hN : S.N[i]? = some x) (hx : Loc S.sc x) (hl : S.blk = false) (he : JE S e f) (hs : ∀ env, swapsWith e (some (.Name x pos')) pos.line env = pure false := by intro _; rfl) (hw : ∀ env, swappedStores [.Name x pos'] e env = pure none := by intro _; rfl) :
    JS S (.Assign [.Name x pos'] e pos) (sSet i f) := by
  obtain ⟨t, h1, h2⟩ := he
  refine ⟨tAsg t (gName i), fun X o => ps_asg (h1 X o) (pg_name (by rw [o.N]; exact nd) (by rw [o.N]; exact hN) (by rw [o.sc]; exact hx) (o.fnx hx (.inl hl))) (hs _) (hw _), fun σ H O env E s q => h2 σ H O env [] _ s (vl_post q fun env1 sv v H1 O1 fq _ s1 r1 t1 k1 => ?_)⟩
  by_cases hi : i < env1.length
  · rw [if_pos hi] at k1
    exact k1 _ H1 O1 (s1.put hi r1) (.refl fun a h => nomatch h)
  · rw [if_neg hi] at k1
    exact k1.elim
end
end ML
/-! ML8: the rule of a def, the rule of its call. -/
namespace ML
open PySem L2
section
variable {K : Fg} {A : Act} {H : Hp} {O : OS} {σ : L2.St} {env : Env} {fp : List Addr}
theorem RE.uns (n : Nat) : RE K A H O (List.replicate n none) (List.replicate n .un) [] := by
  induction n with
  | zero => exact .nil
  | succ n ih => exact .un ih
theorem RE.more (h : RE K A H O σ env fp) (n : Nat) : RE K A H O (σ ++ List.replicate n none) (env ++ List.replicate n .un) fp := by
  induction h with
  | nil => exact .uns n
  | un _ ih => exact .un ih
  | cons h1 _ ih => exact .cons h1 ih
end

def bodyF (np n : Nat) (g : Env → Fl) (args : List SV) : Res SV :=
  if args.length = np then
    match g (args ++ List.replicate (n - np) .un) with
    | .nx env => .ok env (.dat .none)
    | .rt env r => .ok env r
    | .err env x => .err env x
    | _ => .bad
  else .bad

/-- a def of the text as it stands behind the top, with defaults or without -/
structure FunV (K : Fg) (x qual : Str) (st : Stmt) (f : Addr) (fd : FuncData) : Prop where
  ex : ∃ (oc : Value) (od : Option Addr) (dV kV doc pm : Value) (an : Option Addr) (cdv ct : Value) (osl : Array (Option Value)),
    fd = PySem.W.fnOf x qual (defArgs st) (defBody st) (defScope st) dV kV doc pm an cdv ct ∧ K.lookup f = some ⟨oc, od, .func fd, osl⟩ ∧ PySem.W.codeIn K cdv qual = true
  kp : PySem.W.keepIn K (.ref f) = true
theorem funV_of {K : Fg} {x qual : Str} {st : Stmt} {f : Addr} {fd : FuncData} (F : Fun K x qual st f fd) : FunV K x qual st f fd := by
  obtain ⟨oc, od, kV, doc, pm, an, cdv, ct, osl, h1, h2, h3⟩ := F.ex
  exact ⟨⟨oc, od, .none, kV, doc, pm, an, cdv, ct, osl, h1, h2, h3⟩, F.kp⟩
/-- the rule of a def: what its body comes to -/
theorem gn_ofV {P : Program} {w : World} {K : Fg} {mg : Str → Option Value} {base : Heap} {gq : Bool} {k : Nat} {x qual : Str} {st : Stmt} {f : Addr} {fd : FuncData} {N ps : List Str} {g : Env → Fl}
    (F : FunV K x qual st f fd) (S0 : FnScope N ps (defScope st)) (hb : ∀ (A : Act) (W : Wish), JSs ⟨P, w, K, mg, base, N, defScope st, k, A, W, false, gq⟩ (defBody st) g) :
    FnG P w K mg base gq (k + 1) f fd ps (spF K mg (bodyF ps.length N.length g)) := by
  obtain ⟨oc, od, dV, kV, doc, pm, an, cdv, ct, osl, rfl, lk, hcd⟩ := F.ex
  have len : ∀ (vs : List V) (H : Hp) (Q : VK) (E : XK), spF K mg (bodyF ps.length N.length g) vs H Q E → vs.length = ps.length := fun vs H Q E h => by
    obtain ⟨O, args, fp, _, r, _, _, q⟩ := h
    have l := r.len
    rw [List.length_map] at l
    unfold bodyF at q
    by_cases hl : args.length = ps.length
    · rw [l, hl]
    · rw [if_neg hl] at q
      exact q.elim
  refine ⟨len, fun A outer s H args us vs Q E hr gd sb e0 bt rv hsp => ?_⟩
  have hl := len _ _ _ _ hsp
  have inK : K.In s.heap := e0.mod.kin.keeps fun b o e => (e0.bs b o e).1
  have noL : s.heap.NoLimit := e0.mod.nolimit.keeps fun b o e => (e0.bs b o e).1
  have kinds : ∀ y ∈ ps.zip us, (defScope st).names.lookup y.1 = some .local ∨ ((defScope st).names.lookup y.1 = some .cell ∧ ((cellsFrom (s.heap.objs.size + 1) (defScope st).names []).lookup y.1).isSome = true) := by
    rintro ⟨n, v⟩ hy
    rcases S0.par n (List.of_mem_zip hy).1 with z | z
    · exact .inl z
    · exact .inr ⟨z, PySem.W.cellsFrom_some _ _ _ (.inl z)⟩
  have dep : A.depth < recursionLimit := by
    have := hr.dp
    omega
  refine codeAny_call_function dep (inK _ _ lk) rfl S0.co S0.gen rfl (PySem.W.codeRec_of inK hcd) (bt _ _ _ _ ?_)
  refine wpAny_newFunctionEnv_cells S0.kind kinds fun fenv he s1 ic => ?_
  subst he
  refine ⟨noL.keeps ic.toInCall.keep, codeAny_func ?_⟩
  obtain ⟨O, av, fp, oc0, re, nd, ow, fin⟩ := hsp
  have la : av.length = ps.length := by
    have z := re.len
    rw [List.length_map] at z
    omega
  obtain ⟨t, ht, sem⟩ := hb (actOf H O fp vs) (fun cls d _ H' => E cls d H')
  generalize hX : cxOf (L2.CX P w) P w K mg base N qual (defScope st) f cdv A outer s H E = X
  have hOk : (⟨P, w, K, mg, base, N, defScope st, k, actOf H O fp vs, fun cls d _ H' => E cls d H', false, gq⟩ : Cxt).Ok X := by
    subst hX
    exact ⟨rfl, rfl, rfl, rfl, rfl, rfl, rfl, rfl, hr.deeper _, gd, passes_of rfl, takes_of rfl rfl rfl rfl, fun _ _ => rfl, S0.kind, sb, fun _ => ⟨rfl, rfl, rfl, fun h => absurd rfl h⟩⟩
  have I : Inv X [] (start N vs) H s1 := by
    subst hX
    exact inv_start S0 hr.hd e0 hl rv ic
  have st0 : start N vs = vs.map some ++ List.replicate (N.length - ps.length) none := by
    unfold L2.start
    rw [hl]
  have sit : Sit K (actOf H O fp vs) (start N vs) H O (av ++ List.replicate (N.length - ps.length) .un) [] := by
    rw [st0]
    refine ⟨⟨fp, re.more _, by rw [List.append_nil]; exact nd, fun b hb => ?_⟩, oc0, fun a o h _ => h, fun a h => h, fun a h => .inl h, fun a h => ow a h, fun p hp => nomatch hp⟩
    rw [List.append_nil] at hb
    exact ⟨ow b hb, .inl hb⟩
  have run : t { nx := fun _ H' => Q .non H', rt := Q } (start N vs) H := by
    refine sem (start N vs) H O _ _ sit ?_
    unfold bodyF at fin
    rw [if_pos la] at fin
    cases eg : g (av ++ List.replicate (N.length - ps.length) .un) with
    | nx env1 =>
      rw [eg] at fin
      exact fun σ' H' O' s' _ => fin σ' .non H' O' [] s' (.dat .non)
    | rt env1 r =>
      rw [eg] at fin
      exact fun σ' v H' O' fq s' r' _ => fin σ' v H' O' fq s' r'
    | err env1 xx =>
      rw [eg] at fin
      exact fun σ' cls dd H' O' s' _ ex => fin σ' cls dd H' O' s' ex
    | bk env1 => rw [eg] at fin; exact fin.elim
    | ct env1 => rw [eg] at fin; exact fin.elim
    | bad => rw [eg] at fin; exact fin.elim
  have wp := (ht X hOk).run [] s1 (start N vs) H _ I run
  subst hX
  refine wpAny_mono wp (fun fl s' hs => ?_) fun e s' hs => hs
  cases fl with
  | ret u =>
    obtain ⟨v, σ', H', J, rv', q⟩ := hs
    exact ⟨v, H', J.os, J.bare, J.base, J.hok, rv', q⟩
  | next =>
    obtain ⟨σ', H', J, q⟩ := hs
    exact ⟨V.non, H', J.os, J.bare, J.base, J.hok, rfl, q⟩
  | brk =>
    obtain ⟨_, _, _, q⟩ := hs
    exact False.elim q
  | cont =>
    obtain ⟨_, _, _, q⟩ := hs
    exact False.elim q
theorem gn_of {P : Program} {w : World} {K : Fg} {mg : Str → Option Value} {base : Heap} {gq : Bool} {k : Nat} {x qual : Str} {st : Stmt} {f : Addr} {fd : FuncData} {N ps : List Str} {g : Env → Fl}
    (F : Fun K x qual st f fd) (S0 : FnScope N ps (defScope st)) (hb : ∀ (A : Act) (W : Wish), JSs ⟨P, w, K, mg, base, N, defScope st, k, A, W, false, gq⟩ (defBody st) g) :
    FnG P w K mg base gq (k + 1) f fd ps (spF K mg (bodyF ps.length N.length g)) := gn_ofV (funV_of F) S0 hb

/-! ### arguments: data, or a slot as it is -/
inductive AV where
  | d (x : D)
  | sl (i : Nat)
inductive AVr (K : Fg) (H : Hp) (O : OS) (σ : L2.St) : V → AV → Prop
  | d {v : V} {x : D} : RD K H O v x → AVr K H O σ v (.d x)
  | sl {v : V} {i : Nat} : σ[i]? = some (some v) → AVr K H O σ v (.sl i)
abbrev AVs (K : Fg) (H : Hp) (O : OS) (σ : L2.St) := F2 (AVr K H O σ)
def SemCA (S : Cxt) (t : TA) (f : Env → Res (List AV)) : Prop := ∀ (σ : L2.St) (H : Hp) (O : OS) (env : Env) (T : List Addr) (Q : List V → Hp → Prop), Sit S.K S.A σ H O env T →
  RPost S σ H O T (fun H' O' _ avs => ∀ vs, AVs S.K H' O' σ vs avs → Q vs H') (f env) → t σ H Q
def JCA (S : Cxt) (es : List Expr) (f : Env → Res (List AV)) : Prop := ∃ t, (∀ X, S.Ok X → PA X es t) ∧ SemCA S t f
def cNil (env : Env) : Res (List AV) := .ok env []
def cCons (a : Env → Res D) (b : Env → Res (List AV)) (env : Env) : Res (List AV) := (a env).bind fun env1 x => (b env1).bind fun env2 ds => .ok env2 (.d x :: ds)
def cSlot (i : Nat) (b : Env → Res (List AV)) (env : Env) : Res (List AV) := match env[i]? with
  | some .un => .bad
  | none => .bad
  | _ => (b env).bind fun env2 ds => .ok env2 (.sl i :: ds)
section
variable {S : Cxt} {e : Expr} {es : List Expr} {pos : Pos} {fa : Env → Res D} {fr : Env → Res (List AV)}
theorem jca_nil : JCA S [] cNil := ⟨_, fun X o => pa_nil, fun σ H O env T Q s k => k H O s s.rtr [] .nil⟩
theorem jca_d (ha : JD S e fa) (hr : JCA S es fr) (hs : ∀ env, starEach (e :: es) env = (false, eval e env) :: starEach es env := by intro _; rfl) : JCA S (e :: es) (cCons fa fr) := by
  obtain ⟨t, h1, h2⟩ := ha
  obtain ⟨u, h3, h4⟩ := hr
  refine ⟨tCons t u, fun X o => pa_cons (h1 X o) (h3 X o) (hs _), fun σ H O env T Q s k => ?_⟩
  refine h2 σ H O env T _ s (rp_bind k fun H1 O1 env1 x _ s1 t1 k1 v rv => ?_)
  refine h4 σ H1 O1 env1 T _ s1 (rp_bind k1 fun H2 O2 env2 ds _ s2 t2 k2 vs rs => ?_)
  exact k2 H2 O2 s2 s2.rtr _ (.cons (.d (RD.sta t2.1 _ _ rv)) rs)
theorem Sit.someV (s : Sit S.K S.A σ H O env T) {i : Nat} {sv : SV} (e : env[i]? = some sv) (n : sv ≠ .un) : ∃ v, σ[i]? = some (some v) := by
  obtain ⟨fp, r, _, _⟩ := s.slots
  obtain ⟨v, _, _, _, h, _⟩ := r.at e n
  exact ⟨v, h⟩
theorem jca_sl (i : Nat) {x : Str} {p' : Pos} (hN : S.N[i]? = some x) (hv : Vis S.sc x) (hd : (x == ("__debug__" : Str)) = false) (hc : (x == ("__classdict__" : Str)) = false) (hr : JCA S es fr) (hs : ∀ env, starEach (.Name x p' :: es) env = (false, eval (.Name x p') env) :: starEach es env := by intro _; rfl) :
    JCA S (.Name x p' :: es) (cSlot i fr) := by
  obtain ⟨u, h3, h4⟩ := hr
  refine ⟨tCons (tVar i) u, fun X o => pa_cons (pe_var (by rw [o.N]; exact hN) (by rw [o.sc]; exact hv) hd hc) (h3 X o) (hs _), fun σ H O env T Q s k => ?_⟩
  unfold cSlot at k
  split at k
  · exact k.elim
  · exact k.elim
  · rename_i n1 n2
    cases e : env[i]? with
    | none => exact (n2 e).elim
    | some sv =>
      obtain ⟨v, hv'⟩ := s.someV e fun z => n1 (by rw [e, z])
      refine ⟨v, hv', h4 σ H O env T _ s (rp_bind k fun H2 O2 env2 ds _ s2 t2 k2 vs rs => ?_)⟩
      exact k2 H2 O2 s2 s2.rtr _ (.cons (.sl hv') rs)
end

/-! ### what is handed over, what comes back -/
def argsOf : List AV → Env → Nat → Option (List SV × Env)
  | [], env, _ => some ([], env)
  | .d x :: r, env, j => (argsOf r env (j + 1)).map fun p => (.dat x :: p.1, p.2)
  | .sl i :: r, env, j => match env[i]? with
    | some (.own _ c) => (argsOf r (env.set i .un) (j + 1)).map fun p => (.own (some j) c :: p.1, p.2)
    | some (.dat x) => (argsOf r env (j + 1)).map fun p => (.dat x :: p.1, p.2)
    | some (.frz xs) => (argsOf r env (j + 1)).map fun p => (.frz xs :: p.1, p.2)
    | some (.raw v) => (argsOf r env (j + 1)).map fun p => (.raw v :: p.1, p.2)
    | _ => none
/-- e0: the caller's slots ahead of the call; cur: without what was handed over; e': the callee's at its end -/
def backE : List AV → Env → Env → Env → Nat → Option Env
  | [], _, cur, _, _ => some cur
  | .d _ :: r, e0, cur, e', j => backE r e0 cur e' (j + 1)
  | .sl i :: r, e0, cur, e', j => match e0[i]? with
    | some (.own tag _) => match e'[j]? with
      | some (.own (some j') c) => if j' = j ∧ i < cur.length then backE r e0 (cur.set i (.own tag c)) (e'.set j .un) (j + 1) else none
      | _ => none
    | _ => backE r e0 cur e' (j + 1)
def yFn (F : List SV → Res SV) (a : Env → Res (List AV)) (env : Env) : Res SV := (a env).bind fun env1 avs =>
  match argsOf avs env1 0 with
  | none => .bad
  | some (args, out) => match F args with
    | .ok e' r => match backE avs env1 out e' 0 with
      | some env2 => match r with
        | .own (some _) _ => .bad
        | .un => .bad
        | .frz _ => .bad
        | r => .ok env2 r
      | none => .bad
    | .err e' x => match backE avs env1 out e' 0 with
      | some env2 => .err env2 x
      | none => .bad
    | .bad => .bad

section
variable {K : Fg} {A : Act} {H : Hp} {O : OS} {σ : L2.St} {env : Env} {T : List Addr}
/-- handing over: the callee's slots, the rest of the caller's -/
theorem hand_over {O' : OS} (hO : O' = O) {vall : List V} {M : OS} {H0 : Hp} : ∀ {avs : List AV} {vs : List V} {env : Env} {j : Nat} {args : List SV} {out : Env} {T : List Addr},
    Sit K A σ H O env T → argsOf avs env j = some (args, out) → AVs K H O σ vs avs → (∀ i v, vs[i]? = some v → vall[j + i]? = some v) →
    ∃ fp, RE K ⟨H0, O', M, vall.map adr, []⟩ H O (vs.map some) args fp ∧ Sit K A σ H O out (fp ++ T) := by
  intro avs
  induction avs with
  | nil =>
    intro vs env j args out T s e a hv
    cases a
    cases e
    exact ⟨[], .nil, s⟩
  | cons av r ih =>
    intro vs env j args out T s e a hv
    cases a with
    | @cons v _ ws _ h1 h2 =>
      have hv' : ∀ i x, ws[i]? = some x → vall[j + 1 + i]? = some x := fun i x hx => by
        have := hv (i + 1) x (by simpa using hx)
        rw [show j + 1 + i = j + (i + 1) from by omega]
        exact this
      have hv0 : vall[j]? = some v := by simpa using hv 0 v (by simp)
      cases av with
      | d x =>
        cases h1 with
        | d h1 =>
          unfold argsOf at e
          obtain ⟨⟨a2, o2⟩, e1, e2⟩ := Option.map_eq_some_iff.mp e
          cases e2
          obtain ⟨fp, q1, q2⟩ := ih s e1 h2 hv'
          exact ⟨[] ++ fp, .cons (.dat h1) q1, q2⟩
      | sl i =>
        cases h1 with
        | sl h1 =>
          unfold argsOf at e
          split at e
          · rename_i tag c ei
            obtain ⟨⟨a2, o2⟩, e1, e2⟩ := Option.map_eq_some_iff.mp e
            cases e2
            obtain ⟨ad, fq, q1, q2, q3⟩ := s.out ei
            rw [h1] at q1
            cases q1
            obtain ⟨fp, q4, q5⟩ := ih q3 e1 h2 hv'
            cases q2 with
            | own rc tg =>
              refine ⟨fq ++ fp, .cons (.own rc ?_) q4, ?_⟩
              · show (vall.map adr)[j]? = some ad
                rw [List.getElem?_map, hv0]
                rfl
              · obtain ⟨f0, w1, w2, w3⟩ := q5.slots
                refine ⟨⟨f0, w1, ?_, fun b hb => w3 b ?_⟩, q5.oc, q5.base, q5.o0, q5.on, q5.m0, fun p hp => ⟨(q5.tabs p hp).1, (q5.tabs p hp).2.1, fun z => (q5.tabs p hp).2.2 (by
                  simp only [List.mem_append] at z ⊢
                  rcases z with (h | h) | h <;> simp [h])⟩⟩
                · refine (List.Perm.nodup_iff (List.Perm.append_left f0 ?_)).mp w2
                  rw [← List.append_assoc]
                  exact List.Perm.append_right T List.perm_append_comm
                · simp only [List.mem_append] at hb ⊢
                  rcases hb with h | (h | h) | h <;> simp [h]
          · rename_i x ei
            obtain ⟨⟨a2, o2⟩, e1, e2⟩ := Option.map_eq_some_iff.mp e
            cases e2
            obtain ⟨v', q1, q2⟩ := s.dat ei
            rw [h1] at q1
            cases q1
            obtain ⟨fp, q4, q5⟩ := ih s e1 h2 hv'
            exact ⟨[] ++ fp, .cons (.dat q2) q4, q5⟩
          · rename_i xs ei
            obtain ⟨⟨a2, o2⟩, e1, e2⟩ := Option.map_eq_some_iff.mp e
            cases e2
            obtain ⟨f0, w1, w2, w3⟩ := s.slots
            obtain ⟨v', fq, l, r', z1, z2, _⟩ := w1.at ei (by simp)
            rw [h1] at z1
            cases z1
            obtain ⟨fp, q4, q5⟩ := ih s e1 h2 hv'
            cases z2 with
            | frz z3 z4 => exact ⟨[] ++ fp, .cons (.frz z3 z4) q4, q5⟩
          · rename_i w ei
            obtain ⟨⟨a2, o2⟩, e1, e2⟩ := Option.map_eq_some_iff.mp e
            cases e2
            have q1 := s.rawv ei
            rw [h1] at q1
            cases q1
            obtain ⟨fp, q4, q5⟩ := ih s e1 h2 hv'
            exact ⟨[] ++ fp, .cons (.raw _) q4, q5⟩
          · cases e
/-- behind the callee: the caller's state, the callee's slots' objects as temporaries -/
theorem come_back {A' : Act} {fp fp' fq : List Addr} {H' : Hp} {O' : OS} {σ' : L2.St} {e' : Env} (s : Sit K A σ H O env (fp ++ T)) (hA : A'.H0 = H ∧ A'.O0 = O ∧ A'.M0 = fun b => b ∈ fp)
    (s' : Sit K A' σ' H' O' e' fq) (re : RE K A' H' O' σ' e' fp') (hnd : (fp' ++ fq).Nodup) (how : ∀ b ∈ fp' ++ fq, O' b ∧ (A'.M0 b ∨ A'.H0 b = none)) :
    Sit K A σ H' O' env (fp' ++ (fq ++ T)) ∧ Tr T H O H' O' := by
  obtain ⟨hH, hOO, hM⟩ := hA
  obtain ⟨fc, r, nd, ow⟩ := s.slots
  have noM : ∀ b, b ∈ fp → O b := fun b hb => (ow b (by simp [hb])).1
  have keep : ∀ b o, H b = some o → b ∉ fp → H' b = some o := fun b o h n => s'.base b o (by rw [hH]; exact h) (by rw [hM]; exact n)
  have sta : Sta H O H' O' := fun b o h n => ⟨keep b o h fun z => n (noM b z), fun z => by
    rcases s'.on b z with q | q
    · rw [hOO] at q
      exact n q
    · rw [hH, h] at q
      cases q⟩
  have out : ∀ b ∈ fc ++ T, b ∉ fp := fun b hb z => by
    have h0 := List.nodup_append.mp nd
    rcases List.mem_append.mp hb with h | h
    · exact h0.2.2 b h b (by simp [z]) rfl
    · have h1 := List.nodup_append.mp h0.2.1
      exact h1.2.2 b z b h rfl
  have same : ∀ b ∈ fc ++ T, H' b = H b := fun b hb => by
    have hO : O b := (ow b (by
      rcases List.mem_append.mp hb with h | h <;> simp [h])).1
    cases e : H b with
    | none => exact absurd e (s.oc b hO)
    | some o => exact keep b o e (out b hb)
  have hO' : ∀ b, O b → O' b := fun b h => s'.o0 b (by rw [hOO]; exact h)
  have away : ∀ b ∈ fp' ++ fq, b ∉ fc ++ T := fun b hb z => by
    have hO : O b := (ow b (by
      rcases List.mem_append.mp z with h | h <;> simp [h])).1
    rcases (how b hb).2 with q | q
    · rw [hM] at q
      exact out b z q
    · rw [hH] at q
      exact s.oc b hO q
  have h00 : ∀ b, H b = none → ¬ A.M0 b → A.H0 b = none := fun b h n => by
    cases e : A.H0 b with
    | none => rfl
    | some o =>
      rw [s.base b o e n] at h
      cases h
  refine ⟨⟨⟨fc, r.sta sta fun b hb => same b (by simp [hb]), ?_, fun b hb => ?_⟩, s'.oc, fun b o h n => ?_, fun b h => hO' b (s.o0 b h), fun b h => ?_, s.m0, fun p hp => ⟨(s.tabs p hp).1.sta sta ?_, (s.tabs p hp).2.1, fun z => ?_⟩⟩, sta, fun b hb => ⟨same b (by simp [hb]), hO' b (ow b (by simp [hb])).1⟩⟩
  · have n1 : (fc ++ T).Nodup := nd.sublist (List.Sublist.append (List.Sublist.refl _) (List.sublist_append_right fp T))
    have n2 : ((fp' ++ fq) ++ (fc ++ T)).Nodup := List.nodup_append.mpr ⟨hnd, n1, fun a ha b hb z => away a ha (z ▸ hb)⟩
    refine (List.Perm.nodup_iff ?_).mp n2
    have p1 : ((fp' ++ fq) ++ (fc ++ T)).Perm (fc ++ ((fp' ++ fq) ++ T)) := by
      rw [← List.append_assoc, ← List.append_assoc]
      exact List.Perm.append_right T List.perm_append_comm
    rw [List.append_assoc fp' fq T] at p1
    exact p1
  · by_cases hin : b ∈ fp' ++ fq
    · refine ⟨(how b hin).1, ?_⟩
      rcases (how b hin).2 with q | q
      · rw [hM] at q
        exact (ow b (by simp [show b ∈ fp from q])).2
      · rw [hH] at q
        by_cases hm : A.M0 b
        · exact .inl hm
        · exact .inr (h00 b q hm)
    · have hb' : b ∈ fc ++ T := by
        simp only [List.mem_append] at hb hin ⊢
        rcases hb with h | h | h | h
        · exact .inl h
        · exact absurd (Or.inl h) hin
        · exact absurd (Or.inr h) hin
        · exact .inr h
      have z := ow b (by
        rcases List.mem_append.mp hb' with h | h <;> simp [h])
      exact ⟨hO' b z.1, z.2⟩
  · have nf : b ∉ fp := fun z => by
      rcases (ow b (by simp [z])).2 with q | q
      · exact n q
      · rw [q] at h
        cases h
    exact keep b o (s.base b o h n) nf
  · rcases s'.on b h with q | q
    · rw [hOO] at q
      exact s.on b q
    · rw [hH] at q
      by_cases hm : A.M0 b
      · exact .inl (s.m0 b hm)
      · exact .inr (h00 b q hm)
  · obtain ⟨ps, h1, _⟩ := (s.tabs p hp).1
    rw [h1]
    exact keep _ _ h1 fun z => (s.tabs p hp).2.2 (List.mem_append_left _ z)
  · have np : p.1 ∉ fp := fun z => (s.tabs p hp).2.2 (List.mem_append_left _ z)
    have nq : p.1 ∉ fp' ++ fq := fun z => by
      rcases (how _ z).2 with q | q
      · rw [hM] at q
        exact np q
      · rw [hH] at q
        obtain ⟨ps, h1, _⟩ := (s.tabs p hp).1
        rw [h1] at q
        cases q
    rcases List.mem_append.mp z with z | z
    · exact nq (List.mem_append_left _ z)
    · rcases List.mem_append.mp z with z | z
      · exact nq (List.mem_append_right _ z)
      · exact (s.tabs p hp).2.2 (List.mem_append_right _ z)
end
end ML
/-! ML9: the call of a def; what is walked; loops. -/
namespace ML
open PySem L2
section
variable {K : Fg} {A : Act} {H : Hp} {O : OS} {σ : L2.St} {env : Env} {T : List Addr}
theorem Sit.ownT (S : Sit K A σ H O env T) {i : Nat} {tag : Option Nat} {c : OC} (e : env[i]? = some (.own tag c)) :
    ∃ a, σ[i]? = some (some (.ref a)) ∧ Tagged A tag a [] := by
  obtain ⟨fp, r, nd, ow⟩ := S.slots
  obtain ⟨v, fq, l, r', a, b, e', _⟩ := r.at e (by simp)
  cases b with
  | own b t =>
    refine ⟨_, a, ?_⟩
    cases tag with
    | none => exact t
    | some j => exact t
theorem Sit.permT {T' : List Addr} (S : Sit K A σ H O env T) (p : T.Perm T') : Sit K A σ H O env T' := by
  obtain ⟨fp, r, nd, ow⟩ := S.slots
  exact ⟨⟨fp, r, (List.Perm.nodup_iff (List.Perm.append_left fp p)).mp nd, fun b hb => ow b (by
    rcases List.mem_append.mp hb with h | h
    · simp [h]
    · simp [p.mem_iff.mpr h])⟩, S.oc, S.base, S.o0, S.on, S.m0, fun t ht => ⟨(S.tabs t ht).1, (S.tabs t ht).2.1, fun z => (S.tabs t ht).2.2 (p.mem_iff.mpr z)⟩⟩
/-- putting back what was handed over -/
theorem put_back {A' : Act} {σ' : L2.St} {e0 : Env} {T0 R : List Addr} {H0 : Hp} {O0 : OS} {vall : List V} (s0 : Sit K A σ H0 O0 e0 T0) (hp : A'.pars = vall.map adr) :
    ∀ {avs : List AV} {vs : List V} {cur e' env2 : Env} {j : Nat} {fp' : List Addr}, Sit K A σ H O cur (fp' ++ R) → RE K A' H O σ' e' fp' → backE avs e0 cur e' j = some env2 →
      (∀ (m : Nat) (i : Nat) (v : V), avs[m]? = some (.sl i) → vs[m]? = some v → σ[i]? = some (some v)) → avs.length = vs.length → (∀ m v, vs[m]? = some v → vall[j + m]? = some v) → Sit K A σ H O env2 R := by
  intro avs
  induction avs with
  | nil =>
    intro vs cur e' env2 j fp' s r e _ _ _
    cases e
    exact s.less
  | cons av rest ih =>
    intro vs cur e' env2 j fp' s r e hs hl hv
    cases vs with
    | nil => simp at hl
    | cons v ws =>
      have hs' : ∀ (m : Nat) (i : Nat) (x : V), rest[m]? = some (.sl i) → ws[m]? = some x → σ[i]? = some (some x) := fun m i x h1 h2 => hs (m + 1) i x (by simpa using h1) (by simpa using h2)
      have hl' : rest.length = ws.length := by simpa using hl
      have hv' : ∀ m x, ws[m]? = some x → vall[j + 1 + m]? = some x := fun m x hx => by
        have := hv (m + 1) x (by simpa using hx)
        rw [show j + 1 + m = j + (m + 1) from by omega]
        exact this
      cases av with
      | d x =>
        unfold backE at e
        exact ih s r e hs' hl' hv'
      | sl i =>
        unfold backE at e
        split at e
        · rename_i tag c0 ei
          split at e
          · rename_i j' c ej
            split at e
            · rename_i hj
              obtain ⟨hj, hi⟩ := hj
              subst hj
              obtain ⟨v', fq, l, r', q1, q2, q3, _, q5, _⟩ := r.at ej (by simp)
              cases q2 with
              | @own a' _ _ _ rc tg =>
                obtain ⟨a, w1, w2⟩ := s0.ownT ei
                have w3 := hs 0 i v (by simp) (by simp)
                rw [w1] at w3
                cases w3
                have w4 := hv 0 (.ref a) (by simp)
                have w5 : A'.pars[j']? = some a := by
                  rw [hp, List.getElem?_map, show j' = j' + 0 from rfl, w4]
                  rfl
                have w6 : A'.pars[j']? = some a' := tg
                rw [w5] at w6
                cases w6
                subst q3
                have s1 : Sit K A σ H O cur (fq ++ ((l ++ r') ++ R)) := s.permT (by
                  rw [List.append_assoc, List.append_assoc, List.append_assoc]
                  refine List.Perm.trans ?_ (List.Perm.refl _)
                  rw [← List.append_assoc l fq, ← List.append_assoc fq l]
                  exact List.Perm.append_right _ List.perm_append_comm)
                have tg2 : Tagged A tag a' fq := by
                  cases tag with
                  | none => exact w2
                  | some _ => exact w2
                have s2 := s1.put hi (v := .ref a') (s := .own tag c) (.own rc tg2)
                rw [set_self w1] at s2
                exact ih s2 q5 e hs' hl' hv'
            · cases e
          · cases e
        · exact ih s r e hs' hl' hv'
theorem f2_len {α β : Type} {R : α → β → Prop} : ∀ {l : List α} {m : List β}, F2 R l m → l.length = m.length
  | _, _, .nil => rfl
  | _, _, .cons _ h => by simp [f2_len h]
theorem f2_get {α β : Type} {R : α → β → Prop} : ∀ {l : List α} {m : List β} {i : Nat} {a : α} {b : β}, F2 R l m → l[i]? = some a → m[i]? = some b → R a b
  | _, _, _, _, _, .nil, e, _ => by simp at e
  | _, _, 0, _, _, .cons r _, e, e' => by simp at e e'; subst e e'; exact r
  | _, _, i + 1, _, _, .cons _ h, e, e' => by simp at e e'; exact f2_get h e e'
end

/-! ### the call -/
/-- a def of the module, as it is called: its promise is F's -/
def Fx (S : Cxt) (k : Nat) (x : Str) (F : List SV → Res SV) : Prop := ∃ (f : Addr) (fd : FuncData) (ps : List Str),
  FnG S.P S.w S.K S.mg S.base S.gq k f fd ps (spF S.K S.mg F) ∧ S.mg x = some (.ref f) ∧ PySem.W.keepIn S.K (.ref f) = true ∧ Binds S.K fd ps []
section
variable {S : Cxt} {e : Expr} {es : List Expr} {pos pp : Pos} {x : Str} {F : List SV → Res SV} {fa : Env → Res (List AV)} {k : Nat}
theorem pe_callG {X : Cx} {gq : Bool} {f : Addr} {fd : FuncData} {ps : List Str} {sp : Sp} {W : Wish} {t : TA} (G : FnG X.prog X.w X.K X.mg X.base gq k f fd ps sp) (room : Room k X.A) (gd : gq = true → X.A.guards = some []) (sb : SysB X.base) (gl : Gl X x) (mx : X.mg x = some (.ref f))
    (kp : PySem.W.keepIn X.K (.ref f) = true) (bi : Binds X.K fd ps []) (tk : Takes X W) (ha : PA X (e :: es) t) (nd : (x == ("__debug__" : Str)) = false) (he : starEach (e :: es) X.env = (false, eval e X.env) :: starEach es X.env)
    (hpl : (backTo pos (starEach es X.env)).any (·.1) = false) : PE X (.Call (.Name x pp) (e :: es) [] pos) (fun σ H Q => t σ H fun vs H1 => sp vs H1 Q (fun c d H2 => W c d σ H2)) := by
  constructor
  intro pins s σ H Q I h
  refine wpAny_Call_Name_kw (ld_glob I gl mx ?_ nd)
  refine PySem.W.callWith_K (h₀ := X.base) I.ok.mod.kin kp (thn (ha.run pos pins s σ H _ I h) fun us s1 aa => ?_) he hpl
  obtain ⟨vs, H1, I1, rv, q⟩ := aa
  refine ⟨I1.kIn, ?_⟩
  have hl : us.length = ps.length := by
    rw [← rv.length]
    exact G.len _ _ _ _ q
  have b := bi s1 us I1.kIn (by simpa using hl)
  rw [List.append_nil] at b
  refine wpAny_call (codeAny_mono (G.run X.A X.stack s1 H1 ⟨us, []⟩ us vs Q _ room gd sb I1.env0 b rv q) fun r s' hq => ?_)
  cases r with
  | error ev => exact passAt tk σ pins H1 s1 ev s' I1 hq
  | ok fl =>
    cases fl with
    | ret u => exact I1.after hq
    | next => exact False.elim hq
    | brk => exact False.elim hq
    | cont => exact False.elim hq
theorem je_call (hf : Fx S k x F) (hk : k ≤ S.k) (hg : Gn S x) (ha : JCA S (e :: es) fa) (nd : (x == ("__debug__" : Str)) = false := by decide)
    (he : ∀ env, starEach (e :: es) env = (false, eval e env) :: starEach es env := by intro _; rfl) (hpl : ∀ env, (backTo pos (starEach es env)).any (·.1) = false := by intro _; rfl) : JE S (.Call (.Name x pp) (e :: es) [] pos) (yFn F fa) := by
  obtain ⟨f, fd, ps, G, mx, kp, bi⟩ := hf
  obtain ⟨t, h1, h2⟩ := ha
  refine ⟨fun σ H Q => t σ H fun vs H1 => spF S.K S.mg F vs H1 Q (fun c d H2 => S.W c d σ H2), fun X o => ?_, fun σ H O env T Q s q => ?_⟩
  · have pe := h1 X o
    have sb := o.sysb
    obtain ⟨o1, o2, o3, o4, o5, o6, o7, o8, o9, o10, o11, o12, o13⟩ := o
    have G' : FnG X.prog X.w X.K X.mg X.base S.gq k f fd ps (spF S.K S.mg F) := by rw [o1, o2, o3, o4, o5]; exact G
    exact pe_callG G' (o9.mono hk) o10 sb (by show X.env.kindOf x = _; unfold Env.kindOf; rw [o7]; exact hg) (by rw [o4]; exact mx) (by rw [o3]; exact kp) (by rw [o3]; exact bi) o12 pe nd (he _) (hpl _)
  · unfold yFn at q
    have q' : RPost S σ H O T (fun H1 O1 env1 avs => ∀ vs, AVs S.K H1 O1 σ vs avs → spF S.K S.mg F vs H1 Q (fun c d H2 => S.W c d σ H2)) (fa env) := by
      cases ef : fa env with
      | bad => rw [ef] at q; exact q
      | err env1 xx => rw [ef] at q; exact q
      | ok env1 avs =>
        rw [ef] at q
        intro H1 O1 s1 t1 vs av
        dsimp only [Res.bind] at q
        cases ea : argsOf avs env1 0 with
        | none => rw [ea] at q; exact q.elim
        | some ao =>
          obtain ⟨args, out⟩ := ao
          rw [ea] at q
          dsimp only at q
          -- one footprint serves the callee and the caller
          have ho := fun (M : OS) => hand_over (O' := O1) rfl (vall := vs) (M := M) (H0 := H1) s1 ea av (fun i v h => by simpa using h)
          obtain ⟨fp0, r0, s2⟩ := ho (fun _ => True)
          have r1 : RE S.K (actOf H1 O1 fp0 vs) H1 O1 (vs.map some) args fp0 := by
            have gen : ∀ {σ : L2.St} {en : Env} {fp : List Addr}, RE S.K ⟨H1, O1, fun _ => True, vs.map adr, []⟩ H1 O1 σ en fp → RE S.K (actOf H1 O1 fp0 vs) H1 O1 σ en fp := by
              intro σ en fp r
              induction r with
              | nil => exact .nil
              | un _ ih => exact .un ih
              | cons h1 _ ih =>
                refine .cons ?_ ih
                cases h1 with
                | dat a => exact .dat a
                | raw => exact .raw _
                | frz a b => exact .frz a b
                | @own _ _ _ tag a b =>
                  refine .own a ?_
                  cases tag with
                  | none => exact b
                  | some _ => exact b
            exact gen r0
          obtain ⟨fc, rc, ndc, owc⟩ := s2.slots
          have ndp : fp0.Nodup := (List.nodup_append.mp (List.nodup_append.mp ndc).2.1).1
          refine ⟨O1, args, fp0, s1.oc, r1, ndp, fun b hb => (owc b (by simp [hb])).1, ?_⟩
          have slots : ∀ (m i : Nat) (v : V), avs[m]? = some (.sl i) → vs[m]? = some v → σ[i]? = some (some v) := fun m i v a b => by
            have z := f2_get av b a
            cases z with
            | sl z => exact z
          have hlen : avs.length = vs.length := (f2_len av).symm
          cases eF : F args with
          | bad => rw [eF] at q; exact q.elim
          | ok e' r =>
            rw [eF] at q
            dsimp only at q ⊢
            intro σ' v H' O' fq s' rs
            obtain ⟨fe, re, nde, owe⟩ := s'.slots
            obtain ⟨s3, t3⟩ := come_back s2 ⟨rfl, rfl, rfl⟩ s' re nde owe
            cases eb : backE avs env1 out e' 0 with
            | none => rw [eb] at q; exact q.elim
            | some env2 =>
              rw [eb] at q
              dsimp only at q
              have s4 := put_back s1 (A' := actOf H1 O1 fp0 vs) (vall := vs) rfl s3 re eb slots hlen (fun m v h => by simpa using h)
              have tt : Tr T H O H' O' := t1.trans t3
              cases rs with
              | dat rd => exact q v H' O' [] s4 (.dat rd) tt
              | raw => exact q _ H' O' [] s4 (.raw _) tt
              | frz a b => exact q.elim
              | @own a c fq' tag rc tg =>
                cases tag with
                | some _ => exact q.elim
                | none => exact q (.ref a) H' O' fq s4 (.own rc (fun z => tg (s1.o0 _ z))) tt
          | err e' xx =>
            rw [eF] at q
            dsimp only at q ⊢
            intro σ' cls dd H' O' s' ex
            obtain ⟨fe, re, nde, owe⟩ := s'.slots
            obtain ⟨s3, t3⟩ := come_back s2 ⟨rfl, rfl, rfl⟩ s' re nde owe
            cases eb : backE avs env1 out e' 0 with
            | none => rw [eb] at q; exact q.elim
            | some env2 =>
              rw [eb] at q
              dsimp only at q
              have s4 := put_back s1 (A' := actOf H1 O1 fp0 vs) (vall := vs) rfl s3 re eb slots hlen (fun m v h => by simpa using h)
              exact q cls dd H' O' s4 (t1.trans t3) ex
    exact h2 σ H O env T _ s q'
/-- a def as the top has laid it -/
theorem fx_of {K : Fg} {P : Program} {w : World} {mg : Str → Option Value} {base : Heap} {n : Nat} {qual : Str} {st : Stmt} {f : Addr} {fd : FuncData} {N ps : List Str} {g : Env → Fl} {S : Cxt} (hS : S.P = P ∧ S.w = w ∧ S.K = K ∧ S.mg = mg ∧ S.base = base)
    (Fu : Fun K x qual st f fd) (mx : mg x = some (.ref f)) (bi : Binds K fd ps []) (G : FnG P w K mg base S.gq n f fd ps (spF K mg (bodyF ps.length N.length g))) : Fx S n x (bodyF ps.length N.length g) := by
  obtain ⟨rfl, rfl, rfl, rfl, rfl⟩ := hS
  exact ⟨f, fd, ps, G, mx, Fu.kp, bi⟩
end
end ML
/-! ML10: what is walked; targets; loops. -/
namespace ML
open PySem L2

/-! ### what is walked -/
/-- J hands out these data, wherever what stands apart from the owned stands -/
def ItOk (K : Fg) (J : It) (ds : List D) (H : Hp) (O : OS) : Prop := ∀ H' O', Sta H O H' O' → Oc H' O' → ∀ i : Nat,
  (∀ d, ds[i]? = some d → J.go i H' ∧ ∀ x H2, J.yld i H' x H2 → Grow H' H2 ∧ RD K H2 O' x d) ∧ (ds.length ≤ i → J.stop i H')
def SemI (S : Cxt) (wi : TI) (f : Env → Res (List D)) : Prop := ∀ (σ : L2.St) (H : Hp) (O : OS) (env : Env) (T : List Addr) (R : It → Hp → Prop), Sit S.K S.A σ H O env T →
  RPost S σ H O T (fun H' O' _ ds => ∀ J, ItOk S.K J ds H' O' → R J H') (f env) → wi σ H R
def JI (S : Cxt) (tg iter : Expr) (f : Env → Res (List D)) : Prop := ∃ wi, (∀ X, S.Ok X → PI X tg iter wi) ∧ SemI S wi f
section
variable {K : Fg} {H : Hp} {O : OS}
theorem itOk_list {a : Addr} {vs : List V} {ds : List D} (h0 : ¬ O a) (h1 : H a = some (.lst vs)) (h2 : RDs K H O vs ds) : ItOk K (Itl K a) ds H O := by
  intro H' O' s c i
  have h3 := s a _ h1 h0
  have r := RDs.sta s _ _ h2
  refine ⟨fun d hd => ?_, fun hl => ⟨vs, SqL.of h3.1, by rw [r.len]; exact hl⟩⟩
  obtain ⟨v, hv, rv⟩ := r.get hd
  refine ⟨⟨vs, v, SqL.of h3.1, hv⟩, fun x H2 y => ?_⟩
  obtain ⟨e, q⟩ := y
  subst e
  have z := q vs (SqL.of h3.1)
  rw [hv] at z
  cases z
  exact ⟨.refl, rv⟩
theorem itOk_tup {a : Addr} {vs : List V} {ds : List D} (h1 : XT K H O a vs) (h2 : RDs K H O vs ds) : ItOk K (Itt K a) ds H O := by
  intro H' O' s c i
  have h3 := (h1.sta s).sq
  have r := RDs.sta s _ _ h2
  refine ⟨fun d hd => ?_, fun hl => ⟨vs, h3, by rw [r.len]; exact hl⟩⟩
  obtain ⟨v, hv, rv⟩ := r.get hd
  refine ⟨⟨vs, v, h3, hv⟩, fun x H2 y => ?_⟩
  obtain ⟨e, q⟩ := y
  subst e
  have z := q vs h3
  rw [hv] at z
  cases z
  exact ⟨.refl, rv⟩
def signs (x : Str) : List D := x.cps.toList.map fun c => .str ⟨#[c]⟩
theorem itOk_str {x : Str} : ItOk K (Its x) (signs x) H O := by
  intro H' O' s c i
  have hl : (signs x).length = x.cps.size := by
    unfold signs
    rw [List.length_map, Array.length_toList]
  refine ⟨fun d hd => ?_, fun h => by show x.cps.size ≤ i; omega⟩
  have hi : i < x.cps.size := by
    have := (List.getElem?_eq_some_iff.mp hd).1
    omega
  refine ⟨hi, fun v H2 y => ?_⟩
  obtain ⟨e, cc, e1, e2⟩ := y
  subst e e2
  refine ⟨.refl, ?_⟩
  unfold signs at hd
  rw [List.getElem?_map, Array.getElem?_toList, e1] at hd
  cases hd
  exact .str _
theorem itOk_rng {lo : Int} {n : Nat} : ItOk K (Itr lo n) ((List.range n).map fun i => .int (lo + (i : Nat))) H O := by
  intro H' O' s c i
  refine ⟨fun d hd => ?_, fun h => by show n ≤ i; simpa using h⟩
  have hi : i < n := by
    have := (List.getElem?_eq_some_iff.mp hd).1
    simpa using this
  refine ⟨hi, fun v H2 y => ?_⟩
  obtain ⟨e, e1⟩ := y
  subst e e1
  refine ⟨.refl, ?_⟩
  rw [List.getElem?_map, List.getElem?_range hi] at hd
  cases hd
  exact .int _
end
section
variable {X : Cx} {tg : Expr} {pins : List (Addr × Obj)} {σ : L2.St} {H : Hp} {s : Shared} {R : It → Hp → Prop}
/-- a list, a tuple, a text: what comes of walking the value itself -/
theorem walk_l {a : Addr} {vs : List V} (J : Inv X pins σ H s) (hq : SqL X.K H a vs) (q : R (Itl X.K a) H) : wpAny (model X.prog X.w) X.A (pyIter (.ref a)) (PIE X pins σ tg R) X.xe s := by
  obtain ⟨its, rv, pl, _⟩ := J.list hq
  refine wpAny_pyIter_list pl.isList ?_
  have nw : H s.heap.objs.size = none := J.hok.fresh (Nat.le_refl _)
  exact ⟨s.heap.objs.size, [s.heap.objs.size], _, _, H, rfl, J.kept (t' := s.toks) (fun b o z => Heap.get?_push_of_some _ z), turn_list a _, ⟨_, Heap.get?_push_size _ rfl, rfl, rfl⟩, fun b hb => by
    rw [List.mem_singleton] at hb
    rw [hb]
    exact J.fpOk (Nat.le_refl _) nw, q⟩
theorem walk_t {a : Addr} {vs : List V} (J : Inv X pins σ H s) (hq : SqT X.K H a vs) (q : R (Itt X.K a) H) : wpAny (model X.prog X.w) X.A (pyIter (.ref a)) (PIE X pins σ tg R) X.xe s := by
  obtain ⟨its, rv, pl, _⟩ := J.tuple hq
  refine wpAny_pyIter_tuple (show s.heap.IsTuple a its.toArray from pl) ?_
  have nw : H s.heap.objs.size = none := J.hok.fresh (Nat.le_refl _)
  exact ⟨s.heap.objs.size, [s.heap.objs.size], _, _, H, rfl, J.kept (t' := s.toks) (fun b o z => Heap.get?_push_of_some _ z), turn_tuple a _, ⟨_, Heap.get?_push_size _ rfl, rfl, rfl⟩, fun b hb => by
    rw [List.mem_singleton] at hb
    rw [hb]
    exact J.fpOk (Nat.le_refl _) nw, q⟩
theorem walk_s {x : Str} {t : Tok} (J : Inv X pins σ H s) (q : R (Its x) H) : wpAny (model X.prog X.w) X.A (pyIter (.str x t)) (PIE X pins σ tg R) X.xe s := by
  cases ha : x.cps.all (· < 128) with
  | true => exact wpAny_pyIter_ascii ha (pi_one (tk := s.toks) J _ (turn_str _ x t "str_ascii_iterator" (.inl rfl)) ⟨_, Heap.get?_push_size _ rfl, rfl, rfl⟩ q)
  | false => exact wpAny_pyIter_wide ha (pi_one (tk := s.toks) J _ (turn_str _ x t "str_iterator" (.inr rfl)) ⟨_, Heap.get?_push_size _ rfl, rfl, rfl⟩ q)
def iSeq (K : Fg) (te : TE) : TI := fun σ H R => te σ H fun v H1 => (∃ a vs, v = .ref a ∧ SqL K H1 a vs ∧ R (Itl K a) H1) ∨ (∃ a vs, v = .ref a ∧ SqT K H1 a vs ∧ R (Itt K a) H1) ∨ ∃ x, v = .str x ∧ R (Its x) H1
theorem pi_seq {e : Expr} {te : TE} (he : PE X e te) : PI X tg e (iSeq X.K te) := by
  constructor
  intro pins s σ H R I h
  refine thn (he.run pins s σ H _ I h) fun u s1 aa => ?_
  obtain ⟨v, H1, I1, r1, q⟩ := aa
  rcases q with ⟨a, vs, ev, hq, q⟩ | ⟨a, vs, ev, hq, q⟩ | ⟨x, ev, q⟩
  · subst ev
    cases r1
    exact walk_l I1 hq q
  · subst ev
    cases r1
    exact walk_t I1 hq q
  · subst ev
    obtain ⟨t, rfl⟩ := r1
    exact walk_s I1 q
end
def itemsOf : D → Option (List D)
  | .list xs => some xs
  | .tuple xs => some xs
  | .str x => some (signs x)
  | _ => none
def iOf (f : Env → Res D) (env : Env) : Res (List D) := (f env).bind fun env1 d => match itemsOf d with | some ds => .ok env1 ds | none => .bad
section
variable {S : Cxt} {tg e e1 e2 : Expr} {es : List Expr} {pos pp : Pos}
theorem ji_seq {f : Env → Res D} (h : JD S e f) : JI S tg e (iOf f) := by
  obtain ⟨t, h1, h2⟩ := h
  refine ⟨iSeq S.K t, fun X o => by have z := pi_seq (tg := tg) (h1 X o); rw [o.K] at z; exact z, fun σ H O env T R s q => h2 σ H O env T _ s (rp_bind q fun H1 O1 env1 d _ s1 t1 k1 v rv => ?_)⟩
  cases ei : itemsOf d with
  | none => rw [ei] at k1; exact k1.elim
  | some ds =>
    rw [ei] at k1
    have k2 := k1 H1 O1 s1 s1.rtr
    unfold itemsOf at ei
    split at ei
    · cases ei
      cases rv with
      | lst a b c => exact .inl ⟨_, _, rfl, SqL.of b, k2 _ (itOk_list a b c)⟩
    · cases ei
      cases rv with
      | tup a b => exact .inr (.inl ⟨_, _, rfl, a.sq, k2 _ (itOk_tup a b)⟩)
    · cases ei
      cases rv
      exact .inr (.inr ⟨_, rfl, k2 _ itOk_str⟩)
    · cases ei
def rngOf (lo hi : Int) : List D := (List.range (hi - lo).toNat).map fun i => .int (lo + (i : Nat))
def rngOk (i : Int) : Prop := i.natAbs < 2 ^ 62
instance (i : Int) : Decidable (rngOk i) := inferInstanceAs (Decidable (_ < _))
theorem rngOk.lo {i : Int} (h : rngOk i) : -(2 ^ 62) ≤ i := by
  unfold rngOk at h
  omega
theorem rngOk.hi {i : Int} (h : rngOk i) : i < 2 ^ 62 := by
  unfold rngOk at h
  omega
def iRange1 (f : Env → Res (List D)) (env : Env) : Res (List D) := (f env).bind fun env1 ds => match ds with
  | [.int j] => if rngOk j then .ok env1 (rngOf 0 j) else .bad
  | _ => .bad
def iRange2 (f : Env → Res (List D)) (env : Env) : Res (List D) := (f env).bind fun env1 ds => match ds with
  | [.int i, .int j] => if rngOk i ∧ rngOk j then .ok env1 (rngOf i j) else .bad
  | _ => .bad
theorem itOk_rng2 {K : Fg} {H : Hp} {O : OS} (i j : Int) : ItOk K (Itr i (j - i).toNat) (rngOf i j) H O := itOk_rng
theorem ji_range1 {f : Env → Res (List D)} (hg : Gn S "range") (hm : S.mg "range" = none) (h : JDA S [e] f) (hs : ∀ env, starEach [e] env = [(false, eval e env)] := by intro _; rfl) : JI S tg (.Call (.Name "range" pp) [e] [] pos) (iRange1 f) := by
  obtain ⟨t, h1, h2⟩ := h
  refine ⟨iRng1 t, fun X o => pi_range1 (gl_of o hg) (by rw [o.mg]; exact hm) (h1 X o) (hs _), fun σ H O env T R s q => h2 σ H O env T _ s (rp_bind q fun H1 O1 env1 ds _ s1 t1 k1 vs rv => ?_)⟩
  split at k1
  · split at k1
    · rename_i j _ hj
      cases rv with
      | cons a b =>
        cases a
        cases b
        refine ⟨_, rfl, hj.lo, hj.hi, k1 H1 O1 s1 s1.rtr _ ?_⟩
        have z := itOk_rng2 (K := S.K) (H := H1) (O := O1) 0 j
        rw [Int.sub_zero] at z
        exact z
    · exact k1.elim
  · exact k1.elim
/-! ### targets -/
/-- the slots ws alone may change -/
def Only1 (ws : List Nat) (σ σ' : L2.St) : Prop := σ'.length = σ.length ∧ ∀ i, i ∉ ws → σ'[i]? = σ[i]?
def SemG (S : Cxt) (tg : TG) (ws : List Nat) (gt : D → Env → Option Env) : Prop := ∀ (v : V) (d : D) (σ : L2.St) (H : Hp) (O : OS) (env env' : Env) (T : List Addr) (Q : L2.St → Hp → Prop), Sit S.K S.A σ H O env T → RD S.K H O v d → gt d env = some env' →
  (∀ σ', Sit S.K S.A σ' H O env' T → Only1 ws σ σ' → Q σ' H) → tg v σ H Q
def JG (S : Cxt) (tg : Expr) (ws : List Nat) (gt : D → Env → Option Env) : Prop := ∃ t, (∀ X, S.Ok X → PG X tg t) ∧ SemG S t ws gt
def gN (i : Nat) (d : D) (env : Env) : Option Env := if i < env.length then some (env.set i (.dat d)) else none
theorem jg_name (i : Nat) {x : Str} (nd : S.N.Nodup) (hN : S.N[i]? = some x) (hx : Loc S.sc x) (hl : S.blk = false ∨ S.sc.names.lookup x = some .local) : JG S (.Name x pos) [i] (gN i) := by
  refine ⟨gName i, fun X o => pg_name (by rw [o.N]; exact nd) (by rw [o.N]; exact hN) (by rw [o.sc]; exact hx) (o.fnx hx hl), fun v d σ H O env env' T Q s r e k => ?_⟩
  unfold gN at e
  split at e
  · rename_i hi
    cases e
    refine k _ (Sit.put (fq := []) s hi (.dat r)) ⟨by simp, fun j hj => ?_⟩
    rw [List.getElem?_set_ne]
    intro z
    exact hj (by simp [z])
  · cases e
def SemGs (S : Cxt) (tg : TGs) (ws : List Nat) (gt : List D → Env → Option Env) : Prop := ∀ (vs : List V) (ds : List D) (σ : L2.St) (H : Hp) (O : OS) (env env' : Env) (T : List Addr) (Q : L2.St → Hp → Prop), Sit S.K S.A σ H O env T → RDs S.K H O vs ds → gt ds env = some env' →
  (∀ σ', Sit S.K S.A σ' H O env' T → Only1 ws σ σ' → Q σ' H) → tg vs σ H Q
def JGs (S : Cxt) (tgs : List Expr) (ws : List Nat) (gt : List D → Env → Option Env) : Prop := ∃ t, (∀ X, S.Ok X → PGs X tgs t) ∧ SemGs S t ws gt
def gsNil (ds : List D) (env : Env) : Option Env := match ds with | [] => some env | _ => none
def gsCons (g : D → Env → Option Env) (k : List D → Env → Option Env) (ds : List D) (env : Env) : Option Env := match ds with | d :: r => (g d env).bind (k r) | [] => none
theorem Only1.refl (ws : List Nat) (σ : L2.St) : Only1 ws σ σ := ⟨rfl, fun _ _ => rfl⟩
theorem jgs_nil : JGs S [] [] gsNil := by
  refine ⟨gNil, fun X o => pgs_nil, fun vs ds σ H O env env' T Q s r e k => ?_⟩
  unfold gsNil at e
  split at e
  · cases e
    cases r
    exact ⟨rfl, k σ s (.refl _ _)⟩
  · cases e
theorem jgs_cons {tgs : List Expr} {ws ws' : List Nat} {g : D → Env → Option Env} {k : List D → Env → Option Env} (h : JG S tg ws g) (h' : JGs S tgs ws' k) (hs : ∀ env, (assignEach (tg :: tgs) env).map (·.2) = assign tg env :: (assignEach tgs env).map (·.2) := by intro _; rfl) : JGs S (tg :: tgs) (ws ++ ws') (gsCons g k) := by
  obtain ⟨t, h1, h2⟩ := h
  obtain ⟨u, h3, h4⟩ := h'
  refine ⟨gCons t u, fun X o => pgs_cons (h1 X o) (h3 X o) (hs _), fun vs ds σ H O env env' T Q s r e k => ?_⟩
  unfold gsCons at e
  cases r with
  | nil => cases e
  | @cons v vs d ds a b =>
    obtain ⟨env1, e1, e2⟩ := Option.bind_eq_some_iff.mp e
    refine ⟨v, vs, rfl, h2 v d σ H O env env1 T _ s a e1 fun σ1 s1 o1 => ?_⟩
    refine h4 vs ds σ1 H O env1 env' T Q s1 b e2 fun σ2 s2 o2 => k σ2 s2 ⟨o2.1.trans o1.1, fun i hi => ?_⟩
    rw [o2.2 i (fun z => hi (by simp [z])), o1.2 i (fun z => hi (by simp [z]))]
def gTupD (n : Nat) (k : List D → Env → Option Env) (d : D) (env : Env) : Option Env := match d with | .tuple ds => if ds.length = n then k ds env else none | _ => none
theorem jg_tup {tgs : List Expr} {ws : List Nat} {n : Nat} {k : List D → Env → Option Env} {kk} (h : JGs S tgs ws k) (hn : ∀ env, (assignEach tgs env).length = n := by intro _; rfl) (hst : ∀ env, (assignEach tgs env).findIdx? (·.1) = none := by intro _; rfl) : JG S (.Tuple tgs kk pos) ws (gTupD n k) := by
  obtain ⟨t, h1, h2⟩ := h
  refine ⟨L2.gTup S.K n t, fun X o => by have z := pg_tup (pos := pos) (k := kk) o.calm (h1 X o) (hn _) (hst _); rw [o.K] at z; exact z, fun v d σ H O env env' T Q s r e q => ?_⟩
  unfold gTupD at e
  split at e
  · split at e
    · rename_i ds hl
      cases r with
      | @tup a vs _ r1 r2 => exact ⟨a, vs, rfl, r1.sq, by rw [r2.len]; exact hl, h2 vs ds σ H O env env' T Q s r2 e q⟩
    · cases e
  · cases e

/-! ### for -/
def forF (gt : D → Env → Option Env) (g : Env → Fl) : List D → Env → Fl
  | [], env => .nx env
  | d :: ds, env => match gt d env with
    | none => .bad
    | some env1 => match g env1 with
      | .nx e => forF gt g ds e
      | .ct e => forF gt g ds e
      | .bk e => .nx e
      | f => f
def sFor (fi : Env → Res (List D)) (gt : D → Env → Option Env) (g : Env → Fl) (env : Env) : Fl := (fi env).fl fun env1 ds => forF gt g ds env1
theorem js_for {iter : Expr} {body : List Stmt} {ws : List Nat} {fi : Env → Res (List D)} {gt : D → Env → Option Env} {g : Env → Fl} (hi : JI S tg iter fi) (hg : JG S tg ws gt) (hb : JSs S body g) (hs : ∀ env x, foldedSetIterable iter env x = pure x := by intro _ _; rfl) :
    JS S (.For tg iter body [] pos) (sFor fi gt g) := by
  obtain ⟨wi, h1, h2⟩ := hi
  obtain ⟨tg', h3, h4⟩ := hg
  obtain ⟨tb, h5, h6⟩ := hb
  refine ⟨tFor wi tg' tb, fun X o => ps_for o.pass o.calm (h1 X o) (h3 X o) (h5 X o) (hs _), fun σ H O env E s q => h2 σ H O env [] _ s (fl_post q fun H1 O1 env1 ds _ s1 t1 k1 J hJ => ?_)⟩
  refine ⟨fun i m σ' H' => m = ds.length - i ∧ i ≤ ds.length ∧ ∃ O' env', Sit S.K S.A σ' H' O' env' [] ∧ Tr [] H1 O1 H' O' ∧ FPost S σ' H' O' E (forF gt g (ds.drop i) env'), ⟨_, rfl, Nat.zero_le _, O1, env1, s1, s1.rtr, by simpa using k1⟩, ?_⟩
  rintro i m σ' H' ⟨rfl, hl, O', env', s', t', q'⟩
  have it := hJ H' O' t'.1 s'.oc i
  by_cases hlt : i < ds.length
  · refine .inr ⟨(it.1 ds[i] (by simp [hlt])).1, fun σ2 H2 => (ds.length - (i + 1)) < ds.length - i ∧ i + 1 ≤ ds.length ∧ ∃ O2 env2, Sit S.K S.A σ2 H2 O2 env2 [] ∧ Tr [] H1 O1 H2 O2 ∧ FPost S σ2 H2 O2 E (forF gt g (ds.drop (i + 1)) env2), fun σ2 H2 h => ⟨_, h.1, rfl, h.2.1, h.2.2⟩, fun x H2 y => ?_⟩
    obtain ⟨gr, rd⟩ := (it.1 ds[i] (by simp [hlt])).2 x H2 y
    have ed : ds.drop i = ds[i] :: ds.drop (i + 1) := List.drop_eq_getElem_cons hlt
    rw [ed] at q'
    unfold forF at q'
    cases eg : gt ds[i] env' with
    | none => rw [eg] at q'; exact q'.elim
    | some env2 =>
      rw [eg] at q'
      dsimp only at q'
      refine h4 x _ σ' H2 O' env' env2 [] _ (s'.grow gr) rd eg fun σ3 s3 _ => h6 σ3 H2 O' env2 _ s3 ?_
      have tt : Tr [] H1 O1 H2 O' := t'.trans (s'.gtr gr)
      have q2 := fp_tr (σ1 := σ3) q' (s'.gtr gr)
      have step : ∀ e, FPost S σ3 H2 O' E (forF gt g (ds.drop (i + 1)) e) → ∀ σ4 H4 O4, Sit S.K S.A σ4 H4 O4 e [] → Tr [] H2 O' H4 O4 → (ds.length - (i + 1)) < ds.length - i ∧ i + 1 ≤ ds.length ∧ ∃ O2 env2, Sit S.K S.A σ4 H4 O2 env2 [] ∧ Tr [] H1 O1 H4 O2 ∧ FPost S σ4 H4 O2 E (forF gt g (ds.drop (i + 1)) env2) :=
        fun e f σ4 H4 O4 s4 t4 => ⟨by omega, by omega, O4, e, s4, tt.trans t4, fp_tr f t4⟩
      cases eb : g env2 with
      | nx e => rw [eb] at q2; exact fun σ4 H4 O4 s4 t4 => step e q2 σ4 H4 O4 s4 t4
      | ct e => rw [eb] at q2; exact fun σ4 H4 O4 s4 t4 => step e q2 σ4 H4 O4 s4 t4
      | bk e => rw [eb] at q2; exact fun σ4 H4 O4 s4 t4 => q2 σ4 H4 O4 s4 t4
      | rt e r => rw [eb] at q2; exact fun σ4 v H4 O4 fq s4 r4 t4 => q2 σ4 v H4 O4 fq s4 r4 t4
      | err e x => rw [eb] at q2; exact fun σ4 cls dd H4 O4 s4 t4 ex => q2 σ4 cls dd H4 O4 s4 t4 ex
      | bad => rw [eb] at q2; exact q2.elim
  · have e0 : i = ds.length := by omega
    refine .inl ⟨it.2 (by omega), ?_⟩
    rw [e0, List.drop_length] at q'
    exact q' σ' H' O' s' s'.rtr

/-! ### while -/
end
end ML
/-! ML11: list comprehensions. -/
namespace ML
open PySem L2
def wipeE (env : Env) : List Nat → Env
  | [] => env
  | v :: vs => (wipeE env vs).set v .un
section
variable {K : Fg} {A : Act} {H : Hp} {O : OS} {σ : L2.St} {env : Env} {T fp : List Addr}
theorem RE.unset (h : RE K A H O σ env fp) (i : Nat) (x : Option V) : ∃ fp', fp'.Sublist fp ∧ RE K A H O (σ.set i x) (env.set i .un) fp' := by
  induction h generalizing i with
  | nil => exact ⟨[], List.Sublist.refl _, .nil⟩
  | un h1 ih =>
    cases i with
    | zero => exact ⟨_, List.Sublist.refl _, .un h1⟩
    | succ i =>
      obtain ⟨fp', a, b⟩ := ih i
      exact ⟨fp', a, .un b⟩
  | @cons v s σ0 env0 fq fp0 h0 h1 ih =>
    cases i with
    | zero => exact ⟨fp0, List.sublist_append_right _ _, .un h1⟩
    | succ i =>
      obtain ⟨fp', a, b⟩ := ih i
      exact ⟨fq ++ fp', List.Sublist.append (List.Sublist.refl _) a, .cons h0 b⟩
theorem Sit.unset (S : Sit K A σ H O env T) (i : Nat) (x : Option V) : Sit K A (σ.set i x) H O (env.set i .un) T := by
  obtain ⟨fp, r, nd, ow⟩ := S.slots
  obtain ⟨fp', a, b⟩ := r.unset i x
  exact ⟨⟨fp', b, nd.sublist (List.Sublist.append a (List.Sublist.refl _)), fun c hc => ow c (by
    rcases List.mem_append.mp hc with h | h
    · simp [a.subset h]
    · simp [h])⟩, S.oc, S.base, S.o0, S.on, S.m0, S.tabs⟩
theorem Sit.wipe (S : Sit K A σ H O env T) : ∀ vs : List Nat, Sit K A (L2.wipe σ vs) H O (wipeE env vs) T
  | [] => S
  | v :: vs => (Sit.wipe S vs).unset v none
theorem wipe_ne (σ : L2.St) : ∀ (vs : List Nat) (i : Nat), i ∉ vs → (L2.wipe σ vs)[i]? = σ[i]?
  | [], i, _ => rfl
  | v :: vs, i, h => by
    unfold L2.wipe
    rw [List.getElem?_set_ne (fun e => h (by simp [e])), wipe_ne σ vs i (fun q => h (by simp [q]))]
theorem wipe_only {σ σ' : L2.St} {vs : List Nat} (h : Only1 vs σ σ') : L2.wipe σ' vs = L2.wipe σ vs := by
  apply List.ext_getElem?
  intro i
  by_cases hi : i ∈ vs
  · by_cases hl : i < σ.length
    · have z : ∀ (τ : L2.St) (ws : List Nat), i ∈ ws → i < τ.length → (L2.wipe τ ws)[i]? = some none := by
        intro τ ws
        induction ws with
        | nil => intro a; simp at a
        | cons w ws ih =>
          intro a b
          unfold L2.wipe
          by_cases e : w = i
          · subst e
            rw [List.getElem?_set_self (by rw [wipe_length]; exact b)]
          · rw [List.getElem?_set_ne e]
            refine ih ?_ b
            rcases List.mem_cons.mp a with q | q
            · exact absurd q.symm e
            · exact q
      rw [z σ' vs hi (by rw [h.1]; exact hl), z σ vs hi hl]
    · rw [List.getElem?_eq_none (by rw [wipe_length, h.1]; omega), List.getElem?_eq_none (by rw [wipe_length]; omega)]
  · rw [wipe_ne _ _ _ hi, wipe_ne _ _ _ hi, h.2 i hi]
end

/-- within a comprehension -/
def Cxt.inn (S : Cxt) (scope : Scope) : Cxt := { S with sc := relS scope S.sc, W := fun _ _ _ _ => False, blk := true }
theorem inn_ok {S : Cxt} {X : Cx} (o : S.Ok X) {scope : Scope} (hk : scope.kind = .function) (s : Shared) (H : Hp) (C : Addr) (cl : List (Str × Addr)) (fp : List Addr) : (S.inn scope).Ok (X.blk s H scope (compEnvC scope cl C X.env) fp) := by
  obtain ⟨o1, o2, o3, o4, o5, o6, o7, o8, o9, o10, o11, o12, o13, o14, o15, o16⟩ := o
  refine ⟨o1, o2, o3, o4, o5, o6, ?_, o8, o9, o10, PassesOwn.never, fun u s' h => ?_, fun z => (by cases z), hk, o15, fun z => (by cases z)⟩
  · show relS scope X.env.scope = relS scope S.sc
    rw [o7]
  · obtain ⟨_, _, _, _, _, _, _, _, _, _, _, _, _, _, _, _, z⟩ := h
    exact z
section
variable {S : Cxt} {elt tg iter : Expr} {ifs : List Expr} {scope : Scope} {own : List (Str × Nat)} {ws : List Nat} {pos : Pos} {fi : Env → Res (List D)} {gt : D → Env → Option Env} {u : Env → Res Bool} {el : Env → Res D}
end
end ML
/-! ML12: several targets; lists that are changed. -/
namespace ML
open PySem L2
section
variable {S : Cxt} {e e1 e2 e3 : Expr} {es : List Expr} {pos : Pos}
def sPar (i j : Nat) (fa fb : Env → Res SV) (env : Env) : Fl := (fa env).fl fun env1 a => (fb env1).fl fun env2 b => if i < env2.length ∧ j < env2.length then .nx ((env2.set j b).set i a) else .bad
theorem sc_of {X : Cx} (o : S.Ok X) {P : PySem.Env → Prop} (h : ∀ env : PySem.Env, env.scope = S.sc → P env) : P X.env := h _ o.sc
theorem js_par (i j : Nat) {x y : Str} {px py pt : Pos} {kt k2 pt2} {fa fb : Env → Res SV} (nd : S.N.Nodup) (hx : S.N[i]? = some x) (hy : S.N[j]? = some y) (hij : i ≠ j) (lx : S.sc.names.lookup x = some .local) (ly : S.sc.names.lookup y = some .local)
    (ha : JE S e1 fa) (hb : JE S e2 fb) (hw : ∀ env : PySem.Env, env.scope = S.sc → swappedStores [.Tuple [.Name x px, .Name y py] kt pt] (.Tuple [e1, e2] k2 pt2) env = pure (some [x, y]))
    (hs1 : ∀ env, starEach [e1, e2] env = [(false, eval e1 env), (false, eval e2 env)] := by intro _; rfl) (hs2 : ∀ env, starEach [e2] env = [(false, eval e2 env)] := by intro _; rfl) :
    JS S (.Assign [.Tuple [.Name x px, .Name y py] kt pt] (.Tuple [e1, e2] k2 pt2) pos) (sPar i j fa fb) := by
  obtain ⟨t, h1, h2⟩ := ha
  obtain ⟨u, h3, h4⟩ := hb
  refine ⟨tPar i j (tCons t (tCons u tNil)), fun X o => ?_, fun σ H O env E s q => ?_⟩
  · exact ps_par o.calm (by rw [o.N]; exact nd) (by rw [o.N]; exact hx) (by rw [o.N]; exact hy) hij (by rw [o.sc]; exact lx) (by rw [o.sc]; exact ly) (pa_cons (h1 X o) (pa_cons (h3 X o) pa_nil (by rw [hs2]; rfl)) (by rw [hs1, hs2])) (sc_of o hw)
  · unfold sPar at q
    refine h2 σ H O env [] _ s ?_
    cases ea : fa env with
    | bad => rw [ea] at q; exact q
    | err a b => rw [ea] at q; exact fun cls dd H' O' s' t' ex => q σ cls dd H' O' s' t' ex
    | ok env1 sa =>
      rw [ea] at q
      dsimp only [Res.fl] at q
      intro v H1 O1 fq s1 r1 t1
      rw [List.append_nil] at s1
      refine h4 σ H1 O1 env1 fq _ s1 ?_
      cases eb : fb env1 with
      | bad => rw [eb] at q; exact q.elim
      | err a b =>
        rw [eb] at q
        exact fun cls dd H' O' s' t' ex => q σ cls dd H' O' (Sit.less (T := []) (by rw [List.append_nil]; exact s')) (t1.trans (t'.less fun b hb => absurd hb List.not_mem_nil)) ex
      | ok env2 sb =>
        rw [eb] at q
        dsimp only at q
        intro w H2 O2 fq2 s2 r2 t2
        by_cases hl : i < env2.length ∧ j < env2.length
        · rw [if_pos hl] at q
          refine ⟨v, w, rfl, ?_⟩
          have r1' : RS S.K S.A H2 O2 v sa fq := r1.sta t2.1 fun b hb => (t2.2 b hb).1
          have s3 := s2.put hl.2 r2
          have s4 := Sit.put (T := []) (by rw [List.append_nil]; exact s3) (i := i) (by rw [List.length_set]; exact hl.1) r1'
          rw [List.set_comm _ _ hij.symm] at s4
          exact q _ H2 O2 s4 (t1.trans (t2.less fun b hb => absurd hb List.not_mem_nil))
        · rw [if_neg hl] at q
          exact q.elim
/-- a, b = e, any target -/
def sAsg (f : Env → Res D) (gt : D → Env → Option Env) (env : Env) : Fl := (f env).fl fun env1 d => match gt d env1 with | some env2 => .nx env2 | none => .bad
/-! ### x.append(e), x.extend(e), x.pop(), x[i] = e, x a slot's own list -/
def ownL (env : Env) (i : Nat) : Option (Option Nat × List D) := match env[i]? with
  | some (.own tag (.lst xs)) => some (tag, xs)
  | _ => none
theorem ownL_eq {env : Env} {i : Nat} {tag : Option Nat} {xs : List D} (h : ownL env i = some (tag, xs)) : env[i]? = some (.own tag (.lst xs)) := by
  unfold ownL at h
  split at h
  · rename_i h'
    cases h
    exact h'
  · cases h
def sAppend (i : Nat) (f : Env → Res D) (env : Env) : Fl := match ownL env i with
  | none => .bad
  | some _ => (f env).fl fun env1 d => match ownL env1 i with
    | some (tag, xs) => if xs.length < sizeLine then .nx (env1.set i (.own tag (.lst (xs ++ [d])))) else .bad
    | none => .bad
theorem js_append (i : Nat) {x : Str} {px ap cp : Pos} {f : Env → Res D} (hN : S.N[i]? = some x) (hv : Vis S.sc x) (hd : (x == ("__debug__" : Str)) = false) (hc : (x == ("__classdict__" : Str)) = false) (he : JD S e f)
    (hline : (ap.endLine == cp.line) = true) (hst : ∀ env, starEach [e] env = [(false, eval e env)] := by intro _; rfl)
    (hbase : ∀ env, attributeBase (.Name x px) "append" env (eval (.Name x px) env) = eval (.Name x px) env := by intro _; rfl) :
    JS S (.Expr (.Call (.Attribute (.Name x px) "append" ap) [e] [] cp) pos) (sAppend i f) := by
  obtain ⟨t, h1, h2⟩ := he
  refine ⟨tDrop (tBM S.K "list" rAppend (tVar i) (tCons t tNil)), fun X o => ?_, fun σ H O env E s q => ?_⟩
  · have z := pe_bm (cpos := cp) (apos := ap) PySem.F.plainAttrs_list PySem.F.slot_list_append PySem.F.type_list_append (mt_append (X := X)) (pe_var (pos := px) (i := i) (by rw [o.N]; exact hN) (by rw [o.sc]; exact hv) hd hc) (pa_cons (h1 X o) pa_nil (by rw [hst]; rfl)) (hbase _)
      (by rw [hst]; rfl) hline (by rw [hst]; rfl) (by rfl)
    rw [o.K] at z
    exact ps_expr z (by rfl)
  · unfold sAppend at q
    cases e0 : ownL env i with
    | none => rw [e0] at q; exact q.elim
    | some p0 =>
      obtain ⟨tag0, xs0⟩ := p0
      rw [e0] at q
      obtain ⟨a, vs, w1, w2, w3, w4, _⟩ := s.mutL (ys := []) (ownL_eq e0)
      refine ⟨_, w1, .inl ⟨rfl, vs, SqL.of w2⟩, ?_⟩
      refine h2 σ H O env [] _ s (fl_post q fun H1 O1 env1 d _ s1 t1 k1 v rv => ?_)
      cases e1 : ownL env1 i with
      | none => rw [e1] at k1; exact k1.elim
      | some p1 =>
        obtain ⟨tag, xs⟩ := p1
        rw [e1] at k1
        dsimp only at k1
        obtain ⟨a', vs', y1, y2, y3, y4, y5⟩ := s1.mutL (ys := xs ++ [d]) (ownL_eq e1)
        rw [w1] at y1
        cases y1
        by_cases hl : xs.length < sizeLine
        · rw [if_pos hl] at k1
          obtain ⟨s2, t2⟩ := y5 (vs' ++ [v]) (y3.app (.cons rv .nil))
          exact ⟨_, vs', v, rfl, rfl, y2, by rw [y3.len]; exact hl, k1 σ _ O1 s2 t2⟩
        · rw [if_neg hl] at k1
          exact k1.elim
/-- list.extend by a list, by a tuple -/
theorem ext_tup (l : Addr) (items : Array Value) (n : Nat) (b : Addr) (items2 : Array Value) (n2 : Nat) (dd : Option Addr) (sl : Array (Option Value)) (hs0 : ¬(!items.isEmpty && Builtin.List.listTooLong (items.size + items2.size)) = true) (hs1 : items.size ≤ sizeLine) (hs2 : items.size + items2.size ≤ sizeLine + 1) :
    Meets (Builtin.«list.extend» ⟨[.ref l, .ref b], []⟩) (fun _ R s => s.heap.get? l = some { cls := .type "list", dict := none, data := .seq items n, slots := #[] } ∧ s.heap.get? b = some { cls := .type "tuple", dict := dd, data := .seq items2 n2, slots := sl } ∧
      R (.ok (.ret Value.none)) { s with heap := s.heap.update l (Obj.mapSeq fun x => x ++ items2), toks := s.toks }) :=
  .of_wp fun prog w A R s h => by
    obtain ⟨hp, g, d, tk, os⟩ := s
    obtain ⟨hl, hb, h⟩ := h
    have g1 := AutoSeq1.idx_int
    have g2 := AutoSeq1.sub_tuple_tuple
    have g3 := AutoSeq1.sub_list_list
    have g4 := AutoSeq1.sub_tuple_list
    have g5 := AutoSeq1.sub_list_tuple
    have hz : (items ++ items2).size ≤ sizeLine + 1 := by
      rw [Array.size_append]
      exact hs2
    wp_walk using (wpAny_updateSeq hl rfl (hz := hs1) (_hz' := hz)), wpAny_loadPart' hl, wpAny_loadPart' hb
    exact ⟨_, rfl, h⟩
def rExtA (K : Fg) : V → List V → Hp → VK → Prop := fun x vs H Q => rExtend x vs H Q ∨ ∃ l b xs zs, x = .ref l ∧ vs = [.ref b] ∧ H l = some (.lst xs) ∧ SqT K H b zs ∧ xs.length + zs.length ≤ sizeLine ∧ Q .non (upd H l (.lst (xs ++ zs)))
theorem mt_extA {X : Cx} : MtR X "list.extend" (rExtA X.K) := by
  intro pins s σ H x vs v us Q I rx rv h
  rcases h with h | h
  · exact mt_extend pins s σ H x vs v us Q I rx rv h
  · obtain ⟨l, b, xs, zs, rfl, rfl, hl, hb, hz, q⟩ := h
    cases rx
    obtain ⟨u, rfl, ru⟩ := rv.one
    cases ru
    obtain ⟨z1, its, n, r1, ln, g1⟩ := I.lstM hl
    obtain ⟨its2, r2, ⟨⟨cc, dd, dat, sl⟩, ho, hcl, n2, hdat⟩, z2⟩ := I.tuple hb
    simp only at hcl hdat
    subst hcl hdat
    have l2 := r2.length
    have fit : its.toArray.size + its2.toArray.size ≤ sizeLine := by
      rw [List.size_toArray, List.size_toArray]
      omega
    have few : ¬ (!its.toArray.isEmpty && Builtin.List.listTooLong (its.toArray.size + its2.toArray.size)) = true := by
      rw [notLongL fit, Bool.and_false]
      exact Bool.false_ne_true
    refine call_meets PySem.F.slot_list_extend ⟨_, g1, rfl⟩ PySem.F.entry_list_extend (PySem.F.args_list_extend_2 _ _) (ext_tup l its.toArray n b its2.toArray n2 dd sl few (by rw [List.size_toArray]; omega) (by omega)) ⟨g1, ho, ?_⟩
    refine ⟨.non, _, I.lset (its' := its ++ its2) hl g1 (by simp) (r1.append r2) ?_, rfl, q⟩
    rw [List.length_append]
    omega
def sExtend (i : Nat) (f : Env → Res D) (env : Env) : Fl := match ownL env i with
  | none => .bad
  | some _ => (f env).fl fun env1 d => match ownL env1 i, d with
    | some (tag, xs), .list ys => if xs.length + ys.length ≤ sizeLine then .nx (env1.set i (.own tag (.lst (xs ++ ys)))) else .bad
    | some (tag, xs), .tuple ys => if xs.length + ys.length ≤ sizeLine then .nx (env1.set i (.own tag (.lst (xs ++ ys)))) else .bad
    | _, _ => .bad
theorem js_extend (i : Nat) {x : Str} {px ap cp : Pos} {f : Env → Res D} (hN : S.N[i]? = some x) (hv : Vis S.sc x) (hd : (x == ("__debug__" : Str)) = false) (hc : (x == ("__classdict__" : Str)) = false) (he : JD S e f)
    (hline : (ap.endLine == cp.line) = true) (hst : ∀ env, starEach [e] env = [(false, eval e env)] := by intro _; rfl)
    (hbase : ∀ env, attributeBase (.Name x px) "extend" env (eval (.Name x px) env) = eval (.Name x px) env := by intro _; rfl) :
    JS S (.Expr (.Call (.Attribute (.Name x px) "extend" ap) [e] [] cp) pos) (sExtend i f) := by
  obtain ⟨t, h1, h2⟩ := he
  refine ⟨tDrop (tBM S.K "list" (rExtA S.K) (tVar i) (tCons t tNil)), fun X o => ?_, fun σ H O env E s q => ?_⟩
  · have z := pe_bm (cpos := cp) (apos := ap) PySem.F.plainAttrs_list PySem.F.slot_list_extend PySem.F.type_list_extend (mt_extA (X := X)) (pe_var (pos := px) (i := i) (by rw [o.N]; exact hN) (by rw [o.sc]; exact hv) hd hc) (pa_cons (h1 X o) pa_nil (by rw [hst]; rfl)) (hbase _)
      (by rw [hst]; rfl) hline (by rw [hst]; rfl) (by rfl)
    rw [o.K] at z
    exact ps_expr z (by rfl)
  · unfold sExtend at q
    cases e0 : ownL env i with
    | none => rw [e0] at q; exact q.elim
    | some p0 =>
      obtain ⟨tag0, xs0⟩ := p0
      rw [e0] at q
      obtain ⟨a, vs, w1, w2, w3, w4, _⟩ := s.mutL (ys := []) (ownL_eq e0)
      refine ⟨_, w1, .inl ⟨rfl, vs, SqL.of w2⟩, ?_⟩
      refine h2 σ H O env [] _ s (fl_post q fun H1 O1 env1 d _ s1 t1 k1 v rv => ?_)
      cases e1 : ownL env1 i with
      | none => rw [e1] at k1; exact k1.elim
      | some p1 =>
        obtain ⟨tag, xs⟩ := p1
        rw [e1] at k1
        cases d with
        | list ys =>
          dsimp only at k1
          obtain ⟨a', vs', y1, y2, y3, y4, y5⟩ := s1.mutL (ys := xs ++ ys) (ownL_eq e1)
          rw [w1] at y1
          cases y1
          by_cases hl : xs.length + ys.length ≤ sizeLine
          · rw [if_pos hl] at k1
            cases rv with
            | lst b1 b2 b3 =>
              obtain ⟨s2, t2⟩ := y5 _ (y3.app b3)
              exact .inl ⟨_, _, vs', _, rfl, rfl, y2, b2, by rw [y3.len, b3.len]; exact hl, k1 σ _ O1 s2 t2⟩
          · rw [if_neg hl] at k1
            exact k1.elim
        | tuple ys =>
          dsimp only at k1
          obtain ⟨a', vs', y1, y2, y3, y4, y5⟩ := s1.mutL (ys := xs ++ ys) (ownL_eq e1)
          rw [w1] at y1
          cases y1
          by_cases hl : xs.length + ys.length ≤ sizeLine
          · rw [if_pos hl] at k1
            cases rv with
            | tup b2 b3 =>
              obtain ⟨s2, t2⟩ := y5 _ (y3.app b3)
              exact .inr ⟨_, _, vs', _, rfl, rfl, y2, b2.sq, by rw [y3.len, b3.len]; exact hl, k1 σ _ O1 s2 t2⟩
          · rw [if_neg hl] at k1
            exact k1.elim
        | _ => exact k1.elim
/-- x[i] = e -/
def sSetIx (i : Nat) (f : Env → Res D) (k : Env → Option D) (env : Env) : Fl := (f env).fl fun env1 d => match ownL env1 i, k env1 with
  | some (tag, xs), some (.int n) => match ixN xs.length n with
    | some j => .nx (env1.set i (.own tag (.lst (xs.set j d))))
    | none => .bad
  | _, _ => .bad
theorem js_setIx (i : Nat) {x : Str} {px p2 : Pos} {f : Env → Res D} {ix : Expr} {k : Env → Option D} (hN : S.N[i]? = some x) (hv : Vis S.sc x) (hd : (x == ("__debug__" : Str)) = false) (hc : (x == ("__classdict__" : Str)) = false) (he : JD S e f) (hk : JB S ix k)
    (hs : ∀ env, swapsWithSole [.Subscript (.Name x px) ix p2] e pos.line env = pure false := by intro _; rfl) (hw : ∀ env, swappedStores [.Subscript (.Name x px) ix p2] e env = pure none := by intro _; rfl)
    (hpg : ∀ X u, S.Ok X → PE X ix u → PG X (.Subscript (.Name x px) ix p2) (gSub (tVar i) u rSetL) := by intro X u o h; exact pg_sub (pe_var (by rw [o.N]; assumption) (by rw [o.sc]; assumption) (by assumption) (by assumption)) h set_list) :
    JS S (.Assign [.Subscript (.Name x px) ix p2] e pos) (sSetIx i f k) := by
  obtain ⟨t, h1, h2⟩ := he
  obtain ⟨u, h3, h4⟩ := hk
  refine ⟨tAsg t (gSub (tVar i) u rSetL), fun X o => ps_asg (h1 X o) (hpg X u o (h3 X o)) (hs _) (hw _), fun σ H O env E s q => h2 σ H O env [] _ s (fl_post q fun H1 O1 env1 d _ s1 t1 k1 v rv => ?_)⟩
  cases e1 : ownL env1 i with
  | none => rw [e1] at k1; exact k1.elim
  | some p1 =>
    obtain ⟨tag, xs⟩ := p1
    rw [e1] at k1
    cases ek : k env1 with
    | none => rw [ek] at k1; exact k1.elim
    | some kd =>
      rw [ek] at k1
      cases kd with
      | int n =>
        dsimp only at k1
        cases ej : ixN xs.length n with
        | none => rw [ej] at k1; exact k1.elim
        | some j =>
          rw [ej] at k1
          obtain ⟨a', vs', y1, y2, y3, y4, y5⟩ := s1.mutL (ys := xs.set j d) (ownL_eq e1)
          refine ⟨_, y1, h4 σ H1 O1 env1 [] _ _ s1 ek fun w H2 g2 r2 => ?_⟩
          have s2 := s1.grow g2
          obtain ⟨a2, vs2, z1, z2, z3, z4, z5⟩ := s2.mutL (ys := xs.set j d) (ownL_eq e1)
          rw [y1] at z1
          cases z1
          obtain ⟨s3, t3⟩ := z5 (vs2.set j v) (z3.set (rv.grow g2) j)
          refine ⟨_, vs2, n, j, rfl, r2.int, z2, by rw [z3.len]; exact ej, k1 σ _ O1 s3 ((s1.gtr g2).trans t3)⟩
      | _ => exact k1.elim
end
end ML
/-! ML13: pure calls, pure comprehensions; moving and freezing; the script. -/
namespace ML
open PySem L2
section
variable {S : Cxt} {e e1 e2 : Expr} {es : List Expr} {pos pp : Pos} {x : Str} {F : List SV → Res SV} {k : Nat}

/-! ### a call with data alone -/
def pureOf : Res SV → Option D
  | .ok _ (.dat d) => some d
  | .ok _ (.own none (.lst xs)) => some (.list xs)
  | _ => none
def xFn (F : List SV → Res SV) (q : Env → Option (List D)) (env : Env) : Option D := (q env).bind fun ds => pureOf (F (ds.map .dat))
theorem re_dats {K : Fg} {A : Act} {H : Hp} {O : OS} : ∀ {vs : List V} {ds : List D}, RDs K H O vs ds → RE K A H O (vs.map some) (ds.map .dat) []
  | _, [], h => by cases h; exact .nil
  | _, _ :: _, h => by
    cases h with
    | cons a b =>
      have := RE.cons (RS.dat (A := A) a) (re_dats b)
      exact this
theorem jp_call {q : Env → Option (List D)} (hf : Fx S k x F) (hk : k ≤ S.k) (hg : Gn S x) (ha : JAP S (e :: es) q) (nd : (x == ("__debug__" : Str)) = false := by decide)
    (he : ∀ env, starEach (e :: es) env = (false, eval e env) :: starEach es env := by intro _; rfl) (hpl : ∀ env, (backTo pos (starEach es env)).any (·.1) = false := by intro _; rfl) : JP S (.Call (.Name x pp) (e :: es) [] pos) (xFn F q) := by
  obtain ⟨f, fd, ps, G, mx, kp, bi⟩ := hf
  obtain ⟨t, h1, h2⟩ := ha
  refine ⟨fun σ H Q => t σ H fun vs H1 => spF S.K S.mg F vs H1 Q (fun c d H2 => S.W c d σ H2), fun X o => ?_, fun σ H O env T d Q s ed q' => ?_⟩
  · have pe := h1 X o
    have sb := o.sysb
    obtain ⟨o1, o2, o3, o4, o5, o6, o7, o8, o9, o10, o11, o12, o13, o14⟩ := o
    have G' : FnG X.prog X.w X.K X.mg X.base S.gq k f fd ps (spF S.K S.mg F) := by rw [o1, o2, o3, o4, o5]; exact G
    exact pe_callG G' (o9.mono hk) o10 sb (by show X.env.kindOf x = _; unfold Env.kindOf; rw [o7]; exact hg) (by rw [o4]; exact mx) (by rw [o3]; exact kp) (by rw [o3]; exact bi) o12 pe nd (he _) (hpl _)
  · obtain ⟨ds, e1, e2⟩ := Option.bind_eq_some_iff.mp ed
    refine h2 σ H O env T ds _ s e1 fun vs H1 g1 rs => ?_
    have oc1 := s.oc.grow g1
    refine ⟨O, ds.map .dat, [], oc1, re_dats rs, List.nodup_nil, fun b hb => absurd hb List.not_mem_nil, ?_⟩
    have back : ∀ {A' : Act} {σ' : L2.St} {H' : Hp} {O' : OS} {env' : Env} {fq : List Addr}, A'.H0 = H1 → A'.O0 = O → (∀ b, ¬ A'.M0 b) → Sit S.K A' σ' H' O' env' fq → Grow H1 H' ∧ (∀ b, O b → O' b) := fun hH hO hM s' =>
      ⟨fun a o h => s'.base a o (by rw [hH]; exact h) (hM a), fun b hb => s'.o0 b (by rw [hO]; exact hb)⟩
    cases eF : F (ds.map .dat) with
    | bad => rw [eF] at e2; cases e2
    | err a b => rw [eF] at e2; cases e2
    | ok env' r =>
      rw [eF] at e2
      dsimp only
      intro σ' v H' O' fq s' rs'
      obtain ⟨g2, oo⟩ := back (A' := actOf H1 O [] vs) rfl rfl (fun b => List.not_mem_nil) s'
      have sta : Sta H' O' H' O := fun a o h n => ⟨h, fun z => n (oo a z)⟩
      cases rs' with
      | dat rd =>
        cases e2
        exact q' v H' (g1.trans g2) (RD.sta sta _ _ rd)
      | raw => cases e2
      | frz a b => cases e2
      | @own a c _ tag rc tg =>
        cases tag with
        | some _ => cases e2
        | none =>
          cases rc with
          | lst r1 r2 =>
            cases e2
            exact q' _ H' (g1.trans g2) (.lst tg r1 (RDs.sta sta _ _ r2))
          | dct _ _ _ => cases e2
          | ins _ _ => cases e2

/-! ### a slot's own list moves out, or is data from now on -/
def yMv (i : Nat) (env : Env) : Res SV := match env[i]? with
  | some (.own none c) => .ok (env.set i .un) (.own none c)
  | _ => .bad
theorem je_mv (i : Nat) {x : Str} (hN : S.N[i]? = some x) (hv : Vis S.sc x) (hd : (x == ("__debug__" : Str)) = false) (hc : (x == ("__classdict__" : Str)) = false) : JE S (.Name x pos) (yMv i) := by
  refine ⟨tVar i, fun X o => pe_var (by rw [o.N]; exact hN) (by rw [o.sc]; exact hv) hd hc, fun σ H O env T Q s q => ?_⟩
  unfold yMv at q
  split at q
  · rename_i c h
    obtain ⟨a, fq, h1, h2, h3⟩ := s.out h
    exact ⟨_, h1, q (.ref a) H O fq h3 h2 s.rtr⟩
  · exact q.elim
/-! ### the script: len(s), s[i] -/
def xLenF (i : Nat) (env : Env) : Option D := match env[i]? with
  | some (.frz xs) => some (.int xs.length)
  | _ => none
theorem Sit.frzv {K : Fg} {A : Act} {σ : L2.St} {H : Hp} {O : OS} {env : Env} {T : List Addr} (s : Sit K A σ H O env T) {i : Nat} {xs : List D} (h : env[i]? = some (.frz xs)) : ∃ a vs, σ[i]? = some (some (.ref a)) ∧ SqL K H a vs ∧ RDs K H O vs xs := by
  obtain ⟨fp, r, _, _⟩ := s.slots
  obtain ⟨v, fq, _, _, h1, h2, _⟩ := r.at h (by simp)
  cases h2 with
  | frz h3 h4 => exact ⟨_, _, h1, h3.sq, h4⟩
theorem jp_lenF (i : Nat) {x : Str} {px : Pos} (hg : Gn S "len") (hm : S.mg "len" = none) (hN : S.N[i]? = some x) (hv : Vis S.sc x) (hd : (x == ("__debug__" : Str)) = false) (hc : (x == ("__classdict__" : Str)) = false) : JP S (.Call (.Name "len" pp) [.Name x px] [] pos) (xLenF i) := by
  refine ⟨tCB (fun xs H Q => ∃ x n, xs = [x] ∧ LenV S.K x H n ∧ Q (.int n) H) (tCons (tVar i) tNil), fun X o => ?_, fun σ H O env T d Q s e k => ?_⟩
  · have z := call_len (X := X)
    rw [o.K] at z
    exact pe_callB z (gl_of o hg) (by rw [o.mg]; exact hm) PySem.boot_len (pa_cons (pe_var (by rw [o.N]; exact hN) (by rw [o.sc]; exact hv) hd hc) pa_nil)
  · unfold xLenF at e
    split at e
    · rename_i xs h
      cases e
      obtain ⟨a, vs, h1, h2, h3⟩ := s.frzv h
      refine ⟨_, h1, _, _, rfl, .inl ⟨vs, h2, rfl⟩, ?_⟩
      rw [h3.len]
      exact k _ H .refl (.int _)
    · cases e
def xIxF (i : Nat) (q : Env → Option D) (env : Env) : Option D := match env[i]? with
  | some (.frz xs) => (q env).bind fun d => dIx (.list xs) d
  | _ => none
theorem jp_ixF (i : Nat) {x : Str} {px : Pos} {q : Env → Option D} (hN : S.N[i]? = some x) (hv : Vis S.sc x) (hd : (x == ("__debug__" : Str)) = false) (hc : (x == ("__classdict__" : Str)) = false) (hb : JB S e2 q) (hs : PlainIx e2 := by intro _ _; rfl) : JP S (.Subscript (.Name x px) e2 pos) (xIxF i q) := by
  obtain ⟨u, h3, h4⟩ := hb
  refine ⟨tOp (rIx S.K) (tVar i) u, fun X o => by have z := pe_ix (pos := pos) (ix_seq (X := X)) (pe_var (pos := px) (i := i) (by rw [o.N]; exact hN) (by rw [o.sc]; exact hv) hd hc) (h3 X o) hs; rw [o.K] at z; exact z, fun σ H O env T d Q s e k => ?_⟩
  unfold xIxF at e
  split at e
  · rename_i xs h
    obtain ⟨y, e1, e2⟩ := Option.bind_eq_some_iff.mp e
    obtain ⟨a, vs, h1, h2, h3⟩ := s.frzv h
    refine ⟨_, h1, h4 σ H O env T y _ s e1 fun w H1 g1 rw' => ?_⟩
    obtain ⟨a', vs', h1', h2', h3'⟩ := (s.grow g1).frzv h
    rw [h1] at h1'
    cases h1'
    cases y with
    | int n =>
      have rn := rw'.int
      subst rn
      obtain ⟨v, z1, z2⟩ := h3'.atI e2
      exact .inl ⟨_, vs', n, v, rfl, rfl, h2', z1, k v H1 g1 z2⟩
    | _ => cases e2
  · cases e

/-! ### walking, purely -/
def SemIP (S : Cxt) (wi : TI) (f : Env → Option (List D)) : Prop := ∀ (σ : L2.St) (H : Hp) (O : OS) (env : Env) (T : List Addr) (ds : List D) (R : It → Hp → Prop), Sit S.K S.A σ H O env T → f env = some ds →
  (∀ J H', Grow H H' → ItOk S.K J ds H' O → R J H') → wi σ H R
def JIP (S : Cxt) (tg iter : Expr) (f : Env → Option (List D)) : Prop := ∃ wi, (∀ X, S.Ok X → PI X tg iter wi) ∧ SemIP S wi f
def ipOf (p : Env → Option D) (env : Env) : Option (List D) := (p env).bind itemsOf
def ipRange1 (f : Env → Option (List D)) (env : Env) : Option (List D) := (f env).bind fun ds => match ds with
  | [.int j] => if rngOk j then some (rngOf 0 j) else none
  | _ => none
theorem jip_range1 {tg : Expr} {f : Env → Option (List D)} (hg : Gn S "range") (hm : S.mg "range" = none) (h : JAP S [e] f) (hs : ∀ env, starEach [e] env = [(false, eval e env)] := by intro _; rfl) : JIP S tg (.Call (.Name "range" pp) [e] [] pos) (ipRange1 f) := by
  obtain ⟨t, h1, h2⟩ := h
  refine ⟨iRng1 t, fun X o => pi_range1 (gl_of o hg) (by rw [o.mg]; exact hm) (h1 X o) (hs _), fun σ H O env T ds R s ed q => ?_⟩
  obtain ⟨l, e1, e2⟩ := Option.bind_eq_some_iff.mp ed
  refine h2 σ H O env T l _ s e1 fun vs H1 g1 rv => ?_
  split at e2
  · split at e2
    · rename_i j hj
      cases e2
      cases rv with
      | cons a b =>
        cases a
        cases b
        refine ⟨_, rfl, hj.lo, hj.hi, q _ H1 g1 ?_⟩
        have z := itOk_rng2 (K := S.K) (H := H1) (O := O) 0 j
        rw [Int.sub_zero] at z
        exact z
    · cases e2
  · cases e2
/-- a pure walk for a loop -/
theorem JIP.toI {tg iter : Expr} {f : Env → Option (List D)} (h : JIP S tg iter f) : JI S tg iter (up f) := by
  obtain ⟨wi, h1, h2⟩ := h
  refine ⟨wi, h1, fun σ H O env T R s q => ?_⟩
  unfold up at q
  cases e : f env with
  | none => rw [e] at q; exact q.elim
  | some ds =>
    rw [e] at q
    exact h2 σ H O env T ds R s e fun J H' g it => q H' O (s.grow g) (s.gtr g) J it

def up' (p : Env → Option D) (env : Env) : Res SV := match p env with
  | some d => .ok env (.dat d)
  | none => .bad
theorem JP.toE {p : Env → Option D} (h : JP S e p) : JE S e (up' p) := by
  obtain ⟨t, h1, h2⟩ := h
  refine ⟨t, h1, fun σ H O env T Q s r => ?_⟩
  unfold up' at r
  cases e : p env with
  | none => rw [e] at r; exact r.elim
  | some d =>
    rw [e] at r
    exact h2 σ H O env T d Q s e fun v H' g k => r v H' O [] (s.grow g) (.dat k) (s.gtr g)
/-! ### pure comprehensions -/
def compP (gt : D → Env → Option Env) (u : Env → Option Bool) (el : Env → Option D) (env : Env) : List D → Option (List D)
  | [] => some []
  | d :: ds => (gt d env).bind fun env1 => (u env1).bind fun b => if b then (el env1).bind fun x => (compP gt u el env ds).map fun xs => x :: xs else compP gt u el env ds
def oComp (own : List Nat) (fi : Env → Option (List D)) (gt : D → Env → Option Env) (u : Env → Option Bool) (el : Env → Option D) (env : Env) : Option (List D) := (fi env).bind fun ds =>
  if ds.length ≤ sizeLine then compP gt u el (wipeE env own) ds else none
def SemTsP (S : Cxt) (ifs : List Expr) (u : Env → Option Bool) : Prop := ∃ t, (∀ X, S.Ok X → PTs X ifs t) ∧ SemTP S t u
def pYes (_ : Env) : Option Bool := some true
theorem jtsp_nil : SemTsP S [] pYes := ⟨_, fun X o => pts_nil, fun σ H O env T b Q s e k => by cases e; exact k H .refl⟩
section
variable {elt tg iter : Expr} {ifs : List Expr} {scope : Scope} {own : List (Str × Nat)} {ws : List Nat} {fi : Env → Option (List D)} {gt : D → Env → Option Env} {u : Env → Option Bool} {el : Env → Option D}
theorem lc_semP {wi : TI} {g : TG} {tt : TT} {te : TE} (hwi : SemIP S wi fi) (hg : SemG (S.inn scope) g ws gt) (ht : SemTP (S.inn scope) tt u) (he : SemP (S.inn scope) te el) (hws : ∀ i ∈ ws, i ∈ own.map (·.2)) :
    SemO S (tLc wi g tt te (own.map (·.2))) (oComp (own.map (·.2)) fi gt u el) := by
  intro σ H O env T zs Q s ed q
  generalize hv : own.map (·.2) = vs at *
  obtain ⟨ds, e1, e2⟩ := Option.bind_eq_some_iff.mp ed
  by_cases hz : ds.length ≤ sizeLine
  · rw [if_pos hz] at e2
    refine hwi σ H O env T ds _ s e1 fun J H1 g1 hJ D hD => ?_
    have s1 := s.grow g1
    obtain ⟨s2, r2, t2⟩ := s1.adopt' (vs := []) (xs := []) hD .nil
    generalize hO2 : (fun b => O b ∨ b = D) = O2 at s2 r2 t2
    have oD : O2 D := by rw [← hO2]; exact .inr rfl
    have oO : ∀ b, O b → O2 b := fun b hb => by rw [← hO2]; exact .inl hb
    have oR : ∀ b, O2 b → O b ∨ b = D := fun b hb => by rw [← hO2] at hb; exact hb
    have w0 : L2.wipe (L2.wipe σ vs) vs = L2.wipe σ vs := wipe_only (σ := σ) (σ' := L2.wipe σ vs) (vs := vs) ⟨wipe_length σ vs, fun k hk => wipe_ne σ vs k hk⟩
    refine ⟨fun i m H' => m = ds.length - i ∧ i ≤ ds.length ∧ ∃ ys acc rest, H' D = some (.lst ys) ∧ RDs S.K H' O2 ys acc ∧ Grow H1 H' ∧ Sit S.K S.A (L2.wipe σ vs) H' O2 (wipeE env vs) ([D] ++ T) ∧
      compP gt u el (wipeE env vs) (ds.drop i) = some rest ∧ acc ++ rest = zs ∧ acc.length ≤ i, ⟨ds.length, by simp, Nat.zero_le _, [], [], zs, upd_same, .nil, Grow.new hD, s2.wipe vs, by simpa using e2, by simp, Nat.zero_le _⟩, ?_⟩
    rintro i m H' ⟨rfl, hl, ys, acc, rest, hd, rd, gr, s', ec, ez, al⟩
    have sta : Sta H1 O H' O2 := fun a o h n => ⟨gr a o h, fun z => by
      rcases oR a z with w | w
      · exact n w
      · rw [w, hD] at h
        cases h⟩
    have it := hJ H' O2 sta s'.oc i
    by_cases hlt : i < ds.length
    · refine .inr ⟨(it.1 ds[i] (by simp [hlt])).1, fun H2 => (ds.length - (i + 1)) < ds.length - i ∧ i + 1 ≤ ds.length ∧ ∃ ys acc rest, H2 D = some (.lst ys) ∧ RDs S.K H2 O2 ys acc ∧ Grow H1 H2 ∧ Sit S.K S.A (L2.wipe σ vs) H2 O2 (wipeE env vs) ([D] ++ T) ∧
        compP gt u el (wipeE env vs) (ds.drop (i + 1)) = some rest ∧ acc ++ rest = zs ∧ acc.length ≤ i + 1, fun H2 h => ⟨_, h.1, rfl, h.2.1, h.2.2⟩, fun x H2 y => ?_⟩
      obtain ⟨g2, rdx⟩ := (it.1 ds[i] (by simp [hlt])).2 x H2 y
      have ed : ds.drop i = ds[i] :: ds.drop (i + 1) := List.drop_eq_getElem_cons hlt
      rw [ed] at ec
      unfold compP at ec
      obtain ⟨env2, eg, ec⟩ := Option.bind_eq_some_iff.mp ec
      obtain ⟨b, eu, ec⟩ := Option.bind_eq_some_iff.mp ec
      have sb := s'.grow g2
      refine hg x _ (L2.wipe σ vs) H2 O2 _ env2 ([D] ++ T) _ sb rdx eg fun σ3 s3 only => ⟨?_, ?_⟩
      · exact (wipe_only (σ := L2.wipe σ vs) (σ' := σ3) (vs := vs) ⟨only.1, fun j hj => only.2 j fun z => hj (hv ▸ hws j z)⟩).trans w0
      · refine ht σ3 H2 O2 env2 ([D] ++ T) b _ s3 eu fun H3 g3 => ?_
        cases b with
        | false =>
          simp only [Bool.false_eq_true, if_false] at ec ⊢
          exact ⟨by omega, by omega, ys, acc, rest, g3 _ _ (g2 _ _ hd), (rd.grow g2).grow g3, gr.trans (g2.trans g3), sb.grow g3, ec, ez, by omega⟩
        | true =>
          simp only [if_true] at ec ⊢
          obtain ⟨xd, ee, ec⟩ := Option.bind_eq_some_iff.mp ec
          obtain ⟨rest', er, ec⟩ := Option.map_eq_some_iff.mp ec
          subst ec
          refine he σ3 H3 O2 env2 ([D] ++ T) xd _ (s3.grow g3) ee fun v H4 g4 rv => ?_
          have g5 : Grow H' H4 := g2.trans (g3.trans g4)
          have s5 := s'.grow g5
          have hd4 := g5 _ _ hd
          have rd4 := rd.grow g5
          have sta4 : Sta H4 O2 (upd H4 D (.lst (ys ++ [v]))) O2 := fun a o h n => by
            have na : a ≠ D := fun z => n (z ▸ oD)
            rw [upd_ne na]
            exact ⟨h, n⟩
          refine ⟨ys, hd4, by rw [rd4.len]; omega, by omega, by omega, ys ++ [v], acc ++ [xd], rest', upd_same, RDs.sta sta4 _ _ (rd4.app (.cons rv .nil)), fun a o h => ?_, s5.updT (by simp), er, by rw [← ez]; simp, by rw [List.length_append, List.length_singleton]; omega⟩
          have na : a ≠ D := fun z => by rw [z, hD] at h; cases h
          rw [upd_ne na]
          exact (gr.trans g5) a o h
    · have e0 : i = ds.length := by omega
      refine .inl ⟨it.2 (by omega), ?_⟩
      rw [e0, List.drop_length] at ec
      unfold compP at ec
      cases ec
      rw [List.append_nil] at ez
      subst ez
      have hu : upd (fun a => if a = D then none else H' a) D (.lst ys) = H' := by
        funext a
        by_cases z : a = D
        · rw [z, upd_same, hd]
        · rw [upd_ne z, if_neg z]
      have fin := q D ys (fun a => if a = D then none else H' a) (fun a o h => ?_) (if_pos rfl) (RDs.sta (fun a o h n => ?_) _ _ rd)
      · rw [hu] at fin
        exact fin
      · have h1 := g1 a o h
        have na : a ≠ D := fun z => by rw [z, hD] at h1; cases h1
        show (if a = D then none else H' a) = some o
        rw [if_neg na]
        exact gr a o h1
      · have na : a ≠ D := fun z => n (z ▸ oD)
        refine ⟨?_, fun z => n (oO a z)⟩
        show (if a = D then none else H' a) = some o
        rw [if_neg na]
        exact h
  · rw [if_neg hz] at e2
    cases e2
theorem jo_comp (nd : S.N.Nodup) (hi : JIP S tg iter fi) (ok : blkC S.N S.sc scope own = true) (hg : JG (S.inn scope) tg ws gt) (ht : SemTsP (S.inn scope) ifs u) (he : JP (S.inn scope) elt el) (hws : ∀ i ∈ ws, i ∈ own.map (·.2))
    (hs : ∀ env x, foldedSetIterable iter env x = pure x := by intro _ _; rfl) : JO S (.ListComp elt [⟨tg, iter, ifs, 0⟩] scope pos) (oComp (own.map (·.2)) fi gt u el) := by
  obtain ⟨wi, h1, h2⟩ := hi
  obtain ⟨g, h3, h4⟩ := hg
  obtain ⟨tt, h5, h6⟩ := ht
  obtain ⟨te, h7, h8⟩ := he
  have bk := blkOk_by ok
  refine ⟨tLc wi g tt te (own.map (·.2)), fun X o => ?_, lc_semP h2 h4 h6 h8 hws⟩
  exact pe_lc o.calm (by rw [o.N]; exact nd) (h1 X o) (by rw [o.N, o.sc]; exact bk) (fun s H C cl fp => h3 _ (inn_ok o bk.kind s H C cl fp)) (fun s H C cl fp => h5 _ (inn_ok o bk.kind s H C cl fp)) (fun s H C cl fp => h7 _ (inn_ok o bk.kind s H C cl fp)) (hs _)
end
/-! ### a call whose first argument is a new object -/
end
end ML
/-! ML14: texts; isinstance; in. -/
namespace ML
open PySem L2
/-! ### text * int -/
def strMulOk (x : Str) (n : Int) : Bool := decide (0 ≤ n ∧ n ≤ 10000 ∧ x.length ≤ 1000)
theorem strMul_ok {x : Str} {n : Int} (h : strMulOk x n = true) : MulOk x n := by
  have h := of_decide_eq_true h
  obtain ⟨h0, h1, h2⟩ := h
  refine ⟨?_, fun a _ => ?_, fun a _ => ?_⟩
  · have a1 : decide (n < -(2 ^ 63 : Int)) = false := decide_eq_false (by omega)
    have a2 : decide (n ≥ (2 ^ 63 : Int)) = false := decide_eq_false (by omega)
    rw [a1, a2]
    rfl
  · have hn : 1 ≤ n := by omega
    have : (1000 : Int) ≤ (2 ^ 63 - 1) / n := by
      rw [Int.le_ediv_iff_mul_le (by omega)]
      omega
    omega
  · unfold Builtin.Str.tooLong
    refine decide_eq_false ?_
    have hm : x.length * n.toNat ≤ 1000 * 10000 := Nat.mul_le_mul h2 (by omega)
    have e : sizeLine = 16777216 := sizeLine_eq
    omega
def rMulS : R2 := fun x y H Q => ∃ s n, x = .str s ∧ y = .int n ∧ strMulOk s n = true ∧ Q (.str (Txt.mul s n)) H
theorem op_mulS {X : Cx} : OpR X (binaryOp .Mult) rMulS := by
  intro pins s σ H x y v u Q I rx ry h
  obtain ⟨z, n, rfl, rfl, hok, q⟩ := h
  obtain ⟨t, rfl⟩ := rx
  obtain ⟨t', rfl⟩ := ry
  exact PySem.SB.mul (strMul_ok hok) fun t2 k => ⟨.str _, H, I.tok _, ⟨_, rfl⟩, q⟩
def dMulS : D → D → Option D
  | .str x, .int n => if strMulOk x n then some (.str (Txt.mul x n)) else none
  | _, _ => none
theorem ov_mulS {K : Fg} : OpV K rMulS dMulS := by
  intro H O x y d e z Q c rx ry hz k
  unfold dMulS at hz
  split at hz
  · split at hz
    · rename_i hm
      cases hz
      cases rx.str
      cases ry.int
      exact ⟨_, _, rfl, rfl, hm, k _ H .refl (.str _)⟩
    · cases hz
  · cases hz
section
variable {S : Cxt} {e e1 e2 : Expr} {p q : Env → Option D} {pos : Pos}
/-! ### methods of texts -/
def xMt (f : D → D → Option D) (p q : Env → Option D) (env : Env) : Option D := (p env).bind fun d => match d with | .str x => (q env).bind fun e => f (.str x) e | _ => none
/-! ### isinstance(e, T), T built in -/
def isIntD : D → Bool
  | .int _ => true
  | .bool _ => true
  | _ => false
def isBoolD : D → Bool
  | .bool _ => true
  | _ => false
def isStrD : D → Bool
  | .str _ => true
  | _ => false
def isTupD : D → Bool
  | .tuple _ => true
  | _ => false
def isLstD : D → Bool
  | .list _ => true
  | _ => false
/-- an exception as data -/
def isX : D → Bool
  | .dict kvs => !noX kvs
  | _ => false
def isA (T : String) (d : D) : Option Bool := if isX d = true then none else
  if T = "int" then some (isIntD d) else if T = "bool" then some (isBoolD d) else if T = "str" then some (isStrD d) else if T = "tuple" then some (isTupD d) else if T = "list" then some (isLstD d) else none
def xIsA (T : String) (p : Env → Option D) (env : Env) : Option D := (p env).bind fun d => (isA T d).map .bool
/-! ### in -/
end
end ML
/-! ML15: the end of a row. -/
namespace ML
open PySem PySem.Spec PyProof.Rows L2

/-- a law's own promise over plain data: it comes to True on every script -/
def Wins (n : Nat) (F : List SV → Res SV) : Prop := ∀ ns : List Int, ns.length ≤ n → (∀ z ∈ ns, Builtin.Int.intBits z ≤ 1048576) → ∃ en, F [.frz (ns.map .int)] = .ok en (.dat (.bool true))
theorem rds_ints {K : Fg} {H : Hp} {O : OS} : ∀ ns : List Int, RDs K H O (ns.map V.int) (ns.map PyData.int)
  | [] => .nil
  | n :: r => .cons (.int n) (rds_ints r)
theorem sp_wins {K : Fg} {mg : Str → Option Value} {n : Nat} {F : List SV → Res SV} (w : Wins n F) {H : Hp} {a : Addr} {ns : List Int} (hl : ns.length ≤ n) (hb : ∀ z ∈ ns, Builtin.Int.intBits z ≤ 1048576) (hS : SqL K H a (ns.map V.int)) :
    spF K mg F [.ref a] H (fun v _ => v = .bl true) fun _ _ _ => False := by
  obtain ⟨en, e⟩ := w ns hl hb
  refine ⟨fun _ => False, [.frz (ns.map .int)], [], fun b h => h.elim, ?_, List.nodup_nil, (fun b h => by cases h), ?_⟩
  · refine .cons (fq := []) (.frz ?_ (rds_ints ns)) .nil
    rcases hS with h | ⟨o, its, m, h⟩
    · exact .inl ⟨fun z => z.elim, h⟩
    · exact .inr (.inr ⟨o, its, m, h⟩)
  · rw [e]
    intro σ v H' O' fq _ r
    cases r with
    | dat h => cases h; rfl
/-- the head: the law's def at the heap behind the top -/
theorem law_callG {P : Program} {w : World} {K : Fg} {mg mb : Str → Option Value} {k : Nat} {fa a : Addr} {fd : FuncData} {x : Str} {s₁ : Shared} {vs : List Value} {ns : List Int} {n : Nat} {F : List SV → Res SV} (hwin : Wins n F)
    (KX : K.In s₁.heap) (hns : s₁.heap.Ns mainGlobals mg) (hbn : s₁.heap.Ns builtinsNs mb) (hbb : ∀ x : Str, x ≠ "__name__" → mb x = bootBuiltins x) (hlim : s₁.heap.NoLimit) (hsys : ∃ mm, s₁.heap.Ns sysModules mm) (hgen : s₁.gens = #[])
    (hobj : s₁.heap.get? a = some { cls := .type "list", data := .seq vs.toArray }) (hi : IntsAre vs ns) (hn : ns.length ≤ n) (hn2 : n ≤ sizeLine) (hbits : ∀ z ∈ ns, Builtin.Int.intBits z ≤ 1048576) (hr : Room k callerA)
    (hF : ∀ base : Heap, K.In base → base.Ns mainGlobals mg → FnG P w K mg base true k fa fd [x] (spF K mg F)) (hbind : ∀ (s : Shared) (u : Value), BindsTo s fd ⟨[u], []⟩ [(x, u)]) :
    codeAny (model P w) callerA (.call (.ref fa) ⟨[.ref a], []⟩) (fun r s' => r = .ok (.ret (.bool true)) ∧ OldK s₁.heap s'.heap ∧ s'.os = s₁.os ∧ AllBare s'.gens) s₁ := by
  have rv := vals_ints hi
  have lenV := hi.length
  have hl : ns.length ≤ sizeLine := Nat.le_trans hn hn2
  have core : ∀ H : Hp, Only H → SqL K H a (ns.map V.int) → HOk P w H s₁.heap → (∀ b, H b ≠ none → b = a) → (H a ≠ none → K.lookup a = none) →
      codeAny (model P w) callerA (.call (.ref fa) ⟨[.ref a], []⟩) (fun r s' => r = .ok (.ret (.bool true)) ∧ OldK s₁.heap s'.heap ∧ s'.os = s₁.os ∧ AllBare s'.gens) s₁ := by
    intro H hO hS hok hA hK
    have base_of : ∀ {b : Addr} {o : Obj}, s₁.heap.get? b = some o → H b = none → (hidT s₁.heap H).get? b = some o := fun e z => hidT_get e z
    have noA : ∀ {b : Addr} {o : Obj} {es : Array DictEntry} {ep : Nat}, s₁.heap.get? b = some o → o.data = .dict es ep → H b = none := fun {b o es ep} e d => by
      cases q : H b with
      | none => rfl
      | some u =>
        have e1 : b = a := hA b (by rw [q]; simp)
        subst e1
        rw [hobj] at e
        cases e
        have d1 : Data.seq vs.toArray _ = Data.dict es ep := d
        cases d1
    have nsK : ∀ {b : Addr} {m : Str → Option Value}, s₁.heap.Ns b m → (hidT s₁.heap H).Ns b m := fun {b m} ⟨o, es, ep, e, d, r⟩ => ⟨o, es, ep, base_of e (noA e d), d, r⟩
    have inB : K.In (hidT s₁.heap H) := fun b o e => base_of (KX b o e) (by
      cases q : H b with
      | none => rfl
      | some u =>
        have e1 : b = a := hA b (by rw [q]; simp)
        subst e1
        rw [hK (by rw [q]; simp)] at e
        cases e)
    have md : Mod K mg (hidT s₁.heap H) := ⟨inB, nsK hns, ⟨mb, nsK hbn, hbb⟩, let ⟨mc, q1, q2⟩ := hlim; ⟨mc, nsK q1, q2⟩⟩
    have en0 : Env0 P w K mg (hidT s₁.heap H) callerA [] s₁ H := ⟨rfl, md, fun b o e => of_hidT e, Nat.le_of_eq (hidT_size _ _), trivial, fun b q => absurd (show b ∈ ([] : List Addr) from q) (by simp), hok, .of_eq hgen⟩
    refine codeAny_mono ((hF _ inB (nsK hns)).run callerA [] s₁ H ⟨[.ref a], []⟩ [.ref a] [.ref a] _ _ hr (fun _ => rfl) (let ⟨mm, q⟩ := hsys; ⟨mm, nsK q⟩) en0 (hbind s₁ (.ref a)) (.cons rfl .nil) (sp_wins hwin hn hbits hS)) fun r s' h => ?_
    cases r with
    | error e =>
      obtain ⟨_, _, _, _, _, _, _, _, _, _, _, _, z⟩ := h
      exact z.elim
    | ok fl =>
      cases fl with
      | next => exact False.elim h
      | brk => exact False.elim h
      | cont => exact False.elim h
      | ret u =>
        obtain ⟨v, H', os, bare, un, hok', rr, q⟩ := h
        have q1 : v = .bl true := q
        subst q1
        obtain rfl : u = Value.bool true := rr
        refine ⟨rfl, OldK.of_keep fun b o e => ?_, os, bare⟩
        cases q : H b with
        | none => exact un.keep b o e q (by intro z; exact absurd (show b ∈ ([] : List Addr) from z) (by simp)) (by simp)
        | some u =>
          rcases hO b with z | ⟨ob, xs, z⟩
          · rw [q] at z
            cases z
          · have z2 := un.frzs b ob _ z
            obtain ⟨e1, _⟩ := hok b _ z
            obtain ⟨e2, _⟩ := hok' b _ z2
            rw [e] at e1
            cases e1
            exact e2
  cases hk : K.lookup a with
  | some o =>
    have e := KX a o hk
    rw [hobj] at e
    cases e
    refine core (fun _ => none) (fun _ => .inl rfl) (.inr ⟨_, vs.toArray, _, hk, rfl, rfl, rfl, by rw [List.size_toArray, lenV]; exact hl, by simpa using rv⟩) (fun b u z => by
      have z1 : (none : Option HO) = some u := z
      cases z1) (fun b z => absurd rfl z) fun z => absurd rfl z
  | none =>
    refine core (fun b => if b = a then some (.frz { cls := .type "list", data := .seq vs.toArray } (.lst (ns.map V.int))) else none) (fun b => ?_) (.inl (.inr ⟨{ cls := .type "list", data := .seq vs.toArray }, if_pos rfl⟩)) (fun b u z => ?_) (fun b z => ?_) fun _ => hk
    · by_cases q : b = a
      · exact .inr ⟨_, _, if_pos q⟩
      · exact .inl (if_neg q)
    · by_cases q : b = a
      · have z1 := (if_pos q).symm.trans z
        cases z1
        subst q
        exact ⟨hobj, by rw [List.length_map]; exact hl, vs, _, rv, hobj⟩
      · have z1 := (if_neg q).symm.trans z
        cases z1
    · by_cases q : b = a
      · exact q
      · exact absurd (if_neg q) z
/-- the row's walk -/
theorem walkG {l : PySem.W.OpenLaw} {n k : Nat} {q : Program} {loose : List Str} {XP : (Str → Option Value) → Heap → Prop} {YP : World → Heap → Prop} {d : DefRec} {K : Params → Fg} {x : Str} {F : List SV → Res SV} (hwin : Wins n F)
    (hn : l.most = some n) (hn2 : n ≤ sizeLine) (hdf : d.params.defaults = []) (hr : Room k callerA)
    (hY : ∀ (w : World) (h : Heap), YP w h → (K w.params).In h)
    (hF : ∀ (w : World) (mg : Str → Option Value) (fa : Addr) (h : Heap), (K w.params).In h → h.Ns mainGlobals mg → mg d.name = some (.ref fa) →
      ∃ fd : FuncData, (∀ (s : Shared) (u : Value), BindsTo s fd ⟨[u], []⟩ [(x, u)]) ∧
        ∀ base : Heap, (K w.params).In base → base.Ns mainGlobals mg → FnG l.prog w (K w.params) mg base true k fa fd [x] (spF (K w.params) mg F)) (hq : importsNone q = true := by decide +kernel) :
    PySem.W.WalkO q loose XP YP l.row.toRowW d [] (fun f vs => PySem.call f vs) := by
  refine Att.attach_callB hn hdf fun w s₀ s₁ mg mb fa o pm cd doc a vs ns G Y ho hd hcd hmg hobj hints hlen hbits hg => ?_
  have KX := hY w _ Y
  obtain ⟨fd, hb, hFF⟩ := hF w mg fa _ KX G.T.g hmg
  exact law_callG hwin KX G.T.g G.T.b G.T.builtins G.T.nolimit (let ⟨mm, z, _⟩ := (G.T.seer hq).mods; ⟨mm, z⟩) hg hobj hints hlen hn2 hbits hr hFF hb
end ML
/-! ML16: short forms for the printer. -/
namespace ML
open PySem L2

/-! ### names in one look -/
def visB (sc : Scope) (x : Str) : Bool := match sc.names.lookup x with
  | some .local => true
  | some .cell => true
  | some .free => true
  | _ => false
theorem vis_of {sc : Scope} {x : Str} (h : visB sc x = true) : Vis sc x := by
  unfold visB at h
  split at h
  · exact .inl (by assumption)
  · exact .inr (.inl (by assumption))
  · exact .inr (.inr (by assumption))
  · cases h
def okV (N : List Str) (sc : Scope) (i : Nat) (x : Str) : Bool := decide (N[i]? = some x) && visB sc x && !(x == ("__debug__" : Str)) && !(x == ("__classdict__" : Str))
theorem okV_of {N : List Str} {sc : Scope} {i : Nat} {x : Str} (h : okV N sc i x = true) : N[i]? = some x ∧ Vis sc x ∧ (x == ("__debug__" : Str)) = false ∧ (x == ("__classdict__" : Str)) = false := by
  unfold okV at h
  simp only [Bool.and_eq_true, Bool.not_eq_true', decide_eq_true_eq] at h
  exact ⟨h.1.1.1, vis_of h.1.1.2, h.1.2, h.2⟩
def locB (sc : Scope) (x : Str) : Bool := match sc.names.lookup x with
  | some .local => true
  | some .cell => true
  | _ => false
theorem loc_of {sc : Scope} {x : Str} (h : locB sc x = true) : Loc sc x := by
  unfold locB at h
  split at h
  · exact .inl (by assumption)
  · exact .inr (by assumption)
  · cases h
def okL (N : List Str) (sc : Scope) (i : Nat) (x : Str) : Bool := decide (N[i]? = some x) && locB sc x
theorem okL_of {N : List Str} {sc : Scope} {i : Nat} {x : Str} (h : okL N sc i x = true) : N[i]? = some x ∧ Loc sc x := by
  unfold okL at h
  simp only [Bool.and_eq_true, decide_eq_true_eq] at h
  exact ⟨h.1, loc_of h.2⟩

section
variable {S : Cxt} {e e1 e2 : Expr} {es : List Expr} {p q : Env → Option D} {fa fb : Env → Res D} {pos pp : Pos} {x : Str}
theorem pv (i : Nat) (h : okV S.N S.sc i x = true) : JP S (.Name x pos) (xDat i) := jp_var i (okV_of h).1 (okV_of h).2.1 (okV_of h).2.2.1 (okV_of h).2.2.2
theorem bv (i : Nat) (h : okV S.N S.sc i x = true) : JB S (.Name x pos) (xBor i) := jb_var i (okV_of h).1 (okV_of h).2.1 (okV_of h).2.2.1 (okV_of h).2.2.2
theorem mv (i : Nat) (h : okV S.N S.sc i x = true) : JE S (.Name x pos) (yMv i) := je_mv i (okV_of h).1 (okV_of h).2.1 (okV_of h).2.2.1 (okV_of h).2.2.2
theorem lenFv {px : Pos} (i : Nat) (h : okV S.N S.sc i x = true) (hg : Gn S "len") (hm : S.mg "len" = none) : JP S (.Call (.Name "len" pp) [.Name x px] [] pos) (xLenF i) := jp_lenF i hg hm (okV_of h).1 (okV_of h).2.1 (okV_of h).2.2.1 (okV_of h).2.2.2
theorem ixFv {p2 : Pos} (i : Nat) (h : okV S.N S.sc i x = true) (hb : JB S e2 q) (hs : PlainIx e2 := by intro _ _; rfl) : JP S (.Subscript (.Name x p2) e2 pos) (xIxF i q) := jp_ixF i (okV_of h).1 (okV_of h).2.1 (okV_of h).2.2.1 (okV_of h).2.2.2 hb hs
theorem slv {fr : Env → Res (List AV)} (i : Nat) (h : okV S.N S.sc i x = true) (hr : JCA S es fr) (hs : ∀ env, starEach (.Name x pos :: es) env = (false, eval (.Name x pos) env) :: starEach es env := by intro _; rfl) : JCA S (.Name x pos :: es) (cSlot i fr) :=
  jca_sl i (okV_of h).1 (okV_of h).2.1 (okV_of h).2.2.1 (okV_of h).2.2.2 hr hs
theorem gv (i : Nat) (nd : S.N.Nodup) (h : okL S.N S.sc i x = true) (hl : S.blk = false ∨ S.sc.names.lookup x = some .local) : JG S (.Name x pos) [i] (gN i) := jg_name i nd (okL_of h).1 (okL_of h).2 hl
theorem st_set (i : Nat) {pos' : Pos} {f : Env → Res SV} (nd : S.N.Nodup) (h : okL S.N S.sc i x = true) (hl : S.blk = false) (he : JE S e f) (hs : ∀ env, swapsWith e (some (.Name x pos')) pos.line env = pure false := by intro _; rfl) (hw : ∀ env, swappedStores [.Name x pos'] e env = pure none := by intro _; rfl) :
    JS S (.Assign [.Name x pos'] e pos) (sSet i f) := js_set i nd (okL_of h).1 (okL_of h).2 hl he hs hw
theorem st_setIx (i : Nat) {px p2 : Pos} {f : Env → Res D} {ix : Expr} {k : Env → Option D} (h : okV S.N S.sc i x = true) (he : JD S e f) (hk : JB S ix k)
    (hs : ∀ env, swapsWithSole [.Subscript (.Name x px) ix p2] e pos.line env = pure false := by intro _; rfl) (hw : ∀ env, swappedStores [.Subscript (.Name x px) ix p2] e env = pure none := by intro _; rfl)
    (hpi : ∀ env : PySem.Env, ∀ v, assign (.Subscript (.Name x px) ix p2) env v = (do
      let ov ← holding [v] (eval (.Name x px) env)
      let iv ← holding [v, ov] (eval ix env)
      standAt p2
      holding [v, ov, iv] (setItem ov iv v)
      release [v, ov, iv] []) := by intro _ _; rfl) :
    JS S (.Assign [.Subscript (.Name x px) ix p2] e pos) (sSetIx i f k) :=
  js_setIx i (okV_of h).1 (okV_of h).2.1 (okV_of h).2.2.1 (okV_of h).2.2.2 he hk hs hw (fun X u o h2 => pg_sub (pe_var (by rw [o.N]; exact (okV_of h).1) (by rw [o.sc]; exact (okV_of h).2.1) (okV_of h).2.2.1 (okV_of h).2.2.2) h2 set_list (hpi _))
theorem leB {a b : Nat} (h : Nat.ble a b = true) : a ≤ b := Nat.le_of_ble_eq_true h

/-! ### times, for numbers and texts -/
def rMulX (K : Fg) : R2 := rOr (rMul K) rMulS
def dMulX (d e : D) : Option D := match dMul d e with | some z => some z | none => dMulS d e
theorem ov_mulX {K : Fg} : OpV K (rMulX K) dMulX := by
  intro H O a b d e z Q c ra rb hz k
  unfold dMulX at hz
  cases h1 : dMul d e with
  | some z1 =>
    rw [h1] at hz
    cases hz
    exact .inl (ov_mul H O a b d e _ Q c ra rb h1 k)
  | none =>
    rw [h1] at hz
    exact .inr (ov_mulS H O a b d e z Q c ra rb hz k)
abbrev xMulX := xOp dMulX
theorem jp_mulX (ha : JB S e1 p) (hb : JB S e2 q) : JP S (.BinOp e1 .Mult e2 pos) (xMulX p q) := jp_op (r := rMulX) (fun _ _ => OpR_or op_mulK op_mulS) ov_mulX ha hb

/-! ### operators over effects -/
abbrev tB (f : D → D → Option D) (a b : Env → Res D) : Env → Res Bool := fun env => bRes (yOp f a b env)
/-! ### built-in calls over effects -/
section
variable {qs : Env → Res (List D)}
end
end

/-! ### the defs that the top has laid -/
def Df (K : Fg) (mg : Str → Option Value) (x : Str) (st : Stmt) (ps : List Str) : Prop := ∃ (f : Addr) (fd : FuncData), Fun K x x st f fd ∧ mg x = some (.ref f) ∧ Binds K fd ps []
theorem Df.mk {S : Cxt} {x : Str} {st : Stmt} {N ps : List Str} {g : Env → Fl} {k : Nat} (d : Df S.K S.mg x st ps) (sc : FnScope N ps (defScope st)) (h : ∀ (A : Act) (W : Wish), JSs ⟨S.P, S.w, S.K, S.mg, S.base, N, defScope st, k, A, W, false, S.gq⟩ (defBody st) g) :
    Fx S (k + 1) x (bodyF ps.length N.length g) := by
  obtain ⟨f, fd, Fu, mx, bi⟩ := d
  exact fx_of ⟨rfl, rfl, rfl, rfl, rfl⟩ Fu mx bi (gn_of Fu sc h)
/-- the law's own def, for the end of the row -/
theorem law_endG {P : Program} {w : World} {K : Fg} {mg : Str → Option Value} {x : Str} {st : Stmt} {N : List Str} {g : Env → Fl} {k : Nat} {fa : Addr} (d : Df K mg "law" st [x]) (sc : FnScope N [x] (defScope st)) (hm : mg "law" = some (.ref fa))
    (hb : ∀ (base : Heap) (A : Act) (W : Wish), JSs ⟨P, w, K, mg, base, N, defScope st, k, A, W, false, true⟩ (defBody st) g)
    (hbt : ∀ (kV doc pm cdv ct : Value) (an : Option Addr) (s : Shared) (u : Value), BindsTo s (PySem.W.fnOf "law" "law" (defArgs st) (defBody st) (defScope st) .none kV doc pm an cdv ct) ⟨[u], []⟩ [(x, u)]) :
    ∃ fd : FuncData, (∀ (s : Shared) (u : Value), BindsTo s fd ⟨[u], []⟩ [(x, u)]) ∧ ∀ base : Heap, K.In base → base.Ns mainGlobals mg → FnG P w K mg base true (k + 1) fa fd [x] (spF K mg (bodyF 1 N.length g)) := by
  obtain ⟨f, fd, Fu, mx, bi⟩ := d
  rw [hm] at mx
  cases mx
  have G := fun base => gn_of (base := base) Fu sc (hb base)
  refine ⟨fd, ?_, fun base _ _ => G base⟩
  obtain ⟨oc, od, kV, doc, pm, an, cdv, ct, osl, rfl, lk, hcd⟩ := Fu.ex
  exact fun s u => hbt kV doc pm cdv ct an s u
end ML
/-! ML17: what the mirrors come to, in plain Lean. -/
namespace ML
open PySem L2

/-! ### evaluation, by simp -/
section
variable {i j : Nat} {env : Env} {p q r : Env → Option D} {f : D → D → Option D} {d : D}
@[simp] theorem e_xC : xC d env = some d := rfl
@[simp] theorem e_xDat : xDat i env = match env[i]? with | some (.dat d) => some d | _ => none := rfl
@[simp] theorem e_xBor : xBor i env = match env[i]? with | some (.dat d) => some d | some (.own _ (.lst xs)) => some (.list xs) | some (.own _ (.dct kvs)) => some (.dict (kvs.map fun p => (keyD p.1, p.2))) | _ => none := rfl
@[simp] theorem e_aNil : aNil env = some [] := rfl
@[simp] theorem e_aCons {q : Env → Option (List D)} : aCons p q env = (p env).bind fun d => (q env).map fun ds => d :: ds := rfl
@[simp] theorem e_xTup {q : Env → Option (List D)} : xTup q env = (q env).bind fun ds => if ds.length ≤ 16777216 then some (.tuple ds) else none := by unfold xTup; rw [sizeLine_eq]
@[simp] theorem e_oLst {q : Env → Option (List D)} : oLst q env = (q env).bind fun ds => if ds.length ≤ 16777216 then some ds else none := by unfold oLst; rw [sizeLine_eq]
@[simp] theorem e_xOp : xOp f p q env = (p env).bind fun x => (q env).bind fun y => f x y := rfl
@[simp] theorem e_tOf : tOf p env = (p env).bind fun d => match d with | .bool b => some b | _ => none := rfl
@[simp] theorem e_tAndP {u v : Env → Option Bool} : tAndP u v env = (u env).bind fun b => if b then v env else some false := rfl
@[simp] theorem e_tOrP {u v : Env → Option Bool} : tOrP u v env = (u env).bind fun b => if b then some true else v env := rfl
@[simp] theorem e_tNotP {u : Env → Option Bool} : tNotP u env = (u env).map (!·) := rfl
@[simp] theorem e_vOf {u : Env → Option Bool} : vOf u env = (u env).map .bool := rfl
@[simp] theorem e_xIf {u : Env → Option Bool} : xIf u p q env = (u env).bind fun b => if b then p env else q env := rfl
@[simp] theorem e_xCall {g : List D → Option D} {q : Env → Option (List D)} : xCall g q env = (q env).bind g := rfl
@[simp] theorem e_oCall {g : List D → Option (List D)} {q : Env → Option (List D)} : oCall g q env = (q env).bind g := rfl
@[simp] theorem e_xFn {F : List SV → Res SV} {q : Env → Option (List D)} : xFn F q env = (q env).bind fun ds => pureOf (F (ds.map .dat)) := rfl
@[simp] theorem e_xLenF : xLenF i env = match env[i]? with | some (.frz xs) => some (.int xs.length) | _ => none := rfl
@[simp] theorem e_xIxF : xIxF i q env = match env[i]? with | some (.frz xs) => (q env).bind fun d => dIx (.list xs) d | _ => none := rfl
@[simp] theorem e_xMt : xMt f p q env = (p env).bind fun d => match d with | .str x => (q env).bind fun e => f (.str x) e | _ => none := rfl
@[simp] theorem e_xIsA {T : String} : xIsA T p env = (p env).bind fun d => (isA T d).map .bool := rfl
@[simp] theorem e_xCut {lo hi : Env → Option (Option Int)} : xCut p lo hi env = (p env).bind fun d => (lo env).bind fun a => (hi env).bind fun b => dCut d a b := rfl
@[simp] theorem e_cNone : cNone env = some none := rfl
@[simp] theorem e_cSome : cSome p env = (p env).bind fun d => match d with | .int i => some (some i) | _ => none := rfl
@[simp] theorem e_ipOf : ipOf p env = (p env).bind itemsOf := rfl
@[simp] theorem e_pYes : pYes env = some true := rfl
@[simp] theorem e_up {α : Type} {p : Env → Option α} : up p env = match p env with | some a => .ok env a | none => .bad := rfl
@[simp] theorem e_up' : up' p env = match p env with | some a => .ok env (.dat a) | none => .bad := rfl
@[simp] theorem e_upO {p : Env → Option (List D)} : upO p env = match p env with | some xs => .ok env (.own none (.lst xs)) | none => .bad := rfl
@[simp] theorem e_dRes_d {en : Env} : dRes (.ok en (.dat d)) = .ok en d := rfl
@[simp] theorem e_dRes_l {en : Env} {xs : List D} : dRes (.ok en (.own none (.lst xs))) = .ok en (.list xs) := rfl
@[simp] theorem e_vRes {en : Env} : vRes (.ok en d) = .ok en (.dat d) := rfl
@[simp] theorem e_bRes {en : Env} {b : Bool} : bRes (.ok en (.bool b)) = .ok en b := rfl
@[simp] theorem e_bind {α β : Type} {en : Env} {a : α} {k : Env → α → Res β} : (Res.ok en a).bind k = k en a := rfl
@[simp] theorem e_fl {α : Type} {en : Env} {a : α} {k : Env → α → Fl} : (Res.ok en a).fl k = k en a := rfl
@[simp] theorem e_then_nx {en : Env} {k : Env → Fl} : (Fl.nx en).then k = k en := rfl
@[simp] theorem e_then_rt {en : Env} {s : SV} {k : Env → Fl} : (Fl.rt en s).then k = .rt en s := rfl
@[simp] theorem e_then_bk {en : Env} {k : Env → Fl} : (Fl.bk en).then k = .bk en := rfl
@[simp] theorem e_sNil : sNil env = .nx env := rfl
@[simp] theorem e_sSeq {g k : Env → Fl} : sSeq g k env = (g env).then k := rfl
@[simp] theorem e_sIf {u : Env → Res Bool} {g k : Env → Fl} : sIf u g k env = (u env).fl fun env1 b => if b then g env1 else k env1 := rfl
@[simp] theorem e_sRet {g : Env → Res SV} : sRet g env = (g env).fl fun env1 r => .rt env1 r := rfl
@[simp] theorem e_sRetN : sRetN env = .rt env (.dat .none) := rfl
@[simp] theorem e_sBreak : sBreak env = .bk env := rfl
@[simp] theorem e_sDrop {g : Env → Res SV} : sDrop g env = (g env).fl fun env1 _ => .nx env1 := rfl
@[simp] theorem e_sSet {g : Env → Res SV} : sSet i g env = (g env).fl fun env1 r => if i < env1.length then .nx (env1.set i r) else .bad := rfl
@[simp] theorem e_sPar {fa fb : Env → Res SV} : sPar i j fa fb env = (fa env).fl fun env1 a => (fb env1).fl fun env2 b => if i < env2.length ∧ j < env2.length then .nx ((env2.set j b).set i a) else .bad := rfl
@[simp] theorem e_sAsg {g : Env → Res D} {gt : D → Env → Option Env} : sAsg g gt env = (g env).fl fun env1 d => match gt d env1 with | some env2 => .nx env2 | none => .bad := rfl
@[simp] theorem e_ownL : ownL env i = match env[i]? with | some (.own t (.lst xs)) => some (t, xs) | _ => none := rfl
@[simp] theorem e_size : sizeLine = 16777216 := sizeLine_eq
@[simp] theorem e_sSetIx {g : Env → Res D} {k : Env → Option D} : sSetIx i g k env = (g env).fl fun env1 d => match ownL env1 i, k env1 with
  | some (tag, xs), some (.int n) => match ixN xs.length n with
    | some j => .nx (env1.set i (.own tag (.lst (xs.set j d))))
    | none => .bad
  | _, _ => .bad := rfl
@[simp] theorem e_sFor {fi : Env → Res (List D)} {gt : D → Env → Option Env} {g : Env → Fl} : sFor fi gt g env = (fi env).fl fun env1 ds => forF gt g ds env1 := rfl
@[simp] theorem e_iOf {g : Env → Res D} : iOf g env = (g env).bind fun env1 d => match itemsOf d with | some ds => .ok env1 ds | none => .bad := rfl
@[simp] theorem e_iRange1 {g : Env → Res (List D)} : iRange1 g env = (g env).bind fun env1 ds => match ds with
  | [.int j] => if rngOk j then .ok env1 (rngOf 0 j) else .bad
  | _ => .bad := rfl
@[simp] theorem e_iRange2 {g : Env → Res (List D)} : iRange2 g env = (g env).bind fun env1 ds => match ds with
  | [.int i, .int j] => if rngOk i ∧ rngOk j then .ok env1 (rngOf i j) else .bad
  | _ => .bad := rfl
@[simp] theorem e_gN : gN i d env = if i < env.length then some (env.set i (.dat d)) else none := rfl
@[simp] theorem e_gsNil : gsNil [] env = some env := rfl
@[simp] theorem e_gsCons {g : D → Env → Option Env} {k : List D → Env → Option Env} {ds : List D} : gsCons g k (d :: ds) env = (g d env).bind (k ds) := rfl
@[simp] theorem e_gTupD {n : Nat} {k : List D → Env → Option Env} {ds : List D} : gTupD n k (.tuple ds) env = if ds.length = n then k ds env else none := rfl
@[simp] theorem e_yNil : yNil env = .ok env [] := rfl
@[simp] theorem e_yCons {a : Env → Res D} {b : Env → Res (List D)} : yCons a b env = (a env).bind fun env1 x => (b env1).bind fun env2 ds => .ok env2 (x :: ds) := rfl
@[simp] theorem e_sized {g : Env → Res (List D)} : sized g env = (g env).bind fun env1 ds => if ds.length ≤ 16777216 then .ok env1 ds else .bad := by unfold sized; rw [sizeLine_eq]
@[simp] theorem e_yOp {a b : Env → Res D} : yOp f a b env = (a env).bind fun env1 x => (b env1).bind fun env2 y => match f x y with | some z => .ok env2 z | none => .bad := rfl
@[simp] theorem e_yIf {α : Type} {u : Env → Res Bool} {a b : Env → Res α} : yIf u a b env = (u env).bind fun env1 c => if c then a env1 else b env1 := rfl
@[simp] theorem e_yAnd {u v : Env → Res Bool} : yAnd u v env = (u env).bind fun env1 b => if b then v env1 else .ok env1 false := rfl
@[simp] theorem e_yOr {u v : Env → Res Bool} : yOr u v env = (u env).bind fun env1 b => if b then .ok env1 true else v env1 := rfl
@[simp] theorem e_yNot {u : Env → Res Bool} : yNot u env = (u env).bind fun env1 b => .ok env1 (!b) := rfl
@[simp] theorem e_yCall {g : List D → Option D} {b : Env → Res (List D)} : yCall g b env = (b env).bind fun env1 ds => match g ds with | some z => .ok env1 z | none => .bad := rfl
@[simp] theorem e_yMv_own {c : OC} (h : env[i]? = some (.own none c)) : yMv i env = .ok (env.set i .un) (.own none c) := by unfold yMv; rw [h]
@[simp] theorem e_cNil : cNil env = .ok env [] := rfl
@[simp] theorem e_cCons {a : Env → Res D} {b : Env → Res (List AV)} : cCons a b env = (a env).bind fun env1 x => (b env1).bind fun env2 ds => .ok env2 (.d x :: ds) := rfl
@[simp] theorem e_pureOf {en : Env} : pureOf (.ok en (.dat d)) = some d := rfl
@[simp] theorem e_pureOfL {en : Env} {xs : List D} : pureOf (.ok en (.own none (.lst xs))) = some (.list xs) := rfl
end
/-! operators on data -/
section
variable {i j : Int} {x y : Str} {xs ys : List D} {d e : D}
@[simp] theorem d_add_i : dAdd (.int i) (.int j) = some (.int (i + j)) := rfl
@[simp] theorem d_sub_i : dSub (.int i) (.int j) = some (.int (i - j)) := rfl
@[simp] theorem d_mod_i (h : 0 < j) : dMod (.int i) (.int j) = some (.int (i % j)) := by simp only [dMod, if_pos h]
@[simp] theorem d_div_i (h : 0 < j) (h2 : j.natAbs.log2 < 9000) : dDiv (.int i) (.int j) = some (.int (i / j)) := by simp only [dDiv, if_pos (And.intro h h2)]
@[simp] theorem d_mul_i (h : mulOk i j = true) : dMulX (.int i) (.int j) = some (.int (i * j)) := by unfold dMulX dMul; simp only [h, if_true]
@[simp] theorem d_mul_s (h : strMulOk x j = true) : dMulX (.str x) (.int j) = some (.str (Txt.mul x j)) := by unfold dMulX dMul dMulS; simp only [h, if_true]
@[simp] theorem d_cmp {f : Int → Int → Bool} : dCmp f (.int i) (.int j) = some (.bool (f i j)) := rfl
@[simp] theorem f_len_l : fLen [.list xs] = some (.int xs.length) := rfl
@[simp] theorem f_len_t : fLen [.tuple xs] = some (.int xs.length) := rfl
@[simp] theorem f_max : fMax [.int i, .int j] = some (.int (if j > i then j else i)) := rfl
@[simp] theorem f_min : fMin [.int i, .int j] = some (.int (if j < i then j else i)) := rfl
@[simp] theorem f_abs : fAbs [.int i] = some (.int (if i < 0 then -i else i)) := rfl
@[simp] theorem f_int_i : fInt [.int i] = some (.int i) := rfl
@[simp] theorem f_int_b {b : Bool} : fInt [.bool b] = some (.int (if b then 1 else 0)) := rfl
@[simp] theorem f_str_i (h : i.natAbs.log2 < 1920) : fStr [.int i] = some (.str (toString i)) := by simp only [fStr, if_pos h]
@[simp] theorem f_str_s : fStr [.str x] = some (.str x) := rfl
@[simp] theorem f_tup_l : fTuple [.list xs] = some (.tuple xs) := rfl
@[simp] theorem f_tup_t : fTuple [.tuple xs] = some (.tuple xs) := rfl
@[simp] theorem f_list_l : fList [.list xs] = some xs := rfl
@[simp] theorem f_list_t : fList [.tuple xs] = some xs := rfl
@[simp] theorem i_of_l : itemsOf (.list xs) = some xs := rfl
@[simp] theorem i_of_t : itemsOf (.tuple xs) = some xs := rfl
@[simp] theorem d_ix_l : dIx (.list xs) (.int i) = atI xs i := rfl
@[simp] theorem d_ix_t : dIx (.tuple xs) (.int i) = atI xs i := rfl
theorem mulOk_of (h1 : i.natAbs < 2 ^ 4000) (h2 : j.natAbs < 2 ^ 4000) : mulOk i j = true := by
  have g : ∀ z : Int, z.natAbs < 2 ^ 4000 → z.natAbs.log2 < 4000 := fun z hz => by
    by_cases h0 : z.natAbs = 0
    · rw [h0]; decide
    · exact (Nat.log2_lt h0).mpr hz
  unfold mulOk
  have := g i h1
  have := g j h2
  exact decide_eq_true (by omega)
theorem log_of {z : Int} (h : z.natAbs < 2 ^ 1900) : z.natAbs.log2 < 1900 := by
  by_cases h0 : z.natAbs = 0
  · rw [h0]; decide
  · exact (Nat.log2_lt h0).mpr h
@[simp] theorem at0 {α : Type} {a : α} {l : List α} : atI (a :: l) (0 : Int) = some a := by
  unfold atI ixN
  rw [if_pos (by decide), if_pos (by simp only [List.length_cons]; omega)]
  rfl
@[simp] theorem at1 {α : Type} {a b : α} {l : List α} : atI (a :: b :: l) (1 : Int) = some b := by
  unfold atI ixN
  rw [if_pos (by decide), if_pos (by simp only [List.length_cons]; omega)]
  rfl
@[simp] theorem at2 {α : Type} {a b c : α} {l : List α} : atI (a :: b :: c :: l) (2 : Int) = some c := by
  unfold atI ixN
  rw [if_pos (by decide), if_pos (by simp only [List.length_cons]; omega)]
  rfl
@[simp] theorem ix0 {n : Nat} (h : 0 < n) : ixN n 0 = some 0 := by
  unfold ixN
  rw [if_pos (by decide), if_pos (by omega)]
  rfl
@[simp] theorem ix1 {n : Nat} (h : 1 < n) : ixN n 1 = some 1 := by
  unfold ixN
  rw [if_pos (by decide), if_pos (by omega)]
  rfl
@[simp] theorem ix2 {n : Nat} (h : 2 < n) : ixN n 2 = some 2 := by
  unfold ixN
  rw [if_pos (by decide), if_pos (by omega)]
  rfl
@[simp] theorem ix_nat {n k : Nat} (h : k < n) : ixN n (k : Int) = some k := by
  unfold ixN
  simp [h]
end
end ML
/-! ML18: what a piece must come to: rules for effects, loops, calls. -/
namespace ML
open PySem L2

def Yo {α : Type} (r : Res α) (Q : Env → α → Prop) : Prop := match r with
  | .ok env a => Q env a
  | _ => False
def Fo (f : Fl) (N : Env → Prop) (R : Env → SV → Prop) (B : Env → Prop) : Prop := match f with
  | .nx e => N e
  | .rt e s => R e s
  | .bk e => B e
  | _ => False
section
variable {α β : Type} {env en : Env} {a : α} {Q : Env → α → Prop} {N B : Env → Prop} {R : Env → SV → Prop} {i j : Nat}
@[simp] theorem yo_ok : Yo (.ok en a) Q = Q en a := rfl
@[simp] theorem yo_bad : Yo (.bad : Res α) Q = False := rfl
@[simp] theorem fo_nx : Fo (.nx en) N R B = N en := rfl
@[simp] theorem fo_rt {s : SV} : Fo (.rt en s) N R B = R en s := rfl
@[simp] theorem fo_bk : Fo (.bk en) N R B = B en := rfl
@[simp] theorem fo_bad : Fo .bad N R B = False := rfl
theorem Yo.get {r : Res α} (h : Yo r Q) : ∃ en a, r = .ok en a ∧ Q en a := by
  cases r with
  | ok en a => exact ⟨en, a, rfl, h⟩
  | err _ _ => exact h.elim
  | bad => exact h.elim
theorem Yo.mono {r : Res α} {Q' : Env → α → Prop} (h : Yo r Q) (k : ∀ en a, Q en a → Q' en a) : Yo r Q' := by
  cases r with
  | ok en a => exact k _ _ h
  | err _ _ => exact h.elim
  | bad => exact h.elim
theorem Fo.mono {f : Fl} {N' B' : Env → Prop} {R' : Env → SV → Prop} (h : Fo f N R B) (k1 : ∀ e, N e → N' e) (k2 : ∀ e s, R e s → R' e s) (k3 : ∀ e, B e → B' e) : Fo f N' R' B' := by
  cases f with
  | nx e => exact k1 _ h
  | rt e s => exact k2 _ _ h
  | bk e => exact k3 _ h
  | ct e => exact h.elim
  | err _ _ => exact h.elim
  | bad => exact h.elim
@[simp] theorem yo_bind {r : Res α} {k : Env → α → Res β} {Q' : Env → β → Prop} : Yo (r.bind k) Q' = Yo r (fun e a => Yo (k e a) Q') := by cases r <;> rfl
@[simp] theorem fo_fl {r : Res α} {k : Env → α → Fl} : Fo (r.fl k) N R B = Yo r (fun e a => Fo (k e a) N R B) := by cases r <;> rfl
@[simp] theorem fo_then {f : Fl} {k : Env → Fl} : Fo (f.then k) N R B = Fo f (fun e => Fo (k e) N R B) R B := by cases f <;> rfl
@[simp] theorem yo_vRes {r : Res D} {Q : Env → SV → Prop} : Yo (vRes r) Q = Yo r (fun e d => Q e (.dat d)) := by cases r <;> rfl
/-! ### calls -/
/-- what may come back -/
def okR : SV → Prop
  | .dat _ => True
  | .own none _ => True
  | .raw _ => True
  | _ => False
/-! ### comprehensions -/
end
end ML
/-! ML19: data that may be shown and compared; texts of numbers. -/
namespace ML
open PySem L2

/-! ### data of a modest kind -/
mutual
def nice : D → Bool
  | .none => true
  | .bool _ => true
  | .int i => decide (i.natAbs < 10 ^ 39)
  | .str x => PyData.strOk x
  | .list xs => niceAll xs
  | .tuple xs => niceAll xs
  | .dict _ => false
def niceAll : List D → Bool
  | [] => true
  | x :: r => nice x && niceAll r
end
theorem log_39 {i : Int} (h : i.natAbs < 10 ^ 39) : i.natAbs.log2 < 1900 := log_of (Nat.lt_of_lt_of_le h (Nat.le_trans (by decide : (10:Nat) ^ 39 ≤ 2 ^ 130) (Nat.pow_le_pow_right (by decide) (by decide))))
mutual
theorem nice_show : ∀ d : D, nice d = true → d.showable = true
  | .none, _ => rfl
  | .bool _, _ => rfl
  | .int i, h => by
    have h := of_decide_eq_true (show decide (i.natAbs < 10 ^ 39) = true from h)
    exact decide_eq_true (Nat.lt_trans (log_39 h) (by decide))
  | .str _, _ => rfl
  | .list xs, h => nice_showAll xs h
  | .tuple xs, h => nice_showAll xs h
  | .dict _, h => by simp [nice] at h
theorem nice_showAll : ∀ xs : List D, niceAll xs = true → PyData.showableAll xs = true
  | [], _ => rfl
  | x :: r, h => by
    have h := Bool.and_eq_true_iff.mp (show (nice x && niceAll r) = true from h)
    exact Bool.and_eq_true_iff.mpr ⟨nice_show x h.1, nice_showAll r h.2⟩
end
mutual
theorem nice_lay : ∀ d : D, nice d = true → d.canLay0 = true
  | .none, _ => rfl
  | .bool _, _ => rfl
  | .int i, h => rfl
  | .str _, h => h
  | .list xs, h => nice_layAll xs h
  | .tuple xs, h => nice_layAll xs h
  | .dict _, h => by simp [nice] at h
theorem nice_layAll : ∀ xs : List D, niceAll xs = true → PyData.canLayAll0 xs = true
  | [], _ => rfl
  | x :: r, h => by
    have h := Bool.and_eq_true_iff.mp (show (nice x && niceAll r) = true from h)
    exact Bool.and_eq_true_iff.mpr ⟨nice_lay x h.1, nice_layAll r h.2⟩
end
mutual
theorem nice_short : ∀ d : D, nice d = true → d.intsShort 40 = true
  | .none, _ => rfl
  | .bool _, _ => rfl
  | .int i, h => by
    have h := of_decide_eq_true (show decide (i.natAbs < 10 ^ 39) = true from h)
    have e := int_text_length_le10 (k := 39) (by decide) h
    exact decide_eq_true (by
      show (Str.ofString (toString i)).length ≤ 40
      rw [ofString_length]
      exact e)
  | .str _, h => rfl
  | .list xs, h => nice_shortAll xs h
  | .tuple xs, h => nice_shortAll xs h
  | .dict _, h => by simp [nice] at h
theorem nice_shortAll : ∀ xs : List D, niceAll xs = true → PyData.intsShortAll 40 xs = true
  | [], _ => rfl
  | x :: r, h => by
    have h := Bool.and_eq_true_iff.mp (show (nice x && niceAll r) = true from h)
    exact Bool.and_eq_true_iff.mpr ⟨nice_short x h.1, nice_shortAll r h.2⟩
end
theorem repr_nice {d : D} (h : nice d = true) (hd : d.depth ≤ 64) (hw : d.weight ≤ 399000) : fRepr [d] = some (.str d.shown) := by
  have l := nice_lay d h
  have s := PyData.shown_le 40 (by decide) d (PyData.leavesShort_of_canLay0 40 d l (nice_short d h))
  have hs : d.shown.length ≤ sizeLine := by
    rw [sizeLine_eq]
    omega
  show (if _ then _ else _) = _
  rw [if_pos ⟨nice_show d h, PyData.hasDict_of_canLay d l, by omega, hs⟩]
theorem shaped_nice {d : D} (h : nice d = true) (hd : d.depth ≤ 64) : SeqAt.shaped d = true := Bool.and_eq_true_iff.mpr ⟨nice_lay d h, decide_eq_true hd⟩
theorem eq_nice {d e : D} (h : nice d = true) (hd : d.depth ≤ 64) (h' : nice e = true) (hd' : e.depth ≤ 64) : dEq d e = some (.bool (PyData.eqv d e)) := if_pos (.inr ⟨shaped_nice h hd, shaped_nice h' hd'⟩)
theorem ne_nice {d e : D} (h : nice d = true) (hd : d.depth ≤ 64) (h' : nice e = true) (hd' : e.depth ≤ 64) : dNe d e = some (.bool (!PyData.eqv d e)) := if_pos (.inr ⟨shaped_nice h hd, shaped_nice h' hd'⟩)
@[simp] theorem dEq_int {i j : Int} : dEq (.int i) (.int j) = some (.bool (i == j)) := if_pos (.inr ⟨rfl, rfl⟩)
@[simp] theorem dNe_int {i j : Int} : dNe (.int i) (.int j) = some (.bool (!(i == j))) := if_pos (.inr ⟨rfl, rfl⟩)
@[simp] theorem dEq_str {x y : Str} : dEq (.str x) (.str y) = some (.bool (x == y)) := if_pos (.inl rfl)
@[simp] theorem dNe_str {x y : Str} : dNe (.str x) (.str y) = some (.bool (!(x == y))) := if_pos (.inl rfl)
/-! ### the text of a number -/
/-! ### joining -/
theorem mul_zero (x : Str) : Txt.mul x 0 = Str.empty := rfl
theorem mul_one (x : Str) : Txt.mul x 1 = x := by
  unfold Txt.mul
  simp
end ML
/-! ML20: unary minus, chained comparisons, x += e. -/
namespace ML
open PySem L2

section
variable {S : Cxt} {e e1 e2 e3 : Expr} {es : List Expr} {p q r3 : Env → Option D} {pos : Pos}
def dNeg : D → Option D
  | .int i => some (.int (-i))
  | _ => none
def xNeg (p : Env → Option D) (env : Env) : Option D := (p env).bind dNeg
@[simp] theorem d_neg_i {i : Int} : dNeg (.int i) = some (.int (-i)) := rfl
@[simp] theorem e_xNeg {env : Env} : xNeg p env = (p env).bind dNeg := rfl
/-! ### a op b op c -/
def xChain (f f' : D → D → Option D) (p q r3 : Env → Option D) (env : Env) : Option D := (p env).bind fun x => (q env).bind fun y => (f x y).bind fun d => match d with
  | .bool b => if b then (r3 env).bind fun z => f' y z else some (.bool false)
  | _ => none
@[simp] theorem e_xChain {f f' : D → D → Option D} {env : Env} : xChain f f' p q r3 env = (p env).bind fun x => (q env).bind fun y => (f x y).bind fun d => match d with
  | .bool b => if b then (r3 env).bind fun z => f' y z else some (.bool false)
  | _ => none := rfl
/-! ### x += e, numbers -/
def dAugI (g : Int → Int → Int) : D → D → Option D
  | .int i, .int j => some (.int (g i j))
  | _, _ => none
@[simp] theorem d_aug_i {g : Int → Int → Int} {i j : Int} : dAugI g (.int i) (.int j) = some (.int (g i j)) := rfl
def sAug (i : Nat) (g : D → D → Option D) (fe : Env → Res D) (env : Env) : Fl := match env[i]? with
  | some (.dat x) => (fe env).fl fun env1 d => match g x d with
    | some z => if i < env1.length then .nx (env1.set i (.dat z)) else .bad
    | none => .bad
  | _ => .bad
@[simp] theorem e_sAug {i : Nat} {g : D → D → Option D} {fe : Env → Res D} {env : Env} : sAug i g fe env = match env[i]? with
  | some (.dat x) => (fe env).fl fun env1 d => match g x d with
    | some z => if i < env1.length then .nx (env1.set i (.dat z)) else .bad
    | none => .bad
  | _ => .bad := rfl
end
end ML
/-! ML21: methods of texts over effects. -/
namespace ML
open PySem L2
section
variable {S : Cxt} {e e1 e2 e3 : Expr} {es : List Expr} {fa fb : Env → Res D} {pos : Pos}
def yMt (f : D → D → Option D) (a b : Env → Res D) (env : Env) : Res D := (a env).bind fun env1 x => match x with
  | .str _ => (b env1).bind fun env2 y => match f x y with | some z => .ok env2 z | none => .bad
  | _ => .bad
@[simp] theorem e_yMt {f : D → D → Option D} {env : Env} : yMt f fa fb env = (fa env).bind fun env1 x => match x with
  | .str _ => (fb env1).bind fun env2 y => match f x y with | some z => .ok env2 z | none => .bad
  | _ => .bad := rfl
end
end ML
/-! ML22: list(text). -/
namespace ML
open PySem L2
def fListX : List D → Option (List D)
  | [.str x] => if x.length ≤ sizeLine then some (signs x) else none
  | ds => fList ds
section
variable {S : Cxt} {e : Expr} {pos pp : Pos} {qs : Env → Option (List D)}
end
@[simp] theorem f_listX_l {xs : List D} : fListX [.list xs] = some xs := rfl
@[simp] theorem f_listX_t {xs : List D} : fListX [.tuple xs] = some xs := rfl
end ML
/-! ML23: comprehensions with effects, by an invariant that counts. -/
namespace ML
open PySem L2
end ML
/-! ML24: the mirrors' plain readings: programs over named values, without slots. -/
namespace ML
open PySem L2

/-! ### what a piece comes to -/
inductive Po (α : Type) where
  | ok (a : α)
  | err (x : Exn)
  | bad
section
variable {α β γ : Type}
def Po.bind : Po α → (α → Po β) → Po β
  | .ok a, k => k a
  | .err x, _ => .err x
  | .bad, _ => .bad
/-- .. of what must not raise -/
def Po.bindS : Po α → (α → Po β) → Po β
  | .ok a, k => k a
  | _, _ => .bad
def _root_.Option.po (o : Option α) (k : α → Po β) : Po β := match o with | some a => k a | none => .bad
def Po.toO : Po α → Option α
  | .ok a => some a
  | _ => none
def Po.toL : Po (List D) → Option D
  | .ok a => some (.list a)
  | _ => none
@[simp] theorem po_bind_ok {a : α} {k : α → Po β} : (Po.ok a).bind k = k a := rfl
@[simp] theorem po_bindS_ok {a : α} {k : α → Po β} : (Po.ok a).bindS k = k a := rfl
@[simp] theorem po_some {a : α} {k : α → Po β} : (some a).po k = k a := rfl
@[simp] theorem po_toO_ok {a : α} : (Po.ok a).toO = some a := rfl
@[simp] theorem po_toL_ok {a : List D} : (Po.ok a).toL = some (.list a) := rfl
end
/-- how a block is left -/
inductive Step (σ ρ : Type) where
  | nx (s : σ)
  | rt (v : ρ)
  | bk (s : σ)

/-! ### the plain operations -/
def toB : D → Option Bool
  | .bool b => some b
  | _ => none
def toI : D → Option Int
  | .int i => some i
  | _ => none
def andO (a b : Option Bool) : Option Bool := a.bind fun x => if x then b else some false
def orO (a b : Option Bool) : Option Bool := a.bind fun x => if x then some true else b
def ifO {α : Type} (c : Option Bool) (a b : Option α) : Option α := c.bind fun x => if x then a else b
def chO (f f' : D → D → Option D) (x y : D) (z : Option D) : Option D := (f x y).bind fun d => match d with
  | .bool true => z.bind fun w => f' y w
  | .bool false => some (.bool false)
  | _ => none
def range1O (d : D) : Option (List D) := match d with
  | .int j => if rngOk j then some (rngOf 0 j) else none
  | _ => none
def range2O (d e : D) : Option (List D) := match d, e with
  | .int i, .int j => if rngOk i ∧ rngOk j then some (rngOf i j) else none
  | _, _ => none
/-- an item of a comprehension: none, left out, or a value -/
def compO (f : D → Option (Option D)) : List D → Option (List D)
  | [] => some []
  | d :: ds => (f d).bind fun o => match o with
    | some x => (compO f ds).map fun xs => x :: xs
    | none => compO f ds
def mapO (f : D → Option D) : List D → Option (List D)
  | [] => some []
  | d :: ds => (f d).bind fun x => (mapO f ds).map fun xs => x :: xs
def compS (f : D → Option (Option D)) (ds : List D) : Option (List D) := if ds.length ≤ 16777216 then compO f ds else none
def mapS (f : D → Option D) (ds : List D) : Option (List D) := if ds.length ≤ 16777216 then mapO f ds else none
def keepO (c : Option Bool) (e : Option D) : Option (Option D) := c.bind fun b => if b then e.map some else some none
def un2 {α : Type} (d : D) (k : D → D → Option α) : Option α := match d with
  | .tuple [a, b] => k a b
  | _ => none
def un3 {α : Type} (d : D) (k : D → D → D → Option α) : Option α := match d with
  | .tuple [a, b, c] => k a b c
  | _ => none
def un4 {α : Type} (d : D) (k : D → D → D → D → Option α) : Option α := match d with
  | .tuple [a, b, c, e] => k a b c e
  | _ => none
def pn2 {α : Type} (d : D) (k : D → D → Po α) : Po α := match d with
  | .tuple [a, b] => k a b
  | _ => .bad
def pn3 {α : Type} (d : D) (k : D → D → D → Po α) : Po α := match d with
  | .tuple [a, b, c] => k a b c
  | _ => .bad
def pn4 {α : Type} (d : D) (k : D → D → D → D → Po α) : Po α := match d with
  | .tuple [a, b, c, e] => k a b c e
  | _ => .bad
def pushP {α : Type} (xs : List D) (d : D) (k : List D → Po α) : Po α := if xs.length < 16777216 then k (xs ++ [d]) else .bad
def extendP {α : Type} (xs : List D) (d : D) (k : List D → Po α) : Po α := match d with
  | .list ys => if xs.length + ys.length ≤ 16777216 then k (xs ++ ys) else .bad
  | .tuple ys => if xs.length + ys.length ≤ 16777216 then k (xs ++ ys) else .bad
  | _ => .bad
def setIxP {α : Type} (xs : List D) (i d : D) (k : List D → Po α) : Po α := match i with
  | .int n => match ixN xs.length n with
    | some j => k (xs.set j d)
    | none => .bad
  | _ => .bad
section
variable {σ ρ α : Type}
def forN (f : D → σ → Po σ) : List D → σ → Po σ
  | [], s => .ok s
  | d :: ds, s => (f d s).bind fun s1 => forN f ds s1
def forS (f : D → σ → Po (Step σ ρ)) : List D → σ → Po (Step σ ρ)
  | [], s => .ok (.nx s)
  | d :: ds, s => (f d s).bind fun o => match o with
    | .nx s1 => forS f ds s1
    | .rt v => .ok (.rt v)
    | .bk s1 => .ok (.nx s1)
/-- a while: its test, and its body -/
def whileN (t : σ → Po (Bool × σ)) (f : σ → Po σ) : Nat → σ → Po σ
  | 0, _ => .bad
  | n + 1, s => (t s).bind fun p => if p.1 then (f p.2).bind fun s1 => whileN t f n s1 else .ok p.2
/-- what comes behind a block that may return -/
def Po.thenS (r : Po (Step σ ρ)) (k : σ → Po α) (e : ρ → Po α) : Po α := r.bind fun o => match o with
  | .nx s => k s
  | .rt v => e v
  | .bk _ => .bad
end

/-! ### order: what is said, holds -/
def LeO {α : Type} (s t : Option α) : Prop := ∀ a, s = some a → t = some a
section
variable {α β : Type} {env : Env} {p q r3 : Env → Option D} {f f' : D → D → Option D} {s s1 s2 s3 : Option D} {x y z v : D}
theorem LeO.refl {o : Option α} : LeO o o := fun _ h => h
theorem LeO.eq {o t : Option α} (h : t = o) : LeO o t := fun _ e => h.trans e
theorem lo_of {r o : Option α} (h : LeO r (o.bind some)) : LeO r o := fun a e => by
  have := h a e
  cases o with
  | none => cases this
  | some b => exact this
theorem lo_v {a : α} {o : Option α} {k : α → Option β} {r : Option β} (h : o = some a) (hk : LeO r (k a)) : LeO r (o.bind k) := by
  subst h
  exact hk
theorem lo_s {o t : Option α} {r k : α → Option β} (h : LeO o t) (hk : ∀ a, LeO (r a) (k a)) : LeO (o.bind r) (t.bind k) := fun b e => by
  cases o with
  | none => cases e
  | some a =>
    rw [h a rfl]
    exact hk a b e
theorem lo_bt {o : Option α} : LeO o (o.bind some) := fun a e => by
  subst e
  rfl
theorem lo_st {o t : Option α} (h : LeO o t) : LeO o (t.bind some) := fun a e => by
  rw [h a e]
  rfl
theorem lo_op {k : D → Option α} {r : Option α} (h : LeO r ((p env).bind fun x => (q env).bind fun y => (f x y).bind k)) : LeO r ((xOp f p q env).bind k) := fun a e => by
  rw [← h a e]
  unfold xOp
  cases p env with
  | none => rfl
  | some x => cases q env <;> rfl
theorem lo_cons {q : Env → Option (List D)} {k : List D → Option α} {r : Option α} (h : LeO r ((p env).bind fun d => (q env).bind fun ds => k (d :: ds))) : LeO r ((aCons p q env).bind k) := fun a e => by
  rw [← h a e]
  unfold aCons
  cases p env with
  | none => rfl
  | some x => cases q env <;> rfl
theorem lo_nil {k : List D → Option α} {r : Option α} (h : LeO r (k [])) : LeO r ((aNil env).bind k) := h
/-- how many arguments -/
def AL (q : Env → Option (List D)) (n : Nat) : Prop := ∀ env ds, q env = some ds → ds.length = n
theorem al_nil : AL aNil 0 := fun env ds e => by cases e; rfl
theorem al_cons {q : Env → Option (List D)} {n : Nat} (h : AL q n) : AL (aCons p q) (n + 1) := fun env ds e => by
  unfold aCons at e
  obtain ⟨d, _, e2⟩ := Option.bind_eq_some_iff.mp e
  obtain ⟨ds', e3, rfl⟩ := Option.map_eq_some_iff.mp e2
  rw [List.length_cons, h env ds' e3]
theorem lo_tup {q : Env → Option (List D)} {n : Nat} {k : D → Option α} {r : Option α} (l : AL q n) (hn : Nat.ble n 1000 = true) (h : LeO r ((q env).bind fun ds => k (.tuple ds))) : LeO r ((xTup q env).bind k) := fun a e => by
  rw [← h a e]
  have hn := Nat.le_of_ble_eq_true hn
  unfold xTup
  cases eq : q env with
  | none => rfl
  | some ds =>
    have := l env ds eq
    show (if ds.length ≤ sizeLine then _ else _ : Option D).bind k = _
    rw [if_pos (by rw [sizeLine_eq]; omega)]
    rfl
theorem lo_lst {q : Env → Option (List D)} {n : Nat} {k : List D → Option α} {r : Option α} (l : AL q n) (hn : Nat.ble n 1000 = true) (h : LeO r ((q env).bind k)) : LeO r ((oLst q env).bind k) := fun a e => by
  rw [← h a e]
  have hn := Nat.le_of_ble_eq_true hn
  unfold oLst
  cases eq : q env with
  | none => rfl
  | some ds =>
    have := l env ds eq
    show (if ds.length ≤ sizeLine then _ else _ : Option (List D)).bind k = _
    rw [if_pos (by rw [sizeLine_eq]; omega)]
def xL (o : Env → Option (List D)) (env : Env) : Option D := (o env).map .list
theorem lo_tOf {k : Bool → Option α} {r : Option α} (h : LeO r ((p env).bind fun d => (toB d).bind k)) : LeO r ((tOf p env).bind k) := fun a e => by
  rw [← h a e]
  unfold tOf
  cases p env with
  | none => rfl
  | some d => cases d <;> rfl
theorem lo_or {u v : Env → Option Bool} {c d : Option Bool} (h : LeO c (u env)) (h1 : LeO d (v env)) : LeO (orO c d) (tOrP u v env) := by
  refine lo_s h fun b => ?_
  cases b with
  | true => exact .refl
  | false => exact h1
theorem lo_map {o t : Option α} {g : α → β} (h : LeO o t) : LeO (o.map g) (t.map g) := fun b e => by
  obtain ⟨a, e1, rfl⟩ := Option.map_eq_some_iff.mp e
  rw [h a e1]
  rfl
theorem lo_not {u : Env → Option Bool} {c : Option Bool} (h : LeO c (u env)) : LeO (c.map (!·)) (tNotP u env) := lo_map h
theorem lo_call {g : List D → Option D} {q : Env → Option (List D)} {k : D → Option α} {r : Option α} (h : LeO r ((q env).bind fun ds => (g ds).bind k)) : LeO r ((xCall g q env).bind k) := fun a e => by
  rw [← h a e]
  unfold xCall
  cases q env <;> rfl
theorem lo_fn {F : List SV → Res SV} {q : Env → Option (List D)} {k : D → Option α} {r : Option α} (h : LeO r ((q env).bind fun ds => (pureOf (F (ds.map .dat))).bind k)) : LeO r ((xFn F q env).bind k) := fun a e => by
  rw [← h a e]
  unfold xFn
  cases q env <;> rfl
theorem lo_ixF {i : Nat} {xs : List D} {k : D → Option α} {r : Option α} (hx : env[i]? = some (.frz xs)) (h : LeO r ((p env).bind fun d => (dIx (.list xs) d).bind k)) : LeO r ((xIxF i p env).bind k) := fun a e => by
  rw [← h a e]
  unfold xIxF
  rw [hx]
  dsimp only
  cases p env <;> rfl
theorem lo_ipRange1 {k : List D → Option α} {r : Option α} (h : LeO r ((p env).bind fun d => (range1O d).bind k)) : LeO r ((ipRange1 (aCons p aNil) env).bind k) := fun a e => by
  rw [← h a e]
  unfold ipRange1 aCons aNil
  cases p env with
  | none => rfl
  | some d => cases d <;> rfl
/-! comprehensions -/
theorem lo_compO {gt : D → Env → Option Env} {u : Env → Option Bool} {el : Env → Option D} {g : D → Option (Option D)} (h : ∀ d, LeO (g d) ((gt d env).bind fun en => (u en).bind fun b => if b then (el en).map some else some none)) : ∀ ds, LeO (compO g ds) (compP gt u el env ds)
  | [] => .refl
  | d :: ds => fun xs e => by
    unfold compO at e
    obtain ⟨o, e1, e2⟩ := Option.bind_eq_some_iff.mp e
    have h1 := h d o e1
    obtain ⟨en, h2, h3⟩ := Option.bind_eq_some_iff.mp h1
    obtain ⟨b, h4, h5⟩ := Option.bind_eq_some_iff.mp h3
    unfold compP
    rw [h2]
    dsimp only [Option.bind]
    rw [h4]
    dsimp only
    cases b with
    | true =>
      rw [if_pos rfl] at h5 ⊢
      obtain ⟨x, h6, rfl⟩ := Option.map_eq_some_iff.mp h5
      rw [h6]
      dsimp only
      dsimp only at e2
      obtain ⟨ys, h7, rfl⟩ := Option.map_eq_some_iff.mp e2
      rw [lo_compO h ds ys h7]
      rfl
    | false =>
      have h5 : some none = some o := h5
      cases h5
      rw [if_neg (by decide)]
      exact lo_compO h ds xs e2
theorem mapO_comp {g : D → Option D} : ∀ ds, mapO g ds = compO (fun d => (g d).map some) ds
  | [] => rfl
  | d :: ds => by
    unfold mapO compO
    rw [mapO_comp ds]
    cases g d <;> rfl
theorem lo_comp {own : List Nat} {fi : Env → Option (List D)} {gt : D → Env → Option Env} {u : Env → Option Bool} {el : Env → Option D} {g : D → Option (Option D)} {k : List D → Option α} {r : Option α}
    (h : ∀ d, LeO (g d) ((gt d (wipeE env own)).bind fun en => (u en).bind fun b => if b then (el en).map some else some none)) (hk : LeO r ((fi env).bind fun ds => (compS g ds).bind k)) : LeO r ((oComp own fi gt u el env).bind k) := fun a e => by
  have h0 := hk a e
  unfold oComp
  cases ef : fi env with
  | none => rw [ef] at h0; cases h0
  | some ds =>
    rw [ef] at h0
    have h0 : (compS g ds).bind k = some a := h0
    unfold compS at h0
    show (if ds.length ≤ sizeLine then _ else _ : Option (List D)).bind k = _
    rw [sizeLine_eq]
    split at h0
    · rename_i hl
      rw [if_pos hl]
      exact lo_s (lo_compO h ds) (fun _ => .refl) a h0
    · cases h0
theorem lo_mapc {own : List Nat} {fi : Env → Option (List D)} {gt : D → Env → Option Env} {el : Env → Option D} {g : D → Option D} {k : List D → Option α} {r : Option α}
    (h : ∀ d, LeO (g d) ((gt d (wipeE env own)).bind el)) (hk : LeO r ((fi env).bind fun ds => (mapS g ds).bind k)) : LeO r ((oComp own fi gt pYes el env).bind k) := by
  refine lo_comp (g := fun d => (g d).map some) (fun d => ?_) ?_
  · have h2 := lo_map (g := some) (h d)
    refine fun o e => ?_
    have := h2 o e
    cases eg : gt d (wipeE env own) with
    | none => rw [eg] at this; cases this
    | some en =>
      rw [eg] at this
      exact this
  · have e : (fun ds => (compS (fun d => (g d).map some) ds).bind k) = fun ds => (mapS g ds).bind k := by
      funext ds
      unfold compS mapS
      rw [mapO_comp]
    rw [e]
    exact hk
theorem lo_gN {i : Nat} {k : Env → Option α} {r : Option α} (hi : Nat.blt i env.length = true) (h : LeO r (k (env.set i (.dat x)))) : LeO r ((gN i x env).bind k) := by
  unfold gN
  rw [if_pos (by simpa using hi)]
  exact h
end
end ML
/-! ML25: plain readings of effects and statements. -/
namespace ML
open PySem L2

/-- the piece fl does what r says -/
def SimK {τ : Type} (Φ : τ → Fl → Prop) (r : Po τ) (fl : Fl) : Prop := match r with
  | .bad => True
  | .err x => ∃ env, fl = .err env x
  | .ok v => Φ v fl
/-- the outcome of a def -/
def ΦF {ρ : Type} (T : ρ → Env → SV → Prop) (v : ρ) (fl : Fl) : Prop := ∃ env sv, (fl = .rt env sv ∨ (fl = .nx env ∧ sv = .dat .none)) ∧ T v env sv
/-- .. of a block that is left at its end -/
def ΦN {σ : Type} (N : σ → Env → Prop) (s : σ) (fl : Fl) : Prop := ∃ env, fl = .nx env ∧ N s env
/-- .. of a block that may return, or leave the loop -/
def ΦS {σ ρ : Type} (N : σ → Env → Prop) (T : ρ → Env → SV → Prop) (o : Step σ ρ) (fl : Fl) : Prop := match o with
  | .nx s => ∃ env, fl = .nx env ∧ N s env
  | .rt v => ∃ env sv, fl = .rt env sv ∧ T v env sv
  | .bk s => ∃ env, fl = .bk env ∧ N s env
theorem xtup_v {q : Env → Option (List D)} {env : Env} {ds : List D} (h : q env = some ds) (hl : Nat.ble ds.length 1000 = true) : xTup q env = some (.tuple ds) := by
  have hl := Nat.le_of_ble_eq_true hl
  unfold xTup
  rw [h]
  exact if_pos (by rw [sizeLine_eq]; omega)
theorem olst_v {q : Env → Option (List D)} {env : Env} {ds : List D} (h : q env = some ds) (hl : Nat.ble ds.length 1000 = true) : oLst q env = some ds := by
  have hl := Nat.le_of_ble_eq_true hl
  unfold oLst
  rw [h]
  exact if_pos (by rw [sizeLine_eq]; omega)
theorem xl_v {o : Env → Option (List D)} {env : Env} {ds : List D} (h : o env = some ds) : xL o env = some (.list ds) := by
  unfold xL
  rw [h]
  rfl
theorem acons_v {p : Env → Option D} {q : Env → Option (List D)} {env : Env} {d : D} {ds : List D} (h : p env = some d) (h2 : q env = some ds) : aCons p q env = some (d :: ds) := by
  unfold aCons
  rw [h, h2]
  rfl
def ofl {α : Type} (o : Option α) (k : α → Fl) : Fl := match o with
  | some a => k a
  | none => .bad
def dOf : SV → Option D
  | .dat d => some d
  | .own none (.lst xs) => some (.list xs)
  | _ => none
section
variable {α β τ σ ρ : Type} {Φ : τ → Fl → Prop} {r : Po τ} {env : Env} {k : Env → Fl}
theorem sk_up {p : Env → Option α} {s : Option α} {r : α → Po τ} {k : Env → α → Fl} (h : LeO s (p env)) (hk : ∀ a, SimK Φ (r a) (k env a)) : SimK Φ (s.po r) ((up p env).fl k) := by
  cases s with
  | none => exact trivial
  | some a =>
    unfold up
    rw [h a rfl]
    exact hk a
theorem sk_upv {p : Env → Option α} {a : α} {k : Env → α → Fl} (h : p env = some a) (hk : SimK Φ r (k env a)) : SimK Φ r ((up p env).fl k) := by
  unfold up
  rw [h]
  exact hk
theorem sk_upO {p : Env → Option (List D)} {s : Option (List D)} {r : List D → Po τ} {k : Env → SV → Fl} (h : LeO s (p env)) (hk : ∀ a, SimK Φ (r a) (k env (.own none (.lst a)))) : SimK Φ (s.po r) ((upO p env).fl k) := by
  cases s with
  | none => exact trivial
  | some a =>
    unfold upO
    rw [h a rfl]
    exact hk a
theorem sk_upOv {p : Env → Option (List D)} {a : List D} {k : Env → SV → Fl} (h : p env = some a) (hk : SimK Φ r (k env (.own none (.lst a)))) : SimK Φ r ((upO p env).fl k) := by
  unfold upO
  rw [h]
  exact hk
theorem sk_o {o : Option α} {r : α → Po τ} {k : α → Fl} (hk : ∀ a, SimK Φ (r a) (k a)) : SimK Φ (o.po r) (ofl o k) := by
  cases o with
  | none => exact trivial
  | some a => exact hk a
theorem sk_ov {o : Option α} {a : α} {k : α → Fl} (h : o = some a) (hk : SimK Φ r (k a)) : SimK Φ r (ofl o k) := by
  subst h
  exact hk
theorem sk_if {c : Bool} {r1 r2 : Po τ} {f1 f2 : Fl} (h1 : SimK Φ r1 f1) (h2 : SimK Φ r2 f2) : SimK Φ (if c then r1 else r2) (if c then f1 else f2) := by
  cases c with
  | true => exact h1
  | false => exact h2
def yV (m : Env → Res D) (env : Env) : Res SV := vRes (m env)
def yD (m : Env → Res SV) (env : Env) : Res D := dRes (m env)
def yLst (m : Env → Res (List D)) (env : Env) : Res SV := (sized m env).bind fun env1 ds => .ok env1 (.own none (.lst ds))
theorem sk_yV {m : Env → Res D} {k : Env → SV → Fl} (h : SimK Φ r ((m env).fl fun e d => k e (.dat d))) : SimK Φ r ((yV m env).fl k) := by
  unfold yV
  cases em : m env <;> (rw [em] at h; exact h)
theorem sk_yD {m : Env → Res SV} {k : Env → D → Fl} (h : SimK Φ r ((m env).fl fun e s => ofl (dOf s) (k e))) : SimK Φ r ((yD m env).fl k) := by
  unfold yD
  cases em : m env with
  | ok en s =>
    rw [em] at h
    cases s with
    | own t c =>
      cases t with
      | none => cases c <;> exact h
      | some _ => cases c <;> exact h
    | _ => exact h
  | err en x => rw [em] at h; exact h
  | bad => rw [em] at h; exact h
theorem fl_bind {f : Res α} {g : Env → α → Res β} {k : Env → β → Fl} : (f.bind g).fl k = f.fl fun e a => (g e a).fl k := by cases f <;> rfl
theorem sk_yNil {k : Env → List D → Fl} (h : SimK Φ r (k env [])) : SimK Φ r ((yNil env).fl k) := h
theorem sk_yCons {a : Env → Res D} {b : Env → Res (List D)} {k : Env → List D → Fl} (h : SimK Φ r ((a env).fl fun e1 x => (b e1).fl fun e2 ds => k e2 (x :: ds))) : SimK Φ r ((yCons a b env).fl k) := by
  unfold yCons
  simp only [fl_bind]
  exact h
def YL (q : Env → Res (List D)) (n : Nat) : Prop := ∀ env e ds, q env = .ok e ds → ds.length = n
theorem yl_nil : YL yNil 0 := fun env e ds h => by cases h; rfl
theorem yl_cons {a : Env → Res D} {q : Env → Res (List D)} {n : Nat} (h : YL q n) : YL (yCons a q) (n + 1) := fun env e ds hh => by
  unfold yCons at hh
  cases ea : a env with
  | ok e1 x =>
    rw [ea] at hh
    dsimp only [Res.bind] at hh
    cases eq : q e1 with
    | ok e2 es =>
      rw [eq] at hh
      cases hh
      rw [List.length_cons, h e1 _ es eq]
    | err _ _ => rw [eq] at hh; cases hh
    | bad => rw [eq] at hh; cases hh
  | err _ _ => rw [ea] at hh; cases hh
  | bad => rw [ea] at hh; cases hh
theorem sk_yLst {q : Env → Res (List D)} {n : Nat} {k : Env → SV → Fl} (l : YL q n) (hn : Nat.ble n 1000 = true) (h : SimK Φ r ((q env).fl fun e ds => k e (.own none (.lst ds)))) : SimK Φ r ((yLst q env).fl k) := by
  have hn := Nat.le_of_ble_eq_true hn
  unfold yLst sized
  cases eq : q env with
  | ok e ds =>
    rw [eq] at h
    have := l env e ds eq
    rw [e_bind, if_pos (by rw [sizeLine_eq]; omega)]
    exact h
  | err _ _ => rw [eq] at h; exact h
  | bad => rw [eq] at h; exact h
theorem sk_yMv {i : Nat} {c : OC} {k : Env → SV → Fl} (hi : env[i]? = some (.own none c)) (h : SimK Φ r (k (env.set i .un) (.own none c))) : SimK Φ r ((yMv i env).fl k) := by
  unfold yMv
  rw [hi]
  exact h
theorem sk_iOf {m : Env → Res D} {k : Env → List D → Fl} (h : SimK Φ r ((m env).fl fun e d => ofl (itemsOf d) (k e))) : SimK Φ r ((iOf m env).fl k) := by
  unfold iOf
  simp only [fl_bind]
  refine Eq.mp (congrArg (SimK Φ r) (congrArg _ ?_)) h
  funext e1 y
  cases itemsOf y <;> rfl
theorem sk_iRange1 {a : Env → Res D} {k : Env → List D → Fl} (h : SimK Φ r ((a env).fl fun e d => ofl (range1O d) (k e))) : SimK Φ r ((iRange1 (yCons a yNil) env).fl k) := by
  unfold iRange1 yCons yNil
  simp only [fl_bind, e_bind]
  cases ea : a env with
  | ok e d =>
    rw [ea] at h
    cases d with
    | int j =>
      unfold range1O at h
      simp only [e_fl, e_bind] at h ⊢
      split at h
      · rename_i hj
        rw [if_pos hj]
        exact h
      · rename_i hj
        rw [if_neg hj]
        exact h
    | _ => exact h
  | err _ _ => rw [ea] at h; exact h
  | bad => rw [ea] at h; exact h
/-! ### calls -/
/-- what a def does, at these arguments -/
def LeF (T : ρ → Env → SV → Prop) (r : Po ρ) (o : Res SV) : Prop := match r with
  | .bad => True
  | .err x => ∃ env, o = .err env x
  | .ok v => ∃ env sv, o = .ok env sv ∧ T v env sv
def TD (d : D) (_ : Env) (sv : SV) : Prop := sv = .dat d
def TL (xs : List D) (_ : Env) (sv : SV) : Prop := sv = .own none (.lst xs)
/-- .. with a first argument that is changed -/
def TDm (p : D × List D) (env : Env) (sv : SV) : Prop := sv = .dat p.1 ∧ env[0]? = some (.own (some 0) (.lst p.2))
theorem LeF.toO {f : Po D} {o : Res SV} (h : LeF TD f o) : LeO f.toO (pureOf o) := fun d e => by
  cases f with
  | ok a =>
    cases e
    obtain ⟨env, sv, rfl, h2⟩ := h
    cases h2
    rfl
  | err _ => cases e
  | bad => cases e
theorem LeF.toL {f : Po (List D)} {o : Res SV} (h : LeF TL f o) : LeO f.toL (pureOf o) := fun d e => by
  cases f with
  | ok a =>
    cases e
    obtain ⟨env, sv, rfl, h2⟩ := h
    cases h2
    rfl
  | err _ => cases e
  | bad => cases e
/-- a def from its body -/
theorem sk_body {np n : Nat} {g : Env → Fl} {args : List SV} {env0 : Env} {T : ρ → Env → SV → Prop} {r : Po ρ} (hl : args.length = np) (he : args ++ List.replicate (n - np) .un = env0) (h : SimK (ΦF T) r (g env0)) : LeF T r (bodyF np n g args) := by
  subst he
  unfold bodyF
  rw [if_pos hl]
  cases r with
  | bad => exact trivial
  | err x =>
    obtain ⟨env, e⟩ := h
    rw [e]
    exact ⟨env, rfl⟩
  | ok v =>
    obtain ⟨env, sv, e | ⟨e, rfl⟩, t⟩ := h
    · rw [e]
      exact ⟨env, sv, rfl, t⟩
    · rw [e]
      exact ⟨env, _, rfl, t⟩
theorem sk_cNil {k : Env → List AV → Fl} (h : SimK Φ r (k env [])) : SimK Φ r ((cNil env).fl k) := h
theorem sk_cCons {a : Env → Res D} {b : Env → Res (List AV)} {k : Env → List AV → Fl} (h : SimK Φ r ((a env).fl fun e1 x => (b e1).fl fun e2 ds => k e2 (.d x :: ds))) : SimK Φ r ((cCons a b env).fl k) := by
  unfold cCons
  simp only [fl_bind]
  exact h
theorem sk_cSlotO {i : Nat} {t : Option Nat} {c : OC} {b : Env → Res (List AV)} {k : Env → List AV → Fl} (hi : env[i]? = some (.own t c)) (h : SimK Φ r ((b env).fl fun e2 ds => k e2 (.sl i :: ds))) : SimK Φ r ((cSlot i b env).fl k) := by
  unfold cSlot
  rw [hi]
  simp only [fl_bind]
  exact h
theorem sk_cSlotF {i : Nat} {xs : List D} {b : Env → Res (List AV)} {k : Env → List AV → Fl} (hi : env[i]? = some (.frz xs)) (h : SimK Φ r ((b env).fl fun e2 ds => k e2 (.sl i :: ds))) : SimK Φ r ((cSlot i b env).fl k) := by
  unfold cSlot
  rw [hi]
  simp only [fl_bind]
  exact h
def callK (F : List SV → Res SV) (avs : List AV) (env1 : Env) : Res SV :=
  match argsOf avs env1 0 with
  | none => .bad
  | some (args, out) => match F args with
    | .ok e' r => match backE avs env1 out e' 0 with
      | some env2 => match r with
        | .own (some _) _ => .bad
        | .un => .bad
        | .frz _ => .bad
        | r => .ok env2 r
      | none => .bad
    | .err e' x => match backE avs env1 out e' 0 with
      | some env2 => .err env2 x
      | none => .bad
    | .bad => .bad
theorem sk_yFn {F : List SV → Res SV} {a : Env → Res (List AV)} {k : Env → SV → Fl} (h : SimK Φ r ((a env).fl fun e avs => (callK F avs e).fl k)) : SimK Φ r ((yFn F a env).fl k) := by
  have e : yFn F a env = (a env).bind fun env1 avs => callK F avs env1 := rfl
  rw [e, fl_bind]
  exact h
/-- arguments that are not changed: data, the script -/
def avD : List AV → Env → Option (List SV)
  | [], _ => some []
  | .d x :: r, env => (avD r env).map fun l => .dat x :: l
  | .sl i :: r, env => match env[i]? with
    | some (.dat x) => (avD r env).map fun l => .dat x :: l
    | some (.frz xs) => (avD r env).map fun l => .frz xs :: l
    | _ => none
theorem avD_args : ∀ {avs : List AV} {env : Env} {args : List SV} (j : Nat), avD avs env = some args → argsOf avs env j = some (args, env)
  | [], env, args, j, h => by cases h; rfl
  | .d x :: r, env, args, j, h => by
    unfold avD at h
    obtain ⟨l, h1, rfl⟩ := Option.map_eq_some_iff.mp h
    unfold argsOf
    rw [avD_args (j + 1) h1]
    rfl
  | .sl i :: r, env, args, j, h => by
    unfold avD at h
    unfold argsOf
    split at h
    · rename_i e
      obtain ⟨l, h1, rfl⟩ := Option.map_eq_some_iff.mp h
      rw [e]
      dsimp only
      rw [avD_args (j + 1) h1]
      rfl
    · rename_i e
      obtain ⟨l, h1, rfl⟩ := Option.map_eq_some_iff.mp h
      rw [e]
      dsimp only
      rw [avD_args (j + 1) h1]
      rfl
    · cases h
theorem avD_back : ∀ {avs : List AV} {env : Env} {args : List SV} (j : Nat) (cur e' : Env), avD avs env = some args → backE avs env cur e' j = some cur
  | [], env, args, j, cur, e', h => rfl
  | .d x :: r, env, args, j, cur, e', h => by
    unfold avD at h
    obtain ⟨l, h1, rfl⟩ := Option.map_eq_some_iff.mp h
    unfold backE
    exact avD_back (j + 1) cur e' h1
  | .sl i :: r, env, args, j, cur, e', h => by
    unfold avD at h
    unfold backE
    split at h
    · rename_i e
      obtain ⟨l, h1, rfl⟩ := Option.map_eq_some_iff.mp h
      rw [e]
      exact avD_back (j + 1) cur e' h1
    · rename_i e
      obtain ⟨l, h1, rfl⟩ := Option.map_eq_some_iff.mp h
      rw [e]
      exact avD_back (j + 1) cur e' h1
    · cases h
theorem sk_callL {F : List SV → Res SV} {avs : List AV} {args : List SV} {f : Po (List D)} {r1 : List D → Po τ} {k : Env → SV → Fl} (ha : avD avs env = some args) (hF : LeF TL f (F args)) (h : ∀ d, SimK Φ (r1 d) (k env (.own none (.lst d)))) : SimK Φ (f.bind r1) ((callK F avs env).fl k) := by
  unfold callK
  rw [avD_args 0 ha]
  dsimp only
  cases f with
  | bad => exact trivial
  | err x =>
    obtain ⟨e, hF⟩ := hF
    rw [hF]
    dsimp only
    rw [avD_back 0 env e ha]
    exact ⟨env, rfl⟩
  | ok d =>
    obtain ⟨e, sv, hF, hT⟩ := hF
    cases hT
    rw [hF]
    dsimp only
    rw [avD_back 0 env e ha]
    exact h d
/-- the first argument an own list that is changed, the others data -/
theorem sk_callm {F : List SV → Res SV} {i : Nat} {avs : List AV} {args : List SV} {t : Option Nat} {xs : List D} {f : Po (ρ × List D)} {r1 : ρ × List D → Po τ} {k : Env → SV → Fl} {T : ρ → SV} (hT : ∀ v, okR (T v)) (hi : env[i]? = some (.own t (.lst xs))) (ha : avD avs (env.set i .un) = some args)
    (hF : LeF (fun p e sv => sv = T p.1 ∧ e[0]? = some (.own (some 0) (.lst p.2))) f (F (.own (some 0) (.lst xs) :: args))) (h : ∀ v ys, SimK Φ (r1 (v, ys)) (k (env.set i (.own t (.lst ys))) (T v))) (hb : ∀ (cur e' : Env), backE avs env cur e' 1 = some cur) : SimK Φ (f.bindS r1) ((callK F (.sl i :: avs) env).fl k) := by
  cases f with
  | bad => exact trivial
  | err x => exact trivial
  | ok p =>
    obtain ⟨v, ys⟩ := p
    obtain ⟨e, sv, hF, rfl, hT0⟩ := hF
    dsimp only at hT0
    have hl : i < env.length := (List.getElem?_eq_some_iff.mp hi).1
    unfold callK
    rw [argsOf, hi]
    dsimp only
    rw [avD_args 1 ha]
    dsimp only [Option.map]
    rw [hF]
    dsimp only
    rw [backE, hi]
    dsimp only
    rw [hT0]
    dsimp only
    rw [List.length_set, if_pos ⟨rfl, hl⟩, hb, List.set_set]
    have h2 := hT v
    show SimK Φ (r1 (v, ys)) _
    have h3 := h v ys
    cases eT : T v with
    | dat d => rw [eT] at h3; exact h3
    | raw d => rw [eT] at h3; exact h3
    | own t2 c =>
      rw [eT] at h3 h2
      cases t2 with
      | none => exact h3
      | some _ => exact h2.elim
    | un => rw [eT] at h2; exact h2.elim
    | frz _ => rw [eT] at h2; exact h2.elim
theorem sk_callDm {F : List SV → Res SV} {i : Nat} {avs : List AV} {args : List SV} {t : Option Nat} {xs : List D} {f : Po (D × List D)} {r1 : D × List D → Po τ} {k : Env → SV → Fl} (hi : env[i]? = some (.own t (.lst xs))) (ha : avD avs (env.set i .un) = some args)
    (hF : LeF TDm f (F (.own (some 0) (.lst xs) :: args))) (h : ∀ v ys, SimK Φ (r1 (v, ys)) (k (env.set i (.own t (.lst ys))) (.dat v))) (hb : ∀ (cur e' : Env), backE avs env cur e' 1 = some cur := by intro _ _; rfl) : SimK Φ (f.bindS r1) ((callK F (.sl i :: avs) env).fl k) :=
  sk_callm (T := .dat) (fun _ => trivial) hi ha hF h hb
end
end ML
/-! ML26: plain readings of statements, loops, comprehensions with effects. -/
namespace ML
open PySem L2
section
variable {α β τ σ ρ : Type} {Φ : τ → Fl → Prop} {r : Po τ} {env : Env} {g k : Env → Fl} {N : σ → Env → Prop} {T : ρ → Env → SV → Prop}
theorem fl_then {f : Res α} {h : Env → α → Fl} : (f.fl h).then k = f.fl fun e a => (h e a).then k := by cases f <;> rfl
/-! ends -/
theorem s_nilN {s : σ} (h : N s env) : SimK (ΦN N) (.ok s) (sNil env) := ⟨env, rfl, h⟩
theorem s_nilS {s : σ} (h : N s env) : SimK (ΦS N T) (.ok (.nx s)) (sNil env) := ⟨env, rfl, h⟩
theorem s_rtF {v : ρ} {sv : SV} (h : T v env sv) : SimK (ΦF T) (.ok v) (.rt env sv) := ⟨env, sv, .inl rfl, h⟩
theorem s_rtS {v : ρ} {sv : SV} (h : T v env sv) : SimK (ΦS N T) (.ok (.rt v)) (.rt env sv) := ⟨env, sv, rfl, h⟩
theorem s_ret {f : Env → Res SV} (h : SimK Φ r ((f env).fl fun e sv => .rt e sv)) : SimK Φ r (sSeq (sRet f) k env) := by
  unfold sSeq sRet
  rw [fl_then]
  exact h
/-! x = e -/
theorem s_set {i : Nat} {f : Env → Res SV} (h : SimK Φ r ((f env).fl fun e sv => (if i < e.length then Fl.nx (e.set i sv) else .bad).then k)) : SimK Φ r (sSeq (sSet i f) k env) := by
  unfold sSeq sSet
  rw [fl_then]
  exact h
theorem s_put {i : Nat} {sv : SV} (h : Nat.blt i env.length = true) (hk : SimK Φ r (k (env.set i sv))) : SimK Φ r ((if i < env.length then Fl.nx (env.set i sv) else .bad).then k) := by
  rw [if_pos (by simpa using h)]
  exact hk
theorem s_par {i j : Nat} {fa fb : Env → Res SV} (h : SimK Φ r ((fa env).fl fun e1 a => (fb e1).fl fun e2 b => (if i < e2.length ∧ j < e2.length then Fl.nx ((e2.set j b).set i a) else .bad).then k)) : SimK Φ r (sSeq (sPar i j fa fb) k env) := by
  unfold sSeq sPar
  simp only [fl_then]
  exact h
theorem s_put2 {i j : Nat} {a b : SV} (h : Nat.blt i env.length = true) (h2 : Nat.blt j env.length = true) (hk : SimK Φ r (k ((env.set j b).set i a))) : SimK Φ r ((if i < env.length ∧ j < env.length then Fl.nx ((env.set j b).set i a) else .bad).then k) := by
  rw [if_pos ⟨by simpa using h, by simpa using h2⟩]
  exact hk
theorem so_gN {i : Nat} {d : D} {K : Env → Fl} (hi : Nat.blt i env.length = true) (h : SimK Φ r (K (env.set i (.dat d)))) : SimK Φ r (ofl (gN i d env) K) := by
  unfold gN
  rw [if_pos (by simpa using hi)]
  exact h
theorem so_g2 {d : D} {i j : Nat} {K : Env → Fl} {g : D → D → Po τ} (hi : Nat.blt i env.length = true) (hj : Nat.blt j env.length = true) (h : ∀ a b, SimK Φ (g a b) (K ((env.set i (.dat a)).set j (.dat b)))) : SimK Φ (pn2 d g) (ofl (gTupD 2 (gsCons (gN i) (gsCons (gN j) gsNil)) d env) K) := by
  unfold pn2
  split
  · rename_i a b
    simp only [Nat.blt_eq] at hi hj
    simp only [e_gTupD, List.length_cons, List.length_nil, e_gsCons, e_gN, e_gsNil, List.length_set, hi, hj, if_true, Option.bind_some]
    exact h a b
  · exact trivial
def ixK (i : Nat) (e : Env) (d : D) (n : Option D) (k : Env → Fl) : Fl := (match ownL e i, n with
  | some (tag, xs), some (.int n) => match ixN xs.length n with
    | some j => Fl.nx (e.set i (.own tag (.lst (xs.set j d))))
    | none => .bad
  | _, _ => .bad).then k
theorem s_setIx {i : Nat} {f : Env → Res D} {q : Env → Option D} (h : SimK Φ r ((f env).fl fun e d => ixK i e d (q e) k)) : SimK Φ r (sSeq (sSetIx i f q) k env) := by
  unfold sSeq
  rw [e_sSetIx, fl_then]
  exact h
theorem so_setIx {i : Nat} {t : Option Nat} {xs : List D} {d : D} {q s : Option D} {r : List D → Po τ} (hi : env[i]? = some (.own t (.lst xs))) (hq : LeO s q) (hk : ∀ ys, SimK Φ (r ys) (k (env.set i (.own t (.lst ys))))) : SimK Φ (s.po fun n => setIxP xs n d r) (ixK i env d q k) := by
  cases s with
  | none => exact trivial
  | some n =>
    rw [hq n rfl]
    unfold ixK ownL
    rw [hi]
    dsimp only
    show SimK Φ (setIxP xs n d r) _
    cases n with
    | int n =>
      unfold setIxP
      dsimp only
      cases ixN xs.length n with
      | none => exact trivial
      | some j => exact hk _
    | _ => exact trivial
def appK (i : Nat) (e : Env) (d : D) (k : Env → Fl) : Fl := (match ownL e i with
    | some (tag, xs) => if xs.length < sizeLine then Fl.nx (e.set i (.own tag (.lst (xs ++ [d])))) else .bad
    | none => .bad).then k
theorem s_app {i : Nat} {f : Env → Res D} {t : Option Nat} {xs : List D} (hi : env[i]? = some (.own t (.lst xs))) (h : SimK Φ r ((f env).fl fun e d => appK i e d k)) : SimK Φ r (sSeq (sAppend i f) k env) := by
  unfold sSeq sAppend
  rw [e_ownL, hi]
  dsimp only
  rw [fl_then]
  exact h
theorem so_app {i : Nat} {t : Option Nat} {xs : List D} {d : D} {r : List D → Po τ} (hi : env[i]? = some (.own t (.lst xs))) (hk : ∀ ys, SimK Φ (r ys) (k (env.set i (.own t (.lst ys))))) : SimK Φ (pushP xs d r) (appK i env d k) := by
  unfold appK pushP
  rw [e_ownL, hi]
  dsimp only
  rw [sizeLine_eq]
  split
  · exact hk _
  · exact trivial
def extK (i : Nat) (e : Env) (d : D) (k : Env → Fl) : Fl := (match ownL e i, d with
    | some (tag, xs), .list ys => if xs.length + ys.length ≤ sizeLine then Fl.nx (e.set i (.own tag (.lst (xs ++ ys)))) else .bad
    | some (tag, xs), .tuple ys => if xs.length + ys.length ≤ sizeLine then Fl.nx (e.set i (.own tag (.lst (xs ++ ys)))) else .bad
    | _, _ => .bad).then k
theorem s_ext {i : Nat} {f : Env → Res D} {t : Option Nat} {xs : List D} (hi : env[i]? = some (.own t (.lst xs))) (h : SimK Φ r ((f env).fl fun e d => extK i e d k)) : SimK Φ r (sSeq (sExtend i f) k env) := by
  unfold sSeq sExtend
  rw [e_ownL, hi]
  dsimp only
  rw [fl_then]
  exact h
theorem so_ext {i : Nat} {t : Option Nat} {xs : List D} {d : D} {r : List D → Po τ} (hi : env[i]? = some (.own t (.lst xs))) (hk : ∀ ys, SimK Φ (r ys) (k (env.set i (.own t (.lst ys))))) : SimK Φ (extendP xs d r) (extK i env d k) := by
  unfold extK
  rw [e_ownL, hi]
  cases d with
  | list ys =>
    unfold extendP
    dsimp only
    rw [sizeLine_eq]
    split
    · exact hk _
    · exact trivial
  | tuple ys =>
    unfold extendP
    dsimp only
    rw [sizeLine_eq]
    split
    · exact hk _
    · exact trivial
  | _ => exact trivial
/-! if -/
theorem s_if {u : Env → Res Bool} {g h : Env → Fl} (hh : SimK Φ r ((u env).fl fun e b => if b then (g e).then k else (h e).then k)) : SimK Φ r (sSeq (sIf u g h) k env) := by
  unfold sSeq sIf
  rw [fl_then]
  refine Eq.mp (congrArg (SimK Φ r) (congrArg _ ?_)) hh
  funext e b
  cases b <;> rfl
theorem s_if1 {u : Env → Res Bool} {g h : Env → Fl} (hh : SimK Φ r ((u env).fl fun e b => if b then g e else h e)) : SimK Φ r (sIf u g h env) := hh
theorem seq_assoc {a b c : Env → Fl} : (sSeq a b env).then c = sSeq a (fun e => (b e).then c) env := by
  unfold sSeq
  cases a env <;> rfl
theorem s_then {a b : Env → Fl} (h : SimK Φ r (sSeq a (fun e => (b e).then k) env)) : SimK Φ r ((sSeq a b env).then k) := by
  rw [seq_assoc]
  exact h
theorem s_thenNil (h : SimK Φ r (k env)) : SimK Φ r ((sNil env).then k) := h
/-- a block, and what follows it -/
theorem s_blk {r0 : Po σ} {r1 : σ → Po τ} (h : SimK (ΦN N) r0 (g env)) (hk : ∀ s e, N s e → SimK Φ (r1 s) (k e)) : SimK Φ (r0.bind r1) (sSeq g k env) := by
  unfold sSeq
  cases r0 with
  | bad => exact trivial
  | err x =>
    obtain ⟨e, h⟩ := h
    rw [h]
    exact ⟨e, rfl⟩
  | ok s =>
    obtain ⟨e, h, hn⟩ := h
    rw [h]
    exact hk s e hn
theorem s_blkS {r0 : Po (Step σ ρ)} {r1 : σ → Po τ} {e1 : ρ → Po τ} (h : SimK (ΦS N T) r0 (g env)) (hk : ∀ s e, N s e → SimK Φ (r1 s) (k e)) (he : ∀ v e sv, T v e sv → SimK Φ (e1 v) (.rt e sv)) : SimK Φ (r0.thenS r1 e1) (sSeq g k env) := by
  unfold sSeq
  cases r0 with
  | bad => exact trivial
  | err x =>
    obtain ⟨e, h⟩ := h
    rw [h]
    exact ⟨e, rfl⟩
  | ok o =>
    cases o with
    | nx s =>
      obtain ⟨e, h, hn⟩ := h
      rw [h]
      exact hk s e hn
    | rt v =>
      obtain ⟨e, sv, h, hn⟩ := h
      rw [h]
      exact he v e sv hn
    | bk s => exact trivial
theorem s_reF (v : ρ) (e : Env) (sv : SV) (h : T v e sv) : SimK (ΦF T) (.ok v) (.rt e sv) := s_rtF h
theorem s_reS (v : ρ) (e : Env) (sv : SV) (h : T v e sv) : SimK (ΦS N T) (.ok (.rt v)) (.rt e sv) := s_rtS h
/-! loops -/
theorem s_for {fi : Env → Res (List D)} {gt : D → Env → Option Env} (h : SimK Φ r ((fi env).fl fun e ds => (forF gt g ds e).then k)) : SimK Φ r (sSeq (sFor fi gt g) k env) := by
  unfold sSeq sFor
  rw [fl_then]
  exact h
theorem forN_sim {gt : D → Env → Option Env} {f : D → σ → Po σ} (h : ∀ d s e, N s e → SimK (ΦN N) (f d s) (ofl (gt d e) g)) : ∀ (ds : List D) (s : σ) (env : Env), N s env → SimK (ΦN N) (forN f ds s) (forF gt g ds env)
  | [], s, env, hn => ⟨env, rfl, hn⟩
  | d :: ds, s, env, hn => by
    have h1 := h d s env hn
    unfold forN forF
    cases eg : gt d env with
    | none =>
      rw [eg] at h1
      cases ef : f d s with
      | bad => exact trivial
      | err x => rw [ef] at h1; obtain ⟨_, h1⟩ := h1; cases h1
      | ok s1 => rw [ef] at h1; obtain ⟨_, h1, _⟩ := h1; cases h1
    | some e1 =>
      rw [eg] at h1
      dsimp only [ofl] at h1 ⊢
      cases ef : f d s with
      | bad => exact trivial
      | err x =>
        rw [ef] at h1
        obtain ⟨e2, h1⟩ := h1
        rw [h1]
        exact ⟨e2, rfl⟩
      | ok s1 =>
        rw [ef] at h1
        obtain ⟨e2, h1, hn2⟩ := h1
        rw [h1]
        exact forN_sim h ds s1 e2 hn2
theorem forS_sim {gt : D → Env → Option Env} {f : D → σ → Po (Step σ ρ)} (h : ∀ d s e, N s e → SimK (ΦS N T) (f d s) (ofl (gt d e) g)) : ∀ (ds : List D) (s : σ) (env : Env), N s env → SimK (ΦS N T) (forS f ds s) (forF gt g ds env)
  | [], s, env, hn => ⟨env, rfl, hn⟩
  | d :: ds, s, env, hn => by
    have h1 := h d s env hn
    unfold forS forF
    cases eg : gt d env with
    | none =>
      rw [eg] at h1
      cases ef : f d s with
      | bad => exact trivial
      | err x => rw [ef] at h1; obtain ⟨_, h1⟩ := h1; cases h1
      | ok s1 =>
        rw [ef] at h1
        cases s1 with
        | nx s1 => obtain ⟨_, h1, _⟩ := h1; cases h1
        | rt s1 => obtain ⟨_, _, h1, _⟩ := h1; cases h1
        | bk s1 => obtain ⟨_, h1, _⟩ := h1; cases h1
    | some e1 =>
      rw [eg] at h1
      dsimp only [ofl] at h1 ⊢
      cases ef : f d s with
      | bad => exact trivial
      | err x =>
        rw [ef] at h1
        obtain ⟨e2, h1⟩ := h1
        rw [h1]
        exact ⟨e2, rfl⟩
      | ok s1 =>
        rw [ef] at h1
        cases s1 with
        | nx s1 =>
          obtain ⟨e2, h1, hn2⟩ := h1
          rw [h1]
          exact forS_sim h ds s1 e2 hn2
        | rt v =>
          obtain ⟨e2, sv, h1, hn2⟩ := h1
          rw [h1]
          exact ⟨e2, sv, rfl, hn2⟩
        | bk s1 =>
          obtain ⟨e2, h1, hn2⟩ := h1
          rw [h1]
          exact ⟨e2, rfl, hn2⟩
theorem s_forN {gt : D → Env → Option Env} {f : D → σ → Po σ} {s : σ} {ds : List D} {r1 : σ → Po τ} (hn : N s env) (h : ∀ d s e, N s e → SimK (ΦN N) (f d s) (ofl (gt d e) g)) (hk : ∀ s e, N s e → SimK Φ (r1 s) (k e)) : SimK Φ ((forN f ds s).bind r1) ((forF gt g ds env).then k) :=
  s_blk (g := forF gt g ds) (forN_sim h ds s env hn) hk
theorem s_forS {gt : D → Env → Option Env} {f : D → σ → Po (Step σ ρ)} {s : σ} {ds : List D} {r1 : σ → Po τ} {e1 : ρ → Po τ} (hn : N s env) (h : ∀ d s e, N s e → SimK (ΦS N T) (f d s) (ofl (gt d e) g)) (hk : ∀ s e, N s e → SimK Φ (r1 s) (k e)) (he : ∀ v e sv, T v e sv → SimK Φ (e1 v) (.rt e sv)) : SimK Φ ((forS f ds s).thenS r1 e1) ((forF gt g ds env).then k) :=
  s_blkS (g := forF gt g ds) (forS_sim h ds s env hn) hk he
/-! comprehensions with effects -/
end
def fuel : Nat := 1000000000000000000000000000000
theorem fuel_big {n : Nat} (h : n < 10 ^ 30) : n < fuel := by
  unfold fuel
  omega
/-- the end: what the law's own plain reading says -/
theorem wins_of {n : Nat} {F : List SV → Res SV} {f : List D → Po D} (hF : ∀ xs, LeF TD (f xs) (F [.frz xs])) (h : ∀ ns : List Int, ns.length ≤ n → (∀ z ∈ ns, Builtin.Int.intBits z ≤ 1048576) → f (ns.map .int) = .ok (.bool true)) : Wins n F := fun ns h1 h2 => by
  have h3 := hF (ns.map .int)
  rw [h ns h1 h2] at h3
  obtain ⟨e, sv, h4, h5⟩ := h3
  cases h5
  exact ⟨e, h4⟩
end ML
/-! ML27: reversed, zip, enumerate, sorted, stars, xs[::-1]. -/
namespace ML
open PySem L2

section
variable {K : Fg} {H : Hp} {O : OS} {S : Cxt} {tg e e1 e2 : Expr} {es : List Expr} {p q : Env → Option D} {pos pp tpos : Pos} {elts : List Expr} {kk : Nat}
/-! reversed -/
/-! zip of two -/
def zipD (xs ys : List D) : List D := List.zipWith (fun x y => .tuple [x, y]) xs ys
theorem zip_get {xs ys : List D} {i : Nat} {d : D} (h : (zipD xs ys)[i]? = some d) : ∃ x y, xs[i]? = some x ∧ ys[i]? = some y ∧ d = .tuple [x, y] := by
  unfold zipD at h
  rw [List.getElem?_zipWith] at h
  cases hx : xs[i]? with
  | none => rw [hx] at h; cases h
  | some x =>
    cases hy : ys[i]? with
    | none => rw [hx, hy] at h; cases h
    | some y =>
      rw [hx, hy] at h
      cases h
      exact ⟨x, y, rfl, rfl, rfl⟩
/-! enumerate -/
def enumD (xs : List D) : List D := zipD ((List.range xs.length).map fun i : Nat => PyData.int (i : Int)) xs
def enumItems : D → Option (List D)
  | .list xs => some (enumD xs)
  | _ => none
def ipEnum (p : Env → Option D) (env : Env) : Option (List D) := (p env).bind enumItems
theorem itOk_enum {a : Addr} {vs : List V} {ds : List D} (a0 : ¬ O a) (a1 : H a = some (.lst vs)) (a2 : RDs K H O vs ds) : ItOk K (Ite K a) (enumD ds) H O := by
  intro H' O' s c i
  have a3 := s a _ a1 a0
  have ra := RDs.sta s _ _ a2
  have la := ra.len
  refine ⟨fun d hd => ?_, fun hi => ⟨vs, SqL.of a3.1, by
    unfold enumD zipD at hi
    rw [List.length_zipWith] at hi
    simp at hi
    omega⟩⟩
  obtain ⟨x, y, hx, hy, rfl⟩ := zip_get hd
  obtain ⟨v, hv, rv⟩ := ra.get hy
  have hx2 : x = .int (i : Int) := by
    rw [List.getElem?_map] at hx
    obtain ⟨j, h1, rfl⟩ := Option.map_eq_some_iff.mp hx
    obtain ⟨h2, h3⟩ := List.getElem?_eq_some_iff.mp h1
    simp at h3
    rw [h3]
  subst hx2
  refine ⟨⟨vs, v, SqL.of a3.1, hv⟩, fun u H2 yy => ?_⟩
  obtain ⟨T, x1, rfl, hT, rfl, q1⟩ := yy
  have z1 := q1 vs (SqL.of a3.1)
  rw [hv] at z1
  cases z1
  exact ⟨Grow.new hT, .newT c hT (.cons (.int _) (.cons rv .nil))⟩
theorem jip_enum (hg : Gn S "enumerate") (hm : S.mg "enumerate" = none) (h : JP S e p) (hs : ∀ env, starEach [e] env = [(false, eval e env)] := by intro _; rfl) : JIP S (.Tuple elts kk tpos) (.Call (.Name "enumerate" pp) [e] [] pos) (ipEnum p) := by
  obtain ⟨t, h1, h2⟩ := jap_cons h jap_nil (fun _ => hs _)
  refine ⟨iEnum S.K t, fun X o => by have z := pi_enum (elts := elts) (kk := kk) (tpos := tpos) (pos := pos) (p := pp) (gl_of o hg) (by rw [o.mg]; exact hm) (h1 X o) (hs _); rw [o.K] at z; exact z, fun σ H O env T ds R s ed k => ?_⟩
  obtain ⟨d, e1, ei⟩ := Option.bind_eq_some_iff.mp ed
  refine h2 σ H O env T [d] _ s (by unfold aCons aNil; rw [e1]; rfl) fun vs H1 g1 rv => ?_
  unfold enumItems at ei
  split at ei
  · cases ei
    cases rv with
    | cons r1 r2 =>
      cases r2
      cases r1 with
      | lst a0 a1 a2 => exact ⟨_, _, rfl, SqL.of a1, k _ H1 g1 (itOk_enum a0 a1 a2)⟩
  · cases ei
/-! stars -/
def ltItems : D → Option (List D)
  | .list xs => some xs
  | .tuple xs => some xs
  | _ => none
/-! xs[::-1] of a list -/
end
end ML
/-! ML28: sorted, of numbers and of pairs of numbers. -/
namespace ML
open PySem L2
/-! ### two sorted rearrangements are one -/
/-- pairs, by their first, then by their second -/
def leP (a b : Int × Int) : Bool := decide (a.1 < b.1 ∨ (a.1 = b.1 ∧ a.2 ≤ b.2))
def sortP (ps : List (Int × Int)) : List (Int × Int) := ps.mergeSort leP
/-! ### the rules -/
def pairD (p : Int × Int) : D := .tuple [.int p.1, .int p.2]
section
variable {S : Cxt} {e : Expr} {qs : Env → Option (List D)} {pos pp : Pos}
end
end ML
/-! ML29: plain readings of the rules of ML27, ML28; nested targets. -/
namespace ML
open PySem L2
section
variable {α : Type} {env : Env} {p : Env → Option D} {q : Env → Option (List D)}
theorem lo_ipEnum {k : List D → Option α} {r : Option α} (h : LeO r ((p env).bind fun d => (enumItems d).bind k)) : LeO r ((ipEnum p env).bind k) := fun a e => by
  rw [← h a e]
  unfold ipEnum
  cases p env <;> rfl
/-! nested targets -/
theorem gt2_eq {g1 g2 : D → Env → Option Env} {a b : D} : gTupD 2 (gsCons g1 (gsCons g2 gsNil)) (.tuple [a, b]) env = (g1 a env).bind fun e1 => g2 b e1 := by
  simp only [e_gTupD, List.length_cons, List.length_nil, if_true, e_gsCons]
  cases g1 a env with
  | none => rfl
  | some e1 =>
    show (g2 b e1).bind (gsNil []) = g2 b e1
    cases g2 b e1 <;> rfl
end
section
variable {α τ : Type} {Φ : τ → Fl → Prop} {env : Env}
theorem so_t2 {d : D} {g1 g2 : D → Env → Option Env} {K : Env → Fl} {g : D → D → Po τ} (h : ∀ a b, SimK Φ (g a b) (ofl (g1 a env) fun e1 => ofl (g2 b e1) K)) : SimK Φ (pn2 d g) (ofl (gTupD 2 (gsCons g1 (gsCons g2 gsNil)) d env) K) := by
  unfold pn2
  split
  · rename_i a b
    have h1 := h a b
    rw [gt2_eq]
    cases e1 : g1 a env with
    | none => rw [e1] at h1; exact h1
    | some e2 => rw [e1] at h1; exact h1
  · exact trivial
end
end ML
/-! ML30: set of a list of numbers, and it sorted. -/
namespace L2
open PySem PySem.Spec PyProof.Rows
section
variable {P : Program} {w : World} {A : Around} {E : Value → Shared → Prop} {s : Shared}
end
section
variable {X : Cx}
end
end L2
namespace ML
open PySem L2
/-! ### distinct numbers in their order -/
def insU (x : Int) : List Int → List Int
  | [] => [x]
  | y :: r => if x < y then x :: y :: r else if x = y then y :: r else y :: insU x r
def dsort : List Int → List Int
  | [] => []
  | x :: r => insU x (dsort r)
theorem insU_mem {x k : Int} : ∀ {L : List Int}, k ∈ insU x L ↔ k = x ∨ k ∈ L
  | [] => by simp [insU]
  | y :: r => by
    unfold insU
    split
    · simp
    · split
      · rename_i h
        subst h
        simp
      · rw [List.mem_cons, insU_mem (L := r), List.mem_cons]
        constructor
        · rintro (h | h | h)
          · exact .inr (.inl h)
          · exact .inl h
          · exact .inr (.inr h)
        · rintro (h | h | h)
          · exact .inr (.inl h)
          · exact .inl h
          · exact .inr (.inr h)
theorem insU_pw {x : Int} : ∀ {L : List Int}, L.Pairwise (· < ·) → (insU x L).Pairwise (· < ·)
  | [], _ => List.pairwise_singleton _ _
  | y :: r, h => by
    have h' := List.pairwise_cons.mp h
    unfold insU
    split
    · rename_i hx
      refine List.pairwise_cons.mpr ⟨fun k hk => ?_, h⟩
      rcases List.mem_cons.mp hk with e | e
      · subst e; exact hx
      · have := h'.1 k e
        omega
    · split
      · exact h
      · rename_i h1 h2
        refine List.pairwise_cons.mpr ⟨fun k hk => ?_, insU_pw h'.2⟩
        rcases insU_mem.mp hk with e | e
        · omega
        · exact h'.1 k e
theorem dsort_mem {k : Int} : ∀ {L : List Int}, k ∈ dsort L ↔ k ∈ L
  | [] => Iff.rfl
  | x :: r => by
    show k ∈ insU x (dsort r) ↔ _
    rw [insU_mem, dsort_mem (L := r), List.mem_cons]
theorem dsort_pw : ∀ (L : List Int), (dsort L).Pairwise (· < ·)
  | [] => .nil
  | x :: r => insU_pw (dsort_pw r)
theorem insU_len {x : Int} : ∀ {L : List Int}, (insU x L).length ≤ L.length + 1
  | [] => by simp [insU]
  | y :: r => by
    unfold insU
    split
    · simp
    · split
      · simp
      · have := insU_len (x := x) (L := r)
        simp
        omega
theorem dsort_len : ∀ (L : List Int), (dsort L).length ≤ L.length
  | [] => Nat.le_refl _
  | x :: r => by
    have h1 := insU_len (x := x) (L := dsort r)
    have h2 := dsort_len r
    show (insU x (dsort r)).length ≤ _
    rw [List.length_cons]
    omega
section
variable {S : Cxt} {e : Expr} {qs : Env → Option (List D)} {pos pp pos2 pp2 : Pos}
end
end ML
/-! ML31: sorted of what an effect gives; a list taken apart by a tuple of names. -/
namespace ML
open PySem L2
section
variable {S : Cxt} {e : Expr} {pos pp : Pos} {qs : Env → Res (List D)}
/-! a, b, c = a list -/
end
section
variable {τ : Type} {Φ : τ → Fl → Prop} {env : Env}
end
end ML
/-! ML32: `in` and `not in`: flat values in lists and tuples, signs in texts. -/
namespace ML
open PySem L2
def valD : D → Option V
  | .none => some .non
  | .bool b => some (.bl b)
  | .int i => some (.int i)
  | .str x => some (.str x)
  | _ => none
def valsD : List D → Option (List V)
  | [] => some []
  | d :: ds => (valD d).bind fun v => (valsD ds).map (v :: ·)
theorem valD_eq {K : Fg} {H : Hp} {O : OS} {v w : V} {d : D} (h : valD d = some w) (r : RD K H O v d) : v = w ∧ flatV w = true := by
  cases r <;> cases h <;> exact ⟨rfl, rfl⟩
theorem valsD_eq {K : Fg} {H : Hp} {O : OS} : ∀ {vs ws : List V} {ds : List D}, valsD ds = some ws → RDs K H O vs ds → vs = ws ∧ ws.all flatV = true
  | _, _, [], h, r => by cases h; cases r; exact ⟨rfl, rfl⟩
  | _, _, d :: ds, h, r => by
    obtain ⟨w, e1, e2⟩ := Option.bind_eq_some_iff.mp h
    obtain ⟨ws, e3, e4⟩ := Option.map_eq_some_iff.mp e2
    subst e4
    cases r with
    | cons r1 r2 =>
      obtain ⟨a1, a2⟩ := valD_eq e1 r1
      obtain ⟨b1, b2⟩ := valsD_eq e3 r2
      subst a1 b1
      exact ⟨rfl, by simp [a2, b2]⟩
/-- d in e -/
def inD (d e : D) : Option Bool := match e with
  | .list xs => (valD d).bind fun v => (valsD xs).map fun vs => inV v vs
  | .tuple xs => (valD d).bind fun v => (valsD xs).map fun vs => inV v vs
  | .str z => match d with
    | .str x => match x.cps.toList with
      | [c] => some (decide (c ∈ z.cps.toList))
      | _ => none
    | _ => none
  | _ => none
def dIn (d e : D) : Option D := (inD d e).map .bool
def rInX (K : Fg) : R2 := rOr (rIn K false) fun x y H Q => ∃ (c : Nat) (z : Str), x = .str ⟨#[c]⟩ ∧ y = .str z ∧ Q (.bl (decide (c ∈ z.cps.toList))) H
theorem one_sign {x : Str} {c : Nat} (h : x.cps.toList = [c]) : x = ⟨#[c]⟩ := by
  cases x with
  | mk a =>
    congr 1
    exact Array.ext' (by simpa using h)
theorem in_cases {K : Fg} {H : Hp} {O : OS} {x y : V} {d e : D} {b : Bool} (rx : RB K H O x d) (ry : RB K H O y e) (h : inD d e = some b) :
    (∃ p xs, y = .ref p ∧ (SqL K H p xs ∨ SqT K H p xs) ∧ flatV x = true ∧ xs.all flatV = true ∧ b = inV x xs) ∨ (∃ (c : Nat) (z : Str), x = .str ⟨#[c]⟩ ∧ y = .str z ∧ b = decide (c ∈ z.cps.toList)) := by
  have flat : ∀ w, valD d = some w → x = w ∧ flatV w = true := fun w hw => by
    rcases rx with rx | ⟨a, vs, ds, e1, e2, _⟩ | ⟨_, _, _, _, _, e2, _⟩
    · exact valD_eq hw rx
    · subst e2
      cases hw
    · subst e2
      cases hw
  unfold inD at h
  split at h
  · rename_i xs
    obtain ⟨w, e1, e2⟩ := Option.bind_eq_some_iff.mp h
    obtain ⟨ws, e3, e4⟩ := Option.map_eq_some_iff.mp e2
    obtain ⟨p, vs, e5, q1, q2⟩ := ry.lst
    obtain ⟨a1, a2⟩ := flat w e1
    obtain ⟨b1, b2⟩ := valsD_eq e3 q2
    subst a1 b1
    exact .inl ⟨p, _, e5, .inl (SqL.of q1), a2, b2, e4.symm⟩
  · rename_i xs
    obtain ⟨w, e1, e2⟩ := Option.bind_eq_some_iff.mp h
    obtain ⟨ws, e3, e4⟩ := Option.map_eq_some_iff.mp e2
    obtain ⟨a1, a2⟩ := flat w e1
    rcases ry with ry | ⟨a, vs, ds, _, e6, _⟩ | ⟨_, _, _, _, _, e6, _⟩
    · cases ry with
      | tup h1 h2 =>
        obtain ⟨b1, b2⟩ := valsD_eq e3 h2
        subst a1 b1
        exact .inl ⟨_, _, rfl, .inr h1.sq, a2, b2, e4.symm⟩
    · cases e6
    · cases e6
  · rename_i z
    split at h
    · rename_i s
      split at h
      · rename_i c hc
        cases h
        have e1 := (flat (.str s) rfl).1
        have e2 := one_sign hc
        subst e1 e2
        rcases ry with ry | ⟨a, vs, ds, _, e6, _⟩ | ⟨_, _, _, _, _, e6, _⟩
        · cases ry
          exact .inr ⟨c, z, rfl, rfl, rfl⟩
        · cases e6
        · cases e6
      · cases h
    · cases h
  · cases h
theorem op_inX {X : Cx} : OpR X (compareOp .In) (rInX X.K) := OpR_or op_in_seq op_in_sign
theorem ov_in {K : Fg} : OpV K (rInX K) dIn := by
  intro H O x y d e z Q c rx ry hz k
  obtain ⟨b, e1, e2⟩ := Option.map_eq_some_iff.mp hz
  subst e2
  rcases in_cases rx ry e1 with ⟨p, xs, a1, a2, a3, a4, a5⟩ | ⟨s, t, a1, a2, a5⟩
  · subst a5
    exact .inl ⟨p, xs, a1, a2, a3, a4, k _ H .refl (.bl _)⟩
  · subst a5
    exact .inr ⟨s, t, a1, a2, k _ H .refl (.bl _)⟩
section
variable {S : Cxt} {e1 e2 : Expr} {p q : Env → Option D} {fa fb : Env → Res D} {pos : Pos}
theorem jt_in (ha : JB S e1 p) (hb : JB S e2 q) (hm : behindInMarks .In e2 = false := by rfl) : JTP S (.Compare e1 [.In] [e2] pos) (tOf (xOp dIn p q)) := jtp_cmp (r := rInX) (fun _ _ => op_inX) ov_in ha hb hm
end
end ML
/-! ML33: list(range(a, b)). -/
namespace ML
open PySem L2 PyProof.Rows
section
variable {S : Cxt} {e1 e2 : Expr} {qs : Env → Res (List D)} {pos pp pos2 pp2 : Pos}
end
end ML
/-! ML34: dicts by numbers and texts; range(a, b, -1); max and min of a list. -/
namespace ML
open PySem L2
def keyOf : D → Option Key
  | .int n => some (.inl n)
  | .str x => some (.inr x)
  | _ => none
theorem keyOf_eq {d : D} {k : Key} (h : keyOf d = some k) : d = keyD k := by
  cases d <;> cases h <;> rfl
theorem RB.key {K : Fg} {H : Hp} {O : OS} {v : V} {d : D} {k : Key} (h : keyOf d = some k) (r : RB K H O v d) : v = kV k := by
  cases keyOf_eq h
  cases k with
  | inl n => exact r.int
  | inr x => exact r.str
/-! ### `in`, `not in` -/
section
variable {S : Cxt} {e1 e2 : Expr} {p q : Env → Option D} {fa fb : Env → Res D} {pos : Pos}
end

/-! ### {} -/
section
variable {K : Fg} {A : Act} {H : Hp} {O : OS} {σ : L2.St} {env : Env} {T : List Addr}
end
def xDct0 (_ : Env) : Option D := some (.dict [])
section
variable {S : Cxt} {pos : Pos}
theorem jp_dict0 : JP S (.Dict [] [] pos) xDct0 := ⟨tDNewK, fun X o => pe_dnewK, fun σ H O env T d Q s e k => by
  cases e
  exact fun p n => k _ _ (Grow.new n) (.dct (ks := []) (vs := []) (ds := []) (s.oc.not n) upd_same rfl .nil)⟩
end

/-! ### d[k] = e -/
def putD (kvs : List (Key × D)) (k : Key) (d : D) : List (Key × D) :=
  if (kvs.any fun kv => decide (kv.1 = k)) = true then kvs.map (fun kv => if kv.1 = k then (kv.1, d) else kv) else kvs ++ [(k, d)]
section
variable {K : Fg} {A : Act} {H : Hp} {O : OS} {σ : L2.St} {env : Env} {T : List Addr}
end
def ownD (env : Env) (i : Nat) : Option (Option Nat × List (Key × D)) := match env[i]? with
  | some (.own tag (.dct kvs)) => some (tag, kvs)
  | _ => none
section
variable {S : Cxt} {e : Expr} {pos : Pos}
end

/-! ### list(d), sorted(d), dict(pairs) -/
theorem RDs.keys {K : Fg} {H : Hp} {O : OS} : ∀ (ks : List Key), RDs K H O (ks.map kV) (ks.map keyD)
  | [] => .nil
  | .inl n :: ks => .cons (.int n) (RDs.keys ks)
  | .inr x :: ks => .cons (.str x) (RDs.keys ks)
theorem RDs.ints {K : Fg} {H : Hp} {O : OS} : ∀ (is : List Int), RDs K H O (is.map V.int) (is.map PyData.int)
  | [] => .nil
  | i :: is => .cons (.int i) (RDs.ints is)
/-! ### range(a, b, -1) -/
section
variable {S : Cxt} {tg e1 e2 e3 : Expr} {pos pp : Pos}
end

/-! ### max and min of a list -/
section
variable {S : Cxt} {e : Expr} {pos pp : Pos} {qs : Env → Option (List D)} {qr : Env → Res (List D)}
end

/-! ### dict(pairs) -/
section
variable {S : Cxt} {e : Expr} {pos pp : Pos} {qs : Env → Option (List D)} {qr : Env → Res (List D)}
end
end ML
/-! ML35: plain readings of the rules of ML34. -/
namespace ML
open PySem L2
section
variable {α τ : Type} {Φ : τ → Fl → Prop} {r : Po τ} {env : Env} {p q : Env → Option D}
def putF (i : Nat) (e : Env) (d : D) (q : Option D) (k : Env → Fl) : Fl := (match ownD e i, q.bind keyOf with
  | some (tag, kvs), some key => if kvs.length < sizeLine then Fl.nx (e.set i (.own tag (.dct (putD kvs key d)))) else .bad
  | _, _ => .bad).then k
end
end ML
/-! ML36: x is True; [e] * n as a new list; list(range(..)), purely. -/
namespace ML
open PySem L2
section
variable {S : Cxt} {e e1 e2 : Expr} {p q : Env → Option D} {fa fb : Env → Res D} {pos : Pos} {x : Str}
/-! ### x is True -/
/-! ### [e] * n, a new list -/
/-! ### list(range(..)) -/
end
/-! ### plain readings -/
section
variable {α : Type} {env : Env} {p q : Env → Option D}
end
end ML
/-! ML37: list + list as a new list; a comprehension stored in a cell. -/
namespace ML
open PySem L2
def addLL (d e : D) : Option (List D) := match d, e with
  | .list xs, .list ys => if xs.length + ys.length ≤ sizeLine then some (xs ++ ys) else none
  | _, _ => none
def yOpL (g : D → D → Option (List D)) (a b : Env → Res D) (env : Env) : Res SV := (a env).bind fun env1 x => (b env1).bind fun env2 y => match g x y with | some z => .ok env2 (.own none (.lst z)) | none => .bad
section
variable {S : Cxt} {e e1 e2 : Expr} {pos : Pos} {fa fb : Env → Res D}
theorem je_addL (ha : JD S e1 fa) (hb : JD S e2 fb) : JE S (.BinOp e1 .Add e2 pos) (yOpL addLL fa fb) := by
  obtain ⟨t, h1, h2⟩ := ha
  obtain ⟨u, h3, h4⟩ := hb
  refine ⟨tOp rCat t u, fun X o => pe_op op_cat (h1 X o) (h3 X o), fun σ H O env T Q s k => ?_⟩
  unfold yOpL at k
  refine h2 σ H O env T _ s ?_
  cases ea : fa env with
  | bad => rw [ea] at k; exact k
  | err a b => rw [ea] at k; exact k
  | ok env1 x =>
    rw [ea] at k
    dsimp only [Res.bind] at k
    intro H1 O1 s1 t1 v rv
    refine h4 σ H1 O1 env1 T _ s1 ?_
    cases eb : fb env1 with
    | bad => rw [eb] at k; exact k
    | err a b =>
      rw [eb] at k
      exact fun cls dd H' O' s' t' ex => k cls dd H' O' s' (t1.trans t') ex
    | ok env2 y =>
      rw [eb] at k
      dsimp only at k
      intro H2 O2 s2 t2 w rw'
      cases eg : addLL x y with
      | none => rw [eg] at k; exact k.elim
      | some z =>
        rw [eg] at k
        unfold addLL at eg
        split at eg
        · split at eg
          · rename_i xs ys hl
            cases eg
            cases RD.sta t2.1 _ _ rv with
            | lst a1 a2 a3 =>
              cases rw' with
              | lst b1 b2 b3 =>
                refine ⟨_, _, _, _, rfl, rfl, a2, b2, by rw [a3.len, b3.len]; exact hl, fun p n => ?_⟩
                obtain ⟨O3, s3, r3, t3⟩ := s2.adopt n (a3.app b3)
                exact k _ _ O3 [p] s3 r3 ((t1.trans t2).trans t3)
          · cases eg
        · cases eg
end
/-! ### plain readings -/
section
variable {τ : Type} {Φ : τ → Fl → Prop} {r : Po τ} {env : Env}
theorem sk_yOpL {g : D → D → Option (List D)} {a b : Env → Res D} {k : Env → SV → Fl} (h : SimK Φ r ((a env).fl fun e1 x => (b e1).fl fun e2 y => ofl (g x y) fun z => k e2 (.own none (.lst z)))) : SimK Φ r ((yOpL g a b env).fl k) := by
  unfold yOpL
  simp only [fl_bind]
  refine Eq.mp (congrArg (SimK Φ r) (congrArg _ ?_)) h
  funext e1 x
  refine congrArg _ ?_
  funext e2 y
  cases g x y <;> rfl
end
end ML
/-! ML38: calls by names, purely: f(b = .., a = ..). -/
namespace ML
open PySem L2
def pick {α : Type} (perm : List Nat) (xs : List α) : List α := perm.filterMap fun i => xs[i]?
/-- how a call by names alone binds -/
def KB (K : Fg) (fd : FuncData) (ps ks : List Str) (perm : List Nat) : Prop := ∀ (s : Shared) (ws : List Value), K.In s.heap → ws.length = ks.length → BindsTo s fd ⟨[], ks.zip ws⟩ (ps.zip (pick perm ws))
def Dk (K : Fg) (mg : Str → Option Value) (x : Str) (st : Stmt) (ps ks : List Str) (perm : List Nat) : Prop := ∃ (f : Addr) (fd : FuncData), Fun K x x st f fd ∧ mg x = some (.ref f) ∧ KB K fd ps ks perm
def Fxk (S : Cxt) (k : Nat) (x : Str) (F : List SV → Res SV) (ks : List Str) (perm : List Nat) : Prop := ∃ (f : Addr) (fd : FuncData) (ps : List Str),
  FnG S.P S.w S.K S.mg S.base S.gq k f fd ps (spF S.K S.mg F) ∧ S.mg x = some (.ref f) ∧ PySem.W.keepIn S.K (.ref f) = true ∧ KB S.K fd ps ks perm
theorem Dk.mk {S : Cxt} {x : Str} {st : Stmt} {N ps ks : List Str} {perm : List Nat} {g : Env → Fl} {k : Nat} (d : Dk S.K S.mg x st ps ks perm) (sc : FnScope N ps (defScope st)) (h : ∀ (A : Act) (W : Wish), JSs ⟨S.P, S.w, S.K, S.mg, S.base, N, defScope st, k, A, W, false, S.gq⟩ (defBody st) g) :
    Fxk S (k + 1) x (bodyF ps.length N.length g) ks perm := by
  obtain ⟨f, fd, Fu, mx, bi⟩ := d
  exact ⟨f, fd, ps, gn_of Fu sc h, mx, Fu.kp, bi⟩
theorem pick_vals (perm : List Nat) {zs : List V} {ws : List Value} (r : Vals zs ws) : Vals (pick perm zs) (pick perm ws) := by
  unfold pick
  induction perm with
  | nil => exact .nil
  | cons i p ih =>
    rw [List.filterMap_cons, List.filterMap_cons]
    cases e1 : zs[i]? with
    | none =>
      have : ws[i]? = none := by
        rw [List.getElem?_eq_none_iff] at e1 ⊢
        rw [← r.length]
        exact e1
      rw [this]
      exact ih
    | some z =>
      have hi := (List.getElem?_eq_some_iff.mp e1).1
      have hw : i < ws.length := by rw [← r.length]; exact hi
      rw [List.getElem?_eq_getElem hw]
      refine .cons ?_ ih
      obtain ⟨u, q1, q2⟩ := r.get e1
      rw [List.getElem?_eq_getElem hw] at q1
      cases q1
      exact q2
def JKP (S : Cxt) (kws : List Keyword) (p : Env → Option (List D)) : Prop := ∃ t, (∀ X, S.Ok X → PK X kws t) ∧ SemAP S t p
section
variable {S : Cxt} {e : Expr} {pos pp kpos : Pos} {kws : List Keyword} {p : Env → Option D} {q : Env → Option (List D)} {x : Str} {nm : Option Str} {F : List SV → Res SV} {k : Nat} {ks : List Str} {perm : List Nat}
theorem jkp_nil : JKP S [] aNil := ⟨_, fun X o => pk_nil, fun σ H O env T d Q s e k => by cases e; exact k _ H .refl .nil⟩
theorem jkp_cons (ha : JP S e p) (hr : JKP S kws q) : JKP S (⟨nm, e, kpos⟩ :: kws) (aCons p q) := by
  obtain ⟨t, h1, h2⟩ := ha
  obtain ⟨u, h3, h4⟩ := hr
  refine ⟨tCons t u, fun X o => pk_cons (h1 X o) (h3 X o), fun σ H O env T ds Q s e k => ?_⟩
  obtain ⟨d, e1, e2⟩ := Option.bind_eq_some_iff.mp e
  obtain ⟨es, e3, e4⟩ := Option.map_eq_some_iff.mp e2
  subst e4
  refine h2 σ H O env T d _ s e1 fun v H1 g1 r1 => h4 σ H1 O env T es _ (s.grow g1) e3 fun vs H2 g2 r2 => ?_
  exact k _ H2 (g1.trans g2) (.cons (r1.grow g2) r2)
end
/-! ### plain readings -/
section
variable {α : Type} {env : Env} {F : List SV → Res SV} {perm : List Nat} {q : Env → Option (List D)}
end
end ML
/-! ML39: max of a tuple. -/
namespace ML
open PySem L2
section
variable {S : Cxt} {e : Expr} {pos pp : Pos} {qs : Env → Option (List D)} {qr : Env → Res (List D)}
end

/-! ### xs.index(k), whole numbers -/
section
variable {S : Cxt} {e1 e2 : Expr} {p q : Env → Option D} {pos : Pos}
end
end ML
/-! ML40: defs that call themselves: by how many levels are left. -/
namespace ML
open PySem L2
theorem Df.bad {S : Cxt} {x : Str} {st : Stmt} {ps : List Str} {k : Nat} (d : Df S.K S.mg x st ps) : Fx S k x (fun _ => .bad) := by
  obtain ⟨f, fd, Fu, mx, bi⟩ := d
  refine ⟨f, fd, ps, ⟨fun vs H Q E h => ?_, fun A outer s H args us vs Q E _ _ _ _ _ _ h => ?_⟩, mx, Fu.kp, bi⟩
  · obtain ⟨_, _, _, _, _, _, _, q⟩ := h
    exact q.elim
  · obtain ⟨_, _, _, _, _, _, _, q⟩ := h
    exact q.elim
/-! ### len(set(xs)) of numbers that differ -/
section
variable {S : Cxt} {e : Expr} {p : Env → Option D} {pos pp pos2 pp2 : Pos}
end
end ML
/-! ML41: list comprehensions with two fors. -/
namespace ML
open PySem L2
section
variable {S : Cxt} {elt tg iter tg1 iter1 : Expr} {ifs ifs1 : List Expr} {scope : Scope} {own : List (Str × Nat)} {ws ws1 vs1 : List Nat} {fi fi1 : Env → Option (List D)} {gt gt1 : D → Env → Option Env} {u u1 : Env → Option Bool} {el : Env → Option D} {pos : Pos}
end
/-! its reading -/
section
variable {α : Type} {env : Env} {own own1 : List Nat} {fi fi1 : Env → Option (List D)} {gt gt1 : D → Env → Option Env} {el : Env → Option D} {f : D → Option (List D)}
end
end ML
/-! ML42: a def under one more name. -/
namespace ML
open PySem L2
def DfA (K : Fg) (mg : Str → Option Value) (y x : Str) (st : Stmt) (ps : List Str) : Prop := ∃ (f : Addr) (fd : FuncData), Fun K x x st f fd ∧ mg y = some (.ref f) ∧ Binds K fd ps []
theorem DfA.mk {S : Cxt} {y x : Str} {st : Stmt} {N ps : List Str} {g : Env → Fl} {k : Nat} (d : DfA S.K S.mg y x st ps) (sc : FnScope N ps (defScope st)) (h : ∀ (A : Act) (W : Wish), JSs ⟨S.P, S.w, S.K, S.mg, S.base, N, defScope st, k, A, W, false, S.gq⟩ (defBody st) g) :
    Fx S (k + 1) y (bodyF ps.length N.length g) := by
  obtain ⟨f, fd, Fu, mx, bi⟩ := d
  exact ⟨f, fd, ps, gn_of Fu sc h, mx, Fu.kp, bi⟩
end ML
/-! ML43: exceptions: raise, try .. except X as n: y = n; isinstance and fields of what was caught. -/
namespace ML
open PySem PySem.Spec PyProof.Rows L2
section
variable {X : Cx} {pins : List (Addr × Obj)} {σ : L2.St} {H : Hp} {s : Shared}
/-- an object that stands beside the tracked ones is tracked from here on: an exception -/
theorem adopt_exn (I : Inv X pins σ H s) {a C : Addr} {d : Option Addr} {oe : Obj} {vs : Array Value} (ha : s.heap.get? a = some oe) (hc : oe.cls = .ref C) (hdct : oe.dict = d) (hd : oe.data = .fields vs) (na : H a = none)
    (nL : a ≠ X.env.locals) (n0 : X.s_0.heap.get? a = none) (np : ∀ p ∈ X.pn ++ pins, p.1 ≠ a) : Inv X pins σ (upd H a (exH a C d)) s := by
  have new : ObjOk X.prog X.w (upd H a (exH a C d)) s.heap a (exH a C d) :=
    show (∃ (oe : Obj), s.heap.get? a = some oe ∧ oe.cls = .ref C ∧ oe.dict = d ∧ ∃ vs, oe.data = .fields vs) ∧ _ ∧ _ from
      ⟨⟨oe, ha, hc, hdct, vs, hd⟩, ⟨oe, ha⟩, fun h1 h2 ⟨o, e, r⟩ k => ⟨o, k _ e, r⟩⟩
  refine ⟨I.ok, I.os, I.bare, ⟨I.base.keep, I.base.slot, fun b o e n hx => ?_, I.base.there, fun b xs e => ?_, fun b o u e => ?_, fun b ps e => ?_⟩, I.loc, I.cell, ?_, fun x c e => ?_, fun p hp => ?_, fun b u e => ?_, I.len⟩
  · rw [upd_ne (fun z => by rw [z, n0] at e; cases e)]
    exact I.base.free b o e n hx
  · have q := I.base.tups b xs e
    rw [upd_ne (ne_of_none q na)]
    exact q
  · have q := I.base.frzs b o u e
    rw [upd_ne (ne_of_none q na)]
    exact q
  · obtain ⟨more, q⟩ := I.base.tbls b ps e
    exact ⟨more, by rw [upd_ne (ne_of_none q na)]; exact q⟩
  · rw [upd_ne (Ne.symm nL)]
    exact I.free
  · have nc : c ≠ a := fun z => by
      obtain ⟨v, o, e1, e2⟩ := I.cell x c e
      rw [z, ha] at e1
      cases e1
      rw [hd] at e2
      cases e2
    rw [upd_ne nc]
    exact I.freeC x c e
  · obtain ⟨e1, e2, e3, e4, e5⟩ := I.pin p hp
    exact ⟨e1, by rw [upd_ne (np p hp)]; exact e2, e3, e4, e5⟩
  · by_cases hb : b = a
    · subst hb
      rw [upd_same] at e
      cases e
      exact new
    · rw [upd_ne hb] at e
      exact (I.hok b u e).stay (fun _ _ _ q => q) (fun c q => by rw [upd_ne (ne_of_none q na)]; exact q) fun c xs q => by rw [upd_ne (ne_of_none q na)]; exact q
end

/-! ### try: body, except x as n: y = n -/
def Exn.toD (x : Exn) : D := exD x.c (x.fs.map (·.1)) (x.fs.map (·.2))
theorem ExR.rd {K : Fg} {mg : Str → Option Value} {H : Hp} {O : OS} {x : Exn} {C : Addr} {d : Option Addr} (e : ExR K mg H O x (.ref C) d) {a : Addr} (na : H a = none) (oa : ¬ O a) : RD K (upd H a (exH a C d)) O (.ref a) x.toD := by
  obtain ⟨C', vs, e1, e2, e3, e4, e5, e6⟩ := e
  cases e1
  have g : Grow H (upd H a (exH a C d)) := Grow.new na
  refine .exn oa upd_same e2 (fun z => e3 (by simpa using z)) (fun z => ?_) (by simpa using e5) (e6.grow g)
  obtain ⟨dd, q1, q2, q3⟩ := e4 (by simpa using z)
  exact ⟨dd, q1, q2, g _ _ q3⟩
end ML
/-! ML44: raise C(e, ..), C with its own __init__; isinstance and fields of an exception. -/
namespace ML
open PySem PySem.Spec PyProof.Rows L2

/-! ### self.f = f -/
def iniA (f : Str) (q1 q2 q3 q4 : Pos) : Stmt := .Assign [.Attribute (.Name "self" q1) f q2] (.Name f q3) q4
def spI1 (C : Addr) (f : Str) : Sp := fun vs H Q _ => ∃ (a : Addr) (v : V), vs = [.ref a, v] ∧ H a = some (exo a C none) ∧
  ∀ dx, H dx = none → dx ≠ a → Q .non (upd (upd H dx (exd dx [(f, v)])) a (exo a C (some dx)))
def spI2 (C : Addr) (f g : Str) : Sp := fun vs H Q _ => ∃ (a : Addr) (v u : V), vs = [.ref a, v, u] ∧ H a = some (exo a C none) ∧
  ∀ dx, H dx = none → dx ≠ a → Q .non (upd (upd (upd H dx (exd dx [(f, v)])) a (exo a C (some dx))) dx (exd dx [(g, u), (f, v)]))
section
variable {P : Program} {w : World} {K : Fg} {mg : Str → Option Value} {base : Heap} {C fI : Addr} {fd : FuncData} {q : Str} {st : Stmt} {f g : Str}
theorem init1 {q1 q2 q3 q4 : Pos} (T : OexC K C) (hno : PySem.W.findIn K (.ref C) f = some none) (F : Fun K "__init__" q st fI fd) (Sc : FnScope ["self", f] ["self", f] (defScope st)) (hb : defBody st = [iniA f q1 q2 q3 q4])
    (h0 : okV ["self", f] (defScope st) 0 "self" = true) (h1 : okV ["self", f] (defScope st) 1 f = true) : FnOk P w K mg base (L2.CX P w) 1 fI fd ["self", f] (spI1 C f) := by
  obtain ⟨a1, a2, a3, a4⟩ := okV_of h0
  obtain ⟨b1, b2, b3, b4⟩ := okV_of h1
  refine F.okX Sc (fun vs H Q E h => ?_) (fun cdv A outer s H vs Q E hr h => ?_)
  · obtain ⟨a, v, rfl, _⟩ := h
    rfl
  · rw [hb]
    refine ⟨_, pss_one (ps_ost (pe_var (i := 0) a1 a2 a3 a4) (pe_var (i := 1) b1 b2 b3 b4)), ?_⟩
    obtain ⟨a, v, rfl, ea, k⟩ := h
    exact ⟨v, rfl, .ref a, rfl, a, C, rfl, T, hno, .inl ⟨ea, fun dx n ne => k dx n ne⟩⟩
theorem init2 {q1 q2 q3 q4 r1 r2 r3 r4 : Pos} (T : OexC K C) (hno : PySem.W.findIn K (.ref C) f = some none) (hno2 : PySem.W.findIn K (.ref C) g = some none) (F : Fun K "__init__" q st fI fd) (Sc : FnScope ["self", f, g] ["self", f, g] (defScope st))
    (hb : defBody st = [iniA f q1 q2 q3 q4, iniA g r1 r2 r3 r4])
    (h0 : okV ["self", f, g] (defScope st) 0 "self" = true) (h1 : okV ["self", f, g] (defScope st) 1 f = true) (h2 : okV ["self", f, g] (defScope st) 2 g = true) : FnOk P w K mg base (L2.CX P w) 1 fI fd ["self", f, g] (spI2 C f g) := by
  obtain ⟨a1, a2, a3, a4⟩ := okV_of h0
  obtain ⟨b1, b2, b3, b4⟩ := okV_of h1
  obtain ⟨c1, c2, c3, c4⟩ := okV_of h2
  refine F.okX Sc (fun vs H Q E h => ?_) (fun cdv A outer s H vs Q E hr h => ?_)
  · obtain ⟨a, v, u, rfl, _⟩ := h
    rfl
  · rw [hb]
    refine ⟨_, pss_cons (ps_ost (pe_var (i := 0) a1 a2 a3 a4) (pe_var (i := 1) b1 b2 b3 b4)) (pss_one (ps_ost (pe_var (i := 0) a1 a2 a3 a4) (pe_var (i := 2) c1 c2 c3 c4))), ?_⟩
    obtain ⟨a, v, u, rfl, ea, k⟩ := h
    refine ⟨v, rfl, .ref a, rfl, a, C, rfl, T, hno, .inl ⟨ea, fun dx n ne => ?_⟩⟩
    refine ⟨u, rfl, .ref a, rfl, a, C, rfl, T, hno2, .inr ⟨dx, [(f, v)], upd_same, ?_, (by simp), k dx n ne⟩⟩
    rw [upd_ne ne, upd_same]
end
/-- what the top has written of an exception class with fields ns -/
structure XCls (K : Fg) (mg : Str → Option Value) (c : Str) (ns : List Str) (st : Stmt) : Prop where
  ex : ∃ (C fI : Addr) (fd : FuncData), PySem.W.nsIn K mainGlobals c = some (some (.ref C)) ∧ mg c = some (.ref C) ∧ OexC K C ∧ PySem.W.findIn K (.ref C) "__init__" = some (some (.ref fI)) ∧ PySem.W.typeIn K (.ref fI) = some (.type "function") ∧
    Fun K "__init__" (c ++ ".__init__") st fI fd ∧ Binds K fd ("self" :: ns) [] ∧ (∀ n ∈ ns, PySem.W.findIn K (.ref C) n = some none) ∧ XfC K C ∧ ExcC K C
section
variable {S : Cxt} {e : Expr} {es : List Expr} {qs : Env → Option (List D)} {c f g : Str} {st : Stmt} {p pos pos2 : Pos}
end

/-! ### isinstance(e, C) -/
/-- the class of an exception -/
def xcls : D → Option Str
  | .dict ((.none, .str c) :: _) => some c
  | _ => none
def xlook (c : Str) : List (Str × Bool) → Option Bool
  | [] => none
  | (a, b) :: r => if a = c then some b else xlook c r
def isXO (tb : List (Str × Bool)) (d : D) : Option D := (xcls d).bind fun c => (xlook c tb).map .bool
/-- an exception in the heap -/
inductive XAt (K : Fg) (H : Hp) : V → Str → Prop
  | mk {a C : Addr} {c : Str} {d : Option Addr} : H a = some (exH a C d) → PySem.W.nsIn K mainGlobals c = some (some (.ref C)) → (d = none ∨ ∃ dd fs, d = some dd ∧ H dd = some (.xd fs)) → XAt K H (.ref a) c
theorem XAt.grow {K : Fg} {H H' : Hp} {v : V} {c : Str} (h : XAt K H v c) (g : Grow H H') : XAt K H' v c := by
  cases h with
  | mk a b d =>
    refine .mk (g _ _ a) b ?_
    rcases d with d | ⟨dd, fs, e, d⟩
    · exact .inl d
    · exact .inr ⟨dd, fs, e, g _ _ d⟩
theorem RB.xat {K : Fg} {H : Hp} {O : OS} {v : V} {d : D} {c : Str} (h : RB K H O v d) (e : xcls d = some c) : XAt K H v c := by
  rcases h with h | ⟨_, _, _, _, e2, _⟩ | ⟨a, ks, vs, ds, e1, e2, h1, h2, h3⟩
  · cases h with
    | @dct _ ks _ ds a b c' f =>
      cases ks with
      | nil => cases e
      | cons k ks =>
        cases ds with
        | nil => cases e
        | cons d ds => cases k <;> cases e
    | @exn a C c' d ns vs ds h0 h1 h2 h3 h4 h5 h6 =>
      cases e
      refine .mk h1 h2 ?_
      cases ns with
      | nil => exact .inl (h3 rfl)
      | cons n ns =>
        obtain ⟨dd, q1, q2, q3⟩ := h4 (by simp)
        exact .inr ⟨dd, _, q1, q3⟩
    | _ => cases e
  · subst e2
    cases e
  · subst e2
    cases ks with
    | nil => cases e
    | cons k ks =>
      cases ds with
      | nil => cases e
      | cons d ds => cases k <;> cases e
theorem kit_exn {X : Cx} {pins : List (Addr × Obj)} {σ : L2.St} {H : Hp} {s : Shared} {v : V} {u : Value} {c : Str} (I : Inv X pins σ H s) (rv : RelV v u) (h : XAt X.K H v c) :
    ∃ C, PySem.W.nsIn X.K mainGlobals c = some (some (.ref C)) ∧ (ExcC X.K C → ∃ P : Heap → Prop, PySem.W.KitX X.K u (.ref C) P ∧ P s.heap ∧ u ≠ .builtin "__main__.__loader__#opaque") := by
  cases h with
  | @mk a C c d h1 h2 h3 =>
    refine ⟨C, h2, fun E => ?_⟩
    cases (show u = Value.ref a from rv)
    obtain ⟨⟨oe, e1, e2, e3, vs, e4⟩, _⟩ := (show (∃ (oe : Obj), s.heap.get? a = some oe ∧ oe.cls = .ref C ∧ oe.dict = d ∧ ∃ vs, oe.data = .fields vs) ∧ _ ∧ _ from I.hok a _ h1)
    have hcl : (PySem.W.clsIn X.K C).isSome = true := by
      obtain ⟨cd, hc, _⟩ := PySem.W.any_some E.hd
      rw [hc]
      rfl
    rcases h3 with z | ⟨dd, fs, z, e5⟩
    · refine ⟨_, PySem.W.kitx_exc (x := a) (ox := oe) (od := none) hcl E.hg E.hk E.hs E.ha E.hn E.ht E.hm, ?_, fun z => nomatch z⟩
      refine ⟨e1, e2, by unfold PySem.W.notCls; rw [e4] <;> rfl, ?_⟩
      rw [e3, z]
      trivial
    · obtain ⟨mA, hns, _⟩ := (show ObjOk X.prog X.w H s.heap dd (.xd fs) from I.hok dd _ e5)
      obtain ⟨od, ho, _⟩ := lookIn_ns hns
      refine ⟨_, PySem.W.kitx_exc (x := a) (ox := oe) (od := some od) hcl E.hg E.hk E.hs E.ha E.hn E.ht E.hm, ?_, fun z => nomatch z⟩
      refine ⟨e1, e2, by unfold PySem.W.notCls; rw [e4] <;> rfl, ?_⟩
      rw [e3, z]
      exact ho
/-- isinstance of an exception: one class, a tuple of classes -/
def rIsXc (K : Fg) : List V → Hp → VK → Prop := fun xs H Q => ∃ (v : V) (c : Str) (Ct : Addr) (b : Bool), xs = [v, .ref Ct] ∧ XAt K H v c ∧ (∀ C, PySem.W.nsIn K mainGlobals c = some (some (.ref C)) → ExcC K C ∧ PySem.W.kitOne K (.ref C) (.ref Ct) = some b) ∧ Q (.bl b) H
theorem call_isXc {X : Cx} : CallR X (.builtin "isinstance") (rIsXc X.K) := by
  intro pins s σ H xs us Q I r h
  obtain ⟨v, c, Ct, b, rfl, xa, hc, q⟩ := h
  obtain ⟨u1, u2, rfl, r1, r2⟩ := vals2 r
  cases (show u2 = Value.ref Ct from r2)
  obtain ⟨C, e1, k⟩ := kit_exn I r1 xa
  obtain ⟨E, e2⟩ := hc C e1
  obtain ⟨P, Z, p, hx⟩ := k E
  exact PySem.W.kia_one Z I.kIn p e2 hx fun tk => ⟨.bl b, H, I.tok tk, rfl, q⟩
/-- the answers of isinstance at the class t -/
def XIs (K : Fg) (mg : Str → Option Value) (t : Str) (tb : List (Str × Bool)) : Prop := ∃ Ct, mg t = some (.ref Ct) ∧ ∀ c b, xlook c tb = some b → ∀ C, PySem.W.nsIn K mainGlobals c = some (some (.ref C)) → ExcC K C ∧ PySem.W.kitOne K (.ref C) (.ref Ct) = some b
section
variable {S : Cxt} {e : Expr} {p : Env → Option D} {pp px pos : Pos} {t : Str} {tb : List (Str × Bool)}
def xIsX (tb : List (Str × Bool)) (p : Env → Option D) (env : Env) : Option D := (p env).bind (isXO tb)
theorem jp_isX (hg : Gn S "isinstance") (hm : S.mg "isinstance" = none) (gT : Gn S t) (hT : XIs S.K S.mg t tb) (hdt : (t == ("__debug__" : Str)) = false) (ha : JB S e p)
    (hs : ∀ env, starEach [e, .Name t px] env = [(false, eval e env), (false, eval (.Name t px) env)] := by intro _; rfl) : JP S (.Call (.Name "isinstance" pp) [e, .Name t px] [] pos) (xIsX tb p) := by
  obtain ⟨u, h1, h2⟩ := ha
  obtain ⟨Ct, mt, hc⟩ := hT
  refine ⟨tCB (rIsXc S.K) (tCons u (tCons (tC (.ref Ct)) tNil)), fun X o => ?_, fun σ H O env T d Q s e k => ?_⟩
  · have z := call_isXc (X := X)
    rw [o.K] at z
    exact pe_callB z (gl_of o hg) (by rw [o.mg]; exact hm) (by decide +kernel) (pa_cons (h1 X o) (pa_cons (pe_glob (gl_of o gT) (by rw [o.mg]; exact mt) rfl hdt) pa_nil) (by rw [hs]; rfl)) (by decide) (by decide) (by rw [hs]; rfl) (by rfl)
  · obtain ⟨d', e1, e2⟩ := Option.bind_eq_some_iff.mp e
    obtain ⟨c, e3, e4⟩ := Option.bind_eq_some_iff.mp e2
    obtain ⟨b, e5, e6⟩ := Option.map_eq_some_iff.mp e4
    subst e6
    refine h2 σ H O env T d' _ s e1 fun v H1 g1 r1 => ?_
    exact ⟨v, c, Ct, b, rfl, r1.xat e3, hc c b e5, k _ H1 g1 (.bl b)⟩
/-! ### e.f -/
def lookF (f : Str) : List (D × D) → Option D
  | [] => none
  | (.str g, d) :: r => if g = f then some d else lookF f r
  | _ :: _ => none
def fldO (f : Str) (cs : List Str) (d : D) : Option D := match d with
  | .dict ((.none, .str c) :: kvs) => if cs.contains c = true then lookF f kvs else none
  | _ => none
def xFld (f : Str) (cs : List Str) (p : Env → Option D) (env : Env) : Option D := (p env).bind (fldO f cs)
def XFs (K : Fg) (f : Str) (cs : List Str) : Prop := ∀ c ∈ cs, ∀ C, PySem.W.nsIn K mainGlobals c = some (some (.ref C)) → XfC K C ∧ PySem.W.findIn K (.ref C) f = some none
theorem RDs.lookF {K : Fg} {H : Hp} {O : OS} {f : Str} {d : D} : ∀ {ns : List Str} {vs : List V} {ds : List D}, RDs K H O vs ds → ML.lookF f ((ns.map PyData.str).zip ds) = some d → ns.length = vs.length → ∃ v, (ns.zip vs).lookup f = some v ∧ RD K H O v d
  | [], _, _, _, e, _ => by cases e
  | n :: ns, [], _, _, _, l => by cases l
  | n :: ns, v :: vs, [], h, _, _ => by cases h
  | n :: ns, v :: vs, d0 :: ds, h, e, l => by
    cases h with
    | cons h1 h2 =>
      unfold ML.lookF at e
      rw [List.map_cons, List.zip_cons_cons] at e
      dsimp only at e
      split at e
      · rename_i hn
        cases e
        exact ⟨v, by rw [List.zip_cons_cons, List.lookup_cons, hn]; simp, h1⟩
      · rename_i hn
        obtain ⟨w, q1, q2⟩ := RDs.lookF h2 e (by simpa using l)
        exact ⟨w, by rw [List.zip_cons_cons, List.lookup_cons, show (f == n) = false by simpa using fun z => hn z.symm]; exact q1, q2⟩
theorem jp_fld {f : Str} {cs : List Str} (hX : XFs S.K f cs) (ha : JB S e p) (hb : ∀ env, attributeBase e f env (eval e env) = eval e env := by intro _; rfl) : JP S (.Attribute e f pos) (xFld f cs p) := by
  obtain ⟨t, h1, h2⟩ := ha
  refine ⟨fun σ H Q => t σ H fun x H1 => ∃ (a C : Addr) (dd : Addr) (fs : List (Str × V)) (v : V), x = .ref a ∧ H1 a = some (exH a C (some dd)) ∧ XfC S.K C ∧ PySem.W.findIn S.K (.ref C) f = some none ∧ H1 dd = some (.xd fs) ∧ fs.lookup f = some v ∧ Q v H1, fun X o => ⟨fun pins s σ H Q I h => ?_⟩, fun σ H O env T d Q s e k => ?_⟩
  · refine attr_of (hb _) (thn ((h1 X o).run pins s σ H _ I h) fun u s1 hh => ?_)
    obtain ⟨x, H1, I1, rx, a, C, dd, fs, v, ex, ea, T, hno, ed, l, q⟩ := hh
    subst ex
    obtain rfl : u = Value.ref a := rx
    obtain ⟨⟨oe, e1, e2, e3, vs, e4⟩, _⟩ := (show (∃ (oe : Obj), s1.heap.get? a = some oe ∧ oe.cls = .ref C ∧ oe.dict = some dd ∧ ∃ vs, oe.data = .fields vs) ∧ _ ∧ _ from I1.hok a _ ea)
    obtain ⟨mA, hns, hr⟩ := (show ObjOk X.prog X.w H1 s1.heap dd (.xd fs) from I1.hok dd _ ed)
    obtain ⟨od, ho, hl⟩ := lookIn_ns hns
    obtain ⟨u, hu, ru⟩ := RelO.some_of (v := v) (o := mA f) (by rw [← l]; exact hr f)
    have J : PySem.W.InstAt s1.heap a oe C (some od) := ⟨e1, e2, by unfold PySem.W.notCls; rw [e4] <;> rfl, by rw [e3]; exact ho⟩
    rw [← o.K] at T hno
    exact HandSPX.exc_get I1.kIn J T.ga T.gg T.exC (PySem.W.findObj_own T.hdC hno rfl (by rw [hl, hu])) (handed_of ru) ⟨v, H1, I1.tok _, ru, q⟩
  · obtain ⟨d', e1, e2⟩ := Option.bind_eq_some_iff.mp e
    refine h2 σ H O env T d' _ s e1 fun v H1 g1 r1 => ?_
    unfold fldO at e2
    split at e2
    · rename_i c kvs
      split at e2
      · rename_i hc
        rcases r1 with h | ⟨_, _, _, _, e3, _⟩ | ⟨a, ks, vs, ds, e3, e4, _⟩
        · generalize ed : PyData.dict ((.none, .str c) :: kvs) = d2 at h
          cases h with
          | @dct _ ks _ ds a b c' f =>
            have z := noX_key (ks := ks) (ds := ds)
            rw [← PyData.dict.inj ed] at z
            cases z
          | @exn a C c' d' ns vs ds h0 h1' h2' h3 h4 h5 h6 =>
            cases ed
            obtain ⟨T, hno⟩ := hX c (by simpa using hc) C h2'
            obtain ⟨w, q1, q2⟩ := RDs.lookF h6 e2 h5
            have nn : ns ≠ [] := fun z => by subst z; cases q1
            obtain ⟨dd, z1, z2, z3⟩ := h4 nn
            subst z1
            exact ⟨a, C, dd, _, w, rfl, h1', T, hno, z3, q1, k _ H1 g1 q2⟩
          | _ => cases ed
        · cases e3
        · have z := noX_key (ks := ks) (ds := ds)
          rw [← PyData.dict.inj e4] at z
          cases z
      · cases e2
    · cases e2
end
end ML
/-! ML45: repr of data with dicts; {k: v}, constants. -/
namespace ML
open PySem PySem.Spec PyProof.Rows L2

mutual
/-- data without exceptions -/
def plainD : D → Bool
  | .list xs => plainAll xs
  | .tuple xs => plainAll xs
  | .dict kvs => noX kvs && plainKv kvs
  | _ => true
def plainAll : List D → Bool
  | [] => true
  | x :: r => plainD x && plainAll r
def plainKv : List (D × D) → Bool
  | [] => true
  | (_, d) :: r => plainD d && plainKv r
end
theorem plainKv_zip : ∀ {ks : List Key} {ds : List D}, ks.length = ds.length → plainKv ((ks.map keyD).zip ds) = plainAll ds
  | [], [], _ => rfl
  | [], _ :: _, h => by cases h
  | _ :: _, [], h => by cases h
  | k :: ks, d :: ds, h => by
    rw [List.map_cons, List.zip_cons_cons]
    show (plainD d && plainKv _) = (plainD d && plainAll ds)
    rw [plainKv_zip (ks := ks) (ds := ds) (by simpa using h)]
section
variable {X : Cx} {pins : List (Addr × Obj)} {σ : L2.St} {H : Hp} {s : Shared} {O : OS}
theorem sys_list (I : Inv X pins σ H s) (sm : SysB X.base) {a : Addr} {u : HO} (h : H a = some u) : sysModules ≠ a := fun z => by
  obtain ⟨mm, o, es, ep, e, _⟩ := sm
  have q := (I.bs _ _ e).2
  rw [z, h] at q
  cases q
theorem reads_keys : ∀ {ks : List Key} {vs : List V} {xs : List (Key × Value)} {es : List DictEntry}, ks.length = vs.length → KV (ks.zip vs) xs → Pairs (mixKind X.prog X.w) es xs → ∃ as, ReadsAll s.heap (es.map (·.key)) (ks.map keyD) as ∧ sysModules ∉ as
  | [], [], _, _, _, r, p => by
    cases r
    cases p
    exact ⟨_, .nil, List.not_mem_nil⟩
  | k :: ks, v :: vs, _, _, l, r, p => by
    rw [List.zip_cons_cons] at r
    cases r with
    | @cons _ b _ _ h1 h2 =>
      cases p with
      | cons p1 p2 p3 =>
        obtain ⟨as, h3, h4⟩ := reads_keys (by simpa using l) h2 p3
        obtain ⟨b1, b2⟩ := b
        obtain ⟨h5, _⟩ := h1
        dsimp only at h5 p1
        subst h5
        rw [List.map_cons, List.map_cons]
        rcases keyIs_shape p1 with ⟨i, t, e1, e2⟩ | ⟨x, t, e1, e2⟩
        · rw [e1, e2]
          exact ⟨_, .cons (.int i t) h3, by simpa using h4⟩
        · rw [e1, e2]
          exact ⟨_, .cons (.str x t) h3, by simpa using h4⟩
  | [], _ :: _, _, _, l, _, _ => by cases l
  | _ :: _, [], _, _, l, _, _ => by cases l
theorem vals_of : ∀ {ks : List Key} {vs : List V} {xs : List (Key × Value)} {es : List DictEntry}, ks.length = vs.length → KV (ks.zip vs) xs → Pairs (mixKind X.prog X.w) es xs → Vals vs (es.map (·.val))
  | [], [], _, _, _, r, p => by
    cases r
    cases p
    exact .nil
  | k :: ks, v :: vs, _, _, l, r, p => by
    rw [List.zip_cons_cons] at r
    cases r with
    | @cons _ b _ _ h1 h2 =>
      cases p with
      | cons p1 p2 p3 =>
        rw [List.map_cons, p2]
        exact .cons h1.2 (vals_of (by simpa using l) h2 p3)
  | [], _ :: _, _, _, l, _, _ => by cases l
  | _ :: _, [], _, _, l, _, _ => by cases l
theorem reads_both (I : Inv X pins σ H s) (sm : SysB X.base) : (∀ (d : D) (v : V), RD X.K H O v d → ∀ (u : Value), plainD d = true → RelV v u → ∃ as, Reads s.heap u d as ∧ sysModules ∉ as) ∧
    ∀ (ds : List D) (vs : List V), RDs X.K H O vs ds → ∀ (us : List Value), plainAll ds = true → Vals vs us → ∃ as, ReadsAll s.heap us ds as ∧ sysModules ∉ as := by
  have nn : ∀ (u : Value), plainD PyData.none = true → RelV .non u → ∃ as, Reads s.heap u .none as ∧ sysModules ∉ as := fun u _ r => by
    cases r
    exact ⟨_, Reads.none, List.not_mem_nil⟩
  have nb : ∀ (b : Bool) (u : Value), plainD (.bool b) = true → RelV (.bl b) u → ∃ as, Reads s.heap u (.bool b) as ∧ sysModules ∉ as := fun b u _ r => by
    cases r
    exact ⟨_, Reads.bool b, List.not_mem_nil⟩
  have ni : ∀ (i : Int) (u : Value), plainD (.int i) = true → RelV (.int i) u → ∃ as, Reads s.heap u (.int i) as ∧ sysModules ∉ as := fun i u _ r => by
    obtain ⟨t, rfl⟩ := r
    exact ⟨_, Reads.int i t, List.not_mem_nil⟩
  have ns : ∀ (x : Str) (u : Value), plainD (.str x) = true → RelV (.str x) u → ∃ as, Reads s.heap u (.str x) as ∧ sysModules ∉ as := fun x u _ r => by
    obtain ⟨t, rfl⟩ := r
    exact ⟨_, Reads.str x t, List.not_mem_nil⟩
  have nl : ∀ {a : Addr} {xs : List V} {ds : List D}, ¬ O a → H a = some (.lst xs) → RDs X.K H O xs ds → (∀ (us : List Value), plainAll ds = true → Vals xs us → ∃ as, ReadsAll s.heap us ds as ∧ sysModules ∉ as) → ∀ (u : Value), plainD (.list ds) = true → RelV (.ref a) u → ∃ as, Reads s.heap u (.list ds) as ∧ sysModules ∉ as := fun {a xs ds} h0 h1 h2 ih u n r => by
    cases r
    obtain ⟨its, rv, ⟨o, m, ho, hc, _, hd⟩, _⟩ := I.list (SqL.of h1)
    obtain ⟨as, hr, hs⟩ := ih its (by simpa [plainD] using n) rv
    exact ⟨_, Reads.list ho hc hd hr, List.not_mem_cons_of_ne_of_not_mem (sys_list I sm h1) hs⟩
  have nt : ∀ {a : Addr} {xs : List V} {ds : List D}, XT X.K H O a xs → RDs X.K H O xs ds → (∀ (us : List Value), plainAll ds = true → Vals xs us → ∃ as, ReadsAll s.heap us ds as ∧ sysModules ∉ as) → ∀ (u : Value), plainD (.tuple ds) = true → RelV (.ref a) u → ∃ as, Reads s.heap u (.tuple ds) as ∧ sysModules ∉ as := fun {a xs ds} h1 h2 ih u n r => by
    cases r
    obtain ⟨its, rv, ⟨o, ho, hc, m, hd⟩, _⟩ := I.tuple h1.sq
    obtain ⟨as, hr, hs⟩ := ih its (by simpa [plainD] using n) rv
    exact ⟨_, Reads.tuple ho hc hd hr, hs⟩
  have nd : ∀ {a : Addr} {ks : List Key} {vs : List V} {ds : List D}, ¬ O a → H a = some (.dK (ks.zip vs)) → ks.length = vs.length → RDs X.K H O vs ds → (∀ (us : List Value), plainAll ds = true → Vals vs us → ∃ as, ReadsAll s.heap us ds as ∧ sysModules ∉ as) → ∀ (u : Value), plainD (.dict ((ks.map keyD).zip ds)) = true → RelV (.ref a) u → ∃ as, Reads s.heap u (.dict ((ks.map keyD).zip ds)) as ∧ sysModules ∉ as := fun {a ks vs ds} h0 h1 h2 h3 ih u n r => by
    cases r
    have n' : noX ((ks.map keyD).zip ds) = true ∧ plainKv ((ks.map keyD).zip ds) = true := by simpa [plainD] using n
    rw [plainKv_zip (by rw [h2, h3.len])] at n'
    obtain ⟨_, hs, xs, kv, o, es, ep, e1, e2, e3, _, e5, _⟩ := dk_of I.hok h1
    obtain ⟨as, k1, k2⟩ := reads_keys (s := s) h2 kv e5
    obtain ⟨bs, k3, k4⟩ := ih _ n'.2 (vals_of h2 kv e5)
    have l3 := h3.len
    have f1 : ((ks.map keyD).zip ds).map (·.1) = ks.map keyD := by
      rw [← List.unzip_fst, List.unzip_zip]
      rw [List.length_map]; omega
    have f2 : ((ks.map keyD).zip ds).map (·.2) = ds := by
      rw [← List.unzip_snd, List.unzip_zip]
      rw [List.length_map]; omega
    refine ⟨_, Reads.dict e1 e2.1 e3 (by rw [f1]; exact k1) (by rw [f2]; exact k3), fun z => ?_⟩
    rcases List.mem_append.mp z with z | z
    · rcases List.mem_cons.mp z with z | z
      · have hs : (a == sysModules) = false := hs
        rw [← z] at hs
        simp at hs
      · exact k2 z
    · exact k4 z
  have nil : ∀ (us : List Value), plainAll [] = true → Vals [] us → ∃ as, ReadsAll s.heap us [] as ∧ sysModules ∉ as := fun us _ r => by
    cases r
    exact ⟨_, ReadsAll.nil, List.not_mem_nil⟩
  have cons : ∀ {v : V} {vs : List V} {d : D} {ds : List D}, RD X.K H O v d → RDs X.K H O vs ds → (∀ (u : Value), plainD d = true → RelV v u → ∃ as, Reads s.heap u d as ∧ sysModules ∉ as) →
      (∀ (us : List Value), plainAll ds = true → Vals vs us → ∃ as, ReadsAll s.heap us ds as ∧ sysModules ∉ as) → ∀ (us : List Value), plainAll (d :: ds) = true → Vals (v :: vs) us → ∃ as, ReadsAll s.heap us (d :: ds) as ∧ sysModules ∉ as := fun {v vs d ds} _ _ i1 i2 us n r => by
    have n' : plainD d = true ∧ plainAll ds = true := by simpa [plainAll] using n
    cases r with
    | cons r1 r2 =>
      obtain ⟨as, q1, q2⟩ := i1 _ n'.1 r1
      obtain ⟨bs, q3, q4⟩ := i2 _ n'.2 r2
      exact ⟨_, ReadsAll.cons q1 q3, fun z => (List.mem_append.mp z).elim q2 q4⟩
  refine ⟨fun d v h => ?_, fun ds vs h => ?_⟩
  · exact RD.rec (motive_1 := fun v d _ => ∀ (u : Value), plainD d = true → RelV v u → ∃ as, Reads s.heap u d as ∧ sysModules ∉ as) (motive_2 := fun vs ds _ => ∀ (us : List Value), plainAll ds = true → Vals vs us → ∃ as, ReadsAll s.heap us ds as ∧ sysModules ∉ as)
      nn nb ni ns nl nt nd (fun _ _ _ _ _ _ _ _ _ n _ => by cases n) nil cons h
  · exact RDs.rec (motive_1 := fun v d _ => ∀ (u : Value), plainD d = true → RelV v u → ∃ as, Reads s.heap u d as ∧ sysModules ∉ as) (motive_2 := fun vs ds _ => ∀ (us : List Value), plainAll ds = true → Vals vs us → ∃ as, ReadsAll s.heap us ds as ∧ sysModules ∉ as)
      nn nb ni ns nl nt nd (fun _ _ _ _ _ _ _ _ _ n _ => by cases n) nil cons h
theorem RD.reads (I : Inv X pins σ H s) (sm : SysB X.base) (d : D) (v : V) (u : Value) (n : plainD d = true) (h : RD X.K H O v d) (r : RelV v u) : ∃ as, Reads s.heap u d as ∧ sysModules ∉ as := (reads_both I sm).1 d v h u n r
theorem RDs.reads (I : Inv X pins σ H s) (sm : SysB X.base) (ds : List D) (vs : List V) (us : List Value) (n : plainAll ds = true) (h : RDs X.K H O vs ds) (r : Vals vs us) : ∃ as, ReadsAll s.heap us ds as ∧ sysModules ∉ as := (reads_both I sm).2 ds vs h us n r
theorem RB.reads (I : Inv X pins σ H s) (sm : SysB X.base) {d : D} {v : V} {u : Value} (n : plainD d = true) (h : RB X.K H O v d) (r : RelV v u) : ∃ as, Reads s.heap u d as ∧ sysModules ∉ as := by
  rcases h with h | ⟨a, vs, ds, rfl, rfl, h1, h2⟩ | ⟨a, ks, vs, ds, rfl, rfl, h1, h2, h3⟩
  · exact RD.reads I sm d v u n h r
  · cases r
    obtain ⟨its, rv, ⟨o, m, ho, hc, _, hd⟩, _⟩ := I.list (SqL.of h1)
    obtain ⟨as, hr, hs⟩ := RDs.reads I sm ds _ its (by simpa [plainD] using n) h2 rv
    exact ⟨_, Reads.list ho hc hd hr, List.not_mem_cons_of_ne_of_not_mem (sys_list I sm h1) hs⟩
  · cases r
    have n' : noX ((ks.map keyD).zip ds) = true ∧ plainKv ((ks.map keyD).zip ds) = true := by simpa [plainD] using n
    rw [plainKv_zip (by rw [h2, h3.len])] at n'
    obtain ⟨_, hs, xs, kv, o, es, ep, e1, e2, e3, _, e5, _⟩ := dk_of I.hok h1
    obtain ⟨as, k1, k2⟩ := reads_keys (s := s) h2 kv e5
    obtain ⟨bs, k3, k4⟩ := RDs.reads I sm ds vs _ n'.2 h3 (vals_of h2 kv e5)
    have l3 := h3.len
    have f1 : ((ks.map keyD).zip ds).map (·.1) = ks.map keyD := by
      rw [← List.unzip_fst, List.unzip_zip]
      rw [List.length_map]; omega
    have f2 : ((ks.map keyD).zip ds).map (·.2) = ds := by
      rw [← List.unzip_snd, List.unzip_zip]
      rw [List.length_map]; omega
    refine ⟨_, Reads.dict e1 e2.1 e3 (by rw [f1]; exact k1) (by rw [f2]; exact k3), fun z => ?_⟩
    rcases List.mem_append.mp z with z | z
    · rcases List.mem_cons.mp z with z | z
      · have hs : (a == sysModules) = false := hs
        rw [← z] at hs
        simp at hs
      · exact k2 z
    · exact k4 z
end
/-- repr of data, dicts among them -/
def rReprX (K : Fg) : List V → Hp → VK → Prop := fun xs H Q => ∃ x d O, xs = [x] ∧ RB K H O x d ∧ plainD d = true ∧ d.showable = true ∧ d.depth ≤ 100 ∧ d.shown.length ≤ sizeLine ∧ Q (.str d.shown) H
theorem cr_reprX {X : Cx} (sm : SysB X.base) (gd : X.A.guards = some []) (hu : X.A.units + 200 < cLine) : CallR X (.builtin "repr") (rReprX X.K) := by
  intro pins s σ H xs us Q I r h
  obtain ⟨x, d, O, e, dp, h0, h1, h3, h4, q⟩ := h
  subst e
  obtain ⟨u, rfl, rx⟩ := vals1 r
  have fin : ∀ (h' : Heap) (t : Tok) (tk : Nat), (∀ b o, s.heap.get? b = some o → h'.get? b = some o) → EP X pins σ Q (.str d.shown t) { s with heap := h', toks := tk } := fun h' t tk hk => ⟨.str d.shown, H, I.kept hk, ⟨t, rfl⟩, q⟩
  obtain ⟨as, rd, ns⟩ := RB.reads I sm h0 dp rx
  cases rd with
  | none => exact PySem.P.repr_of_none (fin s.heap _ _ fun _ _ e => e)
  | bool b => exact PySem.P.repr_of_bool (fin s.heap _ _ fun _ _ e => e)
  | int i t => exact PySem.P.repr_of_int (of_decide_eq_true h1) (fin s.heap _ _ fun _ _ e => e)
  | str y t => exact PySem.P.repr_of_str (fin s.heap _ _ fun _ _ e => e) h4
  | list a1 a2 a3 a4 => exact repr_of_reads' (.list a1 a2 a3 a4) h1 (fun _ => ns) gd (by omega) (fun _ _ e => e) (fun h' t tk hk => fin h' t tk hk) h4
  | tuple a1 a2 a3 a4 => exact repr_of_reads' (.tuple a1 a2 a3 a4) h1 (fun _ => ns) gd (by omega) (fun _ _ e => e) (fun h' t tk hk => fin h' t tk hk) h4
  | dict a1 a2 a3 a4 a5 => exact repr_of_reads' (.dict a1 a2 a3 a4 a5) h1 (fun _ => ns) gd (by omega) (fun _ _ e => e) (fun h' t tk hk => fin h' t tk hk) h4
def fReprX : List D → Option D
  | [d] => if plainD d = true ∧ d.showable = true ∧ d.depth ≤ 100 ∧ d.shown.length ≤ sizeLine then some (.str d.shown) else none
  | _ => none
theorem cv_reprX {K : Fg} : CallV K (rReprX K) fReprX := by
  intro H O xs ds z Q c h hz k
  unfold fReprX at hz
  split at hz
  · split at hz
    · rename_i d hc
      cases hz
      obtain ⟨a, e, h1⟩ := f2_1 h
      subst e
      exact ⟨a, d, O, rfl, h1, hc.1, hc.2.1, hc.2.2.1, hc.2.2.2, k _ H .refl (.str _)⟩
    · cases hz
  · cases hz
section
variable {S : Cxt} {e : Expr} {qs : Env → Option (List D)} {rs : Env → Res (List D)} {pp pos : Pos}
theorem jp_reprX (hq : S.gq = true) (hg : Gn S "repr") (hm : S.mg "repr" = none) (ha : JAB S [e] qs) (he : ∀ env, starEach [e] env = [(false, eval e env)] := by intro _; rfl) : JP S (.Call (.Name "repr" pp) [e] [] pos) (xCall fReprX qs) :=
  jp_callB (r := rReprX) (fun _ o => cr_reprX o.sysb (o.gd hq) o.units2) cv_reprX hg hm (by decide +kernel) ha (by decide) (by decide) he (fun _ => rfl)
end
end ML
/-! ML46: readings of raise and try; the making of the classes' facts. -/
namespace ML
open PySem L2
/-! ### what an error leaves of the slots -/
section
variable {α β : Type}
end

/-! ### readings -/
def Po.tryP {α : Type} (r : Po α) (h : Exn → Po α) : Po α := match r with
  | .ok a => .ok a
  | .err x => h x
  | .bad => .bad
@[simp] theorem po_try_ok {α : Type} {a : α} {h : Exn → Po α} : (Po.ok a).tryP h = .ok a := rfl
@[simp] theorem po_try_err {α : Type} {x : Exn} {h : Exn → Po α} : (Po.err x : Po α).tryP h = h x := rfl
section
variable {τ σ ρ : Type} {Φ : τ → Fl → Prop} {N : σ → Env → Prop} {T : ρ → Env → SV → Prop} {env : Env} {g k : Env → Fl}
variable {p : Env → Option D} {r : Option D}
theorem lo_isX {tb : List (Str × Bool)} {kk : D → Option α} {r : Option α} (h : LeO r ((p env).bind fun d => (isXO tb d).bind kk)) : LeO r ((xIsX tb p env).bind kk) := fun a e => by
  rw [← h a e]
  unfold xIsX
  cases p env <;> rfl
theorem lo_fld {f : Str} {cs : List Str} {kk : D → Option α} {r : Option α} (h : LeO r ((p env).bind fun d => (fldO f cs d).bind kk)) : LeO r ((xFld f cs p env).bind kk) := fun a e => by
  rw [← h a e]
  unfold xFld
  cases p env <;> rfl
end

/-! ### the classes' facts -/
theorem kit_sub {K : Fg} {C D : Addr} {b : Bool} (hd : PySem.W.hasDictIn K D = true) (ht : PySem.W.typeIn K (.ref D) = some (.type "type")) (hs : PySem.W.subIn K (.ref C) (.ref D) = some b) (hr : PySem.W.subIn K (.ref C) (.ref C) = some true) : PySem.W.kitOne K (.ref C) (.ref D) = some b := by
  unfold PySem.W.kitOne
  by_cases e : C = D
  · subst e
    rw [hr] at hs
    cases hs
    rw [if_pos (by simp)]
  · rw [if_neg (by simpa using e)]
    obtain ⟨cd, hc, _⟩ := PySem.W.any_some hd
    have e2 : ((PySem.W.clsIn K D).isSome && PySem.W.typeIn K (.ref D) == some (.type "type")) = true := by rw [hc, ht] <;> rfl
    show (if ((PySem.W.clsIn K D).isSome && PySem.W.typeIn K (.ref D) == some (.type "type")) = true then PySem.W.subIn K (.ref C) (.ref D) else none) = some b
    rw [if_pos e2]
    exact hs
/-- a def within a class -/
def inCls (st : Stmt) (i : Nat) : Stmt := match st with
  | .ClassDef _ _ _ body _ _ _ _ _ _ _ => body.getD i (.Pass ⟨0, 0, 0, 0⟩)
  | _ => .Pass ⟨0, 0, 0, 0⟩
section
variable {K : Fg} {mg : Str → Option Value} {h : Heap} {x : Str} {st : Stmt}
theorem xcls_mk {ns : List Str} {C N f1 : Addr} {nm q : Str} {bs bm : List Value} {sn : List Str} {sub : List Value} {ab : Bool} {col : Option Bool} {dd od an : Option Addr} {m0 m1 m2 m3 m5 : Option Value}
    {oc kV dc pm cd ct : Value} {sl : Array (Option Value)} (X : K.In h) (G : h.Ns mainGlobals mg)
    (aC : PySem.W.nsIn K mainGlobals x = some (some (.ref C))) (lC : K.lookup C = some (excClassObj nm q C N bs bm true sn sub ab col dd m0 m1 m2 m3 m5 "ValueError.__new__")) (rC : PySem.HandSPX.refsVE bm = true)
    (sa : PySem.W.findIn K (.ref C) "__setattr__" = some (some (.builtin "object.__setattr__"))) (ga : PySem.W.findIn K (.ref C) "__getattribute__" = some (some (.builtin "BaseException.__getattribute__"))) (gg : PySem.W.findIn K (.ref C) "__getattr__" = some none)
    (eC : PySem.W.subIn K (.ref C) (.type "BaseException") = some true) (tC : PySem.W.typeIn K (.ref C) = some (.type "type")) (kC : PySem.W.keepIn K (.ref C) = true) (hC : PySem.W.hasDictIn K C = true)
    (ca : PySem.W.findIn K (.ref C) "__class__" = some (some (.builtin "object.__class__"))) (cn : PySem.W.specialIn K (.builtin "object.__class__") "__get__" = some (some (.builtin "getset_descriptor.__get__"))) (ct' : PySem.W.takesIn K (.builtin "object.__class__") = some true) (cm : PySem.W.mroIn K C (.type "object") = some true)
    (a1 : PySem.W.findIn K (.ref C) "__init__" = some (some (.ref f1))) (t1 : PySem.W.typeIn K (.ref f1) = some (.type "function")) (k1 : PySem.W.keepIn K (.ref f1) = true)
    (l1 : K.lookup f1 = some ⟨oc, od, .func (PySem.W.fnOf "__init__" (x ++ ".__init__") (defArgs st) (defBody st) (defScope st) .none kV dc pm an cd ct), sl⟩) (c1 : PySem.W.codeIn K cd (x ++ ".__init__") = true)
    (nn : ∀ n ∈ ns, PySem.W.findIn K (.ref C) n = some none)
    (bb : ∀ {f : Addr} {fd : FuncData}, Fun K "__init__" (x ++ ".__init__") st f fd → Binds K fd ("self" :: ns) []) : XCls K mg x ns st :=
  ⟨C, f1, _, aC, PySem.W.mg_of X G aC, ⟨⟨nm, q, N, bs, bm, sn, sub, ab, col, dd, m0, m1, m2, m3, m5, lC, rC⟩, sa, eC, tC, kC⟩, a1, t1, fun_mk (st := st) l1 c1 k1, bb (fun_mk (st := st) l1 c1 k1), nn, ⟨ga, gg, eC, hC⟩, ⟨ga, gg, eC, hC, ca, cn, ct', cm⟩⟩
theorem nn1 {C : Addr} {a : Str} (h : PySem.W.findIn K (.ref C) a = some none) : ∀ n ∈ [a], PySem.W.findIn K (.ref C) n = some none := fun n hn => by
  rw [List.mem_singleton] at hn
  rw [hn]
  exact h
theorem nn2 {C : Addr} {a b : Str} (h : PySem.W.findIn K (.ref C) a = some none) (h' : PySem.W.findIn K (.ref C) b = some none) : ∀ n ∈ [a, b], PySem.W.findIn K (.ref C) n = some none := fun n hn => by
  rcases List.mem_cons.mp hn with rfl | hn
  · exact h
  · exact nn1 h' n hn
/-- of each of these classes -/
def XAll (K : Fg) (P : Addr → Prop) : List Str → Prop
  | [] => True
  | c :: r => (∃ C, PySem.W.nsIn K mainGlobals c = some (some (.ref C)) ∧ P C) ∧ XAll K P r
def XTab (K : Fg) (P : Addr → Bool → Prop) : List (Str × Bool) → Prop
  | [] => True
  | p :: r => (∃ C, PySem.W.nsIn K mainGlobals p.1 = some (some (.ref C)) ∧ P C p.2) ∧ XTab K P r
theorem XAll.at {P : Addr → Prop} : ∀ {cs : List Str}, XAll K P cs → ∀ c ∈ cs, ∀ C, PySem.W.nsIn K mainGlobals c = some (some (.ref C)) → P C
  | c :: r, h, c', hc, C, e => by
    rcases List.mem_cons.mp hc with rfl | hc
    · obtain ⟨⟨C', e1, p⟩, _⟩ := h
      rw [e1] at e
      cases e
      exact p
    · exact XAll.at h.2 c' hc C e
theorem XTab.at {P : Addr → Bool → Prop} : ∀ {tb : List (Str × Bool)}, XTab K P tb → ∀ c b, xlook c tb = some b → ∀ C, PySem.W.nsIn K mainGlobals c = some (some (.ref C)) → P C b
  | (a, b0) :: r, h, c, b, hc, C, e => by
    unfold xlook at hc
    split at hc
    · rename_i ea
      cases hc
      subst ea
      obtain ⟨⟨C', e1, p⟩, _⟩ := h
      have e1 : PySem.W.nsIn K mainGlobals a = some (some (.ref C')) := e1
      rw [e1] at e
      cases e
      exact p
    · exact XTab.at h.2 c b hc C e
theorem XCls.exc {ns : List Str} (t : XCls K mg x ns st) {C : Addr} (e : PySem.W.nsIn K mainGlobals x = some (some (.ref C))) : ExcC K C ∧ XfC K C ∧ ∀ n ∈ ns, PySem.W.findIn K (.ref C) n = some none := by
  obtain ⟨C', fI, fd, e1, _, _, _, _, _, _, h1, h2, h3⟩ := t.ex
  rw [e1] at e
  cases e
  exact ⟨h3, h2, h1⟩
theorem xis_mk {Ct : Addr} {tb : List (Str × Bool)} (X : K.In h) (G : h.Ns mainGlobals mg) (a : PySem.W.nsIn K mainGlobals x = some (some (.ref Ct))) (t : XTab K (fun C b => ExcC K C ∧ PySem.W.kitOne K (.ref C) (.ref Ct) = some b) tb) : XIs K mg x tb :=
  ⟨Ct, PySem.W.mg_of X G a, t.at⟩
end
end ML
/-! ML47: def f(*v), and its calls. -/
namespace ML
open PySem L2 StX

/-- a body, begun with what a promise is about -/
theorem body_of {P : Program} {w : World} {K : Fg} {mg : Str → Option Value} {base : Heap} {gq : Bool} {k : Nat} {sc : Scope} {body : List Stmt} {N ps : List Str} {g : Env → Fl} {vs : List V} {H : Hp} {Q : VK} {E : XK}
    (hb : ∀ (A : Act) (W : Wish), JSs ⟨P, w, K, mg, base, N, sc, k, A, W, false, gq⟩ body g) (hl : vs.length = ps.length) (hsp : spF K mg (bodyF ps.length N.length g) vs H Q E) :
    ∃ (A : Act) (t : TS), A.tb = [] ∧ (∀ X, (⟨P, w, K, mg, base, N, sc, k, A, fun cls d _ H' => E cls d H', false, gq⟩ : Cxt).Ok X → PSs X body t) ∧ t { nx := fun _ H' => Q .non H', rt := Q } (start N vs) H := by
  obtain ⟨O, av, fp, oc0, re, nd, ow, fin⟩ := hsp
  have la : av.length = ps.length := by
    have z := re.len
    rw [List.length_map] at z
    omega
  obtain ⟨t, ht, sem⟩ := hb (actOf H O fp vs) (fun cls d _ H' => E cls d H')
  have st0 : start N vs = vs.map some ++ List.replicate (N.length - ps.length) none := by
    unfold L2.start
    rw [hl]
  have sit : Sit K (actOf H O fp vs) (start N vs) H O (av ++ List.replicate (N.length - ps.length) .un) [] := by
    rw [st0]
    refine ⟨⟨fp, re.more _, by rw [List.append_nil]; exact nd, fun b hb => ?_⟩, oc0, fun a o h _ => h, fun a h => h, fun a h => .inl h, fun a h => ow a h, fun p hp => nomatch hp⟩
    rw [List.append_nil] at hb
    exact ⟨ow b hb, .inl hb⟩
  refine ⟨actOf H O fp vs, t, rfl, ht, sem (start N vs) H O _ _ sit ?_⟩
  unfold bodyF at fin
  rw [if_pos la] at fin
  cases eg : g (av ++ List.replicate (N.length - ps.length) .un) with
  | nx env1 =>
    rw [eg] at fin
    exact fun σ' H' O' s' _ => fin σ' .non H' O' [] s' (.dat .non)
  | rt env1 r =>
    rw [eg] at fin
    exact fun σ' v H' O' fq s' r' _ => fin σ' v H' O' fq s' r'
  | err env1 xx =>
    rw [eg] at fin
    exact fun σ' cls dd H' O' s' _ ex => fin σ' cls dd H' O' s' ex
  | bk env1 => rw [eg] at fin; exact fin.elim
  | ct env1 => rw [eg] at fin; exact fin.elim
  | bad => rw [eg] at fin; exact fin.elim

/-- a def with a star parameter alone, as it is called: its promise is F's, of the one new tuple -/
structure FnGS (P : Program) (w : World) (K : Fg) (mg : Str → Option Value) (base : Heap) (gq : Bool) (k : Nat) (f : Addr) (F : List SV → Res SV) : Prop where
  run : ∀ (A : Around) (outer : List PySem.Env) (s : Shared) (H : Hp) (us : List Value) (vs : List V) (Q : VK) (E : XK), Room k A → (gq = true → A.guards = some []) → SysB base → Env0 P w K mg base A outer s H →
    Vals vs us → vs.length ≤ sizeLine → (∀ p, H p = none → spF K mg F [.ref p] (upd H p (.tup vs)) Q E) → codeAny (model P w) A (.call (.ref f) ⟨us, []⟩) (CR (L2.CX P w) outer P w H s Q E) s
theorem gs_of {P : Program} {w : World} {K : Fg} {mg : Str → Option Value} {base : Heap} {gq : Bool} {k : Nat} {x qual pv : Str} {st : Stmt} {f : Addr} {fd : FuncData} {N : List Str} {g : Env → Fl}
    (F : Fun K x qual st f fd) (S0 : FnScope N [pv] (defScope st)) (hbi : ∀ rest : List Value, bindArgs fd ⟨rest, []⟩ = (newTuple rest >>= fun t => pure [(pv, t)]))
    (hb : ∀ (A : Act) (W : Wish), JSs ⟨P, w, K, mg, base, N, defScope st, k, A, W, false, gq⟩ (defBody st) g) :
    FnGS P w K mg base gq (k + 1) f (bodyF 1 N.length g) := by
  obtain ⟨oc, od, kV, doc, pm, an, cdv, ct, osl, rfl, lk, hcd⟩ := F.ex
  refine ⟨fun A outer s H us vs Q E hr gd sb e0 rv hz hsp => ?_⟩
  have hn : H s.heap.objs.size = Option.none := e0.hok.fresh (Nat.le_refl _)
  have hl2 : us.length ≤ sizeLine := by rw [← rv.length]; exact hz
  refine run_bnd lk hcd S0 hr e0 (G := fun xs H2 => ∃ p, H p = Option.none ∧ xs = [V.ref p] ∧ H2 = upd H p (.tup vs)) (fun A' Ex Q' h => ?_) fun s2 H2 xs ⟨p, hp, ex, eH⟩ hr' => ?_
  · rw [hbi us]
    refine wpAny_bind (wpAny_newTuple (wpAny_pure ?_) hl2)
    have new : ObjOk P w (upd H s.heap.objs.size (.tup vs)) (s.heap.push ({ cls := .type "tuple", data := .seq us.toArray } : Obj)) s.heap.objs.size (.tup vs) := ⟨hz, us, rv, ⟨_, Heap.get?_push_size _ rfl, rfl, _, rfl⟩⟩
    have un := un_laid (fs := frs outer) (s := s) (o := ({ cls := .type "tuple", data := .seq us.toArray } : Obj)) (u := .tup vs) hn
    exact h _ _ [V.ref s.heap.objs.size] [Value.ref s.heap.objs.size] (env0_laid e0 new) un rfl (fun e s' => cxUp outer s H _ _ E e s' un (fun b o q => Heap.get?_push_of_some _ q) rfl) (.cons rfl .nil) rfl ⟨_, hn, rfl, rfl⟩
  · subst ex eH
    obtain ⟨Act, t, etb, ht, q⟩ := body_of (ps := [pv]) hb rfl (hsp p hp)
    exact ⟨t, ht _ ⟨rfl, rfl, rfl, rfl, rfl, rfl, rfl, rfl, hr', gd, passes_of rfl, takes_of rfl rfl rfl rfl, fun _ _ => rfl, S0.kind, sb, fun _ => ⟨rfl, rfl, rfl, fun h => absurd etb h⟩⟩, q⟩

def FxS (S : Cxt) (k : Nat) (x : Str) (F : List SV → Res SV) : Prop := ∃ (f : Addr), FnGS S.P S.w S.K S.mg S.base S.gq k f F ∧ S.mg x = some (.ref f) ∧ PySem.W.keepIn S.K (.ref f) = true
def DfS (K : Fg) (mg : Str → Option Value) (x : Str) (st : Stmt) (pv : Str) : Prop := ∃ (f : Addr) (fd : FuncData), Fun K x x st f fd ∧ mg x = some (.ref f) ∧ ∀ rest : List Value, bindArgs fd ⟨rest, []⟩ = (newTuple rest >>= fun t => pure [(pv, t)])
theorem DfS.mk {S : Cxt} {x pv : Str} {st : Stmt} {N : List Str} {g : Env → Fl} {k : Nat} (d : DfS S.K S.mg x st pv) (sc : FnScope N [pv] (defScope st)) (h : ∀ (A : Act) (W : Wish), JSs ⟨S.P, S.w, S.K, S.mg, S.base, N, defScope st, k, A, W, false, S.gq⟩ (defBody st) g) :
    FxS S (k + 1) x (bodyF 1 N.length g) := by
  obtain ⟨f, fd, Fu, mx, bi⟩ := d
  exact ⟨f, gs_of Fu sc bi h, mx, Fu.kp⟩
theorem Fun.star {K : Fg} {x qual pv : Str} {st : Stmt} {f : Addr} {fd : FuncData} (F : Fun K x qual st f fd)
    (h : ∀ (kV doc pm : Value) (an : Option Addr) (cdv ct : Value) (us : List Value), bindArgs (PySem.W.fnOf x qual (defArgs st) (defBody st) (defScope st) .none kV doc pm an cdv ct) ⟨us, []⟩ = (newTuple us >>= fun t => pure [(pv, t)])) :
    ∀ rest : List Value, bindArgs fd ⟨rest, []⟩ = (newTuple rest >>= fun t => pure [(pv, t)]) := by
  obtain ⟨oc, od, kV, doc, pm, an, cdv, ct, osl, rfl, lk, hcd⟩ := F.ex
  exact h kV doc pm an cdv ct

section
variable {S : Cxt} {e : Expr} {es : List Expr} {pos pp : Pos} {x : Str} {F : List SV → Res SV} {p : Env → Option (List D)} {k : Nat}
end

/-! ### its reading -/
section
variable {τ : Type} {Φ : τ → Fl → Prop} {r : Po τ} {env : Env}
end
end ML
/-! ML48: tuple * number, any number. -/
namespace ML
open PySem PySem.Spec PyProof.Rows L2
/-! ### times, for tuples too -/
section
variable {S : Cxt} {e1 e2 : Expr} {p q : Env → Option D} {fa fb : Env → Res D} {pos : Pos}
end
end ML
/-! ML49: xs[::-1] of a list or of a tuple, as a value. -/
namespace ML
open PySem PySem.Spec PyProof.Rows L2 HT
section
variable {prog : Program} {w : World} {A : Around} {E : Value → Shared → Prop} {s : Shared}
end
section
variable {S : Cxt} {e : Expr} {p : Env → Option D} {pos : Pos}
end
section
variable {α : Type} {p : Env → Option D} {env : Env}
end
end ML
/-! ML50: a tuple of anything == (), != (). -/
namespace ML
open PySem PySem.Spec PyProof.Rows L2
section
variable {X : Cx}
end
section
variable {S : Cxt} {e1 e2 : Expr} {p q : Env → Option D} {fa fb : Env → Res D} {pos : Pos}
end

/-! name = [.. for .. ] with effects, the name's list read only -/
section
variable {S : Cxt}
theorem SemE.toD {t : TE} {f : Env → Res SV} (h2 : SemE S t f) : SemD S t (fun env => dRes (f env)) := by
  refine fun σ H O env T Q s r => h2 σ H O env T Q s ?_
  cases e : f env with
  | ok env' sv =>
    simp only [e] at r
    cases sv with
    | dat d =>
      intro v H' O' fq s' k t'
      cases k with
      | dat k => exact r H' O' s' t' v k
    | own tag c =>
      cases tag with
      | none =>
        cases c with
        | lst xs =>
          intro v H' O' fq s' k t'
          obtain ⟨O2, s2, k2, t2⟩ := s'.freeze k
          exact r H' O2 s2 (t'.trans t2) v k2
        | dct _ => exact r.elim
        | ins _ _ => exact r.elim
      | some _ => exact r.elim
    | un => exact r.elim
    | raw _ => exact r.elim
    | frz _ => exact r.elim
  | err env' x => simp only [e] at r; exact r
  | bad => simp only [e] at r; exact r
theorem SemD.toE {t : TE} {f : Env → Res D} (h2 : SemD S t f) : SemE S t (fun env => vRes (f env)) := by
  refine fun σ H O env T Q s r => h2 σ H O env T Q s ?_
  cases e : f env with
  | ok env' d =>
    simp only [e] at r
    exact fun H' O' s' t' v k => r v H' O' [] s' (.dat k) t'
  | err env' x => simp only [e] at r; exact r
  | bad => simp only [e] at r; exact r
variable {elt tg iter : Expr} {ifs : List Expr} {scope : Scope} {own : List (Str × Nat)} {ws : List Nat} {fi : Env → Res (List D)} {gt : D → Env → Option Env} {u : Env → Res Bool} {el : Env → Res D} {pos : Pos}
end
end ML
/-! ML51: truths in sums, str of a truth, len(set(numbers)). -/
namespace ML
open PySem PySem.Spec PyProof.Rows L2
section
variable {X : Cx}
end
section
variable {S : Cxt} {e1 e2 : Expr} {p q : Env → Option D} {fa fb : Env → Res D} {pos : Pos}
end
/-! str of a truth too -/
section
variable {S : Cxt} {e : Expr} {qs : Env → Option (List D)} {pos pp : Pos}
end

/-! len(set(numbers)) -/
open RZ
section
variable {S : Cxt} {e : Expr} {p : Env → Option D} {pos pp pos2 pp2 : Pos}
end
end ML
/-! ML52: x.upper(). -/
namespace ML
open PySem PySem.Spec PyProof.Rows L2
section
variable {S : Cxt} {e : Expr} {p : Env → Option D} {p1 p2 : Pos}
end
section
variable {α : Type} {p : Env → Option D} {env : Env}
end
end ML
/-! ML53: sum(list of tuples, ()). -/
namespace ML
open PySem PySem.Spec PyProof.Rows L2
section
variable {prog : Program} {w : World} {A : Around} {E : Value → Shared → Prop} {s : Shared}
end
section
variable {prog : Program} {w : World} {A : Around} {R : Result → Shared → Prop} {I : Addr} {fp wr : List Addr} {n : Nat} {P : Nat → Value → Prop} {St : Nat → Heap → Prop}
end
section
variable {prog : Program} {w : World} {A : Around} {E : Value → Shared → Prop} {s : Shared}
end
end ML
/-! ML54: sum(list of tuples, ()), as a rule. -/
namespace ML
open PySem PySem.Spec PyProof.Rows L2
inductive TupsA (K : Fg) (H : Hp) : List V → List (List V) → Prop
  | nil : TupsA K H [] []
  | cons {a : Addr} {xs : List V} {zs : List V} {xss : List (List V)} : SqT K H a xs → TupsA K H zs xss → TupsA K H (.ref a :: zs) (xs :: xss)
section
variable {X : Cx} {pins : List (Addr × Obj)} {σ : L2.St} {H : Hp} {s : Shared}
end
/-! its rule -/
section
variable {S : Cxt} {e1 e2 : Expr} {qs : Env → Option (List D)} {pos pp : Pos}
end
end ML
/-! ML55: generators: yield, while; list(f(e, ..)) of a generator def. -/
namespace ML
open PySem L2

/-- what a piece of a generator comes to; the data: what is out so far -/
inductive GFl where
  | nx (env : Env) (yd : List D)
  | rt (env : Env) (yd : List D)
  | bk (env : Env) (yd : List D)
  | ct (env : Env) (yd : List D)
  | err (env : Env) (x : Exn)
  | bad
section
variable (S : Cxt)
end
section
variable {S : Cxt} {st : Stmt} {sts : List Stmt} {e e1 e2 : Expr} {es : List Expr} {pos pp yp : Pos} {x : Str} {k : Nat}

def gNil (env : Env) (yd : List D) : GFl := .nx env yd
def gCons (a b : Env → List D → GFl) (env : Env) (yd : List D) : GFl := match a env yd with
  | .nx e y => b e y
  | f => f
/-! ### yield -/
/-! ### while -/
end

/-! ### a generator def -/
section
variable {S : Cxt} {e : Expr} {es : List Expr} {pos pp p2 pos2 : Pos} {x nm : Str} {k : Nat} {ps : List Str} {F : List D → Option (List D)}
end
/-! ### list(f(b = .., a = ..)) -/
section
variable {S : Cxt} {pos pp p2 pos2 : Pos} {x : Str} {k : Nat} {ps ks : List Str} {perm : List Nat} {kws : List Keyword} {F : List D → Option (List D)}
end
end ML
/-! ML56: the plain reading of the generator def chain. -/
namespace ML
open PySem L2
section
variable {C Fs : List SV → Res SV} {chk src : D → D → Po D}
end
section
variable {α : Type} {env : Env} {F : List D → Option (List D)} {perm : List Nat} {q : Env → Option (List D)}
end
end ML
/-! ML57: instances of own classes: their attributes read and stored, what the attributes hold changed. -/
namespace ML
open PySem L2

abbrev Gs := List (Str × Sum D OC)
def putG (f : Str) (x : Sum D OC) : Gs → Gs
  | [] => [(f, x)]
  | (g, y) :: r => if g = f then (g, x) :: r else (g, y) :: putG f x r
section
variable {K : Fg} {A : Act} {H H' : Hp} {O O' : OS} {σ : L2.St} {env : Env} {T fp fq : List Addr} {fs : List (Str × V)} {gs : Gs} {f c : Str}
theorem RFs.no (h : RFs K H O fs gs fp) (e : gs.lookup f = none) : fs.lookup f = none := by
  induction gs generalizing fs fp with
  | nil => cases h; rfl
  | cons g gs ih =>
    cases h with
    | dat _ h =>
      rw [List.lookup_cons] at e ⊢
      split at e
      · cases e
      · exact ih h e
    | sub _ h =>
      rw [List.lookup_cons] at e ⊢
      split at e
      · cases e
      · exact ih h e
theorem RFs.getD (h : RFs K H O fs gs fp) {d : D} (e : gs.lookup f = some (.inl d)) : ∃ v, fs.lookup f = some v ∧ RD K H O v d := by
  induction gs generalizing fs fp with
  | nil => cases e
  | cons g gs ih =>
    cases h with
    | dat h1 h =>
      rw [List.lookup_cons] at e ⊢
      split at e
      · cases e
        exact ⟨_, rfl, h1⟩
      · exact ih h e
    | sub _ h =>
      rw [List.lookup_cons] at e ⊢
      split at e
      · cases e
      · exact ih h e
/-- a value for an attribute -/
inductive RF1 (K : Fg) (H : Hp) (O : OS) : V → Sum D OC → List Addr → Prop
  | dat {v : V} {d : D} : RD K H O v d → RF1 K H O v (.inl d) []
  | sub {a : Addr} {o : OC} {fq : List Addr} : RC K H O a o fq → RF1 K H O (.ref a) (.inr o) fq
theorem RF1.cons {x : Str} {v : V} {y : Sum D OC} (h1 : RF1 K H O v y fq) (h : RFs K H O fs gs fp) : RFs K H O ((x, v) :: fs) ((x, y) :: gs) (fq ++ fp) := by
  cases h1 with
  | dat r => exact .dat r h
  | sub r => exact .sub r h
theorem RFs.put (h : RFs K H O fs gs fp) (f : Str) {v : V} {y : Sum D OC} (h1 : RF1 K H O v y fq) : ∃ l o r, fp = l ++ o ++ r ∧ RFs K H O (L2.putF f v fs) (putG f y gs) (l ++ fq ++ r) := by
  induction gs generalizing fs fp with
  | nil =>
    cases h
    exact ⟨[], [], [], rfl, h1.cons .nil⟩
  | cons g gs ih =>
    cases h with
    | @dat x v0 d fs' _ fp' h0 h =>
      show ∃ l o r, _ ∧ RFs _ _ _ (if x = f then _ else _) (if x = f then _ else _) _
      by_cases e : x = f
      · rw [if_pos e, if_pos e]
        exact ⟨[], [], fp, rfl, h1.cons h⟩
      · rw [if_neg e, if_neg e]
        obtain ⟨l, o, r, q1, q2⟩ := ih h
        exact ⟨l, o, r, q1, .dat h0 q2⟩
    | @sub x a0 c0 fs' _ fp' fq0 h0 h =>
      show ∃ l o r, _ ∧ RFs _ _ _ (if x = f then _ else _) (if x = f then _ else _) _
      by_cases e : x = f
      · rw [if_pos e, if_pos e]
        exact ⟨[], fq0, fp', rfl, h1.cons h⟩
      · rw [if_neg e, if_neg e]
        obtain ⟨l, o, r, q1, q2⟩ := ih h
        refine ⟨fq0 ++ l, o, r, by rw [q1]; simp, ?_⟩
        have z := RFs.sub (x := x) h0 q2
        rw [List.append_assoc, List.append_assoc]
        rw [List.append_assoc] at z
        exact z
/-- a slot's own instance -/
theorem Sit.insv (S : Sit K A σ H O env T) {i : Nat} {tag : Option Nat} (e : env[i]? = some (.own tag (.ins c gs))) :
    ∃ a C dx fs fp, σ[i]? = some (some (.ref a)) ∧ PySem.W.nsIn K mainGlobals c = some (some (.ref C)) ∧ H a = some (.ins C dx fs) ∧ RFs K H O fs gs fp := by
  obtain ⟨a, fq, h1, h2, _⟩ := S.ownv e
  cases h2 with
  | ins h3 h4 h5 => exact ⟨a, _, _, _, _, h1, h3, h4, h5⟩
end

/-! ### attributes read -/
section
variable {S : Cxt} {e : Expr} {pos px : Pos} {x f : Str} {cs : List Str}
end

/-! ### o.f = e -/
section
variable {S : Cxt} {e : Expr} {pos px pos' : Pos} {x f : Str} {cs : List Str}
end

/-! ### o.f[k] = e, of a dict -/
section
variable {S : Cxt} {e : Expr} {pos px pf p2 : Pos} {x f : Str} {cs : List Str}
end
end ML
/-! ML58: methods called, instances made. -/
namespace ML
open PySem L2

def callA (F : List SV → Res SV) (avs : List AV) (env1 : Env) : Res SV := match argsOf avs env1 0 with
  | none => .bad
  | some (args, out) => match F args with
    | .ok e' r => match backE avs env1 out e' 0 with
      | some env2 => match r with
        | .own (some _) _ => .bad
        | .un => .bad
        | .frz _ => .bad
        | r => .ok env2 r
      | none => .bad
    | .err e' x => match backE avs env1 out e' 0 with
      | some env2 => .err env2 x
      | none => .bad
    | .bad => .bad
section
variable {S : Cxt} {σ : L2.St} {H1 : Hp} {O1 : OS} {T : List Addr} {env1 : Env} {avs : List AV} {vs : List V} {Q : VK} {F : List SV → Res SV}
theorem callA_sp (s1 : Sit S.K S.A σ H1 O1 env1 T) (q : VPost S σ H1 O1 T Q (callA F avs env1)) (av : AVs S.K H1 O1 σ vs avs) : spF S.K S.mg F vs H1 Q (fun c d H2 => S.W c d σ H2) := by
  unfold callA at q
  cases ea : argsOf avs env1 0 with
  | none => rw [ea] at q; exact q.elim
  | some ao =>
    obtain ⟨args, out⟩ := ao
    rw [ea] at q
    dsimp only at q
    have ho := fun (M : OS) => hand_over (O' := O1) rfl (vall := vs) (M := M) (H0 := H1) s1 ea av (fun i v h => by simpa using h)
    obtain ⟨fp0, r0, s2⟩ := ho (fun _ => True)
    have r1 : RE S.K (actOf H1 O1 fp0 vs) H1 O1 (vs.map some) args fp0 := by
      have gen : ∀ {σ : L2.St} {en : Env} {fp : List Addr}, RE S.K ⟨H1, O1, fun _ => True, vs.map adr, []⟩ H1 O1 σ en fp → RE S.K (actOf H1 O1 fp0 vs) H1 O1 σ en fp := by
        intro σ en fp r
        induction r with
        | nil => exact .nil
        | un _ ih => exact .un ih
        | cons h1 _ ih =>
          refine .cons ?_ ih
          cases h1 with
          | dat a => exact .dat a
          | raw => exact .raw _
          | frz a b => exact .frz a b
          | @own _ _ _ tag a b =>
            refine .own a ?_
            cases tag with
            | none => exact b
            | some _ => exact b
      exact gen r0
    obtain ⟨fc, rc, ndc, owc⟩ := s2.slots
    have ndp : fp0.Nodup := (List.nodup_append.mp (List.nodup_append.mp ndc).2.1).1
    refine ⟨O1, args, fp0, s1.oc, r1, ndp, fun b hb => (owc b (by simp [hb])).1, ?_⟩
    have slots : ∀ (m i : Nat) (v : V), avs[m]? = some (.sl i) → vs[m]? = some v → σ[i]? = some (some v) := fun m i v a b => by
      have z := f2_get av b a
      cases z with
      | sl z => exact z
    have hlen : avs.length = vs.length := (f2_len av).symm
    cases eF : F args with
    | bad => rw [eF] at q; exact q.elim
    | ok e' r =>
      rw [eF] at q
      dsimp only at q ⊢
      intro σ' v H' O' fq s' rs
      obtain ⟨fe, re, nde, owe⟩ := s'.slots
      obtain ⟨s3, t3⟩ := come_back s2 ⟨rfl, rfl, rfl⟩ s' re nde owe
      cases eb : backE avs env1 out e' 0 with
      | none => rw [eb] at q; exact q.elim
      | some env2 =>
        rw [eb] at q
        dsimp only at q
        have s4 := put_back s1 (A' := actOf H1 O1 fp0 vs) (vall := vs) rfl s3 re eb slots hlen (fun m v h => by simpa using h)
        cases rs with
        | dat rd => exact q v H' O' [] s4 (.dat rd) t3
        | raw => exact q _ H' O' [] s4 (.raw _) t3
        | frz a b => exact q.elim
        | @own a c fq' tag rc tg =>
          cases tag with
          | some _ => exact q.elim
          | none => exact q (.ref a) H' O' fq s4 (.own rc (fun z => tg (s1.o0 _ z))) t3
    | err e' xx =>
      rw [eF] at q
      dsimp only at q ⊢
      intro σ' cls dd H' O' s' ex
      obtain ⟨fe, re, nde, owe⟩ := s'.slots
      obtain ⟨s3, t3⟩ := come_back s2 ⟨rfl, rfl, rfl⟩ s' re nde owe
      cases eb : backE avs env1 out e' 0 with
      | none => rw [eb] at q; exact q.elim
      | some env2 =>
        rw [eb] at q
        dsimp only at q
        have s4 := put_back s1 (A' := actOf H1 O1 fp0 vs) (vall := vs) rfl s3 re eb slots hlen (fun m v h => by simpa using h)
        exact q cls dd H' O' s4 t3 ex
end
theorem VPost.tr {S : Cxt} {σ : L2.St} {H H1 : Hp} {O O1 : OS} {T : List Addr} {Q : VK} {r : Res SV} (h : VPost S σ H O T Q r) (t : Tr T H O H1 O1) : VPost S σ H1 O1 T Q r := by
  cases r with
  | ok env s => exact fun v H' O' fq s' r' t' => h v H' O' fq s' r' (t.trans t')
  | err env x => exact fun cls dd H' O' s' t' ex => h cls dd H' O' s' (t.trans t') ex
  | bad => exact h

/-! ### o.m(e, ..) -/
/-- what of the text and of the walks a method must have, for a class's name -/
def MX (S : Cxt) (k : Nat) (m c : Str) (F : List SV → Res SV) : Prop := ∀ C, PySem.W.nsIn S.K mainGlobals c = some (some (.ref C)) → Cls S.K C ∧ ∃ (g : Addr) (fd : FuncData) (ps : List Str), Meth S.K C m g ∧ Binds S.K fd ps [] ∧ FnG S.P S.w S.K S.mg S.base S.gq k g fd ps (spF S.K S.mg F)
/-- the methods of a name, by the classes' names -/
abbrev MTab := List (Str × (List SV → Res SV))
def MXs (S : Cxt) (k : Nat) (m : Str) : MTab → Prop
  | [] => True
  | (c, F) :: r => MX S k m c F ∧ MXs S k m r
theorem MXs.at {S : Cxt} {k : Nat} {m c : Str} {F : List SV → Res SV} : ∀ {tb : MTab}, MXs S k m tb → tb.lookup c = some F → MX S k m c F
  | [], _, e => by cases e
  | (c', F') :: r, h, e => by
    rw [List.lookup_cons] at e
    split at e
    · rename_i hc
      cases e
      rw [beq_iff_eq.mp hc]
      exact h.1
    · exact MXs.at h.2 e
section
variable {S : Cxt} {X : Cx} {e : Expr} {es : List Expr} {pos apos px : Pos} {x m : Str} {fa : Env → Res (List AV)} {k : Nat} {t : TA} {i : Nat}
end

/-! ### C(e, ..) -/
def KX (S : Cxt) (k : Nat) (c : Str) (F : List SV → Res SV) : Prop := ∃ (C f : Addr) (fd : FuncData) (ps : List Str), PySem.W.nsIn S.K mainGlobals c = some (some (.ref C)) ∧ S.mg c = some (.ref C) ∧ Mk S.K C f ∧ Binds S.K fd ps [] ∧ FnG S.P S.w S.K S.mg S.base S.gq k f fd ps (spF S.K S.mg F)
section
variable {S : Cxt} {e : Expr} {es : List Expr} {pos pp : Pos} {c : Str} {F : List SV → Res SV} {fb : Env → Res (List D)} {k : Nat} {t : TA}
end
end ML
/-! ML59: an __init__ that begins with super().__init__(..). -/
namespace ML
open PySem L2

structure ScX (N ps : List Str) (sc : Scope) : Prop where
  kind : sc.kind = .function
  co : sc.isCoroutine = false
  gen : sc.isGenerator = false
  nd : N.Nodup
  pre : N.take ps.length = ps
  par : ∀ x ∈ ps, sc.names.lookup x = some .local
  nocell : ∀ y ∈ sc.names, y.2 ≠ .cell
  free : ∀ y ∈ sc.names, y.2 = .free → y.1 = ("__class__" : Str)
  cls : sc.names.lookup ("__class__" : Str) = some .free
  sup : sc.names.lookup ("super" : Str) = some .globalImplicit
abbrev envS (qual : Str) (sc : Scope) (L f : Addr) (cdv : Value) (cc : Addr) : PySem.Env := PySem.W.envX qual sc L f cdv [("__class__", cc)]
/-- the context of a def with its class's cell, at its entry -/
def cxS (P : Program) (w : World) (K : Fg) (mg : Str → Option Value) (base : Heap) (N : List Str) (qual : Str) (sc : Scope) (f : Addr) (cd : Value) (cc : Addr) (A : Around) (outer : List PySem.Env) (s : Shared) (H : Hp) (E : XK) : Cx where
  prog := P
  w := w
  K := K
  mg := mg
  base := base
  A := A.deeper (envS qual sc s.heap.objs.size f cd cc)
  N := N
  s_0 := s
  H_0 := H
  env := envS qual sc s.heap.objs.size f cd cc
  outer := outer
  stack := envS qual sc s.heap.objs.size f cd cc :: outer
  ex := []
  calm := true
  fn := fun _ => false
  pn := []
  xe := fun e s' => wpAny (model P w) (A.deeper (envS qual sc s.heap.objs.size f cd cc)) (leaving (envS qual sc s.heap.objs.size f cd cc) e) (fun _ s'' => L2.CX P w outer H s E e s'') (fun e' s'' => L2.CX P w outer H s E e' s'') s'
theorem lookup_app {α : Type} {l m : List (Str × α)} {y : Str} {u : α} : m.lookup y = none → l.lookup y = some u → (l ++ m).lookup y = some u := by
  induction l with
  | nil => intro _ h; cases h
  | cons p l ih =>
    intro hm h
    rw [List.cons_append]
    rw [List.lookup_cons] at h ⊢
    split
    · rename_i e; rw [e] at h; exact h
    · rename_i e; rw [e] at h; exact ih hm h
theorem lookup_app2 {α : Type} {l m : List (Str × α)} {y : Str} {u : α} : l.lookup y = none → m.lookup y = some u → (l ++ m).lookup y = some u := by
  induction l with
  | nil => intro _ h; exact h
  | cons p l ih =>
    intro hl h
    rw [List.cons_append]
    rw [List.lookup_cons] at hl ⊢
    split
    · rename_i e; rw [e] at hl; cases hl
    · rename_i e; rw [e] at hl; exact ih hl h
theorem lookup_zip_no {α : Type} {y : Str} : ∀ {ps : List Str} {us : List α}, y ∉ ps → (ps.zip us).reverse.lookup y = none
  | [], _, _ => by simp
  | _ :: _, [], _ => by simp
  | p :: ps, u :: us, h => by
    rw [List.zip_cons_cons, List.reverse_cons]
    have h1 := lookup_zip_no (us := us) (fun z => h (List.mem_cons_of_mem _ z))
    have h2 : ([(p, u)] : List (Str × α)).lookup y = none := by
      rw [List.lookup_cons]
      have : (y == p) = false := beq_eq_false_iff_ne.mpr fun z => h (by simp [z])
      rw [this]
      rfl
    cases e : ((ps.zip us).reverse ++ [(p, u)]).lookup y with
    | none => rfl
    | some w =>
      have : ∀ l m : List (Str × α), l.lookup y = none → m.lookup y = none → (l ++ m).lookup y = none := by
        intro l m
        induction l with
        | nil => intro _ h; exact h
        | cons q l ih =>
          intro ha hb
          rw [List.cons_append]
          rw [List.lookup_cons] at ha ⊢
          split
          · rename_i e; rw [e] at ha; cases ha
          · rename_i e; rw [e] at ha; exact ih ha hb
      rw [this _ _ h1 h2] at e
      cases e
theorem lookup_zip {α : Type} {y : Str} {u : α} : ∀ {ps : List Str} {us : List α} {i : Nat}, ps.Nodup → ps[i]? = some y → us[i]? = some u → (ps.zip us).reverse.lookup y = some u
  | [], _, _, _, h, _ => by simp at h
  | _ :: _, [], _, _, _, h => by simp at h
  | p :: ps, v :: us, 0, nd, h1, h2 => by
    simp at h1 h2
    subst h1 h2
    rw [List.zip_cons_cons, List.reverse_cons]
    refine lookup_app2 (lookup_zip_no (List.nodup_cons.mp nd).1) ?_
    rw [List.lookup_cons]
    simp
  | p :: ps, v :: us, i + 1, nd, h1, h2 => by
    rw [List.zip_cons_cons, List.reverse_cons]
    simp at h1 h2
    refine lookup_app ?_ (lookup_zip (i := i) (List.nodup_cons.mp nd).2 h1 h2)
    have : (y == p) = false := beq_eq_false_iff_ne.mpr fun z => (List.nodup_cons.mp nd).1 (z ▸ List.mem_of_getElem? h1)
    rw [List.lookup_cons, this]
    rfl
section
variable {P : Program} {w : World} {K : Fg} {mg : Str → Option Value} {base : Heap} {N ps : List Str} {qual : Str} {sc : Scope} {f cc : Addr} {cd : Value} {A : Around} {outer : List PySem.Env} {s : Shared} {H : Hp} {E : XK} {us : List Value} {vs : List V} {h₁ : Heap} {tk : Nat}
theorem inv_startS (S : ScX N ps sc) (hd : A.handled = none) (e0 : Env0 P w K mg base A outer s H) (hl : vs.length = ps.length) (r : Vals vs us) {cl D : Value} {cld : Option Addr} {csl : Array (Option Value)} (hcc : K.lookup cc = some ⟨cl, cld, .cell (some D), csl⟩)
    (hns : h₁.Ns s.heap.objs.size fun y => (ps.zip us).reverse.lookup y) (hk : ∀ b o, s.heap.get? b = some o → h₁.get? b = some o) :
    Inv (cxS P w K mg base N qual sc f cd cc A outer s H E) [] (L2.start N vs) H { s with heap := h₁, toks := tk } := by
  have hpl : ps.length ≤ N.length := by have := congrArg List.length S.pre; rw [List.length_take] at this; omega
  have noA : ∀ b : Addr, b ∉ (cxS P w K mg base N qual sc f cd cc A outer s H E).ex := fun b z => absurd (show b ∈ ([] : List Addr) from z) (by simp)
  have look : ∀ {y : Str} {c : Addr}, ([("__class__", cc)] : List (Str × Addr)).lookup y = some c → y = "__class__" ∧ c = cc := fun {y c} e => by
    rw [List.lookup_cons] at e
    split at e
    · rename_i h
      cases e
      exact ⟨beq_iff_eq.mp h, rfl⟩
    · cases e
  have bcc := e0.mod.kin _ _ hcc
  have scc := (e0.bs _ _ bcc).1
  have ncc := (e0.bs _ _ bcc).2
  refine ⟨⟨e0.mod, S.kind, rfl, rfl, Nat.le_refl _, fun y z c h1 h2 => ?_, fun y hy => ?_, fun y c hf h => ?_, fun _ => hd, Around.frames_deeper e0.frames, .inr ⟨rfl, rfl⟩, fun b z => absurd z (noA b), e0.bs, e0.bsz, fun b _ _ => noA b, fun b z => absurd z (noA b), e0.funs, e0.frf⟩,
    rfl, e0.bare, Un.kept hk, ⟨_, hns, fun i y v h1 h2 h3 => ?_⟩, fun y c h => ?_, e0.hok.fresh (Nat.le_refl _), fun y c h => ?_, fun p hp => absurd (show p ∈ ([] : List (Addr × Obj)) from hp) (by simp), e0.hok.kept hk, ?_⟩
  · rw [(look h1).1, (look h2).1]
  · have hy : sc.names.lookup y = some .cell ∨ sc.names.lookup y = some .free := hy
    rcases hy with hy | hy
    · exact absurd rfl (S.nocell _ (PySem.mem_of_lookup hy))
    · have := S.free _ (PySem.mem_of_lookup hy) rfl
      have e : y = "__class__" := this
      subst e
      exact ⟨cc, rfl⟩
  · cases hf
  · have hi : i < vs.length := by
      unfold L2.start at h2
      by_cases hi : i < vs.length
      · exact hi
      · rw [List.getElem?_append_right (by simpa using hi)] at h2
        rw [List.getElem?_replicate] at h2
        split at h2 <;> cases h2
    have ha : vs[i]? = some v := by
      unfold L2.start at h2
      rw [List.getElem?_append_left (by simpa using hi), List.getElem?_map] at h2
      cases e : vs[i]? with
      | none => rw [e] at h2; cases h2
      | some a => rw [e] at h2; cases h2; rfl
    obtain ⟨u, hu, rv⟩ := r.get ha
    have hp : ps[i]? = some y := by
      rw [← S.pre, List.getElem?_take_of_lt (by omega)]; exact h1
    have ndP : ps.Nodup := by rw [← S.pre]; exact S.nd.sublist (List.take_sublist _ _)
    exact ⟨u, rv, .inl ⟨S.par y (List.mem_of_getElem? hp), lookup_zip ndP hp hu⟩⟩
  · obtain ⟨_, rfl⟩ := look h
    exact ⟨_, _, hk _ _ scc, rfl⟩
  · obtain ⟨_, rfl⟩ := look h
    exact ncc
  · unfold L2.start
    show _ = N.length
    rw [List.length_append, List.length_map, List.length_replicate]
    omega
end

/-- such a def, as the top has laid it: cc the cell of its class D -/
structure FunS (P : Program) (K : Fg) (x qual : Str) (st : Stmt) (f : Addr) (fd : FuncData) (cc D : Addr) : Prop where
  ex : ∃ (oc : Value) (od : Option Addr) (kV doc pm : Value) (an : Option Addr) (cda : Addr) (ct : Value) (osl : Array (Option Value)),
    fd = PySem.W.ksFn x qual (defArgs st) (defBody st) (defScope st) .none kV doc pm an (.ref cda) ct cc ∧ K.lookup f = some ⟨oc, od, .func fd, osl⟩ ∧ PySem.W.codeIn K (.ref cda) qual = true ∧
      ∃ (ccl : Value) (cdd : Option Addr) (vs : Array Value) (ccs : Array (Option Value)) (file : Str) (tf : Tok), K.lookup cda = some ⟨ccl, cdd, .fields vs, ccs⟩ ∧ vs[2]? = some (.str file tf) ∧ ((P.main.file : Str) == file) = true
  cell : ∃ (cl : Value) (cld : Option Addr) (csl : Array (Option Value)) (cdD : ClassData), K.lookup cc = some ⟨cl, cld, .cell (some (.ref D)), csl⟩ ∧ PySem.W.clsIn K D = some cdD
  top : (P.main.scope.names.lookup ("super" : Str)).isSome = false
  any : PySem.W.nsIn K PySem.cStatics "thirdparty.any" = some none
/-- what super().__init__ is, for a class of self -/
def SX (P : Program) (w : World) (K : Fg) (mg : Str → Option Value) (base : Heap) (gq : Bool) (k : Nat) (D : Addr) (c : Str) (F : List SV → Res SV) : Prop := ∀ C, PySem.W.nsIn K mainGlobals c = some (some (.ref C)) → PySem.W.mroIn K C (.ref D) = some true ∧
  ∃ (cdC : ClassData) (g : Addr) (fd : FuncData) (ps : List Str), PySem.W.clsIn K C = some cdC ∧ PySem.W.ks_superIn K C D "__init__" = some (some (.ref g)) ∧ PySem.W.typeIn K (.ref g) = some (.type "function") ∧ PySem.W.fnIn K g = true ∧ Binds K fd ps [] ∧ FnG P w K mg base gq k g fd ps (spF K mg F)
def SXs (P : Program) (w : World) (K : Fg) (mg : Str → Option Value) (base : Heap) (gq : Bool) (k : Nat) (D : Addr) : MTab → Prop
  | [] => True
  | (c, F) :: r => SX P w K mg base gq k D c F ∧ SXs P w K mg base gq k D r
theorem SXs.at {P : Program} {w : World} {K : Fg} {mg : Str → Option Value} {base : Heap} {gq : Bool} {k : Nat} {D : Addr} {c : Str} {F : List SV → Res SV} : ∀ {tb : MTab}, SXs P w K mg base gq k D tb → tb.lookup c = some F → SX P w K mg base gq k D c F
  | [], _, e => by cases e
  | (c', F') :: r, h, e => by
    rw [List.lookup_cons] at e
    split at e
    · rename_i hc
      cases e
      rw [beq_iff_eq.mp hc]
      exact h.1
    · exact SXs.at h.2 e
def sSup (tb : MTab) (a : Env → Res (List AV)) (env : Env) : Fl := match (env[0]? : Option SV) with
  | some (.own _ (.ins c _)) => match tb.lookup c with
    | some F => ((a env).bind fun env1 avs => callA F (.sl 0 :: avs) env1).fl fun env1 _ => .nx env1
    | none => .bad
  | _ => .bad

theorem gnS_of {P : Program} {w : World} {K : Fg} {mg : Str → Option Value} {base : Heap} {gq : Bool} {k : Nat} {x qual : Str} {st : Stmt} {f cc D : Addr} {fd : FuncData} {N ps : List Str} {tb : MTab} {fa : Env → Res (List AV)} {g : Env → Fl} {e : Expr} {es : List Expr} {rest : List Stmt} {p0 p1 ap cp ep : Pos} {ar : Arg}
    (F : FunS P K x qual st f fd cc D) (S0 : ScX N ps (defScope st)) (hbd : defBody st = .Expr (.Call (.Attribute (.Call (.Name "super" p0) [] [] p1) "__init__" ap) (e :: es) [] cp) ep :: rest)
    (hp : ((defArgs st).posonlyargs ++ (defArgs st).args).head? = some ar) (hp0 : ps.head? = some ar.arg) (ms : mg "super" = none) (ht : SXs P w K mg base gq k D tb)
    (ha : ∀ (A : Act) (W : Wish), JCA ⟨P, w, K, mg, base, N, defScope st, k, A, W, true, gq⟩ (e :: es) fa)
    (hb : ∀ (A : Act) (W : Wish), JSs ⟨P, w, K, mg, base, N, defScope st, k, A, W, true, gq⟩ rest g)
    (he : ∀ env, starEach (e :: es) env = (false, eval e env) :: starEach es env := by intro _; rfl) (hpl : ∀ env, (backTo cp (starEach es env)).any (·.1) = false := by intro _; rfl)
    (htr : ∀ env : PySem.Env, ∃ pl : Sem Bool, eval (.Call (.Attribute (.Call (.Name "super" p0) [] [] p1) "__init__" ap) (e :: es) [] cp) env = (do
      let ov ← attributeBase (.Call (.Name "super" p0) [] [] p1) "__init__" env (eval (.Call (.Name "super" p0) [] [] p1) env)
      standAt ap.atName
      let (f, first) ← holding [ov] (getMethod ov "__init__" pl)
      callWith cp f first (backTo cp (starEach (e :: es) env)) []) := by intro _; exact ⟨_, rfl⟩)
    (hsw : ∀ env, swapsWith (.Call (.Attribute (.Call (.Name "super" p0) [] [] p1) "__init__" ap) (e :: es) [] cp) none ep.line env = pure false := by intro _; rfl) :
    FnG P w K mg base gq (k + 1) f fd ps (spF K mg (bodyF ps.length N.length (sSeq (sSup tb fa) g))) := by
  obtain ⟨oc, od, kV, doc, pm, an, cda, ct, osl, rfl, lk, hcd, ccl, cdd, cvs, ccs, file, tf, lcd, hfi, hfile⟩ := F.ex
  obtain ⟨cl, cld, csl, cdD, lcc, hD⟩ := F.cell
  have len : ∀ (vs : List V) (H : Hp) (Q : VK) (E : XK), spF K mg (bodyF ps.length N.length (sSeq (sSup tb fa) g)) vs H Q E → vs.length = ps.length := fun vs H Q E h => by
    obtain ⟨O, args, fp, _, r, _, _, q⟩ := h
    have l := r.len
    rw [List.length_map] at l
    unfold bodyF at q
    by_cases hl : args.length = ps.length
    · rw [l, hl]
    · rw [if_neg hl] at q
      exact q.elim
  refine ⟨len, fun A outer s H args us vs Q E hr gd sb e0 bt rv hsp => ?_⟩
  have hl := len _ _ _ _ hsp
  have inK : K.In s.heap := e0.mod.kin.keeps fun b o e => (e0.bs b o e).1
  have noL : s.heap.NoLimit := e0.mod.nolimit.keeps fun b o e => (e0.bs b o e).1
  have dep : A.depth < recursionLimit := by
    have := hr.dp
    omega
  have hloc : ∀ y ∈ ps.zip us, (defScope st).names.lookup y.1 = some .local := by
    rintro ⟨n, v⟩ hy
    exact S0.par n (List.of_mem_zip hy).1
  refine ks_codeAny_call_defAt (fd := PySem.W.ksFn x qual (defArgs st) (defBody st) (defScope st) .none kV doc pm an (.ref cda) ct cc) (body := defBody st) (binds := ps.zip us) dep (inK _ _ lk) rfl noL (PySem.W.codeRec_of inK hcd) rfl bt S0.nocell hloc (fun h₁ hns hk₁ => ?_) S0.co S0.gen S0.kind
  obtain ⟨O, av, fp, oc0, re, nd, ow, fin⟩ := hsp
  have la : av.length = ps.length := by
    have z := re.len
    rw [List.length_map] at z
    omega
  obtain ⟨t, htt, sem⟩ := hb (actOf H O fp vs) (fun cls d _ H' => E cls d H')
  obtain ⟨ta, hta, sema⟩ := ha (actOf H O fp vs) (fun cls d _ H' => E cls d H')
  generalize hX : cxS P w K mg base N qual (defScope st) f (.ref cda) cc A outer s H E = X
  have hOk : (⟨P, w, K, mg, base, N, defScope st, k, actOf H O fp vs, fun cls d _ H' => E cls d H', true, gq⟩ : Cxt).Ok X := by
    subst hX
    exact ⟨rfl, rfl, rfl, rfl, rfl, rfl, rfl, rfl, hr.deeper _, gd, passes_of rfl, takes_of rfl rfl rfl rfl, fun z => (by cases z), S0.kind, sb, fun z => (by cases z)⟩
  have I : Inv X [] (L2.start N vs) H { s with heap := h₁, toks := s.toks + (ps.zip us).length } := by
    subst hX
    exact inv_startS S0 hr.hd e0 hl rv lcc hns hk₁
  have st0 : L2.start N vs = vs.map some ++ List.replicate (N.length - ps.length) none := by
    unfold L2.start
    rw [hl]
  have sit : Sit K (actOf H O fp vs) (L2.start N vs) H O (av ++ List.replicate (N.length - ps.length) .un) [] := by
    rw [st0]
    refine ⟨⟨fp, re.more _, by rw [List.append_nil]; exact nd, fun b hb => ?_⟩, oc0, fun a o h _ => h, fun a h => h, fun a h => .inl h, fun a h => ow a h, fun p hp => nomatch hp⟩
    rw [List.append_nil] at hb
    exact ⟨ow b hb, .inl hb⟩
  generalize hS : (⟨P, w, K, mg, base, N, defScope st, k, actOf H O fp vs, fun cls d _ H' => E cls d H', true, gq⟩ : Cxt) = S at htt sem hta sema hOk
  have fpost : FPost S (L2.start N vs) H O { nx := fun _ H' => Q .non H', rt := Q } (sSeq (sSup tb fa) g (av ++ List.replicate (N.length - ps.length) .un)) := by
    subst hS
    unfold bodyF at fin
    rw [if_pos la] at fin
    cases eg : sSeq (sSup tb fa) g (av ++ List.replicate (N.length - ps.length) .un) with
    | nx env1 =>
      rw [eg] at fin
      exact fun σ' H' O' s' _ => fin σ' .non H' O' [] s' (.dat .non)
    | rt env1 r =>
      rw [eg] at fin
      exact fun σ' v H' O' fq s' r' _ => fin σ' v H' O' fq s' r'
    | err env1 xx =>
      rw [eg] at fin
      exact fun σ' cls dd H' O' s' _ ex => fin σ' cls dd H' O' s' ex
    | bk env1 => rw [eg] at fin; exact fin.elim
    | ct env1 => rw [eg] at fin; exact fin.elim
    | bad => rw [eg] at fin; exact fin.elim
  have sitS : Sit S.K S.A (L2.start N vs) H O (av ++ List.replicate (N.length - ps.length) .un) [] := by subst hS; exact sit
  have main : ∃ (a C dx : Addr) (fs : List (Str × V)) (c : Str) (F2 : List SV → Res SV), (L2.start N vs)[0]? = some (some (.ref a)) ∧ H a = some (.ins C dx fs) ∧ PySem.W.nsIn K mainGlobals c = some (some (.ref C)) ∧ tb.lookup c = some F2 ∧
      ta (L2.start N vs) H fun vs' H2 => spF K mg F2 (.ref a :: vs') H2 (fun _ H3 => t { nx := fun _ H' => Q .non H', rt := Q } (L2.start N vs) H3) (fun c d H3 => E c d H3) := by
    unfold sSeq sSup at fpost
    split at fpost
    · rename_i tag c gs ei
      split at fpost
      · rename_i F2 hF
        obtain ⟨a, C, dx, fs, fp2, w1, w2, w3, w4⟩ := sitS.insv ei
        refine ⟨a, C, dx, fs, c, F2, w1, w3, by subst hS; exact w2, hF, sema (L2.start N vs) H O _ [] _ sitS ?_⟩
        rw [fl_then] at fpost
        cases ef : fa (av ++ List.replicate (N.length - ps.length) .un) with
        | bad => rw [ef] at fpost; exact fpost
        | err env1 xx =>
          rw [ef] at fpost
          exact fun cls dd H' O' s' t' ex => fpost _ cls dd H' O' s' t' ex
        | ok env1 avs =>
          rw [ef] at fpost
          intro H1 O1 s1 t1 vs' avr
          have q1 : FPost S (L2.start N vs) H1 O1 { nx := fun _ H' => Q .non H', rt := Q } ((callA F2 (.sl 0 :: avs) env1).fl fun e _ => (Fl.nx e).then g) := fp_tr fpost t1
          have q2 : VPost S (L2.start N vs) H1 O1 [] (fun _ H3 => t { nx := fun _ H' => Q .non H', rt := Q } (L2.start N vs) H3) (callA F2 (.sl 0 :: avs) env1) :=
            vl_post q1 fun env2 sv v H3 O3 fq _ s3 r3 t3 k3 => sem (L2.start N vs) H3 O3 env2 _ s3.less k3
          have q3 := callA_sp s1 q2 (.cons (.sl w1) avr)
          subst hS
          exact q3
      · exact fpost.elim
    · exact fpost.elim
  obtain ⟨a, C, dx, fs, c, F2, m1, m2, m3, m4, m5⟩ := main
  obtain ⟨hsub, cdC, g2, fd2, ps2, hC, hsu, hty, hfn, bi2, G2⟩ := ht.at m4 C m3
  -- the walk
  have hXp : X.prog = P ∧ X.w = w ∧ X.K = K ∧ X.mg = mg ∧ X.base = base ∧ X.N = N ∧ X.env = envS qual (defScope st) s.heap.objs.size f (.ref cda) cc ∧ X.A = A.deeper (envS qual (defScope st) s.heap.objs.size f (.ref cda) cc) ∧
      X.xe = (fun e s' => wpAny (model P w) (A.deeper (envS qual (defScope st) s.heap.objs.size f (.ref cda) cc)) (leaving (envS qual (defScope st) s.heap.objs.size f (.ref cda) cc) e) (fun _ s'' => L2.CX P w outer H s E e s'') (fun e' s'' => L2.CX P w outer H s E e' s'') s') := by
    subst hX
    exact ⟨rfl, rfl, rfl, rfl, rfl, rfl, rfl, rfl, rfl⟩
  obtain ⟨x1, x2, x3, x4, x5, x6, x7, x8, x9⟩ := hXp
  have tailR : ∀ (fl : Flow) (s' : Shared), (match fl with | .ret u => ∃ v σ' H', Inv X [] σ' H' s' ∧ RelV v u ∧ Q v H' | .next => ∃ σ' H', Inv X [] σ' H' s' ∧ Q .non H' | _ => False) → CR (L2.CX P w) outer P w H s Q E (.ok (.ret (match fl with | .ret v => v | _ => .none))) s' := by
    intro fl s' hs
    subst hX
    cases fl with
    | ret u =>
      obtain ⟨v, σ', H', J, rv', q⟩ := hs
      exact ⟨v, H', J.os, J.bare, J.base, J.hok, rv', q⟩
    | next =>
      obtain ⟨σ', H', J, q⟩ := hs
      exact ⟨V.non, H', J.os, J.bare, J.base, J.hok, rfl, q⟩
    | brk => exact hs.elim
    | cont => exact hs.elim
  have goal : _root_.PySem.wpAt (model X.prog X.w) X.A (.func (defBody st) X.env) (execs (defBody st) X.env) (fun fl s' => match fl with | .ret u => ∃ v σ' H', Inv X [] σ' H' s' ∧ RelV v u ∧ Q v H' | .next => ∃ σ' H', Inv X [] σ' H' s' ∧ Q .non H' | _ => False) X.xe { s with heap := h₁, toks := s.toks + (ps.zip us).length } := by
    have hkind : X.env.scope.kind = .function := by rw [x7]; exact S0.kind
    have hks : X.env.kindOf "super" = some .globalImplicit := by rw [x7]; exact S0.sup
    have hkc : X.env.kindOf "__class__" = some .free := by rw [x7]; exact S0.cls
    have hka : X.env.kindOf ar.arg = some .local := by
      rw [x7]
      cases ps with
      | nil => cases hp0
      | cons p r => cases hp0; exact S0.par _ (by simp)
    conv => arg 4; rw [hbd]
    have hint : interactive X.env = false := by
      unfold interactive
      rw [hkind]
      rfl
    refine ks_wpAt_execs_cons (ks_wpAt_Expr_any ?_ hint (hsw _))
    obtain ⟨pl, hpe⟩ := htr X.env
    refine ks_wpAt_MethodCall (pl := pl) ?_ hpe
    have KX := I.kIn
    have K2 : X.K.In h₁ := KX
    refine ks_wpAt_super_base (f := f) (cc := cda) (ar := ar) (vs := cvs) (file := file) (tf := tf) hks hkc (by decide +kernel) (by rw [x7]) (KX _ _ (by rw [x3]; exact lk)) rfl hp (by rw [x7]) (KX _ _ (by rw [x3]; exact lcd)) rfl hfi (by rw [x1]; exact hfile) (by rw [x1]; exact F.top) ?_
    obtain ⟨mb, hmb1, hmb2⟩ := I.mod.blt
    refine PySem.W.ks_loadName_global hkind hks (Calls.loadGlobal_builtin (by rw [I.ok.glob]; exact I.mod.glob.keeps I.bk) (by rw [x4]; exact ms) (by rw [I.ok.blt]; exact hmb1.keeps I.bk) ((hmb2 "super" (by decide +kernel)).trans (show bootBuiltins "super" = some (.type "super") by first | rfl | kernel_rfl | decide +kernel)) ⟨rfl, ?_⟩)
    refine wpAny_loadName_free (c := cc) hkind hkc (by rw [x7]; rfl) ⟨_, KX _ _ (by rw [x3]; exact lcc), rfl⟩ ?_
    obtain ⟨m, hn, hlo⟩ := I.loc
    have hN0 : X.N[0]? = some ar.arg := by
      rw [x6]
      have hpre := S0.pre
      cases hps : ps with
      | nil => rw [hps] at hp0; cases hp0
      | cons p r =>
        rw [hps] at hp0 hpre
        cases hp0
        cases hNN : N with
        | nil => rw [hNN] at hpre; simp at hpre
        | cons n r2 =>
          rw [hNN] at hpre
          simp at hpre
          rw [hpre.1]
          rfl
    obtain ⟨uself, ru, lks⟩ := hlo 0 ar.arg (.ref a) hN0 m1 (.inl hka)
    have eu : uself = .ref a := ru
    subst eu
    have hself : m ar.arg = some (.ref a) := by
      rcases lks with ⟨_, z⟩ | ⟨z, _⟩
      · exact z
      · rw [hka] at z
        rcases z with z | z <;> cases z
    refine wpAny_loadName_local hkind hka hn hself ?_
    obtain ⟨oD, hD1, hD2⟩ : ∃ oD, h₁.get? D = some oD ∧ oD.data = .cls cdD := by
      unfold PySem.W.clsIn at hD
      split at hD
      · rename_i c0 d0 cd' sl0 ho
        cases hD
        exact ⟨_, KX _ _ (by rw [x3]; exact ho), rfl⟩
      · cases hD
    refine ks_wpAny_isType_cls hD1 hD2 ⟨rfl, ?_⟩
    obtain ⟨mA, OM, _⟩ := ins_get I.hok m2
    obtain ⟨od', J, _⟩ := OM.look
    refine ks_wpAny_call_super hD1 hD2 J.at_ J.cls (fun c0 e => ?_) (PySem.W.looks_mroIn K2 (by rw [x3]; exact hsub)) (fun h' e hkk => ?_)
    · have := J.no
      unfold PySem.W.notCls at this
      rw [e] at this
      exact Bool.noConfusion this
    have I2 : Inv X [] (L2.start N vs) H { s with heap := h', toks := s.toks + (ps.zip us).length } := I.kept (h' := h') hkk
    obtain ⟨mA2, OM2, _⟩ := ins_get I2.hok m2
    obtain ⟨od2, J2, _⟩ := OM2.look
    obtain ⟨og, hog, hogc⟩ : ∃ og, h'.get? g2 = some og ∧ og.cls = .type "function" := by
      have ht' : (K.lookup g2).map (·.cls) = some (.type "function") := hty
      cases z : K.lookup g2 with
      | none => rw [z] at ht'; cases ht'
      | some og => rw [z] at ht'; exact ⟨og, I2.kIn _ _ (by rw [x3]; exact z), Option.some.inj ht'⟩
    have hsu' : PySem.W.alongIn X.K "__init__" ((cdC.mro.dropWhile (· != .ref D)).drop 1) = some (some (.ref g2)) := by
      unfold PySem.W.ks_superIn at hsu
      rw [hC] at hsu
      rw [x3]
      exact hsu
    have hC' : PySem.W.clsIn X.K C = some cdC := by rw [x3]; exact hC
    refine ks_wpAny_getMethod_super e (PySem.W.looks_opaque I2.kIn (by rw [x3]; exact F.any)) (l₀ := cdC.mro) ?_ rfl I2.kIn hsu' hog hogc (PySem.W.ks_ne I2.kIn J2 hC') (by decide +kernel) ?_
    · exact fun A Q E s k q => wpAny_bind ((PySem.W.looks_clsIn I2.kIn hC') A _ E s k (wpAny_pure q))
    have I3 := ClX.met_new (g := g2) (C := a) I2
    have hw : ta (L2.start N vs) H fun vs' H2 => spF K mg F2 (.ref a :: vs') H2 (fun _ H3 => t { nx := fun _ H' => Q .non H', rt := Q } (L2.start N vs) H3) (fun c d H3 => E c d H3) := m5
    refine ClX.callwith_cm I3 (ClX.base_none I2 (Nat.le_refl _)) (by rw [x3]; exact hfn) (thn ((hta X hOk).run cp _ _ _ H _ I3 hw) fun us' s3 ⟨vs', H2, I4, rv', q2⟩ => ⟨⟨ClX.pin_at I4, I4.kIn⟩, ?_⟩) (he _) (hpl _)
    have rv2 : Vals (V.ref a :: vs') (Value.ref a :: us') := .cons rfl rv'
    have hl2 : (Value.ref a :: us').length = ps2.length := by
      rw [← rv2.length]
      exact G2.len _ _ _ _ q2
    have b2 := bi2 s3 (.ref a :: us') (by rw [← x3]; exact I4.kIn) (by simpa using hl2)
    rw [List.append_nil] at b2
    have G2' : FnG X.prog X.w X.K X.mg X.base gq k g2 fd2 ps2 (spF K mg F2) := by rw [x1, x2, x3, x4, x5]; exact G2
    have roomS : Room k X.A := by rw [x8]; exact hr.deeper _
    have gdS : gq = true → X.A.guards = some [] := by rw [x8]; exact gd
    have sbS : SysB X.base := by rw [x5]; exact sb
    have tk : Takes X (fun cls d _ H' => E cls d H') := by
      have := hOk.tk
      rw [← hS] at this
      exact this
    refine wpAny_call (PySem.W.method_call (ClX.pin_at I4) (codeAny_mono (G2'.run X.A X.stack s3 H2 ⟨.ref a :: us', []⟩ (.ref a :: us') (.ref a :: vs') _ _ roomS gdS sbS I4.env0 b2 rv2 q2) fun r s' hq => ?_))
    cases r with
    | error ev => exact passAt tk (L2.start N vs) _ H2 s3 ev s' I4 hq
    | ok fl =>
      cases fl with
      | ret u =>
        obtain ⟨v3, H3, I5, rv5, q5⟩ := ClX.unpinE (I4.after hq)
        exact wpAt_of_wpAny (wpAny_mono ((htt X hOk).run [] s' (L2.start N vs) H3 _ I5 q5) (fun fl2 s2 hs => by
          cases fl2 with
          | ret u => exact hs
          | next => exact hs
          | brk => obtain ⟨_, _, _, z⟩ := hs; exact False.elim z
          | cont => obtain ⟨_, _, _, z⟩ := hs; exact False.elim z) fun e s2 hs => hs)
      | next => exact False.elim hq
      | brk => exact False.elim hq
      | cont => exact False.elim hq
  rw [x1, x2, x7, x8, x9] at goal
  refine ks_wpAt_mono goal (fun fl s' hs => ?_) fun e s' hs => hs
  exact tailR fl s' hs
end ML
/-! ML60: d[k] read, {k: e}, text.count, pop, C(..).m(..). -/
namespace ML
open PySem L2

/-! ### d[k] -/
section
variable {S : Cxt} {e e1 e2 ek : Expr} {p q : Env → Option D} {fa fb : Env → Res D} {pos p1 p2 : Pos}
/-! ### {k: e} as an own dict -/
/-! ### a.count(b), of texts -/
/-! ### xs.pop(), of an own list -/
theorem RDs.last {K : Fg} {H : Hp} {O : OS} {vs : List V} {ds : List D} (h : RDs K H O vs ds) {d : D} (e : ds.getLast? = some d) : ∃ v, vs[vs.length - 1]? = some v ∧ RD K H O v d ∧ RDs K H O vs.dropLast ds.dropLast := by
  rw [List.getLast?_eq_getElem?] at e
  obtain ⟨v, h1, h2⟩ := h.get e
  refine ⟨v, by rw [h.len]; exact h1, h2, ?_⟩
  rw [List.dropLast_eq_take, List.dropLast_eq_take, h.len]
  exact h.take _
end

/-! ### C(..).m(e, ..) -/
section
variable {S : Cxt} {σ : L2.St} {H2 : Hp} {O2 : OS} {T fq : List Addr} {env2 : Env} {vs : List V} {ds : List D} {Q : VK} {F : List SV → Res SV} {ad : Addr} {c : OC}
end
section
variable {S : Cxt} {o e : Expr} {es : List Expr} {pos apos : Pos} {m : Str} {fa : Env → Res SV} {fb : Env → Res (List D)} {k : Nat}
end
end ML
/-! ML61: plain readings of instances. -/
namespace ML
open PySem L2

/-- an instance as data: its class's name, its attributes -/
abbrev Ins := Str × Gs
/-- what the methods do, class by class -/
def SimTb {ρ : Type} (T : ρ → Env → SV → Prop) (args : List SV) : List (Str × Po ρ) → MTab → Prop
  | [], [] => True
  | (c, r) :: R, (c', F) :: M => c = c' ∧ LeF T r (F args) ∧ SimTb T args R M
  | _, _ => False
theorem SimTb.at {ρ : Type} {T : ρ → Env → SV → Prop} {args : List SV} {c : Str} {F : List SV → Res SV} : ∀ {R : List (Str × Po ρ)} {M : MTab}, SimTb T args R M → M.lookup c = some F → LeF T ((R.lookup c).getD .bad) (F args)
  | [], [], _, e => by cases e
  | (c1, r) :: R, (c2, F2) :: M, h, e => by
    obtain ⟨rfl, h1, h2⟩ := h
    rw [List.lookup_cons] at e
    rw [List.lookup_cons]
    split at e
    · rename_i hc
      cases e
      exact h1
    · exact SimTb.at h2 e
  | [], _ :: _, h, _ => h.elim
  | _ :: _, [], h, _ => h.elim
section
variable {α τ ρ : Type} {Φ : τ → Fl → Prop} {r : Po τ} {env : Env} {i : Nat} {t : Option Nat} {s : Ins} {cs : List Str} {f m : Str}
/-! o.f = e -/
/-! o.f[k] = e -/
/-! methods -/
/-! super().__init__ -/
/-! C(..) -/
/-! C(..).m(..) -/
/-! {k: e}; pop -/
end

/-! ### what the printed facts say of methods -/
def DfM (K : Fg) (c m qual : Str) (st : Stmt) (ps : List Str) : Prop := ∀ C, PySem.W.nsIn K mainGlobals c = some (some (.ref C)) → Cls K C ∧ ∃ (g : Addr) (fd : FuncData), Meth K C m g ∧ Fun K m qual st g fd ∧ Binds K fd ps []
theorem FnG.mono {P : Program} {w : World} {K : Fg} {mg : Str → Option Value} {base : Heap} {gq : Bool} {j k : Nat} {f : Addr} {fd : FuncData} {ps : List Str} {sp : Sp} (F : FnG P w K mg base gq j f fd ps sp) (h : j ≤ k) : FnG P w K mg base gq k f fd ps sp :=
  ⟨F.len, fun A outer s H args us vs Q E hr => F.run A outer s H args us vs Q E (hr.mono h)⟩
theorem MX.mono {S : Cxt} {j k : Nat} {m c : Str} {F : List SV → Res SV} (h : MX S j m c F) (hk : j ≤ k) : MX S k m c F := fun C hC => by
  obtain ⟨h1, g, fd, ps, h2, h3, h4⟩ := h C hC
  exact ⟨h1, g, fd, ps, h2, h3, h4.mono hk⟩
theorem DfM.mk {S : Cxt} {c m qual : Str} {st : Stmt} {N ps : List Str} {g : Env → Fl} {k : Nat} (d : DfM S.K c m qual st ps) (sc : FnScope N ps (defScope st)) (h : ∀ (A : Act) (W : Wish), JSs ⟨S.P, S.w, S.K, S.mg, S.base, N, defScope st, k, A, W, false, S.gq⟩ (defBody st) g) :
    MX S (k + 1) m c (bodyF ps.length N.length g) := fun C hC => by
  obtain ⟨h1, gg, fd, h2, Fu, bi⟩ := d C hC
  exact ⟨h1, gg, fd, ps, h2, bi, gn_of Fu sc h⟩
/-- a method that nothing is said of -/
theorem DfM.bad {S : Cxt} {c m qual : Str} {st : Stmt} {ps : List Str} {k : Nat} (d : DfM S.K c m qual st ps) : MX S k m c (fun _ => .bad) := fun C hC => by
  obtain ⟨h1, gg, fd, h2, Fu, bi⟩ := d C hC
  exact ⟨h1, gg, fd, ps, h2, bi, ⟨fun vs H Q E h => by obtain ⟨_, _, _, _, _, _, _, q⟩ := h; exact q.elim, fun A outer s H args us vs Q E _ _ _ _ _ _ h => by obtain ⟨_, _, _, _, _, _, _, q⟩ := h; exact q.elim⟩⟩
/-- a class whose __init__ is a plain def -/
def DfK (K : Fg) (mg : Str → Option Value) (c qual : Str) (st : Stmt) (ps : List Str) : Prop := ∃ (C f : Addr) (fd : FuncData), PySem.W.nsIn K mainGlobals c = some (some (.ref C)) ∧ mg c = some (.ref C) ∧ Mk K C f ∧ Fun K "__init__" qual st f fd ∧ Binds K fd ps []
theorem DfK.mk {S : Cxt} {c qual : Str} {st : Stmt} {N ps : List Str} {g : Env → Fl} {k : Nat} (d : DfK S.K S.mg c qual st ps) (sc : FnScope N ps (defScope st)) (h : ∀ (A : Act) (W : Wish), JSs ⟨S.P, S.w, S.K, S.mg, S.base, N, defScope st, k, A, W, false, S.gq⟩ (defBody st) g) :
    KX S (k + 1) c (bodyF ps.length N.length g) := by
  obtain ⟨C, f, fd, h1, h2, M, Fu, bi⟩ := d
  exact ⟨C, f, fd, ps, h1, h2, M, bi, gn_of Fu sc h⟩
/-- .. that begins with super().__init__ -/
def DfKS (P : Program) (K : Fg) (mg : Str → Option Value) (c qual : Str) (st : Stmt) (ps : List Str) (d : Str) : Prop := ∃ (C f cc Dc : Addr) (fd : FuncData), PySem.W.nsIn K mainGlobals c = some (some (.ref C)) ∧ mg c = some (.ref C) ∧ Mk K C f ∧ FunS P K "__init__" qual st f fd cc Dc ∧ Binds K fd ps [] ∧ PySem.W.nsIn K mainGlobals d = some (some (.ref Dc))
/-- the __init__ that super() finds -/
def DfSup (K : Fg) (c d qual : Str) (st : Stmt) (ps : List Str) : Prop := ∀ C Dc, PySem.W.nsIn K mainGlobals c = some (some (.ref C)) → PySem.W.nsIn K mainGlobals d = some (some (.ref Dc)) → PySem.W.mroIn K C (.ref Dc) = some true ∧
  ∃ (cdC : ClassData) (g : Addr) (fd : FuncData), PySem.W.clsIn K C = some cdC ∧ PySem.W.ks_superIn K C Dc "__init__" = some (some (.ref g)) ∧ PySem.W.typeIn K (.ref g) = some (.type "function") ∧ PySem.W.fnIn K g = true ∧ Fun K "__init__" qual st g fd ∧ Binds K fd ps []
def SXd (S : Cxt) (k : Nat) (c d : Str) (F : List SV → Res SV) : Prop := ∀ Dc, PySem.W.nsIn S.K mainGlobals d = some (some (.ref Dc)) → SX S.P S.w S.K S.mg S.base S.gq k Dc c F
theorem DfSup.mk {S : Cxt} {c d qual : Str} {st : Stmt} {N ps : List Str} {g : Env → Fl} {k : Nat} (e : DfSup S.K c d qual st ps) (sc : FnScope N ps (defScope st)) (h : ∀ (A : Act) (W : Wish), JSs ⟨S.P, S.w, S.K, S.mg, S.base, N, defScope st, k, A, W, false, S.gq⟩ (defBody st) g) :
    SXd S (k + 1) c d (bodyF ps.length N.length g) := fun Dc hD C hC => by
  obtain ⟨h1, cdC, gg, fd, h2, h3, h4, h5, Fu, bi⟩ := e C Dc hC hD
  exact ⟨h1, cdC, gg, fd, ps, h2, h3, h4, h5, bi, gn_of Fu sc h⟩
theorem SX.mono {P : Program} {w : World} {K : Fg} {mg : Str → Option Value} {base : Heap} {gq : Bool} {j k : Nat} {Dc : Addr} {c : Str} {F : List SV → Res SV} (h : SX P w K mg base gq j Dc c F) (hk : j ≤ k) : SX P w K mg base gq k Dc c F := fun C hC => by
  obtain ⟨h1, cdC, g, fd, ps, h2, h3, h4, h5, h6, h7⟩ := h C hC
  exact ⟨h1, cdC, g, fd, ps, h2, h3, h4, h5, h6, h7.mono hk⟩
theorem DfKS.mk {S : Cxt} {c d qual : Str} {st : Stmt} {N ps : List Str} {g : Env → Fl} {k j : Nat} {fa : Env → Res (List AV)} {F2 : List SV → Res SV} {e : Expr} {es : List Expr} {rest : List Stmt} {p0 p1 ap cp ep : Pos} {ar : Arg} (dk : DfKS S.P S.K S.mg c qual st ps d) (sc : ScX N ps (defScope st))
    (hbd : defBody st = .Expr (.Call (.Attribute (.Call (.Name "super" p0) [] [] p1) "__init__" ap) (e :: es) [] cp) ep :: rest)
    (hp : ((defArgs st).posonlyargs ++ (defArgs st).args).head? = some ar) (hp0 : ps.head? = some ar.arg) (ms : S.mg "super" = none) (ht : SXd S j c d F2) (hj : j ≤ k)
    (ha : ∀ (A : Act) (W : Wish), JCA ⟨S.P, S.w, S.K, S.mg, S.base, N, defScope st, k, A, W, true, S.gq⟩ (e :: es) fa)
    (hb : ∀ (A : Act) (W : Wish), JSs ⟨S.P, S.w, S.K, S.mg, S.base, N, defScope st, k, A, W, true, S.gq⟩ rest g)
    (he : ∀ env, starEach (e :: es) env = (false, eval e env) :: starEach es env := by intro _; rfl) (hpl : ∀ env, (backTo cp (starEach es env)).any (·.1) = false := by intro _; rfl)
    (htr : ∀ env : PySem.Env, ∃ pl : Sem Bool, eval (.Call (.Attribute (.Call (.Name "super" p0) [] [] p1) "__init__" ap) (e :: es) [] cp) env = (do
      let ov ← attributeBase (.Call (.Name "super" p0) [] [] p1) "__init__" env (eval (.Call (.Name "super" p0) [] [] p1) env)
      standAt ap.atName
      let (f, first) ← holding [ov] (getMethod ov "__init__" pl)
      callWith cp f first (backTo cp (starEach (e :: es) env)) []) := by intro _; exact ⟨_, rfl⟩)
    (hsw : ∀ env, swapsWith (.Call (.Attribute (.Call (.Name "super" p0) [] [] p1) "__init__" ap) (e :: es) [] cp) none ep.line env = pure false := by intro _; rfl) :
    KX S (k + 1) c (bodyF ps.length N.length (sSeq (sSup [(c, F2)] fa) g)) := by
  obtain ⟨C, f, cc, Dc, fd, h1, h2, M, Fu, bi, hD⟩ := dk
  exact ⟨C, f, fd, ps, h1, h2, M, bi, gnS_of Fu sc hbd hp hp0 ms ⟨(ht Dc hD).mono hj, trivial⟩ ha hb he hpl htr hsw⟩
/-! what the top has written, as these facts -/
end ML
/-! ML62: sum of a tuple of ints. -/
namespace PySem
section
variable {prog : Program} {w : World} {A : Around} {E : Value → Shared → Prop} {s : Shared} {l : Addr} {xs : Array (Int × Tok)}
end
end PySem
namespace ML
open PySem PyProof.Rows L2
section
variable {S : Cxt} {e : Expr} {pos pp : Pos} {qs : Env → Option (List D)} {qr : Env → Res (List D)}
end
end ML
/-! ML63: list.count, whole numbers. -/
namespace ML
open PySem L2
section
variable {S : Cxt} {e1 e2 : Expr} {pos : Pos} {p q : Env → Option D}
end
end ML
/-! ML64: list.count, texts. -/
namespace ML
open PySem PyProof.Rows L2
section
variable {S : Cxt} {e1 e2 : Expr} {pos : Pos} {p q : Env → Option D}
end
end ML
/-! ML65: lambdas without parameters handed to a def of one parameter, which calls it in a try. -/
namespace ML
open PySem PyProof.Rows L2
section
variable {X : Cx} {pins : List (Addr × Obj)} {σ : L2.St} {H : Hp} {s : Shared}
end

/-! ### the def that calls what it got, in a try -/
/-- its body bd, told of what the call comes to: it returns m of that -/
def HBody (P : Program) (w : World) (K : Fg) (mg : Str → Option Value) (base : Heap) (gq : Bool) (k : Nat) (Ng : List Str) (sg : Scope) (a : Str) (bd : List Stmt) (m : D ⊕ Exn → Option D) : Prop :=
  ∀ (Z : Cx) (H1 : Hp) (O : OS) (f : Addr) (Q : VK) (ta : WX → TE) (out : D ⊕ Exn) (d : D), (⟨P, w, K, mg, base, Ng, sg, k, actOf H1 O [] [.ref f], fun _ _ _ _ => False, false, gq⟩ : Cxt).Ok Z → Oc H1 O →
    (∀ (W : WX) (pn : List (Addr × Obj)) (xe : Value → Shared → Prop) (p1 p2 : Pos), Takes (Z.tr pn xe) W → PE (Z.tr pn xe) (.Call (.Name a p1) [] [] p2) (ta W)) →
    (∀ (W : WX) (σZ : L2.St) (HZ : Hp) (OZ : OS) (env : Env) (T : List Addr) (Q' : VK), Sit K (actOf H1 O [] [.ref f]) σZ HZ OZ env T → env[0]? = some (.raw (.ref f)) →
      (match out with
        | .inl d => ∀ v H', Grow HZ H' → RD K H' OZ v d → Q' v H'
        | .inr x => ∀ cls dd H', Grow HZ H' → ExR K mg H' OZ x cls dd → W cls dd σZ H') → ta W σZ HZ Q') →
    m out = some d → (∀ v H3 O3, Grow H1 H3 → (∀ b, O b → O3 b) → RD K H3 O3 v d → Q v H3) →
    ∃ t, PSs Z bd t ∧ t { nx := fun _ H' => Q .non H', rt := Q } (L2.start Ng [.ref f]) H1
/-- the try's one statement: a(), or z = a() -/
inductive AskS (Ng : List Str) (sg : Scope) (a : Str) : Stmt → Option Nat → Prop
  | expr (p1 p2 p3 : Pos) : AskS Ng sg a (.Expr (.Call (.Name a p1) [] [] p2) p3) none
  | set (z : Nat) (zn : Str) (p0 p1 p2 p3 : Pos) : Ng[z]? = some zn → sg.names.lookup zn = some .local → AskS Ng sg a (.Assign [.Name zn p0] (.Call (.Name a p1) [] [] p2) p3) (some z)
theorem RD.lower {K : Fg} {H : Hp} {O O' : OS} (oo : ∀ b, O b → O' b) {v : V} {d : D} (h : RD K H O' v d) : RD K H O v d := RD.sta (fun a o e n => ⟨e, fun z => n (oo a z)⟩) _ _ h
theorem ExR.lower {K : Fg} {mg : Str → Option Value} {H : Hp} {O O' : OS} (oo : ∀ b, O b → O' b) {x : Exn} {cls : Value} {d : Option Addr} (h : ExR K mg H O' x cls d) : ExR K mg H O x cls d := by
  obtain ⟨C, vs, e1, e2, e3, e4, e5, e6⟩ := h
  refine ⟨C, vs, e1, e2, e3, fun z => ?_, e5, RDs.sta (fun a o e n => ⟨e, fun y => n (oo a y)⟩) _ _ e6⟩
  obtain ⟨dd, q1, q2, q3⟩ := e4 z
  exact ⟨dd, q1, fun y => q2 (oo _ y), q3⟩
end ML
/-! ML66: the rule of x(lambda: e), x a def that calls what it got in a try. -/
namespace ML
open PySem PyProof.Rows L2
section
variable {K : Fg} {A : Act} {H : Hp} {O : OS} {σ : L2.St} {env : Env} {T fp : List Addr}
theorem RS.noTbl {v : V} {sv : SV} (h : RS K A H O v sv fp) : ∀ b ∈ fp, ∀ ps, H b ≠ some (.tbl ps) := by
  cases h with
  | dat => exact fun b hb => nomatch hb
  | raw => exact fun b hb => nomatch hb
  | frz => exact fun b hb => nomatch hb
  | own h _ => exact h.noTbl
theorem RE.noTbl (h : RE K A H O σ env fp) : ∀ b ∈ fp, ∀ ps, H b ≠ some (.tbl ps) := by
  induction h with
  | nil => exact fun b hb => nomatch hb
  | un _ ih => exact ih
  | cons h1 _ ih => exact fun b hb ps z => (List.mem_append.mp hb).elim (fun e => h1.noTbl b e ps z) (fun e => ih b e ps z)
end

/-- a def that calls its one parameter in a try -/
def HX (S : Cxt) (k : Nat) (x : Str) (m : D ⊕ Exn → Option D) : Prop := ∃ (st : Stmt) (g : Addr) (fd : FuncData) (Ng : List Str) (a : Str), Fun S.K x x st g fd ∧ S.mg x = some (.ref g) ∧ Binds S.K fd [a] [] ∧ FnScope Ng [a] (defScope st) ∧ Ng[0]? = some a ∧
  (a == ("__debug__" : Str)) = false ∧ (a == ("__classdict__" : Str)) = false ∧ HBody S.P S.w S.K S.mg S.base S.gq k Ng (defScope st) a (defBody st) m
theorem Df.hx {S : Cxt} {x a : Str} {st : Stmt} {Ng : List Str} {k : Nat} {m : D ⊕ Exn → Option D} (d : Df S.K S.mg x st [a]) (sc : FnScope Ng [a] (defScope st)) (h0 : Ng[0]? = some a) (h1 : (a == ("__debug__" : Str)) = false) (h2 : (a == ("__classdict__" : Str)) = false)
    (h : HBody S.P S.w S.K S.mg S.base S.gq k Ng (defScope st) a (defBody st) m) : HX S k x m := by
  obtain ⟨f, fd, Fu, mx, bi⟩ := d
  exact ⟨st, f, fd, Ng, a, Fu, mx, bi, sc, h0, h1, h2, h⟩
section
variable {S : Cxt} {x : Str} {m : D ⊕ Exn → Option D} {k kl : Nat} {fl : Env → Res D} {params : Arguments} {body : Expr} {scope : Scope} {p lpos pos : Pos}
end
end ML
/-! ML67: defs that make lambdas, their calls, the end of a row with such defs. -/
namespace ML
open PySem L2
section
variable {K : Fg} {A : Act} {H : Hp} {O : OS} {σ : L2.St} {env : Env} {T : List Addr}
end
section
variable {S : Cxt} {e : Expr} {es : List Expr} {pos pp : Pos} {x : Str} {F : List SV → Res SV} {fa : Env → Res (List AV)} {k : Nat} {tb : List (Addr × Str)}
end
end ML
/-! ML68: the end of a row whose defs make lambdas. -/
namespace ML
open PySem PySem.Spec PyProof.Rows L2
end ML
/-! ML69: plain readings of lambdas that are called in a try. -/
namespace ML
open PySem L2
end ML
/-! ML70: list.count and list.index of truths; and, or with effects as values; what a def with lambdas is handed. -/
namespace ML
open PySem PyProof.Rows L2
section
variable {S : Cxt} {e e1 e2 : Expr} {rest : List Expr} {pos : Pos} {p q : Env → Option D}
/-! and, or with effects, as values -/
variable {u v : Env → Res Bool}
end
end ML
/-! ML71: != of two lists that are the same data, empty dicts among it. -/
namespace ML
open PySem PySem.Spec PyProof.Rows L2
section
variable {X : Cx} {pins : List (Addr × Obj)} {σ : L2.St} {H : Hp} {O : OS} {s : Shared}
theorem RDs.lower {K : Fg} {H : Hp} {O O' : OS} (oo : ∀ b, O b → O' b) {vs : List V} {ds : List D} (h : RDs K H O' vs ds) : RDs K H O vs ds := RDs.sta (fun a o e n => ⟨e, fun z => n (oo a z)⟩) _ _ h
end
section
variable {S : Cxt} {e1 e2 : Expr} {fa fb : Env → Res D} {pos : Pos}
end
end ML
/-! ML72: x(lambda: e, a, ..), x a def that hands what it got to another one, which calls it in a try. -/
namespace ML
open PySem PyProof.Rows L2
section
variable {X : Cx} {pins : List (Addr × Obj)} {σ : L2.St} {H : Hp} {s : Shared}
end
section
variable {S : Cxt} {x h : Str} {m : D ⊕ Exn → Option D} {k kg kl iy np n : Nat} {fl : Env → Res D} {g3 : Env → Fl} {q : Env → Option (List D)} {params : Arguments} {body e : Expr} {es : List Expr} {scope : Scope} {p lpos pos : Pos}
end
end ML
/-! ML73: plain readings of two-level lambdas. -/
namespace ML
open PySem L2
end ML
/-! ML74: a op b op c op d; a def with lambdas whose first argument is a new object. -/
namespace ML
open PySem PyProof.Rows L2
section
variable {X : Cx} {a b c d : Expr} {ta tb tc td : TE} {pos : Pos}
end
section
variable {S : Cxt} {e1 e2 e3 e4 : Expr} {p q r3 r4 : Env → Option D} {pos : Pos}
end
section
variable {α : Type} {f f' f'' : D → D → Option D} {p q r3 r4 : Env → Option D} {env : Env} {s3 s4 : Option D}
end
section
variable {S : Cxt} {e : Expr} {es : List Expr} {pos pp : Pos} {x : Str} {F : List SV → Res SV} {k : Nat} {tb : List (Addr × Str)}
end
end ML
/-! ML75: list(f(e, ..)) of a generator def that may raise. -/
namespace ML
open PySem PyProof.Rows L2
section
variable {X : Cx} {k : Nat} {f : Addr} {fd : FuncData} {ps : List Str} {sp : SpG} {x : Str} {p pos p2 pos2 : Pos} {e : Expr} {es : List Expr} {t : TA}
end
section
variable {S : Cxt} {e : Expr} {es : List Expr} {pos pp p2 pos2 : Pos} {x : Str} {k : Nat} {ps cs : List Str} {F : List D → Po (List D)}
end
end ML
/-! ML76: plain readings of raising generators; raise with what is reckoned. -/
namespace ML
open PySem L2
section
variable {C Fs : List SV → Res SV} {chk src : D → D → Po D}
end
section
variable {τ : Type} {Φ : τ → Fl → Prop} {env : Env}
end
end ML
/-! ML77: properties; o.f.append(e), o.f.pop(); defaults of __init__; i << j. -/
namespace ML
open PySem PyProof.Rows L2
/-! ### __init__ with defaults -/
def DfKV (K : Fg) (mg : Str → Option Value) (c qual : Str) (st : Stmt) (ps : List Str) : Prop := ∃ (C f : Addr) (fd : FuncData), PySem.W.nsIn K mainGlobals c = some (some (.ref C)) ∧ mg c = some (.ref C) ∧ Mk K C f ∧ FunV K "__init__" qual st f fd ∧ Binds K fd ps []
theorem DfKV.mk {S : Cxt} {c qual : Str} {st : Stmt} {N ps : List Str} {g : Env → Fl} {k : Nat} (d : DfKV S.K S.mg c qual st ps) (sc : FnScope N ps (defScope st)) (h : ∀ (A : Act) (W : Wish), JSs ⟨S.P, S.w, S.K, S.mg, S.base, N, defScope st, k, A, W, false, S.gq⟩ (defBody st) g) :
    KX S (k + 1) c (bodyF ps.length N.length g) := by
  obtain ⟨C, f, fd, h1, h2, M, Fu, bi⟩ := d
  exact ⟨C, f, fd, ps, h1, h2, M, bi, gn_ofV Fu sc h⟩
/-! ### properties -/
def PX (S : Cxt) (k : Nat) (f c : Str) (F : List SV → Res SV) : Prop := ∀ C, PySem.W.nsIn S.K mainGlobals c = some (some (.ref C)) → Cls S.K C ∧ ∃ (p g : Addr) (fd : FuncData) (ps : List Str), PropOf S.K C f p g ∧ Binds S.K fd ps [] ∧ FnG S.P S.w S.K S.mg S.base S.gq k g fd ps (spF S.K S.mg F)
def PXs (S : Cxt) (k : Nat) (f : Str) : MTab → Prop
  | [] => True
  | (c, F) :: r => PX S k f c F ∧ PXs S k f r
theorem PXs.at {S : Cxt} {k : Nat} {m c : Str} {F : List SV → Res SV} : ∀ {tb : MTab}, PXs S k m tb → tb.lookup c = some F → PX S k m c F
  | [], _, e => by cases e
  | (c', F') :: r, h, e => by
    rw [List.lookup_cons] at e
    split at e
    · rename_i hc
      cases e
      rw [beq_iff_eq.mp hc]
      exact h.1
    · exact PXs.at h.2 e
theorem PX.mono {S : Cxt} {j k : Nat} {m c : Str} {F : List SV → Res SV} (h : PX S j m c F) (hk : j ≤ k) : PX S k m c F := fun C hC => by
  obtain ⟨h1, p, g, fd, ps, h2, h3, h4⟩ := h C hC
  exact ⟨h1, p, g, fd, ps, h2, h3, h4.mono hk⟩
def DfP (K : Fg) (c f qual : Str) (st : Stmt) (ps : List Str) : Prop := ∀ C, PySem.W.nsIn K mainGlobals c = some (some (.ref C)) → Cls K C ∧ ∃ (p g : Addr) (fd : FuncData), PropOf K C f p g ∧ Fun K f qual st g fd ∧ Binds K fd ps []
theorem DfP.mk {S : Cxt} {c m qual : Str} {st : Stmt} {N ps : List Str} {g : Env → Fl} {k : Nat} (d : DfP S.K c m qual st ps) (sc : FnScope N ps (defScope st)) (h : ∀ (A : Act) (W : Wish), JSs ⟨S.P, S.w, S.K, S.mg, S.base, N, defScope st, k, A, W, false, S.gq⟩ (defBody st) g) :
    PX S (k + 1) m c (bodyF ps.length N.length g) := fun C hC => by
  obtain ⟨h1, p, gg, fd, h2, Fu, bi⟩ := d C hC
  exact ⟨h1, p, gg, fd, ps, h2, bi, gn_of Fu sc h⟩
section
variable {S : Cxt} {σ : L2.St} {H1 : Hp} {O1 : OS} {T : List Addr} {env1 : Env} {avs : List AV} {vs : List V} {Q : VK} {F : List SV → Res SV}
end
section
variable {S : Cxt} {e : Expr} {pos px pf p1 p2 ap cp : Pos} {x f : Str} {k i : Nat} {cs : List Str}
/-! ### o.f.append(e), o.f.pop() -/
end
/-! ### i << j -/
section
variable {S : Cxt} {e1 e2 : Expr} {p q : Env → Option D} {fa fb : Env → Res D} {pos : Pos}
end
end ML
/-! ML78: plain readings of properties, o.f.append(e), o.f.pop(). -/
namespace ML
open PySem L2
section
variable {α τ ρ : Type} {Φ : τ → Fl → Prop} {r : Po τ} {env : Env} {i : Nat} {t : Option Nat} {s : Ins} {cs : List Str} {f m : Str}
end
end ML
/-! ML79: plain readings of defs that only read a list of the caller's. -/
namespace ML
open PySem L2
section
variable {τ ρ γ : Type} {Φ : τ → Fl → Prop} {env : Env} {i j m : Nat} {t t2 : Option Nat}
end
end ML
/-! ML80: enumerate over a tuple. -/
namespace ML
open PySem PySem.Spec PyProof.Rows L2
section
variable {prog : Program} {w : World} {A : Around} {E : Value → Shared → Prop} {s : Shared}
end
section
variable {K : Fg} {H : Hp} {O : OS}
end
section
variable {S : Cxt} {e : Expr} {p : Env → Option D} {pp pos tpos : Pos} {elts : List Expr} {kk : Nat}
end
section
variable {α : Type} {env : Env} {p : Env → Option D}
end
end ML
/-! ML81: x.split(y), int(text), isinstance of an exception at a class of the language. -/
namespace ML
open PySem PySem.Spec PyProof.Rows L2
section
variable {S : Cxt} {e1 e2 : Expr} {p q : Env → Option D} {apos pos : Pos}
end
/-! ### int(text) -/
section
variable {S : Cxt} {e : Expr} {qs : Env → Option (List D)} {pp pos : Pos}
end
/-! ### isinstance(error, ValueError) -/
def rIsXb (K : Fg) : List V → Hp → VK → Prop := fun xs H Q => ∃ (v : V) (c : Str) (n : String) (b : Bool), xs = [v, .ty n] ∧ XAt K H v c ∧ (∀ C, PySem.W.nsIn K mainGlobals c = some (some (.ref C)) → ExcC K C ∧ PySem.W.kitOne K (.ref C) (.type n) = some b) ∧ Q (.bl b) H
theorem call_isXb {X : Cx} : CallR X (.builtin "isinstance") (rIsXb X.K) := by
  intro pins s σ H xs us Q I r h
  obtain ⟨v, c, n, b, rfl, xa, hc, q⟩ := h
  obtain ⟨u1, u2, rfl, r1, r2⟩ := vals2 r
  cases (show u2 = Value.type n from r2)
  obtain ⟨C, e1, k⟩ := kit_exn I r1 xa
  obtain ⟨E, e2⟩ := hc C e1
  obtain ⟨P, Z, p, hx⟩ := k E
  exact PySem.W.kia_one Z I.kIn p e2 hx fun tk => ⟨.bl b, H, I.tok tk, rfl, q⟩
def XIsB (K : Fg) (n : String) (tb : List (Str × Bool)) : Prop := ∀ c b, xlook c tb = some b → ∀ C, PySem.W.nsIn K mainGlobals c = some (some (.ref C)) → ExcC K C ∧ PySem.W.kitOne K (.ref C) (.type n) = some b
theorem xisb_mk {K : Fg} {n : String} {tb : List (Str × Bool)} (t : XTab K (fun C b => ExcC K C ∧ PySem.W.kitOne K (.ref C) (.type n) = some b) tb) : XIsB K n tb := t.at
section
variable {S : Cxt} {e : Expr} {p : Env → Option D} {pp px pos : Pos} {x : Str} {n : String} {tb : List (Str × Bool)}
theorem jp_isXb (hg : Gn S "isinstance") (hm : S.mg "isinstance" = none) (gT : Gn S x) (mT : S.mg x = none) (bT : bootBuiltins x = some (.type n)) (hT : XIsB S.K n tb) (ha : JB S e p) (hxn : x ≠ "__name__" := by decide) (hxd : (x == ("__debug__" : Str)) = false := by decide)
    (hs : ∀ env, starEach [e, .Name x px] env = [(false, eval e env), (false, eval (.Name x px) env)] := by intro _; rfl) : JP S (.Call (.Name "isinstance" pp) [e, .Name x px] [] pos) (xIsX tb p) := by
  obtain ⟨u, h1, h2⟩ := ha
  refine ⟨tCB (rIsXb S.K) (tCons u (tCons (tC (.ty n)) tNil)), fun X o => ?_, fun σ H O env T d Q s e k => ?_⟩
  · have z := call_isXb (X := X)
    rw [o.K] at z
    exact pe_callB z (gl_of o hg) (by rw [o.mg]; exact hm) (by decide +kernel) (pa_cons (h1 X o) (pa_cons (pe_bltn (gl_of o gT) (by rw [o.mg]; exact mT) bT rfl hxn hxd) pa_nil) (by rw [hs]; rfl)) (by decide) (by decide) (by rw [hs]; rfl) (by rfl)
  · obtain ⟨d', e1, e2⟩ := Option.bind_eq_some_iff.mp e
    obtain ⟨c, e3, e4⟩ := Option.bind_eq_some_iff.mp e2
    obtain ⟨b, e5, e6⟩ := Option.map_eq_some_iff.mp e4
    subst e6
    refine h2 σ H O env T d' _ s e1 fun v H1 g1 r1 => ?_
    exact ⟨v, c, n, b, rfl, r1.xat e3, hT c b e5, k _ H1 g1 (.bl b)⟩
end
section
variable {α : Type} {env : Env} {p q : Env → Option D}
end
end ML
/-! ML82: a text so many times, told but not reckoned. -/
namespace ML
open PySem L2
@[irreducible] def dMulZ (a b : D) : Option D := dMulX a b
section
variable {S : Cxt} {e1 e2 : Expr} {p q : Env → Option D} {fa fb : Env → Res D} {pos : Pos}
end
end ML
/-! ML83: read off a class: constants, static methods, class methods; cls(..); properties of what is reckoned. -/
namespace ML
open PySem PyProof.Rows L2
abbrev metaT : Value := .type "type"
/-! ### C.f, a number -/
section
variable {S : Cxt} {e : Expr} {es : List Expr} {pos pp apos : Pos} {c f m : Str} {i : Int} {k : Nat}
/-! ### C.m(e, ..), m static -/
def SmX (S : Cxt) (k : Nat) (c m : Str) (F : List SV → Res SV) : Prop := ∃ (C p g : Addr) (fd : FuncData) (ps : List Str) (rest : List Value), S.mg c = some (.ref C) ∧ ClX.CRead S.K C metaT ∧
  PySem.W.findCls S.K (.ref C) metaT m = some (.get (.builtin "staticmethod.__get__") (.ref p) .none (.ref C)) ∧ PySem.W.recIn S.K p "staticmethod" = some (.ref g :: rest) ∧ PySem.W.keepIn S.K (.ref g) = true ∧
  Binds S.K fd ps [] ∧ FnG S.P S.w S.K S.mg S.base S.gq k g fd ps (spF S.K S.mg F)
/-! ### cls(e, ..), in a class method -/
/-! ### C.m(e, ..), m a class method -/
def resV : Res SV → Res SV
  | .ok _ r => .ok [] r
  | .err _ x => .err [] x
  | .bad => .bad
/-- F: what the def does, the class's own slot left out -/
def CmX (S : Cxt) (k : Nat) (c m : Str) (F : List SV → Res SV) : Prop := ∃ (C p g : Addr) (fd : FuncData) (ps : List Str) (rest : List Value) (FC : List SV → Res SV), S.mg c = some (.ref C) ∧ ClX.CRead S.K C metaT ∧
  PySem.W.findCls S.K (.ref C) metaT m = some (.get (.builtin "classmethod.__get__") (.ref p) .none (.ref C)) ∧ PySem.W.recIn S.K p "classmethod" = some (.ref g :: rest) ∧ PySem.W.fnIn S.K g = true ∧
  Binds S.K fd ps [] ∧ FnG S.P S.w S.K S.mg S.base S.gq k g fd ps (spF S.K S.mg FC) ∧ ∀ ds : List D, resV (FC (.raw (.ref C) :: ds.map .dat)) = resV (F (.un :: ds.map .dat))
end
end ML
/-! ML84: static and class methods as the top has laid them; properties of what is reckoned; readings. -/
namespace ML
open PySem PyProof.Rows L2
def DfSm (K : Fg) (mg : Str → Option Value) (c m qual : Str) (st : Stmt) (ps : List Str) : Prop := ∃ (C p g : Addr) (fd : FuncData) (rest : List Value), mg c = some (.ref C) ∧ ClX.CRead K C metaT ∧
  PySem.W.findCls K (.ref C) metaT m = some (.get (.builtin "staticmethod.__get__") (.ref p) .none (.ref C)) ∧ PySem.W.recIn K p "staticmethod" = some (.ref g :: rest) ∧ PySem.W.keepIn K (.ref g) = true ∧
  Fun K m qual st g fd ∧ Binds K fd ps []
theorem DfSm.mk {S : Cxt} {c m qual : Str} {st : Stmt} {N ps : List Str} {g : Env → Fl} {k : Nat} (d : DfSm S.K S.mg c m qual st ps) (sc : FnScope N ps (defScope st)) (h : ∀ (A : Act) (W : Wish), JSs ⟨S.P, S.w, S.K, S.mg, S.base, N, defScope st, k, A, W, false, S.gq⟩ (defBody st) g) :
    SmX S (k + 1) c m (bodyF ps.length N.length g) := by
  obtain ⟨C, p, gg, fd, rest, h1, h2, h3, h4, h5, Fu, bi⟩ := d
  exact ⟨C, p, gg, fd, ps, rest, h1, h2, h3, h4, h5, bi, gn_of Fu sc h⟩
def DfCm (K : Fg) (mg : Str → Option Value) (c m qual : Str) (st : Stmt) (ps : List Str) : Prop := ∃ (C p g : Addr) (fd : FuncData) (rest : List Value), PySem.W.nsIn K mainGlobals c = some (some (.ref C)) ∧ mg c = some (.ref C) ∧ ClX.CRead K C metaT ∧
  PySem.W.findCls K (.ref C) metaT m = some (.get (.builtin "classmethod.__get__") (.ref p) .none (.ref C)) ∧ PySem.W.recIn K p "classmethod" = some (.ref g :: rest) ∧ PySem.W.fnIn K g = true ∧
  Fun K m qual st g fd ∧ Binds K fd ps []
theorem DfCm.mk {S : Cxt} {c m qual : Str} {st : Stmt} {N ps : List Str} {gC : Addr → Env → Fl} {F : List SV → Res SV} {k : Nat} (d : DfCm S.K S.mg c m qual st ps) (sc : FnScope N ps (defScope st))
    (h : ∀ C, PySem.W.nsIn S.K mainGlobals c = some (some (.ref C)) → ∀ (A : Act) (W : Wish), JSs ⟨S.P, S.w, S.K, S.mg, S.base, N, defScope st, k, A, W, false, S.gq⟩ (defBody st) (gC C))
    (rel : ∀ (C : Addr) (ds : List D), resV (bodyF ps.length N.length (gC C) (.raw (.ref C) :: ds.map .dat)) = resV (F (.un :: ds.map .dat))) : CmX S (k + 1) c m F := by
  obtain ⟨C, p, gg, fd, rest, h0, h1, h2, h3, h4, h5, Fu, bi⟩ := d
  exact ⟨C, p, gg, fd, ps, rest, _, h1, h2, h3, h4, h5, bi, gn_of Fu sc (h C h0), rel C⟩
/-! ### e.f, e reckoned, f a property -/
section
variable {S : Cxt} {e : Expr} {pos : Pos} {f : Str} {k : Nat} {fa : Env → Res SV}
end
/-! ### readings -/
def TI (v : Ins) (_ : Env) (sv : SV) : Prop := sv = .own none (.ins v.1 v.2)
section
variable {τ : Type} {Φ : τ → Fl → Prop} {r : Po τ} {env : Env} {s : Ins} {cs : List Str}
end
end ML
/-! ML85: C(), the one parameter by its default, an empty tuple. -/
namespace ML
open PySem PyProof.Rows L2
/-- the default stands for an empty tuple -/
def EmpT (K : Fg) (dv : Value) : Prop := ∃ (t : Addr) (o : Obj) (n : Nat), dv = .ref t ∧ K.lookup t = some o ∧ o.cls = .type "tuple" ∧ o.data = .seq #[] n
theorem EmpT.rd {K : Fg} {dv : Value} (h : EmpT K dv) : ∃ t, dv = .ref t ∧ ∀ (H : Hp) (O : OS), RD K H O (.ref t) (.tuple []) := by
  obtain ⟨t, o, n, e, h1, h2, h3⟩ := h
  exact ⟨t, e, fun H O => .tup (.inr (.inr ⟨o, #[], n, h1, h2, h3, by simp, .nil⟩)) .nil⟩
def DfK0 (K : Fg) (mg : Str → Option Value) (c qual : Str) (st : Stmt) (ps : List Str) : Prop := ∃ (C f : Addr) (fd : FuncData) (dv : Value), PySem.W.nsIn K mainGlobals c = some (some (.ref C)) ∧ mg c = some (.ref C) ∧ Mk K C f ∧ FunV K "__init__" qual st f fd ∧ Binds K fd ps [dv] ∧ EmpT K dv
def KX0 (S : Cxt) (k : Nat) (c : Str) (F : List SV → Res SV) : Prop := ∃ (C f : Addr) (fd : FuncData) (ps : List Str) (dv : Value), PySem.W.nsIn S.K mainGlobals c = some (some (.ref C)) ∧ S.mg c = some (.ref C) ∧ Mk S.K C f ∧ Binds S.K fd ps [dv] ∧ EmpT S.K dv ∧ FnG S.P S.w S.K S.mg S.base S.gq k f fd ps (spF S.K S.mg F)
theorem DfK0.mk {S : Cxt} {c qual : Str} {st : Stmt} {N ps : List Str} {g : Env → Fl} {k : Nat} (d : DfK0 S.K S.mg c qual st ps) (sc : FnScope N ps (defScope st)) (h : ∀ (A : Act) (W : Wish), JSs ⟨S.P, S.w, S.K, S.mg, S.base, N, defScope st, k, A, W, false, S.gq⟩ (defBody st) g) :
    KX0 S (k + 1) c (bodyF ps.length N.length g) := by
  obtain ⟨C, f, fd, dv, h1, h2, M, Fu, bi, em⟩ := d
  exact ⟨C, f, fd, ps, dv, h1, h2, M, bi, em, gn_ofV Fu sc h⟩
section
variable {S : Cxt} {pos pp : Pos} {c : Str} {F : List SV → Res SV} {k : Nat}
end
section
variable {τ : Type} {Φ : τ → Fl → Prop} {r : Po τ} {env : Env}
end
end ML
/-! ML86: enumerate over a text. -/
namespace ML
open PySem PySem.Spec PyProof.Rows L2
section
variable {prog : Program} {w : World} {A : Around} {E : Value → Shared → Prop} {s : Shared}
end
section
variable {K : Fg} {H : Hp} {O : OS}
end
section
variable {S : Cxt} {e : Expr} {p : Env → Option D} {pp pos tpos : Pos} {elts : List Expr} {kk : Nat}
end
section
variable {α : Type} {env : Env} {p : Env → Option D}
end
end ML
/-! ML87: zip of lists and tuples in any mix. -/
namespace ML
open PySem PySem.Spec PyProof.Rows L2
/-- a list (false) or a tuple (true) at l -/
def SqB (K : PySem.W.Frag) (H : Hp) (b : Bool) (l : Addr) (xs : List V) : Prop := match b with
  | false => SqL K H l xs
  | true => SqT K H l xs
def IsItB (h : Heap) (b : Bool) (it l : Addr) (i : Nat) : Prop := match b with
  | false => h.IsListIter it l i
  | true => h.IsTupleIter it l i
theorem IsItB.at {h h' : Heap} {b : Bool} {it l : Addr} {i : Nat} (x : IsItB h b it l i) (e : ∀ o, h.get? it = some o → h'.get? it = some o) : IsItB h' b it l i := by
  cases b with
  | false => exact Heap.IsListIter.at x e
  | true => exact Heap.IsTupleIter.at x e
/-! as data -/
/-- a list or a tuple that stands for data -/
def StB (K : Fg) (H : Hp) (O : OS) (b : Bool) (a : Addr) (vs : List V) : Prop := match b with
  | false => ¬ O a ∧ H a = some (.lst vs)
  | true => XT K H O a vs
theorem StB.sq {K : Fg} {H : Hp} {O : OS} {b : Bool} {a : Addr} {vs : List V} (h : StB K H O b a vs) : SqB K H b a vs := by
  cases b with
  | false => exact SqL.of h.2
  | true => exact XT.sq h
theorem StB.sta {K : Fg} {H H' : Hp} {O O' : OS} {b : Bool} {a : Addr} {vs : List V} (h : StB K H O b a vs) (s : Sta H O H' O') : SqB K H' b a vs := by
  cases b with
  | false => exact SqL.of (s a _ h.2 h.1).1
  | true => exact (XT.sta s h).sq
section
variable {S : Cxt} {e1 e2 : Expr} {pp pos tpos : Pos} {elts : List Expr} {kk : Nat}
end
section
variable {α : Type} {env : Env} {q : Env → Option (List D)}
end
end ML
/-! ML88: a def whose try returns a word beside what the call comes to. -/
namespace ML
open PySem PyProof.Rows L2
end ML
/-! ML89: the slots written out anew. -/
namespace ML
open PySem L2
section
variable {τ : Type} {Φ : τ → Fl → Prop} {r : Po τ} {env : Env} {k : Env → Fl}
theorem s_putN {i : Nat} {sv : SV} {e' : Env} (h : Nat.blt i env.length = true) (e : env.set i sv = e') (hk : SimK Φ r (k e')) : SimK Φ r ((if i < env.length then Fl.nx (env.set i sv) else .bad).then k) := by
  subst e
  exact s_put h hk
theorem s_put2N {i j : Nat} {a b : SV} {e' : Env} (h : Nat.blt i env.length = true) (h2 : Nat.blt j env.length = true) (e : (env.set j b).set i a = e') (hk : SimK Φ r (k e')) : SimK Φ r ((if i < env.length ∧ j < env.length then Fl.nx ((env.set j b).set i a) else .bad).then k) := by
  subst e
  exact s_put2 h h2 hk
end
end ML
/-! ML90: methods and properties of an instance that an instance holds (o.f.m(e, ..), o.f.p). -/
namespace ML
open PySem PySem.Spec PyProof.Rows L2
section
variable {S : Cxt} {σ : L2.St} {H1 : Hp} {O1 : OS} {T : List Addr} {env1 : Env} {Q : VK} {F : List SV → Res SV}
end

section
variable {S : Cxt} {X : Cx} {e : Expr} {es : List Expr} {pos apos px fpos : Pos} {x m f : Str} {cs : List Str} {k : Nat} {i : Nat}
end
/-! ### o.f.p, p a property -/
section
variable {S : Cxt} {e : Expr} {pos px fpos : Pos} {x f pn : Str} {k i : Nat} {cs : List Str}
end
end ML
/-! ML91: a, *b = e; match of a word and a list. -/
namespace ML
open PySem PySem.Spec PySem.Calls PyProof.Rows L2
end ML
/-! ML92: match (a, b): case ("x", [c, d]): .. case _: .. -/
namespace ML
open PySem PySem.Spec PySem.Calls PyProof.Rows L2
/-- patterns that each bind a name -/
inductive CapP : List Pattern → List Str → Prop
  | nil : CapP [] []
  | cons {n : Str} {q : Pos} {ps : List Pattern} {ns : List Str} : CapP ps ns → CapP (.MatchAs none (some n) q :: ps) (n :: ns)
theorem CapP.len : ∀ {ps : List Pattern} {ns : List Str}, CapP ps ns → ps.length = ns.length
  | _, _, .nil => rfl
  | _, _, .cons h => by rw [List.length_cons, List.length_cons, h.len]
theorem CapP.star : ∀ {ps : List Pattern} {ns : List Str}, CapP ps ns → ps.findIdx? (·.isStar) = none
  | _, _, .nil => rfl
  | _, _, .cons h => by
    rw [List.findIdx?_cons]
    rw [show (Pattern.isStar (.MatchAs none (some _) _)) = false from rfl]
    simp [h.star]
section
variable {M : Model} {A : Around} {E : Value → Shared → Prop} {s : Shared} {env : PySem.Env}
end
section
variable {prog : Program} {w : World} {A : Around} {E : Value → Shared → Prop} {s : Shared} {env : PySem.Env}
end
/-- the slots of some names -/
inductive NS (N : List Str) (sc : Scope) : List Str → List Nat → Prop
  | nil : NS N sc [] []
  | cons {n : Str} {i : Nat} {ns : List Str} {is : List Nat} : N[i]? = some n → sc.names.lookup n = some .local → NS N sc ns is → NS N sc (n :: ns) (i :: is)
theorem NS.len {N : List Str} {sc : Scope} : ∀ {ns : List Str} {is : List Nat}, NS N sc ns is → ns.length = is.length
  | _, _, .nil => rfl
  | _, _, .cons _ _ h => by rw [List.length_cons, List.length_cons, h.len]
section
variable {X : Cx} {pins : List (Addr × Obj)} {E : Value → Shared → Prop}
/-- the cases -/
inductive CasesP (X : Cx) : List MatchCase → List (Str × List Nat × TS) → TS → Prop
  | last {q : Pos} {body : List Stmt} {t : TS} : PSs X body t → CasesP X [⟨.MatchAs none none q, none, body⟩] [] t
  | cons {lit : Str} {k : Nat} {p0 p1 p2 p3 : Pos} {ps : List Pattern} {body : List Stmt} {rest : List MatchCase} {ns : List Str} {is : List Nat} {t d : TS} {r : List (Str × List Nat × TS)} :
      CapP ps ns → NS X.N X.env.scope ns is → PSs X body t → CasesP X rest r d → CasesP X (⟨.MatchSequence [.MatchValue (.Constant (.str lit) k p0) p1, .MatchSequence ps p2] p3, none, body⟩ :: rest) ((lit, is, t) :: r) d
end
/-! the mirror -/
inductive JCases (S : Cxt) : List MatchCase → List (Str × List Nat × (Env → Fl)) → (Env → Fl) → Prop
  | last {q : Pos} {body : List Stmt} {g : Env → Fl} : JSs S body g → JCases S [⟨.MatchAs none none q, none, body⟩] [] g
  | cons {lit : Str} {k : Nat} {p0 p1 p2 p3 : Pos} {ps : List Pattern} {body : List Stmt} {rest : List MatchCase} {ns : List Str} {is : List Nat} {g d : Env → Fl} {r : List (Str × List Nat × (Env → Fl))} :
      CapP ps ns → NS S.N S.sc ns is → JSs S body g → JCases S rest r d → JCases S (⟨.MatchSequence [.MatchValue (.Constant (.str lit) k p0) p1, .MatchSequence ps p2] p3, none, body⟩ :: rest) ((lit, is, g) :: r) d
section
variable {S : Cxt}
end
end ML
/-! ML93: FORMS.get(x, y), FORMS a dict of the module with texts as keys. -/
namespace ML
open PySem PySem.Spec PySem.Calls PyProof.Rows L2
inductive EntsK (K : Fg) (P : Params) : List DictEntry → List (Str × D) → Prop
  | nil : EntsK K P [] []
  | cons {e : DictEntry} {es : List DictEntry} {z : Str} {t : Tok} {d : D} {v : V} {tb : List (Str × D)} : e.key = .str z t → e.hash = PyData.keyHash P z → RelV v e.val → (∀ (H : Hp) (O : OS), RD K H O v d) → EntsK K P es tb → EntsK K P (e :: es) ((z, d) :: tb)
theorem EntsK.lit {K : Fg} {P : Params} : ∀ {es : List DictEntry} {tb : List (Str × D)}, EntsK K P es tb → PySem.W.KeysLit P es
  | _, _, .nil => trivial
  | _, _, .cons h1 h2 _ _ h => ⟨⟨_, _, h1, h2⟩, h.lit⟩
/-- what the top has laid of a dict of the module -/
structure GDct (K : Fg) (w : World) (mg : Str → Option Value) (x : Str) (tb : List (Str × D)) : Prop where
  ex : ∃ (P : Addr) (es : Array DictEntry) (n : Nat), mg x = some (.ref P) ∧ K.lookup P = some ⟨.type "dict", none, .dict es n, #[]⟩ ∧ (P == sysModules) = false ∧ EntsK K w.params es.toList tb
section
variable {S : Cxt} {x : Str} {px apos cpos : Pos} {e f : Expr} {p q : Env → Option D}
end
end ML
/-! ML94: o.f[i] = e, the attribute a list. -/
namespace ML
open PySem PySem.Spec PySem.Calls PyProof.Rows L2
section
variable {S : Cxt} {e : Expr} {pos px pf p2 : Pos} {x f : Str} {cs : List Str}
end
end ML
/-! ML95: plain readings of ML90 to ML94: an instance held by an instance, o.f[i] = e, a, *b = e, match, get of a module's dict. -/
namespace ML
open PySem L2
/-! the mirror of match, written by its cases -/
section
variable {α τ ρ : Type} {Φ : τ → Fl → Prop} {r : Po τ} {env : Env} {i : Nat} {t : Option Nat} {s : Ins} {cs tcs : List Str} {f m : Str}
/-! o.f[i] = e -/
/-! o.f = an instance -/
/-! a, *b = e -/
/-! match -/
/-! get of a module's dict -/
end
end ML
/-! ML96: e.replace(A, B) with texts of the module; y = {k: f, ..}[w], return str(y(e, ..)). -/
namespace ML
open PySem PySem.Spec PySem.Calls PyProof.Rows L2
/-! ### e.replace(A, B) -/
section
variable {S : Cxt} {o : Expr} {p : Env → Option D} {x y a b : Str} {p1 p2 apos pos : Pos}
end
/-! ### functions held by a dict display -/
/-- by the key: the def's name, what it does -/
abbrev FTab := List (Str × Str × (List SV → Res SV))
inductive AskKV : List (Option Expr) → List Expr → FTab → Prop
  | nil : AskKV [] [] []
  | cons {z x : Str} {F : List SV → Res SV} {j : Nat} {p1 p2 : Pos} {ks : List (Option Expr)} {vs : List Expr} {tb : FTab} : AskKV ks vs tb → AskKV (some (.Constant (.str z) j p1) :: ks) (.Name x p2 :: vs) ((z, x, F) :: tb)
/-- what stands of the defs -/
inductive AskA (S : Cxt) (k : Nat) : FTab → List Addr → Prop
  | nil : AskA S k [] []
  | cons {z x : Str} {F : List SV → Res SV} {tb : FTab} {f : Addr} {fd : FuncData} {ps : List Str} {As : List Addr} : FnG S.P S.w S.K S.mg S.base S.gq k f fd ps (spF S.K S.mg F) → S.mg x = some (.ref f) → PySem.W.keepIn S.K (.ref f) = true → Binds S.K fd ps [] → Gn S x → (x == ("__debug__" : Str)) = false → AskA S k tb As → AskA S k ((z, x, F) :: tb) (f :: As)
section
variable {S : Cxt} {X : Cx} {y : Str} {i iw k : Nat} {e : Expr} {es : List Expr} {pp pos : Pos} {t : TA}
end
end ML
/-! ML97: data of the module's dicts; readings of ML96; defs that return an instance. -/
namespace ML
open PySem L2
/-! ### y = {k: f, ..}[w]; return str(y(e, ..)) -/
section
variable {α τ ρ : Type} {Φ : τ → Fl → Prop} {env : Env}
/-! ### a def that returns an instance -/
end
/-! ### int(e), e a text, over effects -/
section
variable {S : Cxt} {e : Expr} {qs : Env → Res (List D)} {pp pos : Pos}
end
end ML
/-! ML98: raise C(), C without an __init__ of its own; list(f(a, e)) of a generator that may raise, e reckoned. -/
namespace ML
open PySem PySem.Spec PyProof.Rows L2
def veB : List Value := [.type "ValueError", .type "Exception", .type "BaseException", .type "object"]
structure XCls0 (K : Fg) (mg : Str → Option Value) (c : Str) : Prop where
  ex : ∃ (C : Addr), PySem.W.nsIn K mainGlobals c = some (some (.ref C)) ∧ mg c = some (.ref C) ∧ PySem.W.excIn K C veB "ValueError.__new__" = true ∧ PySem.W.keepIn K (.ref C) = true ∧ PySem.W.typeIn K (.ref C) = some (.type "type") ∧ XfC K C ∧ ExcC K C
theorem XCls0.exc {K : Fg} {mg : Str → Option Value} {c : Str} (t : XCls0 K mg c) {C : Addr} (e : PySem.W.nsIn K mainGlobals c = some (some (.ref C))) : ExcC K C ∧ XfC K C := by
  obtain ⟨C', t1, t2, t3, t4, t5, t6, t7⟩ := t.ex
  rw [t1] at e
  cases e
  exact ⟨t7, t6⟩
theorem xcls0_mk {K : Fg} {mg : Str → Option Value} {h : Heap} {x : Str} {C : Addr} (X : K.In h) (G : h.Ns mainGlobals mg) (aC : PySem.W.nsIn K mainGlobals x = some (some (.ref C))) (q : PySem.W.excIn K C veB "ValueError.__new__" = true)
    (ga : PySem.W.findIn K (.ref C) "__getattribute__" = some (some (.builtin "BaseException.__getattribute__"))) (gg : PySem.W.findIn K (.ref C) "__getattr__" = some none)
    (eC : PySem.W.subIn K (.ref C) (.type "BaseException") = some true) (tC : PySem.W.typeIn K (.ref C) = some (.type "type")) (kC : PySem.W.keepIn K (.ref C) = true) (hC : PySem.W.hasDictIn K C = true)
    (ca : PySem.W.findIn K (.ref C) "__class__" = some (some (.builtin "object.__class__"))) (cn : PySem.W.specialIn K (.builtin "object.__class__") "__get__" = some (some (.builtin "getset_descriptor.__get__"))) (ct' : PySem.W.takesIn K (.builtin "object.__class__") = some true) (cm : PySem.W.mroIn K C (.type "object") = some true) : XCls0 K mg x :=
  ⟨C, aC, PySem.W.mg_of X G aC, q, kC, tC, ⟨ga, gg, eC, hC⟩, ⟨ga, gg, eC, hC, ca, cn, ct', cm⟩⟩
section
variable {X : Cx} {C : Addr}
theorem pmk_own0 {x : Str} {p pos : Pos} (q : PySem.W.excIn X.K C veB "ValueError.__new__" = true) (gC : X.mg x = some (.ref C)) (kC : PySem.W.keepIn X.K (.ref C) = true) (r : Raises X (.ref C)) (hg : Gl X x)
    (hdb : (x == ("__debug__" : Str)) = false := by decide) : PMk X (.Call (.Name x p) [] [] pos) (fun _ H Q => Q (.ref C) none H) := by
  intro pins s σ H Q I h
  refine wpAny_Call_Name_kw (ld_glob I hg gC ?_ hdb)
  refine PySem.W.callWith_K0 (first := []) I.kIn kC ?_
  show wpAny _ _ (call (.ref C) []) _ _ _
  obtain ⟨bm, N, nm, qn, bs, hdct, sn, sub, ab, col, dd, k0, k1, k2, k3, k5, mN, hC, hN, hni, T⟩ := exc_obj I.kIn q
  refine wpAny_call_exc_subT PySem.F.excBase_ValueError T hC hN hni (fun h' e hm => ?_) (Nat.zero_le _)
  exact mk_of I hm r h (I.hok.gone hm.new)
end
section
variable {S : Cxt} {c : Str} {p pos pos2 : Pos}
end
end ML
/-! ML99: {k: e} as data. -/
namespace ML
open PySem PyProof.Rows L2
section
variable {S : Cxt} {e ek : Expr} {p : Env → Option D} {pos p1 : Pos}
end
section
variable {α : Type} {env : Env} {k : Key} {p : Env → Option D}
end
end ML
/-! ML100: exceptions as values: C(e), C(x=e) of the program's classes of exceptions. -/
namespace PySem
namespace HandSPX
open Builtin Builtin.ObjectAttr
section
variable {M : Model} {prog : Program} {w : World} {A : Around} {E : Value → Shared → Prop} {R : Result → Shared → Prop} {hp : Heap} {g : Array GenState} {d : Drawn} {t : Nat} {os : OsState}
variable {nm q : Str} {C N : Addr} {bs bm bmB : List Value} {hdct : Bool} {sn : List Str} {sub : List Value} {ab : Bool} {col : Option Bool} {dd : Option Addr} {k0 k1 k2 k3 k5 : Option Value} {B newId initId : String}
theorem kwx_check (Fb : ExcBaseFacts B newId initId bmB) (tys : ∀ X : String, bm.contains (.type X) = bmB.contains (.type X)) {kw : List (Str × Value)} {Q : Unit → Shared → Prop}
    (cl0 : hp.get? C = some (excClassObj nm q C N bs bm hdct sn sub ab col dd k0 k1 k2 k3 k5 newId)) (fin : Q () ⟨hp, g, d, t, os⟩) : wpAny M A (checkBuiltinCall newId ⟨[.ref C], kw⟩) Q E ⟨hp, g, d, t, os⟩ := by
  have cB0 : (Value.ref C :: bm).contains (.type B) = true := by rw [List.contains_cons, tys, Fb.hasB, Bool.or_true]
  have st0 := Fb.noStar
  simp only [checkBuiltinCall, Fb.newKind, Fb.newSplit, Fb.newRow]
  repeat (first | refine wpAny_loadPart_at cl0 ?_ | (refine wpAny_isSubtype_exc cl0 ?_; rw [cB0]) | refine wpAny_staticBase_exc cl0 ?_ | refine wpAny_madeBy_exc cl0 ?_ | simp only [bne_self_eq_false, Bool.false_eq_true, if_false] | wp_step)
  exact fin
theorem kwx_new (Fb : ExcBaseFacts B newId initId bmB) (tys : ∀ X : String, bm.contains (.type X) = bmB.contains (.type X)) {kw : List (Str × Value)}
    (cl0 : hp.get? C = some (excClassObj nm q C N bs bm hdct sn sub ab col dd k0 k1 k2 k3 k5 newId))
    (fin : R (.ok (.ret (.ref (hp.objs.size + 1)))) ⟨(hp.push { cls := .type "tuple", data := .seq #[] }).push
      { cls := .ref C, data := .fields #[.ref hp.objs.size, .none, .none, .none, .bool false, .none] }, g, d, t, os⟩) :
    codeAny (model prog w) A (.builtin newId ⟨[.ref C], kw⟩) R ⟨hp, g, d, t, os⟩ := by
  have en0 := Fb.ends
  have cB1 : (Value.ref C :: bm).contains (.type B) = true := by rw [List.contains_cons, tys, Fb.hasB, Bool.or_true]
  have cA1 : (Value.ref C :: bm).contains (.type "AttributeError") = false := by rw [List.contains_cons, tys, Fb.noAttr]; rfl
  have cN1 : (Value.ref C :: bm).contains (.type "NameError") = false := by rw [List.contains_cons, tys, Fb.noName]; rfl
  refine codeAny_builtinAt Fb.entry ?_
  (unfold Builtin.«BaseException.__new__»; refine wpAt_bind ?_)
  (show wpAt _ _ _ (stack >>= _) _ _ _; refine wpAt_bind (wpAt_stack fun pl lower => wpAt_of_wpAny ?_))
  wp_walk
  (refine wpAt_of_wpAny ?_; rw [Fb.owner])
  repeat (first | with_reducible refine wpAny_madeHere_exc Fb.canon cl0 ?_ | with_reducible refine wpAny_loadPart_at cl0 ?_ | (with_reducible refine wpAny_isSubtype_exc cl0 ?_; first | rw [cB1] | rw [cA1] | rw [cN1]) | wp_step)
  (show R _ _; rw [Heap.size_push]; exact fin)

theorem kwx_type (Fb : ExcBaseFacts B newId initId bmB) (tys : ∀ X : String, bm.contains (.type X) = bmB.contains (.type X)) {kw : List (Str × Value)} {fI : Addr} {Q : Fin → Shared → Prop}
    (cl0 : hp.get? C = some (excClassObj nm q C N bs bm hdct sn sub ab col dd k0 k1 k2 k3 k5 newId))
    (ini : W.Looks (model prog w) hp (typeLookup (.ref C) "__init__") (some (.ref fI))) (bnd : ∀ self, W.Looks (model prog w) hp (bindSpecial (.ref fI) self) (.ref fI, [self]))
    (fin : codeAny (model prog w) A (.call (.ref fI) ⟨[.ref (hp.objs.size + 1)], kw⟩)
      (fun r s' => match r with | .ok (.ret v) => v = .none ∧ Q (.done (.ret (.ref (hp.objs.size + 1)))) s' | .ok _ => False | .error e => E e s')
      ⟨(hp.push (W.kdv_tup [])).push (excO C hp.objs.size), g, d, t, os⟩) :
    wpAny (model prog w) A (Builtin.«type.__call__» ⟨[.ref C], kw⟩) Q E ⟨hp, g, d, t, os⟩ := by
  repeat (first | with_reducible refine wpAny_loadPart_at cl0 ?_ | with_reducible refine wpAny_madeBy_exc cl0 ?_ | wp_step)
  refine codeAny_call_builtin_code (Code.quiet_builtin _ Fb.quiet) (kwx_check Fb tys cl0 ?_)
  refine kwx_new Fb tys cl0 ?_
  show wpAny _ _ _ _ _ _
  have k : ∀ b o, hp.get? b = some o → ((hp.push (W.kdv_tup [])).push (excO C hp.objs.size)).get? b = some o := fun b o ee => Heap.get?_push_of_some _ (Heap.get?_push_of_some _ ee)
  have cl1 := k _ _ cl0
  have oX : ((hp.push (W.kdv_tup [])).push (excO C hp.objs.size)).get? (hp.objs.size + 1) = some (excO C hp.objs.size) := by heap_get
  have cC1 : (Value.ref C :: bm).contains (.ref C) = true := by simp
  have i1 := ini.keeps k
  have b1 := (bnd (.ref (hp.objs.size + 1))).keeps k
  (unfold isInstance)
  repeat (first | with_reducible refine wpAny_loadPart_at oX ?_ | (with_reducible refine wpAny_isSubtype_exc cl1 ?_; rw [cC1]) | wp_step)
  (show wpAny _ _ (typeLookup (.ref C) _) _ _ _)
  refine i1.at ?_
  refine wpAny_holding (wpAny_bind ((b1).at ?_))
  refine wpAny_bind (wpAny_call (codeAny_mono fin fun r s2 z => ?_))
  rcases r with er | (v | _ | _ | _) <;> (first | exact z | exact z.elim | skip)
  (obtain ⟨rfl, z⟩ := z; first | exact wpAny_pure (wpAny_pure z) | (wp_walk; exact z))

theorem kwx_call (Fb : ExcBaseFacts B newId initId bmB) (tys : ∀ X : String, bm.contains (.type X) = bmB.contains (.type X)) {kw : List (Str × Value)} {fI : Addr}
    (cl0 : hp.get? C = some (excClassObj nm q C N bs bm hdct sn sub ab col dd k0 k1 k2 k3 k5 newId))
    (ini : W.Looks (model prog w) hp (typeLookup (.ref C) "__init__") (some (.ref fI))) (bnd : ∀ self, W.Looks (model prog w) hp (bindSpecial (.ref fI) self) (.ref fI, [self]))
    (fin : codeAny (model prog w) (A.under (.builtin "type.__call__" ⟨[.ref C], kw⟩)) (.call (.ref fI) ⟨[.ref (hp.objs.size + 1)], kw⟩) (W.InitBack (hp.objs.size + 1) R)
      ⟨(hp.push (W.kdv_tup [])).push (excO C hp.objs.size), g, d, t, os⟩) :
    codeAny (model prog w) A (.call (.ref C) ⟨[], kw⟩) R ⟨hp, g, d, t, os⟩ := by
  have f1 := tc_lookup
  have f2 := tc_bind (.ref C)
  have tY0 : (⟨hp, g, d, t, os⟩ : Shared).TypeIs (.ref C) "type" := ⟨_, cl0, rfl⟩
  refine codeAny_of_tree ?_; show wpAny _ _ (callAny (.ref C) _) _ _ _
  repeat (any_goals (first | assumption | with_reducible refine wpAny_loadPart_at cl0 ?_ | wp_step))
  refine ⟨rfl, ?_⟩
  refine codeAny_call_builtin_at (Code.quiet_builtin _ (by decide +kernel)) entry_typeCall (wpAny_check_type_call_sub cl0 (kwx_type Fb tys cl0 ini bnd ?_))
  refine codeAny_mono fin fun r s2 z => ?_
  rcases r with er | (v | _ | _ | _) <;> exact z

end
end HandSPX
end PySem
namespace ML
open PySem PySem.Spec PyProof.Rows L2
section
variable {X : Cx} {e : Expr}
/-- an exception that has been made is a value from here on -/
theorem pe_made {t : L2.St → Hp → XK → Prop} (hs : X.stack = X.env :: X.outer) (hf : X.env.frame = some X.env.locals) (hex : X.ex = []) (h : PMk X e t) :
    PE X e (fun σ H Q => t σ H fun cls d H' => ∃ C, cls = .ref C ∧ ∀ a, H' a = none → Q (.ref a) (upd H' a (exH a C d))) := by
  refine ⟨fun pins s σ H Q I q => thn (h pins s σ H _ I q) fun u s1 hu => ?_⟩
  obtain ⟨a, oe, vs, sI, H', cls, d, rfl, J, k, hne, ha, hz, hd, h1, na, os, ag, r, C, rfl, hq⟩ := hu
  have J1 : Inv X pins σ H' s1 := J.landed (B := sI.heap) (fun b o e _ => e) k (Heap.UpToSlots.of_keeps k) os ag
  have n0 : X.s_0.heap.get? a = none := by
    cases z : X.s_0.heap.get? a with
    | none => rfl
    | some o =>
      obtain ⟨o', y⟩ := J.base.there a o z (by rw [hex]; exact List.not_mem_nil)
      rw [hne] at y
      cases y
  have nL : a ≠ X.env.locals := fun z => by
    have hm : a ∈ frs X.stack := by
      rw [hs]
      exact List.mem_filterMap.mpr ⟨X.env, List.mem_cons_self, by rw [hf, z]⟩
    obtain ⟨_, o', e', _⟩ := J.stack.mem hm
    rw [hne] at e'
    cases e'
  have npp : ∀ p ∈ X.pn ++ pins, p.1 ≠ a := fun p hp z => by
    have y := (J.pin p hp).1
    rw [z, hne] at y
    cases y
  exact ⟨.ref a, upd H' a (exH a C d), adopt_exn J1 ha hz.1 hz.2 hd na nL n0 npp, rfl, hq a na⟩
theorem pmk_oexK {CX : CXT} {x : Str} {C fI : Addr} {k : Nat} {fd : FuncData} {ps ks : List Str} {perm : List Nat} {sp : Sp} {kws : List Keyword} {ta : TA} {p pos : Pos} (T : OexC X.K C) (iC : PySem.W.findIn X.K (.ref C) "__init__" = some (some (.ref fI)))
    (tI : PySem.W.typeIn X.K (.ref fI) = some (.type "function")) (F1 : FnOk X.prog X.w X.K X.mg X.base CX k fI fd ps sp) (hr : Room (k + 1) X.A)
    (hb : ∀ (s : Shared) (self : Value) (ws : List Value), ws.length = ks.length → BindsTo s fd ⟨[self], ks.zip ws⟩ (ps.zip (self :: pick perm ws))) (hx : Passes CX X (fun _ _ _ => False)) (hg : Gl X x) (hm : X.mg x = some (.ref C)) (hkw : PK X kws ta)
    (hall : (backToKw pos (keywordEach kws X.env)).all (·.1.isSome) = true) (hks : (backToKw pos (keywordEach kws X.env)).filterMap (·.1) = ks) (nd : (x == ("__debug__" : Str)) = false)
    (hpl : ((backTo pos (starEach [] X.env)).any (·.1) || (backToKw pos (keywordEach kws X.env)).any (·.1.isNone)) = false) :
    PMk X (.Call (.Name x p) [] kws pos) (fun σ H Q => ta σ H fun vs H1 => vs.length = ks.length ∧ ∀ a, H1 a = none → sp (.ref a :: pick perm vs) (upd H1 a (exo a C none))
      (fun v H2 => v = .non ∧ ∃ (d : Addr) (fs : List (Str × V)), H2 a = some (exo a C (some d)) ∧ H2 d = some (exd d fs) ∧ H1 d = none ∧ Q (.ref C) (some d) (upd (del H2 a) d (.xd fs))) (fun _ _ _ => False)) := by
  intro pins s σ H Q I hh
  obtain ⟨nm, q, N, bs, bm, sn, sub, ab, col, dd, k0, k1, k2, k3, k5, cl, hbm⟩ := T.cls
  refine wpAny_Call_Name_kw (ld_glob I hg hm ?_ nd)
  refine PySem.W.callWith_KW0 (h₀ := X.base) I.ok.mod.kin T.kC hall (thn (hkw.run pos pins s σ H _ I hh) fun ws s1 aa => ?_) hpl
  obtain ⟨vs, H1, I1, rv, hl, q1⟩ := aa
  refine ⟨I1.kIn, ?_⟩
  rw [hks]
  have hws : ws.length = ks.length := by rw [← rv.length]; exact hl
  obtain ⟨hp, g, dr, tk, os⟩ := s1
  have big : hp.objs.size ≤ hp.objs.size + 1 := Nat.le_succ _
  have free1 := q1 (hp.objs.size + 1) (I1.hok.fresh big)
  have kp : ∀ b o, hp.get? b = some o → ((hp.push (PySem.W.kdv_tup [])).push (PySem.HandSPX.excO C hp.objs.size)).get? b = some o := fun b o ee => Heap.get?_push_of_some _ (Heap.get?_push_of_some _ ee)
  have ob : ((hp.push (PySem.W.kdv_tup [])).push (PySem.HandSPX.excO C hp.objs.size)).get? (hp.objs.size + 1) = some (PySem.HandSPX.excO C hp.objs.size) := by heap_get
  have I2 : Inv X pins σ (upd H1 (hp.objs.size + 1) (exo (hp.objs.size + 1) C none)) ⟨(hp.push (PySem.W.kdv_tup [])).push (PySem.HandSPX.excO C hp.objs.size), g, dr, tk, os⟩ :=
    I1.laid (a := hp.objs.size + 1) (o := exo (hp.objs.size + 1) C none) kp big (exo_ok ob)
  have rv2 : Vals (V.ref (hp.objs.size + 1) :: pick perm vs) (Value.ref (hp.objs.size + 1) :: pick perm ws) := .cons rfl (pick_vals perm rv)
  refine wpAny_call (PySem.HandSPX.kwx_call F.excBase_ValueError (fun Y => PySem.HandSPX.refsVE_contains Y bm hbm) (I1.kIn _ _ cl) (PySem.W.looks_findIn I1.kIn iC) (fun self => PySem.W.bind_fn I1.kIn self tI)
    (codeAny_mono (F1.run _ X.stack _ _ ⟨[Value.ref (hp.objs.size + 1)], ks.zip ws⟩ (Value.ref (hp.objs.size + 1) :: pick perm ws) _ _ (fun _ _ _ => False) (hr.make C [] (ks.zip ws)) (I2.env0.make C [] (ks.zip ws)) (hb _ _ ws hws) rv2 free1) fun r s2 hq => ?_))
  cases r with
  | error er => exact hx pins σ _ _ er s2 I2 hq
  | ok fl =>
    cases fl with
    | ret u =>
      obtain ⟨v, H2, os2, bare2, un2, hok2, rw2, ev, d, fs, ea, ed, hd1, q2⟩ := hq
      subst ev
      obtain ⟨h2, g2, d2, t2, os'⟩ := s2
      exact ⟨rw2, mk_end (raises_own T.exC T.tyC) I1 big kp un2 hok2 os2 bare2 ea ed hd1 q2⟩
    | next => exact False.elim hq
    | brk => exact False.elim hq
    | cont => exact False.elim hq
end
def xExc (c : Str) (ns : List Str) (a : Env → Option (List D)) (env : Env) : Option D := (a env).bind fun ds => if ds.length = ns.length then some (Exn.toD ⟨c, (ns.zip ds).reverse⟩) else none
def xExcK (c : Str) (ns : List Str) (perm : List Nat) (a : Env → Option (List D)) (env : Env) : Option D := (a env).bind fun ds => if ds.length = ns.length then some (Exn.toD ⟨c, (ns.zip (pick perm ds)).reverse⟩) else none
section
variable {K : Fg} {mg : Str → Option Value} {c f g : Str} {C a : Addr} {H1 : Hp} {O : OS} {v u : V} {d0 d1 : D} {Kn : XK}
theorem x1_end (t1 : PySem.W.nsIn K mainGlobals c = some (some (.ref C))) (oc : Oc H1 O) (r0 : RD K H1 O v d0) (k : ∀ d H', Grow H1 H' → ExR K mg H' O ⟨c, [(f, d0)]⟩ (.ref C) d → Kn (.ref C) d H') (na : H1 a = none) :
    spI1 C f [.ref a, v] (upd H1 a (exo a C none)) (fun z H2 => z = .non ∧ ∃ (d : Addr) (fs : List (Str × V)), H2 a = some (exo a C (some d)) ∧ H2 d = some (exd d fs) ∧ H1 d = none ∧ Kn (.ref C) (some d) (upd (del H2 a) d (.xd fs))) (fun _ _ _ => False) := by
  refine ⟨a, v, rfl, upd_same, fun dx n ne => ⟨rfl, dx, [(f, v)], upd_same, ?_, ?_, ?_⟩⟩
  · rw [upd_ne ne, upd_same]
  · rw [upd_ne ne] at n; exact n
  · have n1 : H1 dx = none := by rw [upd_ne ne] at n; exact n
    have e1 : upd (del (upd (upd (upd H1 a (exo a C none)) dx (exd dx [(f, v)])) a (exo a C (some dx))) a) dx (.xd [(f, v)]) = upd H1 dx (.xd [(f, v)]) := by
      funext b
      by_cases eb : b = dx
      · subst eb; rw [upd_same, upd_same]
      · rw [upd_ne eb, upd_ne eb]
        by_cases e2 : b = a
        · subst e2; rw [del_same, na]
        · rw [del_ne e2, upd_ne e2, upd_ne eb, upd_ne e2]
    rw [e1]
    exact k _ _ (Grow.new n1) ⟨C, [v], rfl, t1, (fun z => by simp at z), fun _ => ⟨dx, rfl, oc.not n1, upd_same⟩, rfl, RDs.cons (r0.grow (Grow.new n1)) RDs.nil⟩
theorem x2_end (t1 : PySem.W.nsIn K mainGlobals c = some (some (.ref C))) (oc : Oc H1 O) (r0 : RD K H1 O v d0) (r1 : RD K H1 O u d1) (k : ∀ d H', Grow H1 H' → ExR K mg H' O ⟨c, [(g, d1), (f, d0)]⟩ (.ref C) d → Kn (.ref C) d H') (na : H1 a = none) :
    spI2 C f g [.ref a, v, u] (upd H1 a (exo a C none)) (fun z H2 => z = .non ∧ ∃ (d : Addr) (fs : List (Str × V)), H2 a = some (exo a C (some d)) ∧ H2 d = some (exd d fs) ∧ H1 d = none ∧ Kn (.ref C) (some d) (upd (del H2 a) d (.xd fs))) (fun _ _ _ => False) := by
  refine ⟨a, v, u, rfl, upd_same, fun dx n ne => ⟨rfl, dx, [(g, u), (f, v)], ?_, upd_same, ?_, ?_⟩⟩
  · rw [upd_ne (Ne.symm ne), upd_same]
  · rw [upd_ne ne] at n; exact n
  · have n1 : H1 dx = none := by rw [upd_ne ne] at n; exact n
    have e1 : upd (del (upd (upd (upd (upd H1 a (exo a C none)) dx (exd dx [(f, v)])) a (exo a C (some dx))) dx (exd dx [(g, u), (f, v)])) a) dx (.xd [(g, u), (f, v)]) = upd H1 dx (.xd [(g, u), (f, v)]) := by
      funext b
      by_cases eb : b = dx
      · subst eb; rw [upd_same, upd_same]
      · rw [upd_ne eb, upd_ne eb]
        by_cases e2 : b = a
        · subst e2; rw [del_same, na]
        · rw [del_ne e2, upd_ne eb, upd_ne e2, upd_ne eb, upd_ne e2]
    rw [e1]
    exact k _ _ (Grow.new n1) ⟨C, [u, v], rfl, t1, (fun z => by simp at z), fun _ => ⟨dx, rfl, oc.not n1, upd_same⟩, rfl, RDs.cons (r1.grow (Grow.new n1)) (RDs.cons (r0.grow (Grow.new n1)) RDs.nil)⟩
theorem x_val {x : Exn} {H H1 : Hp} {Q : VK} (oc : Oc H1 O) (k : ∀ w H', Grow H1 H' → RD K H' O w x.toD → Q w H') : ∀ d H', Grow H1 H' → ExR K mg H' O x (.ref C) d → ∃ C', (Value.ref C) = .ref C' ∧ ∀ a, H' a = none → Q (.ref a) (upd H' a (exH a C' d)) :=
  fun d H' gr e => ⟨C, rfl, fun a na => k _ _ (gr.trans (Grow.new na)) (e.rd na ((oc.grow gr).not na))⟩
end
def KonX (Q : VK) : XK := fun cls d H' => ∃ C, cls = .ref C ∧ ∀ a, H' a = none → Q (.ref a) (upd H' a (exH a C d))
section
variable {S : Cxt} {e : Expr} {es : List Expr} {kws : List Keyword} {qs : Env → Option (List D)} {c f g : Str} {ks : List Str} {perm : List Nat} {st : Stmt} {p pos : Pos}
theorem jp_exc0 (T : XCls0 S.K S.mg c) (hbk : S.blk = false) (hg : Gn S c) (hdb : (c == ("__debug__" : Str)) = false) : JP S (.Call (.Name c p) [] [] pos) (xExc c [] aNil) := by
  obtain ⟨C, t1, t2, t3, t4, t5, t6, t7⟩ := T.ex
  refine ⟨fun σ H Q => KonX Q (.ref C) none H, fun X o => ?_, fun σ H O env T dd Q s ed k => ?_⟩
  · have gl := gl_of o hg
    obtain ⟨s1, s2, s3, _⟩ := o.top hbk
    obtain ⟨o1, o2, o3, o4, o5, o6, o7, o8, o9, o10, o11, o12, o13, o14, o15⟩ := o
    rw [← o3] at t3 t4 t5 t6
    rw [← o4] at t2
    exact pe_made s1 s2 s3 (pmk_own0 t3 t2 t4 (raises_own t6.exC t5) gl hdb)
  · cases ed
    exact x_val (K := S.K) (mg := S.mg) (x := ⟨c, []⟩) (H := H) s.oc k none H .refl ⟨C, [], rfl, t1, fun _ => rfl, fun z => (z rfl).elim, rfl, RDs.nil⟩
theorem jp_exc1 {q1 q2 q3 q4 : Pos} (T : XCls S.K S.mg c [f] st) (hk : 2 ≤ S.k) (hbk : S.blk = false) (hg : Gn S c) (Sc : FnScope ["self", f] ["self", f] (defScope st)) (hb : defBody st = [iniA f q1 q2 q3 q4])
    (h0 : okV ["self", f] (defScope st) 0 "self" = true) (h1 : okV ["self", f] (defScope st) 1 f = true) (ha : JAP S (e :: es) qs) (hdb : (c == ("__debug__" : Str)) = false)
    (he : ∀ env, starEach (e :: es) env = (false, eval e env) :: starEach es env := by intro _; rfl) (hpl : ∀ env, (backTo pos (starEach es env)).any (·.1) = false := by intro _; rfl) :
    JP S (.Call (.Name c p) (e :: es) [] pos) (xExc c [f] qs) := by
  obtain ⟨C, fI, fd, t1, t2, t3, t4, t5, t6, t7, t8, t9, t10⟩ := T.ex
  obtain ⟨t, a1, a2⟩ := ha
  refine ⟨fun σ H Q => tMkO C (spI1 C f) [] t σ H (KonX Q), fun X o => ?_, fun σ H O env T dd Q s ed k => ?_⟩
  · have F1 := init1 (P := S.P) (w := S.w) (mg := S.mg) (base := S.base) t3 (t8 f (by simp)) t6 Sc hb h0 h1
    have pe := a1 X o
    have gl := gl_of o hg
    obtain ⟨s1, s2, s3, _⟩ := o.top hbk
    obtain ⟨o1, o2, o3, o4, o5, o6, o7, o8, o9, o10, o11, o12, o13, o14, o15⟩ := o
    rw [← o1, ← o2, ← o3, ← o4, ← o5] at F1
    rw [← o3] at t3 t4 t5 t7
    rw [← o4] at t2
    exact pe_made s1 s2 s3 (pmk_oex (ds := []) (dvs := []) t3 t4 t5 F1 (o9.mono hk) (by simpa using t7) .nil passL gl t2 pe hdb (he _) (hpl _))
  · obtain ⟨ds, eq, e2⟩ := Option.bind_eq_some_iff.mp ed
    split at e2
    case isFalse => cases e2
    rename_i hl
    cases e2
    refine a2 σ H O env T ds _ s eq fun vs H1 g1 rs => ?_
    match ds, hl with
    | [d0], _ =>
      cases rs with
      | cons r0 rn =>
        cases rn
        exact ⟨by simp, fun a na => x1_end (mg := S.mg) (Kn := KonX Q) t1 (s.oc.grow g1) r0 (x_val (H := H) (s.oc.grow g1) fun w H' gr rd => k w H' (g1.trans gr) rd) na⟩
theorem jp_exc1K {q1 q2 q3 q4 : Pos} (T : XCls S.K S.mg c [f] st) (hk : 2 ≤ S.k) (hbk : S.blk = false) (hg : Gn S c) (Sc : FnScope ["self", f] ["self", f] (defScope st)) (hb : defBody st = [iniA f q1 q2 q3 q4])
    (h0 : okV ["self", f] (defScope st) 0 "self" = true) (h1 : okV ["self", f] (defScope st) 1 f = true) (ha : JKP S kws qs) (hdb : (c == ("__debug__" : Str)) = false)
    (hB : ∀ (an : Option Addr) (kV doc pm cdv ct self w : Value), bindArgs (PySem.W.fnOf "__init__" (c ++ ".__init__") (defArgs st) (defBody st) (defScope st) .none kV doc pm an cdv ct) ⟨[self], [(f, w)]⟩ = pure [(("self" : Str), self), (f, w)])
    (hall : ∀ env, (backToKw pos (keywordEach kws env)).all (·.1.isSome) = true := by intro _; rfl) (hks : ∀ env, (backToKw pos (keywordEach kws env)).filterMap (·.1) = [f] := by intro _; rfl)
    (hpl : ∀ env, ((backTo pos (starEach [] env)).any (·.1) || (backToKw pos (keywordEach kws env)).any (·.1.isNone)) = false := by intro _; rfl) :
    JP S (.Call (.Name c p) [] kws pos) (xExcK c [f] [0] qs) := by
  obtain ⟨C, fI, fd, t1, t2, t3, t4, t5, t6, t7, t8, t9, t10⟩ := T.ex
  obtain ⟨t, a1, a2⟩ := ha
  obtain ⟨oc, od, kV, doc, pm, an, cdv, ct, osl, rfl, lk, hcd⟩ := t6.ex
  refine ⟨fun σ H Q => t σ H fun vs H1 => vs.length = [f].length ∧ ∀ a, H1 a = none → spI1 C f (.ref a :: pick [0] vs) (upd H1 a (exo a C none))
      (fun v H2 => v = .non ∧ ∃ (d : Addr) (fs : List (Str × V)), H2 a = some (exo a C (some d)) ∧ H2 d = some (exd d fs) ∧ H1 d = none ∧ KonX Q (.ref C) (some d) (upd (del H2 a) d (.xd fs))) (fun _ _ _ => False), fun X o => ?_, fun σ H O env T dd Q s ed k => ?_⟩
  · have F1 := init1 (P := S.P) (w := S.w) (mg := S.mg) (base := S.base) t3 (t8 f (by simp)) t6 Sc hb h0 h1
    have pe := a1 X o
    have gl := gl_of o hg
    obtain ⟨s1, s2, s3, _⟩ := o.top hbk
    obtain ⟨o1, o2, o3, o4, o5, o6, o7, o8, o9, o10, o11, o12, o13, o14, o15⟩ := o
    rw [← o1, ← o2, ← o3, ← o4, ← o5] at F1
    rw [← o3] at t3 t4 t5
    rw [← o4] at t2
    exact pe_made s1 s2 s3 (pmk_oexK (ks := [f]) (perm := [0]) t3 t4 t5 F1 (o9.mono hk) (fun s self ws hl => by
      match ws, hl with
      | [w], _ => exact .of_eq (hB an kV doc pm cdv ct self w)) passL gl t2 pe (hall _) (hks _) hdb (hpl _))
  · obtain ⟨ds, eq, e2⟩ := Option.bind_eq_some_iff.mp ed
    split at e2
    case isFalse => cases e2
    rename_i hl
    cases e2
    refine a2 σ H O env T ds _ s eq fun vs H1 g1 rs => ?_
    match ds, hl with
    | [d0], _ =>
      cases rs with
      | cons r0 rn =>
        cases rn
        exact ⟨rfl, fun a na => x1_end (mg := S.mg) (Kn := KonX Q) t1 (s.oc.grow g1) r0 (x_val (H := H) (s.oc.grow g1) fun w H' gr rd => k w H' (g1.trans gr) rd) na⟩
theorem jp_exc2K {q1 q2 q3 q4 r1 r2 r3 r4 : Pos} (T : XCls S.K S.mg c [f, g] st) (hk : 2 ≤ S.k) (hbk : S.blk = false) (hg : Gn S c) (Sc : FnScope ["self", f, g] ["self", f, g] (defScope st)) (hb : defBody st = [iniA f q1 q2 q3 q4, iniA g r1 r2 r3 r4])
    (h0 : okV ["self", f, g] (defScope st) 0 "self" = true) (h1 : okV ["self", f, g] (defScope st) 1 f = true) (h2 : okV ["self", f, g] (defScope st) 2 g = true) (ha : JKP S kws qs) (hdb : (c == ("__debug__" : Str)) = false)
    (hB : ∀ (an : Option Addr) (kV doc pm cdv ct self w u : Value), bindArgs (PySem.W.fnOf "__init__" (c ++ ".__init__") (defArgs st) (defBody st) (defScope st) .none kV doc pm an cdv ct) ⟨[self], [(g, w), (f, u)]⟩ = pure [(("self" : Str), self), (f, u), (g, w)])
    (hall : ∀ env, (backToKw pos (keywordEach kws env)).all (·.1.isSome) = true := by intro _; rfl) (hks : ∀ env, (backToKw pos (keywordEach kws env)).filterMap (·.1) = [g, f] := by intro _; rfl)
    (hpl : ∀ env, ((backTo pos (starEach [] env)).any (·.1) || (backToKw pos (keywordEach kws env)).any (·.1.isNone)) = false := by intro _; rfl) :
    JP S (.Call (.Name c p) [] kws pos) (xExcK c [f, g] [1, 0] qs) := by
  obtain ⟨C, fI, fd, t1, t2, t3, t4, t5, t6, t7, t8, t9, t10⟩ := T.ex
  obtain ⟨t, a1, a2⟩ := ha
  obtain ⟨oc, od, kV, doc, pm, an, cdv, ct, osl, rfl, lk, hcd⟩ := t6.ex
  refine ⟨fun σ H Q => t σ H fun vs H1 => vs.length = [g, f].length ∧ ∀ a, H1 a = none → spI2 C f g (.ref a :: pick [1, 0] vs) (upd H1 a (exo a C none))
      (fun v H2 => v = .non ∧ ∃ (d : Addr) (fs : List (Str × V)), H2 a = some (exo a C (some d)) ∧ H2 d = some (exd d fs) ∧ H1 d = none ∧ KonX Q (.ref C) (some d) (upd (del H2 a) d (.xd fs))) (fun _ _ _ => False), fun X o => ?_, fun σ H O env T dd Q s ed k => ?_⟩
  · have F1 := init2 (P := S.P) (w := S.w) (mg := S.mg) (base := S.base) t3 (t8 f (by simp)) (t8 g (by simp)) t6 Sc hb h0 h1 h2
    have pe := a1 X o
    have gl := gl_of o hg
    obtain ⟨s1, s2, s3, _⟩ := o.top hbk
    obtain ⟨o1, o2, o3, o4, o5, o6, o7, o8, o9, o10, o11, o12, o13, o14, o15⟩ := o
    rw [← o1, ← o2, ← o3, ← o4, ← o5] at F1
    rw [← o3] at t3 t4 t5
    rw [← o4] at t2
    exact pe_made s1 s2 s3 (pmk_oexK (ks := [g, f]) (perm := [1, 0]) t3 t4 t5 F1 (o9.mono hk) (fun s self ws hl => by
      match ws, hl with
      | [w, u], _ => exact .of_eq (hB an kV doc pm cdv ct self w u)) passL gl t2 pe (hall _) (hks _) hdb (hpl _))
  · obtain ⟨ds, eq, e2⟩ := Option.bind_eq_some_iff.mp ed
    split at e2
    case isFalse => cases e2
    rename_i hl
    cases e2
    refine a2 σ H O env T ds _ s eq fun vs H1 g1 rs => ?_
    match ds, hl with
    | [d1, d0], _ =>
      cases rs with
      | cons r1 rn =>
        cases rn with
        | cons r0 rn =>
          cases rn
          exact ⟨rfl, fun a na => x2_end (mg := S.mg) (Kn := KonX Q) t1 (s.oc.grow g1) r0 r1 (x_val (H := H) (s.oc.grow g1) fun w H' gr rd => k w H' (g1.trans gr) rd) na⟩
end
section
variable {α : Type} {env : Env} {c : Str} {ns : List Str} {perm : List Nat} {q : Env → Option (List D)} {k : D → Option α} {r : Option α}
def excO (c : Str) (ns : List Str) (ds : List D) : Option D := if ds.length = ns.length then some (Exn.toD ⟨c, (ns.zip ds).reverse⟩) else none
def excKO (c : Str) (ns : List Str) (perm : List Nat) (ds : List D) : Option D := if ds.length = ns.length then some (Exn.toD ⟨c, (ns.zip (pick perm ds)).reverse⟩) else none
theorem lo_exc (h : LeO r ((q env).bind fun ds => (excO c ns ds).bind k)) : LeO r ((xExc c ns q env).bind k) := fun a e => by
  rw [← h a e]
  unfold xExc excO
  cases q env <;> rfl
theorem lo_excK (h : LeO r ((q env).bind fun ds => (excKO c ns perm ds).bind k)) : LeO r ((xExcK c ns perm q env).bind k) := fun a e => by
  rw [← h a e]
  unfold xExcK excKO
  cases q env <;> rfl
end
end ML
/-! Plain readings that several laws share. -/
namespace ML
open PySem L2
def f__law_pot (script' : List D) (k_' : D) : Po (List D) :=
((dMulX (.int 17) k_').bind fun t1 => dAdd t1 (.int 6)).po fun cell' =>
((((dCmp fun i j => decide (i < j)) k_' (.int (script'.length : Int))).bind fun t2 => toB t2).po fun t3 =>
if t3 then
(dIx (.list script') k_').po fun cell1' =>
.ok cell1'
else
.ok cell' : Po (D)).bind fun (cell2' : D) =>
(((fAbs [cell2']).bind fun t4 => ((dPow (.int 10) (.int 60)).bind fun t5 => dPow t5 (.int 5)).bind fun t6 => dMod t4 t6).bind fun t7 => (((fAbs [cell2']).bind fun t8 => (dPow (.int 10) (.int 18)).bind fun t9 => (dCmp fun i j => decide (j ≤ i)) t8 t9).bind fun t10 => fInt [t10]).bind fun t11 => dMulX t7 t11).po fun own' =>
((((((dMod cell2' (.int 2305843009213693951)).bind fun t12 => dMulX t12 (.int 70991)).bind fun t13 => ((dMulX (.int 4001) k_').bind fun t14 => dMulX t14 k_').bind fun t15 => dAdd t13 t15).bind fun t16 => dAdd t16 (.int 71)).bind fun t17 => dMod t17 (.int 2305843009213693907)).bind fun t18 => some [own', t18, (.int 0)]).po fun t19 =>
.ok t19

def f__law_take (pot_here' : List D) (below' : D) : Po (D × List D) :=
(((dIx (.list pot_here') (.int 0)).bind fun t1 => (dCmp fun i j => decide (j < i)) t1 (.int 0)).bind fun t2 => toB t2).po fun t3 =>
if t3 then
((dIx (.list pot_here') (.int 0)).bind fun t4 => dMod t4 below').po fun digit' =>
((dIx (.list pot_here') (.int 0)).bind fun t5 => dDiv t5 below').po fun t6 =>
(some (.int 0)).po fun i1 => setIxP pot_here' i1 t6 fun pot_here1' =>
.ok (digit', pot_here1')
else
((dIx (.list pot_here') (.int 2)).bind fun t7 => dAdd t7 (.int 1)).po fun t8 =>
(some (.int 2)).po fun i2 => setIxP pot_here' i2 t8 fun pot_here2' =>
(((((dIx (.list pot_here2') (.int 1)).bind fun t9 => (((dIx (.list pot_here2') (.int 2)).bind fun t10 => dMulX (.int 20011) t10).bind fun t11 => (dIx (.list pot_here2') (.int 2)).bind fun t12 => dMulX t11 t12).bind fun t13 => dAdd t9 t13).bind fun t14 => dAdd t14 (.int 23)).bind fun t15 => dMulX t15 (.int 71011)).bind fun t16 => dMod t16 (.int 2305843009213693921)).po fun blend' =>
(((((dMod blend' (.int 1000081)).bind fun t17 => ((dIx (.list pot_here2') (.int 2)).bind fun t18 => dMulX (.int 50021) t18).bind fun t19 => dAdd t17 t19).bind fun t20 => dAdd t20 (.int 9)).bind fun t21 => dMulX blend' t21).bind fun t22 => dMod t22 (.int 2305843009213693951)).po fun blend1' =>
(((dDiv blend1' (.int 107)).bind fun t23 => (dDiv blend1' (.int 999983)).bind fun t24 => dAdd t23 t24).bind fun t25 => dMod t25 below').po fun t26 =>
.ok (t26, pot_here2')

def f_letters_of (command' : D) : Po (D) :=
(ifO (((dIx command' (.int 0)).bind fun t1 => dEq t1 (.str "literal")).bind fun t2 => toB t2) ((dIx command' (.int 1)).bind fun t3 => fLen [t3]) (dIx command' (.int 2))).po fun t4 =>
.ok t4

def f_pieces (stream' : D) : Po (List D) :=
(itemsOf stream').po fun t1 =>
(forN (fun (command' : D) ((found', start') : List D × D) =>
((((f_letters_of command').toO).bind fun t2 => dAdd start' t2).bind fun t3 => some (.tuple [start', t3, command'])).po fun t4 =>
pushP found' t4 fun found1' =>
((f_letters_of command').toO).po fun t5 =>
((dAugI fun i j => i + j) start' t5).po fun start1' =>
.ok (found1', start1')) t1 ([], (.int 0))).bind fun ((found2', start2') : List D × D) =>
.ok found2'

def f__law_way (sources' : D) (position' : D) : Po (List D) :=
(whileN (fun (found' : List D) =>
(((((dNeg (.int 1)).bind fun t1 => dIx (.list found') t1).bind fun t2 => dIx sources' t2).bind fun t3 => dNotN t3 .none).bind fun t4 => toB t4).po fun t5 =>
.ok (t5, found')) (fun (found' : List D) =>
(((dNeg (.int 1)).bind fun t6 => dIx (.list found') t6).bind fun t7 => dIx sources' t7).po fun t8 =>
pushP found' t8 fun found1' =>
.ok found1') fuel [position']).bind fun (found2' : List D) =>
.ok found2'

def f_piece_at (stream' : D) (position' : D) : Po (D) :=
((((((f_pieces stream').toL).bind fun t1 => itemsOf t1).bind fun t4 => compS (fun piece' => keepO (((dIx piece' (.int 0)).bind fun t2 => chO (dCmp fun i j => decide (i ≤ j)) (dCmp fun i j => decide (i < j)) t2 position' (dIx piece' (.int 1))).bind fun t3 => toB t3) (some piece')) t4).map .list).bind fun t5 => dIx t5 (.int 0)).po fun t6 =>
.ok t6

def f_is_literal (command' : D) : Po (D) :=
((dIx command' (.int 0)).bind fun t1 => dEq t1 (.str "literal")).po fun t2 =>
.ok t2

def f_source (stream' : D) (position' : D) : Po (D) :=
((f_piece_at stream' position').toO).po fun t1 =>
pn3 t1 fun start' end_' command' =>
(ifO (((f_is_literal command').toO).bind fun t2 => toB t2) (some .none) (((dIx command' (.int 1)).bind fun t3 => dSub start' t3).bind fun t4 => ((dSub position' start').bind fun t5 => (dIx command' (.int 1)).bind fun t6 => dMod t5 t6).bind fun t7 => dAdd t4 t7)).po fun t8 =>
.ok t8

end ML
/-! PL1: plain Lean about plain readings. -/
namespace ML
open PySem L2

/-! ### operations -/
section
variable {i j : Int} {x y : Str} {xs ys : List D} {b : Bool} {d : D} {α β : Type}
@[simp] theorem toB_bool : toB (.bool b) = some b := rfl
@[simp] theorem toI_int : toI (.int i) = some i := rfl
@[simp] theorem andO_some {c : Option Bool} : andO (some b) c = if b then c else some false := rfl
@[simp] theorem orO_some {c : Option Bool} : orO (some b) c = if b then some true else c := rfl
@[simp] theorem ifO_some {a c : Option α} : ifO (some b) a c = if b then a else c := rfl
@[simp] theorem range1_int (h : i.natAbs < 2 ^ 62) : range1O (.int i) = some (rngOf 0 i) := if_pos h
@[simp] theorem range2_int (h : i.natAbs < 2 ^ 62 ∧ j.natAbs < 2 ^ 62) : range2O (.int i) (.int j) = some (rngOf i j) := if_pos h
@[simp] theorem un2_t {a b : D} {k : D → D → Option α} : un2 (.tuple [a, b]) k = k a b := rfl
@[simp] theorem un3_t {a b c : D} {k : D → D → D → Option α} : un3 (.tuple [a, b, c]) k = k a b c := rfl
@[simp] theorem un4_t {a b c e : D} {k : D → D → D → D → Option α} : un4 (.tuple [a, b, c, e]) k = k a b c e := rfl
@[simp] theorem pn2_t {a b : D} {k : D → D → Po α} : pn2 (.tuple [a, b]) k = k a b := rfl
@[simp] theorem pn3_t {a b c : D} {k : D → D → D → Po α} : pn3 (.tuple [a, b, c]) k = k a b c := rfl
@[simp] theorem pn4_t {a b c e : D} {k : D → D → D → D → Po α} : pn4 (.tuple [a, b, c, e]) k = k a b c e := rfl
@[simp] theorem setIx_0 {a : D} {k : List D → Po α} : setIxP (a :: xs) (.int 0) d k = k (d :: xs) := by
  unfold setIxP
  simp
@[simp] theorem setIx_2 {a b c : D} {k : List D → Po α} : setIxP (a :: b :: c :: xs) (.int 2) d k = k (a :: b :: d :: xs) := by
  unfold setIxP
  simp
theorem push_ok {k : List D → Po α} (h : xs.length < 16777216) : pushP xs d k = k (xs ++ [d]) := if_pos h
@[simp] theorem thenS_nx {σ ρ : Type} {s : σ} {k : σ → Po α} {e : ρ → Po α} : (Po.ok (Step.nx s)).thenS k e = k s := rfl
@[simp] theorem thenS_rt {σ ρ : Type} {v : ρ} {k : σ → Po α} {e : ρ → Po α} : (Po.ok (Step.rt v : Step σ ρ)).thenS k e = e v := rfl
@[simp] theorem f_repr_ok (h : d.showable = true ∧ d.hasDict = false ∧ d.depth ≤ 100 ∧ d.shown.length ≤ sizeLine) : fRepr [d] = some (.str d.shown) := if_pos h
end

/-! ### what a program must come to -/
def Wp {α : Type} (r : Po α) (Q : α → Prop) : Prop := match r with
  | .ok a => Q a
  | _ => False
section
variable {α β σ ρ : Type} {Q : α → Prop}
@[simp] theorem wp_ok {a : α} : Wp (.ok a) Q = Q a := rfl
@[simp] theorem wp_bad : Wp (.bad : Po α) Q = False := rfl
theorem wp_bind {r : Po β} {k : β → Po α} : Wp (r.bind k) Q = Wp r fun b => Wp (k b) Q := by cases r <;> rfl
theorem wp_bindS {r : Po β} {k : β → Po α} : Wp (r.bindS k) Q = Wp r fun b => Wp (k b) Q := by cases r <;> rfl
theorem wp_thenS {r : Po (Step σ ρ)} {k : σ → Po α} {e : ρ → Po α} : Wp (r.thenS k e) Q = Wp r fun o => match o with | .nx s => Wp (k s) Q | .rt v => Wp (e v) Q | .bk _ => False := by
  cases r with
  | ok o => cases o <;> rfl
  | _ => rfl
theorem Wp.mono {r : Po α} {Q' : α → Prop} (h : Wp r Q) (k : ∀ a, Q a → Q' a) : Wp r Q' := by
  cases r with
  | ok a => exact k a h
  | err _ => exact h
  | bad => exact h
theorem Wp.get {r : Po α} (h : Wp r Q) : ∃ a, r = .ok a ∧ Q a := by
  cases r with
  | ok a => exact ⟨a, rfl, h⟩
  | err _ => exact h.elim
  | bad => exact h.elim
theorem Wp.bind {r : Po β} {k : β → Po α} {Q' : β → Prop} (h : Wp r Q') (hk : ∀ b, Q' b → Wp (k b) Q) : Wp (r.bind k) Q := by
  rw [wp_bind]
  exact h.mono hk
theorem Wp.bindS {r : Po β} {k : β → Po α} {Q' : β → Prop} (h : Wp r Q') (hk : ∀ b, Q' b → Wp (k b) Q) : Wp (r.bindS k) Q := by
  rw [wp_bindS]
  exact h.mono hk
theorem Wp.out {r : Po α} {a : α} (h : Wp r (· = a)) : r = .ok a := by
  obtain ⟨b, h1, h2⟩ := h.get
  rw [h1, h2]

/-! loops -/
/-- a loop that returns on no way -/
theorem forS_inv {f : D → σ → Po (Step σ ρ)} (I : Nat → σ → Prop) (ds : List D) (h : ∀ k d s, ds[k]? = some d → I k s → Wp (f d s) fun o => ∃ s1, o = .nx s1 ∧ I (k + 1) s1) {s : σ} (h0 : I 0 s) : Wp (forS f ds s) fun o => ∃ s1, o = .nx s1 ∧ I ds.length s1 := by
  have go : ∀ (es : List D) (k : Nat) (s : σ), ds.drop k = es → k ≤ ds.length → I k s → Wp (forS f es s) fun o => ∃ s1, o = .nx s1 ∧ I ds.length s1 := by
    intro es
    induction es with
    | nil =>
      intro k s hk hl hi
      have : ds.length ≤ k := List.drop_eq_nil_iff.mp hk
      have e : k = ds.length := by omega
      subst e
      exact ⟨s, rfl, hi⟩
    | cons d es ih =>
      intro k s hk hl hi
      have hd : ds[k]? = some d := by
        have z := congrArg (fun l : List D => l[0]?) hk
        simpa using z
      have hlt : k < ds.length := (List.getElem?_eq_some_iff.mp hd).1
      unfold forS
      refine (h k d s hd hi).bind fun o ho => ?_
      obtain ⟨s1, rfl, h1⟩ := ho
      refine ih (k + 1) s1 ?_ hlt h1
      have z := congrArg List.tail hk
      simpa using z
  exact go ds 0 s rfl (Nat.zero_le _) h0
/-- .. and what follows it -/
theorem wp_forS {f : D → σ → Po (Step σ ρ)} (I : Nat → σ → Prop) {ds : List D} {s : σ} {k : σ → Po α} {e : ρ → Po α} (h : ∀ k d s, ds[k]? = some d → I k s → Wp (f d s) fun o => ∃ s1, o = .nx s1 ∧ I (k + 1) s1) (h0 : I 0 s) (hk : ∀ s, I ds.length s → Wp (k s) Q) : Wp ((forS f ds s).thenS k e) Q := by
  rw [wp_thenS]
  refine (forS_inv I ds h h0).mono fun o ho => ?_
  obtain ⟨s1, rfl, h1⟩ := ho
  exact hk s1 h1
/-- a while: its measure falls -/
theorem whileN_inv {t : σ → Po (Bool × σ)} {f : σ → Po σ} (I : σ → Prop) (m : σ → Nat) (E : σ → Prop) (h : ∀ s, I s → Wp (t s) fun p => if p.1 then Wp (f p.2) fun s1 => I s1 ∧ m s1 < m s else E p.2) : ∀ (n : Nat) (s : σ), m s < n → I s → Wp (whileN t f n s) E
  | 0, s, hn, _ => by omega
  | n + 1, s, hn, hi => by
    unfold whileN
    refine (h s hi).bind fun p hp => ?_
    cases hb : p.1 with
    | true =>
      rw [hb, if_pos rfl] at hp
      rw [if_pos rfl]
      exact hp.bind fun s1 h1 => whileN_inv I m E h n s1 (by omega) h1.1
    | false =>
      rw [hb, if_neg (by decide)] at hp
      rw [if_neg (by decide)]
      exact hp
end

/-! comprehensions -/
section
variable {α : Type}
theorem mapO_eq {f : D → Option D} {enc : α → D} (g : α → D) : ∀ (xs : List α), (∀ x ∈ xs, f (enc x) = some (g x)) → mapO f (xs.map enc) = some (xs.map g)
  | [], _ => rfl
  | x :: xs, h => by
    rw [List.map_cons, mapO, h x (by simp), Option.bind_some, mapO_eq g xs fun y hy => h y (by simp [hy])]
    rfl
theorem mapS_eq {f : D → Option D} {enc : α → D} (g : α → D) {xs : List α} (hl : xs.length ≤ 16777216) (h : ∀ x ∈ xs, f (enc x) = some (g x)) : mapS f (xs.map enc) = some (xs.map g) := by
  unfold mapS
  rw [if_pos (by simpa using hl)]
  exact mapO_eq g xs h
theorem compO_eq {f : D → Option (Option D)} {enc : α → D} (p : α → Bool) (g : α → D) : ∀ (xs : List α), (∀ x ∈ xs, f (enc x) = some (if p x then some (g x) else none)) → compO f (xs.map enc) = some ((xs.filter p).map g)
  | [], _ => rfl
  | x :: xs, h => by
    rw [List.map_cons, compO, h x (by simp), Option.bind_some, compO_eq p g xs fun y hy => h y (by simp [hy])]
    cases hp : p x
    · simp [hp]
    · simp [hp]
theorem compS_eq {f : D → Option (Option D)} {enc : α → D} (p : α → Bool) (g : α → D) {xs : List α} (hl : xs.length ≤ 16777216) (h : ∀ x ∈ xs, f (enc x) = some (if p x then some (g x) else none)) : compS f (xs.map enc) = some ((xs.filter p).map g) := by
  unfold compS
  rw [if_pos (by simpa using hl)]
  exact compO_eq p g xs h
@[simp] theorem keepO_some {c : Bool} {e : Option D} : keepO (some c) e = if c then e.map some else some none := rfl
/-- the numbers from 0 to below n -/
theorem rng_nat (n : Nat) : rngOf 0 (n : Int) = (List.range n).map fun i => .int (i : Int) := by
  unfold rngOf
  simp
theorem rng_toNat (i : Int) : rngOf 0 i = (List.range i.toNat).map fun k => .int (k : Int) := by
  unfold rngOf
  simp
theorem rng_get {i : Int} {k : Nat} {d : D} (h : (rngOf 0 i)[k]? = some d) : d = .int (k : Int) ∧ (k : Int) < i := by
  rw [rng_toNat, List.getElem?_map] at h
  obtain ⟨j, h1, rfl⟩ := Option.map_eq_some_iff.mp h
  obtain ⟨h2, h3⟩ := List.getElem?_eq_some_iff.mp h1
  simp at h2 h3
  subst h3
  exact ⟨rfl, by omega⟩
end
end ML
/-! PL2: the pot that the script fills; what is drawn from it. -/
namespace ML
open PySem L2
def PotOk (n : Nat) (pot : List D) : Prop := ∃ a b c : Int, pot = [.int a, .int b, .int c] ∧ 0 ≤ a ∧ a < 10 ^ 300 ∧ 0 ≤ b ∧ b < 2305843009213693951 ∧ 0 ≤ c ∧ c ≤ n
theorem PotOk.mono {n m : Nat} {pot : List D} (h : PotOk n pot) (hm : n ≤ m) : PotOk m pot := by
  obtain ⟨a, b, c, h0, h1, h2, h3, h4, h5, h6⟩ := h
  exact ⟨a, b, c, h0, h1, h2, h3, h4, h5, by omega⟩
theorem d_pow_i0 {i j : Int} (h : 0 ≤ j ∧ (Builtin.Int.intBits i : Int) * j ≤ 2 ^ 27) : dPow (.int i) (.int j) = some (.int (i ^ j.toNat)) := if_pos h
theorem log39 {b : Int} (h0 : 0 < b) (h : b < 10 ^ 39) : b.natAbs.log2 < 9000 := Nat.lt_trans (log_of (z := b) (Nat.lt_of_lt_of_le (show b.natAbs < 2 ^ 130 by omega) (Nat.pow_le_pow_right (by decide) (by decide)))) (by decide)
theorem big4 {z : Int} {k : Nat} (h : z.natAbs < 2 ^ k) (hk : k ≤ 4000) : z.natAbs < 2 ^ 4000 := Nat.lt_of_lt_of_le h (Nat.pow_le_pow_right (by decide) hk)
theorem take_ok {n : Nat} {pot : List D} {below : Int} (h : PotOk n pot) (hn : n < 10 ^ 30) (hb : 0 < below) (hb3 : below < 10 ^ 39) : ∃ r pot', f__law_take pot (.int below) = .ok (.int r, pot') ∧ PotOk (n + 1) pot' ∧ 0 ≤ r ∧ r < below := by
  have hb2 := log39 hb hb3
  obtain ⟨a, b, c, rfl, h1, h2, h3, h4, h5, h6⟩ := h
  by_cases ha : 0 < a
  · refine ⟨a % below, [.int (a / below), .int b, .int c], ?_, ⟨_, _, _, rfl, Int.ediv_nonneg h1 (Int.le_of_lt hb), Int.lt_of_le_of_lt (Int.ediv_le_self _ h1) h2, h3, h4, h5, by omega⟩, Int.emod_nonneg _ (by omega), Int.emod_lt_of_pos _ hb⟩
    simp [f__law_take, ha, hb, hb2]
  · obtain ⟨x, hx⟩ : ∃ x, x = (b + 20011 * (c + 1) * (c + 1) + 23) * 71011 % 2305843009213693921 := ⟨_, rfl⟩
    have x0 : 0 ≤ x := by rw [hx]; exact Int.emod_nonneg _ (by decide)
    have x1 : x < 2305843009213693921 := by rw [hx]; exact Int.emod_lt_of_pos _ (by decide)
    obtain ⟨y, hy⟩ : ∃ y, y = x * (x % 1000081 + 50021 * (c + 1) + 9) % 2305843009213693951 := ⟨_, rfl⟩
    have c1 : (c + 1).natAbs < 2 ^ 110 := by omega
    have c2 : (20011 * (c + 1)).natAbs < 2 ^ 130 := by omega
    have c3 : (20011 * (c + 1) * (c + 1)).natAbs < 2 ^ 250 := by
      rw [Int.natAbs_mul]
      exact Nat.lt_of_lt_of_le (Nat.mul_lt_mul'' c2 c1) (by decide)
    have m1 : mulOk 20011 (c + 1) = true := mulOk_of (by decide) (big4 c1 (by decide))
    have m2 : mulOk (20011 * (c + 1)) (c + 1) = true := mulOk_of (big4 c2 (by decide)) (big4 c1 (by decide))
    have m3 : mulOk (b + 20011 * (c + 1) * (c + 1) + 23) 71011 = true := mulOk_of (big4 (k := 260) (by omega) (by decide)) (by decide)
    have m4 : mulOk 50021 (c + 1) = true := mulOk_of (by decide) (big4 c1 (by decide))
    have m5 : mulOk x (x % 1000081 + 50021 * (c + 1) + 9) = true := mulOk_of (big4 (k := 70) (by omega) (by decide)) (big4 (k := 140) (by omega) (by decide))
    refine ⟨(y / 107 + y / 999983) % below, [.int a, .int b, .int (c + 1)], ?_, ⟨_, _, _, rfl, h1, h2, h3, h4, by omega, by omega⟩, Int.emod_nonneg _ (by omega), Int.emod_lt_of_pos _ hb⟩
    have l1 : dDiv (.int y) (.int 107) = some (.int (y / 107)) := d_div_i (by decide) (by decide)
    have l2 : dDiv (.int y) (.int 999983) = some (.int (y / 999983)) := d_div_i (by decide) (by decide)
    simp [f__law_take, ha, hb, m1, m2, m3, m4, ← hx, m5, ← hy, l1, l2]
section
variable {α : Type} {Q : α → Prop} {n : Nat} {pot : List D}
theorem take_bind {below : Int} {K : D × List D → Po α} (h : PotOk n pot) (hn : n < 10 ^ 30) (hb : 0 < below) (hb3 : below < 10 ^ 39) (k : ∀ r pot', PotOk (n + 1) pot' → 0 ≤ r → r < below → Wp (K (.int r, pot')) Q) : Wp ((f__law_take pot (.int below)).bindS K) Q := by
  obtain ⟨r, pot', e, h1, h2, h3⟩ := take_ok h hn hb hb3
  rw [e]
  exact k r pot' h1 h2 h3
/-- one of several -/
theorem atI_nat {α : Type} {xs : List α} {k : Nat} (h : k < xs.length) : atI xs (k : Int) = some xs[k] := by
  unfold atI
  rw [ix_nat h]
  exact List.getElem?_eq_getElem h
end
/-- the pot that the script fills -/
theorem pot_ok (k : Nat) (hk : k < 1000) (ns : List Int) (hl : ns.length ≤ 16777216) : ∃ pot, f__law_pot (ns.map .int) (.int k) = .ok pot ∧ PotOk 0 pot := by
  obtain ⟨cell, hc0⟩ : ∃ cell : Int, cell = (if h : k < ns.length then ns[k] else 17 * k + 6) := ⟨_, rfl⟩
  obtain ⟨m, hm⟩ : ∃ m, m = (if cell < 0 then -cell else cell) := ⟨_, rfl⟩
  obtain ⟨z, hz⟩ : ∃ z : Int, z = (if 10 ^ 18 ≤ m then 1 else 0) := ⟨_, rfl⟩
  have z01 : 0 ≤ z ∧ z ≤ 1 := by rw [hz]; split <;> decide
  obtain ⟨y, hy⟩ : ∃ y, y = m % (10 ^ 60) ^ 5 := ⟨_, rfl⟩
  have y0 : 0 ≤ y := by rw [hy]; exact Int.emod_nonneg _ (by decide)
  have y1 : y < 10 ^ 300 := by
    have h1 : m % (10 ^ 60) ^ 5 < (10 ^ 60) ^ 5 := Int.emod_lt_of_pos _ (by decide)
    have h2 : ((10 : Int) ^ 60) ^ 5 = 10 ^ 300 := by decide +kernel
    rw [hy, ← h2]
    exact h1
  have yz : 0 ≤ y * z ∧ y * z < 10 ^ 300 := by
    have : z = 0 ∨ z = 1 := by omega
    rcases this with q | q
    · rw [q, Int.mul_zero]
      exact ⟨by decide, by decide +kernel⟩
    · rw [q, Int.mul_one]
      exact ⟨y0, y1⟩
  obtain ⟨c, hc⟩ : ∃ c, c = cell % 2305843009213693951 := ⟨_, rfl⟩
  obtain ⟨b, hb⟩ : ∃ b, b = (c * 70991 + 4001 * (k : Int) * k + 71) % 2305843009213693907 := ⟨_, rfl⟩
  have c0 : 0 ≤ c := by rw [hc]; exact Int.emod_nonneg _ (by decide)
  have c1 : c < 2305843009213693951 := by rw [hc]; exact Int.emod_lt_of_pos _ (by decide)
  have b0 : 0 ≤ b := by rw [hb]; exact Int.emod_nonneg _ (by decide)
  have b1 : b < 2305843009213693907 := by rw [hb]; exact Int.emod_lt_of_pos _ (by decide)
  have ybig : y.natAbs < 2 ^ 1000 := by
    have e : ((10 : Int) ^ 300) ≤ 2 ^ 1000 := by decide +kernel
    have e2 : ((2 : Int) ^ 1000) = ((2 ^ 1000 : Nat) : Int) := by decide +kernel
    have := Int.lt_of_lt_of_le y1 e
    rw [e2] at this
    generalize (2 ^ 1000 : Nat) = g at this ⊢
    omega
  have n0 : dMulX (.int 17) (.int (k : Int)) = some (.int (17 * k)) := d_mul_i (mulOk_of (by decide) (big4 (k := 70) (by omega) (by decide)))
  have n1 : dMulX (.int y) (.int z) = some (.int (y * z)) := d_mul_i (mulOk_of (big4 ybig (by decide)) (big4 (k := 70) (by omega) (by decide)))
  have n2 : dMulX (.int c) (.int 70991) = some (.int (c * 70991)) := d_mul_i (mulOk_of (big4 (k := 70) (by omega) (by decide)) (big4 (k := 70) (by decide) (by decide)))
  have n3 : dMulX (.int 4001) (.int (k : Int)) = some (.int (4001 * k)) := d_mul_i (mulOk_of (by decide) (big4 (k := 70) (by omega) (by decide)))
  have n4 : dMulX (.int (4001 * (k : Int))) (.int (k : Int)) = some (.int (4001 * k * k)) := d_mul_i (mulOk_of (big4 (k := 70) (by omega) (by decide)) (big4 (k := 70) (by omega) (by decide)))
  have p1 : dPow (.int 10) (.int 60) = some (.int (10 ^ 60)) := d_pow_i0 (by decide +kernel)
  have p2 : dPow (.int (10 ^ 60)) (.int 5) = some (.int ((10 ^ 60) ^ 5)) := d_pow_i0 (by decide +kernel)
  have p3 : dPow (.int 10) (.int 18) = some (.int (10 ^ 18)) := d_pow_i0 (by decide +kernel)
  have d1 : dMod (.int m) (.int ((10 ^ 60) ^ 5)) = some (.int y) := by
    rw [hy]
    exact d_mod_i (by decide)
  have d2 : dMod (.int cell) (.int 2305843009213693951) = some (.int c) := by
    rw [hc]
    exact d_mod_i (by decide)
  have d3 : dMod (.int (c * 70991 + 4001 * (k : Int) * k + 71)) (.int 2305843009213693907) = some (.int b) := by
    rw [hb]
    exact d_mod_i (by decide)
  refine ⟨[.int (y * z), .int b, .int 0], ?_, _, _, _, rfl, yz.1, yz.2, b0, by omega, by decide, by decide⟩
  have fa : fAbs [.int cell] = some (.int m) := by rw [hm]; rfl
  have key : f__law_pot (ns.map .int) (.int k) = (Po.ok (.int cell) : Po D).bind fun (cell2 : D) =>
      (((fAbs [cell2]).bind fun t3 => ((dPow (.int 10) (.int 60)).bind fun t4 => dPow t4 (.int 5)).bind fun t5 => dMod t3 t5).bind fun t6 => (((fAbs [cell2]).bind fun t7 => (dPow (.int 10) (.int 18)).bind fun t8 => (dCmp fun i j => decide (j ≤ i)) t7 t8).bind fun t9 => fInt [t9]).bind fun t10 => dMulX t6 t10).po fun own =>
      ((((((dMod cell2 (.int 2305843009213693951)).bind fun t11 => dMulX t11 (.int 70991)).bind fun t12 => ((dMulX (.int 4001) (.int k)).bind fun t13 => dMulX t13 (.int k)).bind fun t14 => dAdd t12 t14).bind fun t15 => dAdd t15 (.int 71)).bind fun t16 => dMod t16 (.int 2305843009213693907)).bind fun t17 => some [own, t17, (.int 0)]).po fun t18 => .ok t18 := by
    unfold f__law_pot
    simp only [n0, Option.bind_some, d_add_i, po_some, d_cmp, toB_bool, List.length_map]
    by_cases hk2 : k < ns.length
    · have e1 : dIx (.list (ns.map .int)) (.int (k : Int)) = some (.int cell) := by
        rw [d_ix_l, atI_nat (by simpa using hk2)]
        simp [hc0, hk2]
      simp only [decide_eq_true (show (k : Int) < ns.length by omega), if_true, e1, po_some]
    · simp only [decide_eq_false (show ¬ (k : Int) < ns.length by omega), Bool.false_eq_true, if_false]
      rw [hc0, dif_neg hk2]
  rw [key]
  simp only [po_bind_ok, fa, Option.bind_some, p1, p2, p3, d1, d2, d_cmp, f_int_b, ← hz, n1, n2, n3, n4, d_add_i, d3, po_some]
  have hz2 : (if decide (10 ^ 18 ≤ m) = true then (1 : Int) else 0) = z := by rw [hz]; simp
  simp only [hz2, n1, po_some]
end ML
/-! PL3: streams; drawn words and streams. -/
namespace ML
open PySem L2
def small1 (g : Nat) : Prop := 97 ≤ g ∧ g ≤ 122
inductive Cmd where
  | lit (w : Str)
  | cpy (d n : Nat)
def cmdD : Cmd → D
  | .lit w => .tuple [.str "literal", .str w]
  | .cpy d n => .tuple [.str "copy", .int d, .int n]
def many : Cmd → Nat
  | .lit w => w.length
  | .cpy _ n => n
def reach (cs : List Cmd) : Nat := (cs.map many).sum
/-- a command behind r letters, words of at most l letters, copies of at most m -/
def CmdOk (l m r : Nat) : Cmd → Prop
  | .lit w => 1 ≤ w.length ∧ w.length ≤ l ∧ ∀ g ∈ w.cps.toList, small1 g
  | .cpy d n => 1 ≤ d ∧ d ≤ r ∧ 1 ≤ n ∧ n ≤ m
def StreamOk (l m : Nat) : Nat → List Cmd → Prop
  | _, [] => True
  | r, c :: cs => CmdOk l m r c ∧ StreamOk l m (r + many c) cs
def streamD (cs : List Cmd) : D := .tuple (cs.map cmdD)
@[simp] theorem reach_nil : reach [] = 0 := rfl
@[simp] theorem reach_cons {c : Cmd} {cs : List Cmd} : reach (c :: cs) = many c + reach cs := by simp [reach]
theorem reach_app (cs ds : List Cmd) : reach (cs ++ ds) = reach cs + reach ds := by simp [reach]
theorem CmdOk.many {l m r : Nat} {c : Cmd} (h : CmdOk l m r c) : 1 ≤ many c := by
  cases c with
  | lit w => exact h.1
  | cpy d n => exact h.2.2.1
theorem StreamOk.reach {l m : Nat} : ∀ {cs : List Cmd} {r : Nat}, StreamOk l m r cs → cs.length ≤ reach cs
  | [], _, _ => by simp
  | c :: cs, r, h => by
    have h1 := h.1.many
    have h2 := StreamOk.reach h.2
    rw [reach_cons, List.length_cons]
    omega

/-! a drawn word -/
theorem len_eq (w : Str) : w.length = w.cps.toList.length := by simp [Str.length]
section
variable {α : Type} {Q : α → Prop} {n : Nat} {pot : List D}
/-! a drawn stream -/
structure SInv (n : Nat) (m2 m3 : Int) (k : Nat) (s : List D × List D × D) : Prop where
  pot : PotOk (n + 1 + 20 * k) s.1
  ex : ∃ cs, s.2.1 = cs.map cmdD ∧ s.2.2 = .int (reach cs : Int) ∧ cs.length ≤ k ∧ StreamOk 4 m2.toNat 0 cs ∧ (reach cs : Int) ≤ m3
theorem ne_copy : (Str.ofString "copy" == Str.ofString "literal") = false := by decide +kernel
theorem len_str {w : Str} (h : w.length ≤ 16777216) : fLen [.str w] = some (.int w.length) := if_pos (by rw [sizeLine_eq]; omega)
end
end ML
/-! PL4: data that may be shown and compared; loops whose state the prefix tells. -/
namespace ML
open PySem L2
structure Bnd (k w : Nat) (d : D) : Prop where
  n : nice d = true
  k : d.depth ≤ k
  w : d.weight ≤ w
theorem Bnd.mono {k w k' w' : Nat} {d : D} (h : Bnd k w d) (h1 : k ≤ k') (h2 : w ≤ w') : Bnd k' w' d := ⟨h.n, Nat.le_trans h.k h1, Nat.le_trans h.w h2⟩
theorem bnd_bool {b : Bool} : Bnd 0 0 (.bool b) := ⟨rfl, Nat.le_refl _, Nat.le_refl _⟩
theorem bnd_int {i : Int} (h : i.natAbs < 10 ^ 39) : Bnd 0 130 (.int i) := by
  refine ⟨decide_eq_true h, Nat.le_refl _, ?_⟩
  show (if i == 0 then 0 else i.natAbs.log2 + 1) ≤ 130
  split
  · omega
  · by_cases h0 : i.natAbs = 0
    · rw [h0]; decide
    · have := (Nat.log2_lt h0).mpr (Nat.lt_of_lt_of_le h (by decide : (10:Nat) ^ 39 ≤ 2 ^ 130))
      omega
theorem bnd_all {k w : Nat} : ∀ {xs : List D}, (∀ x ∈ xs, Bnd k w x) → niceAll xs = true ∧ PyData.depthAll xs ≤ k ∧ PyData.weightAll xs ≤ xs.length * (w + 1)
  | [], _ => ⟨rfl, Nat.zero_le _, Nat.zero_le _⟩
  | x :: xs, h => by
    obtain ⟨h1, h2, h3⟩ := bnd_all (xs := xs) fun y hy => h y (by simp [hy])
    have hx := h x (by simp)
    refine ⟨Bool.and_eq_true_iff.mpr ⟨hx.n, h1⟩, Nat.max_le.mpr ⟨hx.k, h2⟩, ?_⟩
    show x.weight + 1 + PyData.weightAll xs ≤ (xs.length + 1) * (w + 1)
    have := hx.w
    rw [Nat.add_mul]
    omega
theorem bnd_list {k w n : Nat} {xs : List D} (h : ∀ x ∈ xs, Bnd k w x) (hl : xs.length ≤ n) : Bnd (k + 1) (n * (w + 1)) (.list xs) := by
  obtain ⟨h1, h2, h3⟩ := bnd_all h
  exact ⟨h1, Nat.succ_le_succ h2, Nat.le_trans h3 (Nat.mul_le_mul_right _ hl)⟩
theorem Bnd.repr {k w : Nat} {d : D} (h : Bnd k w d) (hk : k ≤ 64 := by decide) (hw : w ≤ 399000 := by decide) : fRepr [d] = some (.str d.shown) := repr_nice h.n (Nat.le_trans h.k hk) (Nat.le_trans h.w hw)
mutual
theorem eqv_self : ∀ d : D, nice d = true → PyData.eqv d d = true
  | .none, _ => rfl
  | .bool b, _ => by cases b <;> rfl
  | .int i, _ => by show (i == i) = true; simp
  | .str x, _ => by show (x == x) = true; simp
  | .list xs, h => eqv_selfAll xs h
  | .tuple xs, h => eqv_selfAll xs h
  | .dict _, h => by cases h
theorem eqv_selfAll : ∀ xs : List D, niceAll xs = true → PyData.eqvAll xs xs = true
  | [], _ => rfl
  | x :: r, h => by
    have h := Bool.and_eq_true_iff.mp (show (nice x && niceAll r) = true from h)
    exact Bool.and_eq_true_iff.mpr ⟨eqv_self x h.1, eqv_selfAll r h.2⟩
end
theorem Bnd.ne {k w : Nat} {d : D} (h : Bnd k w d) (hk : k ≤ 64 := by decide) : dNe d d = some (.bool false) := by
  rw [ne_nice h.n (Nat.le_trans h.k hk) h.n (Nat.le_trans h.k hk), eqv_self d h.n]
  rfl
theorem Bnd.eq {k w : Nat} {d : D} (h : Bnd k w d) (hk : k ≤ 64 := by decide) : dEq d d = some (.bool true) := by
  rw [eq_nice h.n (Nat.le_trans h.k hk) h.n (Nat.le_trans h.k hk), eqv_self d h.n]
@[simp] theorem ne_str_same {x : Str} : dNe (.str x) (.str x) = some (.bool false) := by simp
@[simp] theorem eq_str_same {x : Str} : dEq (.str x) (.str x) = some (.bool true) := by simp

/-! loops whose state is told by what was taken so far -/
section
variable {σ ρ α : Type} {enc : α → D}
theorem forN_pre {f : D → σ → Po σ} (G : List α → σ) : ∀ (post pre : List α), (∀ p x q, pre ++ post = p ++ x :: q → f (enc x) (G p) = .ok (G (p ++ [x]))) → forN f (post.map enc) (G pre) = .ok (G (pre ++ post))
  | [], pre, _ => by simp [forN]
  | x :: post, pre, h => by
    rw [List.map_cons, forN, h pre x post rfl, po_bind_ok, forN_pre G post (pre ++ [x]) (fun p y q e => h p y q (by simpa using e))]
    simp
theorem forN_of {f : D → σ → Po σ} {s : σ} (G : List α → σ) (xs : List α) (h0 : s = G []) (h : ∀ p x q, xs = p ++ x :: q → f (enc x) (G p) = .ok (G (p ++ [x]))) : forN f (xs.map enc) s = .ok (G xs) := by
  rw [h0, forN_pre G xs [] (by simpa using h)]
  rfl
def natD (k : Nat) : D := .int (k : Int)
/-- a comprehension over the numbers below n -/
theorem mapS_rng {f : D → Option D} (g : Nat → D) (n : Nat) (hn : n ≤ 16777216) (h : ∀ k, k < n → f (.int (k : Int)) = some (g k)) : mapS f (rngOf 0 (n : Int)) = some ((List.range n).map g) := by
  rw [rng_nat]
  exact mapS_eq (enc := natD) g (by simpa using hn) fun k hk => h k (by simpa using hk)
end
end ML
/-! PL5: the functions of streams.py; a text unpacked. -/
namespace ML
open PySem L2

def Tame : Cmd → Prop
  | .lit w => w.length ≤ 16777216
  | .cpy _ _ => True
theorem CmdOk.tame {l m r : Nat} {c : Cmd} (h : CmdOk l m r c) (hl : l ≤ 1000) : Tame c := by
  cases c with
  | lit w => have := h.2.1; show w.length ≤ 16777216; omega
  | cpy d n => trivial
theorem StreamOk.tame {l m : Nat} (hl : l ≤ 1000) : ∀ {cs : List Cmd} {r : Nat}, StreamOk l m r cs → ∀ c ∈ cs, Tame c
  | [], _, _, c, hc => nomatch hc
  | x :: cs, r, h, c, hc => by
    rcases List.mem_cons.mp hc with e | e
    · subst e
      exact h.1.tame hl
    · exact StreamOk.tame hl h.2 c e
theorem many_tame {c : Cmd} (hc : Tame c) : ifO (((dIx (cmdD c) (.int 0)).bind fun t => dEq t (.str "literal")).bind fun t => toB t) ((dIx (cmdD c) (.int 1)).bind fun t => fLen [t]) (dIx (cmdD c) (.int 2)) = some (.int (many c : Int)) := by
  cases c with
  | lit w =>
    have fl : fLen [.str w] = some (.int w.length) := len_str hc
    simp [cmdD, many, fl]
  | cpy x y => simp [cmdD, many, ne_copy]
theorem letters_ok {c : Cmd} (h : Tame c) : f_letters_of (cmdD c) = .ok (.int (many c : Int)) := by
  unfold f_letters_of
  rw [many_tame h]
  rfl
@[simp] theorem items_stream {cs : List Cmd} : itemsOf (streamD cs) = some (cs.map cmdD) := rfl
/-! pieces -/
def pcs : Nat → List Cmd → List (Nat × Nat × Cmd)
  | _, [] => []
  | s, c :: cs => (s, s + many c, c) :: pcs (s + many c) cs
def pcD (p : Nat × Nat × Cmd) : D := .tuple [.int (p.1 : Int), .int (p.2.1 : Int), cmdD p.2.2]
theorem pcs_len : ∀ (s : Nat) (cs : List Cmd), (pcs s cs).length = cs.length
  | _, [] => rfl
  | s, c :: cs => by simp [pcs, pcs_len]
theorem pcs_app : ∀ (s : Nat) (cs ds : List Cmd), pcs s (cs ++ ds) = pcs s cs ++ pcs (s + reach cs) ds
  | _, [], _ => by simp [pcs]
  | s, c :: cs, ds => by
    rw [List.cons_append, pcs, pcs_app, pcs, reach_cons]
    simp [Nat.add_assoc]
theorem pieces_ok {cs : List Cmd} (ht : ∀ c ∈ cs, Tame c) (hl : cs.length < 16777216) : f_pieces (streamD cs) = .ok ((pcs 0 cs).map pcD) := by
  unfold f_pieces
  rw [items_stream, po_some, forN_of (enc := cmdD) (σ := List D × D) (s := ([], .int 0)) (fun p => ((pcs 0 p).map pcD, .int (reach p : Int))) cs rfl fun p c q e => ?_]
  · rfl
  · have h1 := ht c (by rw [e]; simp)
    have h2 : p.length < cs.length := by rw [e]; simp
    simp only [letters_ok h1, po_toO_ok, Option.bind_some, d_add_i, po_some, d_aug_i]
    rw [push_ok (by rw [List.length_map, pcs_len]; omega)]
    simp only [pcs_app, List.map_append, reach_app]
    simp [pcs, pcD]
/-! a text unpacked -/
/-- the sources of a command's letters that stand behind s -/
def seg (s : Nat) : Cmd → List (Option Nat)
  | .lit w => List.replicate w.length none
  | .cpy d n => (List.range n).map fun t => some (s - d + t % d)
def sf : Nat → List Cmd → List (Option Nat)
  | _, [] => []
  | s, c :: cs => seg s c ++ sf (s + many c) cs
def srcD : Option Nat → D
  | none => .none
  | some i => .int (i : Int)
/-- the letters with a command's behind them -/
def lay (L : List Nat) : Cmd → List Nat
  | .lit w => L ++ w.cps.toList
  | .cpy d n => L ++ (List.range n).map fun t => L.getD (L.length - d + t % d) 0
def text (cs : List Cmd) : List Nat := cs.foldl lay []
theorem seg_len (s : Nat) (c : Cmd) : (seg s c).length = many c := by cases c <;> simp [seg, many]
theorem sf_len : ∀ (s : Nat) (cs : List Cmd), (sf s cs).length = reach cs
  | _, [] => rfl
  | s, c :: cs => by simp [sf, seg_len, sf_len]
theorem lay_len (L : List Nat) (c : Cmd) : (lay L c).length = L.length + many c := by cases c <;> simp [lay, many, len_eq]
theorem neg1 : dNeg (.int 1) = some (.int (-1)) := rfl
theorem at_last {α : Type} (xs : List α) (x : α) : atI (xs ++ [x]) (-1 : Int) = some x := by
  unfold atI ixN
  rw [if_neg (by decide), if_pos (by simp; omega)]
  have e : ((-1 : Int) + ((xs ++ [x]).length : Int)).toNat = xs.length := by
    rw [List.length_append, List.length_singleton]
    omega
  show (some _).bind _ = _
  rw [Option.bind_some, e]
  simp
theorem src_cast {s d t : Nat} (h : d ≤ s) : (s : Int) - (d : Int) + (t : Int) % (d : Int) = ((s - d + t % d : Nat) : Int) := by
  rw [Int.natCast_add, Int.natCast_emod]
  omega
end ML
/-! PL6: the laws' turns; enlarged streams. -/
namespace ML
open PySem L2
/-- how often a law goes through the script's cells -/
theorem turns_ok (M : Nat) (hM : 1 ≤ M) (n : Nat) : ∃ m : Nat, 1 ≤ m ∧ m ≤ M ∧ ((fMin [.int (M : Int), .int (n : Int)]).bind fun t => fMax [.int 1, t]) = some (.int (m : Int)) := by
  refine ⟨max 1 (min M n), by omega, by omega, ?_⟩
  rw [f_min]
  dsimp only [Option.bind]
  rw [f_max]
  congr 2
  split <;> split <;> omega
theorem rng_ok {m : Nat} (h : m < 2 ^ 62) : range1O (.int (m : Int)) = some (rngOf 0 (m : Int)) := range1_int (by omega)
theorem rng_getN {m k : Nat} {d : D} (h : (rngOf 0 (m : Int))[k]? = some d) : d = .int (k : Int) ∧ k < m := by
  obtain ⟨h1, h2⟩ := rng_get h
  exact ⟨h1, by omega⟩
/-! enlarged -/
def one (g : Nat) : Str := ⟨#[g]⟩
/-! law pieces -/
end ML
/-! PL7: reading: pieces, sources, chains. -/
namespace ML
open PySem L2
def srcC (a : Nat) : Cmd → Nat → Option Nat
  | .lit _, _ => none
  | .cpy d _, p => some (a - d + (p - a) % d)
def inP (p : Nat) (q : Nat × Nat × Cmd) : Bool := decide (q.1 ≤ p) && decide (p < q.2.1)
theorem pcs_late : ∀ (s : Nat) (cs : List Cmd) (p : Nat), p < s → (pcs s cs).filter (inP p) = []
  | _, [], _, _ => rfl
  | s, c :: cs, p, h => by
    rw [pcs, List.filter_cons_of_neg (by simp [inP]; omega), pcs_late _ cs p (by omega)]
theorem foldl_lay : ∀ (cs : List Cmd) (L : List Nat) (i : Nat), i < L.length → (cs.foldl lay L)[i]? = L[i]?
  | [], _, _, _ => rfl
  | c :: cs, L, i, h => by
    rw [List.foldl_cons, foldl_lay cs _ i (by rw [lay_len]; omega)]
    cases c with
    | lit w => simp [lay, List.getElem?_append_left h]
    | cpy d n => simp [lay, List.getElem?_append_left h]
def LetOk (F : List Nat) (p a : Nat) : Cmd → Prop
  | .lit w => F[p]? = w.cps.toList[p - a]?
  | .cpy d _ => F[p]? = F[a - d + (p - a) % d]?
/-- the piece of a position, and what stands there -/
structure At (l m : Nat) (L : List Nat) (s : Nat) (cs : List Cmd) (p a : Nat) (c : Cmd) : Prop where
  fil : (pcs s cs).filter (inP p) = [(a, a + many c, c)]
  lo : a ≤ p
  hi : p < a + many c
  ok : CmdOk l m a c
  src : (sf s cs)[p - s]? = some (srcC a c p)
  let_ : LetOk (cs.foldl lay L) p a c
theorem at_of {l m : Nat} : ∀ (cs : List Cmd) (L : List Nat) (s p : Nat), s = L.length → StreamOk l m s cs → s ≤ p → p < s + reach cs → ∃ a c, At l m L s cs p a c
  | [], L, s, p, _, _, h1, h2 => by rw [reach_nil] at h2; omega
  | c :: cs, L, s, p, hs, ho, h1, h2 => by
    rw [reach_cons] at h2
    by_cases hp : p < s + many c
    · refine ⟨s, c, ?_, h1, hp, ho.1, ?_, ?_⟩
      · rw [pcs, List.filter_cons_of_pos (by simp [inP]; omega), pcs_late _ cs p hp]
      · rw [sf, List.getElem?_append_left (by rw [seg_len]; omega)]
        cases c with
        | lit w =>
          have : many (.lit w) = w.length := rfl
          simp [seg, srcC, List.getElem?_replicate]
          omega
        | cpy d n =>
          have : many (.cpy d n) = n := rfl
          simp [seg, srcC]
          rw [List.getElem?_range (by omega)]
          exact ⟨_, rfl, rfl⟩
      · have pre : ∀ i, i < s + many c → ((c :: cs).foldl lay L)[i]? = (lay L c)[i]? := fun i hi => by
          rw [List.foldl_cons, foldl_lay cs _ i (by rw [lay_len]; omega)]
        cases c with
        | lit w =>
          unfold LetOk
          dsimp only
          rw [pre p hp]
          show (L ++ w.cps.toList)[p]? = _
          rw [List.getElem?_append_right (by omega), hs]
        | cpy d n =>
          have hm : many (.cpy d n) = n := rfl
          obtain ⟨d1, d2, n1, n2⟩ := ho.1
          unfold LetOk
          dsimp only
          have hlt : s - d + (p - s) % d < s := by
            have := Nat.mod_lt (p - s) (show 0 < d by omega)
            omega
          rw [pre p hp, pre _ (by omega)]
          show (L ++ _)[p]? = (L ++ _)[_]?
          rw [List.getElem?_append_right (by omega), List.getElem?_append_left (by omega), List.getElem?_map, List.getElem?_range (by omega)]
          rw [Option.map_some, List.getD_eq_getElem?_getD, ← hs, List.getElem?_eq_getElem (l := L) (by omega)]
          rfl
    · obtain ⟨a, d, h⟩ := at_of cs (lay L c) (s + many c) p (by rw [lay_len]; omega) ho.2 (by omega) (by omega)
      refine ⟨a, d, ?_, h.lo, h.hi, h.ok, ?_, h.let_⟩
      · rw [pcs, List.filter_cons_of_neg (by simp [inP]; omega)]
        exact h.fil
      · rw [sf, List.getElem?_append_right (by rw [seg_len]; omega), seg_len]
        have := h.src
        rwa [Nat.sub_sub]
/-- the source of a position -/
def src (cs : List Cmd) (p : Nat) : Option Nat := ((sf 0 cs)[p]?).getD none
theorem At.src_eq {l m : Nat} {L : List Nat} {cs : List Cmd} {p a : Nat} {c : Cmd} (h : At l m L 0 cs p a c) : ML.src cs p = srcC a c p := by
  have h1 := h.src
  simp only [Nat.sub_zero] at h1
  unfold ML.src
  rw [h1]
  rfl
theorem cond_in {p : Nat} {q : Nat × Nat × Cmd} : (((dIx (pcD q) (.int 0)).bind fun t2 => chO (dCmp fun i j => decide (i ≤ j)) (dCmp fun i j => decide (i < j)) t2 (.int (p : Int)) (dIx (pcD q) (.int 1))).bind fun t3 => toB t3) = some (inP p q) := by
  simp only [pcD, d_ix_t, at0, at1, Option.bind_some, chO, d_cmp]
  by_cases h : q.1 ≤ p
  · simp only [decide_eq_true (show (q.1 : Int) ≤ (p : Int) by omega), Option.bind_some, toB_bool, inP, decide_eq_true h, Bool.true_and]
    congr 1
    simp
  · simp only [decide_eq_false (show ¬ (q.1 : Int) ≤ (p : Int) by omega), Option.bind_some, toB_bool, inP, decide_eq_false h, Bool.false_and]
theorem piece_ok {l m : Nat} {L : List Nat} {cs : List Cmd} {p a : Nat} {c : Cmd} (ht : ∀ c ∈ cs, Tame c) (hl : cs.length < 16777216) (h : At l m L 0 cs p a c) : f_piece_at (streamD cs) (.int (p : Int)) = .ok (pcD (a, a + many c, c)) := by
  unfold f_piece_at
  rw [pieces_ok ht hl, po_toL_ok, Option.bind_some, i_of_l, Option.bind_some]
  rw [compS_eq (enc := pcD) (inP p) pcD (by rw [pcs_len]; omega) fun q _ => ?_]
  · rw [h.fil]
    simp
  · rw [cond_in, keepO_some]
    cases inP p q <;> rfl
theorem literal_ok {c : Cmd} : f_is_literal (cmdD c) = .ok (.bool (match c with | .lit _ => true | .cpy _ _ => false)) := by
  cases c with
  | lit w => simp [f_is_literal, cmdD]
  | cpy d n => simp [f_is_literal, cmdD, ne_copy]
theorem source_ok {l m : Nat} {L : List Nat} {cs : List Cmd} {p a : Nat} {c : Cmd} (ht : ∀ c ∈ cs, Tame c) (hl : cs.length < 16777216) (h : At l m L 0 cs p a c) : f_source (streamD cs) (.int (p : Int)) = .ok (srcD (src cs p)) := by
  unfold f_source
  rw [piece_ok ht hl h]
  have hs : ML.src cs p = srcC a c p := by
    have := h.src
    simp only [Nat.sub_zero] at this
    unfold src
    rw [this]
    rfl
  rw [hs]
  simp only [po_toO_ok, po_some, pcD, pn3_t, literal_ok, Option.bind_some, toB_bool, ifO_some]
  cases c with
  | lit w => simp [srcC, srcD]
  | cpy d n =>
    obtain ⟨d1, d2, n1, n2⟩ := h.ok
    have hlo := h.lo
    simp only [Bool.false_eq_true, if_false, cmdD, d_ix_t, at1, Option.bind_some, d_sub_i]
    rw [show (p : Int) - (a : Int) = ((p - a : Nat) : Int) by omega, d_mod_i (by omega)]
    simp only [Option.bind_some, d_add_i, po_some, src_cast d2, srcC, srcD]
/-! chains -/
def chainF (S : Nat → Option Nat) : Nat → Nat → List Nat
  | 0, p => [p]
  | f + 1, p => match S p with
    | none => [p]
    | some q => p :: chainF S f q
def Falls (S : Nat → Option Nat) : Prop := ∀ p q, S p = some q → q < p
theorem chainF_more {S : Nat → Option Nat} (h : Falls S) : ∀ (f p : Nat), p ≤ f → chainF S f p = chainF S p p := by
  intro f
  induction f using Nat.strongRecOn with
  | ind f ih =>
    intro p hp
    by_cases e : p = f
    · rw [e]
    · cases f with
      | zero => omega
      | succ f =>
        cases p with
        | zero =>
          show (match S 0 with | none => [0] | some q => 0 :: chainF S f q) = [0]
          cases hs : S 0 with
          | none => rfl
          | some q => have := h _ _ hs; omega
        | succ p =>
          show (match S (p + 1) with | none => [p + 1] | some q => (p + 1) :: chainF S f q) = (match S (p + 1) with | none => [p + 1] | some q => (p + 1) :: chainF S p q)
          cases hs : S (p + 1) with
          | none => rfl
          | some q =>
            have := h _ _ hs
            dsimp only
            rw [ih f (by omega) q (by omega), ih p (by omega) q (by omega)]
def chain (S : Nat → Option Nat) (p : Nat) : List Nat := chainF S p p
theorem chain_none {S : Nat → Option Nat} {p : Nat} (h : S p = none) : chain S p = [p] := by
  unfold chain
  cases p with
  | zero => rfl
  | succ p =>
    show (match S (p + 1) with | none => [p + 1] | some q => (p + 1) :: chainF S p q) = _
    rw [h]
theorem chain_some {S : Nat → Option Nat} (hF : Falls S) {p q : Nat} (h : S p = some q) : chain S p = p :: chain S q := by
  have hq := hF _ _ h
  unfold chain
  cases p with
  | zero => omega
  | succ p =>
    show (match S (p + 1) with | none => [p + 1] | some q => (p + 1) :: chainF S p q) = _
    rw [h]
    dsimp only
    rw [chainF_more hF p q (by omega)]
theorem chain_ne {S : Nat → Option Nat} {p : Nat} : chain S p ≠ [] := by
  unfold chain
  cases p with
  | zero => simp [chainF]
  | succ p =>
    show (match S (p + 1) with | none => [p + 1] | some q => (p + 1) :: chainF S p q) ≠ []
    cases S (p + 1) <;> simp
/-- the end of a chain -/
theorem chain_ind {S : Nat → Option Nat} (hF : Falls S) (P : Nat → Prop) (h0 : ∀ p, S p = none → P p) (h1 : ∀ p q, S p = some q → P q → P p) : ∀ p, P p := by
  intro p
  induction p using Nat.strongRecOn with
  | ind p ih =>
    cases h : S p with
    | none => exact h0 p h
    | some q => exact h1 p q h (ih q (hF _ _ h))
def origin (S : Nat → Option Nat) (p : Nat) : Nat := (chain S p).getLast chain_ne
theorem origin_none {S : Nat → Option Nat} {p : Nat} (h : S p = none) : origin S p = p := by
  unfold origin
  simp [chain_none h]
theorem origin_some {S : Nat → Option Nat} (hF : Falls S) {p q : Nat} (h : S p = some q) : origin S p = origin S q := by
  unfold origin
  simp only [chain_some hF h]
  rw [List.getLast_cons chain_ne]
theorem origin_src {S : Nat → Option Nat} (hF : Falls S) : ∀ p, S (origin S p) = none :=
  chain_ind hF _ (fun p h => by rw [origin_none h]; exact h) fun p q h ih => by rw [origin_some hF h]; exact ih
theorem origin_le {S : Nat → Option Nat} (hF : Falls S) : ∀ p, origin S p ≤ p :=
  chain_ind hF _ (fun p h => by rw [origin_none h]; exact Nat.le_refl _) fun p q h ih => by rw [origin_some hF h]; have := hF _ _ h; omega
theorem chain_len {S : Nat → Option Nat} (hF : Falls S) : ∀ p, (chain S p).length ≤ p + 1 :=
  chain_ind hF _ (fun p h => by rw [chain_none h]; simp) fun p q h ih => by rw [chain_some hF h]; have := hF _ _ h; simp; omega
theorem src_falls {l m : Nat} {cs : List Cmd} (ho : StreamOk l m 0 cs) : Falls (src cs) := fun p q h => by
  by_cases hp : p < reach cs
  · obtain ⟨a, c, ha⟩ := at_of cs [] 0 p rfl ho (Nat.zero_le _) (by omega)
    have := ha.src
    simp only [Nat.sub_zero] at this
    unfold src at h
    rw [this] at h
    cases c with
    | lit w => cases h
    | cpy d n =>
      obtain ⟨d1, d2, n1, n2⟩ := ha.ok
      have hlo := ha.lo
      have := Nat.mod_lt (p - a) (show 0 < d by omega)
      cases h
      omega
  · unfold src at h
    rw [List.getElem?_eq_none_iff.mpr (by rw [sf_len]; omega)] at h
    cases h
/-- following, by a while -/
theorem follow_ok {S : Nat → Option Nat} (hF : Falls S) {t : List D → Po (Bool × List D)} {f : List D → Po (List D)} {p : Nat} (hp : p < 10 ^ 30) (hlen : (chain S p).length < 16777216)
    (ht : ∀ pre x, x ≤ p → t ((pre ++ [x]).map natD) = .ok ((S x).isSome, (pre ++ [x]).map natD)) (hf : ∀ pre x q, x ≤ p → pre.length + 1 < 16777216 → S x = some q → f ((pre ++ [x]).map natD) = .ok ((pre ++ [x] ++ [q]).map natD)) : whileN t f fuel [natD p] = .ok ((chain S p).map natD) := by
  refine Wp.out ?_
  refine whileN_inv (fun s => ∃ pre x, s = (pre ++ [x]).map natD ∧ x ≤ p ∧ pre ++ chain S x = chain S p) (fun s => (match s.getLast? with | some (.int i) => i.toNat | _ => 0)) (fun s => s = (chain S p).map natD) ?_ fuel _ ?_ ⟨[], p, rfl, Nat.le_refl _, by simp⟩
  · rintro s ⟨pre, x, rfl, hx, hc⟩
    have hl : pre.length + (chain S x).length < 16777216 := by
      rw [← List.length_append, hc]
      exact hlen
    have hl2 : 0 < (chain S x).length := List.length_pos_iff.mpr chain_ne
    rw [ht pre x hx, wp_ok]
    dsimp only
    cases hs : S x with
    | none =>
      rw [Option.isSome_none, if_neg (by decide), ← hc, chain_none hs]
    | some q =>
      have hq := hF _ _ hs
      rw [Option.isSome_some, if_pos rfl]
      rw [hf pre x q hx (by omega) hs]
      refine ⟨⟨pre ++ [x], q, rfl, by omega, ?_⟩, ?_⟩
      · rw [← hc, chain_some hF hs]
        simp
      · simp [natD]
        omega
  · show (match [natD p].getLast? with | some (.int i) => i.toNat | _ => 0) < fuel
    exact fuel_big (by simp [natD]; omega)
/-! the functions of reading.py -/
theorem last_natD (pre : List Nat) (x : Nat) : ((dNeg (.int 1)).bind fun t => dIx (.list ((pre ++ [x]).map natD)) t) = some (natD x) := by
  rw [neg1, Option.bind_some, List.map_append]
  exact at_last _ _
theorem notN_src {o : Option Nat} : ((dNotN (srcD o) .none).bind fun t => toB t) = some o.isSome := by cases o <;> rfl
structure Rd (l m : Nat) (cs : List Cmd) : Prop where
  ok : StreamOk l m 0 cs
  l : l ≤ 1000
  n : cs.length < 16777000
theorem Rd.tame {l m : Nat} {cs : List Cmd} (h : Rd l m cs) : ∀ c ∈ cs, Tame c := h.ok.tame h.l
theorem Rd.at {l m : Nat} {cs : List Cmd} (h : Rd l m cs) {p : Nat} (hp : p < reach cs) : ∃ a c, At l m [] 0 cs p a c := at_of cs [] 0 p rfl h.ok (Nat.zero_le _) (by omega)
theorem Rd.source {l m : Nat} {cs : List Cmd} (h : Rd l m cs) {p : Nat} (hp : p < reach cs) : f_source (streamD cs) (.int (p : Int)) = .ok (srcD (src cs p)) := by
  obtain ⟨a, c, ha⟩ := h.at hp
  exact source_ok h.tame (by have := h.n; omega) ha
theorem Rd.falls {l m : Nat} {cs : List Cmd} (h : Rd l m cs) : Falls (src cs) := src_falls h.ok
/-- the letter of a position is that of its source -/
theorem Rd.let_src {l m : Nat} {cs : List Cmd} (h : Rd l m cs) {p q : Nat} (hp : p < reach cs) (hs : src cs p = some q) : (text cs)[p]? = (text cs)[q]? := by
  obtain ⟨a, c, ha⟩ := h.at hp
  have h1 := ha.src
  simp only [Nat.sub_zero] at h1
  unfold src at hs
  rw [h1] at hs
  have h2 := ha.let_
  cases c with
  | lit w => cases hs
  | cpy d n =>
    cases hs
    exact h2
theorem Rd.let_origin {l m : Nat} {cs : List Cmd} (h : Rd l m cs) : ∀ p, p < reach cs → (text cs)[p]? = (text cs)[origin (src cs) p]? :=
  chain_ind h.falls _ (fun p hs _ => by rw [origin_none hs]) fun p q hs ih hp => by
    have := h.falls _ _ hs
    rw [origin_some h.falls hs, h.let_src hp hs]
    exact ih (by omega)
theorem Rd.small {l m : Nat} {cs : List Cmd} (h : Rd l m cs) {p g : Nat} (hp : p < reach cs) (hg : (text cs)[p]? = some g) : small1 g := by
  rw [h.let_origin p hp] at hg
  have ho := origin_le h.falls p
  obtain ⟨a, c, ha⟩ := h.at (p := origin (src cs) p) (by omega)
  have hs := origin_src h.falls p
  rw [ha.src_eq] at hs
  cases c with
  | cpy d n => cases hs
  | lit w =>
    have h3 : (text cs)[origin (src cs) p]? = w.cps.toList[origin (src cs) p - a]? := ha.let_
    rw [hg] at h3
    exact ha.ok.2.2 g (List.mem_of_getElem? h3.symm)
/-- a law's own way through the sources -/
theorem src_at {cs : List Cmd} {p : Nat} (hp : p < reach cs) : dIx (.list ((sf 0 cs).map srcD)) (natD p) = some (srcD (src cs p)) := by
  rw [natD, d_ix_l, atI_nat (by rw [List.length_map, sf_len]; exact hp), List.getElem_map]
  unfold src
  rw [List.getElem?_eq_getElem (by rw [sf_len]; exact hp)]
  rfl
theorem Rd.way {l m : Nat} {cs : List Cmd} (h : Rd l m cs) {p : Nat} (hp : p < reach cs) (hb : reach cs ≤ 16777000) : f__law_way (.list ((sf 0 cs).map srcD)) (.int (p : Int)) = .ok ((chain (src cs) p).map natD) := by
  unfold f__law_way
  have := chain_len h.falls p
  rw [show [PyData.int (p : Int)] = [natD p] from rfl, follow_ok h.falls (p := p) (by omega) (by omega) (fun pre x hx => ?_) fun pre x q hx hl hs => ?_]
  · rfl
  · rw [last_natD, Option.bind_some, src_at (by omega), Option.bind_some, notN_src, po_some]
  · rw [last_natD, Option.bind_some, src_at (by omega), po_some, hs, push_ok (by simp; omega)]
    simp [natD, srcD]
end ML
/-! PL8: position sets. -/
namespace ML
open PySem L2
abbrev PS := List (Int × Int)
def psD (ps : PS) : D := .tuple (ps.map pairD)
def inPS (ps : PS) (x : Int) : Prop := ∃ p ∈ ps, p.1 ≤ x ∧ x ≤ p.2
def Val (ps : PS) : Prop := ∀ p ∈ ps, p.1 ≤ p.2
/-- ends below a bound -/
def In (B : Int) (ps : PS) : Prop := ∀ p ∈ ps, -B ≤ p.1 ∧ p.1 ≤ B ∧ -B ≤ p.2 ∧ p.2 ≤ B
def NF : PS → Prop
  | [] => True
  | p :: r => p.1 ≤ p.2 ∧ (∀ q ∈ r, p.2 + 2 ≤ q.1) ∧ NF r
theorem inPS_nil {x : Int} : ¬ inPS [] x := fun ⟨_, h, _⟩ => nomatch h
theorem inPS_cons {p : Int × Int} {ps : PS} {x : Int} : inPS (p :: ps) x ↔ (p.1 ≤ x ∧ x ≤ p.2) ∨ inPS ps x := by
  unfold inPS
  simp
theorem NF.val : ∀ {ps : PS}, NF ps → Val ps
  | [], _, p, hp => nomatch hp
  | q :: r, h, p, hp => by
    rcases List.mem_cons.mp hp with e | e
    · subst e; exact h.1
    · exact NF.val h.2.2 p e
/-! merged -/
def mgo : Int × Int → PS → PS
  | p, [] => [p]
  | p, q :: r => if q.1 ≤ p.2 + 1 then mgo (p.1, max p.2 q.2) r else p :: mgo q r
def mrg (ps : PS) : PS := match sortP ps with
  | [] => []
  | p :: r => mgo p r
end ML
/-! PL9: what chains pass. -/
namespace ML
open PySem L2
@[simp] theorem items_ps {ps : PS} : itemsOf (psD ps) = some (ps.map pairD) := rfl
@[simp] theorem lt_ps {ps : PS} : ltItems (psD ps) = some (ps.map pairD) := rfl
/-! clipped -/
def clp (a b : Int) (ps : PS) : PS := (ps.map fun p => (max p.1 a, min p.2 b)).filter fun p => decide (p.1 ≤ p.2)
/-! union -/
/-! folded -/
def fld (lo hi s d : Int) : PS :=
  if d ≤ hi - lo + 1 then [(s - d, s - 1)]
  else if (lo - s) % d ≤ (hi - s) % d then [(s - d + (lo - s) % d, s - d + (hi - s) % d)]
  else [(s - d, s - d + (hi - s) % d), (s - d + (lo - s) % d, s - 1)]
/-- the sources of what lies within a copy -/
def flds (s d : Int) (ps : PS) : PS := ps.flatMap fun p => fld p.1 p.2 s d
end ML
/-! PL10: passed_from, passed, origins. -/
namespace ML
open PySem L2
/-! chains, by their members -/
/-! the source within a piece -/
/-! the loop, from the last piece to the first -/
def pstep (F : PS) (q : Nat × Nat × Cmd) : PS := match q.2.2 with
  | .lit _ => F
  | .cpy d _ => mrg (F ++ flds (q.1 : Int) (d : Int) (clp (q.1 : Int) ((q.2.1 : Int) - 1) F))
def pf (F0 : PS) : Nat → List Cmd → PS
  | _, [] => F0
  | s, c :: cs => pstep (pf F0 (s + many c) cs) (s, s + many c, c)
/-- well made -/
structure Wm (n : Nat) (B : Int) (F : PS) : Prop where
  v : Val F
  b : ∀ p ∈ F, 0 ≤ p.1 ∧ p.2 ≤ B
  l : F.length ≤ n
theorem Wm.in {n : Nat} {B C : Int} {F : PS} (h : Wm n B F) (hB : B ≤ C) : In C F := fun p hp => by
  have := h.v p hp
  have := h.b p hp
  omega
theorem StreamOk.tail {l m : Nat} : ∀ {cs1 cs2 : List Cmd} {r : Nat}, StreamOk l m r (cs1 ++ cs2) → StreamOk l m (r + ML.reach cs1) cs2
  | [], _, _, h => by simpa using h
  | c :: cs1, cs2, r, h => by
    have := StreamOk.tail (cs1 := cs1) h.2
    rw [reach_cons]
    rwa [Nat.add_assoc] at this
/-! what it has -/
end ML
/-! PL11: ranges, origins, clean positions. -/
namespace ML
open PySem L2
/-- the chains of a range, as a set -/
def pass (cs : List Cmd) (a b : Nat) : PS := pf (if a < b then [((a : Int), (b : Int) - 1)] else []) 0 cs
/-! origins -/
/-! clean positions -/
end ML
/-! PL12: common, outside, difference, unneeded. -/
namespace ML
open PySem L2
/-! scanning -/
/-! common -/
def rest (f : Int) (other : PS) : PS := other.dropWhile fun o => decide (o.2 < f)
def skip (f : Int) (other : PS) : Nat := (other.takeWhile fun o => decide (o.2 < f)).length
end ML
/-! PL13: outside, difference, unneeded; how sets are told. -/
namespace ML
open PySem L2
/-! answers told by any normal form -/
end ML
/-! PL14: the laws' own sets of positions, their texts and ranges. -/
namespace ML
open PySem L2
def ggo : Int × Int → List Int → PS
  | p, [] => [p]
  | p, x :: r => if p.2 = x - 1 then ggo (p.1, x) r else p :: ggo (x, x) r
def lset (is : List Int) : PS := match dsort is with
  | [] => []
  | x :: r => ggo (x, x) r
theorem ggo_spec : ∀ (r : List Int) (p : Int × Int), p.1 ≤ p.2 → (p.2 :: r).Pairwise (· < ·) → (∀ x, inPS (ggo p r) x ↔ (p.1 ≤ x ∧ x ≤ p.2) ∨ x ∈ r) ∧ NF (ggo p r) ∧ (∀ q ∈ ggo p r, p.1 ≤ q.1) ∧ (ggo p r).length ≤ r.length + 1
  | [], p, h, _ => by
    refine ⟨fun x => ?_, ⟨h, by simp [ggo], trivial⟩, by simp [ggo], by simp [ggo]⟩
    rw [ggo, inPS_cons]
    simp [inPS_nil]
  | x :: r, p, h, hs => by
    have h1 := List.pairwise_cons.mp hs
    have h2 := List.pairwise_cons.mp h1.2
    have hx := h1.1 x (by simp)
    rw [ggo]
    split
    · rename_i e
      obtain ⟨i1, i2, i3, i4⟩ := ggo_spec r (p.1, x) (by dsimp only; omega) h1.2
      refine ⟨fun y => ?_, i2, i3, by rw [List.length_cons]; omega⟩
      rw [i1, List.mem_cons]
      dsimp only
      constructor
      · rintro (z | z)
        · by_cases c : y = x
          · exact .inr (.inl c)
          · exact .inl (by omega)
        · exact .inr (.inr z)
      · rintro (z | z | z)
        · exact .inl (by omega)
        · exact .inl (by omega)
        · exact .inr z
    · rename_i e
      obtain ⟨i1, i2, i3, i4⟩ := ggo_spec r (x, x) (Int.le_refl _) h1.2
      refine ⟨fun y => ?_, ⟨h, fun q hq => ?_, i2⟩, fun q hq => ?_, by rw [List.length_cons, List.length_cons]; omega⟩
      · rw [inPS_cons, i1, List.mem_cons]
        dsimp only
        constructor
        · rintro (z | z | z)
          · exact .inl z
          · exact .inr (.inl (by omega))
          · exact .inr (.inr z)
        · rintro (z | z | z)
          · exact .inl z
          · exact .inr (.inl (by omega))
          · exact .inr (.inr z)
      · have := i3 q hq
        dsimp only at this
        omega
      · rcases List.mem_cons.mp hq with z | z
        · subst z; exact Int.le_refl _
        · have := i3 q z
          dsimp only at this
          omega
theorem lset_spec (is : List Int) : NF (lset is) ∧ (∀ x, inPS (lset is) x ↔ x ∈ is) ∧ (lset is).length ≤ is.length := by
  have hl := dsort_len is
  have hp := dsort_pw is
  have hm : ∀ x, x ∈ dsort is ↔ x ∈ is := fun x => dsort_mem
  unfold lset
  cases e : dsort is with
  | nil =>
    rw [e] at hm hl
    refine ⟨trivial, fun x => ?_, by simp⟩
    rw [← hm]
    simp [inPS_nil]
  | cons y r =>
    rw [e] at hm hl hp
    obtain ⟨i1, i2, _, i4⟩ := ggo_spec r (y, y) (Int.le_refl _) hp
    refine ⟨i2, fun x => ?_, by rw [List.length_cons] at hl; exact Nat.le_trans i4 hl⟩
    dsimp only
    rw [i1, ← hm, List.mem_cons]
    dsimp only
    constructor
    · rintro (z | z)
      · exact .inl (by omega)
      · exact .inr z
    · rintro (z | z)
      · exact .inl (by omega)
      · exact .inr z
end ML
/-! PL15: the laws' texts and ranges; streams that may be shown. -/
namespace ML
open PySem L2
variable {n : Nat} {pot : List D} {α : Type} {Q : α → Prop}
end ML
/-! PL16: short chains, literal positions, sets put together. -/
namespace ML
open PySem L2
/-! chains are short -/
end ML
/-! PL17: union, common, difference told by any normal form. -/
namespace ML
open PySem L2
end ML
/-! PL18: passed_by: the positions of all chains of a range, as a dict. -/
namespace ML
open PySem L2
structure WalkI (cs : List Cmd) (ns : List Nat) (p : Nat) (ms : List Nat) (o : Option Nat) : Prop where
  nd : ms.Nodup
  lt : ∀ n ∈ ms, n < reach cs
  cl : ∀ n ∈ ms, ∀ q, src cs n = some q → q ∈ ms ∨ o = some q
  mem : ∀ x, (x ∈ ms ∨ ∃ q, o = some q ∧ x ∈ chain (src cs) q) ↔ x ∈ ns ∨ x ∈ chain (src cs) p
  ol : ∀ q, o = some q → q < reach cs
structure Closed (cs : List Cmd) (ms : List Nat) : Prop where
  nd : ms.Nodup
  lt : ∀ n ∈ ms, n < reach cs
  cl : ∀ n ∈ ms, ∀ q, src cs n = some q → q ∈ ms
end ML
/-! PL19: parts of a text with their heights: parts_within, part_with, with_part. -/
namespace ML
open PySem L2
abbrev Part := Int × Int × Int × Int
abbrev HF := Int → Int × Int
/-- the parts of a to b, in order, each of one height and one jump -/
def Rep (f : HF) : Int → Int → List Part → Prop
  | a, b, [] => a = b + 1
  | a, b, p :: r => p.1 = a ∧ p.1 ≤ p.2.1 ∧ (∀ x, p.1 ≤ x → x ≤ p.2.1 → f x = p.2.2) ∧ Rep f (p.2.1 + 1) b r
theorem nodup_sub {α : Type} [DecidableEq α] : ∀ {l S : List α}, l.Nodup → (∀ x ∈ l, x ∈ S) → l.length ≤ S.length
  | [], _, _, _ => Nat.zero_le _
  | x :: r, S, h, hs => by
    obtain ⟨h1, h2⟩ := List.nodup_cons.mp h
    have hx := hs x (by simp)
    have := nodup_sub (l := r) (S := S.erase x) h2 fun y hy => by
      refine (List.mem_erase_of_ne (fun z => ?_)).mpr (hs y (by simp [hy]))
      subst z
      exact h1 hy
    rw [List.length_erase_of_mem hx] at this
    have : 0 < S.length := List.length_pos_of_mem hx
    simp only [List.length_cons]
    omega
/-! ### parts_within -/
/-! ### part_with -/
end ML
/-! PL20: with_part, lifted, with_lifted. -/
namespace ML
open PySem L2
/-! ### with_part -/
end ML
/-! PL21: lifted, with_lifted. -/
namespace ML
open PySem L2
/-- the source of a position of a copy -/
def fo (s d y : Int) : Int := s - d + (y - s) % d
def lpe (s d : Int) (p : Part) : Int := p.1 + d - 1 - (p.1 - s) % d
def lla (d : Int) (p : Part) : Int := min p.2.1 (p.1 + d - 1)
def lbo (s d : Int) (p : Part) : List (Int × Int) := [(p.1, min (lla d p) (lpe s d p)), (lpe s d p + 1, lla d p)]
def lone (s d : Int) (p : Part) (r : Int × Int) : Part := (fo s d r.1, fo s d r.1 + r.2 - r.1, p.2.2.1 + 1, r.1 - fo s d r.1)
def lift (s d : Int) (p : Part) : List Part := ((lbo s d p).filter fun r => decide (r.1 ≤ r.2)).map (lone s d p)
structure LiftOk (s d : Int) (p : Part) : Prop where
  mem : ∀ o ∈ lift s d p, s - d ≤ o.1 ∧ o.1 ≤ o.2.1 ∧ o.2.1 ≤ s - 1 ∧ o.2.2.1 = p.2.2.1 + 1 ∧ ∀ x, o.1 ≤ x → x ≤ o.2.1 → p.1 ≤ x + o.2.2.2 ∧ x + o.2.2.2 ≤ p.2.1 ∧ fo s d (x + o.2.2.2) = x
  cov : ∀ y, p.1 ≤ y → y ≤ p.2.1 → ∃ o ∈ lift s d p, o.1 ≤ fo s d y ∧ fo s d y ≤ o.2.1
  sta : ∀ o ∈ lift s d p, (o.1 = s - d ∨ o.1 = fo s d p.1) ∧ (o.2.1 + 1 = s ∨ o.2.1 + 1 = fo s d p.1 ∨ o.2.1 + 1 = fo s d (p.2.1 + 1))
/-! ### with_lifted -/
/-- f, raised by the pieces P, is g -/
structure Eff (P : List Part) (f g : HF) : Prop where
  up : ∀ x, (f x).1 ≤ (g x).1
  of : ∀ x, g x = f x ∨ ∃ o ∈ P, o.1 ≤ x ∧ x ≤ o.2.1 ∧ g x = o.2.2
  al : ∀ o ∈ P, ∀ x, o.1 ≤ x → x ≤ o.2.1 → o.2.2.1 ≤ (g x).1
end ML
/-! PL22: split_parts. -/
namespace ML
open PySem L2
inductive Mode where
  | num (k : Int)
  | idx (I : PS)
def Mode.n : Mode → D
  | .num k => .int k
  | .idx _ => .none
def Mode.i : Mode → D
  | .num _ => .none
  | .idx I => psD I
/-- stored -/
def St : Mode → Int × Int → Int → Prop
  | .num k, v, _ => v.1 = k
  | .idx I, _, x => inPS I x
def Mode.nf : Mode → Prop
  | .num _ => True
  | .idx I => NF I ∧ I.length < 4000
def Mode.ends : Mode → List Int
  | .num _ => []
  | .idx I => I.map (·.1) ++ I.map (·.2 + 1)
structure SubOk (P : Int → Prop) (T : List Int) (p : Part) (g : PS) : Prop where
  mem : ∀ x, inPS g x ↔ (p.1 ≤ x ∧ x ≤ p.2.1) ∧ P x
  nf : NF g
  sta : ∀ r ∈ g, (r.1 = p.1 ∨ r.1 ∈ T) ∧ (r.2 = p.2.1 ∨ r.2 + 1 ∈ T)
structure LabOk (f : HF) (a b : Int) (P : Int → Prop) (T : List Int) (ps os : List Part) : Prop where
  mem : ∀ x, (∃ o ∈ os, o.1 ≤ x ∧ x ≤ o.2.1) ↔ (a ≤ x ∧ x ≤ b) ∧ P x
  of : ∀ o ∈ os, o.1 ≤ o.2.1 ∧ a ≤ o.1 ∧ o.2.1 ≤ b ∧ ∀ x, o.1 ≤ x → x ≤ o.2.1 → f x = o.2.2
  ord : os.Pairwise fun a b => a.2.1 < b.1
  sta : ∀ o ∈ os, ((∃ p ∈ ps, o.1 = p.1) ∨ o.1 ∈ T) ∧ ((∃ p ∈ ps, o.2.1 = p.2.1) ∨ o.2.1 + 1 ∈ T)
theorem LabOk.len {f : HF} {a b : Int} {P : Int → Prop} {T S : List Int} {ps os : List Part} (h : LabOk f a b P T ps os) (h1 : ∀ p ∈ ps, p.1 ∈ S) (h2 : ∀ t ∈ T, t ∈ S) : os.length ≤ S.length := by
  have nd : (os.map (·.1)).Nodup := by
    refine List.pairwise_map.mpr (h.ord.imp_of_mem fun {x y} hx hy hxy => ?_)
    have := (h.of x hx).1
    omega
  have := nodup_sub (l := os.map (·.1)) (S := S) nd fun x hx => by
    obtain ⟨o, ho, rfl⟩ := List.mem_map.mp hx
    rcases (h.sta o ho).1 with ⟨p, hp, e⟩ | e
    · rw [e]; exact h1 p hp
    · exact h2 _ e
  rwa [List.length_map] at this
end ML
/-! PL23: parted: the heights of all positions, and what is stored. -/
namespace ML
open PySem L2
/-- the heights that the positions from s on give -/
structure HI (cs : List Cmd) (m : Mode) (s : Nat) (f : HF) : Prop where
  nn : ∀ x, 0 ≤ (f x).1
  up : ∀ y q : Nat, s ≤ y → src cs y = some q → ¬ St m (f y) y → (f y).1 + 1 ≤ (f q).1
  dn : ∀ q : Nat, (f q).1 = 0 ∨ ∃ y : Nat, s ≤ y ∧ src cs y = some q ∧ ¬ St m (f y) y ∧ (f y).1 + 1 = (f q).1 ∧ (y : Int) = q + (f q).2
/-- what is stored of the positions from s on -/
structure SI (cs : List Cmd) (m : Mode) (s : Nat) (f : HF) (st : List Part) : Prop where
  mem : ∀ x : Int, (∃ o ∈ st, o.1 ≤ x ∧ x ≤ o.2.1) ↔ ∃ y : Nat, x = y ∧ s ≤ y ∧ src cs y ≠ none ∧ St m (f y) y
  sh : ∀ o ∈ st, o.1 ≤ o.2.1 ∧ ∀ x, o.1 ≤ x → x ≤ o.2.1 → f x = o.2.2
  dj : st.Pairwise fun a b => b.2.1 < a.1 ∨ a.2.1 < b.1
def nS (S : List Int) (s : Int) : Cmd → List Int
  | .lit _ => S
  | .cpy d n => if d = 1 then S ++ [s - 1, s] else S ++ [s - d, s] ++ (S ++ [s + n]).map (fo s d)
def gs (T : List Int) : Nat → List Cmd → List Int
  | _, [] => T
  | s, c :: r => nS (gs T (s + many c) r) s c
def fr (f g : HF) (a b : Int) : HF := fun x => if a ≤ x ∧ x ≤ b then g x else f x
end ML
/-! PL24: parted, as the program reckons it. -/
namespace ML
open PySem L2
structure PI (cs : List Cmd) (m : Mode) (T : List Int) (G : Nat) (cs1 cs2 : List Cmd) (ps st : List Part) (f : HF) : Prop where
  e : cs = cs1 ++ cs2
  rep : Rep f 0 ((reach cs : Int) - 1) ps
  sta : ∀ p ∈ ps, p.1 ∈ gs T (reach cs1) cs2
  hi : HI cs m (reach cs1) f
  si : SI cs m (reach cs1) f st
  len : st.length ≤ cs2.length * G
end ML
/-! PL25: heights, in plain words: they are unique; how they lie beside one another; the least index is small. -/
namespace ML
open PySem L2
/-- the heights that the positions from s on give; A v y: y, of height v, is stored -/
structure H0 (S : Nat → Option Nat) (A : Int → Nat → Prop) (s : Nat) (h : Nat → Int) : Prop where
  nn : ∀ q, 0 ≤ h q
  up : ∀ y q : Nat, s ≤ y → S y = some q → ¬ A (h y) y → h y + 1 ≤ h q
  dn : ∀ q : Nat, h q = 0 ∨ ∃ y : Nat, s ≤ y ∧ S y = some q ∧ ¬ A (h y) y ∧ h y + 1 = h q
def SA (m : Mode) (v : Int) (y : Nat) : Prop := St m (v, 0) y
theorem st_sa {m : Mode} {v : Int × Int} {y : Nat} : St m v y ↔ SA m v.1 y := by cases m <;> exact Iff.rfl
theorem HI.h0 {cs : List Cmd} {m : Mode} {f : HF} (h : HI cs m 0 f) : H0 (src cs) (SA m) 0 (fun q => (f q).1) :=
  ⟨fun q => h.nn q, fun y q _ h1 h2 => h.up y q (Nat.zero_le _) h1 (fun z => h2 (st_sa.mp z)), fun q => by
    rcases h.dn q with z | ⟨y, y1, y2, y3, y4, _⟩
    · exact .inl z
    · exact .inr ⟨y, y1, y2, fun z => y3 (st_sa.mpr z), y4⟩⟩
section
variable {S : Nat → Option Nat} {A : Int → Nat → Prop} {R : Nat} {h g : Nat → Int}
end
/-- numbers as what is stored -/
abbrev NA (k : Int) : Int → Nat → Prop := fun v _ => v = k
section
variable {S : Nat → Option Nat} {R : Nat} {h g : Nat → Int} {k k' : Int}
def iter (S : Nat → Option Nat) : Nat → Nat → Option Nat
  | 0, z => some z
  | i + 1, z => (iter S i z).bind S
end

/-! ### the least index -/
end ML
/-! PL26: heights and steps as the laws reckon them, position by position. -/
namespace ML
open PySem L2
def hAt (H : List Int) (q : Nat) : Int := H[q]?.getD 0
structure LH (cs : List Cmd) (k : Int) (s : Nat) (H : List Int) (ch : List Nat) : Prop where
  len : H.length = reach cs
  h0 : H0 (src cs) (NA k) s (hAt H)
  nd : ch.Nodup
  mem : ∀ x, x ∈ ch ↔ s ≤ x ∧ src cs x ≠ none ∧ hAt H x = k
/-! ### steps -/
/-- how many steps with what is stored by B -/
structure TS (S : Nat → Option Nat) (B : Nat → Bool) (t : Nat → Nat) : Prop where
  z : ∀ p, S p = none ∨ B p = true → t p = 0
  s : ∀ p q, S p = some q → B p = false → t p = t q + 1
end ML
/-! PL27: the least index of a small stream, told by the law's own heights. -/
namespace ML
open PySem L2
end ML
/-! PL28: sizes of position sets and of least indexes; least_number. -/
namespace ML
open PySem L2
end ML
/-! PL29: is_enough, by steps; indexes as laws draw them. -/
namespace ML
open PySem L2
section
variable {S : Nat → Option Nat} {R : Nat} {h : Nat → Int} {B : Nat → Bool} {t : Nat → Nat}
end
def inB (I : PS) (y : Nat) : Bool := I.any fun p => decide (p.1 ≤ (y : Int)) && decide ((y : Int) ≤ p.2)
theorem nf_half : ∀ {ps : PS} {lo hi : Int}, NF ps → (∀ p ∈ ps, lo ≤ p.1 ∧ p.2 ≤ hi) → lo ≤ hi + 2 → 2 * (ps.length : Int) ≤ hi - lo + 2
  | [], lo, hi, _, _, h => by simp; omega
  | p :: r, lo, hi, ⟨h1, h2, h3⟩, hb, _ => by
    have a := hb p (by simp)
    have := nf_half (ps := r) (lo := p.2 + 2) (hi := hi) h3 (fun q hq => ⟨by have := h2 q hq; omega, (hb q (by simp [hq])).2⟩) (by omega)
    simp only [List.length_cons]
    omega
/-! ### the laws' ways with indexes -/
end ML
/-! PL30: the steps of the law's own dict of an index. -/
namespace ML
open PySem L2
/-- an index of a small text -/
structure IxOk (R : Nat) (I : PS) : Prop where
  nf : NF I
  b : ∀ x, inPS I x → 0 ≤ x ∧ x < R
theorem IxOk.pairs {R : Nat} {I : PS} (h : IxOk R I) : ∀ p ∈ I, 0 ≤ p.1 ∧ p.2 < R := fun p hp => by
  have hv := h.nf.val p hp
  have a := h.b p.1 ⟨p, hp, Int.le_refl _, hv⟩
  have b := h.b p.2 ⟨p, hp, hv, Int.le_refl _⟩
  omega
theorem IxOk.len {R : Nat} {I : PS} (h : IxOk R I) : 2 * I.length ≤ R + 1 := by
  have := nf_half (lo := 0) (hi := (R : Int) - 1) h.nf (fun p hp => by have := h.pairs p hp; omega) (by omega)
  omega
theorem IxOk.inn {R : Nat} {I : PS} (h : IxOk R I) (hR : R ≤ 10 ^ 37) : In (10 ^ 38) I := fun p hp => by
  have := h.pairs p hp
  have := h.nf.val p hp
  omega
theorem IxOk.nil {R : Nat} : IxOk R [] := ⟨trivial, fun x hx => (inPS_nil hx).elim⟩
theorem IxOk.lset {R : Nat} {is : List Int} (h : ∀ i ∈ is, 0 ≤ i ∧ i < R) : IxOk R (lset is) := by
  obtain ⟨l1, l2, _⟩ := lset_spec is
  exact ⟨l1, fun x hx => h x ((l2 x).mp hx)⟩
end ML
/-! PL31: indexes as the laws draw them. -/
namespace ML
open PySem L2
section
variable {α : Type} {Q : α → Prop} {n : Nat} {pot : List D}
end
end ML
/-! PL32: what a least index is worth; streams cut short; steps with an index. -/
namespace ML
open PySem L2
section
variable {S S' : Nat → Option Nat} {R : Nat} {h g : Nat → Int} {k k' : Int} {A : Int → Nat → Prop} {B : Nat → Bool} {t : Nat → Nat}
end

/-! ### streams cut short -/
end ML
/-! PL33: passes of streams with many copies of distance 1. -/
namespace ML
open PySem L2
end ML
/-! PL34: the sources of an enlarged text. -/
namespace ML
open PySem L2
/-! ### chains of an enlarged text -/
section
variable {l m f : Nat} {cs : List Cmd}
end
end ML
/-! PX1: plain Lean about raised and caught exceptions, values of any kind. -/
namespace ML
open PySem L2
mutual
theorem plain_of : ∀ d : D, d.hasDict = false → plainD d = true
  | .none, _ => rfl
  | .bool _, _ => rfl
  | .int _, _ => rfl
  | .str _, _ => rfl
  | .list xs, h => plain_all xs (by simpa [PyData.hasDict] using h)
  | .tuple xs, h => plain_all xs (by simpa [PyData.hasDict] using h)
  | .dict _, h => by simp [PyData.hasDict] at h
theorem plain_all : ∀ xs : List D, PyData.hasDictAll xs = false → plainAll xs = true
  | [], _ => rfl
  | x :: r, h => by
    have h : x.hasDict = false ∧ PyData.hasDictAll r = false := by simpa [PyData.hasDictAll] using h
    exact Bool.and_eq_true_iff.mpr ⟨plain_of x h.1, plain_all r h.2⟩
end
theorem reprX_of {d s : D} (h : fRepr [d] = some s) : fReprX [d] = some s := by
  unfold fRepr at h
  unfold fReprX
  dsimp only at h ⊢
  split at h
  · rename_i c
    rw [if_pos ⟨plain_of d c.2.1, c.1, c.2.2.1, c.2.2.2⟩]
    exact h
  · cases h
theorem Bnd.reprX {k w : Nat} {d : D} (h : Bnd k w d) (hk : k ≤ 64 := by decide) (hw : w ≤ 399000 := by decide) : fReprX [d] = some (.str d.shown) := reprX_of (h.repr hk hw)
/-- a value of any kind: no exception, and it may be shown -/
structure Odd (d : D) : Prop where
  nx : isX d = false
  sh : fReprX [d] = some (.str d.shown)
  bt : Bnd 64 399000 d ∨ isTupD d = false
theorem isX_hd {d : D} (h : d.hasDict = false) : isX d = false := by
  cases d <;> first | rfl | (simp [PyData.hasDict] at h)
theorem Odd.of {k w : Nat} {d : D} (h : Bnd k w d) (hk : k ≤ 64 := by decide) (hw : w ≤ 399000 := by decide) : Odd d := ⟨isX_hd (PyData.hasDict_of_canLay d (nice_lay d h.n)), h.reprX hk hw, .inl ⟨h.n, Nat.le_trans h.k hk, Nat.le_trans h.w hw⟩⟩
end ML
/-! PX2: streams cut short: their text, shortened. -/
namespace ML
open PySem L2
end ML
/-! PX3: is_word, is_command, is_stream of rows that have the form of streams; joined. -/
namespace ML
open PySem L2
/-- a row in the form of a command -/
inductive CI where
  | lit (w : Str)
  | cpy (d n : Int)
def abc : Str := "abcdefghijklmnopqrstuvwxyz"
end ML
/-! PX4: position sets among values of any kind. -/
namespace ML
open PySem L2
/-! data with small numbers, no dicts -/
mutual
def tiny (m : Nat) : D → Bool
  | .none => true
  | .bool _ => true
  | .int i => decide (i.natAbs ≤ m)
  | .str x => PyData.strOk x
  | .list xs => tinyAll m xs
  | .tuple xs => tinyAll m xs
  | .dict _ => false
def tinyAll (m : Nat) : List D → Bool
  | [] => true
  | x :: r => tiny m x && tinyAll m r
end
theorem tinyAll_mem {m : Nat} : ∀ {xs : List D}, tinyAll m xs = true ↔ ∀ x ∈ xs, tiny m x = true
  | [] => by simp [tinyAll]
  | x :: r => by simp [tinyAll, tinyAll_mem (xs := r)]
mutual
theorem tiny_nice {m : Nat} (hm : m < 10 ^ 39) : ∀ d : D, tiny m d = true → nice d = true
  | .none, _ => rfl
  | .bool _, _ => rfl
  | .int i, h => decide_eq_true (Nat.lt_of_le_of_lt (of_decide_eq_true h) hm)
  | .str x, h => h
  | .list xs, h => tiny_niceAll hm xs h
  | .tuple xs, h => tiny_niceAll hm xs h
  | .dict _, h => by cases h
theorem tiny_niceAll {m : Nat} (hm : m < 10 ^ 39) : ∀ xs : List D, tinyAll m xs = true → niceAll xs = true
  | [], _ => rfl
  | x :: r, h => by
    have h := Bool.and_eq_true_iff.mp (show (tiny m x && tinyAll m r) = true from h)
    exact Bool.and_eq_true_iff.mpr ⟨tiny_nice hm x h.1, tiny_niceAll hm r h.2⟩
end
mutual
theorem tiny_mono {m m' : Nat} (hm : m ≤ m') : ∀ d : D, tiny m d = true → tiny m' d = true
  | .none, _ => rfl
  | .bool _, _ => rfl
  | .int i, h => decide_eq_true (Nat.le_trans (of_decide_eq_true h) hm)
  | .str x, h => h
  | .list xs, h => tiny_monoAll hm xs h
  | .tuple xs, h => tiny_monoAll hm xs h
  | .dict _, h => by cases h
theorem tiny_monoAll {m m' : Nat} (hm : m ≤ m') : ∀ xs : List D, tinyAll m xs = true → tinyAll m' xs = true
  | [], _ => rfl
  | x :: r, h => by
    have h := Bool.and_eq_true_iff.mp (show (tiny m x && tinyAll m r) = true from h)
    exact Bool.and_eq_true_iff.mpr ⟨tiny_mono hm x h.1, tiny_monoAll hm r h.2⟩
end
theorem depthAll_le {k : Nat} : ∀ {xs : List D}, PyData.depthAll xs ≤ k ↔ ∀ x ∈ xs, x.depth ≤ k
  | [] => by simp [PyData.depthAll]
  | x :: r => by
    show max x.depth (PyData.depthAll r) ≤ k ↔ _
    rw [Nat.max_le, depthAll_le (xs := r)]
    simp
structure T (m k w : Nat) (d : D) : Prop where
  t : tiny m d = true
  k : d.depth ≤ k
  w : d.weight ≤ w
section
variable {m m' k k' w w' : Nat} {d : D}
theorem T.mono (h : T m k w d) (hm : m ≤ m') (hk : k ≤ k') (hw : w ≤ w') : T m' k' w' d := ⟨tiny_mono hm d h.t, Nat.le_trans h.k hk, Nat.le_trans h.w hw⟩
theorem T.bnd (h : T m k w d) (hm : m < 10 ^ 39) : Bnd k w d := ⟨tiny_nice hm d h.t, h.k, h.w⟩
theorem t_tup {xs : List D} (ht : ∀ x ∈ xs, tiny m x = true) (hk : ∀ x ∈ xs, x.depth ≤ k) (hw : PyData.weightAll xs ≤ w) : T m (k + 1) w (.tuple xs) := ⟨tinyAll_mem.mpr ht, Nat.succ_le_succ (depthAll_le.mpr hk), hw⟩
theorem T.elems {xs : List D} (h : T m k w (.tuple xs)) : (∀ x ∈ xs, tiny m x = true) ∧ (∀ x ∈ xs, x.depth + 1 ≤ k) ∧ PyData.weightAll xs ≤ w := by
  refine ⟨tinyAll_mem.mp h.t, fun x hx => ?_, h.w⟩
  have h1 : PyData.depthAll xs + 1 ≤ k := h.k
  have := depthAll_le.mp (Nat.le_refl (PyData.depthAll xs)) x hx
  omega
/-- a row of elements of it, each a few times -/
theorem T.some {xs ys : List D} (h : T m k w (.tuple xs)) (hs : ∀ y ∈ ys, y ∈ xs) (hw : PyData.weightAll ys ≤ w') : T m k w' (.tuple ys) := by
  obtain ⟨h1, h2, h3⟩ := h.elems
  by_cases hk : k = 0
  · have : (PyData.tuple xs).depth ≤ k := h.k
    have e : (PyData.tuple xs).depth = PyData.depthAll xs + 1 := rfl
    omega
  · rw [show k = (k - 1) + 1 by omega]
    exact t_tup (fun y hy => h1 y (hs y hy)) (fun y hy => by have := h2 y (hs y hy); omega) hw
end
end ML
/-! PX5: the same for data that may hold empty dicts. -/
namespace ML
open PySem L2
/-! data with small numbers, no dicts -/
mutual
def soft (m : Nat) : D → Bool
  | .none => true
  | .bool _ => true
  | .int i => decide (i.natAbs ≤ m)
  | .str x => PyData.strOk x
  | .list xs => softAll m xs
  | .tuple xs => softAll m xs
  | .dict kvs => kvs.isEmpty
def softAll (m : Nat) : List D → Bool
  | [] => true
  | x :: r => soft m x && softAll m r
end
theorem softAll_mem {m : Nat} : ∀ {xs : List D}, softAll m xs = true ↔ ∀ x ∈ xs, soft m x = true
  | [] => by simp [softAll]
  | x :: r => by simp [softAll, softAll_mem (xs := r)]
mutual
theorem soft_mono {m m' : Nat} (hm : m ≤ m') : ∀ d : D, soft m d = true → soft m' d = true
  | .none, _ => rfl
  | .bool _, _ => rfl
  | .int i, h => decide_eq_true (Nat.le_trans (of_decide_eq_true h) hm)
  | .str x, h => h
  | .list xs, h => soft_monoAll hm xs h
  | .tuple xs, h => soft_monoAll hm xs h
  | .dict _, h => h
theorem soft_monoAll {m m' : Nat} (hm : m ≤ m') : ∀ xs : List D, softAll m xs = true → softAll m' xs = true
  | [], _ => rfl
  | x :: r, h => by
    have h := Bool.and_eq_true_iff.mp (show (soft m x && softAll m r) = true from h)
    exact Bool.and_eq_true_iff.mpr ⟨soft_mono hm x h.1, soft_monoAll hm r h.2⟩
end
structure U (m k w : Nat) (d : D) : Prop where
  t : soft m d = true
  k : d.depth ≤ k
  w : d.weight ≤ w
section
variable {m m' k k' w w' : Nat} {d : D}
theorem U.mono (h : U m k w d) (hm : m ≤ m') (hk : k ≤ k') (hw : w ≤ w') : U m' k' w' d := ⟨soft_mono hm d h.t, Nat.le_trans h.k hk, Nat.le_trans h.w hw⟩
theorem u_tup {xs : List D} (ht : ∀ x ∈ xs, soft m x = true) (hk : ∀ x ∈ xs, x.depth ≤ k) (hw : PyData.weightAll xs ≤ w) : U m (k + 1) w (.tuple xs) := ⟨softAll_mem.mpr ht, Nat.succ_le_succ (depthAll_le.mpr hk), hw⟩
theorem U.elems {xs : List D} (h : U m k w (.tuple xs)) : (∀ x ∈ xs, soft m x = true) ∧ (∀ x ∈ xs, x.depth + 1 ≤ k) ∧ PyData.weightAll xs ≤ w := by
  refine ⟨softAll_mem.mp h.t, fun x hx => ?_, h.w⟩
  have h1 : PyData.depthAll xs + 1 ≤ k := h.k
  have := depthAll_le.mp (Nat.le_refl (PyData.depthAll xs)) x hx
  omega
theorem u_int {i : Int} (h : i.natAbs ≤ m) (hm : m < 10 ^ 39) : U m 0 130 (.int i) := ⟨decide_eq_true h, Nat.le_refl _, (bnd_int (i := i) (by omega)).w⟩
/-- a row of elements of it, each a few times -/
theorem U.some {xs ys : List D} (h : U m k w (.tuple xs)) (hs : ∀ y ∈ ys, y ∈ xs) (hw : PyData.weightAll ys ≤ w') : U m k w' (.tuple ys) := by
  obtain ⟨h1, h2, h3⟩ := h.elems
  by_cases hk : k = 0
  · have : (PyData.tuple xs).depth ≤ k := h.k
    have e : (PyData.tuple xs).depth = PyData.depthAll xs + 1 := rfl
    omega
  · rw [show k = (k - 1) + 1 by omega]
    exact u_tup (fun y hy => h1 y (hs y hy)) (fun y hy => by have := h2 y (hs y hy); omega) hw
end

mutual
theorem soft_show {m : Nat} (hm : m < 10 ^ 39) : ∀ d : D, soft m d = true → d.showable = true
  | .none, _ => rfl
  | .bool _, _ => rfl
  | .int i, h => by
    have h := of_decide_eq_true (show decide (i.natAbs ≤ m) = true from h)
    exact decide_eq_true (Nat.lt_trans (log_39 (i := i) (by omega)) (by decide))
  | .str _, _ => rfl
  | .list xs, h => soft_showAll hm xs h
  | .tuple xs, h => soft_showAll hm xs h
  | .dict kvs, h => by
    cases kvs with
    | nil => rfl
    | cons _ _ => cases h
theorem soft_showAll {m : Nat} (hm : m < 10 ^ 39) : ∀ xs : List D, softAll m xs = true → PyData.showableAll xs = true
  | [], _ => rfl
  | x :: r, h => by
    have h := Bool.and_eq_true_iff.mp (show (soft m x && softAll m r) = true from h)
    exact Bool.and_eq_true_iff.mpr ⟨soft_show hm x h.1, soft_showAll hm r h.2⟩
end
mutual
theorem soft_plain {m : Nat} : ∀ d : D, soft m d = true → plainD d = true
  | .none, _ => rfl
  | .bool _, _ => rfl
  | .int i, h => rfl
  | .str _, _ => rfl
  | .list xs, h => soft_plainAll xs h
  | .tuple xs, h => soft_plainAll xs h
  | .dict kvs, h => by
    cases kvs with
    | nil => rfl
    | cons _ _ => cases h
theorem soft_plainAll {m : Nat} : ∀ xs : List D, softAll m xs = true → plainAll xs = true
  | [], _ => rfl
  | x :: r, h => by
    have h := Bool.and_eq_true_iff.mp (show (soft m x && softAll m r) = true from h)
    exact Bool.and_eq_true_iff.mpr ⟨soft_plain x h.1, soft_plainAll r h.2⟩
end
mutual
theorem soft_short {m : Nat} (hm : m < 10 ^ 39) : ∀ d : D, soft m d = true → d.leavesShort 40 = true
  | .none, _ => rfl
  | .bool _, _ => rfl
  | .int i, h => by
    have h := of_decide_eq_true (show decide (i.natAbs ≤ m) = true from h)
    exact nice_short (.int i) (decide_eq_true (by omega))
  | .str x, h => PyData.leavesShort_of_canLay0 40 (.str x) h rfl
  | .list xs, h => soft_shortAll hm xs h
  | .tuple xs, h => soft_shortAll hm xs h
  | .dict kvs, h => by
    cases kvs with
    | nil => rfl
    | cons _ _ => cases h
theorem soft_shortAll {m : Nat} (hm : m < 10 ^ 39) : ∀ xs : List D, softAll m xs = true → PyData.leavesShortAll 40 xs = true
  | [], _ => rfl
  | x :: r, h => by
    have h := Bool.and_eq_true_iff.mp (show (soft m x && softAll m r) = true from h)
    exact Bool.and_eq_true_iff.mpr ⟨soft_short hm x h.1, soft_shortAll hm r h.2⟩
end
end ML
/-! PX6: data with texts of plain letters, bounded numbers, empty dicts. -/
namespace ML
open PySem L2
def ascS (s : Nat) (x : Str) : Bool := decide (x.length ≤ s) && x.cps.toList.all fun c => decide (c < 128)
mutual
def asc (m s : Nat) : D → Bool
  | .none => true
  | .bool _ => true
  | .int i => decide (i.natAbs ≤ m)
  | .str x => ascS s x
  | .list xs => ascAll m s xs
  | .tuple xs => ascAll m s xs
  | .dict kvs => kvs.isEmpty
def ascAll (m s : Nat) : List D → Bool
  | [] => true
  | x :: r => asc m s x && ascAll m s r
end
theorem ascAll_mem {m s : Nat} : ∀ {xs : List D}, ascAll m s xs = true ↔ ∀ x ∈ xs, asc m s x = true
  | [] => by simp [ascAll]
  | x :: r => by simp [ascAll, ascAll_mem (xs := r)]
theorem ascS_mono {s s' : Nat} {x : Str} (h : s ≤ s') (hx : ascS s x = true) : ascS s' x = true := by
  unfold ascS at *
  rw [Bool.and_eq_true, decide_eq_true_iff] at *
  exact ⟨Nat.le_trans hx.1 h, hx.2⟩
section
variable {m m' s s' : Nat}
mutual
theorem asc_mono (hm : m ≤ m') (hs : s ≤ s') : ∀ d : D, asc m s d = true → asc m' s' d = true
  | .none, _ => rfl
  | .bool _, _ => rfl
  | .int i, h => decide_eq_true (Nat.le_trans (of_decide_eq_true h) hm)
  | .str x, h => ascS_mono hs h
  | .list xs, h => asc_monoAll hm hs xs h
  | .tuple xs, h => asc_monoAll hm hs xs h
  | .dict _, h => h
theorem asc_monoAll (hm : m ≤ m') (hs : s ≤ s') : ∀ xs : List D, ascAll m s xs = true → ascAll m' s' xs = true
  | [], _ => rfl
  | x :: r, h => by
    have h := Bool.and_eq_true_iff.mp (show (asc m s x && ascAll m s r) = true from h)
    exact Bool.and_eq_true_iff.mpr ⟨asc_mono hm hs x h.1, asc_monoAll hm hs r h.2⟩
end
end
structure As (m s k w : Nat) (d : D) : Prop where
  t : asc m s d = true
  k : d.depth ≤ k
  w : d.weight ≤ w
section
variable {m m' s s' k k' w w' : Nat} {d : D}
theorem As.mono (h : As m s k w d) (hm : m ≤ m') (hs : s ≤ s') (hk : k ≤ k') (hw : w ≤ w') : As m' s' k' w' d := ⟨asc_mono hm hs d h.t, Nat.le_trans h.k hk, Nat.le_trans h.w hw⟩
theorem a_tup {xs : List D} (ht : ∀ x ∈ xs, asc m s x = true) (hk : ∀ x ∈ xs, x.depth ≤ k) (hw : PyData.weightAll xs ≤ w) : As m s (k + 1) w (.tuple xs) := ⟨ascAll_mem.mpr ht, Nat.succ_le_succ (depthAll_le.mpr hk), hw⟩
theorem As.elems {xs : List D} (h : As m s k w (.tuple xs)) : (∀ x ∈ xs, asc m s x = true) ∧ (∀ x ∈ xs, x.depth + 1 ≤ k) ∧ PyData.weightAll xs ≤ w := by
  refine ⟨ascAll_mem.mp h.t, fun x hx => ?_, h.w⟩
  have h1 : PyData.depthAll xs + 1 ≤ k := h.k
  have := depthAll_le.mp (Nat.le_refl (PyData.depthAll xs)) x hx
  omega
theorem As.row {xs ys : List D} (h : As m s k w (.tuple xs)) (hs : ∀ y ∈ ys, y ∈ xs) (hw : PyData.weightAll ys ≤ w') : As m s k w' (.tuple ys) := by
  obtain ⟨h1, h2, h3⟩ := h.elems
  by_cases hk : k = 0
  · have : (PyData.tuple xs).depth ≤ k := h.k
    have e : (PyData.tuple xs).depth = PyData.depthAll xs + 1 := rfl
    omega
  · rw [show k = (k - 1) + 1 by omega]
    exact a_tup (fun y hy => h1 y (hs y hy)) (fun y hy => by have := h2 y (hs y hy); omega) hw
end
end ML
/-! PX7: values that may be shown, dicts among them; whether two values are a range. -/
namespace ML
open PySem L2
/-- a value that may be shown, in lists and tuples, too -/
structure Sh (k w : Nat) (d : D) : Prop where
  pl : plainD d = true
  sh : d.showable = true
  dp : d.depth ≤ k
  ls : d.leavesShort 40 = true
  w : d.weight ≤ w
section
variable {k w k' w' n : Nat} {d a b : D} {xs : List D}
theorem Sh.mono (h : Sh k w d) (hk : k ≤ k') (hw : w ≤ w') : Sh k' w' d := ⟨h.pl, h.sh, Nat.le_trans h.dp hk, h.ls, Nat.le_trans h.w hw⟩
theorem Sh.repr (h : Sh k w d) (hk : k ≤ 100 := by decide) (hw : w ≤ 9000 := by decide) : fReprX [d] = some (.str d.shown) := by
  have s := PyData.shown_le 40 (by decide) d h.ls
  have h1 := h.w
  have hs : d.shown.length ≤ sizeLine := by
    rw [sizeLine_eq]
    omega
  unfold fReprX
  exact if_pos ⟨h.pl, h.sh, Nat.le_trans h.dp hk, hs⟩
theorem sh_all : ∀ {xs : List D}, (∀ x ∈ xs, Sh k w x) → plainAll xs = true ∧ PyData.showableAll xs = true ∧ PyData.depthAll xs ≤ k ∧ PyData.leavesShortAll 40 xs = true ∧ PyData.weightAll xs ≤ xs.length * (w + 1)
  | [], _ => ⟨rfl, rfl, Nat.zero_le _, rfl, Nat.zero_le _⟩
  | x :: r, h => by
    have hx := h x List.mem_cons_self
    obtain ⟨a1, a2, a3, a4, a5⟩ := sh_all (xs := r) fun y hy => h y (List.mem_cons_of_mem _ hy)
    refine ⟨by simp [plainAll, hx.pl, a1], by simp [PyData.showableAll, hx.sh, a2], ?_, by simp [PyData.leavesShortAll, hx.ls, a4], ?_⟩
    · have := hx.dp
      simp [PyData.depthAll]
      omega
    · have := hx.w
      have e : (x :: r).length * (w + 1) = r.length * (w + 1) + (w + 1) := Nat.succ_mul _ _
      rw [e]
      simp [PyData.weightAll]
      omega
theorem sh_tup (h : ∀ x ∈ xs, Sh k w x) (hn : xs.length ≤ n) : Sh (k + 1) (n * (w + 1)) (.tuple xs) := by
  obtain ⟨a1, a2, a3, a4, a5⟩ := sh_all h
  exact ⟨a1, a2, Nat.succ_le_succ a3, a4, Nat.le_trans a5 (Nat.mul_le_mul_right _ hn)⟩
theorem sh_lst (h : ∀ x ∈ xs, Sh k w x) (hn : xs.length ≤ n) : Sh (k + 1) (n * (w + 1)) (.list xs) := by
  obtain ⟨a1, a2, a3, a4, a5⟩ := sh_all h
  exact ⟨a1, a2, Nat.succ_le_succ a3, a4, Nat.le_trans a5 (Nat.mul_le_mul_right _ hn)⟩
theorem sh_tup2 (ha : Sh k w a) (hb : Sh k w b) : Sh (k + 1) (2 * (w + 1)) (.tuple [a, b]) := sh_tup (fun x hx => by
  simp only [List.mem_cons, List.not_mem_nil, or_false] at hx
  rcases hx with rfl | rfl
  · exact ha
  · exact hb) (Nat.le_refl _)
theorem Sh.ofU (h : U (10 ^ 30) k w d) : Sh k w d := ⟨soft_plain d h.t, soft_show (by decide) d h.t, h.k, soft_short (by decide) d h.t, h.w⟩
theorem sh_int {i : Int} (h : i.natAbs ≤ 10 ^ 30) : Sh 0 130 (.int i) := Sh.ofU (u_int h (by decide))
end
section
variable {a b : D} {R : Nat}
end
end ML
namespace ML.K15
open PySem L2
def top (i : Nat) : Stmt := PySem.Challenge.pw_copyorigins_k15_errors_of_the_package.main.body.getD i (.Pass ⟨0, 0, 0, 0⟩)
abbrev s__law_pot : Stmt := top 14
abbrev s__law_kinds : Stmt := top 16
abbrev s__law_take : Stmt := top 15
abbrev s__law_made : Stmt := top 17
abbrev s_law : Stmt := top 18
abbrev sx_CommandError : Stmt := inCls (top 12) 0
theorem scx_CommandError : FnScope ["self", "command"] ["self", "command"] (defScope sx_CommandError) := ⟨rfl, rfl, rfl, by decide +kernel, rfl, by decide +kernel, by decide +kernel⟩
abbrev sx_InvalidLetter : Stmt := inCls (top 9) 0
theorem scx_InvalidLetter : FnScope ["self", "value"] ["self", "value"] (defScope sx_InvalidLetter) := ⟨rfl, rfl, rfl, by decide +kernel, rfl, by decide +kernel, by decide +kernel⟩
abbrev sx_InvalidRange : Stmt := inCls (top 4) 0
theorem scx_InvalidRange : FnScope ["self", "start", "stop"] ["self", "start", "stop"] (defScope sx_InvalidRange) := ⟨rfl, rfl, rfl, by decide +kernel, rfl, by decide +kernel, by decide +kernel⟩
abbrev sx_InvalidStream : Stmt := inCls (top 2) 0
theorem scx_InvalidStream : FnScope ["self", "value"] ["self", "value"] (defScope sx_InvalidStream) := ⟨rfl, rfl, rfl, by decide +kernel, rfl, by decide +kernel, by decide +kernel⟩
abbrev sx_NoNumber : Stmt := inCls (top 6) 0
theorem scx_NoNumber : FnScope ["self", "value"] ["self", "value"] (defScope sx_NoNumber) := ⟨rfl, rfl, rfl, by decide +kernel, rfl, by decide +kernel, by decide +kernel⟩
abbrev sx_NoPosition : Stmt := inCls (top 3) 0
theorem scx_NoPosition : FnScope ["self", "value"] ["self", "value"] (defScope sx_NoPosition) := ⟨rfl, rfl, rfl, by decide +kernel, rfl, by decide +kernel, by decide +kernel⟩
abbrev sx_NoUse : Stmt := inCls (top 7) 0
theorem scx_NoUse : FnScope ["self", "value"] ["self", "value"] (defScope sx_NoUse) := ⟨rfl, rfl, rfl, by decide +kernel, rfl, by decide +kernel, by decide +kernel⟩
abbrev sx_NotLiteral : Stmt := inCls (top 8) 0
theorem scx_NotLiteral : FnScope ["self", "value"] ["self", "value"] (defScope sx_NotLiteral) := ⟨rfl, rfl, rfl, by decide +kernel, rfl, by decide +kernel, by decide +kernel⟩
abbrev sx_ParseError : Stmt := inCls (top 11) 0
theorem scx_ParseError : FnScope ["self", "index"] ["self", "index"] (defScope sx_ParseError) := ⟨rfl, rfl, rfl, by decide +kernel, rfl, by decide +kernel, by decide +kernel⟩
abbrev sx_TooLong : Stmt := inCls (top 5) 0
theorem scx_TooLong : FnScope ["self", "value"] ["self", "value"] (defScope sx_TooLong) := ⟨rfl, rfl, rfl, by decide +kernel, rfl, by decide +kernel, by decide +kernel⟩
structure Tx (K : Fg) (mg : Str → Option Value) : Prop where
  f__law_pot : Df K mg "_law_pot" s__law_pot ["_law_script", "_law_k"]
  f__law_kinds : Df K mg "_law_kinds" s__law_kinds ["_law_error"]
  f__law_take : Df K mg "_law_take" s__law_take ["_law_pot_here", "_law_below"]
  f__law_made : Df K mg "_law_made" s__law_made ["_law_item", "_law_other"]
  f_law : Df K mg "law" s_law ["_law_script"]
  x_CommandError : XCls K mg "CommandError" ["command"] sx_CommandError
  x_InvalidLetter : XCls K mg "InvalidLetter" ["value"] sx_InvalidLetter
  x_InvalidRange : XCls K mg "InvalidRange" ["start", "stop"] sx_InvalidRange
  x_InvalidStream : XCls K mg "InvalidStream" ["value"] sx_InvalidStream
  x_NoNumber : XCls K mg "NoNumber" ["value"] sx_NoNumber
  x_NoPosition : XCls K mg "NoPosition" ["value"] sx_NoPosition
  x_NoUse : XCls K mg "NoUse" ["value"] sx_NoUse
  x_NotLiteral : XCls K mg "NotLiteral" ["value"] sx_NotLiteral
  x_NothingToUndo : XCls0 K mg "NothingToUndo"
  x_ParseError : XCls K mg "ParseError" ["index"] sx_ParseError
  x_StreamError : XCls0 K mg "StreamError"
  x_TooLong : XCls K mg "TooLong" ["value"] sx_TooLong
  f_command : XFs K "command" ["CommandError"]
  f_index : XFs K "index" ["ParseError"]
  f_start : XFs K "start" ["InvalidRange"]
  f_stop : XFs K "stop" ["InvalidRange"]
  f_value : XFs K "value" ["InvalidLetter", "InvalidStream", "NoNumber", "NoPosition", "NoUse", "NotLiteral", "TooLong"]
  i_CommandError : XIs K mg "CommandError" [("CommandError", true), ("InvalidLetter", false), ("InvalidRange", false), ("InvalidStream", false), ("NoNumber", false), ("NoPosition", false), ("NoUse", false), ("NotLiteral", false), ("NothingToUndo", false), ("ParseError", false), ("StreamError", false), ("TooLong", false)]
  i_InvalidLetter : XIs K mg "InvalidLetter" [("CommandError", false), ("InvalidLetter", true), ("InvalidRange", false), ("InvalidStream", false), ("NoNumber", false), ("NoPosition", false), ("NoUse", false), ("NotLiteral", false), ("NothingToUndo", false), ("ParseError", false), ("StreamError", false), ("TooLong", false)]
  i_InvalidRange : XIs K mg "InvalidRange" [("CommandError", false), ("InvalidLetter", false), ("InvalidRange", true), ("InvalidStream", false), ("NoNumber", false), ("NoPosition", false), ("NoUse", false), ("NotLiteral", false), ("NothingToUndo", false), ("ParseError", false), ("StreamError", false), ("TooLong", false)]
  i_InvalidStream : XIs K mg "InvalidStream" [("CommandError", false), ("InvalidLetter", false), ("InvalidRange", false), ("InvalidStream", true), ("NoNumber", false), ("NoPosition", false), ("NoUse", false), ("NotLiteral", false), ("NothingToUndo", false), ("ParseError", false), ("StreamError", false), ("TooLong", false)]
  i_NoNumber : XIs K mg "NoNumber" [("CommandError", false), ("InvalidLetter", false), ("InvalidRange", false), ("InvalidStream", false), ("NoNumber", true), ("NoPosition", false), ("NoUse", false), ("NotLiteral", false), ("NothingToUndo", false), ("ParseError", false), ("StreamError", false), ("TooLong", false)]
  i_NoPosition : XIs K mg "NoPosition" [("CommandError", false), ("InvalidLetter", false), ("InvalidRange", false), ("InvalidStream", false), ("NoNumber", false), ("NoPosition", true), ("NoUse", false), ("NotLiteral", false), ("NothingToUndo", false), ("ParseError", false), ("StreamError", false), ("TooLong", false)]
  i_NoUse : XIs K mg "NoUse" [("CommandError", false), ("InvalidLetter", false), ("InvalidRange", false), ("InvalidStream", false), ("NoNumber", false), ("NoPosition", false), ("NoUse", true), ("NotLiteral", false), ("NothingToUndo", false), ("ParseError", false), ("StreamError", false), ("TooLong", false)]
  i_NotLiteral : XIs K mg "NotLiteral" [("CommandError", false), ("InvalidLetter", false), ("InvalidRange", false), ("InvalidStream", false), ("NoNumber", false), ("NoPosition", false), ("NoUse", false), ("NotLiteral", true), ("NothingToUndo", false), ("ParseError", false), ("StreamError", false), ("TooLong", false)]
  i_NothingToUndo : XIs K mg "NothingToUndo" [("CommandError", false), ("InvalidLetter", false), ("InvalidRange", false), ("InvalidStream", false), ("NoNumber", false), ("NoPosition", false), ("NoUse", false), ("NotLiteral", false), ("NothingToUndo", true), ("ParseError", false), ("StreamError", false), ("TooLong", false)]
  i_ParseError : XIs K mg "ParseError" [("CommandError", false), ("InvalidLetter", false), ("InvalidRange", false), ("InvalidStream", false), ("NoNumber", false), ("NoPosition", false), ("NoUse", false), ("NotLiteral", false), ("NothingToUndo", false), ("ParseError", true), ("StreamError", false), ("TooLong", false)]
  i_StreamError : XIs K mg "StreamError" [("CommandError", true), ("InvalidLetter", true), ("InvalidRange", true), ("InvalidStream", true), ("NoNumber", true), ("NoPosition", true), ("NoUse", true), ("NotLiteral", true), ("NothingToUndo", true), ("ParseError", true), ("StreamError", true), ("TooLong", true)]
  i_TooLong : XIs K mg "TooLong" [("CommandError", false), ("InvalidLetter", false), ("InvalidRange", false), ("InvalidStream", false), ("NoNumber", false), ("NoPosition", false), ("NoUse", false), ("NotLiteral", false), ("NothingToUndo", false), ("ParseError", false), ("StreamError", false), ("TooLong", true)]
  v_ValueError : XIsB K "ValueError" [("CommandError", true), ("InvalidLetter", true), ("InvalidRange", true), ("InvalidStream", true), ("NoNumber", true), ("NoPosition", true), ("NoUse", true), ("NotLiteral", true), ("NothingToUndo", true), ("ParseError", true), ("StreamError", true), ("TooLong", true)]
  b_ValueError : mg "ValueError" = none
  b_abs : mg "abs" = none
  b_enumerate : mg "enumerate" = none
  b_int : mg "int" = none
  b_isinstance : mg "isinstance" = none
  b_len : mg "len" = none
  b_max : mg "max" = none
  b_min : mg "min" = none
  b_range : mg "range" = none
  b_repr : mg "repr" = none

/-! #### _law_pot -/
abbrev N__law_pot : List Str := ["_law_script", "_law_k", "_law_cell", "_law_own"]
theorem sc__law_pot : FnScope N__law_pot ["_law_script", "_law_k"] (defScope s__law_pot) := ⟨rfl, rfl, rfl, by decide +kernel, rfl, by decide +kernel, by decide +kernel⟩
def g__law_pot : Env → Fl :=
  sSeq (sSet 2 (yV (up (xOp dAdd (xOp dMulX (xC (.int 17)) (xDat 1)) (xC (.int 6))))))
    (sSeq (sIf (up (tOf (xOp ((dCmp fun i j => decide (i < j))) (xDat 1) (xLenF 0)))) (sSeq (sSet 2 (yV (up (xIxF 0 (xDat 1)))))
    (sNil)) sNil)
    (sSeq (sSet 3 (yV (up (xOp dMulX (xOp dMod (xCall fAbs (aCons (xDat 2) aNil)) (xOp dPow (xOp dPow (xC (.int 10)) (xC (.int 60))) (xC (.int 5)))) (xCall fInt (aCons (xOp ((dCmp fun i j => decide (j ≤ i))) (xCall fAbs (aCons (xDat 2) aNil)) (xOp dPow (xC (.int 10)) (xC (.int 18)))) aNil))))))
    (sSeq (sRet (upO (oLst (aCons (xDat 3) (aCons (xOp dMod (xOp dAdd (xOp dAdd (xOp dMulX (xOp dMod (xDat 2) (xC (.int 2305843009213693951))) (xC (.int 70991))) (xOp dMulX (xOp dMulX (xC (.int 4001)) (xDat 1)) (xDat 1))) (xC (.int 71))) (xC (.int 2305843009213693907))) (aCons (xC (.int 0)) aNil))))))
    (sNil))))
def F__law_pot : List SV → Res SV := bodyF 2 4 g__law_pot
theorem ok__law_pot {S : Cxt} (T : Tx S.K S.mg) : Fx S 1 "_law_pot" F__law_pot := T.f__law_pot.mk sc__law_pot fun A W => by
  have nd := sc__law_pot.nd
  exact jss_cons (st_set 2 nd rfl rfl (JD.toE (JP.toD (jp_add (JP.toB (jp_mulX (JP.toB (jp_int)) (JP.toB (pv 1 rfl)))) (JP.toB (jp_int))))))
    (jss_cons (js_if (JTP.toT (jt_lt (JP.toB (pv 1 rfl)) (JP.toB (lenFv 0 rfl rfl T.b_len)))) (jss_cons (st_set 2 nd rfl rfl (JD.toE (JP.toD (ixFv 0 rfl (JP.toB (pv 1 rfl))))))
    (jss_nil)) jss_nil)
    (jss_cons (st_set 3 nd rfl rfl (JD.toE (JP.toD (jp_mulX (JP.toB (jp_mod (JP.toB (jp_abs rfl T.b_abs (jab_cons (JP.toB (pv 2 rfl)) jab_nil))) (JP.toB (jp_pow (JP.toB (jp_pow (JP.toB (jp_int)) (JP.toB (jp_int)))) (JP.toB (jp_int)))))) (JP.toB (jp_intC rfl T.b_int (jab_cons (JP.toB (jp_ge (JP.toB (jp_abs rfl T.b_abs (jab_cons (JP.toB (pv 2 rfl)) jab_nil))) (JP.toB (jp_pow (JP.toB (jp_int)) (JP.toB (jp_int)))))) jab_nil)))))))
    (jss_cons (js_ret (JO.toE (jo_lst (jap_cons (pv 3 rfl) (jap_cons (jp_mod (JP.toB (jp_add (JP.toB (jp_add (JP.toB (jp_mulX (JP.toB (jp_mod (JP.toB (pv 2 rfl)) (JP.toB (jp_int)))) (JP.toB (jp_int)))) (JP.toB (jp_mulX (JP.toB (jp_mulX (JP.toB (jp_int)) (JP.toB (pv 1 rfl)))) (JP.toB (pv 1 rfl)))))) (JP.toB (jp_int)))) (JP.toB (jp_int))) (jap_cons jp_int jap_nil))))))
    (jss_nil))))
theorem sim__law_pot {script' : List D} {k_' : D} : LeF TL (f__law_pot script' k_') (F__law_pot [.frz script', .dat k_']) := by
  unfold f__law_pot
  exact sk_body (env0 := [.frz script', .dat k_', .un, .un]) rfl rfl (s_set (sk_yV (sk_up (lo_of (lo_op (lo_s (lo_of (lo_op (lo_v rfl (lo_v rfl (lo_bt))))) fun t1 => (lo_v rfl (lo_bt))))) fun cell' => (s_put rfl (s_blk (N := (fun (s : D) (e : Env) => e = [.frz script', .dat k_', .dat s, .un])) (s_if1 (sk_up (lo_of (lo_tOf (lo_s (lo_of (lo_op (lo_v rfl (lo_v rfl (lo_bt))))) fun t2 => (lo_bt)))) fun t3 => (sk_if (s_set (sk_yV (sk_up (lo_of (lo_ixF rfl (lo_v rfl (lo_bt)))) fun cell1' => (s_put rfl (s_nilN rfl))))) (s_nilN rfl)))) (fun cell2' e hN => by (subst hN); exact (s_set (sk_yV (sk_up (lo_of (lo_op (lo_s (lo_of (lo_op (lo_s (lo_of (lo_call (lo_cons (lo_v rfl (lo_nil (lo_bt)))))) fun t4 => (lo_s (lo_of (lo_op (lo_s (lo_of (lo_op (lo_v rfl (lo_v rfl (lo_bt))))) fun t5 => (lo_v rfl (lo_bt))))) fun t6 => (lo_bt))))) fun t7 => (lo_s (lo_of (lo_call (lo_cons (lo_s (lo_of (lo_op (lo_s (lo_of (lo_call (lo_cons (lo_v rfl (lo_nil (lo_bt)))))) fun t8 => (lo_s (lo_of (lo_op (lo_v rfl (lo_v rfl (lo_bt))))) fun t9 => (lo_bt))))) fun t10 => (lo_nil (lo_bt)))))) fun t11 => (lo_bt))))) fun own' => (s_put rfl (s_ret (sk_upO (lo_of (lo_lst (al_cons (al_cons (al_cons al_nil))) rfl (lo_cons (lo_v rfl (lo_cons (lo_s (lo_of (lo_op (lo_s (lo_of (lo_op (lo_s (lo_of (lo_op (lo_s (lo_of (lo_op (lo_s (lo_of (lo_op (lo_v rfl (lo_v rfl (lo_bt))))) fun t12 => (lo_v rfl (lo_bt))))) fun t13 => (lo_s (lo_of (lo_op (lo_s (lo_of (lo_op (lo_v rfl (lo_v rfl (lo_bt))))) fun t14 => (lo_v rfl (lo_bt))))) fun t15 => (lo_bt))))) fun t16 => (lo_v rfl (lo_bt))))) fun t17 => (lo_v rfl (lo_bt))))) fun t18 => (lo_cons (lo_v rfl (lo_nil .refl))))))))) fun t19 => (s_rtF rfl)))))))))))))

/-! #### _law_kinds -/
abbrev N__law_kinds : List Str := ["_law_error", "_law_some"]
theorem sc__law_kinds : FnScope N__law_kinds ["_law_error"] (defScope s__law_kinds) := ⟨rfl, rfl, rfl, by decide +kernel, rfl, by decide +kernel, by decide +kernel⟩
def g__law_kinds : Env → Fl :=
  sSeq (sSet 1 (yV (up (xL (oLst (aCons (xIsX ([("CommandError", false), ("InvalidLetter", false), ("InvalidRange", false), ("InvalidStream", true), ("NoNumber", false), ("NoPosition", false), ("NoUse", false), ("NotLiteral", false), ("NothingToUndo", false), ("ParseError", false), ("StreamError", false), ("TooLong", false)]) (xDat 0)) (aCons (xIsX ([("CommandError", false), ("InvalidLetter", false), ("InvalidRange", false), ("InvalidStream", false), ("NoNumber", false), ("NoPosition", true), ("NoUse", false), ("NotLiteral", false), ("NothingToUndo", false), ("ParseError", false), ("StreamError", false), ("TooLong", false)]) (xDat 0)) (aCons (xIsX ([("CommandError", false), ("InvalidLetter", false), ("InvalidRange", true), ("InvalidStream", false), ("NoNumber", false), ("NoPosition", false), ("NoUse", false), ("NotLiteral", false), ("NothingToUndo", false), ("ParseError", false), ("StreamError", false), ("TooLong", false)]) (xDat 0)) aNil))))))))
    (sSeq (sSet 1 (yV (up (xOp dAdd (xDat 1) (xL (oLst (aCons (xIsX ([("CommandError", false), ("InvalidLetter", false), ("InvalidRange", false), ("InvalidStream", false), ("NoNumber", false), ("NoPosition", false), ("NoUse", false), ("NotLiteral", false), ("NothingToUndo", false), ("ParseError", false), ("StreamError", false), ("TooLong", true)]) (xDat 0)) (aCons (xIsX ([("CommandError", false), ("InvalidLetter", false), ("InvalidRange", false), ("InvalidStream", false), ("NoNumber", true), ("NoPosition", false), ("NoUse", false), ("NotLiteral", false), ("NothingToUndo", false), ("ParseError", false), ("StreamError", false), ("TooLong", false)]) (xDat 0)) (aCons (xIsX ([("CommandError", false), ("InvalidLetter", false), ("InvalidRange", false), ("InvalidStream", false), ("NoNumber", false), ("NoPosition", false), ("NoUse", true), ("NotLiteral", false), ("NothingToUndo", false), ("ParseError", false), ("StreamError", false), ("TooLong", false)]) (xDat 0)) aNil)))))))))
    (sSeq (sSet 1 (yV (up (xOp dAdd (xDat 1) (xL (oLst (aCons (xIsX ([("CommandError", false), ("InvalidLetter", false), ("InvalidRange", false), ("InvalidStream", false), ("NoNumber", false), ("NoPosition", false), ("NoUse", false), ("NotLiteral", true), ("NothingToUndo", false), ("ParseError", false), ("StreamError", false), ("TooLong", false)]) (xDat 0)) (aCons (xIsX ([("CommandError", false), ("InvalidLetter", true), ("InvalidRange", false), ("InvalidStream", false), ("NoNumber", false), ("NoPosition", false), ("NoUse", false), ("NotLiteral", false), ("NothingToUndo", false), ("ParseError", false), ("StreamError", false), ("TooLong", false)]) (xDat 0)) aNil))))))))
    (sSeq (sSet 1 (yV (up (xOp dAdd (xDat 1) (xL (oLst (aCons (xIsX ([("CommandError", false), ("InvalidLetter", false), ("InvalidRange", false), ("InvalidStream", false), ("NoNumber", false), ("NoPosition", false), ("NoUse", false), ("NotLiteral", false), ("NothingToUndo", false), ("ParseError", true), ("StreamError", false), ("TooLong", false)]) (xDat 0)) (aCons (xIsX ([("CommandError", true), ("InvalidLetter", false), ("InvalidRange", false), ("InvalidStream", false), ("NoNumber", false), ("NoPosition", false), ("NoUse", false), ("NotLiteral", false), ("NothingToUndo", false), ("ParseError", false), ("StreamError", false), ("TooLong", false)]) (xDat 0)) aNil))))))))
    (sSeq (sRet (yOpL addLL (up (xDat 1)) (up (xL (oLst (aCons (xIsX ([("CommandError", false), ("InvalidLetter", false), ("InvalidRange", false), ("InvalidStream", false), ("NoNumber", false), ("NoPosition", false), ("NoUse", false), ("NotLiteral", false), ("NothingToUndo", true), ("ParseError", false), ("StreamError", false), ("TooLong", false)]) (xDat 0)) aNil))))))
    (sNil)))))
def F__law_kinds : List SV → Res SV := bodyF 1 2 g__law_kinds
theorem ok__law_kinds {S : Cxt} (T : Tx S.K S.mg) : Fx S 1 "_law_kinds" F__law_kinds := T.f__law_kinds.mk sc__law_kinds fun A W => by
  have nd := sc__law_kinds.nd
  exact jss_cons (st_set 1 nd rfl rfl (JD.toE (JP.toD (JO.toP (jo_lst (jap_cons (jp_isX rfl T.b_isinstance rfl T.i_InvalidStream rfl (JP.toB (pv 0 rfl))) (jap_cons (jp_isX rfl T.b_isinstance rfl T.i_NoPosition rfl (JP.toB (pv 0 rfl))) (jap_cons (jp_isX rfl T.b_isinstance rfl T.i_InvalidRange rfl (JP.toB (pv 0 rfl))) jap_nil))))))))
    (jss_cons (st_set 1 nd rfl rfl (JD.toE (JP.toD (jp_add (JP.toB (pv 1 rfl)) (JP.toB (JO.toP (jo_lst (jap_cons (jp_isX rfl T.b_isinstance rfl T.i_TooLong rfl (JP.toB (pv 0 rfl))) (jap_cons (jp_isX rfl T.b_isinstance rfl T.i_NoNumber rfl (JP.toB (pv 0 rfl))) (jap_cons (jp_isX rfl T.b_isinstance rfl T.i_NoUse rfl (JP.toB (pv 0 rfl))) jap_nil))))))))))
    (jss_cons (st_set 1 nd rfl rfl (JD.toE (JP.toD (jp_add (JP.toB (pv 1 rfl)) (JP.toB (JO.toP (jo_lst (jap_cons (jp_isX rfl T.b_isinstance rfl T.i_NotLiteral rfl (JP.toB (pv 0 rfl))) (jap_cons (jp_isX rfl T.b_isinstance rfl T.i_InvalidLetter rfl (JP.toB (pv 0 rfl))) jap_nil)))))))))
    (jss_cons (st_set 1 nd rfl rfl (JD.toE (JP.toD (jp_add (JP.toB (pv 1 rfl)) (JP.toB (JO.toP (jo_lst (jap_cons (jp_isX rfl T.b_isinstance rfl T.i_ParseError rfl (JP.toB (pv 0 rfl))) (jap_cons (jp_isX rfl T.b_isinstance rfl T.i_CommandError rfl (JP.toB (pv 0 rfl))) jap_nil)))))))))
    (jss_cons (js_ret (je_addL (JP.toD (pv 1 rfl)) (JP.toD (JO.toP (jo_lst (jap_cons (jp_isX rfl T.b_isinstance rfl T.i_NothingToUndo rfl (JP.toB (pv 0 rfl))) jap_nil))))))
    (jss_nil)))))
def f__law_kinds (error' : D) : Po (List D) :=
(((isXO [("CommandError", false), ("InvalidLetter", false), ("InvalidRange", false), ("InvalidStream", true), ("NoNumber", false), ("NoPosition", false), ("NoUse", false), ("NotLiteral", false), ("NothingToUndo", false), ("ParseError", false), ("StreamError", false), ("TooLong", false)] error').bind fun t1 => (isXO [("CommandError", false), ("InvalidLetter", false), ("InvalidRange", false), ("InvalidStream", false), ("NoNumber", false), ("NoPosition", true), ("NoUse", false), ("NotLiteral", false), ("NothingToUndo", false), ("ParseError", false), ("StreamError", false), ("TooLong", false)] error').bind fun t2 => (isXO [("CommandError", false), ("InvalidLetter", false), ("InvalidRange", true), ("InvalidStream", false), ("NoNumber", false), ("NoPosition", false), ("NoUse", false), ("NotLiteral", false), ("NothingToUndo", false), ("ParseError", false), ("StreamError", false), ("TooLong", false)] error').bind fun t3 => some [t1, t2, t3]).map .list).po fun some_' =>
((((isXO [("CommandError", false), ("InvalidLetter", false), ("InvalidRange", false), ("InvalidStream", false), ("NoNumber", false), ("NoPosition", false), ("NoUse", false), ("NotLiteral", false), ("NothingToUndo", false), ("ParseError", false), ("StreamError", false), ("TooLong", true)] error').bind fun t4 => (isXO [("CommandError", false), ("InvalidLetter", false), ("InvalidRange", false), ("InvalidStream", false), ("NoNumber", true), ("NoPosition", false), ("NoUse", false), ("NotLiteral", false), ("NothingToUndo", false), ("ParseError", false), ("StreamError", false), ("TooLong", false)] error').bind fun t5 => (isXO [("CommandError", false), ("InvalidLetter", false), ("InvalidRange", false), ("InvalidStream", false), ("NoNumber", false), ("NoPosition", false), ("NoUse", true), ("NotLiteral", false), ("NothingToUndo", false), ("ParseError", false), ("StreamError", false), ("TooLong", false)] error').bind fun t6 => some [t4, t5, t6]).map .list).bind fun t7 => dAdd some_' t7).po fun some__1' =>
((((isXO [("CommandError", false), ("InvalidLetter", false), ("InvalidRange", false), ("InvalidStream", false), ("NoNumber", false), ("NoPosition", false), ("NoUse", false), ("NotLiteral", true), ("NothingToUndo", false), ("ParseError", false), ("StreamError", false), ("TooLong", false)] error').bind fun t8 => (isXO [("CommandError", false), ("InvalidLetter", true), ("InvalidRange", false), ("InvalidStream", false), ("NoNumber", false), ("NoPosition", false), ("NoUse", false), ("NotLiteral", false), ("NothingToUndo", false), ("ParseError", false), ("StreamError", false), ("TooLong", false)] error').bind fun t9 => some [t8, t9]).map .list).bind fun t10 => dAdd some__1' t10).po fun some__2' =>
((((isXO [("CommandError", false), ("InvalidLetter", false), ("InvalidRange", false), ("InvalidStream", false), ("NoNumber", false), ("NoPosition", false), ("NoUse", false), ("NotLiteral", false), ("NothingToUndo", false), ("ParseError", true), ("StreamError", false), ("TooLong", false)] error').bind fun t11 => (isXO [("CommandError", true), ("InvalidLetter", false), ("InvalidRange", false), ("InvalidStream", false), ("NoNumber", false), ("NoPosition", false), ("NoUse", false), ("NotLiteral", false), ("NothingToUndo", false), ("ParseError", false), ("StreamError", false), ("TooLong", false)] error').bind fun t12 => some [t11, t12]).map .list).bind fun t13 => dAdd some__2' t13).po fun some__3' =>
(((isXO [("CommandError", false), ("InvalidLetter", false), ("InvalidRange", false), ("InvalidStream", false), ("NoNumber", false), ("NoPosition", false), ("NoUse", false), ("NotLiteral", false), ("NothingToUndo", true), ("ParseError", false), ("StreamError", false), ("TooLong", false)] error').bind fun t14 => some [t14]).map .list).po fun t15 =>
(addLL some__3' t15).po fun t16 =>
.ok t16
theorem sim__law_kinds {error' : D} : LeF TL (f__law_kinds error') (F__law_kinds [.dat error']) := by
  unfold f__law_kinds
  exact sk_body (env0 := [.dat error', .un]) rfl rfl (s_set (sk_yV (sk_up (lo_map (lo_of (lo_lst (al_cons (al_cons (al_cons al_nil))) rfl (lo_cons (lo_s (lo_of (lo_isX (lo_v rfl (lo_bt)))) fun t1 => (lo_cons (lo_s (lo_of (lo_isX (lo_v rfl (lo_bt)))) fun t2 => (lo_cons (lo_s (lo_of (lo_isX (lo_v rfl (lo_bt)))) fun t3 => (lo_nil .refl)))))))))) fun some_' => (s_put rfl (s_set (sk_yV (sk_up (lo_of (lo_op (lo_v rfl (lo_s (lo_map (lo_of (lo_lst (al_cons (al_cons (al_cons al_nil))) rfl (lo_cons (lo_s (lo_of (lo_isX (lo_v rfl (lo_bt)))) fun t4 => (lo_cons (lo_s (lo_of (lo_isX (lo_v rfl (lo_bt)))) fun t5 => (lo_cons (lo_s (lo_of (lo_isX (lo_v rfl (lo_bt)))) fun t6 => (lo_nil .refl)))))))))) fun t7 => (lo_bt))))) fun some__1' => (s_put rfl (s_set (sk_yV (sk_up (lo_of (lo_op (lo_v rfl (lo_s (lo_map (lo_of (lo_lst (al_cons (al_cons al_nil)) rfl (lo_cons (lo_s (lo_of (lo_isX (lo_v rfl (lo_bt)))) fun t8 => (lo_cons (lo_s (lo_of (lo_isX (lo_v rfl (lo_bt)))) fun t9 => (lo_nil .refl)))))))) fun t10 => (lo_bt))))) fun some__2' => (s_put rfl (s_set (sk_yV (sk_up (lo_of (lo_op (lo_v rfl (lo_s (lo_map (lo_of (lo_lst (al_cons (al_cons al_nil)) rfl (lo_cons (lo_s (lo_of (lo_isX (lo_v rfl (lo_bt)))) fun t11 => (lo_cons (lo_s (lo_of (lo_isX (lo_v rfl (lo_bt)))) fun t12 => (lo_nil .refl)))))))) fun t13 => (lo_bt))))) fun some__3' => (s_put rfl (s_ret (sk_yOpL (sk_upv rfl (sk_up (lo_map (lo_of (lo_lst (al_cons al_nil) rfl (lo_cons (lo_s (lo_of (lo_isX (lo_v rfl (lo_bt)))) fun t14 => (lo_nil .refl)))))) fun t15 => (sk_o fun t16 => (s_rtF rfl))))))))))))))))))))))

/-! #### _law_take -/
abbrev N__law_take : List Str := ["_law_pot_here", "_law_below", "_law_digit", "_law_blend"]
theorem sc__law_take : FnScope N__law_take ["_law_pot_here", "_law_below"] (defScope s__law_take) := ⟨rfl, rfl, rfl, by decide +kernel, rfl, by decide +kernel, by decide +kernel⟩
def g__law_take : Env → Fl :=
  sSeq (sIf (up (tOf (xOp ((dCmp fun i j => decide (j < i))) (xOp dIx (xBor 0) (xC (.int 0))) (xC (.int 0))))) (sSeq (sSet 2 (yV (up (xOp dMod (xOp dIx (xBor 0) (xC (.int 0))) (xDat 1)))))
    (sSeq (sSetIx 0 (up (xOp dDiv (xOp dIx (xBor 0) (xC (.int 0))) (xDat 1))) (xC (.int 0)))
    (sSeq (sRet (yV (up (xDat 2))))
    (sNil)))) sNil)
    (sSeq (sSetIx 0 (up (xOp dAdd (xOp dIx (xBor 0) (xC (.int 2))) (xC (.int 1)))) (xC (.int 2)))
    (sSeq (sSet 3 (yV (up (xOp dMod (xOp dMulX (xOp dAdd (xOp dAdd (xOp dIx (xBor 0) (xC (.int 1))) (xOp dMulX (xOp dMulX (xC (.int 20011)) (xOp dIx (xBor 0) (xC (.int 2)))) (xOp dIx (xBor 0) (xC (.int 2))))) (xC (.int 23))) (xC (.int 71011))) (xC (.int 2305843009213693921))))))
    (sSeq (sSet 3 (yV (up (xOp dMod (xOp dMulX (xDat 3) (xOp dAdd (xOp dAdd (xOp dMod (xDat 3) (xC (.int 1000081))) (xOp dMulX (xC (.int 50021)) (xOp dIx (xBor 0) (xC (.int 2))))) (xC (.int 9)))) (xC (.int 2305843009213693951))))))
    (sSeq (sRet (yV (up (xOp dMod (xOp dAdd (xOp dDiv (xDat 3) (xC (.int 107))) (xOp dDiv (xDat 3) (xC (.int 999983)))) (xDat 1)))))
    (sNil)))))
def F__law_take : List SV → Res SV := bodyF 2 4 g__law_take
theorem ok__law_take {S : Cxt} (T : Tx S.K S.mg) : Fx S 1 "_law_take" F__law_take := T.f__law_take.mk sc__law_take fun A W => by
  have nd := sc__law_take.nd
  exact jss_cons (js_if (JTP.toT (jt_gt (JP.toB (jp_ix (bv 0 rfl) (JP.toB (jp_int)))) (JP.toB (jp_int)))) (jss_cons (st_set 2 nd rfl rfl (JD.toE (JP.toD (jp_mod (JP.toB (jp_ix (bv 0 rfl) (JP.toB (jp_int)))) (JP.toB (pv 1 rfl))))))
    (jss_cons (st_setIx 0 rfl (JP.toD (jp_div (JP.toB (jp_ix (bv 0 rfl) (JP.toB (jp_int)))) (JP.toB (pv 1 rfl)))) (JP.toB (jp_int)))
    (jss_cons (js_ret (JD.toE (JP.toD (pv 2 rfl))))
    (jss_nil)))) jss_nil)
    (jss_cons (st_setIx 0 rfl (JP.toD (jp_add (JP.toB (jp_ix (bv 0 rfl) (JP.toB (jp_int)))) (JP.toB (jp_int)))) (JP.toB (jp_int)))
    (jss_cons (st_set 3 nd rfl rfl (JD.toE (JP.toD (jp_mod (JP.toB (jp_mulX (JP.toB (jp_add (JP.toB (jp_add (JP.toB (jp_ix (bv 0 rfl) (JP.toB (jp_int)))) (JP.toB (jp_mulX (JP.toB (jp_mulX (JP.toB (jp_int)) (JP.toB (jp_ix (bv 0 rfl) (JP.toB (jp_int)))))) (JP.toB (jp_ix (bv 0 rfl) (JP.toB (jp_int)))))))) (JP.toB (jp_int)))) (JP.toB (jp_int)))) (JP.toB (jp_int))))))
    (jss_cons (st_set 3 nd rfl rfl (JD.toE (JP.toD (jp_mod (JP.toB (jp_mulX (JP.toB (pv 3 rfl)) (JP.toB (jp_add (JP.toB (jp_add (JP.toB (jp_mod (JP.toB (pv 3 rfl)) (JP.toB (jp_int)))) (JP.toB (jp_mulX (JP.toB (jp_int)) (JP.toB (jp_ix (bv 0 rfl) (JP.toB (jp_int)))))))) (JP.toB (jp_int)))))) (JP.toB (jp_int))))))
    (jss_cons (js_ret (JD.toE (JP.toD (jp_mod (JP.toB (jp_add (JP.toB (jp_div (JP.toB (pv 3 rfl)) (JP.toB (jp_int)))) (JP.toB (jp_div (JP.toB (pv 3 rfl)) (JP.toB (jp_int)))))) (JP.toB (pv 1 rfl))))))
    (jss_nil)))))
theorem sim__law_take {pot_here' : List D} {below' : D} : LeF TDm (f__law_take pot_here' below') (F__law_take [.own (some 0) (.lst pot_here'), .dat below']) := by
  unfold f__law_take
  exact sk_body (env0 := [.own (some 0) (.lst pot_here'), .dat below', .un, .un]) rfl rfl (s_if (sk_up (lo_of (lo_tOf (lo_s (lo_of (lo_op (lo_s (lo_of (lo_op (lo_v rfl (lo_v rfl (lo_bt))))) fun t1 => (lo_v rfl (lo_bt))))) fun t2 => (lo_bt)))) fun t3 => (sk_if (s_then (s_set (sk_yV (sk_up (lo_of (lo_op (lo_s (lo_of (lo_op (lo_v rfl (lo_v rfl (lo_bt))))) fun t4 => (lo_v rfl (lo_bt))))) fun digit' => (s_put rfl (s_then (s_setIx (sk_up (lo_of (lo_op (lo_s (lo_of (lo_op (lo_v rfl (lo_v rfl (lo_bt))))) fun t5 => (lo_v rfl (lo_bt))))) fun t6 => (so_setIx rfl (LeO.eq rfl) fun pot_here1' => (s_then (s_ret (sk_yV (sk_upv rfl (s_rtF ⟨rfl, rfl⟩)))))))))))))) (s_thenNil (s_setIx (sk_up (lo_of (lo_op (lo_s (lo_of (lo_op (lo_v rfl (lo_v rfl (lo_bt))))) fun t7 => (lo_v rfl (lo_bt))))) fun t8 => (so_setIx rfl (LeO.eq rfl) fun pot_here2' => (s_set (sk_yV (sk_up (lo_of (lo_op (lo_s (lo_of (lo_op (lo_s (lo_of (lo_op (lo_s (lo_of (lo_op (lo_s (lo_of (lo_op (lo_v rfl (lo_v rfl (lo_bt))))) fun t9 => (lo_s (lo_of (lo_op (lo_s (lo_of (lo_op (lo_v rfl (lo_s (lo_of (lo_op (lo_v rfl (lo_v rfl (lo_bt))))) fun t10 => (lo_bt))))) fun t11 => (lo_s (lo_of (lo_op (lo_v rfl (lo_v rfl (lo_bt))))) fun t12 => (lo_bt))))) fun t13 => (lo_bt))))) fun t14 => (lo_v rfl (lo_bt))))) fun t15 => (lo_v rfl (lo_bt))))) fun t16 => (lo_v rfl (lo_bt))))) fun blend' => (s_put rfl (s_set (sk_yV (sk_up (lo_of (lo_op (lo_s (lo_of (lo_op (lo_v rfl (lo_s (lo_of (lo_op (lo_s (lo_of (lo_op (lo_s (lo_of (lo_op (lo_v rfl (lo_v rfl (lo_bt))))) fun t17 => (lo_s (lo_of (lo_op (lo_v rfl (lo_s (lo_of (lo_op (lo_v rfl (lo_v rfl (lo_bt))))) fun t18 => (lo_bt))))) fun t19 => (lo_bt))))) fun t20 => (lo_v rfl (lo_bt))))) fun t21 => (lo_bt))))) fun t22 => (lo_v rfl (lo_bt))))) fun blend1' => (s_put rfl (s_ret (sk_yV (sk_up (lo_of (lo_op (lo_s (lo_of (lo_op (lo_s (lo_of (lo_op (lo_v rfl (lo_v rfl (lo_bt))))) fun t23 => (lo_s (lo_of (lo_op (lo_v rfl (lo_v rfl (lo_bt))))) fun t24 => (lo_bt))))) fun t25 => (lo_v rfl (lo_bt))))) fun t26 => (s_rtF ⟨rfl, rfl⟩)))))))))))))))))))

/-! #### _law_made -/
abbrev N__law_made : List Str := ["_law_item", "_law_other", "_law_found", "_law_error", "_law_ranged", "_law_parsed", "_law_said"]
theorem sc__law_made : FnScope N__law_made ["_law_item", "_law_other"] (defScope s__law_made) := ⟨rfl, rfl, rfl, by decide +kernel, rfl, by decide +kernel, by decide +kernel⟩
def b__law_made_1 : Env → Fl :=
  sSeq (sAppend 2 (up (xTup (aCons (xDat 3) (aCons (xL (oLst (aCons (xFld ("value") (["InvalidLetter", "InvalidStream", "NoNumber", "NoPosition", "NoUse", "NotLiteral", "TooLong"]) (xDat 3)) aNil))) aNil)))))
    (sNil)
def b__law_made_2 : Env → Fl :=
  sSeq (sAppend 2 (up (xTup (aCons (xDat 3) (aCons (xL (oLst (aCons (xFld ("value") (["InvalidLetter", "InvalidStream", "NoNumber", "NoPosition", "NoUse", "NotLiteral", "TooLong"]) (xDat 3)) aNil))) aNil)))))
    (sNil)
def g__law_made : Env → Fl :=
  sSeq (sSet 2 (upO (oLst aNil)))
    (sSeq (sFor (iOf (up (xTup (aCons (xExc ("InvalidStream") (["value"]) (aCons (xDat 0) aNil)) (aCons (xExcK ("NoPosition") (["value"]) ([0]) (aCons (xDat 0) aNil)) aNil))))) (gN 3) b__law_made_1)
    (sSeq (sSet 4 (yV (up (xExcK ("InvalidRange") (["start", "stop"]) ([1, 0]) (aCons (xDat 1) (aCons (xDat 0) aNil))))))
    (sSeq (sAppend 2 (up (xTup (aCons (xDat 4) (aCons (xOp dAdd (xL (oLst (aCons (xFld ("start") (["InvalidRange"]) (xDat 4)) aNil))) (xOp dMulX (xL (oLst (aCons (xFld ("stop") (["InvalidRange"]) (xDat 4)) aNil))) (xCall fInt (aCons (xOp dNe (xCall fReprX (aCons (xFld ("stop") (["InvalidRange"]) (xDat 4)) aNil)) (xCall fReprX (aCons (xDat 1) aNil))) aNil)))) aNil)))))
    (sSeq (sFor (iOf (up (xTup (aCons (xExc ("TooLong") (["value"]) (aCons (xDat 0) aNil)) (aCons (xExcK ("NoNumber") (["value"]) ([0]) (aCons (xDat 0) aNil)) (aCons (xExc ("NoUse") (["value"]) (aCons (xDat 0) aNil)) (aCons (xExc ("NotLiteral") (["value"]) (aCons (xDat 0) aNil)) (aCons (xExcK ("InvalidLetter") (["value"]) ([0]) (aCons (xDat 0) aNil)) aNil)))))))) (gN 3) b__law_made_2)
    (sSeq (sPar 5 6 (yV (up (xExcK ("ParseError") (["index"]) ([0]) (aCons (xDat 0) aNil)))) (yV (up (xExc ("CommandError") (["command"]) (aCons (xDat 0) aNil)))))
    (sSeq (sExtend 2 (up (xL (oLst (aCons (xTup (aCons (xDat 5) (aCons (xL (oLst (aCons (xFld ("index") (["ParseError"]) (xDat 5)) aNil))) aNil))) (aCons (xTup (aCons (xDat 6) (aCons (xL (oLst (aCons (xFld ("command") (["CommandError"]) (xDat 6)) aNil))) aNil))) aNil))))))
    (sSeq (sAppend 2 (up (xTup (aCons (xExc ("NothingToUndo") ([]) aNil) (aCons (xL (oLst (aCons (xDat 0) aNil))) aNil)))))
    (sSeq (sRet (yMv 2))
    (sNil)))))))))
def F__law_made : List SV → Res SV := bodyF 2 7 g__law_made
theorem ok__law_made {S : Cxt} (T : Tx S.K S.mg) (hq : S.gq = true) : Fx S 3 "_law_made" F__law_made := T.f__law_made.mk sc__law_made fun A W => by
  have nd := sc__law_made.nd
  exact jss_cons (st_set 2 nd rfl rfl (JO.toE (jo_lst jap_nil)))
    (jss_cons (js_for (ji_seq (JP.toD (jp_tup (jap_cons (jp_exc1 T.x_InvalidStream (leB rfl) rfl rfl scx_InvalidStream rfl rfl rfl (jap_cons (pv 0 rfl) jap_nil) rfl) (jap_cons (jp_exc1K T.x_NoPosition (leB rfl) rfl rfl scx_NoPosition rfl rfl rfl (jkp_cons (pv 0 rfl) jkp_nil) rfl ((fun _ _ _ _ _ _ _ _ => rfl))) jap_nil))))) (gv 3 nd rfl (Or.inl rfl)) (jss_cons (js_append 2 rfl (vis_of rfl) rfl rfl (JP.toD (jp_tup (jap_cons (pv 3 rfl) (jap_cons (JO.toP (jo_lst (jap_cons (jp_fld T.f_value (JP.toB (pv 3 rfl))) jap_nil))) jap_nil)))) rfl)
    (jss_nil)))
    (jss_cons (st_set 4 nd rfl rfl (JD.toE (JP.toD (jp_exc2K T.x_InvalidRange (leB rfl) rfl rfl scx_InvalidRange rfl rfl rfl rfl (jkp_cons (pv 1 rfl) (jkp_cons (pv 0 rfl) jkp_nil)) rfl ((fun _ _ _ _ _ _ _ _ _ => rfl))))))
    (jss_cons (js_append 2 rfl (vis_of rfl) rfl rfl (JP.toD (jp_tup (jap_cons (pv 4 rfl) (jap_cons (jp_add (JP.toB (JO.toP (jo_lst (jap_cons (jp_fld T.f_start (JP.toB (pv 4 rfl))) jap_nil)))) (JP.toB (jp_mulX (JP.toB (JO.toP (jo_lst (jap_cons (jp_fld T.f_stop (JP.toB (pv 4 rfl))) jap_nil)))) (JP.toB (jp_intC rfl T.b_int (jab_cons (JP.toB (jp_ne (JP.toB (jp_reprX hq rfl T.b_repr (jab_cons (JP.toB (jp_fld T.f_stop (JP.toB (pv 4 rfl)))) jab_nil))) (JP.toB (jp_reprX hq rfl T.b_repr (jab_cons (JP.toB (pv 1 rfl)) jab_nil))))) jab_nil)))))) jap_nil)))) rfl)
    (jss_cons (js_for (ji_seq (JP.toD (jp_tup (jap_cons (jp_exc1 T.x_TooLong (leB rfl) rfl rfl scx_TooLong rfl rfl rfl (jap_cons (pv 0 rfl) jap_nil) rfl) (jap_cons (jp_exc1K T.x_NoNumber (leB rfl) rfl rfl scx_NoNumber rfl rfl rfl (jkp_cons (pv 0 rfl) jkp_nil) rfl ((fun _ _ _ _ _ _ _ _ => rfl))) (jap_cons (jp_exc1 T.x_NoUse (leB rfl) rfl rfl scx_NoUse rfl rfl rfl (jap_cons (pv 0 rfl) jap_nil) rfl) (jap_cons (jp_exc1 T.x_NotLiteral (leB rfl) rfl rfl scx_NotLiteral rfl rfl rfl (jap_cons (pv 0 rfl) jap_nil) rfl) (jap_cons (jp_exc1K T.x_InvalidLetter (leB rfl) rfl rfl scx_InvalidLetter rfl rfl rfl (jkp_cons (pv 0 rfl) jkp_nil) rfl ((fun _ _ _ _ _ _ _ _ => rfl))) jap_nil)))))))) (gv 3 nd rfl (Or.inl rfl)) (jss_cons (js_append 2 rfl (vis_of rfl) rfl rfl (JP.toD (jp_tup (jap_cons (pv 3 rfl) (jap_cons (JO.toP (jo_lst (jap_cons (jp_fld T.f_value (JP.toB (pv 3 rfl))) jap_nil))) jap_nil)))) rfl)
    (jss_nil)))
    (jss_cons (js_par 5 6 nd rfl rfl (by decide) rfl rfl (JD.toE (JP.toD (jp_exc1K T.x_ParseError (leB rfl) rfl rfl scx_ParseError rfl rfl rfl (jkp_cons (pv 0 rfl) jkp_nil) rfl ((fun _ _ _ _ _ _ _ _ => rfl))))) (JD.toE (JP.toD (jp_exc1 T.x_CommandError (leB rfl) rfl rfl scx_CommandError rfl rfl rfl (jap_cons (pv 0 rfl) jap_nil) rfl))) (by intro env h; cases env; subst h; rfl))
    (jss_cons (js_extend 2 rfl (vis_of rfl) rfl rfl (JP.toD (JO.toP (jo_lst (jap_cons (jp_tup (jap_cons (pv 5 rfl) (jap_cons (JO.toP (jo_lst (jap_cons (jp_fld T.f_index (JP.toB (pv 5 rfl))) jap_nil))) jap_nil))) (jap_cons (jp_tup (jap_cons (pv 6 rfl) (jap_cons (JO.toP (jo_lst (jap_cons (jp_fld T.f_command (JP.toB (pv 6 rfl))) jap_nil))) jap_nil))) jap_nil))))) rfl)
    (jss_cons (js_append 2 rfl (vis_of rfl) rfl rfl (JP.toD (jp_tup (jap_cons (jp_exc0 T.x_NothingToUndo rfl rfl rfl) (jap_cons (JO.toP (jo_lst (jap_cons (pv 0 rfl) jap_nil))) jap_nil)))) rfl)
    (jss_cons (js_ret (mv 2 rfl))
    (jss_nil)))))))))
def f__law_made (item' : D) (other' : D) : Po (List D) :=
((excO "InvalidStream" ["value"] [item']).bind fun t1 => (excKO "NoPosition" ["value"] [0] [item']).bind fun t2 => some (.tuple [t1, t2])).po fun t3 =>
(itemsOf t3).po fun t4 =>
(forN (fun (error' : D) (found' : List D) =>
((((fldO "value" ["InvalidLetter", "InvalidStream", "NoNumber", "NoPosition", "NoUse", "NotLiteral", "TooLong"] error').bind fun t5 => some [t5]).map .list).bind fun t6 => some (.tuple [error', t6])).po fun t7 =>
pushP found' t7 fun found1' =>
.ok found1') t4 []).bind fun (found2' : List D) =>
(excKO "InvalidRange" ["start", "stop"] [1, 0] [other', item']).po fun ranged' =>
(((((fldO "start" ["InvalidRange"] ranged').bind fun t8 => some [t8]).map .list).bind fun t9 => ((((fldO "stop" ["InvalidRange"] ranged').bind fun t10 => some [t10]).map .list).bind fun t11 => ((((fldO "stop" ["InvalidRange"] ranged').bind fun t12 => fReprX [t12]).bind fun t13 => (fReprX [other']).bind fun t14 => dNe t13 t14).bind fun t15 => fInt [t15]).bind fun t16 => dMulX t11 t16).bind fun t17 => dAdd t9 t17).bind fun t18 => some (.tuple [ranged', t18])).po fun t19 =>
pushP found2' t19 fun found3' =>
((excO "TooLong" ["value"] [item']).bind fun t20 => (excKO "NoNumber" ["value"] [0] [item']).bind fun t21 => (excO "NoUse" ["value"] [item']).bind fun t22 => (excO "NotLiteral" ["value"] [item']).bind fun t23 => (excKO "InvalidLetter" ["value"] [0] [item']).bind fun t24 => some (.tuple [t20, t21, t22, t23, t24])).po fun t25 =>
(itemsOf t25).po fun t26 =>
(forN (fun (error1' : D) (found4' : List D) =>
((((fldO "value" ["InvalidLetter", "InvalidStream", "NoNumber", "NoPosition", "NoUse", "NotLiteral", "TooLong"] error1').bind fun t27 => some [t27]).map .list).bind fun t28 => some (.tuple [error1', t28])).po fun t29 =>
pushP found4' t29 fun found5' =>
.ok found5') t26 found3').bind fun (found6' : List D) =>
(excKO "ParseError" ["index"] [0] [item']).po fun parsed' =>
(excO "CommandError" ["command"] [item']).po fun said' =>
((((((fldO "index" ["ParseError"] parsed').bind fun t30 => some [t30]).map .list).bind fun t31 => some (.tuple [parsed', t31])).bind fun t34 => ((((fldO "command" ["CommandError"] said').bind fun t32 => some [t32]).map .list).bind fun t33 => some (.tuple [said', t33])).bind fun t35 => some [t34, t35]).map .list).po fun t36 =>
extendP found6' t36 fun found7' =>
((excO "NothingToUndo" [] []).bind fun t37 => some (.tuple [t37, (.list [item'])])).po fun t38 =>
pushP found7' t38 fun found8' =>
.ok found8'
theorem sim__law_made {item' : D} {other' : D} : LeF TL (f__law_made item' other') (F__law_made [.dat item', .dat other']) := by
  unfold f__law_made
  exact sk_body (env0 := [.dat item', .dat other', .un, .un, .un, .un, .un]) rfl rfl (s_set (sk_upOv (olst_v rfl rfl) (s_putN (e' := [_, _, _, _, _, _, _]) rfl rfl (s_for (sk_iOf (sk_up (lo_of (lo_tup (al_cons (al_cons al_nil)) rfl (lo_cons (lo_s (lo_of (lo_exc (lo_cons (lo_v rfl (lo_nil (lo_bt)))))) fun t1 => (lo_cons (lo_s (lo_of (lo_excK (lo_cons (lo_v rfl (lo_nil (lo_bt)))))) fun t2 => (lo_nil .refl))))))) fun t3 => (sk_o fun t4 => (s_forN (N := (fun (s : List D) (e : Env) => ∃ j3 : SV, e = [.dat item', .dat other', .own none (.lst s), j3, .un, .un, .un])) ⟨_, rfl⟩ (fun error' found' e hN => by (obtain ⟨j3, rfl⟩ := hN); exact (so_gN rfl (s_app rfl (sk_up (lo_of (lo_tup (al_cons (al_cons al_nil)) rfl (lo_cons (lo_v rfl (lo_cons (lo_s (lo_map (lo_of (lo_lst (al_cons al_nil) rfl (lo_cons (lo_s (lo_of (lo_fld (lo_v rfl (lo_bt)))) fun t5 => (lo_nil .refl)))))) fun t6 => (lo_nil .refl))))))) fun t7 => (so_app rfl fun found1' => (s_nilN ⟨_, rfl⟩)))))) (fun found2' e hN => by (obtain ⟨j3, rfl⟩ := hN); exact (s_set (sk_yV (sk_up (lo_of (lo_excK (lo_cons (lo_v rfl (lo_cons (lo_v rfl (lo_nil (lo_bt)))))))) fun ranged' => (s_putN (e' := [_, _, _, _, _, _, _]) rfl rfl (s_app rfl (sk_up (lo_of (lo_tup (al_cons (al_cons al_nil)) rfl (lo_cons (lo_v rfl (lo_cons (lo_s (lo_of (lo_op (lo_s (lo_map (lo_of (lo_lst (al_cons al_nil) rfl (lo_cons (lo_s (lo_of (lo_fld (lo_v rfl (lo_bt)))) fun t8 => (lo_nil .refl)))))) fun t9 => (lo_s (lo_of (lo_op (lo_s (lo_map (lo_of (lo_lst (al_cons al_nil) rfl (lo_cons (lo_s (lo_of (lo_fld (lo_v rfl (lo_bt)))) fun t10 => (lo_nil .refl)))))) fun t11 => (lo_s (lo_of (lo_call (lo_cons (lo_s (lo_of (lo_op (lo_s (lo_of (lo_call (lo_cons (lo_s (lo_of (lo_fld (lo_v rfl (lo_bt)))) fun t12 => (lo_nil (lo_bt)))))) fun t13 => (lo_s (lo_of (lo_call (lo_cons (lo_v rfl (lo_nil (lo_bt)))))) fun t14 => (lo_bt))))) fun t15 => (lo_nil (lo_bt)))))) fun t16 => (lo_bt))))) fun t17 => (lo_bt))))) fun t18 => (lo_nil .refl))))))) fun t19 => (so_app rfl fun found3' => (s_for (sk_iOf (sk_up (lo_of (lo_tup (al_cons (al_cons (al_cons (al_cons (al_cons al_nil))))) rfl (lo_cons (lo_s (lo_of (lo_exc (lo_cons (lo_v rfl (lo_nil (lo_bt)))))) fun t20 => (lo_cons (lo_s (lo_of (lo_excK (lo_cons (lo_v rfl (lo_nil (lo_bt)))))) fun t21 => (lo_cons (lo_s (lo_of (lo_exc (lo_cons (lo_v rfl (lo_nil (lo_bt)))))) fun t22 => (lo_cons (lo_s (lo_of (lo_exc (lo_cons (lo_v rfl (lo_nil (lo_bt)))))) fun t23 => (lo_cons (lo_s (lo_of (lo_excK (lo_cons (lo_v rfl (lo_nil (lo_bt)))))) fun t24 => (lo_nil .refl))))))))))))) fun t25 => (sk_o fun t26 => (s_forN (N := (fun (s : List D) (e : Env) => ∃ j3 : SV, e = [.dat item', .dat other', .own none (.lst s), j3, .dat ranged', .un, .un])) ⟨_, rfl⟩ (fun error1' found4' e hN => by (obtain ⟨j3, rfl⟩ := hN); exact (so_gN rfl (s_app rfl (sk_up (lo_of (lo_tup (al_cons (al_cons al_nil)) rfl (lo_cons (lo_v rfl (lo_cons (lo_s (lo_map (lo_of (lo_lst (al_cons al_nil) rfl (lo_cons (lo_s (lo_of (lo_fld (lo_v rfl (lo_bt)))) fun t27 => (lo_nil .refl)))))) fun t28 => (lo_nil .refl))))))) fun t29 => (so_app rfl fun found5' => (s_nilN ⟨_, rfl⟩)))))) (fun found6' e hN => by (obtain ⟨j3, rfl⟩ := hN); exact (s_par (sk_yV (sk_up (lo_of (lo_excK (lo_cons (lo_v rfl (lo_nil (lo_bt)))))) fun parsed' => (sk_yV (sk_up (lo_of (lo_exc (lo_cons (lo_v rfl (lo_nil (lo_bt)))))) fun said' => (s_put2N (e' := [_, _, _, _, _, _, _]) rfl rfl rfl (s_ext rfl (sk_up (lo_map (lo_of (lo_lst (al_cons (al_cons al_nil)) rfl (lo_cons (lo_s (lo_of (lo_tup (al_cons (al_cons al_nil)) rfl (lo_cons (lo_v rfl (lo_cons (lo_s (lo_map (lo_of (lo_lst (al_cons al_nil) rfl (lo_cons (lo_s (lo_of (lo_fld (lo_v rfl (lo_bt)))) fun t30 => (lo_nil .refl)))))) fun t31 => (lo_nil .refl))))))) fun t34 => (lo_cons (lo_s (lo_of (lo_tup (al_cons (al_cons al_nil)) rfl (lo_cons (lo_v rfl (lo_cons (lo_s (lo_map (lo_of (lo_lst (al_cons al_nil) rfl (lo_cons (lo_s (lo_of (lo_fld (lo_v rfl (lo_bt)))) fun t32 => (lo_nil .refl)))))) fun t33 => (lo_nil .refl))))))) fun t35 => (lo_nil .refl)))))))) fun t36 => (so_ext rfl fun found7' => (s_app rfl (sk_up (lo_of (lo_tup (al_cons (al_cons al_nil)) rfl (lo_cons (lo_s (lo_of (lo_exc (lo_nil (lo_bt)))) fun t37 => (lo_cons (lo_v (xl_v (olst_v rfl rfl)) (lo_nil .refl))))))) fun t38 => (so_app rfl fun found8' => (s_ret (sk_yMv rfl (s_rtF rfl)))))))))))))))))))))))))))))))))))))

/-! #### law -/
abbrev N_law : List Str := ["_law_script", "_law_k", "_law_pot_here", "_law_item", "_law_at", "_law_error", "_law_values", "_law_other"]
theorem sc_law : FnScope N_law ["_law_script"] (defScope s_law) := ⟨rfl, rfl, rfl, by decide +kernel, rfl, by decide +kernel, by decide +kernel⟩
def b_law_1 : Env → Fl :=
  sSeq (sRet (yV (up (xC (.bool false)))))
    (sNil)
def b_law_2 : Env → Fl :=
  sSeq (sRet (yV (up (xC (.bool false)))))
    (sNil)
def b_law_3 : Env → Fl :=
  sSeq (sRet (yV (up (xC (.bool false)))))
    (sNil)
def b_law_4 : Env → Fl :=
  sSeq (sIf (up (tOrP (tOf (xOp dNe (xFn F__law_kinds (aCons (xDat 5) aNil)) (xL (oComp ([7]) (ipRange1 (aCons (xC (.int 11)) aNil)) (gN 7) pYes (xOp dEq (xDat 4) (xDat 7)))))) (tOf (xOp dNe (xCall fReprX (aCons (xDat 6) aNil)) (xCall fReprX (aCons (xL (oLst (aCons (xDat 3) aNil))) aNil)))))) b_law_2 sNil)
    (sSeq (sIf (up (tNotP (tOf (xIsX ([("CommandError", true), ("InvalidLetter", true), ("InvalidRange", true), ("InvalidStream", true), ("NoNumber", true), ("NoPosition", true), ("NoUse", true), ("NotLiteral", true), ("NothingToUndo", true), ("ParseError", true), ("StreamError", true), ("TooLong", true)]) (xDat 5))))) b_law_3 sNil)
    (sNil))
def b_law_5 : Env → Fl :=
  sSeq (sFor (up (ipEnum (xFn F__law_made (aCons (xDat 3) (aCons (xC (.str "other")) aNil))))) (gTupD 2 (gsCons (gN 4) (gsCons (gTupD 2 (gsCons (gN 5) (gsCons (gN 6) gsNil))) gsNil))) b_law_4)
    (sNil)
def b_law_6 : Env → Fl :=
  sSeq (sSet 2 (yFn F__law_pot (cSlot 0 (cCons (up (xDat 1)) cNil))))
    (sSeq (sFor (iOf (yD (yLst (yCons (up (xC .none)) (yCons (up (xC (.bool true))) (yCons (yD (yFn F__law_take (cSlot 2 (cCons (up (xOp dPow (xC (.int 10)) (xC (.int 9)))) cNil)))) (yCons (up (xC (.int 0))) (yCons (up (xC (.str ""))) (yCons (up (xC (.str "abc"))) (yCons (up (xTup aNil)) (yCons (up (xTup (aCons (xC (.int 0)) (aCons (xC (.int 1)) aNil)))) (yCons (up (xL (oLst aNil))) (yCons (up xDct0) (yCons (up (xTup (aCons (xTup (aCons (xC (.str "literal")) (aCons (xC (.str "a")) aNil))) aNil))) yNil)))))))))))))) (gN 3) b_law_5)
    (sNil))
def g_law : Env → Fl :=
  sSeq (sIf (up (tOrP (tOf (xOp dIn (xC (.bool true)) (xFn F__law_kinds (aCons (xExc ("StreamError") ([]) aNil) aNil)))) (tNotP (tOf (xIsX ([("CommandError", true), ("InvalidLetter", true), ("InvalidRange", true), ("InvalidStream", true), ("NoNumber", true), ("NoPosition", true), ("NoUse", true), ("NotLiteral", true), ("NothingToUndo", true), ("ParseError", true), ("StreamError", true), ("TooLong", true)]) (xExc ("StreamError") ([]) aNil)))))) b_law_1 sNil)
    (sSeq (sFor (iRange1 (yCons (up (xCall fMax (aCons (xC (.int 1)) (aCons (xCall fMin (aCons (xC (.int 3)) (aCons (xLenF 0) aNil))) aNil)))) yNil)) (gN 1) b_law_6)
    (sSeq (sRet (yV (up (xC (.bool true)))))
    (sNil)))
def F_law : List SV → Res SV := bodyF 1 8 g_law
theorem body_law {P : Program} {w : World} {K : Fg} {mg : Str → Option Value} {base : Heap} (T : Tx K mg) (A : Act) (W : Wish) : JSs ⟨P, w, K, mg, base, N_law, defScope s_law, 3, A, W, false, true⟩ (defBody s_law) g_law := by
  have hq : (true : Bool) = true := rfl
  have nd := sc_law.nd
  exact jss_cons (js_if (JTP.toT (jtp_w (jw_or (jt_in (JP.toB (jp_bl)) (JP.toB (jp_call (ok__law_kinds T) (leB rfl) rfl (jap_cons (jp_exc0 T.x_StreamError rfl rfl rfl) jap_nil)))) (jw_or1 (jtp_not (jtp_val (jp_isXb rfl T.b_isinstance rfl T.b_ValueError (by decide +kernel) T.v_ValueError (JP.toB (jp_exc0 T.x_StreamError rfl rfl rfl))))))))) (jss_cons (js_ret (JD.toE (JP.toD (jp_bl))))
    (jss_nil)) jss_nil)
    (jss_cons (js_for (ji_range1 rfl T.b_range (jda_cons (JP.toD (jp_max2 rfl T.b_max (jab_cons (JP.toB (jp_int)) (jab_cons (JP.toB (jp_min2 rfl T.b_min (jab_cons (JP.toB (jp_int)) (jab_cons (JP.toB (lenFv 0 rfl rfl T.b_len)) jab_nil)))) jab_nil)))) jda_nil)) (gv 1 nd rfl (Or.inl rfl)) (jss_cons (st_set 2 nd rfl rfl (je_call (ok__law_pot T) (leB rfl) rfl (slv 0 rfl (jca_d (JP.toD (pv 1 rfl)) jca_nil))))
    (jss_cons (js_for (ji_seq (JE.toD (je_lst (jda_cons (JP.toD (jp_non)) (jda_cons (JP.toD (jp_bl)) (jda_cons (JE.toD (je_call (ok__law_take T) (leB rfl) rfl (slv 2 rfl (jca_d (JP.toD (jp_pow (JP.toB (jp_int)) (JP.toB (jp_int)))) jca_nil)))) (jda_cons (JP.toD (jp_int)) (jda_cons (JP.toD (jp_str)) (jda_cons (JP.toD (jp_str)) (jda_cons (JP.toD (jp_tup jap_nil)) (jda_cons (JP.toD (jp_tup (jap_cons jp_int (jap_cons jp_int jap_nil)))) (jda_cons (JP.toD (JO.toP (jo_lst jap_nil))) (jda_cons (JP.toD (jp_dict0)) (jda_cons (JP.toD (jp_tup (jap_cons (jp_tup (jap_cons jp_str (jap_cons jp_str jap_nil))) jap_nil))) jda_nil)))))))))))))) (gv 3 nd rfl (Or.inl rfl)) (jss_cons (js_for (JIP.toI (jip_enum rfl T.b_enumerate (jp_call (ok__law_made T hq) (leB rfl) rfl (jap_cons (pv 3 rfl) (jap_cons jp_str jap_nil))))) (jg_tup (jgs_cons (gv 4 nd rfl (Or.inl rfl)) (jgs_cons (jg_tup (jgs_cons (gv 5 nd rfl (Or.inl rfl)) (jgs_cons (gv 6 nd rfl (Or.inl rfl)) jgs_nil))) jgs_nil))) (jss_cons (js_if (JTP.toT (jtp_w (jw_or (jt_ne (JP.toB (jp_call (ok__law_kinds T) (leB rfl) rfl (jap_cons (pv 5 rfl) jap_nil))) (JP.toB (JO.toP (jo_comp nd (own := [("_law_other", 7)]) (jip_range1 rfl T.b_range (jap_cons jp_int jap_nil)) rfl (gv 7 nd rfl (Or.inr rfl)) jtsp_nil (jp_eq (JP.toB (pv 4 rfl)) (JP.toB (pv 7 rfl))) (by decide))))) (jw_or1 (jt_ne (JP.toB (jp_reprX hq rfl T.b_repr (jab_cons (JP.toB (pv 6 rfl)) jab_nil))) (JP.toB (jp_reprX hq rfl T.b_repr (jab_cons (JP.toB (JO.toP (jo_lst (jap_cons (pv 3 rfl) jap_nil)))) jab_nil)))))))) (jss_cons (js_ret (JD.toE (JP.toD (jp_bl))))
    (jss_nil)) jss_nil)
    (jss_cons (js_if (JTP.toT (jtp_not (jtp_val (jp_isX rfl T.b_isinstance rfl T.i_StreamError rfl (JP.toB (pv 5 rfl)))))) (jss_cons (js_ret (JD.toE (JP.toD (jp_bl))))
    (jss_nil)) jss_nil)
    (jss_nil))))
    (jss_nil)))
    (jss_nil))))
    (jss_cons (js_ret (JD.toE (JP.toD (jp_bl))))
    (jss_nil)))
def f_law (script' : List D) : Po (D) :=
(orO ((((excO "StreamError" [] []).bind fun t1 => (f__law_kinds t1).toL).bind fun t2 => dIn (.bool true) t2).bind fun t3 => toB t3) ((((excO "StreamError" [] []).bind fun t4 => isXO [("CommandError", true), ("InvalidLetter", true), ("InvalidRange", true), ("InvalidStream", true), ("NoNumber", true), ("NoPosition", true), ("NoUse", true), ("NotLiteral", true), ("NothingToUndo", true), ("ParseError", true), ("StreamError", true), ("TooLong", true)] t4).bind fun t5 => toB t5).map (!·))).po fun t6 =>
if t6 then
.ok (.bool false)
else
((fMin [(.int 3), (.int (script'.length : Int))]).bind fun t7 => fMax [(.int 1), t7]).po fun t8 =>
(range1O t8).po fun t9 =>
(forS (ρ := (D)) (fun (k_' : D) (_ : Unit) =>
(f__law_pot script' k_').bind fun pot_here' =>
(dPow (.int 10) (.int 9)).po fun t10 =>
(f__law_take pot_here' t10).bindS fun (t11, pot_here1') =>
(itemsOf (.list [.none, (.bool true), t11, (.int 0), (.str ""), (.str "abc"), (.tuple []), (.tuple [(.int 0), (.int 1)]), (.list []), (.dict []), (.tuple [(.tuple [(.str "literal"), (.str "a")])])])).po fun t12 =>
(forS (ρ := (D)) (fun (item' : D) (_ : Unit) =>
(((f__law_made item' (.str "other")).toL).bind fun t13 => enumItems t13).po fun t14 =>
(forS (ρ := (D)) (fun (d1 : D) (_ : Unit) =>
pn2 d1 fun at_' d2 =>
pn2 d2 fun error' values' =>
(orO ((((f__law_kinds error').toL).bind fun t15 => (((range1O (.int 11)).bind fun t16 => mapS (fun other' => dEq at_' other') t16).map .list).bind fun t17 => dNe t15 t17).bind fun t18 => toB t18) (((fReprX [values']).bind fun t19 => (fReprX [(.list [item'])]).bind fun t20 => dNe t19 t20).bind fun t21 => toB t21)).po fun t22 =>
if t22 then
.ok (.rt (.bool false))
else
(((isXO [("CommandError", true), ("InvalidLetter", true), ("InvalidRange", true), ("InvalidStream", true), ("NoNumber", true), ("NoPosition", true), ("NoUse", true), ("NotLiteral", true), ("NothingToUndo", true), ("ParseError", true), ("StreamError", true), ("TooLong", true)] error').bind fun t23 => toB t23).map (!·)).po fun t24 =>
if t24 then
.ok (.rt (.bool false))
else
.ok (.nx ())) t14 ()).thenS (fun (_ : Unit) =>
.ok (.nx ())) (fun v => .ok (.rt v))) t12 ()).thenS (fun (_ : Unit) =>
.ok (.nx ())) (fun v => .ok (.rt v))) t9 ()).thenS (fun (_ : Unit) =>
.ok (.bool true)) (fun v => .ok v)
theorem sim_law {script' : List D} : LeF TD (f_law script') (F_law [.frz script']) := by
  unfold f_law
  exact sk_body (env0 := [.frz script', .un, .un, .un, .un, .un, .un, .un]) rfl rfl (s_if (sk_up (lo_or (lo_of (lo_tOf (lo_s (lo_of (lo_op (lo_v rfl (lo_s (lo_of (lo_fn (lo_cons (lo_s (lo_of (lo_exc (lo_nil (lo_bt)))) fun t1 => (lo_nil (lo_st (LeF.toL sim__law_kinds))))))) fun t2 => (lo_bt))))) fun t3 => (lo_bt)))) (lo_not (lo_of (lo_tOf (lo_s (lo_of (lo_isX (lo_s (lo_of (lo_exc (lo_nil (lo_bt)))) fun t4 => (lo_bt)))) fun t5 => (lo_bt)))))) fun t6 => (sk_if (s_then (s_ret (sk_yV (sk_upv rfl (s_rtF rfl))))) (s_thenNil (s_for (sk_iRange1 (sk_up (lo_of (lo_call (lo_cons (lo_v rfl (lo_cons (lo_s (lo_of (lo_call (lo_cons (lo_v rfl (lo_cons (lo_v rfl (lo_nil (lo_bt)))))))) fun t7 => (lo_nil (lo_bt)))))))) fun t8 => (sk_o fun t9 => (s_forS (N := (fun (s : Unit) (e : Env) => ∃ j1 j2 j3 j4 j5 j6 : SV, e = [.frz script', j1, j2, j3, j4, j5, j6, .un])) ⟨_, _, _, _, _, _, rfl⟩ (fun k_' s e hN => by (obtain ⟨j1, j2, j3, j4, j5, j6, rfl⟩ := hN); exact (so_gN rfl (s_set (sk_yFn (sk_cSlotF rfl (sk_cCons (sk_upv rfl (sk_cNil (sk_callL rfl sim__law_pot fun pot_here' => (s_putN (e' := [_, _, _, _, _, _, _, _]) rfl rfl (s_for (sk_iOf (sk_yD (sk_yLst (yl_cons (yl_cons (yl_cons (yl_cons (yl_cons (yl_cons (yl_cons (yl_cons (yl_cons (yl_cons (yl_cons yl_nil))))))))))) rfl (sk_yCons (sk_upv rfl (sk_yCons (sk_upv rfl (sk_yCons (sk_yD (sk_yFn (sk_cSlotO rfl (sk_cCons (sk_up (lo_of (lo_op (lo_v rfl (lo_v rfl (lo_bt))))) fun t10 => (sk_cNil (sk_callDm rfl rfl sim__law_take fun t11 pot_here1' => (sk_ov rfl (sk_yCons (sk_upv rfl (sk_yCons (sk_upv rfl (sk_yCons (sk_upv rfl (sk_yCons (sk_upv (xtup_v rfl rfl) (sk_yCons (sk_upv (xtup_v rfl rfl) (sk_yCons (sk_upv (xl_v (olst_v rfl rfl)) (sk_yCons (sk_upv rfl (sk_yCons (sk_upv (xtup_v (acons_v (xtup_v rfl rfl) rfl) rfl) (sk_yNil (sk_ov rfl (sk_o fun t12 => (s_forS (N := (fun (s : Unit) (e : Env) => ∃ j3 j4 j5 j6 : SV, e = [.frz script', .dat k_', .own none (.lst pot_here1'), j3, j4, j5, j6, .un])) ⟨_, _, _, _, rfl⟩ (fun item' s e hN => by (obtain ⟨j3, j4, j5, j6, rfl⟩ := hN); exact (so_gN rfl (s_for (sk_up (lo_of (lo_ipEnum (lo_s (lo_of (lo_fn (lo_cons (lo_v rfl (lo_cons (lo_v rfl (lo_nil (lo_st (LeF.toL sim__law_made))))))))) fun t13 => (lo_bt)))) fun t14 => (s_forS (N := (fun (s : Unit) (e : Env) => ∃ j4 j5 j6 : SV, e = [.frz script', .dat k_', .own none (.lst pot_here1'), .dat item', j4, j5, j6, .un])) ⟨_, _, _, rfl⟩ (fun d1 s e hN => by (obtain ⟨j4, j5, j6, rfl⟩ := hN); exact (so_t2 (fun at_' d2 => (so_gN rfl (so_g2 rfl rfl (fun error' values' => (s_if (sk_up (lo_or (lo_of (lo_tOf (lo_s (lo_of (lo_op (lo_s (lo_of (lo_fn (lo_cons (lo_v rfl (lo_nil (lo_st (LeF.toL sim__law_kinds))))))) fun t15 => (lo_s (lo_map (lo_of (lo_mapc (fun other' => lo_gN rfl (lo_of (lo_op (lo_v rfl (lo_v rfl (lo_bt)))))) (lo_s (lo_of (lo_ipRange1 (lo_v rfl (lo_bt)))) fun t16 => (lo_bt))))) fun t17 => (lo_bt))))) fun t18 => (lo_bt)))) (lo_of (lo_tOf (lo_s (lo_of (lo_op (lo_s (lo_of (lo_call (lo_cons (lo_v rfl (lo_nil (lo_bt)))))) fun t19 => (lo_s (lo_of (lo_call (lo_cons (lo_v (xl_v (olst_v rfl rfl)) (lo_nil (lo_bt)))))) fun t20 => (lo_bt))))) fun t21 => (lo_bt))))) fun t22 => (sk_if (s_then (s_ret (sk_yV (sk_upv rfl (s_rtS rfl))))) (s_thenNil (s_if (sk_up (lo_not (lo_of (lo_tOf (lo_s (lo_of (lo_isX (lo_v rfl (lo_bt)))) fun t23 => (lo_bt))))) fun t24 => (sk_if (s_then (s_ret (sk_yV (sk_upv rfl (s_rtS rfl))))) (s_thenNil (s_nilS ⟨_, _, _, rfl⟩))))))))))))))) (fun s e hN => by (obtain ⟨j4, j5, j6, rfl⟩ := hN); exact (s_nilS ⟨_, _, _, _, rfl⟩)) s_reS))))) (fun s e hN => by (obtain ⟨j3, j4, j5, j6, rfl⟩ := hN); exact (s_nilS ⟨_, _, _, _, _, _, rfl⟩)) s_reS))))))))))))))))))))))))))))))))))))))))))))))) (fun s e hN => by (obtain ⟨j1, j2, j3, j4, j5, j6, rfl⟩ := hN); exact (s_ret (sk_yV (sk_upv rfl (s_rtF rfl))))) s_reF)))))))))

/-! #### what the top has written -/
theorem fin {P : Program} {w : World} {K : Fg} {h : Heap} {mg : Str → Option Value} {fa : Addr} (X : K.In h) (G : h.Ns mainGlobals mg) (hm : mg "law" = some (.ref fa))
    {od0 an0 : Option Addr} {sl0 : Array (Option Value)} {oc0 kV0 dc0 pm0 cd0 ct0 : Value} {f0 : Addr}
    {od1 an1 : Option Addr} {sl1 : Array (Option Value)} {oc1 kV1 dc1 pm1 cd1 ct1 : Value} {f1 : Addr}
    {od2 an2 : Option Addr} {sl2 : Array (Option Value)} {oc2 kV2 dc2 pm2 cd2 ct2 : Value} {f2 : Addr}
    {od3 an3 : Option Addr} {sl3 : Array (Option Value)} {oc3 kV3 dc3 pm3 cd3 ct3 : Value} {f3 : Addr}
    {od4 an4 : Option Addr} {sl4 : Array (Option Value)} {oc4 kV4 dc4 pm4 cd4 ct4 : Value} {f4 : Addr}
    {C_CommandError : Addr}
    {N_CommandError I_CommandError : Addr} {nm_CommandError q_CommandError : Str} {bs_CommandError bm_CommandError sub_CommandError : List Value} {sn_CommandError : List Str} {ab_CommandError : Bool} {col_CommandError : Option Bool} {dd_CommandError xod_CommandError xan_CommandError : Option Addr} {m0_CommandError m1_CommandError m2_CommandError m3_CommandError m5_CommandError : Option Value} {xoc_CommandError xkV_CommandError xdc_CommandError xpm_CommandError xcd_CommandError xct_CommandError : Value} {xsl_CommandError : Array (Option Value)}
    {C_InvalidLetter : Addr}
    {N_InvalidLetter I_InvalidLetter : Addr} {nm_InvalidLetter q_InvalidLetter : Str} {bs_InvalidLetter bm_InvalidLetter sub_InvalidLetter : List Value} {sn_InvalidLetter : List Str} {ab_InvalidLetter : Bool} {col_InvalidLetter : Option Bool} {dd_InvalidLetter xod_InvalidLetter xan_InvalidLetter : Option Addr} {m0_InvalidLetter m1_InvalidLetter m2_InvalidLetter m3_InvalidLetter m5_InvalidLetter : Option Value} {xoc_InvalidLetter xkV_InvalidLetter xdc_InvalidLetter xpm_InvalidLetter xcd_InvalidLetter xct_InvalidLetter : Value} {xsl_InvalidLetter : Array (Option Value)}
    {C_InvalidRange : Addr}
    {N_InvalidRange I_InvalidRange : Addr} {nm_InvalidRange q_InvalidRange : Str} {bs_InvalidRange bm_InvalidRange sub_InvalidRange : List Value} {sn_InvalidRange : List Str} {ab_InvalidRange : Bool} {col_InvalidRange : Option Bool} {dd_InvalidRange xod_InvalidRange xan_InvalidRange : Option Addr} {m0_InvalidRange m1_InvalidRange m2_InvalidRange m3_InvalidRange m5_InvalidRange : Option Value} {xoc_InvalidRange xkV_InvalidRange xdc_InvalidRange xpm_InvalidRange xcd_InvalidRange xct_InvalidRange : Value} {xsl_InvalidRange : Array (Option Value)}
    {C_InvalidStream : Addr}
    {N_InvalidStream I_InvalidStream : Addr} {nm_InvalidStream q_InvalidStream : Str} {bs_InvalidStream bm_InvalidStream sub_InvalidStream : List Value} {sn_InvalidStream : List Str} {ab_InvalidStream : Bool} {col_InvalidStream : Option Bool} {dd_InvalidStream xod_InvalidStream xan_InvalidStream : Option Addr} {m0_InvalidStream m1_InvalidStream m2_InvalidStream m3_InvalidStream m5_InvalidStream : Option Value} {xoc_InvalidStream xkV_InvalidStream xdc_InvalidStream xpm_InvalidStream xcd_InvalidStream xct_InvalidStream : Value} {xsl_InvalidStream : Array (Option Value)}
    {C_NoNumber : Addr}
    {N_NoNumber I_NoNumber : Addr} {nm_NoNumber q_NoNumber : Str} {bs_NoNumber bm_NoNumber sub_NoNumber : List Value} {sn_NoNumber : List Str} {ab_NoNumber : Bool} {col_NoNumber : Option Bool} {dd_NoNumber xod_NoNumber xan_NoNumber : Option Addr} {m0_NoNumber m1_NoNumber m2_NoNumber m3_NoNumber m5_NoNumber : Option Value} {xoc_NoNumber xkV_NoNumber xdc_NoNumber xpm_NoNumber xcd_NoNumber xct_NoNumber : Value} {xsl_NoNumber : Array (Option Value)}
    {C_NoPosition : Addr}
    {N_NoPosition I_NoPosition : Addr} {nm_NoPosition q_NoPosition : Str} {bs_NoPosition bm_NoPosition sub_NoPosition : List Value} {sn_NoPosition : List Str} {ab_NoPosition : Bool} {col_NoPosition : Option Bool} {dd_NoPosition xod_NoPosition xan_NoPosition : Option Addr} {m0_NoPosition m1_NoPosition m2_NoPosition m3_NoPosition m5_NoPosition : Option Value} {xoc_NoPosition xkV_NoPosition xdc_NoPosition xpm_NoPosition xcd_NoPosition xct_NoPosition : Value} {xsl_NoPosition : Array (Option Value)}
    {C_NoUse : Addr}
    {N_NoUse I_NoUse : Addr} {nm_NoUse q_NoUse : Str} {bs_NoUse bm_NoUse sub_NoUse : List Value} {sn_NoUse : List Str} {ab_NoUse : Bool} {col_NoUse : Option Bool} {dd_NoUse xod_NoUse xan_NoUse : Option Addr} {m0_NoUse m1_NoUse m2_NoUse m3_NoUse m5_NoUse : Option Value} {xoc_NoUse xkV_NoUse xdc_NoUse xpm_NoUse xcd_NoUse xct_NoUse : Value} {xsl_NoUse : Array (Option Value)}
    {C_NotLiteral : Addr}
    {N_NotLiteral I_NotLiteral : Addr} {nm_NotLiteral q_NotLiteral : Str} {bs_NotLiteral bm_NotLiteral sub_NotLiteral : List Value} {sn_NotLiteral : List Str} {ab_NotLiteral : Bool} {col_NotLiteral : Option Bool} {dd_NotLiteral xod_NotLiteral xan_NotLiteral : Option Addr} {m0_NotLiteral m1_NotLiteral m2_NotLiteral m3_NotLiteral m5_NotLiteral : Option Value} {xoc_NotLiteral xkV_NotLiteral xdc_NotLiteral xpm_NotLiteral xcd_NotLiteral xct_NotLiteral : Value} {xsl_NotLiteral : Array (Option Value)}
    {C_NothingToUndo : Addr}
    {C_ParseError : Addr}
    {N_ParseError I_ParseError : Addr} {nm_ParseError q_ParseError : Str} {bs_ParseError bm_ParseError sub_ParseError : List Value} {sn_ParseError : List Str} {ab_ParseError : Bool} {col_ParseError : Option Bool} {dd_ParseError xod_ParseError xan_ParseError : Option Addr} {m0_ParseError m1_ParseError m2_ParseError m3_ParseError m5_ParseError : Option Value} {xoc_ParseError xkV_ParseError xdc_ParseError xpm_ParseError xcd_ParseError xct_ParseError : Value} {xsl_ParseError : Array (Option Value)}
    {C_StreamError : Addr}
    {C_TooLong : Addr}
    {N_TooLong I_TooLong : Addr} {nm_TooLong q_TooLong : Str} {bs_TooLong bm_TooLong sub_TooLong : List Value} {sn_TooLong : List Str} {ab_TooLong : Bool} {col_TooLong : Option Bool} {dd_TooLong xod_TooLong xan_TooLong : Option Addr} {m0_TooLong m1_TooLong m2_TooLong m3_TooLong m5_TooLong : Option Value} {xoc_TooLong xkV_TooLong xdc_TooLong xpm_TooLong xcd_TooLong xct_TooLong : Value} {xsl_TooLong : Array (Option Value)}
    (a0 : PySem.W.nsIn K mainGlobals "_law_pot" = some (some (.ref f0))) (l0 : K.lookup f0 = some ⟨oc0, od0, .func (PySem.W.fnOf "_law_pot" "_law_pot" (defArgs s__law_pot) (defBody s__law_pot) (defScope s__law_pot) .none kV0 dc0 pm0 an0 cd0 ct0), sl0⟩) (c0 : PySem.W.codeIn K cd0 "_law_pot" = true) (k0 : PySem.W.keepIn K (.ref f0) = true)
    (a1 : PySem.W.nsIn K mainGlobals "_law_kinds" = some (some (.ref f1))) (l1 : K.lookup f1 = some ⟨oc1, od1, .func (PySem.W.fnOf "_law_kinds" "_law_kinds" (defArgs s__law_kinds) (defBody s__law_kinds) (defScope s__law_kinds) .none kV1 dc1 pm1 an1 cd1 ct1), sl1⟩) (c1 : PySem.W.codeIn K cd1 "_law_kinds" = true) (k1 : PySem.W.keepIn K (.ref f1) = true)
    (a2 : PySem.W.nsIn K mainGlobals "_law_take" = some (some (.ref f2))) (l2 : K.lookup f2 = some ⟨oc2, od2, .func (PySem.W.fnOf "_law_take" "_law_take" (defArgs s__law_take) (defBody s__law_take) (defScope s__law_take) .none kV2 dc2 pm2 an2 cd2 ct2), sl2⟩) (c2 : PySem.W.codeIn K cd2 "_law_take" = true) (k2 : PySem.W.keepIn K (.ref f2) = true)
    (a3 : PySem.W.nsIn K mainGlobals "_law_made" = some (some (.ref f3))) (l3 : K.lookup f3 = some ⟨oc3, od3, .func (PySem.W.fnOf "_law_made" "_law_made" (defArgs s__law_made) (defBody s__law_made) (defScope s__law_made) .none kV3 dc3 pm3 an3 cd3 ct3), sl3⟩) (c3 : PySem.W.codeIn K cd3 "_law_made" = true) (k3 : PySem.W.keepIn K (.ref f3) = true)
    (a4 : PySem.W.nsIn K mainGlobals "law" = some (some (.ref f4))) (l4 : K.lookup f4 = some ⟨oc4, od4, .func (PySem.W.fnOf "law" "law" (defArgs s_law) (defBody s_law) (defScope s_law) .none kV4 dc4 pm4 an4 cd4 ct4), sl4⟩) (c4 : PySem.W.codeIn K cd4 "law" = true) (k4 : PySem.W.keepIn K (.ref f4) = true)
    (xcn : PySem.W.specialIn K (.builtin "object.__class__") "__get__" = some (some (.builtin "getset_descriptor.__get__"))) (xct : PySem.W.takesIn K (.builtin "object.__class__") = some true)
    (xa_CommandError : PySem.W.nsIn K mainGlobals "CommandError" = some (some (.ref C_CommandError)))
    (xl_CommandError : K.lookup C_CommandError = some (excClassObj nm_CommandError q_CommandError C_CommandError N_CommandError bs_CommandError bm_CommandError true sn_CommandError sub_CommandError ab_CommandError col_CommandError dd_CommandError m0_CommandError m1_CommandError m2_CommandError m3_CommandError m5_CommandError "ValueError.__new__"))
    (xr_CommandError : PySem.HandSPX.refsVE bm_CommandError = true)
    (xsa_CommandError : PySem.W.findIn K (.ref C_CommandError) "__setattr__" = some (some (.builtin "object.__setattr__")))
    (xga_CommandError : PySem.W.findIn K (.ref C_CommandError) "__getattribute__" = some (some (.builtin "BaseException.__getattribute__")))
    (xgg_CommandError : PySem.W.findIn K (.ref C_CommandError) "__getattr__" = some none)
    (xss_CommandError : PySem.W.subIn K (.ref C_CommandError) (.ref C_CommandError) = some true)
    (xe_CommandError : PySem.W.subIn K (.ref C_CommandError) (.type "BaseException") = some true)
    (xt_CommandError : PySem.W.typeIn K (.ref C_CommandError) = some (.type "type"))
    (xk_CommandError : PySem.W.keepIn K (.ref C_CommandError) = true)
    (xh_CommandError : PySem.W.hasDictIn K C_CommandError = true)
    (xca_CommandError : PySem.W.findIn K (.ref C_CommandError) "__class__" = some (some (.builtin "object.__class__")))
    (xcm_CommandError : PySem.W.mroIn K C_CommandError (.type "object") = some true)
    (xi_CommandError : PySem.W.findIn K (.ref C_CommandError) "__init__" = some (some (.ref I_CommandError)))
    (xti_CommandError : PySem.W.typeIn K (.ref I_CommandError) = some (.type "function"))
    (xki_CommandError : PySem.W.keepIn K (.ref I_CommandError) = true)
    (xli_CommandError : K.lookup I_CommandError = some ⟨xoc_CommandError, xod_CommandError, .func (PySem.W.fnOf "__init__" ("CommandError" ++ ".__init__") (defArgs sx_CommandError) (defBody sx_CommandError) (defScope sx_CommandError) .none xkV_CommandError xdc_CommandError xpm_CommandError xan_CommandError xcd_CommandError xct_CommandError), xsl_CommandError⟩)
    (xci_CommandError : PySem.W.codeIn K xcd_CommandError ("CommandError" ++ ".__init__") = true)
    (xn0_CommandError : PySem.W.findIn K (.ref C_CommandError) "command" = some none)
    (xa_InvalidLetter : PySem.W.nsIn K mainGlobals "InvalidLetter" = some (some (.ref C_InvalidLetter)))
    (xl_InvalidLetter : K.lookup C_InvalidLetter = some (excClassObj nm_InvalidLetter q_InvalidLetter C_InvalidLetter N_InvalidLetter bs_InvalidLetter bm_InvalidLetter true sn_InvalidLetter sub_InvalidLetter ab_InvalidLetter col_InvalidLetter dd_InvalidLetter m0_InvalidLetter m1_InvalidLetter m2_InvalidLetter m3_InvalidLetter m5_InvalidLetter "ValueError.__new__"))
    (xr_InvalidLetter : PySem.HandSPX.refsVE bm_InvalidLetter = true)
    (xsa_InvalidLetter : PySem.W.findIn K (.ref C_InvalidLetter) "__setattr__" = some (some (.builtin "object.__setattr__")))
    (xga_InvalidLetter : PySem.W.findIn K (.ref C_InvalidLetter) "__getattribute__" = some (some (.builtin "BaseException.__getattribute__")))
    (xgg_InvalidLetter : PySem.W.findIn K (.ref C_InvalidLetter) "__getattr__" = some none)
    (xss_InvalidLetter : PySem.W.subIn K (.ref C_InvalidLetter) (.ref C_InvalidLetter) = some true)
    (xe_InvalidLetter : PySem.W.subIn K (.ref C_InvalidLetter) (.type "BaseException") = some true)
    (xt_InvalidLetter : PySem.W.typeIn K (.ref C_InvalidLetter) = some (.type "type"))
    (xk_InvalidLetter : PySem.W.keepIn K (.ref C_InvalidLetter) = true)
    (xh_InvalidLetter : PySem.W.hasDictIn K C_InvalidLetter = true)
    (xca_InvalidLetter : PySem.W.findIn K (.ref C_InvalidLetter) "__class__" = some (some (.builtin "object.__class__")))
    (xcm_InvalidLetter : PySem.W.mroIn K C_InvalidLetter (.type "object") = some true)
    (xi_InvalidLetter : PySem.W.findIn K (.ref C_InvalidLetter) "__init__" = some (some (.ref I_InvalidLetter)))
    (xti_InvalidLetter : PySem.W.typeIn K (.ref I_InvalidLetter) = some (.type "function"))
    (xki_InvalidLetter : PySem.W.keepIn K (.ref I_InvalidLetter) = true)
    (xli_InvalidLetter : K.lookup I_InvalidLetter = some ⟨xoc_InvalidLetter, xod_InvalidLetter, .func (PySem.W.fnOf "__init__" ("InvalidLetter" ++ ".__init__") (defArgs sx_InvalidLetter) (defBody sx_InvalidLetter) (defScope sx_InvalidLetter) .none xkV_InvalidLetter xdc_InvalidLetter xpm_InvalidLetter xan_InvalidLetter xcd_InvalidLetter xct_InvalidLetter), xsl_InvalidLetter⟩)
    (xci_InvalidLetter : PySem.W.codeIn K xcd_InvalidLetter ("InvalidLetter" ++ ".__init__") = true)
    (xn0_InvalidLetter : PySem.W.findIn K (.ref C_InvalidLetter) "value" = some none)
    (xa_InvalidRange : PySem.W.nsIn K mainGlobals "InvalidRange" = some (some (.ref C_InvalidRange)))
    (xl_InvalidRange : K.lookup C_InvalidRange = some (excClassObj nm_InvalidRange q_InvalidRange C_InvalidRange N_InvalidRange bs_InvalidRange bm_InvalidRange true sn_InvalidRange sub_InvalidRange ab_InvalidRange col_InvalidRange dd_InvalidRange m0_InvalidRange m1_InvalidRange m2_InvalidRange m3_InvalidRange m5_InvalidRange "ValueError.__new__"))
    (xr_InvalidRange : PySem.HandSPX.refsVE bm_InvalidRange = true)
    (xsa_InvalidRange : PySem.W.findIn K (.ref C_InvalidRange) "__setattr__" = some (some (.builtin "object.__setattr__")))
    (xga_InvalidRange : PySem.W.findIn K (.ref C_InvalidRange) "__getattribute__" = some (some (.builtin "BaseException.__getattribute__")))
    (xgg_InvalidRange : PySem.W.findIn K (.ref C_InvalidRange) "__getattr__" = some none)
    (xss_InvalidRange : PySem.W.subIn K (.ref C_InvalidRange) (.ref C_InvalidRange) = some true)
    (xe_InvalidRange : PySem.W.subIn K (.ref C_InvalidRange) (.type "BaseException") = some true)
    (xt_InvalidRange : PySem.W.typeIn K (.ref C_InvalidRange) = some (.type "type"))
    (xk_InvalidRange : PySem.W.keepIn K (.ref C_InvalidRange) = true)
    (xh_InvalidRange : PySem.W.hasDictIn K C_InvalidRange = true)
    (xca_InvalidRange : PySem.W.findIn K (.ref C_InvalidRange) "__class__" = some (some (.builtin "object.__class__")))
    (xcm_InvalidRange : PySem.W.mroIn K C_InvalidRange (.type "object") = some true)
    (xi_InvalidRange : PySem.W.findIn K (.ref C_InvalidRange) "__init__" = some (some (.ref I_InvalidRange)))
    (xti_InvalidRange : PySem.W.typeIn K (.ref I_InvalidRange) = some (.type "function"))
    (xki_InvalidRange : PySem.W.keepIn K (.ref I_InvalidRange) = true)
    (xli_InvalidRange : K.lookup I_InvalidRange = some ⟨xoc_InvalidRange, xod_InvalidRange, .func (PySem.W.fnOf "__init__" ("InvalidRange" ++ ".__init__") (defArgs sx_InvalidRange) (defBody sx_InvalidRange) (defScope sx_InvalidRange) .none xkV_InvalidRange xdc_InvalidRange xpm_InvalidRange xan_InvalidRange xcd_InvalidRange xct_InvalidRange), xsl_InvalidRange⟩)
    (xci_InvalidRange : PySem.W.codeIn K xcd_InvalidRange ("InvalidRange" ++ ".__init__") = true)
    (xn0_InvalidRange : PySem.W.findIn K (.ref C_InvalidRange) "start" = some none)
    (xn1_InvalidRange : PySem.W.findIn K (.ref C_InvalidRange) "stop" = some none)
    (xa_InvalidStream : PySem.W.nsIn K mainGlobals "InvalidStream" = some (some (.ref C_InvalidStream)))
    (xl_InvalidStream : K.lookup C_InvalidStream = some (excClassObj nm_InvalidStream q_InvalidStream C_InvalidStream N_InvalidStream bs_InvalidStream bm_InvalidStream true sn_InvalidStream sub_InvalidStream ab_InvalidStream col_InvalidStream dd_InvalidStream m0_InvalidStream m1_InvalidStream m2_InvalidStream m3_InvalidStream m5_InvalidStream "ValueError.__new__"))
    (xr_InvalidStream : PySem.HandSPX.refsVE bm_InvalidStream = true)
    (xsa_InvalidStream : PySem.W.findIn K (.ref C_InvalidStream) "__setattr__" = some (some (.builtin "object.__setattr__")))
    (xga_InvalidStream : PySem.W.findIn K (.ref C_InvalidStream) "__getattribute__" = some (some (.builtin "BaseException.__getattribute__")))
    (xgg_InvalidStream : PySem.W.findIn K (.ref C_InvalidStream) "__getattr__" = some none)
    (xss_InvalidStream : PySem.W.subIn K (.ref C_InvalidStream) (.ref C_InvalidStream) = some true)
    (xe_InvalidStream : PySem.W.subIn K (.ref C_InvalidStream) (.type "BaseException") = some true)
    (xt_InvalidStream : PySem.W.typeIn K (.ref C_InvalidStream) = some (.type "type"))
    (xk_InvalidStream : PySem.W.keepIn K (.ref C_InvalidStream) = true)
    (xh_InvalidStream : PySem.W.hasDictIn K C_InvalidStream = true)
    (xca_InvalidStream : PySem.W.findIn K (.ref C_InvalidStream) "__class__" = some (some (.builtin "object.__class__")))
    (xcm_InvalidStream : PySem.W.mroIn K C_InvalidStream (.type "object") = some true)
    (xi_InvalidStream : PySem.W.findIn K (.ref C_InvalidStream) "__init__" = some (some (.ref I_InvalidStream)))
    (xti_InvalidStream : PySem.W.typeIn K (.ref I_InvalidStream) = some (.type "function"))
    (xki_InvalidStream : PySem.W.keepIn K (.ref I_InvalidStream) = true)
    (xli_InvalidStream : K.lookup I_InvalidStream = some ⟨xoc_InvalidStream, xod_InvalidStream, .func (PySem.W.fnOf "__init__" ("InvalidStream" ++ ".__init__") (defArgs sx_InvalidStream) (defBody sx_InvalidStream) (defScope sx_InvalidStream) .none xkV_InvalidStream xdc_InvalidStream xpm_InvalidStream xan_InvalidStream xcd_InvalidStream xct_InvalidStream), xsl_InvalidStream⟩)
    (xci_InvalidStream : PySem.W.codeIn K xcd_InvalidStream ("InvalidStream" ++ ".__init__") = true)
    (xn0_InvalidStream : PySem.W.findIn K (.ref C_InvalidStream) "value" = some none)
    (xa_NoNumber : PySem.W.nsIn K mainGlobals "NoNumber" = some (some (.ref C_NoNumber)))
    (xl_NoNumber : K.lookup C_NoNumber = some (excClassObj nm_NoNumber q_NoNumber C_NoNumber N_NoNumber bs_NoNumber bm_NoNumber true sn_NoNumber sub_NoNumber ab_NoNumber col_NoNumber dd_NoNumber m0_NoNumber m1_NoNumber m2_NoNumber m3_NoNumber m5_NoNumber "ValueError.__new__"))
    (xr_NoNumber : PySem.HandSPX.refsVE bm_NoNumber = true)
    (xsa_NoNumber : PySem.W.findIn K (.ref C_NoNumber) "__setattr__" = some (some (.builtin "object.__setattr__")))
    (xga_NoNumber : PySem.W.findIn K (.ref C_NoNumber) "__getattribute__" = some (some (.builtin "BaseException.__getattribute__")))
    (xgg_NoNumber : PySem.W.findIn K (.ref C_NoNumber) "__getattr__" = some none)
    (xss_NoNumber : PySem.W.subIn K (.ref C_NoNumber) (.ref C_NoNumber) = some true)
    (xe_NoNumber : PySem.W.subIn K (.ref C_NoNumber) (.type "BaseException") = some true)
    (xt_NoNumber : PySem.W.typeIn K (.ref C_NoNumber) = some (.type "type"))
    (xk_NoNumber : PySem.W.keepIn K (.ref C_NoNumber) = true)
    (xh_NoNumber : PySem.W.hasDictIn K C_NoNumber = true)
    (xca_NoNumber : PySem.W.findIn K (.ref C_NoNumber) "__class__" = some (some (.builtin "object.__class__")))
    (xcm_NoNumber : PySem.W.mroIn K C_NoNumber (.type "object") = some true)
    (xi_NoNumber : PySem.W.findIn K (.ref C_NoNumber) "__init__" = some (some (.ref I_NoNumber)))
    (xti_NoNumber : PySem.W.typeIn K (.ref I_NoNumber) = some (.type "function"))
    (xki_NoNumber : PySem.W.keepIn K (.ref I_NoNumber) = true)
    (xli_NoNumber : K.lookup I_NoNumber = some ⟨xoc_NoNumber, xod_NoNumber, .func (PySem.W.fnOf "__init__" ("NoNumber" ++ ".__init__") (defArgs sx_NoNumber) (defBody sx_NoNumber) (defScope sx_NoNumber) .none xkV_NoNumber xdc_NoNumber xpm_NoNumber xan_NoNumber xcd_NoNumber xct_NoNumber), xsl_NoNumber⟩)
    (xci_NoNumber : PySem.W.codeIn K xcd_NoNumber ("NoNumber" ++ ".__init__") = true)
    (xn0_NoNumber : PySem.W.findIn K (.ref C_NoNumber) "value" = some none)
    (xa_NoPosition : PySem.W.nsIn K mainGlobals "NoPosition" = some (some (.ref C_NoPosition)))
    (xl_NoPosition : K.lookup C_NoPosition = some (excClassObj nm_NoPosition q_NoPosition C_NoPosition N_NoPosition bs_NoPosition bm_NoPosition true sn_NoPosition sub_NoPosition ab_NoPosition col_NoPosition dd_NoPosition m0_NoPosition m1_NoPosition m2_NoPosition m3_NoPosition m5_NoPosition "ValueError.__new__"))
    (xr_NoPosition : PySem.HandSPX.refsVE bm_NoPosition = true)
    (xsa_NoPosition : PySem.W.findIn K (.ref C_NoPosition) "__setattr__" = some (some (.builtin "object.__setattr__")))
    (xga_NoPosition : PySem.W.findIn K (.ref C_NoPosition) "__getattribute__" = some (some (.builtin "BaseException.__getattribute__")))
    (xgg_NoPosition : PySem.W.findIn K (.ref C_NoPosition) "__getattr__" = some none)
    (xss_NoPosition : PySem.W.subIn K (.ref C_NoPosition) (.ref C_NoPosition) = some true)
    (xe_NoPosition : PySem.W.subIn K (.ref C_NoPosition) (.type "BaseException") = some true)
    (xt_NoPosition : PySem.W.typeIn K (.ref C_NoPosition) = some (.type "type"))
    (xk_NoPosition : PySem.W.keepIn K (.ref C_NoPosition) = true)
    (xh_NoPosition : PySem.W.hasDictIn K C_NoPosition = true)
    (xca_NoPosition : PySem.W.findIn K (.ref C_NoPosition) "__class__" = some (some (.builtin "object.__class__")))
    (xcm_NoPosition : PySem.W.mroIn K C_NoPosition (.type "object") = some true)
    (xi_NoPosition : PySem.W.findIn K (.ref C_NoPosition) "__init__" = some (some (.ref I_NoPosition)))
    (xti_NoPosition : PySem.W.typeIn K (.ref I_NoPosition) = some (.type "function"))
    (xki_NoPosition : PySem.W.keepIn K (.ref I_NoPosition) = true)
    (xli_NoPosition : K.lookup I_NoPosition = some ⟨xoc_NoPosition, xod_NoPosition, .func (PySem.W.fnOf "__init__" ("NoPosition" ++ ".__init__") (defArgs sx_NoPosition) (defBody sx_NoPosition) (defScope sx_NoPosition) .none xkV_NoPosition xdc_NoPosition xpm_NoPosition xan_NoPosition xcd_NoPosition xct_NoPosition), xsl_NoPosition⟩)
    (xci_NoPosition : PySem.W.codeIn K xcd_NoPosition ("NoPosition" ++ ".__init__") = true)
    (xn0_NoPosition : PySem.W.findIn K (.ref C_NoPosition) "value" = some none)
    (xa_NoUse : PySem.W.nsIn K mainGlobals "NoUse" = some (some (.ref C_NoUse)))
    (xl_NoUse : K.lookup C_NoUse = some (excClassObj nm_NoUse q_NoUse C_NoUse N_NoUse bs_NoUse bm_NoUse true sn_NoUse sub_NoUse ab_NoUse col_NoUse dd_NoUse m0_NoUse m1_NoUse m2_NoUse m3_NoUse m5_NoUse "ValueError.__new__"))
    (xr_NoUse : PySem.HandSPX.refsVE bm_NoUse = true)
    (xsa_NoUse : PySem.W.findIn K (.ref C_NoUse) "__setattr__" = some (some (.builtin "object.__setattr__")))
    (xga_NoUse : PySem.W.findIn K (.ref C_NoUse) "__getattribute__" = some (some (.builtin "BaseException.__getattribute__")))
    (xgg_NoUse : PySem.W.findIn K (.ref C_NoUse) "__getattr__" = some none)
    (xss_NoUse : PySem.W.subIn K (.ref C_NoUse) (.ref C_NoUse) = some true)
    (xe_NoUse : PySem.W.subIn K (.ref C_NoUse) (.type "BaseException") = some true)
    (xt_NoUse : PySem.W.typeIn K (.ref C_NoUse) = some (.type "type"))
    (xk_NoUse : PySem.W.keepIn K (.ref C_NoUse) = true)
    (xh_NoUse : PySem.W.hasDictIn K C_NoUse = true)
    (xca_NoUse : PySem.W.findIn K (.ref C_NoUse) "__class__" = some (some (.builtin "object.__class__")))
    (xcm_NoUse : PySem.W.mroIn K C_NoUse (.type "object") = some true)
    (xi_NoUse : PySem.W.findIn K (.ref C_NoUse) "__init__" = some (some (.ref I_NoUse)))
    (xti_NoUse : PySem.W.typeIn K (.ref I_NoUse) = some (.type "function"))
    (xki_NoUse : PySem.W.keepIn K (.ref I_NoUse) = true)
    (xli_NoUse : K.lookup I_NoUse = some ⟨xoc_NoUse, xod_NoUse, .func (PySem.W.fnOf "__init__" ("NoUse" ++ ".__init__") (defArgs sx_NoUse) (defBody sx_NoUse) (defScope sx_NoUse) .none xkV_NoUse xdc_NoUse xpm_NoUse xan_NoUse xcd_NoUse xct_NoUse), xsl_NoUse⟩)
    (xci_NoUse : PySem.W.codeIn K xcd_NoUse ("NoUse" ++ ".__init__") = true)
    (xn0_NoUse : PySem.W.findIn K (.ref C_NoUse) "value" = some none)
    (xa_NotLiteral : PySem.W.nsIn K mainGlobals "NotLiteral" = some (some (.ref C_NotLiteral)))
    (xl_NotLiteral : K.lookup C_NotLiteral = some (excClassObj nm_NotLiteral q_NotLiteral C_NotLiteral N_NotLiteral bs_NotLiteral bm_NotLiteral true sn_NotLiteral sub_NotLiteral ab_NotLiteral col_NotLiteral dd_NotLiteral m0_NotLiteral m1_NotLiteral m2_NotLiteral m3_NotLiteral m5_NotLiteral "ValueError.__new__"))
    (xr_NotLiteral : PySem.HandSPX.refsVE bm_NotLiteral = true)
    (xsa_NotLiteral : PySem.W.findIn K (.ref C_NotLiteral) "__setattr__" = some (some (.builtin "object.__setattr__")))
    (xga_NotLiteral : PySem.W.findIn K (.ref C_NotLiteral) "__getattribute__" = some (some (.builtin "BaseException.__getattribute__")))
    (xgg_NotLiteral : PySem.W.findIn K (.ref C_NotLiteral) "__getattr__" = some none)
    (xss_NotLiteral : PySem.W.subIn K (.ref C_NotLiteral) (.ref C_NotLiteral) = some true)
    (xe_NotLiteral : PySem.W.subIn K (.ref C_NotLiteral) (.type "BaseException") = some true)
    (xt_NotLiteral : PySem.W.typeIn K (.ref C_NotLiteral) = some (.type "type"))
    (xk_NotLiteral : PySem.W.keepIn K (.ref C_NotLiteral) = true)
    (xh_NotLiteral : PySem.W.hasDictIn K C_NotLiteral = true)
    (xca_NotLiteral : PySem.W.findIn K (.ref C_NotLiteral) "__class__" = some (some (.builtin "object.__class__")))
    (xcm_NotLiteral : PySem.W.mroIn K C_NotLiteral (.type "object") = some true)
    (xi_NotLiteral : PySem.W.findIn K (.ref C_NotLiteral) "__init__" = some (some (.ref I_NotLiteral)))
    (xti_NotLiteral : PySem.W.typeIn K (.ref I_NotLiteral) = some (.type "function"))
    (xki_NotLiteral : PySem.W.keepIn K (.ref I_NotLiteral) = true)
    (xli_NotLiteral : K.lookup I_NotLiteral = some ⟨xoc_NotLiteral, xod_NotLiteral, .func (PySem.W.fnOf "__init__" ("NotLiteral" ++ ".__init__") (defArgs sx_NotLiteral) (defBody sx_NotLiteral) (defScope sx_NotLiteral) .none xkV_NotLiteral xdc_NotLiteral xpm_NotLiteral xan_NotLiteral xcd_NotLiteral xct_NotLiteral), xsl_NotLiteral⟩)
    (xci_NotLiteral : PySem.W.codeIn K xcd_NotLiteral ("NotLiteral" ++ ".__init__") = true)
    (xn0_NotLiteral : PySem.W.findIn K (.ref C_NotLiteral) "value" = some none)
    (xa_NothingToUndo : PySem.W.nsIn K mainGlobals "NothingToUndo" = some (some (.ref C_NothingToUndo)))
    (xq_NothingToUndo : PySem.W.excIn K C_NothingToUndo veB "ValueError.__new__" = true)
    (xga_NothingToUndo : PySem.W.findIn K (.ref C_NothingToUndo) "__getattribute__" = some (some (.builtin "BaseException.__getattribute__")))
    (xgg_NothingToUndo : PySem.W.findIn K (.ref C_NothingToUndo) "__getattr__" = some none)
    (xss_NothingToUndo : PySem.W.subIn K (.ref C_NothingToUndo) (.ref C_NothingToUndo) = some true)
    (xe_NothingToUndo : PySem.W.subIn K (.ref C_NothingToUndo) (.type "BaseException") = some true)
    (xt_NothingToUndo : PySem.W.typeIn K (.ref C_NothingToUndo) = some (.type "type"))
    (xk_NothingToUndo : PySem.W.keepIn K (.ref C_NothingToUndo) = true)
    (xh_NothingToUndo : PySem.W.hasDictIn K C_NothingToUndo = true)
    (xca_NothingToUndo : PySem.W.findIn K (.ref C_NothingToUndo) "__class__" = some (some (.builtin "object.__class__")))
    (xcm_NothingToUndo : PySem.W.mroIn K C_NothingToUndo (.type "object") = some true)
    (xa_ParseError : PySem.W.nsIn K mainGlobals "ParseError" = some (some (.ref C_ParseError)))
    (xl_ParseError : K.lookup C_ParseError = some (excClassObj nm_ParseError q_ParseError C_ParseError N_ParseError bs_ParseError bm_ParseError true sn_ParseError sub_ParseError ab_ParseError col_ParseError dd_ParseError m0_ParseError m1_ParseError m2_ParseError m3_ParseError m5_ParseError "ValueError.__new__"))
    (xr_ParseError : PySem.HandSPX.refsVE bm_ParseError = true)
    (xsa_ParseError : PySem.W.findIn K (.ref C_ParseError) "__setattr__" = some (some (.builtin "object.__setattr__")))
    (xga_ParseError : PySem.W.findIn K (.ref C_ParseError) "__getattribute__" = some (some (.builtin "BaseException.__getattribute__")))
    (xgg_ParseError : PySem.W.findIn K (.ref C_ParseError) "__getattr__" = some none)
    (xss_ParseError : PySem.W.subIn K (.ref C_ParseError) (.ref C_ParseError) = some true)
    (xe_ParseError : PySem.W.subIn K (.ref C_ParseError) (.type "BaseException") = some true)
    (xt_ParseError : PySem.W.typeIn K (.ref C_ParseError) = some (.type "type"))
    (xk_ParseError : PySem.W.keepIn K (.ref C_ParseError) = true)
    (xh_ParseError : PySem.W.hasDictIn K C_ParseError = true)
    (xca_ParseError : PySem.W.findIn K (.ref C_ParseError) "__class__" = some (some (.builtin "object.__class__")))
    (xcm_ParseError : PySem.W.mroIn K C_ParseError (.type "object") = some true)
    (xi_ParseError : PySem.W.findIn K (.ref C_ParseError) "__init__" = some (some (.ref I_ParseError)))
    (xti_ParseError : PySem.W.typeIn K (.ref I_ParseError) = some (.type "function"))
    (xki_ParseError : PySem.W.keepIn K (.ref I_ParseError) = true)
    (xli_ParseError : K.lookup I_ParseError = some ⟨xoc_ParseError, xod_ParseError, .func (PySem.W.fnOf "__init__" ("ParseError" ++ ".__init__") (defArgs sx_ParseError) (defBody sx_ParseError) (defScope sx_ParseError) .none xkV_ParseError xdc_ParseError xpm_ParseError xan_ParseError xcd_ParseError xct_ParseError), xsl_ParseError⟩)
    (xci_ParseError : PySem.W.codeIn K xcd_ParseError ("ParseError" ++ ".__init__") = true)
    (xn0_ParseError : PySem.W.findIn K (.ref C_ParseError) "index" = some none)
    (xa_StreamError : PySem.W.nsIn K mainGlobals "StreamError" = some (some (.ref C_StreamError)))
    (xq_StreamError : PySem.W.excIn K C_StreamError veB "ValueError.__new__" = true)
    (xga_StreamError : PySem.W.findIn K (.ref C_StreamError) "__getattribute__" = some (some (.builtin "BaseException.__getattribute__")))
    (xgg_StreamError : PySem.W.findIn K (.ref C_StreamError) "__getattr__" = some none)
    (xss_StreamError : PySem.W.subIn K (.ref C_StreamError) (.ref C_StreamError) = some true)
    (xe_StreamError : PySem.W.subIn K (.ref C_StreamError) (.type "BaseException") = some true)
    (xt_StreamError : PySem.W.typeIn K (.ref C_StreamError) = some (.type "type"))
    (xk_StreamError : PySem.W.keepIn K (.ref C_StreamError) = true)
    (xh_StreamError : PySem.W.hasDictIn K C_StreamError = true)
    (xca_StreamError : PySem.W.findIn K (.ref C_StreamError) "__class__" = some (some (.builtin "object.__class__")))
    (xcm_StreamError : PySem.W.mroIn K C_StreamError (.type "object") = some true)
    (xa_TooLong : PySem.W.nsIn K mainGlobals "TooLong" = some (some (.ref C_TooLong)))
    (xl_TooLong : K.lookup C_TooLong = some (excClassObj nm_TooLong q_TooLong C_TooLong N_TooLong bs_TooLong bm_TooLong true sn_TooLong sub_TooLong ab_TooLong col_TooLong dd_TooLong m0_TooLong m1_TooLong m2_TooLong m3_TooLong m5_TooLong "ValueError.__new__"))
    (xr_TooLong : PySem.HandSPX.refsVE bm_TooLong = true)
    (xsa_TooLong : PySem.W.findIn K (.ref C_TooLong) "__setattr__" = some (some (.builtin "object.__setattr__")))
    (xga_TooLong : PySem.W.findIn K (.ref C_TooLong) "__getattribute__" = some (some (.builtin "BaseException.__getattribute__")))
    (xgg_TooLong : PySem.W.findIn K (.ref C_TooLong) "__getattr__" = some none)
    (xss_TooLong : PySem.W.subIn K (.ref C_TooLong) (.ref C_TooLong) = some true)
    (xe_TooLong : PySem.W.subIn K (.ref C_TooLong) (.type "BaseException") = some true)
    (xt_TooLong : PySem.W.typeIn K (.ref C_TooLong) = some (.type "type"))
    (xk_TooLong : PySem.W.keepIn K (.ref C_TooLong) = true)
    (xh_TooLong : PySem.W.hasDictIn K C_TooLong = true)
    (xca_TooLong : PySem.W.findIn K (.ref C_TooLong) "__class__" = some (some (.builtin "object.__class__")))
    (xcm_TooLong : PySem.W.mroIn K C_TooLong (.type "object") = some true)
    (xi_TooLong : PySem.W.findIn K (.ref C_TooLong) "__init__" = some (some (.ref I_TooLong)))
    (xti_TooLong : PySem.W.typeIn K (.ref I_TooLong) = some (.type "function"))
    (xki_TooLong : PySem.W.keepIn K (.ref I_TooLong) = true)
    (xli_TooLong : K.lookup I_TooLong = some ⟨xoc_TooLong, xod_TooLong, .func (PySem.W.fnOf "__init__" ("TooLong" ++ ".__init__") (defArgs sx_TooLong) (defBody sx_TooLong) (defScope sx_TooLong) .none xkV_TooLong xdc_TooLong xpm_TooLong xan_TooLong xcd_TooLong xct_TooLong), xsl_TooLong⟩)
    (xci_TooLong : PySem.W.codeIn K xcd_TooLong ("TooLong" ++ ".__init__") = true)
    (xn0_TooLong : PySem.W.findIn K (.ref C_TooLong) "value" = some none)
    (yh_CommandError : PySem.W.hasDictIn K C_CommandError = true) (yt_CommandError : PySem.W.typeIn K (.ref C_CommandError) = some (.type "type"))
    (su_CommandError_CommandError : PySem.W.subIn K (.ref C_CommandError) (.ref C_CommandError) = some true)
    (su_InvalidLetter_CommandError : PySem.W.subIn K (.ref C_InvalidLetter) (.ref C_CommandError) = some false)
    (su_InvalidRange_CommandError : PySem.W.subIn K (.ref C_InvalidRange) (.ref C_CommandError) = some false)
    (su_InvalidStream_CommandError : PySem.W.subIn K (.ref C_InvalidStream) (.ref C_CommandError) = some false)
    (su_NoNumber_CommandError : PySem.W.subIn K (.ref C_NoNumber) (.ref C_CommandError) = some false)
    (su_NoPosition_CommandError : PySem.W.subIn K (.ref C_NoPosition) (.ref C_CommandError) = some false)
    (su_NoUse_CommandError : PySem.W.subIn K (.ref C_NoUse) (.ref C_CommandError) = some false)
    (su_NotLiteral_CommandError : PySem.W.subIn K (.ref C_NotLiteral) (.ref C_CommandError) = some false)
    (su_NothingToUndo_CommandError : PySem.W.subIn K (.ref C_NothingToUndo) (.ref C_CommandError) = some false)
    (su_ParseError_CommandError : PySem.W.subIn K (.ref C_ParseError) (.ref C_CommandError) = some false)
    (su_StreamError_CommandError : PySem.W.subIn K (.ref C_StreamError) (.ref C_CommandError) = some false)
    (su_TooLong_CommandError : PySem.W.subIn K (.ref C_TooLong) (.ref C_CommandError) = some false)
    (yh_InvalidLetter : PySem.W.hasDictIn K C_InvalidLetter = true) (yt_InvalidLetter : PySem.W.typeIn K (.ref C_InvalidLetter) = some (.type "type"))
    (su_CommandError_InvalidLetter : PySem.W.subIn K (.ref C_CommandError) (.ref C_InvalidLetter) = some false)
    (su_InvalidLetter_InvalidLetter : PySem.W.subIn K (.ref C_InvalidLetter) (.ref C_InvalidLetter) = some true)
    (su_InvalidRange_InvalidLetter : PySem.W.subIn K (.ref C_InvalidRange) (.ref C_InvalidLetter) = some false)
    (su_InvalidStream_InvalidLetter : PySem.W.subIn K (.ref C_InvalidStream) (.ref C_InvalidLetter) = some false)
    (su_NoNumber_InvalidLetter : PySem.W.subIn K (.ref C_NoNumber) (.ref C_InvalidLetter) = some false)
    (su_NoPosition_InvalidLetter : PySem.W.subIn K (.ref C_NoPosition) (.ref C_InvalidLetter) = some false)
    (su_NoUse_InvalidLetter : PySem.W.subIn K (.ref C_NoUse) (.ref C_InvalidLetter) = some false)
    (su_NotLiteral_InvalidLetter : PySem.W.subIn K (.ref C_NotLiteral) (.ref C_InvalidLetter) = some false)
    (su_NothingToUndo_InvalidLetter : PySem.W.subIn K (.ref C_NothingToUndo) (.ref C_InvalidLetter) = some false)
    (su_ParseError_InvalidLetter : PySem.W.subIn K (.ref C_ParseError) (.ref C_InvalidLetter) = some false)
    (su_StreamError_InvalidLetter : PySem.W.subIn K (.ref C_StreamError) (.ref C_InvalidLetter) = some false)
    (su_TooLong_InvalidLetter : PySem.W.subIn K (.ref C_TooLong) (.ref C_InvalidLetter) = some false)
    (yh_InvalidRange : PySem.W.hasDictIn K C_InvalidRange = true) (yt_InvalidRange : PySem.W.typeIn K (.ref C_InvalidRange) = some (.type "type"))
    (su_CommandError_InvalidRange : PySem.W.subIn K (.ref C_CommandError) (.ref C_InvalidRange) = some false)
    (su_InvalidLetter_InvalidRange : PySem.W.subIn K (.ref C_InvalidLetter) (.ref C_InvalidRange) = some false)
    (su_InvalidRange_InvalidRange : PySem.W.subIn K (.ref C_InvalidRange) (.ref C_InvalidRange) = some true)
    (su_InvalidStream_InvalidRange : PySem.W.subIn K (.ref C_InvalidStream) (.ref C_InvalidRange) = some false)
    (su_NoNumber_InvalidRange : PySem.W.subIn K (.ref C_NoNumber) (.ref C_InvalidRange) = some false)
    (su_NoPosition_InvalidRange : PySem.W.subIn K (.ref C_NoPosition) (.ref C_InvalidRange) = some false)
    (su_NoUse_InvalidRange : PySem.W.subIn K (.ref C_NoUse) (.ref C_InvalidRange) = some false)
    (su_NotLiteral_InvalidRange : PySem.W.subIn K (.ref C_NotLiteral) (.ref C_InvalidRange) = some false)
    (su_NothingToUndo_InvalidRange : PySem.W.subIn K (.ref C_NothingToUndo) (.ref C_InvalidRange) = some false)
    (su_ParseError_InvalidRange : PySem.W.subIn K (.ref C_ParseError) (.ref C_InvalidRange) = some false)
    (su_StreamError_InvalidRange : PySem.W.subIn K (.ref C_StreamError) (.ref C_InvalidRange) = some false)
    (su_TooLong_InvalidRange : PySem.W.subIn K (.ref C_TooLong) (.ref C_InvalidRange) = some false)
    (yh_InvalidStream : PySem.W.hasDictIn K C_InvalidStream = true) (yt_InvalidStream : PySem.W.typeIn K (.ref C_InvalidStream) = some (.type "type"))
    (su_CommandError_InvalidStream : PySem.W.subIn K (.ref C_CommandError) (.ref C_InvalidStream) = some false)
    (su_InvalidLetter_InvalidStream : PySem.W.subIn K (.ref C_InvalidLetter) (.ref C_InvalidStream) = some false)
    (su_InvalidRange_InvalidStream : PySem.W.subIn K (.ref C_InvalidRange) (.ref C_InvalidStream) = some false)
    (su_InvalidStream_InvalidStream : PySem.W.subIn K (.ref C_InvalidStream) (.ref C_InvalidStream) = some true)
    (su_NoNumber_InvalidStream : PySem.W.subIn K (.ref C_NoNumber) (.ref C_InvalidStream) = some false)
    (su_NoPosition_InvalidStream : PySem.W.subIn K (.ref C_NoPosition) (.ref C_InvalidStream) = some false)
    (su_NoUse_InvalidStream : PySem.W.subIn K (.ref C_NoUse) (.ref C_InvalidStream) = some false)
    (su_NotLiteral_InvalidStream : PySem.W.subIn K (.ref C_NotLiteral) (.ref C_InvalidStream) = some false)
    (su_NothingToUndo_InvalidStream : PySem.W.subIn K (.ref C_NothingToUndo) (.ref C_InvalidStream) = some false)
    (su_ParseError_InvalidStream : PySem.W.subIn K (.ref C_ParseError) (.ref C_InvalidStream) = some false)
    (su_StreamError_InvalidStream : PySem.W.subIn K (.ref C_StreamError) (.ref C_InvalidStream) = some false)
    (su_TooLong_InvalidStream : PySem.W.subIn K (.ref C_TooLong) (.ref C_InvalidStream) = some false)
    (yh_NoNumber : PySem.W.hasDictIn K C_NoNumber = true) (yt_NoNumber : PySem.W.typeIn K (.ref C_NoNumber) = some (.type "type"))
    (su_CommandError_NoNumber : PySem.W.subIn K (.ref C_CommandError) (.ref C_NoNumber) = some false)
    (su_InvalidLetter_NoNumber : PySem.W.subIn K (.ref C_InvalidLetter) (.ref C_NoNumber) = some false)
    (su_InvalidRange_NoNumber : PySem.W.subIn K (.ref C_InvalidRange) (.ref C_NoNumber) = some false)
    (su_InvalidStream_NoNumber : PySem.W.subIn K (.ref C_InvalidStream) (.ref C_NoNumber) = some false)
    (su_NoNumber_NoNumber : PySem.W.subIn K (.ref C_NoNumber) (.ref C_NoNumber) = some true)
    (su_NoPosition_NoNumber : PySem.W.subIn K (.ref C_NoPosition) (.ref C_NoNumber) = some false)
    (su_NoUse_NoNumber : PySem.W.subIn K (.ref C_NoUse) (.ref C_NoNumber) = some false)
    (su_NotLiteral_NoNumber : PySem.W.subIn K (.ref C_NotLiteral) (.ref C_NoNumber) = some false)
    (su_NothingToUndo_NoNumber : PySem.W.subIn K (.ref C_NothingToUndo) (.ref C_NoNumber) = some false)
    (su_ParseError_NoNumber : PySem.W.subIn K (.ref C_ParseError) (.ref C_NoNumber) = some false)
    (su_StreamError_NoNumber : PySem.W.subIn K (.ref C_StreamError) (.ref C_NoNumber) = some false)
    (su_TooLong_NoNumber : PySem.W.subIn K (.ref C_TooLong) (.ref C_NoNumber) = some false)
    (yh_NoPosition : PySem.W.hasDictIn K C_NoPosition = true) (yt_NoPosition : PySem.W.typeIn K (.ref C_NoPosition) = some (.type "type"))
    (su_CommandError_NoPosition : PySem.W.subIn K (.ref C_CommandError) (.ref C_NoPosition) = some false)
    (su_InvalidLetter_NoPosition : PySem.W.subIn K (.ref C_InvalidLetter) (.ref C_NoPosition) = some false)
    (su_InvalidRange_NoPosition : PySem.W.subIn K (.ref C_InvalidRange) (.ref C_NoPosition) = some false)
    (su_InvalidStream_NoPosition : PySem.W.subIn K (.ref C_InvalidStream) (.ref C_NoPosition) = some false)
    (su_NoNumber_NoPosition : PySem.W.subIn K (.ref C_NoNumber) (.ref C_NoPosition) = some false)
    (su_NoPosition_NoPosition : PySem.W.subIn K (.ref C_NoPosition) (.ref C_NoPosition) = some true)
    (su_NoUse_NoPosition : PySem.W.subIn K (.ref C_NoUse) (.ref C_NoPosition) = some false)
    (su_NotLiteral_NoPosition : PySem.W.subIn K (.ref C_NotLiteral) (.ref C_NoPosition) = some false)
    (su_NothingToUndo_NoPosition : PySem.W.subIn K (.ref C_NothingToUndo) (.ref C_NoPosition) = some false)
    (su_ParseError_NoPosition : PySem.W.subIn K (.ref C_ParseError) (.ref C_NoPosition) = some false)
    (su_StreamError_NoPosition : PySem.W.subIn K (.ref C_StreamError) (.ref C_NoPosition) = some false)
    (su_TooLong_NoPosition : PySem.W.subIn K (.ref C_TooLong) (.ref C_NoPosition) = some false)
    (yh_NoUse : PySem.W.hasDictIn K C_NoUse = true) (yt_NoUse : PySem.W.typeIn K (.ref C_NoUse) = some (.type "type"))
    (su_CommandError_NoUse : PySem.W.subIn K (.ref C_CommandError) (.ref C_NoUse) = some false)
    (su_InvalidLetter_NoUse : PySem.W.subIn K (.ref C_InvalidLetter) (.ref C_NoUse) = some false)
    (su_InvalidRange_NoUse : PySem.W.subIn K (.ref C_InvalidRange) (.ref C_NoUse) = some false)
    (su_InvalidStream_NoUse : PySem.W.subIn K (.ref C_InvalidStream) (.ref C_NoUse) = some false)
    (su_NoNumber_NoUse : PySem.W.subIn K (.ref C_NoNumber) (.ref C_NoUse) = some false)
    (su_NoPosition_NoUse : PySem.W.subIn K (.ref C_NoPosition) (.ref C_NoUse) = some false)
    (su_NoUse_NoUse : PySem.W.subIn K (.ref C_NoUse) (.ref C_NoUse) = some true)
    (su_NotLiteral_NoUse : PySem.W.subIn K (.ref C_NotLiteral) (.ref C_NoUse) = some false)
    (su_NothingToUndo_NoUse : PySem.W.subIn K (.ref C_NothingToUndo) (.ref C_NoUse) = some false)
    (su_ParseError_NoUse : PySem.W.subIn K (.ref C_ParseError) (.ref C_NoUse) = some false)
    (su_StreamError_NoUse : PySem.W.subIn K (.ref C_StreamError) (.ref C_NoUse) = some false)
    (su_TooLong_NoUse : PySem.W.subIn K (.ref C_TooLong) (.ref C_NoUse) = some false)
    (yh_NotLiteral : PySem.W.hasDictIn K C_NotLiteral = true) (yt_NotLiteral : PySem.W.typeIn K (.ref C_NotLiteral) = some (.type "type"))
    (su_CommandError_NotLiteral : PySem.W.subIn K (.ref C_CommandError) (.ref C_NotLiteral) = some false)
    (su_InvalidLetter_NotLiteral : PySem.W.subIn K (.ref C_InvalidLetter) (.ref C_NotLiteral) = some false)
    (su_InvalidRange_NotLiteral : PySem.W.subIn K (.ref C_InvalidRange) (.ref C_NotLiteral) = some false)
    (su_InvalidStream_NotLiteral : PySem.W.subIn K (.ref C_InvalidStream) (.ref C_NotLiteral) = some false)
    (su_NoNumber_NotLiteral : PySem.W.subIn K (.ref C_NoNumber) (.ref C_NotLiteral) = some false)
    (su_NoPosition_NotLiteral : PySem.W.subIn K (.ref C_NoPosition) (.ref C_NotLiteral) = some false)
    (su_NoUse_NotLiteral : PySem.W.subIn K (.ref C_NoUse) (.ref C_NotLiteral) = some false)
    (su_NotLiteral_NotLiteral : PySem.W.subIn K (.ref C_NotLiteral) (.ref C_NotLiteral) = some true)
    (su_NothingToUndo_NotLiteral : PySem.W.subIn K (.ref C_NothingToUndo) (.ref C_NotLiteral) = some false)
    (su_ParseError_NotLiteral : PySem.W.subIn K (.ref C_ParseError) (.ref C_NotLiteral) = some false)
    (su_StreamError_NotLiteral : PySem.W.subIn K (.ref C_StreamError) (.ref C_NotLiteral) = some false)
    (su_TooLong_NotLiteral : PySem.W.subIn K (.ref C_TooLong) (.ref C_NotLiteral) = some false)
    (yh_NothingToUndo : PySem.W.hasDictIn K C_NothingToUndo = true) (yt_NothingToUndo : PySem.W.typeIn K (.ref C_NothingToUndo) = some (.type "type"))
    (su_CommandError_NothingToUndo : PySem.W.subIn K (.ref C_CommandError) (.ref C_NothingToUndo) = some false)
    (su_InvalidLetter_NothingToUndo : PySem.W.subIn K (.ref C_InvalidLetter) (.ref C_NothingToUndo) = some false)
    (su_InvalidRange_NothingToUndo : PySem.W.subIn K (.ref C_InvalidRange) (.ref C_NothingToUndo) = some false)
    (su_InvalidStream_NothingToUndo : PySem.W.subIn K (.ref C_InvalidStream) (.ref C_NothingToUndo) = some false)
    (su_NoNumber_NothingToUndo : PySem.W.subIn K (.ref C_NoNumber) (.ref C_NothingToUndo) = some false)
    (su_NoPosition_NothingToUndo : PySem.W.subIn K (.ref C_NoPosition) (.ref C_NothingToUndo) = some false)
    (su_NoUse_NothingToUndo : PySem.W.subIn K (.ref C_NoUse) (.ref C_NothingToUndo) = some false)
    (su_NotLiteral_NothingToUndo : PySem.W.subIn K (.ref C_NotLiteral) (.ref C_NothingToUndo) = some false)
    (su_NothingToUndo_NothingToUndo : PySem.W.subIn K (.ref C_NothingToUndo) (.ref C_NothingToUndo) = some true)
    (su_ParseError_NothingToUndo : PySem.W.subIn K (.ref C_ParseError) (.ref C_NothingToUndo) = some false)
    (su_StreamError_NothingToUndo : PySem.W.subIn K (.ref C_StreamError) (.ref C_NothingToUndo) = some false)
    (su_TooLong_NothingToUndo : PySem.W.subIn K (.ref C_TooLong) (.ref C_NothingToUndo) = some false)
    (yh_ParseError : PySem.W.hasDictIn K C_ParseError = true) (yt_ParseError : PySem.W.typeIn K (.ref C_ParseError) = some (.type "type"))
    (su_CommandError_ParseError : PySem.W.subIn K (.ref C_CommandError) (.ref C_ParseError) = some false)
    (su_InvalidLetter_ParseError : PySem.W.subIn K (.ref C_InvalidLetter) (.ref C_ParseError) = some false)
    (su_InvalidRange_ParseError : PySem.W.subIn K (.ref C_InvalidRange) (.ref C_ParseError) = some false)
    (su_InvalidStream_ParseError : PySem.W.subIn K (.ref C_InvalidStream) (.ref C_ParseError) = some false)
    (su_NoNumber_ParseError : PySem.W.subIn K (.ref C_NoNumber) (.ref C_ParseError) = some false)
    (su_NoPosition_ParseError : PySem.W.subIn K (.ref C_NoPosition) (.ref C_ParseError) = some false)
    (su_NoUse_ParseError : PySem.W.subIn K (.ref C_NoUse) (.ref C_ParseError) = some false)
    (su_NotLiteral_ParseError : PySem.W.subIn K (.ref C_NotLiteral) (.ref C_ParseError) = some false)
    (su_NothingToUndo_ParseError : PySem.W.subIn K (.ref C_NothingToUndo) (.ref C_ParseError) = some false)
    (su_ParseError_ParseError : PySem.W.subIn K (.ref C_ParseError) (.ref C_ParseError) = some true)
    (su_StreamError_ParseError : PySem.W.subIn K (.ref C_StreamError) (.ref C_ParseError) = some false)
    (su_TooLong_ParseError : PySem.W.subIn K (.ref C_TooLong) (.ref C_ParseError) = some false)
    (yh_StreamError : PySem.W.hasDictIn K C_StreamError = true) (yt_StreamError : PySem.W.typeIn K (.ref C_StreamError) = some (.type "type"))
    (su_CommandError_StreamError : PySem.W.subIn K (.ref C_CommandError) (.ref C_StreamError) = some true)
    (su_InvalidLetter_StreamError : PySem.W.subIn K (.ref C_InvalidLetter) (.ref C_StreamError) = some true)
    (su_InvalidRange_StreamError : PySem.W.subIn K (.ref C_InvalidRange) (.ref C_StreamError) = some true)
    (su_InvalidStream_StreamError : PySem.W.subIn K (.ref C_InvalidStream) (.ref C_StreamError) = some true)
    (su_NoNumber_StreamError : PySem.W.subIn K (.ref C_NoNumber) (.ref C_StreamError) = some true)
    (su_NoPosition_StreamError : PySem.W.subIn K (.ref C_NoPosition) (.ref C_StreamError) = some true)
    (su_NoUse_StreamError : PySem.W.subIn K (.ref C_NoUse) (.ref C_StreamError) = some true)
    (su_NotLiteral_StreamError : PySem.W.subIn K (.ref C_NotLiteral) (.ref C_StreamError) = some true)
    (su_NothingToUndo_StreamError : PySem.W.subIn K (.ref C_NothingToUndo) (.ref C_StreamError) = some true)
    (su_ParseError_StreamError : PySem.W.subIn K (.ref C_ParseError) (.ref C_StreamError) = some true)
    (su_StreamError_StreamError : PySem.W.subIn K (.ref C_StreamError) (.ref C_StreamError) = some true)
    (su_TooLong_StreamError : PySem.W.subIn K (.ref C_TooLong) (.ref C_StreamError) = some true)
    (yh_TooLong : PySem.W.hasDictIn K C_TooLong = true) (yt_TooLong : PySem.W.typeIn K (.ref C_TooLong) = some (.type "type"))
    (su_CommandError_TooLong : PySem.W.subIn K (.ref C_CommandError) (.ref C_TooLong) = some false)
    (su_InvalidLetter_TooLong : PySem.W.subIn K (.ref C_InvalidLetter) (.ref C_TooLong) = some false)
    (su_InvalidRange_TooLong : PySem.W.subIn K (.ref C_InvalidRange) (.ref C_TooLong) = some false)
    (su_InvalidStream_TooLong : PySem.W.subIn K (.ref C_InvalidStream) (.ref C_TooLong) = some false)
    (su_NoNumber_TooLong : PySem.W.subIn K (.ref C_NoNumber) (.ref C_TooLong) = some false)
    (su_NoPosition_TooLong : PySem.W.subIn K (.ref C_NoPosition) (.ref C_TooLong) = some false)
    (su_NoUse_TooLong : PySem.W.subIn K (.ref C_NoUse) (.ref C_TooLong) = some false)
    (su_NotLiteral_TooLong : PySem.W.subIn K (.ref C_NotLiteral) (.ref C_TooLong) = some false)
    (su_NothingToUndo_TooLong : PySem.W.subIn K (.ref C_NothingToUndo) (.ref C_TooLong) = some false)
    (su_ParseError_TooLong : PySem.W.subIn K (.ref C_ParseError) (.ref C_TooLong) = some false)
    (su_StreamError_TooLong : PySem.W.subIn K (.ref C_StreamError) (.ref C_TooLong) = some false)
    (su_TooLong_TooLong : PySem.W.subIn K (.ref C_TooLong) (.ref C_TooLong) = some true)
    (xvk_TooLong : PySem.W.kitOne K (.ref C_TooLong) (.type "ValueError") = some true)
    (xvk_StreamError : PySem.W.kitOne K (.ref C_StreamError) (.type "ValueError") = some true)
    (xvk_ParseError : PySem.W.kitOne K (.ref C_ParseError) (.type "ValueError") = some true)
    (xvk_NothingToUndo : PySem.W.kitOne K (.ref C_NothingToUndo) (.type "ValueError") = some true)
    (xvk_NotLiteral : PySem.W.kitOne K (.ref C_NotLiteral) (.type "ValueError") = some true)
    (xvk_NoUse : PySem.W.kitOne K (.ref C_NoUse) (.type "ValueError") = some true)
    (xvk_NoPosition : PySem.W.kitOne K (.ref C_NoPosition) (.type "ValueError") = some true)
    (xvk_NoNumber : PySem.W.kitOne K (.ref C_NoNumber) (.type "ValueError") = some true)
    (xvk_InvalidStream : PySem.W.kitOne K (.ref C_InvalidStream) (.type "ValueError") = some true)
    (xvk_InvalidRange : PySem.W.kitOne K (.ref C_InvalidRange) (.type "ValueError") = some true)
    (xvk_InvalidLetter : PySem.W.kitOne K (.ref C_InvalidLetter) (.type "ValueError") = some true)
    (xvk_CommandError : PySem.W.kitOne K (.ref C_CommandError) (.type "ValueError") = some true)
    (z_ValueError : PySem.W.nsIn K mainGlobals "ValueError" = some none)
    (z_abs : PySem.W.nsIn K mainGlobals "abs" = some none)
    (z_enumerate : PySem.W.nsIn K mainGlobals "enumerate" = some none)
    (z_int : PySem.W.nsIn K mainGlobals "int" = some none)
    (z_isinstance : PySem.W.nsIn K mainGlobals "isinstance" = some none)
    (z_len : PySem.W.nsIn K mainGlobals "len" = some none)
    (z_max : PySem.W.nsIn K mainGlobals "max" = some none)
    (z_min : PySem.W.nsIn K mainGlobals "min" = some none)
    (z_range : PySem.W.nsIn K mainGlobals "range" = some none)
    (z_repr : PySem.W.nsIn K mainGlobals "repr" = some none)
    : ∃ fd : FuncData, (∀ (s : Shared) (u : Value), BindsTo s fd ⟨[u], []⟩ [("_law_script", u)]) ∧ ∀ base : Heap, K.In base → base.Ns mainGlobals mg → FnG P w K mg base true 4 fa fd ["_law_script"] (spF K mg F_law) := by
  have Q_CommandError : XCls K mg "CommandError" ["command"] sx_CommandError := xcls_mk X G xa_CommandError xl_CommandError xr_CommandError xsa_CommandError xga_CommandError xgg_CommandError xe_CommandError xt_CommandError xk_CommandError xh_CommandError xca_CommandError xcn xct xcm_CommandError xi_CommandError xti_CommandError xki_CommandError xli_CommandError xci_CommandError (nn1 xn0_CommandError) (fun F => F.binds (ps := ["self", "command"]) fun _ _ _ _ _ _ us hl => match us, hl with | [_, _], _ => rfl)
  have Q_InvalidLetter : XCls K mg "InvalidLetter" ["value"] sx_InvalidLetter := xcls_mk X G xa_InvalidLetter xl_InvalidLetter xr_InvalidLetter xsa_InvalidLetter xga_InvalidLetter xgg_InvalidLetter xe_InvalidLetter xt_InvalidLetter xk_InvalidLetter xh_InvalidLetter xca_InvalidLetter xcn xct xcm_InvalidLetter xi_InvalidLetter xti_InvalidLetter xki_InvalidLetter xli_InvalidLetter xci_InvalidLetter (nn1 xn0_InvalidLetter) (fun F => F.binds (ps := ["self", "value"]) fun _ _ _ _ _ _ us hl => match us, hl with | [_, _], _ => rfl)
  have Q_InvalidRange : XCls K mg "InvalidRange" ["start", "stop"] sx_InvalidRange := xcls_mk X G xa_InvalidRange xl_InvalidRange xr_InvalidRange xsa_InvalidRange xga_InvalidRange xgg_InvalidRange xe_InvalidRange xt_InvalidRange xk_InvalidRange xh_InvalidRange xca_InvalidRange xcn xct xcm_InvalidRange xi_InvalidRange xti_InvalidRange xki_InvalidRange xli_InvalidRange xci_InvalidRange (nn2 xn0_InvalidRange xn1_InvalidRange) (fun F => F.binds (ps := ["self", "start", "stop"]) fun _ _ _ _ _ _ us hl => match us, hl with | [_, _, _], _ => rfl)
  have Q_InvalidStream : XCls K mg "InvalidStream" ["value"] sx_InvalidStream := xcls_mk X G xa_InvalidStream xl_InvalidStream xr_InvalidStream xsa_InvalidStream xga_InvalidStream xgg_InvalidStream xe_InvalidStream xt_InvalidStream xk_InvalidStream xh_InvalidStream xca_InvalidStream xcn xct xcm_InvalidStream xi_InvalidStream xti_InvalidStream xki_InvalidStream xli_InvalidStream xci_InvalidStream (nn1 xn0_InvalidStream) (fun F => F.binds (ps := ["self", "value"]) fun _ _ _ _ _ _ us hl => match us, hl with | [_, _], _ => rfl)
  have Q_NoNumber : XCls K mg "NoNumber" ["value"] sx_NoNumber := xcls_mk X G xa_NoNumber xl_NoNumber xr_NoNumber xsa_NoNumber xga_NoNumber xgg_NoNumber xe_NoNumber xt_NoNumber xk_NoNumber xh_NoNumber xca_NoNumber xcn xct xcm_NoNumber xi_NoNumber xti_NoNumber xki_NoNumber xli_NoNumber xci_NoNumber (nn1 xn0_NoNumber) (fun F => F.binds (ps := ["self", "value"]) fun _ _ _ _ _ _ us hl => match us, hl with | [_, _], _ => rfl)
  have Q_NoPosition : XCls K mg "NoPosition" ["value"] sx_NoPosition := xcls_mk X G xa_NoPosition xl_NoPosition xr_NoPosition xsa_NoPosition xga_NoPosition xgg_NoPosition xe_NoPosition xt_NoPosition xk_NoPosition xh_NoPosition xca_NoPosition xcn xct xcm_NoPosition xi_NoPosition xti_NoPosition xki_NoPosition xli_NoPosition xci_NoPosition (nn1 xn0_NoPosition) (fun F => F.binds (ps := ["self", "value"]) fun _ _ _ _ _ _ us hl => match us, hl with | [_, _], _ => rfl)
  have Q_NoUse : XCls K mg "NoUse" ["value"] sx_NoUse := xcls_mk X G xa_NoUse xl_NoUse xr_NoUse xsa_NoUse xga_NoUse xgg_NoUse xe_NoUse xt_NoUse xk_NoUse xh_NoUse xca_NoUse xcn xct xcm_NoUse xi_NoUse xti_NoUse xki_NoUse xli_NoUse xci_NoUse (nn1 xn0_NoUse) (fun F => F.binds (ps := ["self", "value"]) fun _ _ _ _ _ _ us hl => match us, hl with | [_, _], _ => rfl)
  have Q_NotLiteral : XCls K mg "NotLiteral" ["value"] sx_NotLiteral := xcls_mk X G xa_NotLiteral xl_NotLiteral xr_NotLiteral xsa_NotLiteral xga_NotLiteral xgg_NotLiteral xe_NotLiteral xt_NotLiteral xk_NotLiteral xh_NotLiteral xca_NotLiteral xcn xct xcm_NotLiteral xi_NotLiteral xti_NotLiteral xki_NotLiteral xli_NotLiteral xci_NotLiteral (nn1 xn0_NotLiteral) (fun F => F.binds (ps := ["self", "value"]) fun _ _ _ _ _ _ us hl => match us, hl with | [_, _], _ => rfl)
  have Q_NothingToUndo : XCls0 K mg "NothingToUndo" := xcls0_mk X G xa_NothingToUndo xq_NothingToUndo xga_NothingToUndo xgg_NothingToUndo xe_NothingToUndo xt_NothingToUndo xk_NothingToUndo xh_NothingToUndo xca_NothingToUndo xcn xct xcm_NothingToUndo
  have Q_ParseError : XCls K mg "ParseError" ["index"] sx_ParseError := xcls_mk X G xa_ParseError xl_ParseError xr_ParseError xsa_ParseError xga_ParseError xgg_ParseError xe_ParseError xt_ParseError xk_ParseError xh_ParseError xca_ParseError xcn xct xcm_ParseError xi_ParseError xti_ParseError xki_ParseError xli_ParseError xci_ParseError (nn1 xn0_ParseError) (fun F => F.binds (ps := ["self", "index"]) fun _ _ _ _ _ _ us hl => match us, hl with | [_, _], _ => rfl)
  have Q_StreamError : XCls0 K mg "StreamError" := xcls0_mk X G xa_StreamError xq_StreamError xga_StreamError xgg_StreamError xe_StreamError xt_StreamError xk_StreamError xh_StreamError xca_StreamError xcn xct xcm_StreamError
  have Q_TooLong : XCls K mg "TooLong" ["value"] sx_TooLong := xcls_mk X G xa_TooLong xl_TooLong xr_TooLong xsa_TooLong xga_TooLong xgg_TooLong xe_TooLong xt_TooLong xk_TooLong xh_TooLong xca_TooLong xcn xct xcm_TooLong xi_TooLong xti_TooLong xki_TooLong xli_TooLong xci_TooLong (nn1 xn0_TooLong) (fun F => F.binds (ps := ["self", "value"]) fun _ _ _ _ _ _ us hl => match us, hl with | [_, _], _ => rfl)
  have T : Tx K mg := ⟨
    ⟨_, _, fun_mk (st := s__law_pot) l0 c0 k0, PySem.W.mg_of X G a0, (fun_mk (st := s__law_pot) l0 c0 k0).binds (ps := ["_law_script", "_law_k"]) fun _ _ _ _ _ _ us hl => match us, hl with | [_, _], _ => rfl⟩,
    ⟨_, _, fun_mk (st := s__law_kinds) l1 c1 k1, PySem.W.mg_of X G a1, (fun_mk (st := s__law_kinds) l1 c1 k1).binds (ps := ["_law_error"]) fun _ _ _ _ _ _ us hl => match us, hl with | [_], _ => rfl⟩,
    ⟨_, _, fun_mk (st := s__law_take) l2 c2 k2, PySem.W.mg_of X G a2, (fun_mk (st := s__law_take) l2 c2 k2).binds (ps := ["_law_pot_here", "_law_below"]) fun _ _ _ _ _ _ us hl => match us, hl with | [_, _], _ => rfl⟩,
    ⟨_, _, fun_mk (st := s__law_made) l3 c3 k3, PySem.W.mg_of X G a3, (fun_mk (st := s__law_made) l3 c3 k3).binds (ps := ["_law_item", "_law_other"]) fun _ _ _ _ _ _ us hl => match us, hl with | [_, _], _ => rfl⟩,
    ⟨_, _, fun_mk (st := s_law) l4 c4 k4, PySem.W.mg_of X G a4, (fun_mk (st := s_law) l4 c4 k4).binds (ps := ["_law_script"]) fun _ _ _ _ _ _ us hl => match us, hl with | [_], _ => rfl⟩,
    Q_CommandError,
    Q_InvalidLetter,
    Q_InvalidRange,
    Q_InvalidStream,
    Q_NoNumber,
    Q_NoPosition,
    Q_NoUse,
    Q_NotLiteral,
    Q_NothingToUndo,
    Q_ParseError,
    Q_StreamError,
    Q_TooLong,
    (show XAll K (fun C => XfC K C ∧ PySem.W.findIn K (.ref C) "command" = some none) ["CommandError"] from ⟨⟨_, xa_CommandError, (Q_CommandError.exc xa_CommandError).2.1, (Q_CommandError.exc xa_CommandError).2.2 "command" (by simp)⟩, trivial⟩).at,
    (show XAll K (fun C => XfC K C ∧ PySem.W.findIn K (.ref C) "index" = some none) ["ParseError"] from ⟨⟨_, xa_ParseError, (Q_ParseError.exc xa_ParseError).2.1, (Q_ParseError.exc xa_ParseError).2.2 "index" (by simp)⟩, trivial⟩).at,
    (show XAll K (fun C => XfC K C ∧ PySem.W.findIn K (.ref C) "start" = some none) ["InvalidRange"] from ⟨⟨_, xa_InvalidRange, (Q_InvalidRange.exc xa_InvalidRange).2.1, (Q_InvalidRange.exc xa_InvalidRange).2.2 "start" (by simp)⟩, trivial⟩).at,
    (show XAll K (fun C => XfC K C ∧ PySem.W.findIn K (.ref C) "stop" = some none) ["InvalidRange"] from ⟨⟨_, xa_InvalidRange, (Q_InvalidRange.exc xa_InvalidRange).2.1, (Q_InvalidRange.exc xa_InvalidRange).2.2 "stop" (by simp)⟩, trivial⟩).at,
    (show XAll K (fun C => XfC K C ∧ PySem.W.findIn K (.ref C) "value" = some none) ["InvalidLetter", "InvalidStream", "NoNumber", "NoPosition", "NoUse", "NotLiteral", "TooLong"] from ⟨⟨_, xa_InvalidLetter, (Q_InvalidLetter.exc xa_InvalidLetter).2.1, (Q_InvalidLetter.exc xa_InvalidLetter).2.2 "value" (by simp)⟩, ⟨⟨_, xa_InvalidStream, (Q_InvalidStream.exc xa_InvalidStream).2.1, (Q_InvalidStream.exc xa_InvalidStream).2.2 "value" (by simp)⟩, ⟨⟨_, xa_NoNumber, (Q_NoNumber.exc xa_NoNumber).2.1, (Q_NoNumber.exc xa_NoNumber).2.2 "value" (by simp)⟩, ⟨⟨_, xa_NoPosition, (Q_NoPosition.exc xa_NoPosition).2.1, (Q_NoPosition.exc xa_NoPosition).2.2 "value" (by simp)⟩, ⟨⟨_, xa_NoUse, (Q_NoUse.exc xa_NoUse).2.1, (Q_NoUse.exc xa_NoUse).2.2 "value" (by simp)⟩, ⟨⟨_, xa_NotLiteral, (Q_NotLiteral.exc xa_NotLiteral).2.1, (Q_NotLiteral.exc xa_NotLiteral).2.2 "value" (by simp)⟩, ⟨⟨_, xa_TooLong, (Q_TooLong.exc xa_TooLong).2.1, (Q_TooLong.exc xa_TooLong).2.2 "value" (by simp)⟩, trivial⟩⟩⟩⟩⟩⟩⟩).at,
    xis_mk X G xa_CommandError ⟨⟨_, xa_CommandError, (Q_CommandError.exc xa_CommandError).1, kit_sub yh_CommandError yt_CommandError su_CommandError_CommandError xss_CommandError⟩, ⟨⟨_, xa_InvalidLetter, (Q_InvalidLetter.exc xa_InvalidLetter).1, kit_sub yh_CommandError yt_CommandError su_InvalidLetter_CommandError xss_InvalidLetter⟩, ⟨⟨_, xa_InvalidRange, (Q_InvalidRange.exc xa_InvalidRange).1, kit_sub yh_CommandError yt_CommandError su_InvalidRange_CommandError xss_InvalidRange⟩, ⟨⟨_, xa_InvalidStream, (Q_InvalidStream.exc xa_InvalidStream).1, kit_sub yh_CommandError yt_CommandError su_InvalidStream_CommandError xss_InvalidStream⟩, ⟨⟨_, xa_NoNumber, (Q_NoNumber.exc xa_NoNumber).1, kit_sub yh_CommandError yt_CommandError su_NoNumber_CommandError xss_NoNumber⟩, ⟨⟨_, xa_NoPosition, (Q_NoPosition.exc xa_NoPosition).1, kit_sub yh_CommandError yt_CommandError su_NoPosition_CommandError xss_NoPosition⟩, ⟨⟨_, xa_NoUse, (Q_NoUse.exc xa_NoUse).1, kit_sub yh_CommandError yt_CommandError su_NoUse_CommandError xss_NoUse⟩, ⟨⟨_, xa_NotLiteral, (Q_NotLiteral.exc xa_NotLiteral).1, kit_sub yh_CommandError yt_CommandError su_NotLiteral_CommandError xss_NotLiteral⟩, ⟨⟨_, xa_NothingToUndo, (Q_NothingToUndo.exc xa_NothingToUndo).1, kit_sub yh_CommandError yt_CommandError su_NothingToUndo_CommandError xss_NothingToUndo⟩, ⟨⟨_, xa_ParseError, (Q_ParseError.exc xa_ParseError).1, kit_sub yh_CommandError yt_CommandError su_ParseError_CommandError xss_ParseError⟩, ⟨⟨_, xa_StreamError, (Q_StreamError.exc xa_StreamError).1, kit_sub yh_CommandError yt_CommandError su_StreamError_CommandError xss_StreamError⟩, ⟨⟨_, xa_TooLong, (Q_TooLong.exc xa_TooLong).1, kit_sub yh_CommandError yt_CommandError su_TooLong_CommandError xss_TooLong⟩, trivial⟩⟩⟩⟩⟩⟩⟩⟩⟩⟩⟩⟩,
    xis_mk X G xa_InvalidLetter ⟨⟨_, xa_CommandError, (Q_CommandError.exc xa_CommandError).1, kit_sub yh_InvalidLetter yt_InvalidLetter su_CommandError_InvalidLetter xss_CommandError⟩, ⟨⟨_, xa_InvalidLetter, (Q_InvalidLetter.exc xa_InvalidLetter).1, kit_sub yh_InvalidLetter yt_InvalidLetter su_InvalidLetter_InvalidLetter xss_InvalidLetter⟩, ⟨⟨_, xa_InvalidRange, (Q_InvalidRange.exc xa_InvalidRange).1, kit_sub yh_InvalidLetter yt_InvalidLetter su_InvalidRange_InvalidLetter xss_InvalidRange⟩, ⟨⟨_, xa_InvalidStream, (Q_InvalidStream.exc xa_InvalidStream).1, kit_sub yh_InvalidLetter yt_InvalidLetter su_InvalidStream_InvalidLetter xss_InvalidStream⟩, ⟨⟨_, xa_NoNumber, (Q_NoNumber.exc xa_NoNumber).1, kit_sub yh_InvalidLetter yt_InvalidLetter su_NoNumber_InvalidLetter xss_NoNumber⟩, ⟨⟨_, xa_NoPosition, (Q_NoPosition.exc xa_NoPosition).1, kit_sub yh_InvalidLetter yt_InvalidLetter su_NoPosition_InvalidLetter xss_NoPosition⟩, ⟨⟨_, xa_NoUse, (Q_NoUse.exc xa_NoUse).1, kit_sub yh_InvalidLetter yt_InvalidLetter su_NoUse_InvalidLetter xss_NoUse⟩, ⟨⟨_, xa_NotLiteral, (Q_NotLiteral.exc xa_NotLiteral).1, kit_sub yh_InvalidLetter yt_InvalidLetter su_NotLiteral_InvalidLetter xss_NotLiteral⟩, ⟨⟨_, xa_NothingToUndo, (Q_NothingToUndo.exc xa_NothingToUndo).1, kit_sub yh_InvalidLetter yt_InvalidLetter su_NothingToUndo_InvalidLetter xss_NothingToUndo⟩, ⟨⟨_, xa_ParseError, (Q_ParseError.exc xa_ParseError).1, kit_sub yh_InvalidLetter yt_InvalidLetter su_ParseError_InvalidLetter xss_ParseError⟩, ⟨⟨_, xa_StreamError, (Q_StreamError.exc xa_StreamError).1, kit_sub yh_InvalidLetter yt_InvalidLetter su_StreamError_InvalidLetter xss_StreamError⟩, ⟨⟨_, xa_TooLong, (Q_TooLong.exc xa_TooLong).1, kit_sub yh_InvalidLetter yt_InvalidLetter su_TooLong_InvalidLetter xss_TooLong⟩, trivial⟩⟩⟩⟩⟩⟩⟩⟩⟩⟩⟩⟩,
    xis_mk X G xa_InvalidRange ⟨⟨_, xa_CommandError, (Q_CommandError.exc xa_CommandError).1, kit_sub yh_InvalidRange yt_InvalidRange su_CommandError_InvalidRange xss_CommandError⟩, ⟨⟨_, xa_InvalidLetter, (Q_InvalidLetter.exc xa_InvalidLetter).1, kit_sub yh_InvalidRange yt_InvalidRange su_InvalidLetter_InvalidRange xss_InvalidLetter⟩, ⟨⟨_, xa_InvalidRange, (Q_InvalidRange.exc xa_InvalidRange).1, kit_sub yh_InvalidRange yt_InvalidRange su_InvalidRange_InvalidRange xss_InvalidRange⟩, ⟨⟨_, xa_InvalidStream, (Q_InvalidStream.exc xa_InvalidStream).1, kit_sub yh_InvalidRange yt_InvalidRange su_InvalidStream_InvalidRange xss_InvalidStream⟩, ⟨⟨_, xa_NoNumber, (Q_NoNumber.exc xa_NoNumber).1, kit_sub yh_InvalidRange yt_InvalidRange su_NoNumber_InvalidRange xss_NoNumber⟩, ⟨⟨_, xa_NoPosition, (Q_NoPosition.exc xa_NoPosition).1, kit_sub yh_InvalidRange yt_InvalidRange su_NoPosition_InvalidRange xss_NoPosition⟩, ⟨⟨_, xa_NoUse, (Q_NoUse.exc xa_NoUse).1, kit_sub yh_InvalidRange yt_InvalidRange su_NoUse_InvalidRange xss_NoUse⟩, ⟨⟨_, xa_NotLiteral, (Q_NotLiteral.exc xa_NotLiteral).1, kit_sub yh_InvalidRange yt_InvalidRange su_NotLiteral_InvalidRange xss_NotLiteral⟩, ⟨⟨_, xa_NothingToUndo, (Q_NothingToUndo.exc xa_NothingToUndo).1, kit_sub yh_InvalidRange yt_InvalidRange su_NothingToUndo_InvalidRange xss_NothingToUndo⟩, ⟨⟨_, xa_ParseError, (Q_ParseError.exc xa_ParseError).1, kit_sub yh_InvalidRange yt_InvalidRange su_ParseError_InvalidRange xss_ParseError⟩, ⟨⟨_, xa_StreamError, (Q_StreamError.exc xa_StreamError).1, kit_sub yh_InvalidRange yt_InvalidRange su_StreamError_InvalidRange xss_StreamError⟩, ⟨⟨_, xa_TooLong, (Q_TooLong.exc xa_TooLong).1, kit_sub yh_InvalidRange yt_InvalidRange su_TooLong_InvalidRange xss_TooLong⟩, trivial⟩⟩⟩⟩⟩⟩⟩⟩⟩⟩⟩⟩,
    xis_mk X G xa_InvalidStream ⟨⟨_, xa_CommandError, (Q_CommandError.exc xa_CommandError).1, kit_sub yh_InvalidStream yt_InvalidStream su_CommandError_InvalidStream xss_CommandError⟩, ⟨⟨_, xa_InvalidLetter, (Q_InvalidLetter.exc xa_InvalidLetter).1, kit_sub yh_InvalidStream yt_InvalidStream su_InvalidLetter_InvalidStream xss_InvalidLetter⟩, ⟨⟨_, xa_InvalidRange, (Q_InvalidRange.exc xa_InvalidRange).1, kit_sub yh_InvalidStream yt_InvalidStream su_InvalidRange_InvalidStream xss_InvalidRange⟩, ⟨⟨_, xa_InvalidStream, (Q_InvalidStream.exc xa_InvalidStream).1, kit_sub yh_InvalidStream yt_InvalidStream su_InvalidStream_InvalidStream xss_InvalidStream⟩, ⟨⟨_, xa_NoNumber, (Q_NoNumber.exc xa_NoNumber).1, kit_sub yh_InvalidStream yt_InvalidStream su_NoNumber_InvalidStream xss_NoNumber⟩, ⟨⟨_, xa_NoPosition, (Q_NoPosition.exc xa_NoPosition).1, kit_sub yh_InvalidStream yt_InvalidStream su_NoPosition_InvalidStream xss_NoPosition⟩, ⟨⟨_, xa_NoUse, (Q_NoUse.exc xa_NoUse).1, kit_sub yh_InvalidStream yt_InvalidStream su_NoUse_InvalidStream xss_NoUse⟩, ⟨⟨_, xa_NotLiteral, (Q_NotLiteral.exc xa_NotLiteral).1, kit_sub yh_InvalidStream yt_InvalidStream su_NotLiteral_InvalidStream xss_NotLiteral⟩, ⟨⟨_, xa_NothingToUndo, (Q_NothingToUndo.exc xa_NothingToUndo).1, kit_sub yh_InvalidStream yt_InvalidStream su_NothingToUndo_InvalidStream xss_NothingToUndo⟩, ⟨⟨_, xa_ParseError, (Q_ParseError.exc xa_ParseError).1, kit_sub yh_InvalidStream yt_InvalidStream su_ParseError_InvalidStream xss_ParseError⟩, ⟨⟨_, xa_StreamError, (Q_StreamError.exc xa_StreamError).1, kit_sub yh_InvalidStream yt_InvalidStream su_StreamError_InvalidStream xss_StreamError⟩, ⟨⟨_, xa_TooLong, (Q_TooLong.exc xa_TooLong).1, kit_sub yh_InvalidStream yt_InvalidStream su_TooLong_InvalidStream xss_TooLong⟩, trivial⟩⟩⟩⟩⟩⟩⟩⟩⟩⟩⟩⟩,
    xis_mk X G xa_NoNumber ⟨⟨_, xa_CommandError, (Q_CommandError.exc xa_CommandError).1, kit_sub yh_NoNumber yt_NoNumber su_CommandError_NoNumber xss_CommandError⟩, ⟨⟨_, xa_InvalidLetter, (Q_InvalidLetter.exc xa_InvalidLetter).1, kit_sub yh_NoNumber yt_NoNumber su_InvalidLetter_NoNumber xss_InvalidLetter⟩, ⟨⟨_, xa_InvalidRange, (Q_InvalidRange.exc xa_InvalidRange).1, kit_sub yh_NoNumber yt_NoNumber su_InvalidRange_NoNumber xss_InvalidRange⟩, ⟨⟨_, xa_InvalidStream, (Q_InvalidStream.exc xa_InvalidStream).1, kit_sub yh_NoNumber yt_NoNumber su_InvalidStream_NoNumber xss_InvalidStream⟩, ⟨⟨_, xa_NoNumber, (Q_NoNumber.exc xa_NoNumber).1, kit_sub yh_NoNumber yt_NoNumber su_NoNumber_NoNumber xss_NoNumber⟩, ⟨⟨_, xa_NoPosition, (Q_NoPosition.exc xa_NoPosition).1, kit_sub yh_NoNumber yt_NoNumber su_NoPosition_NoNumber xss_NoPosition⟩, ⟨⟨_, xa_NoUse, (Q_NoUse.exc xa_NoUse).1, kit_sub yh_NoNumber yt_NoNumber su_NoUse_NoNumber xss_NoUse⟩, ⟨⟨_, xa_NotLiteral, (Q_NotLiteral.exc xa_NotLiteral).1, kit_sub yh_NoNumber yt_NoNumber su_NotLiteral_NoNumber xss_NotLiteral⟩, ⟨⟨_, xa_NothingToUndo, (Q_NothingToUndo.exc xa_NothingToUndo).1, kit_sub yh_NoNumber yt_NoNumber su_NothingToUndo_NoNumber xss_NothingToUndo⟩, ⟨⟨_, xa_ParseError, (Q_ParseError.exc xa_ParseError).1, kit_sub yh_NoNumber yt_NoNumber su_ParseError_NoNumber xss_ParseError⟩, ⟨⟨_, xa_StreamError, (Q_StreamError.exc xa_StreamError).1, kit_sub yh_NoNumber yt_NoNumber su_StreamError_NoNumber xss_StreamError⟩, ⟨⟨_, xa_TooLong, (Q_TooLong.exc xa_TooLong).1, kit_sub yh_NoNumber yt_NoNumber su_TooLong_NoNumber xss_TooLong⟩, trivial⟩⟩⟩⟩⟩⟩⟩⟩⟩⟩⟩⟩,
    xis_mk X G xa_NoPosition ⟨⟨_, xa_CommandError, (Q_CommandError.exc xa_CommandError).1, kit_sub yh_NoPosition yt_NoPosition su_CommandError_NoPosition xss_CommandError⟩, ⟨⟨_, xa_InvalidLetter, (Q_InvalidLetter.exc xa_InvalidLetter).1, kit_sub yh_NoPosition yt_NoPosition su_InvalidLetter_NoPosition xss_InvalidLetter⟩, ⟨⟨_, xa_InvalidRange, (Q_InvalidRange.exc xa_InvalidRange).1, kit_sub yh_NoPosition yt_NoPosition su_InvalidRange_NoPosition xss_InvalidRange⟩, ⟨⟨_, xa_InvalidStream, (Q_InvalidStream.exc xa_InvalidStream).1, kit_sub yh_NoPosition yt_NoPosition su_InvalidStream_NoPosition xss_InvalidStream⟩, ⟨⟨_, xa_NoNumber, (Q_NoNumber.exc xa_NoNumber).1, kit_sub yh_NoPosition yt_NoPosition su_NoNumber_NoPosition xss_NoNumber⟩, ⟨⟨_, xa_NoPosition, (Q_NoPosition.exc xa_NoPosition).1, kit_sub yh_NoPosition yt_NoPosition su_NoPosition_NoPosition xss_NoPosition⟩, ⟨⟨_, xa_NoUse, (Q_NoUse.exc xa_NoUse).1, kit_sub yh_NoPosition yt_NoPosition su_NoUse_NoPosition xss_NoUse⟩, ⟨⟨_, xa_NotLiteral, (Q_NotLiteral.exc xa_NotLiteral).1, kit_sub yh_NoPosition yt_NoPosition su_NotLiteral_NoPosition xss_NotLiteral⟩, ⟨⟨_, xa_NothingToUndo, (Q_NothingToUndo.exc xa_NothingToUndo).1, kit_sub yh_NoPosition yt_NoPosition su_NothingToUndo_NoPosition xss_NothingToUndo⟩, ⟨⟨_, xa_ParseError, (Q_ParseError.exc xa_ParseError).1, kit_sub yh_NoPosition yt_NoPosition su_ParseError_NoPosition xss_ParseError⟩, ⟨⟨_, xa_StreamError, (Q_StreamError.exc xa_StreamError).1, kit_sub yh_NoPosition yt_NoPosition su_StreamError_NoPosition xss_StreamError⟩, ⟨⟨_, xa_TooLong, (Q_TooLong.exc xa_TooLong).1, kit_sub yh_NoPosition yt_NoPosition su_TooLong_NoPosition xss_TooLong⟩, trivial⟩⟩⟩⟩⟩⟩⟩⟩⟩⟩⟩⟩,
    xis_mk X G xa_NoUse ⟨⟨_, xa_CommandError, (Q_CommandError.exc xa_CommandError).1, kit_sub yh_NoUse yt_NoUse su_CommandError_NoUse xss_CommandError⟩, ⟨⟨_, xa_InvalidLetter, (Q_InvalidLetter.exc xa_InvalidLetter).1, kit_sub yh_NoUse yt_NoUse su_InvalidLetter_NoUse xss_InvalidLetter⟩, ⟨⟨_, xa_InvalidRange, (Q_InvalidRange.exc xa_InvalidRange).1, kit_sub yh_NoUse yt_NoUse su_InvalidRange_NoUse xss_InvalidRange⟩, ⟨⟨_, xa_InvalidStream, (Q_InvalidStream.exc xa_InvalidStream).1, kit_sub yh_NoUse yt_NoUse su_InvalidStream_NoUse xss_InvalidStream⟩, ⟨⟨_, xa_NoNumber, (Q_NoNumber.exc xa_NoNumber).1, kit_sub yh_NoUse yt_NoUse su_NoNumber_NoUse xss_NoNumber⟩, ⟨⟨_, xa_NoPosition, (Q_NoPosition.exc xa_NoPosition).1, kit_sub yh_NoUse yt_NoUse su_NoPosition_NoUse xss_NoPosition⟩, ⟨⟨_, xa_NoUse, (Q_NoUse.exc xa_NoUse).1, kit_sub yh_NoUse yt_NoUse su_NoUse_NoUse xss_NoUse⟩, ⟨⟨_, xa_NotLiteral, (Q_NotLiteral.exc xa_NotLiteral).1, kit_sub yh_NoUse yt_NoUse su_NotLiteral_NoUse xss_NotLiteral⟩, ⟨⟨_, xa_NothingToUndo, (Q_NothingToUndo.exc xa_NothingToUndo).1, kit_sub yh_NoUse yt_NoUse su_NothingToUndo_NoUse xss_NothingToUndo⟩, ⟨⟨_, xa_ParseError, (Q_ParseError.exc xa_ParseError).1, kit_sub yh_NoUse yt_NoUse su_ParseError_NoUse xss_ParseError⟩, ⟨⟨_, xa_StreamError, (Q_StreamError.exc xa_StreamError).1, kit_sub yh_NoUse yt_NoUse su_StreamError_NoUse xss_StreamError⟩, ⟨⟨_, xa_TooLong, (Q_TooLong.exc xa_TooLong).1, kit_sub yh_NoUse yt_NoUse su_TooLong_NoUse xss_TooLong⟩, trivial⟩⟩⟩⟩⟩⟩⟩⟩⟩⟩⟩⟩,
    xis_mk X G xa_NotLiteral ⟨⟨_, xa_CommandError, (Q_CommandError.exc xa_CommandError).1, kit_sub yh_NotLiteral yt_NotLiteral su_CommandError_NotLiteral xss_CommandError⟩, ⟨⟨_, xa_InvalidLetter, (Q_InvalidLetter.exc xa_InvalidLetter).1, kit_sub yh_NotLiteral yt_NotLiteral su_InvalidLetter_NotLiteral xss_InvalidLetter⟩, ⟨⟨_, xa_InvalidRange, (Q_InvalidRange.exc xa_InvalidRange).1, kit_sub yh_NotLiteral yt_NotLiteral su_InvalidRange_NotLiteral xss_InvalidRange⟩, ⟨⟨_, xa_InvalidStream, (Q_InvalidStream.exc xa_InvalidStream).1, kit_sub yh_NotLiteral yt_NotLiteral su_InvalidStream_NotLiteral xss_InvalidStream⟩, ⟨⟨_, xa_NoNumber, (Q_NoNumber.exc xa_NoNumber).1, kit_sub yh_NotLiteral yt_NotLiteral su_NoNumber_NotLiteral xss_NoNumber⟩, ⟨⟨_, xa_NoPosition, (Q_NoPosition.exc xa_NoPosition).1, kit_sub yh_NotLiteral yt_NotLiteral su_NoPosition_NotLiteral xss_NoPosition⟩, ⟨⟨_, xa_NoUse, (Q_NoUse.exc xa_NoUse).1, kit_sub yh_NotLiteral yt_NotLiteral su_NoUse_NotLiteral xss_NoUse⟩, ⟨⟨_, xa_NotLiteral, (Q_NotLiteral.exc xa_NotLiteral).1, kit_sub yh_NotLiteral yt_NotLiteral su_NotLiteral_NotLiteral xss_NotLiteral⟩, ⟨⟨_, xa_NothingToUndo, (Q_NothingToUndo.exc xa_NothingToUndo).1, kit_sub yh_NotLiteral yt_NotLiteral su_NothingToUndo_NotLiteral xss_NothingToUndo⟩, ⟨⟨_, xa_ParseError, (Q_ParseError.exc xa_ParseError).1, kit_sub yh_NotLiteral yt_NotLiteral su_ParseError_NotLiteral xss_ParseError⟩, ⟨⟨_, xa_StreamError, (Q_StreamError.exc xa_StreamError).1, kit_sub yh_NotLiteral yt_NotLiteral su_StreamError_NotLiteral xss_StreamError⟩, ⟨⟨_, xa_TooLong, (Q_TooLong.exc xa_TooLong).1, kit_sub yh_NotLiteral yt_NotLiteral su_TooLong_NotLiteral xss_TooLong⟩, trivial⟩⟩⟩⟩⟩⟩⟩⟩⟩⟩⟩⟩,
    xis_mk X G xa_NothingToUndo ⟨⟨_, xa_CommandError, (Q_CommandError.exc xa_CommandError).1, kit_sub yh_NothingToUndo yt_NothingToUndo su_CommandError_NothingToUndo xss_CommandError⟩, ⟨⟨_, xa_InvalidLetter, (Q_InvalidLetter.exc xa_InvalidLetter).1, kit_sub yh_NothingToUndo yt_NothingToUndo su_InvalidLetter_NothingToUndo xss_InvalidLetter⟩, ⟨⟨_, xa_InvalidRange, (Q_InvalidRange.exc xa_InvalidRange).1, kit_sub yh_NothingToUndo yt_NothingToUndo su_InvalidRange_NothingToUndo xss_InvalidRange⟩, ⟨⟨_, xa_InvalidStream, (Q_InvalidStream.exc xa_InvalidStream).1, kit_sub yh_NothingToUndo yt_NothingToUndo su_InvalidStream_NothingToUndo xss_InvalidStream⟩, ⟨⟨_, xa_NoNumber, (Q_NoNumber.exc xa_NoNumber).1, kit_sub yh_NothingToUndo yt_NothingToUndo su_NoNumber_NothingToUndo xss_NoNumber⟩, ⟨⟨_, xa_NoPosition, (Q_NoPosition.exc xa_NoPosition).1, kit_sub yh_NothingToUndo yt_NothingToUndo su_NoPosition_NothingToUndo xss_NoPosition⟩, ⟨⟨_, xa_NoUse, (Q_NoUse.exc xa_NoUse).1, kit_sub yh_NothingToUndo yt_NothingToUndo su_NoUse_NothingToUndo xss_NoUse⟩, ⟨⟨_, xa_NotLiteral, (Q_NotLiteral.exc xa_NotLiteral).1, kit_sub yh_NothingToUndo yt_NothingToUndo su_NotLiteral_NothingToUndo xss_NotLiteral⟩, ⟨⟨_, xa_NothingToUndo, (Q_NothingToUndo.exc xa_NothingToUndo).1, kit_sub yh_NothingToUndo yt_NothingToUndo su_NothingToUndo_NothingToUndo xss_NothingToUndo⟩, ⟨⟨_, xa_ParseError, (Q_ParseError.exc xa_ParseError).1, kit_sub yh_NothingToUndo yt_NothingToUndo su_ParseError_NothingToUndo xss_ParseError⟩, ⟨⟨_, xa_StreamError, (Q_StreamError.exc xa_StreamError).1, kit_sub yh_NothingToUndo yt_NothingToUndo su_StreamError_NothingToUndo xss_StreamError⟩, ⟨⟨_, xa_TooLong, (Q_TooLong.exc xa_TooLong).1, kit_sub yh_NothingToUndo yt_NothingToUndo su_TooLong_NothingToUndo xss_TooLong⟩, trivial⟩⟩⟩⟩⟩⟩⟩⟩⟩⟩⟩⟩,
    xis_mk X G xa_ParseError ⟨⟨_, xa_CommandError, (Q_CommandError.exc xa_CommandError).1, kit_sub yh_ParseError yt_ParseError su_CommandError_ParseError xss_CommandError⟩, ⟨⟨_, xa_InvalidLetter, (Q_InvalidLetter.exc xa_InvalidLetter).1, kit_sub yh_ParseError yt_ParseError su_InvalidLetter_ParseError xss_InvalidLetter⟩, ⟨⟨_, xa_InvalidRange, (Q_InvalidRange.exc xa_InvalidRange).1, kit_sub yh_ParseError yt_ParseError su_InvalidRange_ParseError xss_InvalidRange⟩, ⟨⟨_, xa_InvalidStream, (Q_InvalidStream.exc xa_InvalidStream).1, kit_sub yh_ParseError yt_ParseError su_InvalidStream_ParseError xss_InvalidStream⟩, ⟨⟨_, xa_NoNumber, (Q_NoNumber.exc xa_NoNumber).1, kit_sub yh_ParseError yt_ParseError su_NoNumber_ParseError xss_NoNumber⟩, ⟨⟨_, xa_NoPosition, (Q_NoPosition.exc xa_NoPosition).1, kit_sub yh_ParseError yt_ParseError su_NoPosition_ParseError xss_NoPosition⟩, ⟨⟨_, xa_NoUse, (Q_NoUse.exc xa_NoUse).1, kit_sub yh_ParseError yt_ParseError su_NoUse_ParseError xss_NoUse⟩, ⟨⟨_, xa_NotLiteral, (Q_NotLiteral.exc xa_NotLiteral).1, kit_sub yh_ParseError yt_ParseError su_NotLiteral_ParseError xss_NotLiteral⟩, ⟨⟨_, xa_NothingToUndo, (Q_NothingToUndo.exc xa_NothingToUndo).1, kit_sub yh_ParseError yt_ParseError su_NothingToUndo_ParseError xss_NothingToUndo⟩, ⟨⟨_, xa_ParseError, (Q_ParseError.exc xa_ParseError).1, kit_sub yh_ParseError yt_ParseError su_ParseError_ParseError xss_ParseError⟩, ⟨⟨_, xa_StreamError, (Q_StreamError.exc xa_StreamError).1, kit_sub yh_ParseError yt_ParseError su_StreamError_ParseError xss_StreamError⟩, ⟨⟨_, xa_TooLong, (Q_TooLong.exc xa_TooLong).1, kit_sub yh_ParseError yt_ParseError su_TooLong_ParseError xss_TooLong⟩, trivial⟩⟩⟩⟩⟩⟩⟩⟩⟩⟩⟩⟩,
    xis_mk X G xa_StreamError ⟨⟨_, xa_CommandError, (Q_CommandError.exc xa_CommandError).1, kit_sub yh_StreamError yt_StreamError su_CommandError_StreamError xss_CommandError⟩, ⟨⟨_, xa_InvalidLetter, (Q_InvalidLetter.exc xa_InvalidLetter).1, kit_sub yh_StreamError yt_StreamError su_InvalidLetter_StreamError xss_InvalidLetter⟩, ⟨⟨_, xa_InvalidRange, (Q_InvalidRange.exc xa_InvalidRange).1, kit_sub yh_StreamError yt_StreamError su_InvalidRange_StreamError xss_InvalidRange⟩, ⟨⟨_, xa_InvalidStream, (Q_InvalidStream.exc xa_InvalidStream).1, kit_sub yh_StreamError yt_StreamError su_InvalidStream_StreamError xss_InvalidStream⟩, ⟨⟨_, xa_NoNumber, (Q_NoNumber.exc xa_NoNumber).1, kit_sub yh_StreamError yt_StreamError su_NoNumber_StreamError xss_NoNumber⟩, ⟨⟨_, xa_NoPosition, (Q_NoPosition.exc xa_NoPosition).1, kit_sub yh_StreamError yt_StreamError su_NoPosition_StreamError xss_NoPosition⟩, ⟨⟨_, xa_NoUse, (Q_NoUse.exc xa_NoUse).1, kit_sub yh_StreamError yt_StreamError su_NoUse_StreamError xss_NoUse⟩, ⟨⟨_, xa_NotLiteral, (Q_NotLiteral.exc xa_NotLiteral).1, kit_sub yh_StreamError yt_StreamError su_NotLiteral_StreamError xss_NotLiteral⟩, ⟨⟨_, xa_NothingToUndo, (Q_NothingToUndo.exc xa_NothingToUndo).1, kit_sub yh_StreamError yt_StreamError su_NothingToUndo_StreamError xss_NothingToUndo⟩, ⟨⟨_, xa_ParseError, (Q_ParseError.exc xa_ParseError).1, kit_sub yh_StreamError yt_StreamError su_ParseError_StreamError xss_ParseError⟩, ⟨⟨_, xa_StreamError, (Q_StreamError.exc xa_StreamError).1, kit_sub yh_StreamError yt_StreamError su_StreamError_StreamError xss_StreamError⟩, ⟨⟨_, xa_TooLong, (Q_TooLong.exc xa_TooLong).1, kit_sub yh_StreamError yt_StreamError su_TooLong_StreamError xss_TooLong⟩, trivial⟩⟩⟩⟩⟩⟩⟩⟩⟩⟩⟩⟩,
    xis_mk X G xa_TooLong ⟨⟨_, xa_CommandError, (Q_CommandError.exc xa_CommandError).1, kit_sub yh_TooLong yt_TooLong su_CommandError_TooLong xss_CommandError⟩, ⟨⟨_, xa_InvalidLetter, (Q_InvalidLetter.exc xa_InvalidLetter).1, kit_sub yh_TooLong yt_TooLong su_InvalidLetter_TooLong xss_InvalidLetter⟩, ⟨⟨_, xa_InvalidRange, (Q_InvalidRange.exc xa_InvalidRange).1, kit_sub yh_TooLong yt_TooLong su_InvalidRange_TooLong xss_InvalidRange⟩, ⟨⟨_, xa_InvalidStream, (Q_InvalidStream.exc xa_InvalidStream).1, kit_sub yh_TooLong yt_TooLong su_InvalidStream_TooLong xss_InvalidStream⟩, ⟨⟨_, xa_NoNumber, (Q_NoNumber.exc xa_NoNumber).1, kit_sub yh_TooLong yt_TooLong su_NoNumber_TooLong xss_NoNumber⟩, ⟨⟨_, xa_NoPosition, (Q_NoPosition.exc xa_NoPosition).1, kit_sub yh_TooLong yt_TooLong su_NoPosition_TooLong xss_NoPosition⟩, ⟨⟨_, xa_NoUse, (Q_NoUse.exc xa_NoUse).1, kit_sub yh_TooLong yt_TooLong su_NoUse_TooLong xss_NoUse⟩, ⟨⟨_, xa_NotLiteral, (Q_NotLiteral.exc xa_NotLiteral).1, kit_sub yh_TooLong yt_TooLong su_NotLiteral_TooLong xss_NotLiteral⟩, ⟨⟨_, xa_NothingToUndo, (Q_NothingToUndo.exc xa_NothingToUndo).1, kit_sub yh_TooLong yt_TooLong su_NothingToUndo_TooLong xss_NothingToUndo⟩, ⟨⟨_, xa_ParseError, (Q_ParseError.exc xa_ParseError).1, kit_sub yh_TooLong yt_TooLong su_ParseError_TooLong xss_ParseError⟩, ⟨⟨_, xa_StreamError, (Q_StreamError.exc xa_StreamError).1, kit_sub yh_TooLong yt_TooLong su_StreamError_TooLong xss_StreamError⟩, ⟨⟨_, xa_TooLong, (Q_TooLong.exc xa_TooLong).1, kit_sub yh_TooLong yt_TooLong su_TooLong_TooLong xss_TooLong⟩, trivial⟩⟩⟩⟩⟩⟩⟩⟩⟩⟩⟩⟩,
    xisb_mk ⟨⟨_, xa_CommandError, (Q_CommandError.exc xa_CommandError).1, xvk_CommandError⟩, ⟨⟨_, xa_InvalidLetter, (Q_InvalidLetter.exc xa_InvalidLetter).1, xvk_InvalidLetter⟩, ⟨⟨_, xa_InvalidRange, (Q_InvalidRange.exc xa_InvalidRange).1, xvk_InvalidRange⟩, ⟨⟨_, xa_InvalidStream, (Q_InvalidStream.exc xa_InvalidStream).1, xvk_InvalidStream⟩, ⟨⟨_, xa_NoNumber, (Q_NoNumber.exc xa_NoNumber).1, xvk_NoNumber⟩, ⟨⟨_, xa_NoPosition, (Q_NoPosition.exc xa_NoPosition).1, xvk_NoPosition⟩, ⟨⟨_, xa_NoUse, (Q_NoUse.exc xa_NoUse).1, xvk_NoUse⟩, ⟨⟨_, xa_NotLiteral, (Q_NotLiteral.exc xa_NotLiteral).1, xvk_NotLiteral⟩, ⟨⟨_, xa_NothingToUndo, (Q_NothingToUndo.exc xa_NothingToUndo).1, xvk_NothingToUndo⟩, ⟨⟨_, xa_ParseError, (Q_ParseError.exc xa_ParseError).1, xvk_ParseError⟩, ⟨⟨_, xa_StreamError, (Q_StreamError.exc xa_StreamError).1, xvk_StreamError⟩, ⟨⟨_, xa_TooLong, (Q_TooLong.exc xa_TooLong).1, xvk_TooLong⟩, trivial⟩⟩⟩⟩⟩⟩⟩⟩⟩⟩⟩⟩,
    PySem.W.mg_none_of X G z_ValueError,
    PySem.W.mg_none_of X G z_abs,
    PySem.W.mg_none_of X G z_enumerate,
    PySem.W.mg_none_of X G z_int,
    PySem.W.mg_none_of X G z_isinstance,
    PySem.W.mg_none_of X G z_len,
    PySem.W.mg_none_of X G z_max,
    PySem.W.mg_none_of X G z_min,
    PySem.W.mg_none_of X G z_range,
    PySem.W.mg_none_of X G z_repr⟩
  exact law_endG T.f_law sc_law hm (fun base A W => body_law T A W) (fun _ _ _ _ _ _ _ _ => .of_eq rfl)
section
variable {n : Nat} {item : D} {c : Str} {fs : List (Str × D)}
def nmX : List Str := ["InvalidStream", "NoPosition", "InvalidRange", "TooLong", "NoNumber", "NoUse", "NotLiteral", "InvalidLetter", "ParseError", "CommandError", "NothingToUndo"]
def fsX (item : D) : List (List (Str × D)) := [[("value", item)], [("value", item)], [("stop", .str "other"), ("start", item)], [("value", item)], [("value", item)], [("value", item)], [("value", item)], [("value", item)], [("index", item)], [("command", item)], []]
def exX (item : D) : List D := (nmX.zip (fsX item)).map fun q => .tuple [Exn.toD ⟨q.1, q.2⟩, .list [item]]
def onX (i : Nat) : List D := (List.range 11).map fun k : Nat => PyData.bool ((i : Int) == (k : Int))
theorem kinds_all (c : Str) (fs : List (Str × D)) : f__law_kinds (Exn.toD ⟨c, fs⟩) = f__law_kinds (Exn.toD ⟨c, []⟩) := rfl
theorem kinds_0 : f__law_kinds (Exn.toD ⟨"InvalidStream", []⟩) = .ok (onX 0) := rfl
theorem kinds_1 : f__law_kinds (Exn.toD ⟨"NoPosition", []⟩) = .ok (onX 1) := rfl
theorem kinds_2 : f__law_kinds (Exn.toD ⟨"InvalidRange", []⟩) = .ok (onX 2) := rfl
theorem kinds_3 : f__law_kinds (Exn.toD ⟨"TooLong", []⟩) = .ok (onX 3) := rfl
theorem kinds_4 : f__law_kinds (Exn.toD ⟨"NoNumber", []⟩) = .ok (onX 4) := rfl
theorem kinds_5 : f__law_kinds (Exn.toD ⟨"NoUse", []⟩) = .ok (onX 5) := rfl
theorem kinds_6 : f__law_kinds (Exn.toD ⟨"NotLiteral", []⟩) = .ok (onX 6) := rfl
theorem kinds_7 : f__law_kinds (Exn.toD ⟨"InvalidLetter", []⟩) = .ok (onX 7) := rfl
theorem kinds_8 : f__law_kinds (Exn.toD ⟨"ParseError", []⟩) = .ok (onX 8) := rfl
theorem kinds_9 : f__law_kinds (Exn.toD ⟨"CommandError", []⟩) = .ok (onX 9) := rfl
theorem kinds_10 : f__law_kinds (Exn.toD ⟨"NothingToUndo", []⟩) = .ok (onX 10) := rfl
theorem kinds_s : f__law_kinds (Exn.toD ⟨"StreamError", []⟩) = .ok (onX 20) := rfl
end
section
variable {n : Nat} {item : D} {c : Str} {fs : List (Str × D)}
theorem kinds_i : ∀ (i : Nat) (q : Str × List (Str × D)), (nmX.zip (fsX item))[i]? = some q → f__law_kinds (Exn.toD ⟨q.1, q.2⟩) = .ok (onX i) := by
  intro i q h
  rw [kinds_all]
  match i, h with
  | 0, h => cases h; exact kinds_0
  | 1, h => cases h; exact kinds_1
  | 2, h => cases h; exact kinds_2
  | 3, h => cases h; exact kinds_3
  | 4, h => cases h; exact kinds_4
  | 5, h => cases h; exact kinds_5
  | 6, h => cases h; exact kinds_6
  | 7, h => cases h; exact kinds_7
  | 8, h => cases h; exact kinds_8
  | 9, h => cases h; exact kinds_9
  | 10, h => cases h; exact kinds_10
  | i + 11, h => cases h
def anyX : List (Str × Bool) := [("CommandError", true), ("InvalidLetter", true), ("InvalidRange", true), ("InvalidStream", true), ("NoNumber", true), ("NoPosition", true), ("NoUse", true), ("NotLiteral", true), ("NothingToUndo", true), ("ParseError", true), ("StreamError", true), ("TooLong", true)]
theorem anyX_eq : ([("CommandError", true), ("InvalidLetter", true), ("InvalidRange", true), ("InvalidStream", true), ("NoNumber", true), ("NoPosition", true), ("NoUse", true), ("NotLiteral", true), ("NothingToUndo", true), ("ParseError", true), ("StreamError", true), ("TooLong", true)] : List (Str × Bool)) = anyX := rfl
theorem any_i : ∀ (i : Nat) (q : Str × List (Str × D)), (nmX.zip (fsX item))[i]? = some q → isXO anyX (Exn.toD ⟨q.1, q.2⟩) = some (.bool true) := by
  intro i q h
  match i, h with
  | 0, h => cases h; rfl
  | 1, h => cases h; rfl
  | 2, h => cases h; rfl
  | 3, h => cases h; rfl
  | 4, h => cases h; rfl
  | 5, h => cases h; rfl
  | 6, h => cases h; rfl
  | 7, h => cases h; rfl
  | 8, h => cases h; rfl
  | 9, h => cases h; rfl
  | 10, h => cases h; rfl
  | i + 11, h => cases h
theorem made_ok (item : D) : f__law_made item (.str "other") = .ok (exX item) := by
  have ho : fReprX [.str "other"] = some (.str (PyData.str "other").shown) := Sh.repr (k := 0) (w := 60) ⟨rfl, by decide +kernel, Nat.zero_le _, by decide +kernel, by decide +kernel⟩ (by decide) (by decide)
  have hstop : ((((fldO "stop" ["InvalidRange"] (Exn.toD ⟨"InvalidRange", [("stop", .str "other"), ("start", item)]⟩)).bind fun t12 => fReprX [t12]).bind fun t13 => (fReprX [.str "other"]).bind fun t14 => dNe t13 t14).bind fun t15 => fInt [t15]) = some (.int 0) := by
    rw [show fldO "stop" ["InvalidRange"] (Exn.toD ⟨"InvalidRange", [("stop", .str "other"), ("start", item)]⟩) = some (.str "other") from rfl, Option.bind_some, ho, Option.bind_some, Option.bind_some, ne_str_same]
    rfl
  unfold f__law_made
  rw [show excO "InvalidStream" ["value"] [item] = some (Exn.toD ⟨"InvalidStream", [("value", item)]⟩) from rfl, show excKO "NoPosition" ["value"] [0] [item] = some (Exn.toD ⟨"NoPosition", [("value", item)]⟩) from rfl, Option.bind_some, Option.bind_some, po_some,
    show itemsOf (.tuple [Exn.toD ⟨"InvalidStream", [("value", item)]⟩, Exn.toD ⟨"NoPosition", [("value", item)]⟩]) = some [Exn.toD ⟨"InvalidStream", [("value", item)]⟩, Exn.toD ⟨"NoPosition", [("value", item)]⟩] from rfl, po_some]
  have l1 : forN (fun (error' : D) (found' : List D) =>
      ((((fldO "value" ["InvalidLetter", "InvalidStream", "NoNumber", "NoPosition", "NoUse", "NotLiteral", "TooLong"] error').bind fun t5 => some [t5]).map .list).bind fun t6 => some (.tuple [error', t6])).po fun t7 =>
      pushP found' t7 fun found1' =>
      Po.ok found1') [Exn.toD ⟨"InvalidStream", [("value", item)]⟩, Exn.toD ⟨"NoPosition", [("value", item)]⟩] [] = .ok ((exX item).take 2) := rfl
  rw [l1, po_bind_ok, show excKO "InvalidRange" ["start", "stop"] [1, 0] [.str "other", item] = some (Exn.toD ⟨"InvalidRange", [("stop", .str "other"), ("start", item)]⟩) from rfl, po_some, hstop]
  rfl
theorem sh_items {r : Int} (h0 : 0 ≤ r) (h1 : r < 10 ^ 9) : ∀ item ∈ ([.none, .bool true, .int r, .int 0, .str "", .str "abc", .tuple [], .tuple [.int 0, .int 1], .list [], .dict [], .tuple [.tuple [.str "literal", .str "a"]]] : List D), Sh 2 1000 item := by
  intro d hd
  have s1 : ∀ {x : Str}, (PyData.str x).showable = true → (PyData.str x).leavesShort 40 = true → x.cps.size ≤ 60 → Sh 0 60 (.str x) := fun a b c => ⟨rfl, a, Nat.zero_le _, b, c⟩
  have i1 : ∀ {i : Int}, i.natAbs ≤ 10 ^ 30 → Sh 0 130 (.int i) := fun h => sh_int h
  simp only [List.mem_cons, List.not_mem_nil, or_false] at hd
  rcases hd with rfl | rfl | rfl | rfl | rfl | rfl | rfl | rfl | rfl | rfl | rfl
  · exact ⟨rfl, rfl, Nat.zero_le _, rfl, Nat.zero_le _⟩
  · exact ⟨rfl, rfl, Nat.zero_le _, rfl, Nat.zero_le _⟩
  · exact (i1 (by omega)).mono (by decide) (by decide)
  · exact (i1 (by decide)).mono (by decide) (by decide)
  · exact (s1 (by decide +kernel) (by decide +kernel) (by decide +kernel)).mono (by decide) (by decide)
  · exact (s1 (by decide +kernel) (by decide +kernel) (by decide +kernel)).mono (by decide) (by decide)
  · exact ⟨rfl, rfl, by decide, rfl, by decide⟩
  · exact (sh_tup2 (i1 (by decide)) (i1 (by decide))).mono (by decide) (by decide)
  · exact ⟨rfl, rfl, by decide, rfl, by decide⟩
  · exact ⟨rfl, rfl, by decide, rfl, by decide⟩
  · exact (sh_tup (n := 1) (fun x hx => by rw [List.mem_singleton.mp hx]; exact sh_tup2 (s1 (x := "literal") (by decide +kernel) (by decide +kernel) (by decide +kernel)) (s1 (x := "a") (by decide +kernel) (by decide +kernel) (by decide +kernel))) (Nat.le_refl _)).mono (by decide) (by decide)
theorem on_due (i : Nat) : (((range1O (.int 11)).bind fun t16 => mapS (fun other' => dEq (.int (i : Int)) other') t16).map PyData.list) = some (.list (onX i)) := by
  rw [show range1O (.int 11) = some (rngOf 0 ((11 : Nat) : Int)) from rng_ok (m := 11) (by decide), Option.bind_some, mapS_rng (fun k : Nat => PyData.bool ((i : Int) == (k : Int))) 11 (by decide) fun k _ => dEq_int]
  rfl
theorem on_ne (i : Nat) : dNe (.list (onX i)) (.list (onX i)) = some (.bool false) := Bnd.ne (k := 1) (w := 11 * 2) (bnd_list (k := 0) (w := 1) (fun x hx => by
  obtain ⟨k, _, rfl⟩ := List.mem_map.mp hx
  exact (bnd_bool).mono (Nat.le_refl _) (by decide)) (by unfold onX; rw [List.length_map, List.length_range]; exact Nat.le_refl _))
def bodyX (item : D) : D → Unit → Po (Step Unit D) := fun (d1 : D) (_ : Unit) =>
  pn2 d1 fun at_' d2 =>
  pn2 d2 fun error' values' =>
  (orO ((((f__law_kinds error').toL).bind fun t15 => (((range1O (.int 11)).bind fun t16 => mapS (fun other' => dEq at_' other') t16).map .list).bind fun t17 => dNe t15 t17).bind fun t18 => toB t18) (((fReprX [values']).bind fun t19 => (fReprX [(.list [item])]).bind fun t20 => dNe t19 t20).bind fun t21 => toB t21)).po fun t22 =>
  if t22 then
  .ok (.rt (.bool false))
  else
  ((((isXO anyX error').bind fun t23 => toB t23).map (!·))).po fun t24 =>
  if t24 then
  .ok (.rt (.bool false))
  else
  .ok (.nx ())
theorem item_ok (h : Sh 2 1000 item) : forS (ρ := D) (bodyX item) (enumD (exX item)) () = .ok (.nx ()) := by
  have hl : Sh 3 1001 (.list [item]) := (sh_lst (n := 1) (fun x hx => by rw [List.mem_singleton.mp hx]; exact h) (Nat.le_refl _)).mono (Nat.le_refl _) (by decide)
  have hw : Wp (forS (ρ := D) (bodyX item) (enumD (exX item)) ()) (fun o => ∃ s : Unit, o = .nx s ∧ True) := forS_inv (fun _ _ => True) _ (fun k d s hd _ => by
    unfold enumD at hd
    obtain ⟨x, y, h1, h2, rfl⟩ := zip_get hd
    unfold exX at h2
    rw [List.getElem?_map] at h1 h2
    obtain ⟨i, h3, rfl⟩ := Option.map_eq_some_iff.mp h1
    obtain ⟨q, h4, rfl⟩ := Option.map_eq_some_iff.mp h2
    have hi : i = k := by
      have hk := (List.getElem?_eq_some_iff.mp h3).1
      rw [List.length_range] at hk
      rw [List.getElem?_range hk] at h3
      exact (Option.some.inj h3).symm
    subst hi
    unfold bodyX
    rw [pn2_t, pn2_t, kinds_i i q h4]
    show Wp (Option.po (orO (((some (PyData.list (onX i))).bind fun t15 => (((range1O (.int 11)).bind fun t16 => mapS (fun other' => dEq (.int (i : Int)) other') t16).map PyData.list).bind fun t17 => dNe t15 t17).bind fun t18 => toB t18) _) _) _
    rw [Option.bind_some, on_due, Option.bind_some, on_ne, Option.bind_some, toB_bool, orO_some, if_neg Bool.false_ne_true, hl.repr (by decide) (by decide), Option.bind_some, Option.bind_some, ne_str_same, Option.bind_some, toB_bool, po_some, if_neg Bool.false_ne_true, any_i i q h4, Option.bind_some, toB_bool, Option.map_some, po_some, Bool.not_true, if_neg Bool.false_ne_true, wp_ok]
    exact ⟨(), rfl, trivial⟩) trivial
  obtain ⟨o, e, s, rfl, _⟩ := hw.get
  exact e
theorem law_ok (ns : List Int) (hl : ns.length ≤ 63) : f_law (ns.map .int) = .ok (.bool true) := by
  refine Wp.out ?_
  unfold f_law
  rw [anyX_eq]
  obtain ⟨m, m1, m3, em⟩ := turns_ok 3 (by decide) (ns.map PyData.int).length
  have em' : ((fMin [.int 3, .int ((ns.map PyData.int).length : Int)]).bind fun t => fMax [.int 1, t]) = some (.int (m : Int)) := em
  have h0 : orO ((((excO "StreamError" [] []).bind fun t1 => (f__law_kinds t1).toL).bind fun t2 => dIn (.bool true) t2).bind fun t3 => toB t3) ((((excO "StreamError" [] []).bind fun t4 => isXO anyX t4).bind fun t5 => toB t5).map (!·)) = some false := by
    rw [show excO "StreamError" [] [] = some (Exn.toD ⟨"StreamError", []⟩) from rfl, Option.bind_some, kinds_s]
    rfl
  rw [show _ = some false from h0, po_some, if_neg Bool.false_ne_true, em', po_some, rng_ok (by omega), po_some]
  refine wp_forS (fun _ _ => True) (fun k d s hd _ => ?_) trivial fun s _ => ?_
  · obtain ⟨rfl, hk⟩ := rng_getN hd
    obtain ⟨pot, ep, hp⟩ := pot_ok k (by omega) ns (by omega)
    rw [ep, po_bind_ok, show dPow (.int 10) (.int 9) = some (.int (10 ^ 9)) from d_pow_i0 (by decide +kernel), po_some]
    refine take_bind hp (by decide) (by decide) (by decide) fun r p1 _ r0 r1 => ?_
    dsimp only
    rw [i_of_l, po_some]
    refine wp_forS (fun _ _ => True) (fun j item s hd _ => ?_) trivial fun s _ => ?_
    · have hsh := sh_items r0 r1 item (List.mem_of_getElem? hd)
      rw [made_ok]
      show Wp (Po.thenS (forS (ρ := D) (bodyX item) (enumD (exX item)) ()) _ _) _
      rw [item_ok hsh]
      exact ⟨(), rfl, trivial⟩
    · rw [wp_ok]
      exact ⟨(), rfl, trivial⟩
  · rfl
end
theorem wins : Wins 63 F_law := wins_of (fun _ => sim_law) fun ns h1 _ => law_ok ns h1
end ML.K15

open PySem PySem.W PyProof.Rows in
set_option maxRecDepth 100000 in
set_option maxHeartbeats 0 in
theorem PySem.Challenge.cw_copyorigins_k15_errors_of_the_package_holds : PySem.Challenge.rw_copyorigins_k15_errors_of_the_package.Holds := by
  w_on; o_law; k_head; (case hw => w_witness2)
  k_fill
  refine ML.walkG (l := PySem.Challenge.rw_copyorigins_k15_errors_of_the_package) (k := 4) (x := "_law_script") (F := ML.K15.F_law) ML.K15.wins rfl (by decide) rfl ⟨rfl, by decide, by decide⟩ (fun w h Y => PySem.W.kIn_of Y) ?F
  case F =>
    intro w mg fa h KX G hmg
    refine' ML.K15.fin KX G hmg ?a0 ?l0 ?c0 ?k0 ?a1 ?l1 ?c1 ?k1 ?a2 ?l2 ?c2 ?k2 ?a3 ?l3 ?c3 ?k3 ?a4 ?l4 ?c4 ?k4 ?xcn ?xct ?xa_CommandError ?xl_CommandError ?xr_CommandError ?xsa_CommandError ?xga_CommandError ?xgg_CommandError ?xss_CommandError ?xe_CommandError ?xt_CommandError ?xk_CommandError ?xh_CommandError ?xca_CommandError ?xcm_CommandError ?xi_CommandError ?xti_CommandError ?xki_CommandError ?xli_CommandError ?xci_CommandError ?xn0_CommandError ?xa_InvalidLetter ?xl_InvalidLetter ?xr_InvalidLetter ?xsa_InvalidLetter ?xga_InvalidLetter ?xgg_InvalidLetter ?xss_InvalidLetter ?xe_InvalidLetter ?xt_InvalidLetter ?xk_InvalidLetter ?xh_InvalidLetter ?xca_InvalidLetter ?xcm_InvalidLetter ?xi_InvalidLetter ?xti_InvalidLetter ?xki_InvalidLetter ?xli_InvalidLetter ?xci_InvalidLetter ?xn0_InvalidLetter ?xa_InvalidRange ?xl_InvalidRange ?xr_InvalidRange ?xsa_InvalidRange ?xga_InvalidRange ?xgg_InvalidRange ?xss_InvalidRange ?xe_InvalidRange ?xt_InvalidRange ?xk_InvalidRange ?xh_InvalidRange ?xca_InvalidRange ?xcm_InvalidRange ?xi_InvalidRange ?xti_InvalidRange ?xki_InvalidRange ?xli_InvalidRange ?xci_InvalidRange ?xn0_InvalidRange ?xn1_InvalidRange ?xa_InvalidStream ?xl_InvalidStream ?xr_InvalidStream ?xsa_InvalidStream ?xga_InvalidStream ?xgg_InvalidStream ?xss_InvalidStream ?xe_InvalidStream ?xt_InvalidStream ?xk_InvalidStream ?xh_InvalidStream ?xca_InvalidStream ?xcm_InvalidStream ?xi_InvalidStream ?xti_InvalidStream ?xki_InvalidStream ?xli_InvalidStream ?xci_InvalidStream ?xn0_InvalidStream ?xa_NoNumber ?xl_NoNumber ?xr_NoNumber ?xsa_NoNumber ?xga_NoNumber ?xgg_NoNumber ?xss_NoNumber ?xe_NoNumber ?xt_NoNumber ?xk_NoNumber ?xh_NoNumber ?xca_NoNumber ?xcm_NoNumber ?xi_NoNumber ?xti_NoNumber ?xki_NoNumber ?xli_NoNumber ?xci_NoNumber ?xn0_NoNumber ?xa_NoPosition ?xl_NoPosition ?xr_NoPosition ?xsa_NoPosition ?xga_NoPosition ?xgg_NoPosition ?xss_NoPosition ?xe_NoPosition ?xt_NoPosition ?xk_NoPosition ?xh_NoPosition ?xca_NoPosition ?xcm_NoPosition ?xi_NoPosition ?xti_NoPosition ?xki_NoPosition ?xli_NoPosition ?xci_NoPosition ?xn0_NoPosition ?xa_NoUse ?xl_NoUse ?xr_NoUse ?xsa_NoUse ?xga_NoUse ?xgg_NoUse ?xss_NoUse ?xe_NoUse ?xt_NoUse ?xk_NoUse ?xh_NoUse ?xca_NoUse ?xcm_NoUse ?xi_NoUse ?xti_NoUse ?xki_NoUse ?xli_NoUse ?xci_NoUse ?xn0_NoUse ?xa_NotLiteral ?xl_NotLiteral ?xr_NotLiteral ?xsa_NotLiteral ?xga_NotLiteral ?xgg_NotLiteral ?xss_NotLiteral ?xe_NotLiteral ?xt_NotLiteral ?xk_NotLiteral ?xh_NotLiteral ?xca_NotLiteral ?xcm_NotLiteral ?xi_NotLiteral ?xti_NotLiteral ?xki_NotLiteral ?xli_NotLiteral ?xci_NotLiteral ?xn0_NotLiteral ?xa_NothingToUndo ?xq_NothingToUndo ?xga_NothingToUndo ?xgg_NothingToUndo ?xss_NothingToUndo ?xe_NothingToUndo ?xt_NothingToUndo ?xk_NothingToUndo ?xh_NothingToUndo ?xca_NothingToUndo ?xcm_NothingToUndo ?xa_ParseError ?xl_ParseError ?xr_ParseError ?xsa_ParseError ?xga_ParseError ?xgg_ParseError ?xss_ParseError ?xe_ParseError ?xt_ParseError ?xk_ParseError ?xh_ParseError ?xca_ParseError ?xcm_ParseError ?xi_ParseError ?xti_ParseError ?xki_ParseError ?xli_ParseError ?xci_ParseError ?xn0_ParseError ?xa_StreamError ?xq_StreamError ?xga_StreamError ?xgg_StreamError ?xss_StreamError ?xe_StreamError ?xt_StreamError ?xk_StreamError ?xh_StreamError ?xca_StreamError ?xcm_StreamError ?xa_TooLong ?xl_TooLong ?xr_TooLong ?xsa_TooLong ?xga_TooLong ?xgg_TooLong ?xss_TooLong ?xe_TooLong ?xt_TooLong ?xk_TooLong ?xh_TooLong ?xca_TooLong ?xcm_TooLong ?xi_TooLong ?xti_TooLong ?xki_TooLong ?xli_TooLong ?xci_TooLong ?xn0_TooLong ?yh_CommandError ?yt_CommandError ?su_CommandError_CommandError ?su_InvalidLetter_CommandError ?su_InvalidRange_CommandError ?su_InvalidStream_CommandError ?su_NoNumber_CommandError ?su_NoPosition_CommandError ?su_NoUse_CommandError ?su_NotLiteral_CommandError ?su_NothingToUndo_CommandError ?su_ParseError_CommandError ?su_StreamError_CommandError ?su_TooLong_CommandError ?yh_InvalidLetter ?yt_InvalidLetter ?su_CommandError_InvalidLetter ?su_InvalidLetter_InvalidLetter ?su_InvalidRange_InvalidLetter ?su_InvalidStream_InvalidLetter ?su_NoNumber_InvalidLetter ?su_NoPosition_InvalidLetter ?su_NoUse_InvalidLetter ?su_NotLiteral_InvalidLetter ?su_NothingToUndo_InvalidLetter ?su_ParseError_InvalidLetter ?su_StreamError_InvalidLetter ?su_TooLong_InvalidLetter ?yh_InvalidRange ?yt_InvalidRange ?su_CommandError_InvalidRange ?su_InvalidLetter_InvalidRange ?su_InvalidRange_InvalidRange ?su_InvalidStream_InvalidRange ?su_NoNumber_InvalidRange ?su_NoPosition_InvalidRange ?su_NoUse_InvalidRange ?su_NotLiteral_InvalidRange ?su_NothingToUndo_InvalidRange ?su_ParseError_InvalidRange ?su_StreamError_InvalidRange ?su_TooLong_InvalidRange ?yh_InvalidStream ?yt_InvalidStream ?su_CommandError_InvalidStream ?su_InvalidLetter_InvalidStream ?su_InvalidRange_InvalidStream ?su_InvalidStream_InvalidStream ?su_NoNumber_InvalidStream ?su_NoPosition_InvalidStream ?su_NoUse_InvalidStream ?su_NotLiteral_InvalidStream ?su_NothingToUndo_InvalidStream ?su_ParseError_InvalidStream ?su_StreamError_InvalidStream ?su_TooLong_InvalidStream ?yh_NoNumber ?yt_NoNumber ?su_CommandError_NoNumber ?su_InvalidLetter_NoNumber ?su_InvalidRange_NoNumber ?su_InvalidStream_NoNumber ?su_NoNumber_NoNumber ?su_NoPosition_NoNumber ?su_NoUse_NoNumber ?su_NotLiteral_NoNumber ?su_NothingToUndo_NoNumber ?su_ParseError_NoNumber ?su_StreamError_NoNumber ?su_TooLong_NoNumber ?yh_NoPosition ?yt_NoPosition ?su_CommandError_NoPosition ?su_InvalidLetter_NoPosition ?su_InvalidRange_NoPosition ?su_InvalidStream_NoPosition ?su_NoNumber_NoPosition ?su_NoPosition_NoPosition ?su_NoUse_NoPosition ?su_NotLiteral_NoPosition ?su_NothingToUndo_NoPosition ?su_ParseError_NoPosition ?su_StreamError_NoPosition ?su_TooLong_NoPosition ?yh_NoUse ?yt_NoUse ?su_CommandError_NoUse ?su_InvalidLetter_NoUse ?su_InvalidRange_NoUse ?su_InvalidStream_NoUse ?su_NoNumber_NoUse ?su_NoPosition_NoUse ?su_NoUse_NoUse ?su_NotLiteral_NoUse ?su_NothingToUndo_NoUse ?su_ParseError_NoUse ?su_StreamError_NoUse ?su_TooLong_NoUse ?yh_NotLiteral ?yt_NotLiteral ?su_CommandError_NotLiteral ?su_InvalidLetter_NotLiteral ?su_InvalidRange_NotLiteral ?su_InvalidStream_NotLiteral ?su_NoNumber_NotLiteral ?su_NoPosition_NotLiteral ?su_NoUse_NotLiteral ?su_NotLiteral_NotLiteral ?su_NothingToUndo_NotLiteral ?su_ParseError_NotLiteral ?su_StreamError_NotLiteral ?su_TooLong_NotLiteral ?yh_NothingToUndo ?yt_NothingToUndo ?su_CommandError_NothingToUndo ?su_InvalidLetter_NothingToUndo ?su_InvalidRange_NothingToUndo ?su_InvalidStream_NothingToUndo ?su_NoNumber_NothingToUndo ?su_NoPosition_NothingToUndo ?su_NoUse_NothingToUndo ?su_NotLiteral_NothingToUndo ?su_NothingToUndo_NothingToUndo ?su_ParseError_NothingToUndo ?su_StreamError_NothingToUndo ?su_TooLong_NothingToUndo ?yh_ParseError ?yt_ParseError ?su_CommandError_ParseError ?su_InvalidLetter_ParseError ?su_InvalidRange_ParseError ?su_InvalidStream_ParseError ?su_NoNumber_ParseError ?su_NoPosition_ParseError ?su_NoUse_ParseError ?su_NotLiteral_ParseError ?su_NothingToUndo_ParseError ?su_ParseError_ParseError ?su_StreamError_ParseError ?su_TooLong_ParseError ?yh_StreamError ?yt_StreamError ?su_CommandError_StreamError ?su_InvalidLetter_StreamError ?su_InvalidRange_StreamError ?su_InvalidStream_StreamError ?su_NoNumber_StreamError ?su_NoPosition_StreamError ?su_NoUse_StreamError ?su_NotLiteral_StreamError ?su_NothingToUndo_StreamError ?su_ParseError_StreamError ?su_StreamError_StreamError ?su_TooLong_StreamError ?yh_TooLong ?yt_TooLong ?su_CommandError_TooLong ?su_InvalidLetter_TooLong ?su_InvalidRange_TooLong ?su_InvalidStream_TooLong ?su_NoNumber_TooLong ?su_NoPosition_TooLong ?su_NoUse_TooLong ?su_NotLiteral_TooLong ?su_NothingToUndo_TooLong ?su_ParseError_TooLong ?su_StreamError_TooLong ?su_TooLong_TooLong ?xvk_TooLong ?xvk_StreamError ?xvk_ParseError ?xvk_NothingToUndo ?xvk_NotLiteral ?xvk_NoUse ?xvk_NoPosition ?xvk_NoNumber ?xvk_InvalidStream ?xvk_InvalidRange ?xvk_InvalidLetter ?xvk_CommandError ?z_ValueError ?z_abs ?z_enumerate ?z_int ?z_isinstance ?z_len ?z_max ?z_min ?z_range ?z_repr
    (case a0 => k_is)
    (case l0 => k_is)
    (case c0 => k_is)
    (case k0 => k_is)
    (case a1 => k_is)
    (case l1 => k_is)
    (case c1 => k_is)
    (case k1 => k_is)
    (case a2 => k_is)
    (case l2 => k_is)
    (case c2 => k_is)
    (case k2 => k_is)
    (case a3 => k_is)
    (case l3 => k_is)
    (case c3 => k_is)
    (case k3 => k_is)
    (case a4 => k_is)
    (case l4 => k_is)
    (case c4 => k_is)
    (case k4 => k_is)
    (case xcn => k_is)
    (case xct => k_is)
    (case xa_CommandError => k_is)
    (case xl_CommandError => k_is)
    (case xr_CommandError => decide +kernel)
    (case xsa_CommandError => k_is)
    (case xga_CommandError => k_is)
    (case xgg_CommandError => k_is)
    (case xss_CommandError => k_is)
    (case xe_CommandError => k_is)
    (case xt_CommandError => k_is)
    (case xk_CommandError => k_is)
    (case xh_CommandError => k_is)
    (case xca_CommandError => k_is)
    (case xcm_CommandError => k_is)
    (case xi_CommandError => k_is)
    (case xti_CommandError => k_is)
    (case xki_CommandError => k_is)
    (case xli_CommandError => k_is)
    (case xci_CommandError => k_is)
    (case xn0_CommandError => k_is)
    (case xa_InvalidLetter => k_is)
    (case xl_InvalidLetter => k_is)
    (case xr_InvalidLetter => decide +kernel)
    (case xsa_InvalidLetter => k_is)
    (case xga_InvalidLetter => k_is)
    (case xgg_InvalidLetter => k_is)
    (case xss_InvalidLetter => k_is)
    (case xe_InvalidLetter => k_is)
    (case xt_InvalidLetter => k_is)
    (case xk_InvalidLetter => k_is)
    (case xh_InvalidLetter => k_is)
    (case xca_InvalidLetter => k_is)
    (case xcm_InvalidLetter => k_is)
    (case xi_InvalidLetter => k_is)
    (case xti_InvalidLetter => k_is)
    (case xki_InvalidLetter => k_is)
    (case xli_InvalidLetter => k_is)
    (case xci_InvalidLetter => k_is)
    (case xn0_InvalidLetter => k_is)
    (case xa_InvalidRange => k_is)
    (case xl_InvalidRange => k_is)
    (case xr_InvalidRange => decide +kernel)
    (case xsa_InvalidRange => k_is)
    (case xga_InvalidRange => k_is)
    (case xgg_InvalidRange => k_is)
    (case xss_InvalidRange => k_is)
    (case xe_InvalidRange => k_is)
    (case xt_InvalidRange => k_is)
    (case xk_InvalidRange => k_is)
    (case xh_InvalidRange => k_is)
    (case xca_InvalidRange => k_is)
    (case xcm_InvalidRange => k_is)
    (case xi_InvalidRange => k_is)
    (case xti_InvalidRange => k_is)
    (case xki_InvalidRange => k_is)
    (case xli_InvalidRange => k_is)
    (case xci_InvalidRange => k_is)
    (case xn0_InvalidRange => k_is)
    (case xn1_InvalidRange => k_is)
    (case xa_InvalidStream => k_is)
    (case xl_InvalidStream => k_is)
    (case xr_InvalidStream => decide +kernel)
    (case xsa_InvalidStream => k_is)
    (case xga_InvalidStream => k_is)
    (case xgg_InvalidStream => k_is)
    (case xss_InvalidStream => k_is)
    (case xe_InvalidStream => k_is)
    (case xt_InvalidStream => k_is)
    (case xk_InvalidStream => k_is)
    (case xh_InvalidStream => k_is)
    (case xca_InvalidStream => k_is)
    (case xcm_InvalidStream => k_is)
    (case xi_InvalidStream => k_is)
    (case xti_InvalidStream => k_is)
    (case xki_InvalidStream => k_is)
    (case xli_InvalidStream => k_is)
    (case xci_InvalidStream => k_is)
    (case xn0_InvalidStream => k_is)
    (case xa_NoNumber => k_is)
    (case xl_NoNumber => k_is)
    (case xr_NoNumber => decide +kernel)
    (case xsa_NoNumber => k_is)
    (case xga_NoNumber => k_is)
    (case xgg_NoNumber => k_is)
    (case xss_NoNumber => k_is)
    (case xe_NoNumber => k_is)
    (case xt_NoNumber => k_is)
    (case xk_NoNumber => k_is)
    (case xh_NoNumber => k_is)
    (case xca_NoNumber => k_is)
    (case xcm_NoNumber => k_is)
    (case xi_NoNumber => k_is)
    (case xti_NoNumber => k_is)
    (case xki_NoNumber => k_is)
    (case xli_NoNumber => k_is)
    (case xci_NoNumber => k_is)
    (case xn0_NoNumber => k_is)
    (case xa_NoPosition => k_is)
    (case xl_NoPosition => k_is)
    (case xr_NoPosition => decide +kernel)
    (case xsa_NoPosition => k_is)
    (case xga_NoPosition => k_is)
    (case xgg_NoPosition => k_is)
    (case xss_NoPosition => k_is)
    (case xe_NoPosition => k_is)
    (case xt_NoPosition => k_is)
    (case xk_NoPosition => k_is)
    (case xh_NoPosition => k_is)
    (case xca_NoPosition => k_is)
    (case xcm_NoPosition => k_is)
    (case xi_NoPosition => k_is)
    (case xti_NoPosition => k_is)
    (case xki_NoPosition => k_is)
    (case xli_NoPosition => k_is)
    (case xci_NoPosition => k_is)
    (case xn0_NoPosition => k_is)
    (case xa_NoUse => k_is)
    (case xl_NoUse => k_is)
    (case xr_NoUse => decide +kernel)
    (case xsa_NoUse => k_is)
    (case xga_NoUse => k_is)
    (case xgg_NoUse => k_is)
    (case xss_NoUse => k_is)
    (case xe_NoUse => k_is)
    (case xt_NoUse => k_is)
    (case xk_NoUse => k_is)
    (case xh_NoUse => k_is)
    (case xca_NoUse => k_is)
    (case xcm_NoUse => k_is)
    (case xi_NoUse => k_is)
    (case xti_NoUse => k_is)
    (case xki_NoUse => k_is)
    (case xli_NoUse => k_is)
    (case xci_NoUse => k_is)
    (case xn0_NoUse => k_is)
    (case xa_NotLiteral => k_is)
    (case xl_NotLiteral => k_is)
    (case xr_NotLiteral => decide +kernel)
    (case xsa_NotLiteral => k_is)
    (case xga_NotLiteral => k_is)
    (case xgg_NotLiteral => k_is)
    (case xss_NotLiteral => k_is)
    (case xe_NotLiteral => k_is)
    (case xt_NotLiteral => k_is)
    (case xk_NotLiteral => k_is)
    (case xh_NotLiteral => k_is)
    (case xca_NotLiteral => k_is)
    (case xcm_NotLiteral => k_is)
    (case xi_NotLiteral => k_is)
    (case xti_NotLiteral => k_is)
    (case xki_NotLiteral => k_is)
    (case xli_NotLiteral => k_is)
    (case xci_NotLiteral => k_is)
    (case xn0_NotLiteral => k_is)
    (case xa_NothingToUndo => k_is)
    (case xq_NothingToUndo => first | k_exc | k_is | decide +kernel)
    (case xga_NothingToUndo => k_is)
    (case xgg_NothingToUndo => k_is)
    (case xss_NothingToUndo => k_is)
    (case xe_NothingToUndo => k_is)
    (case xt_NothingToUndo => k_is)
    (case xk_NothingToUndo => k_is)
    (case xh_NothingToUndo => k_is)
    (case xca_NothingToUndo => k_is)
    (case xcm_NothingToUndo => k_is)
    (case xa_ParseError => k_is)
    (case xl_ParseError => k_is)
    (case xr_ParseError => decide +kernel)
    (case xsa_ParseError => k_is)
    (case xga_ParseError => k_is)
    (case xgg_ParseError => k_is)
    (case xss_ParseError => k_is)
    (case xe_ParseError => k_is)
    (case xt_ParseError => k_is)
    (case xk_ParseError => k_is)
    (case xh_ParseError => k_is)
    (case xca_ParseError => k_is)
    (case xcm_ParseError => k_is)
    (case xi_ParseError => k_is)
    (case xti_ParseError => k_is)
    (case xki_ParseError => k_is)
    (case xli_ParseError => k_is)
    (case xci_ParseError => k_is)
    (case xn0_ParseError => k_is)
    (case xa_StreamError => k_is)
    (case xq_StreamError => first | k_exc | k_is | decide +kernel)
    (case xga_StreamError => k_is)
    (case xgg_StreamError => k_is)
    (case xss_StreamError => k_is)
    (case xe_StreamError => k_is)
    (case xt_StreamError => k_is)
    (case xk_StreamError => k_is)
    (case xh_StreamError => k_is)
    (case xca_StreamError => k_is)
    (case xcm_StreamError => k_is)
    (case xa_TooLong => k_is)
    (case xl_TooLong => k_is)
    (case xr_TooLong => decide +kernel)
    (case xsa_TooLong => k_is)
    (case xga_TooLong => k_is)
    (case xgg_TooLong => k_is)
    (case xss_TooLong => k_is)
    (case xe_TooLong => k_is)
    (case xt_TooLong => k_is)
    (case xk_TooLong => k_is)
    (case xh_TooLong => k_is)
    (case xca_TooLong => k_is)
    (case xcm_TooLong => k_is)
    (case xi_TooLong => k_is)
    (case xti_TooLong => k_is)
    (case xki_TooLong => k_is)
    (case xli_TooLong => k_is)
    (case xci_TooLong => k_is)
    (case xn0_TooLong => k_is)
    (case yh_CommandError => k_is)
    (case yt_CommandError => k_is)
    (case su_CommandError_CommandError => k_is)
    (case su_InvalidLetter_CommandError => k_is)
    (case su_InvalidRange_CommandError => k_is)
    (case su_InvalidStream_CommandError => k_is)
    (case su_NoNumber_CommandError => k_is)
    (case su_NoPosition_CommandError => k_is)
    (case su_NoUse_CommandError => k_is)
    (case su_NotLiteral_CommandError => k_is)
    (case su_NothingToUndo_CommandError => k_is)
    (case su_ParseError_CommandError => k_is)
    (case su_StreamError_CommandError => k_is)
    (case su_TooLong_CommandError => k_is)
    (case yh_InvalidLetter => k_is)
    (case yt_InvalidLetter => k_is)
    (case su_CommandError_InvalidLetter => k_is)
    (case su_InvalidLetter_InvalidLetter => k_is)
    (case su_InvalidRange_InvalidLetter => k_is)
    (case su_InvalidStream_InvalidLetter => k_is)
    (case su_NoNumber_InvalidLetter => k_is)
    (case su_NoPosition_InvalidLetter => k_is)
    (case su_NoUse_InvalidLetter => k_is)
    (case su_NotLiteral_InvalidLetter => k_is)
    (case su_NothingToUndo_InvalidLetter => k_is)
    (case su_ParseError_InvalidLetter => k_is)
    (case su_StreamError_InvalidLetter => k_is)
    (case su_TooLong_InvalidLetter => k_is)
    (case yh_InvalidRange => k_is)
    (case yt_InvalidRange => k_is)
    (case su_CommandError_InvalidRange => k_is)
    (case su_InvalidLetter_InvalidRange => k_is)
    (case su_InvalidRange_InvalidRange => k_is)
    (case su_InvalidStream_InvalidRange => k_is)
    (case su_NoNumber_InvalidRange => k_is)
    (case su_NoPosition_InvalidRange => k_is)
    (case su_NoUse_InvalidRange => k_is)
    (case su_NotLiteral_InvalidRange => k_is)
    (case su_NothingToUndo_InvalidRange => k_is)
    (case su_ParseError_InvalidRange => k_is)
    (case su_StreamError_InvalidRange => k_is)
    (case su_TooLong_InvalidRange => k_is)
    (case yh_InvalidStream => k_is)
    (case yt_InvalidStream => k_is)
    (case su_CommandError_InvalidStream => k_is)
    (case su_InvalidLetter_InvalidStream => k_is)
    (case su_InvalidRange_InvalidStream => k_is)
    (case su_InvalidStream_InvalidStream => k_is)
    (case su_NoNumber_InvalidStream => k_is)
    (case su_NoPosition_InvalidStream => k_is)
    (case su_NoUse_InvalidStream => k_is)
    (case su_NotLiteral_InvalidStream => k_is)
    (case su_NothingToUndo_InvalidStream => k_is)
    (case su_ParseError_InvalidStream => k_is)
    (case su_StreamError_InvalidStream => k_is)
    (case su_TooLong_InvalidStream => k_is)
    (case yh_NoNumber => k_is)
    (case yt_NoNumber => k_is)
    (case su_CommandError_NoNumber => k_is)
    (case su_InvalidLetter_NoNumber => k_is)
    (case su_InvalidRange_NoNumber => k_is)
    (case su_InvalidStream_NoNumber => k_is)
    (case su_NoNumber_NoNumber => k_is)
    (case su_NoPosition_NoNumber => k_is)
    (case su_NoUse_NoNumber => k_is)
    (case su_NotLiteral_NoNumber => k_is)
    (case su_NothingToUndo_NoNumber => k_is)
    (case su_ParseError_NoNumber => k_is)
    (case su_StreamError_NoNumber => k_is)
    (case su_TooLong_NoNumber => k_is)
    (case yh_NoPosition => k_is)
    (case yt_NoPosition => k_is)
    (case su_CommandError_NoPosition => k_is)
    (case su_InvalidLetter_NoPosition => k_is)
    (case su_InvalidRange_NoPosition => k_is)
    (case su_InvalidStream_NoPosition => k_is)
    (case su_NoNumber_NoPosition => k_is)
    (case su_NoPosition_NoPosition => k_is)
    (case su_NoUse_NoPosition => k_is)
    (case su_NotLiteral_NoPosition => k_is)
    (case su_NothingToUndo_NoPosition => k_is)
    (case su_ParseError_NoPosition => k_is)
    (case su_StreamError_NoPosition => k_is)
    (case su_TooLong_NoPosition => k_is)
    (case yh_NoUse => k_is)
    (case yt_NoUse => k_is)
    (case su_CommandError_NoUse => k_is)
    (case su_InvalidLetter_NoUse => k_is)
    (case su_InvalidRange_NoUse => k_is)
    (case su_InvalidStream_NoUse => k_is)
    (case su_NoNumber_NoUse => k_is)
    (case su_NoPosition_NoUse => k_is)
    (case su_NoUse_NoUse => k_is)
    (case su_NotLiteral_NoUse => k_is)
    (case su_NothingToUndo_NoUse => k_is)
    (case su_ParseError_NoUse => k_is)
    (case su_StreamError_NoUse => k_is)
    (case su_TooLong_NoUse => k_is)
    (case yh_NotLiteral => k_is)
    (case yt_NotLiteral => k_is)
    (case su_CommandError_NotLiteral => k_is)
    (case su_InvalidLetter_NotLiteral => k_is)
    (case su_InvalidRange_NotLiteral => k_is)
    (case su_InvalidStream_NotLiteral => k_is)
    (case su_NoNumber_NotLiteral => k_is)
    (case su_NoPosition_NotLiteral => k_is)
    (case su_NoUse_NotLiteral => k_is)
    (case su_NotLiteral_NotLiteral => k_is)
    (case su_NothingToUndo_NotLiteral => k_is)
    (case su_ParseError_NotLiteral => k_is)
    (case su_StreamError_NotLiteral => k_is)
    (case su_TooLong_NotLiteral => k_is)
    (case yh_NothingToUndo => k_is)
    (case yt_NothingToUndo => k_is)
    (case su_CommandError_NothingToUndo => k_is)
    (case su_InvalidLetter_NothingToUndo => k_is)
    (case su_InvalidRange_NothingToUndo => k_is)
    (case su_InvalidStream_NothingToUndo => k_is)
    (case su_NoNumber_NothingToUndo => k_is)
    (case su_NoPosition_NothingToUndo => k_is)
    (case su_NoUse_NothingToUndo => k_is)
    (case su_NotLiteral_NothingToUndo => k_is)
    (case su_NothingToUndo_NothingToUndo => k_is)
    (case su_ParseError_NothingToUndo => k_is)
    (case su_StreamError_NothingToUndo => k_is)
    (case su_TooLong_NothingToUndo => k_is)
    (case yh_ParseError => k_is)
    (case yt_ParseError => k_is)
    (case su_CommandError_ParseError => k_is)
    (case su_InvalidLetter_ParseError => k_is)
    (case su_InvalidRange_ParseError => k_is)
    (case su_InvalidStream_ParseError => k_is)
    (case su_NoNumber_ParseError => k_is)
    (case su_NoPosition_ParseError => k_is)
    (case su_NoUse_ParseError => k_is)
    (case su_NotLiteral_ParseError => k_is)
    (case su_NothingToUndo_ParseError => k_is)
    (case su_ParseError_ParseError => k_is)
    (case su_StreamError_ParseError => k_is)
    (case su_TooLong_ParseError => k_is)
    (case yh_StreamError => k_is)
    (case yt_StreamError => k_is)
    (case su_CommandError_StreamError => k_is)
    (case su_InvalidLetter_StreamError => k_is)
    (case su_InvalidRange_StreamError => k_is)
    (case su_InvalidStream_StreamError => k_is)
    (case su_NoNumber_StreamError => k_is)
    (case su_NoPosition_StreamError => k_is)
    (case su_NoUse_StreamError => k_is)
    (case su_NotLiteral_StreamError => k_is)
    (case su_NothingToUndo_StreamError => k_is)
    (case su_ParseError_StreamError => k_is)
    (case su_StreamError_StreamError => k_is)
    (case su_TooLong_StreamError => k_is)
    (case yh_TooLong => k_is)
    (case yt_TooLong => k_is)
    (case su_CommandError_TooLong => k_is)
    (case su_InvalidLetter_TooLong => k_is)
    (case su_InvalidRange_TooLong => k_is)
    (case su_InvalidStream_TooLong => k_is)
    (case su_NoNumber_TooLong => k_is)
    (case su_NoPosition_TooLong => k_is)
    (case su_NoUse_TooLong => k_is)
    (case su_NotLiteral_TooLong => k_is)
    (case su_NothingToUndo_TooLong => k_is)
    (case su_ParseError_TooLong => k_is)
    (case su_StreamError_TooLong => k_is)
    (case su_TooLong_TooLong => k_is)
    (case xvk_TooLong => kit_is)
    (case xvk_StreamError => kit_is)
    (case xvk_ParseError => kit_is)
    (case xvk_NothingToUndo => kit_is)
    (case xvk_NotLiteral => kit_is)
    (case xvk_NoUse => kit_is)
    (case xvk_NoPosition => kit_is)
    (case xvk_NoNumber => kit_is)
    (case xvk_InvalidStream => kit_is)
    (case xvk_InvalidRange => kit_is)
    (case xvk_InvalidLetter => kit_is)
    (case xvk_CommandError => kit_is)
    (case z_ValueError => k_is)
    (case z_abs => k_is)
    (case z_enumerate => k_is)
    (case z_int => k_is)
    (case z_isinstance => k_is)
    (case z_len => k_is)
    (case z_max => k_is)
    (case z_min => k_is)
    (case z_range => k_is)
    (case z_repr => k_is)
#print axioms PySem.Challenge.cw_copyorigins_k15_errors_of_the_package_holds
