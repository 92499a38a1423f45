import PyProof.Rows.All
import Wide.All
import OpenK.AllK
import Wide.FinOn
import HandS.Base
import HandS.Call
import HandS.List
import HandS.Comp
import HandS.Ends
import HandS.Dict
import HandS.Iter
import HandS.Text
import HandS.Exc
import HandS.Wide
import HandS.TupAny
import HandS.IsInst
import HandS.RaiseMore
import PyProof.ReprRoads
import HandS.ExcOwn
import HandS.Words
import HandS.Style
import HandS.EndBits
import HandS.Conv
import PySem.Challenge.RW_copyorigins_k19_letters_sources_and_orig
set_option Elab.async false
set_option linter.all false
set_option maxRecDepth 100000
set_option maxHeartbeats 4000000

/-! ML1: values of Python as plain data over the abstract heap; what is owned; the state of an activation. -/
namespace ML
open PySem L2

abbrev D := PyData
abbrev Fg := PySem.W.Frag
abbrev OS := Addr → Prop

/-! ### data in the heap, apart from the addresses in O -/
def XL (K : Fg) (H : Hp) (O : OS) (a : Addr) (xs : List V) : Prop := (¬ O a ∧ Rd H a (.lst xs)) ∨ SqL K (fun _ => none) a xs
def XT (K : Fg) (H : Hp) (O : OS) (a : Addr) (xs : List V) : Prop := (¬ O a ∧ Rd H a (.tup xs)) ∨ SqT K (fun _ => none) a xs
theorem rd_none {a : Addr} {u : HO} (h : Rd (fun _ => none) a u) : False := by
  rcases h with h | ⟨o, h⟩ <;> cases h
theorem XL.sq {K : Fg} {H : Hp} {O : OS} {a : Addr} {xs : List V} (h : XL K H O a xs) : SqL K H a xs := by
  rcases h with h | h
  · exact .inl h.2
  · rcases h with h | h
    · exact (rd_none h).elim
    · exact .inr h
theorem XT.sq {K : Fg} {H : Hp} {O : OS} {a : Addr} {xs : List V} (h : XT K H O a xs) : SqT K H a xs := by
  rcases h with h | h
  · exact .inl h.2
  · rcases h with h | h
    · exact (rd_none h).elim
    · exact .inr h

mutual
inductive RD (K : Fg) (H : Hp) (O : OS) : V → D → Prop
  | non : RD K H O .non .none
  | bl (b : Bool) : RD K H O (.bl b) (.bool b)
  | int (i : Int) : RD K H O (.int i) (.int i)
  | str (x : Str) : RD K H O (.str x) (.str x)
  | lst {a : Addr} {xs : List V} {ds : List D} : ¬ O a → H a = some (.lst xs) → RDs K H O xs ds → RD K H O (.ref a) (.list ds)
  | tup {a : Addr} {xs : List V} {ds : List D} : XT K H O a xs → RDs K H O xs ds → RD K H O (.ref a) (.tuple ds)
inductive RDs (K : Fg) (H : Hp) (O : OS) : List V → List D → Prop
  | nil : RDs K H O [] []
  | cons {v : V} {vs : List V} {d : D} {ds : List D} : RD K H O v d → RDs K H O vs ds → RDs K H O (v :: vs) (d :: ds)
end

/-- what stood apart from O stands apart from O' -/
def Sta (H : Hp) (O : OS) (H' : Hp) (O' : OS) : Prop := ∀ a o, H a = some o → ¬ O a → H' a = some o ∧ ¬ O' a

section
variable {K : Fg} {H H' : Hp} {O O' : OS}
theorem XL.sta (s : Sta H O H' O') {a : Addr} {xs : List V} (h : XL K H O a xs) : XL K H' O' a xs := by
  rcases h with ⟨n, h | ⟨o, h⟩⟩ | h
  · exact .inl ⟨(s _ _ h n).2, .inl (s _ _ h n).1⟩
  · exact .inl ⟨(s _ _ h n).2, .inr ⟨o, (s _ _ h n).1⟩⟩
  · exact .inr h
theorem XT.sta (s : Sta H O H' O') {a : Addr} {xs : List V} (h : XT K H O a xs) : XT K H' O' a xs := by
  rcases h with ⟨n, h | ⟨o, h⟩⟩ | h
  · exact .inl ⟨(s _ _ h n).2, .inl (s _ _ h n).1⟩
  · exact .inl ⟨(s _ _ h n).2, .inr ⟨o, (s _ _ h n).1⟩⟩
  · exact .inr h
mutual
theorem RD.sta (s : Sta H O H' O') : ∀ (d : D) (v : V), RD K H O v d → RD K H' O' v d
  | .none, _, h => by cases h; exact .non
  | .bool b, _, h => by cases h; exact .bl b
  | .int i, _, h => by cases h; exact .int i
  | .str x, _, h => by cases h; exact .str x
  | .list ds, _, h => by
    cases h with
    | lst h0 h1 h2 => exact .lst (s _ _ h1 h0).2 (s _ _ h1 h0).1 (RDs.sta s ds _ h2)
  | .tuple ds, _, h => by
    cases h with
    | tup h1 h2 => exact .tup (h1.sta s) (RDs.sta s ds _ h2)
  | .dict _, _, h => by cases h
theorem RDs.sta (s : Sta H O H' O') : ∀ (ds : List D) (vs : List V), RDs K H O vs ds → RDs K H' O' vs ds
  | [], _, h => by cases h; exact .nil
  | d :: ds, _, h => by
    cases h with
    | cons h1 h2 => exact .cons (RD.sta s d _ h1) (RDs.sta s ds _ h2)
end
mutual
theorem RD.dp : ∀ (d : D) (v : V), RD K H O v d → Dp K H v d
  | .none, _, h => by cases h; exact .non
  | .bool b, _, h => by cases h; exact .bl b
  | .int i, _, h => by cases h; exact .int i
  | .str x, _, h => by cases h; exact .str x
  | .list ds, _, h => by
    cases h with
    | lst h0 h1 h2 => exact .lst (SqL.of h1) (RDs.dp ds _ h2)
  | .tuple ds, _, h => by
    cases h with
    | tup h1 h2 => exact .tup h1.sq (RDs.dp ds _ h2)
  | .dict _, _, h => by cases h
theorem RDs.dp : ∀ (ds : List D) (vs : List V), RDs K H O vs ds → DpAll K H vs ds
  | [], _, h => by cases h; exact .nil
  | d :: ds, _, h => by
    cases h with
    | cons h1 h2 => exact .cons (RD.dp d _ h1) (RDs.dp ds _ h2)
end
theorem RDs.len : ∀ {vs : List V} {ds : List D}, RDs K H O vs ds → vs.length = ds.length
  | _, [], h => by cases h; rfl
  | _, d :: ds, h => by
    cases h with
    | cons h1 h2 => simp [RDs.len h2]
theorem RDs.app {vs ws : List V} {ds es : List D} (h : RDs K H O vs ds) (k : RDs K H O ws es) : RDs K H O (vs ++ ws) (ds ++ es) := by
  induction vs generalizing ds with
  | nil => cases h; exact k
  | cons v vs ih => cases h with | cons h1 h2 => exact .cons h1 (ih h2)
theorem RDs.get {vs : List V} {ds : List D} (h : RDs K H O vs ds) {i : Nat} {d : D} (e : ds[i]? = some d) : ∃ v, vs[i]? = some v ∧ RD K H O v d := by
  induction vs generalizing ds i with
  | nil => cases h; simp at e
  | cons v vs ih =>
    cases h with
    | cons h1 h2 =>
      cases i with
      | zero => simp at e; subst e; exact ⟨v, by simp, h1⟩
      | succ i => simp at e; obtain ⟨w, a, b⟩ := ih h2 e; exact ⟨w, by simpa using a, b⟩
theorem RDs.getV {vs : List V} {ds : List D} (h : RDs K H O vs ds) {i : Nat} {v : V} (e : vs[i]? = some v) : ∃ d, ds[i]? = some d ∧ RD K H O v d := by
  induction vs generalizing ds i with
  | nil => simp at e
  | cons w vs ih =>
    cases h with
    | cons h1 h2 =>
      cases i with
      | zero => simp at e; subst e; exact ⟨_, by simp, h1⟩
      | succ i => simp at e; obtain ⟨w, a, b⟩ := ih h2 e; exact ⟨w, by simpa using a, b⟩
theorem RDs.take {vs : List V} {ds : List D} (h : RDs K H O vs ds) (n : Nat) : RDs K H O (vs.take n) (ds.take n) := by
  induction vs generalizing ds n with
  | nil => cases h; simpa using RDs.nil
  | cons v vs ih =>
    cases h with
    | cons h1 h2 =>
      cases n with
      | zero => simpa using RDs.nil
      | succ n => simpa using RDs.cons h1 (ih h2 n)
theorem RDs.drop {vs : List V} {ds : List D} (h : RDs K H O vs ds) (n : Nat) : RDs K H O (vs.drop n) (ds.drop n) := by
  induction vs generalizing ds n with
  | nil => cases h; simpa using RDs.nil
  | cons v vs ih =>
    cases n with
    | zero => simpa using h
    | succ n =>
      cases h with
      | cons h1 h2 => simpa using ih h2 n
theorem RDs.set {vs : List V} {ds : List D} (h : RDs K H O vs ds) {v : V} {d : D} (r : RD K H O v d) (n : Nat) : RDs K H O (vs.set n v) (ds.set n d) := by
  induction vs generalizing ds n with
  | nil => cases h; simpa using RDs.nil
  | cons w vs ih =>
    cases h with
    | cons h1 h2 =>
      cases n with
      | zero => simpa using RDs.cons r h2
      | succ n => simpa using RDs.cons h1 (ih h2 n)
theorem RDs.rev {vs : List V} {ds : List D} (h : RDs K H O vs ds) : RDs K H O vs.reverse ds.reverse := by
  induction vs generalizing ds with
  | nil => cases h; simpa using RDs.nil
  | cons w vs ih =>
    cases h with
    | cons h1 h2 => simpa using (ih h2).app (.cons h1 .nil)
theorem RDs.rep {v : V} {d : D} (r : RD K H O v d) (n : Nat) : RDs K H O (List.replicate n v) (List.replicate n d) := by
  induction n with
  | zero => exact .nil
  | succ n ih => exact .cons r ih
end

/-! ### what is owned -/
/-- the content of an owned object: a list; a dict by ints and texts; an instance, its attributes data or owned -/
inductive OC where
  | lst (xs : List D)
  | dct (kvs : List (Key × D))
  | ins (C : Addr) (fs : List (Str × Sum D OC))

mutual
inductive RC (K : Fg) (H : Hp) (O : OS) : Addr → OC → List Addr → Prop
  | lst {a : Addr} {vs : List V} {xs : List D} : H a = some (.lst vs) → RDs K H O vs xs → RC K H O a (.lst xs) [a]
  | dct {a : Addr} {kvs : List (Key × V)} {ks : List Key} {vs : List V} {ds : List D} : H a = some (.dK kvs) → kvs = ks.zip vs → ks.length = vs.length → RDs K H O vs ds → RC K H O a (.dct (ks.zip ds)) [a]
  | ins {a C dx : Addr} {fs : List (Str × V)} {gs : List (Str × Sum D OC)} {fp : List Addr} : H a = some (.ins C dx fs) → RFs K H O fs gs fp → RC K H O a (.ins C gs) (a :: fp)
inductive RFs (K : Fg) (H : Hp) (O : OS) : List (Str × V) → List (Str × Sum D OC) → List Addr → Prop
  | nil : RFs K H O [] [] []
  | dat {x : Str} {v : V} {d : D} {fs : List (Str × V)} {gs : List (Str × Sum D OC)} {fp : List Addr} : RD K H O v d → RFs K H O fs gs fp → RFs K H O ((x, v) :: fs) ((x, .inl d) :: gs) fp
  | sub {x : Str} {a : Addr} {c : OC} {fs : List (Str × V)} {gs : List (Str × Sum D OC)} {fp fq : List Addr} : RC K H O a c fq → RFs K H O fs gs fp → RFs K H O ((x, .ref a) :: fs) ((x, .inr c) :: gs) (fq ++ fp)
end

section
variable {K : Fg} {H H' : Hp} {O O' : OS}
mutual
theorem RC.sta (s : Sta H O H' O') {a : Addr} {c : OC} {fp : List Addr} (h : RC K H O a c fp) (k : ∀ b ∈ fp, H' b = H b) : RC K H' O' a c fp := by
  cases h with
  | lst h1 h2 => exact .lst (by rw [k a (by simp)]; exact h1) (RDs.sta s _ _ h2)
  | dct h1 h2 h3 h4 => exact .dct (by rw [k a (by simp)]; exact h1) h2 h3 (RDs.sta s _ _ h4)
  | ins h1 h2 => exact .ins (by rw [k a (by simp)]; exact h1) (RFs.sta s h2 fun b hb => k b (by simp [hb]))
theorem RFs.sta (s : Sta H O H' O') {fs : List (Str × V)} {gs : List (Str × Sum D OC)} {fp : List Addr} (h : RFs K H O fs gs fp) (k : ∀ b ∈ fp, H' b = H b) : RFs K H' O' fs gs fp := by
  cases h with
  | nil => exact .nil
  | dat h1 h2 => exact .dat (RD.sta s _ _ h1) (RFs.sta s h2 k)
  | sub h1 h2 => exact .sub (RC.sta s h1 fun b hb => k b (by simp [hb])) (RFs.sta s h2 fun b hb => k b (by simp [hb]))
end
end
end ML
/-! ML2: slots as plain values, the state of an activation, how it moves on. -/
namespace ML
open PySem L2

/-- what a slot holds: nothing known; data; a bare value; an owned object (none: made in this activation; some j: handed in as the j-th argument) -/
inductive SV where
  | un
  | dat (d : D)
  | raw (v : V)
  | frz (xs : List D)
  | own (tag : Option Nat) (c : OC)
abbrev Env := List SV

/-- an activation: the heap at its start, what is owned then, what of that it may change, the arguments' addresses -/
structure Act where
  H0 : Hp
  O0 : OS
  M0 : OS
  pars : List Addr

def Tagged (A : Act) : Option Nat → Addr → List Addr → Prop
  | none, a, _ => ¬ A.O0 a
  | some j, a, _ => A.pars[j]? = some a

inductive RS (K : Fg) (A : Act) (H : Hp) (O : OS) : V → SV → List Addr → Prop
  | dat {v : V} {d : D} : RD K H O v d → RS K A H O v (.dat d) []
  | raw (v : V) : RS K A H O v (.raw v) []
  | frz {a : Addr} {vs : List V} {xs : List D} : XL K H O a vs → RDs K H O vs xs → RS K A H O (.ref a) (.frz xs) []
  | own {a : Addr} {c : OC} {fq : List Addr} {tag : Option Nat} : RC K H O a c fq → Tagged A tag a fq → RS K A H O (.ref a) (.own tag c) fq

inductive RE (K : Fg) (A : Act) (H : Hp) (O : OS) : L2.St → Env → List Addr → Prop
  | nil : RE K A H O [] [] []
  | un {x : Option V} {σ : L2.St} {env : Env} {fp : List Addr} : RE K A H O σ env fp → RE K A H O (x :: σ) (.un :: env) fp
  | cons {v : V} {s : SV} {σ : L2.St} {env : Env} {fq fp : List Addr} : RS K A H O v s fq → RE K A H O σ env fp → RE K A H O (some v :: σ) (s :: env) (fq ++ fp)

def Oc (H : Hp) (O : OS) : Prop := ∀ b, O b → H b ≠ none
def Grow (H H' : Hp) : Prop := ∀ a o, H a = some o → H' a = some o
def Tr (T : List Addr) (H : Hp) (O : OS) (H' : Hp) (O' : OS) : Prop := Sta H O H' O' ∧ ∀ a ∈ T, H' a = H a ∧ O' a

/-- the state: the slots (their own objects at fp, apart from one another and from the temporaries' T), what is owned, the activation's frame -/
structure Sit (K : Fg) (A : Act) (σ : L2.St) (H : Hp) (O : OS) (env : Env) (T : List Addr) : Prop where
  slots : ∃ fp, RE K A H O σ env fp ∧ (fp ++ T).Nodup ∧ ∀ b ∈ fp ++ T, O b ∧ (A.M0 b ∨ A.H0 b = none)
  oc : Oc H O
  base : ∀ a o, A.H0 a = some o → ¬ A.M0 a → H a = some o
  o0 : ∀ a, A.O0 a → O a
  on : ∀ a, O a → A.O0 a ∨ A.H0 a = none
  m0 : ∀ a, A.M0 a → A.O0 a

section
variable {K : Fg} {A : Act} {H H' H1 : Hp} {O O' O1 : OS} {σ : L2.St} {env : Env} {T T' fp fq : List Addr}
theorem Sta.refl : Sta H O H O := fun _ _ h n => ⟨h, n⟩
theorem Sta.trans (a : Sta H O H1 O1) (b : Sta H1 O1 H' O') : Sta H O H' O' := fun x o h n => b x o (a x o h n).1 (a x o h n).2
theorem Tr.refl (t : ∀ a ∈ T, O a) : Tr T H O H O := ⟨.refl, fun a h => ⟨rfl, t a h⟩⟩
theorem Tr.trans (a : Tr T H O H1 O1) (b : Tr T H1 O1 H' O') : Tr T H O H' O' :=
  ⟨a.1.trans b.1, fun x h => ⟨(b.2 x h).1.trans (a.2 x h).1, (b.2 x h).2⟩⟩
theorem Tr.less (a : Tr T H O H' O') (s : ∀ b ∈ T', b ∈ T) : Tr T' H O H' O' := ⟨a.1, fun x h => a.2 x (s x h)⟩
theorem Grow.refl : Grow H H := fun _ _ h => h
theorem Grow.trans (a : Grow H H1) (b : Grow H1 H') : Grow H H' := fun x o h => b x o (a x o h)
theorem Grow.new {p : Addr} {o : HO} (h : H p = none) : Grow H (upd H p o) := fun a u e => by
  rw [upd_ne (ne_of_none e h)]
  exact e
theorem Grow.sta (g : Grow H H') : Sta H O H' O := fun a o h n => ⟨g a o h, n⟩
theorem Grow.eq (g : Grow H H') (c : Oc H O) {b : Addr} (h : O b) : H' b = H b := by
  cases e : H b with
  | none => exact absurd e (c b h)
  | some o => exact g b o e
theorem Oc.grow (c : Oc H O) (g : Grow H H') : Oc H' O := fun b h => by
  rw [g.eq c h]
  exact c b h
theorem Oc.not (c : Oc H O) {p : Addr} (h : H p = none) : ¬ O p := fun q => c p q h
theorem Grow.tr (g : Grow H H') (c : Oc H O) (t : ∀ a ∈ T, O a) : Tr T H O H' O := ⟨g.sta, fun a h => ⟨g.eq c (t a h), t a h⟩⟩
theorem RD.grow (g : Grow H H') {v : V} {d : D} (h : RD K H O v d) : RD K H' O v d := RD.sta g.sta d v h
theorem RDs.grow (g : Grow H H') {vs : List V} {ds : List D} (h : RDs K H O vs ds) : RDs K H' O vs ds := RDs.sta g.sta ds vs h

theorem RS.sta (s : Sta H O H' O') {v : V} {sv : SV} (h : RS K A H O v sv fq) (k : ∀ b ∈ fq, H' b = H b) : RS K A H' O' v sv fq := by
  cases h with
  | dat h => exact .dat (RD.sta s _ _ h)
  | raw => exact .raw _
  | frz h z => exact .frz (h.sta s) (RDs.sta s _ _ z)
  | own h t => exact .own (h.sta s k) t
theorem RE.sta (s : Sta H O H' O') (h : RE K A H O σ env fp) (k : ∀ b ∈ fp, H' b = H b) : RE K A H' O' σ env fp := by
  induction h with
  | nil => exact .nil
  | un _ ih => exact .un (ih k)
  | cons h1 _ ih => exact .cons (h1.sta s fun b hb => k b (by simp [hb])) (ih fun b hb => k b (by simp [hb]))
theorem RE.len (h : RE K A H O σ env fp) : σ.length = env.length := by
  induction h with
  | nil => rfl
  | un _ ih => simp [ih]
  | cons _ _ ih => simp [ih]
/-- a slot, and what stands in its place -/
theorem RE.at (h : RE K A H O σ env fp) {i : Nat} {s : SV} (e : env[i]? = some s) (n : s ≠ .un) :
    ∃ v fq l r, σ[i]? = some (some v) ∧ RS K A H O v s fq ∧ fp = l ++ fq ++ r ∧
      (∀ x, RE K A H O (σ.set i x) (env.set i .un) (l ++ r)) ∧ RE K A H O σ (env.set i .un) (l ++ r) ∧
      ∀ v' s' fq', RS K A H O v' s' fq' → RE K A H O (σ.set i (some v')) (env.set i s') (l ++ fq' ++ r) := by
  induction h generalizing i with
  | nil => simp at e
  | un h1 ih =>
    cases i with
    | zero => simp at e; exact absurd e.symm n
    | succ i =>
      simp at e
      obtain ⟨v, fq, l, r, a, b, c, d, d', f⟩ := ih e
      exact ⟨v, fq, l, r, by simpa using a, b, c, fun x => by simpa using RE.un (d x), by simpa using RE.un d', fun v' s' fq' q => by simpa using RE.un (f v' s' fq' q)⟩
  | @cons v0 s0 σ0 env0 fq0 fp0 h0 h1 ih =>
    cases i with
    | zero =>
      simp at e
      subst e
      refine ⟨v0, fq0, [], fp0, by simp, h0, by simp, fun x => by simpa using RE.un h1, by simpa using RE.un h1, fun v' s' fq' q => ?_⟩
      simpa using RE.cons q h1
    | succ i =>
      simp at e
      obtain ⟨v, fq, l, r, a, b, c, d, d', f⟩ := ih e
      refine ⟨v, fq, fq0 ++ l, r, by simpa using a, b, by simp [c], fun x => ?_, ?_, fun v' s' fq' q => ?_⟩
      · simpa using RE.cons h0 (d x)
      · simpa using RE.cons h0 d'
      · simpa using RE.cons h0 (f v' s' fq' q)
/-- a slot is stored -/
theorem RE.put (h : RE K A H O σ env fp) {i : Nat} (hi : i < env.length) {v : V} {s : SV} (r : RS K A H O v s fq) :
    ∃ l l', fp = l ++ l' ++ (fp.drop (l.length + l'.length)) ∧ RE K A H O (σ.set i (some v)) (env.set i s) (l ++ fq ++ fp.drop (l.length + l'.length)) := by
  induction h generalizing i with
  | nil => simp at hi
  | un h1 ih =>
    cases i with
    | zero => exact ⟨[], [], by simp, by simpa using RE.cons r h1⟩
    | succ i =>
      obtain ⟨l, l', a, b⟩ := ih (by simpa using hi)
      exact ⟨l, l', a, by simpa using RE.un b⟩
  | @cons v0 s0 σ0 env0 fq0 fp0 h0 h1 ih =>
    cases i with
    | zero => exact ⟨[], fq0, by simp, by simpa using RE.cons r h1⟩
    | succ i =>
      obtain ⟨l, l', a, b⟩ := ih (by simpa using hi)
      refine ⟨fq0 ++ l, l', ?_, ?_⟩
      · have e : (fq0 ++ fp0).drop ((fq0 ++ l).length + l'.length) = fp0.drop (l.length + l'.length) := by
          rw [List.length_append, Nat.add_assoc, List.drop_append]
          simp
        rw [e]
        rw [List.append_assoc fq0, List.append_assoc fq0]
        rw [← a]
      · have e : (fq0 ++ fp0).drop ((fq0 ++ l).length + l'.length) = fp0.drop (l.length + l'.length) := by
          rw [List.length_append, Nat.add_assoc, List.drop_append]
          simp
        rw [e]
        simpa using RE.cons h0 b

theorem Sit.grow (S : Sit K A σ H O env T) (g : Grow H H') : Sit K A σ H' O env T := by
  obtain ⟨fp, r, nd, ow⟩ := S.slots
  refine ⟨⟨fp, r.sta g.sta fun b hb => g.eq S.oc (ow b (by simp [hb])).1, nd, ow⟩, S.oc.grow g, fun a o h n => g a o (S.base a o h n), S.o0, S.on, S.m0⟩
theorem Sit.tr0 (S : Sit K A σ H O env T) : ∀ a ∈ T, O a := by
  obtain ⟨fp, r, nd, ow⟩ := S.slots
  exact fun a h => (ow a (by simp [h])).1
theorem Sit.gtr (S : Sit K A σ H O env T) (g : Grow H H') : Tr T H O H' O := g.tr S.oc S.tr0
theorem Sit.rtr (S : Sit K A σ H O env T) : Tr T H O H O := .refl S.tr0
theorem Sit.len (S : Sit K A σ H O env T) : σ.length = env.length := by
  obtain ⟨fp, r, nd, ow⟩ := S.slots
  exact r.len
theorem Sit.dat (S : Sit K A σ H O env T) {i : Nat} {d : D} (e : env[i]? = some (.dat d)) : ∃ v, σ[i]? = some (some v) ∧ RD K H O v d := by
  obtain ⟨fp, r, nd, ow⟩ := S.slots
  obtain ⟨v, fq, l, r', a, b, _⟩ := r.at e (by simp)
  cases b with
  | dat b => exact ⟨v, a, b⟩
theorem Sit.rawv (S : Sit K A σ H O env T) {i : Nat} {w : V} (e : env[i]? = some (.raw w)) : σ[i]? = some (some w) := by
  obtain ⟨fp, r, nd, ow⟩ := S.slots
  obtain ⟨v, fq, l, r', a, b, _⟩ := r.at e (by simp)
  cases b with
  | raw => exact a
theorem Sit.ownv (S : Sit K A σ H O env T) {i : Nat} {tag : Option Nat} {c : OC} (e : env[i]? = some (.own tag c)) :
    ∃ a fq, σ[i]? = some (some (.ref a)) ∧ RC K H O a c fq ∧ ∀ b ∈ fq, O b := by
  obtain ⟨fp, r, nd, ow⟩ := S.slots
  obtain ⟨v, fq, l, r', a, b, e', _⟩ := r.at e (by simp)
  cases b with
  | own b t => exact ⟨_, fq, a, b, fun x hx => (ow x (by simp [e', hx])).1⟩
/-- temporaries forgotten -/
theorem Sit.less (S : Sit K A σ H O env (fq ++ T)) : Sit K A σ H O env T := by
  obtain ⟨fp, r, nd, ow⟩ := S.slots
  refine ⟨⟨fp, r, ?_, fun b hb => ow b ?_⟩, S.oc, S.base, S.o0, S.on, S.m0⟩
  · rw [← List.append_assoc] at nd
    have : (fp ++ T).Sublist (fp ++ fq ++ T) := by
      exact List.Sublist.append (List.sublist_append_left fp fq) (List.Sublist.refl T)
    exact nd.sublist this
  · rcases List.mem_append.mp hb with h | h <;> simp [h]
/-- a temporary is stored in a slot -/
theorem Sit.put (S : Sit K A σ H O env (fq ++ T)) {i : Nat} (hi : i < env.length) {v : V} {s : SV} (r : RS K A H O v s fq) : Sit K A (σ.set i (some v)) H O (env.set i s) T := by
  obtain ⟨fp, q, nd, ow⟩ := S.slots
  obtain ⟨l, l', e, q'⟩ := q.put hi r
  generalize fp.drop (l.length + l'.length) = r' at e q'
  subst e
  refine ⟨⟨_, q', ?_, fun b hb => ow b ?_⟩, S.oc, S.base, S.o0, S.on, S.m0⟩
  · have h1 : (l ++ r' ++ (fq ++ T)).Nodup := nd.sublist (by
      refine List.Sublist.append ?_ (List.Sublist.refl _)
      rw [List.append_assoc]
      exact List.Sublist.append (List.Sublist.refl l) (List.sublist_append_right l' r'))
    refine (List.Perm.nodup_iff ?_).mp h1
    rw [List.append_assoc, List.append_assoc l fq r', List.append_assoc l]
    refine List.Perm.append_left l ?_
    rw [← List.append_assoc]
    exact List.Perm.append_right T List.perm_append_comm
  · simp only [List.mem_append] at hb ⊢
    rcases hb with ((h | h) | h) | h <;> simp [h]
/-- a slot's own object is taken out -/
theorem Sit.out (S : Sit K A σ H O env T) {i : Nat} {tag : Option Nat} {c : OC} (e : env[i]? = some (.own tag c)) :
    ∃ a fq, σ[i]? = some (some (.ref a)) ∧ RS K A H O (.ref a) (.own tag c) fq ∧ Sit K A σ H O (env.set i .un) (fq ++ T) := by
  obtain ⟨fp, r, nd, ow⟩ := S.slots
  obtain ⟨v, fq, l, r', a, b, e', _, d, _⟩ := r.at e (by simp)
  cases b with
  | own b t =>
    refine ⟨_, fq, a, .own b t, ⟨_, d, ?_, fun b hb => ow b ?_⟩, S.oc, S.base, S.o0, S.on, S.m0⟩
    · subst e'
      refine (List.Perm.nodup_iff ?_).mp nd
      rw [List.append_assoc, List.append_assoc, List.append_assoc]
      refine List.Perm.append_left l ?_
      rw [← List.append_assoc, ← List.append_assoc]
      exact List.Perm.append_right T List.perm_append_comm
    · subst e'
      simp only [List.mem_append] at hb ⊢
      rcases hb with (h | h) | h | h <;> simp [h]
/-- a temporary of this activation is owned no more: data -/
theorem Sit.freeze (S : Sit K A σ H O env (fq ++ T)) {v : V} {xs : List D} (r : RS K A H O v (.own none (.lst xs)) fq) :
    ∃ O', Sit K A σ H O' env T ∧ RD K H O' v (.list xs) ∧ Tr T H O H O' := by
  obtain ⟨fp, q, nd, ow⟩ := S.slots
  cases r with
  | @own a c fq0 tag rc t =>
    cases rc with
    | @lst a vs _ h1 h2 =>
      have sta : Sta H O H (fun b => O b ∧ b ≠ a) := fun b o h n => ⟨h, fun z => n z.1⟩
      have na : ∀ b ∈ fp ++ T, b ≠ a := fun b hb z => by
        subst z
        have := List.nodup_append.mp nd
        rcases List.mem_append.mp hb with h | h
        · exact this.2.2 b h b (by simp) rfl
        · have h2 := this.2.1
          simp at h2
          exact h2.1 h
      refine ⟨fun b => O b ∧ b ≠ a, ⟨⟨fp, q.sta sta fun _ _ => rfl, ?_, fun b hb => ?_⟩, fun b hb => S.oc b hb.1, S.base, fun b hb => ⟨S.o0 b hb, fun z => ?_⟩, fun b hb => S.on b hb.1, S.m0⟩, ?_, sta, fun b hb => ⟨rfl, ?_, na b (by simp [hb])⟩⟩
      · refine nd.sublist (List.Sublist.append (List.Sublist.refl _) ?_)
        exact List.sublist_append_right _ _
      · have z := ow b (by rcases List.mem_append.mp hb with h | h <;> simp [h])
        exact ⟨⟨z.1, na b hb⟩, z.2⟩
      · subst z
        exact t hb
      · exact .lst (fun z => z.2 rfl) h1 (RDs.sta sta _ _ h2)
      · exact (ow b (by simp [hb])).1
/-- a new list, owned -/
theorem Sit.adopt' (S : Sit K A σ H O env T) {p : Addr} {vs : List V} {xs : List D} (hp : H p = none) (r : RDs K H O vs xs) :
    Sit K A σ (upd H p (.lst vs)) (fun b => O b ∨ b = p) env ([p] ++ T) ∧ RS K A (upd H p (.lst vs)) (fun b => O b ∨ b = p) (.ref p) (.own none (.lst xs)) [p] ∧ Tr T H O (upd H p (.lst vs)) (fun b => O b ∨ b = p) := by
  obtain ⟨fp, q, nd, ow⟩ := S.slots
  have np : ∀ b ∈ fp ++ T, b ≠ p := fun b hb z => S.oc b (ow b hb).1 (z ▸ hp)
  have sta : Sta H O (upd H p (.lst vs)) (fun b => O b ∨ b = p) := fun b o h n => ⟨Grow.new hp b o h, fun z => by
    rcases z with z | z
    · exact n z
    · rw [z, hp] at h; cases h⟩
  have hu : ∀ b, b ≠ p → (upd H p (.lst vs)) b = H b := fun b z => upd_ne z
  have np0 : ¬ A.O0 p := fun z => S.oc p (S.o0 p z) hp
  have h0 : A.H0 p = none := by
    cases e : A.H0 p with
    | none => rfl
    | some o =>
      have nm : ¬ A.M0 p := fun z => np0 (S.m0 p z)
      rw [S.base p o e nm] at hp
      cases hp
  refine ⟨⟨⟨fp, q.sta sta fun b hb => hu b (np b (by simp [hb])), ?_, fun b hb => ?_⟩, fun b hb => ?_, fun a o h n => ?_, fun b hb => .inl (S.o0 b hb), fun b hb => ?_, S.m0⟩, .own (.lst upd_same (RDs.sta sta _ _ r)) np0, sta, fun b hb => ⟨hu b (np b (by simp [hb])), .inl (ow b (by simp [hb])).1⟩⟩
  · refine (List.perm_middle (l₁ := fp) (l₂ := T) (a := p)).nodup_iff.mpr ?_
    exact List.nodup_cons.mpr ⟨fun z => np p z rfl, nd⟩
  · by_cases z : b = p
    · exact ⟨.inr z, .inr (z ▸ h0)⟩
    · have hb' : b ∈ fp ++ T := by
        simp only [List.mem_append, List.mem_singleton] at hb ⊢
        rcases hb with h | h | h
        · exact .inl h
        · exact absurd h z
        · exact .inr h
      exact ⟨.inl (ow b hb').1, (ow b hb').2⟩
  · rcases hb with h | h
    · rw [hu b (fun z => S.oc b h (z ▸ hp))]
      exact S.oc b h
    · rw [h, upd_same]
      simp
  · rw [hu a (fun z => by rw [z, h0] at h; cases h)]
    exact S.base a o h n
  · rcases hb with h | h
    · exact S.on b h
    · exact .inr (h ▸ h0)
theorem Sit.adopt (S : Sit K A σ H O env T) {p : Addr} {vs : List V} {xs : List D} (hp : H p = none) (r : RDs K H O vs xs) :
    ∃ O', Sit K A σ (upd H p (.lst vs)) O' env ([p] ++ T) ∧ RS K A (upd H p (.lst vs)) O' (.ref p) (.own none (.lst xs)) [p] ∧ Tr T H O (upd H p (.lst vs)) O' := ⟨_, S.adopt' hp r⟩
/-- a temporary's object is written -/
theorem Sit.updT (S : Sit K A σ H O env T) {a : Addr} {o : HO} (ha : a ∈ T) : Sit K A σ (upd H a o) O env T := by
  obtain ⟨fp, q, nd, ow⟩ := S.slots
  have hO := ow a (by simp [ha])
  have sta : Sta H O (upd H a o) O := fun b u h n => by
    have nb : b ≠ a := fun z => n (by rw [z]; exact hO.1)
    rw [upd_ne nb]
    exact ⟨h, n⟩
  refine ⟨⟨fp, q.sta sta fun b hb => upd_ne fun z => ?_, nd, ow⟩, fun b hb => ?_, fun b u h n => ?_, S.o0, S.on, S.m0⟩
  · exact (List.nodup_append.mp nd).2.2 b hb a ha z
  · by_cases z : b = a
    · rw [z, upd_same]
      simp
    · rw [upd_ne z]
      exact S.oc b hb
  · have nb : b ≠ a := fun z => by
      rcases hO.2 with m | m
      · exact n (by rw [z]; exact m)
      · rw [z, m] at h
        cases h
    rw [upd_ne nb]
    exact S.base b u h n
theorem upd_tr {a : Addr} {o : HO} (hO : O a) (t : ∀ b ∈ T, O b ∧ b ≠ a) : Tr T H O (upd H a o) O :=
  ⟨fun b u h n => by
    have nb : b ≠ a := fun z => n (by rw [z]; exact hO)
    rw [upd_ne nb]
    exact ⟨h, n⟩, fun b hb => ⟨upd_ne (t b hb).2, (t b hb).1⟩⟩
theorem set_self {α : Type} {l : List α} {i : Nat} {x : α} (h : l[i]? = some x) : l.set i x = l := by
  apply List.ext_getElem?
  intro j
  by_cases e : i = j
  · subst e
    obtain ⟨hl, _⟩ := List.getElem?_eq_some_iff.mp h
    rw [List.getElem?_set_self hl, h]
  · rw [List.getElem?_set_ne e]
theorem set_set' {α : Type} (l : List α) (i : Nat) (x y : α) : (l.set i x).set i y = l.set i y := by simp
/-- a slot's own list is changed -/
theorem Sit.mutL (S : Sit K A σ H O env T) {i : Nat} {tag : Option Nat} {xs ys : List D} (e : env[i]? = some (.own tag (.lst xs))) :
    ∃ a vs, σ[i]? = some (some (.ref a)) ∧ H a = some (.lst vs) ∧ RDs K H O vs xs ∧ O a ∧
      ∀ ws, RDs K H O ws ys → Sit K A σ (upd H a (.lst ws)) O (env.set i (.own tag (.lst ys))) T ∧ Tr T H O (upd H a (.lst ws)) O := by
  obtain ⟨a, fq, h1, h2, h3⟩ := S.out e
  cases h2 with
  | own rc t =>
    cases rc with
    | @lst _ vs _ hH hr =>
      have hO : O a := h3.tr0 a (by simp)
      obtain ⟨fp, _, nd, ow⟩ := id h3.slots
      have tr : ∀ ws : List V, Tr T H O (upd H a (.lst ws)) O := fun ws => upd_tr hO fun b hb => ⟨(ow b (by simp [hb])).1, fun z => by
        have := (List.nodup_append.mp nd).2.1
        rw [z] at hb
        exact (List.nodup_cons.mp this).1 hb⟩
      refine ⟨a, vs, h1, hH, hr, hO, fun ws hw => ⟨?_, tr ws⟩⟩
      have s1 := h3.updT (o := .lst ws) (show a ∈ [a] ++ T by simp)
      have hi : i < (env.set i SV.un).length := by
        have := (List.getElem?_eq_some_iff.mp e).1
        simpa using this
      have s2 := s1.put hi (v := .ref a) (s := .own tag (.lst ys)) (.own (.lst upd_same (RDs.sta (tr ws).1 _ _ hw)) t)
      rw [set_set', set_self h1] at s2
      exact s2
end
end ML
/-! ML3: what a piece of a def comes to, as a plain function of the slots. -/
namespace ML
open PySem L2

abbrev Wish := Value → Option Addr → L2.St → Hp → Prop
/-- where a piece of text stands: its module's facts, its names by slot, its scope, the room for calls, the activation, what is wanted of an exception -/
structure Cxt where
  P : Program
  w : World
  K : Fg
  mg : Str → Option Value
  base : Heap
  N : List Str
  sc : Scope
  k : Nat
  A : Act
  W : Wish
  blk : Bool
structure Cxt.Ok (S : Cxt) (X : Cx) : Prop where
  p : X.prog = S.P
  w : X.w = S.w
  K : X.K = S.K
  mg : X.mg = S.mg
  base : X.base = S.base
  N : X.N = S.N
  sc : X.env.scope = S.sc
  calm : X.calm = true
  room : Room S.k X.A
  gd : X.A.guards = some []
  pass : PassesOwn (model X.prog X.w) X.A X.env X.xe
  tk : Takes X S.W
  fn : S.blk = false → ∀ x, X.fn x = true
  kind : X.env.scope.kind = .function

/-- an exception that is raised: the name of its class, its attributes -/
structure Exn where
  c : Str
  fs : List (Str × D)
def ExR (K : Fg) (mg : Str → Option Value) (H : Hp) (O : OS) (x : Exn) (cls : Value) (d : Option Addr) : Prop :=
  ∃ C, cls = .ref C ∧ mg x.c = some (.ref C) ∧ (x.fs ≠ [] → ∃ dd vs, d = some dd ∧ ¬ O dd ∧ H dd = some (.xd ((x.fs.map (·.1)).zip vs)) ∧ RDs K H O vs (x.fs.map (·.2)))
/-- what a piece comes to -/
inductive Res (α : Type) where
  | ok (env : Env) (a : α)
  | err (env : Env) (x : Exn)
  | bad
/-- .. a statement -/
inductive Fl where
  | nx (env : Env)
  | rt (env : Env) (s : SV)
  | bk (env : Env)
  | ct (env : Env)
  | err (env : Env) (x : Exn)
  | bad

/-- a value that may be read at once: data, an owned list, the script -/
def RB (K : Fg) (H : Hp) (O : OS) (v : V) (d : D) : Prop :=
  RD K H O v d ∨ ∃ a vs ds, v = .ref a ∧ d = .list ds ∧ H a = some (.lst vs) ∧ RDs K H O vs ds

section
variable (S : Cxt)
def SemP (t : TE) (p : Env → Option D) : Prop := ∀ (σ : L2.St) (H : Hp) (O : OS) (env : Env) (T : List Addr) (d : D) (Q : VK), Sit S.K S.A σ H O env T → p env = some d →
  (∀ v H', Grow H H' → RD S.K H' O v d → Q v H') → t σ H Q
def SemB (t : TE) (p : Env → Option D) : Prop := ∀ (σ : L2.St) (H : Hp) (O : OS) (env : Env) (T : List Addr) (d : D) (Q : VK), Sit S.K S.A σ H O env T → p env = some d →
  (∀ v H', Grow H H' → RB S.K H' O v d → Q v H') → t σ H Q
def SemO (t : TE) (p : Env → Option (List D)) : Prop := ∀ (σ : L2.St) (H : Hp) (O : OS) (env : Env) (T : List Addr) (ds : List D) (Q : VK), Sit S.K S.A σ H O env T → p env = some ds →
  (∀ q vs H', Grow H H' → H' q = none → RDs S.K H' O vs ds → Q (.ref q) (upd H' q (.lst vs))) → t σ H Q
def SemTP (t : TT) (p : Env → Option Bool) : Prop := ∀ (σ : L2.St) (H : Hp) (O : OS) (env : Env) (T : List Addr) (b : Bool) (Q : Bool → Hp → Prop), Sit S.K S.A σ H O env T → p env = some b →
  (∀ H', Grow H H' → Q b H') → t σ H Q
def SemAP (t : TA) (p : Env → Option (List D)) : Prop := ∀ (σ : L2.St) (H : Hp) (O : OS) (env : Env) (T : List Addr) (ds : List D) (Q : List V → Hp → Prop), Sit S.K S.A σ H O env T → p env = some ds →
  (∀ vs H', Grow H H' → RDs S.K H' O vs ds → Q vs H') → t σ H Q

/-- a pure expression; one that may be an owned list; one that makes a new list; a pure test; pure arguments -/
def JP (e : Expr) (p : Env → Option D) : Prop := ∃ t, (∀ X, S.Ok X → PE X e t) ∧ SemP S t p
def JB (e : Expr) (p : Env → Option D) : Prop := ∃ t, (∀ X, S.Ok X → PE X e t) ∧ SemB S t p
def JO (e : Expr) (p : Env → Option (List D)) : Prop := ∃ t, (∀ X, S.Ok X → PE X e t) ∧ SemO S t p
def JTP (e : Expr) (p : Env → Option Bool) : Prop := ∃ t, (∀ X, S.Ok X → PT X e t) ∧ SemTP S t p
def JAP (es : List Expr) (p : Env → Option (List D)) : Prop := ∃ t, (∀ X, S.Ok X → PA X es t) ∧ SemAP S t p
end

section
variable {S : Cxt} {e e1 e2 : Expr} {es : List Expr} {p q : Env → Option D} {pos : Pos}
theorem JP.toB (h : JP S e p) : JB S e p := by
  obtain ⟨t, h1, h2⟩ := h
  exact ⟨t, h1, fun σ H O env T d Q s e k => h2 σ H O env T d Q s e fun v H' g r => k v H' g (.inl r)⟩
theorem JO.toP {po : Env → Option (List D)} (h : JO S e po) : JP S e (fun env => (po env).map .list) := by
  obtain ⟨t, h1, h2⟩ := h
  refine ⟨t, h1, fun σ H O env T d Q s e k => ?_⟩
  obtain ⟨ds, e1, e2⟩ := Option.map_eq_some_iff.mp e
  subst e2
  refine h2 σ H O env T ds Q s e1 fun q vs H' g n r => k _ _ (g.trans (Grow.new n)) ?_
  exact .lst ((s.oc.grow g).not n) upd_same (r.grow (Grow.new n))

/-! ### names and constants -/
def xDat (i : Nat) (env : Env) : Option D := match env[i]? with | some (.dat d) => some d | _ => none
def xBor (i : Nat) (env : Env) : Option D := match env[i]? with
  | some (.dat d) => some d
  | some (.own _ (.lst xs)) => some (.list xs)
  | _ => none
def xC (d : D) (_ : Env) : Option D := some d
def Vis0 (sc : Scope) (x : Str) : Prop := Vis sc x
theorem jp_var (i : Nat) {x : Str} (hN : S.N[i]? = some x) (hv : Vis S.sc x) (hd : (x == ("__debug__" : Str)) = false) (hc : (x == ("__classdict__" : Str)) = false) : JP S (.Name x pos) (xDat i) := by
  refine ⟨tVar i, fun X o => pe_var (by rw [o.N]; exact hN) (by rw [o.sc]; exact hv) hd hc, fun σ H O env T d Q s e k => ?_⟩
  unfold xDat at e
  split at e
  · rename_i d' h
    cases e
    obtain ⟨v, h1, h2⟩ := s.dat h
    exact ⟨v, h1, k v H .refl h2⟩
  · cases e
theorem jb_var (i : Nat) {x : Str} (hN : S.N[i]? = some x) (hv : Vis S.sc x) (hd : (x == ("__debug__" : Str)) = false) (hc : (x == ("__classdict__" : Str)) = false) : JB S (.Name x pos) (xBor i) := by
  refine ⟨tVar i, fun X o => pe_var (by rw [o.N]; exact hN) (by rw [o.sc]; exact hv) hd hc, fun σ H O env T d Q s e k => ?_⟩
  unfold xBor at e
  split at e
  · rename_i d' h
    cases e
    obtain ⟨v, h1, h2⟩ := s.dat h
    exact ⟨v, h1, k v H .refl (.inl h2)⟩
  · rename_i h
    cases e
    obtain ⟨a, fq, h1, h2, _⟩ := s.ownv h
    cases h2 with
    | lst h3 h4 => exact ⟨_, h1, k _ H .refl (.inr ⟨_, _, _, rfl, rfl, h3, h4⟩)⟩
  · cases e
theorem jp_int {i : Int} {j} : JP S (.Constant (.int i) j pos) (xC (.int i)) := ⟨_, fun X o => pe_int, fun σ H O env T d Q s e k => by cases e; exact k _ H .refl (.int i)⟩
theorem jp_str {x : Str} {j} : JP S (.Constant (.str x) j pos) (xC (.str x)) := ⟨_, fun X o => pe_str, fun σ H O env T d Q s e k => by cases e; exact k _ H .refl (.str x)⟩
theorem jp_bl {b : Bool} {j} : JP S (.Constant (.bool b) j pos) (xC (.bool b)) := ⟨_, fun X o => pe_bl, fun σ H O env T d Q s e k => by cases e; exact k _ H .refl (.bl b)⟩
theorem jp_non {j} : JP S (.Constant .none j pos) (xC .none) := ⟨_, fun X o => pe_non, fun σ H O env T d Q s e k => by cases e; exact k _ H .refl .non⟩
/-- a module's constant: a text, a number -/
theorem jp_gstr {x y : Str} {t : Tok} (hg : S.sc.names.lookup x = some .globalImplicit) (hm : S.mg x = some (.str y t)) (hd : (x == ("__debug__" : Str)) = false) : JP S (.Name x pos) (xC (.str y)) :=
  ⟨tC (.str y), fun X o => pe_glob (by show X.env.kindOf x = _; unfold Env.kindOf; rw [o.sc]; exact hg) (by rw [o.mg]; exact hm) ⟨_, rfl⟩ hd, fun σ H O env T d Q s e k => by cases e; exact k _ H .refl (.str y)⟩
theorem jp_gint {x : Str} {i : Int} {t : Tok} (hg : S.sc.names.lookup x = some .globalImplicit) (hm : S.mg x = some (.int i t)) (hd : (x == ("__debug__" : Str)) = false) : JP S (.Name x pos) (xC (.int i)) :=
  ⟨tC (.int i), fun X o => pe_glob (by show X.env.kindOf x = _; unfold Env.kindOf; rw [o.sc]; exact hg) (by rw [o.mg]; exact hm) ⟨_, rfl⟩ hd, fun σ H O env T d Q s e k => by cases e; exact k _ H .refl (.int i)⟩

/-! ### arguments -/
def aNil (_ : Env) : Option (List D) := some []
def aCons (p : Env → Option D) (q : Env → Option (List D)) (env : Env) : Option (List D) := (p env).bind fun d => (q env).map fun ds => d :: ds
theorem jap_nil : JAP S [] aNil := ⟨_, fun X o => pa_nil, fun σ H O env T d Q s e k => by cases e; exact k _ H .refl .nil⟩
theorem jap_cons {q : Env → Option (List D)} (ha : JP S e p) (hr : JAP S es q) (hs : ∀ env, starEach (e :: es) env = (false, eval e env) :: starEach es env := by intro _; rfl) : JAP S (e :: es) (aCons p q) := by
  obtain ⟨t, h1, h2⟩ := ha
  obtain ⟨u, h3, h4⟩ := hr
  refine ⟨tCons t u, fun X o => pa_cons (h1 X o) (h3 X o) (hs _), fun σ H O env T ds Q s e k => ?_⟩
  obtain ⟨d, e1, e2⟩ := Option.bind_eq_some_iff.mp e
  obtain ⟨ds', e3, e4⟩ := Option.map_eq_some_iff.mp e2
  subst e4
  refine h2 σ H O env T d _ s e1 fun v H1 g1 r1 => h4 σ H1 O env T ds' _ (s.grow g1) e3 fun vs H2 g2 r2 => k _ _ (g1.trans g2) (.cons (r1.grow g2) r2)
/-- borrowed arguments (they are read at once) -/
inductive F2 {α β : Type} (R : α → β → Prop) : List α → List β → Prop
  | nil : F2 R [] []
  | cons {a : α} {b : β} {l : List α} {m : List β} : R a b → F2 R l m → F2 R (a :: l) (b :: m)
def SemAB (S : Cxt) (t : TA) (p : Env → Option (List D)) : Prop := ∀ (σ : L2.St) (H : Hp) (O : OS) (env : Env) (T : List Addr) (ds : List D) (Q : List V → Hp → Prop), Sit S.K S.A σ H O env T → p env = some ds →
  (∀ vs H', Grow H H' → F2 (RB S.K H' O) vs ds → Q vs H') → t σ H Q
def JAB (S : Cxt) (es : List Expr) (p : Env → Option (List D)) : Prop := ∃ t, (∀ X, S.Ok X → PA X es t) ∧ SemAB S t p
theorem RB.grow {K : Fg} {H H' : Hp} {O : OS} {v : V} {d : D} (g : Grow H H') (h : RB K H O v d) : RB K H' O v d := by
  rcases h with h | ⟨a, vs, ds, e1, e2, h, r⟩
  · exact .inl (h.grow g)
  · exact .inr ⟨a, vs, ds, e1, e2, g _ _ h, r.grow g⟩
theorem jab_nil : JAB S [] aNil := ⟨_, fun X o => pa_nil, fun σ H O env T d Q s e k => by cases e; exact k _ H .refl .nil⟩
theorem jab_cons {q : Env → Option (List D)} (ha : JB S e p) (hr : JAB S es q) (hs : ∀ env, starEach (e :: es) env = (false, eval e env) :: starEach es env := by intro _; rfl) : JAB S (e :: es) (aCons p q) := by
  obtain ⟨t, h1, h2⟩ := ha
  obtain ⟨u, h3, h4⟩ := hr
  refine ⟨tCons t u, fun X o => pa_cons (h1 X o) (h3 X o) (hs _), fun σ H O env T ds Q s e k => ?_⟩
  obtain ⟨d, e1, e2⟩ := Option.bind_eq_some_iff.mp e
  obtain ⟨ds', e3, e4⟩ := Option.map_eq_some_iff.mp e2
  subst e4
  refine h2 σ H O env T d _ s e1 fun v H1 g1 r1 => h4 σ H1 O env T ds' _ (s.grow g1) e3 fun vs H2 g2 r2 => k _ _ (g1.trans g2) (.cons (r1.grow g2) r2)

/-! ### displays -/
def xTup (q : Env → Option (List D)) (env : Env) : Option D := (q env).bind fun ds => if ds.length ≤ sizeLine then some (.tuple ds) else none
def oLst (q : Env → Option (List D)) (env : Env) : Option (List D) := (q env).bind fun ds => if ds.length ≤ sizeLine then some ds else none
theorem jp_tup {q : Env → Option (List D)} {c} (h : JAP S es q) : JP S (.Tuple es c pos) (xTup q) := by
  obtain ⟨t, h1, h2⟩ := h
  refine ⟨tTup t, fun X o => pe_tup (h1 X o), fun σ H O env T d Q s e k => ?_⟩
  obtain ⟨ds, e1, e2⟩ := Option.bind_eq_some_iff.mp e
  split at e2
  · cases e2
    refine h2 σ H O env T ds _ s e1 fun vs H1 g r => ⟨by rw [r.len]; assumption, fun p n => k _ _ (g.trans (Grow.new n)) ?_⟩
    exact .tup (.inl ⟨(s.oc.grow g).not n, .inl upd_same⟩) (r.grow (Grow.new n))
  · cases e2
theorem jo_lst {q : Env → Option (List D)} (h : JAP S es q) : JO S (.List es pos) (oLst q) := by
  obtain ⟨t, h1, h2⟩ := h
  refine ⟨tLst t, fun X o => pe_lst (h1 X o), fun σ H O env T d Q s e k => ?_⟩
  obtain ⟨ds, e1, e2⟩ := Option.bind_eq_some_iff.mp e
  split at e2
  · cases e2
    exact h2 σ H O env T _ _ s e1 fun vs H1 g r => ⟨by rw [r.len]; assumption, fun p n => k p vs H1 g n r⟩
  · cases e2

/-! ### operations on values -/
/-- r does f, at once, on what may be read -/
def OpV (K : Fg) (r : R2) (f : D → D → Option D) : Prop := ∀ (H : Hp) (O : OS) (x y : V) (d e z : D) (Q : VK), Oc H O → RB K H O x d → RB K H O y e → f d e = some z →
  (∀ v H', Grow H H' → RD K H' O v z → Q v H') → r x y H Q
def xOp (f : D → D → Option D) (p q : Env → Option D) (env : Env) : Option D := (p env).bind fun x => (q env).bind fun y => f x y
theorem jp_op {op : Operator} {r : Fg → R2} {f : D → D → Option D} (ho : ∀ X, S.Ok X → OpR X (binaryOp op) (r X.K)) (hf : OpV S.K (r S.K) f) (ha : JB S e1 p) (hb : JB S e2 q) : JP S (.BinOp e1 op e2 pos) (xOp f p q) := by
  obtain ⟨t, h1, h2⟩ := ha
  obtain ⟨u, h3, h4⟩ := hb
  refine ⟨tOp (r S.K) t u, fun X o => by have z := ho X o; rw [o.K] at z; exact pe_op z (h1 X o) (h3 X o), fun σ H O env T d Q s e k => ?_⟩
  obtain ⟨x, e1, e2⟩ := Option.bind_eq_some_iff.mp e
  obtain ⟨y, e3, e4⟩ := Option.bind_eq_some_iff.mp e2
  refine h2 σ H O env T x _ s e1 fun v H1 g1 r1 => h4 σ H1 O env T y _ (s.grow g1) e3 fun w H2 g2 r2 => ?_
  exact hf H2 O v w x y d Q (s.oc.grow (g1.trans g2)) (r1.grow g2) r2 e4 fun z H3 g3 r3 => k z H3 (g1.trans (g2.trans g3)) r3
theorem jp_cmp {op : CmpOp} {r : Fg → R2} {f : D → D → Option D} (ho : ∀ X, S.Ok X → OpR X (compareOp op) (r X.K)) (hf : OpV S.K (r S.K) f) (ha : JB S e1 p) (hb : JB S e2 q) (hm : behindInMarks op e2 = false) : JP S (.Compare e1 [op] [e2] pos) (xOp f p q) := by
  obtain ⟨t, h1, h2⟩ := ha
  obtain ⟨u, h3, h4⟩ := hb
  refine ⟨tOp (r S.K) t u, fun X o => by have z := ho X o; rw [o.K] at z; exact pe_cmpR z (h1 X o) (h3 X o) hm, fun σ H O env T d Q s e k => ?_⟩
  obtain ⟨x, e1, e2⟩ := Option.bind_eq_some_iff.mp e
  obtain ⟨y, e3, e4⟩ := Option.bind_eq_some_iff.mp e2
  refine h2 σ H O env T x _ s e1 fun v H1 g1 r1 => h4 σ H1 O env T y _ (s.grow g1) e3 fun w H2 g2 r2 => ?_
  exact hf H2 O v w x y d Q (s.oc.grow (g1.trans g2)) (r1.grow g2) r2 e4 fun z H3 g3 r3 => k z H3 (g1.trans (g2.trans g3)) r3
/-- an expression that is True or False, as a test -/
def tOf (p : Env → Option D) (env : Env) : Option Bool := (p env).bind fun d => match d with | .bool b => some b | _ => none
theorem jtp_val (h : JP S e p) (he : ∀ env whole, isTrue e env whole = (do let v ← whole; standAt e.pos; holding [v] (truthy v)) := by intro _ _; rfl) : JTP S e (tOf p) := by
  obtain ⟨t, h1, h2⟩ := h
  refine ⟨tB t, fun X o => pt_val (h1 X o) (he _), fun σ H O env T b Q s e k => ?_⟩
  obtain ⟨d, e1, e2⟩ := Option.bind_eq_some_iff.mp e
  cases d with
  | bool c =>
    cases e2
    exact h2 σ H O env T _ _ s e1 fun v H1 g r => by
      cases r
      exact ⟨_, rfl, k H1 g⟩
  | _ => cases e2
theorem jtp_cmp {op : CmpOp} {r : Fg → R2} {f : D → D → Option D} (ho : ∀ X, S.Ok X → OpR X (compareOp op) (r X.K)) (hf : OpV S.K (r S.K) f) (ha : JB S e1 p) (hb : JB S e2 q) (hm : behindInMarks op e2 = false) : JTP S (.Compare e1 [op] [e2] pos) (tOf (xOp f p q)) := by
  obtain ⟨t, h1, h2⟩ := ha
  obtain ⟨u, h3, h4⟩ := hb
  refine ⟨tTest (tOp (r S.K) t u), fun X o => by have z := ho X o; rw [o.K] at z; exact pt_cmpR z (h1 X o) (h3 X o) hm, fun σ H O env T b Q s e k => ?_⟩
  obtain ⟨d, e0, e5⟩ := Option.bind_eq_some_iff.mp e
  obtain ⟨x, e1, e2⟩ := Option.bind_eq_some_iff.mp e0
  obtain ⟨y, e3, e4⟩ := Option.bind_eq_some_iff.mp e2
  refine h2 σ H O env T x _ s e1 fun v H1 g1 r1 => h4 σ H1 O env T y _ (s.grow g1) e3 fun w H2 g2 r2 => ?_
  refine hf H2 O v w x y d _ (s.oc.grow (g1.trans g2)) (r1.grow g2) r2 e4 fun z H3 g3 r3 => ?_
  cases d with
  | bool c =>
    cases e5
    cases r3
    exact ⟨_, rfl, k H3 (g1.trans (g2.trans g3))⟩
  | _ => cases e5

/-! ### and, or, not; a if t else b -/
section
variable {u v : Env → Option Bool} {rest : List Expr}
def SemWP (S : Cxt) (e : Expr) (p : Env → Option Bool) : Prop := ∃ t, (∀ X, S.Ok X → PW X e t) ∧ SemTP S t p
def tAndP (u v : Env → Option Bool) (env : Env) : Option Bool := (u env).bind fun b => if b then v env else some false
def tOrP (u v : Env → Option Bool) (env : Env) : Option Bool := (u env).bind fun b => if b then some true else v env
def tNotP (u : Env → Option Bool) (env : Env) : Option Bool := (u env).map (!·)
theorem jw_and1 (h : JTP S e1 u) : SemWP S (.BoolOp .And [e1] pos) u := by
  obtain ⟨t, h1, h2⟩ := h
  exact ⟨t, fun X o => pw_and1 (h1 X o), h2⟩
theorem jw_or1 (h : JTP S e1 u) : SemWP S (.BoolOp .Or [e1] pos) u := by
  obtain ⟨t, h1, h2⟩ := h
  exact ⟨t, fun X o => pw_or1 (h1 X o), h2⟩
theorem jw_and (h : JTP S e1 u) (k : SemWP S (.BoolOp .And (e2 :: rest) pos) v) : SemWP S (.BoolOp .And (e1 :: e2 :: rest) pos) (tAndP u v) := by
  obtain ⟨t, h1, h2⟩ := h
  obtain ⟨t', h3, h4⟩ := k
  refine ⟨tAnd t t', fun X o => pw_and (h1 X o) (h3 X o), fun σ H O env T b Q s e k => ?_⟩
  obtain ⟨c, e1, e2⟩ := Option.bind_eq_some_iff.mp e
  refine h2 σ H O env T c _ s e1 fun H1 g1 => ?_
  cases c with
  | true => exact h4 σ H1 O env T b Q (s.grow g1) e2 fun H2 g2 => k H2 (g1.trans g2)
  | false =>
    simp at e2
    subst e2
    exact k H1 g1
theorem jw_or (h : JTP S e1 u) (k : SemWP S (.BoolOp .Or (e2 :: rest) pos) v) : SemWP S (.BoolOp .Or (e1 :: e2 :: rest) pos) (tOrP u v) := by
  obtain ⟨t, h1, h2⟩ := h
  obtain ⟨t', h3, h4⟩ := k
  refine ⟨tOr t t', fun X o => pw_or (h1 X o) (h3 X o), fun σ H O env T b Q s e k => ?_⟩
  obtain ⟨c, e1, e2⟩ := Option.bind_eq_some_iff.mp e
  refine h2 σ H O env T c _ s e1 fun H1 g1 => ?_
  cases c with
  | false => exact h4 σ H1 O env T b Q (s.grow g1) e2 fun H2 g2 => k H2 (g1.trans g2)
  | true =>
    simp at e2
    subst e2
    exact k H1 g1
theorem jtp_w (h : SemWP S e u) : JTP S e u := by
  obtain ⟨t, h1, h2⟩ := h
  exact ⟨t, fun X o => (h1 X o).pt, h2⟩
theorem jtp_not (h : JTP S e1 u) : JTP S (.UnaryOp .Not e1 pos) (tNotP u) := by
  obtain ⟨t, h1, h2⟩ := h
  refine ⟨tNot t, fun X o => pt_not (h1 X o), fun σ H O env T b Q s e k => ?_⟩
  obtain ⟨c, e1, e2⟩ := Option.map_eq_some_iff.mp e
  subst e2
  exact h2 σ H O env T c _ s e1 fun H1 g1 => k H1 g1
def xIf (u : Env → Option Bool) (p q : Env → Option D) (env : Env) : Option D := (u env).bind fun b => if b then p env else q env
theorem jp_if {c : Expr} (h : JTP S c u) (ha : JP S e1 p) (hb : JP S e2 q) : JP S (.IfExp c e1 e2 pos) (xIf u p q) := by
  obtain ⟨t, h1, h2⟩ := h
  obtain ⟨ta, h3, h4⟩ := ha
  obtain ⟨tb, h5, h6⟩ := hb
  refine ⟨tIf t ta tb, fun X o => pe_ifExp (h1 X o) (h3 X o) (h5 X o), fun σ H O env T d Q s e k => ?_⟩
  obtain ⟨c, e1, e2⟩ := Option.bind_eq_some_iff.mp e
  refine h2 σ H O env T c _ s e1 fun H1 g1 => ?_
  cases c with
  | true => exact h4 σ H1 O env T d Q (s.grow g1) e2 fun v H2 g2 r => k v H2 (g1.trans g2) r
  | false => exact h6 σ H1 O env T d Q (s.grow g1) e2 fun v H2 g2 r => k v H2 (g1.trans g2) r
/-- and, or, not as values (bools) -/
def vOf (u : Env → Option Bool) (env : Env) : Option D := (u env).map .bool
def JV (S : Cxt) (e : Expr) (u : Env → Option Bool) : Prop := JP S e (vOf u)
theorem jv_of {e : Expr} (h : JP S e p) : JV S e (tOf p) := by
  obtain ⟨t, h1, h2⟩ := h
  refine ⟨t, h1, fun σ H O env T d Q s e k => ?_⟩
  obtain ⟨b, e1, e2⟩ := Option.map_eq_some_iff.mp e
  obtain ⟨d', e3, e4⟩ := Option.bind_eq_some_iff.mp e1
  cases d' with
  | bool c =>
    cases e4
    subst e2
    exact h2 σ H O env T _ Q s e3 k
  | _ => cases e4
theorem jv_one {op} (h : JV S e1 u) : JV S (.BoolOp op [e1] pos) u := by
  obtain ⟨t, h1, h2⟩ := h
  exact ⟨t, fun X o => pe_one (h1 X o), h2⟩
theorem jv_and (h : JV S e1 u) (k : JV S (.BoolOp .And (e2 :: rest) pos) v) : JV S (.BoolOp .And (e1 :: e2 :: rest) pos) (tAndP u v) := by
  obtain ⟨t, h1, h2⟩ := h
  obtain ⟨t', h3, h4⟩ := k
  refine ⟨tAndV t t', fun X o => pe_and (h1 X o) (h3 X o), fun σ H O env T d Q s e k => ?_⟩
  obtain ⟨b, e0, e5⟩ := Option.map_eq_some_iff.mp e
  subst e5
  obtain ⟨c, e1, e2⟩ := Option.bind_eq_some_iff.mp e0
  refine h2 σ H O env T (.bool c) _ s (by unfold vOf; rw [e1]; rfl) fun w H1 g1 r => ?_
  cases r
  refine ⟨c, rfl, ?_⟩
  cases c with
  | true => exact h4 σ H1 O env T (.bool b) Q (s.grow g1) (by unfold vOf; simp at e2; rw [e2]; rfl) fun w H2 g2 r => k w H2 (g1.trans g2) r
  | false =>
    simp at e2
    subst e2
    exact k _ H1 g1 (.bl _)
theorem jv_or (h : JV S e1 u) (k : JV S (.BoolOp .Or (e2 :: rest) pos) v) : JV S (.BoolOp .Or (e1 :: e2 :: rest) pos) (tOrP u v) := by
  obtain ⟨t, h1, h2⟩ := h
  obtain ⟨t', h3, h4⟩ := k
  refine ⟨tOrV t t', fun X o => pe_or (h1 X o) (h3 X o), fun σ H O env T d Q s e k => ?_⟩
  obtain ⟨b, e0, e5⟩ := Option.map_eq_some_iff.mp e
  subst e5
  obtain ⟨c, e1, e2⟩ := Option.bind_eq_some_iff.mp e0
  refine h2 σ H O env T (.bool c) _ s (by unfold vOf; rw [e1]; rfl) fun w H1 g1 r => ?_
  cases r
  refine ⟨c, rfl, ?_⟩
  cases c with
  | false => exact h4 σ H1 O env T (.bool b) Q (s.grow g1) (by unfold vOf; simp at e2; rw [e2]; rfl) fun w H2 g2 r => k w H2 (g1.trans g2) r
  | true =>
    simp at e2
    subst e2
    exact k _ H1 g1 (.bl _)
theorem jv_not (h : JV S e1 u) : JV S (.UnaryOp .Not e1 pos) (tNotP u) := by
  obtain ⟨t, h1, h2⟩ := h
  refine ⟨tNotV t, fun X o => pe_not (h1 X o), fun σ H O env T d Q s e k => ?_⟩
  obtain ⟨b, e0, e5⟩ := Option.map_eq_some_iff.mp e
  subst e5
  obtain ⟨c, e1, e2⟩ := Option.map_eq_some_iff.mp e0
  subst e2
  refine h2 σ H O env T (.bool c) _ s (by unfold vOf; rw [e1]; rfl) fun w H1 g1 r => ?_
  cases r
  exact ⟨c, rfl, k _ H1 g1 (.bl _)⟩
theorem JV.toP (h : JV S e u) : JP S e (vOf u) := h
end
end
end ML
/-! ML4: operations on plain values. -/
namespace ML
open PySem L2
section
variable {X : Cx}
def rOr (r r' : R2) : R2 := fun x y H Q => r x y H Q ∨ r' x y H Q
theorem OpR_or {f : Value → Value → Sem Value} {r r' : R2} (h : OpR X f r) (h' : OpR X f r') : OpR X f (rOr r r') := by
  intro pins s σ H x y v u Q I rx ry q
  rcases q with q | q
  · exact h pins s σ H x y v u Q I rx ry q
  · exact h' pins s σ H x y v u Q I rx ry q
end
section
variable {K : Fg} {H : Hp} {O : OS}
theorem RB.int {v : V} {i : Int} (h : RB K H O v (.int i)) : v = .int i := by
  rcases h with h | ⟨_, _, _, _, e, _⟩
  · cases h; rfl
  · cases e
theorem RB.bool {v : V} {b : Bool} (h : RB K H O v (.bool b)) : v = .bl b := by
  rcases h with h | ⟨_, _, _, _, e, _⟩
  · cases h; rfl
  · cases e
theorem RB.str {v : V} {x : Str} (h : RB K H O v (.str x)) : v = .str x := by
  rcases h with h | ⟨_, _, _, _, e, _⟩
  · cases h; rfl
  · cases e
theorem RB.non {v : V} (h : RB K H O v .none) : v = .non := by
  rcases h with h | ⟨_, _, _, _, e, _⟩
  · cases h; rfl
  · cases e
theorem RB.lst {v : V} {ds : List D} (h : RB K H O v (.list ds)) : ∃ a vs, v = .ref a ∧ H a = some (.lst vs) ∧ RDs K H O vs ds := by
  rcases h with h | ⟨a, vs, _, e1, e2, h1, h2⟩
  · cases h with
    | lst h0 h1 h2 => exact ⟨_, _, rfl, h1, h2⟩
  · cases e2
    exact ⟨a, vs, e1, h1, h2⟩
theorem RB.tup {v : V} {ds : List D} (h : RB K H O v (.tuple ds)) : RD K H O v (.tuple ds) ∧ ∃ a vs, v = .ref a ∧ SqT K H a vs ∧ RDs K H O vs ds := by
  rcases h with h | ⟨_, _, _, _, e, _⟩
  · refine ⟨h, ?_⟩
    cases h with
    | tup h1 h2 => exact ⟨_, _, rfl, h1.sq, h2⟩
  · cases e
theorem RB.dp {v : V} {d : D} (h : RB K H O v d) : Dp K H v d := by
  rcases h with h | ⟨a, vs, ds, e1, e2, h1, h2⟩
  · exact RD.dp d v h
  · subst e1 e2
    exact .lst (SqL.of h1) (RDs.dp _ _ h2)
theorem RD.newT {p : Addr} {vs : List V} {ds : List D} (c : Oc H O) (n : H p = none) (r : RDs K H O vs ds) : RD K (upd H p (.tup vs)) O (.ref p) (.tuple ds) :=
  .tup (.inl ⟨c.not n, .inl upd_same⟩) (r.grow (Grow.new n))
theorem RD.newL {p : Addr} {vs : List V} {ds : List D} (c : Oc H O) (n : H p = none) (r : RDs K H O vs ds) : RD K (upd H p (.lst vs)) O (.ref p) (.list ds) :=
  .lst (c.not n) upd_same (r.grow (Grow.new n))
end

/-! ### + - * // % ** -/
def rAdd (K : Fg) : R2 := rOr (rI0 fun i j => .int (i + j)) (rOr (fun x y H Q => ∃ i j, x = .str i ∧ y = .str j ∧ i.length + j.length ≤ sizeLine ∧ Q (.str (i ++ j)) H) (rOr (rCatA K) rCat))
def dAdd : D → D → Option D
  | .int i, .int j => some (.int (i + j))
  | .str x, .str y => if x.length + y.length ≤ sizeLine then some (.str (x ++ y)) else none
  | .tuple xs, .tuple ys => if xs.length + ys.length ≤ sizeLine then some (.tuple (xs ++ ys)) else none
  | .list xs, .list ys => if xs.length + ys.length ≤ sizeLine then some (.list (xs ++ ys)) else none
  | _, _ => none
theorem op_addK {X : Cx} : OpR X (binaryOp .Add) (rAdd X.K) := OpR_or op_add (OpR_or op_add_str (OpR_or op_catA op_cat))
theorem ov_add {K : Fg} : OpV K (rAdd K) dAdd := by
  intro H O x y d e z Q c rx ry hz k
  unfold dAdd at hz
  split at hz
  · cases hz
    cases rx.int
    cases ry.int
    exact .inl ⟨_, _, rfl, rfl, k _ H .refl (.int _)⟩
  · split at hz
    · rename_i hl
      cases hz
      cases rx.str
      cases ry.str
      exact .inr (.inl ⟨_, _, rfl, rfl, hl, k _ H .refl (.str _)⟩)
    · cases hz
  · split at hz
    · rename_i xs ys hl
      cases hz
      obtain ⟨r1, a, vs, e1, h1, g1⟩ := rx.tup
      obtain ⟨r2, b, ws, e2, h2, g2⟩ := ry.tup
      subst e1 e2
      have l1 := g1.len
      have l2 := g2.len
      refine .inr (.inr (.inl ⟨a, b, vs, ws, rfl, rfl, h1, h2, by omega, fun q => ?_, fun _ q => ?_, fun _ _ p n => ?_⟩))
      · subst q
        cases g1
        exact k _ H .refl r2
      · subst q
        cases g2
        rw [List.append_nil] at k
        exact k _ H .refl r1
      · exact k _ _ (Grow.new n) (.newT c n (g1.app g2))
    · cases hz
  · split at hz
    · rename_i xs ys hl
      cases hz
      obtain ⟨a, vs, e1, h1, g1⟩ := rx.lst
      obtain ⟨b, ws, e2, h2, g2⟩ := ry.lst
      subst e1 e2
      have l1 := g1.len
      have l2 := g2.len
      exact .inr (.inr (.inr ⟨a, b, vs, ws, rfl, rfl, h1, h2, by omega, fun p n => k _ _ (Grow.new n) (.newL c n (g1.app g2))⟩))
    · cases hz
  · cases hz
def dSub : D → D → Option D
  | .int i, .int j => some (.int (i - j))
  | _, _ => none
theorem ov_sub {K : Fg} : OpV K (rI0 fun i j => .int (i - j)) dSub := by
  intro H O x y d e z Q c rx ry hz k
  unfold dSub at hz
  split at hz
  · cases hz
    cases rx.int
    cases ry.int
    exact ⟨_, _, rfl, rfl, k _ H .refl (.int _)⟩
  · cases hz
/-- small enough for a product -/
def mulOk (i j : Int) : Bool := decide (i.natAbs.log2 + j.natAbs.log2 < 1000000)
def rMul (_ : Fg) : R2 := rOr (rI CMulW fun i j => .int (i * j)) rRep
def dMul : D → D → Option D
  | .int i, .int j => if mulOk i j then some (.int (i * j)) else none
  | .list xs, .int k => if k.natAbs < 2 ^ 63 ∧ xs.length * k.toNat ≤ sizeLine then some (.list (List.replicate k.toNat xs).flatten) else none
  | _, _ => none
theorem op_mulK {X : Cx} : OpR X (binaryOp .Mult) (rMul X.K) := OpR_or op_mulW op_rep
theorem RDs.flat {K : Fg} {H : Hp} {O : OS} {vs : List V} {ds : List D} (h : RDs K H O vs ds) (n : Nat) : RDs K H O (List.replicate n vs).flatten (List.replicate n ds).flatten := by
  induction n with
  | zero => exact .nil
  | succ n ih =>
    rw [List.replicate_succ, List.replicate_succ, List.flatten_cons, List.flatten_cons]
    exact h.app ih
theorem ov_mul {K : Fg} : OpV K (rMul K) dMul := by
  intro H O x y d e z Q c rx ry hz k
  unfold dMul at hz
  split at hz
  · split at hz
    · rename_i hm
      cases hz
      cases rx.int
      cases ry.int
      exact .inl ⟨_, _, rfl, rfl, (by unfold CMulW; unfold mulOk at hm; exact of_decide_eq_true hm), k _ H .refl (.int _)⟩
    · cases hz
  · split at hz
    · rename_i xs j hm
      cases hz
      cases ry.int
      obtain ⟨a, vs, e1, h1, g1⟩ := rx.lst
      subst e1
      have l1 := g1.len
      exact .inr ⟨a, j, vs, rfl, rfl, h1, by omega, by omega, by rw [l1]; exact hm.2, fun p n => k _ _ (Grow.new n) (.newL c n (g1.flat _))⟩
    · cases hz
  · cases hz
def dDiv : D → D → Option D
  | .int i, .int j => if 0 < j ∧ j.natAbs.log2 < 9000 then some (.int (i / j)) else none
  | _, _ => none
theorem ov_div {K : Fg} : OpV K (rI CDivW fun i j => .int (i / j)) dDiv := by
  intro H O x y d e z Q c rx ry hz k
  unfold dDiv at hz
  split at hz
  · split at hz
    · rename_i hm
      cases hz
      cases rx.int
      cases ry.int
      exact ⟨_, _, rfl, rfl, hm, k _ H .refl (.int _)⟩
    · cases hz
  · cases hz
def dMod : D → D → Option D
  | .int i, .int j => if 0 < j then some (.int (i % j)) else none
  | _, _ => none
theorem ov_mod {K : Fg} : OpV K (rI (fun _ j => 0 < j) fun i j => .int (i % j)) dMod := by
  intro H O x y d e z Q c rx ry hz k
  unfold dMod at hz
  split at hz
  · split at hz
    · rename_i hm
      cases hz
      cases rx.int
      cases ry.int
      exact ⟨_, _, rfl, rfl, hm, k _ H .refl (.int _)⟩
    · cases hz
  · cases hz
def CPowB (i j : Int) : Prop := 0 ≤ j ∧ (Builtin.Int.intBits i : Int) * j ≤ 2 ^ 27
theorem op_powB {X : Cx} : OpR X (binaryOp .Pow) (rI CPowB fun i j => .int (i ^ j.toNat)) := opI fun _ _ _ _ _ _ _ hc q => PyProof.Rows.pow_int hc.1 hc.2 q
def dPow : D → D → Option D
  | .int i, .int j => if 0 ≤ j ∧ (Builtin.Int.intBits i : Int) * j ≤ 2 ^ 27 then some (.int (i ^ j.toNat)) else none
  | _, _ => none
theorem ov_pow {K : Fg} : OpV K (rI CPowB fun i j => .int (i ^ j.toNat)) dPow := by
  intro H O x y d e z Q c rx ry hz k
  unfold dPow at hz
  split at hz
  · split at hz
    · rename_i hm
      cases hz
      cases rx.int
      cases ry.int
      exact ⟨_, _, rfl, rfl, hm, k _ H .refl (.int _)⟩
    · cases hz
  · cases hz

/-! ### comparisons -/
def dCmp (f : Int → Int → Bool) : D → D → Option D
  | .int i, .int j => some (.bool (f i j))
  | _, _ => none
theorem ov_cmp {K : Fg} {f : Int → Int → Bool} : OpV K (rI0 fun i j => .bl (f i j)) (dCmp f) := by
  intro H O x y d e z Q c rx ry hz k
  unfold dCmp at hz
  split at hz
  · cases hz
    cases rx.int
    cases ry.int
    exact ⟨_, _, rfl, rfl, k _ H .refl (.bl _)⟩
  · cases hz
/-- two texts are compared as they are; else both must be shaped -/
def texts2 : D → D → Bool
  | .str _, .str _ => true
  | _, _ => false
def rEqX (K : Fg) : R2 := rOr rEq (rEqD K)
def rNeX (K : Fg) : R2 := rOr rNe (rNeD K)
theorem op_eqX {X : Cx} (hu : X.A.units + 64 < cLine) : OpR X (compareOp .Eq) (rEqX X.K) := OpR_or op_eq (op_eqD hu)
theorem op_neX {X : Cx} (hu : X.A.units + 64 < cLine) : OpR X (compareOp .NotEq) (rNeX X.K) := OpR_or op_ne (op_neD hu)
def dEq (d e : D) : Option D := if texts2 d e = true ∨ (SeqAt.shaped d = true ∧ SeqAt.shaped e = true) then some (.bool (PyData.eqv d e)) else none
def dNe (d e : D) : Option D := if texts2 d e = true ∨ (SeqAt.shaped d = true ∧ SeqAt.shaped e = true) then some (.bool (!PyData.eqv d e)) else none
theorem eqv_dec {x y : Str} : decide (V.str x = V.str y) = PyData.eqv (.str x) (.str y) := by
  show _ = (x == y)
  by_cases h : x = y
  · subst h
    simp
  · simp [h]
theorem ov_eq {K : Fg} : OpV K (rEqX K) dEq := by
  intro H O x y d e z Q c rx ry hz k
  unfold dEq at hz
  split at hz
  · rename_i hs
    cases hz
    rcases hs with hs | hs
    · unfold texts2 at hs
      split at hs
      · cases rx.str
        cases ry.str
        exact .inl ⟨rfl, by rw [eqv_dec]; exact k _ H .refl (.bl _)⟩
      · cases hs
    · exact .inr ⟨d, e, rx.dp, ry.dp, hs.1, hs.2, k _ H .refl (.bl _)⟩
  · cases hz
theorem ov_ne {K : Fg} : OpV K (rNeX K) dNe := by
  intro H O x y d e z Q c rx ry hz k
  unfold dNe at hz
  split at hz
  · rename_i hs
    cases hz
    rcases hs with hs | hs
    · unfold texts2 at hs
      split at hs
      · cases rx.str
        cases ry.str
        exact .inl ⟨rfl, by rw [eqv_dec]; exact k _ H .refl (.bl _)⟩
      · cases hs
    · exact .inr ⟨d, e, rx.dp, ry.dp, hs.1, hs.2, k _ H .refl (.bl _)⟩
  · cases hz
def isNone : D → Bool
  | .none => true
  | _ => false
theorem RB.isN {K : Fg} {H : Hp} {O : OS} {v : V} {d : D} (h : RB K H O v d) : decide (v = .non) = isNone d := by
  rcases h with h | ⟨_, _, _, e1, e2, _⟩
  · cases h <;> rfl
  · subst e1 e2
    rfl
def dIsN (d e : D) : Option D := match e with | .none => some (.bool (isNone d)) | _ => none
def dNotN (d e : D) : Option D := match e with | .none => some (.bool (!isNone d)) | _ => none
theorem ov_isN {K : Fg} : OpV K (fun x y H Q => y = .non ∧ Q (.bl (decide (x = .non))) H) dIsN := by
  intro H O x y d e z Q c rx ry hz k
  unfold dIsN at hz
  split at hz
  · cases hz
    refine ⟨ry.non, ?_⟩
    rw [rx.isN]
    exact k _ H .refl (.bl _)
  · cases hz
theorem ov_notN {K : Fg} : OpV K (fun x y H Q => y = .non ∧ Q (.bl (!decide (x = .non))) H) dNotN := by
  intro H O x y d e z Q c rx ry hz k
  unfold dNotN at hz
  split at hz
  · cases hz
    refine ⟨ry.non, ?_⟩
    rw [rx.isN]
    exact k _ H .refl (.bl _)
  · cases hz

section
variable {S : Cxt} {e1 e2 : Expr} {p q : Env → Option D} {pos : Pos}
abbrev xAdd := xOp dAdd
abbrev xSub := xOp dSub
abbrev xMul := xOp dMul
abbrev xDiv := xOp dDiv
abbrev xMod := xOp dMod
abbrev xPow := xOp dPow
abbrev xEq := xOp dEq
abbrev xNe := xOp dNe
abbrev xLt := xOp (dCmp fun i j => decide (i < j))
abbrev xLe := xOp (dCmp fun i j => decide (i ≤ j))
abbrev xGt := xOp (dCmp fun i j => decide (j < i))
abbrev xGe := xOp (dCmp fun i j => decide (j ≤ i))
theorem Cxt.Ok.units {X : Cx} (o : S.Ok X) : X.A.units + 64 < cLine := by
  have := o.room.un
  omega
theorem jp_add (ha : JB S e1 p) (hb : JB S e2 q) : JP S (.BinOp e1 .Add e2 pos) (xAdd p q) := jp_op (r := rAdd) (fun _ _ => op_addK) ov_add ha hb
theorem jp_sub (ha : JB S e1 p) (hb : JB S e2 q) : JP S (.BinOp e1 .Sub e2 pos) (xSub p q) := jp_op (r := fun _ => rI0 fun i j => .int (i - j)) (fun _ _ => op_sub) ov_sub ha hb
theorem jp_mul (ha : JB S e1 p) (hb : JB S e2 q) : JP S (.BinOp e1 .Mult e2 pos) (xMul p q) := jp_op (r := rMul) (fun _ _ => op_mulK) ov_mul ha hb
theorem jp_div (ha : JB S e1 p) (hb : JB S e2 q) : JP S (.BinOp e1 .FloorDiv e2 pos) (xDiv p q) := jp_op (r := fun _ => rI CDivW fun i j => .int (i / j)) (fun _ _ => op_fdivW) ov_div ha hb
theorem jp_mod (ha : JB S e1 p) (hb : JB S e2 q) : JP S (.BinOp e1 .Mod e2 pos) (xMod p q) := jp_op (r := fun _ => rI (fun _ j => 0 < j) fun i j => .int (i % j)) (fun _ _ => op_mod) ov_mod ha hb
theorem jp_pow (ha : JB S e1 p) (hb : JB S e2 q) : JP S (.BinOp e1 .Pow e2 pos) (xPow p q) := jp_op (r := fun _ => rI CPowB fun i j => .int (i ^ j.toNat)) (fun _ _ => op_powB) ov_pow ha hb
theorem jp_lt (ha : JB S e1 p) (hb : JB S e2 q) : JP S (.Compare e1 [.Lt] [e2] pos) (xLt p q) := jp_cmp (r := fun _ => rI0 fun i j => .bl (decide (i < j))) (fun _ _ => op_lt) ov_cmp ha hb (nomark _)
theorem jp_le (ha : JB S e1 p) (hb : JB S e2 q) : JP S (.Compare e1 [.LtE] [e2] pos) (xLe p q) := jp_cmp (r := fun _ => rI0 fun i j => .bl (decide (i ≤ j))) (fun _ _ => op_le) ov_cmp ha hb (nomark _)
theorem jp_gt (ha : JB S e1 p) (hb : JB S e2 q) : JP S (.Compare e1 [.Gt] [e2] pos) (xGt p q) := jp_cmp (r := fun _ => rI0 fun i j => .bl (decide (j < i))) (fun _ _ => op_gt) ov_cmp ha hb (nomark _)
theorem jp_ge (ha : JB S e1 p) (hb : JB S e2 q) : JP S (.Compare e1 [.GtE] [e2] pos) (xGe p q) := jp_cmp (r := fun _ => rI0 fun i j => .bl (decide (j ≤ i))) (fun _ _ => op_ge) ov_cmp ha hb (nomark _)
theorem jp_eq (ha : JB S e1 p) (hb : JB S e2 q) : JP S (.Compare e1 [.Eq] [e2] pos) (xEq p q) := jp_cmp (r := rEqX) (fun _ o => op_eqX o.units) ov_eq ha hb (nomark _)
theorem jp_ne (ha : JB S e1 p) (hb : JB S e2 q) : JP S (.Compare e1 [.NotEq] [e2] pos) (xNe p q) := jp_cmp (r := rNeX) (fun _ o => op_neX o.units) ov_ne ha hb (nomark _)
theorem jp_isN (ha : JB S e1 p) (hb : JB S e2 q) : JP S (.Compare e1 [.Is] [e2] pos) (xOp dIsN p q) := jp_cmp (r := fun _ x y H Q => y = .non ∧ Q (.bl (decide (x = .non))) H) (fun _ _ => op_isN) ov_isN ha hb (nomark _)
theorem jp_notN (ha : JB S e1 p) (hb : JB S e2 q) : JP S (.Compare e1 [.IsNot] [e2] pos) (xOp dNotN p q) := jp_cmp (r := fun _ x y H Q => y = .non ∧ Q (.bl (!decide (x = .non))) H) (fun _ _ => op_notN) ov_notN ha hb (nomark _)
theorem jt_lt (ha : JB S e1 p) (hb : JB S e2 q) : JTP S (.Compare e1 [.Lt] [e2] pos) (tOf (xLt p q)) := jtp_cmp (r := fun _ => rI0 fun i j => .bl (decide (i < j))) (fun _ _ => op_lt) ov_cmp ha hb (nomark _)
theorem jt_le (ha : JB S e1 p) (hb : JB S e2 q) : JTP S (.Compare e1 [.LtE] [e2] pos) (tOf (xLe p q)) := jtp_cmp (r := fun _ => rI0 fun i j => .bl (decide (i ≤ j))) (fun _ _ => op_le) ov_cmp ha hb (nomark _)
theorem jt_gt (ha : JB S e1 p) (hb : JB S e2 q) : JTP S (.Compare e1 [.Gt] [e2] pos) (tOf (xGt p q)) := jtp_cmp (r := fun _ => rI0 fun i j => .bl (decide (j < i))) (fun _ _ => op_gt) ov_cmp ha hb (nomark _)
theorem jt_ge (ha : JB S e1 p) (hb : JB S e2 q) : JTP S (.Compare e1 [.GtE] [e2] pos) (tOf (xGe p q)) := jtp_cmp (r := fun _ => rI0 fun i j => .bl (decide (j ≤ i))) (fun _ _ => op_ge) ov_cmp ha hb (nomark _)
theorem jt_eq (ha : JB S e1 p) (hb : JB S e2 q) : JTP S (.Compare e1 [.Eq] [e2] pos) (tOf (xEq p q)) := jtp_cmp (r := rEqX) (fun _ o => op_eqX o.units) ov_eq ha hb (nomark _)
theorem jt_ne (ha : JB S e1 p) (hb : JB S e2 q) : JTP S (.Compare e1 [.NotEq] [e2] pos) (tOf (xNe p q)) := jtp_cmp (r := rNeX) (fun _ o => op_neX o.units) ov_ne ha hb (nomark _)
theorem jt_isN (ha : JB S e1 p) (hb : JB S e2 q) : JTP S (.Compare e1 [.Is] [e2] pos) (tOf (xOp dIsN p q)) := jtp_cmp (r := fun _ x y H Q => y = .non ∧ Q (.bl (decide (x = .non))) H) (fun _ _ => op_isN) ov_isN ha hb (nomark _)
theorem jt_notN (ha : JB S e1 p) (hb : JB S e2 q) : JTP S (.Compare e1 [.IsNot] [e2] pos) (tOf (xOp dNotN p q)) := jtp_cmp (r := fun _ x y H Q => y = .non ∧ Q (.bl (!decide (x = .non))) H) (fun _ _ => op_notN) ov_notN ha hb (nomark _)
end
end ML
/-! ML5: subscripts, slices, calls of what is built in. -/
namespace ML
open PySem L2

/-! ### a[i] -/
def dIx : D → D → Option D
  | .list xs, .int i => atI xs i
  | .tuple xs, .int i => atI xs i
  | .str z, .int i => if z.length ≤ sizeLine then (atI z.cps.toList i).map fun c => .str ⟨#[c]⟩ else none
  | _, _ => none
theorem RDs.atI {K : Fg} {H : Hp} {O : OS} {vs : List V} {ds : List D} (h : RDs K H O vs ds) {i : Int} {d : D} (e : atI ds i = some d) : ∃ v, L2.atI vs i = some v ∧ RD K H O v d := by
  unfold L2.atI at e ⊢
  rw [h.len]
  obtain ⟨j, e1, e2⟩ := Option.bind_eq_some_iff.mp e
  rw [e1]
  exact h.get e2
theorem ov_ix {K : Fg} : OpV K (rIx K) dIx := by
  intro H O x y d e z Q c rx ry hz k
  unfold dIx at hz
  split at hz
  · cases ry.int
    obtain ⟨a, vs, e1, h1, g1⟩ := rx.lst
    subst e1
    obtain ⟨v, h2, h3⟩ := g1.atI hz
    exact .inl ⟨_, _, _, v, rfl, rfl, SqL.of h1, h2, k v H .refl h3⟩
  · cases ry.int
    obtain ⟨_, a, vs, e1, h1, g1⟩ := rx.tup
    subst e1
    obtain ⟨v, h2, h3⟩ := g1.atI hz
    exact .inr (.inl ⟨_, _, _, v, rfl, rfl, h1, h2, k v H .refl h3⟩)
  · split at hz
    · rename_i hl
      obtain ⟨cc, e1, e2⟩ := Option.map_eq_some_iff.mp hz
      subst e2
      cases ry.int
      cases rx.str
      exact .inr (.inr ⟨_, _, cc, rfl, rfl, hl, e1, k _ H .refl (.str _)⟩)
    · cases hz
  · cases hz
section
variable {S : Cxt} {e e1 e2 : Expr} {es : List Expr} {p q : Env → Option D} {pos : Pos}
abbrev xIx := xOp dIx
theorem jp_ix (ha : JB S e1 p) (hb : JB S e2 q) (hs : PlainIx e2 := by intro _ _; rfl) : JP S (.Subscript e1 e2 pos) (xIx p q) := by
  obtain ⟨t, h1, h2⟩ := ha
  obtain ⟨u, h3, h4⟩ := hb
  refine ⟨tOp (rIx S.K) t u, fun X o => by have z := pe_ix (pos := pos) (ix_seq (X := X)) (h1 X o) (h3 X o) hs; rw [o.K] at z; exact z, fun σ H O env T d Q s e k => ?_⟩
  obtain ⟨x, e1, e2⟩ := Option.bind_eq_some_iff.mp e
  obtain ⟨y, e3, e4⟩ := Option.bind_eq_some_iff.mp e2
  refine h2 σ H O env T x _ s e1 fun v H1 g1 r1 => h4 σ H1 O env T y _ (s.grow g1) e3 fun w H2 g2 r2 => ?_
  exact ov_ix H2 O v w x y d Q (s.oc.grow (g1.trans g2)) (r1.grow g2) r2 e4 fun z H3 g3 r3 => k z H3 (g1.trans (g2.trans g3)) r3

/-! ### a[i:j] -/
def cutD {α : Type} (xs : List α) (lo hi : Option Int) : List α := (xs.drop (HT.sIx xs.length 0 lo)).take (HT.sIx xs.length xs.length hi - HT.sIx xs.length 0 lo)
def dCut (d : D) (lo hi : Option Int) : Option D := match d with
  | .list xs => some (.list (cutD xs lo hi))
  | .tuple xs => some (.tuple (cutD xs lo hi))
  | .str z => if z.length ≤ sizeLine then some (.str (cutS z lo hi)) else none
  | _ => none
theorem RDs.cut {K : Fg} {H : Hp} {O : OS} {vs : List V} {ds : List D} (h : RDs K H O vs ds) (lo hi : Option Int) : RDs K H O (cutV vs lo hi) (cutD ds lo hi) := by
  unfold cutV cutD
  rw [h.len]
  exact (h.drop _).take _
def SemPO (S : Cxt) (t : TO) (p : Env → Option (Option Int)) : Prop := ∀ (σ : L2.St) (H : Hp) (O : OS) (env : Env) (T : List Addr) (i : Option Int) (Q : Option Int → Hp → Prop), Sit S.K S.A σ H O env T → p env = some i →
  (∀ H', Grow H H' → Q i H') → t σ H Q
def JPO (S : Cxt) (e : Option Expr) (p : Env → Option (Option Int)) : Prop := ∃ t, (∀ X, S.Ok X → PO X e t) ∧ SemPO S t p
def cNone (_ : Env) : Option (Option Int) := some none
def cSome (p : Env → Option D) (env : Env) : Option (Option Int) := (p env).bind fun d => match d with | .int i => some (some i) | _ => none
theorem jpo_none : JPO S none cNone := ⟨_, fun X o => po_none, fun σ H O env T i Q s e k => by cases e; exact k H .refl⟩
theorem jpo_some (h : JB S e p) : JPO S (some e) (cSome p) := by
  obtain ⟨t, h1, h2⟩ := h
  refine ⟨tPart t, fun X o => po_some (h1 X o), fun σ H O env T i Q s e k => ?_⟩
  obtain ⟨d, e1, e2⟩ := Option.bind_eq_some_iff.mp e
  cases d with
  | int j =>
    cases e2
    exact h2 σ H O env T _ _ s e1 fun v H1 g r => ⟨j, r.int, k H1 g⟩
  | _ => cases e2
def xCut (p : Env → Option D) (lo hi : Env → Option (Option Int)) (env : Env) : Option D := (p env).bind fun d => (lo env).bind fun a => (hi env).bind fun b => dCut d a b
def rSlAll (K : Fg) : V → Option Int → Option Int → Hp → VK → Prop := fun x lo hi H Q => rSlL K x lo hi H Q ∨ (rSlA K x lo hi H Q ∨ rSlS x lo hi H Q)
theorem jp_cut {lo hi : Option Expr} {c d : Env → Option (Option Int)} {p2 : Pos} (ha : JB S e p) (hl : JPO S lo c) (hu : JPO S hi d) : JP S (.Subscript e (.Slice lo hi none p2) pos) (xCut p c d) := by
  obtain ⟨t, h1, h2⟩ := ha
  obtain ⟨u, h3, h4⟩ := hl
  obtain ⟨v, h5, h6⟩ := hu
  refine ⟨tSl (rSlAll S.K) t u v, fun X o => by have z := pe_slice (pos := pos) (p2 := p2) (SlR.or (sl_list (X := X)) (SlR.or sl_tupA sl_str)) (h1 X o) (h3 X o) (h5 X o); rw [o.K] at z; exact z, fun σ H O env T z Q s e k => ?_⟩
  obtain ⟨x, e1, e2⟩ := Option.bind_eq_some_iff.mp e
  obtain ⟨a, e3, e4⟩ := Option.bind_eq_some_iff.mp e2
  obtain ⟨b, e5, e6⟩ := Option.bind_eq_some_iff.mp e4
  refine h2 σ H O env T x _ s e1 fun w H1 g1 r1 => h4 σ H1 O env T a _ (s.grow g1) e3 fun H2 g2 => h6 σ H2 O env T b _ (s.grow (g1.trans g2)) e5 fun H3 g3 => ?_
  have g : Grow H1 H3 := g2.trans g3
  have r := r1.grow g
  have c3 := s.oc.grow (g1.trans g)
  unfold dCut at e6
  split at e6
  · cases e6
    obtain ⟨ad, vs, q1, q2, q3⟩ := r.lst
    exact .inl ⟨ad, vs, q1, SqL.of q2, fun p n => k _ _ ((g1.trans g).trans (Grow.new n)) (.newL c3 n (q3.cut _ _))⟩
  · cases e6
    obtain ⟨q0, ad, vs, q1, q2, q3⟩ := r.tup
    refine .inr (.inl ⟨ad, vs, q1, q2, fun hw => ?_, fun hw p n => k _ _ ((g1.trans g).trans (Grow.new n)) (.newT c3 n (q3.cut _ _))⟩)
    rename_i xs
    have l := q3.len
    have hc : cutD xs a b = xs := by
      rw [l] at hw
      unfold cutD
      rw [hw.1, hw.2]
      simp
    rw [hc] at k
    rw [q1] at q0
    exact k _ _ (g1.trans g) q0
  · split at e6
    · rename_i hl
      cases e6
      exact .inr (.inr ⟨_, r.str, hl, k _ _ (g1.trans g) (.str _)⟩)
    · cases e6
  · cases e6

/-! ### calls of built-in functions and types -/
def CallV (K : Fg) (r : List V → Hp → VK → Prop) (f : List D → Option D) : Prop := ∀ (H : Hp) (O : OS) (xs : List V) (ds : List D) (z : D) (Q : VK), Oc H O → F2 (RB K H O) xs ds → f ds = some z →
  (∀ v H', Grow H H' → RD K H' O v z → Q v H') → r xs H Q
def CallN (K : Fg) (r : List V → Hp → VK → Prop) (f : List D → Option (List D)) : Prop := ∀ (H : Hp) (O : OS) (xs : List V) (ds : List D) (z : List D) (Q : VK), Oc H O → F2 (RB K H O) xs ds → f ds = some z →
  (∀ q vs H', Grow H H' → H' q = none → RDs K H' O vs z → Q (.ref q) (upd H' q (.lst vs))) → r xs H Q
def xCall (f : List D → Option D) (q : Env → Option (List D)) (env : Env) : Option D := (q env).bind f
def oCall (f : List D → Option (List D)) (q : Env → Option (List D)) (env : Env) : Option (List D) := (q env).bind f
/-- a global name -/
abbrev Gn (S : Cxt) (x : Str) : Prop := S.sc.names.lookup x = some NameKind.globalImplicit
section
variable {x : Str} {pp : Pos} {qs : Env → Option (List D)} {r : Fg → List V → Hp → VK → Prop} {f : List D → Option D} {g : List D → Option (List D)}
theorem gl_of {X : Cx} (o : S.Ok X) (hg : Gn S x) : Gl X x := by
  show X.env.kindOf x = _
  unfold Env.kindOf
  rw [o.sc]
  exact hg
theorem jp_callB {id : String} (hc : ∀ X, S.Ok X → CallR X (.builtin id) (r X.K)) (hf : CallV S.K (r S.K) f) (hg : Gn S x) (hm : S.mg x = none) (hv : bootBuiltins x = some (.builtin id)) (ha : JAB S (e :: es) qs)
    (hn : x ≠ "__name__" := by decide) (hdb : (x == ("__debug__" : Str)) = false := by decide)
    (he : ∀ env, starEach (e :: es) env = (false, eval e env) :: starEach es env := by intro _; rfl) (hpl : ∀ env, (backTo pos (starEach es env)).any (·.1) = false := by intro _; rfl) : JP S (.Call (.Name x pp) (e :: es) [] pos) (xCall f qs) := by
  obtain ⟨t, h1, h2⟩ := ha
  refine ⟨tCB (r S.K) t, fun X o => by have z := hc X o; rw [o.K] at z; exact pe_callB z (gl_of o hg) (by rw [o.mg]; exact hm) hv (h1 X o) hn hdb (he _) (hpl _), fun σ H O env T d Q s e k => ?_⟩
  obtain ⟨ds, e1, e2⟩ := Option.bind_eq_some_iff.mp e
  refine h2 σ H O env T ds _ s e1 fun vs H1 g1 r1 => ?_
  exact hf H1 O vs ds d Q (s.oc.grow g1) r1 e2 fun v H2 g2 r2 => k v H2 (g1.trans g2) r2
theorem jp_callT {T : String} (hc : ∀ X, S.Ok X → CallR X (.type T) (r X.K)) (hf : CallV S.K (r S.K) f) (hg : Gn S x) (hm : S.mg x = none) (hv : bootBuiltins x = some (.type T)) (ha : JAB S (e :: es) qs)
    (hn : x ≠ "__name__" := by decide) (hdb : (x == ("__debug__" : Str)) = false := by decide)
    (he : ∀ env, starEach (e :: es) env = (false, eval e env) :: starEach es env := by intro _; rfl) (hpl : ∀ env, (backTo pos (starEach es env)).any (·.1) = false := by intro _; rfl) : JP S (.Call (.Name x pp) (e :: es) [] pos) (xCall f qs) := by
  obtain ⟨t, h1, h2⟩ := ha
  refine ⟨tCB (r S.K) t, fun X o => by have z := hc X o; rw [o.K] at z; exact pe_callTy z (gl_of o hg) (by rw [o.mg]; exact hm) hv (h1 X o) hn hdb (he _) (hpl _), fun σ H O env T d Q s e k => ?_⟩
  obtain ⟨ds, e1, e2⟩ := Option.bind_eq_some_iff.mp e
  refine h2 σ H O env T ds _ s e1 fun vs H1 g1 r1 => ?_
  exact hf H1 O vs ds d Q (s.oc.grow g1) r1 e2 fun v H2 g2 r2 => k v H2 (g1.trans g2) r2
theorem jo_callB {id : String} (hc : ∀ X, S.Ok X → CallR X (.builtin id) (r X.K)) (hf : CallN S.K (r S.K) g) (hg : Gn S x) (hm : S.mg x = none) (hv : bootBuiltins x = some (.builtin id)) (ha : JAB S (e :: es) qs)
    (hn : x ≠ "__name__" := by decide) (hdb : (x == ("__debug__" : Str)) = false := by decide)
    (he : ∀ env, starEach (e :: es) env = (false, eval e env) :: starEach es env := by intro _; rfl) (hpl : ∀ env, (backTo pos (starEach es env)).any (·.1) = false := by intro _; rfl) : JO S (.Call (.Name x pp) (e :: es) [] pos) (oCall g qs) := by
  obtain ⟨t, h1, h2⟩ := ha
  refine ⟨tCB (r S.K) t, fun X o => by have z := hc X o; rw [o.K] at z; exact pe_callB z (gl_of o hg) (by rw [o.mg]; exact hm) hv (h1 X o) hn hdb (he _) (hpl _), fun σ H O env T d Q s e k => ?_⟩
  obtain ⟨ds, e1, e2⟩ := Option.bind_eq_some_iff.mp e
  refine h2 σ H O env T ds _ s e1 fun vs H1 g1 r1 => ?_
  exact hf H1 O vs ds d Q (s.oc.grow g1) r1 e2 fun v ws H2 g2 n r2 => k v ws H2 (g1.trans g2) n r2
theorem jo_callT {T : String} (hc : ∀ X, S.Ok X → CallR X (.type T) (r X.K)) (hf : CallN S.K (r S.K) g) (hg : Gn S x) (hm : S.mg x = none) (hv : bootBuiltins x = some (.type T)) (ha : JAB S (e :: es) qs)
    (hn : x ≠ "__name__" := by decide) (hdb : (x == ("__debug__" : Str)) = false := by decide)
    (he : ∀ env, starEach (e :: es) env = (false, eval e env) :: starEach es env := by intro _; rfl) (hpl : ∀ env, (backTo pos (starEach es env)).any (·.1) = false := by intro _; rfl) : JO S (.Call (.Name x pp) (e :: es) [] pos) (oCall g qs) := by
  obtain ⟨t, h1, h2⟩ := ha
  refine ⟨tCB (r S.K) t, fun X o => by have z := hc X o; rw [o.K] at z; exact pe_callTy z (gl_of o hg) (by rw [o.mg]; exact hm) hv (h1 X o) hn hdb (he _) (hpl _), fun σ H O env T d Q s e k => ?_⟩
  obtain ⟨ds, e1, e2⟩ := Option.bind_eq_some_iff.mp e
  refine h2 σ H O env T ds _ s e1 fun vs H1 g1 r1 => ?_
  exact hf H1 O vs ds d Q (s.oc.grow g1) r1 e2 fun v ws H2 g2 n r2 => k v ws H2 (g1.trans g2) n r2
end
theorem f2_1 {α β : Type} {R : α → β → Prop} {xs : List α} {b : β} (h : F2 R xs [b]) : ∃ a, xs = [a] ∧ R a b := by
  cases h with
  | cons h1 h2 => cases h2; exact ⟨_, rfl, h1⟩
theorem f2_2 {α β : Type} {R : α → β → Prop} {xs : List α} {b c : β} (h : F2 R xs [b, c]) : ∃ a a', xs = [a, a'] ∧ R a b ∧ R a' c := by
  cases h with
  | cons h1 h2 =>
    obtain ⟨a', e, h3⟩ := f2_1 h2
    subst e
    exact ⟨_, a', rfl, h1, h3⟩
/-- len -/
def fLen : List D → Option D
  | [.list xs] => some (.int xs.length)
  | [.tuple xs] => some (.int xs.length)
  | [.str z] => if z.length ≤ sizeLine then some (.int z.length) else none
  | _ => none
theorem cv_len {K : Fg} : CallV K (fun xs H Q => ∃ x n, xs = [x] ∧ LenV K x H n ∧ Q (.int n) H) fLen := by
  intro H O xs ds z Q c h hz k
  unfold fLen at hz
  split at hz
  · cases hz
    obtain ⟨a, e, h1⟩ := f2_1 h
    obtain ⟨ad, vs, e1, q1, q2⟩ := h1.lst
    subst e e1
    refine ⟨_, _, rfl, .inl ⟨vs, SqL.of q1, rfl⟩, ?_⟩
    rw [q2.len]
    exact k _ H .refl (.int _)
  · cases hz
    obtain ⟨a, e, h1⟩ := f2_1 h
    obtain ⟨_, ad, vs, e1, q1, q2⟩ := h1.tup
    subst e e1
    refine ⟨_, _, rfl, .inr ⟨vs, q1, rfl⟩, ?_⟩
    rw [q2.len]
    exact k _ H .refl (.int _)
  · split at hz
    · rename_i hl
      cases hz
      obtain ⟨a, e, h1⟩ := f2_1 h
      cases h1.str
      subst e
      exact ⟨_, _, rfl, ⟨hl, rfl⟩, k _ H .refl (.int _)⟩
    · cases hz
  · cases hz
def fMax : List D → Option D
  | [.int i, .int j] => some (.int (if j > i then j else i))
  | _ => none
def fMin : List D → Option D
  | [.int i, .int j] => some (.int (if j < i then j else i))
  | _ => none
theorem cv_max {K : Fg} : CallV K (fun xs H Q => ∃ i j, xs = [.int i, .int j] ∧ Q (.int (if j > i then j else i)) H) fMax := by
  intro H O xs ds z Q c h hz k
  unfold fMax at hz
  split at hz
  · cases hz
    obtain ⟨a, a', e, h1, h2⟩ := f2_2 h
    cases h1.int
    cases h2.int
    subst e
    exact ⟨_, _, rfl, k _ H .refl (.int _)⟩
  · cases hz
theorem cv_min {K : Fg} : CallV K (fun xs H Q => ∃ i j, xs = [.int i, .int j] ∧ Q (.int (if j < i then j else i)) H) fMin := by
  intro H O xs ds z Q c h hz k
  unfold fMin at hz
  split at hz
  · cases hz
    obtain ⟨a, a', e, h1, h2⟩ := f2_2 h
    cases h1.int
    cases h2.int
    subst e
    exact ⟨_, _, rfl, k _ H .refl (.int _)⟩
  · cases hz
def fAbs : List D → Option D
  | [.int i] => some (.int (if i < 0 then -i else i))
  | _ => none
theorem cv_abs {K : Fg} : CallV K (fun xs H Q => ∃ i, xs = [.int i] ∧ Q (.int (if i < 0 then -i else i)) H) fAbs := by
  intro H O xs ds z Q c h hz k
  unfold fAbs at hz
  split at hz
  · cases hz
    obtain ⟨a, e, h1⟩ := f2_1 h
    cases h1.int
    subst e
    exact ⟨_, rfl, k _ H .refl (.int _)⟩
  · cases hz
/-- int of an int, of a bool -/
def fInt : List D → Option D
  | [.int i] => some (.int i)
  | [.bool b] => some (.int (if b then 1 else 0))
  | _ => none
theorem cv_int {K : Fg} : CallV K (fun xs H Q => (∃ i, xs = [.int i] ∧ Q (.int i) H) ∨ ∃ k, xs = [.bl k] ∧ Q (.int (if k then 1 else 0)) H) fInt := by
  intro H O xs ds z Q c h hz k
  unfold fInt at hz
  split at hz
  · cases hz
    obtain ⟨a, e, h1⟩ := f2_1 h
    cases h1.int
    subst e
    exact .inl ⟨_, rfl, k _ H .refl (.int _)⟩
  · cases hz
    obtain ⟨a, e, h1⟩ := f2_1 h
    cases h1.bool
    subst e
    exact .inr ⟨_, rfl, k _ H .refl (.int _)⟩
  · cases hz
/-- str of an int, of a text -/
def fStr : List D → Option D
  | [.int i] => if i.natAbs.log2 < 1920 then some (.str (toString i)) else none
  | [.str x] => some (.str x)
  | _ => none
def rStr : List V → Hp → VK → Prop := fun xs H Q => (∃ i, xs = [.int i] ∧ i.natAbs.log2 < 1920 ∧ Q (.str (toString i)) H) ∨ ∃ a, xs = [.str a] ∧ Q (.str a) H
theorem cr_str {X : Cx} : CallR X (.type "str") rStr := by
  intro pins s σ H xs us Q I r h
  rcases h with h | h
  · exact call_str_int pins s σ H xs us Q I r h
  · exact SkE.call_str_str pins s σ H xs us Q I r h
theorem cv_str {K : Fg} : CallV K rStr fStr := by
  intro H O xs ds z Q c h hz k
  unfold fStr at hz
  split at hz
  · split at hz
    · rename_i hl
      cases hz
      obtain ⟨a, e, h1⟩ := f2_1 h
      cases h1.int
      subst e
      exact .inl ⟨_, rfl, hl, k _ H .refl (.str _)⟩
    · cases hz
  · cases hz
    obtain ⟨a, e, h1⟩ := f2_1 h
    cases h1.str
    subst e
    exact .inr ⟨_, rfl, k _ H .refl (.str _)⟩
  · cases hz
def intsOf : List D → Option (List Int)
  | [] => some []
  | .int i :: r => (intsOf r).map fun is => i :: is
  | _ :: _ => none
theorem intsOf_vs {K : Fg} {H : Hp} {O : OS} : ∀ {ds : List D} {is : List Int} {vs : List V}, intsOf ds = some is → RDs K H O vs ds → vs = is.map V.int
  | [], is, vs, e, h => by cases e; cases h; rfl
  | d :: r, is, vs, e, h => by
    cases h with
    | cons h1 h2 =>
      cases d with
      | int i =>
        obtain ⟨js, e1, e2⟩ := Option.map_eq_some_iff.mp e
        subst e2
        cases h1
        rw [intsOf_vs e1 h2]
        rfl
      | _ => cases e
def boolsOf : List D → Option (List Bool)
  | [] => some []
  | .bool i :: r => (boolsOf r).map fun is => i :: is
  | _ :: _ => none
theorem boolsOf_vs {K : Fg} {H : Hp} {O : OS} : ∀ {ds : List D} {is : List Bool} {vs : List V}, boolsOf ds = some is → RDs K H O vs ds → vs = is.map V.bl
  | [], is, vs, e, h => by cases e; cases h; rfl
  | d :: r, is, vs, e, h => by
    cases h with
    | cons h1 h2 =>
      cases d with
      | bool i =>
        obtain ⟨js, e1, e2⟩ := Option.map_eq_some_iff.mp e
        subst e2
        cases h1
        rw [boolsOf_vs e1 h2]
        rfl
      | _ => cases e
def strsOf : List D → Option (List Str)
  | [] => some []
  | .str i :: r => (strsOf r).map fun is => i :: is
  | _ :: _ => none
theorem strsOf_vs {K : Fg} {H : Hp} {O : OS} : ∀ {ds : List D} {is : List Str} {vs : List V}, strsOf ds = some is → RDs K H O vs ds → vs = is.map V.str
  | [], is, vs, e, h => by cases e; cases h; rfl
  | d :: r, is, vs, e, h => by
    cases h with
    | cons h1 h2 =>
      cases d with
      | str i =>
        obtain ⟨js, e1, e2⟩ := Option.map_eq_some_iff.mp e
        subst e2
        cases h1
        rw [strsOf_vs e1 h2]
        rfl
      | _ => cases e
def fSum : List D → Option D
  | [.list xs] => (intsOf xs).map fun is => .int is.sum
  | _ => none
theorem cv_sum {K : Fg} : CallV K (rSum K) fSum := by
  intro H O xs ds z Q c h hz k
  unfold fSum at hz
  split at hz
  · obtain ⟨is, e1, e2⟩ := Option.map_eq_some_iff.mp hz
    subst e2
    obtain ⟨a, e, h1⟩ := f2_1 h
    obtain ⟨ad, vs, e3, q1, q2⟩ := h1.lst
    subst e e3
    have e4 := intsOf_vs e1 q2
    subst e4
    exact ⟨_, is, rfl, SqL.of q1, k _ H .refl (.int _)⟩
  · cases hz
def fAll : List D → Option D
  | [.list xs] => (boolsOf xs).map fun is => .bool (is.all id)
  | _ => none
def fAny : List D → Option D
  | [.list xs] => (boolsOf xs).map fun is => .bool (is.any id)
  | _ => none
theorem cv_all {K : Fg} : CallV K (rAll K) fAll := by
  intro H O xs ds z Q c h hz k
  unfold fAll at hz
  split at hz
  · obtain ⟨is, e1, e2⟩ := Option.map_eq_some_iff.mp hz
    subst e2
    obtain ⟨a, e, h1⟩ := f2_1 h
    obtain ⟨ad, vs, e3, q1, q2⟩ := h1.lst
    subst e e3
    have e4 := boolsOf_vs e1 q2
    subst e4
    exact ⟨_, is, rfl, SqL.of q1, k _ H .refl (.bl _)⟩
  · cases hz
theorem cv_any {K : Fg} : CallV K (rAny K) fAny := by
  intro H O xs ds z Q c h hz k
  unfold fAny at hz
  split at hz
  · obtain ⟨is, e1, e2⟩ := Option.map_eq_some_iff.mp hz
    subst e2
    obtain ⟨a, e, h1⟩ := f2_1 h
    obtain ⟨ad, vs, e3, q1, q2⟩ := h1.lst
    subst e e3
    have e4 := boolsOf_vs e1 q2
    subst e4
    exact ⟨_, is, rfl, SqL.of q1, k _ H .refl (.bl _)⟩
  · cases hz
def fTuple : List D → Option D
  | [.list xs] => some (.tuple xs)
  | [.tuple xs] => some (.tuple xs)
  | _ => none
theorem cv_tuple {K : Fg} : CallV K (fun xs H Q => ∃ p ys, xs = [.ref p] ∧ ((SqL K H p ys ∧ ∀ l, H l = none → Q (.ref l) (upd H l (.tup ys))) ∨ (SqT K H p ys ∧ Q (.ref p) H))) fTuple := by
  intro H O xs ds z Q c h hz k
  unfold fTuple at hz
  split at hz
  · cases hz
    obtain ⟨a, e, h1⟩ := f2_1 h
    obtain ⟨ad, vs, e3, q1, q2⟩ := h1.lst
    subst e e3
    exact ⟨_, _, rfl, .inl ⟨SqL.of q1, fun l n => k _ _ (Grow.new n) (.newT c n q2)⟩⟩
  · cases hz
    obtain ⟨a, e, h1⟩ := f2_1 h
    obtain ⟨q0, ad, vs, e3, q1, q2⟩ := h1.tup
    subst e e3
    exact ⟨_, _, rfl, .inr ⟨q1, k _ _ .refl q0⟩⟩
  · cases hz
def fList : List D → Option (List D)
  | [.list xs] => some xs
  | [.tuple xs] => some xs
  | _ => none
theorem cn_list {K : Fg} : CallN K (fun xs H Q => ∃ p ys, xs = [.ref p] ∧ (SqL K H p ys ∨ SqT K H p ys) ∧ ∀ l, H l = none → Q (.ref l) (upd H l (.lst ys))) fList := by
  intro H O xs ds z Q c h hz k
  unfold fList at hz
  split at hz
  · cases hz
    obtain ⟨a, e, h1⟩ := f2_1 h
    obtain ⟨ad, vs, e3, q1, q2⟩ := h1.lst
    subst e e3
    exact ⟨_, _, rfl, .inl (SqL.of q1), fun l n => k l vs H .refl n q2⟩
  · cases hz
    obtain ⟨a, e, h1⟩ := f2_1 h
    obtain ⟨q0, ad, vs, e3, q1, q2⟩ := h1.tup
    subst e e3
    exact ⟨_, _, rfl, .inr q1, fun l n => k l vs H .refl n q2⟩
  · cases hz
/-- repr of data -/
def rRepr (K : Fg) : List V → Hp → VK → Prop := fun xs H Q => ∃ x d, xs = [x] ∧ Dp K H x d ∧ d.showable = true ∧ d.hasDict = false ∧ d.depth ≤ 100 ∧ d.shown.length ≤ sizeLine ∧ Q (.str d.shown) H
theorem cr_repr {X : Cx} (gd : X.A.guards = some []) (hu : X.A.units + 200 < cLine) : CallR X (.builtin "repr") (rRepr X.K) := by
  intro pins s σ H xs us Q I r h
  obtain ⟨x, d, e, dp, h1, h2, h3, h4, q⟩ := h
  subst e
  obtain ⟨u, rfl, rx⟩ := vals1 r
  have fin : ∀ (h' : Heap) (t : Tok) (tk : Nat), (∀ b o, s.heap.get? b = some o → h'.get? b = some o) → EP X pins σ Q (.str d.shown t) { s with heap := h', toks := tk } := fun h' t tk hk => ⟨.str d.shown, H, I.kept hk, ⟨t, rfl⟩, q⟩
  obtain ⟨as, rd⟩ := Dp.reads I d x u dp rx
  cases rd with
  | none => exact PySem.P.repr_of_none (fin s.heap _ _ fun _ _ e => e)
  | bool b => exact PySem.P.repr_of_bool (fin s.heap _ _ fun _ _ e => e)
  | int i t => exact PySem.P.repr_of_int (of_decide_eq_true h1) (fin s.heap _ _ fun _ _ e => e)
  | str y t => exact PySem.P.repr_of_str (fin s.heap _ _ fun _ _ e => e) h4
  | list a1 a2 a3 a4 => exact repr_of_reads' (.list a1 a2 a3 a4) h1 (fun z => by rw [h2] at z; cases z) gd (by omega) (fun _ _ e => e) (fun h' t tk hk => fin h' t tk hk) h4
  | tuple a1 a2 a3 a4 => exact repr_of_reads' (.tuple a1 a2 a3 a4) h1 (fun z => by rw [h2] at z; cases z) gd (by omega) (fun _ _ e => e) (fun h' t tk hk => fin h' t tk hk) h4
  | dict a1 a2 a3 a4 a5 => cases h2
def fRepr : List D → Option D
  | [d] => if d.showable = true ∧ d.hasDict = false ∧ d.depth ≤ 100 ∧ d.shown.length ≤ sizeLine then some (.str d.shown) else none
  | _ => none
theorem cv_repr {K : Fg} : CallV K (rRepr K) fRepr := by
  intro H O xs ds z Q c h hz k
  unfold fRepr at hz
  split at hz
  · split at hz
    · rename_i d hc
      cases hz
      obtain ⟨a, e, h1⟩ := f2_1 h
      subst e
      exact ⟨a, d, rfl, h1.dp, hc.1, hc.2.1, hc.2.2.1, hc.2.2.2, k _ H .refl (.str _)⟩
    · cases hz
  · cases hz
section
variable {qs : Env → Option (List D)} {pp : Pos}
theorem Cxt.Ok.units2 {X : Cx} (o : S.Ok X) : X.A.units + 200 < cLine := by
  have := o.room.un
  omega
abbrev xLen (q : Env → Option (List D)) := xCall fLen q
theorem jp_len (hg : Gn S "len") (hm : S.mg "len" = none) (ha : JAB S [e] qs) (he : ∀ env, starEach [e] env = [(false, eval e env)] := by intro _; rfl) : JP S (.Call (.Name "len" pp) [e] [] pos) (xCall fLen qs) :=
  jp_callB (r := fun K xs H Q => ∃ x n, xs = [x] ∧ LenV K x H n ∧ Q (.int n) H) (fun _ _ => call_len) cv_len hg hm PySem.boot_len ha (by decide) (by decide) he (fun _ => rfl)
theorem jp_abs (hg : Gn S "abs") (hm : S.mg "abs" = none) (ha : JAB S [e] qs) (he : ∀ env, starEach [e] env = [(false, eval e env)] := by intro _; rfl) : JP S (.Call (.Name "abs" pp) [e] [] pos) (xCall fAbs qs) :=
  jp_callB (r := fun _ xs H Q => ∃ i, xs = [.int i] ∧ Q (.int (if i < 0 then -i else i)) H) (fun _ _ => call_abs) cv_abs hg hm (by decide +kernel) ha (by decide) (by decide) he (fun _ => rfl)
theorem jp_sum (hg : Gn S "sum") (hm : S.mg "sum" = none) (ha : JAB S [e] qs) (he : ∀ env, starEach [e] env = [(false, eval e env)] := by intro _; rfl) : JP S (.Call (.Name "sum" pp) [e] [] pos) (xCall fSum qs) :=
  jp_callB (r := rSum) (fun _ o => cr_sum o.calm) cv_sum hg hm (by decide +kernel) ha (by decide) (by decide) he (fun _ => rfl)
theorem jp_all (hg : Gn S "all") (hm : S.mg "all" = none) (ha : JAB S [e] qs) (he : ∀ env, starEach [e] env = [(false, eval e env)] := by intro _; rfl) : JP S (.Call (.Name "all" pp) [e] [] pos) (xCall fAll qs) :=
  jp_callB (r := rAll) (fun _ o => cr_all o.calm) cv_all hg hm (by decide +kernel) ha (by decide) (by decide) he (fun _ => rfl)
theorem jp_any (hg : Gn S "any") (hm : S.mg "any" = none) (ha : JAB S [e] qs) (he : ∀ env, starEach [e] env = [(false, eval e env)] := by intro _; rfl) : JP S (.Call (.Name "any" pp) [e] [] pos) (xCall fAny qs) :=
  jp_callB (r := rAny) (fun _ o => cr_any o.calm) cv_any hg hm (by decide +kernel) ha (by decide) (by decide) he (fun _ => rfl)
theorem jp_repr (hg : Gn S "repr") (hm : S.mg "repr" = none) (ha : JAB S [e] qs) (he : ∀ env, starEach [e] env = [(false, eval e env)] := by intro _; rfl) : JP S (.Call (.Name "repr" pp) [e] [] pos) (xCall fRepr qs) :=
  jp_callB (r := rRepr) (fun _ o => cr_repr o.gd o.units2) cv_repr hg hm (by decide +kernel) ha (by decide) (by decide) he (fun _ => rfl)
theorem jp_max2 (hg : Gn S "max") (hm : S.mg "max" = none) (ha : JAB S [e1, e2] qs) (he : ∀ env, starEach [e1, e2] env = [(false, eval e1 env), (false, eval e2 env)] := by intro _; rfl) (he2 : ∀ env, starEach [e2] env = [(false, eval e2 env)] := by intro _; rfl) : JP S (.Call (.Name "max" pp) [e1, e2] [] pos) (xCall fMax qs) :=
  jp_callB (r := fun _ xs H Q => ∃ i j, xs = [.int i, .int j] ∧ Q (.int (if j > i then j else i)) H) (fun _ o => call_max2 o.calm) cv_max hg hm (by decide +kernel) ha (by decide) (by decide) (fun env => by rw [he, he2]) (fun env => by rw [he2]; rfl)
theorem jp_min2 (hg : Gn S "min") (hm : S.mg "min" = none) (ha : JAB S [e1, e2] qs) (he : ∀ env, starEach [e1, e2] env = [(false, eval e1 env), (false, eval e2 env)] := by intro _; rfl) (he2 : ∀ env, starEach [e2] env = [(false, eval e2 env)] := by intro _; rfl) : JP S (.Call (.Name "min" pp) [e1, e2] [] pos) (xCall fMin qs) :=
  jp_callB (r := fun _ xs H Q => ∃ i j, xs = [.int i, .int j] ∧ Q (.int (if j < i then j else i)) H) (fun _ o => call_min2 o.calm) cv_min hg hm (by decide +kernel) ha (by decide) (by decide) (fun env => by rw [he, he2]) (fun env => by rw [he2]; rfl)
theorem jp_intC (hg : Gn S "int") (hm : S.mg "int" = none) (ha : JAB S [e] qs) (he : ∀ env, starEach [e] env = [(false, eval e env)] := by intro _; rfl) : JP S (.Call (.Name "int" pp) [e] [] pos) (xCall fInt qs) :=
  jp_callT (r := fun _ xs H Q => (∃ i, xs = [.int i] ∧ Q (.int i) H) ∨ ∃ k, xs = [.bl k] ∧ Q (.int (if k then 1 else 0)) H) (fun _ _ => call_int1) cv_int hg hm (by decide +kernel) ha (by decide) (by decide) he (fun _ => rfl)
theorem jp_strC (hg : Gn S "str") (hm : S.mg "str" = none) (ha : JAB S [e] qs) (he : ∀ env, starEach [e] env = [(false, eval e env)] := by intro _; rfl) : JP S (.Call (.Name "str" pp) [e] [] pos) (xCall fStr qs) :=
  jp_callT (r := fun _ => rStr) (fun _ _ => cr_str) cv_str hg hm (by decide +kernel) ha (by decide) (by decide) he (fun _ => rfl)
theorem jp_tuple (hg : Gn S "tuple") (hm : S.mg "tuple" = none) (ha : JAB S [e] qs) (he : ∀ env, starEach [e] env = [(false, eval e env)] := by intro _; rfl) : JP S (.Call (.Name "tuple" pp) [e] [] pos) (xCall fTuple qs) :=
  jp_callT (r := fun K xs H Q => ∃ p ys, xs = [.ref p] ∧ ((SqL K H p ys ∧ ∀ l, H l = none → Q (.ref l) (upd H l (.tup ys))) ∨ (SqT K H p ys ∧ Q (.ref p) H))) (fun _ _ => call_tuple_of) cv_tuple hg hm (by decide +kernel) ha (by decide) (by decide) he (fun _ => rfl)
theorem jo_list (hg : Gn S "list") (hm : S.mg "list" = none) (ha : JAB S [e] qs) (he : ∀ env, starEach [e] env = [(false, eval e env)] := by intro _; rfl) : JO S (.Call (.Name "list" pp) [e] [] pos) (oCall fList qs) :=
  jo_callT (r := fun K xs H Q => ∃ p ys, xs = [.ref p] ∧ (SqL K H p ys ∨ SqT K H p ys) ∧ ∀ l, H l = none → Q (.ref l) (upd H l (.lst ys))) (fun _ _ => call_list_of) cn_list hg hm (by decide +kernel) ha (by decide) (by decide) he (fun _ => rfl)
end
end
end ML
/-! ML6: pieces that change owned objects; defs and their calls. -/
namespace ML
open PySem L2

/-! ### outcomes -/
def Res.bind {α β : Type} : Res α → (Env → α → Res β) → Res β
  | .ok env a, k => k env a
  | .err env x, _ => .err env x
  | .bad, _ => .bad
def RPost (S : Cxt) {α : Type} (σ : L2.St) (H : Hp) (O : OS) (T : List Addr) (R : Hp → OS → Env → α → Prop) : Res α → Prop
  | .ok env a => ∀ H' O', Sit S.K S.A σ H' O' env T → Tr T H O H' O' → R H' O' env a
  | .err env x => ∀ cls dd H' O', Sit S.K S.A σ H' O' env T → Tr T H O H' O' → ExR S.K S.mg H' O' x cls dd → S.W cls dd σ H'
  | .bad => False
section
variable {S : Cxt} {σ : L2.St} {H : Hp} {O : OS} {T : List Addr}
theorem rp_mono {α : Type} {R R' : Hp → OS → Env → α → Prop} {r : Res α} (h : RPost S σ H O T R r) (k : ∀ H' O' env a, r = .ok env a → Sit S.K S.A σ H' O' env T → Tr T H O H' O' → R H' O' env a → R' H' O' env a) : RPost S σ H O T R' r := by
  cases r with
  | ok env a => exact fun H' O' s t => k H' O' env a rfl s t (h H' O' s t)
  | err env x => exact h
  | bad => exact h
theorem rp_tr {α : Type} {R : Hp → OS → Env → α → Prop} {r : Res α} {H1 : Hp} {O1 : OS} (h : RPost S σ H O T R r) (t : Tr T H O H1 O1) : RPost S σ H1 O1 T R r := by
  cases r with
  | ok env a => exact fun H' O' s t' => h H' O' s (t.trans t')
  | err env x => exact fun cls dd H' O' s t' => h cls dd H' O' s (t.trans t')
  | bad => exact h
theorem rp_bind {α β : Type} {R : Hp → OS → Env → β → Prop} {R1 : Hp → OS → Env → α → Prop} {r : Res α} {k : Env → α → Res β} (h : RPost S σ H O T R (r.bind k))
    (q : ∀ H1 O1 env a, r = .ok env a → Sit S.K S.A σ H1 O1 env T → Tr T H O H1 O1 → RPost S σ H1 O1 T R (k env a) → R1 H1 O1 env a) : RPost S σ H O T R1 r := by
  cases r with
  | ok env a => exact fun H1 O1 s t => q H1 O1 env a rfl s t (rp_tr h t)
  | err env x => exact h
  | bad => exact h
end

section
variable (S : Cxt)
/-- data comes back -/
def SemD (t : TE) (f : Env → Res D) : Prop := ∀ (σ : L2.St) (H : Hp) (O : OS) (env : Env) (T : List Addr) (Q : VK), Sit S.K S.A σ H O env T →
  RPost S σ H O T (fun H' O' _ d => ∀ v, RD S.K H' O' v d → Q v H') (f env) → t σ H Q
def SemT (t : TT) (f : Env → Res Bool) : Prop := ∀ (σ : L2.St) (H : Hp) (O : OS) (env : Env) (T : List Addr) (Q : Bool → Hp → Prop), Sit S.K S.A σ H O env T →
  RPost S σ H O T (fun H' _ _ b => Q b H') (f env) → t σ H Q
/-- any value comes back, its own objects at fq -/
def VPost (σ : L2.St) (H : Hp) (O : OS) (T : List Addr) (Q : VK) : Res SV → Prop
  | .ok env s => ∀ v H' O' fq, Sit S.K S.A σ H' O' env (fq ++ T) → RS S.K S.A H' O' v s fq → Tr T H O H' O' → Q v H'
  | .err env x => ∀ cls dd H' O', Sit S.K S.A σ H' O' env T → Tr T H O H' O' → ExR S.K S.mg H' O' x cls dd → S.W cls dd σ H'
  | .bad => False
def SemE (t : TE) (f : Env → Res SV) : Prop := ∀ (σ : L2.St) (H : Hp) (O : OS) (env : Env) (T : List Addr) (Q : VK), Sit S.K S.A σ H O env T → VPost S σ H O T Q (f env) → t σ H Q
def JD (e : Expr) (f : Env → Res D) : Prop := ∃ t, (∀ X, S.Ok X → PE X e t) ∧ SemD S t f
def JT (e : Expr) (f : Env → Res Bool) : Prop := ∃ t, (∀ X, S.Ok X → PT X e t) ∧ SemT S t f
def JE (e : Expr) (f : Env → Res SV) : Prop := ∃ t, (∀ X, S.Ok X → PE X e t) ∧ SemE S t f
end
/-- of a pure piece -/
def up {α : Type} (p : Env → Option α) (env : Env) : Res α := match p env with
  | some a => .ok env a
  | none => .bad
def upO (p : Env → Option (List D)) (env : Env) : Res SV := match p env with
  | some xs => .ok env (.own none (.lst xs))
  | none => .bad
def dRes : Res SV → Res D
  | .ok env (.dat d) => .ok env d
  | .ok env (.own none (.lst xs)) => .ok env (.list xs)
  | .err env x => .err env x
  | _ => .bad
def vRes : Res D → Res SV
  | .ok env d => .ok env (.dat d)
  | .err env x => .err env x
  | .bad => .bad
section
variable {S : Cxt} {e e1 e2 : Expr} {es : List Expr} {p q : Env → Option D} {pos : Pos}
theorem JP.toD (h : JP S e p) : JD S e (up p) := by
  obtain ⟨t, h1, h2⟩ := h
  refine ⟨t, h1, fun σ H O env T Q s r => ?_⟩
  unfold up at r
  cases e : p env with
  | none => simp only [e] at r; exact r.elim
  | some d =>
    simp only [e] at r
    exact h2 σ H O env T d Q s e fun v H' g k => r H' O (s.grow g) (s.gtr g) v k
theorem JTP.toT {u : Env → Option Bool} (h : JTP S e u) : JT S e (up u) := by
  obtain ⟨t, h1, h2⟩ := h
  refine ⟨t, h1, fun σ H O env T Q s r => ?_⟩
  unfold up at r
  cases e : u env with
  | none => simp only [e] at r; exact r.elim
  | some d =>
    simp only [e] at r
    exact h2 σ H O env T d Q s e fun H' g => r H' O (s.grow g) (s.gtr g)
theorem JD.toE {f : Env → Res D} (h : JD S e f) : JE S e (fun env => vRes (f env)) := by
  obtain ⟨t, h1, h2⟩ := h
  refine ⟨t, h1, fun σ H O env T Q s r => h2 σ H O env T Q s ?_⟩
  cases e : f env with
  | ok env' d =>
    simp only [e] at r
    exact fun H' O' s' t' v k => r v H' O' [] s' (.dat k) t'
  | err env' x => simp only [e] at r; exact r
  | bad => simp only [e] at r; exact r
theorem JO.toE {po : Env → Option (List D)} (h : JO S e po) : JE S e (upO po) := by
  obtain ⟨t, h1, h2⟩ := h
  refine ⟨t, h1, fun σ H O env T Q s r => ?_⟩
  unfold upO at r
  cases e : po env with
  | none => simp only [e] at r; exact r.elim
  | some ds =>
    simp only [e] at r
    refine h2 σ H O env T ds Q s e fun q vs H' g n k => ?_
    obtain ⟨O', s1, r1, t1⟩ := (s.grow g).adopt n k
    exact r _ _ O' [q] s1 r1 ((s.gtr g).trans t1)
theorem JE.toD {f : Env → Res SV} (h : JE S e f) : JD S e (fun env => dRes (f env)) := by
  obtain ⟨t, h1, h2⟩ := h
  refine ⟨t, h1, fun σ H O env T Q s r => h2 σ H O env T Q s ?_⟩
  cases e : f env with
  | ok env' sv =>
    simp only [e] at r
    cases sv with
    | dat d =>
      intro v H' O' fq s' k t'
      cases k with
      | dat k => exact r H' O' s' t' v k
    | own tag c =>
      cases tag with
      | none =>
        cases c with
        | lst xs =>
          intro v H' O' fq s' k t'
          obtain ⟨O2, s2, k2, t2⟩ := s'.freeze k
          exact r H' O2 s2 (t'.trans t2) v k2
        | dct _ => exact r.elim
        | ins _ _ => exact r.elim
      | some _ => exact r.elim
    | un => exact r.elim
    | raw _ => exact r.elim
    | frz _ => exact r.elim
  | err env' x => simp only [e] at r; exact r
  | bad => simp only [e] at r; exact r

/-! ### operations on pieces with effects -/
def yOp (f : D → D → Option D) (a b : Env → Res D) (env : Env) : Res D := (a env).bind fun env1 x => (b env1).bind fun env2 y => match f x y with | some z => .ok env2 z | none => .bad
section
variable {fa fb : Env → Res D}
theorem opv_post {K : Fg} {r : R2} {f : D → D → Option D} (hf : OpV S.K r f) {σ : L2.St} {H : Hp} {O : OS} {T : List Addr} {env : Env} {Q : VK} {v w : V} {x y : D} (s : Sit S.K S.A σ H O env T) (rv : RD S.K H O v x) (rw' : RD S.K H O w y)
    (h : RPost S σ H O T (fun H' O' _ d => ∀ v, RD S.K H' O' v d → Q v H') (match f x y with | some z => Res.ok env z | none => .bad)) : r v w H Q := by
  cases e : f x y with
  | none => rw [e] at h; exact h.elim
  | some z =>
    rw [e] at h
    exact hf H O v w x y z Q s.oc (.inl rv) (.inl rw') e fun v' H' g k => h H' O (s.grow g) (s.gtr g) v' k
theorem jd_op {op : Operator} {r : Fg → R2} {f : D → D → Option D} (ho : ∀ X, S.Ok X → OpR X (binaryOp op) (r X.K)) (hf : OpV S.K (r S.K) f) (ha : JD S e1 fa) (hb : JD S e2 fb) : JD S (.BinOp e1 op e2 pos) (yOp f fa fb) := by
  obtain ⟨t, h1, h2⟩ := ha
  obtain ⟨u, h3, h4⟩ := hb
  refine ⟨tOp (r S.K) t u, fun X o => by have z := ho X o; rw [o.K] at z; exact pe_op z (h1 X o) (h3 X o), fun σ H O env T Q s k => ?_⟩
  refine h2 σ H O env T _ s (rp_bind k fun H1 O1 env1 x _ s1 t1 k1 v rv => ?_)
  refine h4 σ H1 O1 env1 T _ s1 (rp_bind k1 fun H2 O2 env2 y _ s2 t2 k2 w rw' => ?_)
  exact opv_post (K := S.K) hf s2 (RD.sta t2.1 _ _ rv) rw' k2
theorem jd_cmp {op : CmpOp} {r : Fg → R2} {f : D → D → Option D} (ho : ∀ X, S.Ok X → OpR X (compareOp op) (r X.K)) (hf : OpV S.K (r S.K) f) (ha : JD S e1 fa) (hb : JD S e2 fb) (hm : behindInMarks op e2 = false) : JD S (.Compare e1 [op] [e2] pos) (yOp f fa fb) := by
  obtain ⟨t, h1, h2⟩ := ha
  obtain ⟨u, h3, h4⟩ := hb
  refine ⟨tOp (r S.K) t u, fun X o => by have z := ho X o; rw [o.K] at z; exact pe_cmpR z (h1 X o) (h3 X o) hm, fun σ H O env T Q s k => ?_⟩
  refine h2 σ H O env T _ s (rp_bind k fun H1 O1 env1 x _ s1 t1 k1 v rv => ?_)
  refine h4 σ H1 O1 env1 T _ s1 (rp_bind k1 fun H2 O2 env2 y _ s2 t2 k2 w rw' => ?_)
  exact opv_post (K := S.K) hf s2 (RD.sta t2.1 _ _ rv) rw' k2
theorem jd_ix (ha : JD S e1 fa) (hb : JD S e2 fb) (hs : PlainIx e2 := by intro _ _; rfl) : JD S (.Subscript e1 e2 pos) (yOp dIx fa fb) := by
  obtain ⟨t, h1, h2⟩ := ha
  obtain ⟨u, h3, h4⟩ := hb
  refine ⟨tOp (rIx S.K) t u, fun X o => by have z := pe_ix (pos := pos) (ix_seq (X := X)) (h1 X o) (h3 X o) hs; rw [o.K] at z; exact z, fun σ H O env T Q s k => ?_⟩
  refine h2 σ H O env T _ s (rp_bind k fun H1 O1 env1 x _ s1 t1 k1 v rv => ?_)
  refine h4 σ H1 O1 env1 T _ s1 (rp_bind k1 fun H2 O2 env2 y _ s2 t2 k2 w rw' => ?_)
  exact opv_post (K := S.K) ov_ix s2 (RD.sta t2.1 _ _ rv) rw' k2
def bRes : Res D → Res Bool
  | .ok env (.bool b) => .ok env b
  | .err env x => .err env x
  | _ => .bad
theorem jt_val (h : JD S e fa) (he : ∀ env whole, isTrue e env whole = (do let v ← whole; standAt e.pos; holding [v] (truthy v)) := by intro _ _; rfl) : JT S e (fun env => bRes (fa env)) := by
  obtain ⟨t, h1, h2⟩ := h
  refine ⟨tB t, fun X o => pt_val (h1 X o) (he _), fun σ H O env T Q s k => h2 σ H O env T _ s ?_⟩
  cases e : fa env with
  | ok env' d =>
    simp only [e] at k
    cases d with
    | bool b =>
      intro H' O' s' t' v rv
      cases rv
      exact ⟨b, rfl, k H' O' s' t'⟩
    | _ => exact k.elim
  | err env' x => simp only [e] at k; exact k
  | bad => simp only [e] at k; exact k
theorem jt_cmp {op : CmpOp} {r : Fg → R2} {f : D → D → Option D} (ho : ∀ X, S.Ok X → OpR X (compareOp op) (r X.K)) (hf : OpV S.K (r S.K) f) (ha : JD S e1 fa) (hb : JD S e2 fb) (hm : behindInMarks op e2 = false) : JT S (.Compare e1 [op] [e2] pos) (fun env => bRes (yOp f fa fb env)) := by
  obtain ⟨t, h1, h2⟩ := ha
  obtain ⟨u, h3, h4⟩ := hb
  refine ⟨tTest (tOp (r S.K) t u), fun X o => by have z := ho X o; rw [o.K] at z; exact pt_cmpR z (h1 X o) (h3 X o) hm, fun σ H O env T Q s k => ?_⟩
  have k' : RPost S σ H O T (fun H' O' _ d => ∀ v, RD S.K H' O' v d → ∃ b, v = .bl b ∧ Q b H') (yOp f fa fb env) := by
    cases e : yOp f fa fb env with
    | ok env' d =>
      simp only [e] at k
      cases d with
      | bool b =>
        intro H' O' s' t' v rv
        cases rv
        exact ⟨b, rfl, k H' O' s' t'⟩
      | _ => exact k.elim
    | err env' x => simp only [e] at k; exact k
    | bad => simp only [e] at k; exact k
  refine h2 σ H O env T _ s (rp_bind k' fun H1 O1 env1 x _ s1 t1 k1 v rv => ?_)
  refine h4 σ H1 O1 env1 T _ s1 (rp_bind k1 fun H2 O2 env2 y _ s2 t2 k2 w rw' => ?_)
  exact opv_post (K := S.K) (Q := fun v H' => ∃ b, v = .bl b ∧ Q b H') hf s2 (RD.sta t2.1 _ _ rv) rw' k2
/-- and, or, not -/
def JW (S : Cxt) (e : Expr) (f : Env → Res Bool) : Prop := ∃ t, (∀ X, S.Ok X → PW X e t) ∧ SemT S t f
section
variable {u v : Env → Res Bool} {rest : List Expr}
def yAnd (u v : Env → Res Bool) (env : Env) : Res Bool := (u env).bind fun env1 b => if b then v env1 else .ok env1 false
def yOr (u v : Env → Res Bool) (env : Env) : Res Bool := (u env).bind fun env1 b => if b then .ok env1 true else v env1
def yNot (u : Env → Res Bool) (env : Env) : Res Bool := (u env).bind fun env1 b => .ok env1 (!b)
theorem jw_and1' (h : JT S e1 u) : JW S (.BoolOp .And [e1] pos) u := by
  obtain ⟨t, h1, h2⟩ := h
  exact ⟨t, fun X o => pw_and1 (h1 X o), h2⟩
theorem jw_or1' (h : JT S e1 u) : JW S (.BoolOp .Or [e1] pos) u := by
  obtain ⟨t, h1, h2⟩ := h
  exact ⟨t, fun X o => pw_or1 (h1 X o), h2⟩
theorem jw_and' (h : JT S e1 u) (k : JW S (.BoolOp .And (e2 :: rest) pos) v) : JW S (.BoolOp .And (e1 :: e2 :: rest) pos) (yAnd u v) := by
  obtain ⟨t, h1, h2⟩ := h
  obtain ⟨t', h3, h4⟩ := k
  refine ⟨tAnd t t', fun X o => pw_and (h1 X o) (h3 X o), fun σ H O env T Q s k => h2 σ H O env T _ s (rp_bind k fun H1 O1 env1 b _ s1 t1 k1 => ?_)⟩
  cases b with
  | true => exact h4 σ H1 O1 env1 T Q s1 k1
  | false => exact k1 H1 O1 s1 s1.rtr
theorem jw_or' (h : JT S e1 u) (k : JW S (.BoolOp .Or (e2 :: rest) pos) v) : JW S (.BoolOp .Or (e1 :: e2 :: rest) pos) (yOr u v) := by
  obtain ⟨t, h1, h2⟩ := h
  obtain ⟨t', h3, h4⟩ := k
  refine ⟨tOr t t', fun X o => pw_or (h1 X o) (h3 X o), fun σ H O env T Q s k => h2 σ H O env T _ s (rp_bind k fun H1 O1 env1 b _ s1 t1 k1 => ?_)⟩
  cases b with
  | false => exact h4 σ H1 O1 env1 T Q s1 k1
  | true => exact k1 H1 O1 s1 s1.rtr
theorem JW.toT (h : JW S e u) : JT S e u := by
  obtain ⟨t, h1, h2⟩ := h
  exact ⟨t, fun X o => (h1 X o).pt, h2⟩
theorem jt_not (h : JT S e1 u) : JT S (.UnaryOp .Not e1 pos) (yNot u) := by
  obtain ⟨t, h1, h2⟩ := h
  exact ⟨tNot t, fun X o => pt_not (h1 X o), fun σ H O env T Q s k => h2 σ H O env T _ s (rp_bind k fun H1 O1 env1 b _ s1 t1 k1 => k1 H1 O1 s1 s1.rtr)⟩
def yIf {α : Type} (u : Env → Res Bool) (a b : Env → Res α) (env : Env) : Res α := (u env).bind fun env1 c => if c then a env1 else b env1
theorem jd_if {c : Expr} (h : JT S c u) (ha : JD S e1 fa) (hb : JD S e2 fb) : JD S (.IfExp c e1 e2 pos) (yIf u fa fb) := by
  obtain ⟨t, h1, h2⟩ := h
  obtain ⟨ta, h3, h4⟩ := ha
  obtain ⟨tb, h5, h6⟩ := hb
  refine ⟨tIf t ta tb, fun X o => pe_ifExp (h1 X o) (h3 X o) (h5 X o), fun σ H O env T Q s k => h2 σ H O env T _ s (rp_bind k fun H1 O1 env1 b _ s1 t1 k1 => ?_)⟩
  cases b with
  | true => exact h4 σ H1 O1 env1 T Q s1 k1
  | false => exact h6 σ H1 O1 env1 T Q s1 k1
/-- and, or, not as values -/
def JV' (S : Cxt) (e : Expr) (f : Env → Res Bool) : Prop := JD S e (fun env => (f env).bind fun env1 b => .ok env1 (.bool b))
end
/-! ### arguments and displays -/
def SemDA (S : Cxt) (t : TA) (f : Env → Res (List D)) : Prop := ∀ (σ : L2.St) (H : Hp) (O : OS) (env : Env) (T : List Addr) (Q : List V → Hp → Prop), Sit S.K S.A σ H O env T →
  RPost S σ H O T (fun H' O' _ ds => ∀ vs, RDs S.K H' O' vs ds → Q vs H') (f env) → t σ H Q
def JDA (S : Cxt) (es : List Expr) (f : Env → Res (List D)) : Prop := ∃ t, (∀ X, S.Ok X → PA X es t) ∧ SemDA S t f
def yNil (env : Env) : Res (List D) := .ok env []
def yCons (a : Env → Res D) (b : Env → Res (List D)) (env : Env) : Res (List D) := (a env).bind fun env1 x => (b env1).bind fun env2 ds => .ok env2 (x :: ds)
theorem jda_nil : JDA S [] yNil := ⟨_, fun X o => pa_nil, fun σ H O env T Q s k => k H O s s.rtr [] .nil⟩
theorem jda_cons {fr : Env → Res (List D)} (ha : JD S e fa) (hr : JDA S es fr) (hs : ∀ env, starEach (e :: es) env = (false, eval e env) :: starEach es env := by intro _; rfl) : JDA S (e :: es) (yCons fa fr) := by
  obtain ⟨t, h1, h2⟩ := ha
  obtain ⟨u, h3, h4⟩ := hr
  refine ⟨tCons t u, fun X o => pa_cons (h1 X o) (h3 X o) (hs _), fun σ H O env T Q s k => ?_⟩
  refine h2 σ H O env T _ s (rp_bind k fun H1 O1 env1 x _ s1 t1 k1 v rv => ?_)
  refine h4 σ H1 O1 env1 T _ s1 (rp_bind k1 fun H2 O2 env2 ds _ s2 t2 k2 vs rs => ?_)
  exact k2 H2 O2 s2 s2.rtr _ (.cons (RD.sta t2.1 _ _ rv) rs)
def sized (f : Env → Res (List D)) (env : Env) : Res (List D) := (f env).bind fun env1 ds => if ds.length ≤ sizeLine then .ok env1 ds else .bad
theorem jd_tup {fr : Env → Res (List D)} {c} (h : JDA S es fr) : JD S (.Tuple es c pos) (fun env => (sized fr env).bind fun env1 ds => .ok env1 (.tuple ds)) := by
  obtain ⟨t, h1, h2⟩ := h
  refine ⟨tTup t, fun X o => pe_tup (h1 X o), fun σ H O env T Q s k => h2 σ H O env T _ s ?_⟩
  unfold sized at k
  cases e : fr env with
  | ok env1 ds =>
    simp only [e] at k
    by_cases hl : ds.length ≤ sizeLine
    · have k' : RPost S σ H O T (fun H' O' _ d => ∀ v, RD S.K H' O' v d → Q v H') (.ok env1 (.tuple ds)) := by
        simpa [Res.bind, hl] using k
      refine fun H1 O1 s1 t1 vs rs => ⟨by rw [rs.len]; exact hl, fun p n => ?_⟩
      exact k' _ O1 (s1.grow (Grow.new n)) (t1.trans (s1.gtr (Grow.new n))) _ (.newT s1.oc n rs)
    · have : False := by simpa [Res.bind, hl, RPost] using k
      exact this.elim
  | err env1 x => simp only [e] at k; exact k
  | bad => simp only [e] at k; exact k
theorem je_lst {fr : Env → Res (List D)} (h : JDA S es fr) : JE S (.List es pos) (fun env => (sized fr env).bind fun env1 ds => .ok env1 (.own none (.lst ds))) := by
  obtain ⟨t, h1, h2⟩ := h
  refine ⟨tLst t, fun X o => pe_lst (h1 X o), fun σ H O env T Q s k => h2 σ H O env T _ s ?_⟩
  unfold sized at k
  cases e : fr env with
  | ok env1 ds =>
    simp only [e] at k
    by_cases hl : ds.length ≤ sizeLine
    · have k' : VPost S σ H O T Q (.ok env1 (.own none (.lst ds))) := by
        simpa [Res.bind, hl] using k
      refine fun H1 O1 s1 t1 vs rs => ⟨by rw [rs.len]; exact hl, fun p n => ?_⟩
      obtain ⟨O2, s2, r2, t2⟩ := s1.adopt n rs
      exact k' _ _ O2 [p] s2 r2 (t1.trans t2)
    · have : False := by simpa [Res.bind, hl, VPost] using k
      exact this.elim
  | err env1 x => simp only [e] at k; exact k
  | bad => simp only [e] at k; exact k
/-- a built-in call -/
def yCall (f : List D → Option D) (b : Env → Res (List D)) (env : Env) : Res D := (b env).bind fun env1 ds => match f ds with | some z => .ok env1 z | none => .bad
theorem f2_of {K : Fg} {H : Hp} {O : OS} : ∀ {vs : List V} {ds : List D}, RDs K H O vs ds → F2 (RB K H O) vs ds
  | _, [], h => by cases h; exact .nil
  | _, _ :: _, h => by
    cases h with
    | cons h1 h2 => exact .cons (.inl h1) (f2_of h2)
section
variable {x : Str} {pp : Pos} {qs : Env → Res (List D)} {r : Fg → List V → Hp → VK → Prop} {f : List D → Option D}
theorem jd_callB {id : String} (hc : ∀ X, S.Ok X → CallR X (.builtin id) (r X.K)) (hf : CallV S.K (r S.K) f) (hg : Gn S x) (hm : S.mg x = none) (hv : bootBuiltins x = some (.builtin id)) (ha : JDA S (e :: es) qs)
    (hn : x ≠ "__name__" := by decide) (hdb : (x == ("__debug__" : Str)) = false := by decide)
    (he : ∀ env, starEach (e :: es) env = (false, eval e env) :: starEach es env := by intro _; rfl) (hpl : ∀ env, (backTo pos (starEach es env)).any (·.1) = false := by intro _; rfl) : JD S (.Call (.Name x pp) (e :: es) [] pos) (yCall f qs) := by
  obtain ⟨t, h1, h2⟩ := ha
  refine ⟨tCB (r S.K) t, fun X o => by have z := hc X o; rw [o.K] at z; exact pe_callB z (gl_of o hg) (by rw [o.mg]; exact hm) hv (h1 X o) hn hdb (he _) (hpl _), fun σ H O env T Q s k => ?_⟩
  refine h2 σ H O env T _ s (rp_bind k fun H1 O1 env1 ds _ s1 t1 k1 vs rs => ?_)
  cases ez : f ds with
  | none => rw [ez] at k1; exact k1.elim
  | some z =>
    rw [ez] at k1
    exact hf H1 O1 vs ds z Q s1.oc (f2_of rs) ez fun v H2 g2 r2 => k1 H2 O1 (s1.grow g2) (s1.gtr g2) v r2
theorem jd_callT {T' : String} (hc : ∀ X, S.Ok X → CallR X (.type T') (r X.K)) (hf : CallV S.K (r S.K) f) (hg : Gn S x) (hm : S.mg x = none) (hv : bootBuiltins x = some (.type T')) (ha : JDA S (e :: es) qs)
    (hn : x ≠ "__name__" := by decide) (hdb : (x == ("__debug__" : Str)) = false := by decide)
    (he : ∀ env, starEach (e :: es) env = (false, eval e env) :: starEach es env := by intro _; rfl) (hpl : ∀ env, (backTo pos (starEach es env)).any (·.1) = false := by intro _; rfl) : JD S (.Call (.Name x pp) (e :: es) [] pos) (yCall f qs) := by
  obtain ⟨t, h1, h2⟩ := ha
  refine ⟨tCB (r S.K) t, fun X o => by have z := hc X o; rw [o.K] at z; exact pe_callTy z (gl_of o hg) (by rw [o.mg]; exact hm) hv (h1 X o) hn hdb (he _) (hpl _), fun σ H O env T Q s k => ?_⟩
  refine h2 σ H O env T _ s (rp_bind k fun H1 O1 env1 ds _ s1 t1 k1 vs rs => ?_)
  cases ez : f ds with
  | none => rw [ez] at k1; exact k1.elim
  | some z =>
    rw [ez] at k1
    exact hf H1 O1 vs ds z Q s1.oc (f2_of rs) ez fun v H2 g2 r2 => k1 H2 O1 (s1.grow g2) (s1.gtr g2) v r2
end
end
end
end ML
/-! ML7: defs and their calls; statements; loops. -/
namespace ML
open PySem L2

/-! ### a def's promise -/
def adr : V → Addr
  | .ref a => a
  | _ => 0
abbrev actOf (H : Hp) (O : OS) (fp : List Addr) (vs : List V) : Act := ⟨H, O, fun b => b ∈ fp, vs.map adr⟩
def spF (K : Fg) (mg : Str → Option Value) (F : List SV → Res SV) : Sp := fun vs H Q E => ∃ (O : OS) (args : List SV) (fp : List Addr),
  Oc H O ∧ RE K (actOf H O fp vs) H O (vs.map some) args fp ∧ fp.Nodup ∧ (∀ b ∈ fp, O b) ∧
  match F args with
  | .ok env r => ∀ σ v H' O' fq, Sit K (actOf H O fp vs) σ H' O' env fq → RS K (actOf H O fp vs) H' O' v r fq → Q v H'
  | .err env x => ∀ σ cls dd H' O', Sit K (actOf H O fp vs) σ H' O' env [] → ExR K mg H' O' x cls dd → E cls dd H'
  | .bad => False
structure FnG (P : Program) (w : World) (K : Fg) (mg : Str → Option Value) (base : Heap) (k : Nat) (f : Addr) (fd : FuncData) (ps : List Str) (sp : Sp) : Prop where
  len : ∀ vs H Q E, sp vs H Q E → vs.length = ps.length
  run : ∀ (A : Around) (outer : List PySem.Env) (s : Shared) (H : Hp) (args : Args) (us : List Value) (vs : List V) (Q : VK) (E : XK), Room k A → A.guards = some [] → Env0 P w K mg base A outer s H →
    BindsTo s fd args (ps.zip us) → Vals vs us → sp vs H Q E → codeAny (model P w) A (.call (.ref f) args) (CR (L2.CX P w) outer P w H s Q E) s

/-! ### statements -/
def FPost (S : Cxt) (σ : L2.St) (H : Hp) (O : OS) (E : Ends) : Fl → Prop
  | .nx env => ∀ σ' H' O', Sit S.K S.A σ' H' O' env [] → Tr [] H O H' O' → E.nx σ' H'
  | .rt env r => ∀ σ' v H' O' fq, Sit S.K S.A σ' H' O' env fq → RS S.K S.A H' O' v r fq → Tr [] H O H' O' → E.rt v H'
  | .bk env => ∀ σ' H' O', Sit S.K S.A σ' H' O' env [] → Tr [] H O H' O' → E.bk σ' H'
  | .ct env => ∀ σ' H' O', Sit S.K S.A σ' H' O' env [] → Tr [] H O H' O' → E.ct σ' H'
  | .err env x => ∀ σ' cls dd H' O', Sit S.K S.A σ' H' O' env [] → Tr [] H O H' O' → ExR S.K S.mg H' O' x cls dd → S.W cls dd σ' H'
  | .bad => False
theorem fp_tr {S : Cxt} {σ : L2.St} {H H1 : Hp} {O O1 : OS} {E : Ends} {fl : Fl} (h : FPost S σ H O E fl) (t : Tr [] H O H1 O1) {σ1 : L2.St} : FPost S σ1 H1 O1 E fl := by
  cases fl with
  | nx env => exact fun σ' H' O' s t' => h σ' H' O' s (t.trans t')
  | rt env r => exact fun σ' v H' O' fq s r t' => h σ' v H' O' fq s r (t.trans t')
  | bk env => exact fun σ' H' O' s t' => h σ' H' O' s (t.trans t')
  | ct env => exact fun σ' H' O' s t' => h σ' H' O' s (t.trans t')
  | err env x => exact fun σ' cls dd H' O' s t' => h σ' cls dd H' O' s (t.trans t')
  | bad => exact h
section
variable (S : Cxt)
def SemS (t : TS) (g : Env → Fl) : Prop := ∀ (σ : L2.St) (H : Hp) (O : OS) (env : Env) (E : Ends), Sit S.K S.A σ H O env [] → FPost S σ H O E (g env) → t E σ H
def JS (st : Stmt) (g : Env → Fl) : Prop := ∃ t, (∀ X, S.Ok X → PS X st t) ∧ SemS S t g
def JSs (sts : List Stmt) (g : Env → Fl) : Prop := ∃ t, (∀ X, S.Ok X → PSs X sts t) ∧ SemS S t g
end
def Fl.then : Fl → (Env → Fl) → Fl
  | .nx env, k => k env
  | f, _ => f
/-- an outcome goes on as a statement -/
def Res.fl {α : Type} : Res α → (Env → α → Fl) → Fl
  | .ok env a, k => k env a
  | .err env x, _ => .err env x
  | .bad, _ => .bad
section
variable {S : Cxt} {st : Stmt} {sts : List Stmt} {e e1 e2 : Expr} {es : List Expr} {pos : Pos} {g k : Env → Fl}
theorem fl_post {σ : L2.St} {H : Hp} {O : OS} {E : Ends} {α : Type} {R1 : Hp → OS → Env → α → Prop} {r : Res α} {k : Env → α → Fl} (h : FPost S σ H O E (r.fl k))
    (q : ∀ H1 O1 env a, r = .ok env a → Sit S.K S.A σ H1 O1 env [] → Tr [] H O H1 O1 → FPost S σ H1 O1 E (k env a) → R1 H1 O1 env a) : RPost S σ H O [] R1 r := by
  cases r with
  | ok env a => exact fun H1 O1 s t => q H1 O1 env a rfl s t (fp_tr h t)
  | err env x => exact fun cls dd H' O' s t ex => h σ cls dd H' O' s t ex
  | bad => exact h
def sNil (env : Env) : Fl := .nx env
def sSeq (g k : Env → Fl) (env : Env) : Fl := (g env).then k
theorem jss_nil : JSs S [] sNil := ⟨_, fun X o => pss_nil, fun σ H O env E s h => h σ H O s s.rtr⟩
theorem jss_cons (h : JS S st g) (h' : JSs S sts k) : JSs S (st :: sts) (sSeq g k) := by
  obtain ⟨t, h1, h2⟩ := h
  obtain ⟨u, h3, h4⟩ := h'
  refine ⟨tSeq t u, fun X o => pss_cons (h1 X o) (h3 X o), fun σ H O env E s q => h2 σ H O env _ s ?_⟩
  unfold sSeq at q
  cases e : g env with
  | nx env1 =>
    rw [e] at q
    exact fun σ' H' O' s' t' => h4 σ' H' O' env1 E s' (fp_tr q t')
  | rt env1 r => rw [e] at q; exact q
  | bk env1 => rw [e] at q; exact q
  | ct env1 => rw [e] at q; exact q
  | err env1 x => rw [e] at q; exact q
  | bad => rw [e] at q; exact q
theorem jss_one (h : JS S st g) : JSs S [st] g := by
  obtain ⟨t, h1, h2⟩ := h
  exact ⟨t, fun X o => pss_one (h1 X o), h2⟩
def sBreak (env : Env) : Fl := .bk env
theorem js_break : JS S (.Break pos) sBreak := ⟨_, fun X o => ps_break, fun σ H O env E s h => h σ H O s s.rtr⟩
theorem js_pass : JS S (.Pass pos) sNil := ⟨_, fun X o => ps_pass, fun σ H O env E s h => h σ H O s s.rtr⟩
/-- a statement that is not reached -/
def sNever (_ : Env) : Fl := .bad
theorem js_never : JS S st sNever := ⟨tNever, fun X o => ps_never, fun σ H O env E s h => h.elim⟩
def sIf (u : Env → Res Bool) (g k : Env → Fl) (env : Env) : Fl := (u env).fl fun env1 b => if b then g env1 else k env1
theorem js_if {c : Expr} {a b : List Stmt} {u : Env → Res Bool} (hc : JT S c u) (ha : JSs S a g) (hb : JSs S b k) : JS S (.If c a b pos) (sIf u g k) := by
  obtain ⟨t, h1, h2⟩ := hc
  obtain ⟨ta, h3, h4⟩ := ha
  obtain ⟨tb, h5, h6⟩ := hb
  refine ⟨tIfS t ta tb, fun X o => ps_if (h1 X o) (h3 X o) (h5 X o), fun σ H O env E s q => h2 σ H O env [] _ s (fl_post q fun H1 O1 env1 b _ s1 t1 k1 => ?_)⟩
  cases b with
  | true => exact h4 σ H1 O1 env1 E s1 k1
  | false => exact h6 σ H1 O1 env1 E s1 k1
def sRet (f : Env → Res SV) (env : Env) : Fl := (f env).fl fun env1 r => .rt env1 r
theorem vl_post {σ : L2.St} {H : Hp} {O : OS} {E : Ends} {Q : VK} {r : Res SV} {k : Env → SV → Fl} (h : FPost S σ H O E (r.fl k))
    (q : ∀ env s v H1 O1 fq, r = .ok env s → Sit S.K S.A σ H1 O1 env (fq ++ []) → RS S.K S.A H1 O1 v s fq → Tr [] H O H1 O1 → FPost S σ H1 O1 E (k env s) → Q v H1) : VPost S σ H O [] Q r := by
  cases r with
  | ok env a => exact fun v H1 O1 fq s rs t => q env a v H1 O1 fq rfl s rs t (fp_tr h t)
  | err env x => exact fun cls dd H' O' s t ex => h σ cls dd H' O' s t ex
  | bad => exact h
theorem js_ret {f : Env → Res SV} (he : JE S e f) : JS S (.Return (some e) pos) (sRet f) := by
  obtain ⟨t, h1, h2⟩ := he
  refine ⟨tRet t, fun X o => ps_ret (h1 X o), fun σ H O env E s q => h2 σ H O env [] _ s (vl_post q fun env1 sv v H1 O1 fq _ s1 r1 t1 k1 => ?_)⟩
  rw [List.append_nil] at s1
  exact k1 σ v H1 O1 fq s1 r1 (.refl fun a h => nomatch h)
def sRetN (env : Env) : Fl := .rt env (.dat .none)
theorem js_retN : JS S (.Return none pos) sRetN := ⟨_, fun X o => ps_retN, fun σ H O env E s h => h σ .non H O [] s (.dat .non) s.rtr⟩
/-- an expression alone -/
def sDrop (f : Env → Res SV) (env : Env) : Fl := (f env).fl fun env1 _ => .nx env1
theorem js_drop {f : Env → Res SV} (he : JE S e f) (hs : ∀ env, swapsWith e none pos.line env = pure false := by intro _; rfl) : JS S (.Expr e pos) (sDrop f) := by
  obtain ⟨t, h1, h2⟩ := he
  refine ⟨tDrop t, fun X o => ps_expr (h1 X o) (hs _), fun σ H O env E s q => h2 σ H O env [] _ s (vl_post q fun env1 sv v H1 O1 fq _ s1 r1 t1 k1 => ?_)⟩
  exact k1 σ H1 O1 s1.less (.refl fun a h => nomatch h)
/-- x = e -/
def Loc1 (sc : Scope) (x : Str) : Prop := sc.names.lookup x = some .local
def sSet (i : Nat) (f : Env → Res SV) (env : Env) : Fl := (f env).fl fun env1 r => if i < env1.length then .nx (env1.set i r) else .bad
theorem Cxt.Ok.fnx {X : Cx} (o : S.Ok X) {x : Str} (hx : Loc S.sc x) (hl : S.blk = false ∨ S.sc.names.lookup x = some .local) : X.fn x = true ∨ X.env.scope.names.lookup x = some .local := by
  rcases hl with h | h
  · exact .inl (o.fn h x)
  · exact .inr (by rw [o.sc]; exact h)
theorem js_set (i : Nat) {x : Str} {pos' : Pos} {f : Env → Res SV} (nd : S.N.Nodup) (hN : S.N[i]? = some x) (hx : Loc S.sc x) (hl : S.blk = false) (he : JE S e f) (hs : ∀ env, swapsWith e (some (.Name x pos')) pos.line env = pure false := by intro _; rfl) (hw : ∀ env, swappedStores [.Name x pos'] e env = pure none := by intro _; rfl) :
    JS S (.Assign [.Name x pos'] e pos) (sSet i f) := by
  obtain ⟨t, h1, h2⟩ := he
  refine ⟨tAsg t (gName i), fun X o => ps_asg (h1 X o) (pg_name (by rw [o.N]; exact nd) (by rw [o.N]; exact hN) (by rw [o.sc]; exact hx) (o.fnx hx (.inl hl))) (hs _) (hw _), fun σ H O env E s q => h2 σ H O env [] _ s (vl_post q fun env1 sv v H1 O1 fq _ s1 r1 t1 k1 => ?_)⟩
  by_cases hi : i < env1.length
  · rw [if_pos hi] at k1
    exact k1 _ H1 O1 (s1.put hi r1) (.refl fun a h => nomatch h)
  · rw [if_neg hi] at k1
    exact k1.elim
end
end ML
/-! ML8: the rule of a def, the rule of its call. -/
namespace ML
open PySem L2
section
variable {K : Fg} {A : Act} {H : Hp} {O : OS} {σ : L2.St} {env : Env} {fp : List Addr}
theorem RE.uns (n : Nat) : RE K A H O (List.replicate n none) (List.replicate n .un) [] := by
  induction n with
  | zero => exact .nil
  | succ n ih => exact .un ih
theorem RE.more (h : RE K A H O σ env fp) (n : Nat) : RE K A H O (σ ++ List.replicate n none) (env ++ List.replicate n .un) fp := by
  induction h with
  | nil => exact .uns n
  | un _ ih => exact .un ih
  | cons h1 _ ih => exact .cons h1 ih
end

def bodyF (np n : Nat) (g : Env → Fl) (args : List SV) : Res SV :=
  if args.length = np then
    match g (args ++ List.replicate (n - np) .un) with
    | .nx env => .ok env (.dat .none)
    | .rt env r => .ok env r
    | .err env x => .err env x
    | _ => .bad
  else .bad

/-- the rule of a def: what its body comes to -/
theorem gn_of {P : Program} {w : World} {K : Fg} {mg : Str → Option Value} {base : Heap} {k : Nat} {x qual : Str} {st : Stmt} {f : Addr} {fd : FuncData} {N ps : List Str} {g : Env → Fl}
    (F : Fun K x qual st f fd) (S0 : FnScope N ps (defScope st)) (hb : ∀ (A : Act) (W : Wish), JSs ⟨P, w, K, mg, base, N, defScope st, k, A, W, false⟩ (defBody st) g) :
    FnG P w K mg base (k + 1) f fd ps (spF K mg (bodyF ps.length N.length g)) := by
  obtain ⟨oc, od, kV, doc, pm, an, cdv, ct, osl, rfl, lk, hcd⟩ := F.ex
  have len : ∀ (vs : List V) (H : Hp) (Q : VK) (E : XK), spF K mg (bodyF ps.length N.length g) vs H Q E → vs.length = ps.length := fun vs H Q E h => by
    obtain ⟨O, args, fp, _, r, _, _, q⟩ := h
    have l := r.len
    rw [List.length_map] at l
    unfold bodyF at q
    by_cases hl : args.length = ps.length
    · rw [l, hl]
    · rw [if_neg hl] at q
      exact q.elim
  refine ⟨len, fun A outer s H args us vs Q E hr gd e0 bt rv hsp => ?_⟩
  have hl := len _ _ _ _ hsp
  have inK : K.In s.heap := e0.mod.kin.keeps fun b o e => (e0.bs b o e).1
  have noL : s.heap.NoLimit := e0.mod.nolimit.keeps fun b o e => (e0.bs b o e).1
  have kinds : ∀ y ∈ ps.zip us, (defScope st).names.lookup y.1 = some .local ∨ ((defScope st).names.lookup y.1 = some .cell ∧ ((cellsFrom (s.heap.objs.size + 1) (defScope st).names []).lookup y.1).isSome = true) := by
    rintro ⟨n, v⟩ hy
    rcases S0.par n (List.of_mem_zip hy).1 with z | z
    · exact .inl z
    · exact .inr ⟨z, PySem.W.cellsFrom_some _ _ _ (.inl z)⟩
  have dep : A.depth < recursionLimit := by
    have := hr.dp
    omega
  refine codeAny_call_function dep (inK _ _ lk) rfl S0.co S0.gen rfl (PySem.W.codeRec_of inK hcd) (bt _ _ _ _ ?_)
  refine wpAny_newFunctionEnv_cells S0.kind kinds fun fenv he s1 ic => ?_
  subst he
  refine ⟨noL.keeps ic.toInCall.keep, codeAny_func ?_⟩
  obtain ⟨O, av, fp, oc0, re, nd, ow, fin⟩ := hsp
  have la : av.length = ps.length := by
    have z := re.len
    rw [List.length_map] at z
    omega
  obtain ⟨t, ht, sem⟩ := hb (actOf H O fp vs) (fun cls d _ H' => E cls d H')
  generalize hX : cxOf (L2.CX P w) P w K mg base N qual (defScope st) f cdv A outer s H E = X
  have hOk : (⟨P, w, K, mg, base, N, defScope st, k, actOf H O fp vs, fun cls d _ H' => E cls d H', false⟩ : Cxt).Ok X := by
    subst hX
    exact ⟨rfl, rfl, rfl, rfl, rfl, rfl, rfl, rfl, hr.deeper _, gd, passes_of rfl, takes_of rfl rfl rfl rfl, fun _ _ => rfl, S0.kind⟩
  have I : Inv X [] (start N vs) H s1 := by
    subst hX
    exact inv_start S0 hr.hd e0 hl rv ic
  have st0 : start N vs = vs.map some ++ List.replicate (N.length - ps.length) none := by
    unfold L2.start
    rw [hl]
  have sit : Sit K (actOf H O fp vs) (start N vs) H O (av ++ List.replicate (N.length - ps.length) .un) [] := by
    rw [st0]
    refine ⟨⟨fp, re.more _, by rw [List.append_nil]; exact nd, fun b hb => ?_⟩, oc0, fun a o h _ => h, fun a h => h, fun a h => .inl h, fun a h => ow a h⟩
    rw [List.append_nil] at hb
    exact ⟨ow b hb, .inl hb⟩
  have run : t { nx := fun _ H' => Q .non H', rt := Q } (start N vs) H := by
    refine sem (start N vs) H O _ _ sit ?_
    unfold bodyF at fin
    rw [if_pos la] at fin
    cases eg : g (av ++ List.replicate (N.length - ps.length) .un) with
    | nx env1 =>
      rw [eg] at fin
      exact fun σ' H' O' s' _ => fin σ' .non H' O' [] s' (.dat .non)
    | rt env1 r =>
      rw [eg] at fin
      exact fun σ' v H' O' fq s' r' _ => fin σ' v H' O' fq s' r'
    | err env1 xx =>
      rw [eg] at fin
      exact fun σ' cls dd H' O' s' _ ex => fin σ' cls dd H' O' s' ex
    | bk env1 => rw [eg] at fin; exact fin.elim
    | ct env1 => rw [eg] at fin; exact fin.elim
    | bad => rw [eg] at fin; exact fin.elim
  have wp := (ht X hOk).run [] s1 (start N vs) H _ I run
  subst hX
  refine wpAny_mono wp (fun fl s' hs => ?_) fun e s' hs => hs
  cases fl with
  | ret u =>
    obtain ⟨v, σ', H', J, rv', q⟩ := hs
    exact ⟨v, H', J.os, J.bare, J.base, J.hok, rv', q⟩
  | next =>
    obtain ⟨σ', H', J, q⟩ := hs
    exact ⟨V.non, H', J.os, J.bare, J.base, J.hok, rfl, q⟩
  | brk =>
    obtain ⟨_, _, _, q⟩ := hs
    exact False.elim q
  | cont =>
    obtain ⟨_, _, _, q⟩ := hs
    exact False.elim q

/-! ### arguments: data, or a slot as it is -/
inductive AV where
  | d (x : D)
  | sl (i : Nat)
inductive AVr (K : Fg) (H : Hp) (O : OS) (σ : L2.St) : V → AV → Prop
  | d {v : V} {x : D} : RD K H O v x → AVr K H O σ v (.d x)
  | sl {v : V} {i : Nat} : σ[i]? = some (some v) → AVr K H O σ v (.sl i)
abbrev AVs (K : Fg) (H : Hp) (O : OS) (σ : L2.St) := F2 (AVr K H O σ)
def SemCA (S : Cxt) (t : TA) (f : Env → Res (List AV)) : Prop := ∀ (σ : L2.St) (H : Hp) (O : OS) (env : Env) (T : List Addr) (Q : List V → Hp → Prop), Sit S.K S.A σ H O env T →
  RPost S σ H O T (fun H' O' _ avs => ∀ vs, AVs S.K H' O' σ vs avs → Q vs H') (f env) → t σ H Q
def JCA (S : Cxt) (es : List Expr) (f : Env → Res (List AV)) : Prop := ∃ t, (∀ X, S.Ok X → PA X es t) ∧ SemCA S t f
def cNil (env : Env) : Res (List AV) := .ok env []
def cCons (a : Env → Res D) (b : Env → Res (List AV)) (env : Env) : Res (List AV) := (a env).bind fun env1 x => (b env1).bind fun env2 ds => .ok env2 (.d x :: ds)
def cSlot (i : Nat) (b : Env → Res (List AV)) (env : Env) : Res (List AV) := match env[i]? with
  | some .un => .bad
  | none => .bad
  | _ => (b env).bind fun env2 ds => .ok env2 (.sl i :: ds)
section
variable {S : Cxt} {e : Expr} {es : List Expr} {pos : Pos} {fa : Env → Res D} {fr : Env → Res (List AV)}
theorem jca_nil : JCA S [] cNil := ⟨_, fun X o => pa_nil, fun σ H O env T Q s k => k H O s s.rtr [] .nil⟩
theorem jca_d (ha : JD S e fa) (hr : JCA S es fr) (hs : ∀ env, starEach (e :: es) env = (false, eval e env) :: starEach es env := by intro _; rfl) : JCA S (e :: es) (cCons fa fr) := by
  obtain ⟨t, h1, h2⟩ := ha
  obtain ⟨u, h3, h4⟩ := hr
  refine ⟨tCons t u, fun X o => pa_cons (h1 X o) (h3 X o) (hs _), fun σ H O env T Q s k => ?_⟩
  refine h2 σ H O env T _ s (rp_bind k fun H1 O1 env1 x _ s1 t1 k1 v rv => ?_)
  refine h4 σ H1 O1 env1 T _ s1 (rp_bind k1 fun H2 O2 env2 ds _ s2 t2 k2 vs rs => ?_)
  exact k2 H2 O2 s2 s2.rtr _ (.cons (.d (RD.sta t2.1 _ _ rv)) rs)
theorem Sit.someV (s : Sit S.K S.A σ H O env T) {i : Nat} {sv : SV} (e : env[i]? = some sv) (n : sv ≠ .un) : ∃ v, σ[i]? = some (some v) := by
  obtain ⟨fp, r, _, _⟩ := s.slots
  obtain ⟨v, _, _, _, h, _⟩ := r.at e n
  exact ⟨v, h⟩
theorem jca_sl (i : Nat) {x : Str} {p' : Pos} (hN : S.N[i]? = some x) (hv : Vis S.sc x) (hd : (x == ("__debug__" : Str)) = false) (hc : (x == ("__classdict__" : Str)) = false) (hr : JCA S es fr) (hs : ∀ env, starEach (.Name x p' :: es) env = (false, eval (.Name x p') env) :: starEach es env := by intro _; rfl) :
    JCA S (.Name x p' :: es) (cSlot i fr) := by
  obtain ⟨u, h3, h4⟩ := hr
  refine ⟨tCons (tVar i) u, fun X o => pa_cons (pe_var (by rw [o.N]; exact hN) (by rw [o.sc]; exact hv) hd hc) (h3 X o) (hs _), fun σ H O env T Q s k => ?_⟩
  unfold cSlot at k
  split at k
  · exact k.elim
  · exact k.elim
  · rename_i n1 n2
    cases e : env[i]? with
    | none => exact (n2 e).elim
    | some sv =>
      obtain ⟨v, hv'⟩ := s.someV e fun z => n1 (by rw [e, z])
      refine ⟨v, hv', h4 σ H O env T _ s (rp_bind k fun H2 O2 env2 ds _ s2 t2 k2 vs rs => ?_)⟩
      exact k2 H2 O2 s2 s2.rtr _ (.cons (.sl hv') rs)
end

/-! ### what is handed over, what comes back -/
def argsOf : List AV → Env → Nat → Option (List SV × Env)
  | [], env, _ => some ([], env)
  | .d x :: r, env, j => (argsOf r env (j + 1)).map fun p => (.dat x :: p.1, p.2)
  | .sl i :: r, env, j => match env[i]? with
    | some (.own _ c) => (argsOf r (env.set i .un) (j + 1)).map fun p => (.own (some j) c :: p.1, p.2)
    | some (.dat x) => (argsOf r env (j + 1)).map fun p => (.dat x :: p.1, p.2)
    | some (.frz xs) => (argsOf r env (j + 1)).map fun p => (.frz xs :: p.1, p.2)
    | some (.raw v) => (argsOf r env (j + 1)).map fun p => (.raw v :: p.1, p.2)
    | _ => none
/-- e0: the caller's slots ahead of the call; cur: without what was handed over; e': the callee's at its end -/
def backE : List AV → Env → Env → Env → Nat → Option Env
  | [], _, cur, _, _ => some cur
  | .d _ :: r, e0, cur, e', j => backE r e0 cur e' (j + 1)
  | .sl i :: r, e0, cur, e', j => match e0[i]? with
    | some (.own tag _) => match e'[j]? with
      | some (.own (some j') c) => if j' = j ∧ i < cur.length then backE r e0 (cur.set i (.own tag c)) (e'.set j .un) (j + 1) else none
      | _ => none
    | _ => backE r e0 cur e' (j + 1)
def yFn (F : List SV → Res SV) (a : Env → Res (List AV)) (env : Env) : Res SV := (a env).bind fun env1 avs =>
  match argsOf avs env1 0 with
  | none => .bad
  | some (args, out) => match F args with
    | .ok e' r => match backE avs env1 out e' 0 with
      | some env2 => match r with
        | .own (some _) _ => .bad
        | .un => .bad
        | .frz _ => .bad
        | r => .ok env2 r
      | none => .bad
    | .err e' x => match backE avs env1 out e' 0 with
      | some env2 => .err env2 x
      | none => .bad
    | .bad => .bad

section
variable {K : Fg} {A : Act} {H : Hp} {O : OS} {σ : L2.St} {env : Env} {T : List Addr}
theorem RC.act {a : Addr} {c : OC} {fq : List Addr} (h : RC K H O a c fq) : RC K H O a c fq := h
/-- handing over: the callee's slots, the rest of the caller's -/
theorem hand_over {O' : OS} (hO : O' = O) {vall : List V} {M : OS} {H0 : Hp} : ∀ {avs : List AV} {vs : List V} {env : Env} {j : Nat} {args : List SV} {out : Env} {T : List Addr},
    Sit K A σ H O env T → argsOf avs env j = some (args, out) → AVs K H O σ vs avs → (∀ i v, vs[i]? = some v → vall[j + i]? = some v) →
    ∃ fp, RE K ⟨H0, O', M, vall.map adr⟩ H O (vs.map some) args fp ∧ Sit K A σ H O out (fp ++ T) := by
  intro avs
  induction avs with
  | nil =>
    intro vs env j args out T s e a hv
    cases a
    cases e
    exact ⟨[], .nil, s⟩
  | cons av r ih =>
    intro vs env j args out T s e a hv
    cases a with
    | @cons v _ ws _ h1 h2 =>
      have hv' : ∀ i x, ws[i]? = some x → vall[j + 1 + i]? = some x := fun i x hx => by
        have := hv (i + 1) x (by simpa using hx)
        rw [show j + 1 + i = j + (i + 1) from by omega]
        exact this
      have hv0 : vall[j]? = some v := by simpa using hv 0 v (by simp)
      cases av with
      | d x =>
        cases h1 with
        | d h1 =>
          unfold argsOf at e
          obtain ⟨⟨a2, o2⟩, e1, e2⟩ := Option.map_eq_some_iff.mp e
          cases e2
          obtain ⟨fp, q1, q2⟩ := ih s e1 h2 hv'
          exact ⟨[] ++ fp, .cons (.dat h1) q1, q2⟩
      | sl i =>
        cases h1 with
        | sl h1 =>
          unfold argsOf at e
          split at e
          · rename_i tag c ei
            obtain ⟨⟨a2, o2⟩, e1, e2⟩ := Option.map_eq_some_iff.mp e
            cases e2
            obtain ⟨ad, fq, q1, q2, q3⟩ := s.out ei
            rw [h1] at q1
            cases q1
            obtain ⟨fp, q4, q5⟩ := ih q3 e1 h2 hv'
            cases q2 with
            | own rc tg =>
              refine ⟨fq ++ fp, .cons (.own rc ?_) q4, ?_⟩
              · show (vall.map adr)[j]? = some ad
                rw [List.getElem?_map, hv0]
                rfl
              · obtain ⟨f0, w1, w2, w3⟩ := q5.slots
                refine ⟨⟨f0, w1, ?_, fun b hb => w3 b ?_⟩, q5.oc, q5.base, q5.o0, q5.on, q5.m0⟩
                · refine (List.Perm.nodup_iff (List.Perm.append_left f0 ?_)).mp w2
                  rw [← List.append_assoc]
                  exact List.Perm.append_right T List.perm_append_comm
                · simp only [List.mem_append] at hb ⊢
                  rcases hb with h | (h | h) | h <;> simp [h]
          · rename_i x ei
            obtain ⟨⟨a2, o2⟩, e1, e2⟩ := Option.map_eq_some_iff.mp e
            cases e2
            obtain ⟨v', q1, q2⟩ := s.dat ei
            rw [h1] at q1
            cases q1
            obtain ⟨fp, q4, q5⟩ := ih s e1 h2 hv'
            exact ⟨[] ++ fp, .cons (.dat q2) q4, q5⟩
          · rename_i xs ei
            obtain ⟨⟨a2, o2⟩, e1, e2⟩ := Option.map_eq_some_iff.mp e
            cases e2
            obtain ⟨f0, w1, w2, w3⟩ := s.slots
            obtain ⟨v', fq, l, r', z1, z2, _⟩ := w1.at ei (by simp)
            rw [h1] at z1
            cases z1
            obtain ⟨fp, q4, q5⟩ := ih s e1 h2 hv'
            cases z2 with
            | frz z3 z4 => exact ⟨[] ++ fp, .cons (.frz z3 z4) q4, q5⟩
          · rename_i w ei
            obtain ⟨⟨a2, o2⟩, e1, e2⟩ := Option.map_eq_some_iff.mp e
            cases e2
            have q1 := s.rawv ei
            rw [h1] at q1
            cases q1
            obtain ⟨fp, q4, q5⟩ := ih s e1 h2 hv'
            exact ⟨[] ++ fp, .cons (.raw _) q4, q5⟩
          · cases e
/-- behind the callee: the caller's state, the callee's slots' objects as temporaries -/
theorem come_back {A' : Act} {fp fp' fq : List Addr} {H' : Hp} {O' : OS} {σ' : L2.St} {e' : Env} (s : Sit K A σ H O env (fp ++ T)) (hA : A'.H0 = H ∧ A'.O0 = O ∧ A'.M0 = fun b => b ∈ fp)
    (s' : Sit K A' σ' H' O' e' fq) (re : RE K A' H' O' σ' e' fp') (hnd : (fp' ++ fq).Nodup) (how : ∀ b ∈ fp' ++ fq, O' b ∧ (A'.M0 b ∨ A'.H0 b = none)) :
    Sit K A σ H' O' env (fp' ++ (fq ++ T)) ∧ Tr T H O H' O' := by
  obtain ⟨hH, hOO, hM⟩ := hA
  obtain ⟨fc, r, nd, ow⟩ := s.slots
  have noM : ∀ b, b ∈ fp → O b := fun b hb => (ow b (by simp [hb])).1
  have keep : ∀ b o, H b = some o → b ∉ fp → H' b = some o := fun b o h n => s'.base b o (by rw [hH]; exact h) (by rw [hM]; exact n)
  have sta : Sta H O H' O' := fun b o h n => ⟨keep b o h fun z => n (noM b z), fun z => by
    rcases s'.on b z with q | q
    · rw [hOO] at q
      exact n q
    · rw [hH, h] at q
      cases q⟩
  have out : ∀ b ∈ fc ++ T, b ∉ fp := fun b hb z => by
    have h0 := List.nodup_append.mp nd
    rcases List.mem_append.mp hb with h | h
    · exact h0.2.2 b h b (by simp [z]) rfl
    · have h1 := List.nodup_append.mp h0.2.1
      exact h1.2.2 b z b h rfl
  have same : ∀ b ∈ fc ++ T, H' b = H b := fun b hb => by
    have hO : O b := (ow b (by
      rcases List.mem_append.mp hb with h | h <;> simp [h])).1
    cases e : H b with
    | none => exact absurd e (s.oc b hO)
    | some o => exact keep b o e (out b hb)
  have hO' : ∀ b, O b → O' b := fun b h => s'.o0 b (by rw [hOO]; exact h)
  have away : ∀ b ∈ fp' ++ fq, b ∉ fc ++ T := fun b hb z => by
    have hO : O b := (ow b (by
      rcases List.mem_append.mp z with h | h <;> simp [h])).1
    rcases (how b hb).2 with q | q
    · rw [hM] at q
      exact out b z q
    · rw [hH] at q
      exact s.oc b hO q
  have h00 : ∀ b, H b = none → ¬ A.M0 b → A.H0 b = none := fun b h n => by
    cases e : A.H0 b with
    | none => rfl
    | some o =>
      rw [s.base b o e n] at h
      cases h
  refine ⟨⟨⟨fc, r.sta sta fun b hb => same b (by simp [hb]), ?_, fun b hb => ?_⟩, s'.oc, fun b o h n => ?_, fun b h => hO' b (s.o0 b h), fun b h => ?_, s.m0⟩, sta, fun b hb => ⟨same b (by simp [hb]), hO' b (ow b (by simp [hb])).1⟩⟩
  · have n1 : (fc ++ T).Nodup := nd.sublist (List.Sublist.append (List.Sublist.refl _) (List.sublist_append_right fp T))
    have n2 : ((fp' ++ fq) ++ (fc ++ T)).Nodup := List.nodup_append.mpr ⟨hnd, n1, fun a ha b hb z => away a ha (z ▸ hb)⟩
    refine (List.Perm.nodup_iff ?_).mp n2
    have p1 : ((fp' ++ fq) ++ (fc ++ T)).Perm (fc ++ ((fp' ++ fq) ++ T)) := by
      rw [← List.append_assoc, ← List.append_assoc]
      exact List.Perm.append_right T List.perm_append_comm
    rw [List.append_assoc fp' fq T] at p1
    exact p1
  · by_cases hin : b ∈ fp' ++ fq
    · refine ⟨(how b hin).1, ?_⟩
      rcases (how b hin).2 with q | q
      · rw [hM] at q
        exact (ow b (by simp [show b ∈ fp from q])).2
      · rw [hH] at q
        by_cases hm : A.M0 b
        · exact .inl hm
        · exact .inr (h00 b q hm)
    · have hb' : b ∈ fc ++ T := by
        simp only [List.mem_append] at hb hin ⊢
        rcases hb with h | h | h | h
        · exact .inl h
        · exact absurd (Or.inl h) hin
        · exact absurd (Or.inr h) hin
        · exact .inr h
      have z := ow b (by
        rcases List.mem_append.mp hb' with h | h <;> simp [h])
      exact ⟨hO' b z.1, z.2⟩
  · have nf : b ∉ fp := fun z => by
      rcases (ow b (by simp [z])).2 with q | q
      · exact n q
      · rw [q] at h
        cases h
    exact keep b o (s.base b o h n) nf
  · rcases s'.on b h with q | q
    · rw [hOO] at q
      exact s.on b q
    · rw [hH] at q
      by_cases hm : A.M0 b
      · exact .inl (s.m0 b hm)
      · exact .inr (h00 b q hm)
end
end ML
/-! ML9: the call of a def; what is walked; loops. -/
namespace ML
open PySem L2
section
variable {K : Fg} {A : Act} {H : Hp} {O : OS} {σ : L2.St} {env : Env} {T : List Addr}
theorem Sit.ownT (S : Sit K A σ H O env T) {i : Nat} {tag : Option Nat} {c : OC} (e : env[i]? = some (.own tag c)) :
    ∃ a, σ[i]? = some (some (.ref a)) ∧ Tagged A tag a [] := by
  obtain ⟨fp, r, nd, ow⟩ := S.slots
  obtain ⟨v, fq, l, r', a, b, e', _⟩ := r.at e (by simp)
  cases b with
  | own b t =>
    refine ⟨_, a, ?_⟩
    cases tag with
    | none => exact t
    | some j => exact t
theorem Sit.permT {T' : List Addr} (S : Sit K A σ H O env T) (p : T.Perm T') : Sit K A σ H O env T' := by
  obtain ⟨fp, r, nd, ow⟩ := S.slots
  exact ⟨⟨fp, r, (List.Perm.nodup_iff (List.Perm.append_left fp p)).mp nd, fun b hb => ow b (by
    rcases List.mem_append.mp hb with h | h
    · simp [h]
    · simp [p.mem_iff.mpr h])⟩, S.oc, S.base, S.o0, S.on, S.m0⟩
/-- putting back what was handed over -/
theorem put_back {A' : Act} {σ' : L2.St} {e0 : Env} {T0 R : List Addr} {H0 : Hp} {O0 : OS} {vall : List V} (s0 : Sit K A σ H0 O0 e0 T0) (hp : A'.pars = vall.map adr) :
    ∀ {avs : List AV} {vs : List V} {cur e' env2 : Env} {j : Nat} {fp' : List Addr}, Sit K A σ H O cur (fp' ++ R) → RE K A' H O σ' e' fp' → backE avs e0 cur e' j = some env2 →
      (∀ (m : Nat) (i : Nat) (v : V), avs[m]? = some (.sl i) → vs[m]? = some v → σ[i]? = some (some v)) → avs.length = vs.length → (∀ m v, vs[m]? = some v → vall[j + m]? = some v) → Sit K A σ H O env2 R := by
  intro avs
  induction avs with
  | nil =>
    intro vs cur e' env2 j fp' s r e _ _ _
    cases e
    exact s.less
  | cons av rest ih =>
    intro vs cur e' env2 j fp' s r e hs hl hv
    cases vs with
    | nil => simp at hl
    | cons v ws =>
      have hs' : ∀ (m : Nat) (i : Nat) (x : V), rest[m]? = some (.sl i) → ws[m]? = some x → σ[i]? = some (some x) := fun m i x h1 h2 => hs (m + 1) i x (by simpa using h1) (by simpa using h2)
      have hl' : rest.length = ws.length := by simpa using hl
      have hv' : ∀ m x, ws[m]? = some x → vall[j + 1 + m]? = some x := fun m x hx => by
        have := hv (m + 1) x (by simpa using hx)
        rw [show j + 1 + m = j + (m + 1) from by omega]
        exact this
      cases av with
      | d x =>
        unfold backE at e
        exact ih s r e hs' hl' hv'
      | sl i =>
        unfold backE at e
        split at e
        · rename_i tag c0 ei
          split at e
          · rename_i j' c ej
            split at e
            · rename_i hj
              obtain ⟨hj, hi⟩ := hj
              subst hj
              obtain ⟨v', fq, l, r', q1, q2, q3, _, q5, _⟩ := r.at ej (by simp)
              cases q2 with
              | @own a' _ _ _ rc tg =>
                obtain ⟨a, w1, w2⟩ := s0.ownT ei
                have w3 := hs 0 i v (by simp) (by simp)
                rw [w1] at w3
                cases w3
                have w4 := hv 0 (.ref a) (by simp)
                have w5 : A'.pars[j']? = some a := by
                  rw [hp, List.getElem?_map, show j' = j' + 0 from rfl, w4]
                  rfl
                have w6 : A'.pars[j']? = some a' := tg
                rw [w5] at w6
                cases w6
                subst q3
                have s1 : Sit K A σ H O cur (fq ++ ((l ++ r') ++ R)) := s.permT (by
                  rw [List.append_assoc, List.append_assoc, List.append_assoc]
                  refine List.Perm.trans ?_ (List.Perm.refl _)
                  rw [← List.append_assoc l fq, ← List.append_assoc fq l]
                  exact List.Perm.append_right _ List.perm_append_comm)
                have tg2 : Tagged A tag a' fq := by
                  cases tag with
                  | none => exact w2
                  | some _ => exact w2
                have s2 := s1.put hi (v := .ref a') (s := .own tag c) (.own rc tg2)
                rw [set_self w1] at s2
                exact ih s2 q5 e hs' hl' hv'
            · cases e
          · cases e
        · exact ih s r e hs' hl' hv'
theorem f2_len {α β : Type} {R : α → β → Prop} : ∀ {l : List α} {m : List β}, F2 R l m → l.length = m.length
  | _, _, .nil => rfl
  | _, _, .cons _ h => by simp [f2_len h]
theorem f2_get {α β : Type} {R : α → β → Prop} : ∀ {l : List α} {m : List β} {i : Nat} {a : α} {b : β}, F2 R l m → l[i]? = some a → m[i]? = some b → R a b
  | _, _, _, _, _, .nil, e, _ => by simp at e
  | _, _, 0, _, _, .cons r _, e, e' => by simp at e e'; subst e e'; exact r
  | _, _, i + 1, _, _, .cons _ h, e, e' => by simp at e e'; exact f2_get h e e'
end

/-! ### the call -/
/-- a def of the module, as it is called: its promise is F's -/
def Fx (S : Cxt) (k : Nat) (x : Str) (F : List SV → Res SV) : Prop := ∃ (f : Addr) (fd : FuncData) (ps : List Str),
  FnG S.P S.w S.K S.mg S.base k f fd ps (spF S.K S.mg F) ∧ S.mg x = some (.ref f) ∧ PySem.W.keepIn S.K (.ref f) = true ∧ Binds S.K fd ps []
section
variable {S : Cxt} {e : Expr} {es : List Expr} {pos pp : Pos} {x : Str} {F : List SV → Res SV} {fa : Env → Res (List AV)} {k : Nat}
theorem pe_callG {X : Cx} {f : Addr} {fd : FuncData} {ps : List Str} {sp : Sp} {W : Wish} {t : TA} (G : FnG X.prog X.w X.K X.mg X.base k f fd ps sp) (room : Room k X.A) (gd : X.A.guards = some []) (gl : Gl X x) (mx : X.mg x = some (.ref f))
    (kp : PySem.W.keepIn X.K (.ref f) = true) (bi : Binds X.K fd ps []) (tk : Takes X W) (ha : PA X (e :: es) t) (nd : (x == ("__debug__" : Str)) = false) (he : starEach (e :: es) X.env = (false, eval e X.env) :: starEach es X.env)
    (hpl : (backTo pos (starEach es X.env)).any (·.1) = false) : PE X (.Call (.Name x pp) (e :: es) [] pos) (fun σ H Q => t σ H fun vs H1 => sp vs H1 Q (fun c d H2 => W c d σ H2)) := by
  constructor
  intro pins s σ H Q I h
  refine wpAny_Call_Name_kw (ld_glob I gl mx ?_ nd)
  refine PySem.W.callWith_K (h₀ := X.base) I.ok.mod.kin kp (thn (ha.run pos pins s σ H _ I h) fun us s1 aa => ?_) he hpl
  obtain ⟨vs, H1, I1, rv, q⟩ := aa
  refine ⟨I1.kIn, ?_⟩
  have hl : us.length = ps.length := by
    rw [← rv.length]
    exact G.len _ _ _ _ q
  have b := bi s1 us I1.kIn (by simpa using hl)
  rw [List.append_nil] at b
  refine wpAny_call (codeAny_mono (G.run X.A X.stack s1 H1 ⟨us, []⟩ us vs Q _ room gd I1.env0 b rv q) fun r s' hq => ?_)
  cases r with
  | error ev => exact passAt tk σ pins H1 s1 ev s' I1 hq
  | ok fl =>
    cases fl with
    | ret u => exact I1.after hq
    | next => exact False.elim hq
    | brk => exact False.elim hq
    | cont => exact False.elim hq
theorem je_call (hf : Fx S k x F) (hk : k ≤ S.k) (hg : Gn S x) (ha : JCA S (e :: es) fa) (nd : (x == ("__debug__" : Str)) = false := by decide)
    (he : ∀ env, starEach (e :: es) env = (false, eval e env) :: starEach es env := by intro _; rfl) (hpl : ∀ env, (backTo pos (starEach es env)).any (·.1) = false := by intro _; rfl) : JE S (.Call (.Name x pp) (e :: es) [] pos) (yFn F fa) := by
  obtain ⟨f, fd, ps, G, mx, kp, bi⟩ := hf
  obtain ⟨t, h1, h2⟩ := ha
  refine ⟨fun σ H Q => t σ H fun vs H1 => spF S.K S.mg F vs H1 Q (fun c d H2 => S.W c d σ H2), fun X o => ?_, fun σ H O env T Q s q => ?_⟩
  · have pe := h1 X o
    obtain ⟨o1, o2, o3, o4, o5, o6, o7, o8, o9, o10, o11, o12, o13⟩ := o
    have G' : FnG X.prog X.w X.K X.mg X.base k f fd ps (spF S.K S.mg F) := by rw [o1, o2, o3, o4, o5]; exact G
    exact pe_callG G' (o9.mono hk) o10 (by show X.env.kindOf x = _; unfold Env.kindOf; rw [o7]; exact hg) (by rw [o4]; exact mx) (by rw [o3]; exact kp) (by rw [o3]; exact bi) o12 pe nd (he _) (hpl _)
  · unfold yFn at q
    have q' : RPost S σ H O T (fun H1 O1 env1 avs => ∀ vs, AVs S.K H1 O1 σ vs avs → spF S.K S.mg F vs H1 Q (fun c d H2 => S.W c d σ H2)) (fa env) := by
      cases ef : fa env with
      | bad => rw [ef] at q; exact q
      | err env1 xx => rw [ef] at q; exact q
      | ok env1 avs =>
        rw [ef] at q
        intro H1 O1 s1 t1 vs av
        dsimp only [Res.bind] at q
        cases ea : argsOf avs env1 0 with
        | none => rw [ea] at q; exact q.elim
        | some ao =>
          obtain ⟨args, out⟩ := ao
          rw [ea] at q
          dsimp only at q
          -- one footprint serves the callee and the caller
          have ho := fun (M : OS) => hand_over (O' := O1) rfl (vall := vs) (M := M) (H0 := H1) s1 ea av (fun i v h => by simpa using h)
          obtain ⟨fp0, r0, s2⟩ := ho (fun _ => True)
          have r1 : RE S.K (actOf H1 O1 fp0 vs) H1 O1 (vs.map some) args fp0 := by
            have gen : ∀ {σ : L2.St} {en : Env} {fp : List Addr}, RE S.K ⟨H1, O1, fun _ => True, vs.map adr⟩ H1 O1 σ en fp → RE S.K (actOf H1 O1 fp0 vs) H1 O1 σ en fp := by
              intro σ en fp r
              induction r with
              | nil => exact .nil
              | un _ ih => exact .un ih
              | cons h1 _ ih =>
                refine .cons ?_ ih
                cases h1 with
                | dat a => exact .dat a
                | raw => exact .raw _
                | frz a b => exact .frz a b
                | @own _ _ _ tag a b =>
                  refine .own a ?_
                  cases tag with
                  | none => exact b
                  | some _ => exact b
            exact gen r0
          obtain ⟨fc, rc, ndc, owc⟩ := s2.slots
          have ndp : fp0.Nodup := (List.nodup_append.mp (List.nodup_append.mp ndc).2.1).1
          refine ⟨O1, args, fp0, s1.oc, r1, ndp, fun b hb => (owc b (by simp [hb])).1, ?_⟩
          have slots : ∀ (m i : Nat) (v : V), avs[m]? = some (.sl i) → vs[m]? = some v → σ[i]? = some (some v) := fun m i v a b => by
            have z := f2_get av b a
            cases z with
            | sl z => exact z
          have hlen : avs.length = vs.length := (f2_len av).symm
          cases eF : F args with
          | bad => rw [eF] at q; exact q.elim
          | ok e' r =>
            rw [eF] at q
            dsimp only at q ⊢
            intro σ' v H' O' fq s' rs
            obtain ⟨fe, re, nde, owe⟩ := s'.slots
            obtain ⟨s3, t3⟩ := come_back s2 ⟨rfl, rfl, rfl⟩ s' re nde owe
            cases eb : backE avs env1 out e' 0 with
            | none => rw [eb] at q; exact q.elim
            | some env2 =>
              rw [eb] at q
              dsimp only at q
              have s4 := put_back s1 (A' := actOf H1 O1 fp0 vs) (vall := vs) rfl s3 re eb slots hlen (fun m v h => by simpa using h)
              have tt : Tr T H O H' O' := t1.trans t3
              cases rs with
              | dat rd => exact q v H' O' [] s4 (.dat rd) tt
              | raw => exact q _ H' O' [] s4 (.raw _) tt
              | frz a b => exact q.elim
              | @own a c fq' tag rc tg =>
                cases tag with
                | some _ => exact q.elim
                | none => exact q (.ref a) H' O' fq s4 (.own rc (fun z => tg (s1.o0 _ z))) tt
          | err e' xx =>
            rw [eF] at q
            dsimp only at q ⊢
            intro σ' cls dd H' O' s' ex
            obtain ⟨fe, re, nde, owe⟩ := s'.slots
            obtain ⟨s3, t3⟩ := come_back s2 ⟨rfl, rfl, rfl⟩ s' re nde owe
            cases eb : backE avs env1 out e' 0 with
            | none => rw [eb] at q; exact q.elim
            | some env2 =>
              rw [eb] at q
              dsimp only at q
              have s4 := put_back s1 (A' := actOf H1 O1 fp0 vs) (vall := vs) rfl s3 re eb slots hlen (fun m v h => by simpa using h)
              exact q cls dd H' O' s4 (t1.trans t3) ex
    exact h2 σ H O env T _ s q'
/-- a def as the top has laid it -/
theorem fx_of {K : Fg} {P : Program} {w : World} {mg : Str → Option Value} {base : Heap} {n : Nat} {qual : Str} {st : Stmt} {f : Addr} {fd : FuncData} {N ps : List Str} {g : Env → Fl} {S : Cxt} (hS : S.P = P ∧ S.w = w ∧ S.K = K ∧ S.mg = mg ∧ S.base = base)
    (Fu : Fun K x qual st f fd) (mx : mg x = some (.ref f)) (bi : Binds K fd ps []) (G : FnG P w K mg base n f fd ps (spF K mg (bodyF ps.length N.length g))) : Fx S n x (bodyF ps.length N.length g) := by
  obtain ⟨rfl, rfl, rfl, rfl, rfl⟩ := hS
  exact ⟨f, fd, ps, G, mx, Fu.kp, bi⟩
end
end ML
/-! ML10: what is walked; targets; loops. -/
namespace ML
open PySem L2

/-! ### what is walked -/
/-- J hands out these data, wherever what stands apart from the owned stands -/
def ItOk (K : Fg) (J : It) (ds : List D) (H : Hp) (O : OS) : Prop := ∀ H' O', Sta H O H' O' → Oc H' O' → ∀ i : Nat,
  (∀ d, ds[i]? = some d → J.go i H' ∧ ∀ x H2, J.yld i H' x H2 → Grow H' H2 ∧ RD K H2 O' x d) ∧ (ds.length ≤ i → J.stop i H')
def SemI (S : Cxt) (wi : TI) (f : Env → Res (List D)) : Prop := ∀ (σ : L2.St) (H : Hp) (O : OS) (env : Env) (T : List Addr) (R : It → Hp → Prop), Sit S.K S.A σ H O env T →
  RPost S σ H O T (fun H' O' _ ds => ∀ J, ItOk S.K J ds H' O' → R J H') (f env) → wi σ H R
def JI (S : Cxt) (tg iter : Expr) (f : Env → Res (List D)) : Prop := ∃ wi, (∀ X, S.Ok X → PI X tg iter wi) ∧ SemI S wi f
section
variable {K : Fg} {H : Hp} {O : OS}
theorem sq_none {a : Addr} {vs : List V} (h : SqL K (fun _ => none) a vs) (H : Hp) : SqL K H a vs := by
  rcases h with h | h
  · exact (rd_none h).elim
  · exact .inr h
theorem itOk_list {a : Addr} {vs : List V} {ds : List D} (h0 : ¬ O a) (h1 : H a = some (.lst vs)) (h2 : RDs K H O vs ds) : ItOk K (Itl K a) ds H O := by
  intro H' O' s c i
  have h3 := s a _ h1 h0
  have r := RDs.sta s _ _ h2
  refine ⟨fun d hd => ?_, fun hl => ⟨vs, SqL.of h3.1, by rw [r.len]; exact hl⟩⟩
  obtain ⟨v, hv, rv⟩ := r.get hd
  refine ⟨⟨vs, v, SqL.of h3.1, hv⟩, fun x H2 y => ?_⟩
  obtain ⟨e, q⟩ := y
  subst e
  have z := q vs (SqL.of h3.1)
  rw [hv] at z
  cases z
  exact ⟨.refl, rv⟩
theorem itOk_tup {a : Addr} {vs : List V} {ds : List D} (h1 : XT K H O a vs) (h2 : RDs K H O vs ds) : ItOk K (Itt K a) ds H O := by
  intro H' O' s c i
  have h3 := (h1.sta s).sq
  have r := RDs.sta s _ _ h2
  refine ⟨fun d hd => ?_, fun hl => ⟨vs, h3, by rw [r.len]; exact hl⟩⟩
  obtain ⟨v, hv, rv⟩ := r.get hd
  refine ⟨⟨vs, v, h3, hv⟩, fun x H2 y => ?_⟩
  obtain ⟨e, q⟩ := y
  subst e
  have z := q vs h3
  rw [hv] at z
  cases z
  exact ⟨.refl, rv⟩
def signs (x : Str) : List D := x.cps.toList.map fun c => .str ⟨#[c]⟩
theorem itOk_str {x : Str} : ItOk K (Its x) (signs x) H O := by
  intro H' O' s c i
  have hl : (signs x).length = x.cps.size := by
    unfold signs
    rw [List.length_map, Array.length_toList]
  refine ⟨fun d hd => ?_, fun h => by show x.cps.size ≤ i; omega⟩
  have hi : i < x.cps.size := by
    have := (List.getElem?_eq_some_iff.mp hd).1
    omega
  refine ⟨hi, fun v H2 y => ?_⟩
  obtain ⟨e, cc, e1, e2⟩ := y
  subst e e2
  refine ⟨.refl, ?_⟩
  unfold signs at hd
  rw [List.getElem?_map, Array.getElem?_toList, e1] at hd
  cases hd
  exact .str _
theorem itOk_rng {lo : Int} {n : Nat} : ItOk K (Itr lo n) ((List.range n).map fun i => .int (lo + (i : Nat))) H O := by
  intro H' O' s c i
  refine ⟨fun d hd => ?_, fun h => by show n ≤ i; simpa using h⟩
  have hi : i < n := by
    have := (List.getElem?_eq_some_iff.mp hd).1
    simpa using this
  refine ⟨hi, fun v H2 y => ?_⟩
  obtain ⟨e, e1⟩ := y
  subst e e1
  refine ⟨.refl, ?_⟩
  rw [List.getElem?_map, List.getElem?_range hi] at hd
  cases hd
  exact .int _
end
section
variable {X : Cx} {tg : Expr} {pins : List (Addr × Obj)} {σ : L2.St} {H : Hp} {s : Shared} {R : It → Hp → Prop}
/-- a list, a tuple, a text: what comes of walking the value itself -/
theorem walk_l {a : Addr} {vs : List V} (J : Inv X pins σ H s) (hq : SqL X.K H a vs) (q : R (Itl X.K a) H) : wpAny (model X.prog X.w) X.A (pyIter (.ref a)) (PIE X pins σ tg R) X.xe s := by
  obtain ⟨its, rv, pl, _⟩ := J.list hq
  refine wpAny_pyIter_list pl.isList ?_
  have nw : H s.heap.objs.size = none := J.hok.fresh (Nat.le_refl _)
  exact ⟨s.heap.objs.size, [s.heap.objs.size], _, _, H, rfl, J.kept (t' := s.toks) (fun b o z => Heap.get?_push_of_some _ z), turn_list a _, ⟨_, Heap.get?_push_size _ rfl, rfl, rfl⟩, fun b hb => by
    rw [List.mem_singleton] at hb
    rw [hb]
    exact J.fpOk (Nat.le_refl _) nw, q⟩
theorem walk_t {a : Addr} {vs : List V} (J : Inv X pins σ H s) (hq : SqT X.K H a vs) (q : R (Itt X.K a) H) : wpAny (model X.prog X.w) X.A (pyIter (.ref a)) (PIE X pins σ tg R) X.xe s := by
  obtain ⟨its, rv, pl, _⟩ := J.tuple hq
  refine wpAny_pyIter_tuple (show s.heap.IsTuple a its.toArray from pl) ?_
  have nw : H s.heap.objs.size = none := J.hok.fresh (Nat.le_refl _)
  exact ⟨s.heap.objs.size, [s.heap.objs.size], _, _, H, rfl, J.kept (t' := s.toks) (fun b o z => Heap.get?_push_of_some _ z), turn_tuple a _, ⟨_, Heap.get?_push_size _ rfl, rfl, rfl⟩, fun b hb => by
    rw [List.mem_singleton] at hb
    rw [hb]
    exact J.fpOk (Nat.le_refl _) nw, q⟩
theorem walk_s {x : Str} {t : Tok} (J : Inv X pins σ H s) (q : R (Its x) H) : wpAny (model X.prog X.w) X.A (pyIter (.str x t)) (PIE X pins σ tg R) X.xe s := by
  cases ha : x.cps.all (· < 128) with
  | true => exact wpAny_pyIter_ascii ha (pi_one (tk := s.toks) J _ (turn_str _ x t "str_ascii_iterator" (.inl rfl)) ⟨_, Heap.get?_push_size _ rfl, rfl, rfl⟩ q)
  | false => exact wpAny_pyIter_wide ha (pi_one (tk := s.toks) J _ (turn_str _ x t "str_iterator" (.inr rfl)) ⟨_, Heap.get?_push_size _ rfl, rfl, rfl⟩ q)
def iSeq (K : Fg) (te : TE) : TI := fun σ H R => te σ H fun v H1 => (∃ a vs, v = .ref a ∧ SqL K H1 a vs ∧ R (Itl K a) H1) ∨ (∃ a vs, v = .ref a ∧ SqT K H1 a vs ∧ R (Itt K a) H1) ∨ ∃ x, v = .str x ∧ R (Its x) H1
theorem pi_seq {e : Expr} {te : TE} (he : PE X e te) : PI X tg e (iSeq X.K te) := by
  constructor
  intro pins s σ H R I h
  refine thn (he.run pins s σ H _ I h) fun u s1 aa => ?_
  obtain ⟨v, H1, I1, r1, q⟩ := aa
  rcases q with ⟨a, vs, ev, hq, q⟩ | ⟨a, vs, ev, hq, q⟩ | ⟨x, ev, q⟩
  · subst ev
    cases r1
    exact walk_l I1 hq q
  · subst ev
    cases r1
    exact walk_t I1 hq q
  · subst ev
    obtain ⟨t, rfl⟩ := r1
    exact walk_s I1 q
end
def itemsOf : D → Option (List D)
  | .list xs => some xs
  | .tuple xs => some xs
  | .str x => some (signs x)
  | _ => none
def iOf (f : Env → Res D) (env : Env) : Res (List D) := (f env).bind fun env1 d => match itemsOf d with | some ds => .ok env1 ds | none => .bad
section
variable {S : Cxt} {tg e e1 e2 : Expr} {es : List Expr} {pos pp : Pos}
theorem ji_seq {f : Env → Res D} (h : JD S e f) : JI S tg e (iOf f) := by
  obtain ⟨t, h1, h2⟩ := h
  refine ⟨iSeq S.K t, fun X o => by have z := pi_seq (tg := tg) (h1 X o); rw [o.K] at z; exact z, fun σ H O env T R s q => h2 σ H O env T _ s (rp_bind q fun H1 O1 env1 d _ s1 t1 k1 v rv => ?_)⟩
  cases ei : itemsOf d with
  | none => rw [ei] at k1; exact k1.elim
  | some ds =>
    rw [ei] at k1
    have k2 := k1 H1 O1 s1 s1.rtr
    unfold itemsOf at ei
    split at ei
    · cases ei
      cases rv with
      | lst a b c => exact .inl ⟨_, _, rfl, SqL.of b, k2 _ (itOk_list a b c)⟩
    · cases ei
      cases rv with
      | tup a b => exact .inr (.inl ⟨_, _, rfl, a.sq, k2 _ (itOk_tup a b)⟩)
    · cases ei
      cases rv
      exact .inr (.inr ⟨_, rfl, k2 _ itOk_str⟩)
    · cases ei
def rngOf (lo hi : Int) : List D := (List.range (hi - lo).toNat).map fun i => .int (lo + (i : Nat))
def rngOk (i : Int) : Prop := i.natAbs < 2 ^ 62
instance (i : Int) : Decidable (rngOk i) := inferInstanceAs (Decidable (_ < _))
theorem rngOk.lo {i : Int} (h : rngOk i) : -(2 ^ 62) ≤ i := by
  unfold rngOk at h
  omega
theorem rngOk.hi {i : Int} (h : rngOk i) : i < 2 ^ 62 := by
  unfold rngOk at h
  omega
def iRange1 (f : Env → Res (List D)) (env : Env) : Res (List D) := (f env).bind fun env1 ds => match ds with
  | [.int j] => if rngOk j then .ok env1 (rngOf 0 j) else .bad
  | _ => .bad
def iRange2 (f : Env → Res (List D)) (env : Env) : Res (List D) := (f env).bind fun env1 ds => match ds with
  | [.int i, .int j] => if rngOk i ∧ rngOk j then .ok env1 (rngOf i j) else .bad
  | _ => .bad
theorem itOk_rng2 {K : Fg} {H : Hp} {O : OS} (i j : Int) : ItOk K (Itr i (j - i).toNat) (rngOf i j) H O := itOk_rng
theorem ji_range1 {f : Env → Res (List D)} (hg : Gn S "range") (hm : S.mg "range" = none) (h : JDA S [e] f) (hs : ∀ env, starEach [e] env = [(false, eval e env)] := by intro _; rfl) : JI S tg (.Call (.Name "range" pp) [e] [] pos) (iRange1 f) := by
  obtain ⟨t, h1, h2⟩ := h
  refine ⟨iRng1 t, fun X o => pi_range1 (gl_of o hg) (by rw [o.mg]; exact hm) (h1 X o) (hs _), fun σ H O env T R s q => h2 σ H O env T _ s (rp_bind q fun H1 O1 env1 ds _ s1 t1 k1 vs rv => ?_)⟩
  split at k1
  · split at k1
    · rename_i j _ hj
      cases rv with
      | cons a b =>
        cases a
        cases b
        refine ⟨_, rfl, hj.lo, hj.hi, k1 H1 O1 s1 s1.rtr _ ?_⟩
        have z := itOk_rng2 (K := S.K) (H := H1) (O := O1) 0 j
        rw [Int.sub_zero] at z
        exact z
    · exact k1.elim
  · exact k1.elim
theorem ji_range2 {f : Env → Res (List D)} (hg : Gn S "range") (hm : S.mg "range" = none) (h : JDA S [e1, e2] f) (hs : ∀ env, starEach [e1, e2] env = [(false, eval e1 env), (false, eval e2 env)] := by intro _; rfl) (hs2 : ∀ env, starEach [e2] env = [(false, eval e2 env)] := by intro _; rfl) : JI S tg (.Call (.Name "range" pp) [e1, e2] [] pos) (iRange2 f) := by
  obtain ⟨t, h1, h2⟩ := h
  refine ⟨iRng2 t, fun X o => pi_range2 (gl_of o hg) (by rw [o.mg]; exact hm) (h1 X o) (hs _) (hs2 _), fun σ H O env T R s q => h2 σ H O env T _ s (rp_bind q fun H1 O1 env1 ds _ s1 t1 k1 vs rv => ?_)⟩
  split at k1
  · split at k1
    · rename_i i j _ hj
      cases rv with
      | cons a b =>
        cases a
        cases b with
        | cons b c =>
          cases b
          cases c
          exact ⟨_, _, rfl, ⟨hj.1.lo, hj.1.hi, hj.2.lo, hj.2.hi⟩, k1 H1 O1 s1 s1.rtr _ (itOk_rng2 i j)⟩
    · exact k1.elim
  · exact k1.elim

/-! ### targets -/
/-- the slots ws alone may change -/
def Only1 (ws : List Nat) (σ σ' : L2.St) : Prop := σ'.length = σ.length ∧ ∀ i, i ∉ ws → σ'[i]? = σ[i]?
def SemG (S : Cxt) (tg : TG) (ws : List Nat) (gt : D → Env → Option Env) : Prop := ∀ (v : V) (d : D) (σ : L2.St) (H : Hp) (O : OS) (env env' : Env) (T : List Addr) (Q : L2.St → Hp → Prop), Sit S.K S.A σ H O env T → RD S.K H O v d → gt d env = some env' →
  (∀ σ', Sit S.K S.A σ' H O env' T → Only1 ws σ σ' → Q σ' H) → tg v σ H Q
def JG (S : Cxt) (tg : Expr) (ws : List Nat) (gt : D → Env → Option Env) : Prop := ∃ t, (∀ X, S.Ok X → PG X tg t) ∧ SemG S t ws gt
def gN (i : Nat) (d : D) (env : Env) : Option Env := if i < env.length then some (env.set i (.dat d)) else none
theorem jg_name (i : Nat) {x : Str} (nd : S.N.Nodup) (hN : S.N[i]? = some x) (hx : Loc S.sc x) (hl : S.blk = false ∨ S.sc.names.lookup x = some .local) : JG S (.Name x pos) [i] (gN i) := by
  refine ⟨gName i, fun X o => pg_name (by rw [o.N]; exact nd) (by rw [o.N]; exact hN) (by rw [o.sc]; exact hx) (o.fnx hx hl), fun v d σ H O env env' T Q s r e k => ?_⟩
  unfold gN at e
  split at e
  · rename_i hi
    cases e
    refine k _ (Sit.put (fq := []) s hi (.dat r)) ⟨by simp, fun j hj => ?_⟩
    rw [List.getElem?_set_ne]
    intro z
    exact hj (by simp [z])
  · cases e
def SemGs (S : Cxt) (tg : TGs) (ws : List Nat) (gt : List D → Env → Option Env) : Prop := ∀ (vs : List V) (ds : List D) (σ : L2.St) (H : Hp) (O : OS) (env env' : Env) (T : List Addr) (Q : L2.St → Hp → Prop), Sit S.K S.A σ H O env T → RDs S.K H O vs ds → gt ds env = some env' →
  (∀ σ', Sit S.K S.A σ' H O env' T → Only1 ws σ σ' → Q σ' H) → tg vs σ H Q
def JGs (S : Cxt) (tgs : List Expr) (ws : List Nat) (gt : List D → Env → Option Env) : Prop := ∃ t, (∀ X, S.Ok X → PGs X tgs t) ∧ SemGs S t ws gt
def gsNil (ds : List D) (env : Env) : Option Env := match ds with | [] => some env | _ => none
def gsCons (g : D → Env → Option Env) (k : List D → Env → Option Env) (ds : List D) (env : Env) : Option Env := match ds with | d :: r => (g d env).bind (k r) | [] => none
theorem Only1.refl (ws : List Nat) (σ : L2.St) : Only1 ws σ σ := ⟨rfl, fun _ _ => rfl⟩
theorem jgs_nil : JGs S [] [] gsNil := by
  refine ⟨gNil, fun X o => pgs_nil, fun vs ds σ H O env env' T Q s r e k => ?_⟩
  unfold gsNil at e
  split at e
  · cases e
    cases r
    exact ⟨rfl, k σ s (.refl _ _)⟩
  · cases e
theorem jgs_cons {tgs : List Expr} {ws ws' : List Nat} {g : D → Env → Option Env} {k : List D → Env → Option Env} (h : JG S tg ws g) (h' : JGs S tgs ws' k) (hs : ∀ env, (assignEach (tg :: tgs) env).map (·.2) = assign tg env :: (assignEach tgs env).map (·.2) := by intro _; rfl) : JGs S (tg :: tgs) (ws ++ ws') (gsCons g k) := by
  obtain ⟨t, h1, h2⟩ := h
  obtain ⟨u, h3, h4⟩ := h'
  refine ⟨gCons t u, fun X o => pgs_cons (h1 X o) (h3 X o) (hs _), fun vs ds σ H O env env' T Q s r e k => ?_⟩
  unfold gsCons at e
  cases r with
  | nil => cases e
  | @cons v vs d ds a b =>
    obtain ⟨env1, e1, e2⟩ := Option.bind_eq_some_iff.mp e
    refine ⟨v, vs, rfl, h2 v d σ H O env env1 T _ s a e1 fun σ1 s1 o1 => ?_⟩
    refine h4 vs ds σ1 H O env1 env' T Q s1 b e2 fun σ2 s2 o2 => k σ2 s2 ⟨o2.1.trans o1.1, fun i hi => ?_⟩
    rw [o2.2 i (fun z => hi (by simp [z])), o1.2 i (fun z => hi (by simp [z]))]
def gTupD (n : Nat) (k : List D → Env → Option Env) (d : D) (env : Env) : Option Env := match d with | .tuple ds => if ds.length = n then k ds env else none | _ => none
theorem jg_tup {tgs : List Expr} {ws : List Nat} {n : Nat} {k : List D → Env → Option Env} {kk} (h : JGs S tgs ws k) (hn : ∀ env, (assignEach tgs env).length = n := by intro _; rfl) (hst : ∀ env, (assignEach tgs env).findIdx? (·.1) = none := by intro _; rfl) : JG S (.Tuple tgs kk pos) ws (gTupD n k) := by
  obtain ⟨t, h1, h2⟩ := h
  refine ⟨L2.gTup S.K n t, fun X o => by have z := pg_tup (pos := pos) (k := kk) o.calm (h1 X o) (hn _) (hst _); rw [o.K] at z; exact z, fun v d σ H O env env' T Q s r e q => ?_⟩
  unfold gTupD at e
  split at e
  · split at e
    · rename_i ds hl
      cases r with
      | @tup a vs _ r1 r2 => exact ⟨a, vs, rfl, r1.sq, by rw [r2.len]; exact hl, h2 vs ds σ H O env env' T Q s r2 e q⟩
    · cases e
  · cases e

/-! ### for -/
def forF (gt : D → Env → Option Env) (g : Env → Fl) : List D → Env → Fl
  | [], env => .nx env
  | d :: ds, env => match gt d env with
    | none => .bad
    | some env1 => match g env1 with
      | .nx e => forF gt g ds e
      | .ct e => forF gt g ds e
      | .bk e => .nx e
      | f => f
def sFor (fi : Env → Res (List D)) (gt : D → Env → Option Env) (g : Env → Fl) (env : Env) : Fl := (fi env).fl fun env1 ds => forF gt g ds env1
theorem fp_mono {σ : L2.St} {H : Hp} {O : OS} {E E' : Ends} {fl : Fl} (h : FPost S σ H O E fl) (e1 : ∀ σ H, E.nx σ H → E'.nx σ H) (e2 : ∀ v H, E.rt v H → E'.rt v H) (e3 : ∀ σ H, E.bk σ H → E'.bk σ H) (e4 : ∀ σ H, E.ct σ H → E'.ct σ H) : FPost S σ H O E' fl := by
  cases fl with
  | nx env => exact fun σ' H' O' s t => e1 _ _ (h σ' H' O' s t)
  | rt env r => exact fun σ' v H' O' fq s r t => e2 _ _ (h σ' v H' O' fq s r t)
  | bk env => exact fun σ' H' O' s t => e3 _ _ (h σ' H' O' s t)
  | ct env => exact fun σ' H' O' s t => e4 _ _ (h σ' H' O' s t)
  | err env x => exact h
  | bad => exact h
theorem js_for {iter : Expr} {body : List Stmt} {ws : List Nat} {fi : Env → Res (List D)} {gt : D → Env → Option Env} {g : Env → Fl} (hi : JI S tg iter fi) (hg : JG S tg ws gt) (hb : JSs S body g) (hs : ∀ env x, foldedSetIterable iter env x = pure x := by intro _ _; rfl) :
    JS S (.For tg iter body [] pos) (sFor fi gt g) := by
  obtain ⟨wi, h1, h2⟩ := hi
  obtain ⟨tg', h3, h4⟩ := hg
  obtain ⟨tb, h5, h6⟩ := hb
  refine ⟨tFor wi tg' tb, fun X o => ps_for o.pass o.calm (h1 X o) (h3 X o) (h5 X o) (hs _), fun σ H O env E s q => h2 σ H O env [] _ s (fl_post q fun H1 O1 env1 ds _ s1 t1 k1 J hJ => ?_)⟩
  refine ⟨fun i m σ' H' => m = ds.length - i ∧ i ≤ ds.length ∧ ∃ O' env', Sit S.K S.A σ' H' O' env' [] ∧ Tr [] H1 O1 H' O' ∧ FPost S σ' H' O' E (forF gt g (ds.drop i) env'), ⟨_, rfl, Nat.zero_le _, O1, env1, s1, s1.rtr, by simpa using k1⟩, ?_⟩
  rintro i m σ' H' ⟨rfl, hl, O', env', s', t', q'⟩
  have it := hJ H' O' t'.1 s'.oc i
  by_cases hlt : i < ds.length
  · refine .inr ⟨(it.1 ds[i] (by simp [hlt])).1, fun σ2 H2 => (ds.length - (i + 1)) < ds.length - i ∧ i + 1 ≤ ds.length ∧ ∃ O2 env2, Sit S.K S.A σ2 H2 O2 env2 [] ∧ Tr [] H1 O1 H2 O2 ∧ FPost S σ2 H2 O2 E (forF gt g (ds.drop (i + 1)) env2), fun σ2 H2 h => ⟨_, h.1, rfl, h.2.1, h.2.2⟩, fun x H2 y => ?_⟩
    obtain ⟨gr, rd⟩ := (it.1 ds[i] (by simp [hlt])).2 x H2 y
    have ed : ds.drop i = ds[i] :: ds.drop (i + 1) := List.drop_eq_getElem_cons hlt
    rw [ed] at q'
    unfold forF at q'
    cases eg : gt ds[i] env' with
    | none => rw [eg] at q'; exact q'.elim
    | some env2 =>
      rw [eg] at q'
      dsimp only at q'
      refine h4 x _ σ' H2 O' env' env2 [] _ (s'.grow gr) rd eg fun σ3 s3 _ => h6 σ3 H2 O' env2 _ s3 ?_
      have tt : Tr [] H1 O1 H2 O' := t'.trans (s'.gtr gr)
      have q2 := fp_tr (σ1 := σ3) q' (s'.gtr gr)
      have step : ∀ e, FPost S σ3 H2 O' E (forF gt g (ds.drop (i + 1)) e) → ∀ σ4 H4 O4, Sit S.K S.A σ4 H4 O4 e [] → Tr [] H2 O' H4 O4 → (ds.length - (i + 1)) < ds.length - i ∧ i + 1 ≤ ds.length ∧ ∃ O2 env2, Sit S.K S.A σ4 H4 O2 env2 [] ∧ Tr [] H1 O1 H4 O2 ∧ FPost S σ4 H4 O2 E (forF gt g (ds.drop (i + 1)) env2) :=
        fun e f σ4 H4 O4 s4 t4 => ⟨by omega, by omega, O4, e, s4, tt.trans t4, fp_tr f t4⟩
      cases eb : g env2 with
      | nx e => rw [eb] at q2; exact fun σ4 H4 O4 s4 t4 => step e q2 σ4 H4 O4 s4 t4
      | ct e => rw [eb] at q2; exact fun σ4 H4 O4 s4 t4 => step e q2 σ4 H4 O4 s4 t4
      | bk e => rw [eb] at q2; exact fun σ4 H4 O4 s4 t4 => q2 σ4 H4 O4 s4 t4
      | rt e r => rw [eb] at q2; exact fun σ4 v H4 O4 fq s4 r4 t4 => q2 σ4 v H4 O4 fq s4 r4 t4
      | err e x => rw [eb] at q2; exact fun σ4 cls dd H4 O4 s4 t4 ex => q2 σ4 cls dd H4 O4 s4 t4 ex
      | bad => rw [eb] at q2; exact q2.elim
  · have e0 : i = ds.length := by omega
    refine .inl ⟨it.2 (by omega), ?_⟩
    rw [e0, List.drop_length] at q'
    exact q' σ' H' O' s' s'.rtr

/-! ### while -/
def whileF (u : Env → Res Bool) (g : Env → Fl) : Nat → Env → Fl
  | 0, _ => .bad
  | n + 1, env => (u env).fl fun env1 b => if b then (match g env1 with
      | .nx e => whileF u g n e
      | .ct e => whileF u g n e
      | .bk e => .nx e
      | f => f) else .nx env1
def sWhile (n : Nat) (u : Env → Res Bool) (g : Env → Fl) (env : Env) : Fl := whileF u g n env
theorem js_while (n : Nat) {c : Expr} {body : List Stmt} {u : Env → Res Bool} {g : Env → Fl} (hc : JT S c u) (hb : JSs S body g) : JS S (.While c body [] pos) (sWhile n u g) := by
  obtain ⟨tc, h1, h2⟩ := hc
  obtain ⟨tb, h3, h4⟩ := hb
  refine ⟨tWhile tc tb, fun X o => ps_while o.pass (h1 X o) (h3 X o), fun σ H O env E s q => ?_⟩
  refine ⟨fun m σ' H' => ∃ O' env', Sit S.K S.A σ' H' O' env' [] ∧ FPost S σ' H' O' E (whileF u g m env'), ⟨n, O, env, s, q⟩, ?_⟩
  rintro m σ' H' ⟨O', env', s', q'⟩
  cases m with
  | zero => exact q'.elim
  | succ m =>
    unfold whileF at q'
    refine h2 σ' H' O' env' [] _ s' (fl_post q' fun H1 O1 env1 b _ s1 t1 k1 => ?_)
    cases b with
    | false => exact k1 σ' H1 O1 s1 s1.rtr
    | true =>
      refine ⟨fun σ2 H2 => ∃ O2 env2, Sit S.K S.A σ2 H2 O2 env2 [] ∧ FPost S σ2 H2 O2 E (whileF u g m env2), fun σ2 H2 h => ⟨m, Nat.lt_succ_self m, h⟩, h4 σ' H1 O1 env1 _ s1 ?_⟩
      simp only [if_true] at k1
      cases eb : g env1 with
      | nx e => rw [eb] at k1; exact fun σ4 H4 O4 s4 t4 => ⟨O4, e, s4, fp_tr k1 t4⟩
      | ct e => rw [eb] at k1; exact fun σ4 H4 O4 s4 t4 => ⟨O4, e, s4, fp_tr k1 t4⟩
      | bk e => rw [eb] at k1; exact fun σ4 H4 O4 s4 t4 => k1 σ4 H4 O4 s4 t4
      | rt e r => rw [eb] at k1; exact fun σ4 v H4 O4 fq s4 r4 t4 => k1 σ4 v H4 O4 fq s4 r4 t4
      | err e x => rw [eb] at k1; exact fun σ4 cls dd H4 O4 s4 t4 ex => k1 σ4 cls dd H4 O4 s4 t4 ex
      | bad => rw [eb] at k1; exact k1.elim
end
end ML
/-! ML11: list comprehensions. -/
namespace ML
open PySem L2
def wipeE (env : Env) : List Nat → Env
  | [] => env
  | v :: vs => (wipeE env vs).set v .un
def backR (orig : Env) : List Nat → Env → Env
  | [], env => env
  | i :: r, env => backR orig r (match orig[i]? with | some (.dat d) => env.set i (.dat d) | _ => env)
section
variable {K : Fg} {A : Act} {H : Hp} {O : OS} {σ : L2.St} {env : Env} {T fp : List Addr}
theorem RE.unset (h : RE K A H O σ env fp) (i : Nat) (x : Option V) : ∃ fp', fp'.Sublist fp ∧ RE K A H O (σ.set i x) (env.set i .un) fp' := by
  induction h generalizing i with
  | nil => exact ⟨[], List.Sublist.refl _, .nil⟩
  | un h1 ih =>
    cases i with
    | zero => exact ⟨_, List.Sublist.refl _, .un h1⟩
    | succ i =>
      obtain ⟨fp', a, b⟩ := ih i
      exact ⟨fp', a, .un b⟩
  | @cons v s σ0 env0 fq fp0 h0 h1 ih =>
    cases i with
    | zero => exact ⟨fp0, List.sublist_append_right _ _, .un h1⟩
    | succ i =>
      obtain ⟨fp', a, b⟩ := ih i
      exact ⟨fq ++ fp', List.Sublist.append (List.Sublist.refl _) a, .cons h0 b⟩
theorem Sit.unset (S : Sit K A σ H O env T) (i : Nat) (x : Option V) : Sit K A (σ.set i x) H O (env.set i .un) T := by
  obtain ⟨fp, r, nd, ow⟩ := S.slots
  obtain ⟨fp', a, b⟩ := r.unset i x
  exact ⟨⟨fp', b, nd.sublist (List.Sublist.append a (List.Sublist.refl _)), fun c hc => ow c (by
    rcases List.mem_append.mp hc with h | h
    · simp [a.subset h]
    · simp [h])⟩, S.oc, S.base, S.o0, S.on, S.m0⟩
theorem Sit.wipe (S : Sit K A σ H O env T) : ∀ vs : List Nat, Sit K A (L2.wipe σ vs) H O (wipeE env vs) T
  | [] => S
  | v :: vs => (Sit.wipe S vs).unset v none
/-- slots of which nothing is told may hold anything -/
theorem RE.irr (h : RE K A H O σ env fp) : ∀ {σ' : L2.St}, σ'.length = σ.length → (∀ i : Nat, env[i]? = some .un ∨ σ'[i]? = σ[i]?) → RE K A H O σ' env fp := by
  induction h with
  | nil =>
    intro σ' hl _
    cases σ' with
    | nil => exact .nil
    | cons a b => simp at hl
  | un h1 ih =>
    intro σ' hl hs
    cases σ' with
    | nil => simp at hl
    | cons a b => exact .un (ih (by simpa using hl) fun i => by simpa using hs (i + 1))
  | cons h0 h1 ih =>
    intro σ' hl hs
    cases σ' with
    | nil => simp at hl
    | cons a b =>
      have z := hs 0
      simp at z
      rcases z with z | z
      · subst z
        cases h0
      · subst z
        exact .cons h0 (ih (by simpa using hl) fun i => by simpa using hs (i + 1))
theorem wipeE_len (env : Env) : ∀ vs, (wipeE env vs).length = env.length
  | [] => rfl
  | v :: vs => by
    unfold wipeE
    rw [List.length_set, wipeE_len env vs]
theorem wipeE_un (env : Env) : ∀ (vs : List Nat) (i : Nat), i ∈ vs → i < env.length → (wipeE env vs)[i]? = some .un
  | v :: vs, i, h, hl => by
    unfold wipeE
    by_cases e : v = i
    · subst e
      rw [List.getElem?_set_self (by rw [wipeE_len]; exact hl)]
    · rw [List.getElem?_set_ne e]
      refine wipeE_un env vs i ?_ hl
      rcases List.mem_cons.mp h with q | q
      · exact absurd q.symm e
      · exact q
theorem wipe_ne (σ : L2.St) : ∀ (vs : List Nat) (i : Nat), i ∉ vs → (L2.wipe σ vs)[i]? = σ[i]?
  | [], i, _ => rfl
  | v :: vs, i, h => by
    unfold L2.wipe
    rw [List.getElem?_set_ne (fun e => h (by simp [e])), wipe_ne σ vs i (fun q => h (by simp [q]))]
theorem wipe_only {σ σ' : L2.St} {vs : List Nat} (h : Only1 vs σ σ') : L2.wipe σ' vs = L2.wipe σ vs := by
  apply List.ext_getElem?
  intro i
  by_cases hi : i ∈ vs
  · by_cases hl : i < σ.length
    · have z : ∀ (τ : L2.St) (ws : List Nat), i ∈ ws → i < τ.length → (L2.wipe τ ws)[i]? = some none := by
        intro τ ws
        induction ws with
        | nil => intro a; simp at a
        | cons w ws ih =>
          intro a b
          unfold L2.wipe
          by_cases e : w = i
          · subst e
            rw [List.getElem?_set_self (by rw [wipe_length]; exact b)]
          · rw [List.getElem?_set_ne e]
            refine ih ?_ b
            rcases List.mem_cons.mp a with q | q
            · exact absurd q.symm e
            · exact q
      rw [z σ' vs hi (by rw [h.1]; exact hl), z σ vs hi hl]
    · rw [List.getElem?_eq_none (by rw [wipe_length, h.1]; omega), List.getElem?_eq_none (by rw [wipe_length]; omega)]
  · rw [wipe_ne _ _ _ hi, wipe_ne _ _ _ hi, h.2 i hi]
/-- the slots' own values again -/
theorem Sit.unwipe {vs : List Nat} (S : Sit K A (L2.wipe σ vs) H O env T) (hl : σ.length = env.length) (un : ∀ i ∈ vs, i < env.length → env[i]? = some .un) : Sit K A σ H O env T := by
  obtain ⟨fp, r, nd, ow⟩ := S.slots
  refine ⟨⟨fp, r.irr (by rw [wipe_length]) fun i => ?_, nd, ow⟩, S.oc, S.base, S.o0, S.on, S.m0⟩
  by_cases hi : i ∈ vs
  · by_cases hb : i < env.length
    · exact .inl (un i hi hb)
    · refine .inr ?_
      rw [List.getElem?_eq_none (by omega), List.getElem?_eq_none (by rw [wipe_length]; omega)]
  · exact .inr (wipe_ne σ vs i hi).symm
theorem Sit.backR {orig : Env} : ∀ {vs : List Nat} {env : Env}, Sit K A σ H O env T → (∀ (i : Nat) (d : ML.D), orig[i]? = some (SV.dat d) → ∃ v, σ[i]? = some (some v) ∧ RD K H O v d) → env.length = σ.length → Sit K A σ H O (backR orig vs env) T
  | [], env, S, _, _ => S
  | i :: r, env, S, ho, hl => by
    unfold ML.backR
    split
    · rename_i d e
      obtain ⟨v, h1, h2⟩ := ho i d e
      have hi : i < env.length := by
        rw [hl]
        exact (List.getElem?_eq_some_iff.mp h1).1
      have s1 := Sit.put (fq := []) S hi (.dat h2)
      rw [set_self h1] at s1
      exact Sit.backR s1 ho (by rw [List.length_set]; exact hl)
    · exact Sit.backR S ho hl
end

def compF (own : List Nat) (gt : D → Env → Option Env) (u : Env → Res Bool) (el : Env → Res D) : List D → Env → Nat → Res (List D)
  | [], env, _ => .ok env []
  | d :: ds, env, n => match gt d env with
    | none => .bad
    | some env1 => (u env1).bind fun env2 b =>
      if b then (el env2).bind fun env3 x => if n < sizeLine then (compF own gt u el ds (wipeE env3 own) (n + 1)).bind fun env4 xs => .ok env4 (x :: xs) else .bad
      else compF own gt u el ds (wipeE env2 own) n
def yComp (own : List Nat) (fi : Env → Res (List D)) (gt : D → Env → Option Env) (u : Env → Res Bool) (el : Env → Res D) (env : Env) : Res SV := (fi env).bind fun env1 ds =>
  match compF own gt u el ds (wipeE env1 own) 0 with
  | .ok env4 xs => .ok (backR env1 own env4) (.own none (.lst xs))
  | _ => .bad
/-- within a comprehension -/
def Cxt.inn (S : Cxt) (scope : Scope) : Cxt := { S with sc := relS scope S.sc, W := fun _ _ _ _ => False, blk := true }
theorem inn_ok {S : Cxt} {X : Cx} (o : S.Ok X) {scope : Scope} (hk : scope.kind = .function) (s : Shared) (H : Hp) (C : Addr) (cl : List (Str × Addr)) (fp : List Addr) : (S.inn scope).Ok (X.blk s H scope (compEnvC scope cl C X.env) fp) := by
  obtain ⟨o1, o2, o3, o4, o5, o6, o7, o8, o9, o10, o11, o12, o13, o14⟩ := o
  refine ⟨o1, o2, o3, o4, o5, o6, ?_, o8, o9, o10, PassesOwn.never, fun u s' h => ?_, fun z => (by cases z), hk⟩
  · show relS scope X.env.scope = relS scope S.sc
    rw [o7]
  · obtain ⟨_, _, _, _, _, _, _, _, _, _, _, _, _, _, _, _, z⟩ := h
    exact z
def SemTs (S : Cxt) (ifs : List Expr) (u : Env → Res Bool) : Prop := ∃ t, (∀ X, S.Ok X → PTs X ifs t) ∧ SemT S t u
def uYes (env : Env) : Res Bool := .ok env true
theorem jts_nil {S : Cxt} : SemTs S [] uYes := ⟨_, fun X o => pts_nil, fun σ H O env T Q s k => k H O s s.rtr⟩
theorem jts_one {S : Cxt} {c : Expr} {u : Env → Res Bool} (h : JT S c u) : SemTs S [c] u := by
  obtain ⟨t, h1, h2⟩ := h
  exact ⟨t, fun X o => pts_one (h1 X o), h2⟩

section
variable {S : Cxt} {elt tg iter : Expr} {ifs : List Expr} {scope : Scope} {own : List (Str × Nat)} {ws : List Nat} {pos : Pos} {fi : Env → Res (List D)} {gt : D → Env → Option Env} {u : Env → Res Bool} {el : Env → Res D}
theorem compF_env (o : List Nat) : ∀ (ds : List D) (env : Env) (n : Nat) (env4 : Env) (xs : List D), compF o gt u el ds env n = .ok env4 xs → (∃ e, env = wipeE e o) → ∃ e, env4 = wipeE e o := by
  intro ds
  induction ds with
  | nil =>
    intro env n env4 xs h he
    cases h
    exact he
  | cons d ds ih =>
    intro env n env4 xs h he
    unfold compF at h
    split at h
    · cases h
    · rename_i env1 _
      cases e1 : u env1 with
      | bad => rw [e1] at h; cases h
      | err a b => rw [e1] at h; cases h
      | ok env2 b =>
        rw [e1] at h
        dsimp only [Res.bind] at h
        cases b with
        | false => exact ih _ _ _ _ h ⟨_, rfl⟩
        | true =>
          simp only [if_true] at h
          cases e2 : el env2 with
          | bad => rw [e2] at h; cases h
          | err a b => rw [e2] at h; cases h
          | ok env3 x =>
            rw [e2] at h
            dsimp only at h
            split at h
            · cases e3 : compF o gt u el ds (wipeE env3 o) (n + 1) with
              | bad => rw [e3] at h; cases h
              | err a b => rw [e3] at h; cases h
              | ok env5 ys =>
                rw [e3] at h
                cases h
                exact ih _ _ _ _ e3 ⟨_, rfl⟩
            · cases h
/-- what the reading of a comprehension comes to -/
theorem lc_sem {wi : TI} {g : TG} {tt : TT} {te : TE} (hwi : SemI S wi fi) (hg : SemG (S.inn scope) g ws gt) (ht : SemT (S.inn scope) tt u) (he : SemD (S.inn scope) te el) (hws : ∀ i ∈ ws, i ∈ own.map (·.2)) :
    SemE S (tLc wi g tt te (own.map (·.2))) (yComp (own.map (·.2)) fi gt u el) := by
  intro σ H O env T Q s q
  generalize hv : own.map (·.2) = vs at *
  refine hwi σ H O env T _ s ?_
  have q' : RPost S σ H O T (fun H1 O1 env1 ds => ∀ J, ItOk S.K J ds H1 O1 → ∀ D, H1 D = none → ∃ W : Nat → Nat → Hp → Prop, (∃ m, W 0 m (upd H1 D (.lst []))) ∧ ∀ i m H, W i m H →
      (J.stop i H ∧ Q (.ref D) H) ∨ (J.go i H ∧ ∃ Nx : Hp → Prop, (∀ H', Nx H' → ∃ m', m' < m ∧ W (i + 1) m' H') ∧ ∀ x H', J.yld i H x H' → g x (L2.wipe σ vs) H' fun σ2 H2 => L2.wipe σ2 vs = L2.wipe σ vs ∧ tt σ2 H2 fun b H3 =>
        if b = true then te σ2 H3 fun y H4 => ∃ acc, H4 D = some (.lst acc) ∧ acc.length < sizeLine ∧ Nx (upd H4 D (.lst (acc ++ [y]))) else Nx H3)) (fi env) := by
    unfold yComp at q
    cases ef : fi env with
    | bad => rw [ef] at q; exact q
    | err a b => rw [ef] at q; exact q
    | ok env1 ds =>
      rw [ef] at q
      dsimp only [Res.bind] at q
      intro H1 O1 s1 t1 J hJ D hD
      obtain ⟨O2, s2, r2, t2⟩ := s1.adopt (vs := []) (xs := []) hD .nil
      -- the outcome, kept for the end
      have fin : ∀ (env4 : Env) (xs : List ML.D), compF vs gt u el ds (wipeE env1 vs) 0 = .ok env4 xs → ∀ ys H' O', Sit S.K S.A (L2.wipe σ vs) H' O' env4 ([D] ++ T) → Tr T H1 O1 H' O' → H' D = some (.lst ys) → RDs S.K H' O' ys xs → ¬ S.A.O0 D → Q (.ref D) H' := by
        intro env4 xs ec ys H' O' s4 t4 hd rd nd
        rw [ec] at q
        obtain ⟨e0, he0⟩ := compF_env vs ds _ 0 env4 xs ec ⟨env1, rfl⟩
        have hlen : σ.length = env4.length := by
          have a := s4.len
          rw [wipe_length] at a
          exact a
        have s5 := s4.unwipe hlen fun i hi hb => by
          rw [he0]
          rw [he0, wipeE_len] at hb
          exact wipeE_un e0 vs i hi hb
        have s6 : Sit S.K S.A σ H' O' (backR env1 vs env4) ([D] ++ T) := s5.backR (fun i d e => by
          obtain ⟨v, a, b⟩ := s1.dat e
          exact ⟨v, a, RD.sta t4.1 _ _ b⟩) hlen.symm
        exact q (.ref D) H' O' [D] s6 (.own (.lst hd rd) nd) (t1.trans t4)
      have ndD : ¬ S.A.O0 D := fun z => s1.oc D (s1.o0 D z) hD
      -- the word: behind i turns
      refine ⟨fun i m H' => m = ds.length - i ∧ i ≤ ds.length ∧ ∃ O' env' ys acc, H' D = some (.lst ys) ∧ RDs S.K H' O' ys acc ∧ Sit S.K S.A (L2.wipe σ vs) H' O' env' ([D] ++ T) ∧ Tr T H1 O1 H' O' ∧
        (match compF vs gt u el (ds.drop i) env' acc.length with
          | .ok env4 xs => ∀ zs H2 O2, Sit S.K S.A (L2.wipe σ vs) H2 O2 env4 ([D] ++ T) → Tr T H1 O1 H2 O2 → H2 D = some (.lst zs) → RDs S.K H2 O2 zs (acc ++ xs) → Q (.ref D) H2
          | _ => False), ?_, ?_⟩
      · refine ⟨ds.length, by simp, Nat.zero_le _, O2, wipeE env1 vs, [], [], upd_same, .nil, s2.wipe vs, t2, ?_⟩
        rw [List.drop_zero]
        show (match compF vs gt u el ds (wipeE env1 vs) 0 with
          | .ok env4 xs => _
          | _ => _)
        cases ec : compF vs gt u el ds (wipeE env1 vs) 0 with
        | bad => rw [ec] at q; exact q.elim
        | err a b => rw [ec] at q; exact q.elim
        | ok env4 xs => exact fun zs H2 O2 s4 t4 hd rd => fin env4 xs ec zs H2 O2 s4 t4 hd (by simpa using rd) ndD
      · rintro i m H' ⟨rfl, hl, O', env', ys, acc, hd, rd, s', t', out⟩
        have it := hJ H' O' t'.1 s'.oc i
        by_cases hlt : i < ds.length
        · refine .inr ⟨(it.1 ds[i] (by simp [hlt])).1, fun H2 => (ds.length - (i + 1)) < ds.length - i ∧ i + 1 ≤ ds.length ∧ ∃ O' env' ys acc, H2 D = some (.lst ys) ∧ RDs S.K H2 O' ys acc ∧ Sit S.K S.A (L2.wipe σ vs) H2 O' env' ([D] ++ T) ∧ Tr T H1 O1 H2 O' ∧
            (match compF vs gt u el (ds.drop (i + 1)) env' acc.length with
              | .ok env4 xs => ∀ zs H2 O2, Sit S.K S.A (L2.wipe σ vs) H2 O2 env4 ([D] ++ T) → Tr T H1 O1 H2 O2 → H2 D = some (.lst zs) → RDs S.K H2 O2 zs (acc ++ xs) → Q (.ref D) H2
              | _ => False), fun H2 h => ⟨_, h.1, rfl, h.2.1, h.2.2⟩, fun x H2 y => ?_⟩
          obtain ⟨gr, rdx⟩ := (it.1 ds[i] (by simp [hlt])).2 x H2 y
          have ed : ds.drop i = ds[i] :: ds.drop (i + 1) := List.drop_eq_getElem_cons hlt
          rw [ed] at out
          unfold compF at out
          cases eg : gt ds[i] env' with
          | none => rw [eg] at out; exact out.elim
          | some env2 =>
            rw [eg] at out
            dsimp only at out
            refine hg x _ (L2.wipe σ vs) H2 O' env' env2 ([D] ++ T) _ (s'.grow gr) rdx eg fun σ3 s3 only => ⟨?_, ?_⟩
            · have o2 : Only1 vs (L2.wipe σ vs) σ3 := ⟨only.1, fun j hj => only.2 j fun z => hj (hv ▸ hws j z)⟩
              rw [wipe_only o2]
              apply List.ext_getElem?
              intro j
              have z := wipe_only (σ := σ) (σ' := L2.wipe σ vs) (vs := vs) ⟨wipe_length σ vs, fun k hk => wipe_ne σ vs k hk⟩
              rw [z]
            · have w3 : L2.wipe σ3 vs = L2.wipe σ vs := by
                have o2 : Only1 vs (L2.wipe σ vs) σ3 := ⟨only.1, fun j hj => only.2 j fun z => hj (hv ▸ hws j z)⟩
                rw [wipe_only o2]
                exact wipe_only (σ := σ) (σ' := L2.wipe σ vs) (vs := vs) ⟨wipe_length σ vs, fun k hk => wipe_ne σ vs k hk⟩
              have tT : ∀ {H3 : Hp} {O3 : OS}, Tr ([D] ++ T) H2 O' H3 O3 → Tr T H1 O1 H3 O3 := fun t3 => t'.trans ((s'.less.gtr gr).trans (t3.less fun b hb => by simp [hb]))
              have tD : ∀ {H3 : Hp} {O3 : OS}, Tr ([D] ++ T) H2 O' H3 O3 → H3 D = some (.lst ys) := fun t3 => by
                rw [(t3.2 D (by simp)).1]
                exact gr D _ hd
              refine ht σ3 H2 O' env2 ([D] ++ T) _ s3 ?_
              cases eu : u env2 with
              | bad => rw [eu] at out; exact out.elim
              | err a b => rw [eu] at out; exact out.elim
              | ok env3 b =>
                rw [eu] at out
                dsimp only [Res.bind] at out
                intro H3 O3 s4 t4
                cases b with
                | false =>
                  simp only [Bool.false_eq_true, if_false] at out ⊢
                  refine ⟨by omega, by omega, O3, wipeE env3 vs, ys, acc, tD t4, RDs.sta ((s'.gtr gr).1.trans t4.1) _ _ rd, ?_, tT t4, out⟩
                  rw [← w3]
                  exact s4.wipe vs
                | true =>
                  simp only [if_true] at out ⊢
                  refine he σ3 H3 O3 env3 ([D] ++ T) _ s4 ?_
                  cases ee : el env3 with
                  | bad => rw [ee] at out; exact out.elim
                  | err a b => rw [ee] at out; exact out.elim
                  | ok env4 z =>
                    rw [ee] at out
                    dsimp only at out
                    intro H4 O4 s5 t5 v rv
                    have t6 : Tr ([D] ++ T) H2 O' H4 O4 := t4.trans t5
                    have hd4 := tD t6
                    have rd4 : RDs S.K H4 O4 ys acc := RDs.sta ((s'.gtr gr).1.trans t6.1) _ _ rd
                    by_cases hz : acc.length < sizeLine
                    · rw [if_pos hz] at out
                      have oD : O4 D := s5.tr0 D (by simp)
                      have nT : ∀ b ∈ T, O4 b ∧ b ≠ D := fun b hb => ⟨s5.tr0 b (by simp [hb]), fun z => by
                        obtain ⟨f5, _, nd5, _⟩ := s5.slots
                        have := (List.nodup_append.mp nd5).2.1
                        rw [z] at hb
                        exact (List.nodup_cons.mp this).1 hb⟩
                      have t7 : Tr T H4 O4 (upd H4 D (.lst (ys ++ [v]))) O4 := upd_tr oD nT
                      refine ⟨ys, hd4, by rw [rd4.len]; exact hz, by omega, by omega, O4, wipeE env4 vs, ys ++ [v], acc ++ [z], upd_same, RDs.sta t7.1 _ _ (rd4.app (.cons rv .nil)), ?_, (tT t6).trans t7, ?_⟩
                      · rw [← w3]
                        exact (s5.updT (by simp)).wipe vs
                      · rw [List.length_append, List.length_singleton]
                        cases ec : compF vs gt u el (ds.drop (i + 1)) (wipeE env4 vs) (acc.length + 1) with
                        | bad => rw [ec] at out; exact out.elim
                        | err a b => rw [ec] at out; exact out.elim
                        | ok env5 xs =>
                          rw [ec] at out
                          intro zs H5 O5 a b c d
                          refine out zs H5 O5 a b c ?_
                          rw [List.append_assoc] at d
                          exact d
                    · rw [if_neg hz] at out
                      exact out.elim
        · have e0 : i = ds.length := by omega
          refine .inl ⟨it.2 (by omega), ?_⟩
          rw [e0, List.drop_length] at out
          unfold compF at out
          exact out ys H' O' s' t' hd (by simpa using rd)
  exact q'
theorem je_comp (nd : S.N.Nodup) (hi : JI S tg iter fi) (ok : blkC S.N S.sc scope own = true) (hg : JG (S.inn scope) tg ws gt) (ht : SemTs (S.inn scope) ifs u) (he : JD (S.inn scope) elt el) (hws : ∀ i ∈ ws, i ∈ own.map (·.2))
    (hs : ∀ env x, foldedSetIterable iter env x = pure x := by intro _ _; rfl) : JE S (.ListComp elt [⟨tg, iter, ifs, 0⟩] scope pos) (yComp (own.map (·.2)) fi gt u el) := by
  obtain ⟨wi, h1, h2⟩ := hi
  obtain ⟨g, h3, h4⟩ := hg
  obtain ⟨tt, h5, h6⟩ := ht
  obtain ⟨te, h7, h8⟩ := he
  have bk := blkOk_by ok
  refine ⟨tLc wi g tt te (own.map (·.2)), fun X o => ?_, lc_sem h2 h4 h6 h8 hws⟩
  exact pe_lc o.calm (by rw [o.N]; exact nd) (h1 X o) (by rw [o.N, o.sc]; exact bk) (fun s H C cl fp => h3 _ (inn_ok o bk.kind s H C cl fp)) (fun s H C cl fp => h5 _ (inn_ok o bk.kind s H C cl fp)) (fun s H C cl fp => h7 _ (inn_ok o bk.kind s H C cl fp)) (hs _)
/-- name = [..] -/
theorem js_setComp (i : Nat) {y : Str} {py spos : Pos} (nd : S.N.Nodup) (hy : S.N[i]? = some y) (hyl : S.sc.names.lookup y = some .local) (hl : (py.line == pos.line) = true) (hsn : (scope.names.any fun (n, k) => n == y && (k == .local || k == .cell)) = false)
    (hi : JI S tg iter fi) (ok : blkC S.N S.sc scope own = true) (hg : JG (S.inn scope) tg ws gt) (ht : SemTs (S.inn scope) ifs u) (he : JD (S.inn scope) elt el) (hws : ∀ i ∈ ws, i ∈ own.map (·.2))
    (hs : ∀ env x, foldedSetIterable iter env x = pure x := by intro _ _; rfl) : JS S (.Assign [.Name y py] (.ListComp elt [⟨tg, iter, ifs, 0⟩] scope pos) spos) (sSet i (yComp (own.map (·.2)) fi gt u el)) := by
  obtain ⟨wi, h1, h2⟩ := hi
  obtain ⟨g, h3, h4⟩ := hg
  obtain ⟨tt, h5, h6⟩ := ht
  obtain ⟨te, h7, h8⟩ := he
  have bk := blkOk_by ok
  refine ⟨tAsg (tLc wi g tt te (own.map (·.2))) (gName i), fun X o => ?_, fun σ H O env E s q => ?_⟩
  · exact ps_setLc o.calm (by rw [o.N]; exact nd) (by rw [o.N]; exact hy) (by rw [o.sc]; exact hyl) (sw_true o.kind (by rw [o.sc]; exact hyl) hl hsn) (h1 X o) (by rw [o.N, o.sc]; exact bk) (fun s H C cl fp => h3 _ (inn_ok o bk.kind s H C cl fp)) (fun s H C cl fp => h5 _ (inn_ok o bk.kind s H C cl fp)) (fun s H C cl fp => h7 _ (inn_ok o bk.kind s H C cl fp)) (hs _)
  · refine lc_sem h2 h4 h6 h8 hws σ H O env [] _ s (vl_post q fun env1 sv v H1 O1 fq _ s1 r1 t1 k1 => ?_)
    by_cases hi : i < env1.length
    · rw [if_pos hi] at k1
      exact k1 _ H1 O1 (s1.put hi r1) (.refl fun a h => nomatch h)
    · rw [if_neg hi] at k1
      exact k1.elim
end
end ML
/-! ML12: several targets; lists that are changed. -/
namespace ML
open PySem L2
section
variable {S : Cxt} {e e1 e2 e3 : Expr} {es : List Expr} {pos : Pos}
theorem RS.act {K : Fg} {A : Act} {H : Hp} {O : OS} {v : V} {sv : SV} {fq : List Addr} (h : RS K A H O v sv fq) : RS K A H O v sv fq := h
theorem vp_tr {σ : L2.St} {H H1 : Hp} {O O1 : OS} {T : List Addr} {Q : VK} {r : Res SV} (h : VPost S σ H O T Q r) (t : Tr T H O H1 O1) : VPost S σ H1 O1 T Q r := by
  cases r with
  | ok env a => exact fun v H' O' fq s rs t' => h v H' O' fq s rs (t.trans t')
  | err env x => exact fun cls dd H' O' s t' => h cls dd H' O' s (t.trans t')
  | bad => exact h
def sPar (i j : Nat) (fa fb : Env → Res SV) (env : Env) : Fl := (fa env).fl fun env1 a => (fb env1).fl fun env2 b => if i < env2.length ∧ j < env2.length then .nx ((env2.set j b).set i a) else .bad
theorem sc_of {X : Cx} (o : S.Ok X) {P : PySem.Env → Prop} (h : ∀ env : PySem.Env, env.scope = S.sc → P env) : P X.env := h _ o.sc
theorem js_par (i j : Nat) {x y : Str} {px py pt : Pos} {kt k2 pt2} {fa fb : Env → Res SV} (nd : S.N.Nodup) (hx : S.N[i]? = some x) (hy : S.N[j]? = some y) (hij : i ≠ j) (lx : S.sc.names.lookup x = some .local) (ly : S.sc.names.lookup y = some .local)
    (ha : JE S e1 fa) (hb : JE S e2 fb) (hw : ∀ env : PySem.Env, env.scope = S.sc → swappedStores [.Tuple [.Name x px, .Name y py] kt pt] (.Tuple [e1, e2] k2 pt2) env = pure (some [x, y]))
    (hs1 : ∀ env, starEach [e1, e2] env = [(false, eval e1 env), (false, eval e2 env)] := by intro _; rfl) (hs2 : ∀ env, starEach [e2] env = [(false, eval e2 env)] := by intro _; rfl) :
    JS S (.Assign [.Tuple [.Name x px, .Name y py] kt pt] (.Tuple [e1, e2] k2 pt2) pos) (sPar i j fa fb) := by
  obtain ⟨t, h1, h2⟩ := ha
  obtain ⟨u, h3, h4⟩ := hb
  refine ⟨tPar i j (tCons t (tCons u tNil)), fun X o => ?_, fun σ H O env E s q => ?_⟩
  · exact ps_par o.calm (by rw [o.N]; exact nd) (by rw [o.N]; exact hx) (by rw [o.N]; exact hy) hij (by rw [o.sc]; exact lx) (by rw [o.sc]; exact ly) (pa_cons (h1 X o) (pa_cons (h3 X o) pa_nil (by rw [hs2]; rfl)) (by rw [hs1, hs2])) (sc_of o hw)
  · unfold sPar at q
    refine h2 σ H O env [] _ s ?_
    cases ea : fa env with
    | bad => rw [ea] at q; exact q
    | err a b => rw [ea] at q; exact fun cls dd H' O' s' t' ex => q σ cls dd H' O' s' t' ex
    | ok env1 sa =>
      rw [ea] at q
      dsimp only [Res.fl] at q
      intro v H1 O1 fq s1 r1 t1
      rw [List.append_nil] at s1
      refine h4 σ H1 O1 env1 fq _ s1 ?_
      cases eb : fb env1 with
      | bad => rw [eb] at q; exact q.elim
      | err a b =>
        rw [eb] at q
        exact fun cls dd H' O' s' t' ex => q σ cls dd H' O' (Sit.less (T := []) (by rw [List.append_nil]; exact s')) (t1.trans (t'.less fun b hb => absurd hb List.not_mem_nil)) ex
      | ok env2 sb =>
        rw [eb] at q
        dsimp only at q
        intro w H2 O2 fq2 s2 r2 t2
        by_cases hl : i < env2.length ∧ j < env2.length
        · rw [if_pos hl] at q
          refine ⟨v, w, rfl, ?_⟩
          have r1' : RS S.K S.A H2 O2 v sa fq := r1.sta t2.1 fun b hb => (t2.2 b hb).1
          have s3 := s2.put hl.2 r2
          have s4 := Sit.put (T := []) (by rw [List.append_nil]; exact s3) (i := i) (by rw [List.length_set]; exact hl.1) r1'
          rw [List.set_comm _ _ hij.symm] at s4
          exact q _ H2 O2 s4 (t1.trans (t2.less fun b hb => absurd hb List.not_mem_nil))
        · rw [if_neg hl] at q
          exact q.elim
def sPar3 (i j l : Nat) (fa fb fc : Env → Res SV) (env : Env) : Fl := (fa env).fl fun env1 a => (fb env1).fl fun env2 b => (fc env2).fl fun env3 c =>
  if i < env3.length ∧ j < env3.length ∧ l < env3.length then .nx (((env3.set l c).set j b).set i a) else .bad
theorem js_par3 (i j l : Nat) {x y z : Str} {px py pz pt : Pos} {kt k2 pt2} {fa fb fc : Env → Res SV} (nd : S.N.Nodup) (hx : S.N[i]? = some x) (hy : S.N[j]? = some y) (hz : S.N[l]? = some z) (hij : i ≠ j) (hil : i ≠ l) (hjl : j ≠ l)
    (lx : S.sc.names.lookup x = some .local) (ly : S.sc.names.lookup y = some .local) (lz : S.sc.names.lookup z = some .local)
    (ha : JE S e1 fa) (hb : JE S e2 fb) (hc : JE S e3 fc) (hw : ∀ env : PySem.Env, env.scope = S.sc → swappedStores [.Tuple [.Name x px, .Name y py, .Name z pz] kt pt] (.Tuple [e1, e2, e3] k2 pt2) env = pure (some [x, y, z]))
    (hs1 : ∀ env, starEach [e1, e2, e3] env = [(false, eval e1 env), (false, eval e2 env), (false, eval e3 env)] := by intro _; rfl) (hs2 : ∀ env, starEach [e2, e3] env = [(false, eval e2 env), (false, eval e3 env)] := by intro _; rfl) (hs3 : ∀ env, starEach [e3] env = [(false, eval e3 env)] := by intro _; rfl) :
    JS S (.Assign [.Tuple [.Name x px, .Name y py, .Name z pz] kt pt] (.Tuple [e1, e2, e3] k2 pt2) pos) (sPar3 i j l fa fb fc) := by
  obtain ⟨t, h1, h2⟩ := ha
  obtain ⟨u, h3, h4⟩ := hb
  obtain ⟨u', h5, h6⟩ := hc
  refine ⟨tPar3 i j l (tCons t (tCons u (tCons u' tNil))), fun X o => ?_, fun σ H O env E s q => ?_⟩
  · exact ps_par3 o.calm (by rw [o.N]; exact nd) (by rw [o.N]; exact hx) (by rw [o.N]; exact hy) (by rw [o.N]; exact hz) hij hil hjl (by rw [o.sc]; exact lx) (by rw [o.sc]; exact ly) (by rw [o.sc]; exact lz)
      (pa_cons (h1 X o) (pa_cons (h3 X o) (pa_cons (h5 X o) pa_nil (by rw [hs3]; rfl)) (by rw [hs2, hs3])) (by rw [hs1, hs2])) (sc_of o hw)
  · unfold sPar3 at q
    refine h2 σ H O env [] _ s ?_
    cases ea : fa env with
    | bad => rw [ea] at q; exact q
    | err a b => rw [ea] at q; exact fun cls dd H' O' s' t' ex => q σ cls dd H' O' s' t' ex
    | ok env1 sa =>
      rw [ea] at q
      dsimp only [Res.fl] at q
      intro v H1 O1 fq s1 r1 t1
      rw [List.append_nil] at s1
      refine h4 σ H1 O1 env1 fq _ s1 ?_
      cases eb : fb env1 with
      | bad => rw [eb] at q; exact q.elim
      | err a b =>
        rw [eb] at q
        exact fun cls dd H' O' s' t' ex => q σ cls dd H' O' (Sit.less (T := []) (by rw [List.append_nil]; exact s')) (t1.trans (t'.less fun b hb => absurd hb List.not_mem_nil)) ex
      | ok env2 sb =>
        rw [eb] at q
        dsimp only at q
        intro w H2 O2 fq2 s2 r2 t2
        refine h6 σ H2 O2 env2 (fq2 ++ fq) _ s2 ?_
        cases ec : fc env2 with
        | bad => rw [ec] at q; exact q.elim
        | err a b =>
          rw [ec] at q
          exact fun cls dd H' O' s' t' ex => q σ cls dd H' O' (Sit.less (T := []) (by rw [List.append_nil]; exact s')) (t1.trans ((t2.less fun b hb => absurd hb List.not_mem_nil).trans (t'.less fun b hb => absurd hb List.not_mem_nil))) ex
        | ok env3 sc =>
          rw [ec] at q
          dsimp only at q
          intro x3 H3 O3 fq3 s3 r3 t3
          by_cases hl : i < env3.length ∧ j < env3.length ∧ l < env3.length
          · rw [if_pos hl] at q
            refine ⟨v, w, x3, rfl, ?_⟩
            have r1' : RS S.K S.A H3 O3 v sa fq := (r1.sta t2.1 fun b hb => (t2.2 b hb).1).sta t3.1 fun b hb => (t3.2 b (by simp [hb])).1
            have r2' : RS S.K S.A H3 O3 w sb fq2 := r2.sta t3.1 fun b hb => (t3.2 b (by simp [hb])).1
            have s4 := s3.put hl.2.2 r3
            have s5 := s4.put (i := j) (by rw [List.length_set]; exact hl.2.1) r2'
            have s6 := Sit.put (T := []) (by rw [List.append_nil]; exact s5) (i := i) (by rw [List.length_set, List.length_set]; exact hl.1) r1'
            have ec : ((σ.set l (some x3)).set j (some w)).set i (some v) = ((σ.set i (some v)).set j (some w)).set l (some x3) := by
              rw [List.set_comm _ _ hjl.symm, List.set_comm _ _ hil.symm, List.set_comm _ _ hij.symm]
            rw [ec] at s6
            exact q _ H3 O3 s6 (t1.trans ((t2.less fun b hb => absurd hb List.not_mem_nil).trans (t3.less fun b hb => absurd hb List.not_mem_nil)))
          · rw [if_neg hl] at q
            exact q.elim
/-- a, b = e, any target -/
def sAsg (f : Env → Res D) (gt : D → Env → Option Env) (env : Env) : Fl := (f env).fl fun env1 d => match gt d env1 with | some env2 => .nx env2 | none => .bad
theorem js_asg {tg : Expr} {ws : List Nat} {f : Env → Res D} {gt : D → Env → Option Env} (he : JD S e f) (hg : JG S tg ws gt) (hs : ∀ env, swapsWithSole [tg] e pos.line env = pure false := by intro _; rfl)
    (hw : ∀ env : PySem.Env, env.scope = S.sc → swappedStores [tg] e env = pure none) (ha : ∀ env, (assignEach [tg] env).map (·.2) = [assign tg env] := by intro _; rfl) : JS S (.Assign [tg] e pos) (sAsg f gt) := by
  obtain ⟨t, h1, h2⟩ := he
  obtain ⟨u, h3, h4⟩ := hg
  refine ⟨tAsg t u, fun X o => ps_asg (h1 X o) (h3 X o) (hs _) (sc_of o hw) (ha _), fun σ H O env E s q => h2 σ H O env [] _ s (fl_post q fun H1 O1 env1 d _ s1 t1 k1 v rv => ?_)⟩
  cases eg : gt d env1 with
  | none => rw [eg] at k1; exact k1.elim
  | some env2 =>
    rw [eg] at k1
    exact h4 v d σ H1 O1 env1 env2 [] _ s1 rv eg fun σ' s' _ => k1 σ' H1 O1 s' s'.rtr

/-! ### x.append(e), x.extend(e), x.pop(), x[i] = e, x a slot's own list -/
def ownL (env : Env) (i : Nat) : Option (Option Nat × List D) := match env[i]? with
  | some (.own tag (.lst xs)) => some (tag, xs)
  | _ => none
theorem ownL_eq {env : Env} {i : Nat} {tag : Option Nat} {xs : List D} (h : ownL env i = some (tag, xs)) : env[i]? = some (.own tag (.lst xs)) := by
  unfold ownL at h
  split at h
  · rename_i h'
    cases h
    exact h'
  · cases h
def sAppend (i : Nat) (f : Env → Res D) (env : Env) : Fl := match ownL env i with
  | none => .bad
  | some _ => (f env).fl fun env1 d => match ownL env1 i with
    | some (tag, xs) => if xs.length < sizeLine then .nx (env1.set i (.own tag (.lst (xs ++ [d])))) else .bad
    | none => .bad
theorem js_append (i : Nat) {x : Str} {px ap cp : Pos} {f : Env → Res D} (hN : S.N[i]? = some x) (hv : Vis S.sc x) (hd : (x == ("__debug__" : Str)) = false) (hc : (x == ("__classdict__" : Str)) = false) (he : JD S e f)
    (hline : (ap.endLine == cp.line) = true) (hst : ∀ env, starEach [e] env = [(false, eval e env)] := by intro _; rfl)
    (hbase : ∀ env, attributeBase (.Name x px) "append" env (eval (.Name x px) env) = eval (.Name x px) env := by intro _; rfl) :
    JS S (.Expr (.Call (.Attribute (.Name x px) "append" ap) [e] [] cp) pos) (sAppend i f) := by
  obtain ⟨t, h1, h2⟩ := he
  refine ⟨tDrop (tBM S.K "list" rAppend (tVar i) (tCons t tNil)), fun X o => ?_, fun σ H O env E s q => ?_⟩
  · have z := pe_bm (cpos := cp) (apos := ap) PySem.F.plainAttrs_list PySem.F.slot_list_append PySem.F.type_list_append (mt_append (X := X)) (pe_var (pos := px) (i := i) (by rw [o.N]; exact hN) (by rw [o.sc]; exact hv) hd hc) (pa_cons (h1 X o) pa_nil (by rw [hst]; rfl)) (hbase _)
      (by rw [hst]; rfl) hline (by rw [hst]; rfl) (by rfl)
    rw [o.K] at z
    exact ps_expr z (by rfl)
  · unfold sAppend at q
    cases e0 : ownL env i with
    | none => rw [e0] at q; exact q.elim
    | some p0 =>
      obtain ⟨tag0, xs0⟩ := p0
      rw [e0] at q
      obtain ⟨a, vs, w1, w2, w3, w4, _⟩ := s.mutL (ys := []) (ownL_eq e0)
      refine ⟨_, w1, .inl ⟨rfl, vs, SqL.of w2⟩, ?_⟩
      refine h2 σ H O env [] _ s (fl_post q fun H1 O1 env1 d _ s1 t1 k1 v rv => ?_)
      cases e1 : ownL env1 i with
      | none => rw [e1] at k1; exact k1.elim
      | some p1 =>
        obtain ⟨tag, xs⟩ := p1
        rw [e1] at k1
        dsimp only at k1
        obtain ⟨a', vs', y1, y2, y3, y4, y5⟩ := s1.mutL (ys := xs ++ [d]) (ownL_eq e1)
        rw [w1] at y1
        cases y1
        by_cases hl : xs.length < sizeLine
        · rw [if_pos hl] at k1
          obtain ⟨s2, t2⟩ := y5 (vs' ++ [v]) (y3.app (.cons rv .nil))
          exact ⟨_, vs', v, rfl, rfl, y2, by rw [y3.len]; exact hl, k1 σ _ O1 s2 t2⟩
        · rw [if_neg hl] at k1
          exact k1.elim
/-- list.extend by a list, by a tuple -/
theorem ext_tup (l : Addr) (items : Array Value) (n : Nat) (b : Addr) (items2 : Array Value) (n2 : Nat) (dd : Option Addr) (sl : Array (Option Value)) (hs0 : ¬(!items.isEmpty && Builtin.List.listTooLong (items.size + items2.size)) = true) (hs1 : items.size ≤ sizeLine) (hs2 : items.size + items2.size ≤ sizeLine + 1) :
    Meets (Builtin.«list.extend» ⟨[.ref l, .ref b], []⟩) (fun _ R s => s.heap.get? l = some { cls := .type "list", dict := none, data := .seq items n, slots := #[] } ∧ s.heap.get? b = some { cls := .type "tuple", dict := dd, data := .seq items2 n2, slots := sl } ∧
      R (.ok (.ret Value.none)) { s with heap := s.heap.update l (Obj.mapSeq fun x => x ++ items2), toks := s.toks }) :=
  .of_wp fun prog w A R s h => by
    obtain ⟨hp, g, d, tk, os⟩ := s
    obtain ⟨hl, hb, h⟩ := h
    have g1 := AutoSeq1.idx_int
    have g2 := AutoSeq1.sub_tuple_tuple
    have g3 := AutoSeq1.sub_list_list
    have g4 := AutoSeq1.sub_tuple_list
    have g5 := AutoSeq1.sub_list_tuple
    have hz : (items ++ items2).size ≤ sizeLine + 1 := by
      rw [Array.size_append]
      exact hs2
    wp_walk using (wpAny_updateSeq hl rfl (hz := hs1) (_hz' := hz)), wpAny_loadPart' hl, wpAny_loadPart' hb
    exact ⟨_, rfl, h⟩
def rExtA (K : Fg) : V → List V → Hp → VK → Prop := fun x vs H Q => rExtend x vs H Q ∨ ∃ l b xs zs, x = .ref l ∧ vs = [.ref b] ∧ H l = some (.lst xs) ∧ SqT K H b zs ∧ xs.length + zs.length ≤ sizeLine ∧ Q .non (upd H l (.lst (xs ++ zs)))
theorem mt_extA {X : Cx} : MtR X "list.extend" (rExtA X.K) := by
  intro pins s σ H x vs v us Q I rx rv h
  rcases h with h | h
  · exact mt_extend pins s σ H x vs v us Q I rx rv h
  · obtain ⟨l, b, xs, zs, rfl, rfl, hl, hb, hz, q⟩ := h
    cases rx
    obtain ⟨u, rfl, ru⟩ := rv.one
    cases ru
    obtain ⟨z1, its, n, r1, ln, g1⟩ := I.lstM hl
    obtain ⟨its2, r2, ⟨⟨cc, dd, dat, sl⟩, ho, hcl, n2, hdat⟩, z2⟩ := I.tuple hb
    simp only at hcl hdat
    subst hcl hdat
    have l2 := r2.length
    have fit : its.toArray.size + its2.toArray.size ≤ sizeLine := by
      rw [List.size_toArray, List.size_toArray]
      omega
    have few : ¬ (!its.toArray.isEmpty && Builtin.List.listTooLong (its.toArray.size + its2.toArray.size)) = true := by
      rw [notLongL fit, Bool.and_false]
      exact Bool.false_ne_true
    refine call_meets PySem.F.slot_list_extend ⟨_, g1, rfl⟩ PySem.F.entry_list_extend (PySem.F.args_list_extend_2 _ _) (ext_tup l its.toArray n b its2.toArray n2 dd sl few (by rw [List.size_toArray]; omega) (by omega)) ⟨g1, ho, ?_⟩
    refine ⟨.non, _, I.lset (its' := its ++ its2) hl g1 (by simp) (r1.append r2) ?_, rfl, q⟩
    rw [List.length_append]
    omega
def sExtend (i : Nat) (f : Env → Res D) (env : Env) : Fl := match ownL env i with
  | none => .bad
  | some _ => (f env).fl fun env1 d => match ownL env1 i, d with
    | some (tag, xs), .list ys => if xs.length + ys.length ≤ sizeLine then .nx (env1.set i (.own tag (.lst (xs ++ ys)))) else .bad
    | some (tag, xs), .tuple ys => if xs.length + ys.length ≤ sizeLine then .nx (env1.set i (.own tag (.lst (xs ++ ys)))) else .bad
    | _, _ => .bad
theorem js_extend (i : Nat) {x : Str} {px ap cp : Pos} {f : Env → Res D} (hN : S.N[i]? = some x) (hv : Vis S.sc x) (hd : (x == ("__debug__" : Str)) = false) (hc : (x == ("__classdict__" : Str)) = false) (he : JD S e f)
    (hline : (ap.endLine == cp.line) = true) (hst : ∀ env, starEach [e] env = [(false, eval e env)] := by intro _; rfl)
    (hbase : ∀ env, attributeBase (.Name x px) "extend" env (eval (.Name x px) env) = eval (.Name x px) env := by intro _; rfl) :
    JS S (.Expr (.Call (.Attribute (.Name x px) "extend" ap) [e] [] cp) pos) (sExtend i f) := by
  obtain ⟨t, h1, h2⟩ := he
  refine ⟨tDrop (tBM S.K "list" (rExtA S.K) (tVar i) (tCons t tNil)), fun X o => ?_, fun σ H O env E s q => ?_⟩
  · have z := pe_bm (cpos := cp) (apos := ap) PySem.F.plainAttrs_list PySem.F.slot_list_extend PySem.F.type_list_extend (mt_extA (X := X)) (pe_var (pos := px) (i := i) (by rw [o.N]; exact hN) (by rw [o.sc]; exact hv) hd hc) (pa_cons (h1 X o) pa_nil (by rw [hst]; rfl)) (hbase _)
      (by rw [hst]; rfl) hline (by rw [hst]; rfl) (by rfl)
    rw [o.K] at z
    exact ps_expr z (by rfl)
  · unfold sExtend at q
    cases e0 : ownL env i with
    | none => rw [e0] at q; exact q.elim
    | some p0 =>
      obtain ⟨tag0, xs0⟩ := p0
      rw [e0] at q
      obtain ⟨a, vs, w1, w2, w3, w4, _⟩ := s.mutL (ys := []) (ownL_eq e0)
      refine ⟨_, w1, .inl ⟨rfl, vs, SqL.of w2⟩, ?_⟩
      refine h2 σ H O env [] _ s (fl_post q fun H1 O1 env1 d _ s1 t1 k1 v rv => ?_)
      cases e1 : ownL env1 i with
      | none => rw [e1] at k1; exact k1.elim
      | some p1 =>
        obtain ⟨tag, xs⟩ := p1
        rw [e1] at k1
        cases d with
        | list ys =>
          dsimp only at k1
          obtain ⟨a', vs', y1, y2, y3, y4, y5⟩ := s1.mutL (ys := xs ++ ys) (ownL_eq e1)
          rw [w1] at y1
          cases y1
          by_cases hl : xs.length + ys.length ≤ sizeLine
          · rw [if_pos hl] at k1
            cases rv with
            | lst b1 b2 b3 =>
              obtain ⟨s2, t2⟩ := y5 _ (y3.app b3)
              exact .inl ⟨_, _, vs', _, rfl, rfl, y2, b2, by rw [y3.len, b3.len]; exact hl, k1 σ _ O1 s2 t2⟩
          · rw [if_neg hl] at k1
            exact k1.elim
        | tuple ys =>
          dsimp only at k1
          obtain ⟨a', vs', y1, y2, y3, y4, y5⟩ := s1.mutL (ys := xs ++ ys) (ownL_eq e1)
          rw [w1] at y1
          cases y1
          by_cases hl : xs.length + ys.length ≤ sizeLine
          · rw [if_pos hl] at k1
            cases rv with
            | tup b2 b3 =>
              obtain ⟨s2, t2⟩ := y5 _ (y3.app b3)
              exact .inr ⟨_, _, vs', _, rfl, rfl, y2, b2.sq, by rw [y3.len, b3.len]; exact hl, k1 σ _ O1 s2 t2⟩
          · rw [if_neg hl] at k1
            exact k1.elim
        | _ => exact k1.elim
/-- x[i] = e -/
def sSetIx (i : Nat) (f : Env → Res D) (k : Env → Option D) (env : Env) : Fl := (f env).fl fun env1 d => match ownL env1 i, k env1 with
  | some (tag, xs), some (.int n) => match ixN xs.length n with
    | some j => .nx (env1.set i (.own tag (.lst (xs.set j d))))
    | none => .bad
  | _, _ => .bad
theorem js_setIx (i : Nat) {x : Str} {px p2 : Pos} {f : Env → Res D} {ix : Expr} {k : Env → Option D} (hN : S.N[i]? = some x) (hv : Vis S.sc x) (hd : (x == ("__debug__" : Str)) = false) (hc : (x == ("__classdict__" : Str)) = false) (he : JD S e f) (hk : JB S ix k)
    (hs : ∀ env, swapsWithSole [.Subscript (.Name x px) ix p2] e pos.line env = pure false := by intro _; rfl) (hw : ∀ env, swappedStores [.Subscript (.Name x px) ix p2] e env = pure none := by intro _; rfl)
    (hpg : ∀ X u, S.Ok X → PE X ix u → PG X (.Subscript (.Name x px) ix p2) (gSub (tVar i) u rSetL) := by intro X u o h; exact pg_sub (pe_var (by rw [o.N]; assumption) (by rw [o.sc]; assumption) (by assumption) (by assumption)) h set_list) :
    JS S (.Assign [.Subscript (.Name x px) ix p2] e pos) (sSetIx i f k) := by
  obtain ⟨t, h1, h2⟩ := he
  obtain ⟨u, h3, h4⟩ := hk
  refine ⟨tAsg t (gSub (tVar i) u rSetL), fun X o => ps_asg (h1 X o) (hpg X u o (h3 X o)) (hs _) (hw _), fun σ H O env E s q => h2 σ H O env [] _ s (fl_post q fun H1 O1 env1 d _ s1 t1 k1 v rv => ?_)⟩
  cases e1 : ownL env1 i with
  | none => rw [e1] at k1; exact k1.elim
  | some p1 =>
    obtain ⟨tag, xs⟩ := p1
    rw [e1] at k1
    cases ek : k env1 with
    | none => rw [ek] at k1; exact k1.elim
    | some kd =>
      rw [ek] at k1
      cases kd with
      | int n =>
        dsimp only at k1
        cases ej : ixN xs.length n with
        | none => rw [ej] at k1; exact k1.elim
        | some j =>
          rw [ej] at k1
          obtain ⟨a', vs', y1, y2, y3, y4, y5⟩ := s1.mutL (ys := xs.set j d) (ownL_eq e1)
          refine ⟨_, y1, h4 σ H1 O1 env1 [] _ _ s1 ek fun w H2 g2 r2 => ?_⟩
          have s2 := s1.grow g2
          obtain ⟨a2, vs2, z1, z2, z3, z4, z5⟩ := s2.mutL (ys := xs.set j d) (ownL_eq e1)
          rw [y1] at z1
          cases z1
          obtain ⟨s3, t3⟩ := z5 (vs2.set j v) (z3.set (rv.grow g2) j)
          refine ⟨_, vs2, n, j, rfl, r2.int, z2, by rw [z3.len]; exact ej, k1 σ _ O1 s3 ((s1.gtr g2).trans t3)⟩
      | _ => exact k1.elim
end
end ML
/-! ML13: pure calls, pure comprehensions; moving and freezing; the script. -/
namespace ML
open PySem L2
section
variable {S : Cxt} {e e1 e2 : Expr} {es : List Expr} {pos pp : Pos} {x : Str} {F : List SV → Res SV} {k : Nat}

/-! ### a call with data alone -/
def pureOf : Res SV → Option D
  | .ok _ (.dat d) => some d
  | .ok _ (.own none (.lst xs)) => some (.list xs)
  | _ => none
def xFn (F : List SV → Res SV) (q : Env → Option (List D)) (env : Env) : Option D := (q env).bind fun ds => pureOf (F (ds.map .dat))
theorem re_dats {K : Fg} {A : Act} {H : Hp} {O : OS} : ∀ {vs : List V} {ds : List D}, RDs K H O vs ds → RE K A H O (vs.map some) (ds.map .dat) []
  | _, [], h => by cases h; exact .nil
  | _, _ :: _, h => by
    cases h with
    | cons a b =>
      have := RE.cons (RS.dat (A := A) a) (re_dats b)
      exact this
theorem jp_call {q : Env → Option (List D)} (hf : Fx S k x F) (hk : k ≤ S.k) (hg : Gn S x) (ha : JAP S (e :: es) q) (nd : (x == ("__debug__" : Str)) = false := by decide)
    (he : ∀ env, starEach (e :: es) env = (false, eval e env) :: starEach es env := by intro _; rfl) (hpl : ∀ env, (backTo pos (starEach es env)).any (·.1) = false := by intro _; rfl) : JP S (.Call (.Name x pp) (e :: es) [] pos) (xFn F q) := by
  obtain ⟨f, fd, ps, G, mx, kp, bi⟩ := hf
  obtain ⟨t, h1, h2⟩ := ha
  refine ⟨fun σ H Q => t σ H fun vs H1 => spF S.K S.mg F vs H1 Q (fun c d H2 => S.W c d σ H2), fun X o => ?_, fun σ H O env T d Q s ed q' => ?_⟩
  · have pe := h1 X o
    obtain ⟨o1, o2, o3, o4, o5, o6, o7, o8, o9, o10, o11, o12, o13, o14⟩ := o
    have G' : FnG X.prog X.w X.K X.mg X.base k f fd ps (spF S.K S.mg F) := by rw [o1, o2, o3, o4, o5]; exact G
    exact pe_callG G' (o9.mono hk) o10 (by show X.env.kindOf x = _; unfold Env.kindOf; rw [o7]; exact hg) (by rw [o4]; exact mx) (by rw [o3]; exact kp) (by rw [o3]; exact bi) o12 pe nd (he _) (hpl _)
  · obtain ⟨ds, e1, e2⟩ := Option.bind_eq_some_iff.mp ed
    refine h2 σ H O env T ds _ s e1 fun vs H1 g1 rs => ?_
    have oc1 := s.oc.grow g1
    refine ⟨O, ds.map .dat, [], oc1, re_dats rs, List.nodup_nil, fun b hb => absurd hb List.not_mem_nil, ?_⟩
    have back : ∀ {A' : Act} {σ' : L2.St} {H' : Hp} {O' : OS} {env' : Env} {fq : List Addr}, A'.H0 = H1 → A'.O0 = O → (∀ b, ¬ A'.M0 b) → Sit S.K A' σ' H' O' env' fq → Grow H1 H' ∧ (∀ b, O b → O' b) := fun hH hO hM s' =>
      ⟨fun a o h => s'.base a o (by rw [hH]; exact h) (hM a), fun b hb => s'.o0 b (by rw [hO]; exact hb)⟩
    cases eF : F (ds.map .dat) with
    | bad => rw [eF] at e2; cases e2
    | err a b => rw [eF] at e2; cases e2
    | ok env' r =>
      rw [eF] at e2
      dsimp only
      intro σ' v H' O' fq s' rs'
      obtain ⟨g2, oo⟩ := back (A' := actOf H1 O [] vs) rfl rfl (fun b => List.not_mem_nil) s'
      have sta : Sta H' O' H' O := fun a o h n => ⟨h, fun z => n (oo a z)⟩
      cases rs' with
      | dat rd =>
        cases e2
        exact q' v H' (g1.trans g2) (RD.sta sta _ _ rd)
      | raw => cases e2
      | frz a b => cases e2
      | @own a c _ tag rc tg =>
        cases tag with
        | some _ => cases e2
        | none =>
          cases rc with
          | lst r1 r2 =>
            cases e2
            exact q' _ H' (g1.trans g2) (.lst tg r1 (RDs.sta sta _ _ r2))
          | dct _ _ _ _ => cases e2
          | ins _ _ => cases e2

/-! ### a slot's own list moves out, or is data from now on -/
def yMv (i : Nat) (env : Env) : Res SV := match env[i]? with
  | some (.own none c) => .ok (env.set i .un) (.own none c)
  | _ => .bad
theorem je_mv (i : Nat) {x : Str} (hN : S.N[i]? = some x) (hv : Vis S.sc x) (hd : (x == ("__debug__" : Str)) = false) (hc : (x == ("__classdict__" : Str)) = false) : JE S (.Name x pos) (yMv i) := by
  refine ⟨tVar i, fun X o => pe_var (by rw [o.N]; exact hN) (by rw [o.sc]; exact hv) hd hc, fun σ H O env T Q s q => ?_⟩
  unfold yMv at q
  split at q
  · rename_i c h
    obtain ⟨a, fq, h1, h2, h3⟩ := s.out h
    exact ⟨_, h1, q (.ref a) H O fq h3 h2 s.rtr⟩
  · exact q.elim
def yFz (i : Nat) (env : Env) : Res D := match env[i]? with
  | some (.own none (.lst xs)) => .ok (env.set i (.dat (.list xs))) (.list xs)
  | some (.dat d) => .ok env d
  | _ => .bad
theorem jd_fz (i : Nat) {x : Str} (hN : S.N[i]? = some x) (hv : Vis S.sc x) (hd : (x == ("__debug__" : Str)) = false) (hc : (x == ("__classdict__" : Str)) = false) : JD S (.Name x pos) (yFz i) := by
  refine ⟨tVar i, fun X o => pe_var (by rw [o.N]; exact hN) (by rw [o.sc]; exact hv) hd hc, fun σ H O env T Q s q => ?_⟩
  unfold yFz at q
  split at q
  · rename_i xs h
    obtain ⟨a, fq, h1, h2, h3⟩ := s.out h
    obtain ⟨O', s2, r2, t2⟩ := h3.freeze h2
    have hi : i < (env.set i SV.un).length := by
      have := (List.getElem?_eq_some_iff.mp h).1
      simpa using this
    have s3 := Sit.put (fq := []) s2 hi (.dat r2)
    rw [set_self h1, set_set'] at s3
    exact ⟨_, h1, q H O' s3 t2 _ r2⟩
  · rename_i d h
    obtain ⟨v, h1, h2⟩ := s.dat h
    exact ⟨v, h1, q H O s s.rtr v h2⟩
  · exact q.elim

/-! ### the script: len(s), s[i] -/
def xLenF (i : Nat) (env : Env) : Option D := match env[i]? with
  | some (.frz xs) => some (.int xs.length)
  | _ => none
theorem Sit.frzv {K : Fg} {A : Act} {σ : L2.St} {H : Hp} {O : OS} {env : Env} {T : List Addr} (s : Sit K A σ H O env T) {i : Nat} {xs : List D} (h : env[i]? = some (.frz xs)) : ∃ a vs, σ[i]? = some (some (.ref a)) ∧ SqL K H a vs ∧ RDs K H O vs xs := by
  obtain ⟨fp, r, _, _⟩ := s.slots
  obtain ⟨v, fq, _, _, h1, h2, _⟩ := r.at h (by simp)
  cases h2 with
  | frz h3 h4 => exact ⟨_, _, h1, h3.sq, h4⟩
theorem jp_lenF (i : Nat) {x : Str} {px : Pos} (hg : Gn S "len") (hm : S.mg "len" = none) (hN : S.N[i]? = some x) (hv : Vis S.sc x) (hd : (x == ("__debug__" : Str)) = false) (hc : (x == ("__classdict__" : Str)) = false) : JP S (.Call (.Name "len" pp) [.Name x px] [] pos) (xLenF i) := by
  refine ⟨tCB (fun xs H Q => ∃ x n, xs = [x] ∧ LenV S.K x H n ∧ Q (.int n) H) (tCons (tVar i) tNil), fun X o => ?_, fun σ H O env T d Q s e k => ?_⟩
  · have z := call_len (X := X)
    rw [o.K] at z
    exact pe_callB z (gl_of o hg) (by rw [o.mg]; exact hm) PySem.boot_len (pa_cons (pe_var (by rw [o.N]; exact hN) (by rw [o.sc]; exact hv) hd hc) pa_nil)
  · unfold xLenF at e
    split at e
    · rename_i xs h
      cases e
      obtain ⟨a, vs, h1, h2, h3⟩ := s.frzv h
      refine ⟨_, h1, _, _, rfl, .inl ⟨vs, h2, rfl⟩, ?_⟩
      rw [h3.len]
      exact k _ H .refl (.int _)
    · cases e
def xIxF (i : Nat) (q : Env → Option D) (env : Env) : Option D := match env[i]? with
  | some (.frz xs) => (q env).bind fun d => dIx (.list xs) d
  | _ => none
theorem jp_ixF (i : Nat) {x : Str} {px : Pos} {q : Env → Option D} (hN : S.N[i]? = some x) (hv : Vis S.sc x) (hd : (x == ("__debug__" : Str)) = false) (hc : (x == ("__classdict__" : Str)) = false) (hb : JB S e2 q) (hs : PlainIx e2 := by intro _ _; rfl) : JP S (.Subscript (.Name x px) e2 pos) (xIxF i q) := by
  obtain ⟨u, h3, h4⟩ := hb
  refine ⟨tOp (rIx S.K) (tVar i) u, fun X o => by have z := pe_ix (pos := pos) (ix_seq (X := X)) (pe_var (pos := px) (i := i) (by rw [o.N]; exact hN) (by rw [o.sc]; exact hv) hd hc) (h3 X o) hs; rw [o.K] at z; exact z, fun σ H O env T d Q s e k => ?_⟩
  unfold xIxF at e
  split at e
  · rename_i xs h
    obtain ⟨y, e1, e2⟩ := Option.bind_eq_some_iff.mp e
    obtain ⟨a, vs, h1, h2, h3⟩ := s.frzv h
    refine ⟨_, h1, h4 σ H O env T y _ s e1 fun w H1 g1 rw' => ?_⟩
    obtain ⟨a', vs', h1', h2', h3'⟩ := (s.grow g1).frzv h
    rw [h1] at h1'
    cases h1'
    cases y with
    | int n =>
      have rn := rw'.int
      subst rn
      obtain ⟨v, z1, z2⟩ := h3'.atI e2
      exact .inl ⟨_, vs', n, v, rfl, rfl, h2', z1, k v H1 g1 z2⟩
    | _ => cases e2
  · cases e

/-! ### walking, purely -/
def SemIP (S : Cxt) (wi : TI) (f : Env → Option (List D)) : Prop := ∀ (σ : L2.St) (H : Hp) (O : OS) (env : Env) (T : List Addr) (ds : List D) (R : It → Hp → Prop), Sit S.K S.A σ H O env T → f env = some ds →
  (∀ J H', Grow H H' → ItOk S.K J ds H' O → R J H') → wi σ H R
def JIP (S : Cxt) (tg iter : Expr) (f : Env → Option (List D)) : Prop := ∃ wi, (∀ X, S.Ok X → PI X tg iter wi) ∧ SemIP S wi f
def ipOf (p : Env → Option D) (env : Env) : Option (List D) := (p env).bind itemsOf
theorem jip_seq {tg : Expr} {p : Env → Option D} (h : JP S e p) : JIP S tg e (ipOf p) := by
  obtain ⟨t, h1, h2⟩ := h
  refine ⟨iSeq S.K t, fun X o => by have z := pi_seq (tg := tg) (h1 X o); rw [o.K] at z; exact z, fun σ H O env T ds R s ed q => ?_⟩
  obtain ⟨d, e1, ei⟩ := Option.bind_eq_some_iff.mp ed
  refine h2 σ H O env T d _ s e1 fun v H1 g1 rv => ?_
  unfold itemsOf at ei
  split at ei
  · cases ei
    cases rv with
    | lst a b c => exact .inl ⟨_, _, rfl, SqL.of b, q _ H1 g1 (itOk_list a b c)⟩
  · cases ei
    cases rv with
    | tup a b => exact .inr (.inl ⟨_, _, rfl, a.sq, q _ H1 g1 (itOk_tup a b)⟩)
  · cases ei
    cases rv
    exact .inr (.inr ⟨_, rfl, q _ H1 g1 itOk_str⟩)
  · cases ei
def ipRange1 (f : Env → Option (List D)) (env : Env) : Option (List D) := (f env).bind fun ds => match ds with
  | [.int j] => if rngOk j then some (rngOf 0 j) else none
  | _ => none
def ipRange2 (f : Env → Option (List D)) (env : Env) : Option (List D) := (f env).bind fun ds => match ds with
  | [.int i, .int j] => if rngOk i ∧ rngOk j then some (rngOf i j) else none
  | _ => none
theorem jip_range1 {tg : Expr} {f : Env → Option (List D)} (hg : Gn S "range") (hm : S.mg "range" = none) (h : JAP S [e] f) (hs : ∀ env, starEach [e] env = [(false, eval e env)] := by intro _; rfl) : JIP S tg (.Call (.Name "range" pp) [e] [] pos) (ipRange1 f) := by
  obtain ⟨t, h1, h2⟩ := h
  refine ⟨iRng1 t, fun X o => pi_range1 (gl_of o hg) (by rw [o.mg]; exact hm) (h1 X o) (hs _), fun σ H O env T ds R s ed q => ?_⟩
  obtain ⟨l, e1, e2⟩ := Option.bind_eq_some_iff.mp ed
  refine h2 σ H O env T l _ s e1 fun vs H1 g1 rv => ?_
  split at e2
  · split at e2
    · rename_i j hj
      cases e2
      cases rv with
      | cons a b =>
        cases a
        cases b
        refine ⟨_, rfl, hj.lo, hj.hi, q _ H1 g1 ?_⟩
        have z := itOk_rng2 (K := S.K) (H := H1) (O := O) 0 j
        rw [Int.sub_zero] at z
        exact z
    · cases e2
  · cases e2
theorem jip_range2 {tg : Expr} {f : Env → Option (List D)} (hg : Gn S "range") (hm : S.mg "range" = none) (h : JAP S [e1, e2] f) (hs : ∀ env, starEach [e1, e2] env = [(false, eval e1 env), (false, eval e2 env)] := by intro _; rfl) (hs2 : ∀ env, starEach [e2] env = [(false, eval e2 env)] := by intro _; rfl) : JIP S tg (.Call (.Name "range" pp) [e1, e2] [] pos) (ipRange2 f) := by
  obtain ⟨t, h1, h2⟩ := h
  refine ⟨iRng2 t, fun X o => pi_range2 (gl_of o hg) (by rw [o.mg]; exact hm) (h1 X o) (hs _) (hs2 _), fun σ H O env T ds R s ed q => ?_⟩
  obtain ⟨l, e1, e2⟩ := Option.bind_eq_some_iff.mp ed
  refine h2 σ H O env T l _ s e1 fun vs H1 g1 rv => ?_
  split at e2
  · split at e2
    · rename_i i j hj
      cases e2
      cases rv with
      | cons a b =>
        cases a
        cases b with
        | cons b c =>
          cases b
          cases c
          exact ⟨_, _, rfl, ⟨hj.1.lo, hj.1.hi, hj.2.lo, hj.2.hi⟩, q _ H1 g1 (itOk_rng2 i j)⟩
    · cases e2
  · cases e2
/-- a pure walk for a loop -/
theorem JIP.toI {tg iter : Expr} {f : Env → Option (List D)} (h : JIP S tg iter f) : JI S tg iter (up f) := by
  obtain ⟨wi, h1, h2⟩ := h
  refine ⟨wi, h1, fun σ H O env T R s q => ?_⟩
  unfold up at q
  cases e : f env with
  | none => rw [e] at q; exact q.elim
  | some ds =>
    rw [e] at q
    exact h2 σ H O env T ds R s e fun J H' g it => q H' O (s.grow g) (s.gtr g) J it

def up' (p : Env → Option D) (env : Env) : Res SV := match p env with
  | some d => .ok env (.dat d)
  | none => .bad
theorem JP.toE {p : Env → Option D} (h : JP S e p) : JE S e (up' p) := by
  obtain ⟨t, h1, h2⟩ := h
  refine ⟨t, h1, fun σ H O env T Q s r => ?_⟩
  unfold up' at r
  cases e : p env with
  | none => rw [e] at r; exact r.elim
  | some d =>
    rw [e] at r
    exact h2 σ H O env T d Q s e fun v H' g k => r v H' O [] (s.grow g) (.dat k) (s.gtr g)
/-! ### pure comprehensions -/
def compP (gt : D → Env → Option Env) (u : Env → Option Bool) (el : Env → Option D) (env : Env) : List D → Option (List D)
  | [] => some []
  | d :: ds => (gt d env).bind fun env1 => (u env1).bind fun b => if b then (el env1).bind fun x => (compP gt u el env ds).map fun xs => x :: xs else compP gt u el env ds
def oComp (own : List Nat) (fi : Env → Option (List D)) (gt : D → Env → Option Env) (u : Env → Option Bool) (el : Env → Option D) (env : Env) : Option (List D) := (fi env).bind fun ds =>
  if ds.length ≤ sizeLine then compP gt u el (wipeE env own) ds else none
def SemTsP (S : Cxt) (ifs : List Expr) (u : Env → Option Bool) : Prop := ∃ t, (∀ X, S.Ok X → PTs X ifs t) ∧ SemTP S t u
def pYes (_ : Env) : Option Bool := some true
theorem jtsp_nil : SemTsP S [] pYes := ⟨_, fun X o => pts_nil, fun σ H O env T b Q s e k => by cases e; exact k H .refl⟩
theorem jtsp_one {c : Expr} {u : Env → Option Bool} (h : JTP S c u) : SemTsP S [c] u := by
  obtain ⟨t, h1, h2⟩ := h
  exact ⟨t, fun X o => pts_one (h1 X o), h2⟩
section
variable {elt tg iter : Expr} {ifs : List Expr} {scope : Scope} {own : List (Str × Nat)} {ws : List Nat} {fi : Env → Option (List D)} {gt : D → Env → Option Env} {u : Env → Option Bool} {el : Env → Option D}
theorem lc_semP {wi : TI} {g : TG} {tt : TT} {te : TE} (hwi : SemIP S wi fi) (hg : SemG (S.inn scope) g ws gt) (ht : SemTP (S.inn scope) tt u) (he : SemP (S.inn scope) te el) (hws : ∀ i ∈ ws, i ∈ own.map (·.2)) :
    SemO S (tLc wi g tt te (own.map (·.2))) (oComp (own.map (·.2)) fi gt u el) := by
  intro σ H O env T zs Q s ed q
  generalize hv : own.map (·.2) = vs at *
  obtain ⟨ds, e1, e2⟩ := Option.bind_eq_some_iff.mp ed
  by_cases hz : ds.length ≤ sizeLine
  · rw [if_pos hz] at e2
    refine hwi σ H O env T ds _ s e1 fun J H1 g1 hJ D hD => ?_
    have s1 := s.grow g1
    obtain ⟨s2, r2, t2⟩ := s1.adopt' (vs := []) (xs := []) hD .nil
    generalize hO2 : (fun b => O b ∨ b = D) = O2 at s2 r2 t2
    have oD : O2 D := by rw [← hO2]; exact .inr rfl
    have oO : ∀ b, O b → O2 b := fun b hb => by rw [← hO2]; exact .inl hb
    have oR : ∀ b, O2 b → O b ∨ b = D := fun b hb => by rw [← hO2] at hb; exact hb
    have w0 : L2.wipe (L2.wipe σ vs) vs = L2.wipe σ vs := wipe_only (σ := σ) (σ' := L2.wipe σ vs) (vs := vs) ⟨wipe_length σ vs, fun k hk => wipe_ne σ vs k hk⟩
    refine ⟨fun i m H' => m = ds.length - i ∧ i ≤ ds.length ∧ ∃ ys acc rest, H' D = some (.lst ys) ∧ RDs S.K H' O2 ys acc ∧ Grow H1 H' ∧ Sit S.K S.A (L2.wipe σ vs) H' O2 (wipeE env vs) ([D] ++ T) ∧
      compP gt u el (wipeE env vs) (ds.drop i) = some rest ∧ acc ++ rest = zs ∧ acc.length ≤ i, ⟨ds.length, by simp, Nat.zero_le _, [], [], zs, upd_same, .nil, Grow.new hD, s2.wipe vs, by simpa using e2, by simp, Nat.zero_le _⟩, ?_⟩
    rintro i m H' ⟨rfl, hl, ys, acc, rest, hd, rd, gr, s', ec, ez, al⟩
    have sta : Sta H1 O H' O2 := fun a o h n => ⟨gr a o h, fun z => by
      rcases oR a z with w | w
      · exact n w
      · rw [w, hD] at h
        cases h⟩
    have it := hJ H' O2 sta s'.oc i
    by_cases hlt : i < ds.length
    · refine .inr ⟨(it.1 ds[i] (by simp [hlt])).1, fun H2 => (ds.length - (i + 1)) < ds.length - i ∧ i + 1 ≤ ds.length ∧ ∃ ys acc rest, H2 D = some (.lst ys) ∧ RDs S.K H2 O2 ys acc ∧ Grow H1 H2 ∧ Sit S.K S.A (L2.wipe σ vs) H2 O2 (wipeE env vs) ([D] ++ T) ∧
        compP gt u el (wipeE env vs) (ds.drop (i + 1)) = some rest ∧ acc ++ rest = zs ∧ acc.length ≤ i + 1, fun H2 h => ⟨_, h.1, rfl, h.2.1, h.2.2⟩, fun x H2 y => ?_⟩
      obtain ⟨g2, rdx⟩ := (it.1 ds[i] (by simp [hlt])).2 x H2 y
      have ed : ds.drop i = ds[i] :: ds.drop (i + 1) := List.drop_eq_getElem_cons hlt
      rw [ed] at ec
      unfold compP at ec
      obtain ⟨env2, eg, ec⟩ := Option.bind_eq_some_iff.mp ec
      obtain ⟨b, eu, ec⟩ := Option.bind_eq_some_iff.mp ec
      have sb := s'.grow g2
      refine hg x _ (L2.wipe σ vs) H2 O2 _ env2 ([D] ++ T) _ sb rdx eg fun σ3 s3 only => ⟨?_, ?_⟩
      · exact (wipe_only (σ := L2.wipe σ vs) (σ' := σ3) (vs := vs) ⟨only.1, fun j hj => only.2 j fun z => hj (hv ▸ hws j z)⟩).trans w0
      · refine ht σ3 H2 O2 env2 ([D] ++ T) b _ s3 eu fun H3 g3 => ?_
        cases b with
        | false =>
          simp only [Bool.false_eq_true, if_false] at ec ⊢
          exact ⟨by omega, by omega, ys, acc, rest, g3 _ _ (g2 _ _ hd), (rd.grow g2).grow g3, gr.trans (g2.trans g3), sb.grow g3, ec, ez, by omega⟩
        | true =>
          simp only [if_true] at ec ⊢
          obtain ⟨xd, ee, ec⟩ := Option.bind_eq_some_iff.mp ec
          obtain ⟨rest', er, ec⟩ := Option.map_eq_some_iff.mp ec
          subst ec
          refine he σ3 H3 O2 env2 ([D] ++ T) xd _ (s3.grow g3) ee fun v H4 g4 rv => ?_
          have g5 : Grow H' H4 := g2.trans (g3.trans g4)
          have s5 := s'.grow g5
          have hd4 := g5 _ _ hd
          have rd4 := rd.grow g5
          have sta4 : Sta H4 O2 (upd H4 D (.lst (ys ++ [v]))) O2 := fun a o h n => by
            have na : a ≠ D := fun z => n (z ▸ oD)
            rw [upd_ne na]
            exact ⟨h, n⟩
          refine ⟨ys, hd4, by rw [rd4.len]; omega, by omega, by omega, ys ++ [v], acc ++ [xd], rest', upd_same, RDs.sta sta4 _ _ (rd4.app (.cons rv .nil)), fun a o h => ?_, s5.updT (by simp), er, by rw [← ez]; simp, by rw [List.length_append, List.length_singleton]; omega⟩
          have na : a ≠ D := fun z => by rw [z, hD] at h; cases h
          rw [upd_ne na]
          exact (gr.trans g5) a o h
    · have e0 : i = ds.length := by omega
      refine .inl ⟨it.2 (by omega), ?_⟩
      rw [e0, List.drop_length] at ec
      unfold compP at ec
      cases ec
      rw [List.append_nil] at ez
      subst ez
      have hu : upd (fun a => if a = D then none else H' a) D (.lst ys) = H' := by
        funext a
        by_cases z : a = D
        · rw [z, upd_same, hd]
        · rw [upd_ne z, if_neg z]
      have fin := q D ys (fun a => if a = D then none else H' a) (fun a o h => ?_) (if_pos rfl) (RDs.sta (fun a o h n => ?_) _ _ rd)
      · rw [hu] at fin
        exact fin
      · have h1 := g1 a o h
        have na : a ≠ D := fun z => by rw [z, hD] at h1; cases h1
        show (if a = D then none else H' a) = some o
        rw [if_neg na]
        exact gr a o h1
      · have na : a ≠ D := fun z => n (z ▸ oD)
        refine ⟨?_, fun z => n (oO a z)⟩
        show (if a = D then none else H' a) = some o
        rw [if_neg na]
        exact h
  · rw [if_neg hz] at e2
    cases e2
theorem jo_comp (nd : S.N.Nodup) (hi : JIP S tg iter fi) (ok : blkC S.N S.sc scope own = true) (hg : JG (S.inn scope) tg ws gt) (ht : SemTsP (S.inn scope) ifs u) (he : JP (S.inn scope) elt el) (hws : ∀ i ∈ ws, i ∈ own.map (·.2))
    (hs : ∀ env x, foldedSetIterable iter env x = pure x := by intro _ _; rfl) : JO S (.ListComp elt [⟨tg, iter, ifs, 0⟩] scope pos) (oComp (own.map (·.2)) fi gt u el) := by
  obtain ⟨wi, h1, h2⟩ := hi
  obtain ⟨g, h3, h4⟩ := hg
  obtain ⟨tt, h5, h6⟩ := ht
  obtain ⟨te, h7, h8⟩ := he
  have bk := blkOk_by ok
  refine ⟨tLc wi g tt te (own.map (·.2)), fun X o => ?_, lc_semP h2 h4 h6 h8 hws⟩
  exact pe_lc o.calm (by rw [o.N]; exact nd) (h1 X o) (by rw [o.N, o.sc]; exact bk) (fun s H C cl fp => h3 _ (inn_ok o bk.kind s H C cl fp)) (fun s H C cl fp => h5 _ (inn_ok o bk.kind s H C cl fp)) (fun s H C cl fp => h7 _ (inn_ok o bk.kind s H C cl fp)) (hs _)
/-- name = [..], purely -/
theorem js_setCompP (i : Nat) {y : Str} {py spos : Pos} (nd : S.N.Nodup) (hy : S.N[i]? = some y) (hyl : S.sc.names.lookup y = some .local) (hl : (py.line == pos.line) = true) (hsn : (scope.names.any fun (n, k) => n == y && (k == .local || k == .cell)) = false)
    (hi : JIP S tg iter fi) (ok : blkC S.N S.sc scope own = true) (hg : JG (S.inn scope) tg ws gt) (ht : SemTsP (S.inn scope) ifs u) (he : JP (S.inn scope) elt el) (hws : ∀ i ∈ ws, i ∈ own.map (·.2))
    (hs : ∀ env x, foldedSetIterable iter env x = pure x := by intro _ _; rfl) (frz : Bool) : JS S (.Assign [.Name y py] (.ListComp elt [⟨tg, iter, ifs, 0⟩] scope pos) spos)
      (sSet i (if frz then up' (fun env => (oComp (own.map (·.2)) fi gt u el env).map .list) else upO (oComp (own.map (·.2)) fi gt u el))) := by
  obtain ⟨wi, h1, h2⟩ := hi
  obtain ⟨g, h3, h4⟩ := hg
  obtain ⟨tt, h5, h6⟩ := ht
  obtain ⟨te, h7, h8⟩ := he
  have bk := blkOk_by ok
  have jo := lc_semP h2 h4 h6 h8 hws
  have je : SemE S (tLc wi g tt te (own.map (·.2))) (upO (oComp (own.map (·.2)) fi gt u el)) := by
    intro σ H O env T Q s r
    unfold upO at r
    cases e : oComp (own.map (·.2)) fi gt u el env with
    | none => rw [e] at r; exact r.elim
    | some ds =>
      rw [e] at r
      refine jo σ H O env T ds Q s e fun q vs H' g n k => ?_
      obtain ⟨O', s1, r1, t1⟩ := (s.grow g).adopt n k
      exact r _ _ O' [q] s1 r1 ((s.gtr g).trans t1)
  have jf : SemE S (tLc wi g tt te (own.map (·.2))) (up' (fun env => (oComp (own.map (·.2)) fi gt u el env).map .list)) := by
    intro σ H O env T Q s r
    unfold up' at r
    cases e : oComp (own.map (·.2)) fi gt u el env with
    | none => simp only [e] at r; exact r.elim
    | some ds =>
      simp only [e] at r
      refine jo σ H O env T ds Q s e fun q vs H' g n k => ?_
      have gg : Grow H (upd H' q (.lst vs)) := g.trans (Grow.new n)
      exact r _ _ O [] (s.grow gg) (.dat (.newL (s.oc.grow g) n k)) (s.gtr gg)
  refine ⟨tAsg (tLc wi g tt te (own.map (·.2))) (gName i), fun X o => ?_, fun σ H O env E s q => ?_⟩
  · exact ps_setLc o.calm (by rw [o.N]; exact nd) (by rw [o.N]; exact hy) (by rw [o.sc]; exact hyl) (sw_true o.kind (by rw [o.sc]; exact hyl) hl hsn) (h1 X o) (by rw [o.N, o.sc]; exact bk) (fun s H C cl fp => h3 _ (inn_ok o bk.kind s H C cl fp)) (fun s H C cl fp => h5 _ (inn_ok o bk.kind s H C cl fp)) (fun s H C cl fp => h7 _ (inn_ok o bk.kind s H C cl fp)) (hs _)
  · have both : SemE S (tLc wi g tt te (own.map (·.2))) (if frz then up' (fun env => (oComp (own.map (·.2)) fi gt u el env).map .list) else upO (oComp (own.map (·.2)) fi gt u el)) := by
      cases frz with
      | true => exact jf
      | false => exact je
    refine both σ H O env [] _ s (vl_post q fun env1 sv v H1 O1 fq _ s1 r1 t1 k1 => ?_)
    by_cases hi : i < env1.length
    · rw [if_pos hi] at k1
      exact k1 _ H1 O1 (s1.put hi r1) (.refl fun a h => absurd h List.not_mem_nil)
    · rw [if_neg hi] at k1
      exact k1.elim
end
/-! ### a call whose first argument is a new object -/
def yFnT (F : List SV → Res SV) (a : Env → Res SV) (b : Env → Res (List D)) (env : Env) : Res SV := (a env).bind fun env1 sv => (b env1).bind fun env2 ds => match sv with
  | .own none c => match F (.own (some 0) c :: ds.map .dat) with
    | .ok _ r => match r with
      | .own (some _) _ => .bad
      | .un => .bad
      | .frz _ => .bad
      | r => .ok env2 r
    | .err _ x => .err env2 x
    | .bad => .bad
  | _ => .bad
theorem je_callT {fa : Env → Res SV} {fb : Env → Res (List D)} (hf : Fx S k x F) (hk : k ≤ S.k) (hg : Gn S x) (ha : JE S e fa) (hb : JDA S es fb) (nd : (x == ("__debug__" : Str)) = false := by decide)
    (he : ∀ env, starEach (e :: es) env = (false, eval e env) :: starEach es env := by intro _; rfl) (hpl : ∀ env, (backTo pos (starEach es env)).any (·.1) = false := by intro _; rfl) : JE S (.Call (.Name x pp) (e :: es) [] pos) (yFnT F fa fb) := by
  obtain ⟨f, fd, ps, G, mx, kp, bi⟩ := hf
  obtain ⟨t, h1, h2⟩ := ha
  obtain ⟨u, h3, h4⟩ := hb
  refine ⟨fun σ H Q => tCons t u σ H fun vs H1 => spF S.K S.mg F vs H1 Q (fun c d H2 => S.W c d σ H2), fun X o => ?_, fun σ H O env T Q s q => ?_⟩
  · have pe : PA X (e :: es) (tCons t u) := pa_cons (h1 X o) (h3 X o) (he _)
    obtain ⟨o1, o2, o3, o4, o5, o6, o7, o8, o9, o10, o11, o12, o13, o14⟩ := o
    have G' : FnG X.prog X.w X.K X.mg X.base k f fd ps (spF S.K S.mg F) := by rw [o1, o2, o3, o4, o5]; exact G
    exact pe_callG G' (o9.mono hk) o10 (by show X.env.kindOf x = _; unfold Env.kindOf; rw [o7]; exact hg) (by rw [o4]; exact mx) (by rw [o3]; exact kp) (by rw [o3]; exact bi) o12 pe nd (he _) (hpl _)
  · unfold yFnT at q
    refine h2 σ H O env T _ s ?_
    cases ea : fa env with
    | bad => rw [ea] at q; exact q
    | err a b => rw [ea] at q; exact q
    | ok env1 sv =>
      rw [ea] at q
      dsimp only [Res.bind] at q
      intro v H1 O1 fq s1 r1 t1
      refine h4 σ H1 O1 env1 (fq ++ T) _ s1 ?_
      cases eb : fb env1 with
      | bad => rw [eb] at q; exact q.elim
      | err a b =>
        rw [eb] at q
        exact fun cls dd H' O' s' t' ex => q cls dd H' O' s'.less (t1.trans (t'.less fun b hb => by simp [hb])) ex
      | ok env2 ds =>
        rw [eb] at q
        dsimp only at q
        intro H2 O2 s2 t2 vs rs
        cases r1 with
        | dat rd => exact q.elim
        | raw => exact q.elim
        | frz a b => exact q.elim
        | @own ad c _ tag rc tg =>
          cases tag with
          | some _ => exact q.elim
          | none =>
            dsimp only at q
            have rc2 : RC S.K H2 O2 ad c fq := rc.sta t2.1 fun b hb => (t2.2 b (by simp [hb])).1
            obtain ⟨fc, rcc, ndc, owc⟩ := s2.slots
            have ndp : fq.Nodup := (List.nodup_append.mp (List.nodup_append.mp ndc).2.1).1
            have re : RE S.K (actOf H2 O2 fq (.ref ad :: vs)) H2 O2 ((V.ref ad :: vs).map some) (.own (some 0) c :: ds.map .dat) fq := by
              have z := RE.cons (K := S.K) (A := actOf H2 O2 fq (.ref ad :: vs)) (RS.own (tag := some 0) rc2 (by rfl)) (re_dats rs)
              rw [List.append_nil] at z
              exact z
            refine ⟨O2, _, fq, s2.oc, re, ndp, fun b hb => (owc b (by simp [hb])).1, ?_⟩
            cases eF : F (.own (some 0) c :: ds.map .dat) with
            | bad => rw [eF] at q; exact q.elim
            | ok e' r =>
              rw [eF] at q
              dsimp only at q ⊢
              intro σ' v' H' O' fr s' rs'
              obtain ⟨fe, re', nde, owe⟩ := s'.slots
              obtain ⟨s3, t3⟩ := come_back s2 ⟨rfl, rfl, rfl⟩ s' re' nde owe
              have s4 := s3.less
              have tt : Tr T H O H' O' := t1.trans ((t2.less fun b hb => by simp [hb]).trans t3)
              cases rs' with
              | dat rd => exact q v' H' O' [] s4 (.dat rd) tt
              | raw => exact q _ H' O' [] s4 (.raw _) tt
              | frz a b => exact q.elim
              | @own a c' fq' tag' rc' tg' =>
                cases tag' with
                | some _ => exact q.elim
                | none => exact q (.ref a) H' O' fr s4 (.own rc' (fun z => tg' (s2.o0 _ z))) tt
            | err e' xx =>
              rw [eF] at q
              dsimp only at q ⊢
              intro σ' cls dd H' O' s' ex
              obtain ⟨fe, re', nde, owe⟩ := s'.slots
              obtain ⟨s3, t3⟩ := come_back s2 ⟨rfl, rfl, rfl⟩ s' re' nde owe
              exact q cls dd H' O' s3.less (t1.trans ((t2.less fun b hb => by simp [hb]).trans t3)) ex
end
end ML
/-! ML14: texts; isinstance; in. -/
namespace ML
open PySem L2
/-! ### text * int -/
def strMulOk (x : Str) (n : Int) : Bool := decide (0 ≤ n ∧ n ≤ 1000 ∧ x.length ≤ 1000)
theorem strMul_ok {x : Str} {n : Int} (h : strMulOk x n = true) : MulOk x n := by
  have h := of_decide_eq_true h
  obtain ⟨h0, h1, h2⟩ := h
  refine ⟨?_, fun a _ => ?_, fun a _ => ?_⟩
  · have a1 : decide (n < -(2 ^ 63 : Int)) = false := decide_eq_false (by omega)
    have a2 : decide (n ≥ (2 ^ 63 : Int)) = false := decide_eq_false (by omega)
    rw [a1, a2]
    rfl
  · have hn : 1 ≤ n := by omega
    have : (1000 : Int) ≤ (2 ^ 63 - 1) / n := by
      rw [Int.le_ediv_iff_mul_le (by omega)]
      omega
    omega
  · unfold Builtin.Str.tooLong
    refine decide_eq_false ?_
    have hm : x.length * n.toNat ≤ 1000 * 1000 := Nat.mul_le_mul h2 (by omega)
    have e : sizeLine = 16777216 := sizeLine_eq
    omega
def rMulS : R2 := fun x y H Q => ∃ s n, x = .str s ∧ y = .int n ∧ strMulOk s n = true ∧ Q (.str (Txt.mul s n)) H
theorem op_mulS {X : Cx} : OpR X (binaryOp .Mult) rMulS := by
  intro pins s σ H x y v u Q I rx ry h
  obtain ⟨z, n, rfl, rfl, hok, q⟩ := h
  obtain ⟨t, rfl⟩ := rx
  obtain ⟨t', rfl⟩ := ry
  exact PySem.SB.mul (strMul_ok hok) fun t2 k => ⟨.str _, H, I.tok _, ⟨_, rfl⟩, q⟩
def dMulS : D → D → Option D
  | .str x, .int n => if strMulOk x n then some (.str (Txt.mul x n)) else none
  | _, _ => none
theorem ov_mulS {K : Fg} : OpV K rMulS dMulS := by
  intro H O x y d e z Q c rx ry hz k
  unfold dMulS at hz
  split at hz
  · split at hz
    · rename_i hm
      cases hz
      cases rx.str
      cases ry.int
      exact ⟨_, _, rfl, rfl, hm, k _ H .refl (.str _)⟩
    · cases hz
  · cases hz
section
variable {S : Cxt} {e e1 e2 : Expr} {p q : Env → Option D} {pos : Pos}
abbrev xMulS := xOp dMulS
theorem jp_mulS (ha : JB S e1 p) (hb : JB S e2 q) : JP S (.BinOp e1 .Mult e2 pos) (xMulS p q) := jp_op (r := fun _ => rMulS) (fun _ _ => op_mulS) ov_mulS ha hb

/-! ### methods of texts -/
def MtV (K : Fg) (r : V → List V → Hp → VK → Prop) (f : D → D → Option D) : Prop := ∀ (H : Hp) (O : OS) (x : Str) (y : V) (e z : D) (Q : VK), Oc H O → RB K H O y e → f (.str x) e = some z → (∀ v H', Grow H H' → RD K H' O v z → Q v H') → r (.str x) [y] H Q
def xMt (f : D → D → Option D) (p q : Env → Option D) (env : Env) : Option D := (p env).bind fun d => match d with | .str x => (q env).bind fun e => f (.str x) e | _ => none
theorem jp_m1 {id : String} {name : Str} {apos : Pos} {r : Fg → V → List V → Hp → VK → Prop} {f : D → D → Option D} (slot : Slot "str" name id) (ty : typeOf (.builtin id) = pure (.type "method_descriptor")) (rule : ∀ X : Cx, MtR X id (r X.K)) (hf : MtV S.K (r S.K) f) (ha : JP S e1 p) (hb : JB S e2 q)
    (hline : (apos.endLine == pos.line) = true) (hs : ∀ env, starEach [e2] env = [(false, eval e2 env)] := by intro _; rfl) (hbase : ∀ env, attributeBase e1 name env (eval e1 env) = eval e1 env := by intro _; rfl) :
    JP S (.Call (.Attribute e1 name apos) [e2] [] pos) (xMt f p q) := by
  obtain ⟨t, h1, h2⟩ := ha
  obtain ⟨u, h3, h4⟩ := hb
  refine ⟨tM1 (r S.K) t u, fun X o => by have z := rule X; rw [o.K] at z; exact pe_m1 slot ty z (h1 X o) (h3 X o) (hs _) (hbase _) hline, fun σ H O env T d Q s e k => ?_⟩
  obtain ⟨x, e1, e2⟩ := Option.bind_eq_some_iff.mp e
  cases x with
  | str x =>
    obtain ⟨y, e3, e4⟩ := Option.bind_eq_some_iff.mp e2
    refine h2 σ H O env T _ _ s e1 fun v H1 g1 r1 => ?_
    cases r1
    refine ⟨⟨x, rfl⟩, h4 σ H1 O env T y _ (s.grow g1) e3 fun w H2 g2 r2 => ?_⟩
    exact hf H2 O x w y d Q (s.oc.grow (g1.trans g2)) r2 e4 fun z H3 g3 r3 => k z H3 (g1.trans (g2.trans g3)) r3
  | _ => cases e2
def fJoin : D → D → Option D
  | .str a, .list xs => (strsOf xs).bind fun ys => if (ys.map (·.length)).sum + ys.length * a.length ≤ 16777216 then some (.str (Txt.join a ys)) else none
  | .str a, .tuple xs => (strsOf xs).bind fun ys => if (ys.map (·.length)).sum + ys.length * a.length ≤ 16777216 then some (.str (Txt.join a ys)) else none
  | _, _ => none
theorem mv_join {K : Fg} : MtV K (fun x xs H Q => ∃ a p, ∃ ys : List Str, x = .str a ∧ xs = [.ref p] ∧ (SqL K H p (ys.map V.str) ∨ SqT K H p (ys.map V.str)) ∧ (ys.map (·.length)).sum + ys.length * a.length ≤ 16777216 ∧ Q (.str (Txt.join a ys)) H) fJoin := by
  intro H O x y e z Q c ry hz k
  cases e with
  | list xs =>
    obtain ⟨ys, e1, e2⟩ := Option.bind_eq_some_iff.mp hz
    split at e2
    · rename_i hl
      cases e2
      obtain ⟨a, vs, e3, h1, h2⟩ := ry.lst
      subst e3
      have e4 := strsOf_vs e1 h2
      subst e4
      exact ⟨x, a, ys, rfl, rfl, .inl (SqL.of h1), hl, k _ H .refl (.str _)⟩
    · cases e2
  | tuple xs =>
    obtain ⟨ys, e1, e2⟩ := Option.bind_eq_some_iff.mp hz
    split at e2
    · rename_i hl
      cases e2
      obtain ⟨_, a, vs, e3, h1, h2⟩ := ry.tup
      subst e3
      have e4 := strsOf_vs e1 h2
      subst e4
      exact ⟨x, a, ys, rfl, rfl, .inr h1, hl, k _ H .refl (.str _)⟩
    · cases e2
  | _ => cases hz
theorem jp_join {apos : Pos} (ha : JP S e1 p) (hb : JB S e2 q) (hline : (apos.endLine == pos.line) = true) (hs : ∀ env, starEach [e2] env = [(false, eval e2 env)] := by intro _; rfl) (hbase : ∀ env, attributeBase e1 "join" env (eval e1 env) = eval e1 env := by intro _; rfl) :
    JP S (.Call (.Attribute e1 "join" apos) [e2] [] pos) (xMt fJoin p q) :=
  jp_m1 (r := fun K x xs H Q => ∃ a p, ∃ ys : List Str, x = .str a ∧ xs = [.ref p] ∧ (SqL K H p (ys.map V.str) ∨ SqT K H p (ys.map V.str)) ∧ (ys.map (·.length)).sum + ys.length * a.length ≤ 16777216 ∧ Q (.str (Txt.join a ys)) H)
    PySem.F.slot_str_join PySem.F.type_str_join (fun X => mt_join) mv_join ha hb hline hs hbase

/-! ### isinstance(e, T), T built in -/
def isIntD : D → Bool
  | .int _ => true
  | .bool _ => true
  | _ => false
def isBoolD : D → Bool
  | .bool _ => true
  | _ => false
def isStrD : D → Bool
  | .str _ => true
  | _ => false
def isTupD : D → Bool
  | .tuple _ => true
  | _ => false
def isLstD : D → Bool
  | .list _ => true
  | _ => false
def isA (T : String) (d : D) : Option Bool :=
  if T = "int" then some (isIntD d) else if T = "bool" then some (isBoolD d) else if T = "str" then some (isStrD d) else if T = "tuple" then some (isTupD d) else if T = "list" then some (isLstD d) else none
def tyD : D → String
  | .none => "NoneType"
  | .bool _ => "bool"
  | .int _ => "int"
  | .str _ => "str"
  | .list _ => "list"
  | .tuple _ => "tuple"
  | .dict _ => "dict"
theorem RB.tyX {K : Fg} {H : Hp} {O : OS} {v : V} {d : D} (h : RB K H O v d) : TyX K H v (.type (tyD d)) := by
  rcases h with h | ⟨a, vs, ds, e1, e2, h1, h2⟩
  · cases h with
    | non => exact .base .non
    | bl b => exact .base (.bl b)
    | int i => exact .base (.int i)
    | str x => exact .base (.str x)
    | lst a b c => exact .base (.lst b)
    | tup a b =>
      rcases a with ⟨_, a | ⟨o, a⟩⟩ | a
      · exact .base (.tup a)
      · exact .fTuple a
      · rcases a with a | ⟨o, its, n, a, c, _⟩
        · exact (rd_none a).elim
        · exact .kTuple a c
  · subst e1 e2
    exact .base (.lst h1)
theorem isA_kit {K : Fg} {T : String} {d : D} {b : Bool} (h : isA T d = some b) : PySem.W.kitOne K (.type (tyD d)) (.type T) = some b := by
  unfold isA at h
  split at h
  · rename_i e; subst e; cases h; cases d <;> dsimp only [tyD, isIntD, isBoolD, isStrD, isTupD, isLstD] <;> exact kit_ty (by decide +kernel)
  · split at h
    · rename_i e; subst e; cases h; cases d <;> dsimp only [tyD, isIntD, isBoolD, isStrD, isTupD, isLstD] <;> exact kit_ty (by decide +kernel)
    · split at h
      · rename_i e; subst e; cases h; cases d <;> dsimp only [tyD, isIntD, isBoolD, isStrD, isTupD, isLstD] <;> exact kit_ty (by decide +kernel)
      · split at h
        · rename_i e; subst e; cases h; cases d <;> dsimp only [tyD, isIntD, isBoolD, isStrD, isTupD, isLstD] <;> exact kit_ty (by decide +kernel)
        · split at h
          · rename_i e; subst e; cases h; cases d <;> dsimp only [tyD, isIntD, isBoolD, isStrD, isTupD, isLstD] <;> exact kit_ty (by decide +kernel)
          · cases h
def xIsA (T : String) (p : Env → Option D) (env : Env) : Option D := (p env).bind fun d => (isA T d).map .bool
theorem jp_isA {x : Str} {n : String} {pp px : Pos} (hg : Gn S "isinstance") (hm : S.mg "isinstance" = none) (gT : Gn S x) (mT : S.mg x = none) (bT : bootBuiltins x = some (.type n)) (ha : JB S e p) (hxn : x ≠ "__name__" := by decide) (hxd : (x == ("__debug__" : Str)) = false := by decide)
    (hs : ∀ env, starEach [e, .Name x px] env = [(false, eval e env), (false, eval (.Name x px) env)] := by intro _; rfl) : JP S (.Call (.Name "isinstance" pp) [e, .Name x px] [] pos) (xIsA n p) := by
  obtain ⟨t, h1, h2⟩ := ha
  refine ⟨tCB (rIsi S.K) (tCons t (tCons (tC (.ty n)) tNil)), fun X o => ?_, fun σ H O env T d Q s e k => ?_⟩
  · have z := call_isi (X := X)
    rw [o.K] at z
    exact pe_callB z (gl_of o hg) (by rw [o.mg]; exact hm) (by decide +kernel) (pa_cons (h1 X o) (pa_cons (pe_bltn (gl_of o gT) (by rw [o.mg]; exact mT) bT rfl hxn hxd) pa_nil) (by rw [hs]; rfl)) (by decide) (by decide) (by rw [hs]; rfl) (by rfl)
  · obtain ⟨d', e1, e2⟩ := Option.bind_eq_some_iff.mp e
    obtain ⟨b, e3, e4⟩ := Option.map_eq_some_iff.mp e2
    subst e4
    refine h2 σ H O env T d' _ s e1 fun v H1 g1 r1 => ?_
    exact ⟨v, .ty n, _, _, b, rfl, .ty n, r1.tyX, isA_kit e3, k _ H1 g1 (.bl b)⟩

/-! ### in -/
/-- one sign in a text -/
def signOf (x : Str) : Option Nat := match x.cps.toList with | [c] => some c | _ => none
theorem signOf_eq {x : Str} {c : Nat} (h : signOf x = some c) : x = ⟨#[c]⟩ := by
  unfold signOf at h
  split at h
  · rename_i c' e
    cases h
    cases x with
    | mk cps =>
      congr
      exact Array.toList_inj.mp e
  · cases h
def dInS : D → D → Option D
  | .str x, .str z => (signOf x).map fun c => .bool (decide (c ∈ z.cps.toList))
  | _, _ => none
theorem ov_inS {K : Fg} : OpV K (fun x y H Q => ∃ (c : Nat) (z : Str), x = .str ⟨#[c]⟩ ∧ y = .str z ∧ Q (.bl (decide (c ∈ z.cps.toList))) H) dInS := by
  intro H O x y d e z Q c rx ry hz k
  unfold dInS at hz
  split at hz
  · obtain ⟨cc, e1, e2⟩ := Option.map_eq_some_iff.mp hz
    subst e2
    cases rx.str
    cases ry.str
    rw [signOf_eq e1]
    exact ⟨cc, _, rfl, rfl, k _ H .refl (.bl _)⟩
  · cases hz
theorem jp_inS (ha : JB S e1 p) (hb : JB S e2 q) (hm : behindInMarks .In e2 = false := by rfl) : JP S (.Compare e1 [.In] [e2] pos) (xOp dInS p q) :=
  jp_cmp (r := fun _ x y H Q => ∃ (c : Nat) (z : Str), x = .str ⟨#[c]⟩ ∧ y = .str z ∧ Q (.bl (decide (c ∈ z.cps.toList))) H) (fun _ _ => op_in_sign) ov_inS ha hb hm
end
end ML
/-! ML15: the end of a row. -/
namespace ML
open PySem PySem.Spec PyProof.Rows L2

theorem room_le {k : Nat} {A : Around} (h : Room k A) {j : Nat} (hj : j ≤ k) : Room j A := h.mono hj
/-- a law's own promise over plain data: it comes to True on every script -/
def Wins (n : Nat) (F : List SV → Res SV) : Prop := ∀ ns : List Int, ns.length ≤ n → (∀ z ∈ ns, Builtin.Int.intBits z ≤ 1048576) → ∃ en, F [.frz (ns.map .int)] = .ok en (.dat (.bool true))
theorem rds_ints {K : Fg} {H : Hp} {O : OS} : ∀ ns : List Int, RDs K H O (ns.map V.int) (ns.map PyData.int)
  | [] => .nil
  | n :: r => .cons (.int n) (rds_ints r)
theorem sp_wins {K : Fg} {mg : Str → Option Value} {n : Nat} {F : List SV → Res SV} (w : Wins n F) {H : Hp} {a : Addr} {ns : List Int} (hl : ns.length ≤ n) (hb : ∀ z ∈ ns, Builtin.Int.intBits z ≤ 1048576) (hS : SqL K H a (ns.map V.int)) :
    spF K mg F [.ref a] H (fun v _ => v = .bl true) fun _ _ _ => False := by
  obtain ⟨en, e⟩ := w ns hl hb
  refine ⟨fun _ => False, [.frz (ns.map .int)], [], fun b h => h.elim, ?_, List.nodup_nil, (fun b h => by cases h), ?_⟩
  · refine .cons (fq := []) (.frz ?_ (rds_ints ns)) .nil
    rcases hS with h | ⟨o, its, m, h⟩
    · exact .inl ⟨fun z => z.elim, h⟩
    · exact .inr (.inr ⟨o, its, m, h⟩)
  · rw [e]
    intro σ v H' O' fq _ r
    cases r with
    | dat h => cases h; rfl
/-- the head: the law's def at the heap behind the top -/
theorem law_callG {P : Program} {w : World} {K : Fg} {mg mb : Str → Option Value} {k : Nat} {fa a : Addr} {fd : FuncData} {x : Str} {s₁ : Shared} {vs : List Value} {ns : List Int} {n : Nat} {F : List SV → Res SV} (hwin : Wins n F)
    (KX : K.In s₁.heap) (hns : s₁.heap.Ns mainGlobals mg) (hbn : s₁.heap.Ns builtinsNs mb) (hbb : ∀ x : Str, x ≠ "__name__" → mb x = bootBuiltins x) (hlim : s₁.heap.NoLimit) (hgen : s₁.gens = #[])
    (hobj : s₁.heap.get? a = some { cls := .type "list", data := .seq vs.toArray }) (hi : IntsAre vs ns) (hn : ns.length ≤ n) (hn2 : n ≤ sizeLine) (hbits : ∀ z ∈ ns, Builtin.Int.intBits z ≤ 1048576) (hr : Room k callerA)
    (hF : ∀ base : Heap, K.In base → base.Ns mainGlobals mg → FnG P w K mg base k fa fd [x] (spF K mg F)) (hbind : ∀ (s : Shared) (u : Value), BindsTo s fd ⟨[u], []⟩ [(x, u)]) :
    codeAny (model P w) callerA (.call (.ref fa) ⟨[.ref a], []⟩) (fun r s' => r = .ok (.ret (.bool true)) ∧ OldK s₁.heap s'.heap ∧ s'.os = s₁.os ∧ AllBare s'.gens) s₁ := by
  have rv := vals_ints hi
  have lenV := hi.length
  have hl : ns.length ≤ sizeLine := Nat.le_trans hn hn2
  have core : ∀ H : Hp, Only H → SqL K H a (ns.map V.int) → HOk P w H s₁.heap → (∀ b, H b ≠ none → b = a) → (H a ≠ none → K.lookup a = none) →
      codeAny (model P w) callerA (.call (.ref fa) ⟨[.ref a], []⟩) (fun r s' => r = .ok (.ret (.bool true)) ∧ OldK s₁.heap s'.heap ∧ s'.os = s₁.os ∧ AllBare s'.gens) s₁ := by
    intro H hO hS hok hA hK
    have base_of : ∀ {b : Addr} {o : Obj}, s₁.heap.get? b = some o → H b = none → (hidT s₁.heap H).get? b = some o := fun e z => hidT_get e z
    have noA : ∀ {b : Addr} {o : Obj} {es : Array DictEntry} {ep : Nat}, s₁.heap.get? b = some o → o.data = .dict es ep → H b = none := fun {b o es ep} e d => by
      cases q : H b with
      | none => rfl
      | some u =>
        have e1 : b = a := hA b (by rw [q]; simp)
        subst e1
        rw [hobj] at e
        cases e
        have d1 : Data.seq vs.toArray _ = Data.dict es ep := d
        cases d1
    have nsK : ∀ {b : Addr} {m : Str → Option Value}, s₁.heap.Ns b m → (hidT s₁.heap H).Ns b m := fun {b m} ⟨o, es, ep, e, d, r⟩ => ⟨o, es, ep, base_of e (noA e d), d, r⟩
    have inB : K.In (hidT s₁.heap H) := fun b o e => base_of (KX b o e) (by
      cases q : H b with
      | none => rfl
      | some u =>
        have e1 : b = a := hA b (by rw [q]; simp)
        subst e1
        rw [hK (by rw [q]; simp)] at e
        cases e)
    have md : Mod K mg (hidT s₁.heap H) := ⟨inB, nsK hns, ⟨mb, nsK hbn, hbb⟩, let ⟨mc, q1, q2⟩ := hlim; ⟨mc, nsK q1, q2⟩⟩
    have en0 : Env0 P w K mg (hidT s₁.heap H) callerA [] s₁ H := ⟨rfl, md, fun b o e => of_hidT e, Nat.le_of_eq (hidT_size _ _), trivial, fun b q => absurd (show b ∈ ([] : List Addr) from q) (by simp), hok, .of_eq hgen⟩
    refine codeAny_mono ((hF _ inB (nsK hns)).run callerA [] s₁ H ⟨[.ref a], []⟩ [.ref a] [.ref a] _ _ hr rfl en0 (hbind s₁ (.ref a)) (.cons rfl .nil) (sp_wins hwin hn hbits hS)) fun r s' h => ?_
    cases r with
    | error e =>
      obtain ⟨_, _, _, _, _, _, _, _, _, _, _, _, z⟩ := h
      exact z.elim
    | ok fl =>
      cases fl with
      | next => exact False.elim h
      | brk => exact False.elim h
      | cont => exact False.elim h
      | ret u =>
        obtain ⟨v, H', os, bare, un, hok', rr, q⟩ := h
        have q1 : v = .bl true := q
        subst q1
        obtain rfl : u = Value.bool true := rr
        refine ⟨rfl, OldK.of_keep fun b o e => ?_, os, bare⟩
        cases q : H b with
        | none => exact un.keep b o e q (by intro z; exact absurd (show b ∈ ([] : List Addr) from z) (by simp)) (by simp)
        | some u =>
          rcases hO b with z | ⟨ob, xs, z⟩
          · rw [q] at z
            cases z
          · have z2 := un.frzs b ob _ z
            obtain ⟨e1, _⟩ := hok b _ z
            obtain ⟨e2, _⟩ := hok' b _ z2
            rw [e] at e1
            cases e1
            exact e2
  cases hk : K.lookup a with
  | some o =>
    have e := KX a o hk
    rw [hobj] at e
    cases e
    refine core (fun _ => none) (fun _ => .inl rfl) (.inr ⟨_, vs.toArray, _, hk, rfl, rfl, rfl, by rw [List.size_toArray, lenV]; exact hl, by simpa using rv⟩) (fun b u z => by
      have z1 : (none : Option HO) = some u := z
      cases z1) (fun b z => absurd rfl z) fun z => absurd rfl z
  | none =>
    refine core (fun b => if b = a then some (.frz { cls := .type "list", data := .seq vs.toArray } (.lst (ns.map V.int))) else none) (fun b => ?_) (.inl (.inr ⟨{ cls := .type "list", data := .seq vs.toArray }, if_pos rfl⟩)) (fun b u z => ?_) (fun b z => ?_) fun _ => hk
    · by_cases q : b = a
      · exact .inr ⟨_, _, if_pos q⟩
      · exact .inl (if_neg q)
    · by_cases q : b = a
      · have z1 := (if_pos q).symm.trans z
        cases z1
        subst q
        exact ⟨hobj, by rw [List.length_map]; exact hl, vs, _, rv, hobj⟩
      · have z1 := (if_neg q).symm.trans z
        cases z1
    · by_cases q : b = a
      · exact q
      · exact absurd (if_neg q) z
/-- the row's walk -/
theorem walkG {l : PySem.W.OpenLaw} {n k : Nat} {q : Program} {loose : List Str} {XP : (Str → Option Value) → Heap → Prop} {YP : World → Heap → Prop} {d : DefRec} {K : Params → Fg} {x : Str} {F : List SV → Res SV} (hwin : Wins n F)
    (hn : l.most = some n) (hn2 : n ≤ sizeLine) (hdf : d.params.defaults = []) (hr : Room k callerA)
    (hY : ∀ (w : World) (h : Heap), YP w h → (K w.params).In h)
    (hF : ∀ (w : World) (mg : Str → Option Value) (fa : Addr) (h : Heap), (K w.params).In h → h.Ns mainGlobals mg → mg d.name = some (.ref fa) →
      ∃ fd : FuncData, (∀ (s : Shared) (u : Value), BindsTo s fd ⟨[u], []⟩ [(x, u)]) ∧
        ∀ base : Heap, (K w.params).In base → base.Ns mainGlobals mg → FnG l.prog w (K w.params) mg base k fa fd [x] (spF (K w.params) mg F)) :
    PySem.W.WalkO q loose XP YP l.row.toRowW d [] (fun f vs => PySem.call f vs) := by
  refine Att.attach_callB hn hdf fun w s₀ s₁ mg mb fa o pm cd doc a vs ns G Y ho hd hcd hmg hobj hints hlen hbits hg => ?_
  have KX := hY w _ Y
  obtain ⟨fd, hb, hFF⟩ := hF w mg fa _ KX G.T.g hmg
  exact law_callG hwin KX G.T.g G.T.b G.T.builtins G.T.nolimit hg hobj hints hlen hn2 hbits hr hFF hb
end ML
/-! ML16: short forms for the printer. -/
namespace ML
open PySem L2

/-! ### names in one look -/
def visB (sc : Scope) (x : Str) : Bool := match sc.names.lookup x with
  | some .local => true
  | some .cell => true
  | some .free => true
  | _ => false
theorem vis_of {sc : Scope} {x : Str} (h : visB sc x = true) : Vis sc x := by
  unfold visB at h
  split at h
  · exact .inl (by assumption)
  · exact .inr (.inl (by assumption))
  · exact .inr (.inr (by assumption))
  · cases h
def okV (N : List Str) (sc : Scope) (i : Nat) (x : Str) : Bool := decide (N[i]? = some x) && visB sc x && !(x == ("__debug__" : Str)) && !(x == ("__classdict__" : Str))
theorem okV_of {N : List Str} {sc : Scope} {i : Nat} {x : Str} (h : okV N sc i x = true) : N[i]? = some x ∧ Vis sc x ∧ (x == ("__debug__" : Str)) = false ∧ (x == ("__classdict__" : Str)) = false := by
  unfold okV at h
  simp only [Bool.and_eq_true, Bool.not_eq_true', decide_eq_true_eq] at h
  exact ⟨h.1.1.1, vis_of h.1.1.2, h.1.2, h.2⟩
def locB (sc : Scope) (x : Str) : Bool := match sc.names.lookup x with
  | some .local => true
  | some .cell => true
  | _ => false
theorem loc_of {sc : Scope} {x : Str} (h : locB sc x = true) : Loc sc x := by
  unfold locB at h
  split at h
  · exact .inl (by assumption)
  · exact .inr (by assumption)
  · cases h
def okL (N : List Str) (sc : Scope) (i : Nat) (x : Str) : Bool := decide (N[i]? = some x) && locB sc x
theorem okL_of {N : List Str} {sc : Scope} {i : Nat} {x : Str} (h : okL N sc i x = true) : N[i]? = some x ∧ Loc sc x := by
  unfold okL at h
  simp only [Bool.and_eq_true, decide_eq_true_eq] at h
  exact ⟨h.1, loc_of h.2⟩

section
variable {S : Cxt} {e e1 e2 : Expr} {es : List Expr} {p q : Env → Option D} {fa fb : Env → Res D} {pos pp : Pos} {x : Str}
theorem pv (i : Nat) (h : okV S.N S.sc i x = true) : JP S (.Name x pos) (xDat i) := jp_var i (okV_of h).1 (okV_of h).2.1 (okV_of h).2.2.1 (okV_of h).2.2.2
theorem bv (i : Nat) (h : okV S.N S.sc i x = true) : JB S (.Name x pos) (xBor i) := jb_var i (okV_of h).1 (okV_of h).2.1 (okV_of h).2.2.1 (okV_of h).2.2.2
theorem mv (i : Nat) (h : okV S.N S.sc i x = true) : JE S (.Name x pos) (yMv i) := je_mv i (okV_of h).1 (okV_of h).2.1 (okV_of h).2.2.1 (okV_of h).2.2.2
theorem fzv (i : Nat) (h : okV S.N S.sc i x = true) : JD S (.Name x pos) (yFz i) := jd_fz i (okV_of h).1 (okV_of h).2.1 (okV_of h).2.2.1 (okV_of h).2.2.2
theorem lenFv {px : Pos} (i : Nat) (h : okV S.N S.sc i x = true) (hg : Gn S "len") (hm : S.mg "len" = none) : JP S (.Call (.Name "len" pp) [.Name x px] [] pos) (xLenF i) := jp_lenF i hg hm (okV_of h).1 (okV_of h).2.1 (okV_of h).2.2.1 (okV_of h).2.2.2
theorem ixFv {p2 : Pos} (i : Nat) (h : okV S.N S.sc i x = true) (hb : JB S e2 q) (hs : PlainIx e2 := by intro _ _; rfl) : JP S (.Subscript (.Name x p2) e2 pos) (xIxF i q) := jp_ixF i (okV_of h).1 (okV_of h).2.1 (okV_of h).2.2.1 (okV_of h).2.2.2 hb hs
theorem slv {fr : Env → Res (List AV)} (i : Nat) (h : okV S.N S.sc i x = true) (hr : JCA S es fr) (hs : ∀ env, starEach (.Name x pos :: es) env = (false, eval (.Name x pos) env) :: starEach es env := by intro _; rfl) : JCA S (.Name x pos :: es) (cSlot i fr) :=
  jca_sl i (okV_of h).1 (okV_of h).2.1 (okV_of h).2.2.1 (okV_of h).2.2.2 hr hs
theorem gv (i : Nat) (nd : S.N.Nodup) (h : okL S.N S.sc i x = true) (hl : S.blk = false ∨ S.sc.names.lookup x = some .local) : JG S (.Name x pos) [i] (gN i) := jg_name i nd (okL_of h).1 (okL_of h).2 hl
theorem st_set (i : Nat) {pos' : Pos} {f : Env → Res SV} (nd : S.N.Nodup) (h : okL S.N S.sc i x = true) (hl : S.blk = false) (he : JE S e f) (hs : ∀ env, swapsWith e (some (.Name x pos')) pos.line env = pure false := by intro _; rfl) (hw : ∀ env, swappedStores [.Name x pos'] e env = pure none := by intro _; rfl) :
    JS S (.Assign [.Name x pos'] e pos) (sSet i f) := js_set i nd (okL_of h).1 (okL_of h).2 hl he hs hw
theorem gstrE {y : Str} (hg : Gn S x) (hm : ∃ t, S.mg x = some (.str y t)) (hd : (x == ("__debug__" : Str)) = false := by decide) : JP S (.Name x pos) (xC (.str y)) := by
  obtain ⟨t, hm⟩ := hm
  exact jp_gstr hg hm hd
theorem gintE {y : Int} (hg : Gn S x) (hm : ∃ t, S.mg x = some (.int y t)) (hd : (x == ("__debug__" : Str)) = false := by decide) : JP S (.Name x pos) (xC (.int y)) := by
  obtain ⟨t, hm⟩ := hm
  exact jp_gint hg hm hd

theorem st_setIx (i : Nat) {px p2 : Pos} {f : Env → Res D} {ix : Expr} {k : Env → Option D} (h : okV S.N S.sc i x = true) (he : JD S e f) (hk : JB S ix k)
    (hs : ∀ env, swapsWithSole [.Subscript (.Name x px) ix p2] e pos.line env = pure false := by intro _; rfl) (hw : ∀ env, swappedStores [.Subscript (.Name x px) ix p2] e env = pure none := by intro _; rfl)
    (hpi : ∀ env : PySem.Env, ∀ v, assign (.Subscript (.Name x px) ix p2) env v = (do
      let ov ← holding [v] (eval (.Name x px) env)
      let iv ← holding [v, ov] (eval ix env)
      standAt p2
      holding [v, ov, iv] (setItem ov iv v)
      release [v, ov, iv] []) := by intro _ _; rfl) :
    JS S (.Assign [.Subscript (.Name x px) ix p2] e pos) (sSetIx i f k) :=
  js_setIx i (okV_of h).1 (okV_of h).2.1 (okV_of h).2.2.1 (okV_of h).2.2.2 he hk hs hw (fun X u o h2 => pg_sub (pe_var (by rw [o.N]; exact (okV_of h).1) (by rw [o.sc]; exact (okV_of h).2.1) (okV_of h).2.2.1 (okV_of h).2.2.2) h2 set_list (hpi _))
theorem st_setCompF (i : Nat) {elt tg iter : Expr} {ifs : List Expr} {scope : Scope} {own : List (Str × Nat)} {ws : List Nat} {fi : Env → Option (List D)} {gt : D → Env → Option Env} {u : Env → Option Bool} {el : Env → Option D} {py spos : Pos} (nd : S.N.Nodup) (hy : S.N[i]? = some x) (hyl : S.sc.names.lookup x = some .local) (hl : (py.line == pos.line) = true) (hsn : (scope.names.any fun (n, k) => n == x && (k == .local || k == .cell)) = false)
    (hi : JIP S tg iter fi) (ok : blkC S.N S.sc scope own = true) (hg : JG (S.inn scope) tg ws gt) (ht : SemTsP (S.inn scope) ifs u) (he : JP (S.inn scope) elt el) (hws : ∀ i ∈ ws, i ∈ own.map (·.2))
    (hs : ∀ env x, foldedSetIterable iter env x = pure x := by intro _ _; rfl) : JS S (.Assign [.Name x py] (.ListComp elt [⟨tg, iter, ifs, 0⟩] scope pos) spos) (sSet i (up' (fun env => (oComp (own.map (·.2)) fi gt u el env).map .list))) :=
  js_setCompP (frz := true) i nd hy hyl hl hsn hi ok hg ht he hws hs
theorem st_setCompO (i : Nat) {elt tg iter : Expr} {ifs : List Expr} {scope : Scope} {own : List (Str × Nat)} {ws : List Nat} {fi : Env → Option (List D)} {gt : D → Env → Option Env} {u : Env → Option Bool} {el : Env → Option D} {py spos : Pos} (nd : S.N.Nodup) (hy : S.N[i]? = some x) (hyl : S.sc.names.lookup x = some .local) (hl : (py.line == pos.line) = true) (hsn : (scope.names.any fun (n, k) => n == x && (k == .local || k == .cell)) = false)
    (hi : JIP S tg iter fi) (ok : blkC S.N S.sc scope own = true) (hg : JG (S.inn scope) tg ws gt) (ht : SemTsP (S.inn scope) ifs u) (he : JP (S.inn scope) elt el) (hws : ∀ i ∈ ws, i ∈ own.map (·.2))
    (hs : ∀ env x, foldedSetIterable iter env x = pure x := by intro _ _; rfl) : JS S (.Assign [.Name x py] (.ListComp elt [⟨tg, iter, ifs, 0⟩] scope pos) spos) (sSet i (upO (oComp (own.map (·.2)) fi gt u el))) :=
  js_setCompP (frz := false) i nd hy hyl hl hsn hi ok hg ht he hws hs
theorem leB {a b : Nat} (h : Nat.ble a b = true) : a ≤ b := Nat.le_of_ble_eq_true h

/-! ### times, for numbers and texts -/
def rMulX (K : Fg) : R2 := rOr (rMul K) rMulS
def dMulX (d e : D) : Option D := match dMul d e with | some z => some z | none => dMulS d e
theorem ov_mulX {K : Fg} : OpV K (rMulX K) dMulX := by
  intro H O a b d e z Q c ra rb hz k
  unfold dMulX at hz
  cases h1 : dMul d e with
  | some z1 =>
    rw [h1] at hz
    cases hz
    exact .inl (ov_mul H O a b d e _ Q c ra rb h1 k)
  | none =>
    rw [h1] at hz
    exact .inr (ov_mulS H O a b d e z Q c ra rb hz k)
abbrev xMulX := xOp dMulX
theorem jp_mulX (ha : JB S e1 p) (hb : JB S e2 q) : JP S (.BinOp e1 .Mult e2 pos) (xMulX p q) := jp_op (r := rMulX) (fun _ _ => OpR_or op_mulK op_mulS) ov_mulX ha hb

/-! ### operators over effects -/
theorem jd_add (ha : JD S e1 fa) (hb : JD S e2 fb) : JD S (.BinOp e1 .Add e2 pos) (yOp dAdd fa fb) := jd_op (r := rAdd) (fun _ _ => op_addK) ov_add ha hb
theorem jd_sub (ha : JD S e1 fa) (hb : JD S e2 fb) : JD S (.BinOp e1 .Sub e2 pos) (yOp dSub fa fb) := jd_op (r := fun _ => rI0 fun i j => .int (i - j)) (fun _ _ => op_sub) ov_sub ha hb
theorem jd_mulX (ha : JD S e1 fa) (hb : JD S e2 fb) : JD S (.BinOp e1 .Mult e2 pos) (yOp dMulX fa fb) := jd_op (r := rMulX) (fun _ _ => OpR_or op_mulK op_mulS) ov_mulX ha hb
theorem jd_div (ha : JD S e1 fa) (hb : JD S e2 fb) : JD S (.BinOp e1 .FloorDiv e2 pos) (yOp dDiv fa fb) := jd_op (r := fun _ => rI CDivW fun i j => .int (i / j)) (fun _ _ => op_fdivW) ov_div ha hb
theorem jd_mod (ha : JD S e1 fa) (hb : JD S e2 fb) : JD S (.BinOp e1 .Mod e2 pos) (yOp dMod fa fb) := jd_op (r := fun _ => rI (fun _ j => 0 < j) fun i j => .int (i % j)) (fun _ _ => op_mod) ov_mod ha hb
theorem jd_pow (ha : JD S e1 fa) (hb : JD S e2 fb) : JD S (.BinOp e1 .Pow e2 pos) (yOp dPow fa fb) := jd_op (r := fun _ => rI CPowB fun i j => .int (i ^ j.toNat)) (fun _ _ => op_powB) ov_pow ha hb
theorem jd_lt (ha : JD S e1 fa) (hb : JD S e2 fb) : JD S (.Compare e1 [.Lt] [e2] pos) (yOp (dCmp fun i j => decide (i < j)) fa fb) := jd_cmp (r := fun _ => rI0 fun i j => .bl (decide (i < j))) (fun _ _ => op_lt) ov_cmp ha hb (nomark _)
theorem jd_le (ha : JD S e1 fa) (hb : JD S e2 fb) : JD S (.Compare e1 [.LtE] [e2] pos) (yOp (dCmp fun i j => decide (i ≤ j)) fa fb) := jd_cmp (r := fun _ => rI0 fun i j => .bl (decide (i ≤ j))) (fun _ _ => op_le) ov_cmp ha hb (nomark _)
theorem jd_gt (ha : JD S e1 fa) (hb : JD S e2 fb) : JD S (.Compare e1 [.Gt] [e2] pos) (yOp (dCmp fun i j => decide (j < i)) fa fb) := jd_cmp (r := fun _ => rI0 fun i j => .bl (decide (j < i))) (fun _ _ => op_gt) ov_cmp ha hb (nomark _)
theorem jd_ge (ha : JD S e1 fa) (hb : JD S e2 fb) : JD S (.Compare e1 [.GtE] [e2] pos) (yOp (dCmp fun i j => decide (j ≤ i)) fa fb) := jd_cmp (r := fun _ => rI0 fun i j => .bl (decide (j ≤ i))) (fun _ _ => op_ge) ov_cmp ha hb (nomark _)
theorem jd_eq (ha : JD S e1 fa) (hb : JD S e2 fb) : JD S (.Compare e1 [.Eq] [e2] pos) (yOp dEq fa fb) := jd_cmp (r := rEqX) (fun _ o => op_eqX o.units) ov_eq ha hb (nomark _)
theorem jd_ne (ha : JD S e1 fa) (hb : JD S e2 fb) : JD S (.Compare e1 [.NotEq] [e2] pos) (yOp dNe fa fb) := jd_cmp (r := rNeX) (fun _ o => op_neX o.units) ov_ne ha hb (nomark _)
theorem jd_isN (ha : JD S e1 fa) (hb : JD S e2 fb) : JD S (.Compare e1 [.Is] [e2] pos) (yOp dIsN fa fb) := jd_cmp (r := fun _ x y H Q => y = .non ∧ Q (.bl (decide (x = .non))) H) (fun _ _ => op_isN) ov_isN ha hb (nomark _)
theorem jd_notN (ha : JD S e1 fa) (hb : JD S e2 fb) : JD S (.Compare e1 [.IsNot] [e2] pos) (yOp dNotN fa fb) := jd_cmp (r := fun _ x y H Q => y = .non ∧ Q (.bl (!decide (x = .non))) H) (fun _ _ => op_notN) ov_notN ha hb (nomark _)
abbrev tB (f : D → D → Option D) (a b : Env → Res D) : Env → Res Bool := fun env => bRes (yOp f a b env)
theorem je_lt (ha : JD S e1 fa) (hb : JD S e2 fb) : JT S (.Compare e1 [.Lt] [e2] pos) (tB (dCmp fun i j => decide (i < j)) fa fb) := jt_cmp (r := fun _ => rI0 fun i j => .bl (decide (i < j))) (fun _ _ => op_lt) ov_cmp ha hb (nomark _)
theorem je_le (ha : JD S e1 fa) (hb : JD S e2 fb) : JT S (.Compare e1 [.LtE] [e2] pos) (tB (dCmp fun i j => decide (i ≤ j)) fa fb) := jt_cmp (r := fun _ => rI0 fun i j => .bl (decide (i ≤ j))) (fun _ _ => op_le) ov_cmp ha hb (nomark _)
theorem je_gt (ha : JD S e1 fa) (hb : JD S e2 fb) : JT S (.Compare e1 [.Gt] [e2] pos) (tB (dCmp fun i j => decide (j < i)) fa fb) := jt_cmp (r := fun _ => rI0 fun i j => .bl (decide (j < i))) (fun _ _ => op_gt) ov_cmp ha hb (nomark _)
theorem je_ge (ha : JD S e1 fa) (hb : JD S e2 fb) : JT S (.Compare e1 [.GtE] [e2] pos) (tB (dCmp fun i j => decide (j ≤ i)) fa fb) := jt_cmp (r := fun _ => rI0 fun i j => .bl (decide (j ≤ i))) (fun _ _ => op_ge) ov_cmp ha hb (nomark _)
theorem je_eq (ha : JD S e1 fa) (hb : JD S e2 fb) : JT S (.Compare e1 [.Eq] [e2] pos) (tB dEq fa fb) := jt_cmp (r := rEqX) (fun _ o => op_eqX o.units) ov_eq ha hb (nomark _)
theorem je_ne (ha : JD S e1 fa) (hb : JD S e2 fb) : JT S (.Compare e1 [.NotEq] [e2] pos) (tB dNe fa fb) := jt_cmp (r := rNeX) (fun _ o => op_neX o.units) ov_ne ha hb (nomark _)
theorem je_isN (ha : JD S e1 fa) (hb : JD S e2 fb) : JT S (.Compare e1 [.Is] [e2] pos) (tB dIsN fa fb) := jt_cmp (r := fun _ x y H Q => y = .non ∧ Q (.bl (decide (x = .non))) H) (fun _ _ => op_isN) ov_isN ha hb (nomark _)
theorem je_notN (ha : JD S e1 fa) (hb : JD S e2 fb) : JT S (.Compare e1 [.IsNot] [e2] pos) (tB dNotN fa fb) := jt_cmp (r := fun _ x y H Q => y = .non ∧ Q (.bl (!decide (x = .non))) H) (fun _ _ => op_notN) ov_notN ha hb (nomark _)

/-! ### built-in calls over effects -/
section
variable {qs : Env → Res (List D)}
theorem jd_len (hg : Gn S "len") (hm : S.mg "len" = none) (ha : JDA S [e] qs) (he : ∀ env, starEach [e] env = (false, eval e env) :: starEach [] env := by intro _; rfl) : JD S (.Call (.Name "len" pp) [e] [] pos) (yCall fLen qs) :=
  jd_callB (r := fun K xs H Q => ∃ x n, xs = [x] ∧ LenV K x H n ∧ Q (.int n) H) (fun _ _ => call_len) cv_len hg hm PySem.boot_len ha (by decide) (by decide) he (fun _ => rfl)
theorem jd_abs (hg : Gn S "abs") (hm : S.mg "abs" = none) (ha : JDA S [e] qs) (he : ∀ env, starEach [e] env = (false, eval e env) :: starEach [] env := by intro _; rfl) : JD S (.Call (.Name "abs" pp) [e] [] pos) (yCall fAbs qs) :=
  jd_callB (r := fun _ xs H Q => ∃ i, xs = [.int i] ∧ Q (.int (if i < 0 then -i else i)) H) (fun _ _ => call_abs) cv_abs hg hm (by decide +kernel) ha (by decide) (by decide) he (fun _ => rfl)
theorem jd_sum (hg : Gn S "sum") (hm : S.mg "sum" = none) (ha : JDA S [e] qs) (he : ∀ env, starEach [e] env = (false, eval e env) :: starEach [] env := by intro _; rfl) : JD S (.Call (.Name "sum" pp) [e] [] pos) (yCall fSum qs) :=
  jd_callB (r := rSum) (fun _ o => cr_sum o.calm) cv_sum hg hm (by decide +kernel) ha (by decide) (by decide) he (fun _ => rfl)
theorem jd_all (hg : Gn S "all") (hm : S.mg "all" = none) (ha : JDA S [e] qs) (he : ∀ env, starEach [e] env = (false, eval e env) :: starEach [] env := by intro _; rfl) : JD S (.Call (.Name "all" pp) [e] [] pos) (yCall fAll qs) :=
  jd_callB (r := rAll) (fun _ o => cr_all o.calm) cv_all hg hm (by decide +kernel) ha (by decide) (by decide) he (fun _ => rfl)
theorem jd_any (hg : Gn S "any") (hm : S.mg "any" = none) (ha : JDA S [e] qs) (he : ∀ env, starEach [e] env = (false, eval e env) :: starEach [] env := by intro _; rfl) : JD S (.Call (.Name "any" pp) [e] [] pos) (yCall fAny qs) :=
  jd_callB (r := rAny) (fun _ o => cr_any o.calm) cv_any hg hm (by decide +kernel) ha (by decide) (by decide) he (fun _ => rfl)
theorem jd_repr (hg : Gn S "repr") (hm : S.mg "repr" = none) (ha : JDA S [e] qs) (he : ∀ env, starEach [e] env = (false, eval e env) :: starEach [] env := by intro _; rfl) : JD S (.Call (.Name "repr" pp) [e] [] pos) (yCall fRepr qs) :=
  jd_callB (r := rRepr) (fun _ o => cr_repr o.gd o.units2) cv_repr hg hm (by decide +kernel) ha (by decide) (by decide) he (fun _ => rfl)
theorem jd_max2 (hg : Gn S "max") (hm : S.mg "max" = none) (ha : JDA S [e1, e2] qs) (he : ∀ env, starEach [e1, e2] env = (false, eval e1 env) :: starEach [e2] env := by intro _; rfl) (he2 : ∀ env, (backTo pos (starEach [e2] env)).any (·.1) = false := by intro _; rfl) : JD S (.Call (.Name "max" pp) [e1, e2] [] pos) (yCall fMax qs) :=
  jd_callB (r := fun _ xs H Q => ∃ i j, xs = [.int i, .int j] ∧ Q (.int (if j > i then j else i)) H) (fun _ o => call_max2 o.calm) cv_max hg hm (by decide +kernel) ha (by decide) (by decide) he he2
theorem jd_min2 (hg : Gn S "min") (hm : S.mg "min" = none) (ha : JDA S [e1, e2] qs) (he : ∀ env, starEach [e1, e2] env = (false, eval e1 env) :: starEach [e2] env := by intro _; rfl) (he2 : ∀ env, (backTo pos (starEach [e2] env)).any (·.1) = false := by intro _; rfl) : JD S (.Call (.Name "min" pp) [e1, e2] [] pos) (yCall fMin qs) :=
  jd_callB (r := fun _ xs H Q => ∃ i j, xs = [.int i, .int j] ∧ Q (.int (if j < i then j else i)) H) (fun _ o => call_min2 o.calm) cv_min hg hm (by decide +kernel) ha (by decide) (by decide) he he2
theorem jd_intC (hg : Gn S "int") (hm : S.mg "int" = none) (ha : JDA S [e] qs) (he : ∀ env, starEach [e] env = (false, eval e env) :: starEach [] env := by intro _; rfl) : JD S (.Call (.Name "int" pp) [e] [] pos) (yCall fInt qs) :=
  jd_callT (r := fun _ xs H Q => (∃ i, xs = [.int i] ∧ Q (.int i) H) ∨ ∃ k, xs = [.bl k] ∧ Q (.int (if k then 1 else 0)) H) (fun _ _ => call_int1) cv_int hg hm (by decide +kernel) ha (by decide) (by decide) he (fun _ => rfl)
theorem jd_strC (hg : Gn S "str") (hm : S.mg "str" = none) (ha : JDA S [e] qs) (he : ∀ env, starEach [e] env = (false, eval e env) :: starEach [] env := by intro _; rfl) : JD S (.Call (.Name "str" pp) [e] [] pos) (yCall fStr qs) :=
  jd_callT (r := fun _ => rStr) (fun _ _ => cr_str) cv_str hg hm (by decide +kernel) ha (by decide) (by decide) he (fun _ => rfl)
theorem jd_tuple (hg : Gn S "tuple") (hm : S.mg "tuple" = none) (ha : JDA S [e] qs) (he : ∀ env, starEach [e] env = (false, eval e env) :: starEach [] env := by intro _; rfl) : JD S (.Call (.Name "tuple" pp) [e] [] pos) (yCall fTuple qs) :=
  jd_callT (r := fun K xs H Q => ∃ p ys, xs = [.ref p] ∧ ((SqL K H p ys ∧ ∀ l, H l = none → Q (.ref l) (upd H l (.tup ys))) ∨ (SqT K H p ys ∧ Q (.ref p) H))) (fun _ _ => call_tuple_of) cv_tuple hg hm (by decide +kernel) ha (by decide) (by decide) he (fun _ => rfl)
end
end

/-! ### the defs that the top has laid -/
def Df (K : Fg) (mg : Str → Option Value) (x : Str) (st : Stmt) (ps : List Str) : Prop := ∃ (f : Addr) (fd : FuncData), Fun K x x st f fd ∧ mg x = some (.ref f) ∧ Binds K fd ps []
theorem Df.mk {S : Cxt} {x : Str} {st : Stmt} {N ps : List Str} {g : Env → Fl} {k : Nat} (d : Df S.K S.mg x st ps) (sc : FnScope N ps (defScope st)) (h : ∀ (A : Act) (W : Wish), JSs ⟨S.P, S.w, S.K, S.mg, S.base, N, defScope st, k, A, W, false⟩ (defBody st) g) :
    Fx S (k + 1) x (bodyF ps.length N.length g) := by
  obtain ⟨f, fd, Fu, mx, bi⟩ := d
  exact fx_of ⟨rfl, rfl, rfl, rfl, rfl⟩ Fu mx bi (gn_of Fu sc h)
/-- the law's own def, for the end of the row -/
theorem law_endG {P : Program} {w : World} {K : Fg} {mg : Str → Option Value} {x : Str} {st : Stmt} {N : List Str} {g : Env → Fl} {k : Nat} {fa : Addr} (d : Df K mg "law" st [x]) (sc : FnScope N [x] (defScope st)) (hm : mg "law" = some (.ref fa))
    (hb : ∀ (base : Heap) (A : Act) (W : Wish), JSs ⟨P, w, K, mg, base, N, defScope st, k, A, W, false⟩ (defBody st) g)
    (hbt : ∀ (kV doc pm cdv ct : Value) (an : Option Addr) (s : Shared) (u : Value), BindsTo s (PySem.W.fnOf "law" "law" (defArgs st) (defBody st) (defScope st) .none kV doc pm an cdv ct) ⟨[u], []⟩ [(x, u)]) :
    ∃ fd : FuncData, (∀ (s : Shared) (u : Value), BindsTo s fd ⟨[u], []⟩ [(x, u)]) ∧ ∀ base : Heap, K.In base → base.Ns mainGlobals mg → FnG P w K mg base (k + 1) fa fd [x] (spF K mg (bodyF 1 N.length g)) := by
  obtain ⟨f, fd, Fu, mx, bi⟩ := d
  rw [hm] at mx
  cases mx
  have G := fun base => gn_of (base := base) Fu sc (hb base)
  refine ⟨fd, ?_, fun base _ _ => G base⟩
  obtain ⟨oc, od, kV, doc, pm, an, cdv, ct, osl, rfl, lk, hcd⟩ := Fu.ex
  exact fun s u => hbt kV doc pm cdv ct an s u
end ML
/-! ML17: what the mirrors come to, in plain Lean. -/
namespace ML
open PySem L2

/-! ### evaluation, by simp -/
section
variable {i j : Nat} {env : Env} {p q r : Env → Option D} {f : D → D → Option D} {d : D}
@[simp] theorem e_xC : xC d env = some d := rfl
@[simp] theorem e_xDat : xDat i env = match env[i]? with | some (.dat d) => some d | _ => none := rfl
@[simp] theorem e_xBor : xBor i env = match env[i]? with | some (.dat d) => some d | some (.own _ (.lst xs)) => some (.list xs) | _ => none := rfl
@[simp] theorem e_aNil : aNil env = some [] := rfl
@[simp] theorem e_aCons {q : Env → Option (List D)} : aCons p q env = (p env).bind fun d => (q env).map fun ds => d :: ds := rfl
@[simp] theorem e_xTup {q : Env → Option (List D)} : xTup q env = (q env).bind fun ds => if ds.length ≤ 16777216 then some (.tuple ds) else none := by unfold xTup; rw [sizeLine_eq]
@[simp] theorem e_oLst {q : Env → Option (List D)} : oLst q env = (q env).bind fun ds => if ds.length ≤ 16777216 then some ds else none := by unfold oLst; rw [sizeLine_eq]
@[simp] theorem e_xOp : xOp f p q env = (p env).bind fun x => (q env).bind fun y => f x y := rfl
@[simp] theorem e_tOf : tOf p env = (p env).bind fun d => match d with | .bool b => some b | _ => none := rfl
@[simp] theorem e_tAndP {u v : Env → Option Bool} : tAndP u v env = (u env).bind fun b => if b then v env else some false := rfl
@[simp] theorem e_tOrP {u v : Env → Option Bool} : tOrP u v env = (u env).bind fun b => if b then some true else v env := rfl
@[simp] theorem e_tNotP {u : Env → Option Bool} : tNotP u env = (u env).map (!·) := rfl
@[simp] theorem e_vOf {u : Env → Option Bool} : vOf u env = (u env).map .bool := rfl
@[simp] theorem e_xIf {u : Env → Option Bool} : xIf u p q env = (u env).bind fun b => if b then p env else q env := rfl
@[simp] theorem e_xCall {g : List D → Option D} {q : Env → Option (List D)} : xCall g q env = (q env).bind g := rfl
@[simp] theorem e_oCall {g : List D → Option (List D)} {q : Env → Option (List D)} : oCall g q env = (q env).bind g := rfl
@[simp] theorem e_xFn {F : List SV → Res SV} {q : Env → Option (List D)} : xFn F q env = (q env).bind fun ds => pureOf (F (ds.map .dat)) := rfl
@[simp] theorem e_xLenF : xLenF i env = match env[i]? with | some (.frz xs) => some (.int xs.length) | _ => none := rfl
@[simp] theorem e_xIxF : xIxF i q env = match env[i]? with | some (.frz xs) => (q env).bind fun d => dIx (.list xs) d | _ => none := rfl
@[simp] theorem e_xMt : xMt f p q env = (p env).bind fun d => match d with | .str x => (q env).bind fun e => f (.str x) e | _ => none := rfl
@[simp] theorem e_xIsA {T : String} : xIsA T p env = (p env).bind fun d => (isA T d).map .bool := rfl
@[simp] theorem e_xCut {lo hi : Env → Option (Option Int)} : xCut p lo hi env = (p env).bind fun d => (lo env).bind fun a => (hi env).bind fun b => dCut d a b := rfl
@[simp] theorem e_cNone : cNone env = some none := rfl
@[simp] theorem e_cSome : cSome p env = (p env).bind fun d => match d with | .int i => some (some i) | _ => none := rfl
@[simp] theorem e_ipOf : ipOf p env = (p env).bind itemsOf := rfl
@[simp] theorem e_pYes : pYes env = some true := rfl
@[simp] theorem e_up {α : Type} {p : Env → Option α} : up p env = match p env with | some a => .ok env a | none => .bad := rfl
@[simp] theorem e_up' : up' p env = match p env with | some a => .ok env (.dat a) | none => .bad := rfl
@[simp] theorem e_upO {p : Env → Option (List D)} : upO p env = match p env with | some xs => .ok env (.own none (.lst xs)) | none => .bad := rfl
@[simp] theorem e_dRes_d {en : Env} : dRes (.ok en (.dat d)) = .ok en d := rfl
@[simp] theorem e_dRes_l {en : Env} {xs : List D} : dRes (.ok en (.own none (.lst xs))) = .ok en (.list xs) := rfl
@[simp] theorem e_vRes {en : Env} : vRes (.ok en d) = .ok en (.dat d) := rfl
@[simp] theorem e_bRes {en : Env} {b : Bool} : bRes (.ok en (.bool b)) = .ok en b := rfl
@[simp] theorem e_bind {α β : Type} {en : Env} {a : α} {k : Env → α → Res β} : (Res.ok en a).bind k = k en a := rfl
@[simp] theorem e_fl {α : Type} {en : Env} {a : α} {k : Env → α → Fl} : (Res.ok en a).fl k = k en a := rfl
@[simp] theorem e_then_nx {en : Env} {k : Env → Fl} : (Fl.nx en).then k = k en := rfl
@[simp] theorem e_then_rt {en : Env} {s : SV} {k : Env → Fl} : (Fl.rt en s).then k = .rt en s := rfl
@[simp] theorem e_then_bk {en : Env} {k : Env → Fl} : (Fl.bk en).then k = .bk en := rfl
@[simp] theorem e_sNil : sNil env = .nx env := rfl
@[simp] theorem e_sSeq {g k : Env → Fl} : sSeq g k env = (g env).then k := rfl
@[simp] theorem e_sIf {u : Env → Res Bool} {g k : Env → Fl} : sIf u g k env = (u env).fl fun env1 b => if b then g env1 else k env1 := rfl
@[simp] theorem e_sRet {g : Env → Res SV} : sRet g env = (g env).fl fun env1 r => .rt env1 r := rfl
@[simp] theorem e_sRetN : sRetN env = .rt env (.dat .none) := rfl
@[simp] theorem e_sBreak : sBreak env = .bk env := rfl
@[simp] theorem e_sDrop {g : Env → Res SV} : sDrop g env = (g env).fl fun env1 _ => .nx env1 := rfl
@[simp] theorem e_sSet {g : Env → Res SV} : sSet i g env = (g env).fl fun env1 r => if i < env1.length then .nx (env1.set i r) else .bad := rfl
@[simp] theorem e_sPar {fa fb : Env → Res SV} : sPar i j fa fb env = (fa env).fl fun env1 a => (fb env1).fl fun env2 b => if i < env2.length ∧ j < env2.length then .nx ((env2.set j b).set i a) else .bad := rfl
@[simp] theorem e_sAsg {g : Env → Res D} {gt : D → Env → Option Env} : sAsg g gt env = (g env).fl fun env1 d => match gt d env1 with | some env2 => .nx env2 | none => .bad := rfl
@[simp] theorem e_ownL : ownL env i = match env[i]? with | some (.own t (.lst xs)) => some (t, xs) | _ => none := rfl
@[simp] theorem e_size : sizeLine = 16777216 := sizeLine_eq
theorem e_sAppend {g : Env → Res D} {t : Option Nat} {en : Env} {xs : List D} {d : D} (h : ownL env i ≠ none) (h2 : g env = .ok en d) (h3 : ownL en i = some (t, xs)) (h4 : xs.length < 16777216) :
    sAppend i g env = .nx (en.set i (.own t (.lst (xs ++ [d])))) := by
  unfold sAppend
  cases e : ownL env i with
  | none => exact absurd e h
  | some _ =>
    dsimp only
    rw [h2]
    dsimp only [Res.fl]
    rw [h3]
    dsimp only
    rw [if_pos (by rw [sizeLine_eq]; exact h4)]
@[simp] theorem e_sSetIx {g : Env → Res D} {k : Env → Option D} : sSetIx i g k env = (g env).fl fun env1 d => match ownL env1 i, k env1 with
  | some (tag, xs), some (.int n) => match ixN xs.length n with
    | some j => .nx (env1.set i (.own tag (.lst (xs.set j d))))
    | none => .bad
  | _, _ => .bad := rfl
@[simp] theorem e_sFor {fi : Env → Res (List D)} {gt : D → Env → Option Env} {g : Env → Fl} : sFor fi gt g env = (fi env).fl fun env1 ds => forF gt g ds env1 := rfl
@[simp] theorem e_iOf {g : Env → Res D} : iOf g env = (g env).bind fun env1 d => match itemsOf d with | some ds => .ok env1 ds | none => .bad := rfl
@[simp] theorem e_iRange1 {g : Env → Res (List D)} : iRange1 g env = (g env).bind fun env1 ds => match ds with
  | [.int j] => if rngOk j then .ok env1 (rngOf 0 j) else .bad
  | _ => .bad := rfl
@[simp] theorem e_iRange2 {g : Env → Res (List D)} : iRange2 g env = (g env).bind fun env1 ds => match ds with
  | [.int i, .int j] => if rngOk i ∧ rngOk j then .ok env1 (rngOf i j) else .bad
  | _ => .bad := rfl
@[simp] theorem e_gN : gN i d env = if i < env.length then some (env.set i (.dat d)) else none := rfl
@[simp] theorem e_gsNil : gsNil [] env = some env := rfl
@[simp] theorem e_gsCons {g : D → Env → Option Env} {k : List D → Env → Option Env} {ds : List D} : gsCons g k (d :: ds) env = (g d env).bind (k ds) := rfl
@[simp] theorem e_gTupD {n : Nat} {k : List D → Env → Option Env} {ds : List D} : gTupD n k (.tuple ds) env = if ds.length = n then k ds env else none := rfl
@[simp] theorem e_yNil : yNil env = .ok env [] := rfl
@[simp] theorem e_yCons {a : Env → Res D} {b : Env → Res (List D)} : yCons a b env = (a env).bind fun env1 x => (b env1).bind fun env2 ds => .ok env2 (x :: ds) := rfl
@[simp] theorem e_sized {g : Env → Res (List D)} : sized g env = (g env).bind fun env1 ds => if ds.length ≤ 16777216 then .ok env1 ds else .bad := by unfold sized; rw [sizeLine_eq]
@[simp] theorem e_yOp {a b : Env → Res D} : yOp f a b env = (a env).bind fun env1 x => (b env1).bind fun env2 y => match f x y with | some z => .ok env2 z | none => .bad := rfl
@[simp] theorem e_yIf {α : Type} {u : Env → Res Bool} {a b : Env → Res α} : yIf u a b env = (u env).bind fun env1 c => if c then a env1 else b env1 := rfl
@[simp] theorem e_yAnd {u v : Env → Res Bool} : yAnd u v env = (u env).bind fun env1 b => if b then v env1 else .ok env1 false := rfl
@[simp] theorem e_yOr {u v : Env → Res Bool} : yOr u v env = (u env).bind fun env1 b => if b then .ok env1 true else v env1 := rfl
@[simp] theorem e_yNot {u : Env → Res Bool} : yNot u env = (u env).bind fun env1 b => .ok env1 (!b) := rfl
@[simp] theorem e_yCall {g : List D → Option D} {b : Env → Res (List D)} : yCall g b env = (b env).bind fun env1 ds => match g ds with | some z => .ok env1 z | none => .bad := rfl
@[simp] theorem e_yMv_own {c : OC} (h : env[i]? = some (.own none c)) : yMv i env = .ok (env.set i .un) (.own none c) := by unfold yMv; rw [h]
@[simp] theorem e_cNil : cNil env = .ok env [] := rfl
@[simp] theorem e_cCons {a : Env → Res D} {b : Env → Res (List AV)} : cCons a b env = (a env).bind fun env1 x => (b env1).bind fun env2 ds => .ok env2 (.d x :: ds) := rfl
theorem e_cSlot {b : Env → Res (List AV)} : cSlot i b env = match env[i]? with
  | some .un => .bad
  | none => .bad
  | _ => (b env).bind fun env2 ds => .ok env2 (.sl i :: ds) := rfl
@[simp] theorem e_pureOf {en : Env} : pureOf (.ok en (.dat d)) = some d := rfl
@[simp] theorem e_pureOfL {en : Env} {xs : List D} : pureOf (.ok en (.own none (.lst xs))) = some (.list xs) := rfl
end
/-! operators on data -/
section
variable {i j : Int} {x y : Str} {xs ys : List D} {d e : D}
@[simp] theorem d_add_i : dAdd (.int i) (.int j) = some (.int (i + j)) := rfl
@[simp] theorem d_sub_i : dSub (.int i) (.int j) = some (.int (i - j)) := rfl
@[simp] theorem d_mod_i (h : 0 < j) : dMod (.int i) (.int j) = some (.int (i % j)) := by simp only [dMod, if_pos h]
@[simp] theorem d_div_i (h : 0 < j) (h2 : j.natAbs.log2 < 9000) : dDiv (.int i) (.int j) = some (.int (i / j)) := by simp only [dDiv, if_pos (And.intro h h2)]
@[simp] theorem d_mul_i (h : mulOk i j = true) : dMulX (.int i) (.int j) = some (.int (i * j)) := by unfold dMulX dMul; simp only [h, if_true]
@[simp] theorem d_mul_s (h : strMulOk x j = true) : dMulX (.str x) (.int j) = some (.str (Txt.mul x j)) := by unfold dMulX dMul dMulS; simp only [h, if_true]
theorem d_pow (h : 0 ≤ j ∧ (Builtin.Int.intBits i : Int) * j ≤ 2 ^ 27) : dPow (.int i) (.int j) = some (.int (i ^ j.toNat)) := by simp only [dPow, if_pos h]
@[simp] theorem d_cmp {f : Int → Int → Bool} : dCmp f (.int i) (.int j) = some (.bool (f i j)) := rfl
@[simp] theorem f_len_l : fLen [.list xs] = some (.int xs.length) := rfl
@[simp] theorem f_len_t : fLen [.tuple xs] = some (.int xs.length) := rfl
@[simp] theorem f_max : fMax [.int i, .int j] = some (.int (if j > i then j else i)) := rfl
@[simp] theorem f_min : fMin [.int i, .int j] = some (.int (if j < i then j else i)) := rfl
@[simp] theorem f_abs : fAbs [.int i] = some (.int (if i < 0 then -i else i)) := rfl
@[simp] theorem f_int_i : fInt [.int i] = some (.int i) := rfl
@[simp] theorem f_int_b {b : Bool} : fInt [.bool b] = some (.int (if b then 1 else 0)) := rfl
@[simp] theorem f_str_i (h : i.natAbs.log2 < 1920) : fStr [.int i] = some (.str (toString i)) := by simp only [fStr, if_pos h]
@[simp] theorem f_str_s : fStr [.str x] = some (.str x) := rfl
@[simp] theorem f_tup_l : fTuple [.list xs] = some (.tuple xs) := rfl
@[simp] theorem f_tup_t : fTuple [.tuple xs] = some (.tuple xs) := rfl
@[simp] theorem f_list_l : fList [.list xs] = some xs := rfl
@[simp] theorem f_list_t : fList [.tuple xs] = some xs := rfl
@[simp] theorem i_of_l : itemsOf (.list xs) = some xs := rfl
@[simp] theorem i_of_t : itemsOf (.tuple xs) = some xs := rfl
@[simp] theorem d_ix_l : dIx (.list xs) (.int i) = atI xs i := rfl
@[simp] theorem d_ix_t : dIx (.tuple xs) (.int i) = atI xs i := rfl
theorem mulOk_of (h1 : i.natAbs < 2 ^ 4000) (h2 : j.natAbs < 2 ^ 4000) : mulOk i j = true := by
  have g : ∀ z : Int, z.natAbs < 2 ^ 4000 → z.natAbs.log2 < 4000 := fun z hz => by
    by_cases h0 : z.natAbs = 0
    · rw [h0]; decide
    · exact (Nat.log2_lt h0).mpr hz
  unfold mulOk
  have := g i h1
  have := g j h2
  exact decide_eq_true (by omega)
theorem log_of {z : Int} (h : z.natAbs < 2 ^ 1900) : z.natAbs.log2 < 1900 := by
  by_cases h0 : z.natAbs = 0
  · rw [h0]; decide
  · exact (Nat.log2_lt h0).mpr h
theorem nlog {n : Nat} (h : n < 2 ^ 60) : n.log2 < 9000 := by
  by_cases h0 : n = 0
  · rw [h0]; decide
  · exact Nat.lt_trans ((Nat.log2_lt h0).mpr h) (by decide)
@[simp] theorem at0 {α : Type} {a : α} {l : List α} : atI (a :: l) (0 : Int) = some a := by
  unfold atI ixN
  rw [if_pos (by decide), if_pos (by simp only [List.length_cons]; omega)]
  rfl
@[simp] theorem at1 {α : Type} {a b : α} {l : List α} : atI (a :: b :: l) (1 : Int) = some b := by
  unfold atI ixN
  rw [if_pos (by decide), if_pos (by simp only [List.length_cons]; omega)]
  rfl
@[simp] theorem at2 {α : Type} {a b c : α} {l : List α} : atI (a :: b :: c :: l) (2 : Int) = some c := by
  unfold atI ixN
  rw [if_pos (by decide), if_pos (by simp only [List.length_cons]; omega)]
  rfl
@[simp] theorem ix0 {n : Nat} (h : 0 < n) : ixN n 0 = some 0 := by
  unfold ixN
  rw [if_pos (by decide), if_pos (by omega)]
  rfl
@[simp] theorem ix1 {n : Nat} (h : 1 < n) : ixN n 1 = some 1 := by
  unfold ixN
  rw [if_pos (by decide), if_pos (by omega)]
  rfl
@[simp] theorem ix2 {n : Nat} (h : 2 < n) : ixN n 2 = some 2 := by
  unfold ixN
  rw [if_pos (by decide), if_pos (by omega)]
  rfl
@[simp] theorem ix_nat {n k : Nat} (h : k < n) : ixN n (k : Int) = some k := by
  unfold ixN
  simp [h]
end
end ML
/-! ML18: what a piece must come to: rules for effects, loops, calls. -/
namespace ML
open PySem L2

def Yo {α : Type} (r : Res α) (Q : Env → α → Prop) : Prop := match r with
  | .ok env a => Q env a
  | _ => False
def Fo (f : Fl) (N : Env → Prop) (R : Env → SV → Prop) (B : Env → Prop) : Prop := match f with
  | .nx e => N e
  | .rt e s => R e s
  | .bk e => B e
  | _ => False
section
variable {α β : Type} {env en : Env} {a : α} {Q : Env → α → Prop} {N B : Env → Prop} {R : Env → SV → Prop} {i j : Nat}
@[simp] theorem yo_ok : Yo (.ok en a) Q = Q en a := rfl
@[simp] theorem yo_bad : Yo (.bad : Res α) Q = False := rfl
@[simp] theorem fo_nx : Fo (.nx en) N R B = N en := rfl
@[simp] theorem fo_rt {s : SV} : Fo (.rt en s) N R B = R en s := rfl
@[simp] theorem fo_bk : Fo (.bk en) N R B = B en := rfl
@[simp] theorem fo_bad : Fo .bad N R B = False := rfl
theorem Yo.get {r : Res α} (h : Yo r Q) : ∃ en a, r = .ok en a ∧ Q en a := by
  cases r with
  | ok en a => exact ⟨en, a, rfl, h⟩
  | err _ _ => exact h.elim
  | bad => exact h.elim
theorem Yo.mono {r : Res α} {Q' : Env → α → Prop} (h : Yo r Q) (k : ∀ en a, Q en a → Q' en a) : Yo r Q' := by
  cases r with
  | ok en a => exact k _ _ h
  | err _ _ => exact h.elim
  | bad => exact h.elim
theorem Fo.mono {f : Fl} {N' B' : Env → Prop} {R' : Env → SV → Prop} (h : Fo f N R B) (k1 : ∀ e, N e → N' e) (k2 : ∀ e s, R e s → R' e s) (k3 : ∀ e, B e → B' e) : Fo f N' R' B' := by
  cases f with
  | nx e => exact k1 _ h
  | rt e s => exact k2 _ _ h
  | bk e => exact k3 _ h
  | ct e => exact h.elim
  | err _ _ => exact h.elim
  | bad => exact h.elim
@[simp] theorem yo_bind {r : Res α} {k : Env → α → Res β} {Q' : Env → β → Prop} : Yo (r.bind k) Q' = Yo r (fun e a => Yo (k e a) Q') := by cases r <;> rfl
@[simp] theorem fo_fl {r : Res α} {k : Env → α → Fl} : Fo (r.fl k) N R B = Yo r (fun e a => Fo (k e a) N R B) := by cases r <;> rfl
@[simp] theorem fo_then {f : Fl} {k : Env → Fl} : Fo (f.then k) N R B = Fo f (fun e => Fo (k e) N R B) R B := by cases f <;> rfl
theorem yo_dRes {r : Res SV} {Q : Env → D → Prop} : Yo (dRes r) Q = Yo r (fun e s => match s with | .dat d => Q e d | .own none (.lst xs) => Q e (.list xs) | _ => False) := by
  cases r with
  | ok en s =>
    cases s with
    | own t c =>
      cases t with
      | none => cases c <;> rfl
      | some _ => rfl
    | _ => rfl
  | err _ _ => rfl
  | bad => rfl
@[simp] theorem yo_vRes {r : Res D} {Q : Env → SV → Prop} : Yo (vRes r) Q = Yo r (fun e d => Q e (.dat d)) := by cases r <;> rfl
theorem yo_bRes {r : Res D} {Q : Env → Bool → Prop} : Yo (bRes r) Q = Yo r (fun e d => match d with | .bool b => Q e b | _ => False) := by
  cases r with
  | ok en d => cases d <;> rfl
  | err _ _ => rfl
  | bad => rfl
/-- a loop by its invariant -/
theorem fo_for {gt : D → Env → Option Env} {g : Env → Fl} (I : Nat → Env → Prop) (ds : List D)
    (hstep : ∀ k d en, ds[k]? = some d → I k en → ∃ en1, gt d en = some en1 ∧ Fo (g en1) (I (k + 1)) R N) (hend : ∀ en, I ds.length en → N en) :
    ∀ env, I 0 env → Fo (forF gt g ds env) N R B := by
  have go : ∀ (es : List D) (k : Nat), k ≤ ds.length → ds.drop k = es → ∀ env, I k env → Fo (forF gt g es env) N R B := by
    intro es
    induction es with
    | nil =>
      intro k hk0 hk env hi
      have hl : ds.length ≤ k := List.drop_eq_nil_iff.mp hk
      have hk2 : k = ds.length := by omega
      subst hk2
      exact hend env hi
    | cons d es ih =>
      intro k hk0 hk env hi
      have hd : ds[k]? = some d := by
        have := congrArg (fun l => l[0]?) hk
        simpa using this
      have hlt : k < ds.length := (List.getElem?_eq_some_iff.mp hd).1
      obtain ⟨en1, e1, h1⟩ := hstep k d env hd hi
      unfold forF
      rw [e1]
      dsimp only
      have hk' : ds.drop (k + 1) = es := by
        have := congrArg List.tail hk
        simpa using this
      cases eg : g en1 with
      | nx e =>
        rw [eg] at h1
        exact ih (k + 1) hlt hk' e h1
      | rt e s => rw [eg] at h1; exact h1
      | bk e => rw [eg] at h1; exact h1
      | ct e => rw [eg] at h1; exact h1.elim
      | err _ _ => rw [eg] at h1; exact h1.elim
      | bad => rw [eg] at h1; exact h1.elim
  intro env hi
  exact go ds 0 (Nat.zero_le _) rfl env hi

/-! ### calls -/
theorem argsOf_d : ∀ (ds : List D) (env : Env) (j : Nat), argsOf (ds.map .d) env j = some (ds.map .dat, env)
  | [], _, _ => rfl
  | d :: r, env, j => by
    rw [List.map_cons, argsOf, argsOf_d r env (j + 1)]
    rfl
theorem backE_d : ∀ (ds : List D) (e0 cur e' : Env) (j : Nat), backE (ds.map .d) e0 cur e' j = some cur
  | [], _, _, _, _ => rfl
  | d :: r, e0, cur, e', j => by
    rw [List.map_cons, backE, backE_d r]
/-- what may come back -/
def okR : SV → Prop
  | .dat _ => True
  | .own none _ => True
  | .raw _ => True
  | _ => False
/-- a call whose first argument is an own slot, the others data -/
def SlotQ (F : List SV → Res SV) (i : Nat) (Q : Env → SV → Prop) (env1 : Env) (avs : List AV) : Prop := ∃ (ds : List D) (t : Option Nat) (c : OC), avs = ds.map AV.d ∧ env1[i]? = some (.own t c) ∧ ∃ e r c', F (.own (some 0) c :: ds.map .dat) = .ok e r ∧ e[0]? = some (.own (some 0) c') ∧ okR r ∧ Q (env1.set i (.own t c')) r
theorem slotQ {F : List SV → Res SV} {i : Nat} {Q : Env → SV → Prop} {env1 e : Env} {avs : List AV} {t : Option Nat} {c c' : OC} {r : SV} (ds : List D) (ha : avs = ds.map AV.d) (he : env1[i]? = some (.own t c)) (hF : F (.own (some 0) c :: ds.map .dat) = .ok e r) (h0 : e[0]? = some (.own (some 0) c')) (hr : okR r) (k : Q (env1.set i (.own t c')) r) :
    SlotQ F i Q env1 avs := ⟨ds, t, c, ha, he, e, r, c', hF, h0, hr, k⟩
theorem yo_slot {F : List SV → Res SV} {i : Nat} {fr : Env → Res (List AV)} {env : Env} {Q : Env → SV → Prop} (h0 : ∃ t c, env[i]? = some (.own t c)) (h1 : Yo (fr env) (SlotQ F i Q)) : Yo (yFn F (cSlot i fr) env) Q := by
  obtain ⟨t0, c0, h0⟩ := h0
  obtain ⟨env1, avs, e1, ds, t, c, rfl, h2, e, r, c', h3, h4, h5, h6⟩ := h1.get
  have hi : i < env1.length := (List.getElem?_eq_some_iff.mp h2).1
  unfold yFn cSlot
  rw [h0]
  dsimp only
  rw [e1]
  dsimp only [Res.bind]
  rw [argsOf, h2]
  dsimp only
  rw [argsOf_d]
  dsimp only [Option.map]
  rw [h3]
  dsimp only
  rw [backE, h2]
  dsimp only
  rw [h4]
  dsimp only
  rw [List.length_set, if_pos ⟨rfl, hi⟩, backE_d]
  rw [List.set_set]
  cases r with
  | dat d => exact h6
  | raw v => exact h6
  | own t2 c2 =>
    cases t2 with
    | none => exact h6
    | some _ => exact h5.elim
  | un => exact h5.elim
  | frz _ => exact h5.elim
/-- a call whose first argument is the script -/
def FrzQ (F : List SV → Res SV) (i : Nat) (xs : List D) (Q : Env → SV → Prop) (env1 : Env) (avs : List AV) : Prop := ∃ ds : List D, avs = ds.map AV.d ∧ env1[i]? = some (.frz xs) ∧ ∃ e r, F (.frz xs :: ds.map .dat) = .ok e r ∧ okR r ∧ Q env1 r
theorem frzQ {F : List SV → Res SV} {i : Nat} {xs : List D} {Q : Env → SV → Prop} {env1 e : Env} {avs : List AV} {r : SV} (ds : List D) (ha : avs = ds.map AV.d) (he : env1[i]? = some (.frz xs)) (hF : F (.frz xs :: ds.map .dat) = .ok e r) (hr : okR r) (k : Q env1 r) : FrzQ F i xs Q env1 avs := ⟨ds, ha, he, e, r, hF, hr, k⟩
theorem yo_frz {F : List SV → Res SV} {i : Nat} {fr : Env → Res (List AV)} {env : Env} {Q : Env → SV → Prop} {xs : List D} (h0 : env[i]? = some (.frz xs)) (h1 : Yo (fr env) (FrzQ F i xs Q)) : Yo (yFn F (cSlot i fr) env) Q := by
  obtain ⟨env1, avs, e1, ds, rfl, h2, e, r, h3, h5, h6⟩ := h1.get
  unfold yFn cSlot
  rw [h0]
  dsimp only
  rw [e1]
  dsimp only [Res.bind]
  rw [argsOf, h2]
  dsimp only
  rw [argsOf_d]
  dsimp only [Option.map]
  rw [h3]
  dsimp only
  rw [backE, h2]
  dsimp only
  rw [backE_d]
  cases r with
  | dat d => exact h6
  | raw v => exact h6
  | own t2 c2 =>
    cases t2 with
    | none => exact h6
    | some _ => exact h5.elim
  | un => exact h5.elim
  | frz _ => exact h5.elim
/-- a call whose first argument is a new object -/
def NewQ (F : List SV → Res SV) (b : Env → Res (List D)) (Q : Env → SV → Prop) (env1 : Env) (s : SV) : Prop := ∃ c, s = .own none c ∧ Yo (b env1) fun env2 ds => ∃ e r, F (.own (some 0) c :: ds.map .dat) = .ok e r ∧ okR r ∧ Q env2 r
theorem yo_fnT {F : List SV → Res SV} {a : Env → Res SV} {b : Env → Res (List D)} {env : Env} {Q : Env → SV → Prop}
    (h : Yo (a env) (NewQ F b Q)) : Yo (yFnT F a b env) Q := by
  obtain ⟨env1, s, e1, c, rfl, h2⟩ := h.get
  obtain ⟨env2, ds, e2, e, r, h3, h4, h5⟩ := h2.get
  unfold yFnT
  rw [e1]
  dsimp only [Res.bind]
  rw [e2]
  dsimp only
  rw [h3]
  dsimp only
  cases r with
  | dat d => exact h5
  | raw v => exact h5
  | own t2 c2 =>
    cases t2 with
    | none => exact h5
    | some _ => exact h4.elim
  | un => exact h4.elim
  | frz _ => exact h4.elim
/-- a def's outcome, from what its body must come to -/
theorem body_ok {np n : Nat} {g : Env → Fl} {args : List SV} {Q : Env → SV → Prop} (hl : args.length = np) (h : Fo (g (args ++ List.replicate (n - np) .un)) (fun e => Q e (.dat .none)) Q fun _ => False) : ∃ e r, bodyF np n g args = .ok e r ∧ Q e r := by
  unfold bodyF
  rw [if_pos hl]
  cases eg : g (args ++ List.replicate (n - np) .un) with
  | nx e => rw [eg] at h; exact ⟨e, _, rfl, h⟩
  | rt e s => rw [eg] at h; exact ⟨e, s, rfl, h⟩
  | bk e => rw [eg] at h; exact h.elim
  | ct e => rw [eg] at h; exact h.elim
  | err _ _ => rw [eg] at h; exact h.elim
  | bad => rw [eg] at h; exact h.elim

/-! ### comprehensions -/
theorem compP_all {gt : D → Env → Option Env} {u : Env → Option Bool} {el : Env → Option D} {env : Env} (f : D → D) : ∀ ds : List D, (∀ d ∈ ds, ∃ en, gt d env = some en ∧ u en = some true ∧ el en = some (f d)) → compP gt u el env ds = some (ds.map f)
  | [], _ => rfl
  | d :: r, h => by
    obtain ⟨en, h1, h2, h3⟩ := h d (by simp)
    unfold compP
    rw [h1]
    dsimp only [Option.bind]
    rw [h2]
    dsimp only
    rw [if_pos rfl, h3]
    dsimp only
    rw [compP_all f r fun x hx => h x (by simp [hx])]
    rfl
/-- with effects: an invariant, one value for each -/
theorem compF_all {own : List Nat} {gt : D → Env → Option Env} {u : Env → Res Bool} {el : Env → Res D} (I : Env → Prop) (P : D → Prop) : ∀ (ds : List D) (env : Env) (n : Nat), n + ds.length ≤ 16777216 → I env →
    (∀ d ∈ ds, ∀ en, I en → ∃ en1, gt d en = some en1 ∧ Yo (u en1) fun en2 b => b = true ∧ Yo (el en2) fun en3 x => P x ∧ I (wipeE en3 own)) → ∃ en xs, compF own gt u el ds env n = .ok en xs ∧ I en ∧ xs.length = ds.length ∧ ∀ x ∈ xs, P x
  | [], env, n, _, hi, _ => ⟨env, [], rfl, hi, rfl, fun x hx => nomatch hx⟩
  | d :: r, env, n, hn, hi, h => by
    rw [List.length_cons] at hn
    obtain ⟨en1, e1, h1⟩ := h d (by simp) env hi
    obtain ⟨en2, b, e2, rfl, h2⟩ := h1.get
    obtain ⟨en3, x, e3, hx, h3⟩ := h2.get
    obtain ⟨en4, xs, e4, h4, h5, h6⟩ := compF_all I P r (wipeE en3 own) (n + 1) (by omega) h3 fun y hy => h y (by simp [hy])
    refine ⟨en4, x :: xs, ?_, h4, by simp [h5], fun y hy => ?_⟩
    · unfold compF
      rw [e1]
      dsimp only
      rw [e2]
      dsimp only [Res.bind]
      rw [if_pos rfl, e3]
      dsimp only
      rw [if_pos (by rw [sizeLine_eq]; omega), e4]
    · rcases List.mem_cons.mp hy with q | q
      · subst q
        exact hx
      · exact h6 y q
theorem boolsOf_true : ∀ xs : List D, (∀ x ∈ xs, x = .bool true) → boolsOf xs = some (List.replicate xs.length true)
  | [], _ => rfl
  | x :: r, h => by
    have := h x (by simp)
    subst this
    unfold boolsOf
    rw [boolsOf_true r fun y hy => h y (by simp [hy])]
    rfl
theorem fAll_true {xs : List D} (h : ∀ x ∈ xs, x = .bool true) : fAll [.list xs] = some (.bool true) := by
  show (boolsOf xs).map (fun is => PyData.bool (is.all id)) = _
  rw [boolsOf_true xs h]
  simp
end
end ML
/-! ML19: data that may be shown and compared; texts of numbers. -/
namespace ML
open PySem L2

/-! ### data of a modest kind -/
mutual
def nice : D → Bool
  | .none => true
  | .bool _ => true
  | .int i => decide (i.natAbs < 10 ^ 39)
  | .str x => PyData.strOk x
  | .list xs => niceAll xs
  | .tuple xs => niceAll xs
  | .dict _ => false
def niceAll : List D → Bool
  | [] => true
  | x :: r => nice x && niceAll r
end
theorem niceAll_mem : ∀ {xs : List D}, niceAll xs = true ↔ ∀ x ∈ xs, nice x = true
  | [] => by simp [niceAll]
  | x :: r => by simp [niceAll, niceAll_mem (xs := r)]
theorem log_39 {i : Int} (h : i.natAbs < 10 ^ 39) : i.natAbs.log2 < 1900 := log_of (Nat.lt_of_lt_of_le h (Nat.le_trans (by decide : (10:Nat) ^ 39 ≤ 2 ^ 130) (Nat.pow_le_pow_right (by decide) (by decide))))
mutual
theorem nice_show : ∀ d : D, nice d = true → d.showable = true
  | .none, _ => rfl
  | .bool _, _ => rfl
  | .int i, h => by
    have h := of_decide_eq_true (show decide (i.natAbs < 10 ^ 39) = true from h)
    exact decide_eq_true (Nat.lt_trans (log_39 h) (by decide))
  | .str _, _ => rfl
  | .list xs, h => nice_showAll xs h
  | .tuple xs, h => nice_showAll xs h
  | .dict _, h => by simp [nice] at h
theorem nice_showAll : ∀ xs : List D, niceAll xs = true → PyData.showableAll xs = true
  | [], _ => rfl
  | x :: r, h => by
    have h := Bool.and_eq_true_iff.mp (show (nice x && niceAll r) = true from h)
    exact Bool.and_eq_true_iff.mpr ⟨nice_show x h.1, nice_showAll r h.2⟩
end
mutual
theorem nice_lay : ∀ d : D, nice d = true → d.canLay0 = true
  | .none, _ => rfl
  | .bool _, _ => rfl
  | .int i, h => rfl
  | .str _, h => h
  | .list xs, h => nice_layAll xs h
  | .tuple xs, h => nice_layAll xs h
  | .dict _, h => by simp [nice] at h
theorem nice_layAll : ∀ xs : List D, niceAll xs = true → PyData.canLayAll0 xs = true
  | [], _ => rfl
  | x :: r, h => by
    have h := Bool.and_eq_true_iff.mp (show (nice x && niceAll r) = true from h)
    exact Bool.and_eq_true_iff.mpr ⟨nice_lay x h.1, nice_layAll r h.2⟩
end
mutual
theorem nice_short : ∀ d : D, nice d = true → d.intsShort 40 = true
  | .none, _ => rfl
  | .bool _, _ => rfl
  | .int i, h => by
    have h := of_decide_eq_true (show decide (i.natAbs < 10 ^ 39) = true from h)
    have e := int_text_length_le10 (k := 39) (by decide) h
    exact decide_eq_true (by
      show (Str.ofString (toString i)).length ≤ 40
      rw [ofString_length]
      exact e)
  | .str _, h => rfl
  | .list xs, h => nice_shortAll xs h
  | .tuple xs, h => nice_shortAll xs h
  | .dict _, h => by simp [nice] at h
theorem nice_shortAll : ∀ xs : List D, niceAll xs = true → PyData.intsShortAll 40 xs = true
  | [], _ => rfl
  | x :: r, h => by
    have h := Bool.and_eq_true_iff.mp (show (nice x && niceAll r) = true from h)
    exact Bool.and_eq_true_iff.mpr ⟨nice_short x h.1, nice_shortAll r h.2⟩
end
theorem repr_nice {d : D} (h : nice d = true) (hd : d.depth ≤ 64) (hw : d.weight ≤ 399000) : fRepr [d] = some (.str d.shown) := by
  have l := nice_lay d h
  have s := PyData.shown_le 40 (by decide) d (PyData.leavesShort_of_canLay0 40 d l (nice_short d h))
  have hs : d.shown.length ≤ sizeLine := by
    rw [sizeLine_eq]
    omega
  show (if _ then _ else _) = _
  rw [if_pos ⟨nice_show d h, PyData.hasDict_of_canLay d l, by omega, hs⟩]
theorem shaped_nice {d : D} (h : nice d = true) (hd : d.depth ≤ 64) : SeqAt.shaped d = true := Bool.and_eq_true_iff.mpr ⟨nice_lay d h, decide_eq_true hd⟩
theorem eq_nice {d e : D} (h : nice d = true) (hd : d.depth ≤ 64) (h' : nice e = true) (hd' : e.depth ≤ 64) : dEq d e = some (.bool (PyData.eqv d e)) := if_pos (.inr ⟨shaped_nice h hd, shaped_nice h' hd'⟩)
theorem ne_nice {d e : D} (h : nice d = true) (hd : d.depth ≤ 64) (h' : nice e = true) (hd' : e.depth ≤ 64) : dNe d e = some (.bool (!PyData.eqv d e)) := if_pos (.inr ⟨shaped_nice h hd, shaped_nice h' hd'⟩)
@[simp] theorem dEq_int {i j : Int} : dEq (.int i) (.int j) = some (.bool (i == j)) := if_pos (.inr ⟨rfl, rfl⟩)
@[simp] theorem dNe_int {i j : Int} : dNe (.int i) (.int j) = some (.bool (!(i == j))) := if_pos (.inr ⟨rfl, rfl⟩)
theorem shaped_str {x : Str} (h : PyData.strOk x = true) : SeqAt.shaped (.str x) = true := Bool.and_eq_true_iff.mpr ⟨h, rfl⟩
@[simp] theorem dEq_str {x y : Str} : dEq (.str x) (.str y) = some (.bool (x == y)) := if_pos (.inl rfl)
@[simp] theorem dNe_str {x y : Str} : dNe (.str x) (.str y) = some (.bool (!(x == y))) := if_pos (.inl rfl)
theorem eqv_str {x y : Str} : PyData.eqv (.str x) (.str y) = (x == y) := rfl
theorem strOk_app {x y : Str} (h : PyData.strOk x = true) (h' : PyData.strOk y = true) : PyData.strOk (x ++ y) = true := by
  unfold PyData.strOk at *
  rw [Str.cps_append, Array.all_append, h, h']
  rfl
theorem strOk_of (s : String) : PyData.strOk (Str.ofString s) = true := by
  unfold PyData.strOk
  rw [Str.ofString_eq_toList]
  simp only [List.all_toArray, List.all_map, List.all_eq_true, Function.comp_apply, decide_eq_true_eq]
  intro c _
  show c.val.toNat < 1114112
  rcases c.valid with h | ⟨_, h⟩
  · have : c.val.toNat < 55296 := h
    omega
  · exact h

/-! ### the text of a number -/
def numS (i : Int) : Str := Str.ofString (toString i)
theorem numS_len {i : Int} {k : Nat} (hk : 0 < k) (h : i.natAbs < 10 ^ k) : (numS i).length ≤ k + 1 := by
  unfold numS
  rw [ofString_length]
  exact int_text_length_le10 hk h
theorem numS_ok (i : Int) : PyData.strOk (numS i) = true := strOk_of _
theorem numS_ne {i : Int} (h : 0 ≤ i) : numS i ≠ Str.empty := by
  obtain ⟨n, rfl⟩ := Int.eq_ofNat_of_zero_le h
  intro e
  have := congrArg (fun x : Str => x.cps.toList) e
  have z := TL.tl_num n
  unfold TL.tl at z
  have z2 : (numS (n : Int)).cps.toList = TL.numL n := z
  rw [z2] at this
  exact TL.numL_ne n this

/-! ### joining -/
theorem join_snoc (s : Str) : ∀ (xs : List Str) (x : Str), xs ≠ [] → Str.join s (xs ++ [x]) = Str.join s xs ++ s ++ x
  | [], _, h => absurd rfl h
  | [a], x, _ => rfl
  | a :: b :: r, x, _ => by
    show a ++ s ++ Str.join s ((b :: r) ++ [x]) = (a ++ s ++ Str.join s (b :: r)) ++ s ++ x
    rw [join_snoc s (b :: r) x (by simp)]
    simp only [Str.append_assoc]
theorem str_len0 {x : Str} (h : x.length = 0) : x = Str.empty := by
  cases x with
  | mk c =>
    have : c = #[] := Array.eq_empty_of_size_eq_zero h
    subst this
    rfl
theorem app_ne_left {x y : Str} (h : x ≠ Str.empty) : x ++ y ≠ Str.empty := fun e => h (str_len0 (by
  have := congrArg Str.length e
  rw [Str.length_append] at this
  have z : Str.empty.length = 0 := rfl
  omega))
theorem join_ne (s : Str) : ∀ (xs : List Str), xs ≠ [] → (∀ x ∈ xs, x ≠ Str.empty) → Str.join s xs ≠ Str.empty
  | [], h, _ => absurd rfl h
  | [a], _, h => h a (by simp)
  | a :: b :: r, _, h => app_ne_left (app_ne_left (h a (by simp)))
theorem join_len (s : Str) (xs : List Str) : (Str.join s xs).length ≤ (xs.map (·.length)).sum + xs.length * s.length := by
  induction xs with
  | nil => exact Nat.zero_le _
  | cons a r ih =>
    cases r with
    | nil => simp [Str.join]
    | cons b r =>
      show (a ++ s ++ Str.join s (b :: r)).length ≤ _
      rw [Str.length_append, Str.length_append, List.map_cons, List.sum_cons, List.length_cons, Nat.add_mul]
      omega
theorem mul_zero (x : Str) : Txt.mul x 0 = Str.empty := rfl
theorem mul_one (x : Str) : Txt.mul x 1 = x := by
  unfold Txt.mul
  simp
end ML
/-! ML20: unary minus, chained comparisons, x += e. -/
namespace ML
open PySem L2

section
variable {S : Cxt} {e e1 e2 e3 : Expr} {es : List Expr} {p q r3 : Env → Option D} {pos : Pos}
def dNeg : D → Option D
  | .int i => some (.int (-i))
  | _ => none
def xNeg (p : Env → Option D) (env : Env) : Option D := (p env).bind dNeg
@[simp] theorem d_neg_i {i : Int} : dNeg (.int i) = some (.int (-i)) := rfl
@[simp] theorem e_xNeg {env : Env} : xNeg p env = (p env).bind dNeg := rfl
theorem jp_neg (ha : JB S e1 p) : JP S (.UnaryOp .USub e1 pos) (xNeg p) := by
  obtain ⟨t, h1, h2⟩ := ha
  refine ⟨tUn (rU fun i => .int (-i)) t, fun X o => pe_un un_neg (h1 X o), fun σ H O env T d Q s e k => ?_⟩
  obtain ⟨z, e1, e2⟩ := Option.bind_eq_some_iff.mp e
  refine h2 σ H O env T z _ s e1 fun v H1 g1 r1 => ?_
  unfold dNeg at e2
  split at e2
  · cases e2
    cases r1.int
    exact ⟨_, rfl, k _ H1 g1 (.int _)⟩
  · cases e2

/-! ### a op b op c -/
def CmpB (S : Cxt) (op : CmpOp) (f : D → D → Option D) : Prop := ∃ r : Fg → R2, (∀ X, S.Ok X → OpR X (compareOp op) (r X.K)) ∧ OpV S.K (r S.K) f
theorem cb_lt : CmpB S .Lt (dCmp fun i j => decide (i < j)) := ⟨fun _ => rI0 fun i j => .bl (decide (i < j)), fun _ _ => op_lt, ov_cmp⟩
theorem cb_le : CmpB S .LtE (dCmp fun i j => decide (i ≤ j)) := ⟨fun _ => rI0 fun i j => .bl (decide (i ≤ j)), fun _ _ => op_le, ov_cmp⟩
theorem cb_gt : CmpB S .Gt (dCmp fun i j => decide (j < i)) := ⟨fun _ => rI0 fun i j => .bl (decide (j < i)), fun _ _ => op_gt, ov_cmp⟩
theorem cb_ge : CmpB S .GtE (dCmp fun i j => decide (j ≤ i)) := ⟨fun _ => rI0 fun i j => .bl (decide (j ≤ i)), fun _ _ => op_ge, ov_cmp⟩
theorem cb_eq : CmpB S .Eq dEq := ⟨rEqX, fun _ o => op_eqX o.units, ov_eq⟩
theorem cb_ne : CmpB S .NotEq dNe := ⟨rNeX, fun _ o => op_neX o.units, ov_ne⟩
def xChain (f f' : D → D → Option D) (p q r3 : Env → Option D) (env : Env) : Option D := (p env).bind fun x => (q env).bind fun y => (f x y).bind fun d => match d with
  | .bool b => if b then (r3 env).bind fun z => f' y z else some (.bool false)
  | _ => none
@[simp] theorem e_xChain {f f' : D → D → Option D} {env : Env} : xChain f f' p q r3 env = (p env).bind fun x => (q env).bind fun y => (f x y).bind fun d => match d with
  | .bool b => if b then (r3 env).bind fun z => f' y z else some (.bool false)
  | _ => none := rfl
theorem chain_sem {r r' : R2} {f f' : D → D → Option D} {ta tb tc : TE} (hf : OpV S.K r f) (hf' : OpV S.K r' f') (ha : SemB S ta p) (hb : SemB S tb q) (hc : SemB S tc r3) : SemP S (tChain r r' ta tb tc) (xChain f f' p q r3) := by
  intro σ H O env T d Q s e k
  obtain ⟨x, e1, e⟩ := Option.bind_eq_some_iff.mp e
  obtain ⟨y, e2, e⟩ := Option.bind_eq_some_iff.mp e
  obtain ⟨c, e3, e⟩ := Option.bind_eq_some_iff.mp e
  refine ha σ H O env T x _ s e1 fun v H1 g1 r1 => hb σ H1 O env T y _ (s.grow g1) e2 fun w H2 g2 r2 => ?_
  have oc2 := s.oc.grow (g1.trans g2)
  refine hf H2 O v w x y c _ oc2 (r1.grow g2) r2 e3 fun z H3 g3 rz => ?_
  split at e
  · rename_i b
    cases rz
    refine ⟨b, rfl, ?_⟩
    cases b with
    | false =>
      cases e
      exact k _ H3 (g1.trans (g2.trans g3)) (.bl _)
    | true =>
      obtain ⟨z, e4, e5⟩ := Option.bind_eq_some_iff.mp e
      refine hc σ H3 O env T z _ (s.grow (g1.trans (g2.trans g3))) e4 fun u H4 g4 r4 => ?_
      exact hf' H4 O w u y z d Q (oc2.grow (g3.trans g4)) (r2.grow (g3.trans g4)) r4 e5 fun o H5 g5 r5 => k o H5 (g1.trans (g2.trans (g3.trans (g4.trans g5)))) r5
  · cases e
theorem jp_chain {op op' : CmpOp} {f f' : D → D → Option D} (h : CmpB S op f) (h' : CmpB S op' f') (ha : JB S e1 p) (hb : JB S e2 q) (hc : JB S e3 r3) (hm : lastMarks [op, op'] [e2, e3] = false := by with_unfolding_all rfl) :
    JP S (.Compare e1 [op, op'] [e2, e3] pos) (xChain f f' p q r3) := by
  obtain ⟨r, o1, v1⟩ := h
  obtain ⟨r', o2, v2⟩ := h'
  obtain ⟨ta, h1, h2⟩ := ha
  obtain ⟨tb, h3, h4⟩ := hb
  obtain ⟨tc, h5, h6⟩ := hc
  refine ⟨tChain (r S.K) (r' S.K) ta tb tc, fun X o => ?_, chain_sem v1 v2 h2 h4 h6⟩
  have z1 := o1 X o
  have z2 := o2 X o
  rw [o.K] at z1 z2
  exact pe_chain z1 z2 (h1 X o) (h3 X o) (h5 X o) hm
theorem jt_chain {op op' : CmpOp} {f f' : D → D → Option D} (h : CmpB S op f) (h' : CmpB S op' f') (ha : JB S e1 p) (hb : JB S e2 q) (hc : JB S e3 r3) (hm : lastMarks [op, op'] [e2, e3] = false := by with_unfolding_all rfl) :
    JTP S (.Compare e1 [op, op'] [e2, e3] pos) (tOf (xChain f f' p q r3)) := by
  obtain ⟨r, o1, v1⟩ := h
  obtain ⟨r', o2, v2⟩ := h'
  obtain ⟨ta, h1, h2⟩ := ha
  obtain ⟨tb, h3, h4⟩ := hb
  obtain ⟨tc, h5, h6⟩ := hc
  refine ⟨tTest (tChain (r S.K) (r' S.K) ta tb tc), fun X o => ?_, fun σ H O env T b Q s e k => ?_⟩
  · have z1 := o1 X o
    have z2 := o2 X o
    rw [o.K] at z1 z2
    exact pt_chain z1 z2 (h1 X o) (h3 X o) (h5 X o) hm
  · obtain ⟨d, e1, e2⟩ := Option.bind_eq_some_iff.mp e
    refine chain_sem v1 v2 h2 h4 h6 σ H O env T d _ s e1 fun v H1 g1 r1 => ?_
    split at e2
    · cases e2
      cases r1
      exact ⟨_, rfl, k H1 g1⟩
    · cases e2

/-! ### x += e, numbers -/
def dAugI (g : Int → Int → Int) : D → D → Option D
  | .int i, .int j => some (.int (g i j))
  | _, _ => none
@[simp] theorem d_aug_i {g : Int → Int → Int} {i j : Int} : dAugI g (.int i) (.int j) = some (.int (g i j)) := rfl
def sAug (i : Nat) (g : D → D → Option D) (fe : Env → Res D) (env : Env) : Fl := match env[i]? with
  | some (.dat x) => (fe env).fl fun env1 d => match g x d with
    | some z => if i < env1.length then .nx (env1.set i (.dat z)) else .bad
    | none => .bad
  | _ => .bad
@[simp] theorem e_sAug {i : Nat} {g : D → D → Option D} {fe : Env → Res D} {env : Env} : sAug i g fe env = match env[i]? with
  | some (.dat x) => (fe env).fl fun env1 d => match g x d with
    | some z => if i < env1.length then .nx (env1.set i (.dat z)) else .bad
    | none => .bad
  | _ => .bad := rfl
theorem st_aug (i : Nat) {x : Str} {op : Operator} {g : Int → Int → Int} {fe : Env → Res D} {px : Pos} (ip : ∀ X : Cx, PIp X op (ipI g)) (nd : S.N.Nodup) (h : okL S.N S.sc i x = true) (hl : S.blk = false) (he : JD S e fe) :
    JS S (.AugAssign (.Name x px) op e pos) (sAug i (dAugI g) fe) := by
  obtain ⟨t, h1, h2⟩ := he
  refine ⟨tAug i t (ipI g), fun X o => ps_aug (by rw [o.N]; exact nd) (by rw [o.N]; exact (okL_of h).1) (by rw [o.sc]; exact (okL_of h).2) (h1 X o) (ip X) (o.fnx (okL_of h).2 (.inl hl)), fun σ H O env E s q => ?_⟩
  unfold sAug at q
  split at q
  · rename_i x0 e0
    obtain ⟨v, e1, r1⟩ := s.dat e0
    refine ⟨v, e1, h2 σ H O env [] _ s (fl_post q fun H1 O1 env1 d _ s1 t1 k1 w rw' => ?_)⟩
    split at k1
    · rename_i z ez
      unfold dAugI at ez
      split at ez
      · cases ez
        cases r1
        cases rw'
        split at k1
        · rename_i hi
          exact ⟨_, _, rfl, rfl, k1 _ H1 O1 (s1.put hi (.dat (.int _))) (.refl fun a h => nomatch h)⟩
        · exact k1.elim
      · cases ez
    · exact k1.elim
  · exact q.elim
end
end ML
/-! ML21: methods of texts over effects. -/
namespace ML
open PySem L2
section
variable {S : Cxt} {e e1 e2 e3 : Expr} {es : List Expr} {fa fb : Env → Res D} {pos : Pos}
def yMt (f : D → D → Option D) (a b : Env → Res D) (env : Env) : Res D := (a env).bind fun env1 x => match x with
  | .str _ => (b env1).bind fun env2 y => match f x y with | some z => .ok env2 z | none => .bad
  | _ => .bad
@[simp] theorem e_yMt {f : D → D → Option D} {env : Env} : yMt f fa fb env = (fa env).bind fun env1 x => match x with
  | .str _ => (fb env1).bind fun env2 y => match f x y with | some z => .ok env2 z | none => .bad
  | _ => .bad := rfl
theorem jd_m1 {id : String} {name : Str} {apos : Pos} {r : Fg → V → List V → Hp → VK → Prop} {f : D → D → Option D} (slot : Slot "str" name id) (ty : typeOf (.builtin id) = pure (.type "method_descriptor")) (rule : ∀ X : Cx, MtR X id (r X.K)) (hf : MtV S.K (r S.K) f) (ha : JD S e1 fa) (hb : JD S e2 fb)
    (hline : (apos.endLine == pos.line) = true) (hs : ∀ env, starEach [e2] env = [(false, eval e2 env)] := by intro _; rfl) (hbase : ∀ env, attributeBase e1 name env (eval e1 env) = eval e1 env := by intro _; rfl) :
    JD S (.Call (.Attribute e1 name apos) [e2] [] pos) (yMt f fa fb) := by
  obtain ⟨t, h1, h2⟩ := ha
  obtain ⟨u, h3, h4⟩ := hb
  refine ⟨tM1 (r S.K) t u, fun X o => by have z := rule X; rw [o.K] at z; exact pe_m1 slot ty z (h1 X o) (h3 X o) (hs _) (hbase _) hline, fun σ H O env T Q s k => ?_⟩
  refine h2 σ H O env T _ s (rp_bind k fun H1 O1 env1 x _ s1 t1 k1 v rv => ?_)
  cases x with
  | str x =>
    cases rv
    refine ⟨⟨x, rfl⟩, h4 σ H1 O1 env1 T _ s1 (rp_bind k1 fun H2 O2 env2 y _ s2 t2 k2 w rw' => ?_)⟩
    cases ez : f (.str x) y with
    | none => rw [ez] at k2; exact k2.elim
    | some z =>
      rw [ez] at k2
      exact hf H2 O2 x w y z Q s2.oc (.inl rw') ez fun o H3 g3 r3 => k2 H3 O2 (s2.grow g3) (s2.gtr g3) o r3
  | _ => exact k1.elim
theorem jd_join {apos : Pos} (ha : JD S e1 fa) (hb : JD S e2 fb) (hline : (apos.endLine == pos.line) = true) (hs : ∀ env, starEach [e2] env = [(false, eval e2 env)] := by intro _; rfl) (hbase : ∀ env, attributeBase e1 "join" env (eval e1 env) = eval e1 env := by intro _; rfl) :
    JD S (.Call (.Attribute e1 "join" apos) [e2] [] pos) (yMt fJoin fa fb) :=
  jd_m1 (r := fun K x xs H Q => ∃ a p, ∃ ys : List Str, x = .str a ∧ xs = [.ref p] ∧ (SqL K H p (ys.map V.str) ∨ SqT K H p (ys.map V.str)) ∧ (ys.map (·.length)).sum + ys.length * a.length ≤ 16777216 ∧ Q (.str (Txt.join a ys)) H)
    PySem.F.slot_str_join PySem.F.type_str_join (fun X => mt_join) mv_join ha hb hline hs hbase
end
end ML
/-! ML22: list(text). -/
namespace ML
open PySem L2
def signsV (x : Str) : List V := x.cps.toList.map fun c => .str ⟨#[c]⟩
theorem vals_signs {x : Str} {acc : Array Value} (h : ItemsOf (SignAt x) acc x.cps.size) : Vals (signsV x) acc.toList := by
  refine vals_of_at ?_ fun j y u h1 h2 => ?_
  · unfold signsV
    rw [List.length_map, Array.length_toList, Array.length_toList, h.1]
  · obtain ⟨c, t, e1, rfl⟩ := h.2 j u (by rw [← h2, Array.getElem?_toList])
    unfold signsV at h1
    rw [List.getElem?_map, Array.getElem?_toList, e1] at h1
    cases h1
    exact ⟨t, rfl⟩
def rListS : List V → Hp → VK → Prop := fun xs H Q => ∃ x : Str, xs = [.str x] ∧ x.length ≤ sizeLine ∧ ∀ l, H l = none → Q (.ref l) (upd H l (.lst (signsV x)))
theorem call_list_text {X : Cx} (hc : X.calm = true) : CallR X (.type "list") rListS := by
  intro pins s σ H xs us Q I r h
  obtain ⟨x, rfl, hl, q⟩ := h
  obtain ⟨u, rfl, rx⟩ := vals1 r
  obtain ⟨t, rfl⟩ := rx
  refine call_list_str (hn := hl) (I.ok.hd hc) x t fun h' tk acc c' hk e hi => ?_
  refine ⟨.ref s.heap.objs.size, upd H s.heap.objs.size (.lst (signsV x)), I.laid hk (Nat.le_refl _) (show ObjOk X.prog X.w _ _ _ (.lst (signsV x)) from ⟨?_, acc.toList, c', vals_signs hi, ?_⟩), rfl, q _ (I.hok.fresh (Nat.le_refl _))⟩
  · unfold signsV
    rw [List.length_map, Array.length_toList]
    exact hl
  · rw [Array.toArray_toList]
    exact e
def rListX (K : Fg) : List V → Hp → VK → Prop := fun xs H Q => (∃ p ys, xs = [.ref p] ∧ (SqL K H p ys ∨ SqT K H p ys) ∧ ∀ l, H l = none → Q (.ref l) (upd H l (.lst ys))) ∨ rListS xs H Q
def fListX : List D → Option (List D)
  | [.str x] => if x.length ≤ sizeLine then some (signs x) else none
  | ds => fList ds
theorem rds_signs {K : Fg} {H : Hp} {O : OS} (cs : List Nat) : RDs K H O (cs.map fun c => V.str ⟨#[c]⟩) (cs.map fun c => PyData.str ⟨#[c]⟩) := by
  induction cs with
  | nil => exact .nil
  | cons c r ih => exact .cons (.str _) ih
theorem cn_listX {K : Fg} : CallN K (rListX K) fListX := by
  intro H O xs ds z Q c h hz k
  unfold fListX at hz
  split at hz
  · split at hz
    · rename_i x hl
      cases hz
      obtain ⟨a, e, h1⟩ := f2_1 h
      subst e
      cases h1.str
      exact .inr ⟨x, rfl, hl, fun l n => k l _ H .refl n (rds_signs _)⟩
    · cases hz
  · exact .inl (cn_list H O xs ds z Q c h hz k)
section
variable {S : Cxt} {e : Expr} {pos pp : Pos} {qs : Env → Option (List D)}
theorem jo_listX (hg : Gn S "list") (hm : S.mg "list" = none) (ha : JAB S [e] qs) (he : ∀ env, starEach [e] env = [(false, eval e env)] := by intro _; rfl) : JO S (.Call (.Name "list" pp) [e] [] pos) (oCall fListX qs) :=
  jo_callT (r := rListX) (fun _ o => CallR.or call_list_of (call_list_text o.calm)) cn_listX hg hm (by decide +kernel) ha (by decide) (by decide) he (fun _ => rfl)
end
@[simp] theorem f_listX_l {xs : List D} : fListX [.list xs] = some xs := rfl
@[simp] theorem f_listX_t {xs : List D} : fListX [.tuple xs] = some xs := rfl
theorem f_listX_s {x : Str} (h : x.length ≤ 16777216) : fListX [.str x] = some (signs x) := if_pos (by rw [sizeLine_eq]; exact h)
end ML
/-! ML23: comprehensions with effects, by an invariant that counts. -/
namespace ML
open PySem L2
theorem compF_idx {own : List Nat} {gt : D → Env → Option Env} {u : Env → Res Bool} {el : Env → Res D} (I : Nat → Env → Prop) (P : D → Prop) : ∀ (ds : List D) (env : Env) (n k : Nat), n + ds.length ≤ 16777216 → I k env →
    (∀ j d, ds[j]? = some d → ∀ en, I (k + j) en → ∃ en1, gt d en = some en1 ∧ Yo (u en1) fun en2 b => b = true ∧ Yo (el en2) fun en3 x => P x ∧ I (k + j + 1) (wipeE en3 own)) → ∃ en xs, compF own gt u el ds env n = .ok en xs ∧ I (k + ds.length) en ∧ xs.length = ds.length ∧ ∀ x ∈ xs, P x
  | [], env, n, k, _, hi, _ => ⟨env, [], rfl, hi, rfl, fun x hx => nomatch hx⟩
  | d :: r, env, n, k, hn, hi, h => by
    rw [List.length_cons] at hn
    obtain ⟨en1, e1, h1⟩ := h 0 d rfl env hi
    obtain ⟨en2, b, e2, rfl, h2⟩ := h1.get
    obtain ⟨en3, x, e3, hx, h3⟩ := h2.get
    obtain ⟨en4, xs, e4, h4, h5, h6⟩ := compF_idx I P r (wipeE en3 own) (n + 1) (k + 1) (by omega) h3 fun j y hy => by
      have := h (j + 1) y (by simpa using hy)
      rw [show k + (j + 1) = k + 1 + j from by omega] at this
      exact this
    refine ⟨en4, x :: xs, ?_, ?_, by simp [h5], fun y hy => ?_⟩
    · unfold compF
      rw [e1]
      dsimp only
      rw [e2]
      dsimp only [Res.bind]
      rw [if_pos rfl, e3]
      dsimp only
      rw [if_pos (by rw [sizeLine_eq]; omega), e4]
    · rw [List.length_cons, show k + (r.length + 1) = k + 1 + r.length from by omega]
      exact h4
    · rcases List.mem_cons.mp hy with q | q
      · subst q
        exact hx
      · exact h6 y q
end ML
/-! ML24: the mirrors' plain readings: programs over named values, without slots. -/
namespace ML
open PySem L2

/-! ### what a piece comes to -/
inductive Po (α : Type) where
  | ok (a : α)
  | err (x : Exn)
  | bad
section
variable {α β γ : Type}
def Po.bind : Po α → (α → Po β) → Po β
  | .ok a, k => k a
  | .err x, _ => .err x
  | .bad, _ => .bad
/-- .. of what must not raise -/
def Po.bindS : Po α → (α → Po β) → Po β
  | .ok a, k => k a
  | _, _ => .bad
def _root_.Option.po (o : Option α) (k : α → Po β) : Po β := match o with | some a => k a | none => .bad
def Po.toO : Po α → Option α
  | .ok a => some a
  | _ => none
def Po.toL : Po (List D) → Option D
  | .ok a => some (.list a)
  | _ => none
@[simp] theorem po_bind_ok {a : α} {k : α → Po β} : (Po.ok a).bind k = k a := rfl
@[simp] theorem po_bindS_ok {a : α} {k : α → Po β} : (Po.ok a).bindS k = k a := rfl
@[simp] theorem po_some {a : α} {k : α → Po β} : (some a).po k = k a := rfl
@[simp] theorem po_toO_ok {a : α} : (Po.ok a).toO = some a := rfl
@[simp] theorem po_toL_ok {a : List D} : (Po.ok a).toL = some (.list a) := rfl
end
/-- how a block is left -/
inductive Step (σ ρ : Type) where
  | nx (s : σ)
  | rt (v : ρ)
  | bk (s : σ)

/-! ### the plain operations -/
def toB : D → Option Bool
  | .bool b => some b
  | _ => none
def toI : D → Option Int
  | .int i => some i
  | _ => none
def andO (a b : Option Bool) : Option Bool := a.bind fun x => if x then b else some false
def orO (a b : Option Bool) : Option Bool := a.bind fun x => if x then some true else b
def ifO {α : Type} (c : Option Bool) (a b : Option α) : Option α := c.bind fun x => if x then a else b
def isaO (T : String) (d : D) : Option D := (isA T d).map .bool
def chO (f f' : D → D → Option D) (x y : D) (z : Option D) : Option D := (f x y).bind fun d => match d with
  | .bool true => z.bind fun w => f' y w
  | .bool false => some (.bool false)
  | _ => none
def mtO (f : D → D → Option D) (d e : D) : Option D := match d with
  | .str _ => f d e
  | _ => none
def range1O (d : D) : Option (List D) := match d with
  | .int j => if rngOk j then some (rngOf 0 j) else none
  | _ => none
def range2O (d e : D) : Option (List D) := match d, e with
  | .int i, .int j => if rngOk i ∧ rngOk j then some (rngOf i j) else none
  | _, _ => none
/-- an item of a comprehension: none, left out, or a value -/
def compO (f : D → Option (Option D)) : List D → Option (List D)
  | [] => some []
  | d :: ds => (f d).bind fun o => match o with
    | some x => (compO f ds).map fun xs => x :: xs
    | none => compO f ds
def mapO (f : D → Option D) : List D → Option (List D)
  | [] => some []
  | d :: ds => (f d).bind fun x => (mapO f ds).map fun xs => x :: xs
def compS (f : D → Option (Option D)) (ds : List D) : Option (List D) := if ds.length ≤ 16777216 then compO f ds else none
def mapS (f : D → Option D) (ds : List D) : Option (List D) := if ds.length ≤ 16777216 then mapO f ds else none
def keepO (c : Option Bool) (e : Option D) : Option (Option D) := c.bind fun b => if b then e.map some else some none
/-- a tuple taken apart -/
def un1 {α : Type} (d : D) (k : D → Option α) : Option α := match d with
  | .tuple [a] => k a
  | _ => none
def un2 {α : Type} (d : D) (k : D → D → Option α) : Option α := match d with
  | .tuple [a, b] => k a b
  | _ => none
def un3 {α : Type} (d : D) (k : D → D → D → Option α) : Option α := match d with
  | .tuple [a, b, c] => k a b c
  | _ => none
def un4 {α : Type} (d : D) (k : D → D → D → D → Option α) : Option α := match d with
  | .tuple [a, b, c, e] => k a b c e
  | _ => none
def pn2 {α : Type} (d : D) (k : D → D → Po α) : Po α := match d with
  | .tuple [a, b] => k a b
  | _ => .bad
def pn3 {α : Type} (d : D) (k : D → D → D → Po α) : Po α := match d with
  | .tuple [a, b, c] => k a b c
  | _ => .bad
def pn4 {α : Type} (d : D) (k : D → D → D → D → Po α) : Po α := match d with
  | .tuple [a, b, c, e] => k a b c e
  | _ => .bad
def pushP {α : Type} (xs : List D) (d : D) (k : List D → Po α) : Po α := if xs.length < 16777216 then k (xs ++ [d]) else .bad
def extendP {α : Type} (xs : List D) (d : D) (k : List D → Po α) : Po α := match d with
  | .list ys => if xs.length + ys.length ≤ 16777216 then k (xs ++ ys) else .bad
  | .tuple ys => if xs.length + ys.length ≤ 16777216 then k (xs ++ ys) else .bad
  | _ => .bad
def setIxP {α : Type} (xs : List D) (i d : D) (k : List D → Po α) : Po α := match i with
  | .int n => match ixN xs.length n with
    | some j => k (xs.set j d)
    | none => .bad
  | _ => .bad
section
variable {σ ρ α : Type}
def forN (f : D → σ → Po σ) : List D → σ → Po σ
  | [], s => .ok s
  | d :: ds, s => (f d s).bind fun s1 => forN f ds s1
def forS (f : D → σ → Po (Step σ ρ)) : List D → σ → Po (Step σ ρ)
  | [], s => .ok (.nx s)
  | d :: ds, s => (f d s).bind fun o => match o with
    | .nx s1 => forS f ds s1
    | .rt v => .ok (.rt v)
    | .bk s1 => .ok (.nx s1)
/-- a while: its test, and its body -/
def whileN (t : σ → Po (Bool × σ)) (f : σ → Po σ) : Nat → σ → Po σ
  | 0, _ => .bad
  | n + 1, s => (t s).bind fun p => if p.1 then (f p.2).bind fun s1 => whileN t f n s1 else .ok p.2
def whileS (t : σ → Po (Bool × σ)) (f : σ → Po (Step σ ρ)) : Nat → σ → Po (Step σ ρ)
  | 0, _ => .bad
  | n + 1, s => (t s).bind fun p => if p.1 then (f p.2).bind fun o => (match o with
    | .nx s1 => whileS t f n s1
    | .rt v => .ok (.rt v)
    | .bk s1 => .ok (.nx s1)) else .ok (.nx p.2)
/-- a comprehension with effects -/
def compM (f : D → σ → Po (Option D × σ)) : List D → σ → Po (List D × σ)
  | [], s => .ok ([], s)
  | d :: ds, s => (f d s).bindS fun p => (compM f ds p.2).bindS fun q => match p.1 with
    | some x => .ok (x :: q.1, q.2)
    | none => .ok q
def compMS (f : D → σ → Po (Option D × σ)) (ds : List D) (s : σ) : Po (List D × σ) := if ds.length ≤ 16777216 then compM f ds s else .bad
/-- what comes behind a block that may return -/
def Po.thenS (r : Po (Step σ ρ)) (k : σ → Po α) (e : ρ → Po α) : Po α := r.bind fun o => match o with
  | .nx s => k s
  | .rt v => e v
  | .bk _ => .bad
end

/-! ### order: what is said, holds -/
def LeO {α : Type} (s t : Option α) : Prop := ∀ a, s = some a → t = some a
section
variable {α β : Type} {env : Env} {p q r3 : Env → Option D} {f f' : D → D → Option D} {s s1 s2 s3 : Option D} {x y z v : D}
theorem LeO.refl {o : Option α} : LeO o o := fun _ h => h
theorem LeO.eq {o t : Option α} (h : t = o) : LeO o t := fun _ e => h.trans e
theorem lo_of {r o : Option α} (h : LeO r (o.bind some)) : LeO r o := fun a e => by
  have := h a e
  cases o with
  | none => cases this
  | some b => exact this
theorem lo_v {a : α} {o : Option α} {k : α → Option β} {r : Option β} (h : o = some a) (hk : LeO r (k a)) : LeO r (o.bind k) := by
  subst h
  exact hk
theorem lo_s {o t : Option α} {r k : α → Option β} (h : LeO o t) (hk : ∀ a, LeO (r a) (k a)) : LeO (o.bind r) (t.bind k) := fun b e => by
  cases o with
  | none => cases e
  | some a =>
    rw [h a rfl]
    exact hk a b e
theorem lo_b {o : Option α} {r k : α → Option β} (hk : ∀ a, LeO (r a) (k a)) : LeO (o.bind r) (o.bind k) := lo_s .refl hk
theorem lo_bt {o : Option α} : LeO o (o.bind some) := fun a e => by
  subst e
  rfl
theorem lo_st {o t : Option α} (h : LeO o t) : LeO o (t.bind some) := fun a e => by
  rw [h a e]
  rfl
theorem lo_op {k : D → Option α} {r : Option α} (h : LeO r ((p env).bind fun x => (q env).bind fun y => (f x y).bind k)) : LeO r ((xOp f p q env).bind k) := fun a e => by
  rw [← h a e]
  unfold xOp
  cases p env with
  | none => rfl
  | some x => cases q env <;> rfl
theorem lo_neg {k : D → Option α} {r : Option α} (h : LeO r ((p env).bind fun x => (dNeg x).bind k)) : LeO r ((xNeg p env).bind k) := fun a e => by
  rw [← h a e]
  unfold xNeg
  cases p env <;> rfl
theorem lo_cons {q : Env → Option (List D)} {k : List D → Option α} {r : Option α} (h : LeO r ((p env).bind fun d => (q env).bind fun ds => k (d :: ds))) : LeO r ((aCons p q env).bind k) := fun a e => by
  rw [← h a e]
  unfold aCons
  cases p env with
  | none => rfl
  | some x => cases q env <;> rfl
theorem lo_nil {k : List D → Option α} {r : Option α} (h : LeO r (k [])) : LeO r ((aNil env).bind k) := h
/-- how many arguments -/
def AL (q : Env → Option (List D)) (n : Nat) : Prop := ∀ env ds, q env = some ds → ds.length = n
theorem al_nil : AL aNil 0 := fun env ds e => by cases e; rfl
theorem al_cons {q : Env → Option (List D)} {n : Nat} (h : AL q n) : AL (aCons p q) (n + 1) := fun env ds e => by
  unfold aCons at e
  obtain ⟨d, _, e2⟩ := Option.bind_eq_some_iff.mp e
  obtain ⟨ds', e3, rfl⟩ := Option.map_eq_some_iff.mp e2
  rw [List.length_cons, h env ds' e3]
theorem lo_tup {q : Env → Option (List D)} {n : Nat} {k : D → Option α} {r : Option α} (l : AL q n) (hn : Nat.ble n 1000 = true) (h : LeO r ((q env).bind fun ds => k (.tuple ds))) : LeO r ((xTup q env).bind k) := fun a e => by
  rw [← h a e]
  have hn := Nat.le_of_ble_eq_true hn
  unfold xTup
  cases eq : q env with
  | none => rfl
  | some ds =>
    have := l env ds eq
    show (if ds.length ≤ sizeLine then _ else _ : Option D).bind k = _
    rw [if_pos (by rw [sizeLine_eq]; omega)]
    rfl
theorem lo_lst {q : Env → Option (List D)} {n : Nat} {k : List D → Option α} {r : Option α} (l : AL q n) (hn : Nat.ble n 1000 = true) (h : LeO r ((q env).bind k)) : LeO r ((oLst q env).bind k) := fun a e => by
  rw [← h a e]
  have hn := Nat.le_of_ble_eq_true hn
  unfold oLst
  cases eq : q env with
  | none => rfl
  | some ds =>
    have := l env ds eq
    show (if ds.length ≤ sizeLine then _ else _ : Option (List D)).bind k = _
    rw [if_pos (by rw [sizeLine_eq]; omega)]
def xL (o : Env → Option (List D)) (env : Env) : Option D := (o env).map .list
theorem lo_list {o : Env → Option (List D)} {k : D → Option α} {r : Option α} (h : LeO r ((o env).bind fun xs => k (.list xs))) : LeO r ((xL o env).bind k) := fun a e => by
  rw [← h a e]
  show ((o env).map _).bind k = _
  cases o env <;> rfl
theorem lo_ifT {u : Env → Option Bool} {c : Option Bool} (h : LeO c (u env)) (h1 : LeO s1 (p env)) (h2 : LeO s2 (q env)) : LeO (ifO c s1 s2) (xIf u p q env) := by
  refine lo_s h fun b => ?_
  cases b with
  | true => exact h1
  | false => exact h2
theorem lo_tOf {k : Bool → Option α} {r : Option α} (h : LeO r ((p env).bind fun d => (toB d).bind k)) : LeO r ((tOf p env).bind k) := fun a e => by
  rw [← h a e]
  unfold tOf
  cases p env with
  | none => rfl
  | some d => cases d <;> rfl
theorem lo_and {u v : Env → Option Bool} {c d : Option Bool} (h : LeO c (u env)) (h1 : LeO d (v env)) : LeO (andO c d) (tAndP u v env) := by
  refine lo_s h fun b => ?_
  cases b with
  | true => exact h1
  | false => exact .refl
theorem lo_or {u v : Env → Option Bool} {c d : Option Bool} (h : LeO c (u env)) (h1 : LeO d (v env)) : LeO (orO c d) (tOrP u v env) := by
  refine lo_s h fun b => ?_
  cases b with
  | true => exact .refl
  | false => exact h1
theorem lo_map {o t : Option α} {g : α → β} (h : LeO o t) : LeO (o.map g) (t.map g) := fun b e => by
  obtain ⟨a, e1, rfl⟩ := Option.map_eq_some_iff.mp e
  rw [h a e1]
  rfl
theorem lo_not {u : Env → Option Bool} {c : Option Bool} (h : LeO c (u env)) : LeO (c.map (!·)) (tNotP u env) := lo_map h
theorem lo_vOf {u : Env → Option Bool} {c : Option Bool} (h : LeO c (u env)) : LeO (c.map PyData.bool) (vOf u env) := lo_map h
theorem lo_chain {k : D → Option α} {r : Option α} (h3 : LeO s3 (r3 env)) (h : LeO r ((p env).bind fun x => (q env).bind fun y => (chO f f' x y s3).bind k)) : LeO r ((xChain f f' p q r3 env).bind k) := by
  refine fun a e => ?_
  have h0 := h a e
  revert h0
  unfold xChain chO
  cases p env with
  | none => exact fun h => h
  | some x =>
    cases q env with
    | none => exact fun h => h
    | some y =>
      dsimp only [Option.bind]
      cases f x y with
      | none => exact fun h => h
      | some d =>
        dsimp only [Option.bind]
        cases d with
        | bool b =>
          cases b with
          | true =>
            dsimp only
            intro h0
            cases s3 with
            | none => cases h0
            | some w =>
              rw [h3 w rfl]
              exact h0
          | false => exact fun h => h
        | _ => exact fun h => h
theorem lo_call {g : List D → Option D} {q : Env → Option (List D)} {k : D → Option α} {r : Option α} (h : LeO r ((q env).bind fun ds => (g ds).bind k)) : LeO r ((xCall g q env).bind k) := fun a e => by
  rw [← h a e]
  unfold xCall
  cases q env <;> rfl
theorem lo_oCall {g : List D → Option (List D)} {q : Env → Option (List D)} {k : List D → Option α} {r : Option α} (h : LeO r ((q env).bind fun ds => (g ds).bind k)) : LeO r ((oCall g q env).bind k) := fun a e => by
  rw [← h a e]
  unfold oCall
  cases q env <;> rfl
theorem lo_mt {k : D → Option α} {r : Option α} (h : LeO r ((p env).bind fun d => (q env).bind fun e => (mtO f d e).bind k)) : LeO r ((xMt f p q env).bind k) := fun a e => by
  rw [← h a e]
  unfold xMt
  cases p env with
  | none => rfl
  | some d =>
    cases eq : q env with
    | none => cases d <;> simp [Option.bind]
    | some w => cases d <;> simp [Option.bind, mtO]
theorem lo_isA {T : String} {k : D → Option α} {r : Option α} (h : LeO r ((p env).bind fun d => (isaO T d).bind k)) : LeO r ((xIsA T p env).bind k) := fun a e => by
  rw [← h a e]
  unfold xIsA
  cases p env <;> rfl
theorem lo_fn {F : List SV → Res SV} {q : Env → Option (List D)} {k : D → Option α} {r : Option α} (h : LeO r ((q env).bind fun ds => (pureOf (F (ds.map .dat))).bind k)) : LeO r ((xFn F q env).bind k) := fun a e => by
  rw [← h a e]
  unfold xFn
  cases q env <;> rfl
theorem lo_cut {lo hi : Env → Option (Option Int)} {k : D → Option α} {r : Option α} (h : LeO r ((p env).bind fun d => (lo env).bind fun a => (hi env).bind fun b => (dCut d a b).bind k)) : LeO r ((xCut p lo hi env).bind k) := fun a e => by
  rw [← h a e]
  unfold xCut
  cases p env with
  | none => rfl
  | some d =>
    cases lo env with
    | none => rfl
    | some a => cases hi env <;> rfl
theorem lo_cSome {k : Option Int → Option α} {r : Option α} (h : LeO r ((p env).bind fun d => (toI d).bind fun i => k (some i))) : LeO r ((cSome p env).bind k) := fun a e => by
  rw [← h a e]
  unfold cSome
  cases p env with
  | none => rfl
  | some d => cases d <;> rfl
theorem lo_ixF {i : Nat} {xs : List D} {k : D → Option α} {r : Option α} (hx : env[i]? = some (.frz xs)) (h : LeO r ((p env).bind fun d => (dIx (.list xs) d).bind k)) : LeO r ((xIxF i p env).bind k) := fun a e => by
  rw [← h a e]
  unfold xIxF
  rw [hx]
  dsimp only
  cases p env <;> rfl
theorem lo_ipOf {k : List D → Option α} {r : Option α} (h : LeO r ((p env).bind fun d => (itemsOf d).bind k)) : LeO r ((ipOf p env).bind k) := fun a e => by
  rw [← h a e]
  unfold ipOf
  cases p env <;> rfl
theorem lo_ipRange1 {k : List D → Option α} {r : Option α} (h : LeO r ((p env).bind fun d => (range1O d).bind k)) : LeO r ((ipRange1 (aCons p aNil) env).bind k) := fun a e => by
  rw [← h a e]
  unfold ipRange1 aCons aNil
  cases p env with
  | none => rfl
  | some d => cases d <;> rfl
theorem lo_ipRange2 {k : List D → Option α} {r : Option α} (h : LeO r ((p env).bind fun d => (q env).bind fun e => (range2O d e).bind k)) : LeO r ((ipRange2 (aCons p (aCons q aNil)) env).bind k) := fun a e => by
  rw [← h a e]
  unfold ipRange2 aCons aNil
  cases p env with
  | none => rfl
  | some d =>
    cases q env with
    | none => rfl
    | some w => cases d <;> cases w <;> rfl
/-! comprehensions -/
theorem lo_compO {gt : D → Env → Option Env} {u : Env → Option Bool} {el : Env → Option D} {g : D → Option (Option D)} (h : ∀ d, LeO (g d) ((gt d env).bind fun en => (u en).bind fun b => if b then (el en).map some else some none)) : ∀ ds, LeO (compO g ds) (compP gt u el env ds)
  | [] => .refl
  | d :: ds => fun xs e => by
    unfold compO at e
    obtain ⟨o, e1, e2⟩ := Option.bind_eq_some_iff.mp e
    have h1 := h d o e1
    obtain ⟨en, h2, h3⟩ := Option.bind_eq_some_iff.mp h1
    obtain ⟨b, h4, h5⟩ := Option.bind_eq_some_iff.mp h3
    unfold compP
    rw [h2]
    dsimp only [Option.bind]
    rw [h4]
    dsimp only
    cases b with
    | true =>
      rw [if_pos rfl] at h5 ⊢
      obtain ⟨x, h6, rfl⟩ := Option.map_eq_some_iff.mp h5
      rw [h6]
      dsimp only
      dsimp only at e2
      obtain ⟨ys, h7, rfl⟩ := Option.map_eq_some_iff.mp e2
      rw [lo_compO h ds ys h7]
      rfl
    | false =>
      have h5 : some none = some o := h5
      cases h5
      rw [if_neg (by decide)]
      exact lo_compO h ds xs e2
theorem mapO_comp {g : D → Option D} : ∀ ds, mapO g ds = compO (fun d => (g d).map some) ds
  | [] => rfl
  | d :: ds => by
    unfold mapO compO
    rw [mapO_comp ds]
    cases g d <;> rfl
theorem lo_comp {own : List Nat} {fi : Env → Option (List D)} {gt : D → Env → Option Env} {u : Env → Option Bool} {el : Env → Option D} {g : D → Option (Option D)} {k : List D → Option α} {r : Option α}
    (h : ∀ d, LeO (g d) ((gt d (wipeE env own)).bind fun en => (u en).bind fun b => if b then (el en).map some else some none)) (hk : LeO r ((fi env).bind fun ds => (compS g ds).bind k)) : LeO r ((oComp own fi gt u el env).bind k) := fun a e => by
  have h0 := hk a e
  unfold oComp
  cases ef : fi env with
  | none => rw [ef] at h0; cases h0
  | some ds =>
    rw [ef] at h0
    have h0 : (compS g ds).bind k = some a := h0
    unfold compS at h0
    show (if ds.length ≤ sizeLine then _ else _ : Option (List D)).bind k = _
    rw [sizeLine_eq]
    split at h0
    · rename_i hl
      rw [if_pos hl]
      exact lo_s (lo_compO h ds) (fun _ => .refl) a h0
    · cases h0
theorem lo_mapc {own : List Nat} {fi : Env → Option (List D)} {gt : D → Env → Option Env} {el : Env → Option D} {g : D → Option D} {k : List D → Option α} {r : Option α}
    (h : ∀ d, LeO (g d) ((gt d (wipeE env own)).bind el)) (hk : LeO r ((fi env).bind fun ds => (mapS g ds).bind k)) : LeO r ((oComp own fi gt pYes el env).bind k) := by
  refine lo_comp (g := fun d => (g d).map some) (fun d => ?_) ?_
  · have h2 := lo_map (g := some) (h d)
    refine fun o e => ?_
    have := h2 o e
    cases eg : gt d (wipeE env own) with
    | none => rw [eg] at this; cases this
    | some en =>
      rw [eg] at this
      exact this
  · have e : (fun ds => (compS (fun d => (g d).map some) ds).bind k) = fun ds => (mapS g ds).bind k := by
      funext ds
      unfold compS mapS
      rw [mapO_comp]
    rw [e]
    exact hk
theorem lo_keep {u : Env → Option Bool} {el : Env → Option D} {c : Option Bool} {s : Option D} (h : LeO c (u env)) (h1 : LeO s (el env)) : LeO (keepO c s) ((u env).bind fun b => if b then (el env).map some else some none) := by
  refine lo_s h fun b => ?_
  cases b with
  | true => exact lo_map h1
  | false => exact .refl
theorem lo_gN {i : Nat} {k : Env → Option α} {r : Option α} (hi : Nat.blt i env.length = true) (h : LeO r (k (env.set i (.dat x)))) : LeO r ((gN i x env).bind k) := by
  unfold gN
  rw [if_pos (by simpa using hi)]
  exact h
/-- a target that is a tuple of names -/
theorem lo_g2 {d : D} {i j : Nat} {k : Env → Option α} {g : D → D → Option α} (hi : Nat.blt i env.length = true) (hj : Nat.blt j env.length = true) (h : ∀ a b, LeO (g a b) (k ((env.set i (.dat a)).set j (.dat b)))) : LeO (un2 d g) ((gTupD 2 (gsCons (gN i) (gsCons (gN j) gsNil)) d env).bind k) := by
  unfold un2
  split
  · rename_i a b
    simp only [Nat.blt_eq] at hi hj
    simp only [e_gTupD, List.length_cons, List.length_nil, e_gsCons, e_gN, e_gsNil, List.length_set, hi, hj, if_true, Option.bind_some]
    exact h a b
  · exact fun a e => by cases e
theorem lo_g3 {d : D} {i j l : Nat} {k : Env → Option α} {g : D → D → D → Option α} (hi : Nat.blt i env.length = true) (hj : Nat.blt j env.length = true) (hl : Nat.blt l env.length = true) (h : ∀ a b c, LeO (g a b c) (k (((env.set i (.dat a)).set j (.dat b)).set l (.dat c)))) : LeO (un3 d g) ((gTupD 3 (gsCons (gN i) (gsCons (gN j) (gsCons (gN l) gsNil))) d env).bind k) := by
  unfold un3
  split
  · rename_i a b c
    simp only [Nat.blt_eq] at hi hj hl
    simp only [e_gTupD, List.length_cons, List.length_nil, e_gsCons, e_gN, e_gsNil, List.length_set, hi, hj, hl, if_true, Option.bind_some]
    exact h a b c
  · exact fun a e => by cases e
theorem lo_g4 {d : D} {i j l m : Nat} {k : Env → Option α} {g : D → D → D → D → Option α} (hi : Nat.blt i env.length = true) (hj : Nat.blt j env.length = true) (hl : Nat.blt l env.length = true) (hm : Nat.blt m env.length = true) (h : ∀ a b c e, LeO (g a b c e) (k ((((env.set i (.dat a)).set j (.dat b)).set l (.dat c)).set m (.dat e)))) : LeO (un4 d g) ((gTupD 4 (gsCons (gN i) (gsCons (gN j) (gsCons (gN l) (gsCons (gN m) gsNil)))) d env).bind k) := by
  unfold un4
  split
  · rename_i a b c e
    simp only [Nat.blt_eq] at hi hj hl hm
    simp only [e_gTupD, List.length_cons, List.length_nil, e_gsCons, e_gN, e_gsNil, List.length_set, hi, hj, hl, hm, if_true, Option.bind_some]
    exact h a b c e
  · exact fun a e => by cases e
end
end ML
/-! ML25: plain readings of effects and statements. -/
namespace ML
open PySem L2

/-- the piece fl does what r says -/
def SimK {τ : Type} (Φ : τ → Fl → Prop) (r : Po τ) (fl : Fl) : Prop := match r with
  | .bad => True
  | .err x => ∃ env, fl = .err env x
  | .ok v => Φ v fl
/-- the outcome of a def -/
def ΦF {ρ : Type} (T : ρ → Env → SV → Prop) (v : ρ) (fl : Fl) : Prop := ∃ env sv, (fl = .rt env sv ∨ (fl = .nx env ∧ sv = .dat .none)) ∧ T v env sv
/-- .. of a block that is left at its end -/
def ΦN {σ : Type} (N : σ → Env → Prop) (s : σ) (fl : Fl) : Prop := ∃ env, fl = .nx env ∧ N s env
/-- .. of a block that may return, or leave the loop -/
def ΦS {σ ρ : Type} (N : σ → Env → Prop) (T : ρ → Env → SV → Prop) (o : Step σ ρ) (fl : Fl) : Prop := match o with
  | .nx s => ∃ env, fl = .nx env ∧ N s env
  | .rt v => ∃ env sv, fl = .rt env sv ∧ T v env sv
  | .bk s => ∃ env, fl = .bk env ∧ N s env
/-- .. of a test, as a return -/
def ΦT {σ : Type} (N : σ → Env → Prop) (p : Bool × σ) (fl : Fl) : Prop := ∃ env, fl = .rt env (.dat (.bool p.1)) ∧ N p.2 env
/-- .. of an item of a comprehension -/
def ΦC {σ : Type} (N : σ → Env → Prop) (p : Option D × σ) (fl : Fl) : Prop := ∃ env, (match p.1 with | some d => fl = .rt env (.dat d) | none => fl = .nx env) ∧ N p.2 env
theorem xtup_v {q : Env → Option (List D)} {env : Env} {ds : List D} (h : q env = some ds) (hl : Nat.ble ds.length 1000 = true) : xTup q env = some (.tuple ds) := by
  have hl := Nat.le_of_ble_eq_true hl
  unfold xTup
  rw [h]
  exact if_pos (by rw [sizeLine_eq]; omega)
theorem olst_v {q : Env → Option (List D)} {env : Env} {ds : List D} (h : q env = some ds) (hl : Nat.ble ds.length 1000 = true) : oLst q env = some ds := by
  have hl := Nat.le_of_ble_eq_true hl
  unfold oLst
  rw [h]
  exact if_pos (by rw [sizeLine_eq]; omega)
theorem xl_v {o : Env → Option (List D)} {env : Env} {ds : List D} (h : o env = some ds) : xL o env = some (.list ds) := by
  unfold xL
  rw [h]
  rfl
theorem acons_v {p : Env → Option D} {q : Env → Option (List D)} {env : Env} {d : D} {ds : List D} (h : p env = some d) (h2 : q env = some ds) : aCons p q env = some (d :: ds) := by
  unfold aCons
  rw [h, h2]
  rfl
theorem lo_toI {d : D} : LeO ((toI d).map some) ((toI d).bind fun i => some (some i)) := fun a e => by
  cases d <;> first | (cases e; done) | (cases e; rfl)
theorem lo_tvOf {u : Env → Option Bool} {env : Env} {c : Option Bool} (h : LeO c (u env)) : LeO c (tOf (vOf u) env) := fun b e => by
  unfold tOf vOf
  rw [h b e]
  rfl
def ofl {α : Type} (o : Option α) (k : α → Fl) : Fl := match o with
  | some a => k a
  | none => .bad
def dOf : SV → Option D
  | .dat d => some d
  | .own none (.lst xs) => some (.list xs)
  | _ => none
section
variable {α β τ σ ρ : Type} {Φ : τ → Fl → Prop} {r : Po τ} {env : Env} {k : Env → Fl}
theorem sk_bad {fl : Fl} : SimK Φ .bad fl := trivial
theorem sk_up {p : Env → Option α} {s : Option α} {r : α → Po τ} {k : Env → α → Fl} (h : LeO s (p env)) (hk : ∀ a, SimK Φ (r a) (k env a)) : SimK Φ (s.po r) ((up p env).fl k) := by
  cases s with
  | none => exact trivial
  | some a =>
    unfold up
    rw [h a rfl]
    exact hk a
theorem sk_upv {p : Env → Option α} {a : α} {k : Env → α → Fl} (h : p env = some a) (hk : SimK Φ r (k env a)) : SimK Φ r ((up p env).fl k) := by
  unfold up
  rw [h]
  exact hk
theorem sk_up' {p : Env → Option D} {s : Option D} {r : D → Po τ} {k : Env → SV → Fl} (h : LeO s (p env)) (hk : ∀ a, SimK Φ (r a) (k env (.dat a))) : SimK Φ (s.po r) ((up' p env).fl k) := by
  cases s with
  | none => exact trivial
  | some a =>
    unfold up'
    rw [h a rfl]
    exact hk a
theorem sk_upO {p : Env → Option (List D)} {s : Option (List D)} {r : List D → Po τ} {k : Env → SV → Fl} (h : LeO s (p env)) (hk : ∀ a, SimK Φ (r a) (k env (.own none (.lst a)))) : SimK Φ (s.po r) ((upO p env).fl k) := by
  cases s with
  | none => exact trivial
  | some a =>
    unfold upO
    rw [h a rfl]
    exact hk a
theorem sk_up'v {p : Env → Option D} {a : D} {k : Env → SV → Fl} (h : p env = some a) (hk : SimK Φ r (k env (.dat a))) : SimK Φ r ((up' p env).fl k) := by
  unfold up'
  rw [h]
  exact hk
theorem sk_upOv {p : Env → Option (List D)} {a : List D} {k : Env → SV → Fl} (h : p env = some a) (hk : SimK Φ r (k env (.own none (.lst a)))) : SimK Φ r ((upO p env).fl k) := by
  unfold upO
  rw [h]
  exact hk
theorem sk_o {o : Option α} {r : α → Po τ} {k : α → Fl} (hk : ∀ a, SimK Φ (r a) (k a)) : SimK Φ (o.po r) (ofl o k) := by
  cases o with
  | none => exact trivial
  | some a => exact hk a
theorem sk_ov {o : Option α} {a : α} {k : α → Fl} (h : o = some a) (hk : SimK Φ r (k a)) : SimK Φ r (ofl o k) := by
  subst h
  exact hk
theorem sk_if {c : Bool} {r1 r2 : Po τ} {f1 f2 : Fl} (h1 : SimK Φ r1 f1) (h2 : SimK Φ r2 f2) : SimK Φ (if c then r1 else r2) (if c then f1 else f2) := by
  cases c with
  | true => exact h1
  | false => exact h2
def yV (m : Env → Res D) (env : Env) : Res SV := vRes (m env)
def yD (m : Env → Res SV) (env : Env) : Res D := dRes (m env)
def yB (m : Env → Res D) (env : Env) : Res Bool := bRes (m env)
def yTup (m : Env → Res (List D)) (env : Env) : Res D := (sized m env).bind fun env1 ds => .ok env1 (.tuple ds)
def yLst (m : Env → Res (List D)) (env : Env) : Res SV := (sized m env).bind fun env1 ds => .ok env1 (.own none (.lst ds))
theorem sk_yV {m : Env → Res D} {k : Env → SV → Fl} (h : SimK Φ r ((m env).fl fun e d => k e (.dat d))) : SimK Φ r ((yV m env).fl k) := by
  unfold yV
  cases em : m env <;> (rw [em] at h; exact h)
theorem sk_yD {m : Env → Res SV} {k : Env → D → Fl} (h : SimK Φ r ((m env).fl fun e s => ofl (dOf s) (k e))) : SimK Φ r ((yD m env).fl k) := by
  unfold yD
  cases em : m env with
  | ok en s =>
    rw [em] at h
    cases s with
    | own t c =>
      cases t with
      | none => cases c <;> exact h
      | some _ => cases c <;> exact h
    | _ => exact h
  | err en x => rw [em] at h; exact h
  | bad => rw [em] at h; exact h
theorem sk_yB {m : Env → Res D} {k : Env → Bool → Fl} (h : SimK Φ r ((m env).fl fun e d => ofl (toB d) (k e))) : SimK Φ r ((yB m env).fl k) := by
  unfold yB
  cases em : m env with
  | ok en d => rw [em] at h; cases d <;> exact h
  | err en x => rw [em] at h; exact h
  | bad => rw [em] at h; exact h
theorem fl_bind {f : Res α} {g : Env → α → Res β} {k : Env → β → Fl} : (f.bind g).fl k = f.fl fun e a => (g e a).fl k := by cases f <;> rfl
theorem ofl_fl {o : Option α} {k : Env → α → Fl} {e : Env} : (match o with | some z => Res.ok e z | none => .bad).fl k = ofl o (k e) := by cases o <;> rfl
theorem sk_yOp {f : D → D → Option D} {a b : Env → Res D} {k : Env → D → Fl} (h : SimK Φ r ((a env).fl fun e1 x => (b e1).fl fun e2 y => ofl (f x y) (k e2))) : SimK Φ r ((yOp f a b env).fl k) := by
  unfold yOp
  simp only [fl_bind]
  refine Eq.mp (congrArg (SimK Φ r) (congrArg _ ?_)) h
  funext e1 x
  refine congrArg _ ?_
  funext e2 y
  cases f x y <;> rfl
theorem sk_yCall {g : List D → Option D} {b : Env → Res (List D)} {k : Env → D → Fl} (h : SimK Φ r ((b env).fl fun e ds => ofl (g ds) (k e))) : SimK Φ r ((yCall g b env).fl k) := by
  unfold yCall
  simp only [fl_bind]
  refine Eq.mp (congrArg (SimK Φ r) (congrArg _ ?_)) h
  funext e1 x
  cases g x <;> rfl
theorem sk_yMt {f : D → D → Option D} {x : Str} {p : Env → Option D} {b : Env → Res D} {k : Env → D → Fl} (hp : p env = some (.str x)) (h : SimK Φ r ((b env).fl fun e2 y => ofl (f (.str x) y) (k e2))) : SimK Φ r ((yMt f (up p) b env).fl k) := by
  unfold yMt up
  rw [hp]
  simp only [e_bind, fl_bind]
  refine Eq.mp (congrArg (SimK Φ r) (congrArg _ ?_)) h
  funext e1 y
  cases f (.str x) y <;> rfl
theorem sk_yIf {u : Env → Res Bool} {a b : Env → Res α} {k : Env → α → Fl} (h : SimK Φ r ((u env).fl fun e c => if c then (a e).fl k else (b e).fl k)) : SimK Φ r ((yIf u a b env).fl k) := by
  unfold yIf
  rw [fl_bind]
  cases eu : u env with
  | ok e c => rw [eu] at h; cases c <;> exact h
  | err e x => rw [eu] at h; exact h
  | bad => rw [eu] at h; exact h
theorem sk_yAnd {u v : Env → Res Bool} {k : Env → Bool → Fl} (h : SimK Φ r ((u env).fl fun e c => if c then (v e).fl k else k e false)) : SimK Φ r ((yAnd u v env).fl k) := by
  unfold yAnd
  rw [fl_bind]
  cases eu : u env with
  | ok e c => rw [eu] at h; cases c <;> exact h
  | err e x => rw [eu] at h; exact h
  | bad => rw [eu] at h; exact h
theorem sk_yOr {u v : Env → Res Bool} {k : Env → Bool → Fl} (h : SimK Φ r ((u env).fl fun e c => if c then k e true else (v e).fl k)) : SimK Φ r ((yOr u v env).fl k) := by
  unfold yOr
  rw [fl_bind]
  cases eu : u env with
  | ok e c => rw [eu] at h; cases c <;> exact h
  | err e x => rw [eu] at h; exact h
  | bad => rw [eu] at h; exact h
theorem sk_yNot {u : Env → Res Bool} {k : Env → Bool → Fl} (h : SimK Φ r ((u env).fl fun e c => k e (!c))) : SimK Φ r ((yNot u env).fl k) := by
  unfold yNot
  rw [fl_bind]
  exact h
/-- a test whose outcome is used twice: by itself -/
theorem sk_test {N : σ → Env → Prop} {u : Env → Res Bool} {r0 : Po (Bool × σ)} {r1 : Bool × σ → Po τ} {k : Env → Bool → Fl} (h : SimK (ΦT N) r0 ((u env).fl fun e b => .rt e (.dat (.bool b)))) (hk : ∀ b s e, N s e → SimK Φ (r1 (b, s)) (k e b)) : SimK Φ (r0.bind r1) ((u env).fl k) := by
  cases r0 with
  | bad => exact trivial
  | err x =>
    obtain ⟨e, h⟩ := h
    cases eu : u env with
    | ok e c => rw [eu] at h; cases h
    | err e2 x2 => rw [eu] at h; cases h; exact ⟨e, rfl⟩
    | bad => rw [eu] at h; cases h
  | ok p =>
    obtain ⟨b, s⟩ := p
    obtain ⟨e, h, hn⟩ := h
    cases eu : u env with
    | ok e2 c => rw [eu] at h; cases h; exact hk b s e hn
    | err e2 x2 => rw [eu] at h; cases h
    | bad => rw [eu] at h; cases h
theorem sk_yNil {k : Env → List D → Fl} (h : SimK Φ r (k env [])) : SimK Φ r ((yNil env).fl k) := h
theorem sk_yCons {a : Env → Res D} {b : Env → Res (List D)} {k : Env → List D → Fl} (h : SimK Φ r ((a env).fl fun e1 x => (b e1).fl fun e2 ds => k e2 (x :: ds))) : SimK Φ r ((yCons a b env).fl k) := by
  unfold yCons
  simp only [fl_bind]
  exact h
def YL (q : Env → Res (List D)) (n : Nat) : Prop := ∀ env e ds, q env = .ok e ds → ds.length = n
theorem yl_nil : YL yNil 0 := fun env e ds h => by cases h; rfl
theorem yl_cons {a : Env → Res D} {q : Env → Res (List D)} {n : Nat} (h : YL q n) : YL (yCons a q) (n + 1) := fun env e ds hh => by
  unfold yCons at hh
  cases ea : a env with
  | ok e1 x =>
    rw [ea] at hh
    dsimp only [Res.bind] at hh
    cases eq : q e1 with
    | ok e2 es =>
      rw [eq] at hh
      cases hh
      rw [List.length_cons, h e1 _ es eq]
    | err _ _ => rw [eq] at hh; cases hh
    | bad => rw [eq] at hh; cases hh
  | err _ _ => rw [ea] at hh; cases hh
  | bad => rw [ea] at hh; cases hh
theorem sk_yTup {q : Env → Res (List D)} {n : Nat} {k : Env → D → Fl} (l : YL q n) (hn : Nat.ble n 1000 = true) (h : SimK Φ r ((q env).fl fun e ds => k e (.tuple ds))) : SimK Φ r ((yTup q env).fl k) := by
  have hn := Nat.le_of_ble_eq_true hn
  unfold yTup sized
  cases eq : q env with
  | ok e ds =>
    rw [eq] at h
    have := l env e ds eq
    rw [e_bind, if_pos (by rw [sizeLine_eq]; omega)]
    exact h
  | err _ _ => rw [eq] at h; exact h
  | bad => rw [eq] at h; exact h
theorem sk_yLst {q : Env → Res (List D)} {n : Nat} {k : Env → SV → Fl} (l : YL q n) (hn : Nat.ble n 1000 = true) (h : SimK Φ r ((q env).fl fun e ds => k e (.own none (.lst ds)))) : SimK Φ r ((yLst q env).fl k) := by
  have hn := Nat.le_of_ble_eq_true hn
  unfold yLst sized
  cases eq : q env with
  | ok e ds =>
    rw [eq] at h
    have := l env e ds eq
    rw [e_bind, if_pos (by rw [sizeLine_eq]; omega)]
    exact h
  | err _ _ => rw [eq] at h; exact h
  | bad => rw [eq] at h; exact h
theorem sk_yMv {i : Nat} {c : OC} {k : Env → SV → Fl} (hi : env[i]? = some (.own none c)) (h : SimK Φ r (k (env.set i .un) (.own none c))) : SimK Φ r ((yMv i env).fl k) := by
  unfold yMv
  rw [hi]
  exact h
theorem sk_yFz {i : Nat} {xs : List D} {k : Env → D → Fl} (hi : env[i]? = some (.own none (.lst xs))) (h : SimK Φ r (k (env.set i (.dat (.list xs))) (.list xs))) : SimK Φ r ((yFz i env).fl k) := by
  unfold yFz
  rw [hi]
  exact h
theorem sk_yFzd {i : Nat} {d : D} {k : Env → D → Fl} (hi : env[i]? = some (.dat d)) (h : SimK Φ r (k env d)) : SimK Φ r ((yFz i env).fl k) := by
  unfold yFz
  rw [hi]
  exact h
theorem sk_iOf {m : Env → Res D} {k : Env → List D → Fl} (h : SimK Φ r ((m env).fl fun e d => ofl (itemsOf d) (k e))) : SimK Φ r ((iOf m env).fl k) := by
  unfold iOf
  simp only [fl_bind]
  refine Eq.mp (congrArg (SimK Φ r) (congrArg _ ?_)) h
  funext e1 y
  cases itemsOf y <;> rfl
theorem sk_iRange1 {a : Env → Res D} {k : Env → List D → Fl} (h : SimK Φ r ((a env).fl fun e d => ofl (range1O d) (k e))) : SimK Φ r ((iRange1 (yCons a yNil) env).fl k) := by
  unfold iRange1 yCons yNil
  simp only [fl_bind, e_bind]
  cases ea : a env with
  | ok e d =>
    rw [ea] at h
    cases d with
    | int j =>
      unfold range1O at h
      simp only [e_fl, e_bind] at h ⊢
      split at h
      · rename_i hj
        rw [if_pos hj]
        exact h
      · rename_i hj
        rw [if_neg hj]
        exact h
    | _ => exact h
  | err _ _ => rw [ea] at h; exact h
  | bad => rw [ea] at h; exact h
theorem sk_iRange2 {a b : Env → Res D} {k : Env → List D → Fl} (h : SimK Φ r ((a env).fl fun e1 c => (b e1).fl fun e d => ofl (range2O c d) (k e))) : SimK Φ r ((iRange2 (yCons a (yCons b yNil)) env).fl k) := by
  unfold iRange2 yCons yNil
  simp only [fl_bind, e_bind]
  cases ea : a env with
  | ok e1 c =>
    rw [ea] at h
    simp only [e_fl] at h ⊢
    cases eb : b e1 with
    | ok e d =>
      rw [eb] at h
      cases c with
      | int i =>
        cases d with
        | int j =>
          unfold range2O at h
          simp only [e_fl, e_bind] at h ⊢
          split at h
          · rename_i hj
            rw [if_pos hj]
            exact h
          · rename_i hj
            rw [if_neg hj]
            exact h
        | _ => exact h
      | _ => cases d <;> exact h
    | err _ _ => rw [eb] at h; exact h
    | bad => rw [eb] at h; exact h
  | err _ _ => rw [ea] at h; exact h
  | bad => rw [ea] at h; exact h

/-! ### calls -/
/-- what a def does, at these arguments -/
def LeF (T : ρ → Env → SV → Prop) (r : Po ρ) (o : Res SV) : Prop := match r with
  | .bad => True
  | .err x => ∃ env, o = .err env x
  | .ok v => ∃ env sv, o = .ok env sv ∧ T v env sv
def TD (d : D) (_ : Env) (sv : SV) : Prop := sv = .dat d
def TL (xs : List D) (_ : Env) (sv : SV) : Prop := sv = .own none (.lst xs)
/-- .. with a first argument that is changed -/
def TDm (p : D × List D) (env : Env) (sv : SV) : Prop := sv = .dat p.1 ∧ env[0]? = some (.own (some 0) (.lst p.2))
def TLm (p : List D × List D) (env : Env) (sv : SV) : Prop := sv = .own none (.lst p.1) ∧ env[0]? = some (.own (some 0) (.lst p.2))
theorem LeF.toO {f : Po D} {o : Res SV} (h : LeF TD f o) : LeO f.toO (pureOf o) := fun d e => by
  cases f with
  | ok a =>
    cases e
    obtain ⟨env, sv, rfl, h2⟩ := h
    cases h2
    rfl
  | err _ => cases e
  | bad => cases e
theorem LeF.toL {f : Po (List D)} {o : Res SV} (h : LeF TL f o) : LeO f.toL (pureOf o) := fun d e => by
  cases f with
  | ok a =>
    cases e
    obtain ⟨env, sv, rfl, h2⟩ := h
    cases h2
    rfl
  | err _ => cases e
  | bad => cases e
/-- a def from its body -/
theorem sk_body {np n : Nat} {g : Env → Fl} {args : List SV} {env0 : Env} {T : ρ → Env → SV → Prop} {r : Po ρ} (hl : args.length = np) (he : args ++ List.replicate (n - np) .un = env0) (h : SimK (ΦF T) r (g env0)) : LeF T r (bodyF np n g args) := by
  subst he
  unfold bodyF
  rw [if_pos hl]
  cases r with
  | bad => exact trivial
  | err x =>
    obtain ⟨env, e⟩ := h
    rw [e]
    exact ⟨env, rfl⟩
  | ok v =>
    obtain ⟨env, sv, e | ⟨e, rfl⟩, t⟩ := h
    · rw [e]
      exact ⟨env, sv, rfl, t⟩
    · rw [e]
      exact ⟨env, _, rfl, t⟩
theorem sk_cNil {k : Env → List AV → Fl} (h : SimK Φ r (k env [])) : SimK Φ r ((cNil env).fl k) := h
theorem sk_cCons {a : Env → Res D} {b : Env → Res (List AV)} {k : Env → List AV → Fl} (h : SimK Φ r ((a env).fl fun e1 x => (b e1).fl fun e2 ds => k e2 (.d x :: ds))) : SimK Φ r ((cCons a b env).fl k) := by
  unfold cCons
  simp only [fl_bind]
  exact h
theorem sk_cSlotO {i : Nat} {t : Option Nat} {c : OC} {b : Env → Res (List AV)} {k : Env → List AV → Fl} (hi : env[i]? = some (.own t c)) (h : SimK Φ r ((b env).fl fun e2 ds => k e2 (.sl i :: ds))) : SimK Φ r ((cSlot i b env).fl k) := by
  unfold cSlot
  rw [hi]
  simp only [fl_bind]
  exact h
theorem sk_cSlotF {i : Nat} {xs : List D} {b : Env → Res (List AV)} {k : Env → List AV → Fl} (hi : env[i]? = some (.frz xs)) (h : SimK Φ r ((b env).fl fun e2 ds => k e2 (.sl i :: ds))) : SimK Φ r ((cSlot i b env).fl k) := by
  unfold cSlot
  rw [hi]
  simp only [fl_bind]
  exact h
theorem sk_cSlotD {i : Nat} {d : D} {b : Env → Res (List AV)} {k : Env → List AV → Fl} (hi : env[i]? = some (.dat d)) (h : SimK Φ r ((b env).fl fun e2 ds => k e2 (.sl i :: ds))) : SimK Φ r ((cSlot i b env).fl k) := by
  unfold cSlot
  rw [hi]
  simp only [fl_bind]
  exact h
def callK (F : List SV → Res SV) (avs : List AV) (env1 : Env) : Res SV :=
  match argsOf avs env1 0 with
  | none => .bad
  | some (args, out) => match F args with
    | .ok e' r => match backE avs env1 out e' 0 with
      | some env2 => match r with
        | .own (some _) _ => .bad
        | .un => .bad
        | .frz _ => .bad
        | r => .ok env2 r
      | none => .bad
    | .err e' x => match backE avs env1 out e' 0 with
      | some env2 => .err env2 x
      | none => .bad
    | .bad => .bad
theorem sk_yFn {F : List SV → Res SV} {a : Env → Res (List AV)} {k : Env → SV → Fl} (h : SimK Φ r ((a env).fl fun e avs => (callK F avs e).fl k)) : SimK Φ r ((yFn F a env).fl k) := by
  have e : yFn F a env = (a env).bind fun env1 avs => callK F avs env1 := rfl
  rw [e, fl_bind]
  exact h
/-- arguments that are not changed: data, the script -/
def avD : List AV → Env → Option (List SV)
  | [], _ => some []
  | .d x :: r, env => (avD r env).map fun l => .dat x :: l
  | .sl i :: r, env => match env[i]? with
    | some (.dat x) => (avD r env).map fun l => .dat x :: l
    | some (.frz xs) => (avD r env).map fun l => .frz xs :: l
    | _ => none
theorem avD_args : ∀ {avs : List AV} {env : Env} {args : List SV} (j : Nat), avD avs env = some args → argsOf avs env j = some (args, env)
  | [], env, args, j, h => by cases h; rfl
  | .d x :: r, env, args, j, h => by
    unfold avD at h
    obtain ⟨l, h1, rfl⟩ := Option.map_eq_some_iff.mp h
    unfold argsOf
    rw [avD_args (j + 1) h1]
    rfl
  | .sl i :: r, env, args, j, h => by
    unfold avD at h
    unfold argsOf
    split at h
    · rename_i e
      obtain ⟨l, h1, rfl⟩ := Option.map_eq_some_iff.mp h
      rw [e]
      dsimp only
      rw [avD_args (j + 1) h1]
      rfl
    · rename_i e
      obtain ⟨l, h1, rfl⟩ := Option.map_eq_some_iff.mp h
      rw [e]
      dsimp only
      rw [avD_args (j + 1) h1]
      rfl
    · cases h
theorem avD_back : ∀ {avs : List AV} {env : Env} {args : List SV} (j : Nat) (cur e' : Env), avD avs env = some args → backE avs env cur e' j = some cur
  | [], env, args, j, cur, e', h => rfl
  | .d x :: r, env, args, j, cur, e', h => by
    unfold avD at h
    obtain ⟨l, h1, rfl⟩ := Option.map_eq_some_iff.mp h
    unfold backE
    exact avD_back (j + 1) cur e' h1
  | .sl i :: r, env, args, j, cur, e', h => by
    unfold avD at h
    unfold backE
    split at h
    · rename_i e
      obtain ⟨l, h1, rfl⟩ := Option.map_eq_some_iff.mp h
      rw [e]
      exact avD_back (j + 1) cur e' h1
    · rename_i e
      obtain ⟨l, h1, rfl⟩ := Option.map_eq_some_iff.mp h
      rw [e]
      exact avD_back (j + 1) cur e' h1
    · cases h
theorem sk_callD {F : List SV → Res SV} {avs : List AV} {args : List SV} {f : Po D} {r1 : D → Po τ} {k : Env → SV → Fl} (ha : avD avs env = some args) (hF : LeF TD f (F args)) (h : ∀ d, SimK Φ (r1 d) (k env (.dat d))) : SimK Φ (f.bind r1) ((callK F avs env).fl k) := by
  unfold callK
  rw [avD_args 0 ha]
  dsimp only
  cases f with
  | bad => exact trivial
  | err x =>
    obtain ⟨e, hF⟩ := hF
    rw [hF]
    dsimp only
    rw [avD_back 0 env e ha]
    exact ⟨env, rfl⟩
  | ok d =>
    obtain ⟨e, sv, hF, hT⟩ := hF
    cases hT
    rw [hF]
    dsimp only
    rw [avD_back 0 env e ha]
    exact h d
theorem sk_callL {F : List SV → Res SV} {avs : List AV} {args : List SV} {f : Po (List D)} {r1 : List D → Po τ} {k : Env → SV → Fl} (ha : avD avs env = some args) (hF : LeF TL f (F args)) (h : ∀ d, SimK Φ (r1 d) (k env (.own none (.lst d)))) : SimK Φ (f.bind r1) ((callK F avs env).fl k) := by
  unfold callK
  rw [avD_args 0 ha]
  dsimp only
  cases f with
  | bad => exact trivial
  | err x =>
    obtain ⟨e, hF⟩ := hF
    rw [hF]
    dsimp only
    rw [avD_back 0 env e ha]
    exact ⟨env, rfl⟩
  | ok d =>
    obtain ⟨e, sv, hF, hT⟩ := hF
    cases hT
    rw [hF]
    dsimp only
    rw [avD_back 0 env e ha]
    exact h d
/-- the first argument an own list that is changed, the others data -/
theorem sk_callm {F : List SV → Res SV} {i : Nat} {avs : List AV} {args : List SV} {t : Option Nat} {xs : List D} {f : Po (ρ × List D)} {r1 : ρ × List D → Po τ} {k : Env → SV → Fl} {T : ρ → SV} (hT : ∀ v, okR (T v)) (hi : env[i]? = some (.own t (.lst xs))) (ha : avD avs (env.set i .un) = some args)
    (hF : LeF (fun p e sv => sv = T p.1 ∧ e[0]? = some (.own (some 0) (.lst p.2))) f (F (.own (some 0) (.lst xs) :: args))) (h : ∀ v ys, SimK Φ (r1 (v, ys)) (k (env.set i (.own t (.lst ys))) (T v))) (hb : ∀ (cur e' : Env), backE avs env cur e' 1 = some cur) : SimK Φ (f.bindS r1) ((callK F (.sl i :: avs) env).fl k) := by
  cases f with
  | bad => exact trivial
  | err x => exact trivial
  | ok p =>
    obtain ⟨v, ys⟩ := p
    obtain ⟨e, sv, hF, rfl, hT0⟩ := hF
    dsimp only at hT0
    have hl : i < env.length := (List.getElem?_eq_some_iff.mp hi).1
    unfold callK
    rw [argsOf, hi]
    dsimp only
    rw [avD_args 1 ha]
    dsimp only [Option.map]
    rw [hF]
    dsimp only
    rw [backE, hi]
    dsimp only
    rw [hT0]
    dsimp only
    rw [List.length_set, if_pos ⟨rfl, hl⟩, hb, List.set_set]
    have h2 := hT v
    show SimK Φ (r1 (v, ys)) _
    have h3 := h v ys
    cases eT : T v with
    | dat d => rw [eT] at h3; exact h3
    | raw d => rw [eT] at h3; exact h3
    | own t2 c =>
      rw [eT] at h3 h2
      cases t2 with
      | none => exact h3
      | some _ => exact h2.elim
    | un => rw [eT] at h2; exact h2.elim
    | frz _ => rw [eT] at h2; exact h2.elim
theorem sk_callDm {F : List SV → Res SV} {i : Nat} {avs : List AV} {args : List SV} {t : Option Nat} {xs : List D} {f : Po (D × List D)} {r1 : D × List D → Po τ} {k : Env → SV → Fl} (hi : env[i]? = some (.own t (.lst xs))) (ha : avD avs (env.set i .un) = some args)
    (hF : LeF TDm f (F (.own (some 0) (.lst xs) :: args))) (h : ∀ v ys, SimK Φ (r1 (v, ys)) (k (env.set i (.own t (.lst ys))) (.dat v))) (hb : ∀ (cur e' : Env), backE avs env cur e' 1 = some cur := by intro _ _; rfl) : SimK Φ (f.bindS r1) ((callK F (.sl i :: avs) env).fl k) :=
  sk_callm (T := .dat) (fun _ => trivial) hi ha hF h hb
theorem sk_callLm {F : List SV → Res SV} {i : Nat} {avs : List AV} {args : List SV} {t : Option Nat} {xs : List D} {f : Po (List D × List D)} {r1 : List D × List D → Po τ} {k : Env → SV → Fl} (hi : env[i]? = some (.own t (.lst xs))) (ha : avD avs (env.set i .un) = some args)
    (hF : LeF TLm f (F (.own (some 0) (.lst xs) :: args))) (h : ∀ v ys, SimK Φ (r1 (v, ys)) (k (env.set i (.own t (.lst ys))) (.own none (.lst v)))) (hb : ∀ (cur e' : Env), backE avs env cur e' 1 = some cur := by intro _ _; rfl) : SimK Φ (f.bindS r1) ((callK F (.sl i :: avs) env).fl k) :=
  sk_callm (T := fun v => .own none (.lst v)) (fun _ => trivial) hi ha hF h hb
/-- the first argument a new list -/
def callT (F : List SV → Res SV) (sv : SV) (ds : List D) (env2 : Env) : Res SV := match sv with
  | .own none c => match F (.own (some 0) c :: ds.map .dat) with
    | .ok _ r => match r with
      | .own (some _) _ => .bad
      | .un => .bad
      | .frz _ => .bad
      | r => .ok env2 r
    | .err _ x => .err env2 x
    | .bad => .bad
  | _ => .bad
theorem sk_yFnT {F : List SV → Res SV} {a : Env → Res SV} {b : Env → Res (List D)} {k : Env → SV → Fl} (h : SimK Φ r ((a env).fl fun e1 sv => (b e1).fl fun e2 ds => (callT F sv ds e2).fl k)) : SimK Φ r ((yFnT F a b env).fl k) := by
  have e : yFnT F a b env = (a env).bind fun env1 sv => (b env1).bind fun env2 ds => callT F sv ds env2 := rfl
  rw [e]
  simp only [fl_bind]
  exact h
theorem sk_callT {F : List SV → Res SV} {ds : List D} {xs : List D} {f : Po (D × List D)} {r1 : D × List D → Po τ} {k : Env → SV → Fl} (hF : LeF TDm f (F (.own (some 0) (.lst xs) :: ds.map .dat))) (h : ∀ v ys, SimK Φ (r1 (v, ys)) (k env (.dat v))) : SimK Φ (f.bindS r1) ((callT F (.own none (.lst xs)) ds env).fl k) := by
  cases f with
  | bad => exact trivial
  | err x => exact trivial
  | ok p =>
    obtain ⟨v, ys⟩ := p
    obtain ⟨e, sv, hF, rfl, hT0⟩ := hF
    unfold callT
    dsimp only
    rw [hF]
    exact h v ys
end
end ML
/-! ML26: plain readings of statements, loops, comprehensions with effects. -/
namespace ML
open PySem L2
section
variable {α β τ σ ρ : Type} {Φ : τ → Fl → Prop} {r : Po τ} {env : Env} {g k : Env → Fl} {N : σ → Env → Prop} {T : ρ → Env → SV → Prop}
theorem fl_then {f : Res α} {h : Env → α → Fl} : (f.fl h).then k = f.fl fun e a => (h e a).then k := by cases f <;> rfl
theorem ofl_then {o : Option α} {h : α → Fl} : (ofl o h).then k = ofl o fun a => (h a).then k := by cases o <;> rfl
/-! ends -/
theorem s_nilF {v : ρ} (h : T v env (.dat .none)) : SimK (ΦF T) (.ok v) (sNil env) := ⟨env, _, .inr ⟨rfl, rfl⟩, h⟩
theorem s_nilN {s : σ} (h : N s env) : SimK (ΦN N) (.ok s) (sNil env) := ⟨env, rfl, h⟩
theorem s_nilS {s : σ} (h : N s env) : SimK (ΦS N T) (.ok (.nx s)) (sNil env) := ⟨env, rfl, h⟩
theorem s_nxN {s : σ} (h : N s env) : SimK (ΦN N) (.ok s) (.nx env) := ⟨env, rfl, h⟩
theorem s_nxS {s : σ} (h : N s env) : SimK (ΦS N T) (.ok (.nx s)) (.nx env) := ⟨env, rfl, h⟩
theorem s_rtF {v : ρ} {sv : SV} (h : T v env sv) : SimK (ΦF T) (.ok v) (.rt env sv) := ⟨env, sv, .inl rfl, h⟩
theorem s_rtS {v : ρ} {sv : SV} (h : T v env sv) : SimK (ΦS N T) (.ok (.rt v)) (.rt env sv) := ⟨env, sv, rfl, h⟩
theorem s_rtT {b : Bool} {s : σ} (h : N s env) : SimK (ΦT N) (.ok (b, s)) (.rt env (.dat (.bool b))) := ⟨env, rfl, h⟩
theorem s_rtC {d : D} {s : σ} (h : N s env) : SimK (ΦC N) (.ok (some d, s)) (.rt env (.dat d)) := ⟨env, rfl, h⟩
theorem s_nxC {s : σ} (h : N s env) : SimK (ΦC N) (.ok (none, s)) (.nx env) := ⟨env, rfl, h⟩
theorem s_brk {s : σ} (h : N s env) : SimK (ΦS N T) (.ok (.bk s)) (sSeq sBreak k env) := ⟨env, rfl, h⟩
theorem s_ret {f : Env → Res SV} (h : SimK Φ r ((f env).fl fun e sv => .rt e sv)) : SimK Φ r (sSeq (sRet f) k env) := by
  unfold sSeq sRet
  rw [fl_then]
  exact h
theorem s_retN (h : SimK Φ r (.rt env (.dat .none))) : SimK Φ r (sSeq sRetN k env) := h
theorem s_never : SimK Φ .bad (sSeq sNever k env) := trivial
/-! x = e -/
theorem s_set {i : Nat} {f : Env → Res SV} (h : SimK Φ r ((f env).fl fun e sv => (if i < e.length then Fl.nx (e.set i sv) else .bad).then k)) : SimK Φ r (sSeq (sSet i f) k env) := by
  unfold sSeq sSet
  rw [fl_then]
  exact h
theorem s_put {i : Nat} {sv : SV} (h : Nat.blt i env.length = true) (hk : SimK Φ r (k (env.set i sv))) : SimK Φ r ((if i < env.length then Fl.nx (env.set i sv) else .bad).then k) := by
  rw [if_pos (by simpa using h)]
  exact hk
theorem s_par {i j : Nat} {fa fb : Env → Res SV} (h : SimK Φ r ((fa env).fl fun e1 a => (fb e1).fl fun e2 b => (if i < e2.length ∧ j < e2.length then Fl.nx ((e2.set j b).set i a) else .bad).then k)) : SimK Φ r (sSeq (sPar i j fa fb) k env) := by
  unfold sSeq sPar
  simp only [fl_then]
  exact h
theorem s_put2 {i j : Nat} {a b : SV} (h : Nat.blt i env.length = true) (h2 : Nat.blt j env.length = true) (hk : SimK Φ r (k ((env.set j b).set i a))) : SimK Φ r ((if i < env.length ∧ j < env.length then Fl.nx ((env.set j b).set i a) else .bad).then k) := by
  rw [if_pos ⟨by simpa using h, by simpa using h2⟩]
  exact hk
theorem s_par3 {i j l : Nat} {fa fb fc : Env → Res SV} (h : SimK Φ r ((fa env).fl fun e1 a => (fb e1).fl fun e2 b => (fc e2).fl fun e3 c => (if i < e3.length ∧ j < e3.length ∧ l < e3.length then Fl.nx (((e3.set l c).set j b).set i a) else .bad).then k)) : SimK Φ r (sSeq (sPar3 i j l fa fb fc) k env) := by
  unfold sSeq sPar3
  simp only [fl_then]
  exact h
theorem s_put3 {i j l : Nat} {a b c : SV} (h : Nat.blt i env.length = true) (h2 : Nat.blt j env.length = true) (h3 : Nat.blt l env.length = true) (hk : SimK Φ r (k (((env.set l c).set j b).set i a))) : SimK Φ r ((if i < env.length ∧ j < env.length ∧ l < env.length then Fl.nx (((env.set l c).set j b).set i a) else .bad).then k) := by
  rw [if_pos ⟨by simpa using h, by simpa using h2, by simpa using h3⟩]
  exact hk
theorem s_asg {f : Env → Res D} {gt : D → Env → Option Env} (h : SimK Φ r ((f env).fl fun e d => ofl (gt d e) k)) : SimK Φ r (sSeq (sAsg f gt) k env) := by
  unfold sSeq sAsg
  rw [fl_then]
  refine Eq.mp (congrArg (SimK Φ r) (congrArg _ ?_)) h
  funext e d
  cases gt d e <;> rfl
theorem so_gN {i : Nat} {d : D} {K : Env → Fl} (hi : Nat.blt i env.length = true) (h : SimK Φ r (K (env.set i (.dat d)))) : SimK Φ r (ofl (gN i d env) K) := by
  unfold gN
  rw [if_pos (by simpa using hi)]
  exact h
theorem so_g2 {d : D} {i j : Nat} {K : Env → Fl} {g : D → D → Po τ} (hi : Nat.blt i env.length = true) (hj : Nat.blt j env.length = true) (h : ∀ a b, SimK Φ (g a b) (K ((env.set i (.dat a)).set j (.dat b)))) : SimK Φ (pn2 d g) (ofl (gTupD 2 (gsCons (gN i) (gsCons (gN j) gsNil)) d env) K) := by
  unfold pn2
  split
  · rename_i a b
    simp only [Nat.blt_eq] at hi hj
    simp only [e_gTupD, List.length_cons, List.length_nil, e_gsCons, e_gN, e_gsNil, List.length_set, hi, hj, if_true, Option.bind_some]
    exact h a b
  · exact trivial
theorem so_g3 {d : D} {i j l : Nat} {K : Env → Fl} {g : D → D → D → Po τ} (hi : Nat.blt i env.length = true) (hj : Nat.blt j env.length = true) (hl : Nat.blt l env.length = true) (h : ∀ a b c, SimK Φ (g a b c) (K (((env.set i (.dat a)).set j (.dat b)).set l (.dat c)))) : SimK Φ (pn3 d g) (ofl (gTupD 3 (gsCons (gN i) (gsCons (gN j) (gsCons (gN l) gsNil))) d env) K) := by
  unfold pn3
  split
  · rename_i a b c
    simp only [Nat.blt_eq] at hi hj hl
    simp only [e_gTupD, List.length_cons, List.length_nil, e_gsCons, e_gN, e_gsNil, List.length_set, hi, hj, hl, if_true, Option.bind_some]
    exact h a b c
  · exact trivial
theorem so_g4 {d : D} {i j l m : Nat} {K : Env → Fl} {g : D → D → D → D → Po τ} (hi : Nat.blt i env.length = true) (hj : Nat.blt j env.length = true) (hl : Nat.blt l env.length = true) (hm : Nat.blt m env.length = true) (h : ∀ a b c e, SimK Φ (g a b c e) (K ((((env.set i (.dat a)).set j (.dat b)).set l (.dat c)).set m (.dat e)))) : SimK Φ (pn4 d g) (ofl (gTupD 4 (gsCons (gN i) (gsCons (gN j) (gsCons (gN l) (gsCons (gN m) gsNil)))) d env) K) := by
  unfold pn4
  split
  · rename_i a b c e
    simp only [Nat.blt_eq] at hi hj hl hm
    simp only [e_gTupD, List.length_cons, List.length_nil, e_gsCons, e_gN, e_gsNil, List.length_set, hi, hj, hl, hm, if_true, Option.bind_some]
    exact h a b c e
  · exact trivial
def ixK (i : Nat) (e : Env) (d : D) (n : Option D) (k : Env → Fl) : Fl := (match ownL e i, n with
  | some (tag, xs), some (.int n) => match ixN xs.length n with
    | some j => Fl.nx (e.set i (.own tag (.lst (xs.set j d))))
    | none => .bad
  | _, _ => .bad).then k
theorem s_setIx {i : Nat} {f : Env → Res D} {q : Env → Option D} (h : SimK Φ r ((f env).fl fun e d => ixK i e d (q e) k)) : SimK Φ r (sSeq (sSetIx i f q) k env) := by
  unfold sSeq
  rw [e_sSetIx, fl_then]
  exact h
theorem so_setIx {i : Nat} {t : Option Nat} {xs : List D} {d : D} {q s : Option D} {r : List D → Po τ} (hi : env[i]? = some (.own t (.lst xs))) (hq : LeO s q) (hk : ∀ ys, SimK Φ (r ys) (k (env.set i (.own t (.lst ys))))) : SimK Φ (s.po fun n => setIxP xs n d r) (ixK i env d q k) := by
  cases s with
  | none => exact trivial
  | some n =>
    rw [hq n rfl]
    unfold ixK ownL
    rw [hi]
    dsimp only
    show SimK Φ (setIxP xs n d r) _
    cases n with
    | int n =>
      unfold setIxP
      dsimp only
      cases ixN xs.length n with
      | none => exact trivial
      | some j => exact hk _
    | _ => exact trivial
def augK (i : Nat) (e : Env) (o : Option D) (k : Env → Fl) : Fl := ofl o fun z => (if i < e.length then Fl.nx (e.set i (.dat z)) else .bad).then k
theorem s_aug {i : Nat} {g : D → D → Option D} {fe : Env → Res D} {x : D} (hi : env[i]? = some (.dat x)) (h : SimK Φ r ((fe env).fl fun e d => ofl (g x d) fun z => (if i < e.length then Fl.nx (e.set i (.dat z)) else .bad).then k)) : SimK Φ r (sSeq (sAug i g fe) k env) := by
  unfold sSeq sAug
  rw [hi]
  dsimp only
  rw [fl_then]
  refine Eq.mp (congrArg (SimK Φ r) (congrArg _ ?_)) h
  funext e d
  cases g x d <;> rfl
theorem s_drop {f : Env → Res SV} (h : SimK Φ r ((f env).fl fun e _ => k e)) : SimK Φ r (sSeq (sDrop f) k env) := by
  unfold sSeq sDrop
  rw [fl_then]
  exact h
def appK (i : Nat) (e : Env) (d : D) (k : Env → Fl) : Fl := (match ownL e i with
    | some (tag, xs) => if xs.length < sizeLine then Fl.nx (e.set i (.own tag (.lst (xs ++ [d])))) else .bad
    | none => .bad).then k
theorem s_app {i : Nat} {f : Env → Res D} {t : Option Nat} {xs : List D} (hi : env[i]? = some (.own t (.lst xs))) (h : SimK Φ r ((f env).fl fun e d => appK i e d k)) : SimK Φ r (sSeq (sAppend i f) k env) := by
  unfold sSeq sAppend
  rw [e_ownL, hi]
  dsimp only
  rw [fl_then]
  exact h
theorem so_app {i : Nat} {t : Option Nat} {xs : List D} {d : D} {r : List D → Po τ} (hi : env[i]? = some (.own t (.lst xs))) (hk : ∀ ys, SimK Φ (r ys) (k (env.set i (.own t (.lst ys))))) : SimK Φ (pushP xs d r) (appK i env d k) := by
  unfold appK pushP
  rw [e_ownL, hi]
  dsimp only
  rw [sizeLine_eq]
  split
  · exact hk _
  · exact trivial
def extK (i : Nat) (e : Env) (d : D) (k : Env → Fl) : Fl := (match ownL e i, d with
    | some (tag, xs), .list ys => if xs.length + ys.length ≤ sizeLine then Fl.nx (e.set i (.own tag (.lst (xs ++ ys)))) else .bad
    | some (tag, xs), .tuple ys => if xs.length + ys.length ≤ sizeLine then Fl.nx (e.set i (.own tag (.lst (xs ++ ys)))) else .bad
    | _, _ => .bad).then k
theorem s_ext {i : Nat} {f : Env → Res D} {t : Option Nat} {xs : List D} (hi : env[i]? = some (.own t (.lst xs))) (h : SimK Φ r ((f env).fl fun e d => extK i e d k)) : SimK Φ r (sSeq (sExtend i f) k env) := by
  unfold sSeq sExtend
  rw [e_ownL, hi]
  dsimp only
  rw [fl_then]
  exact h
theorem so_ext {i : Nat} {t : Option Nat} {xs : List D} {d : D} {r : List D → Po τ} (hi : env[i]? = some (.own t (.lst xs))) (hk : ∀ ys, SimK Φ (r ys) (k (env.set i (.own t (.lst ys))))) : SimK Φ (extendP xs d r) (extK i env d k) := by
  unfold extK
  rw [e_ownL, hi]
  cases d with
  | list ys =>
    unfold extendP
    dsimp only
    rw [sizeLine_eq]
    split
    · exact hk _
    · exact trivial
  | tuple ys =>
    unfold extendP
    dsimp only
    rw [sizeLine_eq]
    split
    · exact hk _
    · exact trivial
  | _ => exact trivial
/-! if -/
theorem s_if {u : Env → Res Bool} {g h : Env → Fl} (hh : SimK Φ r ((u env).fl fun e b => if b then (g e).then k else (h e).then k)) : SimK Φ r (sSeq (sIf u g h) k env) := by
  unfold sSeq sIf
  rw [fl_then]
  refine Eq.mp (congrArg (SimK Φ r) (congrArg _ ?_)) hh
  funext e b
  cases b <;> rfl
theorem s_if1 {u : Env → Res Bool} {g h : Env → Fl} (hh : SimK Φ r ((u env).fl fun e b => if b then g e else h e)) : SimK Φ r (sIf u g h env) := hh
/-- a block goes on with what follows -/
theorem then_nil {fl : Fl} : fl.then sNil = fl := by cases fl <;> rfl
theorem seq_assoc {a b c : Env → Fl} : (sSeq a b env).then c = sSeq a (fun e => (b e).then c) env := by
  unfold sSeq
  cases a env <;> rfl
theorem s_then {a b : Env → Fl} (h : SimK Φ r (sSeq a (fun e => (b e).then k) env)) : SimK Φ r ((sSeq a b env).then k) := by
  rw [seq_assoc]
  exact h
theorem s_thenNil (h : SimK Φ r (k env)) : SimK Φ r ((sNil env).then k) := h
/-- a block, and what follows it -/
theorem s_blk {r0 : Po σ} {r1 : σ → Po τ} (h : SimK (ΦN N) r0 (g env)) (hk : ∀ s e, N s e → SimK Φ (r1 s) (k e)) : SimK Φ (r0.bind r1) (sSeq g k env) := by
  unfold sSeq
  cases r0 with
  | bad => exact trivial
  | err x =>
    obtain ⟨e, h⟩ := h
    rw [h]
    exact ⟨e, rfl⟩
  | ok s =>
    obtain ⟨e, h, hn⟩ := h
    rw [h]
    exact hk s e hn
theorem s_blkS {r0 : Po (Step σ ρ)} {r1 : σ → Po τ} {e1 : ρ → Po τ} (h : SimK (ΦS N T) r0 (g env)) (hk : ∀ s e, N s e → SimK Φ (r1 s) (k e)) (he : ∀ v e sv, T v e sv → SimK Φ (e1 v) (.rt e sv)) : SimK Φ (r0.thenS r1 e1) (sSeq g k env) := by
  unfold sSeq
  cases r0 with
  | bad => exact trivial
  | err x =>
    obtain ⟨e, h⟩ := h
    rw [h]
    exact ⟨e, rfl⟩
  | ok o =>
    cases o with
    | nx s =>
      obtain ⟨e, h, hn⟩ := h
      rw [h]
      exact hk s e hn
    | rt v =>
      obtain ⟨e, sv, h, hn⟩ := h
      rw [h]
      exact he v e sv hn
    | bk s => exact trivial
theorem s_reF (v : ρ) (e : Env) (sv : SV) (h : T v e sv) : SimK (ΦF T) (.ok v) (.rt e sv) := s_rtF h
theorem s_reS (v : ρ) (e : Env) (sv : SV) (h : T v e sv) : SimK (ΦS N T) (.ok (.rt v)) (.rt e sv) := s_rtS h
/-! loops -/
theorem s_for {fi : Env → Res (List D)} {gt : D → Env → Option Env} (h : SimK Φ r ((fi env).fl fun e ds => (forF gt g ds e).then k)) : SimK Φ r (sSeq (sFor fi gt g) k env) := by
  unfold sSeq sFor
  rw [fl_then]
  exact h
theorem forN_sim {gt : D → Env → Option Env} {f : D → σ → Po σ} (h : ∀ d s e, N s e → SimK (ΦN N) (f d s) (ofl (gt d e) g)) : ∀ (ds : List D) (s : σ) (env : Env), N s env → SimK (ΦN N) (forN f ds s) (forF gt g ds env)
  | [], s, env, hn => ⟨env, rfl, hn⟩
  | d :: ds, s, env, hn => by
    have h1 := h d s env hn
    unfold forN forF
    cases eg : gt d env with
    | none =>
      rw [eg] at h1
      cases ef : f d s with
      | bad => exact trivial
      | err x => rw [ef] at h1; obtain ⟨_, h1⟩ := h1; cases h1
      | ok s1 => rw [ef] at h1; obtain ⟨_, h1, _⟩ := h1; cases h1
    | some e1 =>
      rw [eg] at h1
      dsimp only [ofl] at h1 ⊢
      cases ef : f d s with
      | bad => exact trivial
      | err x =>
        rw [ef] at h1
        obtain ⟨e2, h1⟩ := h1
        rw [h1]
        exact ⟨e2, rfl⟩
      | ok s1 =>
        rw [ef] at h1
        obtain ⟨e2, h1, hn2⟩ := h1
        rw [h1]
        exact forN_sim h ds s1 e2 hn2
theorem forS_sim {gt : D → Env → Option Env} {f : D → σ → Po (Step σ ρ)} (h : ∀ d s e, N s e → SimK (ΦS N T) (f d s) (ofl (gt d e) g)) : ∀ (ds : List D) (s : σ) (env : Env), N s env → SimK (ΦS N T) (forS f ds s) (forF gt g ds env)
  | [], s, env, hn => ⟨env, rfl, hn⟩
  | d :: ds, s, env, hn => by
    have h1 := h d s env hn
    unfold forS forF
    cases eg : gt d env with
    | none =>
      rw [eg] at h1
      cases ef : f d s with
      | bad => exact trivial
      | err x => rw [ef] at h1; obtain ⟨_, h1⟩ := h1; cases h1
      | ok s1 =>
        rw [ef] at h1
        cases s1 with
        | nx s1 => obtain ⟨_, h1, _⟩ := h1; cases h1
        | rt s1 => obtain ⟨_, _, h1, _⟩ := h1; cases h1
        | bk s1 => obtain ⟨_, h1, _⟩ := h1; cases h1
    | some e1 =>
      rw [eg] at h1
      dsimp only [ofl] at h1 ⊢
      cases ef : f d s with
      | bad => exact trivial
      | err x =>
        rw [ef] at h1
        obtain ⟨e2, h1⟩ := h1
        rw [h1]
        exact ⟨e2, rfl⟩
      | ok s1 =>
        rw [ef] at h1
        cases s1 with
        | nx s1 =>
          obtain ⟨e2, h1, hn2⟩ := h1
          rw [h1]
          exact forS_sim h ds s1 e2 hn2
        | rt v =>
          obtain ⟨e2, sv, h1, hn2⟩ := h1
          rw [h1]
          exact ⟨e2, sv, rfl, hn2⟩
        | bk s1 =>
          obtain ⟨e2, h1, hn2⟩ := h1
          rw [h1]
          exact ⟨e2, rfl, hn2⟩
theorem s_forN {gt : D → Env → Option Env} {f : D → σ → Po σ} {s : σ} {ds : List D} {r1 : σ → Po τ} (hn : N s env) (h : ∀ d s e, N s e → SimK (ΦN N) (f d s) (ofl (gt d e) g)) (hk : ∀ s e, N s e → SimK Φ (r1 s) (k e)) : SimK Φ ((forN f ds s).bind r1) ((forF gt g ds env).then k) :=
  s_blk (g := forF gt g ds) (forN_sim h ds s env hn) hk
theorem s_forS {gt : D → Env → Option Env} {f : D → σ → Po (Step σ ρ)} {s : σ} {ds : List D} {r1 : σ → Po τ} {e1 : ρ → Po τ} (hn : N s env) (h : ∀ d s e, N s e → SimK (ΦS N T) (f d s) (ofl (gt d e) g)) (hk : ∀ s e, N s e → SimK Φ (r1 s) (k e)) (he : ∀ v e sv, T v e sv → SimK Φ (e1 v) (.rt e sv)) : SimK Φ ((forS f ds s).thenS r1 e1) ((forF gt g ds env).then k) :=
  s_blkS (g := forF gt g ds) (forS_sim h ds s env hn) hk he
def TstR (N : σ → Env → Prop) (u : Res Bool) (t : Po (Bool × σ)) : Prop := match t with
    | .bad => True
    | .err x => ∃ e, u = .err e x
    | .ok p => ∃ e, u = .ok e p.1 ∧ N p.2 e
theorem tst_of {N : σ → Env → Prop} {u : Res Bool} {t : Po (Bool × σ)} (h : SimK (ΦT N) t (u.fl fun e b => .rt e (.dat (.bool b)))) : TstR N u t := by
  cases t with
  | bad => exact trivial
  | err x =>
    obtain ⟨e, h⟩ := h
    cases u with
    | ok e c => cases h
    | err e2 x2 => cases h; exact ⟨e, rfl⟩
    | bad => cases h
  | ok p =>
    obtain ⟨e, h, hn⟩ := h
    cases u with
    | ok e2 c => cases h; exact ⟨e, rfl, hn⟩
    | err e2 x2 => cases h
    | bad => cases h
theorem whileN_sim {u : Env → Res Bool} {t : σ → Po (Bool × σ)} {f : σ → Po σ} (ht : ∀ s e, N s e → SimK (ΦT N) (t s) ((u e).fl fun e b => .rt e (.dat (.bool b)))) (h : ∀ s e, N s e → SimK (ΦN N) (f s) (g e)) : ∀ (n : Nat) (s : σ) (env : Env), N s env → SimK (ΦN N) (whileN t f n s) (whileF u g n env)
  | 0, s, env, hn => trivial
  | n + 1, s, env, hn => by
    have h1 := tst_of (ht s env hn)
    unfold whileN whileF
    cases et : t s with
    | bad => exact trivial
    | err x =>
      rw [et] at h1
      obtain ⟨e2, h1⟩ := h1
      rw [h1]
      exact ⟨e2, rfl⟩
    | ok p =>
      obtain ⟨b, s1⟩ := p
      rw [et] at h1
      obtain ⟨e2, h1, hn2⟩ := h1
      rw [h1]
      dsimp only [Po.bind, Res.fl]
      cases b with
      | false => exact ⟨e2, rfl, hn2⟩
      | true =>
        rw [if_pos rfl, if_pos rfl]
        have h3 := h s1 e2 hn2
        cases ef : f s1 with
        | bad => exact trivial
        | err x =>
          rw [ef] at h3
          obtain ⟨e3, h3⟩ := h3
          rw [h3]
          exact ⟨e3, rfl⟩
        | ok s2 =>
          rw [ef] at h3
          obtain ⟨e3, h3, hn3⟩ := h3
          rw [h3]
          exact whileN_sim ht h n s2 e3 hn3
theorem s_while {n : Nat} {u : Env → Res Bool} {t : σ → Po (Bool × σ)} {f : σ → Po σ} {s : σ} {r1 : σ → Po τ} (hn : N s env) (ht : ∀ s e, N s e → SimK (ΦT N) (t s) ((u e).fl fun e b => .rt e (.dat (.bool b)))) (h : ∀ s e, N s e → SimK (ΦN N) (f s) (g e)) (hk : ∀ s e, N s e → SimK Φ (r1 s) (k e)) : SimK Φ ((whileN t f n s).bind r1) (sSeq (sWhile n u g) k env) :=
  s_blk (g := sWhile n u g) (whileN_sim ht h n s env hn) hk
theorem whileS_sim {u : Env → Res Bool} {t : σ → Po (Bool × σ)} {f : σ → Po (Step σ ρ)} (ht : ∀ s e, N s e → SimK (ΦT N) (t s) ((u e).fl fun e b => .rt e (.dat (.bool b)))) (h : ∀ s e, N s e → SimK (ΦS N T) (f s) (g e)) : ∀ (n : Nat) (s : σ) (env : Env), N s env → SimK (ΦS N T) (whileS t f n s) (whileF u g n env)
  | 0, s, env, hn => trivial
  | n + 1, s, env, hn => by
    have h1 := tst_of (ht s env hn)
    unfold whileS whileF
    cases et : t s with
    | bad => exact trivial
    | err x =>
      rw [et] at h1
      obtain ⟨e2, h1⟩ := h1
      rw [h1]
      exact ⟨e2, rfl⟩
    | ok p =>
      obtain ⟨b, s1⟩ := p
      rw [et] at h1
      obtain ⟨e2, h1, hn2⟩ := h1
      rw [h1]
      dsimp only [Po.bind, Res.fl]
      cases b with
      | false => exact ⟨e2, rfl, hn2⟩
      | true =>
        rw [if_pos rfl, if_pos rfl]
        have h3 := h s1 e2 hn2
        cases ef : f s1 with
        | bad => exact trivial
        | err x =>
          rw [ef] at h3
          obtain ⟨e3, h3⟩ := h3
          rw [h3]
          exact ⟨e3, rfl⟩
        | ok s2 =>
          rw [ef] at h3
          cases s2 with
          | nx s2 =>
            obtain ⟨e3, h3, hn3⟩ := h3
            rw [h3]
            exact whileS_sim ht h n s2 e3 hn3
          | rt v =>
            obtain ⟨e3, sv, h3, hn3⟩ := h3
            rw [h3]
            exact ⟨e3, sv, rfl, hn3⟩
          | bk s2 =>
            obtain ⟨e3, h3, hn3⟩ := h3
            rw [h3]
            exact ⟨e3, rfl, hn3⟩
theorem s_whileS {n : Nat} {u : Env → Res Bool} {t : σ → Po (Bool × σ)} {f : σ → Po (Step σ ρ)} {s : σ} {r1 : σ → Po τ} {e1 : ρ → Po τ} (hn : N s env) (ht : ∀ s e, N s e → SimK (ΦT N) (t s) ((u e).fl fun e b => .rt e (.dat (.bool b)))) (h : ∀ s e, N s e → SimK (ΦS N T) (f s) (g e)) (hk : ∀ s e, N s e → SimK Φ (r1 s) (k e)) (he : ∀ v e sv, T v e sv → SimK Φ (e1 v) (.rt e sv)) : SimK Φ ((whileS t f n s).thenS r1 e1) (sSeq (sWhile n u g) k env) :=
  s_blkS (g := sWhile n u g) (whileS_sim ht h n s env hn) hk he
/-! comprehensions with effects -/
theorem compM_sim {own : List Nat} {gt : D → Env → Option Env} {u : Env → Res Bool} {el : Env → Res D} {f : D → σ → Po (Option D × σ)}
    (h : ∀ d s e, N s e → SimK (ΦC N) (f d s) (ofl (gt d e) fun e1 => (u e1).fl fun e2 b => if b then (el e2).fl fun e3 x => .rt (wipeE e3 own) (.dat x) else .nx (wipeE e2 own))) :
    ∀ (ds : List D) (s : σ) (env : Env) (n : Nat), n + ds.length ≤ 16777216 → N s env → match compM f ds s with
      | .ok p => ∃ e, compF own gt u el ds env n = .ok e p.1 ∧ N p.2 e
      | _ => True
  | [], s, env, n, hl, hn => ⟨env, rfl, hn⟩
  | d :: ds, s, env, n, hl, hn => by
    rw [List.length_cons] at hl
    have h1 := h d s env hn
    unfold compM
    cases ef : f d s with
    | bad => exact trivial
    | err x => exact trivial
    | ok p =>
      obtain ⟨o, s1⟩ := p
      rw [ef] at h1
      obtain ⟨e9, h1, hn1⟩ := h1
      dsimp only at h1 hn1
      dsimp only [Po.bindS]
      unfold compF
      cases eg : gt d env with
      | none => rw [eg] at h1; cases o <;> cases h1
      | some e1 =>
        rw [eg] at h1
        dsimp only [ofl] at h1 ⊢
        cases eu : u e1 with
        | err _ _ => rw [eu] at h1; cases o <;> cases h1
        | bad => rw [eu] at h1; cases o <;> cases h1
        | ok e2 b =>
          rw [eu] at h1
          dsimp only [Res.fl, Res.bind] at h1 ⊢
          cases b with
          | false =>
            rw [if_neg (by decide)] at h1 ⊢
            cases o with
            | some x => cases h1
            | none =>
              cases h1
              have ih := compM_sim h ds s1 _ n (by omega) hn1
              cases ec : compM f ds s1 with
              | ok q => rw [ec] at ih; exact ih
              | err x => exact trivial
              | bad => exact trivial
          | true =>
            rw [if_pos rfl] at h1 ⊢
            cases ee : el e2 with
            | err _ _ => rw [ee] at h1; cases o <;> cases h1
            | bad => rw [ee] at h1; cases o <;> cases h1
            | ok e3 x =>
              rw [ee] at h1
              dsimp only at h1 ⊢
              cases o with
              | none => cases h1
              | some y =>
                cases h1
                rw [if_pos (by rw [sizeLine_eq]; omega)]
                have ih := compM_sim h ds s1 _ (n + 1) (by omega) hn1
                cases ec : compM f ds s1 with
                | ok q =>
                  rw [ec] at ih
                  obtain ⟨e4, ih, hn4⟩ := ih
                  rw [ih]
                  exact ⟨e4, rfl, hn4⟩
                | err x => exact trivial
                | bad => exact trivial
/-- what stands behind a comprehension in its names' slots -/
theorem backR1 (i : Nat) (orig e : Env) : ∃ j : SV, backR orig [i] e = e.set i j := by
  unfold backR backR
  split
  · exact ⟨_, rfl⟩
  · cases h : e[i]? with
    | none => exact ⟨.un, by rw [List.set_eq_of_length_le (List.getElem?_eq_none_iff.mp h)]⟩
    | some j => exact ⟨j, (set_self h).symm⟩
def compK (own : List Nat) (gt : D → Env → Option Env) (u : Env → Res Bool) (el : Env → Res D) (ds : List D) (e : Env) : Res SV := match compF own gt u el ds (wipeE e own) 0 with
  | .ok env4 xs => .ok (backR e own env4) (.own none (.lst xs))
  | _ => .bad
theorem sk_yComp {own : List Nat} {fi : Env → Res (List D)} {gt : D → Env → Option Env} {u : Env → Res Bool} {el : Env → Res D} {k : Env → SV → Fl} (h : SimK Φ r ((fi env).fl fun e ds => (compK own gt u el ds e).fl k)) : SimK Φ r ((yComp own fi gt u el env).fl k) := by
  have e : yComp own fi gt u el env = (fi env).bind fun e ds => compK own gt u el ds e := rfl
  rw [e, fl_bind]
  exact h
theorem sk_compK {own : List Nat} {gt : D → Env → Option Env} {u : Env → Res Bool} {el : Env → Res D} {ds : List D} {f : D → σ → Po (Option D × σ)} {s : σ} {r1 : List D × σ → Po τ} {k : Env → SV → Fl} (hn : N s (wipeE env own))
    (h : ∀ d s e, N s e → SimK (ΦC N) (f d s) (ofl (gt d e) fun e1 => (u e1).fl fun e2 b => if b then (el e2).fl fun e3 x => .rt (wipeE e3 own) (.dat x) else .nx (wipeE e2 own)))
    (hk : ∀ xs s e, N s e → SimK Φ (r1 (xs, s)) (k (backR env own e) (.own none (.lst xs)))) : SimK Φ ((compMS f ds s).bindS r1) ((compK own gt u el ds env).fl k) := by
  unfold compMS
  split
  · rename_i hl
    have := compM_sim h ds s (wipeE env own) 0 (by omega) hn
    cases ec : compM f ds s with
    | bad => exact trivial
    | err x => exact trivial
    | ok p =>
      obtain ⟨xs, s1⟩ := p
      rw [ec] at this
      obtain ⟨e, h1, h2⟩ := this
      dsimp only at h1 h2
      unfold compK
      rw [h1]
      exact hk xs s1 e h2
  · exact trivial
end
def fuel : Nat := 1000000000000000000000000000000
theorem fuel_big {n : Nat} (h : n < 10 ^ 30) : n < fuel := by
  unfold fuel
  omega
/-- the end: what the law's own plain reading says -/
theorem wins_of {n : Nat} {F : List SV → Res SV} {f : List D → Po D} (hF : ∀ xs, LeF TD (f xs) (F [.frz xs])) (h : ∀ ns : List Int, ns.length ≤ n → (∀ z ∈ ns, Builtin.Int.intBits z ≤ 1048576) → f (ns.map .int) = .ok (.bool true)) : Wins n F := fun ns h1 h2 => by
  have h3 := hF (ns.map .int)
  rw [h ns h1 h2] at h3
  obtain ⟨e, sv, h4, h5⟩ := h3
  cases h5
  exact ⟨e, h4⟩
end ML
/-! Plain readings that several laws share. -/
namespace ML
open PySem L2
def f__law_pot (script' : List D) (k_' : D) : Po (List D) :=
((dMulX (.int 17) k_').bind fun t1 => dAdd t1 (.int 6)).po fun cell' =>
((((dCmp fun i j => decide (i < j)) k_' (.int (script'.length : Int))).bind fun t2 => toB t2).po fun t3 =>
if t3 then
(dIx (.list script') k_').po fun cell1' =>
.ok cell1'
else
.ok cell' : Po (D)).bind fun (cell2' : D) =>
(((fAbs [cell2']).bind fun t4 => ((dPow (.int 10) (.int 60)).bind fun t5 => dPow t5 (.int 5)).bind fun t6 => dMod t4 t6).bind fun t7 => (((fAbs [cell2']).bind fun t8 => (dPow (.int 10) (.int 18)).bind fun t9 => (dCmp fun i j => decide (j ≤ i)) t8 t9).bind fun t10 => fInt [t10]).bind fun t11 => dMulX t7 t11).po fun own' =>
((((((dMod cell2' (.int 2305843009213693951)).bind fun t12 => dMulX t12 (.int 70991)).bind fun t13 => ((dMulX (.int 4001) k_').bind fun t14 => dMulX t14 k_').bind fun t15 => dAdd t13 t15).bind fun t16 => dAdd t16 (.int 71)).bind fun t17 => dMod t17 (.int 2305843009213693907)).bind fun t18 => some [own', t18, (.int 0)]).po fun t19 =>
.ok t19

def f__law_take (pot_here' : List D) (below' : D) : Po (D × List D) :=
(((dIx (.list pot_here') (.int 0)).bind fun t1 => (dCmp fun i j => decide (j < i)) t1 (.int 0)).bind fun t2 => toB t2).po fun t3 =>
if t3 then
((dIx (.list pot_here') (.int 0)).bind fun t4 => dMod t4 below').po fun digit' =>
((dIx (.list pot_here') (.int 0)).bind fun t5 => dDiv t5 below').po fun t6 =>
(some (.int 0)).po fun i1 => setIxP pot_here' i1 t6 fun pot_here1' =>
.ok (digit', pot_here1')
else
((dIx (.list pot_here') (.int 2)).bind fun t7 => dAdd t7 (.int 1)).po fun t8 =>
(some (.int 2)).po fun i2 => setIxP pot_here' i2 t8 fun pot_here2' =>
(((((dIx (.list pot_here2') (.int 1)).bind fun t9 => (((dIx (.list pot_here2') (.int 2)).bind fun t10 => dMulX (.int 20011) t10).bind fun t11 => (dIx (.list pot_here2') (.int 2)).bind fun t12 => dMulX t11 t12).bind fun t13 => dAdd t9 t13).bind fun t14 => dAdd t14 (.int 23)).bind fun t15 => dMulX t15 (.int 71011)).bind fun t16 => dMod t16 (.int 2305843009213693921)).po fun blend' =>
(((((dMod blend' (.int 1000081)).bind fun t17 => ((dIx (.list pot_here2') (.int 2)).bind fun t18 => dMulX (.int 50021) t18).bind fun t19 => dAdd t17 t19).bind fun t20 => dAdd t20 (.int 9)).bind fun t21 => dMulX blend' t21).bind fun t22 => dMod t22 (.int 2305843009213693951)).po fun blend1' =>
(((dDiv blend1' (.int 107)).bind fun t23 => (dDiv blend1' (.int 999983)).bind fun t24 => dAdd t23 t24).bind fun t25 => dMod t25 below').po fun t26 =>
.ok (t26, pot_here2')

def f__law_of (pot_here' : List D) (some_' : D) : Po (D × List D) :=
(fLen [some_']).po fun t1 =>
(f__law_take pot_here' t1).bindS fun (t2, pot_here1') =>
(dIx some_' t2).po fun t3 =>
.ok (t3, pot_here1')

def f__law_word (pot_here' : List D) (most' : D) : Po (D × List D) :=
(f__law_of pot_here' (.list [(.str "ab"), (.str "ab"), (.str "abc"), (.str "xyz"), (.str "abcdefghijklmnopqrstuvwxyz")])).bindS fun (letters', pot_here1') =>
(f__law_take pot_here1' most').bindS fun (t1, pot_here2') =>
(dAdd (.int 1) t1).po fun t2 =>
(range1O t2).po fun t3 =>
(compMS (fun (turn' : D) (pot_here3' : List D) =>
(f__law_of pot_here3' letters').bindS fun (t4, pot_here4') =>
.ok (some t4, pot_here4')) t3 pot_here2').bindS fun (t5, pot_here5') =>
(fJoin (.str "") (.list t5)).po fun t6 =>
.ok (t6, pot_here5')

def f__law_stream (pot_here' : List D) (most' : D) (longest' : D) (room' : D) : Po (D × List D) :=
(dAdd most' (.int 1)).po fun t1 =>
(f__law_take pot_here' t1).bindS fun (t2, pot_here1') =>
(range1O t2).po fun t3 =>
(forN (fun (turn' : D) ((pot_here2', found', reached') : List D × List D × D) =>
(f__law_word pot_here2' (.int 4)).bindS fun (t4, pot_here3') =>
(((((dCmp fun i j => decide (j < i)) reached' (.int 0)).bind fun t5 => toB t5).po fun t6 =>
if t6 then
(f__law_take pot_here3' (.int 4)).bindS fun (t7, pot_here4') =>
((dCmp fun i j => decide (j < i)) t7 (.int 0)).po fun t8 =>
(toB t8).po fun t9 =>
.ok (t9, pot_here4')
else
.ok (false, pot_here3') : Po (Bool × (List D))).bind fun (c1, pot_here5') =>
if c1 then
(f__law_take pot_here5' reached').bindS fun (t10, pot_here6') =>
(dAdd (.int 1) t10).po fun distance' =>
((f__law_take pot_here6' (.int 3)).bindS fun (t11, pot_here7') =>
(dEq t11 (.int 0)).po fun t12 =>
(toB t12).po fun t13 =>
if t13 then
(((fMin [(.int 2), reached']).bind fun t14 => some [(.int 1), reached', t14]).map .list).po fun t15 =>
(f__law_of pot_here7' t15).bindS fun (distance1', pot_here8') =>
.ok (pot_here8', distance1')
else
.ok (pot_here7', distance') : Po (List D × D)).bind fun ((pot_here9', distance2') : List D × D) =>
(dMulX (.int 2) distance2').po fun t16 =>
(f__law_take pot_here9' longest').bindS fun (t17, pot_here10') =>
(dAdd (.int 1) t17).po fun t18 =>
(f__law_take pot_here10' longest').bindS fun (t19, pot_here11') =>
(dAdd (.int 1) t19).po fun t20 =>
(f__law_of pot_here11' (.list [distance2', t16, t18, t20])).bindS fun (t21, pot_here12') =>
(fMin [t21, longest']).po fun t22 =>
.ok (pot_here12', (.tuple [(.str "copy"), distance2', t22]))
else
.ok (pot_here5', (.tuple [(.str "literal"), t4])) : Po (List D × D)).bind fun ((pot_here13', command') : List D × D) =>
(ifO (((dIx command' (.int 0)).bind fun t23 => dEq t23 (.str "literal")).bind fun t24 => toB t24) ((dIx command' (.int 1)).bind fun t25 => fLen [t25]) (dIx command' (.int 2))).po fun many' =>
(((dAdd reached' many').bind fun t26 => (dCmp fun i j => decide (i ≤ j)) t26 room').bind fun t27 => toB t27).po fun t28 =>
if t28 then
pushP found' command' fun found1' =>
(dAdd reached' many').po fun reached1' =>
.ok (pot_here13', found1', reached1')
else
.ok (pot_here13', found', reached')) t3 (pot_here1', [], (.int 0))).bind fun ((pot_here14', found2', reached2') : List D × List D × D) =>
(fTuple [(.list found2')]).po fun t29 =>
.ok (t29, pot_here14')

def f__law_unpacked (stream_here' : D) : Po (D) :=
(itemsOf stream_here').po fun t1 =>
(forN (fun (command' : D) ((letters', sources') : List D × List D) =>
(fLen [(.list letters')]).po fun start' =>
(((dIx command' (.int 0)).bind fun t2 => dEq t2 (.str "literal")).bind fun t3 => toB t3).po fun t4 =>
if t4 then
(((dIx command' (.int 1)).bind fun t5 => fListX [t5]).map .list).po fun t6 =>
extendP letters' t6 fun letters1' =>
(((dIx command' (.int 1)).bind fun t7 => fLen [t7]).bind fun t8 => dMulX (.list [.none]) t8).po fun t9 =>
extendP sources' t9 fun sources1' =>
.ok (letters1', sources1')
else
(dIx command' (.int 2)).po fun t10 =>
(range1O t10).po fun t11 =>
(forN (fun (turn' : D) ((letters2', sources2') : List D × List D) =>
(((dIx command' (.int 1)).bind fun t12 => dSub start' t12).bind fun t13 => ((dIx command' (.int 1)).bind fun t14 => dMod turn' t14).bind fun t15 => dAdd t13 t15).po fun t16 =>
pushP sources2' t16 fun sources3' =>
(((dNeg (.int 1)).bind fun t17 => dIx (.list sources3') t17).bind fun t18 => dIx (.list letters2') t18).po fun t19 =>
pushP letters2' t19 fun letters3' =>
.ok (letters3', sources3')) t11 (letters', sources')).bind fun ((letters4', sources4') : List D × List D) =>
.ok (letters4', sources4')) t1 ([], [])).bind fun ((letters5', sources5') : List D × List D) =>
.ok (.tuple [(.list letters5'), (.list sources5')])

def f__law_enlarged (stream_here' : D) (factor' : D) : Po (D) :=
(itemsOf stream_here').po fun t1 =>
(forN (fun (command' : D) (found' : List D) =>
(((dIx command' (.int 0)).bind fun t2 => dEq t2 (.str "copy")).bind fun t3 => toB t3).po fun t4 =>
if t4 then
(((dIx command' (.int 1)).bind fun t5 => dMulX t5 factor').bind fun t7 => ((dIx command' (.int 2)).bind fun t6 => dMulX t6 factor').bind fun t8 => some (.tuple [(.str "copy"), t7, t8])).po fun t9 =>
pushP found' t9 fun found1' =>
.ok found1'
else
(dIx command' (.int 1)).po fun t10 =>
(itemsOf t10).po fun t11 =>
(forN (fun (letter' : D) (found2' : List D) =>
((((((dSub factor' (.int 1)).bind fun t12 => some (.tuple [(.str "copy"), (.int 1), t12])).bind fun t13 => some [t13]).map .list).bind fun t14 => (((dCmp fun i j => decide (j < i)) factor' (.int 1)).bind fun t15 => fInt [t15]).bind fun t16 => dMulX t14 t16).bind fun t17 => dAdd (.list [(.tuple [(.str "literal"), letter'])]) t17).po fun t18 =>
extendP found2' t18 fun found3' =>
.ok found3') t11 found').bind fun (found4' : List D) =>
.ok found4') t1 []).bind fun (found5' : List D) =>
(fTuple [(.list found5')]).po fun t19 =>
.ok t19

def f_letters_of (command' : D) : Po (D) :=
(ifO (((dIx command' (.int 0)).bind fun t1 => dEq t1 (.str "literal")).bind fun t2 => toB t2) ((dIx command' (.int 1)).bind fun t3 => fLen [t3]) (dIx command' (.int 2))).po fun t4 =>
.ok t4

def f_length_of (stream' : D) : Po (D) :=
((((itemsOf stream').bind fun t1 => mapS (fun command' => (f_letters_of command').toO) t1).map .list).bind fun t2 => fSum [t2]).po fun t3 =>
.ok t3

def f__law_reach (stream_here' : D) : Po (D) :=
((((itemsOf stream_here').bind fun t4 => mapS (fun command' => ifO (((dIx command' (.int 0)).bind fun t1 => dEq t1 (.str "literal")).bind fun t2 => toB t2) ((dIx command' (.int 1)).bind fun t3 => fLen [t3]) (dIx command' (.int 2))) t4).map .list).bind fun t5 => fSum [t5]).po fun t6 =>
.ok t6

def f_pieces (stream' : D) : Po (List D) :=
(itemsOf stream').po fun t1 =>
(forN (fun (command' : D) ((found', start') : List D × D) =>
((((f_letters_of command').toO).bind fun t2 => dAdd start' t2).bind fun t3 => some (.tuple [start', t3, command'])).po fun t4 =>
pushP found' t4 fun found1' =>
((f_letters_of command').toO).po fun t5 =>
((dAugI fun i j => i + j) start' t5).po fun start1' =>
.ok (found1', start1')) t1 ([], (.int 0))).bind fun ((found2', start2') : List D × D) =>
.ok found2'

def f_starts (stream' : D) : Po (D) :=
((((((f_pieces stream').toL).bind fun t1 => itemsOf t1).bind fun t2 => mapS (fun d1 => un3 d1 fun start' end_' command' => some start') t2).map .list).bind fun t3 => fTuple [t3]).po fun t4 =>
.ok t4

def f__law_places (stream_here' : D) : Po (D) :=
(itemsOf stream_here').po fun t1 =>
(forN (fun (command' : D) ((found', reached') : List D × D) =>
pushP found' reached' fun found1' =>
(((f__law_reach (.tuple [command'])).toO).bind fun t2 => dAdd reached' t2).po fun reached1' =>
.ok (found1', reached1')) t1 ([], (.int 0))).bind fun ((found2', reached2') : List D × D) =>
(fTuple [(.list found2')]).po fun t3 =>
.ok t3

def f__law_way (sources' : D) (position' : D) : Po (List D) :=
(whileN (fun (found' : List D) =>
(((((dNeg (.int 1)).bind fun t1 => dIx (.list found') t1).bind fun t2 => dIx sources' t2).bind fun t3 => dNotN t3 .none).bind fun t4 => toB t4).po fun t5 =>
.ok (t5, found')) (fun (found' : List D) =>
(((dNeg (.int 1)).bind fun t6 => dIx (.list found') t6).bind fun t7 => dIx sources' t7).po fun t8 =>
pushP found' t8 fun found1' =>
.ok found1') fuel [position']).bind fun (found2' : List D) =>
.ok found2'

def f_is_integer (value' : D) (least' : D) (most' : D) : Po (D) :=
((andO ((isaO "int" value').bind fun t1 => toB t1) (andO (((isaO "bool" value').bind fun t2 => toB t2).map (!·)) ((chO (dCmp fun i j => decide (i ≤ j)) (dCmp fun i j => decide (i ≤ j)) least' value' (some most')).bind fun t3 => toB t3))).map PyData.bool).po fun t4 =>
.ok t4

def f_check_position (stream' : D) (position' : D) : Po (D) :=
((((((f_length_of stream').toO).bind fun t1 => dSub t1 (.int 1)).bind fun t2 => (f_is_integer position' (.int 0) t2).toO).bind fun t3 => toB t3).map (!·)).po fun t4 =>
if t4 then
.bad
else
.ok .none

def f_piece_at (stream' : D) (position' : D) : Po (D) :=
((((((f_pieces stream').toL).bind fun t1 => itemsOf t1).bind fun t4 => compS (fun piece' => keepO (((dIx piece' (.int 0)).bind fun t2 => chO (dCmp fun i j => decide (i ≤ j)) (dCmp fun i j => decide (i < j)) t2 position' (dIx piece' (.int 1))).bind fun t3 => toB t3) (some piece')) t4).map .list).bind fun t5 => dIx t5 (.int 0)).po fun t6 =>
.ok t6

def f_is_literal (command' : D) : Po (D) :=
((dIx command' (.int 0)).bind fun t1 => dEq t1 (.str "literal")).po fun t2 =>
.ok t2

def f_source (stream' : D) (position' : D) : Po (D) :=
((f_piece_at stream' position').toO).po fun t1 =>
pn3 t1 fun start' end_' command' =>
(ifO (((f_is_literal command').toO).bind fun t2 => toB t2) (some .none) (((dIx command' (.int 1)).bind fun t3 => dSub start' t3).bind fun t4 => ((dSub position' start').bind fun t5 => (dIx command' (.int 1)).bind fun t6 => dMod t5 t6).bind fun t7 => dAdd t4 t7)).po fun t8 =>
.ok t8

def f_followed (stream' : D) (position' : D) : Po (List D) :=
(whileN (fun (found' : List D) =>
(((((dNeg (.int 1)).bind fun t1 => dIx (.list found') t1).bind fun t2 => (f_source stream' t2).toO).bind fun t3 => dNotN t3 .none).bind fun t4 => toB t4).po fun t5 =>
.ok (t5, found')) (fun (found' : List D) =>
(((dNeg (.int 1)).bind fun t6 => dIx (.list found') t6).bind fun t7 => (f_source stream' t7).toO).po fun t8 =>
pushP found' t8 fun found1' =>
.ok found1') fuel [position']).bind fun (found2' : List D) =>
.ok found2'

def f_origin_letter (stream' : D) (position' : D) : Po (D) :=
(((f_followed stream' position').toL).bind fun t1 => (dNeg (.int 1)).bind fun t2 => dIx t1 t2).po fun origin' =>
((f_piece_at stream' origin').toO).po fun t3 =>
pn3 t3 fun start' end_' command' =>
((dIx command' (.int 1)).bind fun t4 => (dSub origin' start').bind fun t5 => dIx t4 t5).po fun t6 =>
.ok t6

def f_letter_at (stream' : D) (position' : D) : Po (D) :=
(f_check_position stream' position').bind fun t1 =>
(f_origin_letter stream' position').bind fun t2 =>
.ok t2

def f_source_of (stream' : D) (position' : D) : Po (D) :=
(f_check_position stream' position').bind fun t1 =>
(f_source stream' position').bind fun t2 =>
.ok t2

def f_origin_of (stream' : D) (position' : D) : Po (D) :=
(f_check_position stream' position').bind fun t1 =>
(((f_followed stream' position').toL).bind fun t2 => (dNeg (.int 1)).bind fun t3 => dIx t2 t3).po fun t4 =>
.ok t4

def f_steps_of (stream' : D) (position' : D) : Po (D) :=
(f_check_position stream' position').bind fun t1 =>
((((f_followed stream' position').toL).bind fun t2 => fLen [t2]).bind fun t3 => dSub t3 (.int 1)).po fun t4 =>
.ok t4
end ML
/-! PL1: plain Lean about plain readings. -/
namespace ML
open PySem L2

/-! ### operations -/
section
variable {i j : Int} {x y : Str} {xs ys : List D} {b : Bool} {d : D} {α β : Type}
@[simp] theorem toB_bool : toB (.bool b) = some b := rfl
@[simp] theorem toI_int : toI (.int i) = some i := rfl
@[simp] theorem andO_some {c : Option Bool} : andO (some b) c = if b then c else some false := rfl
@[simp] theorem orO_some {c : Option Bool} : orO (some b) c = if b then some true else c := rfl
@[simp] theorem ifO_some {a c : Option α} : ifO (some b) a c = if b then a else c := rfl
@[simp] theorem range1_int (h : i.natAbs < 2 ^ 62) : range1O (.int i) = some (rngOf 0 i) := if_pos h
@[simp] theorem range2_int (h : i.natAbs < 2 ^ 62 ∧ j.natAbs < 2 ^ 62) : range2O (.int i) (.int j) = some (rngOf i j) := if_pos h
@[simp] theorem un2_t {a b : D} {k : D → D → Option α} : un2 (.tuple [a, b]) k = k a b := rfl
@[simp] theorem un3_t {a b c : D} {k : D → D → D → Option α} : un3 (.tuple [a, b, c]) k = k a b c := rfl
@[simp] theorem un4_t {a b c e : D} {k : D → D → D → D → Option α} : un4 (.tuple [a, b, c, e]) k = k a b c e := rfl
@[simp] theorem pn2_t {a b : D} {k : D → D → Po α} : pn2 (.tuple [a, b]) k = k a b := rfl
@[simp] theorem pn3_t {a b c : D} {k : D → D → D → Po α} : pn3 (.tuple [a, b, c]) k = k a b c := rfl
@[simp] theorem pn4_t {a b c e : D} {k : D → D → D → D → Po α} : pn4 (.tuple [a, b, c, e]) k = k a b c e := rfl
@[simp] theorem setIx_0 {a : D} {k : List D → Po α} : setIxP (a :: xs) (.int 0) d k = k (d :: xs) := by
  unfold setIxP
  simp
@[simp] theorem setIx_2 {a b c : D} {k : List D → Po α} : setIxP (a :: b :: c :: xs) (.int 2) d k = k (a :: b :: d :: xs) := by
  unfold setIxP
  simp
theorem push_ok {k : List D → Po α} (h : xs.length < 16777216) : pushP xs d k = k (xs ++ [d]) := if_pos h
theorem extend_l {k : List D → Po α} (h : xs.length + ys.length ≤ 16777216) : extendP xs (.list ys) k = k (xs ++ ys) := if_pos h
theorem extend_t {k : List D → Po α} (h : xs.length + ys.length ≤ 16777216) : extendP xs (.tuple ys) k = k (xs ++ ys) := if_pos h
@[simp] theorem thenS_nx {σ ρ : Type} {s : σ} {k : σ → Po α} {e : ρ → Po α} : (Po.ok (Step.nx s)).thenS k e = k s := rfl
@[simp] theorem thenS_rt {σ ρ : Type} {v : ρ} {k : σ → Po α} {e : ρ → Po α} : (Po.ok (Step.rt v : Step σ ρ)).thenS k e = e v := rfl
@[simp] theorem f_repr_ok (h : d.showable = true ∧ d.hasDict = false ∧ d.depth ≤ 100 ∧ d.shown.length ≤ sizeLine) : fRepr [d] = some (.str d.shown) := if_pos h
end

/-! ### what a program must come to -/
def Wp {α : Type} (r : Po α) (Q : α → Prop) : Prop := match r with
  | .ok a => Q a
  | _ => False
section
variable {α β σ ρ : Type} {Q : α → Prop}
@[simp] theorem wp_ok {a : α} : Wp (.ok a) Q = Q a := rfl
@[simp] theorem wp_bad : Wp (.bad : Po α) Q = False := rfl
theorem wp_bind {r : Po β} {k : β → Po α} : Wp (r.bind k) Q = Wp r fun b => Wp (k b) Q := by cases r <;> rfl
theorem wp_bindS {r : Po β} {k : β → Po α} : Wp (r.bindS k) Q = Wp r fun b => Wp (k b) Q := by cases r <;> rfl
theorem wp_thenS {r : Po (Step σ ρ)} {k : σ → Po α} {e : ρ → Po α} : Wp (r.thenS k e) Q = Wp r fun o => match o with | .nx s => Wp (k s) Q | .rt v => Wp (e v) Q | .bk _ => False := by
  cases r with
  | ok o => cases o <;> rfl
  | _ => rfl
theorem Wp.mono {r : Po α} {Q' : α → Prop} (h : Wp r Q) (k : ∀ a, Q a → Q' a) : Wp r Q' := by
  cases r with
  | ok a => exact k a h
  | err _ => exact h
  | bad => exact h
theorem Wp.get {r : Po α} (h : Wp r Q) : ∃ a, r = .ok a ∧ Q a := by
  cases r with
  | ok a => exact ⟨a, rfl, h⟩
  | err _ => exact h.elim
  | bad => exact h.elim
theorem Wp.bind {r : Po β} {k : β → Po α} {Q' : β → Prop} (h : Wp r Q') (hk : ∀ b, Q' b → Wp (k b) Q) : Wp (r.bind k) Q := by
  rw [wp_bind]
  exact h.mono hk
theorem Wp.bindS {r : Po β} {k : β → Po α} {Q' : β → Prop} (h : Wp r Q') (hk : ∀ b, Q' b → Wp (k b) Q) : Wp (r.bindS k) Q := by
  rw [wp_bindS]
  exact h.mono hk
theorem wp_eq {r : Po α} {a : α} (h : r = .ok a) (q : Q a) : Wp r Q := by
  subst h
  exact q
theorem Wp.out {r : Po α} {a : α} (h : Wp r (· = a)) : r = .ok a := by
  obtain ⟨b, h1, h2⟩ := h.get
  rw [h1, h2]

/-! loops -/
theorem forN_inv {f : D → σ → Po σ} (I : Nat → σ → Prop) (ds : List D) (h : ∀ k d s, ds[k]? = some d → I k s → Wp (f d s) (I (k + 1))) {s : σ} (h0 : I 0 s) : Wp (forN f ds s) (I ds.length) := by
  have go : ∀ (es : List D) (k : Nat) (s : σ), ds.drop k = es → k ≤ ds.length → I k s → Wp (forN f es s) (I ds.length) := by
    intro es
    induction es with
    | nil =>
      intro k s hk hl hi
      have : ds.length ≤ k := List.drop_eq_nil_iff.mp hk
      have e : k = ds.length := by omega
      subst e
      exact hi
    | cons d es ih =>
      intro k s hk hl hi
      have hd : ds[k]? = some d := by
        have z := congrArg (fun l : List D => l[0]?) hk
        simpa using z
      have hlt : k < ds.length := (List.getElem?_eq_some_iff.mp hd).1
      unfold forN
      refine (h k d s hd hi).bind fun s1 h1 => ih (k + 1) s1 ?_ hlt h1
      have z := congrArg List.tail hk
      simpa using z
  exact go ds 0 s rfl (Nat.zero_le _) h0
theorem forN_eq {f : D → σ → Po σ} (g : σ → D → σ) : ∀ (ds : List D) (s : σ), (∀ d ∈ ds, ∀ s, f d s = .ok (g s d)) → forN f ds s = .ok (ds.foldl g s)
  | [], s, _ => rfl
  | d :: ds, s, h => by
    unfold forN
    rw [h d (by simp) s]
    exact forN_eq g ds _ fun e he => h e (by simp [he])
/-- a loop that returns on no way -/
theorem forS_inv {f : D → σ → Po (Step σ ρ)} (I : Nat → σ → Prop) (ds : List D) (h : ∀ k d s, ds[k]? = some d → I k s → Wp (f d s) fun o => ∃ s1, o = .nx s1 ∧ I (k + 1) s1) {s : σ} (h0 : I 0 s) : Wp (forS f ds s) fun o => ∃ s1, o = .nx s1 ∧ I ds.length s1 := by
  have go : ∀ (es : List D) (k : Nat) (s : σ), ds.drop k = es → k ≤ ds.length → I k s → Wp (forS f es s) fun o => ∃ s1, o = .nx s1 ∧ I ds.length s1 := by
    intro es
    induction es with
    | nil =>
      intro k s hk hl hi
      have : ds.length ≤ k := List.drop_eq_nil_iff.mp hk
      have e : k = ds.length := by omega
      subst e
      exact ⟨s, rfl, hi⟩
    | cons d es ih =>
      intro k s hk hl hi
      have hd : ds[k]? = some d := by
        have z := congrArg (fun l : List D => l[0]?) hk
        simpa using z
      have hlt : k < ds.length := (List.getElem?_eq_some_iff.mp hd).1
      unfold forS
      refine (h k d s hd hi).bind fun o ho => ?_
      obtain ⟨s1, rfl, h1⟩ := ho
      refine ih (k + 1) s1 ?_ hlt h1
      have z := congrArg List.tail hk
      simpa using z
  exact go ds 0 s rfl (Nat.zero_le _) h0
/-- .. and what follows it -/
theorem wp_forS {f : D → σ → Po (Step σ ρ)} (I : Nat → σ → Prop) {ds : List D} {s : σ} {k : σ → Po α} {e : ρ → Po α} (h : ∀ k d s, ds[k]? = some d → I k s → Wp (f d s) fun o => ∃ s1, o = .nx s1 ∧ I (k + 1) s1) (h0 : I 0 s) (hk : ∀ s, I ds.length s → Wp (k s) Q) : Wp ((forS f ds s).thenS k e) Q := by
  rw [wp_thenS]
  refine (forS_inv I ds h h0).mono fun o ho => ?_
  obtain ⟨s1, rfl, h1⟩ := ho
  exact hk s1 h1
theorem wp_forN {f : D → σ → Po σ} (I : Nat → σ → Prop) {ds : List D} {s : σ} {k : σ → Po α} (h : ∀ k d s, ds[k]? = some d → I k s → Wp (f d s) (I (k + 1))) (h0 : I 0 s) (hk : ∀ s, I ds.length s → Wp (k s) Q) : Wp ((forN f ds s).bind k) Q := (forN_inv I ds h h0).bind hk
/-- a comprehension with effects: an invariant, a property of what is made -/
theorem compM_inv {f : D → σ → Po (Option D × σ)} (I : Nat → σ → Prop) (P : D → Prop) : ∀ (ds : List D) (n : Nat) (s : σ), (∀ k d s, ds[k]? = some d → I (n + k) s → Wp (f d s) fun p => ∃ x, p.1 = some x ∧ P x ∧ I (n + k + 1) p.2) → I n s → Wp (compM f ds s) fun p => p.1.length = ds.length ∧ (∀ x ∈ p.1, P x) ∧ I (n + ds.length) p.2
  | [], n, s, _, hi => ⟨rfl, (fun x hx => nomatch hx), hi⟩
  | d :: ds, n, s, h, hi => by
    unfold compM
    refine (h 0 d s rfl hi).bindS fun p hp => ?_
    obtain ⟨x, hx, px, hi2⟩ := hp
    refine (compM_inv I P ds (n + 1) p.2 (fun k e s he hs => ?_) hi2).bindS fun q hq => ?_
    · have e2 : n + 1 + k = n + (k + 1) := by omega
      rw [e2] at hs ⊢
      exact h (k + 1) e s (by simpa using he) hs
    · rw [hx]
      obtain ⟨q1, q2, q3⟩ := hq
      refine ⟨by simp [q1], fun y hy => ?_, ?_⟩
      · rcases List.mem_cons.mp hy with e | e
        · rw [e]; exact px
        · exact q2 y e
      · rw [List.length_cons]
        have e2 : n + (ds.length + 1) = n + 1 + ds.length := by omega
        rw [e2]
        exact q3
theorem wp_comp {f : D → σ → Po (Option D × σ)} (I : Nat → σ → Prop) (P : D → Prop) {ds : List D} {s : σ} {k : List D × σ → Po α} (hl : ds.length ≤ 16777216) (h : ∀ k d s, ds[k]? = some d → I k s → Wp (f d s) fun p => ∃ x, p.1 = some x ∧ P x ∧ I (k + 1) p.2) (h0 : I 0 s)
    (hk : ∀ xs s, xs.length = ds.length → (∀ x ∈ xs, P x) → I ds.length s → Wp (k (xs, s)) Q) : Wp ((compMS f ds s).bindS k) Q := by
  unfold compMS
  rw [if_pos hl]
  refine (compM_inv I P ds 0 s (fun k d s hd hs => ?_) h0).bindS fun p hp => ?_
  · have e2 : 0 + k = k := by omega
    rw [e2] at hs ⊢
    exact h k d s hd hs
  · obtain ⟨xs, s1⟩ := p
    obtain ⟨h1, h2, h3⟩ := hp
    exact hk xs s1 h1 h2 (by simpa using h3)
/-- a while: its measure falls -/
theorem whileN_inv {t : σ → Po (Bool × σ)} {f : σ → Po σ} (I : σ → Prop) (m : σ → Nat) (E : σ → Prop) (h : ∀ s, I s → Wp (t s) fun p => if p.1 then Wp (f p.2) fun s1 => I s1 ∧ m s1 < m s else E p.2) : ∀ (n : Nat) (s : σ), m s < n → I s → Wp (whileN t f n s) E
  | 0, s, hn, _ => by omega
  | n + 1, s, hn, hi => by
    unfold whileN
    refine (h s hi).bind fun p hp => ?_
    cases hb : p.1 with
    | true =>
      rw [hb, if_pos rfl] at hp
      rw [if_pos rfl]
      exact hp.bind fun s1 h1 => whileN_inv I m E h n s1 (by omega) h1.1
    | false =>
      rw [hb, if_neg (by decide)] at hp
      rw [if_neg (by decide)]
      exact hp
theorem wp_while {t : σ → Po (Bool × σ)} {f : σ → Po σ} {k : σ → Po α} {s : σ} (I : σ → Prop) (m : σ → Nat) (E : σ → Prop) (hm : m s < 10 ^ 30) (h : ∀ s, I s → Wp (t s) fun p => if p.1 then Wp (f p.2) fun s1 => I s1 ∧ m s1 < m s else E p.2) (h0 : I s) (hk : ∀ s, E s → Wp (k s) Q) : Wp ((whileN t f fuel s).bind k) Q :=
  (whileN_inv I m E h fuel s (fuel_big hm) h0).bind hk
end

/-! comprehensions -/
section
variable {α : Type}
theorem mapO_eq {f : D → Option D} {enc : α → D} (g : α → D) : ∀ (xs : List α), (∀ x ∈ xs, f (enc x) = some (g x)) → mapO f (xs.map enc) = some (xs.map g)
  | [], _ => rfl
  | x :: xs, h => by
    rw [List.map_cons, mapO, h x (by simp), Option.bind_some, mapO_eq g xs fun y hy => h y (by simp [hy])]
    rfl
theorem mapS_eq {f : D → Option D} {enc : α → D} (g : α → D) {xs : List α} (hl : xs.length ≤ 16777216) (h : ∀ x ∈ xs, f (enc x) = some (g x)) : mapS f (xs.map enc) = some (xs.map g) := by
  unfold mapS
  rw [if_pos (by simpa using hl)]
  exact mapO_eq g xs h
theorem compO_eq {f : D → Option (Option D)} {enc : α → D} (p : α → Bool) (g : α → D) : ∀ (xs : List α), (∀ x ∈ xs, f (enc x) = some (if p x then some (g x) else none)) → compO f (xs.map enc) = some ((xs.filter p).map g)
  | [], _ => rfl
  | x :: xs, h => by
    rw [List.map_cons, compO, h x (by simp), Option.bind_some, compO_eq p g xs fun y hy => h y (by simp [hy])]
    cases hp : p x
    · simp [hp]
    · simp [hp]
theorem compS_eq {f : D → Option (Option D)} {enc : α → D} (p : α → Bool) (g : α → D) {xs : List α} (hl : xs.length ≤ 16777216) (h : ∀ x ∈ xs, f (enc x) = some (if p x then some (g x) else none)) : compS f (xs.map enc) = some ((xs.filter p).map g) := by
  unfold compS
  rw [if_pos (by simpa using hl)]
  exact compO_eq p g xs h
@[simp] theorem keepO_some {c : Bool} {e : Option D} : keepO (some c) e = if c then e.map some else some none := rfl
/-- the numbers from 0 to below n -/
theorem rng_nat (n : Nat) : rngOf 0 (n : Int) = (List.range n).map fun i => .int (i : Int) := by
  unfold rngOf
  simp
theorem rng_toNat (i : Int) : rngOf 0 i = (List.range i.toNat).map fun k => .int (k : Int) := by
  unfold rngOf
  simp
theorem rng_len (i : Int) : (rngOf 0 i).length = i.toNat := by
  unfold rngOf
  simp
theorem rng_get {i : Int} {k : Nat} {d : D} (h : (rngOf 0 i)[k]? = some d) : d = .int (k : Int) ∧ (k : Int) < i := by
  rw [rng_toNat, List.getElem?_map] at h
  obtain ⟨j, h1, rfl⟩ := Option.map_eq_some_iff.mp h
  obtain ⟨h2, h3⟩ := List.getElem?_eq_some_iff.mp h1
  simp at h2 h3
  subst h3
  exact ⟨rfl, by omega⟩
end
end ML
/-! PL2: the pot that the script fills; what is drawn from it. -/
namespace ML
open PySem L2
def PotOk (n : Nat) (pot : List D) : Prop := ∃ a b c : Int, pot = [.int a, .int b, .int c] ∧ 0 ≤ a ∧ a < 10 ^ 300 ∧ 0 ≤ b ∧ b < 2305843009213693951 ∧ 0 ≤ c ∧ c ≤ n
theorem PotOk.mono {n m : Nat} {pot : List D} (h : PotOk n pot) (hm : n ≤ m) : PotOk m pot := by
  obtain ⟨a, b, c, h0, h1, h2, h3, h4, h5, h6⟩ := h
  exact ⟨a, b, c, h0, h1, h2, h3, h4, h5, by omega⟩
theorem d_pow_i0 {i j : Int} (h : 0 ≤ j ∧ (Builtin.Int.intBits i : Int) * j ≤ 2 ^ 27) : dPow (.int i) (.int j) = some (.int (i ^ j.toNat)) := if_pos h
theorem log39 {b : Int} (h0 : 0 < b) (h : b < 10 ^ 39) : b.natAbs.log2 < 9000 := Nat.lt_trans (log_of (z := b) (Nat.lt_of_lt_of_le (show b.natAbs < 2 ^ 130 by omega) (Nat.pow_le_pow_right (by decide) (by decide)))) (by decide)
theorem big4 {z : Int} {k : Nat} (h : z.natAbs < 2 ^ k) (hk : k ≤ 4000) : z.natAbs < 2 ^ 4000 := Nat.lt_of_lt_of_le h (Nat.pow_le_pow_right (by decide) hk)
theorem take_ok {n : Nat} {pot : List D} {below : Int} (h : PotOk n pot) (hn : n < 10 ^ 30) (hb : 0 < below) (hb3 : below < 10 ^ 39) : ∃ r pot', f__law_take pot (.int below) = .ok (.int r, pot') ∧ PotOk (n + 1) pot' ∧ 0 ≤ r ∧ r < below := by
  have hb2 := log39 hb hb3
  obtain ⟨a, b, c, rfl, h1, h2, h3, h4, h5, h6⟩ := h
  by_cases ha : 0 < a
  · refine ⟨a % below, [.int (a / below), .int b, .int c], ?_, ⟨_, _, _, rfl, Int.ediv_nonneg h1 (Int.le_of_lt hb), Int.lt_of_le_of_lt (Int.ediv_le_self _ h1) h2, h3, h4, h5, by omega⟩, Int.emod_nonneg _ (by omega), Int.emod_lt_of_pos _ hb⟩
    simp [f__law_take, ha, hb, hb2]
  · obtain ⟨x, hx⟩ : ∃ x, x = (b + 20011 * (c + 1) * (c + 1) + 23) * 71011 % 2305843009213693921 := ⟨_, rfl⟩
    have x0 : 0 ≤ x := by rw [hx]; exact Int.emod_nonneg _ (by decide)
    have x1 : x < 2305843009213693921 := by rw [hx]; exact Int.emod_lt_of_pos _ (by decide)
    obtain ⟨y, hy⟩ : ∃ y, y = x * (x % 1000081 + 50021 * (c + 1) + 9) % 2305843009213693951 := ⟨_, rfl⟩
    have c1 : (c + 1).natAbs < 2 ^ 110 := by omega
    have c2 : (20011 * (c + 1)).natAbs < 2 ^ 130 := by omega
    have c3 : (20011 * (c + 1) * (c + 1)).natAbs < 2 ^ 250 := by
      rw [Int.natAbs_mul]
      exact Nat.lt_of_lt_of_le (Nat.mul_lt_mul'' c2 c1) (by decide)
    have m1 : mulOk 20011 (c + 1) = true := mulOk_of (by decide) (big4 c1 (by decide))
    have m2 : mulOk (20011 * (c + 1)) (c + 1) = true := mulOk_of (big4 c2 (by decide)) (big4 c1 (by decide))
    have m3 : mulOk (b + 20011 * (c + 1) * (c + 1) + 23) 71011 = true := mulOk_of (big4 (k := 260) (by omega) (by decide)) (by decide)
    have m4 : mulOk 50021 (c + 1) = true := mulOk_of (by decide) (big4 c1 (by decide))
    have m5 : mulOk x (x % 1000081 + 50021 * (c + 1) + 9) = true := mulOk_of (big4 (k := 70) (by omega) (by decide)) (big4 (k := 140) (by omega) (by decide))
    refine ⟨(y / 107 + y / 999983) % below, [.int a, .int b, .int (c + 1)], ?_, ⟨_, _, _, rfl, h1, h2, h3, h4, by omega, by omega⟩, Int.emod_nonneg _ (by omega), Int.emod_lt_of_pos _ hb⟩
    have l1 : dDiv (.int y) (.int 107) = some (.int (y / 107)) := d_div_i (by decide) (by decide)
    have l2 : dDiv (.int y) (.int 999983) = some (.int (y / 999983)) := d_div_i (by decide) (by decide)
    simp [f__law_take, ha, hb, m1, m2, m3, m4, ← hx, m5, ← hy, l1, l2]
section
variable {α : Type} {Q : α → Prop} {n : Nat} {pot : List D}
theorem take_bind {below : Int} {K : D × List D → Po α} (h : PotOk n pot) (hn : n < 10 ^ 30) (hb : 0 < below) (hb3 : below < 10 ^ 39) (k : ∀ r pot', PotOk (n + 1) pot' → 0 ≤ r → r < below → Wp (K (.int r, pot')) Q) : Wp ((f__law_take pot (.int below)).bindS K) Q := by
  obtain ⟨r, pot', e, h1, h2, h3⟩ := take_ok h hn hb hb3
  rw [e]
  exact k r pot' h1 h2 h3
/-- one of several -/
theorem atI_nat {α : Type} {xs : List α} {k : Nat} (h : k < xs.length) : atI xs (k : Int) = some xs[k] := by
  unfold atI
  rw [ix_nat h]
  exact List.getElem?_eq_getElem h
theorem of_ok {xs : List D} {s : D} (h : PotOk n pot) (hn : n < 10 ^ 30) (hx : xs ≠ []) (hl : xs.length ≤ 16777216) (hs : s = .list xs ∨ s = .tuple xs) : ∃ d pot', f__law_of pot s = .ok (d, pot') ∧ PotOk (n + 1) pot' ∧ d ∈ xs := by
  have hpos : 0 < xs.length := List.length_pos_iff.mpr hx
  obtain ⟨r, pot', e, h1, h2, h3⟩ := take_ok (below := (xs.length : Int)) h hn (by omega) (by omega)
  obtain ⟨k, rfl⟩ := Int.eq_ofNat_of_zero_le h2
  have hk : k < xs.length := by omega
  refine ⟨xs[k], pot', ?_, h1, List.getElem_mem hk⟩
  rcases hs with rfl | rfl
  · simp [f__law_of, e, atI_nat hk]
  · simp [f__law_of, e, atI_nat hk]
theorem of_bind {xs : List D} {s : D} {K : D × List D → Po α} (h : PotOk n pot) (hn : n < 10 ^ 30) (hx : xs ≠ []) (hl : xs.length ≤ 16777216) (hs : s = .list xs ∨ s = .tuple xs) (k : ∀ d pot', PotOk (n + 1) pot' → d ∈ xs → Wp (K (d, pot')) Q) : Wp ((f__law_of pot s).bindS K) Q := by
  obtain ⟨d, pot', e, h1, h2⟩ := of_ok h hn hx hl hs
  rw [e]
  exact k d pot' h1 h2
/-- one of several numbers -/
theorem ofI_bind (is : List Int) {K : D × List D → Po α} (h : PotOk n pot) (hn : n < 10 ^ 30) (hx : is ≠ []) (hl : is.length ≤ 16777216) (k : ∀ z pot', PotOk (n + 1) pot' → z ∈ is → Wp (K (.int z, pot')) Q) : Wp ((f__law_of pot (.list (is.map .int))).bindS K) Q :=
  of_bind h hn (by simpa using hx) (by simpa using hl) (.inl rfl) fun d pot' p hd => by
    obtain ⟨z, hz, rfl⟩ := List.mem_map.mp hd
    exact k z pot' p hz
/-- a sign of a text -/
theorem sign_ok {z : Str} (h : PotOk n pot) (hn : n < 10 ^ 30) (hx : 0 < z.length) (hl : z.length ≤ 16777216) : ∃ g pot', f__law_of pot (.str z) = .ok (.str ⟨#[g]⟩, pot') ∧ PotOk (n + 1) pot' ∧ g ∈ z.cps.toList := by
  obtain ⟨r, pot', e, h1, h2, h3⟩ := take_ok (below := (z.length : Int)) h hn (by omega) (by omega)
  obtain ⟨k, rfl⟩ := Int.eq_ofNat_of_zero_le h2
  have hk : k < z.cps.toList.length := by
    have : z.length = z.cps.toList.length := by simp [Str.length]
    omega
  have fl : fLen [.str z] = some (.int z.length) := if_pos (by rw [sizeLine_eq]; exact hl)
  have ix : dIx (.str z) (.int (k : Int)) = some (.str ⟨#[z.cps.toList[k]]⟩) := by
    show (if z.length ≤ sizeLine then _ else _) = _
    rw [if_pos (by rw [sizeLine_eq]; exact hl)]
    rw [atI_nat hk]
    rfl
  refine ⟨z.cps.toList[k], pot', ?_, h1, List.getElem_mem hk⟩
  simp only [f__law_of, fl, po_some, e, po_bindS_ok, ix]
theorem sign_bind {z : Str} {K : D × List D → Po α} (h : PotOk n pot) (hn : n < 10 ^ 30) (hx : 0 < z.length) (hl : z.length ≤ 16777216) (k : ∀ g pot', PotOk (n + 1) pot' → g ∈ z.cps.toList → Wp (K (.str ⟨#[g]⟩, pot')) Q) : Wp ((f__law_of pot (.str z)).bindS K) Q := by
  obtain ⟨g, pot', e, h1, h2⟩ := sign_ok h hn hx hl
  rw [e]
  exact k g pot' h1 h2
end
/-- the pot that the script fills -/
theorem pot_ok (k : Nat) (hk : k < 1000) (ns : List Int) (hl : ns.length ≤ 16777216) : ∃ pot, f__law_pot (ns.map .int) (.int k) = .ok pot ∧ PotOk 0 pot := by
  obtain ⟨cell, hc0⟩ : ∃ cell : Int, cell = (if h : k < ns.length then ns[k] else 17 * k + 6) := ⟨_, rfl⟩
  obtain ⟨m, hm⟩ : ∃ m, m = (if cell < 0 then -cell else cell) := ⟨_, rfl⟩
  obtain ⟨z, hz⟩ : ∃ z : Int, z = (if 10 ^ 18 ≤ m then 1 else 0) := ⟨_, rfl⟩
  have z01 : 0 ≤ z ∧ z ≤ 1 := by rw [hz]; split <;> decide
  obtain ⟨y, hy⟩ : ∃ y, y = m % (10 ^ 60) ^ 5 := ⟨_, rfl⟩
  have y0 : 0 ≤ y := by rw [hy]; exact Int.emod_nonneg _ (by decide)
  have y1 : y < 10 ^ 300 := by
    have h1 : m % (10 ^ 60) ^ 5 < (10 ^ 60) ^ 5 := Int.emod_lt_of_pos _ (by decide)
    have h2 : ((10 : Int) ^ 60) ^ 5 = 10 ^ 300 := by decide +kernel
    rw [hy, ← h2]
    exact h1
  have yz : 0 ≤ y * z ∧ y * z < 10 ^ 300 := by
    have : z = 0 ∨ z = 1 := by omega
    rcases this with q | q
    · rw [q, Int.mul_zero]
      exact ⟨by decide, by decide +kernel⟩
    · rw [q, Int.mul_one]
      exact ⟨y0, y1⟩
  obtain ⟨c, hc⟩ : ∃ c, c = cell % 2305843009213693951 := ⟨_, rfl⟩
  obtain ⟨b, hb⟩ : ∃ b, b = (c * 70991 + 4001 * (k : Int) * k + 71) % 2305843009213693907 := ⟨_, rfl⟩
  have c0 : 0 ≤ c := by rw [hc]; exact Int.emod_nonneg _ (by decide)
  have c1 : c < 2305843009213693951 := by rw [hc]; exact Int.emod_lt_of_pos _ (by decide)
  have b0 : 0 ≤ b := by rw [hb]; exact Int.emod_nonneg _ (by decide)
  have b1 : b < 2305843009213693907 := by rw [hb]; exact Int.emod_lt_of_pos _ (by decide)
  have ybig : y.natAbs < 2 ^ 1000 := by
    have e : ((10 : Int) ^ 300) ≤ 2 ^ 1000 := by decide +kernel
    have e2 : ((2 : Int) ^ 1000) = ((2 ^ 1000 : Nat) : Int) := by decide +kernel
    have := Int.lt_of_lt_of_le y1 e
    rw [e2] at this
    generalize (2 ^ 1000 : Nat) = g at this ⊢
    omega
  have n0 : dMulX (.int 17) (.int (k : Int)) = some (.int (17 * k)) := d_mul_i (mulOk_of (by decide) (big4 (k := 70) (by omega) (by decide)))
  have n1 : dMulX (.int y) (.int z) = some (.int (y * z)) := d_mul_i (mulOk_of (big4 ybig (by decide)) (big4 (k := 70) (by omega) (by decide)))
  have n2 : dMulX (.int c) (.int 70991) = some (.int (c * 70991)) := d_mul_i (mulOk_of (big4 (k := 70) (by omega) (by decide)) (big4 (k := 70) (by decide) (by decide)))
  have n3 : dMulX (.int 4001) (.int (k : Int)) = some (.int (4001 * k)) := d_mul_i (mulOk_of (by decide) (big4 (k := 70) (by omega) (by decide)))
  have n4 : dMulX (.int (4001 * (k : Int))) (.int (k : Int)) = some (.int (4001 * k * k)) := d_mul_i (mulOk_of (big4 (k := 70) (by omega) (by decide)) (big4 (k := 70) (by omega) (by decide)))
  have p1 : dPow (.int 10) (.int 60) = some (.int (10 ^ 60)) := d_pow_i0 (by decide +kernel)
  have p2 : dPow (.int (10 ^ 60)) (.int 5) = some (.int ((10 ^ 60) ^ 5)) := d_pow_i0 (by decide +kernel)
  have p3 : dPow (.int 10) (.int 18) = some (.int (10 ^ 18)) := d_pow_i0 (by decide +kernel)
  have d1 : dMod (.int m) (.int ((10 ^ 60) ^ 5)) = some (.int y) := by
    rw [hy]
    exact d_mod_i (by decide)
  have d2 : dMod (.int cell) (.int 2305843009213693951) = some (.int c) := by
    rw [hc]
    exact d_mod_i (by decide)
  have d3 : dMod (.int (c * 70991 + 4001 * (k : Int) * k + 71)) (.int 2305843009213693907) = some (.int b) := by
    rw [hb]
    exact d_mod_i (by decide)
  refine ⟨[.int (y * z), .int b, .int 0], ?_, _, _, _, rfl, yz.1, yz.2, b0, by omega, by decide, by decide⟩
  have fa : fAbs [.int cell] = some (.int m) := by rw [hm]; rfl
  have key : f__law_pot (ns.map .int) (.int k) = (Po.ok (.int cell) : Po D).bind fun (cell2 : D) =>
      (((fAbs [cell2]).bind fun t3 => ((dPow (.int 10) (.int 60)).bind fun t4 => dPow t4 (.int 5)).bind fun t5 => dMod t3 t5).bind fun t6 => (((fAbs [cell2]).bind fun t7 => (dPow (.int 10) (.int 18)).bind fun t8 => (dCmp fun i j => decide (j ≤ i)) t7 t8).bind fun t9 => fInt [t9]).bind fun t10 => dMulX t6 t10).po fun own =>
      ((((((dMod cell2 (.int 2305843009213693951)).bind fun t11 => dMulX t11 (.int 70991)).bind fun t12 => ((dMulX (.int 4001) (.int k)).bind fun t13 => dMulX t13 (.int k)).bind fun t14 => dAdd t12 t14).bind fun t15 => dAdd t15 (.int 71)).bind fun t16 => dMod t16 (.int 2305843009213693907)).bind fun t17 => some [own, t17, (.int 0)]).po fun t18 => .ok t18 := by
    unfold f__law_pot
    simp only [n0, Option.bind_some, d_add_i, po_some, d_cmp, toB_bool, List.length_map]
    by_cases hk2 : k < ns.length
    · have e1 : dIx (.list (ns.map .int)) (.int (k : Int)) = some (.int cell) := by
        rw [d_ix_l, atI_nat (by simpa using hk2)]
        simp [hc0, hk2]
      simp only [decide_eq_true (show (k : Int) < ns.length by omega), if_true, e1, po_some]
    · simp only [decide_eq_false (show ¬ (k : Int) < ns.length by omega), Bool.false_eq_true, if_false]
      rw [hc0, dif_neg hk2]
  rw [key]
  simp only [po_bind_ok, fa, Option.bind_some, p1, p2, p3, d1, d2, d_cmp, f_int_b, ← hz, n1, n2, n3, n4, d_add_i, d3, po_some]
  have hz2 : (if decide (10 ^ 18 ≤ m) = true then (1 : Int) else 0) = z := by rw [hz]; simp
  simp only [hz2, n1, po_some]
end ML
/-! PL3: streams; drawn words and streams. -/
namespace ML
open PySem L2
def small1 (g : Nat) : Prop := 97 ≤ g ∧ g ≤ 122
inductive Cmd where
  | lit (w : Str)
  | cpy (d n : Nat)
def cmdD : Cmd → D
  | .lit w => .tuple [.str "literal", .str w]
  | .cpy d n => .tuple [.str "copy", .int d, .int n]
def many : Cmd → Nat
  | .lit w => w.length
  | .cpy _ n => n
def reach (cs : List Cmd) : Nat := (cs.map many).sum
/-- a command behind r letters, words of at most l letters, copies of at most m -/
def CmdOk (l m r : Nat) : Cmd → Prop
  | .lit w => 1 ≤ w.length ∧ w.length ≤ l ∧ ∀ g ∈ w.cps.toList, small1 g
  | .cpy d n => 1 ≤ d ∧ d ≤ r ∧ 1 ≤ n ∧ n ≤ m
def StreamOk (l m : Nat) : Nat → List Cmd → Prop
  | _, [] => True
  | r, c :: cs => CmdOk l m r c ∧ StreamOk l m (r + many c) cs
def streamD (cs : List Cmd) : D := .tuple (cs.map cmdD)
@[simp] theorem reach_nil : reach [] = 0 := rfl
@[simp] theorem reach_cons {c : Cmd} {cs : List Cmd} : reach (c :: cs) = many c + reach cs := by simp [reach]
theorem reach_app (cs ds : List Cmd) : reach (cs ++ ds) = reach cs + reach ds := by simp [reach]
theorem StreamOk.snoc {l m : Nat} : ∀ {cs : List Cmd} {r : Nat} {c : Cmd}, StreamOk l m r cs → CmdOk l m (r + reach cs) c → StreamOk l m r (cs ++ [c])
  | [], r, c, _, h => ⟨by simpa using h, trivial⟩
  | x :: cs, r, c, h, h2 => ⟨h.1, StreamOk.snoc h.2 (by
      rw [reach_cons] at h2
      have e : r + (many x + reach cs) = r + many x + reach cs := by omega
      rw [e] at h2
      exact h2)⟩
theorem CmdOk.many {l m r : Nat} {c : Cmd} (h : CmdOk l m r c) : 1 ≤ many c := by
  cases c with
  | lit w => exact h.1
  | cpy d n => exact h.2.2.1
theorem StreamOk.reach {l m : Nat} : ∀ {cs : List Cmd} {r : Nat}, StreamOk l m r cs → cs.length ≤ reach cs
  | [], _, _ => by simp
  | c :: cs, r, h => by
    have h1 := h.1.many
    have h2 := StreamOk.reach h.2
    rw [reach_cons, List.length_cons]
    omega

/-! a drawn word -/
theorem empty_eq : Str.ofString "" = Str.empty := by decide +kernel
theorem join_signs : ∀ gs : List Nat, (Str.join Str.empty (gs.map fun g => ⟨#[g]⟩)).cps.toList = gs
  | [] => rfl
  | [g] => rfl
  | g :: h :: r => by
    show ((⟨#[g]⟩ : Str) ++ Str.empty ++ Str.join Str.empty ((h :: r).map fun g => ⟨#[g]⟩)).cps.toList = _
    rw [Str.append_empty, Str.cps_append, Array.toList_append, join_signs (h :: r)]
    rfl
theorem str_of {w : Str} {gs : List Nat} (h : w.cps.toList = gs) : w = ⟨gs.toArray⟩ := by
  cases w
  subst h
  rfl
theorem len_eq (w : Str) : w.length = w.cps.toList.length := by simp [Str.length]
theorem sum_signs (gs : List Nat) : ((gs.map fun g => (⟨#[g]⟩ : Str)).map (·.length)).sum = gs.length := by
  induction gs with
  | nil => rfl
  | cons g r ih =>
    simp only [List.map_cons, List.sum_cons, List.length_cons] at ih ⊢
    rw [ih]
    show 1 + _ = _
    omega
theorem strsOf_map {α : Type} (f : α → Str) (xs : List α) : strsOf (xs.map fun a => .str (f a)) = some (xs.map f) := by
  induction xs with
  | nil => rfl
  | cons x r ih =>
    rw [List.map_cons, strsOf, ih]
    rfl
/-- the signs joined -/
theorem join_ok (gs : List Nat) (h : gs.length ≤ 16777216) : fJoin (.str (Str.ofString "")) (.list (gs.map fun g => .str ⟨#[g]⟩)) = some (.str ⟨gs.toArray⟩) := by
  show (strsOf _).bind _ = _
  rw [strsOf_map, empty_eq]
  dsimp only [Option.bind]
  have l0 : Str.empty.length = 0 := rfl
  rw [if_pos (by rw [sum_signs, l0]; omega), show Txt.join Str.empty (gs.map fun g => ⟨#[g]⟩) = Str.join Str.empty (gs.map fun g => ⟨#[g]⟩) from PySem.StrLaws.glued_eq_join _ _, str_of (join_signs gs)]
theorem signs_of {xs : List D} {P : Nat → Prop} (h : ∀ x ∈ xs, ∃ g, x = .str ⟨#[g]⟩ ∧ P g) : ∃ gs : List Nat, xs = gs.map (fun g => .str ⟨#[g]⟩) ∧ gs.length = xs.length ∧ ∀ g ∈ gs, P g := by
  induction xs with
  | nil => exact ⟨[], rfl, rfl, fun g hg => nomatch hg⟩
  | cons x r ih =>
    obtain ⟨g, rfl, hg⟩ := h x (by simp)
    obtain ⟨gs, rfl, h2, h3⟩ := ih fun y hy => h y (by simp [hy])
    refine ⟨g :: gs, rfl, by simp, fun k hk => ?_⟩
    rcases List.mem_cons.mp hk with q | q
    · subst q
      exact hg
    · exact h3 k q
section
variable {α : Type} {Q : α → Prop} {n : Nat} {pot : List D}
theorem word_bind {most : Int} {K : D × List D → Po α} (h : PotOk n pot) (hn : n + 2000 < 10 ^ 30) (hm : 0 < most) (hm2 : most < 1000) (k : ∀ w pot', PotOk (n + 2 + most.toNat) pot' → 1 ≤ w.length → (w.length : Int) ≤ most → (∀ g ∈ w.cps.toList, small1 g) → Wp (K (.str w, pot')) Q) : Wp ((f__law_word pot (.int most)).bindS K) Q := by
  rw [wp_bindS]
  unfold f__law_word
  refine of_bind (xs := [.str "ab", .str "ab", .str "abc", .str "xyz", .str "abcdefghijklmnopqrstuvwxyz"]) h (by omega) (by simp) (by simp) (.inl rfl) fun d p1 h1 hd => ?_
  obtain ⟨z, rfl, z1, z2, z3⟩ : ∃ z : Str, d = .str z ∧ 0 < z.length ∧ z.length ≤ 16777216 ∧ ∀ g ∈ z.cps.toList, small1 g := by
    have f : ∀ s : Str, (decide (0 < s.length) && decide (s.length ≤ 16777216) && s.cps.toList.all fun g => decide (97 ≤ g) && decide (g ≤ 122)) = true → 0 < s.length ∧ s.length ≤ 16777216 ∧ ∀ g ∈ s.cps.toList, small1 g := fun s hs => by
      simp only [Bool.and_eq_true, decide_eq_true_eq, List.all_eq_true] at hs
      exact ⟨hs.1.1, hs.1.2, fun g hg => hs.2 g hg⟩
    simp at hd
    rcases hd with q | q | q | q <;> subst q
    · exact ⟨_, rfl, f _ (by decide +kernel)⟩
    · exact ⟨_, rfl, f _ (by decide +kernel)⟩
    · exact ⟨_, rfl, f _ (by decide +kernel)⟩
    · exact ⟨_, rfl, f _ (by decide +kernel)⟩
  refine take_bind h1 (by omega) hm (by omega) fun r p2 h2 r0 r1 => ?_
  simp only [d_add_i, po_some, range1_int (i := 1 + r) (by omega)]
  have rl : (rngOf 0 (1 + r)).length = (1 + r).toNat := rng_len _
  refine wp_comp (fun j s => PotOk (n + 2 + j) s) (fun x => ∃ g, x = .str ⟨#[g]⟩ ∧ small1 g) (by omega) (fun j d s hj hs => ?_) h2 fun xs s hl hx hs => ?_
  · have hj2 : j < (rngOf 0 (1 + r)).length := (List.getElem?_eq_some_iff.mp hj).1
    refine sign_bind hs (by omega) z1 z2 fun g p3 h3 hg => ?_
    exact ⟨_, rfl, ⟨g, rfl, z3 g hg⟩, h3⟩
  · obtain ⟨gs, rfl, g1, g2⟩ := signs_of hx
    simp only [join_ok gs (by omega), po_some, wp_ok]
    refine k _ _ (hs.mono (by omega)) ?_ ?_ (by simpa using g2)
    · rw [len_eq]
      simp
      omega
    · rw [len_eq]
      simp
      omega
/-! a drawn stream -/
structure SInv (n : Nat) (m2 m3 : Int) (k : Nat) (s : List D × List D × D) : Prop where
  pot : PotOk (n + 1 + 20 * k) s.1
  ex : ∃ cs, s.2.1 = cs.map cmdD ∧ s.2.2 = .int (reach cs : Int) ∧ cs.length ≤ k ∧ StreamOk 4 m2.toNat 0 cs ∧ (reach cs : Int) ≤ m3
theorem ne_copy : (Str.ofString "copy" == Str.ofString "literal") = false := by decide +kernel
theorem ne_literal : (Str.ofString "literal" == Str.ofString "copy") = false := by decide +kernel
theorem len_str {w : Str} (h : w.length ≤ 16777216) : fLen [.str w] = some (.int w.length) := if_pos (by rw [sizeLine_eq]; omega)
/-- how many letters, as the laws write it -/
theorem many_ok {c : Cmd} {l m r : Nat} (hc : CmdOk l m r c) (hl : l ≤ 1000) : ifO (((dIx (cmdD c) (.int 0)).bind fun t => dEq t (.str "literal")).bind fun t => toB t) ((dIx (cmdD c) (.int 1)).bind fun t => fLen [t]) (dIx (cmdD c) (.int 2)) = some (.int (many c : Int)) := by
  cases c with
  | lit w =>
    have fl : fLen [.str w] = some (.int w.length) := len_str (by have := hc.2.1; omega)
    simp [cmdD, many, fl]
  | cpy x y => simp [cmdD, many, ne_copy]
theorem stream_bind {m1 m2 m3 : Int} {K : D × List D → Po α} (h : PotOk n pot) (h1 : 0 ≤ m1) (h1' : m1 < 1000) (h2 : 1 ≤ m2) (h2' : m2 < 10 ^ 30) (h3 : 0 ≤ m3) (h3' : m3 < 10 ^ 30) (hn : n + 100000 < 10 ^ 30)
    (k : ∀ cs pot', PotOk (n + 100000) pot' → (cs.length : Int) ≤ m1 → StreamOk 4 m2.toNat 0 cs → (reach cs : Int) ≤ m3 → Wp (K (streamD cs, pot')) Q) : Wp ((f__law_stream pot (.int m1) (.int m2) (.int m3)).bindS K) Q := by
  rw [wp_bindS]
  unfold f__law_stream
  simp only [d_add_i, po_some]
  refine take_bind h (by omega) (by omega) (by omega) fun r p1 hp1 r0 r1 => ?_
  simp only [range1_int (i := r) (by omega), po_some]
  have rl : (rngOf 0 r).length = r.toNat := rng_len _
  refine wp_forN (SInv n m2 m3) (fun j d s hj hs => ?_) ⟨hp1.mono (by omega), [], rfl, rfl, Nat.le_refl _, trivial, h3⟩ fun s hs => ?_
  · have hj2 : j < (rngOf 0 r).length := (List.getElem?_eq_some_iff.mp hj).1
    obtain ⟨pt, found, reached⟩ := s
    obtain ⟨hp, cs, rfl, rfl, hl, ho, hm⟩ := hs
    dsimp only at hp ⊢
    obtain ⟨N, hN⟩ : ∃ N, N = n + 1 + 20 * j := ⟨_, rfl⟩
    have hN2 : N + 50000 < 10 ^ 30 := by omega
    rw [← hN] at hp
    refine word_bind (most := 4) hp (by omega) (by decide) (by decide) fun w p2 hp2 w0 w1 w2 => ?_
    replace hp2 : PotOk (N + 6) p2 := hp2
    -- the command
    refine Wp.bind (Q' := fun p => PotOk (N + 13) p.1 ∧ ∃ c, p.2 = cmdD c ∧ CmdOk 4 m2.toNat (reach cs) c) ?_ ?_
    · refine Wp.bind (Q' := fun p => PotOk (N + 7) p.2 ∧ (p.1 = true → 0 < (reach cs : Int))) ?_ ?_
      · simp only [d_cmp, Option.bind_some, toB_bool, po_some]
        by_cases hr : 0 < (reach cs : Int)
        · simp only [decide_eq_true hr, if_true]
          refine take_bind hp2 (by omega) (by decide) (by decide) fun r4 p3 hp3 _ _ => ?_
          simp only [d_cmp, toB_bool, po_some, wp_ok]
          exact ⟨hp3, fun _ => hr⟩
        · simp only [decide_eq_false hr, Bool.false_eq_true, if_false, wp_ok]
          exact ⟨hp2.mono (by omega), fun h => nomatch h⟩
      rintro ⟨b, p3⟩ ⟨hp3, hb⟩
      dsimp only at hp3 hb ⊢
      cases b with
      | false => exact ⟨hp3.mono (by omega), .lit w, rfl, w0, by omega, w2⟩
      | true =>
        have hr := hb rfl
        have hml := ho.reach
        rw [if_pos rfl]
        refine take_bind hp3 (by omega) hr (by omega) fun dd p4 hp4 y0 y1 => ?_
        simp only [d_add_i, po_some]
        refine Wp.bind (Q' := fun p => PotOk (N + 10) p.1 ∧ ∃ z : Int, p.2 = .int z ∧ 1 ≤ z ∧ z ≤ (reach cs : Int)) ?_ ?_
        · refine take_bind hp4 (by omega) (by decide) (by decide) fun r3 p5 hp5 u0 u1 => ?_
          simp only [dEq_int, toB_bool, po_some, f_min, Option.bind_some, Option.map_some]
          by_cases h30 : r3 = 0
          · simp only [h30, decide_true, if_true]
            refine ofI_bind [1, (reach cs : Int), if (reach cs : Int) < 2 then (reach cs : Int) else 2] hp5 (by omega) (by simp) (by simp) fun z p6 hp6 hz => ?_
            refine ⟨hp6, z, rfl, ?_⟩
            simp at hz
            rcases hz with q | q | q
            · omega
            · omega
            · split at q <;> omega
          · rw [if_neg (by simpa using h30)]
            exact ⟨hp5.mono (by omega), _, rfl, by omega, by omega⟩
        rintro ⟨p5, _⟩ ⟨hp5, z, rfl, z0, z1⟩
        dsimp only at hp5 ⊢
        have md : dMulX (.int 2) (.int z) = some (.int (2 * z)) := d_mul_i (mulOk_of (by decide) (big4 (k := 110) (by omega) (by decide)))
        simp only [md, po_some]
        refine take_bind hp5 (by omega) (by omega) (by omega) fun r7 p7 hp7 t0 t1 => ?_
        simp only [d_add_i, po_some]
        refine take_bind hp7 (by omega) (by omega) (by omega) fun r8 p8 hp8 t2 t3 => ?_
        simp only [d_add_i, po_some]
        refine ofI_bind [z, 2 * z, 1 + r7, 1 + r8] hp8 (by omega) (by simp) (by simp) fun y p9 hp9 hy => ?_
        have y0 : 1 ≤ y := by
          simp at hy
          omega
        simp only [f_min, po_some, wp_ok]
        refine ⟨hp9.mono (by omega), .cpy z.toNat (if m2 < y then m2 else y).toNat, ?_, by omega, by omega, ?_, ?_⟩
        · simp only [cmdD, Int.toNat_of_nonneg (show 0 ≤ z by omega)]
          rw [Int.toNat_of_nonneg (by split <;> omega)]
        · split <;> omega
        · split <;> omega
    rintro ⟨p4, _⟩ ⟨hp4, c, rfl, hc⟩
    have hml := ho.reach
    dsimp only at hp4 ⊢
    rw [many_ok hc (by decide)]
    simp only [po_some, d_add_i, Option.bind_some, d_cmp, toB_bool]
    by_cases hr : (reach cs : Int) + (many c : Int) ≤ m3
    · simp only [decide_eq_true hr, if_true]
      rw [push_ok (by rw [List.length_map]; omega)]
      exact ⟨hp4.mono (by omega), cs ++ [c], by simp, by rw [reach_app]; simp, by simp; omega, ho.snoc (by rw [Nat.zero_add]; exact hc), by rw [reach_app]; simpa using hr⟩
    · simp only [decide_eq_false hr, Bool.false_eq_true, if_false, wp_ok]
      exact ⟨hp4.mono (by omega), cs, rfl, rfl, by omega, ho, hm⟩
  · obtain ⟨pt, found, reached⟩ := s
    obtain ⟨hp, cs, rfl, rfl, hl, ho, hm⟩ := hs
    dsimp only at hp ⊢
    simp only [f_tup_l, po_some, wp_ok]
    exact k cs pt (hp.mono (by omega)) (by omega) ho hm
end
end ML
/-! PL4: data that may be shown and compared; loops whose state the prefix tells. -/
namespace ML
open PySem L2
structure Bnd (k w : Nat) (d : D) : Prop where
  n : nice d = true
  k : d.depth ≤ k
  w : d.weight ≤ w
theorem Bnd.mono {k w k' w' : Nat} {d : D} (h : Bnd k w d) (h1 : k ≤ k') (h2 : w ≤ w') : Bnd k' w' d := ⟨h.n, Nat.le_trans h.k h1, Nat.le_trans h.w h2⟩
theorem bnd_none : Bnd 0 0 .none := ⟨rfl, Nat.le_refl _, Nat.le_refl _⟩
theorem bnd_bool {b : Bool} : Bnd 0 0 (.bool b) := ⟨rfl, Nat.le_refl _, Nat.le_refl _⟩
theorem bnd_int {i : Int} (h : i.natAbs < 10 ^ 39) : Bnd 0 130 (.int i) := by
  refine ⟨decide_eq_true h, Nat.le_refl _, ?_⟩
  show (if i == 0 then 0 else i.natAbs.log2 + 1) ≤ 130
  split
  · omega
  · by_cases h0 : i.natAbs = 0
    · rw [h0]; decide
    · have := (Nat.log2_lt h0).mpr (Nat.lt_of_lt_of_le h (by decide : (10:Nat) ^ 39 ≤ 2 ^ 130))
      omega
theorem bnd_str {x : Str} {w : Nat} (h : PyData.strOk x = true) (h2 : x.length ≤ w) : Bnd 0 w (.str x) := ⟨h, Nat.le_refl _, h2⟩
theorem bnd_all {k w : Nat} : ∀ {xs : List D}, (∀ x ∈ xs, Bnd k w x) → niceAll xs = true ∧ PyData.depthAll xs ≤ k ∧ PyData.weightAll xs ≤ xs.length * (w + 1)
  | [], _ => ⟨rfl, Nat.zero_le _, Nat.zero_le _⟩
  | x :: xs, h => by
    obtain ⟨h1, h2, h3⟩ := bnd_all (xs := xs) fun y hy => h y (by simp [hy])
    have hx := h x (by simp)
    refine ⟨Bool.and_eq_true_iff.mpr ⟨hx.n, h1⟩, Nat.max_le.mpr ⟨hx.k, h2⟩, ?_⟩
    show x.weight + 1 + PyData.weightAll xs ≤ (xs.length + 1) * (w + 1)
    have := hx.w
    rw [Nat.add_mul]
    omega
theorem bnd_list {k w n : Nat} {xs : List D} (h : ∀ x ∈ xs, Bnd k w x) (hl : xs.length ≤ n) : Bnd (k + 1) (n * (w + 1)) (.list xs) := by
  obtain ⟨h1, h2, h3⟩ := bnd_all h
  exact ⟨h1, Nat.succ_le_succ h2, Nat.le_trans h3 (Nat.mul_le_mul_right _ hl)⟩
theorem bnd_tup {k w n : Nat} {xs : List D} (h : ∀ x ∈ xs, Bnd k w x) (hl : xs.length ≤ n) : Bnd (k + 1) (n * (w + 1)) (.tuple xs) := by
  obtain ⟨h1, h2, h3⟩ := bnd_all h
  exact ⟨h1, Nat.succ_le_succ h2, Nat.le_trans h3 (Nat.mul_le_mul_right _ hl)⟩
theorem Bnd.repr {k w : Nat} {d : D} (h : Bnd k w d) (hk : k ≤ 64 := by decide) (hw : w ≤ 399000 := by decide) : fRepr [d] = some (.str d.shown) := repr_nice h.n (Nat.le_trans h.k hk) (Nat.le_trans h.w hw)
mutual
theorem eqv_self : ∀ d : D, nice d = true → PyData.eqv d d = true
  | .none, _ => rfl
  | .bool b, _ => by cases b <;> rfl
  | .int i, _ => by show (i == i) = true; simp
  | .str x, _ => by show (x == x) = true; simp
  | .list xs, h => eqv_selfAll xs h
  | .tuple xs, h => eqv_selfAll xs h
  | .dict _, h => by cases h
theorem eqv_selfAll : ∀ xs : List D, niceAll xs = true → PyData.eqvAll xs xs = true
  | [], _ => rfl
  | x :: r, h => by
    have h := Bool.and_eq_true_iff.mp (show (nice x && niceAll r) = true from h)
    exact Bool.and_eq_true_iff.mpr ⟨eqv_self x h.1, eqv_selfAll r h.2⟩
end
theorem Bnd.ne {k w : Nat} {d : D} (h : Bnd k w d) (hk : k ≤ 64 := by decide) : dNe d d = some (.bool false) := by
  rw [ne_nice h.n (Nat.le_trans h.k hk) h.n (Nat.le_trans h.k hk), eqv_self d h.n]
  rfl
theorem Bnd.eq {k w : Nat} {d : D} (h : Bnd k w d) (hk : k ≤ 64 := by decide) : dEq d d = some (.bool true) := by
  rw [eq_nice h.n (Nat.le_trans h.k hk) h.n (Nat.le_trans h.k hk), eqv_self d h.n]
@[simp] theorem ne_str_same {x : Str} : dNe (.str x) (.str x) = some (.bool false) := by simp
@[simp] theorem eq_str_same {x : Str} : dEq (.str x) (.str x) = some (.bool true) := by simp

/-! loops whose state is told by what was taken so far -/
section
variable {σ ρ α : Type} {enc : α → D}
theorem forN_pre {f : D → σ → Po σ} (G : List α → σ) : ∀ (post pre : List α), (∀ p x q, pre ++ post = p ++ x :: q → f (enc x) (G p) = .ok (G (p ++ [x]))) → forN f (post.map enc) (G pre) = .ok (G (pre ++ post))
  | [], pre, _ => by simp [forN]
  | x :: post, pre, h => by
    rw [List.map_cons, forN, h pre x post rfl, po_bind_ok, forN_pre G post (pre ++ [x]) (fun p y q e => h p y q (by simpa using e))]
    simp
theorem forN_of {f : D → σ → Po σ} {s : σ} (G : List α → σ) (xs : List α) (h0 : s = G []) (h : ∀ p x q, xs = p ++ x :: q → f (enc x) (G p) = .ok (G (p ++ [x]))) : forN f (xs.map enc) s = .ok (G xs) := by
  rw [h0, forN_pre G xs [] (by simpa using h)]
  rfl
theorem forS_pre {f : D → σ → Po (Step σ ρ)} (G : List α → σ) : ∀ (post pre : List α), (∀ p x q, pre ++ post = p ++ x :: q → f (enc x) (G p) = .ok (.nx (G (p ++ [x])))) → forS f (post.map enc) (G pre) = .ok (.nx (G (pre ++ post)))
  | [], pre, _ => by simp [forS]
  | x :: post, pre, h => by
    rw [List.map_cons, forS, h pre x post rfl, po_bind_ok]
    dsimp only
    rw [forS_pre G post (pre ++ [x]) (fun p y q e => h p y q (by simpa using e))]
    simp
theorem forS_of {f : D → σ → Po (Step σ ρ)} {s : σ} (G : List α → σ) (xs : List α) (h0 : s = G []) (h : ∀ p x q, xs = p ++ x :: q → f (enc x) (G p) = .ok (.nx (G (p ++ [x])))) : forS f (xs.map enc) s = .ok (.nx (G xs)) := by
  rw [h0, forS_pre G xs [] (by simpa using h)]
  rfl
/-- .. through the numbers below n -/
theorem range_split {n : Nat} {p q : List Nat} {x : Nat} (h : List.range n = p ++ x :: q) : x = p.length ∧ p = List.range p.length ∧ p.length < n := by
  have hl : p.length < n := by
    have := congrArg List.length h
    simp at this
    omega
  have h1 : (List.range n)[p.length]? = some x := by rw [h]; simp
  rw [List.getElem?_range hl] at h1
  refine ⟨(Option.some.inj h1).symm, ?_, hl⟩
  have := congrArg (List.take p.length) h
  rw [List.take_range, List.take_left' rfl] at this
  rw [Nat.min_eq_left (Nat.le_of_lt hl)] at this
  exact this.symm
def natD (k : Nat) : D := .int (k : Int)
theorem forN_rng {f : D → σ → Po σ} {s : σ} (G : Nat → σ) (n : Nat) (h0 : s = G 0) (h : ∀ k, k < n → f (.int (k : Int)) (G k) = .ok (G (k + 1))) : forN f (rngOf 0 (n : Int)) s = .ok (G n) := by
  rw [rng_nat]
  have := forN_of (enc := natD) (f := f) (fun l => G l.length) (List.range n) h0 fun p x q e => by
    obtain ⟨e1, _, e3⟩ := range_split e
    subst e1
    rw [List.length_append, List.length_singleton]
    exact h _ e3
  rw [show ((List.range n).map fun i : Nat => PyData.int (i : Int)) = (List.range n).map natD from rfl, this, List.length_range]
theorem forS_rng {f : D → σ → Po (Step σ ρ)} {s : σ} (G : Nat → σ) (n : Nat) (h0 : s = G 0) (h : ∀ k, k < n → f (.int (k : Int)) (G k) = .ok (.nx (G (k + 1)))) : forS f (rngOf 0 (n : Int)) s = .ok (.nx (G n)) := by
  rw [rng_nat]
  have := forS_of (enc := natD) (f := f) (fun l => G l.length) (List.range n) h0 fun p x q e => by
    obtain ⟨e1, _, e3⟩ := range_split e
    subst e1
    rw [List.length_append, List.length_singleton]
    exact h _ e3
  rw [show ((List.range n).map fun i : Nat => PyData.int (i : Int)) = (List.range n).map natD from rfl, this, List.length_range]
/-- a comprehension over the numbers below n -/
theorem mapS_rng {f : D → Option D} (g : Nat → D) (n : Nat) (hn : n ≤ 16777216) (h : ∀ k, k < n → f (.int (k : Int)) = some (g k)) : mapS f (rngOf 0 (n : Int)) = some ((List.range n).map g) := by
  rw [rng_nat]
  exact mapS_eq (enc := natD) g (by simpa using hn) fun k hk => h k (by simpa using hk)
end
end ML
/-! PL5: the functions of streams.py; a text unpacked. -/
namespace ML
open PySem L2

def Tame : Cmd → Prop
  | .lit w => w.length ≤ 16777216
  | .cpy _ _ => True
theorem CmdOk.tame {l m r : Nat} {c : Cmd} (h : CmdOk l m r c) (hl : l ≤ 1000) : Tame c := by
  cases c with
  | lit w => have := h.2.1; show w.length ≤ 16777216; omega
  | cpy d n => trivial
theorem StreamOk.tame {l m : Nat} (hl : l ≤ 1000) : ∀ {cs : List Cmd} {r : Nat}, StreamOk l m r cs → ∀ c ∈ cs, Tame c
  | [], _, _, c, hc => nomatch hc
  | x :: cs, r, h, c, hc => by
    rcases List.mem_cons.mp hc with e | e
    · subst e
      exact h.1.tame hl
    · exact StreamOk.tame hl h.2 c e
theorem many_tame {c : Cmd} (hc : Tame c) : ifO (((dIx (cmdD c) (.int 0)).bind fun t => dEq t (.str "literal")).bind fun t => toB t) ((dIx (cmdD c) (.int 1)).bind fun t => fLen [t]) (dIx (cmdD c) (.int 2)) = some (.int (many c : Int)) := by
  cases c with
  | lit w =>
    have fl : fLen [.str w] = some (.int w.length) := len_str hc
    simp [cmdD, many, fl]
  | cpy x y => simp [cmdD, many, ne_copy]
theorem letters_ok {c : Cmd} (h : Tame c) : f_letters_of (cmdD c) = .ok (.int (many c : Int)) := by
  unfold f_letters_of
  rw [many_tame h]
  rfl
theorem intsOf_map (is : List Int) : intsOf (is.map .int) = some is := by
  induction is with
  | nil => rfl
  | cons i r ih =>
    rw [List.map_cons, intsOf, ih]
    rfl
theorem sum_ints (is : List Int) : fSum [.list (is.map .int)] = some (.int is.sum) := by
  show (intsOf _).map _ = _
  rw [intsOf_map]
  rfl
theorem sum_many (cs : List Cmd) : fSum [.list (cs.map fun c => .int (many c : Int))] = some (.int (reach cs : Int)) := by
  have := sum_ints (cs.map fun c => (many c : Int))
  rw [List.map_map] at this
  rw [show (cs.map fun c => PyData.int (many c : Int)) = List.map (PyData.int ∘ fun c => (many c : Int)) cs from rfl, this]
  have e : (cs.map fun c => (many c : Int)).sum = (reach cs : Int) := by
    induction cs with
    | nil => rfl
    | cons c cs ih =>
      rw [List.map_cons, List.sum_cons, reach_cons, ih (by
        have := sum_ints (cs.map fun c => (many c : Int))
        rwa [List.map_map] at this)]
      omega
  rw [e]
@[simp] theorem items_stream {cs : List Cmd} : itemsOf (streamD cs) = some (cs.map cmdD) := rfl
theorem length_ok {cs : List Cmd} (ht : ∀ c ∈ cs, Tame c) (hl : cs.length ≤ 16777216) : f_length_of (streamD cs) = .ok (.int (reach cs : Int)) := by
  unfold f_length_of
  rw [items_stream, Option.bind_some, mapS_eq (enc := cmdD) (fun c => .int (many c : Int)) hl (fun c hc => by rw [letters_ok (ht c hc)]; rfl)]
  simp only [Option.map_some, Option.bind_some, sum_many, po_some]
theorem reach_ok {cs : List Cmd} (ht : ∀ c ∈ cs, Tame c) (hl : cs.length ≤ 16777216) : f__law_reach (streamD cs) = .ok (.int (reach cs : Int)) := by
  unfold f__law_reach
  rw [items_stream, Option.bind_some, mapS_eq (enc := cmdD) (fun c => .int (many c : Int)) hl (fun c hc => many_tame (ht c hc))]
  simp only [Option.map_some, Option.bind_some, sum_many, po_some]

/-! pieces -/
def pcs : Nat → List Cmd → List (Nat × Nat × Cmd)
  | _, [] => []
  | s, c :: cs => (s, s + many c, c) :: pcs (s + many c) cs
def pcD (p : Nat × Nat × Cmd) : D := .tuple [.int (p.1 : Int), .int (p.2.1 : Int), cmdD p.2.2]
theorem pcs_len : ∀ (s : Nat) (cs : List Cmd), (pcs s cs).length = cs.length
  | _, [] => rfl
  | s, c :: cs => by simp [pcs, pcs_len]
theorem pcs_app : ∀ (s : Nat) (cs ds : List Cmd), pcs s (cs ++ ds) = pcs s cs ++ pcs (s + reach cs) ds
  | _, [], _ => by simp [pcs]
  | s, c :: cs, ds => by
    rw [List.cons_append, pcs, pcs_app, pcs, reach_cons]
    simp [Nat.add_assoc]
theorem pieces_ok {cs : List Cmd} (ht : ∀ c ∈ cs, Tame c) (hl : cs.length < 16777216) : f_pieces (streamD cs) = .ok ((pcs 0 cs).map pcD) := by
  unfold f_pieces
  rw [items_stream, po_some, forN_of (enc := cmdD) (σ := List D × D) (s := ([], .int 0)) (fun p => ((pcs 0 p).map pcD, .int (reach p : Int))) cs rfl fun p c q e => ?_]
  · rfl
  · have h1 := ht c (by rw [e]; simp)
    have h2 : p.length < cs.length := by rw [e]; simp
    simp only [letters_ok h1, po_toO_ok, Option.bind_some, d_add_i, po_some, d_aug_i]
    rw [push_ok (by rw [List.length_map, pcs_len]; omega)]
    simp only [pcs_app, List.map_append, reach_app]
    simp [pcs, pcD]
theorem starts_ok {cs : List Cmd} (ht : ∀ c ∈ cs, Tame c) (hl : cs.length < 16777216) : f_starts (streamD cs) = .ok (.tuple ((pcs 0 cs).map fun p => .int (p.1 : Int))) := by
  unfold f_starts
  rw [pieces_ok ht hl]
  simp only [po_toL_ok, Option.bind_some, i_of_l]
  rw [mapS_eq (enc := pcD) (fun p => .int (p.1 : Int)) (by rw [pcs_len]; omega) fun p _ => rfl]
  rfl
theorem places_ok {cs : List Cmd} (ht : ∀ c ∈ cs, Tame c) (hl : cs.length < 16777216) : f__law_places (streamD cs) = .ok (.tuple ((pcs 0 cs).map fun p => .int (p.1 : Int))) := by
  unfold f__law_places
  rw [items_stream, po_some, forN_of (enc := cmdD) (σ := List D × D) (s := ([], .int 0)) (fun p => (((pcs 0 p).map fun p => PyData.int (p.1 : Int)), .int (reach p : Int))) cs rfl fun p c q e => ?_]
  · rfl
  · have h1 := ht c (by rw [e]; simp)
    have h2 : p.length < cs.length := by rw [e]; simp
    have h3 : f__law_reach (.tuple [cmdD c]) = .ok (.int (reach [c] : Int)) := reach_ok (cs := [c]) (fun x hx => by simp at hx; rw [hx]; exact h1) (by simp)
    dsimp only
    rw [push_ok (by rw [List.length_map, pcs_len]; omega)]
    simp only [h3, po_toO_ok, Option.bind_some, d_add_i, po_some]
    simp only [pcs_app, List.map_append, reach_app]
    simp [pcs]

/-! a text unpacked -/
/-- the sources of a command's letters that stand behind s -/
def seg (s : Nat) : Cmd → List (Option Nat)
  | .lit w => List.replicate w.length none
  | .cpy d n => (List.range n).map fun t => some (s - d + t % d)
def sf : Nat → List Cmd → List (Option Nat)
  | _, [] => []
  | s, c :: cs => seg s c ++ sf (s + many c) cs
def srcD : Option Nat → D
  | none => .none
  | some i => .int (i : Int)
def sgn (g : Nat) : D := .str ⟨#[g]⟩
/-- the letters with a command's behind them -/
def lay (L : List Nat) : Cmd → List Nat
  | .lit w => L ++ w.cps.toList
  | .cpy d n => L ++ (List.range n).map fun t => L.getD (L.length - d + t % d) 0
def text (cs : List Cmd) : List Nat := cs.foldl lay []
theorem seg_len (s : Nat) (c : Cmd) : (seg s c).length = many c := by cases c <;> simp [seg, many]
theorem sf_len : ∀ (s : Nat) (cs : List Cmd), (sf s cs).length = reach cs
  | _, [] => rfl
  | s, c :: cs => by simp [sf, seg_len, sf_len]
theorem sf_app : ∀ (s : Nat) (cs ds : List Cmd), sf s (cs ++ ds) = sf s cs ++ sf (s + reach cs) ds
  | _, [], _ => by simp [sf]
  | s, c :: cs, ds => by
    rw [List.cons_append, sf, sf_app, sf, reach_cons]
    simp [Nat.add_assoc]
theorem lay_len (L : List Nat) (c : Cmd) : (lay L c).length = L.length + many c := by cases c <;> simp [lay, many, len_eq]
theorem text_snoc (cs : List Cmd) (c : Cmd) : text (cs ++ [c]) = lay (text cs) c := by simp [text]
theorem foldl_len : ∀ (cs : List Cmd) (L : List Nat), (cs.foldl lay L).length = L.length + reach cs
  | [], L => by simp
  | c :: cs, L => by
    rw [List.foldl_cons, foldl_len cs, lay_len, reach_cons]
    omega
theorem text_len (cs : List Cmd) : (text cs).length = reach cs := by
  rw [text, foldl_len]
  simp
def unpD (cs : List Cmd) : D := .tuple [.list ((text cs).map sgn), .list ((sf 0 cs).map srcD)]
theorem list_str {w : Str} (h : w.length ≤ 16777216) : fListX [.str w] = some (w.cps.toList.map sgn) := by
  unfold fListX
  dsimp only
  rw [if_pos (by rw [sizeLine_eq]; exact h)]
  unfold signs
  rfl
theorem mulX_of {a b z : D} (h2 : dMul a b = some z) : dMulX a b = some z := by
  unfold dMulX
  rw [h2]
theorem flat_none : ∀ k : Nat, (List.replicate k [PyData.none]).flatten = List.replicate k .none
  | 0 => rfl
  | k + 1 => by rw [List.replicate_succ, List.flatten_cons, flat_none k]; rfl
theorem nones (k : Nat) (h : k ≤ 16777216) : dMulX (.list [.none]) (.int (k : Int)) = some (.list (List.replicate k .none)) := by
  have h1 : (k : Int).natAbs < 2 ^ 63 ∧ [PyData.none].length * (k : Int).toNat ≤ sizeLine := by
    rw [sizeLine_eq, Int.toNat_natCast, List.length_singleton]
    omega
  have h2 : dMul (.list [.none]) (.int (k : Int)) = some (.list (List.replicate k .none)) := by
    unfold dMul
    dsimp only
    rw [if_pos h1, Int.toNat_natCast, flat_none]
  exact mulX_of h2
theorem neg1 : dNeg (.int 1) = some (.int (-1)) := rfl
theorem at_last {α : Type} (xs : List α) (x : α) : atI (xs ++ [x]) (-1 : Int) = some x := by
  unfold atI ixN
  rw [if_neg (by decide), if_pos (by simp; omega)]
  have e : ((-1 : Int) + ((xs ++ [x]).length : Int)).toNat = xs.length := by
    rw [List.length_append, List.length_singleton]
    omega
  show (some _).bind _ = _
  rw [Option.bind_some, e]
  simp
theorem src_cast {s d t : Nat} (h : d ≤ s) : (s : Int) - (d : Int) + (t : Int) % (d : Int) = ((s - d + t % d : Nat) : Int) := by
  rw [Int.natCast_add, Int.natCast_emod]
  omega
theorem unpacked_ok {cs : List Cmd} {l m : Nat} (ho : StreamOk l m 0 cs) (hl : l ≤ 1000) (hr : reach cs < 16777216) : f__law_unpacked (streamD cs) = .ok (unpD cs) := by
  unfold f__law_unpacked
  rw [items_stream, po_some, forN_of (enc := cmdD) (s := ([], [])) (fun p => ((text p).map sgn, (sf 0 p).map srcD)) cs rfl fun p c q e => ?_]
  · rfl
  · have hq : reach p + many c ≤ reach cs := by
      rw [e, reach_app, reach_cons]
      omega
    have hc : CmdOk l m (reach p) c := by
      have : ∀ (p : List Cmd) (r : Nat), StreamOk l m r (p ++ c :: q) → CmdOk l m (r + reach p) c := by
        intro p
        induction p with
        | nil => intro r h; simpa using h.1
        | cons x p ih =>
          intro r h
          have := ih _ h.2
          rw [reach_cons]
          rwa [Nat.add_assoc] at this
      have h2 := this p 0 (e ▸ ho)
      simpa using h2
    have tl : ((text p).map sgn).length = reach p := by rw [List.length_map, text_len]
    have sl : ((sf 0 p).map srcD).length = reach p := by rw [List.length_map, sf_len]
    dsimp only
    simp only [f_len_l, tl, po_some]
    rw [text_snoc, sf_app]
    cases c with
    | lit w =>
      have hw : w.length ≤ 16777216 := by have := hc.2.1; omega
      have hm : many (.lit w) = w.length := rfl
      simp only [cmdD, d_ix_t, at0, at1, Option.bind_some, dEq_str, beq_self_eq_true, toB_bool, po_some, if_true, list_str hw, Option.map_some, len_str hw, nones _ hw]
      rw [extend_l (by rw [tl, List.length_map, ← len_eq]; omega), extend_l (by rw [sl, List.length_replicate]; omega)]
      simp [lay, sf, seg, List.map_append, srcD]
    | cpy d n =>
      have hm : many (.cpy d n) = n := rfl
      obtain ⟨d1, d2, n1, n2⟩ := hc
      simp only [cmdD, d_ix_t, at0, at1, at2, Option.bind_some, dEq_str, ne_copy, toB_bool, po_some, Bool.false_eq_true, if_false, range1_int (i := (n : Int)) (by omega)]
      rw [forN_rng (s := ((text p).map sgn, (sf 0 p).map srcD)) (fun k => ((text p).map sgn ++ ((List.range k).map fun t => sgn ((text p).getD (reach p - d + t % d) 0)), (sf 0 p).map srcD ++ (List.range k).map fun t => srcD (some (reach p - d + t % d)))) n (by simp) fun k hk => ?_]
      · simp [lay, sf, seg, text_len, List.map_map, Function.comp_def, po_bind_ok]
      · have hk2 : reach p - d + k % d < reach p := by
          have := Nat.mod_lt k (show 0 < d by omega)
          omega
        simp only [d_sub_i, Option.bind_some, d_mod_i (i := (k : Int)) (j := (d : Int)) (by omega), d_add_i, po_some, src_cast d2]
        rw [push_ok (by simp [sl]; omega)]
        simp only [neg1, Option.bind_some, d_ix_l, at_last]
        rw [atI_nat (by simp [tl]; omega)]
        simp only [po_some]
        rw [push_ok (by simp [tl]; omega)]
        rw [List.range_succ]
        have hg : ((text p).map sgn ++ (List.range k).map fun t => sgn ((text p).getD (reach p - d + t % d) 0))[reach p - d + k % d]'(by simp [tl]; omega) = sgn ((text p).getD (reach p - d + k % d) 0) := by
          rw [List.getElem_append_left (by rw [tl]; exact hk2), List.getElem_map]
          congr 1
          rw [List.getD_eq_getElem?_getD, List.getElem?_eq_getElem (by rw [text_len]; exact hk2)]
          rfl
        rw [hg]
        simp [srcD]
end ML
/-! PL6: the laws' turns; enlarged streams. -/
namespace ML
open PySem L2
/-- how often a law goes through the script's cells -/
theorem turns_ok (M : Nat) (hM : 1 ≤ M) (n : Nat) : ∃ m : Nat, 1 ≤ m ∧ m ≤ M ∧ ((fMin [.int (M : Int), .int (n : Int)]).bind fun t => fMax [.int 1, t]) = some (.int (m : Int)) := by
  refine ⟨max 1 (min M n), by omega, by omega, ?_⟩
  rw [f_min]
  dsimp only [Option.bind]
  rw [f_max]
  congr 2
  split <;> split <;> omega
theorem rng_ok {m : Nat} (h : m < 2 ^ 62) : range1O (.int (m : Int)) = some (rngOf 0 (m : Int)) := range1_int (by omega)
theorem rng_getN {m k : Nat} {d : D} (h : (rngOf 0 (m : Int))[k]? = some d) : d = .int (k : Int) ∧ k < m := by
  obtain ⟨h1, h2⟩ := rng_get h
  exact ⟨h1, by omega⟩
theorem rng_lenN {m : Nat} : (rngOf 0 (m : Int)).length = m := by
  rw [rng_len]
  simp
/-! enlarged -/
def one (g : Nat) : Str := ⟨#[g]⟩
def enlC (f : Nat) : Cmd → List Cmd
  | .cpy d n => [.cpy (d * f) (n * f)]
  | .lit w => w.cps.toList.flatMap fun g => .lit (one g) :: if 1 < f then [.cpy 1 (f - 1)] else []
def enl (f : Nat) (cs : List Cmd) : List Cmd := cs.flatMap (enlC f)
theorem enl_snoc (f : Nat) (cs : List Cmd) (c : Cmd) : enl f (cs ++ [c]) = enl f cs ++ enlC f c := by simp [enl]
theorem flat_len {f : Nat} (gs : List Nat) : (gs.flatMap fun g => Cmd.lit (one g) :: if 1 < f then [.cpy 1 (f - 1)] else []).length ≤ 2 * gs.length := by
  induction gs with
  | nil => simp
  | cons g gs ih =>
    rw [List.flatMap_cons, List.length_append, List.length_cons, List.length_cons]
    have : (if 1 < f then [Cmd.cpy 1 (f - 1)] else []).length ≤ 1 := by split <;> simp
    omega
theorem enl_tame {f : Nat} {cs : List Cmd} : ∀ c ∈ enl f cs, Tame c := fun c hc => by
  obtain ⟨b, _, hb⟩ := List.mem_flatMap.mp hc
  cases b with
  | cpy d n =>
    simp [enlC] at hb
    subst hb
    trivial
  | lit w =>
    obtain ⟨g, _, hg⟩ := List.mem_flatMap.mp hb
    split at hg
    · simp at hg
      rcases hg with e | e <;> subst e
      · show (1 : Nat) ≤ _; decide
      · trivial
    · simp at hg
      subst hg
      show (1 : Nat) ≤ _; decide
theorem enl_len {f l m : Nat} : ∀ {cs : List Cmd} {r : Nat}, StreamOk l m r cs → (enl f cs).length ≤ cs.length * (2 * l + 1)
  | [], _, _ => by simp [enl]
  | c :: cs, r, h => by
    have ih := enl_len (f := f) h.2
    have e : enl f (c :: cs) = enlC f c ++ enl f cs := by simp [enl]
    rw [e, List.length_append, List.length_cons, Nat.add_mul]
    have hc : (enlC f c).length ≤ 2 * l + 1 := by
      cases c with
      | cpy d n => simp [enlC]
      | lit w =>
        have h1 := h.1.2.1
        have := flat_len (f := f) w.cps.toList
        rw [len_eq] at h1
        show (w.cps.toList.flatMap _).length ≤ _
        omega
    omega
theorem reach_flat {f : Nat} (hf : 1 ≤ f) (gs : List Nat) : reach (gs.flatMap fun g => Cmd.lit (one g) :: if 1 < f then [.cpy 1 (f - 1)] else []) = gs.length * f := by
  induction gs with
  | nil => simp
  | cons g gs ih =>
    rw [List.flatMap_cons, reach_app, ih, List.length_cons, Nat.add_mul, reach_cons]
    have : many (Cmd.lit (one g)) = 1 := rfl
    have h2 : reach (if 1 < f then [Cmd.cpy 1 (f - 1)] else []) = f - 1 := by
      split
      · simp [many]
      · rw [reach_nil]; omega
    omega
theorem reach_enl {f : Nat} (hf : 1 ≤ f) : ∀ cs : List Cmd, reach (enl f cs) = reach cs * f
  | [] => by simp [enl]
  | c :: cs => by
    have e : enl f (c :: cs) = enlC f c ++ enl f cs := by simp [enl]
    rw [e, reach_app, reach_enl hf cs, reach_cons, Nat.add_mul]
    congr 1
    cases c with
    | cpy d n => simp [enlC, many]
    | lit w =>
      show reach (w.cps.toList.flatMap _) = _
      rw [reach_flat hf, ← len_eq]
      rfl
theorem mul_one_d (c : D) (b : Bool) : dMulX (.list [c]) (.int (if b then 1 else 0)) = some (.list (if b then [c] else [])) := by
  have h2 : dMul (.list [c]) (.int (if b then 1 else 0)) = some (.list (if b then [c] else [])) := by
    unfold dMul
    cases b with
    | true => exact if_pos ⟨by decide, by rw [sizeLine_eq]; show 1 * 1 ≤ _; decide⟩
    | false => exact if_pos ⟨by decide, by rw [sizeLine_eq]; show 1 * 0 ≤ _; decide⟩
  exact mulX_of h2
theorem addL {xs ys : List D} (h : xs.length + ys.length ≤ 16777216) : dAdd (.list xs) (.list ys) = some (.list (xs ++ ys)) := if_pos (by rw [sizeLine_eq]; exact h)
theorem mulN {i j : Nat} (h1 : i < 2 ^ 200) (h2 : j < 2 ^ 200) : dMulX (.int (i : Int)) (.int (j : Int)) = some (.int ((i * j : Nat) : Int)) := by
  rw [d_mul_i (mulOk_of (big4 (k := 200) (by rw [Int.natAbs_natCast]; exact h1) (by decide)) (big4 (k := 200) (by rw [Int.natAbs_natCast]; exact h2) (by decide)))]
  rw [Int.natCast_mul]
theorem enlarged_ok {cs : List Cmd} {l m f : Nat} (ho : StreamOk l m 0 cs) (hl : l ≤ 1000) (hr : reach cs < 10 ^ 30) (hc : cs.length ≤ 1000) (hm : m ≤ 10 ^ 30) (hf : 1 ≤ f) (hf2 : f < 10 ^ 30) : f__law_enlarged (streamD cs) (.int (f : Int)) = .ok (streamD (enl f cs)) := by
  have hall : ∀ (p : List Cmd) (c : Cmd) (q : List Cmd), cs = p ++ c :: q → CmdOk l m (reach p) c ∧ reach p ≤ reach cs ∧ (enl f p).length + 2 * l + 1 ≤ 10000000 := by
    intro p c q e
    refine ⟨?_, by rw [e, reach_app]; omega, ?_⟩
    · have : ∀ (p : List Cmd) (r : Nat), StreamOk l m r (p ++ c :: q) → CmdOk l m (r + reach p) c := by
        intro p
        induction p with
        | nil => intro r h; simpa using h.1
        | cons x p ih =>
          intro r h
          have := ih _ h.2
          rw [reach_cons]
          rwa [Nat.add_assoc] at this
      have h2 := this p 0 (e ▸ ho)
      simpa using h2
    · have : ∀ (p : List Cmd) (r : Nat), StreamOk l m r (p ++ c :: q) → StreamOk l m r p := by
        intro p
        induction p with
        | nil => intro r _; trivial
        | cons x p ih => intro r h; exact ⟨h.1, ih _ h.2⟩
      have h1 := enl_len (f := f) (this p 0 (e ▸ ho))
      have h2 : p.length ≤ 1000 := by
        have := congrArg List.length e
        simp at this
        omega
      have h3 : p.length * (2 * l + 1) ≤ 1000 * 2001 := Nat.mul_le_mul h2 (by omega)
      omega
  unfold f__law_enlarged
  rw [items_stream, po_some, forN_of (enc := cmdD) (σ := List D) (s := []) (fun p => (enl f p).map cmdD) cs rfl fun p c q e => ?_]
  · rfl
  · obtain ⟨hc1, hr1, hl1⟩ := hall p c q e
    rw [enl_snoc]
    cases c with
    | cpy d n =>
      obtain ⟨d1, d2, n1, n2⟩ := hc1
      have ne : (Str.ofString "copy" == Str.ofString "copy") = true := by decide +kernel
      have e1 : dMulX (.int (d : Int)) (.int (f : Int)) = some (.int ((d * f : Nat) : Int)) := mulN (by omega) (by omega)
      have e2 : dMulX (.int (n : Int)) (.int (f : Int)) = some (.int ((n * f : Nat) : Int)) := mulN (by omega) (by omega)
      simp only [cmdD, d_ix_t, at0, at1, at2, Option.bind_some, dEq_str, ne, toB_bool, po_some, if_true, e1, e2]
      rw [push_ok (by rw [List.length_map]; omega)]
      simp [enlC, cmdD]
    | lit w =>
      have hw := hc1.2.1
      rw [len_eq] at hw
      simp only [cmdD, d_ix_t, at0, at1, Option.bind_some, dEq_str, ne_literal, toB_bool, po_some, Bool.false_eq_true, if_false]
      rw [show itemsOf (.str w) = some (w.cps.toList.map sgn) from rfl, po_some]
      rw [forN_of (enc := sgn) (σ := List D) (s := (enl f p).map cmdD) (fun gs => (enl f p ++ gs.flatMap fun g => Cmd.lit (one g) :: if 1 < f then [.cpy 1 (f - 1)] else []).map cmdD) w.cps.toList (by simp) fun gs g q2 e2 => ?_]
      · simp [enlC]
      · have hg : gs.length + 1 ≤ w.cps.toList.length := by rw [e2]; simp
        have hg2 := flat_len (f := f) gs
        have e3 : dSub (.int (f : Int)) (.int 1) = some (.int ((f - 1 : Nat) : Int)) := by
          rw [d_sub_i]
          congr 2
          omega
        simp only [e3, Option.bind_some, Option.map_some, d_cmp, f_int_b, mul_one_d]
        rw [addL (by split <;> simp)]
        have hb : ∀ (x y : D) (b : Bool), ([x] ++ (if b = true then [y] else [])).length ≤ 2 := by intro x y b; cases b <;> simp
        rw [po_some, extend_l (Nat.le_trans (Nat.add_le_add_left (hb _ _ _) _) (by rw [List.length_map, List.length_append]; omega))]
        rw [List.flatMap_append]
        by_cases h1 : 1 < f
        · have h2 : decide ((1 : Int) < (f : Int)) = true := decide_eq_true (by omega)
          simp [h1, h2, cmdD, one, sgn]
        · have h2 : decide ((1 : Int) < (f : Int)) = false := decide_eq_false (by omega)
          simp [h1, h2, cmdD, one, sgn]
/-! law pieces -/
theorem nat_of {z : Int} (is : List Nat) (h : z ∈ is.map (fun k : Nat => (k : Int))) : ∃ k : Nat, z = (k : Int) ∧ k ∈ is := by
  obtain ⟨k, hk, rfl⟩ := List.mem_map.mp h
  exact ⟨k, rfl, hk⟩
theorem starts_bnd {cs : List Cmd} {n : Nat} (hr : reach cs < 10 ^ 39) (hl : cs.length ≤ n) : Bnd 1 (n * 131) (.tuple ((pcs 0 cs).map fun p => .int (p.1 : Int))) := by
  have hp : ∀ (s : Nat) (cs : List Cmd), ∀ p ∈ pcs s cs, p.1 ≤ s + reach cs := by
    intro s cs
    induction cs generalizing s with
    | nil => intro p hp; cases hp
    | cons c cs ih =>
      intro p hp
      rw [reach_cons]
      rcases List.mem_cons.mp hp with e | e
      · subst e
        show s ≤ _
        omega
      · have := ih _ p e
        omega
  refine bnd_tup (k := 0) (w := 130) (fun x hx => ?_) (by rw [List.length_map, pcs_len]; exact hl)
  obtain ⟨p, hp1, rfl⟩ := List.mem_map.mp hx
  have := hp 0 cs p hp1
  exact bnd_int (by omega)
end ML
/-! PL7: reading: pieces, sources, chains. -/
namespace ML
open PySem L2
def srcC (a : Nat) : Cmd → Nat → Option Nat
  | .lit _, _ => none
  | .cpy d _, p => some (a - d + (p - a) % d)
def inP (p : Nat) (q : Nat × Nat × Cmd) : Bool := decide (q.1 ≤ p) && decide (p < q.2.1)
theorem pcs_late : ∀ (s : Nat) (cs : List Cmd) (p : Nat), p < s → (pcs s cs).filter (inP p) = []
  | _, [], _, _ => rfl
  | s, c :: cs, p, h => by
    rw [pcs, List.filter_cons_of_neg (by simp [inP]; omega), pcs_late _ cs p (by omega)]
theorem foldl_lay : ∀ (cs : List Cmd) (L : List Nat) (i : Nat), i < L.length → (cs.foldl lay L)[i]? = L[i]?
  | [], _, _, _ => rfl
  | c :: cs, L, i, h => by
    rw [List.foldl_cons, foldl_lay cs _ i (by rw [lay_len]; omega)]
    cases c with
    | lit w => simp [lay, List.getElem?_append_left h]
    | cpy d n => simp [lay, List.getElem?_append_left h]
def LetOk (F : List Nat) (p a : Nat) : Cmd → Prop
  | .lit w => F[p]? = w.cps.toList[p - a]?
  | .cpy d _ => F[p]? = F[a - d + (p - a) % d]?
/-- the piece of a position, and what stands there -/
structure At (l m : Nat) (L : List Nat) (s : Nat) (cs : List Cmd) (p a : Nat) (c : Cmd) : Prop where
  fil : (pcs s cs).filter (inP p) = [(a, a + many c, c)]
  lo : a ≤ p
  hi : p < a + many c
  ok : CmdOk l m a c
  src : (sf s cs)[p - s]? = some (srcC a c p)
  let_ : LetOk (cs.foldl lay L) p a c
theorem at_of {l m : Nat} : ∀ (cs : List Cmd) (L : List Nat) (s p : Nat), s = L.length → StreamOk l m s cs → s ≤ p → p < s + reach cs → ∃ a c, At l m L s cs p a c
  | [], L, s, p, _, _, h1, h2 => by rw [reach_nil] at h2; omega
  | c :: cs, L, s, p, hs, ho, h1, h2 => by
    rw [reach_cons] at h2
    by_cases hp : p < s + many c
    · refine ⟨s, c, ?_, h1, hp, ho.1, ?_, ?_⟩
      · rw [pcs, List.filter_cons_of_pos (by simp [inP]; omega), pcs_late _ cs p hp]
      · rw [sf, List.getElem?_append_left (by rw [seg_len]; omega)]
        cases c with
        | lit w =>
          have : many (.lit w) = w.length := rfl
          simp [seg, srcC, List.getElem?_replicate]
          omega
        | cpy d n =>
          have : many (.cpy d n) = n := rfl
          simp [seg, srcC]
          rw [List.getElem?_range (by omega)]
          exact ⟨_, rfl, rfl⟩
      · have pre : ∀ i, i < s + many c → ((c :: cs).foldl lay L)[i]? = (lay L c)[i]? := fun i hi => by
          rw [List.foldl_cons, foldl_lay cs _ i (by rw [lay_len]; omega)]
        cases c with
        | lit w =>
          unfold LetOk
          dsimp only
          rw [pre p hp]
          show (L ++ w.cps.toList)[p]? = _
          rw [List.getElem?_append_right (by omega), hs]
        | cpy d n =>
          have hm : many (.cpy d n) = n := rfl
          obtain ⟨d1, d2, n1, n2⟩ := ho.1
          unfold LetOk
          dsimp only
          have hlt : s - d + (p - s) % d < s := by
            have := Nat.mod_lt (p - s) (show 0 < d by omega)
            omega
          rw [pre p hp, pre _ (by omega)]
          show (L ++ _)[p]? = (L ++ _)[_]?
          rw [List.getElem?_append_right (by omega), List.getElem?_append_left (by omega), List.getElem?_map, List.getElem?_range (by omega)]
          rw [Option.map_some, List.getD_eq_getElem?_getD, ← hs, List.getElem?_eq_getElem (l := L) (by omega)]
          rfl
    · obtain ⟨a, d, h⟩ := at_of cs (lay L c) (s + many c) p (by rw [lay_len]; omega) ho.2 (by omega) (by omega)
      refine ⟨a, d, ?_, h.lo, h.hi, h.ok, ?_, h.let_⟩
      · rw [pcs, List.filter_cons_of_neg (by simp [inP]; omega)]
        exact h.fil
      · rw [sf, List.getElem?_append_right (by rw [seg_len]; omega), seg_len]
        have := h.src
        rwa [Nat.sub_sub]
/-- the source of a position -/
def src (cs : List Cmd) (p : Nat) : Option Nat := ((sf 0 cs)[p]?).getD none
theorem At.src_eq {l m : Nat} {L : List Nat} {cs : List Cmd} {p a : Nat} {c : Cmd} (h : At l m L 0 cs p a c) : ML.src cs p = srcC a c p := by
  have h1 := h.src
  simp only [Nat.sub_zero] at h1
  unfold ML.src
  rw [h1]
  rfl
theorem cond_in {p : Nat} {q : Nat × Nat × Cmd} : (((dIx (pcD q) (.int 0)).bind fun t2 => chO (dCmp fun i j => decide (i ≤ j)) (dCmp fun i j => decide (i < j)) t2 (.int (p : Int)) (dIx (pcD q) (.int 1))).bind fun t3 => toB t3) = some (inP p q) := by
  simp only [pcD, d_ix_t, at0, at1, Option.bind_some, chO, d_cmp]
  by_cases h : q.1 ≤ p
  · simp only [decide_eq_true (show (q.1 : Int) ≤ (p : Int) by omega), Option.bind_some, toB_bool, inP, decide_eq_true h, Bool.true_and]
    congr 1
    simp
  · simp only [decide_eq_false (show ¬ (q.1 : Int) ≤ (p : Int) by omega), Option.bind_some, toB_bool, inP, decide_eq_false h, Bool.false_and]
theorem piece_ok {l m : Nat} {L : List Nat} {cs : List Cmd} {p a : Nat} {c : Cmd} (ht : ∀ c ∈ cs, Tame c) (hl : cs.length < 16777216) (h : At l m L 0 cs p a c) : f_piece_at (streamD cs) (.int (p : Int)) = .ok (pcD (a, a + many c, c)) := by
  unfold f_piece_at
  rw [pieces_ok ht hl, po_toL_ok, Option.bind_some, i_of_l, Option.bind_some]
  rw [compS_eq (enc := pcD) (inP p) pcD (by rw [pcs_len]; omega) fun q _ => ?_]
  · rw [h.fil]
    simp
  · rw [cond_in, keepO_some]
    cases inP p q <;> rfl
theorem isint_i {i : Int} : isaO "int" (.int i) = some (.bool true) := rfl
theorem isbool_i {i : Int} : isaO "bool" (.int i) = some (.bool false) := rfl
theorem integer_ok {i j k : Int} : f_is_integer (.int i) (.int j) (.int k) = .ok (.bool (decide (j ≤ i) && decide (i ≤ k))) := by
  unfold f_is_integer
  rw [isint_i, isbool_i]
  simp only [Option.bind_some, toB_bool, Option.map_some, andO_some, if_true, Bool.not_false, chO, d_cmp]
  by_cases h : j ≤ i
  · simp only [decide_eq_true h, Option.bind_some, toB_bool, Option.map_some, Bool.true_and, po_some]
  · simp only [decide_eq_false h, Option.bind_some, toB_bool, Option.map_some, Bool.false_and, po_some]
theorem check_ok {cs : List Cmd} {p : Nat} (ht : ∀ c ∈ cs, Tame c) (hl : cs.length < 16777216) (hp : p < reach cs) : f_check_position (streamD cs) (.int (p : Int)) = .ok .none := by
  unfold f_check_position
  rw [length_ok ht (by omega)]
  simp only [po_toO_ok, Option.bind_some, d_sub_i, integer_ok, toB_bool, Option.map_some]
  rw [decide_eq_true (show (0 : Int) ≤ (p : Int) by omega), decide_eq_true (show (p : Int) ≤ (reach cs : Int) - 1 by omega)]
  rfl
theorem literal_ok {c : Cmd} : f_is_literal (cmdD c) = .ok (.bool (match c with | .lit _ => true | .cpy _ _ => false)) := by
  cases c with
  | lit w => simp [f_is_literal, cmdD]
  | cpy d n => simp [f_is_literal, cmdD, ne_copy]
theorem source_ok {l m : Nat} {L : List Nat} {cs : List Cmd} {p a : Nat} {c : Cmd} (ht : ∀ c ∈ cs, Tame c) (hl : cs.length < 16777216) (h : At l m L 0 cs p a c) : f_source (streamD cs) (.int (p : Int)) = .ok (srcD (src cs p)) := by
  unfold f_source
  rw [piece_ok ht hl h]
  have hs : ML.src cs p = srcC a c p := by
    have := h.src
    simp only [Nat.sub_zero] at this
    unfold src
    rw [this]
    rfl
  rw [hs]
  simp only [po_toO_ok, po_some, pcD, pn3_t, literal_ok, Option.bind_some, toB_bool, ifO_some]
  cases c with
  | lit w => simp [srcC, srcD]
  | cpy d n =>
    obtain ⟨d1, d2, n1, n2⟩ := h.ok
    have hlo := h.lo
    simp only [Bool.false_eq_true, if_false, cmdD, d_ix_t, at1, Option.bind_some, d_sub_i]
    rw [show (p : Int) - (a : Int) = ((p - a : Nat) : Int) by omega, d_mod_i (by omega)]
    simp only [Option.bind_some, d_add_i, po_some, src_cast d2, srcC, srcD]
/-! chains -/
def chainF (S : Nat → Option Nat) : Nat → Nat → List Nat
  | 0, p => [p]
  | f + 1, p => match S p with
    | none => [p]
    | some q => p :: chainF S f q
def Falls (S : Nat → Option Nat) : Prop := ∀ p q, S p = some q → q < p
theorem chainF_more {S : Nat → Option Nat} (h : Falls S) : ∀ (f p : Nat), p ≤ f → chainF S f p = chainF S p p := by
  intro f
  induction f using Nat.strongRecOn with
  | ind f ih =>
    intro p hp
    by_cases e : p = f
    · rw [e]
    · cases f with
      | zero => omega
      | succ f =>
        cases p with
        | zero =>
          show (match S 0 with | none => [0] | some q => 0 :: chainF S f q) = [0]
          cases hs : S 0 with
          | none => rfl
          | some q => have := h _ _ hs; omega
        | succ p =>
          show (match S (p + 1) with | none => [p + 1] | some q => (p + 1) :: chainF S f q) = (match S (p + 1) with | none => [p + 1] | some q => (p + 1) :: chainF S p q)
          cases hs : S (p + 1) with
          | none => rfl
          | some q =>
            have := h _ _ hs
            dsimp only
            rw [ih f (by omega) q (by omega), ih p (by omega) q (by omega)]
def chain (S : Nat → Option Nat) (p : Nat) : List Nat := chainF S p p
theorem chain_none {S : Nat → Option Nat} {p : Nat} (h : S p = none) : chain S p = [p] := by
  unfold chain
  cases p with
  | zero => rfl
  | succ p =>
    show (match S (p + 1) with | none => [p + 1] | some q => (p + 1) :: chainF S p q) = _
    rw [h]
theorem chain_some {S : Nat → Option Nat} (hF : Falls S) {p q : Nat} (h : S p = some q) : chain S p = p :: chain S q := by
  have hq := hF _ _ h
  unfold chain
  cases p with
  | zero => omega
  | succ p =>
    show (match S (p + 1) with | none => [p + 1] | some q => (p + 1) :: chainF S p q) = _
    rw [h]
    dsimp only
    rw [chainF_more hF p q (by omega)]
theorem chain_ne {S : Nat → Option Nat} {p : Nat} : chain S p ≠ [] := by
  unfold chain
  cases p with
  | zero => simp [chainF]
  | succ p =>
    show (match S (p + 1) with | none => [p + 1] | some q => (p + 1) :: chainF S p q) ≠ []
    cases S (p + 1) <;> simp
/-- the end of a chain -/
theorem chain_ind {S : Nat → Option Nat} (hF : Falls S) (P : Nat → Prop) (h0 : ∀ p, S p = none → P p) (h1 : ∀ p q, S p = some q → P q → P p) : ∀ p, P p := by
  intro p
  induction p using Nat.strongRecOn with
  | ind p ih =>
    cases h : S p with
    | none => exact h0 p h
    | some q => exact h1 p q h (ih q (hF _ _ h))
def origin (S : Nat → Option Nat) (p : Nat) : Nat := (chain S p).getLast chain_ne
theorem origin_none {S : Nat → Option Nat} {p : Nat} (h : S p = none) : origin S p = p := by
  unfold origin
  simp [chain_none h]
theorem origin_some {S : Nat → Option Nat} (hF : Falls S) {p q : Nat} (h : S p = some q) : origin S p = origin S q := by
  unfold origin
  simp only [chain_some hF h]
  rw [List.getLast_cons chain_ne]
theorem origin_src {S : Nat → Option Nat} (hF : Falls S) : ∀ p, S (origin S p) = none :=
  chain_ind hF _ (fun p h => by rw [origin_none h]; exact h) fun p q h ih => by rw [origin_some hF h]; exact ih
theorem origin_le {S : Nat → Option Nat} (hF : Falls S) : ∀ p, origin S p ≤ p :=
  chain_ind hF _ (fun p h => by rw [origin_none h]; exact Nat.le_refl _) fun p q h ih => by rw [origin_some hF h]; have := hF _ _ h; omega
theorem chain_len {S : Nat → Option Nat} (hF : Falls S) : ∀ p, (chain S p).length ≤ p + 1 :=
  chain_ind hF _ (fun p h => by rw [chain_none h]; simp) fun p q h ih => by rw [chain_some hF h]; have := hF _ _ h; simp; omega
theorem chain_split {S : Nat → Option Nat} (p : Nat) : ∃ pre, chain S p = pre ++ [origin S p] := ⟨(chain S p).dropLast, (List.dropLast_concat_getLast chain_ne).symm⟩
theorem src_falls {l m : Nat} {cs : List Cmd} (ho : StreamOk l m 0 cs) : Falls (src cs) := fun p q h => by
  by_cases hp : p < reach cs
  · obtain ⟨a, c, ha⟩ := at_of cs [] 0 p rfl ho (Nat.zero_le _) (by omega)
    have := ha.src
    simp only [Nat.sub_zero] at this
    unfold src at h
    rw [this] at h
    cases c with
    | lit w => cases h
    | cpy d n =>
      obtain ⟨d1, d2, n1, n2⟩ := ha.ok
      have hlo := ha.lo
      have := Nat.mod_lt (p - a) (show 0 < d by omega)
      cases h
      omega
  · unfold src at h
    rw [List.getElem?_eq_none_iff.mpr (by rw [sf_len]; omega)] at h
    cases h
/-- following, by a while -/
theorem follow_ok {S : Nat → Option Nat} (hF : Falls S) {t : List D → Po (Bool × List D)} {f : List D → Po (List D)} {p : Nat} (hp : p < 10 ^ 30) (hlen : (chain S p).length < 16777216)
    (ht : ∀ pre x, x ≤ p → t ((pre ++ [x]).map natD) = .ok ((S x).isSome, (pre ++ [x]).map natD)) (hf : ∀ pre x q, x ≤ p → pre.length + 1 < 16777216 → S x = some q → f ((pre ++ [x]).map natD) = .ok ((pre ++ [x] ++ [q]).map natD)) : whileN t f fuel [natD p] = .ok ((chain S p).map natD) := by
  refine Wp.out ?_
  refine whileN_inv (fun s => ∃ pre x, s = (pre ++ [x]).map natD ∧ x ≤ p ∧ pre ++ chain S x = chain S p) (fun s => (match s.getLast? with | some (.int i) => i.toNat | _ => 0)) (fun s => s = (chain S p).map natD) ?_ fuel _ ?_ ⟨[], p, rfl, Nat.le_refl _, by simp⟩
  · rintro s ⟨pre, x, rfl, hx, hc⟩
    have hl : pre.length + (chain S x).length < 16777216 := by
      rw [← List.length_append, hc]
      exact hlen
    have hl2 : 0 < (chain S x).length := List.length_pos_iff.mpr chain_ne
    rw [ht pre x hx, wp_ok]
    dsimp only
    cases hs : S x with
    | none =>
      rw [Option.isSome_none, if_neg (by decide), ← hc, chain_none hs]
    | some q =>
      have hq := hF _ _ hs
      rw [Option.isSome_some, if_pos rfl]
      rw [hf pre x q hx (by omega) hs]
      refine ⟨⟨pre ++ [x], q, rfl, by omega, ?_⟩, ?_⟩
      · rw [← hc, chain_some hF hs]
        simp
      · simp [natD]
        omega
  · show (match [natD p].getLast? with | some (.int i) => i.toNat | _ => 0) < fuel
    exact fuel_big (by simp [natD]; omega)
/-! the functions of reading.py -/
theorem last_natD (pre : List Nat) (x : Nat) : ((dNeg (.int 1)).bind fun t => dIx (.list ((pre ++ [x]).map natD)) t) = some (natD x) := by
  rw [neg1, Option.bind_some, List.map_append]
  exact at_last _ _
theorem notN_src {o : Option Nat} : ((dNotN (srcD o) .none).bind fun t => toB t) = some o.isSome := by cases o <;> rfl
structure Rd (l m : Nat) (cs : List Cmd) : Prop where
  ok : StreamOk l m 0 cs
  l : l ≤ 1000
  n : cs.length < 16777000
theorem Rd.tame {l m : Nat} {cs : List Cmd} (h : Rd l m cs) : ∀ c ∈ cs, Tame c := h.ok.tame h.l
theorem Rd.at {l m : Nat} {cs : List Cmd} (h : Rd l m cs) {p : Nat} (hp : p < reach cs) : ∃ a c, At l m [] 0 cs p a c := at_of cs [] 0 p rfl h.ok (Nat.zero_le _) (by omega)
theorem Rd.source {l m : Nat} {cs : List Cmd} (h : Rd l m cs) {p : Nat} (hp : p < reach cs) : f_source (streamD cs) (.int (p : Int)) = .ok (srcD (src cs p)) := by
  obtain ⟨a, c, ha⟩ := h.at hp
  exact source_ok h.tame (by have := h.n; omega) ha
theorem Rd.falls {l m : Nat} {cs : List Cmd} (h : Rd l m cs) : Falls (src cs) := src_falls h.ok
theorem Rd.followed {l m : Nat} {cs : List Cmd} (h : Rd l m cs) {p : Nat} (hp : p < reach cs) (hb : reach cs ≤ 10 ^ 30) (hlen : (chain (src cs) p).length < 16777216) : f_followed (streamD cs) (.int (p : Int)) = .ok ((chain (src cs) p).map natD) := by
  unfold f_followed
  rw [show [PyData.int (p : Int)] = [natD p] from rfl, follow_ok h.falls (p := p) (by omega) hlen (fun pre x hx => ?_) fun pre x q hx hl hs => ?_]
  · rfl
  · rw [last_natD, Option.bind_some, show natD x = .int (x : Int) from rfl, h.source (by omega), po_toO_ok, Option.bind_some, notN_src, po_some]
  · rw [last_natD, Option.bind_some, show natD x = .int (x : Int) from rfl, h.source (by omega), po_toO_ok, po_some, hs, push_ok (by simp; omega)]
    simp [natD, srcD]
theorem last_chain {S : Nat → Option Nat} {p : Nat} : ((dNeg (.int 1)).bind fun t => dIx (.list ((chain S p).map natD)) t) = some (natD (origin S p)) := by
  obtain ⟨pre, e⟩ := chain_split (S := S) p
  rw [e]
  exact last_natD _ _
/-- the letter of a position is that of its source -/
theorem Rd.let_src {l m : Nat} {cs : List Cmd} (h : Rd l m cs) {p q : Nat} (hp : p < reach cs) (hs : src cs p = some q) : (text cs)[p]? = (text cs)[q]? := by
  obtain ⟨a, c, ha⟩ := h.at hp
  have h1 := ha.src
  simp only [Nat.sub_zero] at h1
  unfold src at hs
  rw [h1] at hs
  have h2 := ha.let_
  cases c with
  | lit w => cases hs
  | cpy d n =>
    cases hs
    exact h2
theorem Rd.let_origin {l m : Nat} {cs : List Cmd} (h : Rd l m cs) : ∀ p, p < reach cs → (text cs)[p]? = (text cs)[origin (src cs) p]? :=
  chain_ind h.falls _ (fun p hs _ => by rw [origin_none hs]) fun p q hs ih hp => by
    have := h.falls _ _ hs
    rw [origin_some h.falls hs, h.let_src hp hs]
    exact ih (by omega)
theorem Rd.small {l m : Nat} {cs : List Cmd} (h : Rd l m cs) {p g : Nat} (hp : p < reach cs) (hg : (text cs)[p]? = some g) : small1 g := by
  rw [h.let_origin p hp] at hg
  have ho := origin_le h.falls p
  obtain ⟨a, c, ha⟩ := h.at (p := origin (src cs) p) (by omega)
  have hs := origin_src h.falls p
  rw [ha.src_eq] at hs
  cases c with
  | cpy d n => cases hs
  | lit w =>
    have h3 : (text cs)[origin (src cs) p]? = w.cps.toList[origin (src cs) p - a]? := ha.let_
    rw [hg] at h3
    exact ha.ok.2.2 g (List.mem_of_getElem? h3.symm)
theorem Rd.origin_letter {l m : Nat} {cs : List Cmd} (h : Rd l m cs) {p : Nat} (hp : p < reach cs) (hb : reach cs ≤ 10 ^ 30) (hlen : (chain (src cs) p).length < 16777216) : ∃ g, (text cs)[p]? = some g ∧ f_origin_letter (streamD cs) (.int (p : Int)) = .ok (sgn g) := by
  have ho : origin (src cs) p < reach cs := by
    have := origin_le h.falls p
    omega
  have tl : origin (src cs) p < (text cs).length := by rw [text_len]; exact ho
  have hg : (text cs)[p]? = some (text cs)[origin (src cs) p] := by
    rw [h.let_origin p hp]
    exact List.getElem?_eq_getElem (by rw [text_len]; exact ho)
  refine ⟨_, hg, ?_⟩
  obtain ⟨a, c, ha⟩ := h.at ho
  have hs := origin_src h.falls p
  rw [ha.src_eq] at hs
  unfold f_origin_letter
  rw [h.followed hp hb hlen, po_toL_ok, Option.bind_some, last_chain, po_some, show natD (origin (src cs) p) = .int ((origin (src cs) p : Nat) : Int) from rfl, piece_ok h.tame (by have := h.n; omega) ha]
  cases c with
  | cpy d n => cases hs
  | lit w =>
    have hl := ha.lo
    have hh := ha.hi
    have hm : many (.lit w) = w.length := rfl
    have hw := ha.ok.2.1
    have hl2 := h.l
    have hk : origin (src cs) p - a < w.cps.toList.length := by rw [← len_eq]; omega
    have ix : dIx (.str w) (.int ((origin (src cs) p - a : Nat) : Int)) = some (sgn w.cps.toList[origin (src cs) p - a]) := by
      show (if w.length ≤ sizeLine then _ else _) = _
      rw [if_pos (by rw [sizeLine_eq]; omega), atI_nat hk]
      rfl
    have e : w.cps.toList[origin (src cs) p - a] = (text cs)[origin (src cs) p]'(by rw [text_len]; exact ho) := by
      have h3 : (text cs)[origin (src cs) p]? = w.cps.toList[origin (src cs) p - a]? := ha.let_
      rw [List.getElem?_eq_getElem hk, List.getElem?_eq_getElem (by rw [text_len]; exact ho)] at h3
      exact (Option.some.inj h3).symm
    simp only [po_toO_ok, po_some, pcD, pn3_t, cmdD, d_ix_t, at1, Option.bind_some, d_sub_i]
    rw [show ((origin (src cs) p : Nat) : Int) - (a : Int) = ((origin (src cs) p - a : Nat) : Int) by omega, ix, po_some, e]
theorem Rd.letter_at {l m : Nat} {cs : List Cmd} (h : Rd l m cs) {p : Nat} (hp : p < reach cs) (hb : reach cs ≤ 10 ^ 30) (hlen : (chain (src cs) p).length < 16777216) : ∃ g, (text cs)[p]? = some g ∧ f_letter_at (streamD cs) (.int (p : Int)) = .ok (sgn g) := by
  obtain ⟨g, h1, h2⟩ := h.origin_letter hp hb hlen
  refine ⟨g, h1, ?_⟩
  unfold f_letter_at
  rw [check_ok h.tame (by have := h.n; omega) hp, po_bind_ok, h2, po_bind_ok]
theorem Rd.source_of {l m : Nat} {cs : List Cmd} (h : Rd l m cs) {p : Nat} (hp : p < reach cs) : f_source_of (streamD cs) (.int (p : Int)) = .ok (srcD (src cs p)) := by
  unfold f_source_of
  rw [check_ok h.tame (by have := h.n; omega) hp, po_bind_ok, h.source hp, po_bind_ok]
theorem Rd.origin_of {l m : Nat} {cs : List Cmd} (h : Rd l m cs) {p : Nat} (hp : p < reach cs) (hb : reach cs ≤ 10 ^ 30) (hlen : (chain (src cs) p).length < 16777216) : f_origin_of (streamD cs) (.int (p : Int)) = .ok (natD (origin (src cs) p)) := by
  unfold f_origin_of
  rw [check_ok h.tame (by have := h.n; omega) hp, po_bind_ok, h.followed hp hb hlen, po_toL_ok, Option.bind_some, last_chain, po_some]
theorem Rd.steps_of {l m : Nat} {cs : List Cmd} (h : Rd l m cs) {p : Nat} (hp : p < reach cs) (hb : reach cs ≤ 10 ^ 30) (hlen : (chain (src cs) p).length < 16777216) : f_steps_of (streamD cs) (.int (p : Int)) = .ok (natD ((chain (src cs) p).length - 1)) := by
  unfold f_steps_of
  have hl2 : 0 < (chain (src cs) p).length := List.length_pos_iff.mpr chain_ne
  rw [check_ok h.tame (by have := h.n; omega) hp, po_bind_ok, h.followed hp hb hlen, po_toL_ok, Option.bind_some, f_len_l, Option.bind_some, d_sub_i, po_some, List.length_map]
  rw [show ((chain (src cs) p).length : Int) - 1 = (((chain (src cs) p).length - 1 : Nat) : Int) by omega]
  rfl
/-- a law's own way through the sources -/
theorem src_at {cs : List Cmd} {p : Nat} (hp : p < reach cs) : dIx (.list ((sf 0 cs).map srcD)) (natD p) = some (srcD (src cs p)) := by
  rw [natD, d_ix_l, atI_nat (by rw [List.length_map, sf_len]; exact hp), List.getElem_map]
  unfold src
  rw [List.getElem?_eq_getElem (by rw [sf_len]; exact hp)]
  rfl
theorem Rd.way {l m : Nat} {cs : List Cmd} (h : Rd l m cs) {p : Nat} (hp : p < reach cs) (hb : reach cs ≤ 16777000) : f__law_way (.list ((sf 0 cs).map srcD)) (.int (p : Int)) = .ok ((chain (src cs) p).map natD) := by
  unfold f__law_way
  have := chain_len h.falls p
  rw [show [PyData.int (p : Int)] = [natD p] from rfl, follow_ok h.falls (p := p) (by omega) (by omega) (fun pre x hx => ?_) fun pre x q hx hl hs => ?_]
  · rfl
  · rw [last_natD, Option.bind_some, src_at (by omega), Option.bind_some, notN_src, po_some]
  · rw [last_natD, Option.bind_some, src_at (by omega), po_some, hs, push_ok (by simp; omega)]
    simp [natD, srcD]
end ML
namespace ML.K19
open PySem L2
def top (i : Nat) : Stmt := PySem.Challenge.pw_copyorigins_k19_letters_sources_and_orig.main.body.getD i (.Pass ⟨0, 0, 0, 0⟩)
abbrev s__law_pot : Stmt := top 21
abbrev s__law_unpacked : Stmt := top 26
abbrev s__law_way : Stmt := top 27
abbrev s_is_integer : Stmt := top 5
abbrev s_letters_of : Stmt := top 6
abbrev s_length_of : Stmt := top 8
abbrev s_check_position : Stmt := top 12
abbrev s_pieces : Stmt := top 9
abbrev s_piece_at : Stmt := top 10
abbrev s_is_literal : Stmt := top 7
abbrev s_source : Stmt := top 11
abbrev s_followed : Stmt := top 14
abbrev s_origin_letter : Stmt := top 15
abbrev s_letter_at : Stmt := top 16
abbrev s_source_of : Stmt := top 17
abbrev s_origin_of : Stmt := top 18
abbrev s_steps_of : Stmt := top 19
abbrev s__law_right : Stmt := top 28
abbrev s__law_take : Stmt := top 22
abbrev s__law_of : Stmt := top 23
abbrev s__law_word : Stmt := top 24
abbrev s__law_stream : Stmt := top 25
abbrev s_law : Stmt := top 29
structure Tx (K : Fg) (mg : Str → Option Value) : Prop where
  f__law_pot : Df K mg "_law_pot" s__law_pot ["_law_script", "_law_k"]
  f__law_unpacked : Df K mg "_law_unpacked" s__law_unpacked ["_law_stream_here"]
  f__law_way : Df K mg "_law_way" s__law_way ["_law_sources", "_law_position"]
  f_is_integer : Df K mg "is_integer" s_is_integer ["value", "least", "most"]
  f_letters_of : Df K mg "letters_of" s_letters_of ["command"]
  f_length_of : Df K mg "length_of" s_length_of ["stream"]
  f_check_position : Df K mg "check_position" s_check_position ["stream", "position"]
  f_pieces : Df K mg "pieces" s_pieces ["stream"]
  f_piece_at : Df K mg "piece_at" s_piece_at ["stream", "position"]
  f_is_literal : Df K mg "is_literal" s_is_literal ["command"]
  f_source : Df K mg "source" s_source ["stream", "position"]
  f_followed : Df K mg "followed" s_followed ["stream", "position"]
  f_origin_letter : Df K mg "origin_letter" s_origin_letter ["stream", "position"]
  f_letter_at : Df K mg "letter_at" s_letter_at ["stream", "position"]
  f_source_of : Df K mg "source_of" s_source_of ["stream", "position"]
  f_origin_of : Df K mg "origin_of" s_origin_of ["stream", "position"]
  f_steps_of : Df K mg "steps_of" s_steps_of ["stream", "position"]
  f__law_right : Df K mg "_law_right" s__law_right ["_law_stream_here"]
  f__law_take : Df K mg "_law_take" s__law_take ["_law_pot_here", "_law_below"]
  f__law_of : Df K mg "_law_of" s__law_of ["_law_pot_here", "_law_some"]
  f__law_word : Df K mg "_law_word" s__law_word ["_law_pot_here", "_law_most"]
  f__law_stream : Df K mg "_law_stream" s__law_stream ["_law_pot_here", "_law_most", "_law_longest", "_law_room"]
  f_law : Df K mg "law" s_law ["_law_script"]
  b_abs : mg "abs" = none
  b_all : mg "all" = none
  b_bool : mg "bool" = none
  b_int : mg "int" = none
  b_isinstance : mg "isinstance" = none
  b_len : mg "len" = none
  b_list : mg "list" = none
  b_max : mg "max" = none
  b_min : mg "min" = none
  b_range : mg "range" = none
  b_repr : mg "repr" = none
  b_sum : mg "sum" = none
  b_tuple : mg "tuple" = none
  c_LITERAL : ∃ t, mg "LITERAL" = some (.str "literal" t)

/-! #### _law_pot -/
abbrev N__law_pot : List Str := ["_law_script", "_law_k", "_law_cell", "_law_own"]
theorem sc__law_pot : FnScope N__law_pot ["_law_script", "_law_k"] (defScope s__law_pot) := ⟨rfl, rfl, rfl, by decide +kernel, rfl, by decide +kernel, by decide +kernel⟩
def g__law_pot : Env → Fl :=
  sSeq (sSet 2 (yV (up (xOp dAdd (xOp dMulX (xC (.int 17)) (xDat 1)) (xC (.int 6))))))
    (sSeq (sIf (up (tOf (xOp ((dCmp fun i j => decide (i < j))) (xDat 1) (xLenF 0)))) (sSeq (sSet 2 (yV (up (xIxF 0 (xDat 1)))))
    (sNil)) sNil)
    (sSeq (sSet 3 (yV (up (xOp dMulX (xOp dMod (xCall fAbs (aCons (xDat 2) aNil)) (xOp dPow (xOp dPow (xC (.int 10)) (xC (.int 60))) (xC (.int 5)))) (xCall fInt (aCons (xOp ((dCmp fun i j => decide (j ≤ i))) (xCall fAbs (aCons (xDat 2) aNil)) (xOp dPow (xC (.int 10)) (xC (.int 18)))) aNil))))))
    (sSeq (sRet (upO (oLst (aCons (xDat 3) (aCons (xOp dMod (xOp dAdd (xOp dAdd (xOp dMulX (xOp dMod (xDat 2) (xC (.int 2305843009213693951))) (xC (.int 70991))) (xOp dMulX (xOp dMulX (xC (.int 4001)) (xDat 1)) (xDat 1))) (xC (.int 71))) (xC (.int 2305843009213693907))) (aCons (xC (.int 0)) aNil))))))
    (sNil))))
def F__law_pot : List SV → Res SV := bodyF 2 4 g__law_pot
theorem ok__law_pot {S : Cxt} (T : Tx S.K S.mg) : Fx S 1 "_law_pot" F__law_pot := T.f__law_pot.mk sc__law_pot fun A W => by
  have nd := sc__law_pot.nd
  exact jss_cons (st_set 2 nd rfl rfl (JD.toE (JP.toD (jp_add (JP.toB (jp_mulX (JP.toB (jp_int)) (JP.toB (pv 1 rfl)))) (JP.toB (jp_int))))))
    (jss_cons (js_if (JTP.toT (jt_lt (JP.toB (pv 1 rfl)) (JP.toB (lenFv 0 rfl rfl T.b_len)))) (jss_cons (st_set 2 nd rfl rfl (JD.toE (JP.toD (ixFv 0 rfl (JP.toB (pv 1 rfl))))))
    (jss_nil)) jss_nil)
    (jss_cons (st_set 3 nd rfl rfl (JD.toE (JP.toD (jp_mulX (JP.toB (jp_mod (JP.toB (jp_abs rfl T.b_abs (jab_cons (JP.toB (pv 2 rfl)) jab_nil))) (JP.toB (jp_pow (JP.toB (jp_pow (JP.toB (jp_int)) (JP.toB (jp_int)))) (JP.toB (jp_int)))))) (JP.toB (jp_intC rfl T.b_int (jab_cons (JP.toB (jp_ge (JP.toB (jp_abs rfl T.b_abs (jab_cons (JP.toB (pv 2 rfl)) jab_nil))) (JP.toB (jp_pow (JP.toB (jp_int)) (JP.toB (jp_int)))))) jab_nil)))))))
    (jss_cons (js_ret (JO.toE (jo_lst (jap_cons (pv 3 rfl) (jap_cons (jp_mod (JP.toB (jp_add (JP.toB (jp_add (JP.toB (jp_mulX (JP.toB (jp_mod (JP.toB (pv 2 rfl)) (JP.toB (jp_int)))) (JP.toB (jp_int)))) (JP.toB (jp_mulX (JP.toB (jp_mulX (JP.toB (jp_int)) (JP.toB (pv 1 rfl)))) (JP.toB (pv 1 rfl)))))) (JP.toB (jp_int)))) (JP.toB (jp_int))) (jap_cons jp_int jap_nil))))))
    (jss_nil))))
theorem sim__law_pot {script' : List D} {k_' : D} : LeF TL (f__law_pot script' k_') (F__law_pot [.frz script', .dat k_']) := by
  unfold f__law_pot
  exact sk_body (env0 := [.frz script', .dat k_', .un, .un]) rfl rfl (s_set (sk_yV (sk_up (lo_of (lo_op (lo_s (lo_of (lo_op (lo_v rfl (lo_v rfl (lo_bt))))) fun t1 => (lo_v rfl (lo_bt))))) fun cell' => (s_put rfl (s_blk (N := (fun (s : D) (e : Env) => e = [.frz script', .dat k_', .dat s, .un])) (s_if1 (sk_up (lo_of (lo_tOf (lo_s (lo_of (lo_op (lo_v rfl (lo_v rfl (lo_bt))))) fun t2 => (lo_bt)))) fun t3 => (sk_if (s_set (sk_yV (sk_up (lo_of (lo_ixF rfl (lo_v rfl (lo_bt)))) fun cell1' => (s_put rfl (s_nilN rfl))))) (s_nilN rfl)))) (fun cell2' e hN => by (subst hN); exact (s_set (sk_yV (sk_up (lo_of (lo_op (lo_s (lo_of (lo_op (lo_s (lo_of (lo_call (lo_cons (lo_v rfl (lo_nil (lo_bt)))))) fun t4 => (lo_s (lo_of (lo_op (lo_s (lo_of (lo_op (lo_v rfl (lo_v rfl (lo_bt))))) fun t5 => (lo_v rfl (lo_bt))))) fun t6 => (lo_bt))))) fun t7 => (lo_s (lo_of (lo_call (lo_cons (lo_s (lo_of (lo_op (lo_s (lo_of (lo_call (lo_cons (lo_v rfl (lo_nil (lo_bt)))))) fun t8 => (lo_s (lo_of (lo_op (lo_v rfl (lo_v rfl (lo_bt))))) fun t9 => (lo_bt))))) fun t10 => (lo_nil (lo_bt)))))) fun t11 => (lo_bt))))) fun own' => (s_put rfl (s_ret (sk_upO (lo_of (lo_lst (al_cons (al_cons (al_cons al_nil))) rfl (lo_cons (lo_v rfl (lo_cons (lo_s (lo_of (lo_op (lo_s (lo_of (lo_op (lo_s (lo_of (lo_op (lo_s (lo_of (lo_op (lo_s (lo_of (lo_op (lo_v rfl (lo_v rfl (lo_bt))))) fun t12 => (lo_v rfl (lo_bt))))) fun t13 => (lo_s (lo_of (lo_op (lo_s (lo_of (lo_op (lo_v rfl (lo_v rfl (lo_bt))))) fun t14 => (lo_v rfl (lo_bt))))) fun t15 => (lo_bt))))) fun t16 => (lo_v rfl (lo_bt))))) fun t17 => (lo_v rfl (lo_bt))))) fun t18 => (lo_cons (lo_v rfl (lo_nil .refl))))))))) fun t19 => (s_rtF rfl)))))))))))))

/-! #### _law_unpacked -/
abbrev N__law_unpacked : List Str := ["_law_stream_here", "_law_letters", "_law_sources", "_law_command", "_law_start", "_law_turn"]
theorem sc__law_unpacked : FnScope N__law_unpacked ["_law_stream_here"] (defScope s__law_unpacked) := ⟨rfl, rfl, rfl, by decide +kernel, rfl, by decide +kernel, by decide +kernel⟩
def b__law_unpacked_1 : Env → Fl :=
  sSeq (sExtend 1 (up (xL (oCall fListX (aCons (xOp dIx (xDat 3) (xC (.int 1))) aNil)))))
    (sSeq (sExtend 2 (up (xOp dMulX (xL (oLst (aCons (xC .none) aNil))) (xCall fLen (aCons (xOp dIx (xDat 3) (xC (.int 1))) aNil)))))
    (sNil))
def b__law_unpacked_2 : Env → Fl :=
  sSeq (sAppend 2 (up (xOp dAdd (xOp dSub (xDat 4) (xOp dIx (xDat 3) (xC (.int 1)))) (xOp dMod (xDat 5) (xOp dIx (xDat 3) (xC (.int 1)))))))
    (sSeq (sAppend 1 (up (xOp dIx (xBor 1) (xOp dIx (xBor 2) (xNeg (xC (.int 1)))))))
    (sNil))
def b__law_unpacked_3 : Env → Fl :=
  sSeq (sFor (iRange1 (yCons (up (xOp dIx (xDat 3) (xC (.int 2)))) yNil)) (gN 5) b__law_unpacked_2)
    (sNil)
def b__law_unpacked_4 : Env → Fl :=
  sSeq (sSet 4 (yV (up (xCall fLen (aCons (xBor 1) aNil)))))
    (sSeq (sIf (up (tOf (xOp dEq (xOp dIx (xDat 3) (xC (.int 0))) (xC (.str "literal"))))) b__law_unpacked_1 b__law_unpacked_3)
    (sNil))
def g__law_unpacked : Env → Fl :=
  sSeq (sPar 1 2 (upO (oLst aNil)) (upO (oLst aNil)))
    (sSeq (sFor (iOf (up (xDat 0))) (gN 3) b__law_unpacked_4)
    (sSeq (sRet (yV (yTup (yCons (yFz 1) (yCons (yFz 2) yNil)))))
    (sNil)))
def F__law_unpacked : List SV → Res SV := bodyF 1 6 g__law_unpacked
theorem ok__law_unpacked {S : Cxt} (T : Tx S.K S.mg) : Fx S 1 "_law_unpacked" F__law_unpacked := T.f__law_unpacked.mk sc__law_unpacked fun A W => by
  have nd := sc__law_unpacked.nd
  exact jss_cons (js_par 1 2 nd rfl rfl (by decide) rfl rfl (JO.toE (jo_lst jap_nil)) (JO.toE (jo_lst jap_nil)) (by intro env h; cases env; subst h; rfl))
    (jss_cons (js_for (ji_seq (JP.toD (pv 0 rfl))) (gv 3 nd rfl (Or.inl rfl)) (jss_cons (st_set 4 nd rfl rfl (JD.toE (JP.toD (jp_len rfl T.b_len (jab_cons (bv 1 rfl) jab_nil)))))
    (jss_cons (js_if (JTP.toT (jt_eq (JP.toB (jp_ix (JP.toB (pv 3 rfl)) (JP.toB (jp_int)))) (JP.toB (jp_str)))) (jss_cons (js_extend 1 rfl (vis_of rfl) rfl rfl (JP.toD (JO.toP (jo_listX rfl T.b_list (jab_cons (JP.toB (jp_ix (JP.toB (pv 3 rfl)) (JP.toB (jp_int)))) jab_nil)))) rfl)
    (jss_cons (js_extend 2 rfl (vis_of rfl) rfl rfl (JP.toD (jp_mulX (JP.toB (JO.toP (jo_lst (jap_cons jp_non jap_nil)))) (JP.toB (jp_len rfl T.b_len (jab_cons (JP.toB (jp_ix (JP.toB (pv 3 rfl)) (JP.toB (jp_int)))) jab_nil))))) rfl)
    (jss_nil))) (jss_cons (js_for (ji_range1 rfl T.b_range (jda_cons (JP.toD (jp_ix (JP.toB (pv 3 rfl)) (JP.toB (jp_int)))) jda_nil)) (gv 5 nd rfl (Or.inl rfl)) (jss_cons (js_append 2 rfl (vis_of rfl) rfl rfl (JP.toD (jp_add (JP.toB (jp_sub (JP.toB (pv 4 rfl)) (JP.toB (jp_ix (JP.toB (pv 3 rfl)) (JP.toB (jp_int)))))) (JP.toB (jp_mod (JP.toB (pv 5 rfl)) (JP.toB (jp_ix (JP.toB (pv 3 rfl)) (JP.toB (jp_int)))))))) rfl)
    (jss_cons (js_append 1 rfl (vis_of rfl) rfl rfl (JP.toD (jp_ix (bv 1 rfl) (JP.toB (jp_ix (bv 2 rfl) (JP.toB (jp_neg (JP.toB (jp_int)))))))) rfl)
    (jss_nil))))
    (jss_nil)))
    (jss_nil))))
    (jss_cons (js_ret (JD.toE (jd_tup (jda_cons (fzv 1 rfl) (jda_cons (fzv 2 rfl) jda_nil)))))
    (jss_nil)))
theorem sim__law_unpacked {stream_here' : D} : LeF TD (f__law_unpacked stream_here') (F__law_unpacked [.dat stream_here']) := by
  unfold f__law_unpacked
  exact sk_body (env0 := [.dat stream_here', .un, .un, .un, .un, .un]) rfl rfl (s_par (sk_upOv (olst_v rfl rfl) (sk_upOv (olst_v rfl rfl) (s_put2 rfl rfl (s_for (sk_iOf (sk_upv rfl (sk_o fun t1 => (s_forN (N := (fun (s : List D × List D) (e : Env) => ∃ j3 j4 j5 : SV, e = [.dat stream_here', .own none (.lst s.1), .own none (.lst s.2), j3, j4, j5])) ⟨_, _, _, rfl⟩ (fun command' s e hN => by (obtain ⟨j3, j4, j5, rfl⟩ := hN; obtain ⟨letters', sources'⟩ := s); exact (so_gN rfl (s_set (sk_yV (sk_up (lo_of (lo_call (lo_cons (lo_v rfl (lo_nil (lo_bt)))))) fun start' => (s_put rfl (s_if (sk_up (lo_of (lo_tOf (lo_s (lo_of (lo_op (lo_s (lo_of (lo_op (lo_v rfl (lo_v rfl (lo_bt))))) fun t2 => (lo_v rfl (lo_bt))))) fun t3 => (lo_bt)))) fun t4 => (sk_if (s_then (s_ext rfl (sk_up (lo_map (lo_of (lo_oCall (lo_cons (lo_s (lo_of (lo_op (lo_v rfl (lo_v rfl (lo_bt))))) fun t5 => (lo_nil (lo_bt))))))) fun t6 => (so_ext rfl fun letters1' => (s_then (s_ext rfl (sk_up (lo_of (lo_op (lo_v (xl_v (olst_v rfl rfl)) (lo_s (lo_of (lo_call (lo_cons (lo_s (lo_of (lo_op (lo_v rfl (lo_v rfl (lo_bt))))) fun t7 => (lo_nil (lo_bt)))))) fun t8 => (lo_bt))))) fun t9 => (so_ext rfl fun sources1' => (s_thenNil (s_nilN ⟨_, _, _, rfl⟩)))))))))) (s_then (s_for (sk_iRange1 (sk_up (lo_of (lo_op (lo_v rfl (lo_v rfl (lo_bt))))) fun t10 => (sk_o fun t11 => (s_forN (N := (fun (s : List D × List D) (e : Env) => ∃ j5 : SV, e = [.dat stream_here', .own none (.lst s.1), .own none (.lst s.2), .dat command', .dat start', j5])) ⟨_, rfl⟩ (fun turn' s e hN => by (obtain ⟨j5, rfl⟩ := hN; obtain ⟨letters2', sources2'⟩ := s); exact (so_gN rfl (s_app rfl (sk_up (lo_of (lo_op (lo_s (lo_of (lo_op (lo_v rfl (lo_s (lo_of (lo_op (lo_v rfl (lo_v rfl (lo_bt))))) fun t12 => (lo_bt))))) fun t13 => (lo_s (lo_of (lo_op (lo_v rfl (lo_s (lo_of (lo_op (lo_v rfl (lo_v rfl (lo_bt))))) fun t14 => (lo_bt))))) fun t15 => (lo_bt))))) fun t16 => (so_app rfl fun sources3' => (s_app rfl (sk_up (lo_of (lo_op (lo_v rfl (lo_s (lo_of (lo_op (lo_v rfl (lo_s (lo_of (lo_neg (lo_v rfl (lo_bt)))) fun t17 => (lo_bt))))) fun t18 => (lo_bt))))) fun t19 => (so_app rfl fun letters3' => (s_nilN ⟨_, rfl⟩))))))))) (fun s e hN => by (obtain ⟨j5, rfl⟩ := hN; obtain ⟨letters4', sources4'⟩ := s); exact (s_thenNil (s_nilN ⟨_, _, _, rfl⟩)))))))))))))))))) (fun s e hN => by (obtain ⟨j3, j4, j5, rfl⟩ := hN; obtain ⟨letters5', sources5'⟩ := s); exact (s_ret (sk_yV (sk_yTup (yl_cons (yl_cons yl_nil)) rfl (sk_yCons (sk_yFz rfl (sk_yCons (sk_yFz rfl (sk_yNil (s_rtF rfl)))))))))))))))))))

/-! #### _law_way -/
abbrev N__law_way : List Str := ["_law_sources", "_law_position", "_law_found"]
theorem sc__law_way : FnScope N__law_way ["_law_sources", "_law_position"] (defScope s__law_way) := ⟨rfl, rfl, rfl, by decide +kernel, rfl, by decide +kernel, by decide +kernel⟩
def b__law_way_1 : Env → Fl :=
  sSeq (sAppend 2 (up (xOp dIx (xDat 0) (xOp dIx (xBor 2) (xNeg (xC (.int 1)))))))
    (sNil)
def g__law_way : Env → Fl :=
  sSeq (sSet 2 (upO (oLst (aCons (xDat 1) aNil))))
    (sSeq (sWhile fuel (up (tOf (xOp dNotN (xOp dIx (xDat 0) (xOp dIx (xBor 2) (xNeg (xC (.int 1))))) (xC .none)))) b__law_way_1)
    (sSeq (sRet (yMv 2))
    (sNil)))
def F__law_way : List SV → Res SV := bodyF 2 3 g__law_way
theorem ok__law_way {S : Cxt} (T : Tx S.K S.mg) : Fx S 1 "_law_way" F__law_way := T.f__law_way.mk sc__law_way fun A W => by
  have nd := sc__law_way.nd
  exact jss_cons (st_set 2 nd rfl rfl (JO.toE (jo_lst (jap_cons (pv 1 rfl) jap_nil))))
    (jss_cons (js_while fuel (JTP.toT (jt_notN (JP.toB (jp_ix (JP.toB (pv 0 rfl)) (JP.toB (jp_ix (bv 2 rfl) (JP.toB (jp_neg (JP.toB (jp_int)))))))) (JP.toB (jp_non)))) (jss_cons (js_append 2 rfl (vis_of rfl) rfl rfl (JP.toD (jp_ix (JP.toB (pv 0 rfl)) (JP.toB (jp_ix (bv 2 rfl) (JP.toB (jp_neg (JP.toB (jp_int)))))))) rfl)
    (jss_nil)))
    (jss_cons (js_ret (mv 2 rfl))
    (jss_nil)))
theorem sim__law_way {sources' : D} {position' : D} : LeF TL (f__law_way sources' position') (F__law_way [.dat sources', .dat position']) := by
  unfold f__law_way
  exact sk_body (env0 := [.dat sources', .dat position', .un]) rfl rfl (s_set (sk_upOv (olst_v rfl rfl) (s_put rfl (s_while (N := (fun (s : List D) (e : Env) => e = [.dat sources', .dat position', .own none (.lst s)])) rfl (fun found' e hN => by (subst hN); exact (sk_up (lo_of (lo_tOf (lo_s (lo_of (lo_op (lo_s (lo_of (lo_op (lo_v rfl (lo_s (lo_of (lo_op (lo_v rfl (lo_s (lo_of (lo_neg (lo_v rfl (lo_bt)))) fun t1 => (lo_bt))))) fun t2 => (lo_bt))))) fun t3 => (lo_v rfl (lo_bt))))) fun t4 => (lo_bt)))) fun t5 => (s_rtT rfl))) (fun found' e hN => by (subst hN); exact (s_app rfl (sk_up (lo_of (lo_op (lo_v rfl (lo_s (lo_of (lo_op (lo_v rfl (lo_s (lo_of (lo_neg (lo_v rfl (lo_bt)))) fun t6 => (lo_bt))))) fun t7 => (lo_bt))))) fun t8 => (so_app rfl fun found1' => (s_nilN rfl))))) (fun found2' e hN => by (subst hN); exact (s_ret (sk_yMv rfl (s_rtF rfl))))))))

/-! #### is_integer -/
abbrev N_is_integer : List Str := ["value", "least", "most"]
theorem sc_is_integer : FnScope N_is_integer ["value", "least", "most"] (defScope s_is_integer) := ⟨rfl, rfl, rfl, by decide +kernel, rfl, by decide +kernel, by decide +kernel⟩
def g_is_integer : Env → Fl :=
  sSeq (sRet (yV (up (vOf (tAndP (tOf (xIsA ("int") (xDat 0))) (tAndP (tNotP (tOf (xIsA ("bool") (xDat 0)))) (tOf (xChain ((dCmp fun i j => decide (i ≤ j))) ((dCmp fun i j => decide (i ≤ j))) (xDat 1) (xDat 0) (xDat 2)))))))))
    (sNil)
def F_is_integer : List SV → Res SV := bodyF 3 3 g_is_integer
theorem ok_is_integer {S : Cxt} (T : Tx S.K S.mg) : Fx S 1 "is_integer" F_is_integer := T.f_is_integer.mk sc_is_integer fun A W => by
  have nd := sc_is_integer.nd
  exact jss_cons (js_ret (JD.toE (JP.toD (jv_and (jv_of (jp_isA rfl T.b_isinstance rfl T.b_int (by decide +kernel) (JP.toB (pv 0 rfl)))) (jv_and (jv_not (jv_of (jp_isA rfl T.b_isinstance rfl T.b_bool (by decide +kernel) (JP.toB (pv 0 rfl))))) (jv_one (jv_of (jp_chain cb_le cb_le (JP.toB (pv 1 rfl)) (JP.toB (pv 0 rfl)) (JP.toB (pv 2 rfl))))))))))
    (jss_nil)
theorem sim_is_integer {value' : D} {least' : D} {most' : D} : LeF TD (f_is_integer value' least' most') (F_is_integer [.dat value', .dat least', .dat most']) := by
  unfold f_is_integer
  exact sk_body (env0 := [.dat value', .dat least', .dat most']) rfl rfl (s_ret (sk_yV (sk_up (lo_vOf (lo_and (lo_of (lo_tOf (lo_s (lo_of (lo_isA (lo_v rfl (lo_bt)))) fun t1 => (lo_bt)))) (lo_and (lo_not (lo_of (lo_tOf (lo_s (lo_of (lo_isA (lo_v rfl (lo_bt)))) fun t2 => (lo_bt))))) (lo_of (lo_tOf (lo_s (lo_of (lo_chain (LeO.eq rfl) (lo_v rfl (lo_v rfl (lo_bt))))) fun t3 => (lo_bt))))))) fun t4 => (s_rtF rfl))))

/-! #### letters_of -/
abbrev N_letters_of : List Str := ["command"]
theorem sc_letters_of : FnScope N_letters_of ["command"] (defScope s_letters_of) := ⟨rfl, rfl, rfl, by decide +kernel, rfl, by decide +kernel, by decide +kernel⟩
def g_letters_of : Env → Fl :=
  sSeq (sRet (yV (up (xIf (tOf (xOp dEq (xOp dIx (xDat 0) (xC (.int 0))) (xC (.str "literal")))) (xCall fLen (aCons (xOp dIx (xDat 0) (xC (.int 1))) aNil)) (xOp dIx (xDat 0) (xC (.int 2)))))))
    (sNil)
def F_letters_of : List SV → Res SV := bodyF 1 1 g_letters_of
theorem ok_letters_of {S : Cxt} (T : Tx S.K S.mg) : Fx S 1 "letters_of" F_letters_of := T.f_letters_of.mk sc_letters_of fun A W => by
  have nd := sc_letters_of.nd
  exact jss_cons (js_ret (JD.toE (JP.toD (jp_if (jt_eq (JP.toB (jp_ix (JP.toB (pv 0 rfl)) (JP.toB (jp_int)))) (JP.toB (gstrE rfl T.c_LITERAL))) (jp_len rfl T.b_len (jab_cons (JP.toB (jp_ix (JP.toB (pv 0 rfl)) (JP.toB (jp_int)))) jab_nil)) (jp_ix (JP.toB (pv 0 rfl)) (JP.toB (jp_int)))))))
    (jss_nil)
theorem sim_letters_of {command' : D} : LeF TD (f_letters_of command') (F_letters_of [.dat command']) := by
  unfold f_letters_of
  exact sk_body (env0 := [.dat command']) rfl rfl (s_ret (sk_yV (sk_up (lo_ifT (lo_of (lo_tOf (lo_s (lo_of (lo_op (lo_s (lo_of (lo_op (lo_v rfl (lo_v rfl (lo_bt))))) fun t1 => (lo_v rfl (lo_bt))))) fun t2 => (lo_bt)))) (lo_of (lo_call (lo_cons (lo_s (lo_of (lo_op (lo_v rfl (lo_v rfl (lo_bt))))) fun t3 => (lo_nil (lo_bt)))))) (lo_of (lo_op (lo_v rfl (lo_v rfl (lo_bt)))))) fun t4 => (s_rtF rfl))))

/-! #### length_of -/
abbrev N_length_of : List Str := ["stream", "command"]
theorem sc_length_of : FnScope N_length_of ["stream"] (defScope s_length_of) := ⟨rfl, rfl, rfl, by decide +kernel, rfl, by decide +kernel, by decide +kernel⟩
def g_length_of : Env → Fl :=
  sSeq (sRet (yV (up (xCall fSum (aCons (xL (oComp ([1]) (ipOf (xDat 0)) (gN 1) pYes (xFn F_letters_of (aCons (xDat 1) aNil)))) aNil)))))
    (sNil)
def F_length_of : List SV → Res SV := bodyF 1 2 g_length_of
theorem ok_length_of {S : Cxt} (T : Tx S.K S.mg) : Fx S 2 "length_of" F_length_of := T.f_length_of.mk sc_length_of fun A W => by
  have nd := sc_length_of.nd
  exact jss_cons (js_ret (JD.toE (JP.toD (jp_sum rfl T.b_sum (jab_cons (JP.toB (JO.toP (jo_comp nd (own := [("command", 1)]) (jip_seq (pv 0 rfl)) rfl (gv 1 nd rfl (Or.inr rfl)) jtsp_nil (jp_call (ok_letters_of T) (leB rfl) rfl (jap_cons (pv 1 rfl) jap_nil)) (by decide)))) jab_nil)))))
    (jss_nil)
theorem sim_length_of {stream' : D} : LeF TD (f_length_of stream') (F_length_of [.dat stream']) := by
  unfold f_length_of
  exact sk_body (env0 := [.dat stream', .un]) rfl rfl (s_ret (sk_yV (sk_up (lo_of (lo_call (lo_cons (lo_s (lo_map (lo_of (lo_mapc (fun command' => lo_gN rfl (lo_of (lo_fn (lo_cons (lo_v rfl (lo_nil (lo_st (LeF.toO sim_letters_of)))))))) (lo_s (lo_of (lo_ipOf (lo_v rfl (lo_bt)))) fun t1 => (lo_bt))))) fun t2 => (lo_nil (lo_bt)))))) fun t3 => (s_rtF rfl))))

/-! #### check_position -/
abbrev N_check_position : List Str := ["stream", "position"]
theorem sc_check_position : FnScope N_check_position ["stream", "position"] (defScope s_check_position) := ⟨rfl, rfl, rfl, by decide +kernel, rfl, by decide +kernel, by decide +kernel⟩
def b_check_position_1 : Env → Fl :=
  sSeq (sNever)
    (sNil)
def g_check_position : Env → Fl :=
  sSeq (sIf (up (tNotP (tOf (xFn F_is_integer (aCons (xDat 1) (aCons (xC (.int 0)) (aCons (xOp dSub (xFn F_length_of (aCons (xDat 0) aNil)) (xC (.int 1))) aNil))))))) b_check_position_1 sNil)
    (sNil)
def F_check_position : List SV → Res SV := bodyF 2 2 g_check_position
theorem ok_check_position {S : Cxt} (T : Tx S.K S.mg) : Fx S 3 "check_position" F_check_position := T.f_check_position.mk sc_check_position fun A W => by
  have nd := sc_check_position.nd
  exact jss_cons (js_if (JTP.toT (jtp_not (jtp_val (jp_call (ok_is_integer T) (leB rfl) rfl (jap_cons (pv 1 rfl) (jap_cons jp_int (jap_cons (jp_sub (JP.toB (jp_call (ok_length_of T) (leB rfl) rfl (jap_cons (pv 0 rfl) jap_nil))) (JP.toB (jp_int))) jap_nil))))))) (jss_cons (js_never)
    (jss_nil)) jss_nil)
    (jss_nil)
theorem sim_check_position {stream' : D} {position' : D} : LeF TD (f_check_position stream' position') (F_check_position [.dat stream', .dat position']) := by
  unfold f_check_position
  exact sk_body (env0 := [.dat stream', .dat position']) rfl rfl (s_if (sk_up (lo_not (lo_of (lo_tOf (lo_s (lo_of (lo_fn (lo_cons (lo_v rfl (lo_cons (lo_v rfl (lo_cons (lo_s (lo_of (lo_op (lo_s (lo_of (lo_fn (lo_cons (lo_v rfl (lo_nil (lo_st (LeF.toO sim_length_of))))))) fun t1 => (lo_v rfl (lo_bt))))) fun t2 => (lo_nil (lo_st (LeF.toO sim_is_integer))))))))))) fun t3 => (lo_bt))))) fun t4 => (sk_if (s_then (s_never)) (s_thenNil (s_nilF rfl)))))

/-! #### pieces -/
abbrev N_pieces : List Str := ["stream", "found", "start", "command"]
theorem sc_pieces : FnScope N_pieces ["stream"] (defScope s_pieces) := ⟨rfl, rfl, rfl, by decide +kernel, rfl, by decide +kernel, by decide +kernel⟩
def b_pieces_1 : Env → Fl :=
  sSeq (sAppend 1 (up (xTup (aCons (xDat 2) (aCons (xOp dAdd (xDat 2) (xFn F_letters_of (aCons (xDat 3) aNil))) (aCons (xDat 3) aNil))))))
    (sSeq (sAug 2 ((dAugI fun i j => i + j)) (up (xFn F_letters_of (aCons (xDat 3) aNil))))
    (sNil))
def g_pieces : Env → Fl :=
  sSeq (sPar 1 2 (upO (oLst aNil)) (yV (up (xC (.int 0)))))
    (sSeq (sFor (iOf (up (xDat 0))) (gN 3) b_pieces_1)
    (sSeq (sRet (yMv 1))
    (sNil)))
def F_pieces : List SV → Res SV := bodyF 1 4 g_pieces
theorem ok_pieces {S : Cxt} (T : Tx S.K S.mg) : Fx S 2 "pieces" F_pieces := T.f_pieces.mk sc_pieces fun A W => by
  have nd := sc_pieces.nd
  exact jss_cons (js_par 1 2 nd rfl rfl (by decide) rfl rfl (JO.toE (jo_lst jap_nil)) (JD.toE (JP.toD (jp_int))) (by intro env h; cases env; subst h; rfl))
    (jss_cons (js_for (ji_seq (JP.toD (pv 0 rfl))) (gv 3 nd rfl (Or.inl rfl)) (jss_cons (js_append 1 rfl (vis_of rfl) rfl rfl (JP.toD (jp_tup (jap_cons (pv 2 rfl) (jap_cons (jp_add (JP.toB (pv 2 rfl)) (JP.toB (jp_call (ok_letters_of T) (leB rfl) rfl (jap_cons (pv 3 rfl) jap_nil)))) (jap_cons (pv 3 rfl) jap_nil))))) rfl)
    (jss_cons (st_aug 2 ((fun X => ip_add)) nd rfl rfl (JP.toD (jp_call (ok_letters_of T) (leB rfl) rfl (jap_cons (pv 3 rfl) jap_nil))))
    (jss_nil))))
    (jss_cons (js_ret (mv 1 rfl))
    (jss_nil)))
theorem sim_pieces {stream' : D} : LeF TL (f_pieces stream') (F_pieces [.dat stream']) := by
  unfold f_pieces
  exact sk_body (env0 := [.dat stream', .un, .un, .un]) rfl rfl (s_par (sk_upOv (olst_v rfl rfl) (sk_yV (sk_upv rfl (s_put2 rfl rfl (s_for (sk_iOf (sk_upv rfl (sk_o fun t1 => (s_forN (N := (fun (s : List D × D) (e : Env) => ∃ j3 : SV, e = [.dat stream', .own none (.lst s.1), .dat s.2, j3])) ⟨_, rfl⟩ (fun command' s e hN => by (obtain ⟨j3, rfl⟩ := hN; obtain ⟨found', start'⟩ := s); exact (so_gN rfl (s_app rfl (sk_up (lo_of (lo_tup (al_cons (al_cons (al_cons al_nil))) rfl (lo_cons (lo_v rfl (lo_cons (lo_s (lo_of (lo_op (lo_v rfl (lo_s (lo_of (lo_fn (lo_cons (lo_v rfl (lo_nil (lo_st (LeF.toO sim_letters_of))))))) fun t2 => (lo_bt))))) fun t3 => (lo_cons (lo_v rfl (lo_nil .refl))))))))) fun t4 => (so_app rfl fun found1' => (s_aug rfl (sk_up (lo_of (lo_fn (lo_cons (lo_v rfl (lo_nil (lo_st (LeF.toO sim_letters_of))))))) fun t5 => (sk_o fun start1' => (s_put rfl (s_nilN ⟨_, rfl⟩)))))))))) (fun s e hN => by (obtain ⟨j3, rfl⟩ := hN; obtain ⟨found2', start2'⟩ := s); exact (s_ret (sk_yMv rfl (s_rtF rfl))))))))))))))

/-! #### piece_at -/
abbrev N_piece_at : List Str := ["stream", "position", "piece"]
theorem sc_piece_at : FnScope N_piece_at ["stream", "position"] (defScope s_piece_at) := ⟨rfl, rfl, rfl, by decide +kernel, rfl, by decide +kernel, by decide +kernel⟩
def g_piece_at : Env → Fl :=
  sSeq (sRet (yV (up (xOp dIx (xL (oComp ([2]) (ipOf (xFn F_pieces (aCons (xDat 0) aNil))) (gN 2) (tOf (xChain ((dCmp fun i j => decide (i ≤ j))) ((dCmp fun i j => decide (i < j))) (xOp dIx (xDat 2) (xC (.int 0))) (xDat 1) (xOp dIx (xDat 2) (xC (.int 1))))) (xDat 2))) (xC (.int 0))))))
    (sNil)
def F_piece_at : List SV → Res SV := bodyF 2 3 g_piece_at
theorem ok_piece_at {S : Cxt} (T : Tx S.K S.mg) : Fx S 3 "piece_at" F_piece_at := T.f_piece_at.mk sc_piece_at fun A W => by
  have nd := sc_piece_at.nd
  exact jss_cons (js_ret (JD.toE (JP.toD (jp_ix (JP.toB (JO.toP (jo_comp nd (own := [("piece", 2)]) (jip_seq (jp_call (ok_pieces T) (leB rfl) rfl (jap_cons (pv 0 rfl) jap_nil))) rfl (gv 2 nd rfl (Or.inr rfl)) (jtsp_one (jt_chain cb_le cb_lt (JP.toB (jp_ix (JP.toB (pv 2 rfl)) (JP.toB (jp_int)))) (JP.toB (pv 1 rfl)) (JP.toB (jp_ix (JP.toB (pv 2 rfl)) (JP.toB (jp_int)))))) (pv 2 rfl) (by decide)))) (JP.toB (jp_int))))))
    (jss_nil)
theorem sim_piece_at {stream' : D} {position' : D} : LeF TD (f_piece_at stream' position') (F_piece_at [.dat stream', .dat position']) := by
  unfold f_piece_at
  exact sk_body (env0 := [.dat stream', .dat position', .un]) rfl rfl (s_ret (sk_yV (sk_up (lo_of (lo_op (lo_s (lo_map (lo_of (lo_comp (fun piece' => lo_gN rfl (lo_keep (lo_of (lo_tOf (lo_s (lo_of (lo_chain (lo_of (lo_op (lo_v rfl (lo_v rfl (lo_bt))))) (lo_s (lo_of (lo_op (lo_v rfl (lo_v rfl (lo_bt))))) fun t2 => (lo_v rfl (lo_bt))))) fun t3 => (lo_bt)))) (LeO.eq rfl))) (lo_s (lo_of (lo_ipOf (lo_s (lo_of (lo_fn (lo_cons (lo_v rfl (lo_nil (lo_st (LeF.toL sim_pieces))))))) fun t1 => (lo_bt)))) fun t4 => (lo_bt))))) fun t5 => (lo_v rfl (lo_bt))))) fun t6 => (s_rtF rfl))))

/-! #### is_literal -/
abbrev N_is_literal : List Str := ["command"]
theorem sc_is_literal : FnScope N_is_literal ["command"] (defScope s_is_literal) := ⟨rfl, rfl, rfl, by decide +kernel, rfl, by decide +kernel, by decide +kernel⟩
def g_is_literal : Env → Fl :=
  sSeq (sRet (yV (up (xOp dEq (xOp dIx (xDat 0) (xC (.int 0))) (xC (.str "literal"))))))
    (sNil)
def F_is_literal : List SV → Res SV := bodyF 1 1 g_is_literal
theorem ok_is_literal {S : Cxt} (T : Tx S.K S.mg) : Fx S 1 "is_literal" F_is_literal := T.f_is_literal.mk sc_is_literal fun A W => by
  have nd := sc_is_literal.nd
  exact jss_cons (js_ret (JD.toE (JP.toD (jp_eq (JP.toB (jp_ix (JP.toB (pv 0 rfl)) (JP.toB (jp_int)))) (JP.toB (gstrE rfl T.c_LITERAL))))))
    (jss_nil)
theorem sim_is_literal {command' : D} : LeF TD (f_is_literal command') (F_is_literal [.dat command']) := by
  unfold f_is_literal
  exact sk_body (env0 := [.dat command']) rfl rfl (s_ret (sk_yV (sk_up (lo_of (lo_op (lo_s (lo_of (lo_op (lo_v rfl (lo_v rfl (lo_bt))))) fun t1 => (lo_v rfl (lo_bt))))) fun t2 => (s_rtF rfl))))

/-! #### source -/
abbrev N_source : List Str := ["stream", "position", "start", "end", "command"]
theorem sc_source : FnScope N_source ["stream", "position"] (defScope s_source) := ⟨rfl, rfl, rfl, by decide +kernel, rfl, by decide +kernel, by decide +kernel⟩
def g_source : Env → Fl :=
  sSeq (sAsg (up (xFn F_piece_at (aCons (xDat 0) (aCons (xDat 1) aNil)))) (gTupD 3 (gsCons (gN 2) (gsCons (gN 3) (gsCons (gN 4) gsNil)))))
    (sSeq (sRet (yV (up (xIf (tOf (xFn F_is_literal (aCons (xDat 4) aNil))) (xC .none) (xOp dAdd (xOp dSub (xDat 2) (xOp dIx (xDat 4) (xC (.int 1)))) (xOp dMod (xOp dSub (xDat 1) (xDat 2)) (xOp dIx (xDat 4) (xC (.int 1)))))))))
    (sNil))
def F_source : List SV → Res SV := bodyF 2 5 g_source
theorem ok_source {S : Cxt} (T : Tx S.K S.mg) : Fx S 4 "source" F_source := T.f_source.mk sc_source fun A W => by
  have nd := sc_source.nd
  exact jss_cons (js_asg (JP.toD (jp_call (ok_piece_at T) (leB rfl) rfl (jap_cons (pv 0 rfl) (jap_cons (pv 1 rfl) jap_nil)))) (jg_tup (jgs_cons (gv 2 nd rfl (Or.inl rfl)) (jgs_cons (gv 3 nd rfl (Or.inl rfl)) (jgs_cons (gv 4 nd rfl (Or.inl rfl)) jgs_nil)))) (hw := by intro _ _; rfl))
    (jss_cons (js_ret (JD.toE (JP.toD (jp_if (jtp_val (jp_call (ok_is_literal T) (leB rfl) rfl (jap_cons (pv 4 rfl) jap_nil))) jp_non (jp_add (JP.toB (jp_sub (JP.toB (pv 2 rfl)) (JP.toB (jp_ix (JP.toB (pv 4 rfl)) (JP.toB (jp_int)))))) (JP.toB (jp_mod (JP.toB (jp_sub (JP.toB (pv 1 rfl)) (JP.toB (pv 2 rfl)))) (JP.toB (jp_ix (JP.toB (pv 4 rfl)) (JP.toB (jp_int)))))))))))
    (jss_nil))
theorem sim_source {stream' : D} {position' : D} : LeF TD (f_source stream' position') (F_source [.dat stream', .dat position']) := by
  unfold f_source
  exact sk_body (env0 := [.dat stream', .dat position', .un, .un, .un]) rfl rfl (s_asg (sk_up (lo_of (lo_fn (lo_cons (lo_v rfl (lo_cons (lo_v rfl (lo_nil (lo_st (LeF.toO sim_piece_at))))))))) fun t1 => (so_g3 rfl rfl rfl (fun start' end_' command' => (s_ret (sk_yV (sk_up (lo_ifT (lo_of (lo_tOf (lo_s (lo_of (lo_fn (lo_cons (lo_v rfl (lo_nil (lo_st (LeF.toO sim_is_literal))))))) fun t2 => (lo_bt)))) (LeO.eq rfl) (lo_of (lo_op (lo_s (lo_of (lo_op (lo_v rfl (lo_s (lo_of (lo_op (lo_v rfl (lo_v rfl (lo_bt))))) fun t3 => (lo_bt))))) fun t4 => (lo_s (lo_of (lo_op (lo_s (lo_of (lo_op (lo_v rfl (lo_v rfl (lo_bt))))) fun t5 => (lo_s (lo_of (lo_op (lo_v rfl (lo_v rfl (lo_bt))))) fun t6 => (lo_bt))))) fun t7 => (lo_bt)))))) fun t8 => (s_rtF rfl))))))))

/-! #### followed -/
abbrev N_followed : List Str := ["stream", "position", "found"]
theorem sc_followed : FnScope N_followed ["stream", "position"] (defScope s_followed) := ⟨rfl, rfl, rfl, by decide +kernel, rfl, by decide +kernel, by decide +kernel⟩
def b_followed_1 : Env → Fl :=
  sSeq (sAppend 2 (up (xFn F_source (aCons (xDat 0) (aCons (xOp dIx (xBor 2) (xNeg (xC (.int 1)))) aNil)))))
    (sNil)
def g_followed : Env → Fl :=
  sSeq (sSet 2 (upO (oLst (aCons (xDat 1) aNil))))
    (sSeq (sWhile fuel (up (tOf (xOp dNotN (xFn F_source (aCons (xDat 0) (aCons (xOp dIx (xBor 2) (xNeg (xC (.int 1)))) aNil))) (xC .none)))) b_followed_1)
    (sSeq (sRet (yMv 2))
    (sNil)))
def F_followed : List SV → Res SV := bodyF 2 3 g_followed
theorem ok_followed {S : Cxt} (T : Tx S.K S.mg) : Fx S 5 "followed" F_followed := T.f_followed.mk sc_followed fun A W => by
  have nd := sc_followed.nd
  exact jss_cons (st_set 2 nd rfl rfl (JO.toE (jo_lst (jap_cons (pv 1 rfl) jap_nil))))
    (jss_cons (js_while fuel (JTP.toT (jt_notN (JP.toB (jp_call (ok_source T) (leB rfl) rfl (jap_cons (pv 0 rfl) (jap_cons (jp_ix (bv 2 rfl) (JP.toB (jp_neg (JP.toB (jp_int))))) jap_nil)))) (JP.toB (jp_non)))) (jss_cons (js_append 2 rfl (vis_of rfl) rfl rfl (JP.toD (jp_call (ok_source T) (leB rfl) rfl (jap_cons (pv 0 rfl) (jap_cons (jp_ix (bv 2 rfl) (JP.toB (jp_neg (JP.toB (jp_int))))) jap_nil)))) rfl)
    (jss_nil)))
    (jss_cons (js_ret (mv 2 rfl))
    (jss_nil)))
theorem sim_followed {stream' : D} {position' : D} : LeF TL (f_followed stream' position') (F_followed [.dat stream', .dat position']) := by
  unfold f_followed
  exact sk_body (env0 := [.dat stream', .dat position', .un]) rfl rfl (s_set (sk_upOv (olst_v rfl rfl) (s_put rfl (s_while (N := (fun (s : List D) (e : Env) => e = [.dat stream', .dat position', .own none (.lst s)])) rfl (fun found' e hN => by (subst hN); exact (sk_up (lo_of (lo_tOf (lo_s (lo_of (lo_op (lo_s (lo_of (lo_fn (lo_cons (lo_v rfl (lo_cons (lo_s (lo_of (lo_op (lo_v rfl (lo_s (lo_of (lo_neg (lo_v rfl (lo_bt)))) fun t1 => (lo_bt))))) fun t2 => (lo_nil (lo_st (LeF.toO sim_source))))))))) fun t3 => (lo_v rfl (lo_bt))))) fun t4 => (lo_bt)))) fun t5 => (s_rtT rfl))) (fun found' e hN => by (subst hN); exact (s_app rfl (sk_up (lo_of (lo_fn (lo_cons (lo_v rfl (lo_cons (lo_s (lo_of (lo_op (lo_v rfl (lo_s (lo_of (lo_neg (lo_v rfl (lo_bt)))) fun t6 => (lo_bt))))) fun t7 => (lo_nil (lo_st (LeF.toO sim_source))))))))) fun t8 => (so_app rfl fun found1' => (s_nilN rfl))))) (fun found2' e hN => by (subst hN); exact (s_ret (sk_yMv rfl (s_rtF rfl))))))))

/-! #### origin_letter -/
abbrev N_origin_letter : List Str := ["stream", "position", "origin", "start", "end", "command"]
theorem sc_origin_letter : FnScope N_origin_letter ["stream", "position"] (defScope s_origin_letter) := ⟨rfl, rfl, rfl, by decide +kernel, rfl, by decide +kernel, by decide +kernel⟩
def g_origin_letter : Env → Fl :=
  sSeq (sSet 2 (yV (up (xOp dIx (xFn F_followed (aCons (xDat 0) (aCons (xDat 1) aNil))) (xNeg (xC (.int 1)))))))
    (sSeq (sAsg (up (xFn F_piece_at (aCons (xDat 0) (aCons (xDat 2) aNil)))) (gTupD 3 (gsCons (gN 3) (gsCons (gN 4) (gsCons (gN 5) gsNil)))))
    (sSeq (sRet (yV (up (xOp dIx (xOp dIx (xDat 5) (xC (.int 1))) (xOp dSub (xDat 2) (xDat 3))))))
    (sNil)))
def F_origin_letter : List SV → Res SV := bodyF 2 6 g_origin_letter
theorem ok_origin_letter {S : Cxt} (T : Tx S.K S.mg) : Fx S 6 "origin_letter" F_origin_letter := T.f_origin_letter.mk sc_origin_letter fun A W => by
  have nd := sc_origin_letter.nd
  exact jss_cons (st_set 2 nd rfl rfl (JD.toE (JP.toD (jp_ix (JP.toB (jp_call (ok_followed T) (leB rfl) rfl (jap_cons (pv 0 rfl) (jap_cons (pv 1 rfl) jap_nil)))) (JP.toB (jp_neg (JP.toB (jp_int))))))))
    (jss_cons (js_asg (JP.toD (jp_call (ok_piece_at T) (leB rfl) rfl (jap_cons (pv 0 rfl) (jap_cons (pv 2 rfl) jap_nil)))) (jg_tup (jgs_cons (gv 3 nd rfl (Or.inl rfl)) (jgs_cons (gv 4 nd rfl (Or.inl rfl)) (jgs_cons (gv 5 nd rfl (Or.inl rfl)) jgs_nil)))) (hw := by intro _ _; rfl))
    (jss_cons (js_ret (JD.toE (JP.toD (jp_ix (JP.toB (jp_ix (JP.toB (pv 5 rfl)) (JP.toB (jp_int)))) (JP.toB (jp_sub (JP.toB (pv 2 rfl)) (JP.toB (pv 3 rfl))))))))
    (jss_nil)))
theorem sim_origin_letter {stream' : D} {position' : D} : LeF TD (f_origin_letter stream' position') (F_origin_letter [.dat stream', .dat position']) := by
  unfold f_origin_letter
  exact sk_body (env0 := [.dat stream', .dat position', .un, .un, .un, .un]) rfl rfl (s_set (sk_yV (sk_up (lo_of (lo_op (lo_s (lo_of (lo_fn (lo_cons (lo_v rfl (lo_cons (lo_v rfl (lo_nil (lo_st (LeF.toL sim_followed))))))))) fun t1 => (lo_s (lo_of (lo_neg (lo_v rfl (lo_bt)))) fun t2 => (lo_bt))))) fun origin' => (s_put rfl (s_asg (sk_up (lo_of (lo_fn (lo_cons (lo_v rfl (lo_cons (lo_v rfl (lo_nil (lo_st (LeF.toO sim_piece_at))))))))) fun t3 => (so_g3 rfl rfl rfl (fun start' end_' command' => (s_ret (sk_yV (sk_up (lo_of (lo_op (lo_s (lo_of (lo_op (lo_v rfl (lo_v rfl (lo_bt))))) fun t4 => (lo_s (lo_of (lo_op (lo_v rfl (lo_v rfl (lo_bt))))) fun t5 => (lo_bt))))) fun t6 => (s_rtF rfl))))))))))))

/-! #### letter_at -/
abbrev N_letter_at : List Str := ["stream", "position"]
theorem sc_letter_at : FnScope N_letter_at ["stream", "position"] (defScope s_letter_at) := ⟨rfl, rfl, rfl, by decide +kernel, rfl, by decide +kernel, by decide +kernel⟩
def g_letter_at : Env → Fl :=
  sSeq (sDrop (yFn F_check_position (cCons (up (xDat 0)) (cCons (up (xDat 1)) cNil))))
    (sSeq (sRet (yFn F_origin_letter (cCons (up (xDat 0)) (cCons (up (xDat 1)) cNil))))
    (sNil))
def F_letter_at : List SV → Res SV := bodyF 2 2 g_letter_at
theorem ok_letter_at {S : Cxt} (T : Tx S.K S.mg) : Fx S 7 "letter_at" F_letter_at := T.f_letter_at.mk sc_letter_at fun A W => by
  have nd := sc_letter_at.nd
  exact jss_cons (js_drop (je_call (ok_check_position T) (leB rfl) rfl (jca_d (JP.toD (pv 0 rfl)) (jca_d (JP.toD (pv 1 rfl)) jca_nil))))
    (jss_cons (js_ret (je_call (ok_origin_letter T) (leB rfl) rfl (jca_d (JP.toD (pv 0 rfl)) (jca_d (JP.toD (pv 1 rfl)) jca_nil))))
    (jss_nil))
theorem sim_letter_at {stream' : D} {position' : D} : LeF TD (f_letter_at stream' position') (F_letter_at [.dat stream', .dat position']) := by
  unfold f_letter_at
  exact sk_body (env0 := [.dat stream', .dat position']) rfl rfl (s_drop (sk_yFn (sk_cCons (sk_upv rfl (sk_cCons (sk_upv rfl (sk_cNil (sk_callD rfl sim_check_position fun t1 => (s_ret (sk_yFn (sk_cCons (sk_upv rfl (sk_cCons (sk_upv rfl (sk_cNil (sk_callD rfl sim_origin_letter fun t2 => (s_rtF rfl)))))))))))))))))

/-! #### source_of -/
abbrev N_source_of : List Str := ["stream", "position"]
theorem sc_source_of : FnScope N_source_of ["stream", "position"] (defScope s_source_of) := ⟨rfl, rfl, rfl, by decide +kernel, rfl, by decide +kernel, by decide +kernel⟩
def g_source_of : Env → Fl :=
  sSeq (sDrop (yFn F_check_position (cCons (up (xDat 0)) (cCons (up (xDat 1)) cNil))))
    (sSeq (sRet (yFn F_source (cCons (up (xDat 0)) (cCons (up (xDat 1)) cNil))))
    (sNil))
def F_source_of : List SV → Res SV := bodyF 2 2 g_source_of
theorem ok_source_of {S : Cxt} (T : Tx S.K S.mg) : Fx S 5 "source_of" F_source_of := T.f_source_of.mk sc_source_of fun A W => by
  have nd := sc_source_of.nd
  exact jss_cons (js_drop (je_call (ok_check_position T) (leB rfl) rfl (jca_d (JP.toD (pv 0 rfl)) (jca_d (JP.toD (pv 1 rfl)) jca_nil))))
    (jss_cons (js_ret (je_call (ok_source T) (leB rfl) rfl (jca_d (JP.toD (pv 0 rfl)) (jca_d (JP.toD (pv 1 rfl)) jca_nil))))
    (jss_nil))
theorem sim_source_of {stream' : D} {position' : D} : LeF TD (f_source_of stream' position') (F_source_of [.dat stream', .dat position']) := by
  unfold f_source_of
  exact sk_body (env0 := [.dat stream', .dat position']) rfl rfl (s_drop (sk_yFn (sk_cCons (sk_upv rfl (sk_cCons (sk_upv rfl (sk_cNil (sk_callD rfl sim_check_position fun t1 => (s_ret (sk_yFn (sk_cCons (sk_upv rfl (sk_cCons (sk_upv rfl (sk_cNil (sk_callD rfl sim_source fun t2 => (s_rtF rfl)))))))))))))))))

/-! #### origin_of -/
abbrev N_origin_of : List Str := ["stream", "position"]
theorem sc_origin_of : FnScope N_origin_of ["stream", "position"] (defScope s_origin_of) := ⟨rfl, rfl, rfl, by decide +kernel, rfl, by decide +kernel, by decide +kernel⟩
def g_origin_of : Env → Fl :=
  sSeq (sDrop (yFn F_check_position (cCons (up (xDat 0)) (cCons (up (xDat 1)) cNil))))
    (sSeq (sRet (yV (up (xOp dIx (xFn F_followed (aCons (xDat 0) (aCons (xDat 1) aNil))) (xNeg (xC (.int 1)))))))
    (sNil))
def F_origin_of : List SV → Res SV := bodyF 2 2 g_origin_of
theorem ok_origin_of {S : Cxt} (T : Tx S.K S.mg) : Fx S 6 "origin_of" F_origin_of := T.f_origin_of.mk sc_origin_of fun A W => by
  have nd := sc_origin_of.nd
  exact jss_cons (js_drop (je_call (ok_check_position T) (leB rfl) rfl (jca_d (JP.toD (pv 0 rfl)) (jca_d (JP.toD (pv 1 rfl)) jca_nil))))
    (jss_cons (js_ret (JD.toE (JP.toD (jp_ix (JP.toB (jp_call (ok_followed T) (leB rfl) rfl (jap_cons (pv 0 rfl) (jap_cons (pv 1 rfl) jap_nil)))) (JP.toB (jp_neg (JP.toB (jp_int))))))))
    (jss_nil))
theorem sim_origin_of {stream' : D} {position' : D} : LeF TD (f_origin_of stream' position') (F_origin_of [.dat stream', .dat position']) := by
  unfold f_origin_of
  exact sk_body (env0 := [.dat stream', .dat position']) rfl rfl (s_drop (sk_yFn (sk_cCons (sk_upv rfl (sk_cCons (sk_upv rfl (sk_cNil (sk_callD rfl sim_check_position fun t1 => (s_ret (sk_yV (sk_up (lo_of (lo_op (lo_s (lo_of (lo_fn (lo_cons (lo_v rfl (lo_cons (lo_v rfl (lo_nil (lo_st (LeF.toL sim_followed))))))))) fun t2 => (lo_s (lo_of (lo_neg (lo_v rfl (lo_bt)))) fun t3 => (lo_bt))))) fun t4 => (s_rtF rfl))))))))))))

/-! #### steps_of -/
abbrev N_steps_of : List Str := ["stream", "position"]
theorem sc_steps_of : FnScope N_steps_of ["stream", "position"] (defScope s_steps_of) := ⟨rfl, rfl, rfl, by decide +kernel, rfl, by decide +kernel, by decide +kernel⟩
def g_steps_of : Env → Fl :=
  sSeq (sDrop (yFn F_check_position (cCons (up (xDat 0)) (cCons (up (xDat 1)) cNil))))
    (sSeq (sRet (yV (up (xOp dSub (xCall fLen (aCons (xFn F_followed (aCons (xDat 0) (aCons (xDat 1) aNil))) aNil)) (xC (.int 1))))))
    (sNil))
def F_steps_of : List SV → Res SV := bodyF 2 2 g_steps_of
theorem ok_steps_of {S : Cxt} (T : Tx S.K S.mg) : Fx S 6 "steps_of" F_steps_of := T.f_steps_of.mk sc_steps_of fun A W => by
  have nd := sc_steps_of.nd
  exact jss_cons (js_drop (je_call (ok_check_position T) (leB rfl) rfl (jca_d (JP.toD (pv 0 rfl)) (jca_d (JP.toD (pv 1 rfl)) jca_nil))))
    (jss_cons (js_ret (JD.toE (JP.toD (jp_sub (JP.toB (jp_len rfl T.b_len (jab_cons (JP.toB (jp_call (ok_followed T) (leB rfl) rfl (jap_cons (pv 0 rfl) (jap_cons (pv 1 rfl) jap_nil)))) jab_nil))) (JP.toB (jp_int))))))
    (jss_nil))
theorem sim_steps_of {stream' : D} {position' : D} : LeF TD (f_steps_of stream' position') (F_steps_of [.dat stream', .dat position']) := by
  unfold f_steps_of
  exact sk_body (env0 := [.dat stream', .dat position']) rfl rfl (s_drop (sk_yFn (sk_cCons (sk_upv rfl (sk_cCons (sk_upv rfl (sk_cNil (sk_callD rfl sim_check_position fun t1 => (s_ret (sk_yV (sk_up (lo_of (lo_op (lo_s (lo_of (lo_call (lo_cons (lo_s (lo_of (lo_fn (lo_cons (lo_v rfl (lo_cons (lo_v rfl (lo_nil (lo_st (LeF.toL sim_followed))))))))) fun t2 => (lo_nil (lo_bt)))))) fun t3 => (lo_v rfl (lo_bt))))) fun t4 => (s_rtF rfl))))))))))))

/-! #### _law_right -/
abbrev N__law_right : List Str := ["_law_stream_here", "_law_letters", "_law_sources", "_law_position", "_law_way_here", "_law_told", "_law_due"]
theorem sc__law_right : FnScope N__law_right ["_law_stream_here"] (defScope s__law_right) := ⟨rfl, rfl, rfl, by decide +kernel, rfl, by decide +kernel, by decide +kernel⟩
def b__law_right_1 : Env → Fl :=
  sSeq (sRet (yV (up (xC (.bool false)))))
    (sNil)
def b__law_right_2 : Env → Fl :=
  sSeq (sSet 4 (yV (up (xFn F__law_way (aCons (xDat 2) (aCons (xDat 3) aNil))))))
    (sSeq (sSet 5 (yV (up (xL (oLst (aCons (xFn F_letter_at (aCons (xDat 0) (aCons (xDat 3) aNil))) (aCons (xFn F_source_of (aCons (xDat 0) (aCons (xDat 3) aNil))) (aCons (xFn F_origin_of (aCons (xDat 0) (aCons (xDat 3) aNil))) aNil))))))))
    (sSeq (sSet 6 (yV (up (xL (oLst (aCons (xOp dIx (xDat 1) (xDat 3)) (aCons (xOp dIx (xDat 2) (xDat 3)) (aCons (xOp dIx (xDat 4) (xNeg (xC (.int 1)))) (aCons (xOp dSub (xCall fLen (aCons (xDat 4) aNil)) (xC (.int 1))) aNil)))))))))
    (sSeq (sIf (up (tOf (xOp dNe (xCall fRepr (aCons (xOp dAdd (xDat 5) (xL (oLst (aCons (xFn F_steps_of (aCons (xDat 0) (aCons (xDat 3) aNil))) aNil)))) aNil)) (xCall fRepr (aCons (xDat 6) aNil))))) b__law_right_1 sNil)
    (sNil))))
def g__law_right : Env → Fl :=
  sSeq (sAsg (up (xFn F__law_unpacked (aCons (xDat 0) aNil))) (gTupD 2 (gsCons (gN 1) (gsCons (gN 2) gsNil))))
    (sSeq (sFor (iRange1 (yCons (up (xCall fLen (aCons (xDat 1) aNil))) yNil)) (gN 3) b__law_right_2)
    (sSeq (sRet (yV (up (xC (.bool true)))))
    (sNil)))
def F__law_right : List SV → Res SV := bodyF 1 7 g__law_right
theorem ok__law_right {S : Cxt} (T : Tx S.K S.mg) : Fx S 8 "_law_right" F__law_right := T.f__law_right.mk sc__law_right fun A W => by
  have nd := sc__law_right.nd
  exact jss_cons (js_asg (JP.toD (jp_call (ok__law_unpacked T) (leB rfl) rfl (jap_cons (pv 0 rfl) jap_nil))) (jg_tup (jgs_cons (gv 1 nd rfl (Or.inl rfl)) (jgs_cons (gv 2 nd rfl (Or.inl rfl)) jgs_nil))) (hw := by intro _ _; rfl))
    (jss_cons (js_for (ji_range1 rfl T.b_range (jda_cons (JP.toD (jp_len rfl T.b_len (jab_cons (JP.toB (pv 1 rfl)) jab_nil))) jda_nil)) (gv 3 nd rfl (Or.inl rfl)) (jss_cons (st_set 4 nd rfl rfl (JD.toE (JP.toD (jp_call (ok__law_way T) (leB rfl) rfl (jap_cons (pv 2 rfl) (jap_cons (pv 3 rfl) jap_nil))))))
    (jss_cons (st_set 5 nd rfl rfl (JD.toE (JP.toD (JO.toP (jo_lst (jap_cons (jp_call (ok_letter_at T) (leB rfl) rfl (jap_cons (pv 0 rfl) (jap_cons (pv 3 rfl) jap_nil))) (jap_cons (jp_call (ok_source_of T) (leB rfl) rfl (jap_cons (pv 0 rfl) (jap_cons (pv 3 rfl) jap_nil))) (jap_cons (jp_call (ok_origin_of T) (leB rfl) rfl (jap_cons (pv 0 rfl) (jap_cons (pv 3 rfl) jap_nil))) jap_nil))))))))
    (jss_cons (st_set 6 nd rfl rfl (JD.toE (JP.toD (JO.toP (jo_lst (jap_cons (jp_ix (JP.toB (pv 1 rfl)) (JP.toB (pv 3 rfl))) (jap_cons (jp_ix (JP.toB (pv 2 rfl)) (JP.toB (pv 3 rfl))) (jap_cons (jp_ix (JP.toB (pv 4 rfl)) (JP.toB (jp_neg (JP.toB (jp_int))))) (jap_cons (jp_sub (JP.toB (jp_len rfl T.b_len (jab_cons (JP.toB (pv 4 rfl)) jab_nil))) (JP.toB (jp_int))) jap_nil)))))))))
    (jss_cons (js_if (JTP.toT (jt_ne (JP.toB (jp_repr rfl T.b_repr (jab_cons (JP.toB (jp_add (JP.toB (pv 5 rfl)) (JP.toB (JO.toP (jo_lst (jap_cons (jp_call (ok_steps_of T) (leB rfl) rfl (jap_cons (pv 0 rfl) (jap_cons (pv 3 rfl) jap_nil))) jap_nil)))))) jab_nil))) (JP.toB (jp_repr rfl T.b_repr (jab_cons (JP.toB (pv 6 rfl)) jab_nil))))) (jss_cons (js_ret (JD.toE (JP.toD (jp_bl))))
    (jss_nil)) jss_nil)
    (jss_nil))))))
    (jss_cons (js_ret (JD.toE (JP.toD (jp_bl))))
    (jss_nil)))
def f__law_right (stream_here' : D) : Po (D) :=
((f__law_unpacked stream_here').toO).po fun t1 =>
pn2 t1 fun letters' sources' =>
(fLen [letters']).po fun t2 =>
(range1O t2).po fun t3 =>
(forS (ρ := (D)) (fun (position' : D) (_ : Unit) =>
((f__law_way sources' position').toL).po fun way_here' =>
((((f_letter_at stream_here' position').toO).bind fun t4 => ((f_source_of stream_here' position').toO).bind fun t5 => ((f_origin_of stream_here' position').toO).bind fun t6 => some [t4, t5, t6]).map .list).po fun told' =>
(((dIx letters' position').bind fun t9 => (dIx sources' position').bind fun t10 => ((dNeg (.int 1)).bind fun t7 => dIx way_here' t7).bind fun t11 => ((fLen [way_here']).bind fun t8 => dSub t8 (.int 1)).bind fun t12 => some [t9, t10, t11, t12]).map .list).po fun due' =>
((((((((f_steps_of stream_here' position').toO).bind fun t13 => some [t13]).map .list).bind fun t14 => dAdd told' t14).bind fun t15 => fRepr [t15]).bind fun t16 => (fRepr [due']).bind fun t17 => dNe t16 t17).bind fun t18 => toB t18).po fun t19 =>
if t19 then
.ok (.rt (.bool false))
else
.ok (.nx ())) t3 ()).thenS (fun (_ : Unit) =>
.ok (.bool true)) (fun v => .ok v)
theorem sim__law_right {stream_here' : D} : LeF TD (f__law_right stream_here') (F__law_right [.dat stream_here']) := by
  unfold f__law_right
  exact sk_body (env0 := [.dat stream_here', .un, .un, .un, .un, .un, .un]) rfl rfl (s_asg (sk_up (lo_of (lo_fn (lo_cons (lo_v rfl (lo_nil (lo_st (LeF.toO sim__law_unpacked))))))) fun t1 => (so_g2 rfl rfl (fun letters' sources' => (s_for (sk_iRange1 (sk_up (lo_of (lo_call (lo_cons (lo_v rfl (lo_nil (lo_bt)))))) fun t2 => (sk_o fun t3 => (s_forS (N := (fun (s : Unit) (e : Env) => ∃ j3 j4 j5 j6 : SV, e = [.dat stream_here', .dat letters', .dat sources', j3, j4, j5, j6])) ⟨_, _, _, _, rfl⟩ (fun position' s e hN => by (obtain ⟨j3, j4, j5, j6, rfl⟩ := hN); exact (so_gN rfl (s_set (sk_yV (sk_up (lo_of (lo_fn (lo_cons (lo_v rfl (lo_cons (lo_v rfl (lo_nil (lo_st (LeF.toL sim__law_way))))))))) fun way_here' => (s_put rfl (s_set (sk_yV (sk_up (lo_map (lo_of (lo_lst (al_cons (al_cons (al_cons al_nil))) rfl (lo_cons (lo_s (lo_of (lo_fn (lo_cons (lo_v rfl (lo_cons (lo_v rfl (lo_nil (lo_st (LeF.toO sim_letter_at))))))))) fun t4 => (lo_cons (lo_s (lo_of (lo_fn (lo_cons (lo_v rfl (lo_cons (lo_v rfl (lo_nil (lo_st (LeF.toO sim_source_of))))))))) fun t5 => (lo_cons (lo_s (lo_of (lo_fn (lo_cons (lo_v rfl (lo_cons (lo_v rfl (lo_nil (lo_st (LeF.toO sim_origin_of))))))))) fun t6 => (lo_nil .refl)))))))))) fun told' => (s_put rfl (s_set (sk_yV (sk_up (lo_map (lo_of (lo_lst (al_cons (al_cons (al_cons (al_cons al_nil)))) rfl (lo_cons (lo_s (lo_of (lo_op (lo_v rfl (lo_v rfl (lo_bt))))) fun t9 => (lo_cons (lo_s (lo_of (lo_op (lo_v rfl (lo_v rfl (lo_bt))))) fun t10 => (lo_cons (lo_s (lo_of (lo_op (lo_v rfl (lo_s (lo_of (lo_neg (lo_v rfl (lo_bt)))) fun t7 => (lo_bt))))) fun t11 => (lo_cons (lo_s (lo_of (lo_op (lo_s (lo_of (lo_call (lo_cons (lo_v rfl (lo_nil (lo_bt)))))) fun t8 => (lo_v rfl (lo_bt))))) fun t12 => (lo_nil .refl)))))))))))) fun due' => (s_put rfl (s_if (sk_up (lo_of (lo_tOf (lo_s (lo_of (lo_op (lo_s (lo_of (lo_call (lo_cons (lo_s (lo_of (lo_op (lo_v rfl (lo_s (lo_map (lo_of (lo_lst (al_cons al_nil) rfl (lo_cons (lo_s (lo_of (lo_fn (lo_cons (lo_v rfl (lo_cons (lo_v rfl (lo_nil (lo_st (LeF.toO sim_steps_of))))))))) fun t13 => (lo_nil .refl)))))) fun t14 => (lo_bt))))) fun t15 => (lo_nil (lo_bt)))))) fun t16 => (lo_s (lo_of (lo_call (lo_cons (lo_v rfl (lo_nil (lo_bt)))))) fun t17 => (lo_bt))))) fun t18 => (lo_bt)))) fun t19 => (sk_if (s_then (s_ret (sk_yV (sk_upv rfl (s_rtS rfl))))) (s_thenNil (s_nilS ⟨_, _, _, _, rfl⟩))))))))))))))))))) (fun s e hN => by (obtain ⟨j3, j4, j5, j6, rfl⟩ := hN); exact (s_ret (sk_yV (sk_upv rfl (s_rtF rfl))))) s_reF)))))))))

/-! #### _law_take -/
abbrev N__law_take : List Str := ["_law_pot_here", "_law_below", "_law_digit", "_law_blend"]
theorem sc__law_take : FnScope N__law_take ["_law_pot_here", "_law_below"] (defScope s__law_take) := ⟨rfl, rfl, rfl, by decide +kernel, rfl, by decide +kernel, by decide +kernel⟩
def g__law_take : Env → Fl :=
  sSeq (sIf (up (tOf (xOp ((dCmp fun i j => decide (j < i))) (xOp dIx (xBor 0) (xC (.int 0))) (xC (.int 0))))) (sSeq (sSet 2 (yV (up (xOp dMod (xOp dIx (xBor 0) (xC (.int 0))) (xDat 1)))))
    (sSeq (sSetIx 0 (up (xOp dDiv (xOp dIx (xBor 0) (xC (.int 0))) (xDat 1))) (xC (.int 0)))
    (sSeq (sRet (yV (up (xDat 2))))
    (sNil)))) sNil)
    (sSeq (sSetIx 0 (up (xOp dAdd (xOp dIx (xBor 0) (xC (.int 2))) (xC (.int 1)))) (xC (.int 2)))
    (sSeq (sSet 3 (yV (up (xOp dMod (xOp dMulX (xOp dAdd (xOp dAdd (xOp dIx (xBor 0) (xC (.int 1))) (xOp dMulX (xOp dMulX (xC (.int 20011)) (xOp dIx (xBor 0) (xC (.int 2)))) (xOp dIx (xBor 0) (xC (.int 2))))) (xC (.int 23))) (xC (.int 71011))) (xC (.int 2305843009213693921))))))
    (sSeq (sSet 3 (yV (up (xOp dMod (xOp dMulX (xDat 3) (xOp dAdd (xOp dAdd (xOp dMod (xDat 3) (xC (.int 1000081))) (xOp dMulX (xC (.int 50021)) (xOp dIx (xBor 0) (xC (.int 2))))) (xC (.int 9)))) (xC (.int 2305843009213693951))))))
    (sSeq (sRet (yV (up (xOp dMod (xOp dAdd (xOp dDiv (xDat 3) (xC (.int 107))) (xOp dDiv (xDat 3) (xC (.int 999983)))) (xDat 1)))))
    (sNil)))))
def F__law_take : List SV → Res SV := bodyF 2 4 g__law_take
theorem ok__law_take {S : Cxt} (T : Tx S.K S.mg) : Fx S 1 "_law_take" F__law_take := T.f__law_take.mk sc__law_take fun A W => by
  have nd := sc__law_take.nd
  exact jss_cons (js_if (JTP.toT (jt_gt (JP.toB (jp_ix (bv 0 rfl) (JP.toB (jp_int)))) (JP.toB (jp_int)))) (jss_cons (st_set 2 nd rfl rfl (JD.toE (JP.toD (jp_mod (JP.toB (jp_ix (bv 0 rfl) (JP.toB (jp_int)))) (JP.toB (pv 1 rfl))))))
    (jss_cons (st_setIx 0 rfl (JP.toD (jp_div (JP.toB (jp_ix (bv 0 rfl) (JP.toB (jp_int)))) (JP.toB (pv 1 rfl)))) (JP.toB (jp_int)))
    (jss_cons (js_ret (JD.toE (JP.toD (pv 2 rfl))))
    (jss_nil)))) jss_nil)
    (jss_cons (st_setIx 0 rfl (JP.toD (jp_add (JP.toB (jp_ix (bv 0 rfl) (JP.toB (jp_int)))) (JP.toB (jp_int)))) (JP.toB (jp_int)))
    (jss_cons (st_set 3 nd rfl rfl (JD.toE (JP.toD (jp_mod (JP.toB (jp_mulX (JP.toB (jp_add (JP.toB (jp_add (JP.toB (jp_ix (bv 0 rfl) (JP.toB (jp_int)))) (JP.toB (jp_mulX (JP.toB (jp_mulX (JP.toB (jp_int)) (JP.toB (jp_ix (bv 0 rfl) (JP.toB (jp_int)))))) (JP.toB (jp_ix (bv 0 rfl) (JP.toB (jp_int)))))))) (JP.toB (jp_int)))) (JP.toB (jp_int)))) (JP.toB (jp_int))))))
    (jss_cons (st_set 3 nd rfl rfl (JD.toE (JP.toD (jp_mod (JP.toB (jp_mulX (JP.toB (pv 3 rfl)) (JP.toB (jp_add (JP.toB (jp_add (JP.toB (jp_mod (JP.toB (pv 3 rfl)) (JP.toB (jp_int)))) (JP.toB (jp_mulX (JP.toB (jp_int)) (JP.toB (jp_ix (bv 0 rfl) (JP.toB (jp_int)))))))) (JP.toB (jp_int)))))) (JP.toB (jp_int))))))
    (jss_cons (js_ret (JD.toE (JP.toD (jp_mod (JP.toB (jp_add (JP.toB (jp_div (JP.toB (pv 3 rfl)) (JP.toB (jp_int)))) (JP.toB (jp_div (JP.toB (pv 3 rfl)) (JP.toB (jp_int)))))) (JP.toB (pv 1 rfl))))))
    (jss_nil)))))
theorem sim__law_take {pot_here' : List D} {below' : D} : LeF TDm (f__law_take pot_here' below') (F__law_take [.own (some 0) (.lst pot_here'), .dat below']) := by
  unfold f__law_take
  exact sk_body (env0 := [.own (some 0) (.lst pot_here'), .dat below', .un, .un]) rfl rfl (s_if (sk_up (lo_of (lo_tOf (lo_s (lo_of (lo_op (lo_s (lo_of (lo_op (lo_v rfl (lo_v rfl (lo_bt))))) fun t1 => (lo_v rfl (lo_bt))))) fun t2 => (lo_bt)))) fun t3 => (sk_if (s_then (s_set (sk_yV (sk_up (lo_of (lo_op (lo_s (lo_of (lo_op (lo_v rfl (lo_v rfl (lo_bt))))) fun t4 => (lo_v rfl (lo_bt))))) fun digit' => (s_put rfl (s_then (s_setIx (sk_up (lo_of (lo_op (lo_s (lo_of (lo_op (lo_v rfl (lo_v rfl (lo_bt))))) fun t5 => (lo_v rfl (lo_bt))))) fun t6 => (so_setIx rfl (LeO.eq rfl) fun pot_here1' => (s_then (s_ret (sk_yV (sk_upv rfl (s_rtF ⟨rfl, rfl⟩)))))))))))))) (s_thenNil (s_setIx (sk_up (lo_of (lo_op (lo_s (lo_of (lo_op (lo_v rfl (lo_v rfl (lo_bt))))) fun t7 => (lo_v rfl (lo_bt))))) fun t8 => (so_setIx rfl (LeO.eq rfl) fun pot_here2' => (s_set (sk_yV (sk_up (lo_of (lo_op (lo_s (lo_of (lo_op (lo_s (lo_of (lo_op (lo_s (lo_of (lo_op (lo_s (lo_of (lo_op (lo_v rfl (lo_v rfl (lo_bt))))) fun t9 => (lo_s (lo_of (lo_op (lo_s (lo_of (lo_op (lo_v rfl (lo_s (lo_of (lo_op (lo_v rfl (lo_v rfl (lo_bt))))) fun t10 => (lo_bt))))) fun t11 => (lo_s (lo_of (lo_op (lo_v rfl (lo_v rfl (lo_bt))))) fun t12 => (lo_bt))))) fun t13 => (lo_bt))))) fun t14 => (lo_v rfl (lo_bt))))) fun t15 => (lo_v rfl (lo_bt))))) fun t16 => (lo_v rfl (lo_bt))))) fun blend' => (s_put rfl (s_set (sk_yV (sk_up (lo_of (lo_op (lo_s (lo_of (lo_op (lo_v rfl (lo_s (lo_of (lo_op (lo_s (lo_of (lo_op (lo_s (lo_of (lo_op (lo_v rfl (lo_v rfl (lo_bt))))) fun t17 => (lo_s (lo_of (lo_op (lo_v rfl (lo_s (lo_of (lo_op (lo_v rfl (lo_v rfl (lo_bt))))) fun t18 => (lo_bt))))) fun t19 => (lo_bt))))) fun t20 => (lo_v rfl (lo_bt))))) fun t21 => (lo_bt))))) fun t22 => (lo_v rfl (lo_bt))))) fun blend1' => (s_put rfl (s_ret (sk_yV (sk_up (lo_of (lo_op (lo_s (lo_of (lo_op (lo_s (lo_of (lo_op (lo_v rfl (lo_v rfl (lo_bt))))) fun t23 => (lo_s (lo_of (lo_op (lo_v rfl (lo_v rfl (lo_bt))))) fun t24 => (lo_bt))))) fun t25 => (lo_v rfl (lo_bt))))) fun t26 => (s_rtF ⟨rfl, rfl⟩)))))))))))))))))))

/-! #### _law_of -/
abbrev N__law_of : List Str := ["_law_pot_here", "_law_some"]
theorem sc__law_of : FnScope N__law_of ["_law_pot_here", "_law_some"] (defScope s__law_of) := ⟨rfl, rfl, rfl, by decide +kernel, rfl, by decide +kernel, by decide +kernel⟩
def g__law_of : Env → Fl :=
  sSeq (sRet (yV (yOp dIx (up (xDat 1)) (yD (yFn F__law_take (cSlot 0 (cCons (up (xCall fLen (aCons (xDat 1) aNil))) cNil)))))))
    (sNil)
def F__law_of : List SV → Res SV := bodyF 2 2 g__law_of
theorem ok__law_of {S : Cxt} (T : Tx S.K S.mg) : Fx S 2 "_law_of" F__law_of := T.f__law_of.mk sc__law_of fun A W => by
  have nd := sc__law_of.nd
  exact jss_cons (js_ret (JD.toE (jd_ix (JP.toD (pv 1 rfl)) (JE.toD (je_call (ok__law_take T) (leB rfl) rfl (slv 0 rfl (jca_d (JP.toD (jp_len rfl T.b_len (jab_cons (JP.toB (pv 1 rfl)) jab_nil))) jca_nil)))))))
    (jss_nil)
theorem sim__law_of {pot_here' : List D} {some_' : D} : LeF TDm (f__law_of pot_here' some_') (F__law_of [.own (some 0) (.lst pot_here'), .dat some_']) := by
  unfold f__law_of
  exact sk_body (env0 := [.own (some 0) (.lst pot_here'), .dat some_']) rfl rfl (s_ret (sk_yV (sk_yOp (sk_upv rfl (sk_yD (sk_yFn (sk_cSlotO rfl (sk_cCons (sk_up (lo_of (lo_call (lo_cons (lo_v rfl (lo_nil (lo_bt)))))) fun t1 => (sk_cNil (sk_callDm rfl rfl sim__law_take fun t2 pot_here1' => (sk_ov rfl (sk_o fun t3 => (s_rtF ⟨rfl, rfl⟩))))))))))))))

/-! #### _law_word -/
abbrev N__law_word : List Str := ["_law_pot_here", "_law_most", "_law_letters", "_law_turn"]
theorem sc__law_word : FnScope N__law_word ["_law_pot_here", "_law_most"] (defScope s__law_word) := ⟨rfl, rfl, rfl, by decide +kernel, rfl, by decide +kernel, by decide +kernel⟩
def g__law_word : Env → Fl :=
  sSeq (sSet 2 (yV (yD (yFn F__law_of (cSlot 0 (cCons (up (xL (oLst (aCons (xC (.str "ab")) (aCons (xC (.str "ab")) (aCons (xC (.str "abc")) (aCons (xC (.str "xyz")) (aCons (xC (.str "abcdefghijklmnopqrstuvwxyz")) aNil)))))))) cNil))))))
    (sSeq (sRet (yV (yMt fJoin (up (xC (.str ""))) (yD (yComp ([3]) (iRange1 (yCons (yOp dAdd (up (xC (.int 1))) (yD (yFn F__law_take (cSlot 0 (cCons (up (xDat 1)) cNil))))) yNil)) (gN 3) uYes (yD (yFn F__law_of (cSlot 0 (cCons (up (xDat 2)) cNil)))))))))
    (sNil))
def F__law_word : List SV → Res SV := bodyF 2 4 g__law_word
theorem ok__law_word {S : Cxt} (T : Tx S.K S.mg) : Fx S 3 "_law_word" F__law_word := T.f__law_word.mk sc__law_word fun A W => by
  have nd := sc__law_word.nd
  exact jss_cons (st_set 2 nd rfl rfl (JD.toE (JE.toD (je_call (ok__law_of T) (leB rfl) rfl (slv 0 rfl (jca_d (JP.toD (JO.toP (jo_lst (jap_cons jp_str (jap_cons jp_str (jap_cons jp_str (jap_cons jp_str (jap_cons jp_str jap_nil)))))))) jca_nil))))))
    (jss_cons (js_ret (JD.toE (jd_join (JP.toD (jp_str)) (JE.toD (je_comp nd (own := [("_law_turn", 3)]) (ji_range1 rfl T.b_range (jda_cons (jd_add (JP.toD (jp_int)) (JE.toD (je_call (ok__law_take T) (leB rfl) rfl (slv 0 rfl (jca_d (JP.toD (pv 1 rfl)) jca_nil))))) jda_nil)) rfl (gv 3 nd rfl (Or.inr rfl)) jts_nil (JE.toD (je_call (ok__law_of T) (leB rfl) rfl (slv 0 rfl (jca_d (JP.toD (pv 2 rfl)) jca_nil)))) (by decide))) rfl)))
    (jss_nil))
theorem sim__law_word {pot_here' : List D} {most' : D} : LeF TDm (f__law_word pot_here' most') (F__law_word [.own (some 0) (.lst pot_here'), .dat most']) := by
  unfold f__law_word
  exact sk_body (env0 := [.own (some 0) (.lst pot_here'), .dat most', .un, .un]) rfl rfl (s_set (sk_yV (sk_yD (sk_yFn (sk_cSlotO rfl (sk_cCons (sk_upv (xl_v (olst_v rfl rfl)) (sk_cNil (sk_callDm rfl rfl sim__law_of fun letters' pot_here1' => (sk_ov rfl (s_put rfl (s_ret (sk_yV (sk_yMt rfl (sk_yD (sk_yComp (sk_iRange1 (sk_yOp (sk_upv rfl (sk_yD (sk_yFn (sk_cSlotO rfl (sk_cCons (sk_upv rfl (sk_cNil (sk_callDm rfl rfl sim__law_take fun t1 pot_here2' => (sk_ov rfl (sk_o fun t2 => (sk_o fun t3 => (sk_compK (N := (fun (s : List D) (e : Env) => e = [.own (some 0) (.lst s), .dat most', .dat letters', .un])) rfl (fun turn' pot_here3' e hN => by (subst hN); exact (so_gN rfl (sk_yD (sk_yFn (sk_cSlotO rfl (sk_cCons (sk_upv rfl (sk_cNil (sk_callDm rfl rfl sim__law_of fun t4 pot_here4' => (sk_ov rfl (s_rtC rfl))))))))))) (fun t5 pot_here5' e hN => by (subst hN); exact (sk_ov rfl (sk_o fun t6 => (s_rtF ⟨rfl, rfl⟩))))))))))))))))))))))))))))))))))

/-! #### _law_stream -/
abbrev N__law_stream : List Str := ["_law_pot_here", "_law_most", "_law_longest", "_law_room", "_law_found", "_law_reached", "_law_turn", "_law_command", "_law_distance", "_law_some", "_law_many"]
theorem sc__law_stream : FnScope N__law_stream ["_law_pot_here", "_law_most", "_law_longest", "_law_room"] (defScope s__law_stream) := ⟨rfl, rfl, rfl, by decide +kernel, rfl, by decide +kernel, by decide +kernel⟩
def b__law_stream_1 : Env → Fl :=
  sSeq (sSet 8 (yV (yD (yFn F__law_of (cSlot 0 (cCons (up (xL (oLst (aCons (xC (.int 1)) (aCons (xDat 5) (aCons (xCall fMin (aCons (xC (.int 2)) (aCons (xDat 5) aNil))) aNil)))))) cNil))))))
    (sNil)
def b__law_stream_2 : Env → Fl :=
  sSeq (sSet 8 (yV (yOp dAdd (up (xC (.int 1))) (yD (yFn F__law_take (cSlot 0 (cCons (up (xDat 5)) cNil)))))))
    (sSeq (sIf (tB dEq (yD (yFn F__law_take (cSlot 0 (cCons (up (xC (.int 3))) cNil)))) (up (xC (.int 0)))) b__law_stream_1 sNil)
    (sSeq (sSet 9 (yV (yD (yLst (yCons (up (xDat 8)) (yCons (up (xOp dMulX (xC (.int 2)) (xDat 8))) (yCons (yOp dAdd (up (xC (.int 1))) (yD (yFn F__law_take (cSlot 0 (cCons (up (xDat 2)) cNil))))) (yCons (yOp dAdd (up (xC (.int 1))) (yD (yFn F__law_take (cSlot 0 (cCons (up (xDat 2)) cNil))))) yNil))))))))
    (sSeq (sSet 7 (yV (yTup (yCons (up (xC (.str "copy"))) (yCons (up (xDat 8)) (yCons (yCall fMin (yCons (yD (yFn F__law_of (cSlot 0 (cCons (up (xDat 9)) cNil)))) (yCons (up (xDat 2)) yNil))) yNil))))))
    (sNil))))
def b__law_stream_3 : Env → Fl :=
  sSeq (sAppend 4 (up (xDat 7)))
    (sSeq (sSet 5 (yV (up (xOp dAdd (xDat 5) (xDat 10)))))
    (sNil))
def b__law_stream_4 : Env → Fl :=
  sSeq (sSet 7 (yV (yTup (yCons (up (xC (.str "literal"))) (yCons (yD (yFn F__law_word (cSlot 0 (cCons (up (xC (.int 4))) cNil)))) yNil)))))
    (sSeq (sIf (yAnd (up (tOf (xOp ((dCmp fun i j => decide (j < i))) (xDat 5) (xC (.int 0))))) (tB ((dCmp fun i j => decide (j < i))) (yD (yFn F__law_take (cSlot 0 (cCons (up (xC (.int 4))) cNil)))) (up (xC (.int 0))))) b__law_stream_2 sNil)
    (sSeq (sSet 10 (yV (up (xIf (tOf (xOp dEq (xOp dIx (xDat 7) (xC (.int 0))) (xC (.str "literal")))) (xCall fLen (aCons (xOp dIx (xDat 7) (xC (.int 1))) aNil)) (xOp dIx (xDat 7) (xC (.int 2)))))))
    (sSeq (sIf (up (tOf (xOp ((dCmp fun i j => decide (i ≤ j))) (xOp dAdd (xDat 5) (xDat 10)) (xDat 3)))) b__law_stream_3 sNil)
    (sNil))))
def g__law_stream : Env → Fl :=
  sSeq (sPar 4 5 (upO (oLst aNil)) (yV (up (xC (.int 0)))))
    (sSeq (sFor (iRange1 (yCons (yD (yFn F__law_take (cSlot 0 (cCons (up (xOp dAdd (xDat 1) (xC (.int 1)))) cNil)))) yNil)) (gN 6) b__law_stream_4)
    (sSeq (sRet (yV (up (xCall fTuple (aCons (xBor 4) aNil)))))
    (sNil)))
def F__law_stream : List SV → Res SV := bodyF 4 11 g__law_stream
theorem ok__law_stream {S : Cxt} (T : Tx S.K S.mg) : Fx S 4 "_law_stream" F__law_stream := T.f__law_stream.mk sc__law_stream fun A W => by
  have nd := sc__law_stream.nd
  exact jss_cons (js_par 4 5 nd rfl rfl (by decide) rfl rfl (JO.toE (jo_lst jap_nil)) (JD.toE (JP.toD (jp_int))) (by intro env h; cases env; subst h; rfl))
    (jss_cons (js_for (ji_range1 rfl T.b_range (jda_cons (JE.toD (je_call (ok__law_take T) (leB rfl) rfl (slv 0 rfl (jca_d (JP.toD (jp_add (JP.toB (pv 1 rfl)) (JP.toB (jp_int)))) jca_nil)))) jda_nil)) (gv 6 nd rfl (Or.inl rfl)) (jss_cons (st_set 7 nd rfl rfl (JD.toE (jd_tup (jda_cons (JP.toD (jp_str)) (jda_cons (JE.toD (je_call (ok__law_word T) (leB rfl) rfl (slv 0 rfl (jca_d (JP.toD (jp_int)) jca_nil)))) jda_nil)))))
    (jss_cons (js_if (JW.toT (jw_and' (JTP.toT (jt_gt (JP.toB (pv 5 rfl)) (JP.toB (jp_int)))) (jw_and1' (je_gt (JE.toD (je_call (ok__law_take T) (leB rfl) rfl (slv 0 rfl (jca_d (JP.toD (jp_int)) jca_nil)))) (JP.toD (jp_int)))))) (jss_cons (st_set 8 nd rfl rfl (JD.toE (jd_add (JP.toD (jp_int)) (JE.toD (je_call (ok__law_take T) (leB rfl) rfl (slv 0 rfl (jca_d (JP.toD (pv 5 rfl)) jca_nil)))))))
    (jss_cons (js_if (je_eq (JE.toD (je_call (ok__law_take T) (leB rfl) rfl (slv 0 rfl (jca_d (JP.toD (jp_int)) jca_nil)))) (JP.toD (jp_int))) (jss_cons (st_set 8 nd rfl rfl (JD.toE (JE.toD (je_call (ok__law_of T) (leB rfl) rfl (slv 0 rfl (jca_d (JP.toD (JO.toP (jo_lst (jap_cons jp_int (jap_cons (pv 5 rfl) (jap_cons (jp_min2 rfl T.b_min (jab_cons (JP.toB (jp_int)) (jab_cons (JP.toB (pv 5 rfl)) jab_nil))) jap_nil)))))) jca_nil))))))
    (jss_nil)) jss_nil)
    (jss_cons (st_set 9 nd rfl rfl (JD.toE (JE.toD (je_lst (jda_cons (JP.toD (pv 8 rfl)) (jda_cons (JP.toD (jp_mulX (JP.toB (jp_int)) (JP.toB (pv 8 rfl)))) (jda_cons (jd_add (JP.toD (jp_int)) (JE.toD (je_call (ok__law_take T) (leB rfl) rfl (slv 0 rfl (jca_d (JP.toD (pv 2 rfl)) jca_nil))))) (jda_cons (jd_add (JP.toD (jp_int)) (JE.toD (je_call (ok__law_take T) (leB rfl) rfl (slv 0 rfl (jca_d (JP.toD (pv 2 rfl)) jca_nil))))) jda_nil))))))))
    (jss_cons (st_set 7 nd rfl rfl (JD.toE (jd_tup (jda_cons (JP.toD (jp_str)) (jda_cons (JP.toD (pv 8 rfl)) (jda_cons (jd_min2 rfl T.b_min (jda_cons (JE.toD (je_call (ok__law_of T) (leB rfl) rfl (slv 0 rfl (jca_d (JP.toD (pv 9 rfl)) jca_nil)))) (jda_cons (JP.toD (pv 2 rfl)) jda_nil))) jda_nil))))))
    (jss_nil))))) jss_nil)
    (jss_cons (st_set 10 nd rfl rfl (JD.toE (JP.toD (jp_if (jt_eq (JP.toB (jp_ix (JP.toB (pv 7 rfl)) (JP.toB (jp_int)))) (JP.toB (jp_str))) (jp_len rfl T.b_len (jab_cons (JP.toB (jp_ix (JP.toB (pv 7 rfl)) (JP.toB (jp_int)))) jab_nil)) (jp_ix (JP.toB (pv 7 rfl)) (JP.toB (jp_int)))))))
    (jss_cons (js_if (JTP.toT (jt_le (JP.toB (jp_add (JP.toB (pv 5 rfl)) (JP.toB (pv 10 rfl)))) (JP.toB (pv 3 rfl)))) (jss_cons (js_append 4 rfl (vis_of rfl) rfl rfl (JP.toD (pv 7 rfl)) rfl)
    (jss_cons (st_set 5 nd rfl rfl (JD.toE (JP.toD (jp_add (JP.toB (pv 5 rfl)) (JP.toB (pv 10 rfl))))))
    (jss_nil))) jss_nil)
    (jss_nil))))))
    (jss_cons (js_ret (JD.toE (JP.toD (jp_tuple rfl T.b_tuple (jab_cons (bv 4 rfl) jab_nil)))))
    (jss_nil)))
theorem sim__law_stream {pot_here' : List D} {most' : D} {longest' : D} {room' : D} : LeF TDm (f__law_stream pot_here' most' longest' room') (F__law_stream [.own (some 0) (.lst pot_here'), .dat most', .dat longest', .dat room']) := by
  unfold f__law_stream
  exact sk_body (env0 := [.own (some 0) (.lst pot_here'), .dat most', .dat longest', .dat room', .un, .un, .un, .un, .un, .un, .un]) rfl rfl (s_par (sk_upOv (olst_v rfl rfl) (sk_yV (sk_upv rfl (s_put2 rfl rfl (s_for (sk_iRange1 (sk_yD (sk_yFn (sk_cSlotO rfl (sk_cCons (sk_up (lo_of (lo_op (lo_v rfl (lo_v rfl (lo_bt))))) fun t1 => (sk_cNil (sk_callDm rfl rfl sim__law_take fun t2 pot_here1' => (sk_ov rfl (sk_o fun t3 => (s_forN (N := (fun (s : List D × List D × D) (e : Env) => ∃ j6 j7 j8 j9 j10 : SV, e = [.own (some 0) (.lst s.1), .dat most', .dat longest', .dat room', .own none (.lst s.2.1), .dat s.2.2, j6, j7, j8, j9, j10])) ⟨_, _, _, _, _, rfl⟩ (fun turn' s e hN => by (obtain ⟨j6, j7, j8, j9, j10, rfl⟩ := hN; obtain ⟨pot_here2', found', reached'⟩ := s); exact (so_gN rfl (s_set (sk_yV (sk_yTup (yl_cons (yl_cons yl_nil)) rfl (sk_yCons (sk_upv rfl (sk_yCons (sk_yD (sk_yFn (sk_cSlotO rfl (sk_cCons (sk_upv rfl (sk_cNil (sk_callDm rfl rfl sim__law_word fun t4 pot_here3' => (sk_ov rfl (sk_yNil (s_put rfl (s_blk (N := (fun (s : List D × D) (e : Env) => ∃ j8 j9 j10 : SV, e = [.own (some 0) (.lst s.1), .dat most', .dat longest', .dat room', .own none (.lst found'), .dat reached', .dat turn', .dat s.2, j8, j9, j10])) (s_if1 (sk_test (N := (fun (s : List D) (e : Env) => ∃ j8 j9 j10 : SV, e = [.own (some 0) (.lst s), .dat most', .dat longest', .dat room', .own none (.lst found'), .dat reached', .dat turn', .dat (.tuple [(.str "literal"), t4]), j8, j9, j10])) (sk_yAnd (sk_up (lo_of (lo_tOf (lo_s (lo_of (lo_op (lo_v rfl (lo_v rfl (lo_bt))))) fun t5 => (lo_bt)))) fun t6 => (sk_if (sk_yB (sk_yOp (sk_yD (sk_yFn (sk_cSlotO rfl (sk_cCons (sk_upv rfl (sk_cNil (sk_callDm rfl rfl sim__law_take fun t7 pot_here4' => (sk_ov rfl (sk_upv rfl (sk_o fun t8 => (sk_o fun t9 => (s_rtT ⟨_, _, _, rfl⟩)))))))))))))) (s_rtT ⟨_, _, _, rfl⟩)))) (fun c1 pot_here5' e hN => by (obtain ⟨j8, j9, j10, rfl⟩ := hN); exact (sk_if (s_set (sk_yV (sk_yOp (sk_upv rfl (sk_yD (sk_yFn (sk_cSlotO rfl (sk_cCons (sk_upv rfl (sk_cNil (sk_callDm rfl rfl sim__law_take fun t10 pot_here6' => (sk_ov rfl (sk_o fun distance' => (s_put rfl (s_blk (N := (fun (s : List D × D) (e : Env) => ∃ j9 j10 : SV, e = [.own (some 0) (.lst s.1), .dat most', .dat longest', .dat room', .own none (.lst found'), .dat reached', .dat turn', .dat (.tuple [(.str "literal"), t4]), .dat s.2, j9, j10])) (s_if1 (sk_yB (sk_yOp (sk_yD (sk_yFn (sk_cSlotO rfl (sk_cCons (sk_upv rfl (sk_cNil (sk_callDm rfl rfl sim__law_take fun t11 pot_here7' => (sk_ov rfl (sk_upv rfl (sk_o fun t12 => (sk_o fun t13 => (sk_if (s_set (sk_yV (sk_yD (sk_yFn (sk_cSlotO rfl (sk_cCons (sk_up (lo_map (lo_of (lo_lst (al_cons (al_cons (al_cons al_nil))) rfl (lo_cons (lo_v rfl (lo_cons (lo_v rfl (lo_cons (lo_s (lo_of (lo_call (lo_cons (lo_v rfl (lo_cons (lo_v rfl (lo_nil (lo_bt)))))))) fun t14 => (lo_nil .refl)))))))))) fun t15 => (sk_cNil (sk_callDm rfl rfl sim__law_of fun distance1' pot_here8' => (sk_ov rfl (s_put rfl (s_nilN ⟨_, _, rfl⟩)))))))))))) (s_nilN ⟨_, _, rfl⟩)))))))))))))))) (fun s e hN => by (obtain ⟨j9, j10, rfl⟩ := hN; obtain ⟨pot_here9', distance2'⟩ := s); exact (s_set (sk_yV (sk_yD (sk_yLst (yl_cons (yl_cons (yl_cons (yl_cons yl_nil)))) rfl (sk_yCons (sk_upv rfl (sk_yCons (sk_up (lo_of (lo_op (lo_v rfl (lo_v rfl (lo_bt))))) fun t16 => (sk_yCons (sk_yOp (sk_upv rfl (sk_yD (sk_yFn (sk_cSlotO rfl (sk_cCons (sk_upv rfl (sk_cNil (sk_callDm rfl rfl sim__law_take fun t17 pot_here10' => (sk_ov rfl (sk_o fun t18 => (sk_yCons (sk_yOp (sk_upv rfl (sk_yD (sk_yFn (sk_cSlotO rfl (sk_cCons (sk_upv rfl (sk_cNil (sk_callDm rfl rfl sim__law_take fun t19 pot_here11' => (sk_ov rfl (sk_o fun t20 => (sk_yNil (sk_ov rfl (s_put rfl (s_set (sk_yV (sk_yTup (yl_cons (yl_cons (yl_cons yl_nil))) rfl (sk_yCons (sk_upv rfl (sk_yCons (sk_upv rfl (sk_yCons (sk_yCall (sk_yCons (sk_yD (sk_yFn (sk_cSlotO rfl (sk_cCons (sk_upv rfl (sk_cNil (sk_callDm rfl rfl sim__law_of fun t21 pot_here12' => (sk_ov rfl (sk_yCons (sk_upv rfl (sk_yNil (sk_o fun t22 => (sk_yNil (s_put rfl (s_nilN ⟨_, _, _, rfl⟩)))))))))))))))))))))))))))))))))))))))))))))))))))))))))))))))))))))))))))) (s_nilN ⟨_, _, _, rfl⟩))))) (fun s e hN => by (obtain ⟨j8, j9, j10, rfl⟩ := hN; obtain ⟨pot_here13', command'⟩ := s); exact (s_set (sk_yV (sk_up (lo_ifT (lo_of (lo_tOf (lo_s (lo_of (lo_op (lo_s (lo_of (lo_op (lo_v rfl (lo_v rfl (lo_bt))))) fun t23 => (lo_v rfl (lo_bt))))) fun t24 => (lo_bt)))) (lo_of (lo_call (lo_cons (lo_s (lo_of (lo_op (lo_v rfl (lo_v rfl (lo_bt))))) fun t25 => (lo_nil (lo_bt)))))) (lo_of (lo_op (lo_v rfl (lo_v rfl (lo_bt)))))) fun many' => (s_put rfl (s_if (sk_up (lo_of (lo_tOf (lo_s (lo_of (lo_op (lo_s (lo_of (lo_op (lo_v rfl (lo_v rfl (lo_bt))))) fun t26 => (lo_v rfl (lo_bt))))) fun t27 => (lo_bt)))) fun t28 => (sk_if (s_then (s_app rfl (sk_upv rfl (so_app rfl fun found1' => (s_then (s_set (sk_yV (sk_up (lo_of (lo_op (lo_v rfl (lo_v rfl (lo_bt))))) fun reached1' => (s_put rfl (s_thenNil (s_nilN ⟨_, _, _, _, _, rfl⟩))))))))))) (s_thenNil (s_nilN ⟨_, _, _, _, _, rfl⟩))))))))))))))))))))))))))))) (fun s e hN => by (obtain ⟨j6, j7, j8, j9, j10, rfl⟩ := hN; obtain ⟨pot_here14', found2', reached2'⟩ := s); exact (s_ret (sk_yV (sk_up (lo_of (lo_call (lo_cons (lo_v rfl (lo_nil (lo_bt)))))) fun t29 => (s_rtF ⟨rfl, rfl⟩))))))))))))))))))))))

/-! #### law -/
abbrev N_law : List Str := ["_law_script", "_law_k", "_law_pot_here", "_law_turn"]
theorem sc_law : FnScope N_law ["_law_script"] (defScope s_law) := ⟨rfl, rfl, rfl, by decide +kernel, rfl, by decide +kernel, by decide +kernel⟩
def b_law_1 : Env → Fl :=
  sSeq (sRet (yV (up (xC (.bool false)))))
    (sNil)
def b_law_2 : Env → Fl :=
  sSeq (sSet 2 (yFn F__law_pot (cSlot 0 (cCons (up (xDat 1)) cNil))))
    (sSeq (sIf (yNot (yB (yCall fAll (yCons (yD (yComp ([3]) (iRange1 (yCons (up (xC (.int 4))) yNil)) (gN 3) uYes (yD (yFn F__law_right (cCons (yD (yFn F__law_stream (cSlot 2 (cCons (up (xC (.int 10))) (cCons (up (xC (.int 60))) (cCons (up (xC (.int 200))) cNil)))))) cNil))))) yNil)))) b_law_1 sNil)
    (sNil))
def g_law : Env → Fl :=
  sSeq (sFor (iRange1 (yCons (up (xCall fMax (aCons (xC (.int 1)) (aCons (xCall fMin (aCons (xC (.int 3)) (aCons (xLenF 0) aNil))) aNil)))) yNil)) (gN 1) b_law_2)
    (sSeq (sRet (yV (up (xC (.bool true)))))
    (sNil))
def F_law : List SV → Res SV := bodyF 1 4 g_law
theorem body_law {P : Program} {w : World} {K : Fg} {mg : Str → Option Value} {base : Heap} (T : Tx K mg) (A : Act) (W : Wish) : JSs ⟨P, w, K, mg, base, N_law, defScope s_law, 8, A, W, false⟩ (defBody s_law) g_law := by
  have nd := sc_law.nd
  exact jss_cons (js_for (ji_range1 rfl T.b_range (jda_cons (JP.toD (jp_max2 rfl T.b_max (jab_cons (JP.toB (jp_int)) (jab_cons (JP.toB (jp_min2 rfl T.b_min (jab_cons (JP.toB (jp_int)) (jab_cons (JP.toB (lenFv 0 rfl rfl T.b_len)) jab_nil)))) jab_nil)))) jda_nil)) (gv 1 nd rfl (Or.inl rfl)) (jss_cons (st_set 2 nd rfl rfl (je_call (ok__law_pot T) (leB rfl) rfl (slv 0 rfl (jca_d (JP.toD (pv 1 rfl)) jca_nil))))
    (jss_cons (js_if (jt_not (jt_val (jd_all rfl T.b_all (jda_cons (JE.toD (je_comp nd (own := [("_law_turn", 3)]) (ji_range1 rfl T.b_range (jda_cons (JP.toD (jp_int)) jda_nil)) rfl (gv 3 nd rfl (Or.inr rfl)) jts_nil (JE.toD (je_call (ok__law_right T) (leB rfl) rfl (jca_d (JE.toD (je_call (ok__law_stream T) (leB rfl) rfl (slv 2 rfl (jca_d (JP.toD (jp_int)) (jca_d (JP.toD (jp_int)) (jca_d (JP.toD (jp_int)) jca_nil)))))) jca_nil))) (by decide))) jda_nil)))) (jss_cons (js_ret (JD.toE (JP.toD (jp_bl))))
    (jss_nil)) jss_nil)
    (jss_nil))))
    (jss_cons (js_ret (JD.toE (JP.toD (jp_bl))))
    (jss_nil))
def f_law (script' : List D) : Po (D) :=
((fMin [(.int 3), (.int (script'.length : Int))]).bind fun t1 => fMax [(.int 1), t1]).po fun t2 =>
(range1O t2).po fun t3 =>
(forS (ρ := (D)) (fun (k_' : D) (_ : Unit) =>
(f__law_pot script' k_').bind fun pot_here' =>
(range1O (.int 4)).po fun t4 =>
(compMS (fun (turn' : D) (pot_here1' : List D) =>
(f__law_stream pot_here1' (.int 10) (.int 60) (.int 200)).bindS fun (t5, pot_here2') =>
(f__law_right t5).bind fun t6 =>
.ok (some t6, pot_here2')) t4 pot_here').bindS fun (t7, pot_here3') =>
(fAll [(.list t7)]).po fun t8 =>
(toB t8).po fun t9 =>
if (!t9) then
.ok (.rt (.bool false))
else
.ok (.nx ())) t3 ()).thenS (fun (_ : Unit) =>
.ok (.bool true)) (fun v => .ok v)
theorem sim_law {script' : List D} : LeF TD (f_law script') (F_law [.frz script']) := by
  unfold f_law
  exact sk_body (env0 := [.frz script', .un, .un, .un]) rfl rfl (s_for (sk_iRange1 (sk_up (lo_of (lo_call (lo_cons (lo_v rfl (lo_cons (lo_s (lo_of (lo_call (lo_cons (lo_v rfl (lo_cons (lo_v rfl (lo_nil (lo_bt)))))))) fun t1 => (lo_nil (lo_bt)))))))) fun t2 => (sk_o fun t3 => (s_forS (N := (fun (s : Unit) (e : Env) => ∃ j1 j2 j3 : SV, e = [.frz script', j1, j2, j3])) ⟨_, _, _, rfl⟩ (fun k_' s e hN => by (obtain ⟨j1, j2, j3, rfl⟩ := hN); exact (so_gN rfl (s_set (sk_yFn (sk_cSlotF rfl (sk_cCons (sk_upv rfl (sk_cNil (sk_callL rfl sim__law_pot fun pot_here' => (s_put rfl (s_if (sk_yNot (sk_yB (sk_yCall (sk_yCons (sk_yD (sk_yComp (sk_iRange1 (sk_upv rfl (sk_o fun t4 => (sk_compK (N := (fun (s : List D) (e : Env) => e = [.frz script', .dat k_', .own none (.lst s), .un])) rfl (fun turn' pot_here1' e hN => by (subst hN); exact (so_gN rfl (sk_yD (sk_yFn (sk_cCons (sk_yD (sk_yFn (sk_cSlotO rfl (sk_cCons (sk_upv rfl (sk_cCons (sk_upv rfl (sk_cCons (sk_upv rfl (sk_cNil (sk_callDm rfl rfl sim__law_stream fun t5 pot_here2' => (sk_ov rfl (sk_cNil (sk_callD rfl sim__law_right fun t6 => (sk_ov rfl (s_rtC rfl))))))))))))))))))))) (fun t7 pot_here3' e hN => by (subst hN); obtain ⟨jb, hjb⟩ := backR1 3 _ _; rw [hjb]; exact (sk_ov rfl (sk_yNil (sk_o fun t8 => (sk_o fun t9 => (sk_if (s_then (s_ret (sk_yV (sk_upv rfl (s_rtS rfl))))) (s_thenNil (s_nilS ⟨_, _, _, rfl⟩))))))))))))))))))))))))))))) (fun s e hN => by (obtain ⟨j1, j2, j3, rfl⟩ := hN); exact (s_ret (sk_yV (sk_upv rfl (s_rtF rfl))))) s_reF)))))

/-! #### what the top has written -/
theorem fin {P : Program} {w : World} {K : Fg} {h : Heap} {mg : Str → Option Value} {fa : Addr} (X : K.In h) (G : h.Ns mainGlobals mg) (hm : mg "law" = some (.ref fa))
    {od0 an0 : Option Addr} {sl0 : Array (Option Value)} {oc0 kV0 dc0 pm0 cd0 ct0 : Value} {f0 : Addr}
    {od1 an1 : Option Addr} {sl1 : Array (Option Value)} {oc1 kV1 dc1 pm1 cd1 ct1 : Value} {f1 : Addr}
    {od2 an2 : Option Addr} {sl2 : Array (Option Value)} {oc2 kV2 dc2 pm2 cd2 ct2 : Value} {f2 : Addr}
    {od3 an3 : Option Addr} {sl3 : Array (Option Value)} {oc3 kV3 dc3 pm3 cd3 ct3 : Value} {f3 : Addr}
    {od4 an4 : Option Addr} {sl4 : Array (Option Value)} {oc4 kV4 dc4 pm4 cd4 ct4 : Value} {f4 : Addr}
    {od5 an5 : Option Addr} {sl5 : Array (Option Value)} {oc5 kV5 dc5 pm5 cd5 ct5 : Value} {f5 : Addr}
    {od6 an6 : Option Addr} {sl6 : Array (Option Value)} {oc6 kV6 dc6 pm6 cd6 ct6 : Value} {f6 : Addr}
    {od7 an7 : Option Addr} {sl7 : Array (Option Value)} {oc7 kV7 dc7 pm7 cd7 ct7 : Value} {f7 : Addr}
    {od8 an8 : Option Addr} {sl8 : Array (Option Value)} {oc8 kV8 dc8 pm8 cd8 ct8 : Value} {f8 : Addr}
    {od9 an9 : Option Addr} {sl9 : Array (Option Value)} {oc9 kV9 dc9 pm9 cd9 ct9 : Value} {f9 : Addr}
    {od10 an10 : Option Addr} {sl10 : Array (Option Value)} {oc10 kV10 dc10 pm10 cd10 ct10 : Value} {f10 : Addr}
    {od11 an11 : Option Addr} {sl11 : Array (Option Value)} {oc11 kV11 dc11 pm11 cd11 ct11 : Value} {f11 : Addr}
    {od12 an12 : Option Addr} {sl12 : Array (Option Value)} {oc12 kV12 dc12 pm12 cd12 ct12 : Value} {f12 : Addr}
    {od13 an13 : Option Addr} {sl13 : Array (Option Value)} {oc13 kV13 dc13 pm13 cd13 ct13 : Value} {f13 : Addr}
    {od14 an14 : Option Addr} {sl14 : Array (Option Value)} {oc14 kV14 dc14 pm14 cd14 ct14 : Value} {f14 : Addr}
    {od15 an15 : Option Addr} {sl15 : Array (Option Value)} {oc15 kV15 dc15 pm15 cd15 ct15 : Value} {f15 : Addr}
    {od16 an16 : Option Addr} {sl16 : Array (Option Value)} {oc16 kV16 dc16 pm16 cd16 ct16 : Value} {f16 : Addr}
    {od17 an17 : Option Addr} {sl17 : Array (Option Value)} {oc17 kV17 dc17 pm17 cd17 ct17 : Value} {f17 : Addr}
    {od18 an18 : Option Addr} {sl18 : Array (Option Value)} {oc18 kV18 dc18 pm18 cd18 ct18 : Value} {f18 : Addr}
    {od19 an19 : Option Addr} {sl19 : Array (Option Value)} {oc19 kV19 dc19 pm19 cd19 ct19 : Value} {f19 : Addr}
    {od20 an20 : Option Addr} {sl20 : Array (Option Value)} {oc20 kV20 dc20 pm20 cd20 ct20 : Value} {f20 : Addr}
    {od21 an21 : Option Addr} {sl21 : Array (Option Value)} {oc21 kV21 dc21 pm21 cd21 ct21 : Value} {f21 : Addr}
    {od22 an22 : Option Addr} {sl22 : Array (Option Value)} {oc22 kV22 dc22 pm22 cd22 ct22 : Value} {f22 : Addr}
    {t_LITERAL : Tok}
    (a0 : PySem.W.nsIn K mainGlobals "_law_pot" = some (some (.ref f0))) (l0 : K.lookup f0 = some ⟨oc0, od0, .func (PySem.W.fnOf "_law_pot" "_law_pot" (defArgs s__law_pot) (defBody s__law_pot) (defScope s__law_pot) .none kV0 dc0 pm0 an0 cd0 ct0), sl0⟩) (c0 : PySem.W.codeIn K cd0 "_law_pot" = true) (k0 : PySem.W.keepIn K (.ref f0) = true)
    (a1 : PySem.W.nsIn K mainGlobals "_law_unpacked" = some (some (.ref f1))) (l1 : K.lookup f1 = some ⟨oc1, od1, .func (PySem.W.fnOf "_law_unpacked" "_law_unpacked" (defArgs s__law_unpacked) (defBody s__law_unpacked) (defScope s__law_unpacked) .none kV1 dc1 pm1 an1 cd1 ct1), sl1⟩) (c1 : PySem.W.codeIn K cd1 "_law_unpacked" = true) (k1 : PySem.W.keepIn K (.ref f1) = true)
    (a2 : PySem.W.nsIn K mainGlobals "_law_way" = some (some (.ref f2))) (l2 : K.lookup f2 = some ⟨oc2, od2, .func (PySem.W.fnOf "_law_way" "_law_way" (defArgs s__law_way) (defBody s__law_way) (defScope s__law_way) .none kV2 dc2 pm2 an2 cd2 ct2), sl2⟩) (c2 : PySem.W.codeIn K cd2 "_law_way" = true) (k2 : PySem.W.keepIn K (.ref f2) = true)
    (a3 : PySem.W.nsIn K mainGlobals "is_integer" = some (some (.ref f3))) (l3 : K.lookup f3 = some ⟨oc3, od3, .func (PySem.W.fnOf "is_integer" "is_integer" (defArgs s_is_integer) (defBody s_is_integer) (defScope s_is_integer) .none kV3 dc3 pm3 an3 cd3 ct3), sl3⟩) (c3 : PySem.W.codeIn K cd3 "is_integer" = true) (k3 : PySem.W.keepIn K (.ref f3) = true)
    (a4 : PySem.W.nsIn K mainGlobals "letters_of" = some (some (.ref f4))) (l4 : K.lookup f4 = some ⟨oc4, od4, .func (PySem.W.fnOf "letters_of" "letters_of" (defArgs s_letters_of) (defBody s_letters_of) (defScope s_letters_of) .none kV4 dc4 pm4 an4 cd4 ct4), sl4⟩) (c4 : PySem.W.codeIn K cd4 "letters_of" = true) (k4 : PySem.W.keepIn K (.ref f4) = true)
    (a5 : PySem.W.nsIn K mainGlobals "length_of" = some (some (.ref f5))) (l5 : K.lookup f5 = some ⟨oc5, od5, .func (PySem.W.fnOf "length_of" "length_of" (defArgs s_length_of) (defBody s_length_of) (defScope s_length_of) .none kV5 dc5 pm5 an5 cd5 ct5), sl5⟩) (c5 : PySem.W.codeIn K cd5 "length_of" = true) (k5 : PySem.W.keepIn K (.ref f5) = true)
    (a6 : PySem.W.nsIn K mainGlobals "check_position" = some (some (.ref f6))) (l6 : K.lookup f6 = some ⟨oc6, od6, .func (PySem.W.fnOf "check_position" "check_position" (defArgs s_check_position) (defBody s_check_position) (defScope s_check_position) .none kV6 dc6 pm6 an6 cd6 ct6), sl6⟩) (c6 : PySem.W.codeIn K cd6 "check_position" = true) (k6 : PySem.W.keepIn K (.ref f6) = true)
    (a7 : PySem.W.nsIn K mainGlobals "pieces" = some (some (.ref f7))) (l7 : K.lookup f7 = some ⟨oc7, od7, .func (PySem.W.fnOf "pieces" "pieces" (defArgs s_pieces) (defBody s_pieces) (defScope s_pieces) .none kV7 dc7 pm7 an7 cd7 ct7), sl7⟩) (c7 : PySem.W.codeIn K cd7 "pieces" = true) (k7 : PySem.W.keepIn K (.ref f7) = true)
    (a8 : PySem.W.nsIn K mainGlobals "piece_at" = some (some (.ref f8))) (l8 : K.lookup f8 = some ⟨oc8, od8, .func (PySem.W.fnOf "piece_at" "piece_at" (defArgs s_piece_at) (defBody s_piece_at) (defScope s_piece_at) .none kV8 dc8 pm8 an8 cd8 ct8), sl8⟩) (c8 : PySem.W.codeIn K cd8 "piece_at" = true) (k8 : PySem.W.keepIn K (.ref f8) = true)
    (a9 : PySem.W.nsIn K mainGlobals "is_literal" = some (some (.ref f9))) (l9 : K.lookup f9 = some ⟨oc9, od9, .func (PySem.W.fnOf "is_literal" "is_literal" (defArgs s_is_literal) (defBody s_is_literal) (defScope s_is_literal) .none kV9 dc9 pm9 an9 cd9 ct9), sl9⟩) (c9 : PySem.W.codeIn K cd9 "is_literal" = true) (k9 : PySem.W.keepIn K (.ref f9) = true)
    (a10 : PySem.W.nsIn K mainGlobals "source" = some (some (.ref f10))) (l10 : K.lookup f10 = some ⟨oc10, od10, .func (PySem.W.fnOf "source" "source" (defArgs s_source) (defBody s_source) (defScope s_source) .none kV10 dc10 pm10 an10 cd10 ct10), sl10⟩) (c10 : PySem.W.codeIn K cd10 "source" = true) (k10 : PySem.W.keepIn K (.ref f10) = true)
    (a11 : PySem.W.nsIn K mainGlobals "followed" = some (some (.ref f11))) (l11 : K.lookup f11 = some ⟨oc11, od11, .func (PySem.W.fnOf "followed" "followed" (defArgs s_followed) (defBody s_followed) (defScope s_followed) .none kV11 dc11 pm11 an11 cd11 ct11), sl11⟩) (c11 : PySem.W.codeIn K cd11 "followed" = true) (k11 : PySem.W.keepIn K (.ref f11) = true)
    (a12 : PySem.W.nsIn K mainGlobals "origin_letter" = some (some (.ref f12))) (l12 : K.lookup f12 = some ⟨oc12, od12, .func (PySem.W.fnOf "origin_letter" "origin_letter" (defArgs s_origin_letter) (defBody s_origin_letter) (defScope s_origin_letter) .none kV12 dc12 pm12 an12 cd12 ct12), sl12⟩) (c12 : PySem.W.codeIn K cd12 "origin_letter" = true) (k12 : PySem.W.keepIn K (.ref f12) = true)
    (a13 : PySem.W.nsIn K mainGlobals "letter_at" = some (some (.ref f13))) (l13 : K.lookup f13 = some ⟨oc13, od13, .func (PySem.W.fnOf "letter_at" "letter_at" (defArgs s_letter_at) (defBody s_letter_at) (defScope s_letter_at) .none kV13 dc13 pm13 an13 cd13 ct13), sl13⟩) (c13 : PySem.W.codeIn K cd13 "letter_at" = true) (k13 : PySem.W.keepIn K (.ref f13) = true)
    (a14 : PySem.W.nsIn K mainGlobals "source_of" = some (some (.ref f14))) (l14 : K.lookup f14 = some ⟨oc14, od14, .func (PySem.W.fnOf "source_of" "source_of" (defArgs s_source_of) (defBody s_source_of) (defScope s_source_of) .none kV14 dc14 pm14 an14 cd14 ct14), sl14⟩) (c14 : PySem.W.codeIn K cd14 "source_of" = true) (k14 : PySem.W.keepIn K (.ref f14) = true)
    (a15 : PySem.W.nsIn K mainGlobals "origin_of" = some (some (.ref f15))) (l15 : K.lookup f15 = some ⟨oc15, od15, .func (PySem.W.fnOf "origin_of" "origin_of" (defArgs s_origin_of) (defBody s_origin_of) (defScope s_origin_of) .none kV15 dc15 pm15 an15 cd15 ct15), sl15⟩) (c15 : PySem.W.codeIn K cd15 "origin_of" = true) (k15 : PySem.W.keepIn K (.ref f15) = true)
    (a16 : PySem.W.nsIn K mainGlobals "steps_of" = some (some (.ref f16))) (l16 : K.lookup f16 = some ⟨oc16, od16, .func (PySem.W.fnOf "steps_of" "steps_of" (defArgs s_steps_of) (defBody s_steps_of) (defScope s_steps_of) .none kV16 dc16 pm16 an16 cd16 ct16), sl16⟩) (c16 : PySem.W.codeIn K cd16 "steps_of" = true) (k16 : PySem.W.keepIn K (.ref f16) = true)
    (a17 : PySem.W.nsIn K mainGlobals "_law_right" = some (some (.ref f17))) (l17 : K.lookup f17 = some ⟨oc17, od17, .func (PySem.W.fnOf "_law_right" "_law_right" (defArgs s__law_right) (defBody s__law_right) (defScope s__law_right) .none kV17 dc17 pm17 an17 cd17 ct17), sl17⟩) (c17 : PySem.W.codeIn K cd17 "_law_right" = true) (k17 : PySem.W.keepIn K (.ref f17) = true)
    (a18 : PySem.W.nsIn K mainGlobals "_law_take" = some (some (.ref f18))) (l18 : K.lookup f18 = some ⟨oc18, od18, .func (PySem.W.fnOf "_law_take" "_law_take" (defArgs s__law_take) (defBody s__law_take) (defScope s__law_take) .none kV18 dc18 pm18 an18 cd18 ct18), sl18⟩) (c18 : PySem.W.codeIn K cd18 "_law_take" = true) (k18 : PySem.W.keepIn K (.ref f18) = true)
    (a19 : PySem.W.nsIn K mainGlobals "_law_of" = some (some (.ref f19))) (l19 : K.lookup f19 = some ⟨oc19, od19, .func (PySem.W.fnOf "_law_of" "_law_of" (defArgs s__law_of) (defBody s__law_of) (defScope s__law_of) .none kV19 dc19 pm19 an19 cd19 ct19), sl19⟩) (c19 : PySem.W.codeIn K cd19 "_law_of" = true) (k19 : PySem.W.keepIn K (.ref f19) = true)
    (a20 : PySem.W.nsIn K mainGlobals "_law_word" = some (some (.ref f20))) (l20 : K.lookup f20 = some ⟨oc20, od20, .func (PySem.W.fnOf "_law_word" "_law_word" (defArgs s__law_word) (defBody s__law_word) (defScope s__law_word) .none kV20 dc20 pm20 an20 cd20 ct20), sl20⟩) (c20 : PySem.W.codeIn K cd20 "_law_word" = true) (k20 : PySem.W.keepIn K (.ref f20) = true)
    (a21 : PySem.W.nsIn K mainGlobals "_law_stream" = some (some (.ref f21))) (l21 : K.lookup f21 = some ⟨oc21, od21, .func (PySem.W.fnOf "_law_stream" "_law_stream" (defArgs s__law_stream) (defBody s__law_stream) (defScope s__law_stream) .none kV21 dc21 pm21 an21 cd21 ct21), sl21⟩) (c21 : PySem.W.codeIn K cd21 "_law_stream" = true) (k21 : PySem.W.keepIn K (.ref f21) = true)
    (a22 : PySem.W.nsIn K mainGlobals "law" = some (some (.ref f22))) (l22 : K.lookup f22 = some ⟨oc22, od22, .func (PySem.W.fnOf "law" "law" (defArgs s_law) (defBody s_law) (defScope s_law) .none kV22 dc22 pm22 an22 cd22 ct22), sl22⟩) (c22 : PySem.W.codeIn K cd22 "law" = true) (k22 : PySem.W.keepIn K (.ref f22) = true)
    (z_abs : PySem.W.nsIn K mainGlobals "abs" = some none)
    (z_all : PySem.W.nsIn K mainGlobals "all" = some none)
    (z_bool : PySem.W.nsIn K mainGlobals "bool" = some none)
    (z_int : PySem.W.nsIn K mainGlobals "int" = some none)
    (z_isinstance : PySem.W.nsIn K mainGlobals "isinstance" = some none)
    (z_len : PySem.W.nsIn K mainGlobals "len" = some none)
    (z_list : PySem.W.nsIn K mainGlobals "list" = some none)
    (z_max : PySem.W.nsIn K mainGlobals "max" = some none)
    (z_min : PySem.W.nsIn K mainGlobals "min" = some none)
    (z_range : PySem.W.nsIn K mainGlobals "range" = some none)
    (z_repr : PySem.W.nsIn K mainGlobals "repr" = some none)
    (z_sum : PySem.W.nsIn K mainGlobals "sum" = some none)
    (z_tuple : PySem.W.nsIn K mainGlobals "tuple" = some none)
    (z_LITERAL : PySem.W.nsIn K mainGlobals "LITERAL" = some (some (.str "literal" t_LITERAL)))
    : ∃ fd : FuncData, (∀ (s : Shared) (u : Value), BindsTo s fd ⟨[u], []⟩ [("_law_script", u)]) ∧ ∀ base : Heap, K.In base → base.Ns mainGlobals mg → FnG P w K mg base 9 fa fd ["_law_script"] (spF K mg F_law) := by
  have T : Tx K mg := ⟨
    ⟨_, _, fun_mk (st := s__law_pot) l0 c0 k0, PySem.W.mg_of X G a0, (fun_mk (st := s__law_pot) l0 c0 k0).binds (ps := ["_law_script", "_law_k"]) fun _ _ _ _ _ _ us hl => match us, hl with | [_, _], _ => rfl⟩,
    ⟨_, _, fun_mk (st := s__law_unpacked) l1 c1 k1, PySem.W.mg_of X G a1, (fun_mk (st := s__law_unpacked) l1 c1 k1).binds (ps := ["_law_stream_here"]) fun _ _ _ _ _ _ us hl => match us, hl with | [_], _ => rfl⟩,
    ⟨_, _, fun_mk (st := s__law_way) l2 c2 k2, PySem.W.mg_of X G a2, (fun_mk (st := s__law_way) l2 c2 k2).binds (ps := ["_law_sources", "_law_position"]) fun _ _ _ _ _ _ us hl => match us, hl with | [_, _], _ => rfl⟩,
    ⟨_, _, fun_mk (st := s_is_integer) l3 c3 k3, PySem.W.mg_of X G a3, (fun_mk (st := s_is_integer) l3 c3 k3).binds (ps := ["value", "least", "most"]) fun _ _ _ _ _ _ us hl => match us, hl with | [_, _, _], _ => rfl⟩,
    ⟨_, _, fun_mk (st := s_letters_of) l4 c4 k4, PySem.W.mg_of X G a4, (fun_mk (st := s_letters_of) l4 c4 k4).binds (ps := ["command"]) fun _ _ _ _ _ _ us hl => match us, hl with | [_], _ => rfl⟩,
    ⟨_, _, fun_mk (st := s_length_of) l5 c5 k5, PySem.W.mg_of X G a5, (fun_mk (st := s_length_of) l5 c5 k5).binds (ps := ["stream"]) fun _ _ _ _ _ _ us hl => match us, hl with | [_], _ => rfl⟩,
    ⟨_, _, fun_mk (st := s_check_position) l6 c6 k6, PySem.W.mg_of X G a6, (fun_mk (st := s_check_position) l6 c6 k6).binds (ps := ["stream", "position"]) fun _ _ _ _ _ _ us hl => match us, hl with | [_, _], _ => rfl⟩,
    ⟨_, _, fun_mk (st := s_pieces) l7 c7 k7, PySem.W.mg_of X G a7, (fun_mk (st := s_pieces) l7 c7 k7).binds (ps := ["stream"]) fun _ _ _ _ _ _ us hl => match us, hl with | [_], _ => rfl⟩,
    ⟨_, _, fun_mk (st := s_piece_at) l8 c8 k8, PySem.W.mg_of X G a8, (fun_mk (st := s_piece_at) l8 c8 k8).binds (ps := ["stream", "position"]) fun _ _ _ _ _ _ us hl => match us, hl with | [_, _], _ => rfl⟩,
    ⟨_, _, fun_mk (st := s_is_literal) l9 c9 k9, PySem.W.mg_of X G a9, (fun_mk (st := s_is_literal) l9 c9 k9).binds (ps := ["command"]) fun _ _ _ _ _ _ us hl => match us, hl with | [_], _ => rfl⟩,
    ⟨_, _, fun_mk (st := s_source) l10 c10 k10, PySem.W.mg_of X G a10, (fun_mk (st := s_source) l10 c10 k10).binds (ps := ["stream", "position"]) fun _ _ _ _ _ _ us hl => match us, hl with | [_, _], _ => rfl⟩,
    ⟨_, _, fun_mk (st := s_followed) l11 c11 k11, PySem.W.mg_of X G a11, (fun_mk (st := s_followed) l11 c11 k11).binds (ps := ["stream", "position"]) fun _ _ _ _ _ _ us hl => match us, hl with | [_, _], _ => rfl⟩,
    ⟨_, _, fun_mk (st := s_origin_letter) l12 c12 k12, PySem.W.mg_of X G a12, (fun_mk (st := s_origin_letter) l12 c12 k12).binds (ps := ["stream", "position"]) fun _ _ _ _ _ _ us hl => match us, hl with | [_, _], _ => rfl⟩,
    ⟨_, _, fun_mk (st := s_letter_at) l13 c13 k13, PySem.W.mg_of X G a13, (fun_mk (st := s_letter_at) l13 c13 k13).binds (ps := ["stream", "position"]) fun _ _ _ _ _ _ us hl => match us, hl with | [_, _], _ => rfl⟩,
    ⟨_, _, fun_mk (st := s_source_of) l14 c14 k14, PySem.W.mg_of X G a14, (fun_mk (st := s_source_of) l14 c14 k14).binds (ps := ["stream", "position"]) fun _ _ _ _ _ _ us hl => match us, hl with | [_, _], _ => rfl⟩,
    ⟨_, _, fun_mk (st := s_origin_of) l15 c15 k15, PySem.W.mg_of X G a15, (fun_mk (st := s_origin_of) l15 c15 k15).binds (ps := ["stream", "position"]) fun _ _ _ _ _ _ us hl => match us, hl with | [_, _], _ => rfl⟩,
    ⟨_, _, fun_mk (st := s_steps_of) l16 c16 k16, PySem.W.mg_of X G a16, (fun_mk (st := s_steps_of) l16 c16 k16).binds (ps := ["stream", "position"]) fun _ _ _ _ _ _ us hl => match us, hl with | [_, _], _ => rfl⟩,
    ⟨_, _, fun_mk (st := s__law_right) l17 c17 k17, PySem.W.mg_of X G a17, (fun_mk (st := s__law_right) l17 c17 k17).binds (ps := ["_law_stream_here"]) fun _ _ _ _ _ _ us hl => match us, hl with | [_], _ => rfl⟩,
    ⟨_, _, fun_mk (st := s__law_take) l18 c18 k18, PySem.W.mg_of X G a18, (fun_mk (st := s__law_take) l18 c18 k18).binds (ps := ["_law_pot_here", "_law_below"]) fun _ _ _ _ _ _ us hl => match us, hl with | [_, _], _ => rfl⟩,
    ⟨_, _, fun_mk (st := s__law_of) l19 c19 k19, PySem.W.mg_of X G a19, (fun_mk (st := s__law_of) l19 c19 k19).binds (ps := ["_law_pot_here", "_law_some"]) fun _ _ _ _ _ _ us hl => match us, hl with | [_, _], _ => rfl⟩,
    ⟨_, _, fun_mk (st := s__law_word) l20 c20 k20, PySem.W.mg_of X G a20, (fun_mk (st := s__law_word) l20 c20 k20).binds (ps := ["_law_pot_here", "_law_most"]) fun _ _ _ _ _ _ us hl => match us, hl with | [_, _], _ => rfl⟩,
    ⟨_, _, fun_mk (st := s__law_stream) l21 c21 k21, PySem.W.mg_of X G a21, (fun_mk (st := s__law_stream) l21 c21 k21).binds (ps := ["_law_pot_here", "_law_most", "_law_longest", "_law_room"]) fun _ _ _ _ _ _ us hl => match us, hl with | [_, _, _, _], _ => rfl⟩,
    ⟨_, _, fun_mk (st := s_law) l22 c22 k22, PySem.W.mg_of X G a22, (fun_mk (st := s_law) l22 c22 k22).binds (ps := ["_law_script"]) fun _ _ _ _ _ _ us hl => match us, hl with | [_], _ => rfl⟩,
    PySem.W.mg_none_of X G z_abs,
    PySem.W.mg_none_of X G z_all,
    PySem.W.mg_none_of X G z_bool,
    PySem.W.mg_none_of X G z_int,
    PySem.W.mg_none_of X G z_isinstance,
    PySem.W.mg_none_of X G z_len,
    PySem.W.mg_none_of X G z_list,
    PySem.W.mg_none_of X G z_max,
    PySem.W.mg_none_of X G z_min,
    PySem.W.mg_none_of X G z_range,
    PySem.W.mg_none_of X G z_repr,
    PySem.W.mg_none_of X G z_sum,
    PySem.W.mg_none_of X G z_tuple,
    ⟨_, PySem.W.mg_of X G z_LITERAL⟩⟩
  exact law_endG T.f_law sc_law hm (fun base A W => body_law T A W) (fun _ _ _ _ _ _ _ _ => .of_eq rfl)
/-! ### the law -/
theorem right_ok {m : Nat} {cs : List Cmd} (h : Rd 4 m cs) (hr : reach cs ≤ 200) : f__law_right (streamD cs) = .ok (.bool true) := by
  unfold f__law_right
  rw [unpacked_ok h.ok h.l (by omega)]
  simp only [po_toO_ok, po_some, unpD, pn2_t, f_len_l, List.length_map, text_len]
  rw [rng_ok (by omega), po_some, forS_rng (fun _ => ()) (reach cs) rfl fun p hp => ?_]
  · rfl
  · have hc := chain_len h.falls p
    have hc2 : 0 < (chain (src cs) p).length := List.length_pos_iff.mpr chain_ne
    obtain ⟨g, hg, hlet⟩ := h.letter_at hp (by omega) (by omega)
    have ho := origin_le h.falls p
    have hsrc : ∀ q, src cs p = some q → q < p := h.falls p
    have e1 : dIx (.list ((text cs).map sgn)) (.int (p : Int)) = some (sgn g) := by
      rw [d_ix_l, atI_nat (by rw [List.length_map, text_len]; exact hp), List.getElem_map]
      have : (text cs)[p]'(by rw [text_len]; exact hp) = g := by
        rw [List.getElem?_eq_getElem (by rw [text_len]; exact hp)] at hg
        exact Option.some.inj hg
      rw [this]
    have e2 : dIx (.list ((sf 0 cs).map srcD)) (.int (p : Int)) = some (srcD (src cs p)) := src_at hp
    have e3 : dSub (.int ((chain (src cs) p).length : Int)) (.int 1) = some (natD ((chain (src cs) p).length - 1)) := by
      rw [d_sub_i, show ((chain (src cs) p).length : Int) - 1 = (((chain (src cs) p).length - 1 : Nat) : Int) by omega]
      rfl
    have bi : ∀ k : Nat, k < 1000 → Bnd 0 130 (natD k) := fun k hk => bnd_int (by omega)
    have bs : Bnd 0 130 (srcD (src cs p)) := by
      cases hs : src cs p with
      | none => exact bnd_none.mono (by decide) (by decide)
      | some q => have := hsrc q hs; exact bi q (by omega)
    have hg2 : g < 0x110000 := by
      have := h.small hp hg
      unfold small1 at this
      omega
    have bg : Bnd 0 130 (sgn g) := bnd_str (by simp [PyData.strOk, hg2]) (by show 1 ≤ 130; decide)
    have bl : Bnd 1 (4 * 131) (.list [sgn g, srcD (src cs p), natD (origin (src cs) p), natD ((chain (src cs) p).length - 1)]) := bnd_list (k := 0) (w := 130) (fun x hx => by
      simp at hx
      rcases hx with e | e | e | e <;> subst e
      · exact bg
      · exact bs
      · exact bi _ (by omega)
      · exact bi _ (by omega)) (by simp)
    rw [h.way hp (by omega), hlet, h.source_of hp, h.origin_of hp (by omega) (by omega), h.steps_of hp (by omega) (by omega)]
    simp only [po_toL_ok, po_toO_ok, po_some, Option.bind_some, Option.map_some, e1, e2, last_chain, f_len_l, List.length_map, e3]
    rw [addL (by simp)]
    simp only [List.cons_append, List.nil_append, Option.bind_some, bl.repr, ne_str_same, toB_bool, po_some, Bool.false_eq_true, if_false]
theorem law_ok (ns : List Int) (hl : ns.length ≤ 63) : f_law (ns.map .int) = .ok (.bool true) := by
  refine Wp.out ?_
  unfold f_law
  obtain ⟨m, m1, m3, em⟩ := turns_ok 3 (by decide) (ns.map PyData.int).length
  have em' : ((fMin [.int 3, .int ((ns.map PyData.int).length : Int)]).bind fun t => fMax [.int 1, t]) = some (.int (m : Int)) := em
  rw [em', po_some, rng_ok (by omega), po_some]
  refine wp_forS (fun _ _ => True) (fun k d s hd _ => ?_) trivial fun _ _ => rfl
  obtain ⟨rfl, hk⟩ := rng_getN hd
  obtain ⟨pot, ep, hp⟩ := pot_ok k (by omega) ns (by omega)
  rw [ep, po_bind_ok, show range1O (.int 4) = some (rngOf 0 4) from rng_ok (m := 4) (by decide), po_some]
  refine wp_comp (fun j s => PotOk (300000 * j) s) (fun x => x = .bool true) (by decide) (fun j d s hd hs => ?_) hp fun xs s hl hx hs => ?_
  · obtain ⟨rfl, hj⟩ := rng_getN (m := 4) hd
    refine stream_bind hs (by decide) (by decide) (by decide) (by decide) (by decide) (by decide) (by omega) fun cs p1 hp1 c1 c2 c3 => ?_
    dsimp only
    rw [right_ok ⟨c2, by decide, by omega⟩ (by omega), po_bind_ok]
    exact ⟨_, rfl, rfl, hp1.mono (by omega)⟩
  · dsimp only
    rw [fAll_true hx]
    rw [po_some, toB_bool, po_some, if_neg (by decide)]
    exact ⟨(), rfl, trivial⟩
theorem wins : Wins 63 F_law := wins_of (fun _ => sim_law) fun ns h1 _ => law_ok ns h1
end ML.K19

open PySem PySem.W PyProof.Rows in
set_option maxRecDepth 100000 in
set_option maxHeartbeats 0 in
theorem PySem.Challenge.cw_copyorigins_k19_letters_sources_and_orig_holds : PySem.Challenge.rw_copyorigins_k19_letters_sources_and_orig.Holds := by
  w_on; o_law; k_head; (case hw => w_witness2)
  k_fill
  refine ML.walkG (l := PySem.Challenge.rw_copyorigins_k19_letters_sources_and_orig) (k := 9) (x := "_law_script") (F := ML.K19.F_law) ML.K19.wins rfl (by decide) rfl ⟨rfl, by decide, by decide⟩ (fun w h Y => PySem.W.kIn_of Y) ?F
  case F =>
    intro w mg fa h KX G hmg
    refine' ML.K19.fin KX G hmg ?a0 ?l0 ?c0 ?k0 ?a1 ?l1 ?c1 ?k1 ?a2 ?l2 ?c2 ?k2 ?a3 ?l3 ?c3 ?k3 ?a4 ?l4 ?c4 ?k4 ?a5 ?l5 ?c5 ?k5 ?a6 ?l6 ?c6 ?k6 ?a7 ?l7 ?c7 ?k7 ?a8 ?l8 ?c8 ?k8 ?a9 ?l9 ?c9 ?k9 ?a10 ?l10 ?c10 ?k10 ?a11 ?l11 ?c11 ?k11 ?a12 ?l12 ?c12 ?k12 ?a13 ?l13 ?c13 ?k13 ?a14 ?l14 ?c14 ?k14 ?a15 ?l15 ?c15 ?k15 ?a16 ?l16 ?c16 ?k16 ?a17 ?l17 ?c17 ?k17 ?a18 ?l18 ?c18 ?k18 ?a19 ?l19 ?c19 ?k19 ?a20 ?l20 ?c20 ?k20 ?a21 ?l21 ?c21 ?k21 ?a22 ?l22 ?c22 ?k22 ?z_abs ?z_all ?z_bool ?z_int ?z_isinstance ?z_len ?z_list ?z_max ?z_min ?z_range ?z_repr ?z_sum ?z_tuple ?z_LITERAL
    (case a0 => k_is)
    (case l0 => k_is)
    (case c0 => k_is)
    (case k0 => k_is)
    (case a1 => k_is)
    (case l1 => k_is)
    (case c1 => k_is)
    (case k1 => k_is)
    (case a2 => k_is)
    (case l2 => k_is)
    (case c2 => k_is)
    (case k2 => k_is)
    (case a3 => k_is)
    (case l3 => k_is)
    (case c3 => k_is)
    (case k3 => k_is)
    (case a4 => k_is)
    (case l4 => k_is)
    (case c4 => k_is)
    (case k4 => k_is)
    (case a5 => k_is)
    (case l5 => k_is)
    (case c5 => k_is)
    (case k5 => k_is)
    (case a6 => k_is)
    (case l6 => k_is)
    (case c6 => k_is)
    (case k6 => k_is)
    (case a7 => k_is)
    (case l7 => k_is)
    (case c7 => k_is)
    (case k7 => k_is)
    (case a8 => k_is)
    (case l8 => k_is)
    (case c8 => k_is)
    (case k8 => k_is)
    (case a9 => k_is)
    (case l9 => k_is)
    (case c9 => k_is)
    (case k9 => k_is)
    (case a10 => k_is)
    (case l10 => k_is)
    (case c10 => k_is)
    (case k10 => k_is)
    (case a11 => k_is)
    (case l11 => k_is)
    (case c11 => k_is)
    (case k11 => k_is)
    (case a12 => k_is)
    (case l12 => k_is)
    (case c12 => k_is)
    (case k12 => k_is)
    (case a13 => k_is)
    (case l13 => k_is)
    (case c13 => k_is)
    (case k13 => k_is)
    (case a14 => k_is)
    (case l14 => k_is)
    (case c14 => k_is)
    (case k14 => k_is)
    (case a15 => k_is)
    (case l15 => k_is)
    (case c15 => k_is)
    (case k15 => k_is)
    (case a16 => k_is)
    (case l16 => k_is)
    (case c16 => k_is)
    (case k16 => k_is)
    (case a17 => k_is)
    (case l17 => k_is)
    (case c17 => k_is)
    (case k17 => k_is)
    (case a18 => k_is)
    (case l18 => k_is)
    (case c18 => k_is)
    (case k18 => k_is)
    (case a19 => k_is)
    (case l19 => k_is)
    (case c19 => k_is)
    (case k19 => k_is)
    (case a20 => k_is)
    (case l20 => k_is)
    (case c20 => k_is)
    (case k20 => k_is)
    (case a21 => k_is)
    (case l21 => k_is)
    (case c21 => k_is)
    (case k21 => k_is)
    (case a22 => k_is)
    (case l22 => k_is)
    (case c22 => k_is)
    (case k22 => k_is)
    (case z_abs => k_is)
    (case z_all => k_is)
    (case z_bool => k_is)
    (case z_int => k_is)
    (case z_isinstance => k_is)
    (case z_len => k_is)
    (case z_list => k_is)
    (case z_max => k_is)
    (case z_min => k_is)
    (case z_range => k_is)
    (case z_repr => k_is)
    (case z_sum => k_is)
    (case z_tuple => k_is)
    (case z_LITERAL => k_is)
#print axioms PySem.Challenge.cw_copyorigins_k19_letters_sources_and_orig_holds
