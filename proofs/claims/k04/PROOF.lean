import PyProof.Rows.All
import Wide.All
import OpenK.AllK
import Wide.FinOn
import HandS.ForMost
import HandS.IsInst
import HandS.WideBits
import HandS.Wide
import HandS.Zip
import HandS.NoneIn
import PySem.Challenge.RW_lazyreal_k04_boxes
set_option Elab.async false
set_option linter.all false
set_option maxRecDepth 100000
set_option maxHeartbeats 4000000
/-! D3: a layer over the hand layer in which tuples (and lists that no longer change) are plain values: data instead of addresses. -/
namespace D3
open PySem L2

/-- data: what a Python value is, without addresses but for what may change -/
inductive D where
  | non | bl (b : Bool) | int (i : Int) | str (x : Str) | tup (xs : List D) | lst (xs : List D) | ref (a : Addr) | ty (n : String)

/-- what may change: a list, a dict, an instance, by data -/
inductive MO where
  | lst (xs : List D)
  | dct (kvs : List (Key × D))
  | ins (C dx : Addr) (fs : List (Str × D))
abbrev Mem := Addr → Option MO
def put (m : Mem) (a : Addr) (o : MO) : Mem := fun b => if b = a then some o else m b
def del (m : Mem) (a : Addr) : Mem := fun b => if b = a then none else m b
theorem put_same {m : Mem} {a : Addr} {o : MO} : put m a o a = some o := by unfold put; rw [if_pos rfl]
theorem put_ne {m : Mem} {a b : Addr} {o : MO} (h : b ≠ a) : put m a o b = m b := by unfold put; rw [if_neg h]
theorem put_put {m : Mem} {a : Addr} {o u : MO} : put (put m a o) a u = put m a u := by
  funext b; unfold put; split <;> rfl
theorem put_self {m : Mem} {a : Addr} {o : MO} (h : m a = some o) : put m a o = m := by
  funext b; unfold put; split
  · rename_i e; rw [e, h]
  · rfl

/-- what is tracked and does not change -/
def RdS (H : Hp) (m : Mem) (a : Addr) (u : HO) : Prop := Rd H a u ∧ m a = none
def TupAt (K : PySem.W.Frag) (H : Hp) (m : Mem) (a : Addr) (xs : List V) : Prop :=
  RdS H m a (.tup xs) ∨ ∃ (o : Obj) (its : Array Value) (n : Nat), K.lookup a = some o ∧ o.cls = .type "tuple" ∧ o.data = .seq its n ∧ its.size ≤ sizeLine ∧ Vals xs its.toList
def LstAt (K : PySem.W.Frag) (H : Hp) (m : Mem) (a : Addr) (xs : List V) : Prop :=
  RdS H m a (.lst xs) ∨ ∃ (o : Obj) (its : Array Value) (n : Nat), K.lookup a = some o ∧ o.cls = .type "list" ∧ o.dict = none ∧ o.data = .seq its n ∧ its.size ≤ sizeLine ∧ Vals xs its.toList
theorem TupAt.sq {K : PySem.W.Frag} {H : Hp} {m : Mem} {a : Addr} {xs : List V} (h : TupAt K H m a xs) : SqT K H a xs := by
  rcases h with h | h
  · exact .inl h.1
  · exact .inr h
theorem LstAt.sq {K : PySem.W.Frag} {H : Hp} {m : Mem} {a : Addr} {xs : List V} (h : LstAt K H m a xs) : SqL K H a xs := by
  rcases h with h | h
  · exact .inl h.1
  · exact .inr h

mutual
inductive Rep (K : PySem.W.Frag) (H : Hp) (m : Mem) : V → D → Prop
  | non : Rep K H m .non .non
  | bl (b : Bool) : Rep K H m (.bl b) (.bl b)
  | int (i : Int) : Rep K H m (.int i) (.int i)
  | str (x : Str) : Rep K H m (.str x) (.str x)
  | ref (a : Addr) : Rep K H m (.ref a) (.ref a)
  | ty (n : String) : Rep K H m (.ty n) (.ty n)
  | tup {a : Addr} {xs : List V} {ds : List D} : TupAt K H m a xs → Reps K H m xs ds → Rep K H m (.ref a) (.tup ds)
  | lst {a : Addr} {xs : List V} {ds : List D} : LstAt K H m a xs → Reps K H m xs ds → Rep K H m (.ref a) (.lst ds)
inductive Reps (K : PySem.W.Frag) (H : Hp) (m : Mem) : List V → List D → Prop
  | nil : Reps K H m [] []
  | cons {v : V} {vs : List V} {d : D} {ds : List D} : Rep K H m v d → Reps K H m vs ds → Reps K H m (v :: vs) (d :: ds)
end

/-- from one state to a later one: what is tracked and does not change stands -/
def Step (H : Hp) (m : Mem) (H' : Hp) (m' : Mem) : Prop := ∀ a o, H a = some o → m a = none → H' a = some o ∧ m' a = none
theorem Step.refl (H : Hp) (m : Mem) : Step H m H m := fun _ _ h n => ⟨h, n⟩
theorem Step.trans {H H1 H2 : Hp} {m m1 m2 : Mem} (a : Step H m H1 m1) (b : Step H1 m1 H2 m2) : Step H m H2 m2 := fun c o h n =>
  b c o (a c o h n).1 (a c o h n).2
theorem RdS.step {H H' : Hp} {m m' : Mem} {a : Addr} {u : HO} (s : Step H m H' m') (h : RdS H m a u) : RdS H' m' a u := by
  obtain ⟨h | ⟨o, h⟩, n⟩ := h
  · exact ⟨.inl (s _ _ h n).1, (s _ _ h n).2⟩
  · exact ⟨.inr ⟨o, (s _ _ h n).1⟩, (s _ _ h n).2⟩
theorem TupAt.step {K : PySem.W.Frag} {H H' : Hp} {m m' : Mem} {a : Addr} {xs : List V} (s : Step H m H' m') (h : TupAt K H m a xs) : TupAt K H' m' a xs := by
  rcases h with h | h
  · exact .inl (h.step s)
  · exact .inr h
theorem LstAt.step {K : PySem.W.Frag} {H H' : Hp} {m m' : Mem} {a : Addr} {xs : List V} (s : Step H m H' m') (h : LstAt K H m a xs) : LstAt K H' m' a xs := by
  rcases h with h | h
  · exact .inl (h.step s)
  · exact .inr h
mutual
theorem Rep.step {K : PySem.W.Frag} {H H' : Hp} {m m' : Mem} (s : Step H m H' m') : ∀ (d : D) (v : V), Rep K H m v d → Rep K H' m' v d
  | .non, _, h => by cases h; exact .non
  | .bl b, _, h => by cases h; exact .bl b
  | .int i, _, h => by cases h; exact .int i
  | .str x, _, h => by cases h; exact .str x
  | .ref a, _, h => by cases h; exact .ref a
  | .ty n, _, h => by cases h; exact .ty n
  | .tup ds, _, h => by
    cases h with
    | tup t r => exact .tup (t.step s) (Reps.step s ds _ r)
  | .lst ds, _, h => by
    cases h with
    | lst t r => exact .lst (t.step s) (Reps.step s ds _ r)
theorem Reps.step {K : PySem.W.Frag} {H H' : Hp} {m m' : Mem} (s : Step H m H' m') : ∀ (ds : List D) (vs : List V), Reps K H m vs ds → Reps K H' m' vs ds
  | [], _, h => by cases h; exact .nil
  | d :: ds, _, h => by
    cases h with
    | cons r rr => exact .cons (Rep.step s d _ r) (Reps.step s ds _ rr)
end
theorem Rep.mv {K : PySem.W.Frag} {H H' : Hp} {m m' : Mem} {v : V} {d : D} (s : Step H m H' m') (h : Rep K H m v d) : Rep K H' m' v d := Rep.step s d v h
theorem Reps.mv {K : PySem.W.Frag} {H H' : Hp} {m m' : Mem} {vs : List V} {ds : List D} (s : Step H m H' m') (h : Reps K H m vs ds) : Reps K H' m' vs ds := Reps.step s ds vs h
section
variable {K : PySem.W.Frag} {H H' : Hp} {m m' : Mem}
theorem Reps.length : ∀ {vs : List V} {ds : List D}, Reps K H m vs ds → vs.length = ds.length
  | _, _, .nil => rfl
  | _, _, .cons _ t => by rw [List.length_cons, List.length_cons, Reps.length t]
theorem Reps.get : ∀ {vs : List V} {ds : List D} {i : Nat} {d : D}, Reps K H m vs ds → ds[i]? = some d → ∃ v, vs[i]? = some v ∧ Rep K H m v d
  | _, _, _, _, .nil, e => by simp at e
  | _, _, 0, _, .cons r _, e => by simp at e; subst e; exact ⟨_, rfl, r⟩
  | _, _, i + 1, x, .cons _ t, e => by
    obtain ⟨u, h1, h2⟩ := Reps.get (i := i) (d := x) t (by simpa using e)
    exact ⟨u, by simpa using h1, h2⟩
theorem Reps.get' : ∀ {vs : List V} {ds : List D} {i : Nat} {v : V}, Reps K H m vs ds → vs[i]? = some v → ∃ d, ds[i]? = some d ∧ Rep K H m v d
  | _, _, _, _, .nil, e => by simp at e
  | _, _, 0, _, .cons r _, e => by simp at e; subst e; exact ⟨_, rfl, r⟩
  | _, _, i + 1, x, .cons _ t, e => by
    obtain ⟨u, h1, h2⟩ := Reps.get' (i := i) (v := x) t (by simpa using e)
    exact ⟨u, by simpa using h1, h2⟩
theorem Reps.append : ∀ {xs ys : List V} {us ws : List D}, Reps K H m xs us → Reps K H m ys ws → Reps K H m (xs ++ ys) (us ++ ws)
  | _, _, _, _, .nil, s => s
  | _, _, _, _, .cons r t, s => .cons r (Reps.append t s)
theorem Reps.take : ∀ {xs : List V} {us : List D} (n : Nat), Reps K H m xs us → Reps K H m (xs.take n) (us.take n)
  | _, _, 0, _ => .nil
  | _, _, _ + 1, .nil => .nil
  | _, _, n + 1, .cons r t => .cons r (Reps.take n t)
theorem Reps.drop : ∀ {xs : List V} {us : List D} (n : Nat), Reps K H m xs us → Reps K H m (xs.drop n) (us.drop n)
  | _, _, 0, r => r
  | _, _, _ + 1, .nil => .nil
  | _, _, n + 1, .cons _ t => Reps.drop n t
theorem Reps.set {x : V} {u : D} (r : Rep K H m x u) : ∀ {xs : List V} {us : List D} (i : Nat), Reps K H m xs us → Reps K H m (xs.set i x) (us.set i u)
  | _, _, _, .nil => .nil
  | _, _, 0, .cons _ t => .cons r t
  | _, _, i + 1, .cons q t => .cons q (Reps.set r i t)
theorem Reps.dropLast : ∀ {xs : List V} {us : List D}, Reps K H m xs us → Reps K H m xs.dropLast us.dropLast
  | _, _, .nil => .nil
  | _, _, .cons _ .nil => .nil
  | _, _, .cons r (.cons r2 t) => .cons r (Reps.dropLast (.cons r2 t))
theorem Reps.ints : ∀ (ns : List Int), Reps K H m (ns.map V.int) (ns.map D.int)
  | [] => .nil
  | n :: ns => .cons (.int n) (Reps.ints ns)
theorem Reps.ints' : ∀ {ns : List Int} {vs : List V}, Reps K H m vs (ns.map D.int) → vs = ns.map V.int
  | [], _, h => by cases h; rfl
  | n :: ns, _, h => by
    cases h with
    | cons r t => cases r; rw [Reps.ints' t]; rfl
end

/-- keys and values -/
def RepK (K : PySem.W.Frag) (H : Hp) (m : Mem) {κ : Type} : List (κ × V) → List (κ × D) → Prop := Paired fun p q => p.1 = q.1 ∧ Rep K H m p.2 q.2
theorem RepK.mv {K : PySem.W.Frag} {H H' : Hp} {m m' : Mem} {κ : Type} (s : Step H m H' m') : ∀ {a : List (κ × V)} {b : List (κ × D)}, RepK K H m a b → RepK K H' m' a b
  | _, _, .nil => .nil
  | _, _, .cons r t => .cons ⟨r.1, r.2.mv s⟩ (RepK.mv s t)
def RepO (K : PySem.W.Frag) (H : Hp) (m : Mem) : HO → MO → Prop
  | .lst xs, .lst ds => Reps K H m xs ds
  | .dK kvs, .dct kds => RepK K H m kvs kds
  | .ins C dx fs, .ins C' dx' gs => C = C' ∧ dx = dx' ∧ RepK K H m fs gs
  | _, _ => False
theorem RepO.mv {K : PySem.W.Frag} {H H' : Hp} {m m' : Mem} {o : HO} {u : MO} (s : Step H m H' m') (h : RepO K H m o u) : RepO K H' m' o u := by
  cases o <;> cases u <;> first
    | exact Reps.mv s h
    | exact RepK.mv s h
    | exact ⟨h.1, h.2.1, RepK.mv s h.2.2⟩
    | exact (h : False).elim
/-- the memory of what may change is held -/
def HR (K : PySem.W.Frag) (H : Hp) (m : Mem) : Prop := ∀ a u, m a = some u → ∃ o, H a = some o ∧ RepO K H m o u
theorem HR.none {K : PySem.W.Frag} {H : Hp} {m : Mem} (h : HR K H m) {a : Addr} (n : H a = none) : m a = none := by
  cases e : m a with
  | none => rfl
  | some u =>
    obtain ⟨o, e2, _⟩ := h a u e
    rw [n] at e2
    cases e2
theorem HR.lst {K : PySem.W.Frag} {H : Hp} {m : Mem} (h : HR K H m) {a : Addr} {ds : List D} (e : m a = some (.lst ds)) : ∃ xs, H a = some (.lst xs) ∧ Reps K H m xs ds := by
  obtain ⟨o, e1, r⟩ := h a _ e
  cases o with
  | lst xs => exact ⟨xs, e1, r⟩
  | _ => exact (r : False).elim
section
variable {K : PySem.W.Frag} {H : Hp} {m : Mem} {p : Addr}
/-- a new object that will not change -/
theorem step_new {o : HO} (n : H p = none) : Step H m (upd H p o) m := fun a u e z => ⟨by rw [upd_ne (ne_of_none e n)]; exact e, z⟩
theorem hr_new {o : HO} (h : HR K H m) (n : H p = none) : HR K (upd H p o) m := fun a u e => by
  obtain ⟨q, e1, r⟩ := h a u e
  exact ⟨q, by rw [upd_ne (ne_of_none e1 n)]; exact e1, r.mv (step_new n)⟩
/-- a new object that may change -/
theorem step_newM {o : HO} {u : MO} (n : H p = none) : Step H m (upd H p o) (put m p u) := fun a q e z => by
  have ne := ne_of_none e n
  exact ⟨by rw [upd_ne ne]; exact e, by rw [put_ne ne]; exact z⟩
theorem hr_newM {o : HO} {u : MO} (h : HR K H m) (n : H p = none) (r : RepO K H m o u) : HR K (upd H p o) (put m p u) := fun a q e => by
  by_cases ea : a = p
  · subst ea
    rw [put_same] at e
    cases e
    exact ⟨o, upd_same, r.mv (step_newM n)⟩
  · rw [put_ne ea] at e
    obtain ⟨q', e1, r1⟩ := h a q e
    exact ⟨q', by rw [upd_ne ea]; exact e1, r1.mv (step_newM n)⟩
/-- an object that may change is written -/
theorem step_set {o : HO} {u w : MO} (e : m p = some w) : Step H m (upd H p o) (put m p u) := fun a q e1 z => by
  have ne : a ≠ p := fun x => by subst x; rw [e] at z; cases z
  exact ⟨by rw [upd_ne ne]; exact e1, by rw [put_ne ne]; exact z⟩
theorem hr_set {o : HO} {u w : MO} (h : HR K H m) (e : m p = some w) (r : RepO K H m o u) : HR K (upd H p o) (put m p u) := fun a q e1 => by
  by_cases ea : a = p
  · subst ea
    rw [put_same] at e1
    cases e1
    exact ⟨o, upd_same, r.mv (step_set e)⟩
  · rw [put_ne ea] at e1
    obtain ⟨q', e2, r2⟩ := h a q e1
    exact ⟨q', by rw [upd_ne ea]; exact e2, r2.mv (step_set e)⟩
/-- what may change is forgotten -/
theorem step_del {p : Addr} : Step H m H (del m p) := fun a q e1 z => ⟨e1, by unfold del; split; rfl; exact z⟩
theorem hr_del (h : HR K H m) : HR K H (del m p) := fun a q e1 => by
  by_cases ea : a = p
  · subst ea
    unfold del at e1
    rw [if_pos rfl] at e1
    cases e1
  · have e2 : m a = some q := by
      unfold del at e1
      rw [if_neg ea] at e1
      exact e1
    obtain ⟨q', e3, r3⟩ := h a q e2
    exact ⟨q', e3, r3.mv step_del⟩
end

/-! ### the frame -/
abbrev Env3 := List (Option D)
def EnvR (K : PySem.W.Frag) (H : Hp) (m : Mem) (σ : L2.St) (ρ : Env3) : Prop := σ.length = ρ.length ∧ ∀ (i : Nat) (d : D), ρ[i]? = some (some d) → ∃ v, σ[i]? = some (some v) ∧ Rep K H m v d
structure Ok (K : PySem.W.Frag) (σ : L2.St) (H : Hp) (ρ : Env3) (m : Mem) : Prop where
  env : EnvR K H m σ ρ
  hr : HR K H m
theorem Ok.mv {K : PySem.W.Frag} {σ : L2.St} {H H' : Hp} {ρ : Env3} {m m' : Mem} (o : Ok K σ H ρ m) (s : Step H m H' m') (h : HR K H' m') : Ok K σ H' ρ m' :=
  ⟨⟨o.env.1, fun i d e => let ⟨v, a, r⟩ := o.env.2 i d e; ⟨v, a, r.mv s⟩⟩, h⟩
theorem Ok.set {K : PySem.W.Frag} {σ : L2.St} {H : Hp} {ρ : Env3} {m : Mem} {v : V} {d : D} (o : Ok K σ H ρ m) (i : Nat) (r : Rep K H m v d) : Ok K (σ.set i (some v)) H (ρ.set i (some d)) m := by
  refine ⟨⟨by rw [List.length_set, List.length_set]; exact o.env.1, fun j e h => ?_⟩, o.hr⟩
  by_cases ij : i = j
  · subst ij
    have hl : i < ρ.length := by
      have := (List.getElem?_eq_some_iff.mp h).1
      rw [List.length_set] at this
      exact this
    rw [List.getElem?_set_self hl] at h
    cases h
    exact ⟨v, List.getElem?_set_self (by rw [o.env.1]; exact hl), r⟩
  · rw [List.getElem?_set_ne ij] at h
    obtain ⟨v', a, r'⟩ := o.env.2 j e h
    exact ⟨v', by rw [List.getElem?_set_ne ij]; exact a, r'⟩
theorem Ok.weak {K : PySem.W.Frag} {σ : L2.St} {H : Hp} {ρ ρ' : Env3} {m : Mem} (o : Ok K σ H ρ m) (hl : ρ'.length = ρ.length) (h : ∀ (i : Nat) d, ρ'[i]? = some (some d) → ρ[i]? = some (some d)) : Ok K σ H ρ' m :=
  ⟨⟨o.env.1.trans hl.symm, fun i d e => o.env.2 i d (h i d e)⟩, o.hr⟩

/-! ### the readings by data -/
abbrev DK := D → Mem → Prop
abbrev TE3 := Env3 → Mem → DK → Prop
abbrev TT3 := Env3 → Mem → (Bool → Mem → Prop) → Prop
abbrev TA3 := Env3 → Mem → (List D → Mem → Prop) → Prop
structure Ends3 where
  nx : Env3 → Mem → Prop
  rt : DK
  bk : Env3 → Mem → Prop := fun _ _ => False
  ct : Env3 → Mem → Prop := fun _ _ => False
abbrev TS3 := Ends3 → Env3 → Mem → Prop
def EK (K : PySem.W.Frag) (H : Hp) (m : Mem) (P : DK) (Q : VK) : Prop := ∀ v H' d m', P d m' → Step H m H' m' → HR K H' m' → Rep K H' m' v d → Q v H'
def TK (K : PySem.W.Frag) (H : Hp) (m : Mem) (P : Bool → Mem → Prop) (Q : Bool → Hp → Prop) : Prop := ∀ b H' m', P b m' → Step H m H' m' → HR K H' m' → Q b H'
def AK (K : PySem.W.Frag) (H : Hp) (m : Mem) (P : List D → Mem → Prop) (Q : List V → Hp → Prop) : Prop := ∀ vs H' ds m', P ds m' → Step H m H' m' → HR K H' m' → Reps K H' m' vs ds → Q vs H'
def EL (K : PySem.W.Frag) (t : TE) (t3 : TE3) : Prop := ∀ σ H ρ m P Q, Ok K σ H ρ m → t3 ρ m P → EK K H m P Q → t σ H Q
def TL (K : PySem.W.Frag) (t : TT) (t3 : TT3) : Prop := ∀ σ H ρ m P Q, Ok K σ H ρ m → t3 ρ m P → TK K H m P Q → t σ H Q
def AL (K : PySem.W.Frag) (t : TA) (t3 : TA3) : Prop := ∀ σ H ρ m P Q, Ok K σ H ρ m → t3 ρ m P → AK K H m P Q → t σ H Q
structure Link (K : PySem.W.Frag) (H : Hp) (m : Mem) (D3 : Ends3) (E : Ends) : Prop where
  nx : ∀ σ' H' ρ' m', D3.nx ρ' m' → Step H m H' m' → Ok K σ' H' ρ' m' → E.nx σ' H'
  rt : EK K H m D3.rt E.rt
  bk : ∀ σ' H' ρ' m', D3.bk ρ' m' → Step H m H' m' → Ok K σ' H' ρ' m' → E.bk σ' H'
  ct : ∀ σ' H' ρ' m', D3.ct ρ' m' → Step H m H' m' → Ok K σ' H' ρ' m' → E.ct σ' H'
theorem Link.mv {K : PySem.W.Frag} {H H' : Hp} {m m' : Mem} {D3 : Ends3} {E : Ends} (l : Link K H m D3 E) (s : Step H m H' m') : Link K H' m' D3 E :=
  ⟨fun σ' H2 ρ' m2 h s2 o => l.nx σ' H2 ρ' m2 h (s.trans s2) o, fun v H2 d m2 p s2 h r => l.rt v H2 d m2 p (s.trans s2) h r,
   fun σ' H2 ρ' m2 h s2 o => l.bk σ' H2 ρ' m2 h (s.trans s2) o, fun σ' H2 ρ' m2 h s2 o => l.ct σ' H2 ρ' m2 h (s.trans s2) o⟩
def SL (K : PySem.W.Frag) (t : TS) (t3 : TS3) : Prop := ∀ σ H ρ m D3 E, Ok K σ H ρ m → t3 D3 ρ m → Link K H m D3 E → t E σ H
def PE3 (X : Cx) (e : Expr) (t3 : TE3) : Prop := ∃ t, PE X e t ∧ EL X.K t t3
def PT3 (X : Cx) (e : Expr) (t3 : TT3) : Prop := ∃ t, PT X e t ∧ TL X.K t t3
def PW3 (X : Cx) (e : Expr) (t3 : TT3) : Prop := ∃ t, PW X e t ∧ TL X.K t t3
def PA3 (X : Cx) (es : List Expr) (t3 : TA3) : Prop := ∃ t, PA X es t ∧ AL X.K t t3
def PS3 (X : Cx) (st : Stmt) (t3 : TS3) : Prop := ∃ t, PS X st t ∧ SL X.K t t3
def PSs3 (X : Cx) (st : List Stmt) (t3 : TS3) : Prop := ∃ t, PSs X st t ∧ SL X.K t t3
theorem EK.mv {K : PySem.W.Frag} {H H' : Hp} {m m' : Mem} {P : DK} {Q : VK} (k : EK K H m P Q) (s : Step H m H' m') : EK K H' m' P Q := fun v H2 d m2 p s2 h r => k v H2 d m2 p (s.trans s2) h r
theorem TK.mv {K : PySem.W.Frag} {H H' : Hp} {m m' : Mem} {P : Bool → Mem → Prop} {Q : Bool → Hp → Prop} (k : TK K H m P Q) (s : Step H m H' m') : TK K H' m' P Q := fun v H2 m2 p s2 h => k v H2 m2 p (s.trans s2) h
theorem AK.mv {K : PySem.W.Frag} {H H' : Hp} {m m' : Mem} {P : List D → Mem → Prop} {Q : List V → Hp → Prop} (k : AK K H m P Q) (s : Step H m H' m') : AK K H' m' P Q := fun v H2 d m2 p s2 h r => k v H2 d m2 p (s.trans s2) h r
theorem EK.now {K : PySem.W.Frag} {H : Hp} {m : Mem} {P : DK} {Q : VK} {v : V} {d : D} (k : EK K H m P Q) (h : HR K H m) (p : P d m) (r : Rep K H m v d) : Q v H := k v H d m p (Step.refl _ _) h r

/-! ### names, constants -/
def v3 (i : Nat) : TE3 := fun ρ m P => match ρ[i]? with
  | some (some d) => P d m
  | _ => False
def c3 (d : D) : TE3 := fun _ m P => P d m
section
variable {X : Cx} {pos : Pos} {e a b c : Expr} {ta tb tc : TE3} {t u : TT3}
theorem el_var {K : PySem.W.Frag} {i : Nat} : EL K (tVar i) (v3 i) := by
  intro σ H ρ m P Q o h k
  unfold v3 at h
  split at h
  · rename_i d e
    obtain ⟨v, e1, r⟩ := o.env.2 i d e
    exact ⟨v, e1, k.now o.hr h r⟩
  · exact h.elim
theorem e_v (i : Nat) {x : Str} {pos : Pos} (hN : X.N[i]? = some x := by rfl) (hv : Vis X.env.scope x := by first | exact Or.inl rfl | exact Or.inr (Or.inl rfl) | exact Or.inr (Or.inr rfl)) (hd : (x == ("__debug__" : Str)) = false := by decide)
    (hcd : (x == ("__classdict__" : Str)) = false := by decide) : PE3 X (.Name x pos) (v3 i) := ⟨_, pe_var hN hv hd hcd, el_var⟩
theorem el_c {K : PySem.W.Frag} {v : V} {d : D} (r : ∀ H m, Rep K H m v d) : EL K (tC v) (c3 d) := fun σ H ρ m P Q o h k => k.now o.hr h (r H m)
theorem e_int {i j pos} : PE3 X (.Constant (.int i) j pos) (c3 (.int i)) := ⟨_, pe_int, el_c fun _ _ => .int i⟩
theorem e_bl {b j pos} : PE3 X (.Constant (.bool b) j pos) (c3 (.bl b)) := ⟨_, pe_bl, el_c fun _ _ => .bl b⟩
theorem e_non {j pos} : PE3 X (.Constant .none j pos) (c3 .non) := ⟨_, pe_non, el_c fun _ _ => .non⟩
theorem e_str {x j pos} : PE3 X (.Constant (.str x) j pos) (c3 (.str x)) := ⟨_, pe_str, el_c fun _ _ => .str x⟩
/-- a module's constant -/
theorem e_glob {x : Str} {v : V} {d : D} {u : Value} {pos : Pos} (hg : Gl X x) (hm : X.mg x = some u) (r : RelV v u) (rd : ∀ H m, Rep X.K H m v d) (hd : (x == ("__debug__" : Str)) = false := by decide) : PE3 X (.Name x pos) (c3 d) := ⟨_, pe_glob hg hm r hd, el_c rd⟩
theorem e_type {x : Str} {n : String} {pos : Pos} (hg : Gl X x) (hm : X.mg x = none) (hv : bootBuiltins x = some (.type n)) (hn : x ≠ "__name__" := by decide) (hd : (x == ("__debug__" : Str)) = false := by decide) : PE3 X (.Name x pos) (c3 (.ty n)) :=
  ⟨_, pe_bltn (v := .ty n) hg hm hv rfl hn hd, el_c fun _ _ => .ty n⟩

/-! ### operators -/
abbrev F2 := D → D → Mem → DK → Prop
def op3 (f : F2) (ta tb : TE3) : TE3 := fun ρ m P => ta ρ m fun x m1 => tb ρ m1 fun y m2 => f x y m2 P
def RL (K : PySem.W.Frag) (r : R2) (f : F2) : Prop := ∀ x y d e H m P Q, HR K H m → Rep K H m x d → Rep K H m y e → f d e m P → EK K H m P Q → r x y H Q
theorem el_op {K : PySem.W.Frag} {t u : TE} {r : R2} {f : F2} (ha : EL K t ta) (hb : EL K u tb) (hr : RL K r f) : EL K (tOp r t u) (op3 f ta tb) := by
  intro σ H ρ m P Q o h k
  refine ha σ H ρ m _ _ o h fun x H1 d m1 p1 s1 h1 r1 => ?_
  refine hb σ H1 ρ m1 _ _ (o.mv s1 h1) p1 fun y H2 e m2 p2 s2 h2 r2 => ?_
  exact hr x y d e H2 m2 P Q h2 (r1.mv s2) r2 p2 (k.mv (s1.trans s2))
def fI (C : Int → Int → Prop) (g : Int → Int → D) : F2 := fun x y m P => match x, y with
  | .int i, .int j => C i j ∧ P (g i j) m
  | _, _ => False
def fI0 (g : Int → Int → D) : F2 := fun x y m P => match x, y with
  | .int i, .int j => P (g i j) m
  | _, _ => False
theorem rl_I {K : PySem.W.Frag} {C : Int → Int → Prop} {g : Int → Int → V} {g' : Int → Int → D} (hg : ∀ i j H m, Rep K H m (g i j) (g' i j)) : RL K (rI C g) (fI C g') := by
  intro x y d e H m P Q h r1 r2 f k
  unfold fI at f
  split at f
  · cases r1
    cases r2
    exact ⟨_, _, rfl, rfl, f.1, k.now h f.2 (hg _ _ _ _)⟩
  · exact f.elim
theorem rl_I0 {K : PySem.W.Frag} {g : Int → Int → V} {g' : Int → Int → D} (hg : ∀ i j H m, Rep K H m (g i j) (g' i j)) : RL K (rI0 g) (fI0 g') := by
  intro x y d e H m P Q h r1 r2 f k
  unfold fI0 at f
  split at f
  · cases r1
    cases r2
    exact ⟨_, _, rfl, rfl, k.now h f (hg _ _ _ _)⟩
  · exact f.elim
theorem e_op {op : Operator} {r : R2} {f : F2} (ho : OpR X (binaryOp op) r) (hr : RL X.K r f) (ha : PE3 X a ta) (hb : PE3 X b tb) : PE3 X (.BinOp a op b pos) (op3 f ta tb) :=
  let ⟨_, p, q⟩ := ha
  let ⟨_, p', q'⟩ := hb
  ⟨_, pe_op ho p p', el_op q q' hr⟩
theorem e_add (ha : PE3 X a ta) (hb : PE3 X b tb) : PE3 X (.BinOp a .Add b pos) (op3 (fI0 fun i j => .int (i + j)) ta tb) := e_op op_add (rl_I0 fun _ _ _ _ => .int _) ha hb
theorem e_sub (ha : PE3 X a ta) (hb : PE3 X b tb) : PE3 X (.BinOp a .Sub b pos) (op3 (fI0 fun i j => .int (i - j)) ta tb) := e_op op_sub (rl_I0 fun _ _ _ _ => .int _) ha hb
/-- a product of together at most 2 ^ 27 bits -/
theorem e_mul (ha : PE3 X a ta) (hb : PE3 X b tb) : PE3 X (.BinOp a .Mult b pos) (op3 (fI CMulX fun i j => .int (i * j)) ta tb) := e_op op_mulX (rl_I fun _ _ _ _ => .int _) ha hb
/-- // by a divisor that isn't 0, without the long way -/
def CFdiv (i j : Int) : Prop := j ≠ 0 ∧ Builtin.divisionGoesByPylong i j = false
theorem op_fdivG : OpR X (binaryOp .FloorDiv) (rI CFdiv fun i j => .int (i.fdiv j)) := opI fun _ _ _ _ _ _ _ hc q => PyProof.Rows.floordiv_int hc.1 q (.inl hc.2)
theorem e_fdiv (ha : PE3 X a ta) (hb : PE3 X b tb) : PE3 X (.BinOp a .FloorDiv b pos) (op3 (fI CFdiv fun i j => .int (i.fdiv j)) ta tb) := e_op op_fdivG (rl_I fun _ _ _ _ => .int _) ha hb
theorem e_mod (ha : PE3 X a ta) (hb : PE3 X b tb) : PE3 X (.BinOp a .Mod b pos) (op3 (fI (fun _ j => j ≠ 0) fun i j => .int (i.fmod j)) ta tb) := e_op op_modN (rl_I fun _ _ _ _ => .int _) ha hb
theorem e_pow (ha : PE3 X a ta) (hb : PE3 X b tb) : PE3 X (.BinOp a .Pow b pos) (op3 (fI CPow fun i j => .int (i ^ j.toNat)) ta tb) := e_op op_pow (rl_I fun _ _ _ _ => .int _) ha hb
theorem e_shl (ha : PE3 X a ta) (hb : PE3 X b tb) : PE3 X (.BinOp a .LShift b pos) (op3 (fI CShl fun i j => .int (i * 2 ^ j.toNat)) ta tb) := e_op op_shlW (rl_I fun _ _ _ _ => .int _) ha hb
theorem e_shr (ha : PE3 X a ta) (hb : PE3 X b tb) : PE3 X (.BinOp a .RShift b pos) (op3 (fI (fun _ j => 0 ≤ j) fun i j => .int (i / 2 ^ j.toNat)) ta tb) := e_op op_shr (rl_I fun _ _ _ _ => .int _) ha hb
theorem e_bitand (ha : PE3 X a ta) (hb : PE3 X b tb) : PE3 X (.BinOp a .BitAnd b pos) (op3 (fI0 fun i j => .int (Builtin.bitAnd i j)) ta tb) := e_op op_and (rl_I0 fun _ _ _ _ => .int _) ha hb
def neg3 (ta : TE3) : TE3 := fun ρ m P => ta ρ m fun x m1 => match x with
  | .int i => P (.int (-i)) m1
  | _ => False
theorem e_neg (ha : PE3 X a ta) : PE3 X (.UnaryOp .USub a pos) (neg3 ta) := by
  obtain ⟨t, p, q⟩ := ha
  refine ⟨_, pe_un un_neg p, fun σ H ρ m P Q o h k => ?_⟩
  refine q σ H ρ m _ _ o h fun x H1 d m1 p1 s1 h1 r1 => ?_
  cases d with
  | int i =>
    cases r1
    exact ⟨i, rfl, (k.mv s1).now h1 p1 (.int _)⟩
  | _ => exact (p1 : False).elim
/-- x.bit_length() -/
def bits3 (ta : TE3) : TE3 := fun ρ m P => ta ρ m fun x m1 => match x with
  | .int i => P (.int (Builtin.Int.intBits i : Nat)) m1
  | _ => False
theorem e_bits {apos : Pos} (ha : PE3 X a ta) (hbase : attributeBase a "bit_length" X.env (eval a X.env) = eval a X.env := by rfl) (hline : (apos.endLine == pos.line) = true := by rfl) : PE3 X (.Call (.Attribute a "bit_length" apos) [] [] pos) (bits3 ta) := by
  obtain ⟨t, p, q⟩ := ha
  refine ⟨_, pe_bits p hbase hline, fun σ H ρ m P Q o h k => ?_⟩
  refine q σ H ρ m _ _ o h fun x H1 d m1 p1 s1 h1 r1 => ?_
  cases d with
  | int i =>
    cases r1
    exact ⟨i, rfl, (k.mv s1).now h1 p1 (.int _)⟩
  | _ => exact (p1 : False).elim

/-! ### comparisons -/
theorem e_cmpR {op : CmpOp} {r : R2} {f : F2} (ho : OpR X (compareOp op) r) (hr : RL X.K r f) (ha : PE3 X a ta) (hb : PE3 X b tb) (hm : behindInMarks op b = false) : PE3 X (.Compare a [op] [b] pos) (op3 f ta tb) :=
  let ⟨_, p, q⟩ := ha
  let ⟨_, p', q'⟩ := hb
  ⟨_, pe_cmpR ho p p' hm, el_op q q' hr⟩
abbrev fLt : F2 := fI0 fun i j => .bl (decide (i < j))
abbrev fLe : F2 := fI0 fun i j => .bl (decide (i ≤ j))
abbrev fGt : F2 := fI0 fun i j => .bl (decide (j < i))
abbrev fGe : F2 := fI0 fun i j => .bl (decide (j ≤ i))
theorem rl_lt {K : PySem.W.Frag} : RL K (rI0 fun i j => .bl (decide (i < j))) fLt := rl_I0 fun _ _ _ _ => .bl _
theorem rl_le {K : PySem.W.Frag} : RL K (rI0 fun i j => .bl (decide (i ≤ j))) fLe := rl_I0 fun _ _ _ _ => .bl _
theorem rl_gt {K : PySem.W.Frag} : RL K (rI0 fun i j => .bl (decide (j < i))) fGt := rl_I0 fun _ _ _ _ => .bl _
theorem rl_ge {K : PySem.W.Frag} : RL K (rI0 fun i j => .bl (decide (j ≤ i))) fGe := rl_I0 fun _ _ _ _ => .bl _
theorem e_lt (ha : PE3 X a ta) (hb : PE3 X b tb) : PE3 X (.Compare a [.Lt] [b] pos) (op3 fLt ta tb) := e_cmpR op_lt rl_lt ha hb (nomark _)
theorem e_le (ha : PE3 X a ta) (hb : PE3 X b tb) : PE3 X (.Compare a [.LtE] [b] pos) (op3 fLe ta tb) := e_cmpR op_le rl_le ha hb (nomark _)
theorem e_gt (ha : PE3 X a ta) (hb : PE3 X b tb) : PE3 X (.Compare a [.Gt] [b] pos) (op3 fGt ta tb) := e_cmpR op_gt rl_gt ha hb (nomark _)
theorem e_ge (ha : PE3 X a ta) (hb : PE3 X b tb) : PE3 X (.Compare a [.GtE] [b] pos) (op3 fGe ta tb) := e_cmpR op_ge rl_ge ha hb (nomark _)
end
mutual
def toPy : D → Option PyData
  | .non => some .none
  | .bl b => some (.bool b)
  | .int i => some (.int i)
  | .str x => some (.str x)
  | .tup ds => (toPys ds).map .tuple
  | .lst ds => (toPys ds).map .list
  | .ref _ => none
  | .ty _ => none
def toPys : List D → Option (List PyData)
  | [] => some []
  | d :: ds => match toPy d, toPys ds with
    | some p, some ps => some (p :: ps)
    | _, _ => none
end
mutual
theorem Rep.dp {K : PySem.W.Frag} {H : Hp} {m : Mem} : ∀ (d : D) (v : V) (p : PyData), Rep K H m v d → toPy d = some p → Dp K H v p
  | .non, _, _, h, e => by cases h; rw [toPy] at e; cases e; exact .non
  | .bl b, _, _, h, e => by cases h; rw [toPy] at e; cases e; exact .bl b
  | .int i, _, _, h, e => by cases h; rw [toPy] at e; cases e; exact .int i
  | .str x, _, _, h, e => by cases h; rw [toPy] at e; cases e; exact .str x
  | .ref a, _, _, h, e => by rw [toPy] at e; cases e
  | .ty n, _, _, h, e => by rw [toPy] at e; cases e
  | .tup ds, _, _, h, e => by
    rw [toPy, Option.map_eq_some_iff] at e
    obtain ⟨ps, e1, e2⟩ := e
    subst e2
    cases h with
    | tup t r => exact .tup t.sq (Reps.dp ds _ ps r e1)
  | .lst ds, _, _, h, e => by
    rw [toPy, Option.map_eq_some_iff] at e
    obtain ⟨ps, e1, e2⟩ := e
    subst e2
    cases h with
    | lst t r => exact .lst t.sq (Reps.dp ds _ ps r e1)
theorem Reps.dp {K : PySem.W.Frag} {H : Hp} {m : Mem} : ∀ (ds : List D) (vs : List V) (ps : List PyData), Reps K H m vs ds → toPys ds = some ps → DpAll K H vs ps
  | [], _, _, h, e => by cases h; rw [toPys] at e; cases e; exact .nil
  | d :: ds, _, _, h, e => by
    cases h with
    | cons r rr =>
      rw [toPys] at e
      split at e
      · rename_i p ps e1 e2
        cases e
        exact .cons (Rep.dp d _ p r e1) (Reps.dp ds _ ps rr e2)
      · cases e
end
section
variable {X : Cx} {pos : Pos} {e a b c : Expr} {ta tb tc : TE3} {t u : TT3}
def deq (d e : D) : Bool := match toPy d, toPy e with
  | some p, some q => PyData.eqv p q
  | _, _ => false
def deqOk (d e : D) : Bool := match toPy d, toPy e with
  | some p, some q => SeqAt.shaped p && SeqAt.shaped q
  | _, _ => false
def fEq : F2 := fun x y m P => deqOk x y = true ∧ P (.bl (deq x y)) m
def fNe : F2 := fun x y m P => deqOk x y = true ∧ P (.bl (!deq x y)) m
theorem deqOk_some {d e : D} (h : deqOk d e = true) : ∃ p q, toPy d = some p ∧ toPy e = some q ∧ SeqAt.shaped p = true ∧ SeqAt.shaped q = true ∧ deq d e = PyData.eqv p q := by
  unfold deqOk at h
  unfold deq
  split at h
  · rename_i p q e1 e2
    rw [Bool.and_eq_true] at h
    exact ⟨p, q, e1, e2, h.1, h.2, rfl⟩
  · cases h
theorem rl_eq {K : PySem.W.Frag} : RL K (rEqD K) fEq := by
  intro x y d e H m P Q h r1 r2 f k
  obtain ⟨f1, f2⟩ := f
  obtain ⟨p, q, e1, e2, s1, s2, e3⟩ := deqOk_some f1
  rw [e3] at f2
  exact ⟨p, q, r1.dp _ _ _ e1, r2.dp _ _ _ e2, s1, s2, k.now h f2 (.bl _)⟩
theorem rl_ne {K : PySem.W.Frag} : RL K (rNeD K) fNe := by
  intro x y d e H m P Q h r1 r2 f k
  obtain ⟨f1, f2⟩ := f
  obtain ⟨p, q, e1, e2, s1, s2, e3⟩ := deqOk_some f1
  rw [e3] at f2
  exact ⟨p, q, r1.dp _ _ _ e1, r2.dp _ _ _ e2, s1, s2, k.now h f2 (.bl _)⟩
theorem e_eq {k : Nat} (hr : Room k X.A) (ha : PE3 X a ta) (hb : PE3 X b tb) : PE3 X (.Compare a [.Eq] [b] pos) (op3 fEq ta tb) := e_cmpR (op_eqD hr.units) rl_eq ha hb (nomark _)
theorem e_ne {k : Nat} (hr : Room k X.A) (ha : PE3 X a ta) (hb : PE3 X b tb) : PE3 X (.Compare a [.NotEq] [b] pos) (op3 fNe ta tb) := e_cmpR (op_neD hr.units) rl_ne ha hb (nomark _)
/-- == of two ints -/
abbrev fEqI : F2 := fI0 fun i j => .bl (decide (i = j))
abbrev fNeI : F2 := fI0 fun i j => .bl (!decide (i = j))
theorem op_eqI : OpR X (compareOp .Eq) (rI0 fun i j => .bl (decide (i = j))) := opB0 fun _ _ _ _ _ _ _ q => PyProof.Rows.eq_int (by rw [Bool.beq_eq_decide_eq]; exact q)
theorem op_neI : OpR X (compareOp .NotEq) (rI0 fun i j => .bl (!decide (i = j))) := opB0 fun _ _ _ _ _ _ _ q => PyProof.Rows.ne_int (by rw [bne, Bool.beq_eq_decide_eq]; exact q)
theorem rl_eqI {K : PySem.W.Frag} : RL K (rI0 fun i j => .bl (decide (i = j))) fEqI := rl_I0 fun _ _ _ _ => .bl _
theorem rl_neI {K : PySem.W.Frag} : RL K (rI0 fun i j => .bl (!decide (i = j))) fNeI := rl_I0 fun _ _ _ _ => .bl _
theorem e_eqI (ha : PE3 X a ta) (hb : PE3 X b tb) : PE3 X (.Compare a [.Eq] [b] pos) (op3 fEqI ta tb) := e_cmpR op_eqI rl_eqI ha hb (nomark _)
theorem e_neI (ha : PE3 X a ta) (hb : PE3 X b tb) : PE3 X (.Compare a [.NotEq] [b] pos) (op3 fNeI ta tb) := e_cmpR op_neI rl_neI ha hb (nomark _)
def dIsN : D → Bool
  | .non => true
  | _ => false
def isN3 (ta : TE3) : TE3 := fun ρ m P => ta ρ m fun x m1 => P (.bl (dIsN x)) m1
def notN3 (ta : TE3) : TE3 := fun ρ m P => ta ρ m fun x m1 => P (.bl (!dIsN x)) m1
theorem isN_eq {K : PySem.W.Frag} {H : Hp} {m : Mem} {v : V} {d : D} (r : Rep K H m v d) : decide (v = V.non) = dIsN d := by
  cases r <;> rfl
theorem e_isN {j pos'} (ha : PE3 X a ta) : PE3 X (.Compare a [.Is] [.Constant .none j pos'] pos) (isN3 ta) := by
  obtain ⟨t, p, q⟩ := ha
  refine ⟨_, pe_cmp (pc_isN p), fun σ H ρ m P Q o h k => ?_⟩
  refine q σ H ρ m _ _ o h fun x H1 d m1 p1 s1 h1 r1 => ?_
  show Q (.bl (decide (x = .non))) H1
  rw [isN_eq r1]
  exact (k.mv s1).now h1 p1 (.bl _)
theorem e_notN {j pos'} (ha : PE3 X a ta) : PE3 X (.Compare a [.IsNot] [.Constant .none j pos'] pos) (notN3 ta) := by
  obtain ⟨t, p, q⟩ := ha
  refine ⟨_, pe_cmp (pc_notN p), fun σ H ρ m P Q o h k => ?_⟩
  refine q σ H ρ m _ _ o h fun x H1 d m1 p1 s1 h1 r1 => ?_
  show Q (.bl (!decide (x = .non))) H1
  rw [isN_eq r1]
  exact (k.mv s1).now h1 p1 (.bl _)
/-- a op b op' c -/
def chain3 (f f' : F2) (ta tb tc : TE3) : TE3 := fun ρ m P => ta ρ m fun x m1 => tb ρ m1 fun y m2 => f x y m2 fun z m3 => match z with
  | .bl k => if k = true then tc ρ m3 fun w m4 => f' y w m4 P else P (.bl false) m3
  | _ => False
theorem e_chain {op op' : CmpOp} {r r' : R2} {f f' : F2} (ho : OpR X (compareOp op) r) (hr : RL X.K r f) (ho' : OpR X (compareOp op') r') (hr' : RL X.K r' f') (ha : PE3 X a ta) (hb : PE3 X b tb) (hc : PE3 X c tc)
    (hm : lastMarks [op, op'] [b, c] = false := by with_unfolding_all rfl) : PE3 X (.Compare a [op, op'] [b, c] pos) (chain3 f f' ta tb tc) := by
  obtain ⟨_, p1, q1⟩ := ha
  obtain ⟨_, p2, q2⟩ := hb
  obtain ⟨_, p3, q3⟩ := hc
  refine ⟨_, pe_chain ho ho' p1 p2 p3 hm, fun σ H ρ m P Q o h k => ?_⟩
  refine q1 σ H ρ m _ _ o h fun x H1 d m1 p1 s1 h1 r1 => ?_
  refine q2 σ H1 ρ m1 _ _ (o.mv s1 h1) p1 fun y H2 e m2 p2 s2 h2 r2 => ?_
  refine hr x y d e H2 m2 _ _ h2 (r1.mv s2) r2 p2 fun z H3 g m3 p3 s3 h3 r3 => ?_
  cases g with
  | bl b =>
    cases r3
    refine ⟨b, rfl, ?_⟩
    cases b with
    | true =>
      have p3 : tc ρ m3 fun w m4 => f' e w m4 P := p3
      rw [if_pos rfl]
      refine q3 σ H3 ρ m3 _ _ (o.mv (s1.trans (s2.trans s3)) h3) p3 fun w H4 g m4 p4 s4 h4 r4 => ?_
      exact hr' y w e g H4 m4 P Q h4 (r2.mv (s3.trans s4)) r4 p4 (k.mv (s1.trans (s2.trans (s3.trans s4))))
    | false =>
      rw [if_neg Bool.false_ne_true]
      exact (k.mv (s1.trans (s2.trans s3))).now h3 p3 (.bl _)
  | _ => exact (p3 : False).elim

/-! ### tests -/
def b3 (ta : TE3) : TT3 := fun ρ m P => ta ρ m fun x m1 => match x with
  | .bl k => P k m1
  | _ => False
theorem t_val (ha : PE3 X e ta) (he : ∀ whole, isTrue e X.env whole = (do let v ← whole; standAt e.pos; holding [v] (truthy v)) := by intro _; rfl) : PT3 X e (b3 ta) := by
  obtain ⟨t, p, q⟩ := ha
  refine ⟨_, pt_val p he, fun σ H ρ m P Q o h k => ?_⟩
  refine q σ H ρ m _ _ o h fun x H1 d m1 p1 s1 h1 r1 => ?_
  cases d with
  | bl b =>
    cases r1
    exact ⟨b, rfl, k b H1 m1 p1 s1 h1⟩
  | _ => exact (p1 : False).elim
theorem t_cmpR {op : CmpOp} {r : R2} {f : F2} (ho : OpR X (compareOp op) r) (hr : RL X.K r f) (ha : PE3 X a ta) (hb : PE3 X b tb) (hm : behindInMarks op b = false) : PT3 X (.Compare a [op] [b] pos) (b3 (op3 f ta tb)) := by
  obtain ⟨_, p, q⟩ := ha
  obtain ⟨_, p', q'⟩ := hb
  refine ⟨_, pt_cmpR ho p p' hm, fun σ H ρ m P Q o h k => ?_⟩
  refine el_op q q' hr σ H ρ m _ _ o h fun x H1 d m1 p1 s1 h1 r1 => ?_
  cases d with
  | bl b =>
    cases r1
    exact ⟨b, rfl, k b H1 m1 p1 s1 h1⟩
  | _ => exact (p1 : False).elim
theorem t_lt (ha : PE3 X a ta) (hb : PE3 X b tb) : PT3 X (.Compare a [.Lt] [b] pos) (b3 (op3 fLt ta tb)) := t_cmpR op_lt rl_lt ha hb (nomark _)
theorem t_le (ha : PE3 X a ta) (hb : PE3 X b tb) : PT3 X (.Compare a [.LtE] [b] pos) (b3 (op3 fLe ta tb)) := t_cmpR op_le rl_le ha hb (nomark _)
theorem t_gt (ha : PE3 X a ta) (hb : PE3 X b tb) : PT3 X (.Compare a [.Gt] [b] pos) (b3 (op3 fGt ta tb)) := t_cmpR op_gt rl_gt ha hb (nomark _)
theorem t_ge (ha : PE3 X a ta) (hb : PE3 X b tb) : PT3 X (.Compare a [.GtE] [b] pos) (b3 (op3 fGe ta tb)) := t_cmpR op_ge rl_ge ha hb (nomark _)
theorem t_eqI (ha : PE3 X a ta) (hb : PE3 X b tb) : PT3 X (.Compare a [.Eq] [b] pos) (b3 (op3 fEqI ta tb)) := t_cmpR op_eqI rl_eqI ha hb (nomark _)
theorem t_neI (ha : PE3 X a ta) (hb : PE3 X b tb) : PT3 X (.Compare a [.NotEq] [b] pos) (b3 (op3 fNeI ta tb)) := t_cmpR op_neI rl_neI ha hb (nomark _)
theorem t_eq {k : Nat} (hr : Room k X.A) (ha : PE3 X a ta) (hb : PE3 X b tb) : PT3 X (.Compare a [.Eq] [b] pos) (b3 (op3 fEq ta tb)) := t_cmpR (op_eqD hr.units) rl_eq ha hb (nomark _)
theorem t_ne {k : Nat} (hr : Room k X.A) (ha : PE3 X a ta) (hb : PE3 X b tb) : PT3 X (.Compare a [.NotEq] [b] pos) (b3 (op3 fNe ta tb)) := t_cmpR (op_neD hr.units) rl_ne ha hb (nomark _)
theorem t_isN {j pos'} (ha : PE3 X a ta) : PT3 X (.Compare a [.Is] [.Constant .none j pos'] pos) (b3 (isN3 ta)) := by
  obtain ⟨t, p, q⟩ := ha
  refine ⟨_, pt_cmp (pc_isN p), fun σ H ρ m P Q o h k => ?_⟩
  refine q σ H ρ m _ _ o h fun x H1 d m1 p1 s1 h1 r1 => ?_
  exact ⟨_, rfl, by rw [isN_eq r1]; exact k _ H1 m1 p1 s1 h1⟩
theorem t_notN {j pos'} (ha : PE3 X a ta) : PT3 X (.Compare a [.IsNot] [.Constant .none j pos'] pos) (b3 (notN3 ta)) := by
  obtain ⟨t, p, q⟩ := ha
  refine ⟨_, pt_cmp (pc_notN p), fun σ H ρ m P Q o h k => ?_⟩
  refine q σ H ρ m _ _ o h fun x H1 d m1 p1 s1 h1 r1 => ?_
  exact ⟨_, rfl, by rw [isN_eq r1]; exact k _ H1 m1 p1 s1 h1⟩
theorem t_chain {op op' : CmpOp} {r r' : R2} {f f' : F2} (ho : OpR X (compareOp op) r) (hr : RL X.K r f) (ho' : OpR X (compareOp op') r') (hr' : RL X.K r' f') (ha : PE3 X a ta) (hb : PE3 X b tb) (hc : PE3 X c tc)
    (hm : lastMarks [op, op'] [b, c] = false := by with_unfolding_all rfl) : PT3 X (.Compare a [op, op'] [b, c] pos) (b3 (chain3 f f' ta tb tc)) := by
  obtain ⟨_, p1, q1⟩ := ha
  obtain ⟨_, p2, q2⟩ := hb
  obtain ⟨_, p3, q3⟩ := hc
  refine ⟨_, pt_chain ho ho' p1 p2 p3 hm, fun σ H ρ m P Q o h k => ?_⟩
  refine q1 σ H ρ m _ _ o h fun x H1 d m1 p1 s1 h1 r1 => ?_
  refine q2 σ H1 ρ m1 _ _ (o.mv s1 h1) p1 fun y H2 e m2 p2 s2 h2 r2 => ?_
  refine hr x y d e H2 m2 _ _ h2 (r1.mv s2) r2 p2 fun z H3 g m3 p3 s3 h3 r3 => ?_
  cases g with
  | bl b =>
    cases r3
    refine ⟨b, rfl, ?_⟩
    cases b with
    | true =>
      have p3 : tc ρ m3 fun w m4 => f' e w m4 _ := p3
      rw [if_pos rfl]
      refine q3 σ H3 ρ m3 _ _ (o.mv (s1.trans (s2.trans s3)) h3) p3 fun w H4 g m4 p4 s4 h4 r4 => ?_
      refine hr' y w e g H4 m4 _ _ h4 (r2.mv (s3.trans s4)) r4 p4 fun u H5 g5 m5 p5 s5 h5 r5 => ?_
      cases g5 with
      | bl b5 =>
        cases r5
        exact ⟨b5, rfl, k b5 H5 m5 p5 (s1.trans (s2.trans (s3.trans (s4.trans s5)))) h5⟩
      | _ => exact (p5 : False).elim
    | false =>
      rw [if_neg Bool.false_ne_true]
      exact ⟨false, rfl, k false H3 m3 p3 (s1.trans (s2.trans s3)) h3⟩
  | _ => exact (p3 : False).elim
def and3 (t u : TT3) : TT3 := fun ρ m P => t ρ m fun c m1 => if c = true then u ρ m1 P else P false m1
def or3 (t u : TT3) : TT3 := fun ρ m P => t ρ m fun c m1 => if c = true then P true m1 else u ρ m1 P
def not3 (t : TT3) : TT3 := fun ρ m P => t ρ m fun c m1 => P (!c) m1
variable {rest : List Expr}
theorem t_and1 (ha : PT3 X a t) : PW3 X (.BoolOp .And [a] pos) t := let ⟨_, p, q⟩ := ha; ⟨_, pw_and1 p, q⟩
theorem t_or1 (ha : PT3 X a t) : PW3 X (.BoolOp .Or [a] pos) t := let ⟨_, p, q⟩ := ha; ⟨_, pw_or1 p, q⟩
theorem t_and (ha : PT3 X a t) (hb : PW3 X (.BoolOp .And (b :: rest) pos) u) : PW3 X (.BoolOp .And (a :: b :: rest) pos) (and3 t u) := by
  obtain ⟨_, p, q⟩ := ha
  obtain ⟨_, p', q'⟩ := hb
  refine ⟨_, pw_and p p', fun σ H ρ m P Q o h k => ?_⟩
  refine q σ H ρ m _ _ o h fun c H1 m1 p1 s1 h1 => ?_
  cases c with
  | true =>
    rw [if_pos rfl] at p1 ⊢
    exact q' σ H1 ρ m1 _ _ (o.mv s1 h1) p1 (k.mv s1)
  | false =>
    rw [if_neg Bool.false_ne_true] at p1 ⊢
    exact k false H1 m1 p1 s1 h1
theorem t_or (ha : PT3 X a t) (hb : PW3 X (.BoolOp .Or (b :: rest) pos) u) : PW3 X (.BoolOp .Or (a :: b :: rest) pos) (or3 t u) := by
  obtain ⟨_, p, q⟩ := ha
  obtain ⟨_, p', q'⟩ := hb
  refine ⟨_, pw_or p p', fun σ H ρ m P Q o h k => ?_⟩
  refine q σ H ρ m _ _ o h fun c H1 m1 p1 s1 h1 => ?_
  cases c with
  | true =>
    rw [if_pos rfl] at p1 ⊢
    exact k true H1 m1 p1 s1 h1
  | false =>
    rw [if_neg Bool.false_ne_true] at p1 ⊢
    exact q' σ H1 ρ m1 _ _ (o.mv s1 h1) p1 (k.mv s1)
theorem t_w (h : PW3 X e t) : PT3 X e t := let ⟨_, p, q⟩ := h; ⟨_, p.pt, q⟩
theorem t_not (ha : PT3 X a t) : PT3 X (.UnaryOp .Not a pos) (not3 t) := by
  obtain ⟨_, p, q⟩ := ha
  refine ⟨_, pt_not p, fun σ H ρ m P Q o h k => ?_⟩
  exact q σ H ρ m _ _ o h fun c H1 m1 p1 s1 h1 => k _ H1 m1 p1 s1 h1
/-- as values -/
def andV3 (ta tb : TE3) : TE3 := fun ρ m P => ta ρ m fun x m1 => match x with
  | .bl c => if c = true then tb ρ m1 P else P (.bl false) m1
  | _ => False
def orV3 (ta tb : TE3) : TE3 := fun ρ m P => ta ρ m fun x m1 => match x with
  | .bl c => if c = true then P (.bl true) m1 else tb ρ m1 P
  | _ => False
def notV3 (ta : TE3) : TE3 := fun ρ m P => ta ρ m fun x m1 => match x with
  | .bl c => P (.bl (!c)) m1
  | _ => False
theorem e_one {op} (h : PE3 X a ta) : PE3 X (.BoolOp op [a] pos) ta := let ⟨_, p, q⟩ := h; ⟨_, pe_one p, q⟩
theorem e_and (ha : PE3 X a ta) (hb : PE3 X (.BoolOp .And (b :: rest) pos) tb) : PE3 X (.BoolOp .And (a :: b :: rest) pos) (andV3 ta tb) := by
  obtain ⟨_, p, q⟩ := ha
  obtain ⟨_, p', q'⟩ := hb
  refine ⟨_, pe_and p p', fun σ H ρ m P Q o h k => ?_⟩
  refine q σ H ρ m _ _ o h fun x H1 d m1 p1 s1 h1 r1 => ?_
  cases d with
  | bl c =>
    cases r1
    refine ⟨c, rfl, ?_⟩
    cases c with
    | true =>
      have p2 : tb ρ m1 P := p1
      rw [if_pos rfl]
      exact q' σ H1 ρ m1 _ _ (o.mv s1 h1) p2 (k.mv s1)
    | false =>
      rw [if_neg Bool.false_ne_true]
      exact (k.mv s1).now h1 p1 (.bl _)
  | _ => exact (p1 : False).elim
theorem e_or (ha : PE3 X a ta) (hb : PE3 X (.BoolOp .Or (b :: rest) pos) tb) : PE3 X (.BoolOp .Or (a :: b :: rest) pos) (orV3 ta tb) := by
  obtain ⟨_, p, q⟩ := ha
  obtain ⟨_, p', q'⟩ := hb
  refine ⟨_, pe_or p p', fun σ H ρ m P Q o h k => ?_⟩
  refine q σ H ρ m _ _ o h fun x H1 d m1 p1 s1 h1 r1 => ?_
  cases d with
  | bl c =>
    cases r1
    refine ⟨c, rfl, ?_⟩
    cases c with
    | true =>
      rw [if_pos rfl]
      exact (k.mv s1).now h1 p1 (.bl _)
    | false =>
      have p2 : tb ρ m1 P := p1
      rw [if_neg Bool.false_ne_true]
      exact q' σ H1 ρ m1 _ _ (o.mv s1 h1) p2 (k.mv s1)
  | _ => exact (p1 : False).elim
theorem e_not (ha : PE3 X a ta) : PE3 X (.UnaryOp .Not a pos) (notV3 ta) := by
  obtain ⟨_, p, q⟩ := ha
  refine ⟨_, pe_not p, fun σ H ρ m P Q o h k => ?_⟩
  refine q σ H ρ m _ _ o h fun x H1 d m1 p1 s1 h1 r1 => ?_
  cases d with
  | bl c =>
    cases r1
    exact ⟨c, rfl, (k.mv s1).now h1 p1 (.bl _)⟩
  | _ => exact (p1 : False).elim
def if3 (t : TT3) (ta tb : TE3) : TE3 := fun ρ m P => t ρ m fun c m1 => if c = true then ta ρ m1 P else tb ρ m1 P
theorem e_if (hc : PT3 X c t) (ha : PE3 X a ta) (hb : PE3 X b tb) : PE3 X (.IfExp c a b pos) (if3 t ta tb) := by
  obtain ⟨_, p0, q0⟩ := hc
  obtain ⟨_, p, q⟩ := ha
  obtain ⟨_, p', q'⟩ := hb
  refine ⟨_, pe_ifExp p0 p p', fun σ H ρ m P Q o h k => ?_⟩
  refine q0 σ H ρ m _ _ o h fun c H1 m1 p1 s1 h1 => ?_
  cases c with
  | true =>
    rw [if_pos rfl] at p1 ⊢
    exact q σ H1 ρ m1 _ _ (o.mv s1 h1) p1 (k.mv s1)
  | false =>
    rw [if_neg Bool.false_ne_true] at p1 ⊢
    exact q' σ H1 ρ m1 _ _ (o.mv s1 h1) p1 (k.mv s1)

/-! ### argument lists, tuples, lists -/
variable {es : List Expr} {tr : TA3}
def nil3 : TA3 := fun _ m P => P [] m
def cons3 (ta : TE3) (tr : TA3) : TA3 := fun ρ m P => ta ρ m fun x m1 => tr ρ m1 fun xs m2 => P (x :: xs) m2
theorem a_nil : PA3 X [] nil3 := ⟨_, pa_nil, fun σ H ρ m P Q o h k => k [] H [] m h (Step.refl _ _) o.hr .nil⟩
theorem a_cons (ha : PE3 X e ta) (hr : PA3 X es tr) (hs : starEach (e :: es) X.env = (false, eval e X.env) :: starEach es X.env := by rfl) : PA3 X (e :: es) (cons3 ta tr) := by
  obtain ⟨_, p, q⟩ := ha
  obtain ⟨_, p', q'⟩ := hr
  refine ⟨_, pa_cons p p' hs, fun σ H ρ m P Q o h k => ?_⟩
  refine q σ H ρ m _ _ o h fun x H1 d m1 p1 s1 h1 r1 => ?_
  refine q' σ H1 ρ m1 _ _ (o.mv s1 h1) p1 fun xs H2 ds m2 p2 s2 h2 r2 => ?_
  exact k (x :: xs) H2 (d :: ds) m2 p2 (s1.trans s2) h2 (.cons (r1.mv s2) r2)
/-- a short display -/
def Short (n : Nat) : Prop := n ≤ 16000
theorem Short.line {n : Nat} (h : Short n) : n ≤ sizeLine := Nat.le_trans h (by decide)
def tup3 (tr : TA3) : TE3 := fun ρ m P => tr ρ m fun xs m1 => xs.length ≤ 16000 ∧ P (.tup xs) m1
def lst3 (tr : TA3) : TE3 := fun ρ m P => tr ρ m fun xs m1 => xs.length ≤ 16000 ∧ P (.lst xs) m1
/-- a list that will change -/
def lstM3 (tr : TA3) : TE3 := fun ρ m P => tr ρ m fun xs m1 => xs.length ≤ 16000 ∧ ∀ p, m1 p = none → P (.ref p) (put m1 p (.lst xs))
theorem e_tup {x1} (h : PA3 X es tr) : PE3 X (.Tuple es x1 pos) (tup3 tr) := by
  obtain ⟨_, p, q⟩ := h
  refine ⟨_, pe_tup p, fun σ H ρ m P Q o h k => ?_⟩
  refine q σ H ρ m _ _ o h fun xs H1 ds m1 p1 s1 h1 r1 => ⟨by rw [r1.length]; exact Short.line p1.1, fun p hp => ?_⟩
  exact k _ _ _ _ p1.2 (s1.trans (step_new hp)) (hr_new h1 hp) (.tup (.inl ⟨.inl upd_same, h1.none hp⟩) (r1.mv (step_new hp)))
theorem e_lst (h : PA3 X es tr) : PE3 X (.List es pos) (lst3 tr) := by
  obtain ⟨_, p, q⟩ := h
  refine ⟨_, pe_lst p, fun σ H ρ m P Q o h k => ?_⟩
  refine q σ H ρ m _ _ o h fun xs H1 ds m1 p1 s1 h1 r1 => ⟨by rw [r1.length]; exact Short.line p1.1, fun p hp => ?_⟩
  exact k _ _ _ _ p1.2 (s1.trans (step_new hp)) (hr_new h1 hp) (.lst (.inl ⟨.inl upd_same, h1.none hp⟩) (r1.mv (step_new hp)))
theorem e_lstM (h : PA3 X es tr) : PE3 X (.List es pos) (lstM3 tr) := by
  obtain ⟨_, p, q⟩ := h
  refine ⟨_, pe_lst p, fun σ H ρ m P Q o h k => ?_⟩
  refine q σ H ρ m _ _ o h fun xs H1 ds m1 p1 s1 h1 r1 => ⟨by rw [r1.length]; exact Short.line p1.1, fun p hp => ?_⟩
  exact k _ _ _ _ (p1.2 p (h1.none hp)) (s1.trans (step_newM hp)) (hr_newM h1 hp r1) (.ref p)

/-! ### subscripts -/
theorem atI_map {α β : Type} {xs : List α} {ys : List β} {R : α → β → Prop} (hl : xs.length = ys.length) (hg : ∀ (i : Nat) y, ys[i]? = some y → ∃ x, xs[i]? = some x ∧ R x y) {i : Int} {y : β} (h : atI ys i = some y) : ∃ x, atI xs i = some x ∧ R x y := by
  unfold atI at h ⊢
  rw [hl]
  cases e : ixN ys.length i with
  | none => rw [e] at h; cases h
  | some j =>
    rw [e] at h
    exact hg j y h
theorem Reps.atI {K : PySem.W.Frag} {H : Hp} {m : Mem} {vs : List V} {ds : List D} (r : Reps K H m vs ds) {i : Int} {d : D} (h : L2.atI ds i = some d) : ∃ v, L2.atI vs i = some v ∧ Rep K H m v d :=
  atI_map r.length (fun j y e => r.get e) h
/-- the item at a place -/
def at3 (ds : List D) (i : Int) (m : Mem) (P : DK) : Prop := match L2.atI ds i with
  | some v => P v m
  | none => False
theorem at3_some {ds : List D} {i : Int} {m : Mem} {P : DK} (h : at3 ds i m P) : ∃ v, L2.atI ds i = some v ∧ P v m := by
  unfold at3 at h
  split at h
  · rename_i v e
    exact ⟨v, e, h⟩
  · exact h.elim
def fIx : F2 := fun x y m P => match x, y with
  | .tup ds, .int i => at3 ds i m P
  | .lst ds, .int i => at3 ds i m P
  | .ref a, .int i => match m a with
    | some (.lst ds) => at3 ds i m P
    | _ => False
  | .str z, .int i => ∃ c, z.length ≤ 16000 ∧ L2.atI z.cps.toList i = some c ∧ P (.str ⟨#[c]⟩) m
  | _, _ => False
theorem rl_ix {K : PySem.W.Frag} : RL K (rIx K) fIx := by
  intro x y d e H m P Q h r1 r2 f k
  unfold fIx at f
  split at f
  · obtain ⟨v, e1, p1⟩ := at3_some f
    cases r2
    cases r1 with
    | tup t r =>
      obtain ⟨w, e2, rw2⟩ := r.atI e1
      exact .inr (.inl ⟨_, _, _, _, rfl, rfl, t.sq, e2, k.now h p1 rw2⟩)
  · obtain ⟨v, e1, p1⟩ := at3_some f
    cases r2
    cases r1 with
    | lst t r =>
      obtain ⟨w, e2, rw2⟩ := r.atI e1
      exact .inl ⟨_, _, _, _, rfl, rfl, t.sq, e2, k.now h p1 rw2⟩
  · split at f
    · rename_i ds em
      obtain ⟨v, e1, p1⟩ := at3_some f
      cases r2
      cases r1
      obtain ⟨xs, ex, r⟩ := h.lst em
      obtain ⟨w, e2, rw2⟩ := r.atI e1
      exact .inl ⟨_, _, _, _, rfl, rfl, SqL.of ex, e2, k.now h p1 rw2⟩
    · exact f.elim
  · obtain ⟨c, hz, e1, p1⟩ := f
    cases r2
    cases r1
    exact .inr (.inr ⟨_, _, c, rfl, rfl, Nat.le_trans hz (by decide), e1, k.now h p1 (.str _)⟩)
  · exact f.elim
theorem e_ix (ha : PE3 X a ta) (hb : PE3 X b tb) (hs : PlainIx b := by exact fun _ _ => rfl) : PE3 X (.Subscript a b pos) (op3 fIx ta tb) :=
  let ⟨_, p, q⟩ := ha
  let ⟨_, p', q'⟩ := hb
  ⟨_, pe_ix ix_seq p p' hs, el_op q q' rl_ix⟩

/-! ### slices of lists: a new list -/
abbrev TO3 := Env3 → Mem → (Option Int → Mem → Prop) → Prop
def OK3 (K : PySem.W.Frag) (H : Hp) (m : Mem) (P : Option Int → Mem → Prop) (Q : Option Int → Hp → Prop) : Prop := ∀ i H' m', P i m' → Step H m H' m' → HR K H' m' → Q i H'
def PO3 (X : Cx) (e : Option Expr) (t3 : TO3) : Prop := ∃ t, PO X e t ∧ ∀ σ H ρ m P Q, Ok X.K σ H ρ m → t3 ρ m P → OK3 X.K H m P Q → t σ H Q
def noPart3 : TO3 := fun _ m P => P none m
def part3 (ta : TE3) : TO3 := fun ρ m P => ta ρ m fun x m1 => match x with
  | .int i => P (some i) m1
  | _ => False
theorem o_none : PO3 X none noPart3 := ⟨_, po_none, fun σ H ρ m P Q o h k => k none H m h (Step.refl _ _) o.hr⟩
theorem o_some (ha : PE3 X a ta) : PO3 X (some a) (part3 ta) := by
  obtain ⟨_, p, q⟩ := ha
  refine ⟨_, po_some p, fun σ H ρ m P Q o h k => ?_⟩
  refine q σ H ρ m _ _ o h fun x H1 d m1 p1 s1 h1 r1 => ?_
  cases d with
  | int i =>
    cases r1
    exact ⟨i, rfl, k (some i) H1 m1 p1 s1 h1⟩
  | _ => exact (p1 : False).elim
def cutD (ds : List D) (lo hi : Option Int) : List D := (ds.drop (HT.sIx ds.length 0 lo)).take (HT.sIx ds.length ds.length hi - HT.sIx ds.length 0 lo)

/-! ### blocks -/
def nx3 : TS3 := fun D ρ m => D.nx ρ m
def seq3 (t u : TS3) : TS3 := fun D ρ m => t { D with nx := u D } ρ m
variable {st : Stmt} {sts : List Stmt} {ts us : TS3}
theorem ss_nil : PSs3 X [] nx3 := ⟨_, pss_nil, fun σ H ρ m D3 E o h l => l.nx σ H ρ m h (Step.refl _ _) o⟩
theorem ss_cons (h1 : PS3 X st ts) (h2 : PSs3 X sts us) : PSs3 X (st :: sts) (seq3 ts us) := by
  obtain ⟨_, p, q⟩ := h1
  obtain ⟨_, p', q'⟩ := h2
  refine ⟨_, pss_cons p p', fun σ H ρ m D3 E o h l => ?_⟩
  refine q σ H ρ m _ _ o h ⟨fun σ' H' ρ' m' h' s' o' => ?_, l.rt, l.bk, l.ct⟩
  exact q' σ' H' ρ' m' D3 E o' h' (l.mv s')
theorem ss_one (h1 : PS3 X st ts) : PSs3 X [st] ts := let ⟨_, p, q⟩ := h1; ⟨_, pss_one p, q⟩
def brk3 : TS3 := fun D ρ m => D.bk ρ m
def cont3 : TS3 := fun D ρ m => D.ct ρ m
theorem s_pass : PS3 X (.Pass pos) nx3 := ⟨_, ps_pass, fun σ H ρ m D3 E o h l => l.nx σ H ρ m h (Step.refl _ _) o⟩
theorem s_break : PS3 X (.Break pos) brk3 := ⟨_, ps_break, fun σ H ρ m D3 E o h l => l.bk σ H ρ m h (Step.refl _ _) o⟩
theorem s_continue : PS3 X (.Continue pos) cont3 := ⟨_, ps_continue, fun σ H ρ m D3 E o h l => l.ct σ H ρ m h (Step.refl _ _) o⟩
def drop3 (ta : TE3) : TS3 := fun D ρ m => ta ρ m fun _ m1 => D.nx ρ m1
theorem s_expr (ha : PE3 X e ta) (hs : swapsWith e none pos.line X.env = pure false := by rfl) : PS3 X (.Expr e pos) (drop3 ta) := by
  obtain ⟨_, p, q⟩ := ha
  refine ⟨_, ps_expr p hs, fun σ H ρ m D3 E o h l => ?_⟩
  exact q σ H ρ m _ _ o h fun x H1 d m1 p1 s1 h1 r1 => l.nx σ H1 ρ m1 p1 s1 (o.mv s1 h1)
def ret3 (ta : TE3) : TS3 := fun D ρ m => ta ρ m D.rt
theorem s_ret (ha : PE3 X e ta) : PS3 X (.Return (some e) pos) (ret3 ta) := by
  obtain ⟨_, p, q⟩ := ha
  exact ⟨_, ps_ret p, fun σ H ρ m D3 E o h l => q σ H ρ m _ _ o h l.rt⟩
def retN3 : TS3 := fun D _ m => D.rt .non m
theorem s_retN : PS3 X (.Return none pos) retN3 := ⟨_, ps_retN, fun σ H ρ m D3 E o h l => l.rt.now o.hr h .non⟩
def ifS3 (c : TT3) (t u : TS3) : TS3 := fun D ρ m => c ρ m fun b m1 => if b = true then t D ρ m1 else u D ρ m1
theorem s_if {sa sb : List Stmt} (hc : PT3 X c t) (ha : PSs3 X sa ts) (hb : PSs3 X sb us) : PS3 X (.If c sa sb pos) (ifS3 t ts us) := by
  obtain ⟨_, p0, q0⟩ := hc
  obtain ⟨_, p, q⟩ := ha
  obtain ⟨_, p', q'⟩ := hb
  refine ⟨_, ps_if p0 p p', fun σ H ρ m D3 E o h l => ?_⟩
  refine q0 σ H ρ m _ _ o h fun c H1 m1 p1 s1 h1 => ?_
  cases c with
  | true =>
    rw [if_pos rfl] at p1 ⊢
    exact q σ H1 ρ m1 _ _ (o.mv s1 h1) p1 (l.mv s1)
  | false =>
    rw [if_neg Bool.false_ne_true] at p1 ⊢
    exact q' σ H1 ρ m1 _ _ (o.mv s1 h1) p1 (l.mv s1)
/-- what is never come to -/
def never3 : TS3 := fun _ _ _ => False
theorem s_never : PS3 X st never3 := ⟨_, ps_never, fun _ _ _ _ _ _ _ h _ => h.elim⟩
theorem ss_never : PSs3 X sts never3 := ⟨_, pss_never, fun _ _ _ _ _ _ _ h _ => h.elim⟩

/-! ### targets -/
abbrev NK := Env3 → Mem → Prop
abbrev TG3 := D → Env3 → Mem → NK → Prop
abbrev TGs3 := List D → Env3 → Mem → NK → Prop
def GK (K : PySem.W.Frag) (H : Hp) (m : Mem) (P : NK) (Q : L2.St → Hp → Prop) : Prop := ∀ σ' H' ρ' m', P ρ' m' → Step H m H' m' → Ok K σ' H' ρ' m' → Q σ' H'
theorem GK.mv {K : PySem.W.Frag} {H H' : Hp} {m m' : Mem} {P : NK} {Q : L2.St → Hp → Prop} (k : GK K H m P Q) (s : Step H m H' m') : GK K H' m' P Q := fun v H2 d m2 p s2 h => k v H2 d m2 p (s.trans s2) h
def PG3 (X : Cx) (tg : Expr) (g3 : TG3) : Prop := ∃ g, PG X tg g ∧ ∀ v d σ H ρ m P Q, Ok X.K σ H ρ m → Rep X.K H m v d → g3 d ρ m P → GK X.K H m P Q → g v σ H Q
def PGs3 (X : Cx) (tg : List Expr) (g3 : TGs3) : Prop := ∃ g, PGs X tg g ∧ ∀ v d σ H ρ m P Q, Ok X.K σ H ρ m → Reps X.K H m v d → g3 d ρ m P → GK X.K H m P Q → g v σ H Q
def name3 (i : Nat) : TG3 := fun d ρ m P => P (ρ.set i (some d)) m
theorem g_name {i : Nat} {x : Str} (hN : X.N.Nodup) (hi : X.N[i]? = some x := by rfl) (hx : Loc X.env.scope x := by first | exact Or.inl rfl | exact Or.inr rfl) (hf : X.fn x = true ∨ X.env.scope.names.lookup x = some .local := by first | exact .inl rfl | exact .inr rfl | assumption) : PG3 X (.Name x pos) (name3 i) :=
  ⟨_, pg_name hN hi hx hf, fun v d σ H ρ m P Q o r h k => k _ H _ m h (Step.refl _ _) (o.set i r)⟩
def gnil3 : TGs3 := fun ds ρ m P => match ds with
  | [] => P ρ m
  | _ => False
def gcons3 (g : TG3) (gs : TGs3) : TGs3 := fun ds ρ m P => match ds with
  | d :: r => g d ρ m fun ρ' m' => gs r ρ' m' P
  | _ => False
variable {tg : Expr} {tgs : List Expr} {g : TG3} {gs : TGs3}
theorem gs_nil : PGs3 X [] gnil3 := ⟨_, pgs_nil, fun v d σ H ρ m P Q o r h k => by
  cases r with
  | nil => exact ⟨rfl, k σ H ρ m h (Step.refl _ _) o⟩
  | cons _ _ => exact (h : False).elim⟩
theorem gs_cons (h1 : PG3 X tg g) (h2 : PGs3 X tgs gs) (hs : (assignEach (tg :: tgs) X.env).map (·.2) = assign tg X.env :: (assignEach tgs X.env).map (·.2) := by rfl) : PGs3 X (tg :: tgs) (gcons3 g gs) := by
  obtain ⟨_, p, q⟩ := h1
  obtain ⟨_, p', q'⟩ := h2
  refine ⟨_, pgs_cons p p' hs, fun v d σ H ρ m P Q o r h k => ?_⟩
  cases r with
  | nil => exact (h : False).elim
  | cons r rr =>
    exact ⟨_, _, rfl, q _ _ σ H ρ m _ _ o r h fun σ' H' ρ' m' h' s' o' => q' _ _ σ' H' ρ' m' _ _ o' (rr.mv s') h' (k.mv s')⟩
def gtup3 (gs : TGs3) : TG3 := fun d ρ m P => match d with
  | .tup ds => gs ds ρ m P
  | _ => False
theorem g_tup {k : Nat} {n : Nat} (hc : X.calm = true) (h : PGs3 X tgs gs) (hlen : ∀ ds ρ m P, gs ds ρ m P → ds.length = n)
    (hn : (assignEach tgs X.env).length = n := by rfl) (hst : (assignEach tgs X.env).findIdx? (·.1) = none := by rfl) : PG3 X (.Tuple tgs k pos) (gtup3 gs) := by
  obtain ⟨_, p, q⟩ := h
  refine ⟨_, pg_tup hc p hn hst, fun v d σ H ρ m P Q o r h k => ?_⟩
  cases d with
  | tup ds =>
    cases r with
    | tup t r => exact ⟨_, _, rfl, t.sq, by rw [r.length]; exact hlen _ _ _ _ h, q _ _ σ H ρ m _ _ o r h k⟩
  | _ => exact (h : False).elim
theorem gl_nil : ∀ ds ρ m P, gnil3 ds ρ m P → ds.length = 0 := fun ds ρ m P h => by
  cases ds with
  | nil => rfl
  | cons _ _ => exact (h : False).elim
theorem gl_cons {i n : Nat} (hl : ∀ ds ρ m P, gs ds ρ m P → ds.length = n) : ∀ ds ρ m P, gcons3 (name3 i) gs ds ρ m P → ds.length = n + 1 := fun ds ρ m P h => by
  cases ds with
  | nil => exact (h : False).elim
  | cons d r => rw [List.length_cons, hl r _ _ _ h]
def asg3 (ta : TE3) (g : TG3) : TS3 := fun D ρ m => ta ρ m fun x m1 => g x ρ m1 D.nx
theorem s_asg (ha : PE3 X e ta) (hg : PG3 X tg g) (hs : swapsWithSole [tg] e pos.line X.env = pure false := by rfl) (hw : swappedStores [tg] e X.env = pure none := by rfl)
    (h1 : (assignEach [tg] X.env).map (·.2) = [assign tg X.env] := by rfl) : PS3 X (.Assign [tg] e pos) (asg3 ta g) := by
  obtain ⟨_, p, q⟩ := ha
  obtain ⟨_, p', q'⟩ := hg
  refine ⟨_, ps_asg p p' hs hw h1, fun σ H ρ m D3 E o h l => ?_⟩
  refine q σ H ρ m _ _ o h fun x H1 d m1 p1 s1 h1 r1 => ?_
  exact q' x d σ H1 ρ m1 _ _ (o.mv s1 h1) r1 p1 fun σ' H' ρ' m' h' s' o' => l.nx σ' H' ρ' m' h' (s1.trans s') o'
theorem s_set {i : Nat} {x : Str} {pos' : Pos} (hN : X.N.Nodup) (ha : PE3 X e ta) (hi : X.N[i]? = some x := by rfl) (hx : Loc X.env.scope x := by first | exact Or.inl rfl | exact Or.inr rfl) (hs : swapsWith e (some (.Name x pos')) pos.line X.env = pure false := by rfl) (hf : X.fn x = true ∨ X.env.scope.names.lookup x = some .local := by first | exact .inl rfl | exact .inr rfl | assumption) :
    PS3 X (.Assign [.Name x pos'] e pos) (asg3 ta (name3 i)) := by
  obtain ⟨_, p, q⟩ := ha
  refine ⟨_, ps_set hN hi hx p hs hf, fun σ H ρ m D3 E o h l => ?_⟩
  refine q σ H ρ m _ _ o h fun x H1 d m1 p1 s1 h1 r1 => ?_
  exact l.nx _ H1 _ m1 p1 s1 ((o.mv s1 h1).set i r1)
def par3 (i j : Nat) (tr : TA3) : TS3 := fun D ρ m => tr ρ m fun ds m1 => match ds with
  | [v, w] => D.nx ((ρ.set i (some v)).set j (some w)) m1
  | _ => False
theorem s_par {i j : Nat} {x y : Str} {px py pt : Pos} {kt k2 pt2} (hc : X.calm = true) (hN : X.N.Nodup) (hi : X.N[i]? = some x) (hj : X.N[j]? = some y) (hij : i ≠ j)
    (hx : X.env.scope.names.lookup x = some .local) (hy : X.env.scope.names.lookup y = some .local) (ha : PA3 X [a, b] tr)
    (hw : swappedStores [.Tuple [.Name x px, .Name y py] kt pt] (.Tuple [a, b] k2 pt2) X.env = pure (some [x, y]))
    (hs : swapsWithSole [.Tuple [.Name x px, .Name y py] kt pt] (.Tuple [a, b] k2 pt2) pos.line X.env = pure false := by rfl) :
    PS3 X (.Assign [.Tuple [.Name x px, .Name y py] kt pt] (.Tuple [a, b] k2 pt2) pos) (par3 i j tr) := by
  obtain ⟨_, p, q⟩ := ha
  refine ⟨_, ps_par hc hN hi hj hij hx hy p hw hs, fun σ H ρ m D3 E o h l => ?_⟩
  refine q σ H ρ m _ _ o h fun vs H1 ds m1 p1 s1 h1 r1 => ?_
  match ds, r1, p1 with
  | [v, w], .cons ra (.cons rb .nil), p1 => exact ⟨_, _, rfl, l.nx _ H1 _ m1 p1 s1 (((o.mv s1 h1).set i ra).set j rb)⟩
def aug3 (i : Nat) (ta : TE3) (f : F2) : TS3 := fun D ρ m => match ρ[i]? with
  | some (some x) => ta ρ m fun y m1 => f x y m1 fun z m2 => D.nx (ρ.set i (some z)) m2
  | _ => False
theorem s_aug {i : Nat} {x : Str} {op : Operator} {r : R2} {f : F2} {pos' : Pos} (hN : X.N.Nodup) (ho : OpR X (inplaceOp op) r) (hr : RL X.K r f) (ha : PE3 X e ta) (hi : X.N[i]? = some x := by rfl) (hx : Loc X.env.scope x := by first | exact Or.inl rfl | exact Or.inr rfl) (hf : X.fn x = true ∨ X.env.scope.names.lookup x = some .local := by first | exact .inl rfl | exact .inr rfl | assumption) :
    PS3 X (.AugAssign (.Name x pos') op e pos) (aug3 i ta f) := by
  obtain ⟨_, p, q⟩ := ha
  refine ⟨_, ps_aug hN hi hx p ho hf, fun σ H ρ m D3 E o h l => ?_⟩
  unfold aug3 at h
  split at h
  · rename_i d ed
    obtain ⟨v, ev, rv⟩ := o.env.2 i d ed
    refine ⟨v, ev, q σ H ρ m _ _ o h fun y H1 d2 m1 p1 s1 h1 r1 => ?_⟩
    refine hr v y d d2 H1 m1 _ _ h1 (rv.mv s1) r1 p1 fun z H2 dz m2 p2 s2 h2 r2 => ?_
    exact l.nx _ H2 _ m2 p2 (s1.trans s2) ((o.mv (s1.trans s2) h2).set i r2)
  · exact h.elim
/-- xs[i] = v of a list that may change -/
def sub3 (to ti : TE3) : TG3 := fun d ρ m P => to ρ m fun o m1 => ti ρ m1 fun i m2 => match o, i with
  | .ref p, .int k => match m2 p with
    | some (.lst ds) => match ixN ds.length k with
      | some j => P ρ (put m2 p (.lst (ds.set j d)))
      | none => False
    | _ => False
  | _, _ => False
theorem g_sub (ha : PE3 X a ta) (hb : PE3 X b tb)
    (hs : ∀ v, assign (.Subscript a b pos) X.env v = (do
      let ov ← holding [v] (eval a X.env)
      let iv ← holding [v, ov] (eval b X.env)
      standAt pos
      holding [v, ov, iv] (setItem ov iv v)
      release [v, ov, iv] []) := by intro _; rfl) : PG3 X (.Subscript a b pos) (sub3 ta tb) := by
  obtain ⟨_, p, q⟩ := ha
  obtain ⟨_, p', q'⟩ := hb
  refine ⟨_, pg_sub p p' set_list hs, fun v d σ H ρ m P Q o r h k => ?_⟩
  refine q σ H ρ m _ _ o h fun ov H1 od m1 p1 s1 h1 r1 => ?_
  refine q' σ H1 ρ m1 _ _ (o.mv s1 h1) p1 fun iv H2 idd m2 p2 s2 h2 r2 => ?_
  cases od with
  | ref pp =>
    cases idd with
    | int kk =>
      cases r1
      cases r2
      simp only at p2
      split at p2
      · rename_i ds em
        split at p2
        · rename_i j ej
          obtain ⟨xs, ex, rx⟩ := h2.lst em
          have rd : Reps X.K H2 m2 (xs.set j v) (ds.set j d) := rx.set (r.mv (s1.trans s2)) j
          refine ⟨pp, xs, kk, j, rfl, rfl, ex, by rw [rx.length]; exact ej, ?_⟩
          exact k σ _ ρ _ p2 ((s1.trans s2).trans (step_set em)) (o.mv ((s1.trans s2).trans (step_set em)) (hr_set (u := .lst (ds.set j d)) h2 em rd))
        · exact p2.elim
      · exact p2.elim
    | _ => exact (p2 : False).elim
  | _ => exact (p2 : False).elim

/-! ### while -/
def while3 (c : TT3) (tb : TS3) : TS3 := fun D ρ m => ∃ W : Nat → Env3 → Mem → Prop, (∃ n, W n ρ m) ∧ ∀ n ρ m, W n ρ m →
  c ρ m fun b m1 => if b = true then tb { D with nx := fun ρ' m' => ∃ n', n' < n ∧ W n' ρ' m', ct := fun ρ' m' => ∃ n', n' < n ∧ W n' ρ' m', bk := D.nx } ρ m1 else D.nx ρ m1
theorem s_while (hp : PassesOwn (model X.prog X.w) X.A X.env X.xe) (hc : PT3 X c t) (hb : PSs3 X sts ts) : PS3 X (.While c sts [] pos) (while3 t ts) := by
  obtain ⟨_, p, q⟩ := hc
  obtain ⟨_, p', q'⟩ := hb
  refine ⟨_, ps_while hp p p', fun σ H ρ m D3 E o h l => ?_⟩
  obtain ⟨W, ⟨n0, w0⟩, turn⟩ := h
  refine ⟨fun n σ1 H1 => ∃ ρ1 m1, Ok X.K σ1 H1 ρ1 m1 ∧ Step H m H1 m1 ∧ W n ρ1 m1, ⟨n0, ρ, m, o, Step.refl _ _, w0⟩, ?_⟩
  rintro n σ1 H1 ⟨ρ1, m1, o1, s1, w1⟩
  refine q σ1 H1 ρ1 m1 _ _ o1 (turn n ρ1 m1 w1) fun b H2 m2 p2 s2 h2 => ?_
  cases b with
  | true =>
    rw [if_pos rfl] at p2 ⊢
    refine ⟨fun σ' H' => ∃ n', n' < n ∧ ∃ ρ' m', Ok X.K σ' H' ρ' m' ∧ Step H m H' m' ∧ W n' ρ' m', fun σ' H' z => z, ?_⟩
    refine q' σ1 H2 ρ1 m2 _ _ (o1.mv s2 h2) p2 ⟨fun σ' H' ρ' m' h' s' o' => ?_, fun v H' d m' h' s' hh rr => l.rt v H' d m' h' (s1.trans (s2.trans s')) hh rr, fun σ' H' ρ' m' h' s' o' => l.nx σ' H' ρ' m' h' (s1.trans (s2.trans s')) o', fun σ' H' ρ' m' h' s' o' => ?_⟩
    · obtain ⟨n', hn, w'⟩ := h'
      exact ⟨n', hn, ρ', m', o', s1.trans (s2.trans s'), w'⟩
    · obtain ⟨n', hn, w'⟩ := h'
      exact ⟨n', hn, ρ', m', o', s1.trans (s2.trans s'), w'⟩
  | false =>
    rw [if_neg Bool.false_ne_true] at p2 ⊢
    exact l.nx σ1 H2 ρ1 m2 p2 (s1.trans s2) (o1.mv s2 h2)

/-! ### what is walked -/
abbrev TI3 := Env3 → Mem → (List D → Mem → Prop) → Prop
/-- an iterator that gives the items ds, while what does not change stands -/
def Wlk (K : PySem.W.Frag) (J : It) (ds : List D) (H : Hp) (m : Mem) : Prop := ∀ (i : Nat) H2 m2, Step H m H2 m2 → HR K H2 m2 →
  (ds.length ≤ i → J.stop i H2) ∧ ∀ d, ds[i]? = some d → J.go i H2 ∧ ∀ x H', J.yld i H2 x H' → Step H2 m2 H' m2 ∧ HR K H' m2 ∧ Rep K H' m2 x d
def PI3 (X : Cx) (tg iter : Expr) (w3 : TI3) : Prop := ∃ wi, PI X tg iter wi ∧ ∀ σ H ρ m P R, Ok X.K σ H ρ m → w3 ρ m P →
  (∀ J H1 ds m1, P ds m1 → Step H m H1 m1 → HR X.K H1 m1 → Wlk X.K J ds H1 m1 → R J H1) → wi σ H R
def seq_items : D → Option (List D)
  | .tup ds => some ds
  | .lst ds => some ds
  | _ => none
/-- a list of data -/
def ilst3 (ta : TE3) : TI3 := fun ρ m P => ta ρ m fun x m1 => match x with
  | .lst ds => P ds m1
  | _ => False
def itup3 (ta : TE3) : TI3 := fun ρ m P => ta ρ m fun x m1 => match x with
  | .tup ds => P ds m1
  | _ => False
theorem wlk_list {K : PySem.W.Frag} {H : Hp} {m : Mem} {a : Addr} {xs : List V} {ds : List D} (t : LstAt K H m a xs) (r : Reps K H m xs ds) : Wlk K (Itl K a) ds H m := by
  intro i H2 m2 s2 h2
  have t2 := (t.step s2).sq
  have r2 := r.mv s2
  refine ⟨fun hi => ⟨xs, t2, by rw [r.length]; exact hi⟩, fun d hd => ?_⟩
  obtain ⟨v, hv, rv⟩ := r2.get hd
  refine ⟨⟨xs, v, t2, hv⟩, fun x H' y => ?_⟩
  obtain ⟨e, y⟩ := y
  subst e
  have ev : x = v := Option.some.inj ((y xs t2).symm.trans hv)
  subst ev
  exact ⟨Step.refl _ _, h2, rv⟩
theorem wlk_tup {K : PySem.W.Frag} {H : Hp} {m : Mem} {a : Addr} {xs : List V} {ds : List D} (t : TupAt K H m a xs) (r : Reps K H m xs ds) : Wlk K (Itt K a) ds H m := by
  intro i H2 m2 s2 h2
  have t2 := (t.step s2).sq
  have r2 := r.mv s2
  refine ⟨fun hi => ⟨xs, t2, by rw [r.length]; exact hi⟩, fun d hd => ?_⟩
  obtain ⟨v, hv, rv⟩ := r2.get hd
  refine ⟨⟨xs, v, t2, hv⟩, fun x H' y => ?_⟩
  obtain ⟨e, y⟩ := y
  subst e
  have ev : x = v := Option.some.inj ((y xs t2).symm.trans hv)
  subst ev
  exact ⟨Step.refl _ _, h2, rv⟩
theorem i_list (ha : PE3 X a ta) : PI3 X tg a (ilst3 ta) := by
  obtain ⟨_, p, q⟩ := ha
  refine ⟨_, pi_list p, fun σ H ρ m P R o h k => ?_⟩
  refine q σ H ρ m _ _ o h fun x H1 d m1 p1 s1 h1 r1 => ?_
  cases d with
  | lst ds =>
    cases r1 with
    | lst t r => exact ⟨_, rfl, ⟨_, t.sq⟩, k _ H1 ds m1 p1 s1 h1 (wlk_list t r)⟩
  | _ => exact (p1 : False).elim
theorem i_tup (ha : PE3 X a ta) : PI3 X tg a (itup3 ta) := by
  obtain ⟨_, p, q⟩ := ha
  refine ⟨_, pi_tup p, fun σ H ρ m P R o h k => ?_⟩
  refine q σ H ρ m _ _ o h fun x H1 d m1 p1 s1 h1 r1 => ?_
  cases d with
  | tup ds =>
    cases r1 with
    | tup t r => exact ⟨_, rfl, ⟨_, t.sq⟩, k _ H1 ds m1 p1 s1 h1 (wlk_tup t r)⟩
  | _ => exact (p1 : False).elim
def rangeD (lo : Int) (n : Nat) : List D := (List.range n).map fun k => D.int (lo + (k : Nat))
theorem wlk_range {K : PySem.W.Frag} {H : Hp} {m : Mem} {lo : Int} {n : Nat} : Wlk K (Itr lo n) (rangeD lo n) H m := by
  intro i H2 m2 s2 h2
  refine ⟨fun hi => ?_, fun d hd => ?_⟩
  · unfold rangeD at hi
    rw [List.length_map, List.length_range] at hi
    exact hi
  · unfold rangeD at hd
    rw [List.getElem?_map] at hd
    cases e : (List.range n)[i]? with
    | none => rw [e] at hd; cases hd
    | some j =>
      rw [e] at hd
      obtain ⟨hl, ej⟩ := List.getElem?_eq_some_iff.mp e
      rw [List.length_range] at hl
      rw [List.getElem_range] at ej
      subst ej
      have ed : D.int (lo + (i : Nat)) = d := Option.some.inj hd
      subst ed
      refine ⟨hl, fun x H' y => ?_⟩
      obtain ⟨e1, e2⟩ := y
      subst e1 e2
      exact ⟨Step.refl _ _, h2, .int _⟩
def irng1 (tr : TA3) : TI3 := fun ρ m P => tr ρ m fun ds m1 => match ds with
  | [.int j] => (-(2 ^ 62) ≤ j ∧ j < 2 ^ 62) ∧ P (rangeD 0 j.toNat) m1
  | _ => False
def irng2 (tr : TA3) : TI3 := fun ρ m P => tr ρ m fun ds m1 => match ds with
  | [.int i, .int j] => (-(2 ^ 62) ≤ i ∧ i < 2 ^ 62 ∧ -(2 ^ 62) ≤ j ∧ j < 2 ^ 62) ∧ P (rangeD i (j - i).toNat) m1
  | _ => False
theorem i_range1 {p pos : Pos} (hg : Gl X "range") (hm : X.mg "range" = none) (ha : PA3 X [a] tr) (hs : starEach [a] X.env = [(false, eval a X.env)] := by rfl) : PI3 X tg (.Call (.Name "range" p) [a] [] pos) (irng1 tr) := by
  obtain ⟨_, p, q⟩ := ha
  refine ⟨_, pi_range1 hg hm p hs, fun σ H ρ m P R o h k => ?_⟩
  refine q σ H ρ m _ _ o h fun vs H1 ds m1 p1 s1 h1 r1 => ?_
  match ds, r1, p1 with
  | [.int j], .cons (.int _) .nil, p1 => exact ⟨j, rfl, p1.1.1, p1.1.2, k _ H1 _ m1 p1.2 s1 h1 wlk_range⟩
theorem i_range2 {p pos : Pos} (hg : Gl X "range") (hm : X.mg "range" = none) (ha : PA3 X [a, b] tr) (hs : starEach [a, b] X.env = [(false, eval a X.env), (false, eval b X.env)] := by rfl) (hs2 : starEach [b] X.env = [(false, eval b X.env)] := by rfl) :
    PI3 X tg (.Call (.Name "range" p) [a, b] [] pos) (irng2 tr) := by
  obtain ⟨_, p, q⟩ := ha
  refine ⟨_, pi_range2 hg hm p hs hs2, fun σ H ρ m P R o h k => ?_⟩
  refine q σ H ρ m _ _ o h fun vs H1 ds m1 p1 s1 h1 r1 => ?_
  match ds, r1, p1 with
  | [.int i, .int j], .cons (.int _) (.cons (.int _) .nil), p1 => exact ⟨i, j, rfl, p1.1, k _ H1 _ m1 p1.2 s1 h1 wlk_range⟩

/-! ### for -/
def forIn3 (g : TG3) (tb : TS3) (D3 : Ends3) : List D → Env3 → Mem → Prop
  | [], ρ, m => D3.nx ρ m
  | d :: ds, ρ, m => g d ρ m fun ρ1 m1 => tb { D3 with nx := forIn3 g tb D3 ds, ct := forIn3 g tb D3 ds, bk := D3.nx } ρ1 m1
def for3 (w : TI3) (g : TG3) (tb : TS3) : TS3 := fun D3 ρ m => w ρ m fun ds m1 => forIn3 g tb D3 ds ρ m1
theorem s_for {iter : Expr} {w : TI3} (hp : PassesOwn (model X.prog X.w) X.A X.env X.xe) (hc : X.calm = true) (hi : PI3 X tg iter w) (hg : PG3 X tg g) (hb : PSs3 X sts ts)
    (hs : ∀ x, foldedSetIterable iter X.env x = pure x := by intro _; rfl) : PS3 X (.For tg iter sts [] pos) (for3 w g ts) := by
  obtain ⟨_, pi, qi⟩ := hi
  obtain ⟨_, pg, qg⟩ := hg
  obtain ⟨_, pb, qb⟩ := hb
  refine ⟨_, ps_for hp hc pi pg pb hs, fun σ H ρ m D3 E o h l => ?_⟩
  refine qi σ H ρ m _ _ o h fun J H1 ds m1 p1 s1 h1 wk => ?_
  refine ⟨fun i n σ2 H2 => ∃ ρ2 m2, Ok X.K σ2 H2 ρ2 m2 ∧ Step H1 m1 H2 m2 ∧ forIn3 g ts D3 (ds.drop i) ρ2 m2 ∧ n = ds.length - i ∧ i ≤ ds.length, ⟨ds.length, ρ, m1, o.mv s1 h1, Step.refl _ _, p1, rfl, Nat.zero_le _⟩, ?_⟩
  rintro i n σ2 H2 ⟨ρ2, m2, o2, s2, f2, rfl, hi⟩
  obtain ⟨wstop, wgo⟩ := wk i H2 m2 s2 o2.hr
  by_cases hlt : i < ds.length
  · obtain ⟨go, yl⟩ := wgo ds[i] (List.getElem?_eq_getElem hlt)
    refine .inr ⟨go, fun σ' H' => ∃ ρ' m', Ok X.K σ' H' ρ' m' ∧ Step H1 m1 H' m' ∧ forIn3 g ts D3 (ds.drop (i + 1)) ρ' m', fun σ' H' ⟨ρ', m', o', s', f'⟩ => ⟨ds.length - (i + 1), by omega, ρ', m', o', s', f', rfl, hlt⟩, fun x H' y => ?_⟩
    obtain ⟨s3, h3, r3⟩ := yl x H' y
    rw [List.drop_eq_getElem_cons hlt] at f2
    refine qg x ds[i] σ2 H' ρ2 m2 _ _ (o2.mv s3 h3) r3 f2 fun σ4 H4 ρ4 m4 h4 s4 o4 => ?_
    have st : Step H1 m1 H4 m4 := s2.trans (s3.trans s4)
    refine qb σ4 H4 ρ4 m4 _ _ o4 h4 ⟨fun σ' H' ρ' m' h' s' o' => ⟨ρ', m', o', st.trans s', h'⟩, fun v H' d m' h' s' hh rr => l.rt v H' d m' h' (s1.trans (st.trans s')) hh rr, fun σ' H' ρ' m' h' s' o' => l.nx σ' H' ρ' m' h' (s1.trans (st.trans s')) o', fun σ' H' ρ' m' h' s' o' => ⟨ρ', m', o', st.trans s', h'⟩⟩
  · have e : ds.drop i = [] := List.drop_eq_nil_of_le (by omega)
    rw [e] at f2
    exact .inl ⟨wstop (by omega), l.nx σ2 H2 ρ2 m2 f2 (s1.trans s2) o2⟩

/-! ### defs: promises by data -/
abbrev Sp3 := List D → Mem → DK → Prop
def spOf (K : PySem.W.Frag) (sp : Sp3) : Sp := fun vs H Q _ => ∃ ds m P, HR K H m ∧ Reps K H m vs ds ∧ sp ds m P ∧ EK K H m P Q
def call3 (sp : Sp3) (tr : TA3) : TE3 := fun ρ m P => tr ρ m fun ds m1 => sp ds m1 P
end
/-- a def of the text: where it stands -/
structure Def (K : PySem.W.Frag) (mg : Str → Option Value) (x : Str) (st : Stmt) (ps : List Str) (f : Addr) (fd : FuncData) : Prop where
  F : Fun K x x st f fd
  b : Binds K fd ps []
  g : mg x = some (.ref f)
abbrev Fn3 (P : Program) (w : World) (K : PySem.W.Frag) (mg : Str → Option Value) (base : Heap) (k : Nat) (f : Addr) (fd : FuncData) (ps : List Str) (sp : Sp3) : Prop := FnOk P w K mg base CX0 k f fd ps (spOf K sp)
section
variable {X : Cx} {pos p : Pos} {e : Expr} {es : List Expr} {tr : TA3} {k : Nat} {x : Str} {st : Stmt} {ps : List Str} {f : Addr} {fd : FuncData} {sp : Sp3}
theorem e_call (d : Def X.K X.mg x st ps f fd) (G : Fn3 X.prog X.w X.K X.mg X.base k f fd ps sp) (hr : Room k X.A) (hg : Gl X x) (ha : PA3 X (e :: es) tr) (hdb : (x == ("__debug__" : Str)) = false := by decide) (he : starEach (e :: es) X.env = (false, eval e X.env) :: starEach es X.env := by rfl) (hpl : (backTo pos (starEach es X.env)).any (·.1) = false := by rfl) :
    PE3 X (.Call (.Name x p) (e :: es) [] pos) (call3 sp tr) := by
  obtain ⟨_, p, q⟩ := ha
  refine ⟨_, pe_call G hr hg d.g d.F.kp d.b .nil pass0 p hdb he hpl, fun σ H ρ m P Q o h k => ?_⟩
  refine q σ H ρ m _ _ o h fun vs H1 ds m1 p1 s1 h1 r1 => ?_
  rw [List.append_nil]
  exact ⟨ds, m1, P, h1, r1, p1, k.mv s1⟩
end
def start3 (N : List Str) (ds : List D) : Env3 := ds.map some ++ List.replicate (N.length - ds.length) none
theorem ok_start {K : PySem.W.Frag} {H : Hp} {m : Mem} {N : List Str} {vs : List V} {ds : List D} (h : HR K H m) (r : Reps K H m vs ds) : Ok K (L2.start N vs) H (start3 N ds) m := by
  refine ⟨⟨?_, fun i d e => ?_⟩, h⟩
  · unfold L2.start start3
    rw [List.length_append, List.length_append, List.length_map, List.length_map, List.length_replicate, List.length_replicate, r.length]
  · unfold start3 at e
    by_cases hi : i < ds.length
    · rw [List.getElem?_append_left (by rw [List.length_map]; exact hi), List.getElem?_map, List.getElem?_eq_getElem hi] at e
      have ed : ds[i] = d := by simpa using e
      obtain ⟨v, hv, rv⟩ := r.get (List.getElem?_eq_getElem hi)
      rw [ed] at rv
      refine ⟨v, ?_, rv⟩
      unfold L2.start
      rw [List.getElem?_append_left (by rw [List.length_map, r.length]; exact hi), List.getElem?_map, hv]
      rfl
    · rw [List.getElem?_append_right (by rw [List.length_map]; omega), List.getElem?_replicate] at e
      split at e
      · cases e
      · cases e
/-- THE RULE for a def -/
theorem fn3 {P : Program} {w : World} {K : PySem.W.Frag} {mg : Str → Option Value} {base : Heap} {x : Str} {st : Stmt} {f : Addr} {fd : FuncData} {N ps : List Str} {k : Nat} {sp : Sp3} (F : Fun K x x st f fd) (S : FnScope N ps (defScope st)) (len : ∀ ds m Q, sp ds m Q → ds.length = ps.length)
    (hbody : ∀ (cdv : Value) (A : Around) (outer : List Env) (s : Shared) (H : Hp) (E : XK) (ds : List D) (m : Mem) (Q : DK), Room k (A.deeper (PyProof.Rows.envOfC x (defScope st) s.heap.objs.size f cdv)) → sp ds m Q →
      ∃ t, PSs3 (cxOf CX0 P w K mg base N x (defScope st) f cdv A outer s H E).nox (defBody st) t ∧ t { nx := fun _ m' => Q .non m', rt := Q } (start3 N ds) m) : Fn3 P w K mg base (k + 1) f fd ps sp := by
  refine F.ok S (fun vs H Q E h => ?_) (fun cdv A outer s H vs Q E hr h => ?_)
  · obtain ⟨ds, m, P', h1, r1, h2, _⟩ := h
    rw [r1.length]
    exact len ds m P' h2
  · obtain ⟨ds, m, P', h1, r1, h2, ek⟩ := h
    obtain ⟨t3, ⟨t, p, q⟩, h3⟩ := hbody cdv A outer s H E ds m P' hr h2
    refine ⟨t, p, q _ H _ m _ _ (ok_start h1 r1) h3 ⟨fun σ' H' ρ' m' h' s' o' => ek .non H' .non m' h' s' o'.hr .non, ek, fun _ _ _ _ h _ _ => h.elim, fun _ _ _ _ h _ _ => h.elim⟩⟩
end D3

set_option Elab.async false
set_option linter.all false
set_option maxRecDepth 100000
set_option maxHeartbeats 4000000
/-! D3b: built-ins, slices, joined lists, the law's own end. -/
namespace D3
open PySem L2
section
variable {X : Cx} {pos p : Pos} {e a b c : Expr} {es : List Expr} {ta tb tc : TE3} {tr : TA3} {x : Str}

/-! ### lists joined, cut -/
def rCatS (K : PySem.W.Frag) : R2 := fun x y H Q => ∃ l b xs zs, x = .ref l ∧ y = .ref b ∧ SqL K H l xs ∧ SqL K H b zs ∧ xs.length + zs.length ≤ sizeLine ∧ ∀ p, H p = none → Q (.ref p) (upd H p (.lst (xs ++ zs)))
theorem op_catS : OpR X (binaryOp .Add) (rCatS X.K) := by
  intro pins s σ H x y v u Q I rx ry h
  obtain ⟨l, b, xs, zs, rfl, rfl, hH, hB, hz, q⟩ := h
  cases rx
  cases ry
  obtain ⟨its, r, ⟨⟨cls, dd, data, sl⟩, n, ho, hc, _, hd⟩, z⟩ := I.list hH
  obtain ⟨its2, r2, ⟨⟨cls2, dd2, data2, sl2⟩, n2, ho2, hc2, _, hd2⟩, z2⟩ := I.list hB
  simp only at hc hd hc2 hd2
  subst hc hd hc2 hd2
  have hl := r.length
  have hl2 := r2.length
  have ea : its.toArray ++ its2.toArray = (its ++ its2).toArray := by simp
  refine PySem.concat_meets ⟨_, ho, rfl⟩ ⟨_, ho2, rfl⟩ noFill_list_add seq_list_add PySem.F.slot_list_add PySem.F.entry_list_add (PySem.F.args_list_add_2 _ _) (PyProof.Rows.list_addW l b its.toArray its2.toArray n n2 dd dd2 sl sl2 (by rw [List.size_toArray, List.size_toArray]; omega)) ⟨ho, ho2, ?_⟩
  rw [ea]
  exact ⟨.ref _, _, I.lnew (t' := s.toks) (r.append r2) (by rw [List.length_append]; omega), rfl, q _ I.fresh⟩
def fCat : F2 := fun x y m P => match x, y with
  | .lst ds, .lst es => ds.length + es.length ≤ 16000 ∧ P (.lst (ds ++ es)) m
  | _, _ => False
theorem rl_cat {K : PySem.W.Frag} : RL K (rCatS K) fCat := by
  intro x y d e H m P Q h r1 r2 f k
  unfold fCat at f
  split at f
  · cases r1 with
    | lst t r =>
      cases r2 with
      | lst t2 r2 =>
        refine ⟨_, _, _, _, rfl, rfl, t.sq, t2.sq, by rw [r.length, r2.length]; exact Short.line f.1, fun p hp => ?_⟩
        exact k _ _ _ _ f.2 (step_new hp) (hr_new h hp) (.lst (.inl ⟨.inl upd_same, h.none hp⟩) ((r.append r2).mv (step_new hp)))
  · exact f.elim
theorem e_cat (ha : PE3 X a ta) (hb : PE3 X b tb) : PE3 X (.BinOp a .Add b pos) (op3 fCat ta tb) := e_op op_catS rl_cat ha hb
def slc3 (ta : TE3) (tl th : TO3) : TE3 := fun ρ m P => ta ρ m fun x m1 => tl ρ m1 fun lo m2 => th ρ m2 fun hi m3 => match x with
  | .lst ds => P (.lst (cutD ds lo hi)) m3
  | _ => False
theorem Reps.cut {K : PySem.W.Frag} {H : Hp} {m : Mem} {vs : List V} {ds : List D} (r : Reps K H m vs ds) (lo hi : Option Int) : Reps K H m (cutV vs lo hi) (cutD ds lo hi) := by
  unfold cutV cutD
  rw [r.length]
  exact (r.drop _).take _
theorem e_slice {lo hi : Option Expr} {tl th : TO3} {p2 : Pos} (ha : PE3 X a ta) (hl : PO3 X lo tl) (hh : PO3 X hi th) : PE3 X (.Subscript a (.Slice lo hi none p2) pos) (slc3 ta tl th) := by
  obtain ⟨_, p, q⟩ := ha
  obtain ⟨_, p1, q1⟩ := hl
  obtain ⟨_, p2, q2⟩ := hh
  refine ⟨_, pe_slice sl_list p p1 p2, fun σ H ρ m P Q o h k => ?_⟩
  refine q σ H ρ m _ _ o h fun x H1 d m1 p1 s1 h1 r1 => ?_
  refine q1 σ H1 ρ m1 _ _ (o.mv s1 h1) p1 fun lo H2 m2 p2 s2 h2 => ?_
  refine q2 σ H2 ρ m2 _ _ (o.mv (s1.trans s2) h2) p2 fun hi H3 m3 p3 s3 h3 => ?_
  cases d with
  | lst ds =>
    have r3 := r1.mv (s2.trans s3)
    cases r3 with
    | lst t r =>
      refine ⟨_, _, rfl, t.sq, fun p hp => ?_⟩
      exact k _ _ _ _ p3 ((s1.trans (s2.trans s3)).trans (step_new hp)) (hr_new h3 hp) (.lst (.inl ⟨.inl upd_same, h3.none hp⟩) ((r.cut lo hi).mv (step_new hp)))
  | _ => exact (p3 : False).elim

/-! ### built-ins -/
abbrev F1 := D → Mem → DK → Prop
def un3 (f : F1) (ta : TE3) : TE3 := fun ρ m P => ta ρ m fun x m1 => f x m1 P
def RC1 (K : PySem.W.Frag) (r : List V → Hp → VK → Prop) (f : F1) : Prop := ∀ x d H m P Q, HR K H m → Rep K H m x d → f d m P → EK K H m P Q → r [x] H Q
def RC2 (K : PySem.W.Frag) (r : List V → Hp → VK → Prop) (f : F2) : Prop := ∀ x y d e H m P Q, HR K H m → Rep K H m x d → Rep K H m y e → f d e m P → EK K H m P Q → r [x, y] H Q
theorem e_b1 {id : String} {r : List V → Hp → VK → Prop} {f : F1} (hc : CallR X (.builtin id) r) (hr : RC1 X.K r f) (hg : Gl X x) (hm : X.mg x = none) (hv : bootBuiltins x = some (.builtin id)) (ha : PE3 X a ta) (hn : x ≠ "__name__" := by decide) (hdb : (x == ("__debug__" : Str)) = false := by decide)
    (he : starEach [a] X.env = (false, eval a X.env) :: starEach [] X.env := by rfl) (hpl : (backTo pos (starEach [] X.env)).any (·.1) = false := by rfl) : PE3 X (.Call (.Name x p) [a] [] pos) (un3 f ta) := by
  obtain ⟨_, p, q⟩ := ha
  refine ⟨_, pe_callB hc hg hm hv (pa_cons p pa_nil he) hn hdb he hpl, fun σ H ρ m P Q o h k => ?_⟩
  refine q σ H ρ m _ _ o h fun x H1 d m1 p1 s1 h1 r1 => ?_
  exact hr x d H1 m1 P Q h1 r1 p1 (k.mv s1)
theorem e_b2 {id : String} {r : List V → Hp → VK → Prop} {f : F2} (hc : CallR X (.builtin id) r) (hr : RC2 X.K r f) (hg : Gl X x) (hm : X.mg x = none) (hv : bootBuiltins x = some (.builtin id)) (ha : PE3 X a ta) (hb : PE3 X b tb) (hn : x ≠ "__name__" := by decide) (hdb : (x == ("__debug__" : Str)) = false := by decide)
    (he : starEach [a, b] X.env = (false, eval a X.env) :: starEach [b] X.env := by rfl) (he2 : starEach [b] X.env = (false, eval b X.env) :: starEach [] X.env := by rfl) (hpl : (backTo pos (starEach [b] X.env)).any (·.1) = false := by rfl) : PE3 X (.Call (.Name x p) [a, b] [] pos) (op3 f ta tb) := by
  obtain ⟨_, p, q⟩ := ha
  obtain ⟨_, p', q'⟩ := hb
  refine ⟨_, pe_callB hc hg hm hv (pa_cons p (pa_cons p' pa_nil he2) he) hn hdb he hpl, fun σ H ρ m P Q o h k => ?_⟩
  refine q σ H ρ m _ _ o h fun x H1 d m1 p1 s1 h1 r1 => ?_
  refine q' σ H1 ρ m1 _ _ (o.mv s1 h1) p1 fun y H2 e m2 p2 s2 h2 r2 => ?_
  exact hr x y d e H2 m2 P Q h2 (r1.mv s2) r2 p2 (k.mv (s1.trans s2))
def fAbs : F1 := fun x m P => match x with
  | .int i => P (.int (if i < 0 then -i else i)) m
  | _ => False
theorem e_abs (hg : Gl X "abs") (hm : X.mg "abs" = none) (ha : PE3 X a ta) (he : starEach [a] X.env = (false, eval a X.env) :: starEach [] X.env := by rfl) (hpl : (backTo pos (starEach [] X.env)).any (·.1) = false := by rfl) : PE3 X (.Call (.Name "abs" p) [a] [] pos) (un3 fAbs ta) :=
  e_b1 (f := fAbs) call_abs (fun x d H m P Q h r f k => by
    unfold fAbs at f
    split at f
    · cases r
      exact ⟨_, rfl, k.now h f (.int _)⟩
    · exact f.elim) hg hm PyProof.Rows.boot_abs ha (by decide) (by decide) he hpl
def fMin : F2 := fI0 fun i j => .int (if j < i then j else i)
def fMax : F2 := fI0 fun i j => .int (if j > i then j else i)
theorem e_min2 (hg : Gl X "min") (hm : X.mg "min" = none) (ha : PE3 X a ta) (hb : PE3 X b tb) (hc : X.calm = true := by rfl) (he : starEach [a, b] X.env = (false, eval a X.env) :: starEach [b] X.env := by rfl) (he2 : starEach [b] X.env = (false, eval b X.env) :: starEach [] X.env := by rfl) (hpl : (backTo pos (starEach [b] X.env)).any (·.1) = false := by rfl) : PE3 X (.Call (.Name "min" p) [a, b] [] pos) (op3 fMin ta tb) :=
  e_b2 (f := fMin) (call_min2 hc) (fun x y d e H m P Q h r1 r2 f k => by
    unfold fMin fI0 at f
    split at f
    · cases r1
      cases r2
      exact ⟨_, _, rfl, k.now h f (.int _)⟩
    · exact f.elim) hg hm PyProof.Rows.boot_min ha hb (by decide) (by decide) he he2 hpl
theorem e_max2 (hg : Gl X "max") (hm : X.mg "max" = none) (ha : PE3 X a ta) (hb : PE3 X b tb) (hc : X.calm = true := by rfl) (he : starEach [a, b] X.env = (false, eval a X.env) :: starEach [b] X.env := by rfl) (he2 : starEach [b] X.env = (false, eval b X.env) :: starEach [] X.env := by rfl) (hpl : (backTo pos (starEach [b] X.env)).any (·.1) = false := by rfl) : PE3 X (.Call (.Name "max" p) [a, b] [] pos) (op3 fMax ta tb) :=
  e_b2 (f := fMax) (call_max2 hc) (fun x y d e H m P Q h r1 r2 f k => by
    unfold fMax fI0 at f
    split at f
    · cases r1
      cases r2
      exact ⟨_, _, rfl, k.now h f (.int _)⟩
    · exact f.elim) hg hm PyProof.Rows.boot_max ha hb (by decide) (by decide) he he2 hpl
def fLen : F1 := fun x m P => match x with
  | .lst ds => P (.int ds.length) m
  | .tup ds => P (.int ds.length) m
  | .ref a => match m a with
    | some (.lst ds) => P (.int ds.length) m
    | _ => False
  | _ => False
theorem e_len (hg : Gl X "len") (hm : X.mg "len" = none) (ha : PE3 X a ta) (he : starEach [a] X.env = (false, eval a X.env) :: starEach [] X.env := by rfl) (hpl : (backTo pos (starEach [] X.env)).any (·.1) = false := by rfl) : PE3 X (.Call (.Name "len" p) [a] [] pos) (un3 fLen ta) :=
  e_b1 (f := fLen) call_len_seq (fun x d H m P Q h r f k => by
    unfold fLen at f
    split at f
    · cases r with
      | lst t r => exact ⟨_, _, rfl, .inl t.sq, k.now h f (by rw [r.length]; exact .int _)⟩
    · cases r with
      | tup t r => exact ⟨_, _, rfl, .inr t.sq, k.now h f (by rw [r.length]; exact .int _)⟩
    · split at f
      · rename_i ds em
        obtain ⟨xs, ex, rx⟩ := h.lst em
        cases r
        exact ⟨_, _, rfl, .inl (SqL.of ex), k.now h f (by rw [rx.length]; exact .int _)⟩
      · exact f.elim
    · exact f.elim) hg hm PySem.boot_len ha (by decide) (by decide) he hpl

/-! ### isinstance -/
/-- the built-in class of data, by name -/
def dTy : D → Option String
  | .non => some "NoneType"
  | .bl _ => some "bool"
  | .int _ => some "int"
  | .str _ => some "str"
  | .tup _ => some "tuple"
  | .lst _ => some "list"
  | _ => none
theorem dTy_ty {K : PySem.W.Frag} {H : Hp} {m : Mem} {v : V} {d : D} {n : String} (r : Rep K H m v d) (h : dTy d = some n) : TyX K H v (.type n) := by
  cases r with
  | non => cases h; exact .base .non
  | bl b => cases h; exact .base (.bl b)
  | int i => cases h; exact .base (.int i)
  | str i => cases h; exact .base (.str i)
  | ref a => cases h
  | ty a => cases h
  | tup t _ =>
    cases h
    rcases t with ⟨t | ⟨o, t⟩, _⟩ | ⟨o, its, n, t, tc, _⟩
    · exact .base (.tup t)
    · exact .fTuple t
    · exact .kTuple t tc
  | lst t _ =>
    cases h
    rcases t with ⟨t | ⟨o, t⟩, _⟩ | ⟨o, its, n, t, tc, _⟩
    · exact .base (.lst t)
    · exact .base (.frz t)
    · exact .kList t tc
/-- isinstance of built-in classes: what it says -/
def isiD (d : D) (n : String) : Option Bool := match d, n with
  | .int _, "int" => some true
  | .bl _, "int" => some true
  | .bl _, "bool" => some true
  | .int _, "bool" => some false
  | .non, "int" => some false
  | .str _, "int" => some false
  | .tup _, "int" => some false
  | .lst _, "int" => some false
  | .non, "bool" => some false
  | .str _, "bool" => some false
  | .tup _, "bool" => some false
  | .lst _, "bool" => some false
  | .tup _, "tuple" => some true
  | .int _, "tuple" => some false
  | .bl _, "tuple" => some false
  | .non, "tuple" => some false
  | .str _, "tuple" => some false
  | .lst _, "tuple" => some false
  | .str _, "str" => some true
  | .int _, "str" => some false
  | .bl _, "str" => some false
  | .non, "str" => some false
  | .tup _, "str" => some false
  | .lst _, "str" => some false
  | .lst _, "list" => some true
  | .int _, "list" => some false
  | .bl _, "list" => some false
  | .non, "list" => some false
  | .tup _, "list" => some false
  | .str _, "list" => some false
  | _, _ => none
def fIsi : F2 := fun x y m P => match y with
  | .ty n => match isiD x n with
    | some b => P (.bl b) m
    | none => False
  | _ => False
theorem isiD_kit {d : D} {n : String} {b : Bool} (h : isiD d n = some b) : ∃ t, dTy d = some t ∧ kitB t n = some b := by
  unfold isiD at h
  split at h <;> first
    | (cases h; exact ⟨_, rfl, by decide +kernel⟩)
    | cases h
theorem e_isi (hg : Gl X "isinstance") (hm : X.mg "isinstance" = none) (ha : PE3 X a ta) (hb : PE3 X b tb) (he : starEach [a, b] X.env = (false, eval a X.env) :: starEach [b] X.env := by rfl) (he2 : starEach [b] X.env = (false, eval b X.env) :: starEach [] X.env := by rfl) (hpl : (backTo pos (starEach [b] X.env)).any (·.1) = false := by rfl) : PE3 X (.Call (.Name "isinstance" p) [a, b] [] pos) (op3 fIsi ta tb) :=
  e_b2 (f := fIsi) call_isi (fun x y d e H m P Q h r1 r2 f k => by
    unfold fIsi at f
    split at f
    · split at f
      · rename_i n b eb
        obtain ⟨t, e1, e2⟩ := isiD_kit eb
        cases r2
        exact ⟨_, _, _, _, b, rfl, .ty _, dTy_ty r1 e1, kit_ty e2, k.now h f (.bl _)⟩
      · exact f.elim
    · exact f.elim) hg hm PyProof.Rows.boot_isinstance ha hb (by decide) (by decide) he he2 hpl

theorem iop_mulX : OpR X (inplaceOp .Mult) (rI CMulX fun i j => .int (i * j)) := opI fun _ _ _ _ _ _ _ hc q => PyProof.Rows.imul_int q hc.ok

/-! ### a list unpacked -/
variable {tgs : List Expr} {gs : TGs3}
def gunl3 (gs : TGs3) : TG3 := fun d ρ m P => match d with
  | .lst ds => gs ds ρ m P
  | .ref a => match m a with
    | some (.lst ds) => gs ds ρ m P
    | _ => False
  | _ => False
theorem g_unl {k : Nat} {n : Nat} (hc : X.calm = true) (h : PGs3 X tgs gs) (hlen : ∀ ds ρ m P, gs ds ρ m P → ds.length = n)
    (hn : (assignEach tgs X.env).length = n := by rfl) (hst : (assignEach tgs X.env).findIdx? (·.1) = none := by rfl) : PG3 X (.Tuple tgs k pos) (gunl3 gs) := by
  obtain ⟨_, p, q⟩ := h
  refine ⟨_, pg_unl hc p hn hst, fun v d σ H ρ m P Q o r h k => ?_⟩
  unfold gunl3 at h
  split at h
  · cases r with
    | lst t r => exact ⟨_, _, rfl, t.sq, by rw [r.length]; exact hlen _ _ _ _ h, q _ _ σ H ρ m _ _ o r h k⟩
  · split at h
    · rename_i ds em
      cases r
      obtain ⟨xs, ex, rx⟩ := o.hr.lst em
      exact ⟨_, _, rfl, SqL.of ex, by rw [rx.length]; exact hlen _ _ _ _ h, q _ _ σ H ρ m _ _ o rx h k⟩
    · exact h.elim
  · exact h.elim
end

/-! ### a list that will not change any more -/
def frz3 (i : Nat) (ts : TS3) : TS3 := fun D ρ m => match ρ[i]? with
  | some (some (.ref a)) => match m a with
    | some (.lst ds) => ts D (ρ.set i (some (.lst ds))) (del m a)
    | _ => False
  | _ => False
theorem ss_frz {X : Cx} {i : Nat} {sts : List Stmt} {ts : TS3} (h : PSs3 X sts ts) : PSs3 X sts (frz3 i ts) := by
  obtain ⟨_, p, q⟩ := h
  refine ⟨_, p, fun σ H ρ m D3 E o h l => ?_⟩
  unfold frz3 at h
  split at h
  · rename_i a ea
    split at h
    · rename_i ds em
      obtain ⟨xs, ex, rx⟩ := o.hr.lst em
      obtain ⟨v, ev, rv⟩ := o.env.2 i _ ea
      cases rv
      have da : del m a a = none := by unfold del; rw [if_pos rfl]
      have rl : Rep X.K H (del m a) (.ref a) (.lst ds) := .lst (.inl ⟨.inl ex, da⟩) (rx.mv step_del)
      have o2 := (o.mv step_del (hr_del o.hr)).set i rl
      have es : σ.set i (some (V.ref a)) = σ := by
        obtain ⟨hl, e⟩ := List.getElem?_eq_some_iff.mp ev
        rw [← e, List.set_getElem_self]
      rw [es] at o2
      exact q σ H _ _ D3 E o2 h (l.mv step_del)
    · exact h.elim
  · exact h.elim

/-! ### the law -/
def spLaw (K : PySem.W.Frag) : Sp := fun vs H Q _ => ∃ (a : Addr) (ns : List Int), vs = [.ref a] ∧ SqL K H a (ns.map V.int) ∧ ns.length ≤ 63 ∧ ∀ H', Q (.bl true) H'
def sp3Law : Sp3 := fun ds m P => ∃ ns : List Int, ds = [.lst (ns.map D.int)] ∧ ns.length ≤ 63 ∧ ∀ m', P (.bl true) m'
theorem law_end {P : Program} {w : World} {K : PySem.W.Frag} {mg : Str → Option Value} {base : Heap} {k : Nat} {f : Addr} {fd : FuncData} (F : Fn3 P w K mg base k f fd ["script"] sp3Law) : FnOk P w K mg base CX0 k f fd ["script"] (spLaw K) := by
  refine F.imp fun vs H Q E h => ?_
  obtain ⟨a, ns, rfl, hS, hl, q⟩ := h
  refine ⟨[.lst (ns.map D.int)], fun _ => none, fun d _ => d = .bl true, fun a u e => (nomatch e), .cons (.lst (xs := ns.map V.int) ?_ (Reps.ints ns)) .nil, ⟨ns, rfl, hl, fun _ => rfl⟩, fun v H' d m' p _ _ r => ?_⟩
  · rcases hS with h | h
    · exact .inl ⟨h, rfl⟩
    · exact .inr h
  · subst p
    cases r
    exact q H'

/-! ### tests -/
theorem iteD {p A B : Prop} [Decidable p] (h1 : p → A) (h2 : ¬ p → B) : if decide p = true then A else B := by
  by_cases h : p
  · rw [decide_eq_true h]; exact h1 h
  · rw [decide_eq_false h]; exact h2 h
theorem iteDn {p A B : Prop} [Decidable p] (h1 : ¬ p → A) (h2 : p → B) : if (!decide p) = true then A else B := by
  by_cases h : p
  · rw [decide_eq_true h]; exact h2 h
  · rw [decide_eq_false h]; exact h1 h
theorem iteB {b : Bool} {A B : Prop} (h1 : b = true → A) (h2 : b = false → B) : if b = true then A else B := by
  cases b
  · exact h2 rfl
  · exact h1 rfl
theorem at_0 {x : D} {xs : List D} : L2.atI (x :: xs) 0 = some x := by
  unfold L2.atI ixN
  rw [if_pos (by decide), if_pos (by rw [List.length_cons]; omega)]
  rfl
theorem at_s {x : D} {xs : List D} {i : Int} (h : 0 ≤ i) : L2.atI (x :: xs) (i + 1) = L2.atI xs i := by
  unfold L2.atI ixN
  rw [if_pos (by omega), if_pos h, List.length_cons]
  by_cases c : i < (xs.length : Int)
  · rw [if_pos (by omega), if_pos c, show (i + 1).toNat = i.toNat + 1 by omega]
    rfl
  · rw [if_neg (by omega), if_neg c]
    rfl
theorem at_1 {x y : D} {xs : List D} : L2.atI (x :: y :: xs) 1 = some y := (at_s (i := 0) (by decide)).trans at_0
theorem at_2 {x y z : D} {xs : List D} : L2.atI (x :: y :: z :: xs) 2 = some z := (at_s (i := 1) (by decide)).trans at_1
theorem at_3 {x y z u : D} {xs : List D} : L2.atI (x :: y :: z :: u :: xs) 3 = some u := (at_s (i := 2) (by decide)).trans at_2
theorem at_4 {x y z u v : D} {xs : List D} : L2.atI (x :: y :: z :: u :: v :: xs) 4 = some v := (at_s (i := 3) (by decide)).trans at_3
theorem at_5 {x y z u v w : D} {xs : List D} : L2.atI (x :: y :: z :: u :: v :: w :: xs) 5 = some w := (at_s (i := 4) (by decide)).trans at_4
theorem at_6 {x y z u v w s : D} {xs : List D} : L2.atI (x :: y :: z :: u :: v :: w :: s :: xs) 6 = some s := (at_s (i := 5) (by decide)).trans at_5
theorem ix_0 {n : Nat} : ixN (n + 1) 0 = some 0 := by
  unfold ixN
  rw [if_pos (by decide), if_pos (by omega)]
  rfl
theorem ix_1 {n : Nat} : ixN (n + 1 + 1) 1 = some 1 := by
  unfold ixN
  rw [if_pos (by decide), if_pos (by omega)]
  rfl
theorem ix_2 {n : Nat} : ixN (n + 1 + 1 + 1) 2 = some 2 := by
  unfold ixN
  rw [if_pos (by decide), if_pos (by omega)]
  rfl
theorem fIx_tup {ds : List D} {i : Int} {m : Mem} {P : DK} : fIx (.tup ds) (.int i) m P = at3 ds i m P := rfl
theorem fIx_lst {ds : List D} {i : Int} {m : Mem} {P : DK} : fIx (.lst ds) (.int i) m P = at3 ds i m P := rfl
theorem fIx_ref {ds : List D} {a : Addr} {i : Int} {m : Mem} {P : DK} (h : m a = some (.lst ds)) : fIx (.ref a) (.int i) m P = at3 ds i m P := by
  unfold fIx
  simp only [h]
theorem fLen_tup {ds : List D} {m : Mem} {P : DK} : fLen (.tup ds) m P = P (.int ds.length) m := rfl
theorem fLen_lst {ds : List D} {m : Mem} {P : DK} : fLen (.lst ds) m P = P (.int ds.length) m := rfl
theorem fLen_ref {ds : List D} {a : Addr} {m : Mem} {P : DK} (h : m a = some (.lst ds)) : fLen (.ref a) m P = P (.int ds.length) m := by
  unfold fLen
  simp only [h]
theorem fI0_i {g : Int → Int → D} {i j : Int} {m : Mem} {P : DK} : fI0 g (.int i) (.int j) m P = P (g i j) m := rfl
theorem fI_i {C : Int → Int → Prop} {g : Int → Int → D} {i j : Int} {m : Mem} {P : DK} : fI C g (.int i) (.int j) m P = (C i j ∧ P (g i j) m) := rfl
theorem at3_0 {x : D} {xs : List D} {m : Mem} {P : DK} : at3 (x :: xs) 0 m P = P x m := by unfold at3; rw [at_0]
theorem at3_1 {x y : D} {xs : List D} {m : Mem} {P : DK} : at3 (x :: y :: xs) 1 m P = P y m := by unfold at3; rw [at_1]
theorem at3_2 {x y z : D} {xs : List D} {m : Mem} {P : DK} : at3 (x :: y :: z :: xs) 2 m P = P z m := by unfold at3; rw [at_2]
theorem at3_3 {x y z u : D} {xs : List D} {m : Mem} {P : DK} : at3 (x :: y :: z :: u :: xs) 3 m P = P u m := by unfold at3; rw [at_3]
theorem at3_4 {x y z u v : D} {xs : List D} {m : Mem} {P : DK} : at3 (x :: y :: z :: u :: v :: xs) 4 m P = P v m := by unfold at3; rw [at_4]
theorem at3_5 {x y z u v w : D} {xs : List D} {m : Mem} {P : DK} : at3 (x :: y :: z :: u :: v :: w :: xs) 5 m P = P w m := by unfold at3; rw [at_5]
theorem at3_6 {x y z u v w s : D} {xs : List D} {m : Mem} {P : DK} : at3 (x :: y :: z :: u :: v :: w :: s :: xs) 6 m P = P s m := by unfold at3; rw [at_6]
/-- an item at a place that is drawn -/
theorem at3_all {m : Mem} {P : DK} : ∀ {ds : List D} {i : Int}, 0 ≤ i → i < ds.length → (∀ d ∈ ds, P d m) → at3 ds i m P
  | [], i, h0, h1, _ => by exfalso; rw [List.length_nil] at h1; omega
  | d :: ds, i, h0, h1, h => by
    rw [List.length_cons] at h1
    by_cases e : i = 0
    · subst e
      rw [at3_0]
      exact h d List.mem_cons_self
    · have e2 : at3 (d :: ds) i m P = at3 ds (i - 1) m P := by
        unfold at3
        rw [show L2.atI (d :: ds) i = L2.atI ds (i - 1) from by
          conv => lhs; rw [show i = (i - 1) + 1 by omega]
          exact at_s (by omega)]
      rw [e2]
      exact at3_all (by omega) (by omega) fun x hx => h x (List.mem_cons_of_mem _ hx)
/-! ### == by kinds -/
theorem fEq_int {x y : Int} {m : Mem} {P : DK} : fEq (.int x) (.int y) m P = P (.bl (decide (x = y))) m := by
  have e : (x == y) = decide (x = y) := by rw [Bool.beq_eq_decide_eq]
  show (true = true ∧ P (.bl (x == y)) m) = _
  rw [e, eq_self, true_and]
theorem fNe_int {x y : Int} {m : Mem} {P : DK} : fNe (.int x) (.int y) m P = P (.bl (!decide (x = y))) m := by
  have e : (x == y) = decide (x = y) := by rw [Bool.beq_eq_decide_eq]
  show (true = true ∧ P (.bl (!(x == y))) m) = _
  rw [e, eq_self, true_and]
theorem fEq_bl {x y : Bool} {m : Mem} {P : DK} : fEq (.bl x) (.bl y) m P = P (.bl (x == y)) m := by
  show (true = true ∧ P (.bl (x == y)) m) = _
  rw [eq_self, true_and]
theorem fNe_bl {x y : Bool} {m : Mem} {P : DK} : fNe (.bl x) (.bl y) m P = P (.bl (!(x == y))) m := by
  show (true = true ∧ P (.bl (!(x == y))) m) = _
  rw [eq_self, true_and]
theorem fEq_pair {x y z w : Int} {m : Mem} {P : DK} : fEq (.tup [.int x, .int y]) (.tup [.int z, .int w]) m P = P (.bl (decide (x = z) && decide (y = w))) m := by
  have e1 : (x == z) = decide (x = z) := by rw [Bool.beq_eq_decide_eq]
  have e2 : (y == w) = decide (y = w) := by rw [Bool.beq_eq_decide_eq]
  show (true = true ∧ P (.bl ((x == z) && ((y == w) && true))) m) = _
  rw [e1, e2, Bool.and_true, eq_self, true_and]
theorem fNe_pair {x y z w : Int} {m : Mem} {P : DK} : fNe (.tup [.int x, .int y]) (.tup [.int z, .int w]) m P = P (.bl (!(decide (x = z) && decide (y = w)))) m := by
  have e1 : (x == z) = decide (x = z) := by rw [Bool.beq_eq_decide_eq]
  have e2 : (y == w) = decide (y = w) := by rw [Bool.beq_eq_decide_eq]
  show (true = true ∧ P (.bl (!((x == z) && ((y == w) && true)))) m) = _
  rw [e1, e2, Bool.and_true, eq_self, true_and]
/-! ### for, by what holds -/
theorem forIn3_ind {g : TG3} {tb : TS3} {D3 : Ends3} (I : List D → Env3 → Mem → Prop)
    (hs : ∀ d ds ρ m (nx : Env3 → Mem → Prop), (∀ ρ m, I ds ρ m → nx ρ m) → I (d :: ds) ρ m → g d ρ m fun ρ1 m1 => tb { D3 with nx := nx, ct := nx, bk := D3.nx } ρ1 m1)
    (hd : ∀ ρ m, I [] ρ m → D3.nx ρ m) : ∀ (ds : List D) (ρ : Env3) (m : Mem), I ds ρ m → forIn3 g tb D3 ds ρ m
  | [], ρ, m, h => hd ρ m h
  | d :: ds, ρ, m, h => hs d ds ρ m _ (fun ρ m h => forIn3_ind I hs hd ds ρ m h) h
theorem cutD_mem {ds : List D} {lo hi : Option Int} {d : D} (h : d ∈ cutD ds lo hi) : d ∈ ds := List.mem_of_mem_drop (List.mem_of_mem_take h)
theorem cutD_len (ds : List D) (lo hi : Option Int) : (cutD ds lo hi).length ≤ ds.length := by
  unfold cutD
  rw [List.length_take, List.length_drop]
  omega
theorem dIsN_non : dIsN .non = true := rfl
theorem dIsN_int {i : Int} : dIsN (.int i) = false := rfl
theorem dIsN_bl {i : Bool} : dIsN (.bl i) = false := rfl
theorem dIsN_str {i : Str} : dIsN (.str i) = false := rfl
theorem dIsN_tup {i : List D} : dIsN (.tup i) = false := rfl
theorem dIsN_lst {i : List D} : dIsN (.lst i) = false := rfl
/-- what comes later: not looked at yet -/
def Later (t : TS3) : TS3 := t
theorem seq3_stop {t u : TS3} {D : Ends3} {ρ : Env3} {m : Mem} : seq3 t u D ρ m = t { D with nx := Later u D } ρ m := rfl
theorem later_i {t : TS3} {D : Ends3} {ρ : Env3} {m : Mem} (h : t D ρ m) : Later t D ρ m := h
theorem later_eq {t : TS3} {D : Ends3} {ρ : Env3} {m : Mem} : Later t D ρ m = t D ρ m := rfl
/-! ### ways that meet again -/
theorem andV3_j {ta tb : TE3} {ρ : Env3} {m : Mem} {P : DK} {b1 b2 : Bool} (h1 : ∀ P : DK, P (.bl b1) m → ta ρ m P) (h2 : b1 = true → ∀ P : DK, P (.bl b2) m → tb ρ m P) (k : P (.bl (b1 && b2)) m) : andV3 ta tb ρ m P := by
  refine h1 _ ?_
  cases b1 with
  | true => exact h2 rfl P k
  | false => exact k
theorem orV3_j {ta tb : TE3} {ρ : Env3} {m : Mem} {P : DK} {b1 b2 : Bool} (h1 : ∀ P : DK, P (.bl b1) m → ta ρ m P) (h2 : b1 = false → ∀ P : DK, P (.bl b2) m → tb ρ m P) (k : P (.bl (b1 || b2)) m) : orV3 ta tb ρ m P := by
  refine h1 _ ?_
  cases b1 with
  | true => exact k
  | false => exact h2 rfl P k
theorem and3_j {t u : TT3} {ρ : Env3} {m : Mem} {P : Bool → Mem → Prop} {b1 b2 : Bool} (h1 : ∀ P : Bool → Mem → Prop, P b1 m → t ρ m P) (h2 : b1 = true → ∀ P : Bool → Mem → Prop, P b2 m → u ρ m P) (k : P (b1 && b2) m) : and3 t u ρ m P := by
  refine h1 _ ?_
  cases b1 with
  | true => exact h2 rfl P k
  | false => exact k
theorem or3_j {t u : TT3} {ρ : Env3} {m : Mem} {P : Bool → Mem → Prop} {b1 b2 : Bool} (h1 : ∀ P : Bool → Mem → Prop, P b1 m → t ρ m P) (h2 : b1 = false → ∀ P : Bool → Mem → Prop, P b2 m → u ρ m P) (k : P (b1 || b2) m) : or3 t u ρ m P := by
  refine h1 _ ?_
  cases b1 with
  | true => exact k
  | false => exact h2 rfl P k
theorem nc0 : ((0 : Nat) : Int) = 0 := rfl
theorem nc1 : ((1 : Nat) : Int) = 1 := rfl
theorem nc2 : ((2 : Nat) : Int) = 2 := rfl
theorem nc3 : ((3 : Nat) : Int) = 3 := rfl
theorem nc4 : ((4 : Nat) : Int) = 4 := rfl
theorem nc5 : ((5 : Nat) : Int) = 5 := rfl
theorem sh {n : Nat} (h : Nat.ble n 16000 = true := by rfl) : n ≤ 16000 := Nat.le_of_ble_eq_true h
theorem iteTrue {A B : Prop} (h : A) : if true = true then A else B := h
theorem iteFalse {A B : Prop} (h : B) : if false = true then A else B := h
end D3

set_option Elab.async false
set_option linter.all false
set_option maxRecDepth 100000
set_option maxHeartbeats 4000000
/-! Gd: str of nested data (the guards of the showing are known to be none), list comprehensions, tuple(..), int(truth). -/
namespace D3
open PySem L2

/-! ### sizes of data -/
mutual
def Pl (b : Nat) : D → Prop
  | .non => True
  | .bl _ => True
  | .int i => i.natAbs < 2 ^ b
  | .str x => x.length ≤ b ∧ ∀ c ∈ x.cps.toList, c < 16 ^ 8
  | .tup ds => Pls b ds
  | .lst ds => Pls b ds
  | .ref _ => False
  | .ty _ => False
def Pls (b : Nat) : List D → Prop
  | [] => True
  | d :: ds => Pl b d ∧ Pls b ds
end
mutual
theorem Pl.le {b c : Nat} (h : b ≤ c) : ∀ d : D, Pl b d → Pl c d
  | .non, _ => trivial
  | .bl _, _ => trivial
  | .int i, z => Nat.lt_of_lt_of_le (show i.natAbs < 2 ^ b from z) (Nat.pow_le_pow_right (by decide) h)
  | .str x, z => ⟨Nat.le_trans z.1 h, z.2⟩
  | .tup ds, z => Pls.le h ds z
  | .lst ds, z => Pls.le h ds z
  | .ref _, z => (z : False).elim
  | .ty _, z => (z : False).elim
theorem Pls.le {b c : Nat} (h : b ≤ c) : ∀ ds : List D, Pls b ds → Pls c ds
  | [], _ => trivial
  | d :: ds, z => ⟨Pl.le h d z.1, Pls.le h ds z.2⟩
end
theorem Pls.app {b : Nat} : ∀ {xs ys : List D}, Pls b xs → Pls b ys → Pls b (xs ++ ys)
  | [], _, _, h => h
  | _ :: _, _, h, h' => ⟨h.1, Pls.app h.2 h'⟩
mutual
def sz : D → Nat
  | .tup ds => szs ds + 1
  | .lst ds => szs ds + 1
  | _ => 1
def szs : List D → Nat
  | [] => 0
  | d :: ds => sz d + szs ds
end
mutual
def dp : D → Nat
  | .tup ds => dps ds + 1
  | .lst ds => dps ds + 1
  | _ => 0
def dps : List D → Nat
  | [] => 0
  | d :: ds => max (dp d) (dps ds)
end
mutual
def pyOf : D → PyData
  | .non => .none
  | .bl b => .bool b
  | .int i => .int i
  | .str x => .str x
  | .tup ds => .tuple (pysOf ds)
  | .lst ds => .list (pysOf ds)
  | .ref _ => .none
  | .ty _ => .none
def pysOf : List D → List PyData
  | [] => []
  | d :: ds => pyOf d :: pysOf ds
end
theorem log2_lt {n k : Nat} (hk : 0 < k) (h : n < 2 ^ k) : n.log2 < k := by
  by_cases h0 : n = 0
  · subst h0; rw [Nat.log2_zero]; exact hk
  · exact (Nat.log2_lt h0).mpr h
mutual
theorem py_facts {n : Nat} (h18 : 18 ≤ n) (h19 : n ≤ 1900) : ∀ d : D, Pl n d → toPy d = some (pyOf d) ∧ (pyOf d).showable = true ∧ (pyOf d).hasDict = false ∧ (pyOf d).leavesShort (n / 3 + 2) = true ∧ (pyOf d).weight + 1 ≤ (n + 1) * sz d ∧ (pyOf d).depth ≤ dp d
  | .non, _ => ⟨by rw [toPy, pyOf], rfl, rfl, rfl, by simp [pyOf, PyData.weight, sz], Nat.le_refl _⟩
  | .bl b, _ => ⟨by rw [toPy, pyOf], rfl, rfl, rfl, by simp [pyOf, PyData.weight, sz], Nat.le_refl _⟩
  | .int i, h => by
    have h : i.natAbs < 2 ^ n := h
    have h10 : i.natAbs < 10 ^ (n / 3 + 1) := by
      have e1 : 2 ^ n ≤ 2 ^ (3 * (n / 3 + 1)) := Nat.pow_le_pow_right (by decide) (by omega)
      have e2 : 2 ^ (3 * (n / 3 + 1)) = 8 ^ (n / 3 + 1) := by rw [Nat.pow_mul]
      have e3 : 8 ^ (n / 3 + 1) ≤ 10 ^ (n / 3 + 1) := Nat.pow_le_pow_left (by decide) _
      omega
    have hl : i.natAbs.log2 < n := log2_lt (by omega) h
    refine ⟨by rw [toPy, pyOf], ?_, rfl, ?_, ?_, Nat.le_refl _⟩
    · simp only [pyOf, PyData.showable, decide_eq_true_eq]; omega
    · simp only [pyOf, PyData.leavesShort, decide_eq_true_eq]
      have e := int_text_length_le10 (k := n / 3 + 1) (by omega) h10
      show (Str.ofString (toString i)).length ≤ n / 3 + 2
      rw [ofString_length]; exact e
    · simp only [pyOf, PyData.weight, sz, Nat.mul_one]
      split <;> omega
  | .str x, h => by
    have h : x.length ≤ n ∧ ∀ c ∈ x.cps.toList, c < 16 ^ 8 := h
    have h1 : x.cps.size ≤ n := h.1
    refine ⟨by rw [toPy, pyOf], rfl, rfl, ?_, ?_, Nat.le_refl _⟩
    · simp only [pyOf, PyData.leavesShort, List.all_eq_true, decide_eq_true_eq]
      exact h.2
    · simp only [pyOf, PyData.weight, sz, Nat.mul_one]; omega
  | .tup ds, h => by
    obtain ⟨a, b, c, e, f, g⟩ := pys_facts h18 h19 ds h
    refine ⟨by rw [toPy, a, pyOf]; rfl, ?_, ?_, ?_, ?_, ?_⟩
    · simpa only [pyOf, PyData.showable] using b
    · simpa only [pyOf, PyData.hasDict] using c
    · simpa only [pyOf, PyData.leavesShort] using e
    · simp only [pyOf, PyData.weight, sz, Nat.mul_add, Nat.mul_one]; omega
    · simp only [pyOf, PyData.depth, dp]; omega
  | .lst ds, h => by
    obtain ⟨a, b, c, e, f, g⟩ := pys_facts h18 h19 ds h
    refine ⟨by rw [toPy, a, pyOf]; rfl, ?_, ?_, ?_, ?_, ?_⟩
    · simpa only [pyOf, PyData.showable] using b
    · simpa only [pyOf, PyData.hasDict] using c
    · simpa only [pyOf, PyData.leavesShort] using e
    · simp only [pyOf, PyData.weight, sz, Nat.mul_add, Nat.mul_one]; omega
    · simp only [pyOf, PyData.depth, dp]; omega
  | .ref _, h => (h : False).elim
  | .ty _, h => (h : False).elim
theorem pys_facts {n : Nat} (h18 : 18 ≤ n) (h19 : n ≤ 1900) : ∀ ds : List D, Pls n ds → toPys ds = some (pysOf ds) ∧ PyData.showableAll (pysOf ds) = true ∧ PyData.hasDictAll (pysOf ds) = false ∧ PyData.leavesShortAll (n / 3 + 2) (pysOf ds) = true ∧ PyData.weightAll (pysOf ds) ≤ (n + 1) * szs ds ∧ PyData.depthAll (pysOf ds) ≤ dps ds
  | [], _ => ⟨by rw [toPys, pysOf], rfl, rfl, rfl, Nat.zero_le _, Nat.le_refl _⟩
  | d :: ds, h => by
    obtain ⟨a, b, c, e, f, g⟩ := py_facts h18 h19 d h.1
    obtain ⟨a', b', c', e', f', g'⟩ := pys_facts h18 h19 ds h.2
    refine ⟨by rw [toPys, a, a', pysOf], ?_, ?_, ?_, ?_, ?_⟩
    · simp only [pysOf, PyData.showableAll, b, b', Bool.and_self]
    · simp only [pysOf, PyData.hasDictAll, c, c', Bool.or_self]
    · simp only [pysOf, PyData.leavesShortAll, e, e', Bool.and_self]
    · simp only [pysOf, PyData.weightAll, szs, Nat.mul_add]; omega
    · simp only [pysOf, PyData.depthAll, dps]; omega
end
/-- what str tells -/
def strD : D → Str
  | .str x => x
  | d => (pyOf d).shown
/-- b bounds the leaves, k the number of parts -/
def Shw (d : D) : Prop := ∃ b k : Nat, 18 ≤ b ∧ b ≤ 1900 ∧ Pl b d ∧ sz d ≤ k ∧ (b / 3 + 4) * ((b + 1) * k) + (b / 3 + 2) ≤ 16777216 ∧ dp d ≤ 50
def fStr : F1 := fun d m P => Shw d ∧ P (.str (strD d)) m
theorem ofString_c (s : String) : ∀ c ∈ (Str.ofString s).cps.toList, c < 16 ^ 8 := by
  intro c hc
  rw [Str.ofString_eq_toList] at hc
  simp only [List.mem_map] at hc
  obtain ⟨x, _, rfl⟩ := hc
  have h := UInt32.toNat_lt x.val
  show x.val.toNat < 16 ^ 8
  omega
/-- the text of a whole number -/
theorem pl_digits {i : Int} (h : i.natAbs < 10 ^ 20) {b : Nat} (hb : 21 ≤ b) : Pl b (.str (toString i)) := by
  refine ⟨?_, ofString_c _⟩
  rw [ofString_length]
  exact Nat.le_trans (int_text_length_le10 (k := 20) (by decide) h) hb
/-- scalars by == and != -/
def fEqS : F2 := fun x y m P => match x, y with
  | .str a, .str b => P (.bl (decide (a = b))) m
  | .int a, .str _ => P (.bl false) m
  | .str _, .int _ => P (.bl false) m
  | .str _, .non => P (.bl false) m
  | .non, .str _ => P (.bl false) m
  | .bl _, .str _ => P (.bl false) m
  | .str _, .bl _ => P (.bl false) m
  | _, _ => False
def fNeS : F2 := fun x y m P => match x, y with
  | .str a, .str b => P (.bl (!decide (a = b))) m
  | .int a, .str _ => P (.bl true) m
  | .str _, .int _ => P (.bl true) m
  | .str _, .non => P (.bl true) m
  | .non, .str _ => P (.bl true) m
  | .bl _, .str _ => P (.bl true) m
  | .str _, .bl _ => P (.bl true) m
  | _, _ => False
theorem fEqS_s {a b : Str} {m : Mem} {P : DK} : fEqS (.str a) (.str b) m P = P (.bl (decide (a = b))) m := rfl
theorem fNeS_s {a b : Str} {m : Mem} {P : DK} : fNeS (.str a) (.str b) m P = P (.bl (!decide (a = b))) m := rfl
theorem rl_eqS {K : PySem.W.Frag} : RL K rEq fEqS := by
  intro x y d e H m P Q h r1 r2 f k
  unfold fEqS at f
  split at f <;> first | exact f.elim | (cases r1; cases r2; first | exact ⟨rfl, k.now h f (by simp; exact .bl _)⟩ | exact ⟨rfl, k.now h f (by simpa using Rep.bl _)⟩)
theorem rl_neS {K : PySem.W.Frag} : RL K rNe fNeS := by
  intro x y d e H m P Q h r1 r2 f k
  unfold fNeS at f
  split at f <;> first | exact f.elim | (cases r1; cases r2; first | exact ⟨rfl, k.now h f (by simp; exact .bl _)⟩ | exact ⟨rfl, k.now h f (by simpa using Rep.bl _)⟩)
section
variable {X : Cx} {pos p : Pos} {e a b c : Expr} {ta tb tc : TE3} {x : Str} {k : Nat}
theorem e_eqS (ha : PE3 X a ta) (hb : PE3 X b tb) : PE3 X (.Compare a [.Eq] [b] pos) (op3 fEqS ta tb) := e_cmpR op_eq rl_eqS ha hb (nomark _)
theorem e_neS (ha : PE3 X a ta) (hb : PE3 X b tb) : PE3 X (.Compare a [.NotEq] [b] pos) (op3 fNeS ta tb) := e_cmpR op_ne rl_neS ha hb (nomark _)
theorem t_eqS (ha : PE3 X a ta) (hb : PE3 X b tb) : PT3 X (.Compare a [.Eq] [b] pos) (b3 (op3 fEqS ta tb)) := t_cmpR op_eq rl_eqS ha hb (nomark _)
theorem t_neS (ha : PE3 X a ta) (hb : PE3 X b tb) : PT3 X (.Compare a [.NotEq] [b] pos) (b3 (op3 fNeS ta tb)) := t_cmpR op_ne rl_neS ha hb (nomark _)
def rStrD (K : PySem.W.Frag) : List V → Hp → VK → Prop := fun xs H Q => ∃ v d m, xs = [v] ∧ Rep K H m v d ∧ Shw d ∧ Q (.str (strD d)) H
theorem call_strD (hgd : X.A.guards = some []) (hr : Room k X.A) : CallR X (.type "str") (rStrD X.K) := by
  intro pins s σ H xs us Q I r h
  obtain ⟨v, d, m, rfl, rp, ⟨b, kk, hb1, hb2, hp, hk, hz, hd⟩, q⟩ := h
  obtain ⟨u, rfl, ru⟩ := vals1 r
  obtain ⟨f1, f2, f3, f4, f5, f6⟩ := py_facts hb1 hb2 d hp
  have hu := hr.units
  have hlen : (pyOf d).shown.length ≤ sizeLine := by
    have h1 := PyData.shown_le (b / 3 + 2) (by omega) (pyOf d) f4
    have h2 : (b / 3 + 2 + 2) * (pyOf d).weight ≤ (b / 3 + 4) * ((b + 1) * kk) := Nat.mul_le_mul (by omega) (Nat.le_trans (by omega) (Nat.mul_le_mul_left (b + 1) hk))
    rw [sizeLine_eq]
    omega
  have big : ∀ a : Addr, v = .ref a → strD d = (pyOf d).shown → wpAny (model X.prog X.w) X.A (call (.type "str") [u]) (EP X pins σ Q) X.xe s := by
    intro a ev es
    subst ev
    obtain rfl : u = .ref a := ru
    obtain ⟨as, rd⟩ := Dp.reads I (pyOf d) (.ref a) (.ref a) (Rep.dp d _ _ rp f1) rfl
    refine str_of_reads rd f2 (PyData.noDict_hsm f3) hgd (by omega) (fun _ _ e => e) (fun h' t tk hk => ?_) hlen
    exact ⟨.str (strD d), H, I.kept hk, ⟨t, by rw [es]⟩, q⟩
  cases rp with
  | non =>
    cases ru
    exact PySem.P.str_of_none ⟨.str _, H, I.tok _, ⟨_, rfl⟩, q⟩
  | bl _ =>
    cases ru
    exact PySem.P.str_of_bool ⟨.str _, H, I.tok _, ⟨_, rfl⟩, q⟩
  | int i =>
    obtain ⟨t, rfl⟩ := ru
    have hi : i.natAbs.log2 < 1920 := by simpa only [pyOf, PyData.showable, decide_eq_true_eq] using f2
    exact PySem.P.str_of_int hi ⟨.str _, H, I.tok _, ⟨_, rfl⟩, q⟩
  | str y =>
    obtain ⟨t, rfl⟩ := ru
    exact PySem.P.str_of_str ⟨.str _, H, I, ⟨_, rfl⟩, q⟩
  | ref a => exact (hp : False).elim
  | ty n => exact (hp : False).elim
  | tup t r' => exact big _ rfl rfl
  | lst t r' => exact big _ rfl rfl
theorem e_ty1 {T : String} {r : List V → Hp → VK → Prop} {f : F1} (hc : CallR X (.type T) r) (hr : RC1 X.K r f) (hg : Gl X x) (hm : X.mg x = none) (hv : bootBuiltins x = some (.type T)) (ha : PE3 X a ta) (hn : x ≠ "__name__" := by decide) (hdb : (x == ("__debug__" : Str)) = false := by decide)
    (he : starEach [a] X.env = (false, eval a X.env) :: starEach [] X.env := by rfl) (hpl : (backTo pos (starEach [] X.env)).any (·.1) = false := by rfl) : PE3 X (.Call (.Name x p) [a] [] pos) (un3 f ta) := by
  obtain ⟨_, p, q⟩ := ha
  refine ⟨_, pe_callTy hc hg hm hv (pa_cons p pa_nil he) hn hdb he hpl, fun σ H ρ m P Q o h k => ?_⟩
  refine q σ H ρ m _ _ o h fun x H1 d m1 p1 s1 h1 r1 => ?_
  exact hr x d H1 m1 P Q h1 r1 p1 (k.mv s1)
theorem e_strD (hgd : X.A.guards = some []) (hr : Room k X.A) (hg : Gl X "str") (hm : X.mg "str" = none) (ha : PE3 X a ta) (he : starEach [a] X.env = (false, eval a X.env) :: starEach [] X.env := by rfl) (hpl : (backTo pos (starEach [] X.env)).any (·.1) = false := by rfl) :
    PE3 X (.Call (.Name "str" p) [a] [] pos) (un3 fStr ta) :=
  e_ty1 (call_strD hgd hr) (fun x d H m P Q h r f k => ⟨x, d, m, rfl, r, f.1, k.now h f.2 (.str _)⟩) hg hm PyProof.Rows.boot_str ha (by decide) (by decide) he hpl
/-- str of a whole number -/
def fStrI : F1 := fun d m P => match d with
  | .int i => i.natAbs.log2 < 1920 ∧ P (.str (toString i)) m
  | _ => False
theorem e_strI (hg : Gl X "str") (hm : X.mg "str" = none) (ha : PE3 X a ta) (he : starEach [a] X.env = (false, eval a X.env) :: starEach [] X.env := by rfl) (hpl : (backTo pos (starEach [] X.env)).any (·.1) = false := by rfl) :
    PE3 X (.Call (.Name "str" p) [a] [] pos) (un3 fStrI ta) :=
  e_ty1 call_str_int (fun x d H m P Q h r f k => by
    cases d with
    | int i => cases r; exact ⟨i, rfl, f.1, k.now h f.2 (.str _)⟩
    | _ => exact (f : False).elim) hg hm PyProof.Rows.boot_str ha (by decide) (by decide) he hpl
/-- a module's whole number -/
theorem e_globI {x : Str} {i : Int} {pos : Pos} (hg : Gl X x) (h : ∃ t, X.mg x = some (.int i t)) (hd : (x == ("__debug__" : Str)) = false := by decide) : PE3 X (.Name x pos) (c3 (.int i)) := by
  obtain ⟨t, h⟩ := h
  exact e_glob (v := .int i) hg h ⟨t, rfl⟩ (fun _ _ => .int i) hd
/-- int of a whole number or a truth -/
def fInt : F1 := fun d m P => match d with
  | .int i => P (.int i) m
  | .bl b => P (.int (if b then 1 else 0)) m
  | _ => False
theorem boot_int : bootBuiltins "int" = some (.type "int") := by decide +kernel
theorem boot_tuple : bootBuiltins "tuple" = some (.type "tuple") := by decide +kernel
theorem boot_list : bootBuiltins "list" = some (.type "list") := by decide +kernel
theorem e_intO (hg : Gl X "int") (hm : X.mg "int" = none) (ha : PE3 X a ta) (he : starEach [a] X.env = (false, eval a X.env) :: starEach [] X.env := by rfl) (hpl : (backTo pos (starEach [] X.env)).any (·.1) = false := by rfl) :
    PE3 X (.Call (.Name "int" p) [a] [] pos) (un3 fInt ta) :=
  e_ty1 call_int1 (fun x d H m P Q h r f k => by
    cases d with
    | int i => cases r; exact .inl ⟨i, rfl, k.now h f (.int _)⟩
    | bl b => cases r; exact .inr ⟨b, rfl, k.now h f (.int _)⟩
    | _ => exact (f : False).elim) hg hm boot_int ha (by decide) (by decide) he hpl
/-- tuple of a list or a tuple -/
def fTuple : F1 := fun d m P => match d with
  | .lst ds => P (.tup ds) m
  | .tup ds => P (.tup ds) m
  | _ => False
theorem e_tuple (hg : Gl X "tuple") (hm : X.mg "tuple" = none) (ha : PE3 X a ta) (he : starEach [a] X.env = (false, eval a X.env) :: starEach [] X.env := by rfl) (hpl : (backTo pos (starEach [] X.env)).any (·.1) = false := by rfl) :
    PE3 X (.Call (.Name "tuple" p) [a] [] pos) (un3 fTuple ta) :=
  e_ty1 call_tuple_of (fun x d H m P Q h r f k => by
    cases d with
    | lst ds =>
      cases r with
      | lst t r => exact ⟨_, _, rfl, .inl ⟨t.sq, fun l hl => k _ _ _ _ f (step_new hl) (hr_new h hl) (.tup (.inl ⟨.inl upd_same, h.none hl⟩) (r.mv (step_new hl)))⟩⟩
    | tup ds =>
      cases r with
      | tup t r => exact ⟨_, _, rfl, .inr ⟨t.sq, k.now h f (.tup t r)⟩⟩
    | _ => exact (f : False).elim) hg hm boot_tuple ha (by decide) (by decide) he hpl
/-- list of a list or a tuple: a new one that does not change -/
def fList : F1 := fun d m P => match d with
  | .lst ds => P (.lst ds) m
  | .tup ds => P (.lst ds) m
  | _ => False
theorem e_list (hg : Gl X "list") (hm : X.mg "list" = none) (ha : PE3 X a ta) (he : starEach [a] X.env = (false, eval a X.env) :: starEach [] X.env := by rfl) (hpl : (backTo pos (starEach [] X.env)).any (·.1) = false := by rfl) :
    PE3 X (.Call (.Name "list" p) [a] [] pos) (un3 fList ta) :=
  e_ty1 call_list_of (fun x d H m P Q h r f k => by
    cases d with
    | lst ds =>
      cases r with
      | lst t r => exact ⟨_, _, rfl, .inl t.sq, fun l hl => k _ _ _ _ f (step_new hl) (hr_new h hl) (.lst (.inl ⟨.inl upd_same, h.none hl⟩) (r.mv (step_new hl)))⟩
    | tup ds =>
      cases r with
      | tup t r => exact ⟨_, _, rfl, .inr t.sq, fun l hl => k _ _ _ _ f (step_new hl) (hr_new h hl) (.lst (.inl ⟨.inl upd_same, h.none hl⟩) (r.mv (step_new hl)))⟩
    | _ => exact (f : False).elim) hg hm boot_list ha (by decide) (by decide) he hpl
end

/-! ### list comprehensions of one walk, one name -/
/-- the one reading for all frames -/
def cE (K : PySem.W.Frag) (t3 : TE3) : TE := fun σ H Q => ∃ ρ m P, Ok K σ H ρ m ∧ t3 ρ m P ∧ EK K H m P Q
theorem pe_cE {X : Cx} {e : Expr} {t3 : TE3} (h : PE3 X e t3) : PE X e (cE X.K t3) := by
  obtain ⟨t, p, q⟩ := h
  refine ⟨fun pins s σ H Q I z => ?_⟩
  obtain ⟨ρ, m, P, o, h3, k⟩ := z
  exact p.run pins s σ H Q I (q σ H ρ m P Q o h3 k)
def cT (K : PySem.W.Frag) (t3 : TT3) : TT := fun σ H Q => ∃ ρ m P, Ok K σ H ρ m ∧ t3 ρ m P ∧ TK K H m P Q
theorem pt_cT {X : Cx} {e : Expr} {t3 : TT3} (h : PT3 X e t3) : PT X e (cT X.K t3) := by
  obtain ⟨t, p, q⟩ := h
  refine ⟨fun pins s σ H Q I z => ?_⟩
  obtain ⟨ρ, m, P, o, h3, k⟩ := z
  exact p.run pins s σ H Q I (q σ H ρ m P Q o h3 k)
theorem Ok.forget {K : PySem.W.Frag} {σ : L2.St} {H : Hp} {ρ : Env3} {m : Mem} (o : Ok K σ H ρ m) (i : Nat) : Ok K (wipe σ [i]) H (ρ.set i none) m := by
  refine ⟨⟨?_, fun j d h => ?_⟩, o.hr⟩
  · rw [wipe_length, List.length_set]; exact o.env.1
  · by_cases ij : i = j
    · subst ij
      rw [List.getElem?_set] at h
      simp only [if_true] at h
      split at h <;> cases h
    · rw [List.getElem?_set_ne ij] at h
      obtain ⟨v, e, r⟩ := o.env.2 j d h
      exact ⟨v, by show ((wipe σ []).set i none)[j]? = _; rw [List.getElem?_set_ne ij]; exact e, r⟩
def lcGo (i : Nat) (tt : TT3) (te : TE3) (L : Addr) (ρ : Env3) (P : DK) : List D → Mem → Prop
  | [], m => ∃ acc, m L = some (.lst acc) ∧ P (.lst acc) (del m L)
  | x :: xs, m => ∃ acc, m L = some (.lst acc) ∧ tt (ρ.set i (some x)) m fun b m3 => m3 L = some (.lst acc) ∧
      if b = true then te (ρ.set i (some x)) m3 fun y m4 => m4 L = some (.lst acc) ∧ acc.length < 16000 ∧ lcGo i tt te L ρ P xs (put m4 L (.lst (acc ++ [y]))) else lcGo i tt te L ρ P xs m3
def lc3 (w : TI3) (i : Nat) (tt : TT3) (te : TE3) : TE3 := fun ρ m P => w ρ m fun ds m1 => ∀ L, m1 L = none → lcGo i tt te L ρ P ds (put m1 L (.lst []))
def yes3 : TT3 := fun _ m P => P true m
theorem lcGo_ind {i : Nat} {te : TE3} {L : Addr} {ρ : Env3} {P : DK} (I : Nat → List D → Mem → Prop)
    (step : ∀ n x acc m (Kt : DK), m L = some (.lst acc) → I (n + 1) acc m → (∀ y m4, m4 L = some (.lst acc) → acc.length < 16000 → I n (acc ++ [y]) (put m4 L (.lst (acc ++ [y]))) → Kt y m4) → te (ρ.set i (some x)) m Kt)
    (done : ∀ acc m, m L = some (.lst acc) → I 0 acc m → P (.lst acc) (del m L)) : ∀ (xs acc : List D) (m : Mem), m L = some (.lst acc) → I xs.length acc m → lcGo i yes3 te L ρ P xs m
  | [], acc, m, e, h => ⟨acc, e, done acc m e h⟩
  | x :: xs, acc, m, e, h => ⟨acc, e, e, by
    rw [if_pos rfl]
    exact step xs.length x acc m _ e h fun y m4 e4 hl h4 => ⟨e4, hl, lcGo_ind I step done xs (acc ++ [y]) _ put_same h4⟩⟩
section
variable {X : Cx} {pos : Pos} {elt iter : Expr} {ifs : List Expr} {scope : Scope} {x : Str} {i : Nat} {p : Pos} {w : TI3} {tt : TT3} {te : TE3}
theorem lc_el {K : PySem.W.Frag} {wi : TI} {tT : TT} (qi : ∀ σ H ρ m P R, Ok K σ H ρ m → w ρ m P → (∀ J H1 ds m1, P ds m1 → Step H m H1 m1 → HR K H1 m1 → Wlk K J ds H1 m1 → R J H1) → wi σ H R) (htt : TL K tT tt) :
    EL K (tLc wi (gName i) tT (cE K te) [i]) (lc3 w i tt te) := by
  intro σ H ρ m P Q o h k
  refine qi σ H ρ m _ _ o h fun J H1 ds m1 p1 s1 h1 wk => ?_
  intro L hL
  have mL : m1 L = none := h1.none hL
  have p2 := p1 L mL
  have sA : Step H1 m1 (upd H1 L (.lst [])) (put m1 L (.lst [])) := step_newM hL
  have hA : HR K (upd H1 L (.lst [])) (put m1 L (.lst [])) := hr_newM h1 hL (show Reps _ _ _ [] [] from .nil)
  refine ⟨fun j n H2 => ∃ m2, HR K H2 m2 ∧ Step H1 m1 H2 m2 ∧ lcGo i tt te L ρ P (ds.drop j) m2 ∧ n = ds.length - j ∧ j ≤ ds.length, ⟨ds.length, _, hA, sA, p2, rfl, Nat.zero_le _⟩, ?_⟩
  rintro j n H2 ⟨m2, h2, s2, f2, rfl, hj⟩
  obtain ⟨wstop, wgo⟩ := wk j H2 m2 s2 h2
  by_cases hlt : j < ds.length
  · obtain ⟨go, yl⟩ := wgo ds[j] (List.getElem?_eq_getElem hlt)
    refine .inr ⟨go, fun H5 => ∃ m5, HR K H5 m5 ∧ Step H1 m1 H5 m5 ∧ lcGo i tt te L ρ P (ds.drop (j + 1)) m5, fun H5 ⟨m5, a5, b5, c5⟩ => ⟨ds.length - (j + 1), by omega, m5, a5, b5, c5, rfl, hlt⟩, fun v H' y => ?_⟩
    obtain ⟨s3, h3, r3⟩ := yl v H' y
    rw [List.drop_eq_getElem_cons hlt] at f2
    obtain ⟨acc, eL, f3⟩ := f2
    have oB : Ok K ((wipe σ [i]).set i (some v)) H' (ρ.set i (some ds[j])) m2 := by
      have := ((o.mv (s1.trans (s2.trans s3)) h3).forget i).set i r3
      rwa [List.set_set] at this
    refine ⟨?_, ?_⟩
    · show ((σ.set i none).set i (some v)).set i none = σ.set i none
      rw [List.set_set, List.set_set]
    · refine htt _ H' _ m2 _ _ oB f3 fun b H3 m3 p3 s4 h4 => ?_
      obtain ⟨eL3, p3⟩ := p3
      have st3 : Step H1 m1 H3 m3 := s2.trans (s3.trans s4)
      cases b with
      | false => exact ⟨m3, h4, st3, p3⟩
      | true =>
        rw [if_pos rfl] at p3 ⊢
        refine ⟨_, m3, _, oB.mv s4 h4, p3, fun y H4 d m4 p4 s5 h5 r5 => ?_⟩
        obtain ⟨eL4, hlen, p4⟩ := p4
        obtain ⟨xs, e1, rr⟩ := h5.lst eL4
        refine ⟨xs, e1, by rw [rr.length, sizeLine_eq]; omega, put m4 L (.lst (acc ++ [d])), ?_, ?_, p4⟩
        · exact hr_set h5 eL4 (show Reps _ _ _ (xs ++ [y]) (acc ++ [d]) from rr.append (.cons r5 .nil))
        · exact st3.trans (s5.trans (step_set eL4))
  · have e : ds.drop j = [] := List.drop_eq_nil_of_le (by omega)
    rw [e] at f2
    obtain ⟨acc, eL, f3⟩ := f2
    obtain ⟨xs, e1, rr⟩ := h2.lst eL
    refine .inl ⟨wstop (by omega), k _ _ _ _ f3 (s1.trans (s2.trans step_del)) (hr_del h2) (.lst (.inl ⟨.inl e1, ?_⟩) (rr.mv step_del))⟩
    unfold del
    rw [if_pos rfl]
theorem lc_mk {tT : TT} (hc : X.calm = true) (hN : X.N.Nodup) (hi : PI3 X (.Name x p) iter w) (ok : BlkOk X.N X.env.scope scope [(x, i)])
    (hg : ∀ (s : Shared) (H : Hp) (C : Addr) (cl : List (Str × Addr)) (fp : List Addr), PG (X.blk s H scope (compEnvC scope cl C X.env) fp) (.Name x p) (gName i))
    (ht : ∀ (s : Shared) (H : Hp) (C : Addr) (cl : List (Str × Addr)) (fp : List Addr), PTs (X.blk s H scope (compEnvC scope cl C X.env) fp) ifs tT) (htt : TL X.K tT tt)
    (he : ∀ (s : Shared) (H : Hp) (C : Addr) (cl : List (Str × Addr)) (fp : List Addr), PE3 (X.blk s H scope (compEnvC scope cl C X.env) fp) elt te)
    (hs : ∀ z, foldedSetIterable iter X.env z = pure z) : PE3 X (.ListComp elt [⟨.Name x p, iter, ifs, 0⟩] scope pos) (lc3 w i tt te) := by
  obtain ⟨wi, pi, qi⟩ := hi
  exact ⟨_, pe_lc hc hN pi ok hg ht (te := cE X.K te) (fun s H C cl fp => pe_cE (he s H C cl fp)) hs, lc_el qi htt⟩
/-- y = [elt for x in iter] -/
theorem lcS_mk {tT : TT} {j : Nat} {y : Str} {py spos : Pos} (hc : X.calm = true) (hN : X.N.Nodup) (hi : PI3 X (.Name x p) iter w) (ok : BlkOk X.N X.env.scope scope [(x, i)])
    (hg : ∀ (s : Shared) (H : Hp) (C : Addr) (cl : List (Str × Addr)) (fp : List Addr), PG (X.blk s H scope (compEnvC scope cl C X.env) fp) (.Name x p) (gName i))
    (ht : ∀ (s : Shared) (H : Hp) (C : Addr) (cl : List (Str × Addr)) (fp : List Addr), PTs (X.blk s H scope (compEnvC scope cl C X.env) fp) ifs tT) (htt : TL X.K tT tt)
    (he : ∀ (s : Shared) (H : Hp) (C : Addr) (cl : List (Str × Addr)) (fp : List Addr), PE3 (X.blk s H scope (compEnvC scope cl C X.env) fp) elt te)
    (hs : ∀ z, foldedSetIterable iter X.env z = pure z) (hy : X.N[j]? = some y) (hyl : X.env.scope.names.lookup y = some .local) (hsw : swapsWith (.ListComp elt [⟨.Name x p, iter, ifs, 0⟩] scope pos) (some (.Name y py)) spos.line X.env = pure true) :
    PS3 X (.Assign [.Name y py] (.ListComp elt [⟨.Name x p, iter, ifs, 0⟩] scope pos) spos) (asg3 (lc3 w i tt te) (name3 j)) := by
  obtain ⟨wi, pi, qi⟩ := hi
  refine ⟨_, ps_setLc hc hN hy hyl hsw pi ok hg ht (te := cE X.K te) (fun s H C cl fp => pe_cE (he s H C cl fp)) hs, fun σ H ρ m D3 E o h l => ?_⟩
  refine lc_el qi htt σ H ρ m _ _ o h fun x H1 d m1 p1 s1 h1 r1 => ?_
  exact l.nx _ H1 _ m1 p1 s1 ((o.mv s1 h1).set j r1)
/-- [elt for x in iter] -/
theorem e_lc (hc : X.calm = true) (hN : X.N.Nodup) (hi : PI3 X (.Name x p) iter w) (ok : BlkOk X.N X.env.scope scope [(x, i)])
    (he : ∀ (s : Shared) (H : Hp) (C : Addr) (cl : List (Str × Addr)) (fp : List Addr), PE3 (X.blk s H scope (compEnvC scope cl C X.env) fp) elt te)
    (hx : X.N[i]? = some x := by rfl) (hl : (relabel scope X.env).names.lookup x = some .local := by rfl) (hs : ∀ z, foldedSetIterable iter X.env z = pure z := by intro _; rfl) : PE3 X (.ListComp elt [⟨.Name x p, iter, [], 0⟩] scope pos) (lc3 w i yes3 te) :=
  lc_mk hc hN hi ok (fun _ _ _ _ _ => pg_name hN hx (.inl hl) (.inr hl)) (fun _ _ _ _ _ => pts_nil) (fun σ H ρ m P Q o h k => k true H m h (Step.refl _ _) o.hr) he hs
theorem e_lcIf {c : Expr} (hc : X.calm = true) (hN : X.N.Nodup) (hi : PI3 X (.Name x p) iter w) (ok : BlkOk X.N X.env.scope scope [(x, i)])
    (ht : ∀ (s : Shared) (H : Hp) (C : Addr) (cl : List (Str × Addr)) (fp : List Addr), PT3 (X.blk s H scope (compEnvC scope cl C X.env) fp) c tt)
    (he : ∀ (s : Shared) (H : Hp) (C : Addr) (cl : List (Str × Addr)) (fp : List Addr), PE3 (X.blk s H scope (compEnvC scope cl C X.env) fp) elt te)
    (hx : X.N[i]? = some x := by rfl) (hl : (relabel scope X.env).names.lookup x = some .local := by rfl) (hs : ∀ z, foldedSetIterable iter X.env z = pure z := by intro _; rfl) : PE3 X (.ListComp elt [⟨.Name x p, iter, [c], 0⟩] scope pos) (lc3 w i tt te) :=
  lc_mk (tT := cT X.K tt) hc hN hi ok (fun _ _ _ _ _ => pg_name hN hx (.inl hl) (.inr hl)) (fun s H C cl fp => pts_one (pt_cT (ht s H C cl fp))) (fun σ H ρ m P Q o h k => ⟨ρ, m, P, o, h, k⟩) he hs
theorem s_lc {j : Nat} {y : Str} {py spos : Pos} (hc : X.calm = true) (hN : X.N.Nodup) (hi : PI3 X (.Name x p) iter w) (ok : BlkOk X.N X.env.scope scope [(x, i)])
    (he : ∀ (s : Shared) (H : Hp) (C : Addr) (cl : List (Str × Addr)) (fp : List Addr), PE3 (X.blk s H scope (compEnvC scope cl C X.env) fp) elt te)
    (hsw : swapsWith (.ListComp elt [⟨.Name x p, iter, [], 0⟩] scope pos) (some (.Name y py)) spos.line X.env = pure true) (hy : X.N[j]? = some y := by rfl) (hyl : X.env.scope.names.lookup y = some .local := by rfl)
    (hx : X.N[i]? = some x := by rfl) (hl : (relabel scope X.env).names.lookup x = some .local := by rfl) (hs : ∀ z, foldedSetIterable iter X.env z = pure z := by intro _; rfl) :
    PS3 X (.Assign [.Name y py] (.ListComp elt [⟨.Name x p, iter, [], 0⟩] scope pos) spos) (asg3 (lc3 w i yes3 te) (name3 j)) :=
  lcS_mk hc hN hi ok (fun _ _ _ _ _ => pg_name hN hx (.inl hl) (.inr hl)) (fun _ _ _ _ _ => pts_nil) (fun σ H ρ m P Q o h k => k true H m h (Step.refl _ _) o.hr) he hs hy hyl hsw
theorem s_lcIf {c : Expr} {j : Nat} {y : Str} {py spos : Pos} (hc : X.calm = true) (hN : X.N.Nodup) (hi : PI3 X (.Name x p) iter w) (ok : BlkOk X.N X.env.scope scope [(x, i)])
    (ht : ∀ (s : Shared) (H : Hp) (C : Addr) (cl : List (Str × Addr)) (fp : List Addr), PT3 (X.blk s H scope (compEnvC scope cl C X.env) fp) c tt)
    (he : ∀ (s : Shared) (H : Hp) (C : Addr) (cl : List (Str × Addr)) (fp : List Addr), PE3 (X.blk s H scope (compEnvC scope cl C X.env) fp) elt te)
    (hsw : swapsWith (.ListComp elt [⟨.Name x p, iter, [c], 0⟩] scope pos) (some (.Name y py)) spos.line X.env = pure true) (hy : X.N[j]? = some y := by rfl) (hyl : X.env.scope.names.lookup y = some .local := by rfl)
    (hx : X.N[i]? = some x := by rfl) (hl : (relabel scope X.env).names.lookup x = some .local := by rfl) (hs : ∀ z, foldedSetIterable iter X.env z = pure z := by intro _; rfl) :
    PS3 X (.Assign [.Name y py] (.ListComp elt [⟨.Name x p, iter, [c], 0⟩] scope pos) spos) (asg3 (lc3 w i tt te) (name3 j)) :=
  lcS_mk (tT := cT X.K tt) hc hN hi ok (fun _ _ _ _ _ => pg_name hN hx (.inl hl) (.inr hl)) (fun s H C cl fp => pts_one (pt_cT (ht s H C cl fp))) (fun σ H ρ m P Q o h k => ⟨ρ, m, P, o, h, k⟩) he hs hy hyl hsw
end
end D3

set_option Elab.async false
set_option linter.all false
set_option maxRecDepth 100000
set_option maxHeartbeats 4000000
/-! Gd2: defs that show nested data: promises at a call with no showing under way; the law's end by these. -/
namespace D3
open PySem L2 PyProof.Rows
structure FnG (P : Program) (w : World) (K : PySem.W.Frag) (mg : Str → Option Value) (base : Heap) (k : Nat) (f : Addr) (fd : FuncData) (ps : List Str) (sp : Sp3) : Prop where
  len : ∀ ds m Q, sp ds m Q → ds.length = ps.length
  run : ∀ (A : Around) (outer : List Env) (s : Shared) (H : Hp) (args : Args) (us : List Value) (vs : List V) (Q : VK), A.guards = some [] → Room k A → Env0 P w K mg base A outer s H → BindsTo s fd args (ps.zip us) → Vals vs us →
    spOf K sp vs H Q E0 → codeAny (model P w) A (.call (.ref f) args) (CR CX0 outer P w H s Q E0) s
theorem Fn3.g {P : Program} {w : World} {K : PySem.W.Frag} {mg : Str → Option Value} {base : Heap} {k : Nat} {f : Addr} {fd : FuncData} {ps : List Str} {sp : Sp3} (hl : ∀ ds m Q, sp ds m Q → ds.length = ps.length) (F : Fn3 P w K mg base k f fd ps sp) : FnG P w K mg base k f fd ps sp :=
  ⟨hl, fun A outer s H args us vs Q _ hr e0 hb r h => F.run A outer s H args us vs Q E0 hr e0 hb r h⟩
theorem fnG {P : Program} {w : World} {K : PySem.W.Frag} {mg : Str → Option Value} {base : Heap} {x : Str} {st : Stmt} {f : Addr} {fd : FuncData} {N ps : List Str} {k : Nat} {sp : Sp3} (F : Fun K x x st f fd) (S : FnScope N ps (defScope st)) (len : ∀ ds m Q, sp ds m Q → ds.length = ps.length)
    (hbody : ∀ (cdv : Value) (A : Around) (outer : List Env) (s : Shared) (H : Hp) (E : XK) (ds : List D) (m : Mem) (Q : DK), Room k (A.deeper (PyProof.Rows.envOfC x (defScope st) s.heap.objs.size f cdv)) → (A.deeper (PyProof.Rows.envOfC x (defScope st) s.heap.objs.size f cdv)).guards = some [] → sp ds m Q →
      ∃ t, PSs3 (cxOf CX0 P w K mg base N x (defScope st) f cdv A outer s H E).nox (defBody st) t ∧ t { nx := fun _ m' => Q .non m', rt := Q } (start3 N ds) m) : FnG P w K mg base (k + 1) f fd ps sp := by
  refine ⟨len, fun A outer s H args us vs Q hgd hr e0 hb rv h => ?_⟩
  obtain ⟨ds, m, P', h1, r1, h2, ek⟩ := h
  obtain ⟨oc, od, kV, doc, pm, an, cdv, ct, osl, rfl, lk, hcd⟩ := F.ex
  have grow : ∀ b o, base.get? b = some o → s.heap.get? b = some o := fun b o e => (e0.bs b o e).1
  have hin : K.In s.heap := e0.mod.kin.keeps grow
  have nolim := e0.mod.nolimit.keeps grow
  have kinds : ∀ y ∈ ps.zip us, (defScope st).names.lookup y.1 = some .local ∨ ((defScope st).names.lookup y.1 = some .cell ∧ ((cellsFrom (s.heap.objs.size + 1) (defScope st).names []).lookup y.1).isSome = true) := by
    intro y hy
    obtain ⟨n, v⟩ := y
    exact (S.par n (List.of_mem_zip hy).1).imp id fun q => ⟨q, PySem.W.cellsFrom_some _ _ _ (.inl q)⟩
  refine codeAny_call_function hr.depth (hin _ _ lk) rfl S.co S.gen rfl (PySem.W.codeRec_of hin hcd) (hb _ _ _ _ (wpAny_newFunctionEnv_cells S.kind kinds ?_))
  intro env he s1 hcall
  subst he
  have ht : ∃ t : TS, PSs (cxOf CX0 P w K mg base N x (defScope st) f cdv A outer s H E0) (defBody st) t ∧ t { nx := fun _ H' => Q .non H', rt := Q } (start N vs) H := by
    obtain ⟨t3, ⟨t, p, q⟩, h3⟩ := hbody cdv A outer s H E0 ds m P' (hr.deeper _) hgd h2
    exact ⟨t, p.nox, q _ H _ m _ _ (ok_start h1 r1) h3 ⟨fun σ' H' ρ' m' h' s' o' => ek .non H' .non m' h' s' o'.hr .non, ek, fun _ _ _ _ h _ _ => h.elim, fun _ _ _ _ h _ _ => h.elim⟩⟩
  obtain ⟨t, pt, ht⟩ := ht
  refine ⟨nolim.keeps hcall.toInCall.keep, codeAny_func (wpAny_mono (pt.run [] s1 _ H _ (inv_start (E := E0) S hr.hd e0 ?_ rv hcall) ht) ?_ fun _ _ z => z)⟩
  · rw [r1.length]
    exact len ds m P' h2
  · intro fl s' z
    cases fl with
    | ret u => obtain ⟨v, _, H', J, ru, hq⟩ := z; exact ⟨v, H', J.os, J.bare, J.base, J.hok, ru, hq⟩
    | next => obtain ⟨_, H', J, hq⟩ := z; exact ⟨.non, H', J.os, J.bare, J.base, J.hok, rfl, hq⟩
    | brk => obtain ⟨_, _, _, z⟩ := z; exact (z : False).elim
    | cont => obtain ⟨_, _, _, z⟩ := z; exact (z : False).elim
section
variable {X : Cx} {pos p : Pos} {e : Expr} {es : List Expr} {tr : TA3} {k : Nat} {x : Str} {st : Stmt} {ps : List Str} {f : Addr} {fd : FuncData} {sp : Sp3}
/-- a call of a def that shows nested data -/
theorem e_callG (hgd : X.A.guards = some []) (d : Def X.K X.mg x st ps f fd) (G : FnG X.prog X.w X.K X.mg X.base k f fd ps sp) (hr : Room k X.A) (hg : Gl X x) (ha : PA3 X (e :: es) tr) (hdb : (x == ("__debug__" : Str)) = false := by decide)
    (he : starEach (e :: es) X.env = (false, eval e X.env) :: starEach es X.env := by rfl) (hpl : (backTo pos (starEach es X.env)).any (·.1) = false := by rfl) : PE3 X (.Call (.Name x p) (e :: es) [] pos) (call3 sp tr) := by
  obtain ⟨ta, pa, qa⟩ := ha
  refine ⟨fun σ H Q => ta σ H fun vs H1 => spOf X.K sp vs H1 Q E0, ⟨fun pins s σ H Q I h => ?_⟩, fun σ H ρ m P Q o h kk => ?_⟩
  · refine wpAny_Call_Name_kw (ld_glob I hg d.g (PySem.W.callWith_K (h₀ := X.base) I.ok.mod.kin d.F.kp (thn (pa.run pos pins s σ H _ I h) fun us s1 z => ?_) he hpl) hdb)
    obtain ⟨vs, H1, I1, r, q⟩ := z
    refine ⟨I1.kIn, wpAny_call (codeAny_mono (G.run X.A X.stack s1 H1 ⟨us, []⟩ us vs Q hgd hr I1.env0 ?_ r q) fun res s' hq => ?_)⟩
    · have b := d.b s1 us I1.kIn (by
        rw [List.append_nil, ← r.length]
        obtain ⟨ds, m, P, _, rr, h2, _⟩ := q
        rw [rr.length]
        exact G.len ds m P h2)
      rwa [List.append_nil] at b
    · match res, hq with
      | .ok (.ret u), hq => exact I1.after hq
      | .error e, hq => exact (hq : False).elim
      | .ok .next, hq => exact (hq : False).elim
      | .ok .brk, hq => exact (hq : False).elim
      | .ok .cont, hq => exact (hq : False).elim
  · refine qa σ H ρ m _ _ o h fun vs H1 ds m1 p1 s1 h1 r1 => ?_
    exact ⟨ds, m1, P, h1, r1, p1, kk.mv s1⟩
end
/-- the law's end -/
theorem walk_g {l : PySem.W.OpenLaw} {k : Nat} {q : Program} {loose : List Str} {XP : (Str → Option Value) → Heap → Prop} {YP : World → Heap → Prop} {d : DefRec} {K : Params → PySem.W.Frag}
    (hn : l.most = some 63) (hdf : d.params.defaults = []) (hr : Room k callerA) (hY : ∀ (w : World) (h : Heap), YP w h → (K w.params).In h)
    (F : ∀ (w : World) (mg : Str → Option Value) (fa : Addr) (h : Heap), (K w.params).In h → h.Ns mainGlobals mg → mg d.name = some (.ref fa) →
      ∃ fd : FuncData, (∀ (s : Shared) (u : Value), BindsTo s fd ⟨[u], []⟩ [("script", u)]) ∧ ∀ base : Heap, (K w.params).In base → base.Ns mainGlobals mg → FnG l.prog w (K w.params) mg base k fa fd ["script"] sp3Law) :
    PySem.W.WalkO q loose XP YP l.row.toRowW d [] (fun f vs => PySem.call f vs) := by
  refine Att.attach_call hn hdf fun w s₀ s₁ mg mb fa o pm cd doc a vs ns G Y ho hd hcd hmg hobj hints hlen hg => ?_
  have KX := hY w _ Y
  obtain ⟨fd, hb, hF⟩ := F w mg fa _ KX G.T.g hmg
  have rv := vals_ints hints
  have hsz : ns.length ≤ sizeLine := Nat.le_trans hlen (by decide)
  -- what the abstract heap may hold: the script, and nothing else
  have core : ∀ H : Hp, (∀ b u, H b = some u → b = a ∧ (K w.params).lookup a = none ∧ u = .frz { cls := .type "list", data := .seq vs.toArray } (.lst (ns.map V.int))) → SqL (K w.params) H a (ns.map V.int) →
      codeAny (model l.prog w) callerA (.call (.ref fa) ⟨[.ref a], []⟩) (fun r s' => r = .ok (.ret (.bool true)) ∧ OldK s₁.heap s'.heap ∧ s'.os = s₁.os ∧ AllBare s'.gens) s₁ := by
    intro H hH hS
    have hok : HOk l.prog w H s₁.heap := fun b u e => by
      obtain ⟨rfl, _, rfl⟩ := hH b u e
      exact ⟨hobj, by rw [List.length_map]; exact hsz, vs, _, rv, hobj⟩
    have free : ∀ b o', s₁.heap.get? b = some o' → ((∃ es ep, o'.data = .dict es ep) ∨ (K w.params).lookup b = some o') → H b = none := fun b o' e z => by
      cases hb : H b with
      | none => rfl
      | some u =>
        obtain ⟨rfl, hk, _⟩ := hH b u hb
        rw [hobj] at e
        cases e
        rcases z with ⟨es, ep, z⟩ | z
        · exact (nomatch z)
        · rw [hk] at z; cases z
    have stay : ∀ {b m}, s₁.heap.Ns b m → (hidT s₁.heap H).Ns b m := fun {b m} z => by
      obtain ⟨o', es, ep, e, dd, r⟩ := z
      exact ⟨o', es, ep, hidT_get e (free b o' e (.inl ⟨es, ep, dd⟩)), dd, r⟩
    have kin : (K w.params).In (hidT s₁.heap H) := fun b o' e => hidT_get (KX b o' e) (free b o' (KX b o' e) (.inr e))
    have md : Mod (K w.params) mg (hidT s₁.heap H) := by
      refine ⟨kin, stay G.T.g, ⟨mb, stay G.T.b, G.T.builtins⟩, ?_⟩
      obtain ⟨mc, h1, h2⟩ := G.T.nolimit
      exact ⟨mc, stay h1, h2⟩
    have none0 : ∀ {b : Addr} {p : Prop}, b ∈ ([] : List Addr) → p := fun z => (nomatch z)
    have e0 : Env0 l.prog w (K w.params) mg (hidT s₁.heap H) callerA [] s₁ H := ⟨rfl, md, fun _ _ e => of_hidT e, Nat.le_of_eq (hidT_size _ _), trivial, fun _ z => none0 z, hok, .of_eq hg⟩
    have spx : spOf (K w.params) sp3Law [.ref a] H (fun v _ => v = .bl true) E0 := by
      refine ⟨[.lst (ns.map D.int)], fun _ => none, fun d _ => d = .bl true, fun a u e => (nomatch e), .cons (.lst (xs := ns.map V.int) ?_ (Reps.ints ns)) .nil, ⟨ns, rfl, hlen, fun _ => rfl⟩, fun v H' d m' p _ _ r => ?_⟩
      · rcases hS with h | h
        · exact .inl ⟨h, rfl⟩
        · exact .inr h
      · subst p
        cases r
        rfl
    refine codeAny_mono ((hF _ kin (stay G.T.g)).run callerA [] s₁ H _ [.ref a] [.ref a] _ rfl hr e0 (hb s₁ (.ref a)) (.cons rfl .nil) spx) fun r s' h => ?_
    match r, h with
    | .ok (.ret u), ⟨v, H', os, bare, un, hok', r', qv⟩ =>
      have qv : v = .bl true := qv
      subst qv
      obtain rfl : u = Value.bool true := r'
      refine ⟨rfl, OldK.of_keep fun b o' e => ?_, os, bare⟩
      cases hb : H b with
      | none => exact un.keep b o' e hb (fun z => none0 z) (fun z => none0 z)
      | some u =>
        obtain ⟨rfl, _, rfl⟩ := hH b u hb
        have z := (hok' b _ (un.frzs b _ _ hb)).1
        rw [hobj] at e
        cases e
        exact z
    | .error e, h => exact (h : False).elim
    | .ok .next, h => exact (h : False).elim
    | .ok .brk, h => exact (h : False).elim
    | .ok .cont, h => exact (h : False).elim
  cases hk : (K w.params).lookup a with
  | some o' =>
    have e := KX a o' hk
    rw [hobj] at e
    cases e
    exact core (fun _ => none) (fun b u z => (nomatch z)) (.inr ⟨_, vs.toArray, _, hk, rfl, rfl, rfl, by rw [List.size_toArray, hints.length]; exact hsz, by simpa using rv⟩)
  | none =>
    refine core (fun b => if b = a then some (.frz { cls := .type "list", data := .seq vs.toArray } (.lst (ns.map V.int))) else none) (fun b u z => ?_) (.inl (.inr ⟨{ cls := .type "list", data := .seq vs.toArray }, if_pos rfl⟩))
    split at z
    · rename_i e
      exact ⟨e, hk, (Option.some.inj z).symm⟩
    · cases z
end D3

set_option Elab.async false
set_option linter.all false
/-! DyM: whole numbers halved so often: plain mathematics. -/
namespace DyM
open PySem

theorem pow_pos' (k : Nat) : (0 : Int) < 2 ^ k := PySem.W.kbt_pos k
theorem pow_succ' (k : Nat) : (2 : Int) ^ (k + 1) = 2 * 2 ^ k := by rw [Int.pow_succ, Int.mul_comm]
theorem pow_add' (a b : Nat) : (2 : Int) ^ (a + b) = 2 ^ a * 2 ^ b := Int.pow_add 2 a b

/-- the one form of t halved n times -/
def nrm : Nat → Int → Int × Nat
  | 0, t => (t, 0)
  | n + 1, t => if t % 2 = 0 then nrm n (t / 2) else (t, n + 1)
/-- the form -/
def Frm (p : Int × Nat) : Prop := p.2 = 0 ∨ p.1 % 2 = 1
theorem nrm_le : ∀ (n : Nat) (t : Int), (nrm n t).2 ≤ n
  | 0, t => Nat.le_refl 0
  | n + 1, t => by
    unfold nrm
    split
    · exact Nat.le_succ_of_le (nrm_le n _)
    · exact Nat.le_refl _
theorem nrm_frm : ∀ (n : Nat) (t : Int), Frm (nrm n t)
  | 0, t => .inl rfl
  | n + 1, t => by
    unfold nrm
    split
    · exact nrm_frm n _
    · refine .inr ?_
      show t % 2 = 1
      omega
theorem nrm_val : ∀ (n : Nat) (t : Int), (nrm n t).1 * 2 ^ (n - (nrm n t).2) = t
  | 0, t => by
    show t * 2 ^ (0 - 0) = t
    simp
  | n + 1, t => by
    unfold nrm
    split
    · rename_i h
      have ih := nrm_val n (t / 2)
      have hl := nrm_le n (t / 2)
      rw [show n + 1 - (nrm n (t / 2)).2 = (n - (nrm n (t / 2)).2) + 1 by omega, pow_succ', Int.mul_left_comm, ih]
      omega
    · show t * 2 ^ (n + 1 - (n + 1)) = t
      simp
theorem nrm_uniq : ∀ (n : Nat) (t a : Int) (d : Nat), d ≤ n → a * 2 ^ (n - d) = t → (d = 0 ∨ a % 2 = 1) → nrm n t = (a, d)
  | 0, t, a, d, hd, h, hf => by
    have e : d = 0 := by omega
    subst e
    have h' : a = t := by simpa using h
    rw [h']
    rfl
  | n + 1, t, a, d, hd, h, hf => by
    unfold nrm
    by_cases e : d = n + 1
    · subst e
      have h' : a = t := by simpa using h
      subst h'
      have h2 : a % 2 = 1 := by
        rcases hf with z | z
        · omega
        · exact z
      rw [if_neg (by omega)]
    · have hd' : d ≤ n := by omega
      have e1 : t = 2 * (a * 2 ^ (n - d)) := by
        rw [← h, show n + 1 - d = (n - d) + 1 by omega, pow_succ', Int.mul_left_comm]
      rw [if_pos (by omega)]
      exact nrm_uniq n (t / 2) a d hd' (by omega) hf
theorem nrm_zero (n : Nat) : nrm n 0 = (0, 0) := nrm_uniq n 0 0 0 (Nat.zero_le _) (by simp) (.inl rfl)
theorem nrm_id {p : Int × Nat} (h : Frm p) : nrm p.2 p.1 = p := nrm_uniq p.2 p.1 p.1 p.2 (Nat.le_refl _) (by simp) h
/-- t halved n times and t 2 ^ k halved n + k times are one -/
theorem nrm_shift (n k : Nat) (t : Int) : nrm (n + k) (t * 2 ^ k) = nrm n t := by
  have h1 := nrm_val n t
  have h2 := nrm_le n t
  refine nrm_uniq (n + k) _ _ _ (by omega) ?_ (nrm_frm n t)
  rw [show n + k - (nrm n t).2 = (n - (nrm n t).2) + k by omega, pow_add', ← Int.mul_assoc, h1]
theorem nrm_neg (n : Nat) (t : Int) : nrm n (-t) = (-(nrm n t).1, (nrm n t).2) := by
  refine nrm_uniq n _ _ _ (nrm_le n t) ?_ ?_
  · rw [Int.neg_mul, nrm_val]
  · rcases nrm_frm n t with h | h
    · exact .inl h
    · exact .inr (by show -(nrm n t).1 % 2 = 1; omega)
/-- two are one just where the crosswise products are -/
theorem frm_eq {p q : Int × Nat} (hp : Frm p) (hq : Frm q) (h : p.1 * 2 ^ q.2 = q.1 * 2 ^ p.2) : p = q := by
  have a : nrm (p.2 + q.2) (p.1 * 2 ^ q.2) = p := by rw [nrm_shift, nrm_id hp]
  have b : nrm (q.2 + p.2) (q.1 * 2 ^ p.2) = q := by rw [nrm_shift, nrm_id hq]
  have c : nrm (p.2 + q.2) (p.1 * 2 ^ q.2) = nrm (q.2 + p.2) (q.1 * 2 ^ p.2) := by rw [h, Nat.add_comm]
  exact a.symm.trans (c.trans b)
theorem nrm_eq {n k : Nat} {t u : Int} (h : t * 2 ^ k = u * 2 ^ n) : nrm n t = nrm k u := by
  rw [← nrm_shift n k t, ← nrm_shift k n u, h, Nat.add_comm]

/-! ### the lowest bit -/
theorem low_ex : ∀ (k : Nat) (t : Int), t.natAbs ≤ k → t ≠ 0 → ∃ (v : Nat) (a : Int), t = 2 ^ v * (2 * a + 1)
  | 0, t, h, h0 => absurd (Int.natAbs_eq_zero.mp (by omega)) h0
  | k + 1, t, h, h0 => by
    by_cases e : t % 2 = 0
    · obtain ⟨v, a, e1⟩ := low_ex k (t / 2) (by omega) (by omega)
      refine ⟨v + 1, a, ?_⟩
      rw [pow_succ', Int.mul_assoc, ← e1]
      omega
    · refine ⟨0, t / 2, ?_⟩
      rw [Int.pow_zero, Int.one_mul]
      omega
theorem bits_pow (v : Nat) : Builtin.Int.intBits ((2 : Int) ^ v) = v + 1 := by
  unfold Builtin.Int.intBits
  have hp := pow_pos' v
  rw [if_neg (by simpa using (show (2 : Int) ^ v ≠ 0 by omega))]
  have e : ((2 : Int) ^ v).natAbs = 2 ^ v := by
    rw [← PySem.W.kbt_cast v, Int.natAbs_natCast]
  rw [e, Nat.log2_two_pow]
/-- what the program's dyadic reckons -/
theorem dy_eq {top down : Int} (h0 : top ≠ 0) (hd : 0 ≤ down) {h : Int}
    (hh : h = if (Builtin.Int.intBits (Builtin.bitAnd top (0 - top)) : Int) - 1 < down then (Builtin.Int.intBits (Builtin.bitAnd top (0 - top)) : Int) - 1 else down) :
    0 ≤ h ∧ top / 2 ^ h.toNat = (nrm down.toNat top).1 ∧ down - h = ((nrm down.toNat top).2 : Int) := by
  obtain ⟨v, a, e⟩ := low_ex top.natAbs top (Nat.le_refl _) h0
  have eb : Builtin.bitAnd top (0 - top) = 2 ^ v := by
    rw [e, Int.zero_sub]
    exact PySem.W.kbt_low v a
  rw [eb, bits_pow] at hh
  have hv : ((v + 1 : Nat) : Int) - 1 = (v : Int) := by omega
  rw [hv] at hh
  by_cases c : (v : Int) < down
  · rw [if_pos c] at hh
    subst hh
    have en : nrm down.toNat top = (2 * a + 1, down.toNat - v) := by
      refine nrm_uniq _ _ _ _ (by omega) ?_ (.inr (by omega))
      rw [show down.toNat - (down.toNat - v) = v by omega, e, Int.mul_comm]
    rw [en, Int.toNat_natCast]
    refine ⟨by omega, ?_, by show down - (v : Int) = ((down.toNat - v : Nat) : Int); omega⟩
    show top / 2 ^ v = 2 * a + 1
    rw [e]
    exact Int.mul_ediv_cancel_left _ (by have := pow_pos' v; omega)
  · rw [if_neg c] at hh
    subst hh
    have e2 : top = (2 ^ (v - h.toNat) * (2 * a + 1)) * 2 ^ h.toNat := by
      rw [e, Int.mul_right_comm, ← pow_add', show v - h.toNat + h.toNat = v by omega]
    have en : nrm h.toNat top = (2 ^ (v - h.toNat) * (2 * a + 1), 0) := by
      refine nrm_uniq _ _ _ _ (Nat.zero_le _) ?_ (.inl rfl)
      rw [Nat.sub_zero]
      exact e2.symm
    rw [en]
    refine ⟨hd, ?_, by show h - h = ((0 : Nat) : Int); omega⟩
    show top / 2 ^ h.toNat = 2 ^ (v - h.toNat) * (2 * a + 1)
    conv => lhs; rw [e2]
    exact Int.mul_ediv_cancel _ (by have := pow_pos' h.toNat; omega)

/-! ### sizes -/
theorem shl_c {i j : Int} {n : Nat} (h : i.natAbs < 2 ^ n) (h0 : 0 ≤ j) (hn : (n : Int) + j ≤ 134217728) : L2.CShl i j := by
  obtain ⟨k, rfl⟩ := Int.eq_ofNat_of_zero_le h0
  exact L2.shl_ok h (by omega)
theorem mul_c {i j : Int} {a b : Nat} (ha : i.natAbs < 2 ^ a) (hb : j.natAbs < 2 ^ b) (h : a + b ≤ 134217728) : L2.CMulX i j := L2.mulx_ok ha hb h
theorem noPy {i j : Int} {b : Nat} (hb : j.natAbs < 2 ^ b) (h0 : 0 < b) (h9 : b ≤ 9000) : Builtin.divisionGoesByPylong i j = false :=
  PyProof.noPylong_of_log2 (Nat.lt_of_lt_of_le (PySem.Flt.log2_lt_of h0 hb) h9)
theorem abs_mul_lt {i j : Int} {a b : Nat} (ha : i.natAbs < 2 ^ a) (hb : j.natAbs < 2 ^ b) : (i * j).natAbs < 2 ^ (a + b) := L2.wide_lt ha hb
theorem abs_shl_lt {i : Int} {a k : Nat} (ha : i.natAbs < 2 ^ a) : (i * 2 ^ k).natAbs < 2 ^ (a + k) := by
  rw [Int.natAbs_mul, Int.natAbs_pow, Nat.pow_add]
  exact Nat.mul_lt_mul_of_pos_right ha (Nat.two_pow_pos k)
theorem pow_mono {a b : Nat} (h : a ≤ b) : 2 ^ a ≤ 2 ^ b := Nat.pow_le_pow_right (by decide) h
theorem lt_pow {x a b : Nat} (h : x < 2 ^ a) (hab : a ≤ b) : x < 2 ^ b := Nat.lt_of_lt_of_le h (pow_mono hab)
theorem nrm_abs (n : Nat) (t : Int) : (nrm n t).1.natAbs ≤ t.natAbs := by
  have h := nrm_val n t
  have hp := Nat.two_pow_pos (n - (nrm n t).2)
  have e : t.natAbs = (nrm n t).1.natAbs * 2 ^ (n - (nrm n t).2) := by
    conv => lhs; rw [← h]
    rw [Int.natAbs_mul, Int.natAbs_pow]
    rfl
  rw [e]
  exact Nat.le_mul_of_pos_right _ hp
/-! ### the greatest divisor -/
theorem gcd_step {x y : Int} (hx : 0 ≤ x) (hy : 0 < y) : Int.gcd y (x % y) = Int.gcd x y := by
  obtain ⟨a, rfl⟩ := Int.eq_ofNat_of_zero_le hx
  obtain ⟨b, rfl⟩ := Int.eq_ofNat_of_zero_le (show 0 ≤ y by omega)
  rw [← Int.natCast_emod]
  show Nat.gcd b (a % b) = Nat.gcd a b
  rw [Nat.gcd_comm b, ← Nat.gcd_rec, Nat.gcd_comm]
theorem gcd_abs (a b : Int) : Int.gcd (if a < 0 then -a else a) (if b < 0 then -b else b) = Int.gcd a b := by
  split <;> split <;> simp [Int.gcd_neg, Int.neg_gcd]
/-- a / g, b / g -/
theorem frac_div {a b g : Int} (hb : b ≠ 0) (hg : g = (Int.gcd a b : Nat)) : 0 < g ∧ a / g * g = a ∧ b / g * g = b ∧ Int.gcd (a / g) (b / g) = 1 ∧ (a / g).natAbs ≤ a.natAbs ∧ (b / g).natAbs ≤ b.natAbs := by
  have h0 : 0 < Int.gcd a b := Int.gcd_pos_of_ne_zero_right a hb
  have d1 : g ∣ a := by rw [hg]; exact Int.gcd_dvd_left a b
  have d2 : g ∣ b := by rw [hg]; exact Int.gcd_dvd_right a b
  have e1 := Int.ediv_mul_cancel d1
  have e2 := Int.ediv_mul_cancel d2
  have hgp : 0 < g := by omega
  refine ⟨hgp, e1, e2, ?_, ?_, ?_⟩
  · rw [hg]
    exact Int.gcd_ediv_gcd_ediv_gcd h0
  · conv => rhs; rw [← e1]
    rw [Int.natAbs_mul]
    exact Nat.le_mul_of_pos_right _ (by omega)
  · conv => rhs; rw [← e2]
    rw [Int.natAbs_mul]
    exact Nat.le_mul_of_pos_right _ (by omega)
theorem floor_facts {X b : Int} (hb : 0 < b) : X / b * b ≤ X ∧ X < (X / b + 1) * b := by
  have h1 := Int.ediv_mul_le X (show b ≠ 0 by omega)
  have h2 := Int.lt_ediv_add_one_mul_self X hb
  exact ⟨h1, h2⟩
theorem ceil_facts {X b : Int} (hb : 0 < b) : X ≤ (0 - (0 - X) / b) * b ∧ (0 - (0 - X) / b - 1) * b < X := by
  obtain ⟨h1, h2⟩ := floor_facts (X := 0 - X) hb
  generalize (0 - X) / b = q at h1 h2
  constructor <;> grind
theorem floor_ceil {X b : Int} (hb : 0 < b) : (X / b = 0 - (0 - X) / b) ↔ X % b = 0 := by
  obtain ⟨h1, h2⟩ := floor_facts (X := X) hb
  obtain ⟨h3, h4⟩ := ceil_facts (X := X) hb
  have e := Int.emod_add_mul_ediv X b
  generalize 0 - (0 - X) / b = c at h3 h4 ⊢
  constructor
  · intro z
    rw [← z, Int.mul_comm] at h3
    have := Int.emod_nonneg X (show b ≠ 0 by omega)
    omega
  · intro z
    have e2 : X = X / b * b := by rw [Int.mul_comm]; omega
    have h5 : (c - 1) * b < X / b * b := by omega
    have h6 : X / b * b ≤ c * b := by omega
    have h7 := Int.lt_of_mul_lt_mul_right h5 (by omega)
    have h8 := Int.le_of_mul_le_mul_right h6 hb
    omega
theorem nrm_inj {n : Nat} {t u : Int} (h : nrm n t = nrm n u) : t = u := by
  rw [← nrm_val n t, ← nrm_val n u, h]
theorem fmod_b (a : Int) {b : Int} (h : 0 < b) : 0 ≤ a.fmod b ∧ a.fmod b < b := by
  rw [Int.fmod_eq_emod_of_nonneg a (by omega)]
  exact ⟨Int.emod_nonneg a (by omega), Int.emod_lt_of_pos a h⟩
theorem fmod_e (a : Int) {b : Int} (h : 0 < b) : a.fmod b = a % b := Int.fmod_eq_emod_of_nonneg a (by omega)
theorem fdiv_e (a : Int) {b : Int} (h : 0 < b) : a.fdiv b = a / b := Int.fdiv_eq_ediv_of_nonneg a (by omega)
theorem c_fdiv {i j : Int} {b : Nat} (h : 0 < j) (hb : j.natAbs < 2 ^ b) (h0 : 0 < b) (h9 : b ≤ 9000) : D3.CFdiv i j := ⟨by omega, noPy hb h0 h9⟩
theorem c_mul64 {i j : Int} (ha : i.natAbs < 2 ^ 64) (hb : j.natAbs < 2 ^ 64) : L2.CMulX i j := mul_c ha hb (by decide)
theorem c_pow {i j : Int} (h0 : 0 ≤ j) (h1 : j ≤ 1000000) (h : i.natAbs < 2 ^ 64) : L2.CPow i j := ⟨h0, h1, h⟩
end DyM

set_option Elab.async false
set_option linter.all false
set_option maxHeartbeats 4000000
/-! Deck: what the laws draw by. -/
namespace LK
open PySem L2 D3 DyM
/-- a deck with room for n more draws -/
def DeckAt (m : Mem) (p : Addr) (n : Nat) : Prop := ∃ a b c : Int, m p = some (.lst [.int a, .int b, .int c]) ∧ 0 ≤ b ∧ b < 2147483648 ∧ 0 ≤ c ∧ c + n ≤ 1000000000
theorem DeckAt.le {m : Mem} {p : Addr} {n k : Nat} (h : DeckAt m p n) (hk : k ≤ n) : DeckAt m p k := by
  obtain ⟨a, b, c, h1, h2, h3, h4, h5⟩ := h
  exact ⟨a, b, c, h1, h2, h3, h4, by omega⟩
/-- nothing but p has changed -/
def Off (p : Addr) (m m' : Mem) : Prop := ∀ q, q ≠ p → m' q = m q
theorem Off.refl (p : Addr) (m : Mem) : Off p m m := fun _ _ => rfl
theorem Off.trans {p : Addr} {m m1 m2 : Mem} (a : Off p m m1) (b : Off p m1 m2) : Off p m m2 := fun q h => (b q h).trans (a q h)
theorem Off.put {p : Addr} {m : Mem} {o : MO} : Off p m (put m p o) := fun _ h => put_ne h
def sp_deck : Sp3 := fun ds m P => ∃ cell : Int, ds = [.int cell, .int 0] ∧ ∀ p m', m p = none → Off p m m' → DeckAt m' p 1000000000 → P (.ref p) m'
def sp_pick : Sp3 := fun ds m P => ∃ (p : Addr) (many : Int) (n : Nat), ds = [.ref p, .int many] ∧ DeckAt m p (n + 1) ∧ 0 < many ∧ many.natAbs < 2 ^ 9000 ∧ ∀ r m', 0 ≤ r → r < many → Off p m m' → DeckAt m' p n → P (.int r) m'
theorem sp_pick_i {m : Mem} {P : DK} {p : Addr} {many : Int} (n : Nat) (h : DeckAt m p (n + 1)) (h0 : 0 < many) (hl : many < 2 ^ 100) (k : ∀ r m', 0 ≤ r → r < many → Off p m m' → DeckAt m' p n → P (.int r) m') : sp_pick [.ref p, .int many] m P :=
  ⟨p, many, n, rfl, h, h0, Nat.lt_of_lt_of_le (show many.natAbs < 2 ^ 100 by omega) (pow_mono (by decide)), k⟩
theorem DeckAt.ne {m : Mem} {p s : Addr} {n : Nat} (h : DeckAt m p n) (hs : m s = none) : p ≠ s := fun e => by
  obtain ⟨a, b, c, h1, _⟩ := h
  rw [e, hs] at h1
  cases h1
theorem DeckAt.put {m : Mem} {p s : Addr} {n : Nat} {o : MO} (h : DeckAt m p n) (hs : p ≠ s) : DeckAt (put m s o) p n := by
  obtain ⟨a, b, c, h1, h2⟩ := h
  exact ⟨a, b, c, by rw [put_ne hs]; exact h1, h2⟩
theorem DeckAt.del {m : Mem} {p s : Addr} {n : Nat} (h : DeckAt m p n) (hs : p ≠ s) : DeckAt (del m s) p n := by
  obtain ⟨a, b, c, h1, h2⟩ := h
  exact ⟨a, b, c, by unfold D3.del; rw [if_neg hs]; exact h1, h2⟩
theorem DeckAt.off {m m' : Mem} {p s : Addr} {n : Nat} (h : DeckAt m p n) (o : Off s m m') (hs : p ≠ s) : DeckAt m' p n := by
  obtain ⟨a, b, c, h1, h2⟩ := h
  exact ⟨a, b, c, by rw [o p hs]; exact h1, h2⟩
end LK

set_option Elab.async false
set_option linter.all false
set_option maxHeartbeats 4000000
/-! Dy: dyadics as data, and what is reckoned with them. -/
namespace LK
open PySem L2 D3 DyM
def dyD (p : Int × Nat) : D := .tup [.int p.1, .int p.2]
theorem dyD_eq (p : Int × Nat) : dyD p = .tup [.int p.1, .int p.2] := rfl
theorem fIx_dy0 {p : Int × Nat} {m : Mem} {P : DK} : fIx (dyD p) (.int 0) m P = P (.int p.1) m := by
  unfold dyD
  rw [fIx_tup, at3_0]
theorem fIx_dy1 {p : Int × Nat} {m : Mem} {P : DK} : fIx (dyD p) (.int 1) m P = P (.int p.2) m := by
  unfold dyD
  rw [fIx_tup, at3_1]
theorem dy_dec (p q : Int × Nat) : (decide (p.1 = q.1) && decide ((p.2 : Int) = (q.2 : Int))) = decide (p = q) := by
  rw [Bool.eq_iff_iff, Bool.and_eq_true, decide_eq_true_eq, decide_eq_true_eq, decide_eq_true_eq]
  constructor
  · intro h
    exact Prod.ext h.1 (by omega)
  · intro h
    rw [h]
    exact ⟨rfl, rfl⟩
theorem fEq_dy {p q : Int × Nat} {m : Mem} {P : DK} : fEq (dyD p) (dyD q) m P = P (.bl (decide (p = q))) m := by
  unfold dyD
  rw [fEq_pair, dy_dec]
theorem fNe_dy {p q : Int × Nat} {m : Mem} {P : DK} : fNe (dyD p) (dyD q) m P = P (.bl (!decide (p = q))) m := by
  unfold dyD
  rw [fNe_pair, dy_dec]
def sp_dyadic : Sp3 := fun ds m P => ∃ top down : Int, ds = [.int top, .int down] ∧ 0 ≤ down ∧ P (dyD (nrm down.toNat top)) m
end LK
namespace DyM
/-- t by 2 ^ n -/
def Is (p : Int × Nat) (t : Int) (n : Nat) : Prop := p.1 * 2 ^ n = t * 2 ^ p.2
theorem is_nrm (n : Nat) (t : Int) : Is (nrm n t) t n := by
  have h1 := nrm_val n t
  have h2 := nrm_le n t
  unfold Is
  generalize nrm n t = r at h1 h2 ⊢
  rw [← h1, Int.mul_assoc, ← pow_add', show n - r.2 + r.2 = n by omega]
/-- a dyadic's top by an order that is no less -/
def tp (p : Int × Nat) (n : Nat) : Int := p.1 * 2 ^ (n - p.2)
theorem is_tp {p : Int × Nat} {n : Nat} (h : p.2 ≤ n) : Is p (tp p n) n := by
  unfold Is tp
  rw [Int.mul_assoc, ← pow_add', show n - p.2 + p.2 = n by omega]
theorem is_self (p : Int × Nat) : Is p p.1 p.2 := rfl
theorem pow_ne (n : Nat) : (2 : Int) ^ n ≠ 0 := by have := pow_pos' n; omega
theorem is_up {p : Int × Nat} {t : Int} {n : Nat} (h : Is p t n) (k : Nat) : Is p (t * 2 ^ k) (n + k) := by
  unfold Is at h ⊢
  rw [pow_add', ← Int.mul_assoc, h, Int.mul_right_comm]
theorem is_uniq {p : Int × Nat} {t u : Int} {n : Nat} (h : Is p t n) (h' : Is p u n) : t = u := by
  unfold Is at h h'
  exact Int.eq_of_mul_eq_mul_right (pow_ne p.2) (h.symm.trans h')
theorem is_eq {p q : Int × Nat} {t : Int} {n : Nat} (fp : Frm p) (fq : Frm q) (h : Is p t n) (h' : Is q t n) : p = q := by
  unfold Is at h h'
  refine frm_eq fp fq ?_
  refine Int.eq_of_mul_eq_mul_right (pow_ne n) ?_
  rw [Int.mul_right_comm, h, Int.mul_right_comm q.1, h', Int.mul_right_comm]
theorem is_nrm_eq {p : Int × Nat} {t : Int} {n : Nat} (fp : Frm p) (h : Is p t n) : nrm n t = p := is_eq (nrm_frm n t) fp (is_nrm n t) h
/-- the reckoning -/
def dmx (p q : Int × Nat) : Nat := max p.2 q.2
def dplus (p q : Int × Nat) : Int × Nat := nrm (dmx p q) (tp p (dmx p q) + tp q (dmx p q))
def dminus (p q : Int × Nat) : Int × Nat := nrm (dmx p q) (tp p (dmx p q) - tp q (dmx p q))
def dtimes (p q : Int × Nat) : Int × Nat := nrm (p.2 + q.2) (p.1 * q.1)
def dless (p q : Int × Nat) : Bool := decide (tp p (dmx p q) < tp q (dmx p q))
theorem tp_is {p : Int × Nat} {t : Int} {n k : Nat} (h : Is p t n) (hk : p.2 ≤ k) : tp p k * 2 ^ n = t * 2 ^ k := by
  have h1 := is_tp hk
  unfold Is at h h1
  refine Int.eq_of_mul_eq_mul_right (pow_ne p.2) ?_
  rw [Int.mul_right_comm, ← h1, Int.mul_right_comm, h, Int.mul_right_comm]
theorem plus_is {p q : Int × Nat} {t u : Int} {n : Nat} (h : Is p t n) (h' : Is q u n) : Is (dplus p q) (t + u) n := by
  have e1 := tp_is h (Nat.le_max_left p.2 q.2)
  have e2 := tp_is h' (Nat.le_max_right p.2 q.2)
  have e3 := is_nrm (dmx p q) (tp p (dmx p q) + tp q (dmx p q))
  unfold dplus
  unfold Is at e3 ⊢
  refine Int.eq_of_mul_eq_mul_right (pow_ne (dmx p q)) ?_
  rw [Int.mul_right_comm, e3, Int.mul_right_comm _ (2 ^ _) ((2 : Int) ^ n), Int.add_mul, show tp p (dmx p q) * 2 ^ n = t * 2 ^ dmx p q from e1, show tp q (dmx p q) * 2 ^ n = u * 2 ^ dmx p q from e2, ← Int.add_mul, Int.mul_right_comm]
theorem minus_is {p q : Int × Nat} {t u : Int} {n : Nat} (h : Is p t n) (h' : Is q u n) : Is (dminus p q) (t - u) n := by
  have e1 := tp_is h (Nat.le_max_left p.2 q.2)
  have e2 := tp_is h' (Nat.le_max_right p.2 q.2)
  have e3 := is_nrm (dmx p q) (tp p (dmx p q) - tp q (dmx p q))
  unfold dminus
  unfold Is at e3 ⊢
  refine Int.eq_of_mul_eq_mul_right (pow_ne (dmx p q)) ?_
  rw [Int.mul_right_comm, e3, Int.mul_right_comm _ (2 ^ _) ((2 : Int) ^ n), Int.sub_mul, show tp p (dmx p q) * 2 ^ n = t * 2 ^ dmx p q from e1, show tp q (dmx p q) * 2 ^ n = u * 2 ^ dmx p q from e2, ← Int.sub_mul, Int.mul_right_comm]
theorem times_is {p q : Int × Nat} {t u : Int} {n k : Nat} (h : Is p t n) (h' : Is q u k) : Is (dtimes p q) (t * u) (n + k) := by
  have e3 := is_nrm (p.2 + q.2) (p.1 * q.1)
  unfold dtimes
  unfold Is at h h' e3 ⊢
  refine Int.eq_of_mul_eq_mul_right (pow_ne (p.2 + q.2)) ?_
  rw [Int.mul_right_comm, e3, pow_add', pow_add']
  have e4 : p.1 * q.1 * (2 ^ n * 2 ^ k) = t * u * (2 ^ p.2 * 2 ^ q.2) := by
    rw [show p.1 * q.1 * ((2 : Int) ^ n * 2 ^ k) = (p.1 * 2 ^ n) * (q.1 * 2 ^ k) by grind, h, h']
    grind
  rw [Int.mul_right_comm, e4, Int.mul_right_comm]
theorem less_is {p q : Int × Nat} {t u : Int} {n : Nat} (h : Is p t n) (h' : Is q u n) : dless p q = decide (t < u) := by
  have e1 : tp p (dmx p q) * 2 ^ n = t * 2 ^ dmx p q := tp_is h (Nat.le_max_left p.2 q.2)
  have e2 : tp q (dmx p q) * 2 ^ n = u * 2 ^ dmx p q := tp_is h' (Nat.le_max_right p.2 q.2)
  have p1 := pow_pos' n
  have p2 := pow_pos' (dmx p q)
  unfold dless
  rw [Bool.eq_iff_iff, decide_eq_true_eq, decide_eq_true_eq]
  constructor
  · intro h
    have := Int.mul_lt_mul_of_pos_right h p1
    rw [e1, e2] at this
    exact Int.lt_of_mul_lt_mul_right this (by omega)
  · intro h
    have := Int.mul_lt_mul_of_pos_right h p2
    rw [← e1, ← e2] at this
    exact Int.lt_of_mul_lt_mul_right this (by omega)
theorem frm_plus (p q : Int × Nat) : Frm (dplus p q) := nrm_frm _ _
theorem frm_minus (p q : Int × Nat) : Frm (dminus p q) := nrm_frm _ _
theorem frm_times (p q : Int × Nat) : Frm (dtimes p q) := nrm_frm _ _
/-- sizes -/
def Sz (p : Int × Nat) (k : Nat) : Prop := p.1.natAbs < 2 ^ k ∧ p.2 ≤ k
theorem Sz.le {p : Int × Nat} {k j : Nat} (h : Sz p k) (hj : k ≤ j) : Sz p j := ⟨lt_pow h.1 hj, Nat.le_trans h.2 hj⟩
theorem sz_nrm {n : Nat} {t : Int} {k : Nat} (h : t.natAbs < 2 ^ k) (hn : n ≤ k) : Sz (nrm n t) k := ⟨Nat.lt_of_le_of_lt (nrm_abs n t) h, Nat.le_trans (nrm_le n t) hn⟩
theorem tp_abs {p : Int × Nat} {k n : Nat} (h : p.1.natAbs < 2 ^ k) : (tp p n).natAbs < 2 ^ (k + n) := lt_pow (abs_shl_lt h) (by omega)
theorem add_abs {x y : Int} {k : Nat} (hx : x.natAbs < 2 ^ k) (hy : y.natAbs < 2 ^ k) : (x + y).natAbs < 2 ^ (k + 1) := by
  rw [Nat.pow_succ]
  omega
theorem sub_abs {x y : Int} {k : Nat} (hx : x.natAbs < 2 ^ k) (hy : y.natAbs < 2 ^ k) : (x - y).natAbs < 2 ^ (k + 1) := by
  rw [Nat.pow_succ]
  omega
theorem sz_plus {p q : Int × Nat} {k : Nat} (hp : Sz p k) (hq : Sz q k) : Sz (dplus p q) (k + k + 1) := by
  have hm : dmx p q ≤ k := Nat.max_le.mpr ⟨hp.2, hq.2⟩
  exact sz_nrm (add_abs (lt_pow (tp_abs hp.1) (by omega)) (lt_pow (tp_abs hq.1) (by omega))) (by omega)
theorem sz_minus {p q : Int × Nat} {k : Nat} (hp : Sz p k) (hq : Sz q k) : Sz (dminus p q) (k + k + 1) := by
  have hm : dmx p q ≤ k := Nat.max_le.mpr ⟨hp.2, hq.2⟩
  exact sz_nrm (sub_abs (lt_pow (tp_abs hp.1) (by omega)) (lt_pow (tp_abs hq.1) (by omega))) (by omega)
theorem sz_times {p q : Int × Nat} {k j : Nat} (hp : Sz p k) (hq : Sz q j) : Sz (dtimes p q) (k + j) := sz_nrm (abs_mul_lt hp.1 hq.1) (Nat.add_le_add hp.2 hq.2)
theorem com3 (a b c : Int × Nat) : ∃ n t u v, Is a t n ∧ Is b u n ∧ Is c v n :=
  ⟨a.2 + b.2 + c.2, _, _, _, is_tp (n := a.2 + b.2 + c.2) (by omega), is_tp (n := a.2 + b.2 + c.2) (by omega), is_tp (n := a.2 + b.2 + c.2) (by omega)⟩
theorem plus_assoc (a b c : Int × Nat) : dplus (dplus a b) c = dplus a (dplus b c) := by
  obtain ⟨n, t, u, v, h1, h2, h3⟩ := com3 a b c
  have e1 := plus_is (plus_is h1 h2) h3
  have e2 := plus_is h1 (plus_is h2 h3)
  rw [Int.add_assoc] at e1
  exact is_eq (frm_plus _ _) (frm_plus _ _) e1 e2
theorem times_assoc (a b c : Int × Nat) : dtimes (dtimes a b) c = dtimes a (dtimes b c) := by
  obtain ⟨n, t, u, v, h1, h2, h3⟩ := com3 a b c
  have e1 := times_is (times_is h1 h2) h3
  have e2 := times_is h1 (times_is h2 h3)
  rw [Int.mul_assoc, Nat.add_assoc] at e1
  exact is_eq (frm_times _ _) (frm_times _ _) e1 e2
theorem times_plus (a b c : Int × Nat) : dtimes a (dplus b c) = dplus (dtimes a b) (dtimes a c) := by
  obtain ⟨n, t, u, v, h1, h2, h3⟩ := com3 a b c
  have e1 := times_is h1 (plus_is h2 h3)
  have e2 := plus_is (times_is h1 h2) (times_is h1 h3)
  rw [Int.mul_add] at e1
  exact is_eq (frm_times _ _) (frm_plus _ _) e1 e2
theorem less_plus (a b c : Int × Nat) : dless (dplus a c) (dplus b c) = dless a b := by
  obtain ⟨n, t, u, v, h1, h2, h3⟩ := com3 a b c
  rw [less_is (plus_is h1 h3) (plus_is h2 h3), less_is h1 h2, Bool.eq_iff_iff, decide_eq_true_eq, decide_eq_true_eq]
  omega
theorem plus_zero {a : Int × Nat} (h : Frm a) : dplus a (0, 0) = a := by
  have e : Is ((0, 0) : Int × Nat) 0 a.2 := by
    show (0 : Int) * 2 ^ a.2 = 0 * 2 ^ 0
    rw [Int.zero_mul, Int.zero_mul]
  have e1 := plus_is (is_self a) e
  rw [Int.add_zero] at e1
  exact is_eq (frm_plus _ _) h e1 (is_self a)
theorem times_one {a : Int × Nat} (h : Frm a) : dtimes a (1, 0) = a := by
  show nrm (a.2 + 0) (a.1 * 1) = a
  rw [Int.mul_one]
  exact nrm_id h
theorem times_zero (a : Int × Nat) : dtimes a (0, 0) = (0, 0) := by
  show nrm (a.2 + 0) (a.1 * 0) = (0, 0)
  rw [Int.mul_zero]
  exact nrm_zero _
end DyM

set_option Elab.async false
set_option linter.all false
set_option maxHeartbeats 4000000
/-! Bx: boxes as data, and what is asked of them. -/
namespace DyM
/-! ### the order of dyadics -/
theorem dl {p q : Int × Nat} {n : Nat} (hp : p.2 ≤ n) (hq : q.2 ≤ n) : dless p q = decide (tp p n < tp q n) := less_is (is_tp hp) (is_tp hq)
theorem de {p q : Int × Nat} {n : Nat} (fp : Frm p) (fq : Frm q) (hp : p.2 ≤ n) (hq : q.2 ≤ n) (h : tp p n = tp q n) : p = q := by
  have h1 := is_tp hp
  rw [h] at h1
  exact is_eq fp fq h1 (is_tp hq)
theorem dless_irr (p : Int × Nat) : dless p p = false := by
  rw [dl (Nat.le_refl _) (Nat.le_refl _)]
  exact decide_eq_false (by omega)
theorem dless_asym {p q : Int × Nat} (h : dless p q = true) : dless q p = false := by
  rw [dl (n := p.2 + q.2) (by omega) (by omega)] at h ⊢
  have := of_decide_eq_true h
  exact decide_eq_false (by omega)
theorem dless_trans {p q r : Int × Nat} (h : dless p q = true) (h' : dless q r = true) : dless p r = true := by
  rw [dl (n := p.2 + q.2 + r.2) (by omega) (by omega)] at h h' ⊢
  have := of_decide_eq_true h
  have := of_decide_eq_true h'
  exact decide_eq_true (by omega)
/-- no less, no less -/
theorem dle_trans {p q r : Int × Nat} (h : dless q p = false) (h' : dless r q = false) : dless r p = false := by
  rw [dl (n := p.2 + q.2 + r.2) (by omega) (by omega)] at h h' ⊢
  have := of_decide_eq_false h
  have := of_decide_eq_false h'
  exact decide_eq_false (by omega)
theorem dle_lt_trans {p q r : Int × Nat} (h : dless q p = false) (h' : dless q r = true) : dless p r = true := by
  rw [dl (n := p.2 + q.2 + r.2) (by omega) (by omega)] at h h' ⊢
  have := of_decide_eq_false h
  have := of_decide_eq_true h'
  exact decide_eq_true (by omega)
theorem dlt_le_trans {p q r : Int × Nat} (h : dless p q = true) (h' : dless r q = false) : dless p r = true := by
  rw [dl (n := p.2 + q.2 + r.2) (by omega) (by omega)] at h h' ⊢
  have := of_decide_eq_true h
  have := of_decide_eq_false h'
  exact decide_eq_true (by omega)
theorem dless_eq {p q : Int × Nat} (fp : Frm p) (fq : Frm q) (h : dless p q = false) (h' : dless q p = false) : p = q := by
  rw [dl (n := p.2 + q.2) (by omega) (by omega)] at h h'
  have := of_decide_eq_false h
  have := of_decide_eq_false h'
  exact de (n := p.2 + q.2) fp fq (by omega) (by omega) (by omega)
def dmost (p q : Int × Nat) : Int × Nat := if dless p q = true then q else p
def dleast (p q : Int × Nat) : Int × Nat := if dless q p = true then q else p
theorem dmost_or (p q : Int × Nat) : dmost p q = p ∨ dmost p q = q := by unfold dmost; split <;> simp
theorem dleast_or (p q : Int × Nat) : dleast p q = p ∨ dleast p q = q := by unfold dleast; split <;> simp
theorem dmost_frm {p q : Int × Nat} (hp : Frm p) (hq : Frm q) : Frm (dmost p q) := by
  rcases dmost_or p q with e | e <;> rw [e] <;> assumption
theorem dleast_frm {p q : Int × Nat} (hp : Frm p) (hq : Frm q) : Frm (dleast p q) := by
  rcases dleast_or p q with e | e <;> rw [e] <;> assumption
theorem dmost_self (p : Int × Nat) : dmost p p = p := by unfold dmost; split <;> rfl
theorem dleast_self (p : Int × Nat) : dleast p p = p := by unfold dleast; split <;> rfl
theorem less_dmost (r p q : Int × Nat) : dless r (dmost p q) = (dless r p || dless r q) := by
  unfold dmost
  cases h : dless p q with
  | true =>
    rw [if_pos rfl]
    cases h2 : dless r p with
    | true => rw [dless_trans h2 h]; rfl
    | false => rfl
  | false =>
    rw [if_neg Bool.false_ne_true]
    cases h2 : dless r q with
    | true => rw [dlt_le_trans h2 h]; rfl
    | false => rw [Bool.or_false]
theorem dmost_less (p q r : Int × Nat) : dless (dmost p q) r = (dless p r && dless q r) := by
  unfold dmost
  cases h : dless p q with
  | true =>
    rw [if_pos rfl]
    cases h2 : dless q r with
    | true => rw [dless_trans h h2]; rfl
    | false => rw [Bool.and_false]
  | false =>
    rw [if_neg Bool.false_ne_true]
    cases h2 : dless p r with
    | true => rw [dle_lt_trans h h2]; rfl
    | false => rfl
theorem dleast_less (p q r : Int × Nat) : dless (dleast p q) r = (dless p r || dless q r) := by
  unfold dleast
  cases h : dless q p with
  | true =>
    rw [if_pos rfl]
    cases h2 : dless p r with
    | true => rw [dless_trans h h2]; rfl
    | false => rfl
  | false =>
    rw [if_neg Bool.false_ne_true]
    cases h2 : dless q r with
    | true => rw [dle_lt_trans h h2]; rfl
    | false => rw [Bool.or_false]
theorem less_dleast (r p q : Int × Nat) : dless r (dleast p q) = (dless r p && dless r q) := by
  unfold dleast
  cases h : dless q p with
  | true =>
    rw [if_pos rfl]
    cases h2 : dless r q with
    | true => rw [dless_trans h2 h]; rfl
    | false => rw [Bool.and_false]
  | false =>
    rw [if_neg Bool.false_ne_true]
    cases h2 : dless r p with
    | true => rw [dlt_le_trans h2 h]; rfl
    | false => rfl
theorem dmost_comm {p q : Int × Nat} (fp : Frm p) (fq : Frm q) : dmost p q = dmost q p := by
  refine dless_eq (dmost_frm fp fq) (dmost_frm fq fp) ?_ ?_
  · rw [less_dmost, dmost_less, dmost_less, dless_irr, dless_irr, Bool.and_false, Bool.false_and]; rfl
  · rw [less_dmost, dmost_less, dmost_less, dless_irr, dless_irr, Bool.and_false, Bool.false_and]; rfl
theorem dleast_comm {p q : Int × Nat} (fp : Frm p) (fq : Frm q) : dleast p q = dleast q p := by
  refine dless_eq (dleast_frm fp fq) (dleast_frm fq fp) ?_ ?_
  · rw [less_dleast, dleast_less, dleast_less, dless_irr, dless_irr]
    cases h : dless p q with
    | true => rw [dless_asym h]; rfl
    | false => cases dless q p <;> rfl
  · rw [less_dleast, dleast_less, dleast_less, dless_irr, dless_irr]
    cases h : dless p q with
    | true => rw [dless_asym h]; rfl
    | false => cases dless q p <;> rfl
/-- two that have the same lesser ones are one -/
theorem same_below {p q : Int × Nat} (fp : Frm p) (fq : Frm q) (h : ∀ r, dless r p = dless r q) : p = q :=
  dless_eq fp fq (by rw [← h]; exact dless_irr p) (by rw [h]; exact dless_irr q)
theorem same_above {p q : Int × Nat} (fp : Frm p) (fq : Frm q) (h : ∀ r, dless p r = dless q r) : p = q :=
  dless_eq fp fq (by rw [h]; exact dless_irr q) (by rw [← h]; exact dless_irr p)
theorem dmost_assoc {p q r : Int × Nat} (fp : Frm p) (fq : Frm q) (fr : Frm r) : dmost (dmost p q) r = dmost p (dmost q r) :=
  same_below (dmost_frm (dmost_frm fp fq) fr) (dmost_frm fp (dmost_frm fq fr)) fun x => by
    rw [less_dmost, less_dmost, less_dmost, less_dmost, Bool.or_assoc]
theorem dleast_assoc {p q r : Int × Nat} (fp : Frm p) (fq : Frm q) (fr : Frm r) : dleast (dleast p q) r = dleast p (dleast q r) :=
  same_above (dleast_frm (dleast_frm fp fq) fr) (dleast_frm fp (dleast_frm fq fr)) fun x => by
    rw [dleast_less, dleast_less, dleast_less, dleast_less, Bool.or_assoc]

/-! ### boxes -/
abbrev Bx := (Int × Nat) × (Int × Nat)
structure Bok (b : Bx) : Prop where
  f1 : Frm b.1
  f2 : Frm b.2
  le : dless b.2 b.1 = false
def withinB (a b : Bx) : Bool := !dless a.1 b.1 && !dless b.2 a.2
def commonB (a b : Bx) : Option Bx := if dless (dleast a.2 b.2) (dmost a.1 b.1) = true then none else some (dmost a.1 b.1, dleast a.2 b.2)
def inO (c : Bx) : Option Bx → Bool
  | none => false
  | some x => withinB c x
theorem common_ok {a b x : Bx} (ha : Bok a) (hb : Bok b) (h : commonB a b = some x) : Bok x := by
  unfold commonB at h
  split at h
  · cases h
  · rename_i h1
    cases h
    exact ⟨dmost_frm ha.f1 hb.f1, dleast_frm ha.f2 hb.f2, by simpa using h1⟩
theorem common_comm {a b : Bx} (ha : Bok a) (hb : Bok b) : commonB b a = commonB a b := by
  unfold commonB
  rw [dmost_comm ha.f1 hb.f1, dleast_comm ha.f2 hb.f2]
theorem common_self {a : Bx} (ha : Bok a) : commonB a a = some a := by
  unfold commonB
  rw [dmost_self, dleast_self, ha.le, if_neg Bool.false_ne_true]
theorem both_eq {a b c : Bx} : (commonB a b).bind (fun x => commonB x c) = if dless (dleast (dleast a.2 b.2) c.2) (dmost (dmost a.1 b.1) c.1) = true then none else some (dmost (dmost a.1 b.1) c.1, dleast (dleast a.2 b.2) c.2) := by
  unfold commonB
  by_cases h : dless (dleast a.2 b.2) (dmost a.1 b.1) = true
  · have h2 : dless (dleast (dleast a.2 b.2) c.2) (dmost (dmost a.1 b.1) c.1) = true := by
      rw [less_dmost, dleast_less _ c.2, h]
      rfl
    rw [if_pos h, if_pos h2]
    rfl
  · rw [if_neg h]
    rfl
theorem both_comm {a b c : Bx} (ha : Bok a) (hb : Bok b) (hc : Bok c) : (commonB a b).bind (fun x => commonB x c) = (commonB c b).bind (fun x => commonB x a) := by
  rw [both_eq, both_eq, dmost_comm (dmost_frm ha.f1 hb.f1) hc.f1, dleast_comm (dleast_frm ha.f2 hb.f2) hc.f2, dmost_comm ha.f1 hb.f1, dleast_comm ha.f2 hb.f2, dmost_assoc hc.f1 hb.f1 ha.f1, dleast_assoc hc.f2 hb.f2 ha.f2]
theorem in_common {a b c : Bx} (hc : dless c.2 c.1 = false) : inO c (commonB a b) = (withinB c a && withinB c b) := by
  unfold commonB
  have e : withinB c (dmost a.1 b.1, dleast a.2 b.2) = (withinB c a && withinB c b) := by
    unfold withinB
    rw [less_dmost, dleast_less]
    cases dless c.1 a.1 <;> cases dless c.1 b.1 <;> cases dless a.2 c.2 <;> cases dless b.2 c.2 <;> rfl
  by_cases h : dless (dleast a.2 b.2) (dmost a.1 b.1) = true
  · rw [if_pos h, ← e]
    unfold withinB inO
    cases h1 : dless c.1 (dmost a.1 b.1) with
    | true => rfl
    | false =>
      cases h2 : dless (dleast a.2 b.2) c.2 with
      | true => rfl
      | false =>
        have h3 := dle_trans h1 hc
        have h4 := dle_trans h3 h2
        rw [h] at h4
        cases h4
  · rw [if_neg h, ← e]
    rfl
theorem within_trans {a b c : Bx} (h : withinB a b = true) (h' : withinB b c = true) : withinB a c = true := by
  unfold withinB at h h' ⊢
  simp only [Bool.and_eq_true, Bool.not_eq_true'] at h h' ⊢
  exact ⟨dle_trans h'.1 h.1, dle_trans h.2 h'.2⟩
theorem within_both {a b : Bx} (ha : Bok a) (hb : Bok b) : (withinB a b && withinB b a) = decide (a = b) := by
  rw [Bool.eq_iff_iff, decide_eq_true_eq]
  unfold withinB
  simp only [Bool.and_eq_true, Bool.not_eq_true']
  constructor
  · intro h
    exact Prod.ext (dless_eq ha.f1 hb.f1 h.1.1 h.2.1) (dless_eq ha.f2 hb.f2 h.2.2 h.1.2)
  · intro h
    subst h
    exact ⟨⟨dless_irr _, dless_irr _⟩, ⟨dless_irr _, dless_irr _⟩⟩
theorem within_common {a b : Bx} (ha : Bok a) (hb : Bok b) (h : withinB a b = true) : commonB a b = some a := by
  unfold withinB at h
  simp only [Bool.and_eq_true, Bool.not_eq_true'] at h
  have e1 : dmost a.1 b.1 = a.1 := by
    unfold dmost
    rw [h.1, if_neg Bool.false_ne_true]
  have e2 : dleast a.2 b.2 = a.2 := by
    unfold dleast
    rw [h.2, if_neg Bool.false_ne_true]
  unfold commonB
  rw [e1, e2, ha.le, if_neg Bool.false_ne_true]
def widthB (a : Bx) : Int × Nat := dminus a.2 a.1
theorem within_width {a b : Bx} (h : withinB a b = true) : dless (widthB b) (widthB a) = false := by
  unfold withinB at h
  simp only [Bool.and_eq_true, Bool.not_eq_true'] at h
  obtain ⟨n, hn⟩ : ∃ n, n = a.1.2 + a.2.2 + b.1.2 + b.2.2 := ⟨_, rfl⟩
  have i1 := is_tp (p := a.1) (n := n) (by omega)
  have i2 := is_tp (p := a.2) (n := n) (by omega)
  have i3 := is_tp (p := b.1) (n := n) (by omega)
  have i4 := is_tp (p := b.2) (n := n) (by omega)
  rw [less_is i1 i3, less_is i4 i2] at h
  unfold widthB
  rw [less_is (minus_is i4 i3) (minus_is i2 i1)]
  have := of_decide_eq_false h.1
  have := of_decide_eq_false h.2
  exact decide_eq_false (by omega)
end DyM
namespace LK
open PySem L2 D3 DyM
def boxD (b : Bx) : D := .tup [dyD b.1, dyD b.2]
def optD : Option Bx → D
  | none => .non
  | some b => boxD b
theorem fIx_bx0 {b : Bx} {m : Mem} {P : DK} : fIx (boxD b) (.int 0) m P = P (dyD b.1) m := by
  unfold boxD
  rw [fIx_tup, at3_0]
theorem fIx_bx1 {b : Bx} {m : Mem} {P : DK} : fIx (boxD b) (.int 1) m P = P (dyD b.2) m := by
  unfold boxD
  rw [fIx_tup, at3_1]
theorem bx_dec (a b : Bx) : (((a.1.1 == b.1.1) && (((a.1.2 : Int) == (b.1.2 : Int)) && true)) && ((((a.2.1 == b.2.1) && (((a.2.2 : Int) == (b.2.2 : Int)) && true))) && true)) = decide (a = b) := by
  rw [Bool.eq_iff_iff, decide_eq_true_eq]
  simp only [Bool.and_eq_true, beq_iff_eq, and_true]
  constructor
  · intro h
    exact Prod.ext (Prod.ext h.1.1 (by omega)) (Prod.ext h.2.1 (by omega))
  · intro h
    subst h
    exact ⟨⟨rfl, rfl⟩, ⟨rfl, rfl⟩⟩
theorem deqOk_opt : ∀ a b : Option Bx, deqOk (optD a) (optD b) = true
  | none, none => rfl
  | none, some _ => rfl
  | some _, none => rfl
  | some _, some _ => rfl
theorem deq_opt : ∀ a b : Option Bx, deq (optD a) (optD b) = decide (a = b)
  | none, none => rfl
  | none, some _ => by rw [decide_eq_false (fun h => nomatch h)]; rfl
  | some _, none => by rw [decide_eq_false (fun h => nomatch h)]; rfl
  | some a, some b => by
    have e : decide (some a = some b) = decide (a = b) := by
      rw [Bool.eq_iff_iff, decide_eq_true_eq, decide_eq_true_eq, Option.some.injEq]
    rw [e, ← bx_dec]
    rfl
theorem fEq_opt {a b : Option Bx} {m : Mem} {P : DK} : fEq (optD a) (optD b) m P = P (.bl (decide (a = b))) m := by
  unfold fEq
  rw [deqOk_opt, deq_opt, eq_self, true_and]
theorem fNe_opt {a b : Option Bx} {m : Mem} {P : DK} : fNe (optD a) (optD b) m P = P (.bl (!decide (a = b))) m := by
  unfold fNe
  rw [deqOk_opt, deq_opt, eq_self, true_and]
theorem fNe_optb {a : Option Bx} {b : Bx} {m : Mem} {P : DK} : fNe (optD a) (boxD b) m P = P (.bl (!decide (a = some b))) m := fNe_opt (b := some b)
theorem fEq_bx {a b : Bx} {m : Mem} {P : DK} : fEq (boxD a) (boxD b) m P = P (.bl (decide (a = b))) m := by
  have h := fEq_opt (a := some a) (b := some b) (m := m) (P := P)
  rw [show decide (some a = some b) = decide (a = b) by rw [Bool.eq_iff_iff, decide_eq_true_eq, decide_eq_true_eq, Option.some.injEq]] at h
  exact h
theorem isN_opt (a : Option Bx) : dIsN (optD a) = a.isNone := by cases a <;> rfl
end LK

namespace LK
open PySem L2 D3 DyM
def topS (i : Nat) : Stmt := PySem.Challenge.pw_lazyreal_k04_boxes.main.body.getD i (.Pass ⟨0, 0, 0, 0⟩)
abbrev s_is_whole : Stmt := topS 2
theorem sc_is_whole : FnScope ["thing"] ["thing"] (defScope s_is_whole) := ⟨rfl, rfl, rfl, by decide +kernel, rfl, by decide +kernel, by decide +kernel⟩
abbrev s_is_dyadic : Stmt := topS 3
theorem sc_is_dyadic : FnScope ["thing"] ["thing"] (defScope s_is_dyadic) := ⟨rfl, rfl, rfl, by decide +kernel, rfl, by decide +kernel, by decide +kernel⟩
abbrev s_dyadic : Stmt := topS 4
theorem sc_dyadic : FnScope ["top", "down", "halves"] ["top", "down"] (defScope s_dyadic) := ⟨rfl, rfl, rfl, by decide +kernel, rfl, by decide +kernel, by decide +kernel⟩
abbrev s_tops_of : Stmt := topS 5
theorem sc_tops_of : FnScope ["one", "other", "down"] ["one", "other"] (defScope s_tops_of) := ⟨rfl, rfl, rfl, by decide +kernel, rfl, by decide +kernel, by decide +kernel⟩
abbrev s_minus : Stmt := topS 6
theorem sc_minus : FnScope ["one", "other", "left", "right", "down"] ["one", "other"] (defScope s_minus) := ⟨rfl, rfl, rfl, by decide +kernel, rfl, by decide +kernel, by decide +kernel⟩
abbrev s_is_less : Stmt := topS 7
theorem sc_is_less : FnScope ["one", "other", "left", "right", "down"] ["one", "other"] (defScope s_is_less) := ⟨rfl, rfl, rfl, by decide +kernel, rfl, by decide +kernel, by decide +kernel⟩
abbrev s_least_of : Stmt := topS 8
theorem sc_least_of : FnScope ["some", "found", "one"] ["some"] (defScope s_least_of) := ⟨rfl, rfl, rfl, by decide +kernel, rfl, by decide +kernel, by decide +kernel⟩
abbrev s_most_of : Stmt := topS 9
theorem sc_most_of : FnScope ["some", "found", "one"] ["some"] (defScope s_most_of) := ⟨rfl, rfl, rfl, by decide +kernel, rfl, by decide +kernel, by decide +kernel⟩
abbrev s_is_box : Stmt := topS 11
theorem sc_is_box : FnScope ["thing"] ["thing"] (defScope s_is_box) := ⟨rfl, rfl, rfl, by decide +kernel, rfl, by decide +kernel, by decide +kernel⟩
abbrev s_width : Stmt := topS 12
theorem sc_width : FnScope ["box"] ["box"] (defScope s_width) := ⟨rfl, rfl, rfl, by decide +kernel, rfl, by decide +kernel, by decide +kernel⟩
abbrev s_is_within : Stmt := topS 13
theorem sc_is_within : FnScope ["one", "other"] ["one", "other"] (defScope s_is_within) := ⟨rfl, rfl, rfl, by decide +kernel, rfl, by decide +kernel, by decide +kernel⟩
abbrev s_common : Stmt := topS 14
theorem sc_common : FnScope ["one", "other", "low", "high"] ["one", "other"] (defScope s_common) := ⟨rfl, rfl, rfl, by decide +kernel, rfl, by decide +kernel, by decide +kernel⟩
abbrev s_law_deck : Stmt := topS 16
theorem sc_law_deck : FnScope ["cell", "turn"] ["cell", "turn"] (defScope s_law_deck) := ⟨rfl, rfl, rfl, by decide +kernel, rfl, by decide +kernel, by decide +kernel⟩
abbrev s_law_pick : Stmt := topS 17
theorem sc_law_pick : FnScope ["deck", "many", "found", "number"] ["deck", "many"] (defScope s_law_pick) := ⟨rfl, rfl, rfl, by decide +kernel, rfl, by decide +kernel, by decide +kernel⟩
abbrev s_law_whole : Stmt := topS 18
theorem sc_law_whole : FnScope ["thing"] ["thing"] (defScope s_law_whole) := ⟨rfl, rfl, rfl, by decide +kernel, rfl, by decide +kernel, by decide +kernel⟩
abbrev s_law_dyadic : Stmt := topS 19
theorem sc_law_dyadic : FnScope ["top", "down"] ["top", "down"] (defScope s_law_dyadic) := ⟨rfl, rfl, rfl, by decide +kernel, rfl, by decide +kernel, by decide +kernel⟩
abbrev s_law_less : Stmt := topS 20
theorem sc_law_less : FnScope ["one", "other"] ["one", "other"] (defScope s_law_less) := ⟨rfl, rfl, rfl, by decide +kernel, rfl, by decide +kernel, by decide +kernel⟩
abbrev s_law_drawn : Stmt := topS 21
theorem sc_law_drawn : FnScope ["deck", "way", "top", "deep", "down"] ["deck"] (defScope s_law_drawn) := ⟨rfl, rfl, rfl, by decide +kernel, rfl, by decide +kernel, by decide +kernel⟩
abbrev s_law_drawn_box : Stmt := topS 22
theorem sc_law_drawn_box : FnScope ["deck", "one", "way", "other", "step"] ["deck"] (defScope s_law_drawn_box) := ⟨rfl, rfl, rfl, by decide +kernel, rfl, by decide +kernel, by decide +kernel⟩
abbrev s_law_thing : Stmt := topS 23
theorem sc_law_thing : FnScope ["deck", "deep", "kind", "far", "some", "k"] ["deck", "deep"] (defScope s_law_thing) := ⟨rfl, rfl, rfl, by decide +kernel, rfl, by decide +kernel, by decide +kernel⟩
abbrev s_law_is_dyadic : Stmt := topS 24
theorem sc_law_is_dyadic : FnScope ["thing"] ["thing"] (defScope s_law_is_dyadic) := ⟨rfl, rfl, rfl, by decide +kernel, rfl, by decide +kernel, by decide +kernel⟩
abbrev s_law_is_box : Stmt := topS 25
theorem sc_law_is_box : FnScope ["thing"] ["thing"] (defScope s_law_is_box) := ⟨rfl, rfl, rfl, by decide +kernel, rfl, by decide +kernel, by decide +kernel⟩
abbrev s_law_near : Stmt := topS 26
theorem sc_law_near : FnScope ["deck", "box", "low", "high", "some"] ["deck", "box"] (defScope s_law_near) := ⟨rfl, rfl, rfl, by decide +kernel, rfl, by decide +kernel, by decide +kernel⟩
abbrev s_law_pair_right : Stmt := topS 27
theorem sc_law_pair_right : FnScope ["one", "other", "low", "high", "due", "inside", "said", "down", "wide"] ["one", "other"] (defScope s_law_pair_right) := ⟨rfl, rfl, rfl, by decide +kernel, rfl, by decide +kernel, by decide +kernel⟩
abbrev s_law : Stmt := topS 28
theorem sc_law : FnScope ["script", "cell", "deck", "one", "other", "thing", "text", "said"] ["script"] (defScope s_law) := ⟨rfl, rfl, rfl, by decide +kernel, rfl, by decide +kernel, by decide +kernel⟩
/-- what the top has left -/
structure Tx (K : PySem.W.Frag) (mg : Str → Option Value) (fa : Nat → Addr) (fd : Nat → FuncData) : Prop where
  d_is_whole : Def K mg "is_whole" s_is_whole ["thing"] (fa 0) (fd 0)
  d_is_dyadic : Def K mg "is_dyadic" s_is_dyadic ["thing"] (fa 1) (fd 1)
  d_dyadic : Def K mg "dyadic" s_dyadic ["top", "down"] (fa 2) (fd 2)
  d_tops_of : Def K mg "tops_of" s_tops_of ["one", "other"] (fa 3) (fd 3)
  d_minus : Def K mg "minus" s_minus ["one", "other"] (fa 4) (fd 4)
  d_is_less : Def K mg "is_less" s_is_less ["one", "other"] (fa 5) (fd 5)
  d_least_of : Def K mg "least_of" s_least_of ["some"] (fa 6) (fd 6)
  d_most_of : Def K mg "most_of" s_most_of ["some"] (fa 7) (fd 7)
  d_is_box : Def K mg "is_box" s_is_box ["thing"] (fa 8) (fd 8)
  d_width : Def K mg "width" s_width ["box"] (fa 9) (fd 9)
  d_is_within : Def K mg "is_within" s_is_within ["one", "other"] (fa 10) (fd 10)
  d_common : Def K mg "common" s_common ["one", "other"] (fa 11) (fd 11)
  d_law_deck : Def K mg "_law_deck" s_law_deck ["cell", "turn"] (fa 12) (fd 12)
  d_law_pick : Def K mg "_law_pick" s_law_pick ["deck", "many"] (fa 13) (fd 13)
  d_law_whole : Def K mg "_law_whole" s_law_whole ["thing"] (fa 14) (fd 14)
  d_law_dyadic : Def K mg "_law_dyadic" s_law_dyadic ["top", "down"] (fa 15) (fd 15)
  d_law_less : Def K mg "_law_less" s_law_less ["one", "other"] (fa 16) (fd 16)
  d_law_drawn : Def K mg "_law_drawn" s_law_drawn ["deck"] (fa 17) (fd 17)
  d_law_drawn_box : Def K mg "_law_drawn_box" s_law_drawn_box ["deck"] (fa 18) (fd 18)
  d_law_thing : Def K mg "_law_thing" s_law_thing ["deck", "deep"] (fa 19) (fd 19)
  d_law_is_dyadic : Def K mg "_law_is_dyadic" s_law_is_dyadic ["thing"] (fa 20) (fd 20)
  d_law_is_box : Def K mg "_law_is_box" s_law_is_box ["thing"] (fa 21) (fd 21)
  d_law_near : Def K mg "_law_near" s_law_near ["deck", "box"] (fa 22) (fd 22)
  d_law_pair_right : Def K mg "_law_pair_right" s_law_pair_right ["one", "other"] (fa 23) (fd 23)
  d_law : Def K mg "law" s_law ["script"] (fa 24) (fd 24)
  b_bool : mg "bool" = none
  b_int : mg "int" = none
  b_isinstance : mg "isinstance" = none
  b_len : mg "len" = none
  b_list : mg "list" = none
  b_max : mg "max" = none
  b_min : mg "min" = none
  b_range : mg "range" = none
  b_str : mg "str" = none
  b_tuple : mg "tuple" = none
  c_MOST_DOWN : ∃ t, mg "MOST_DOWN" = some (.int 4096 t)
section
variable {P : Program} {w : World} {K : PySem.W.Frag} {mg : Str → Option Value} {base : Heap} {fa : Nat → Addr} {fd : Nat → FuncData}
/-! ### what a dyadic is -/
def wh : D → Bool
  | .int _ => true
  | _ => false
def isDy : D → Bool
  | .tup [.int t, .int n] => decide (0 ≤ n ∧ n ≤ 4096 ∧ (n = 0 ∨ t.fmod 2 = 1))
  | _ => false
theorem isDy_1 (x : D) : isDy (.tup [x]) = false := by cases x <;> rfl
theorem isDy_3 (x y z : D) (r : List D) : isDy (.tup (x :: y :: z :: r)) = false := by cases x <;> first | rfl | (cases y <;> rfl)
theorem isDy_2 (t n : Int) : isDy (.tup [.int t, .int n]) = decide (0 ≤ n ∧ n ≤ 4096 ∧ (n = 0 ∨ t.fmod 2 = 1)) := rfl
def sp_isw : Sp3 := fun ds m P => ∃ (d : D) (b : Nat), ds = [d] ∧ Pl b d ∧ P (.bl (wh d)) m
def sp_isdy : Sp3 := fun ds m P => ∃ (d : D) (b : Nat), ds = [d] ∧ Pl b d ∧ P (.bl (isDy d)) m
theorem ok_is_whole (T : Tx K mg fa fd) : Fn3 P w K mg base 1 (fa 0) (fd 0) ["thing"] sp_isw := by
  refine fn3 T.d_is_whole.F sc_is_whole (fun ds m Q h => by obtain ⟨_, _, rfl, _⟩ := h; rfl) fun cdv A outer s H E ds m Q hr h => ?_
  obtain ⟨d, b, rfl, hp, q⟩ := h
  refine ⟨_, (ss_one (s_ret (e_and (e_isi rfl T.b_isinstance (e_v 0) (e_type rfl T.b_int PyProof.Rows.boot_int)) (e_one (e_not (e_isi rfl T.b_isinstance (e_v 0) (e_type rfl T.b_bool PyProof.Rows.boot_bool))))))), ?_⟩
  cases d <;> first | (exact (hp : False).elim) | ((try simp only [seq3, ifS3, b3, op3, un3, v3, c3, fIx_tup, fIx_lst, at3_0, at3_1, at3_2, at3_3, at3_4, at3_5, at3_6, start3, fI0_i, fI_i, fLt, fLe, fGt, fGe, fEqI, fNeI, fMin, fMax, asg3, name3, sub3, ret3, retN3, nx3, drop3, par3, aug3, and3, or3, not3, andV3, orV3, notV3, if3, nil3, cons3, tup3, lst3, lstM3, gtup3, gcons3, gnil3, gunl3, bits3, neg3, chain3, fIsi, isiD, fLen_lst, fLen_tup, fAbs, call3, isN3, notN3, dIsN_non, dIsN_int, dIsN_bl, dIsN_str, dIsN_tup, dIsN_lst, slc3, part3, noPart3, ilst3, itup3, irng1, irng2, for3, fCat, fEq_int, fNe_int, fEq_bl, fNe_bl, fEq_pair, fNe_pair, List.map, List.replicate, List.length_cons, List.length_nil, List.set_cons_zero, List.set_cons_succ, List.getElem?_cons_zero, List.getElem?_cons_succ, List.cons_append, List.nil_append, at_0, at_1, at_2, at_3, at_4, at_5, at_6, ix_0, ix_1, ix_2, put_same, put_put, decide_eq_true_eq, Bool.not_eq_true', decide_eq_false_iff_not, ite_not, ite_true, ite_false, if_true, if_false, Bool.false_eq_true, ↓reduceIte, reduceIte, Nat.reduceAdd, Nat.reduceSub, Int.reduceToNat, Nat.reduceLeDiff, not_false_eq_true, true_and, and_true, ne_eq, Int.reduceEq, Nat.zero_add, Bool.not_true, Bool.not_false, reduceCtorEq, nc0, nc1, nc2, nc3, nc4, nc5, fIx_ref put_same, fLen_ref put_same, fIx_dy0, fIx_dy1, fEq_dy, fNe_dy, fIx_bx0, fIx_bx1, fEq_opt, fNe_opt, fNe_optb, fEq_bx, isN_opt, lc3, fInt, fTuple, fNeS_s, fStr]); exact q)
theorem ok_law_whole (T : Tx K mg fa fd) : Fn3 P w K mg base 1 (fa 14) (fd 14) ["thing"] sp_isw := by
  refine fn3 T.d_law_whole.F sc_law_whole (fun ds m Q h => by obtain ⟨_, _, rfl, _⟩ := h; rfl) fun cdv A outer s H E ds m Q hr h => ?_
  obtain ⟨d, b, rfl, hp, q⟩ := h
  refine ⟨_, (ss_one (s_ret (e_and (e_isi rfl T.b_isinstance (e_v 0) (e_type rfl T.b_int PyProof.Rows.boot_int)) (e_one (e_not (e_isi rfl T.b_isinstance (e_v 0) (e_type rfl T.b_bool PyProof.Rows.boot_bool))))))), ?_⟩
  cases d <;> first | (exact (hp : False).elim) | ((try simp only [seq3, ifS3, b3, op3, un3, v3, c3, fIx_tup, fIx_lst, at3_0, at3_1, at3_2, at3_3, at3_4, at3_5, at3_6, start3, fI0_i, fI_i, fLt, fLe, fGt, fGe, fEqI, fNeI, fMin, fMax, asg3, name3, sub3, ret3, retN3, nx3, drop3, par3, aug3, and3, or3, not3, andV3, orV3, notV3, if3, nil3, cons3, tup3, lst3, lstM3, gtup3, gcons3, gnil3, gunl3, bits3, neg3, chain3, fIsi, isiD, fLen_lst, fLen_tup, fAbs, call3, isN3, notN3, dIsN_non, dIsN_int, dIsN_bl, dIsN_str, dIsN_tup, dIsN_lst, slc3, part3, noPart3, ilst3, itup3, irng1, irng2, for3, fCat, fEq_int, fNe_int, fEq_bl, fNe_bl, fEq_pair, fNe_pair, List.map, List.replicate, List.length_cons, List.length_nil, List.set_cons_zero, List.set_cons_succ, List.getElem?_cons_zero, List.getElem?_cons_succ, List.cons_append, List.nil_append, at_0, at_1, at_2, at_3, at_4, at_5, at_6, ix_0, ix_1, ix_2, put_same, put_put, decide_eq_true_eq, Bool.not_eq_true', decide_eq_false_iff_not, ite_not, ite_true, ite_false, if_true, if_false, Bool.false_eq_true, ↓reduceIte, reduceIte, Nat.reduceAdd, Nat.reduceSub, Int.reduceToNat, Nat.reduceLeDiff, not_false_eq_true, true_and, and_true, ne_eq, Int.reduceEq, Nat.zero_add, Bool.not_true, Bool.not_false, reduceCtorEq, nc0, nc1, nc2, nc3, nc4, nc5, fIx_ref put_same, fLen_ref put_same, fIx_dy0, fIx_dy1, fEq_dy, fNe_dy, fIx_bx0, fIx_bx1, fEq_opt, fNe_opt, fNe_optb, fEq_bx, isN_opt, lc3, fInt, fTuple, fNeS_s, fStr]); exact q)
theorem ok_is_dyadic (T : Tx K mg fa fd) : Fn3 P w K mg base 2 (fa 1) (fd 1) ["thing"] sp_isdy := by
  refine fn3 T.d_is_dyadic.F sc_is_dyadic (fun ds m Q h => by obtain ⟨_, _, rfl, _⟩ := h; rfl) fun cdv A outer s H E ds m Q hr h => ?_
  obtain ⟨d, b, rfl, hp, q⟩ := h
  refine ⟨_, (ss_cons (s_if (t_w (t_or (t_not (t_val (e_isi rfl T.b_isinstance (e_v 0) (e_type rfl T.b_tuple PyProof.Rows.boot_tuple)))) (t_or (t_neI (e_len rfl T.b_len (e_v 0)) e_int) (t_or (t_not (t_val (e_call T.d_is_whole (ok_is_whole T) (hr.mono (by omega)) rfl (a_cons (e_ix (e_v 0) e_int) a_nil)))) (t_or1 (t_not (t_val (e_call T.d_is_whole (ok_is_whole T) (hr.mono (by omega)) rfl (a_cons (e_ix (e_v 0) e_int) a_nil))))))))) (ss_one (s_ret e_bl)) ss_nil)
      (ss_one (s_ret (e_and (e_chain op_le rl_le op_le rl_le e_int (e_ix (e_v 0) e_int) (e_globI rfl T.c_MOST_DOWN)) (e_one (e_or (e_eqI (e_ix (e_v 0) e_int) e_int) (e_one (e_eqI (e_mod (e_ix (e_v 0) e_int) e_int) e_int)))))))), ?_⟩
  cases d with
  | ref a => exact (hp : False).elim
  | ty a => exact (hp : False).elim
  | tup ds =>
    match ds, hp, q with
    | [], hp, q => (try simp only [seq3, ifS3, b3, op3, un3, v3, c3, fIx_tup, fIx_lst, at3_0, at3_1, at3_2, at3_3, at3_4, at3_5, at3_6, start3, fI0_i, fI_i, fLt, fLe, fGt, fGe, fEqI, fNeI, fMin, fMax, asg3, name3, sub3, ret3, retN3, nx3, drop3, par3, aug3, and3, or3, not3, andV3, orV3, notV3, if3, nil3, cons3, tup3, lst3, lstM3, gtup3, gcons3, gnil3, gunl3, bits3, neg3, chain3, fIsi, isiD, fLen_lst, fLen_tup, fAbs, call3, isN3, notN3, dIsN_non, dIsN_int, dIsN_bl, dIsN_str, dIsN_tup, dIsN_lst, slc3, part3, noPart3, ilst3, itup3, irng1, irng2, for3, fCat, fEq_int, fNe_int, fEq_bl, fNe_bl, fEq_pair, fNe_pair, List.map, List.replicate, List.length_cons, List.length_nil, List.set_cons_zero, List.set_cons_succ, List.getElem?_cons_zero, List.getElem?_cons_succ, List.cons_append, List.nil_append, at_0, at_1, at_2, at_3, at_4, at_5, at_6, ix_0, ix_1, ix_2, put_same, put_put, decide_eq_true_eq, Bool.not_eq_true', decide_eq_false_iff_not, ite_not, ite_true, ite_false, if_true, if_false, Bool.false_eq_true, ↓reduceIte, reduceIte, Nat.reduceAdd, Nat.reduceSub, Int.reduceToNat, Nat.reduceLeDiff, not_false_eq_true, true_and, and_true, ne_eq, Int.reduceEq, Nat.zero_add, Bool.not_true, Bool.not_false, reduceCtorEq, nc0, nc1, nc2, nc3, nc4, nc5, fIx_ref put_same, fLen_ref put_same, fIx_dy0, fIx_dy1, fEq_dy, fNe_dy, fIx_bx0, fIx_bx1, fEq_opt, fNe_opt, fNe_optb, fEq_bx, isN_opt, lc3, fInt, fTuple, fNeS_s, fStr]); exact q
    | [x], hp, q =>
      rw [isDy_1] at q
      try simp only [seq3, ifS3, b3, op3, un3, v3, c3, fIx_tup, fIx_lst, at3_0, at3_1, at3_2, at3_3, at3_4, at3_5, at3_6, start3, fI0_i, fI_i, fLt, fLe, fGt, fGe, fEqI, fNeI, fMin, fMax, asg3, name3, sub3, ret3, retN3, nx3, drop3, par3, aug3, and3, or3, not3, andV3, orV3, notV3, if3, nil3, cons3, tup3, lst3, lstM3, gtup3, gcons3, gnil3, gunl3, bits3, neg3, chain3, fIsi, isiD, fLen_lst, fLen_tup, fAbs, call3, isN3, notN3, dIsN_non, dIsN_int, dIsN_bl, dIsN_str, dIsN_tup, dIsN_lst, slc3, part3, noPart3, ilst3, itup3, irng1, irng2, for3, fCat, fEq_int, fNe_int, fEq_bl, fNe_bl, fEq_pair, fNe_pair, List.map, List.replicate, List.length_cons, List.length_nil, List.set_cons_zero, List.set_cons_succ, List.getElem?_cons_zero, List.getElem?_cons_succ, List.cons_append, List.nil_append, at_0, at_1, at_2, at_3, at_4, at_5, at_6, ix_0, ix_1, ix_2, put_same, put_put, decide_eq_true_eq, Bool.not_eq_true', decide_eq_false_iff_not, ite_not, ite_true, ite_false, if_true, if_false, Bool.false_eq_true, ↓reduceIte, reduceIte, Nat.reduceAdd, Nat.reduceSub, Int.reduceToNat, Nat.reduceLeDiff, not_false_eq_true, true_and, and_true, ne_eq, Int.reduceEq, Nat.zero_add, Bool.not_true, Bool.not_false, reduceCtorEq, nc0, nc1, nc2, nc3, nc4, nc5, fIx_ref put_same, fLen_ref put_same, fIx_dy0, fIx_dy1, fEq_dy, fNe_dy, fIx_bx0, fIx_bx1, fEq_opt, fNe_opt, fNe_optb, fEq_bx, isN_opt, lc3, fInt, fTuple, fNeS_s, fStr]
      exact q
    | x :: y :: z :: r, hp, q =>
      rw [isDy_3] at q
      try simp only [seq3, ifS3, b3, op3, un3, v3, c3, fIx_tup, fIx_lst, at3_0, at3_1, at3_2, at3_3, at3_4, at3_5, at3_6, start3, fI0_i, fI_i, fLt, fLe, fGt, fGe, fEqI, fNeI, fMin, fMax, asg3, name3, sub3, ret3, retN3, nx3, drop3, par3, aug3, and3, or3, not3, andV3, orV3, notV3, if3, nil3, cons3, tup3, lst3, lstM3, gtup3, gcons3, gnil3, gunl3, bits3, neg3, chain3, fIsi, isiD, fLen_lst, fLen_tup, fAbs, call3, isN3, notN3, dIsN_non, dIsN_int, dIsN_bl, dIsN_str, dIsN_tup, dIsN_lst, slc3, part3, noPart3, ilst3, itup3, irng1, irng2, for3, fCat, fEq_int, fNe_int, fEq_bl, fNe_bl, fEq_pair, fNe_pair, List.map, List.replicate, List.length_cons, List.length_nil, List.set_cons_zero, List.set_cons_succ, List.getElem?_cons_zero, List.getElem?_cons_succ, List.cons_append, List.nil_append, at_0, at_1, at_2, at_3, at_4, at_5, at_6, ix_0, ix_1, ix_2, put_same, put_put, decide_eq_true_eq, Bool.not_eq_true', decide_eq_false_iff_not, ite_not, ite_true, ite_false, if_true, if_false, Bool.false_eq_true, ↓reduceIte, reduceIte, Nat.reduceAdd, Nat.reduceSub, Int.reduceToNat, Nat.reduceLeDiff, not_false_eq_true, true_and, and_true, ne_eq, Int.reduceEq, Nat.zero_add, Bool.not_true, Bool.not_false, reduceCtorEq, nc0, nc1, nc2, nc3, nc4, nc5, fIx_ref put_same, fLen_ref put_same, fIx_dy0, fIx_dy1, fEq_dy, fNe_dy, fIx_bx0, fIx_bx1, fEq_opt, fNe_opt, fNe_optb, fEq_bx, isN_opt, lc3, fInt, fTuple, fNeS_s, fStr]
      exact ite2 (fun h => absurd h (by omega)) (fun h => q)
    | [x, y], hp, q =>
      try simp only [seq3, ifS3, b3, op3, un3, v3, c3, fIx_tup, fIx_lst, at3_0, at3_1, at3_2, at3_3, at3_4, at3_5, at3_6, start3, fI0_i, fI_i, fLt, fLe, fGt, fGe, fEqI, fNeI, fMin, fMax, asg3, name3, sub3, ret3, retN3, nx3, drop3, par3, aug3, and3, or3, not3, andV3, orV3, notV3, if3, nil3, cons3, tup3, lst3, lstM3, gtup3, gcons3, gnil3, gunl3, bits3, neg3, chain3, fIsi, isiD, fLen_lst, fLen_tup, fAbs, call3, isN3, notN3, dIsN_non, dIsN_int, dIsN_bl, dIsN_str, dIsN_tup, dIsN_lst, slc3, part3, noPart3, ilst3, itup3, irng1, irng2, for3, fCat, fEq_int, fNe_int, fEq_bl, fNe_bl, fEq_pair, fNe_pair, List.map, List.replicate, List.length_cons, List.length_nil, List.set_cons_zero, List.set_cons_succ, List.getElem?_cons_zero, List.getElem?_cons_succ, List.cons_append, List.nil_append, at_0, at_1, at_2, at_3, at_4, at_5, at_6, ix_0, ix_1, ix_2, put_same, put_put, decide_eq_true_eq, Bool.not_eq_true', decide_eq_false_iff_not, ite_not, ite_true, ite_false, if_true, if_false, Bool.false_eq_true, ↓reduceIte, reduceIte, Nat.reduceAdd, Nat.reduceSub, Int.reduceToNat, Nat.reduceLeDiff, not_false_eq_true, true_and, and_true, ne_eq, Int.reduceEq, Nat.zero_add, Bool.not_true, Bool.not_false, reduceCtorEq, nc0, nc1, nc2, nc3, nc4, nc5, fIx_ref put_same, fLen_ref put_same, fIx_dy0, fIx_dy1, fEq_dy, fNe_dy, fIx_bx0, fIx_bx1, fEq_opt, fNe_opt, fNe_optb, fEq_bx, isN_opt, lc3, fInt, fTuple, fNeS_s, fStr]
      refine ⟨x, b, rfl, hp.1, ?_⟩
      cases x with
      | int t =>
        simp only [wh]
        try simp only [seq3, ifS3, b3, op3, un3, v3, c3, fIx_tup, fIx_lst, at3_0, at3_1, at3_2, at3_3, at3_4, at3_5, at3_6, start3, fI0_i, fI_i, fLt, fLe, fGt, fGe, fEqI, fNeI, fMin, fMax, asg3, name3, sub3, ret3, retN3, nx3, drop3, par3, aug3, and3, or3, not3, andV3, orV3, notV3, if3, nil3, cons3, tup3, lst3, lstM3, gtup3, gcons3, gnil3, gunl3, bits3, neg3, chain3, fIsi, isiD, fLen_lst, fLen_tup, fAbs, call3, isN3, notN3, dIsN_non, dIsN_int, dIsN_bl, dIsN_str, dIsN_tup, dIsN_lst, slc3, part3, noPart3, ilst3, itup3, irng1, irng2, for3, fCat, fEq_int, fNe_int, fEq_bl, fNe_bl, fEq_pair, fNe_pair, List.map, List.replicate, List.length_cons, List.length_nil, List.set_cons_zero, List.set_cons_succ, List.getElem?_cons_zero, List.getElem?_cons_succ, List.cons_append, List.nil_append, at_0, at_1, at_2, at_3, at_4, at_5, at_6, ix_0, ix_1, ix_2, put_same, put_put, decide_eq_true_eq, Bool.not_eq_true', decide_eq_false_iff_not, ite_not, ite_true, ite_false, if_true, if_false, Bool.false_eq_true, ↓reduceIte, reduceIte, Nat.reduceAdd, Nat.reduceSub, Int.reduceToNat, Nat.reduceLeDiff, not_false_eq_true, true_and, and_true, ne_eq, Int.reduceEq, Nat.zero_add, Bool.not_true, Bool.not_false, reduceCtorEq, nc0, nc1, nc2, nc3, nc4, nc5, fIx_ref put_same, fLen_ref put_same, fIx_dy0, fIx_dy1, fEq_dy, fNe_dy, fIx_bx0, fIx_bx1, fEq_opt, fNe_opt, fNe_optb, fEq_bx, isN_opt, lc3, fInt, fTuple, fNeS_s, fStr]
        refine ⟨y, b, rfl, hp.2.1, ?_⟩
        cases y with
        | int n =>
          simp only [wh]
          try simp only [seq3, ifS3, b3, op3, un3, v3, c3, fIx_tup, fIx_lst, at3_0, at3_1, at3_2, at3_3, at3_4, at3_5, at3_6, start3, fI0_i, fI_i, fLt, fLe, fGt, fGe, fEqI, fNeI, fMin, fMax, asg3, name3, sub3, ret3, retN3, nx3, drop3, par3, aug3, and3, or3, not3, andV3, orV3, notV3, if3, nil3, cons3, tup3, lst3, lstM3, gtup3, gcons3, gnil3, gunl3, bits3, neg3, chain3, fIsi, isiD, fLen_lst, fLen_tup, fAbs, call3, isN3, notN3, dIsN_non, dIsN_int, dIsN_bl, dIsN_str, dIsN_tup, dIsN_lst, slc3, part3, noPart3, ilst3, itup3, irng1, irng2, for3, fCat, fEq_int, fNe_int, fEq_bl, fNe_bl, fEq_pair, fNe_pair, List.map, List.replicate, List.length_cons, List.length_nil, List.set_cons_zero, List.set_cons_succ, List.getElem?_cons_zero, List.getElem?_cons_succ, List.cons_append, List.nil_append, at_0, at_1, at_2, at_3, at_4, at_5, at_6, ix_0, ix_1, ix_2, put_same, put_put, decide_eq_true_eq, Bool.not_eq_true', decide_eq_false_iff_not, ite_not, ite_true, ite_false, if_true, if_false, Bool.false_eq_true, ↓reduceIte, reduceIte, Nat.reduceAdd, Nat.reduceSub, Int.reduceToNat, Nat.reduceLeDiff, not_false_eq_true, true_and, and_true, ne_eq, Int.reduceEq, Nat.zero_add, Bool.not_true, Bool.not_false, reduceCtorEq, nc0, nc1, nc2, nc3, nc4, nc5, fIx_ref put_same, fLen_ref put_same, fIx_dy0, fIx_dy1, fEq_dy, fNe_dy, fIx_bx0, fIx_bx1, fEq_opt, fNe_opt, fNe_optb, fEq_bx, isN_opt, lc3, fInt, fTuple, fNeS_s, fStr]
          rw [isDy_2] at q
          refine ite2 (fun h1 => ite2 (fun h2 => ite2 (fun h3 => ?_) (fun h3 => ?_)) (fun h2 => ?_)) (fun h1 => ?_)
          · rwa [decide_eq_true (p := 0 ≤ n ∧ n ≤ 4096 ∧ (n = 0 ∨ t.fmod 2 = 1)) ⟨h1, h2, .inl h3⟩] at q
          · rwa [show decide (0 ≤ n ∧ n ≤ 4096 ∧ (n = 0 ∨ t.fmod 2 = 1)) = decide (t.fmod 2 = 1) from by simp [h1, h2, h3]] at q
          · rwa [decide_eq_false (p := 0 ≤ n ∧ n ≤ 4096 ∧ (n = 0 ∨ t.fmod 2 = 1)) fun z => h2 z.2.1] at q
          · rwa [decide_eq_false (p := 0 ≤ n ∧ n ≤ 4096 ∧ (n = 0 ∨ t.fmod 2 = 1)) fun z => h1 z.1] at q
        | _ => (try simp only [seq3, ifS3, b3, op3, un3, v3, c3, fIx_tup, fIx_lst, at3_0, at3_1, at3_2, at3_3, at3_4, at3_5, at3_6, start3, fI0_i, fI_i, fLt, fLe, fGt, fGe, fEqI, fNeI, fMin, fMax, asg3, name3, sub3, ret3, retN3, nx3, drop3, par3, aug3, and3, or3, not3, andV3, orV3, notV3, if3, nil3, cons3, tup3, lst3, lstM3, gtup3, gcons3, gnil3, gunl3, bits3, neg3, chain3, fIsi, isiD, fLen_lst, fLen_tup, fAbs, call3, isN3, notN3, dIsN_non, dIsN_int, dIsN_bl, dIsN_str, dIsN_tup, dIsN_lst, slc3, part3, noPart3, ilst3, itup3, irng1, irng2, for3, fCat, fEq_int, fNe_int, fEq_bl, fNe_bl, fEq_pair, fNe_pair, List.map, List.replicate, List.length_cons, List.length_nil, List.set_cons_zero, List.set_cons_succ, List.getElem?_cons_zero, List.getElem?_cons_succ, List.cons_append, List.nil_append, at_0, at_1, at_2, at_3, at_4, at_5, at_6, ix_0, ix_1, ix_2, put_same, put_put, decide_eq_true_eq, Bool.not_eq_true', decide_eq_false_iff_not, ite_not, ite_true, ite_false, if_true, if_false, Bool.false_eq_true, ↓reduceIte, reduceIte, Nat.reduceAdd, Nat.reduceSub, Int.reduceToNat, Nat.reduceLeDiff, not_false_eq_true, true_and, and_true, ne_eq, Int.reduceEq, Nat.zero_add, Bool.not_true, Bool.not_false, reduceCtorEq, nc0, nc1, nc2, nc3, nc4, nc5, fIx_ref put_same, fLen_ref put_same, fIx_dy0, fIx_dy1, fEq_dy, fNe_dy, fIx_bx0, fIx_bx1, fEq_opt, fNe_opt, fNe_optb, fEq_bx, isN_opt, lc3, fInt, fTuple, fNeS_s, fStr, wh]); exact q
      | _ => (try simp only [seq3, ifS3, b3, op3, un3, v3, c3, fIx_tup, fIx_lst, at3_0, at3_1, at3_2, at3_3, at3_4, at3_5, at3_6, start3, fI0_i, fI_i, fLt, fLe, fGt, fGe, fEqI, fNeI, fMin, fMax, asg3, name3, sub3, ret3, retN3, nx3, drop3, par3, aug3, and3, or3, not3, andV3, orV3, notV3, if3, nil3, cons3, tup3, lst3, lstM3, gtup3, gcons3, gnil3, gunl3, bits3, neg3, chain3, fIsi, isiD, fLen_lst, fLen_tup, fAbs, call3, isN3, notN3, dIsN_non, dIsN_int, dIsN_bl, dIsN_str, dIsN_tup, dIsN_lst, slc3, part3, noPart3, ilst3, itup3, irng1, irng2, for3, fCat, fEq_int, fNe_int, fEq_bl, fNe_bl, fEq_pair, fNe_pair, List.map, List.replicate, List.length_cons, List.length_nil, List.set_cons_zero, List.set_cons_succ, List.getElem?_cons_zero, List.getElem?_cons_succ, List.cons_append, List.nil_append, at_0, at_1, at_2, at_3, at_4, at_5, at_6, ix_0, ix_1, ix_2, put_same, put_put, decide_eq_true_eq, Bool.not_eq_true', decide_eq_false_iff_not, ite_not, ite_true, ite_false, if_true, if_false, Bool.false_eq_true, ↓reduceIte, reduceIte, Nat.reduceAdd, Nat.reduceSub, Int.reduceToNat, Nat.reduceLeDiff, not_false_eq_true, true_and, and_true, ne_eq, Int.reduceEq, Nat.zero_add, Bool.not_true, Bool.not_false, reduceCtorEq, nc0, nc1, nc2, nc3, nc4, nc5, fIx_ref put_same, fLen_ref put_same, fIx_dy0, fIx_dy1, fEq_dy, fNe_dy, fIx_bx0, fIx_bx1, fEq_opt, fNe_opt, fNe_optb, fEq_bx, isN_opt, lc3, fInt, fTuple, fNeS_s, fStr, wh]); exact q
  | _ => (try simp only [seq3, ifS3, b3, op3, un3, v3, c3, fIx_tup, fIx_lst, at3_0, at3_1, at3_2, at3_3, at3_4, at3_5, at3_6, start3, fI0_i, fI_i, fLt, fLe, fGt, fGe, fEqI, fNeI, fMin, fMax, asg3, name3, sub3, ret3, retN3, nx3, drop3, par3, aug3, and3, or3, not3, andV3, orV3, notV3, if3, nil3, cons3, tup3, lst3, lstM3, gtup3, gcons3, gnil3, gunl3, bits3, neg3, chain3, fIsi, isiD, fLen_lst, fLen_tup, fAbs, call3, isN3, notN3, dIsN_non, dIsN_int, dIsN_bl, dIsN_str, dIsN_tup, dIsN_lst, slc3, part3, noPart3, ilst3, itup3, irng1, irng2, for3, fCat, fEq_int, fNe_int, fEq_bl, fNe_bl, fEq_pair, fNe_pair, List.map, List.replicate, List.length_cons, List.length_nil, List.set_cons_zero, List.set_cons_succ, List.getElem?_cons_zero, List.getElem?_cons_succ, List.cons_append, List.nil_append, at_0, at_1, at_2, at_3, at_4, at_5, at_6, ix_0, ix_1, ix_2, put_same, put_put, decide_eq_true_eq, Bool.not_eq_true', decide_eq_false_iff_not, ite_not, ite_true, ite_false, if_true, if_false, Bool.false_eq_true, ↓reduceIte, reduceIte, Nat.reduceAdd, Nat.reduceSub, Int.reduceToNat, Nat.reduceLeDiff, not_false_eq_true, true_and, and_true, ne_eq, Int.reduceEq, Nat.zero_add, Bool.not_true, Bool.not_false, reduceCtorEq, nc0, nc1, nc2, nc3, nc4, nc5, fIx_ref put_same, fLen_ref put_same, fIx_dy0, fIx_dy1, fEq_dy, fNe_dy, fIx_bx0, fIx_bx1, fEq_opt, fNe_opt, fNe_optb, fEq_bx, isN_opt, lc3, fInt, fTuple, fNeS_s, fStr]); exact q
theorem ok_law_is_dyadic (T : Tx K mg fa fd) : Fn3 P w K mg base 2 (fa 20) (fd 20) ["thing"] sp_isdy := by
  refine fn3 T.d_law_is_dyadic.F sc_law_is_dyadic (fun ds m Q h => by obtain ⟨_, _, rfl, _⟩ := h; rfl) fun cdv A outer s H E ds m Q hr h => ?_
  obtain ⟨d, b, rfl, hp, q⟩ := h
  refine ⟨_, (ss_cons (s_if (t_w (t_or (t_not (t_val (e_isi rfl T.b_isinstance (e_v 0) (e_type rfl T.b_tuple PyProof.Rows.boot_tuple)))) (t_or (t_neI (e_len rfl T.b_len (e_v 0)) e_int) (t_or (t_not (t_val (e_call T.d_law_whole (ok_law_whole T) (hr.mono (by omega)) rfl (a_cons (e_ix (e_v 0) e_int) a_nil)))) (t_or1 (t_not (t_val (e_call T.d_law_whole (ok_law_whole T) (hr.mono (by omega)) rfl (a_cons (e_ix (e_v 0) e_int) a_nil))))))))) (ss_one (s_ret e_bl)) ss_nil)
      (ss_one (s_ret (e_and (e_chain op_le rl_le op_le rl_le e_int (e_ix (e_v 0) e_int) e_int) (e_one (e_or (e_eqI (e_ix (e_v 0) e_int) e_int) (e_one (e_eqI (e_mod (e_ix (e_v 0) e_int) e_int) e_int)))))))), ?_⟩
  cases d with
  | ref a => exact (hp : False).elim
  | ty a => exact (hp : False).elim
  | tup ds =>
    match ds, hp, q with
    | [], hp, q => (try simp only [seq3, ifS3, b3, op3, un3, v3, c3, fIx_tup, fIx_lst, at3_0, at3_1, at3_2, at3_3, at3_4, at3_5, at3_6, start3, fI0_i, fI_i, fLt, fLe, fGt, fGe, fEqI, fNeI, fMin, fMax, asg3, name3, sub3, ret3, retN3, nx3, drop3, par3, aug3, and3, or3, not3, andV3, orV3, notV3, if3, nil3, cons3, tup3, lst3, lstM3, gtup3, gcons3, gnil3, gunl3, bits3, neg3, chain3, fIsi, isiD, fLen_lst, fLen_tup, fAbs, call3, isN3, notN3, dIsN_non, dIsN_int, dIsN_bl, dIsN_str, dIsN_tup, dIsN_lst, slc3, part3, noPart3, ilst3, itup3, irng1, irng2, for3, fCat, fEq_int, fNe_int, fEq_bl, fNe_bl, fEq_pair, fNe_pair, List.map, List.replicate, List.length_cons, List.length_nil, List.set_cons_zero, List.set_cons_succ, List.getElem?_cons_zero, List.getElem?_cons_succ, List.cons_append, List.nil_append, at_0, at_1, at_2, at_3, at_4, at_5, at_6, ix_0, ix_1, ix_2, put_same, put_put, decide_eq_true_eq, Bool.not_eq_true', decide_eq_false_iff_not, ite_not, ite_true, ite_false, if_true, if_false, Bool.false_eq_true, ↓reduceIte, reduceIte, Nat.reduceAdd, Nat.reduceSub, Int.reduceToNat, Nat.reduceLeDiff, not_false_eq_true, true_and, and_true, ne_eq, Int.reduceEq, Nat.zero_add, Bool.not_true, Bool.not_false, reduceCtorEq, nc0, nc1, nc2, nc3, nc4, nc5, fIx_ref put_same, fLen_ref put_same, fIx_dy0, fIx_dy1, fEq_dy, fNe_dy, fIx_bx0, fIx_bx1, fEq_opt, fNe_opt, fNe_optb, fEq_bx, isN_opt, lc3, fInt, fTuple, fNeS_s, fStr]); exact q
    | [x], hp, q =>
      rw [isDy_1] at q
      try simp only [seq3, ifS3, b3, op3, un3, v3, c3, fIx_tup, fIx_lst, at3_0, at3_1, at3_2, at3_3, at3_4, at3_5, at3_6, start3, fI0_i, fI_i, fLt, fLe, fGt, fGe, fEqI, fNeI, fMin, fMax, asg3, name3, sub3, ret3, retN3, nx3, drop3, par3, aug3, and3, or3, not3, andV3, orV3, notV3, if3, nil3, cons3, tup3, lst3, lstM3, gtup3, gcons3, gnil3, gunl3, bits3, neg3, chain3, fIsi, isiD, fLen_lst, fLen_tup, fAbs, call3, isN3, notN3, dIsN_non, dIsN_int, dIsN_bl, dIsN_str, dIsN_tup, dIsN_lst, slc3, part3, noPart3, ilst3, itup3, irng1, irng2, for3, fCat, fEq_int, fNe_int, fEq_bl, fNe_bl, fEq_pair, fNe_pair, List.map, List.replicate, List.length_cons, List.length_nil, List.set_cons_zero, List.set_cons_succ, List.getElem?_cons_zero, List.getElem?_cons_succ, List.cons_append, List.nil_append, at_0, at_1, at_2, at_3, at_4, at_5, at_6, ix_0, ix_1, ix_2, put_same, put_put, decide_eq_true_eq, Bool.not_eq_true', decide_eq_false_iff_not, ite_not, ite_true, ite_false, if_true, if_false, Bool.false_eq_true, ↓reduceIte, reduceIte, Nat.reduceAdd, Nat.reduceSub, Int.reduceToNat, Nat.reduceLeDiff, not_false_eq_true, true_and, and_true, ne_eq, Int.reduceEq, Nat.zero_add, Bool.not_true, Bool.not_false, reduceCtorEq, nc0, nc1, nc2, nc3, nc4, nc5, fIx_ref put_same, fLen_ref put_same, fIx_dy0, fIx_dy1, fEq_dy, fNe_dy, fIx_bx0, fIx_bx1, fEq_opt, fNe_opt, fNe_optb, fEq_bx, isN_opt, lc3, fInt, fTuple, fNeS_s, fStr]
      exact q
    | x :: y :: z :: r, hp, q =>
      rw [isDy_3] at q
      try simp only [seq3, ifS3, b3, op3, un3, v3, c3, fIx_tup, fIx_lst, at3_0, at3_1, at3_2, at3_3, at3_4, at3_5, at3_6, start3, fI0_i, fI_i, fLt, fLe, fGt, fGe, fEqI, fNeI, fMin, fMax, asg3, name3, sub3, ret3, retN3, nx3, drop3, par3, aug3, and3, or3, not3, andV3, orV3, notV3, if3, nil3, cons3, tup3, lst3, lstM3, gtup3, gcons3, gnil3, gunl3, bits3, neg3, chain3, fIsi, isiD, fLen_lst, fLen_tup, fAbs, call3, isN3, notN3, dIsN_non, dIsN_int, dIsN_bl, dIsN_str, dIsN_tup, dIsN_lst, slc3, part3, noPart3, ilst3, itup3, irng1, irng2, for3, fCat, fEq_int, fNe_int, fEq_bl, fNe_bl, fEq_pair, fNe_pair, List.map, List.replicate, List.length_cons, List.length_nil, List.set_cons_zero, List.set_cons_succ, List.getElem?_cons_zero, List.getElem?_cons_succ, List.cons_append, List.nil_append, at_0, at_1, at_2, at_3, at_4, at_5, at_6, ix_0, ix_1, ix_2, put_same, put_put, decide_eq_true_eq, Bool.not_eq_true', decide_eq_false_iff_not, ite_not, ite_true, ite_false, if_true, if_false, Bool.false_eq_true, ↓reduceIte, reduceIte, Nat.reduceAdd, Nat.reduceSub, Int.reduceToNat, Nat.reduceLeDiff, not_false_eq_true, true_and, and_true, ne_eq, Int.reduceEq, Nat.zero_add, Bool.not_true, Bool.not_false, reduceCtorEq, nc0, nc1, nc2, nc3, nc4, nc5, fIx_ref put_same, fLen_ref put_same, fIx_dy0, fIx_dy1, fEq_dy, fNe_dy, fIx_bx0, fIx_bx1, fEq_opt, fNe_opt, fNe_optb, fEq_bx, isN_opt, lc3, fInt, fTuple, fNeS_s, fStr]
      exact ite2 (fun h => absurd h (by omega)) (fun h => q)
    | [x, y], hp, q =>
      try simp only [seq3, ifS3, b3, op3, un3, v3, c3, fIx_tup, fIx_lst, at3_0, at3_1, at3_2, at3_3, at3_4, at3_5, at3_6, start3, fI0_i, fI_i, fLt, fLe, fGt, fGe, fEqI, fNeI, fMin, fMax, asg3, name3, sub3, ret3, retN3, nx3, drop3, par3, aug3, and3, or3, not3, andV3, orV3, notV3, if3, nil3, cons3, tup3, lst3, lstM3, gtup3, gcons3, gnil3, gunl3, bits3, neg3, chain3, fIsi, isiD, fLen_lst, fLen_tup, fAbs, call3, isN3, notN3, dIsN_non, dIsN_int, dIsN_bl, dIsN_str, dIsN_tup, dIsN_lst, slc3, part3, noPart3, ilst3, itup3, irng1, irng2, for3, fCat, fEq_int, fNe_int, fEq_bl, fNe_bl, fEq_pair, fNe_pair, List.map, List.replicate, List.length_cons, List.length_nil, List.set_cons_zero, List.set_cons_succ, List.getElem?_cons_zero, List.getElem?_cons_succ, List.cons_append, List.nil_append, at_0, at_1, at_2, at_3, at_4, at_5, at_6, ix_0, ix_1, ix_2, put_same, put_put, decide_eq_true_eq, Bool.not_eq_true', decide_eq_false_iff_not, ite_not, ite_true, ite_false, if_true, if_false, Bool.false_eq_true, ↓reduceIte, reduceIte, Nat.reduceAdd, Nat.reduceSub, Int.reduceToNat, Nat.reduceLeDiff, not_false_eq_true, true_and, and_true, ne_eq, Int.reduceEq, Nat.zero_add, Bool.not_true, Bool.not_false, reduceCtorEq, nc0, nc1, nc2, nc3, nc4, nc5, fIx_ref put_same, fLen_ref put_same, fIx_dy0, fIx_dy1, fEq_dy, fNe_dy, fIx_bx0, fIx_bx1, fEq_opt, fNe_opt, fNe_optb, fEq_bx, isN_opt, lc3, fInt, fTuple, fNeS_s, fStr]
      refine ⟨x, b, rfl, hp.1, ?_⟩
      cases x with
      | int t =>
        simp only [wh]
        try simp only [seq3, ifS3, b3, op3, un3, v3, c3, fIx_tup, fIx_lst, at3_0, at3_1, at3_2, at3_3, at3_4, at3_5, at3_6, start3, fI0_i, fI_i, fLt, fLe, fGt, fGe, fEqI, fNeI, fMin, fMax, asg3, name3, sub3, ret3, retN3, nx3, drop3, par3, aug3, and3, or3, not3, andV3, orV3, notV3, if3, nil3, cons3, tup3, lst3, lstM3, gtup3, gcons3, gnil3, gunl3, bits3, neg3, chain3, fIsi, isiD, fLen_lst, fLen_tup, fAbs, call3, isN3, notN3, dIsN_non, dIsN_int, dIsN_bl, dIsN_str, dIsN_tup, dIsN_lst, slc3, part3, noPart3, ilst3, itup3, irng1, irng2, for3, fCat, fEq_int, fNe_int, fEq_bl, fNe_bl, fEq_pair, fNe_pair, List.map, List.replicate, List.length_cons, List.length_nil, List.set_cons_zero, List.set_cons_succ, List.getElem?_cons_zero, List.getElem?_cons_succ, List.cons_append, List.nil_append, at_0, at_1, at_2, at_3, at_4, at_5, at_6, ix_0, ix_1, ix_2, put_same, put_put, decide_eq_true_eq, Bool.not_eq_true', decide_eq_false_iff_not, ite_not, ite_true, ite_false, if_true, if_false, Bool.false_eq_true, ↓reduceIte, reduceIte, Nat.reduceAdd, Nat.reduceSub, Int.reduceToNat, Nat.reduceLeDiff, not_false_eq_true, true_and, and_true, ne_eq, Int.reduceEq, Nat.zero_add, Bool.not_true, Bool.not_false, reduceCtorEq, nc0, nc1, nc2, nc3, nc4, nc5, fIx_ref put_same, fLen_ref put_same, fIx_dy0, fIx_dy1, fEq_dy, fNe_dy, fIx_bx0, fIx_bx1, fEq_opt, fNe_opt, fNe_optb, fEq_bx, isN_opt, lc3, fInt, fTuple, fNeS_s, fStr]
        refine ⟨y, b, rfl, hp.2.1, ?_⟩
        cases y with
        | int n =>
          simp only [wh]
          try simp only [seq3, ifS3, b3, op3, un3, v3, c3, fIx_tup, fIx_lst, at3_0, at3_1, at3_2, at3_3, at3_4, at3_5, at3_6, start3, fI0_i, fI_i, fLt, fLe, fGt, fGe, fEqI, fNeI, fMin, fMax, asg3, name3, sub3, ret3, retN3, nx3, drop3, par3, aug3, and3, or3, not3, andV3, orV3, notV3, if3, nil3, cons3, tup3, lst3, lstM3, gtup3, gcons3, gnil3, gunl3, bits3, neg3, chain3, fIsi, isiD, fLen_lst, fLen_tup, fAbs, call3, isN3, notN3, dIsN_non, dIsN_int, dIsN_bl, dIsN_str, dIsN_tup, dIsN_lst, slc3, part3, noPart3, ilst3, itup3, irng1, irng2, for3, fCat, fEq_int, fNe_int, fEq_bl, fNe_bl, fEq_pair, fNe_pair, List.map, List.replicate, List.length_cons, List.length_nil, List.set_cons_zero, List.set_cons_succ, List.getElem?_cons_zero, List.getElem?_cons_succ, List.cons_append, List.nil_append, at_0, at_1, at_2, at_3, at_4, at_5, at_6, ix_0, ix_1, ix_2, put_same, put_put, decide_eq_true_eq, Bool.not_eq_true', decide_eq_false_iff_not, ite_not, ite_true, ite_false, if_true, if_false, Bool.false_eq_true, ↓reduceIte, reduceIte, Nat.reduceAdd, Nat.reduceSub, Int.reduceToNat, Nat.reduceLeDiff, not_false_eq_true, true_and, and_true, ne_eq, Int.reduceEq, Nat.zero_add, Bool.not_true, Bool.not_false, reduceCtorEq, nc0, nc1, nc2, nc3, nc4, nc5, fIx_ref put_same, fLen_ref put_same, fIx_dy0, fIx_dy1, fEq_dy, fNe_dy, fIx_bx0, fIx_bx1, fEq_opt, fNe_opt, fNe_optb, fEq_bx, isN_opt, lc3, fInt, fTuple, fNeS_s, fStr]
          rw [isDy_2] at q
          refine ite2 (fun h1 => ite2 (fun h2 => ite2 (fun h3 => ?_) (fun h3 => ?_)) (fun h2 => ?_)) (fun h1 => ?_)
          · rwa [decide_eq_true (p := 0 ≤ n ∧ n ≤ 4096 ∧ (n = 0 ∨ t.fmod 2 = 1)) ⟨h1, h2, .inl h3⟩] at q
          · rwa [show decide (0 ≤ n ∧ n ≤ 4096 ∧ (n = 0 ∨ t.fmod 2 = 1)) = decide (t.fmod 2 = 1) from by simp [h1, h2, h3]] at q
          · rwa [decide_eq_false (p := 0 ≤ n ∧ n ≤ 4096 ∧ (n = 0 ∨ t.fmod 2 = 1)) fun z => h2 z.2.1] at q
          · rwa [decide_eq_false (p := 0 ≤ n ∧ n ≤ 4096 ∧ (n = 0 ∨ t.fmod 2 = 1)) fun z => h1 z.1] at q
        | _ => (try simp only [seq3, ifS3, b3, op3, un3, v3, c3, fIx_tup, fIx_lst, at3_0, at3_1, at3_2, at3_3, at3_4, at3_5, at3_6, start3, fI0_i, fI_i, fLt, fLe, fGt, fGe, fEqI, fNeI, fMin, fMax, asg3, name3, sub3, ret3, retN3, nx3, drop3, par3, aug3, and3, or3, not3, andV3, orV3, notV3, if3, nil3, cons3, tup3, lst3, lstM3, gtup3, gcons3, gnil3, gunl3, bits3, neg3, chain3, fIsi, isiD, fLen_lst, fLen_tup, fAbs, call3, isN3, notN3, dIsN_non, dIsN_int, dIsN_bl, dIsN_str, dIsN_tup, dIsN_lst, slc3, part3, noPart3, ilst3, itup3, irng1, irng2, for3, fCat, fEq_int, fNe_int, fEq_bl, fNe_bl, fEq_pair, fNe_pair, List.map, List.replicate, List.length_cons, List.length_nil, List.set_cons_zero, List.set_cons_succ, List.getElem?_cons_zero, List.getElem?_cons_succ, List.cons_append, List.nil_append, at_0, at_1, at_2, at_3, at_4, at_5, at_6, ix_0, ix_1, ix_2, put_same, put_put, decide_eq_true_eq, Bool.not_eq_true', decide_eq_false_iff_not, ite_not, ite_true, ite_false, if_true, if_false, Bool.false_eq_true, ↓reduceIte, reduceIte, Nat.reduceAdd, Nat.reduceSub, Int.reduceToNat, Nat.reduceLeDiff, not_false_eq_true, true_and, and_true, ne_eq, Int.reduceEq, Nat.zero_add, Bool.not_true, Bool.not_false, reduceCtorEq, nc0, nc1, nc2, nc3, nc4, nc5, fIx_ref put_same, fLen_ref put_same, fIx_dy0, fIx_dy1, fEq_dy, fNe_dy, fIx_bx0, fIx_bx1, fEq_opt, fNe_opt, fNe_optb, fEq_bx, isN_opt, lc3, fInt, fTuple, fNeS_s, fStr, wh]); exact q
      | _ => (try simp only [seq3, ifS3, b3, op3, un3, v3, c3, fIx_tup, fIx_lst, at3_0, at3_1, at3_2, at3_3, at3_4, at3_5, at3_6, start3, fI0_i, fI_i, fLt, fLe, fGt, fGe, fEqI, fNeI, fMin, fMax, asg3, name3, sub3, ret3, retN3, nx3, drop3, par3, aug3, and3, or3, not3, andV3, orV3, notV3, if3, nil3, cons3, tup3, lst3, lstM3, gtup3, gcons3, gnil3, gunl3, bits3, neg3, chain3, fIsi, isiD, fLen_lst, fLen_tup, fAbs, call3, isN3, notN3, dIsN_non, dIsN_int, dIsN_bl, dIsN_str, dIsN_tup, dIsN_lst, slc3, part3, noPart3, ilst3, itup3, irng1, irng2, for3, fCat, fEq_int, fNe_int, fEq_bl, fNe_bl, fEq_pair, fNe_pair, List.map, List.replicate, List.length_cons, List.length_nil, List.set_cons_zero, List.set_cons_succ, List.getElem?_cons_zero, List.getElem?_cons_succ, List.cons_append, List.nil_append, at_0, at_1, at_2, at_3, at_4, at_5, at_6, ix_0, ix_1, ix_2, put_same, put_put, decide_eq_true_eq, Bool.not_eq_true', decide_eq_false_iff_not, ite_not, ite_true, ite_false, if_true, if_false, Bool.false_eq_true, ↓reduceIte, reduceIte, Nat.reduceAdd, Nat.reduceSub, Int.reduceToNat, Nat.reduceLeDiff, not_false_eq_true, true_and, and_true, ne_eq, Int.reduceEq, Nat.zero_add, Bool.not_true, Bool.not_false, reduceCtorEq, nc0, nc1, nc2, nc3, nc4, nc5, fIx_ref put_same, fLen_ref put_same, fIx_dy0, fIx_dy1, fEq_dy, fNe_dy, fIx_bx0, fIx_bx1, fEq_opt, fNe_opt, fNe_optb, fEq_bx, isN_opt, lc3, fInt, fTuple, fNeS_s, fStr, wh]); exact q
  | _ => (try simp only [seq3, ifS3, b3, op3, un3, v3, c3, fIx_tup, fIx_lst, at3_0, at3_1, at3_2, at3_3, at3_4, at3_5, at3_6, start3, fI0_i, fI_i, fLt, fLe, fGt, fGe, fEqI, fNeI, fMin, fMax, asg3, name3, sub3, ret3, retN3, nx3, drop3, par3, aug3, and3, or3, not3, andV3, orV3, notV3, if3, nil3, cons3, tup3, lst3, lstM3, gtup3, gcons3, gnil3, gunl3, bits3, neg3, chain3, fIsi, isiD, fLen_lst, fLen_tup, fAbs, call3, isN3, notN3, dIsN_non, dIsN_int, dIsN_bl, dIsN_str, dIsN_tup, dIsN_lst, slc3, part3, noPart3, ilst3, itup3, irng1, irng2, for3, fCat, fEq_int, fNe_int, fEq_bl, fNe_bl, fEq_pair, fNe_pair, List.map, List.replicate, List.length_cons, List.length_nil, List.set_cons_zero, List.set_cons_succ, List.getElem?_cons_zero, List.getElem?_cons_succ, List.cons_append, List.nil_append, at_0, at_1, at_2, at_3, at_4, at_5, at_6, ix_0, ix_1, ix_2, put_same, put_put, decide_eq_true_eq, Bool.not_eq_true', decide_eq_false_iff_not, ite_not, ite_true, ite_false, if_true, if_false, Bool.false_eq_true, ↓reduceIte, reduceIte, Nat.reduceAdd, Nat.reduceSub, Int.reduceToNat, Nat.reduceLeDiff, not_false_eq_true, true_and, and_true, ne_eq, Int.reduceEq, Nat.zero_add, Bool.not_true, Bool.not_false, reduceCtorEq, nc0, nc1, nc2, nc3, nc4, nc5, fIx_ref put_same, fLen_ref put_same, fIx_dy0, fIx_dy1, fEq_dy, fNe_dy, fIx_bx0, fIx_bx1, fEq_opt, fNe_opt, fNe_optb, fEq_bx, isN_opt, lc3, fInt, fTuple, fNeS_s, fStr]); exact q
theorem ok_dyadic (T : Tx K mg fa fd) : Fn3 P w K mg base 1 (fa 2) (fd 2) ["top", "down"] sp_dyadic := by
  refine fn3 T.d_dyadic.F sc_dyadic (fun ds m Q h => by obtain ⟨_, _, rfl, _⟩ := h; rfl) fun cdv A outer s H E ds m Q hr h => ?_
  obtain ⟨top, down, rfl, hd, q⟩ := h
  refine ⟨_, (ss_cons (s_if (t_eqI (e_v 0) e_int) (ss_one (s_ret (e_tup (a_cons e_int (a_cons e_int a_nil))))) ss_nil)
      (ss_cons (s_set (i := 2) sc_dyadic.nd (e_min2 rfl T.b_min (e_v 1) (e_sub (e_bits (e_bitand (e_v 0) (e_sub e_int (e_v 0)))) e_int)))
      (ss_one (s_ret (e_tup (a_cons (e_shr (e_v 0) (e_v 2)) (a_cons (e_sub (e_v 1) (e_v 2)) a_nil))))))), ?_⟩
  refine iteD (fun h0 => ?_) (fun h0 => ?_)
  · subst h0
    rw [nrm_zero] at q
    exact ⟨sh, q⟩
  · obtain ⟨h1, h2, h3⟩ := dy_eq h0 hd rfl
    unfold dyD at q
    rw [← h2, ← h3] at q
    exact ⟨h1, sh, q⟩
theorem ok_law_deck (T : Tx K mg fa fd) : Fn3 P w K mg base 1 (fa 12) (fd 12) ["cell", "turn"] sp_deck := by
  refine fn3 T.d_law_deck.F sc_law_deck (fun ds m Q h => by obtain ⟨_, rfl, _⟩ := h; rfl) fun cdv A outer s H E ds m Q hr h => ?_
  obtain ⟨cell, rfl, q⟩ := h
  refine ⟨_, (ss_cons (s_if (t_ge (e_v 0) (e_pow e_int e_int)) (ss_one (s_ret (e_lstM (a_cons (e_sub (e_v 0) (e_pow e_int e_int)) (a_cons (e_mod (e_v 0) e_int) (a_cons (e_v 1) a_nil)))))) ss_nil)
      (ss_one (s_ret (e_lstM (a_cons e_int (a_cons (e_mod (e_v 0) e_int) (a_cons (e_v 1) a_nil))))))), ?_⟩
  try simp only [seq3, ifS3, b3, op3, un3, v3, c3, fIx_tup, fIx_lst, at3_0, at3_1, at3_2, at3_3, at3_4, at3_5, at3_6, start3, fI0_i, fI_i, fLt, fLe, fGt, fGe, fEqI, fNeI, fMin, fMax, asg3, name3, sub3, ret3, retN3, nx3, drop3, par3, aug3, and3, or3, not3, andV3, orV3, notV3, if3, nil3, cons3, tup3, lst3, lstM3, gtup3, gcons3, gnil3, gunl3, bits3, neg3, chain3, fIsi, isiD, fLen_lst, fLen_tup, fAbs, call3, isN3, notN3, dIsN_non, dIsN_int, dIsN_bl, dIsN_str, dIsN_tup, dIsN_lst, slc3, part3, noPart3, ilst3, itup3, irng1, irng2, for3, fCat, fEq_int, fNe_int, fEq_bl, fNe_bl, fEq_pair, fNe_pair, List.map, List.replicate, List.length_cons, List.length_nil, List.set_cons_zero, List.set_cons_succ, List.getElem?_cons_zero, List.getElem?_cons_succ, List.cons_append, List.nil_append, at_0, at_1, at_2, at_3, at_4, at_5, at_6, ix_0, ix_1, ix_2, put_same, put_put, decide_eq_true_eq, Bool.not_eq_true', decide_eq_false_iff_not, ite_not, ite_true, ite_false, if_true, if_false, Bool.false_eq_true, ↓reduceIte, reduceIte, Nat.reduceAdd, Nat.reduceSub, Int.reduceToNat, Nat.reduceLeDiff, not_false_eq_true, true_and, and_true, ne_eq, Int.reduceEq, Nat.zero_add, Bool.not_true, Bool.not_false, reduceCtorEq, nc0, nc1, nc2, nc3, nc4, nc5, fIx_ref put_same, fLen_ref put_same, fIx_dy0, fIx_dy1, fEq_dy, fNe_dy, fIx_bx0, fIx_bx1, fEq_opt, fNe_opt, fNe_optb, fEq_bx, isN_opt, lc3, fInt, fTuple, fNeS_s, fStr]
  have hb := fmod_b cell (b := 2147483579) (by decide)
  refine ⟨c_pow (by decide) (by decide) (by decide), ite2 (fun h => ⟨c_pow (by decide) (by decide) (by decide), fun p hp => q p _ hp Off.put ⟨_, _, _, put_same, by omega, by omega, by omega, by omega⟩⟩) (fun h => fun p hp => q p _ hp Off.put ⟨_, _, _, put_same, by omega, by omega, by omega, by omega⟩)⟩
theorem ok_law_pick (T : Tx K mg fa fd) : Fn3 P w K mg base 1 (fa 13) (fd 13) ["deck", "many"] sp_pick := by
  refine fn3 T.d_law_pick.F sc_law_pick (fun ds m Q h => by obtain ⟨_, _, _, rfl, _⟩ := h; rfl) fun cdv A outer s H E ds m Q hr h => ?_
  obtain ⟨p, many, n, rfl, ⟨a, b, c, hm, b0, b1, c0, c1⟩, hp, hl, q⟩ := h
  refine ⟨_, (ss_cons (s_if (t_gt (e_ix (e_v 0) e_int) e_int) (ss_cons (s_set (i := 2) sc_law_pick.nd (e_mod (e_ix (e_v 0) e_int) (e_v 1)))
      (ss_cons (s_asg (e_fdiv (e_ix (e_v 0) e_int) (e_v 1)) (g_sub (e_v 0) e_int))
      (ss_one (s_ret (e_v 2))))) ss_nil)
      (ss_cons (s_asg (e_add (e_ix (e_v 0) e_int) e_int) (g_sub (e_v 0) e_int))
      (ss_cons (s_set (i := 3) sc_law_pick.nd (e_mod (e_pow (e_add (e_ix (e_v 0) e_int) (e_mul e_int (e_ix (e_v 0) e_int))) e_int) e_int))
      (ss_cons (s_set (i := 2) sc_law_pick.nd (e_fdiv (e_mod (e_pow (e_add (e_v 3) (e_mul e_int (e_ix (e_v 0) e_int))) e_int) e_int) e_int))
      (ss_cons (s_if (t_gt (e_v 1) e_int) (ss_one (s_ret (e_mod (e_add (e_mul (e_v 2) e_int) (e_v 3)) (e_v 1)))) ss_nil)
      (ss_one (s_ret (e_mod (e_v 2) (e_v 1))))))))), ?_⟩
  try simp only [seq3, ifS3, b3, op3, un3, v3, c3, fIx_tup, fIx_lst, at3_0, at3_1, at3_2, at3_3, at3_4, at3_5, at3_6, start3, fI0_i, fI_i, fLt, fLe, fGt, fGe, fEqI, fNeI, fMin, fMax, asg3, name3, sub3, ret3, retN3, nx3, drop3, par3, aug3, and3, or3, not3, andV3, orV3, notV3, if3, nil3, cons3, tup3, lst3, lstM3, gtup3, gcons3, gnil3, gunl3, bits3, neg3, chain3, fIsi, isiD, fLen_lst, fLen_tup, fAbs, call3, isN3, notN3, dIsN_non, dIsN_int, dIsN_bl, dIsN_str, dIsN_tup, dIsN_lst, slc3, part3, noPart3, ilst3, itup3, irng1, irng2, for3, fCat, fEq_int, fNe_int, fEq_bl, fNe_bl, fEq_pair, fNe_pair, List.map, List.replicate, List.length_cons, List.length_nil, List.set_cons_zero, List.set_cons_succ, List.getElem?_cons_zero, List.getElem?_cons_succ, List.cons_append, List.nil_append, at_0, at_1, at_2, at_3, at_4, at_5, at_6, ix_0, ix_1, ix_2, put_same, put_put, decide_eq_true_eq, Bool.not_eq_true', decide_eq_false_iff_not, ite_not, ite_true, ite_false, if_true, if_false, Bool.false_eq_true, ↓reduceIte, reduceIte, Nat.reduceAdd, Nat.reduceSub, Int.reduceToNat, Nat.reduceLeDiff, not_false_eq_true, true_and, and_true, ne_eq, Int.reduceEq, Nat.zero_add, Bool.not_true, Bool.not_false, reduceCtorEq, nc0, nc1, nc2, nc3, nc4, nc5, fIx_ref put_same, fLen_ref put_same, fIx_dy0, fIx_dy1, fEq_dy, fNe_dy, fIx_bx0, fIx_bx1, fEq_opt, fNe_opt, fNe_optb, fEq_bx, isN_opt, lc3, fInt, fTuple, fNeS_s, fStr, hm, fIx_ref hm]
  refine ite2 (fun h => ⟨by omega, c_fdiv hp hl (by decide) (by decide), ?_⟩) (fun h => ?_)
  · obtain ⟨r0, r1⟩ := fmod_b a hp
    exact q _ _ r0 r1 Off.put ⟨_, _, _, put_same, b0, b1, c0, by omega⟩
  · have e1 := fmod_b ((b + 15485867 * (c + 1)) ^ 5) (b := 2147483647) (by decide)
    generalize ((b + 15485867 * (c + 1)) ^ 5).fmod 2147483647 = num at e1 ⊢
    have e2 := fmod_b ((num + 7919 * (c + 1)) ^ 3) (b := 2147483629) (by decide)
    generalize ((num + 7919 * (c + 1)) ^ 3).fmod 2147483629 = f0 at e2 ⊢
    have e3 := fdiv_e f0 (b := 32) (by decide)
    generalize f0.fdiv 32 = f at e3 ⊢
    refine ⟨c_mul64 (by decide) (by omega), c_pow (by decide) (by decide) (by omega), c_mul64 (by decide) (by omega), c_pow (by decide) (by decide) (by omega), c_fdiv (b := 6) (by decide) (by decide) (by decide) (by decide), ite2 (fun h => ⟨c_mul64 (by omega) (by decide), by omega, ?_⟩) (fun h => ⟨by omega, ?_⟩)⟩
    · obtain ⟨r0, r1⟩ := fmod_b (f * 2147483563 + num) hp
      exact q _ _ r0 r1 Off.put ⟨_, _, _, put_same, b0, b1, by omega, by omega⟩
    · obtain ⟨r0, r1⟩ := fmod_b f hp
      exact q _ _ r0 r1 Off.put ⟨_, _, _, put_same, b0, b1, by omega, by omega⟩
/-! ### the program's reckoning -/
def Sm (p : Int × Nat) : Prop := Sz p 1000000
def sp_tops : Sp3 := fun ds m P => ∃ p q : Int × Nat, ds = [dyD p, dyD q] ∧ Sm p ∧ Sm q ∧ P (.tup [.int (tp p (dmx p q)), .int (tp q (dmx p q)), .int (dmx p q)]) m
theorem dmx_eq (p q : Int × Nat) : (if (q.2 : Int) > (p.2 : Int) then (q.2 : Int) else (p.2 : Int)) = (dmx p q : Nat) := by
  unfold dmx
  split <;> omega
theorem ok_tops_of (T : Tx K mg fa fd) : Fn3 P w K mg base 1 (fa 3) (fd 3) ["one", "other"] sp_tops := by
  refine fn3 T.d_tops_of.F sc_tops_of (fun ds m Q h => by obtain ⟨_, _, rfl, _⟩ := h; rfl) fun cdv A outer s H E ds m Q hr h => ?_
  obtain ⟨p, q', rfl, hp, hq, q⟩ := h
  refine ⟨_, (ss_cons (s_set (i := 2) sc_tops_of.nd (e_max2 rfl T.b_max (e_ix (e_v 0) e_int) (e_ix (e_v 1) e_int)))
      (ss_one (s_ret (e_tup (a_cons (e_shl (e_ix (e_v 0) e_int) (e_sub (e_v 2) (e_ix (e_v 0) e_int))) (a_cons (e_shl (e_ix (e_v 1) e_int) (e_sub (e_v 2) (e_ix (e_v 1) e_int))) (a_cons (e_v 2) a_nil))))))), ?_⟩
  try simp only [seq3, ifS3, b3, op3, un3, v3, c3, fIx_tup, fIx_lst, at3_0, at3_1, at3_2, at3_3, at3_4, at3_5, at3_6, start3, fI0_i, fI_i, fLt, fLe, fGt, fGe, fEqI, fNeI, fMin, fMax, asg3, name3, sub3, ret3, retN3, nx3, drop3, par3, aug3, and3, or3, not3, andV3, orV3, notV3, if3, nil3, cons3, tup3, lst3, lstM3, gtup3, gcons3, gnil3, gunl3, bits3, neg3, chain3, fIsi, isiD, fLen_lst, fLen_tup, fAbs, call3, isN3, notN3, dIsN_non, dIsN_int, dIsN_bl, dIsN_str, dIsN_tup, dIsN_lst, slc3, part3, noPart3, ilst3, itup3, irng1, irng2, for3, fCat, fEq_int, fNe_int, fEq_bl, fNe_bl, fEq_pair, fNe_pair, List.map, List.replicate, List.length_cons, List.length_nil, List.set_cons_zero, List.set_cons_succ, List.getElem?_cons_zero, List.getElem?_cons_succ, List.cons_append, List.nil_append, at_0, at_1, at_2, at_3, at_4, at_5, at_6, ix_0, ix_1, ix_2, put_same, put_put, decide_eq_true_eq, Bool.not_eq_true', decide_eq_false_iff_not, ite_not, ite_true, ite_false, if_true, if_false, Bool.false_eq_true, ↓reduceIte, reduceIte, Nat.reduceAdd, Nat.reduceSub, Int.reduceToNat, Nat.reduceLeDiff, not_false_eq_true, true_and, and_true, ne_eq, Int.reduceEq, Nat.zero_add, Bool.not_true, Bool.not_false, reduceCtorEq, nc0, nc1, nc2, nc3, nc4, nc5, fIx_ref put_same, fLen_ref put_same, fIx_dy0, fIx_dy1, fEq_dy, fNe_dy, fIx_bx0, fIx_bx1, fEq_opt, fNe_opt, fNe_optb, fEq_bx, isN_opt, lc3, fInt, fTuple, fNeS_s, fStr, dmx_eq]
  have h1 : p.2 ≤ dmx p q' := Nat.le_max_left _ _
  have h2 : q'.2 ≤ dmx p q' := Nat.le_max_right _ _
  have h3 : dmx p q' ≤ 1000000 := Nat.max_le.mpr ⟨hp.2, hq.2⟩
  have e1 : ((dmx p q' : Int) - (p.2 : Int)).toNat = dmx p q' - p.2 := by omega
  have e2 : ((dmx p q' : Int) - (q'.2 : Int)).toNat = dmx p q' - q'.2 := by omega
  refine ⟨shl_c hp.1 (by omega) (by omega), shl_c hq.1 (by omega) (by omega), ?_⟩
  rw [e1, e2]
  exact q
def sp_minus : Sp3 := fun ds m P => ∃ p q : Int × Nat, ds = [dyD p, dyD q] ∧ Sm p ∧ Sm q ∧ P (dyD (dminus p q)) m
theorem ok_minus (T : Tx K mg fa fd) : Fn3 P w K mg base 2 (fa 4) (fd 4) ["one", "other"] sp_minus := by
  refine fn3 T.d_minus.F sc_minus (fun ds m Q h => by obtain ⟨_, _, rfl, _⟩ := h; rfl) fun cdv A outer s H E ds m Q hr h => ?_
  obtain ⟨p, q', rfl, hp, hq, q⟩ := h
  refine ⟨_, (ss_cons (s_asg (e_call T.d_tops_of (ok_tops_of T) (hr.mono (by omega)) rfl (a_cons (e_v 0) (a_cons (e_v 1) a_nil))) (g_tup rfl (gs_cons (g_name (i := 2) sc_minus.nd) (gs_cons (g_name (i := 3) sc_minus.nd) (gs_cons (g_name (i := 4) sc_minus.nd) gs_nil))) (gl_cons (gl_cons (gl_cons gl_nil)))))
      (ss_one (s_ret (e_call T.d_dyadic (ok_dyadic T) (hr.mono (by omega)) rfl (a_cons (e_sub (e_v 2) (e_v 3)) (a_cons (e_v 4) a_nil)))))), ?_⟩
  try simp only [seq3, ifS3, b3, op3, un3, v3, c3, fIx_tup, fIx_lst, at3_0, at3_1, at3_2, at3_3, at3_4, at3_5, at3_6, start3, fI0_i, fI_i, fLt, fLe, fGt, fGe, fEqI, fNeI, fMin, fMax, asg3, name3, sub3, ret3, retN3, nx3, drop3, par3, aug3, and3, or3, not3, andV3, orV3, notV3, if3, nil3, cons3, tup3, lst3, lstM3, gtup3, gcons3, gnil3, gunl3, bits3, neg3, chain3, fIsi, isiD, fLen_lst, fLen_tup, fAbs, call3, isN3, notN3, dIsN_non, dIsN_int, dIsN_bl, dIsN_str, dIsN_tup, dIsN_lst, slc3, part3, noPart3, ilst3, itup3, irng1, irng2, for3, fCat, fEq_int, fNe_int, fEq_bl, fNe_bl, fEq_pair, fNe_pair, List.map, List.replicate, List.length_cons, List.length_nil, List.set_cons_zero, List.set_cons_succ, List.getElem?_cons_zero, List.getElem?_cons_succ, List.cons_append, List.nil_append, at_0, at_1, at_2, at_3, at_4, at_5, at_6, ix_0, ix_1, ix_2, put_same, put_put, decide_eq_true_eq, Bool.not_eq_true', decide_eq_false_iff_not, ite_not, ite_true, ite_false, if_true, if_false, Bool.false_eq_true, ↓reduceIte, reduceIte, Nat.reduceAdd, Nat.reduceSub, Int.reduceToNat, Nat.reduceLeDiff, not_false_eq_true, true_and, and_true, ne_eq, Int.reduceEq, Nat.zero_add, Bool.not_true, Bool.not_false, reduceCtorEq, nc0, nc1, nc2, nc3, nc4, nc5, fIx_ref put_same, fLen_ref put_same, fIx_dy0, fIx_dy1, fEq_dy, fNe_dy, fIx_bx0, fIx_bx1, fEq_opt, fNe_opt, fNe_optb, fEq_bx, isN_opt, lc3, fInt, fTuple, fNeS_s, fStr]
  refine ⟨_, _, rfl, hp, hq, ?_⟩
  try simp only [seq3, ifS3, b3, op3, un3, v3, c3, fIx_tup, fIx_lst, at3_0, at3_1, at3_2, at3_3, at3_4, at3_5, at3_6, start3, fI0_i, fI_i, fLt, fLe, fGt, fGe, fEqI, fNeI, fMin, fMax, asg3, name3, sub3, ret3, retN3, nx3, drop3, par3, aug3, and3, or3, not3, andV3, orV3, notV3, if3, nil3, cons3, tup3, lst3, lstM3, gtup3, gcons3, gnil3, gunl3, bits3, neg3, chain3, fIsi, isiD, fLen_lst, fLen_tup, fAbs, call3, isN3, notN3, dIsN_non, dIsN_int, dIsN_bl, dIsN_str, dIsN_tup, dIsN_lst, slc3, part3, noPart3, ilst3, itup3, irng1, irng2, for3, fCat, fEq_int, fNe_int, fEq_bl, fNe_bl, fEq_pair, fNe_pair, List.map, List.replicate, List.length_cons, List.length_nil, List.set_cons_zero, List.set_cons_succ, List.getElem?_cons_zero, List.getElem?_cons_succ, List.cons_append, List.nil_append, at_0, at_1, at_2, at_3, at_4, at_5, at_6, ix_0, ix_1, ix_2, put_same, put_put, decide_eq_true_eq, Bool.not_eq_true', decide_eq_false_iff_not, ite_not, ite_true, ite_false, if_true, if_false, Bool.false_eq_true, ↓reduceIte, reduceIte, Nat.reduceAdd, Nat.reduceSub, Int.reduceToNat, Nat.reduceLeDiff, not_false_eq_true, true_and, and_true, ne_eq, Int.reduceEq, Nat.zero_add, Bool.not_true, Bool.not_false, reduceCtorEq, nc0, nc1, nc2, nc3, nc4, nc5, fIx_ref put_same, fLen_ref put_same, fIx_dy0, fIx_dy1, fEq_dy, fNe_dy, fIx_bx0, fIx_bx1, fEq_opt, fNe_opt, fNe_optb, fEq_bx, isN_opt, lc3, fInt, fTuple, fNeS_s, fStr]
  exact ⟨_, _, rfl, by omega, by rw [Int.toNat_natCast]; exact q⟩
def sp_is_less : Sp3 := fun ds m P => ∃ p q : Int × Nat, ds = [dyD p, dyD q] ∧ Sm p ∧ Sm q ∧ P (.bl (dless p q)) m
theorem ok_is_less (T : Tx K mg fa fd) : Fn3 P w K mg base 2 (fa 5) (fd 5) ["one", "other"] sp_is_less := by
  refine fn3 T.d_is_less.F sc_is_less (fun ds m Q h => by obtain ⟨_, _, rfl, _⟩ := h; rfl) fun cdv A outer s H E ds m Q hr h => ?_
  obtain ⟨p, q', rfl, hp, hq, q⟩ := h
  refine ⟨_, (ss_cons (s_asg (e_call T.d_tops_of (ok_tops_of T) (hr.mono (by omega)) rfl (a_cons (e_v 0) (a_cons (e_v 1) a_nil))) (g_tup rfl (gs_cons (g_name (i := 2) sc_is_less.nd) (gs_cons (g_name (i := 3) sc_is_less.nd) (gs_cons (g_name (i := 4) sc_is_less.nd) gs_nil))) (gl_cons (gl_cons (gl_cons gl_nil)))))
      (ss_one (s_ret (e_lt (e_v 2) (e_v 3))))), ?_⟩
  try simp only [seq3, ifS3, b3, op3, un3, v3, c3, fIx_tup, fIx_lst, at3_0, at3_1, at3_2, at3_3, at3_4, at3_5, at3_6, start3, fI0_i, fI_i, fLt, fLe, fGt, fGe, fEqI, fNeI, fMin, fMax, asg3, name3, sub3, ret3, retN3, nx3, drop3, par3, aug3, and3, or3, not3, andV3, orV3, notV3, if3, nil3, cons3, tup3, lst3, lstM3, gtup3, gcons3, gnil3, gunl3, bits3, neg3, chain3, fIsi, isiD, fLen_lst, fLen_tup, fAbs, call3, isN3, notN3, dIsN_non, dIsN_int, dIsN_bl, dIsN_str, dIsN_tup, dIsN_lst, slc3, part3, noPart3, ilst3, itup3, irng1, irng2, for3, fCat, fEq_int, fNe_int, fEq_bl, fNe_bl, fEq_pair, fNe_pair, List.map, List.replicate, List.length_cons, List.length_nil, List.set_cons_zero, List.set_cons_succ, List.getElem?_cons_zero, List.getElem?_cons_succ, List.cons_append, List.nil_append, at_0, at_1, at_2, at_3, at_4, at_5, at_6, ix_0, ix_1, ix_2, put_same, put_put, decide_eq_true_eq, Bool.not_eq_true', decide_eq_false_iff_not, ite_not, ite_true, ite_false, if_true, if_false, Bool.false_eq_true, ↓reduceIte, reduceIte, Nat.reduceAdd, Nat.reduceSub, Int.reduceToNat, Nat.reduceLeDiff, not_false_eq_true, true_and, and_true, ne_eq, Int.reduceEq, Nat.zero_add, Bool.not_true, Bool.not_false, reduceCtorEq, nc0, nc1, nc2, nc3, nc4, nc5, fIx_ref put_same, fLen_ref put_same, fIx_dy0, fIx_dy1, fEq_dy, fNe_dy, fIx_bx0, fIx_bx1, fEq_opt, fNe_opt, fNe_optb, fEq_bx, isN_opt, lc3, fInt, fTuple, fNeS_s, fStr]
  refine ⟨_, _, rfl, hp, hq, ?_⟩
  try simp only [seq3, ifS3, b3, op3, un3, v3, c3, fIx_tup, fIx_lst, at3_0, at3_1, at3_2, at3_3, at3_4, at3_5, at3_6, start3, fI0_i, fI_i, fLt, fLe, fGt, fGe, fEqI, fNeI, fMin, fMax, asg3, name3, sub3, ret3, retN3, nx3, drop3, par3, aug3, and3, or3, not3, andV3, orV3, notV3, if3, nil3, cons3, tup3, lst3, lstM3, gtup3, gcons3, gnil3, gunl3, bits3, neg3, chain3, fIsi, isiD, fLen_lst, fLen_tup, fAbs, call3, isN3, notN3, dIsN_non, dIsN_int, dIsN_bl, dIsN_str, dIsN_tup, dIsN_lst, slc3, part3, noPart3, ilst3, itup3, irng1, irng2, for3, fCat, fEq_int, fNe_int, fEq_bl, fNe_bl, fEq_pair, fNe_pair, List.map, List.replicate, List.length_cons, List.length_nil, List.set_cons_zero, List.set_cons_succ, List.getElem?_cons_zero, List.getElem?_cons_succ, List.cons_append, List.nil_append, at_0, at_1, at_2, at_3, at_4, at_5, at_6, ix_0, ix_1, ix_2, put_same, put_put, decide_eq_true_eq, Bool.not_eq_true', decide_eq_false_iff_not, ite_not, ite_true, ite_false, if_true, if_false, Bool.false_eq_true, ↓reduceIte, reduceIte, Nat.reduceAdd, Nat.reduceSub, Int.reduceToNat, Nat.reduceLeDiff, not_false_eq_true, true_and, and_true, ne_eq, Int.reduceEq, Nat.zero_add, Bool.not_true, Bool.not_false, reduceCtorEq, nc0, nc1, nc2, nc3, nc4, nc5, fIx_ref put_same, fLen_ref put_same, fIx_dy0, fIx_dy1, fEq_dy, fNe_dy, fIx_bx0, fIx_bx1, fEq_opt, fNe_opt, fNe_optb, fEq_bx, isN_opt, lc3, fInt, fTuple, fNeS_s, fStr]
  exact q
/-! ### the least, the greatest of some -/
def leastL : Int × Nat → List (Int × Nat) → Int × Nat
  | f, [] => f
  | f, o :: os => leastL (dleast f o) os
def mostL : Int × Nat → List (Int × Nat) → Int × Nat
  | f, [] => f
  | f, o :: os => mostL (dmost f o) os
def sp_least : Sp3 := fun ds m P => ∃ (x : Int × Nat) (xs : List (Int × Nat)), ds = [.lst ((x :: xs).map dyD)] ∧ (∀ y ∈ x :: xs, Sm y) ∧ P (dyD (leastL x (x :: xs))) m
def sp_most : Sp3 := fun ds m P => ∃ (x : Int × Nat) (xs : List (Int × Nat)), ds = [.lst ((x :: xs).map dyD)] ∧ (∀ y ∈ x :: xs, Sm y) ∧ P (dyD (mostL x (x :: xs))) m
theorem dleast_sm {p q : Int × Nat} (hp : Sm p) (hq : Sm q) : Sm (dleast p q) := by
  rcases dleast_or p q with e | e <;> rw [e] <;> assumption
theorem dmost_sm {p q : Int × Nat} (hp : Sm p) (hq : Sm q) : Sm (dmost p q) := by
  rcases dmost_or p q with e | e <;> rw [e] <;> assumption
theorem ok_least_of (T : Tx K mg fa fd) : Fn3 P w K mg base 3 (fa 6) (fd 6) ["some"] sp_least := by
  refine fn3 T.d_least_of.F sc_least_of (fun ds m Q h => by obtain ⟨_, _, rfl, _⟩ := h; rfl) fun cdv A outer s H E ds m Q hr h => ?_
  obtain ⟨x, xs, rfl, hx, q⟩ := h
  refine ⟨_, (ss_cons (s_set (i := 1) sc_least_of.nd (e_ix (e_v 0) e_int))
      (ss_cons (s_for PassesOwn.never rfl (i_list (e_v 0)) (g_name (i := 2) sc_least_of.nd)
      (ss_one (s_if (t_val (e_call T.d_is_less (ok_is_less T) (hr.mono (by omega)) rfl (a_cons (e_v 2) (a_cons (e_v 1) a_nil)))) (ss_one (s_set (i := 1) sc_least_of.nd (e_v 2))) ss_nil)))
      (ss_one (s_ret (e_v 1))))), ?_⟩
  try simp only [seq3, ifS3, b3, op3, un3, v3, c3, fIx_tup, fIx_lst, at3_0, at3_1, at3_2, at3_3, at3_4, at3_5, at3_6, start3, fI0_i, fI_i, fLt, fLe, fGt, fGe, fEqI, fNeI, fMin, fMax, asg3, name3, sub3, ret3, retN3, nx3, drop3, par3, aug3, and3, or3, not3, andV3, orV3, notV3, if3, nil3, cons3, tup3, lst3, lstM3, gtup3, gcons3, gnil3, gunl3, bits3, neg3, chain3, fIsi, isiD, fLen_lst, fLen_tup, fAbs, call3, isN3, notN3, dIsN_non, dIsN_int, dIsN_bl, dIsN_str, dIsN_tup, dIsN_lst, slc3, part3, noPart3, ilst3, itup3, irng1, irng2, for3, fCat, fEq_int, fNe_int, fEq_bl, fNe_bl, fEq_pair, fNe_pair, List.map, List.replicate, List.length_cons, List.length_nil, List.set_cons_zero, List.set_cons_succ, List.getElem?_cons_zero, List.getElem?_cons_succ, List.cons_append, List.nil_append, at_0, at_1, at_2, at_3, at_4, at_5, at_6, ix_0, ix_1, ix_2, put_same, put_put, decide_eq_true_eq, Bool.not_eq_true', decide_eq_false_iff_not, ite_not, ite_true, ite_false, if_true, if_false, Bool.false_eq_true, ↓reduceIte, reduceIte, Nat.reduceAdd, Nat.reduceSub, Int.reduceToNat, Nat.reduceLeDiff, not_false_eq_true, true_and, and_true, ne_eq, Int.reduceEq, Nat.zero_add, Bool.not_true, Bool.not_false, reduceCtorEq, nc0, nc1, nc2, nc3, nc4, nc5, fIx_ref put_same, fLen_ref put_same, fIx_dy0, fIx_dy1, fEq_dy, fNe_dy, fIx_bx0, fIx_bx1, fEq_opt, fNe_opt, fNe_optb, fEq_bx, isN_opt, lc3, fInt, fTuple, fNeS_s, fStr]
  refine forIn3_ind (fun ds ρ m' => m' = m ∧ ∃ (ys : List (Int × Nat)) (f : Int × Nat) (o : Option D), ds = ys.map dyD ∧ (∀ y ∈ ys, Sm y) ∧ Sm f ∧ leastL f ys = leastL x (x :: xs) ∧ ρ = [some (D.lst (dyD x :: xs.map dyD)), some (dyD f), o]) ?_ ?_ _ _ _ ⟨rfl, x :: xs, x, _, rfl, hx, hx x List.mem_cons_self, rfl, rfl⟩
  · rintro d ds ρ m' nx hnx ⟨rfl, ys, f, o, e, hy, hf, hv, rfl⟩
    obtain ⟨y, ys, rfl⟩ : ∃ y ys', ys = y :: ys' := by
      cases ys with
      | nil => cases e
      | cons y ys => exact ⟨y, ys, rfl⟩
    cases e
    try simp only [seq3, ifS3, b3, op3, un3, v3, c3, fIx_tup, fIx_lst, at3_0, at3_1, at3_2, at3_3, at3_4, at3_5, at3_6, start3, fI0_i, fI_i, fLt, fLe, fGt, fGe, fEqI, fNeI, fMin, fMax, asg3, name3, sub3, ret3, retN3, nx3, drop3, par3, aug3, and3, or3, not3, andV3, orV3, notV3, if3, nil3, cons3, tup3, lst3, lstM3, gtup3, gcons3, gnil3, gunl3, bits3, neg3, chain3, fIsi, isiD, fLen_lst, fLen_tup, fAbs, call3, isN3, notN3, dIsN_non, dIsN_int, dIsN_bl, dIsN_str, dIsN_tup, dIsN_lst, slc3, part3, noPart3, ilst3, itup3, irng1, irng2, for3, fCat, fEq_int, fNe_int, fEq_bl, fNe_bl, fEq_pair, fNe_pair, List.map, List.replicate, List.length_cons, List.length_nil, List.set_cons_zero, List.set_cons_succ, List.getElem?_cons_zero, List.getElem?_cons_succ, List.cons_append, List.nil_append, at_0, at_1, at_2, at_3, at_4, at_5, at_6, ix_0, ix_1, ix_2, put_same, put_put, decide_eq_true_eq, Bool.not_eq_true', decide_eq_false_iff_not, ite_not, ite_true, ite_false, if_true, if_false, Bool.false_eq_true, ↓reduceIte, reduceIte, Nat.reduceAdd, Nat.reduceSub, Int.reduceToNat, Nat.reduceLeDiff, not_false_eq_true, true_and, and_true, ne_eq, Int.reduceEq, Nat.zero_add, Bool.not_true, Bool.not_false, reduceCtorEq, nc0, nc1, nc2, nc3, nc4, nc5, fIx_ref put_same, fLen_ref put_same, fIx_dy0, fIx_dy1, fEq_dy, fNe_dy, fIx_bx0, fIx_bx1, fEq_opt, fNe_opt, fNe_optb, fEq_bx, isN_opt, lc3, fInt, fTuple, fNeS_s, fStr]
    have hy0 := hy y List.mem_cons_self
    refine ⟨y, f, rfl, hy0, hf, ?_⟩
    try simp only [seq3, ifS3, b3, op3, un3, v3, c3, fIx_tup, fIx_lst, at3_0, at3_1, at3_2, at3_3, at3_4, at3_5, at3_6, start3, fI0_i, fI_i, fLt, fLe, fGt, fGe, fEqI, fNeI, fMin, fMax, asg3, name3, sub3, ret3, retN3, nx3, drop3, par3, aug3, and3, or3, not3, andV3, orV3, notV3, if3, nil3, cons3, tup3, lst3, lstM3, gtup3, gcons3, gnil3, gunl3, bits3, neg3, chain3, fIsi, isiD, fLen_lst, fLen_tup, fAbs, call3, isN3, notN3, dIsN_non, dIsN_int, dIsN_bl, dIsN_str, dIsN_tup, dIsN_lst, slc3, part3, noPart3, ilst3, itup3, irng1, irng2, for3, fCat, fEq_int, fNe_int, fEq_bl, fNe_bl, fEq_pair, fNe_pair, List.map, List.replicate, List.length_cons, List.length_nil, List.set_cons_zero, List.set_cons_succ, List.getElem?_cons_zero, List.getElem?_cons_succ, List.cons_append, List.nil_append, at_0, at_1, at_2, at_3, at_4, at_5, at_6, ix_0, ix_1, ix_2, put_same, put_put, decide_eq_true_eq, Bool.not_eq_true', decide_eq_false_iff_not, ite_not, ite_true, ite_false, if_true, if_false, Bool.false_eq_true, ↓reduceIte, reduceIte, Nat.reduceAdd, Nat.reduceSub, Int.reduceToNat, Nat.reduceLeDiff, not_false_eq_true, true_and, and_true, ne_eq, Int.reduceEq, Nat.zero_add, Bool.not_true, Bool.not_false, reduceCtorEq, nc0, nc1, nc2, nc3, nc4, nc5, fIx_ref put_same, fLen_ref put_same, fIx_dy0, fIx_dy1, fEq_dy, fNe_dy, fIx_bx0, fIx_bx1, fEq_opt, fNe_opt, fNe_optb, fEq_bx, isN_opt, lc3, fInt, fTuple, fNeS_s, fStr]
    refine iteB (fun h => ?_) (fun h => ?_)
    · exact hnx _ _ ⟨rfl, ys, y, _, rfl, fun z hz => hy z (List.mem_cons_of_mem _ hz), hy0, by rw [← hv]; show _ = leastL (dleast f y) ys; unfold dleast; rw [if_pos h], rfl⟩
    · exact hnx _ _ ⟨rfl, ys, f, _, rfl, fun z hz => hy z (List.mem_cons_of_mem _ hz), hf, by rw [← hv]; show _ = leastL (dleast f y) ys; unfold dleast; rw [h, if_neg Bool.false_ne_true], rfl⟩
  · rintro ρ m' ⟨rfl, ys, f, o, e, hy, hf, hv, rfl⟩
    cases ys with
    | cons y ys => cases e
    | nil =>
      try simp only [seq3, ifS3, b3, op3, un3, v3, c3, fIx_tup, fIx_lst, at3_0, at3_1, at3_2, at3_3, at3_4, at3_5, at3_6, start3, fI0_i, fI_i, fLt, fLe, fGt, fGe, fEqI, fNeI, fMin, fMax, asg3, name3, sub3, ret3, retN3, nx3, drop3, par3, aug3, and3, or3, not3, andV3, orV3, notV3, if3, nil3, cons3, tup3, lst3, lstM3, gtup3, gcons3, gnil3, gunl3, bits3, neg3, chain3, fIsi, isiD, fLen_lst, fLen_tup, fAbs, call3, isN3, notN3, dIsN_non, dIsN_int, dIsN_bl, dIsN_str, dIsN_tup, dIsN_lst, slc3, part3, noPart3, ilst3, itup3, irng1, irng2, for3, fCat, fEq_int, fNe_int, fEq_bl, fNe_bl, fEq_pair, fNe_pair, List.map, List.replicate, List.length_cons, List.length_nil, List.set_cons_zero, List.set_cons_succ, List.getElem?_cons_zero, List.getElem?_cons_succ, List.cons_append, List.nil_append, at_0, at_1, at_2, at_3, at_4, at_5, at_6, ix_0, ix_1, ix_2, put_same, put_put, decide_eq_true_eq, Bool.not_eq_true', decide_eq_false_iff_not, ite_not, ite_true, ite_false, if_true, if_false, Bool.false_eq_true, ↓reduceIte, reduceIte, Nat.reduceAdd, Nat.reduceSub, Int.reduceToNat, Nat.reduceLeDiff, not_false_eq_true, true_and, and_true, ne_eq, Int.reduceEq, Nat.zero_add, Bool.not_true, Bool.not_false, reduceCtorEq, nc0, nc1, nc2, nc3, nc4, nc5, fIx_ref put_same, fLen_ref put_same, fIx_dy0, fIx_dy1, fEq_dy, fNe_dy, fIx_bx0, fIx_bx1, fEq_opt, fNe_opt, fNe_optb, fEq_bx, isN_opt, lc3, fInt, fTuple, fNeS_s, fStr]
      rw [← hv] at q
      exact q
theorem ok_most_of (T : Tx K mg fa fd) : Fn3 P w K mg base 3 (fa 7) (fd 7) ["some"] sp_most := by
  refine fn3 T.d_most_of.F sc_most_of (fun ds m Q h => by obtain ⟨_, _, rfl, _⟩ := h; rfl) fun cdv A outer s H E ds m Q hr h => ?_
  obtain ⟨x, xs, rfl, hx, q⟩ := h
  refine ⟨_, (ss_cons (s_set (i := 1) sc_most_of.nd (e_ix (e_v 0) e_int))
      (ss_cons (s_for PassesOwn.never rfl (i_list (e_v 0)) (g_name (i := 2) sc_most_of.nd)
      (ss_one (s_if (t_val (e_call T.d_is_less (ok_is_less T) (hr.mono (by omega)) rfl (a_cons (e_v 1) (a_cons (e_v 2) a_nil)))) (ss_one (s_set (i := 1) sc_most_of.nd (e_v 2))) ss_nil)))
      (ss_one (s_ret (e_v 1))))), ?_⟩
  try simp only [seq3, ifS3, b3, op3, un3, v3, c3, fIx_tup, fIx_lst, at3_0, at3_1, at3_2, at3_3, at3_4, at3_5, at3_6, start3, fI0_i, fI_i, fLt, fLe, fGt, fGe, fEqI, fNeI, fMin, fMax, asg3, name3, sub3, ret3, retN3, nx3, drop3, par3, aug3, and3, or3, not3, andV3, orV3, notV3, if3, nil3, cons3, tup3, lst3, lstM3, gtup3, gcons3, gnil3, gunl3, bits3, neg3, chain3, fIsi, isiD, fLen_lst, fLen_tup, fAbs, call3, isN3, notN3, dIsN_non, dIsN_int, dIsN_bl, dIsN_str, dIsN_tup, dIsN_lst, slc3, part3, noPart3, ilst3, itup3, irng1, irng2, for3, fCat, fEq_int, fNe_int, fEq_bl, fNe_bl, fEq_pair, fNe_pair, List.map, List.replicate, List.length_cons, List.length_nil, List.set_cons_zero, List.set_cons_succ, List.getElem?_cons_zero, List.getElem?_cons_succ, List.cons_append, List.nil_append, at_0, at_1, at_2, at_3, at_4, at_5, at_6, ix_0, ix_1, ix_2, put_same, put_put, decide_eq_true_eq, Bool.not_eq_true', decide_eq_false_iff_not, ite_not, ite_true, ite_false, if_true, if_false, Bool.false_eq_true, ↓reduceIte, reduceIte, Nat.reduceAdd, Nat.reduceSub, Int.reduceToNat, Nat.reduceLeDiff, not_false_eq_true, true_and, and_true, ne_eq, Int.reduceEq, Nat.zero_add, Bool.not_true, Bool.not_false, reduceCtorEq, nc0, nc1, nc2, nc3, nc4, nc5, fIx_ref put_same, fLen_ref put_same, fIx_dy0, fIx_dy1, fEq_dy, fNe_dy, fIx_bx0, fIx_bx1, fEq_opt, fNe_opt, fNe_optb, fEq_bx, isN_opt, lc3, fInt, fTuple, fNeS_s, fStr]
  refine forIn3_ind (fun ds ρ m' => m' = m ∧ ∃ (ys : List (Int × Nat)) (f : Int × Nat) (o : Option D), ds = ys.map dyD ∧ (∀ y ∈ ys, Sm y) ∧ Sm f ∧ mostL f ys = mostL x (x :: xs) ∧ ρ = [some (D.lst (dyD x :: xs.map dyD)), some (dyD f), o]) ?_ ?_ _ _ _ ⟨rfl, x :: xs, x, _, rfl, hx, hx x List.mem_cons_self, rfl, rfl⟩
  · rintro d ds ρ m' nx hnx ⟨rfl, ys, f, o, e, hy, hf, hv, rfl⟩
    obtain ⟨y, ys, rfl⟩ : ∃ y ys', ys = y :: ys' := by
      cases ys with
      | nil => cases e
      | cons y ys => exact ⟨y, ys, rfl⟩
    cases e
    try simp only [seq3, ifS3, b3, op3, un3, v3, c3, fIx_tup, fIx_lst, at3_0, at3_1, at3_2, at3_3, at3_4, at3_5, at3_6, start3, fI0_i, fI_i, fLt, fLe, fGt, fGe, fEqI, fNeI, fMin, fMax, asg3, name3, sub3, ret3, retN3, nx3, drop3, par3, aug3, and3, or3, not3, andV3, orV3, notV3, if3, nil3, cons3, tup3, lst3, lstM3, gtup3, gcons3, gnil3, gunl3, bits3, neg3, chain3, fIsi, isiD, fLen_lst, fLen_tup, fAbs, call3, isN3, notN3, dIsN_non, dIsN_int, dIsN_bl, dIsN_str, dIsN_tup, dIsN_lst, slc3, part3, noPart3, ilst3, itup3, irng1, irng2, for3, fCat, fEq_int, fNe_int, fEq_bl, fNe_bl, fEq_pair, fNe_pair, List.map, List.replicate, List.length_cons, List.length_nil, List.set_cons_zero, List.set_cons_succ, List.getElem?_cons_zero, List.getElem?_cons_succ, List.cons_append, List.nil_append, at_0, at_1, at_2, at_3, at_4, at_5, at_6, ix_0, ix_1, ix_2, put_same, put_put, decide_eq_true_eq, Bool.not_eq_true', decide_eq_false_iff_not, ite_not, ite_true, ite_false, if_true, if_false, Bool.false_eq_true, ↓reduceIte, reduceIte, Nat.reduceAdd, Nat.reduceSub, Int.reduceToNat, Nat.reduceLeDiff, not_false_eq_true, true_and, and_true, ne_eq, Int.reduceEq, Nat.zero_add, Bool.not_true, Bool.not_false, reduceCtorEq, nc0, nc1, nc2, nc3, nc4, nc5, fIx_ref put_same, fLen_ref put_same, fIx_dy0, fIx_dy1, fEq_dy, fNe_dy, fIx_bx0, fIx_bx1, fEq_opt, fNe_opt, fNe_optb, fEq_bx, isN_opt, lc3, fInt, fTuple, fNeS_s, fStr]
    have hy0 := hy y List.mem_cons_self
    refine ⟨f, y, rfl, hf, hy0, ?_⟩
    try simp only [seq3, ifS3, b3, op3, un3, v3, c3, fIx_tup, fIx_lst, at3_0, at3_1, at3_2, at3_3, at3_4, at3_5, at3_6, start3, fI0_i, fI_i, fLt, fLe, fGt, fGe, fEqI, fNeI, fMin, fMax, asg3, name3, sub3, ret3, retN3, nx3, drop3, par3, aug3, and3, or3, not3, andV3, orV3, notV3, if3, nil3, cons3, tup3, lst3, lstM3, gtup3, gcons3, gnil3, gunl3, bits3, neg3, chain3, fIsi, isiD, fLen_lst, fLen_tup, fAbs, call3, isN3, notN3, dIsN_non, dIsN_int, dIsN_bl, dIsN_str, dIsN_tup, dIsN_lst, slc3, part3, noPart3, ilst3, itup3, irng1, irng2, for3, fCat, fEq_int, fNe_int, fEq_bl, fNe_bl, fEq_pair, fNe_pair, List.map, List.replicate, List.length_cons, List.length_nil, List.set_cons_zero, List.set_cons_succ, List.getElem?_cons_zero, List.getElem?_cons_succ, List.cons_append, List.nil_append, at_0, at_1, at_2, at_3, at_4, at_5, at_6, ix_0, ix_1, ix_2, put_same, put_put, decide_eq_true_eq, Bool.not_eq_true', decide_eq_false_iff_not, ite_not, ite_true, ite_false, if_true, if_false, Bool.false_eq_true, ↓reduceIte, reduceIte, Nat.reduceAdd, Nat.reduceSub, Int.reduceToNat, Nat.reduceLeDiff, not_false_eq_true, true_and, and_true, ne_eq, Int.reduceEq, Nat.zero_add, Bool.not_true, Bool.not_false, reduceCtorEq, nc0, nc1, nc2, nc3, nc4, nc5, fIx_ref put_same, fLen_ref put_same, fIx_dy0, fIx_dy1, fEq_dy, fNe_dy, fIx_bx0, fIx_bx1, fEq_opt, fNe_opt, fNe_optb, fEq_bx, isN_opt, lc3, fInt, fTuple, fNeS_s, fStr]
    refine iteB (fun h => ?_) (fun h => ?_)
    · exact hnx _ _ ⟨rfl, ys, y, _, rfl, fun z hz => hy z (List.mem_cons_of_mem _ hz), hy0, by rw [← hv]; show _ = mostL (dmost f y) ys; unfold dmost; rw [if_pos h], rfl⟩
    · exact hnx _ _ ⟨rfl, ys, f, _, rfl, fun z hz => hy z (List.mem_cons_of_mem _ hz), hf, by rw [← hv]; show _ = mostL (dmost f y) ys; unfold dmost; rw [h, if_neg Bool.false_ne_true], rfl⟩
  · rintro ρ m' ⟨rfl, ys, f, o, e, hy, hf, hv, rfl⟩
    cases ys with
    | cons y ys => cases e
    | nil =>
      try simp only [seq3, ifS3, b3, op3, un3, v3, c3, fIx_tup, fIx_lst, at3_0, at3_1, at3_2, at3_3, at3_4, at3_5, at3_6, start3, fI0_i, fI_i, fLt, fLe, fGt, fGe, fEqI, fNeI, fMin, fMax, asg3, name3, sub3, ret3, retN3, nx3, drop3, par3, aug3, and3, or3, not3, andV3, orV3, notV3, if3, nil3, cons3, tup3, lst3, lstM3, gtup3, gcons3, gnil3, gunl3, bits3, neg3, chain3, fIsi, isiD, fLen_lst, fLen_tup, fAbs, call3, isN3, notN3, dIsN_non, dIsN_int, dIsN_bl, dIsN_str, dIsN_tup, dIsN_lst, slc3, part3, noPart3, ilst3, itup3, irng1, irng2, for3, fCat, fEq_int, fNe_int, fEq_bl, fNe_bl, fEq_pair, fNe_pair, List.map, List.replicate, List.length_cons, List.length_nil, List.set_cons_zero, List.set_cons_succ, List.getElem?_cons_zero, List.getElem?_cons_succ, List.cons_append, List.nil_append, at_0, at_1, at_2, at_3, at_4, at_5, at_6, ix_0, ix_1, ix_2, put_same, put_put, decide_eq_true_eq, Bool.not_eq_true', decide_eq_false_iff_not, ite_not, ite_true, ite_false, if_true, if_false, Bool.false_eq_true, ↓reduceIte, reduceIte, Nat.reduceAdd, Nat.reduceSub, Int.reduceToNat, Nat.reduceLeDiff, not_false_eq_true, true_and, and_true, ne_eq, Int.reduceEq, Nat.zero_add, Bool.not_true, Bool.not_false, reduceCtorEq, nc0, nc1, nc2, nc3, nc4, nc5, fIx_ref put_same, fLen_ref put_same, fIx_dy0, fIx_dy1, fEq_dy, fNe_dy, fIx_bx0, fIx_bx1, fEq_opt, fNe_opt, fNe_optb, fEq_bx, isN_opt, lc3, fInt, fTuple, fNeS_s, fStr]
      rw [← hv] at q
      exact q
theorem least_two (x y : Int × Nat) : leastL x [x, y] = dleast x y := by
  show dleast (dleast x x) y = dleast x y
  rw [dleast_self]
theorem most_two (x y : Int × Nat) : mostL x [x, y] = dmost x y := by
  show dmost (dmost x x) y = dmost x y
  rw [dmost_self]
theorem sp_least2 {x y : Int × Nat} {m : Mem} {P : DK} (hx : Sm x) (hy : Sm y) (k : P (dyD (dleast x y)) m) : sp_least [.lst [dyD x, dyD y]] m P :=
  ⟨x, [y], rfl, fun z hz => by
    simp only [List.mem_cons, List.not_mem_nil, or_false] at hz
    rcases hz with rfl | rfl <;> assumption, by rw [least_two]; exact k⟩
theorem sp_most2 {x y : Int × Nat} {m : Mem} {P : DK} (hx : Sm x) (hy : Sm y) (k : P (dyD (dmost x y)) m) : sp_most [.lst [dyD x, dyD y]] m P :=
  ⟨x, [y], rfl, fun z hz => by
    simp only [List.mem_cons, List.not_mem_nil, or_false] at hz
    rcases hz with rfl | rfl <;> assumption, by rw [most_two]; exact k⟩
/-! ### the program's boxes -/
def SmB (b : Bx) : Prop := Sm b.1 ∧ Sm b.2
def sp_width : Sp3 := fun ds m P => ∃ b : Bx, ds = [boxD b] ∧ SmB b ∧ P (dyD (widthB b)) m
theorem ok_width (T : Tx K mg fa fd) : Fn3 P w K mg base 3 (fa 9) (fd 9) ["box"] sp_width := by
  refine fn3 T.d_width.F sc_width (fun ds m Q h => by obtain ⟨_, rfl, _⟩ := h; rfl) fun cdv A outer s H E ds m Q hr h => ?_
  obtain ⟨b, rfl, hb, q⟩ := h
  refine ⟨_, (ss_one (s_ret (e_call T.d_minus (ok_minus T) (hr.mono (by omega)) rfl (a_cons (e_ix (e_v 0) e_int) (a_cons (e_ix (e_v 0) e_int) a_nil))))), ?_⟩
  try simp only [seq3, ifS3, b3, op3, un3, v3, c3, fIx_tup, fIx_lst, at3_0, at3_1, at3_2, at3_3, at3_4, at3_5, at3_6, start3, fI0_i, fI_i, fLt, fLe, fGt, fGe, fEqI, fNeI, fMin, fMax, asg3, name3, sub3, ret3, retN3, nx3, drop3, par3, aug3, and3, or3, not3, andV3, orV3, notV3, if3, nil3, cons3, tup3, lst3, lstM3, gtup3, gcons3, gnil3, gunl3, bits3, neg3, chain3, fIsi, isiD, fLen_lst, fLen_tup, fAbs, call3, isN3, notN3, dIsN_non, dIsN_int, dIsN_bl, dIsN_str, dIsN_tup, dIsN_lst, slc3, part3, noPart3, ilst3, itup3, irng1, irng2, for3, fCat, fEq_int, fNe_int, fEq_bl, fNe_bl, fEq_pair, fNe_pair, List.map, List.replicate, List.length_cons, List.length_nil, List.set_cons_zero, List.set_cons_succ, List.getElem?_cons_zero, List.getElem?_cons_succ, List.cons_append, List.nil_append, at_0, at_1, at_2, at_3, at_4, at_5, at_6, ix_0, ix_1, ix_2, put_same, put_put, decide_eq_true_eq, Bool.not_eq_true', decide_eq_false_iff_not, ite_not, ite_true, ite_false, if_true, if_false, Bool.false_eq_true, ↓reduceIte, reduceIte, Nat.reduceAdd, Nat.reduceSub, Int.reduceToNat, Nat.reduceLeDiff, not_false_eq_true, true_and, and_true, ne_eq, Int.reduceEq, Nat.zero_add, Bool.not_true, Bool.not_false, reduceCtorEq, nc0, nc1, nc2, nc3, nc4, nc5, fIx_ref put_same, fLen_ref put_same, fIx_dy0, fIx_dy1, fEq_dy, fNe_dy, fIx_bx0, fIx_bx1, fEq_opt, fNe_opt, fNe_optb, fEq_bx, isN_opt, lc3, fInt, fTuple, fNeS_s, fStr]
  exact ⟨_, _, rfl, hb.2, hb.1, q⟩
def sp_within : Sp3 := fun ds m P => ∃ a b : Bx, ds = [boxD a, boxD b] ∧ SmB a ∧ SmB b ∧ P (.bl (withinB a b)) m
theorem ok_is_within (T : Tx K mg fa fd) : Fn3 P w K mg base 3 (fa 10) (fd 10) ["one", "other"] sp_within := by
  refine fn3 T.d_is_within.F sc_is_within (fun ds m Q h => by obtain ⟨_, _, rfl, _⟩ := h; rfl) fun cdv A outer s H E ds m Q hr h => ?_
  obtain ⟨a, b, rfl, ha, hb, q⟩ := h
  refine ⟨_, (ss_one (s_ret (e_and (e_not (e_call T.d_is_less (ok_is_less T) (hr.mono (by omega)) rfl (a_cons (e_ix (e_v 0) e_int) (a_cons (e_ix (e_v 1) e_int) a_nil)))) (e_one (e_not (e_call T.d_is_less (ok_is_less T) (hr.mono (by omega)) rfl (a_cons (e_ix (e_v 1) e_int) (a_cons (e_ix (e_v 0) e_int) a_nil)))))))), ?_⟩
  try simp only [seq3, ifS3, b3, op3, un3, v3, c3, fIx_tup, fIx_lst, at3_0, at3_1, at3_2, at3_3, at3_4, at3_5, at3_6, start3, fI0_i, fI_i, fLt, fLe, fGt, fGe, fEqI, fNeI, fMin, fMax, asg3, name3, sub3, ret3, retN3, nx3, drop3, par3, aug3, and3, or3, not3, andV3, orV3, notV3, if3, nil3, cons3, tup3, lst3, lstM3, gtup3, gcons3, gnil3, gunl3, bits3, neg3, chain3, fIsi, isiD, fLen_lst, fLen_tup, fAbs, call3, isN3, notN3, dIsN_non, dIsN_int, dIsN_bl, dIsN_str, dIsN_tup, dIsN_lst, slc3, part3, noPart3, ilst3, itup3, irng1, irng2, for3, fCat, fEq_int, fNe_int, fEq_bl, fNe_bl, fEq_pair, fNe_pair, List.map, List.replicate, List.length_cons, List.length_nil, List.set_cons_zero, List.set_cons_succ, List.getElem?_cons_zero, List.getElem?_cons_succ, List.cons_append, List.nil_append, at_0, at_1, at_2, at_3, at_4, at_5, at_6, ix_0, ix_1, ix_2, put_same, put_put, decide_eq_true_eq, Bool.not_eq_true', decide_eq_false_iff_not, ite_not, ite_true, ite_false, if_true, if_false, Bool.false_eq_true, ↓reduceIte, reduceIte, Nat.reduceAdd, Nat.reduceSub, Int.reduceToNat, Nat.reduceLeDiff, not_false_eq_true, true_and, and_true, ne_eq, Int.reduceEq, Nat.zero_add, Bool.not_true, Bool.not_false, reduceCtorEq, nc0, nc1, nc2, nc3, nc4, nc5, fIx_ref put_same, fLen_ref put_same, fIx_dy0, fIx_dy1, fEq_dy, fNe_dy, fIx_bx0, fIx_bx1, fEq_opt, fNe_opt, fNe_optb, fEq_bx, isN_opt, lc3, fInt, fTuple, fNeS_s, fStr]
  refine ⟨_, _, rfl, ha.1, hb.1, ?_⟩
  unfold withinB at q
  try simp only [seq3, ifS3, b3, op3, un3, v3, c3, fIx_tup, fIx_lst, at3_0, at3_1, at3_2, at3_3, at3_4, at3_5, at3_6, start3, fI0_i, fI_i, fLt, fLe, fGt, fGe, fEqI, fNeI, fMin, fMax, asg3, name3, sub3, ret3, retN3, nx3, drop3, par3, aug3, and3, or3, not3, andV3, orV3, notV3, if3, nil3, cons3, tup3, lst3, lstM3, gtup3, gcons3, gnil3, gunl3, bits3, neg3, chain3, fIsi, isiD, fLen_lst, fLen_tup, fAbs, call3, isN3, notN3, dIsN_non, dIsN_int, dIsN_bl, dIsN_str, dIsN_tup, dIsN_lst, slc3, part3, noPart3, ilst3, itup3, irng1, irng2, for3, fCat, fEq_int, fNe_int, fEq_bl, fNe_bl, fEq_pair, fNe_pair, List.map, List.replicate, List.length_cons, List.length_nil, List.set_cons_zero, List.set_cons_succ, List.getElem?_cons_zero, List.getElem?_cons_succ, List.cons_append, List.nil_append, at_0, at_1, at_2, at_3, at_4, at_5, at_6, ix_0, ix_1, ix_2, put_same, put_put, decide_eq_true_eq, Bool.not_eq_true', decide_eq_false_iff_not, ite_not, ite_true, ite_false, if_true, if_false, Bool.false_eq_true, ↓reduceIte, reduceIte, Nat.reduceAdd, Nat.reduceSub, Int.reduceToNat, Nat.reduceLeDiff, not_false_eq_true, true_and, and_true, ne_eq, Int.reduceEq, Nat.zero_add, Bool.not_true, Bool.not_false, reduceCtorEq, nc0, nc1, nc2, nc3, nc4, nc5, fIx_ref put_same, fLen_ref put_same, fIx_dy0, fIx_dy1, fEq_dy, fNe_dy, fIx_bx0, fIx_bx1, fEq_opt, fNe_opt, fNe_optb, fEq_bx, isN_opt, lc3, fInt, fTuple, fNeS_s, fStr]
  refine ite2 (fun h1 => ?_) (fun h1 => ?_)
  · rw [h1] at q
    refine ⟨_, _, rfl, hb.2, ha.2, ?_⟩
    try simp only [seq3, ifS3, b3, op3, un3, v3, c3, fIx_tup, fIx_lst, at3_0, at3_1, at3_2, at3_3, at3_4, at3_5, at3_6, start3, fI0_i, fI_i, fLt, fLe, fGt, fGe, fEqI, fNeI, fMin, fMax, asg3, name3, sub3, ret3, retN3, nx3, drop3, par3, aug3, and3, or3, not3, andV3, orV3, notV3, if3, nil3, cons3, tup3, lst3, lstM3, gtup3, gcons3, gnil3, gunl3, bits3, neg3, chain3, fIsi, isiD, fLen_lst, fLen_tup, fAbs, call3, isN3, notN3, dIsN_non, dIsN_int, dIsN_bl, dIsN_str, dIsN_tup, dIsN_lst, slc3, part3, noPart3, ilst3, itup3, irng1, irng2, for3, fCat, fEq_int, fNe_int, fEq_bl, fNe_bl, fEq_pair, fNe_pair, List.map, List.replicate, List.length_cons, List.length_nil, List.set_cons_zero, List.set_cons_succ, List.getElem?_cons_zero, List.getElem?_cons_succ, List.cons_append, List.nil_append, at_0, at_1, at_2, at_3, at_4, at_5, at_6, ix_0, ix_1, ix_2, put_same, put_put, decide_eq_true_eq, Bool.not_eq_true', decide_eq_false_iff_not, ite_not, ite_true, ite_false, if_true, if_false, Bool.false_eq_true, ↓reduceIte, reduceIte, Nat.reduceAdd, Nat.reduceSub, Int.reduceToNat, Nat.reduceLeDiff, not_false_eq_true, true_and, and_true, ne_eq, Int.reduceEq, Nat.zero_add, Bool.not_true, Bool.not_false, reduceCtorEq, nc0, nc1, nc2, nc3, nc4, nc5, fIx_ref put_same, fLen_ref put_same, fIx_dy0, fIx_dy1, fEq_dy, fNe_dy, fIx_bx0, fIx_bx1, fEq_opt, fNe_opt, fNe_optb, fEq_bx, isN_opt, lc3, fInt, fTuple, fNeS_s, fStr]
    exact q
  · rw [Bool.not_eq_false] at h1
    rw [h1] at q
    exact q
def sp_common : Sp3 := fun ds m P => ∃ a b : Bx, ds = [boxD a, boxD b] ∧ SmB a ∧ SmB b ∧ P (optD (commonB a b)) m
theorem ok_common (T : Tx K mg fa fd) : Fn3 P w K mg base 4 (fa 11) (fd 11) ["one", "other"] sp_common := by
  refine fn3 T.d_common.F sc_common (fun ds m Q h => by obtain ⟨_, _, rfl, _⟩ := h; rfl) fun cdv A outer s H E ds m Q hr h => ?_
  obtain ⟨a, b, rfl, ha, hb, q⟩ := h
  refine ⟨_, (ss_cons (s_set (i := 2) sc_common.nd (e_call T.d_most_of (ok_most_of T) (hr.mono (by omega)) rfl (a_cons (e_lst (a_cons (e_ix (e_v 0) e_int) (a_cons (e_ix (e_v 1) e_int) a_nil))) a_nil)))
      (ss_cons (s_set (i := 3) sc_common.nd (e_call T.d_least_of (ok_least_of T) (hr.mono (by omega)) rfl (a_cons (e_lst (a_cons (e_ix (e_v 0) e_int) (a_cons (e_ix (e_v 1) e_int) a_nil))) a_nil)))
      (ss_cons (s_if (t_val (e_call T.d_is_less (ok_is_less T) (hr.mono (by omega)) rfl (a_cons (e_v 3) (a_cons (e_v 2) a_nil)))) (ss_one (s_ret e_non)) ss_nil)
      (ss_one (s_ret (e_tup (a_cons (e_v 2) (a_cons (e_v 3) a_nil)))))))), ?_⟩
  try simp only [seq3, ifS3, b3, op3, un3, v3, c3, fIx_tup, fIx_lst, at3_0, at3_1, at3_2, at3_3, at3_4, at3_5, at3_6, start3, fI0_i, fI_i, fLt, fLe, fGt, fGe, fEqI, fNeI, fMin, fMax, asg3, name3, sub3, ret3, retN3, nx3, drop3, par3, aug3, and3, or3, not3, andV3, orV3, notV3, if3, nil3, cons3, tup3, lst3, lstM3, gtup3, gcons3, gnil3, gunl3, bits3, neg3, chain3, fIsi, isiD, fLen_lst, fLen_tup, fAbs, call3, isN3, notN3, dIsN_non, dIsN_int, dIsN_bl, dIsN_str, dIsN_tup, dIsN_lst, slc3, part3, noPart3, ilst3, itup3, irng1, irng2, for3, fCat, fEq_int, fNe_int, fEq_bl, fNe_bl, fEq_pair, fNe_pair, List.map, List.replicate, List.length_cons, List.length_nil, List.set_cons_zero, List.set_cons_succ, List.getElem?_cons_zero, List.getElem?_cons_succ, List.cons_append, List.nil_append, at_0, at_1, at_2, at_3, at_4, at_5, at_6, ix_0, ix_1, ix_2, put_same, put_put, decide_eq_true_eq, Bool.not_eq_true', decide_eq_false_iff_not, ite_not, ite_true, ite_false, if_true, if_false, Bool.false_eq_true, ↓reduceIte, reduceIte, Nat.reduceAdd, Nat.reduceSub, Int.reduceToNat, Nat.reduceLeDiff, not_false_eq_true, true_and, and_true, ne_eq, Int.reduceEq, Nat.zero_add, Bool.not_true, Bool.not_false, reduceCtorEq, nc0, nc1, nc2, nc3, nc4, nc5, fIx_ref put_same, fLen_ref put_same, fIx_dy0, fIx_dy1, fEq_dy, fNe_dy, fIx_bx0, fIx_bx1, fEq_opt, fNe_opt, fNe_optb, fEq_bx, isN_opt, lc3, fInt, fTuple, fNeS_s, fStr]
  refine sp_most2 ha.1 hb.1 ?_
  try simp only [seq3, ifS3, b3, op3, un3, v3, c3, fIx_tup, fIx_lst, at3_0, at3_1, at3_2, at3_3, at3_4, at3_5, at3_6, start3, fI0_i, fI_i, fLt, fLe, fGt, fGe, fEqI, fNeI, fMin, fMax, asg3, name3, sub3, ret3, retN3, nx3, drop3, par3, aug3, and3, or3, not3, andV3, orV3, notV3, if3, nil3, cons3, tup3, lst3, lstM3, gtup3, gcons3, gnil3, gunl3, bits3, neg3, chain3, fIsi, isiD, fLen_lst, fLen_tup, fAbs, call3, isN3, notN3, dIsN_non, dIsN_int, dIsN_bl, dIsN_str, dIsN_tup, dIsN_lst, slc3, part3, noPart3, ilst3, itup3, irng1, irng2, for3, fCat, fEq_int, fNe_int, fEq_bl, fNe_bl, fEq_pair, fNe_pair, List.map, List.replicate, List.length_cons, List.length_nil, List.set_cons_zero, List.set_cons_succ, List.getElem?_cons_zero, List.getElem?_cons_succ, List.cons_append, List.nil_append, at_0, at_1, at_2, at_3, at_4, at_5, at_6, ix_0, ix_1, ix_2, put_same, put_put, decide_eq_true_eq, Bool.not_eq_true', decide_eq_false_iff_not, ite_not, ite_true, ite_false, if_true, if_false, Bool.false_eq_true, ↓reduceIte, reduceIte, Nat.reduceAdd, Nat.reduceSub, Int.reduceToNat, Nat.reduceLeDiff, not_false_eq_true, true_and, and_true, ne_eq, Int.reduceEq, Nat.zero_add, Bool.not_true, Bool.not_false, reduceCtorEq, nc0, nc1, nc2, nc3, nc4, nc5, fIx_ref put_same, fLen_ref put_same, fIx_dy0, fIx_dy1, fEq_dy, fNe_dy, fIx_bx0, fIx_bx1, fEq_opt, fNe_opt, fNe_optb, fEq_bx, isN_opt, lc3, fInt, fTuple, fNeS_s, fStr]
  refine sp_least2 ha.2 hb.2 ?_
  try simp only [seq3, ifS3, b3, op3, un3, v3, c3, fIx_tup, fIx_lst, at3_0, at3_1, at3_2, at3_3, at3_4, at3_5, at3_6, start3, fI0_i, fI_i, fLt, fLe, fGt, fGe, fEqI, fNeI, fMin, fMax, asg3, name3, sub3, ret3, retN3, nx3, drop3, par3, aug3, and3, or3, not3, andV3, orV3, notV3, if3, nil3, cons3, tup3, lst3, lstM3, gtup3, gcons3, gnil3, gunl3, bits3, neg3, chain3, fIsi, isiD, fLen_lst, fLen_tup, fAbs, call3, isN3, notN3, dIsN_non, dIsN_int, dIsN_bl, dIsN_str, dIsN_tup, dIsN_lst, slc3, part3, noPart3, ilst3, itup3, irng1, irng2, for3, fCat, fEq_int, fNe_int, fEq_bl, fNe_bl, fEq_pair, fNe_pair, List.map, List.replicate, List.length_cons, List.length_nil, List.set_cons_zero, List.set_cons_succ, List.getElem?_cons_zero, List.getElem?_cons_succ, List.cons_append, List.nil_append, at_0, at_1, at_2, at_3, at_4, at_5, at_6, ix_0, ix_1, ix_2, put_same, put_put, decide_eq_true_eq, Bool.not_eq_true', decide_eq_false_iff_not, ite_not, ite_true, ite_false, if_true, if_false, Bool.false_eq_true, ↓reduceIte, reduceIte, Nat.reduceAdd, Nat.reduceSub, Int.reduceToNat, Nat.reduceLeDiff, not_false_eq_true, true_and, and_true, ne_eq, Int.reduceEq, Nat.zero_add, Bool.not_true, Bool.not_false, reduceCtorEq, nc0, nc1, nc2, nc3, nc4, nc5, fIx_ref put_same, fLen_ref put_same, fIx_dy0, fIx_dy1, fEq_dy, fNe_dy, fIx_bx0, fIx_bx1, fEq_opt, fNe_opt, fNe_optb, fEq_bx, isN_opt, lc3, fInt, fTuple, fNeS_s, fStr]
  refine ⟨_, _, rfl, dleast_sm ha.2 hb.2, dmost_sm ha.1 hb.1, ?_⟩
  try simp only [seq3, ifS3, b3, op3, un3, v3, c3, fIx_tup, fIx_lst, at3_0, at3_1, at3_2, at3_3, at3_4, at3_5, at3_6, start3, fI0_i, fI_i, fLt, fLe, fGt, fGe, fEqI, fNeI, fMin, fMax, asg3, name3, sub3, ret3, retN3, nx3, drop3, par3, aug3, and3, or3, not3, andV3, orV3, notV3, if3, nil3, cons3, tup3, lst3, lstM3, gtup3, gcons3, gnil3, gunl3, bits3, neg3, chain3, fIsi, isiD, fLen_lst, fLen_tup, fAbs, call3, isN3, notN3, dIsN_non, dIsN_int, dIsN_bl, dIsN_str, dIsN_tup, dIsN_lst, slc3, part3, noPart3, ilst3, itup3, irng1, irng2, for3, fCat, fEq_int, fNe_int, fEq_bl, fNe_bl, fEq_pair, fNe_pair, List.map, List.replicate, List.length_cons, List.length_nil, List.set_cons_zero, List.set_cons_succ, List.getElem?_cons_zero, List.getElem?_cons_succ, List.cons_append, List.nil_append, at_0, at_1, at_2, at_3, at_4, at_5, at_6, ix_0, ix_1, ix_2, put_same, put_put, decide_eq_true_eq, Bool.not_eq_true', decide_eq_false_iff_not, ite_not, ite_true, ite_false, if_true, if_false, Bool.false_eq_true, ↓reduceIte, reduceIte, Nat.reduceAdd, Nat.reduceSub, Int.reduceToNat, Nat.reduceLeDiff, not_false_eq_true, true_and, and_true, ne_eq, Int.reduceEq, Nat.zero_add, Bool.not_true, Bool.not_false, reduceCtorEq, nc0, nc1, nc2, nc3, nc4, nc5, fIx_ref put_same, fLen_ref put_same, fIx_dy0, fIx_dy1, fEq_dy, fNe_dy, fIx_bx0, fIx_bx1, fEq_opt, fNe_opt, fNe_optb, fEq_bx, isN_opt, lc3, fInt, fTuple, fNeS_s, fStr]
  unfold commonB at q
  refine iteB (fun h1 => ?_) (fun h1 => ?_)
  · rw [if_pos h1] at q
    exact q
  · rw [h1, if_neg Bool.false_ne_true] at q
    exact q
theorem common_sm {a b x : Bx} (ha : SmB a) (hb : SmB b) (h : commonB a b = some x) : SmB x := by
  unfold commonB at h
  split at h
  · cases h
  · cases h
    exact ⟨dmost_sm ha.1 hb.1, dleast_sm ha.2 hb.2⟩
/-! ### the law's own dyadics -/
theorem ok_law_dyadic (T : Tx K mg fa fd) : Fn3 P w K mg base 1 (fa 15) (fd 15) ["top", "down"] sp_dyadic := by
  refine fn3 T.d_law_dyadic.F sc_law_dyadic (fun ds m Q h => by obtain ⟨_, _, rfl, _⟩ := h; rfl) fun cdv A outer s H E ds m Q hr h => ?_
  obtain ⟨top, down, rfl, hd, q⟩ := h
  refine ⟨_, (ss_cons (s_while PassesOwn.never (t_w (t_and (t_gt (e_v 1) e_int) (t_and1 (t_eqI (e_mod (e_v 0) e_int) e_int)))) (ss_cons (s_set (i := 0) sc_law_dyadic.nd (e_fdiv (e_v 0) e_int))
      (ss_one (s_set (i := 1) sc_law_dyadic.nd (e_sub (e_v 1) e_int)))))
      (ss_one (s_ret (e_tup (a_cons (e_v 0) (a_cons (e_v 1) a_nil)))))), ?_⟩
  try simp only [seq3, ifS3, b3, op3, un3, v3, c3, fIx_tup, fIx_lst, at3_0, at3_1, at3_2, at3_3, at3_4, at3_5, at3_6, start3, fI0_i, fI_i, fLt, fLe, fGt, fGe, fEqI, fNeI, fMin, fMax, asg3, name3, sub3, ret3, retN3, nx3, drop3, par3, aug3, and3, or3, not3, andV3, orV3, notV3, if3, nil3, cons3, tup3, lst3, lstM3, gtup3, gcons3, gnil3, gunl3, bits3, neg3, chain3, fIsi, isiD, fLen_lst, fLen_tup, fAbs, call3, isN3, notN3, dIsN_non, dIsN_int, dIsN_bl, dIsN_str, dIsN_tup, dIsN_lst, slc3, part3, noPart3, ilst3, itup3, irng1, irng2, for3, fCat, fEq_int, fNe_int, fEq_bl, fNe_bl, fEq_pair, fNe_pair, List.map, List.replicate, List.length_cons, List.length_nil, List.set_cons_zero, List.set_cons_succ, List.getElem?_cons_zero, List.getElem?_cons_succ, List.cons_append, List.nil_append, at_0, at_1, at_2, at_3, at_4, at_5, at_6, ix_0, ix_1, ix_2, put_same, put_put, decide_eq_true_eq, Bool.not_eq_true', decide_eq_false_iff_not, ite_not, ite_true, ite_false, if_true, if_false, Bool.false_eq_true, ↓reduceIte, reduceIte, Nat.reduceAdd, Nat.reduceSub, Int.reduceToNat, Nat.reduceLeDiff, not_false_eq_true, true_and, and_true, ne_eq, Int.reduceEq, Nat.zero_add, Bool.not_true, Bool.not_false, reduceCtorEq, nc0, nc1, nc2, nc3, nc4, nc5, fIx_ref put_same, fLen_ref put_same, fIx_dy0, fIx_dy1, fEq_dy, fNe_dy, fIx_bx0, fIx_bx1, fEq_opt, fNe_opt, fNe_optb, fEq_bx, isN_opt, lc3, fInt, fTuple, fNeS_s, fStr]
  refine ⟨fun n ρ m' => ∃ t d : Int, ρ = [some (.int t), some (.int d)] ∧ m' = m ∧ 0 ≤ d ∧ n = d.toNat ∧ nrm d.toNat t = nrm down.toNat top, ⟨_, _, _, rfl, rfl, hd, rfl, rfl⟩, ?_⟩
  rintro n ρ m' ⟨t, d, rfl, rfl, h0, rfl, e⟩
  try simp only [seq3, ifS3, b3, op3, un3, v3, c3, fIx_tup, fIx_lst, at3_0, at3_1, at3_2, at3_3, at3_4, at3_5, at3_6, start3, fI0_i, fI_i, fLt, fLe, fGt, fGe, fEqI, fNeI, fMin, fMax, asg3, name3, sub3, ret3, retN3, nx3, drop3, par3, aug3, and3, or3, not3, andV3, orV3, notV3, if3, nil3, cons3, tup3, lst3, lstM3, gtup3, gcons3, gnil3, gunl3, bits3, neg3, chain3, fIsi, isiD, fLen_lst, fLen_tup, fAbs, call3, isN3, notN3, dIsN_non, dIsN_int, dIsN_bl, dIsN_str, dIsN_tup, dIsN_lst, slc3, part3, noPart3, ilst3, itup3, irng1, irng2, for3, fCat, fEq_int, fNe_int, fEq_bl, fNe_bl, fEq_pair, fNe_pair, List.map, List.replicate, List.length_cons, List.length_nil, List.set_cons_zero, List.set_cons_succ, List.getElem?_cons_zero, List.getElem?_cons_succ, List.cons_append, List.nil_append, at_0, at_1, at_2, at_3, at_4, at_5, at_6, ix_0, ix_1, ix_2, put_same, put_put, decide_eq_true_eq, Bool.not_eq_true', decide_eq_false_iff_not, ite_not, ite_true, ite_false, if_true, if_false, Bool.false_eq_true, ↓reduceIte, reduceIte, Nat.reduceAdd, Nat.reduceSub, Int.reduceToNat, Nat.reduceLeDiff, not_false_eq_true, true_and, and_true, ne_eq, Int.reduceEq, Nat.zero_add, Bool.not_true, Bool.not_false, reduceCtorEq, nc0, nc1, nc2, nc3, nc4, nc5, fIx_ref put_same, fLen_ref put_same, fIx_dy0, fIx_dy1, fEq_dy, fNe_dy, fIx_bx0, fIx_bx1, fEq_opt, fNe_opt, fNe_optb, fEq_bx, isN_opt, lc3, fInt, fTuple, fNeS_s, fStr]
  have hp : ∀ x : Int, Q (dyD (nrm down.toNat top)) m' := fun _ => q
  have fin : (d = 0 ∨ t % 2 = 1) → Q (D.tup [D.int t, D.int d]) m' := fun hf => by
    have e2 : nrm d.toNat t = (t, d.toNat) := nrm_uniq _ _ _ _ (Nat.le_refl _) (by rw [Nat.sub_self, Int.pow_zero, Int.mul_one]) (by omega)
    rw [← e, e2] at q
    unfold dyD at q
    rw [show ((d.toNat : Nat) : Int) = d by omega] at q
    exact q
  refine ite2 (fun h1 => ite2 (fun h2 => ⟨c_fdiv (b := 2) (by decide) (by decide) (by decide) (by decide), d.toNat - 1, by omega, _, _, rfl, by omega, by omega, ?_⟩) (fun h2 => fin (.inr ?_))) (fun h1 => fin (.inl (by omega)))
  · rw [fmod_e t (by decide)] at h2
    rw [fdiv_e t (by decide), ← e, show d.toNat = (d - 1).toNat + 1 by omega]
    conv => rhs; unfold nrm
    rw [if_pos h2]
  · rw [fmod_e t (by decide)] at h2
    omega
def sp_lawless : Sp3 := fun ds m P => ∃ p q : Int × Nat, ds = [dyD p, dyD q] ∧ Sm p ∧ Sm q ∧ P (.bl (dless p q)) m
theorem ok_law_less (T : Tx K mg fa fd) : Fn3 P w K mg base 1 (fa 16) (fd 16) ["one", "other"] sp_lawless := by
  refine fn3 T.d_law_less.F sc_law_less (fun ds m Q h => by obtain ⟨_, _, rfl, _⟩ := h; rfl) fun cdv A outer s H E ds m Q hr h => ?_
  obtain ⟨p, q', rfl, hp, hq, q⟩ := h
  refine ⟨_, (ss_one (s_ret (e_lt (e_shl (e_ix (e_v 0) e_int) (e_ix (e_v 1) e_int)) (e_shl (e_ix (e_v 1) e_int) (e_ix (e_v 0) e_int))))), ?_⟩
  try simp only [seq3, ifS3, b3, op3, un3, v3, c3, fIx_tup, fIx_lst, at3_0, at3_1, at3_2, at3_3, at3_4, at3_5, at3_6, start3, fI0_i, fI_i, fLt, fLe, fGt, fGe, fEqI, fNeI, fMin, fMax, asg3, name3, sub3, ret3, retN3, nx3, drop3, par3, aug3, and3, or3, not3, andV3, orV3, notV3, if3, nil3, cons3, tup3, lst3, lstM3, gtup3, gcons3, gnil3, gunl3, bits3, neg3, chain3, fIsi, isiD, fLen_lst, fLen_tup, fAbs, call3, isN3, notN3, dIsN_non, dIsN_int, dIsN_bl, dIsN_str, dIsN_tup, dIsN_lst, slc3, part3, noPart3, ilst3, itup3, irng1, irng2, for3, fCat, fEq_int, fNe_int, fEq_bl, fNe_bl, fEq_pair, fNe_pair, List.map, List.replicate, List.length_cons, List.length_nil, List.set_cons_zero, List.set_cons_succ, List.getElem?_cons_zero, List.getElem?_cons_succ, List.cons_append, List.nil_append, at_0, at_1, at_2, at_3, at_4, at_5, at_6, ix_0, ix_1, ix_2, put_same, put_put, decide_eq_true_eq, Bool.not_eq_true', decide_eq_false_iff_not, ite_not, ite_true, ite_false, if_true, if_false, Bool.false_eq_true, ↓reduceIte, reduceIte, Nat.reduceAdd, Nat.reduceSub, Int.reduceToNat, Nat.reduceLeDiff, not_false_eq_true, true_and, and_true, ne_eq, Int.reduceEq, Nat.zero_add, Bool.not_true, Bool.not_false, reduceCtorEq, nc0, nc1, nc2, nc3, nc4, nc5, fIx_ref put_same, fLen_ref put_same, fIx_dy0, fIx_dy1, fEq_dy, fNe_dy, fIx_bx0, fIx_bx1, fEq_opt, fNe_opt, fNe_optb, fEq_bx, isN_opt, lc3, fInt, fTuple, fNeS_s, fStr, Int.toNat_natCast]
  refine ⟨shl_c hp.1 (by omega) (by have := hq.2; omega), shl_c hq.1 (by omega) (by have := hp.2; omega), ?_⟩
  have e := less_is (is_up (is_self p) q'.2) (by have h := is_up (is_self q') p.2; rw [Nat.add_comm] at h; exact h)
  rw [← e]
  exact q
def sp_drawn : Sp3 := fun ds m P => ∃ (a : Addr) (n : Nat), ds = [.ref a] ∧ DeckAt m a (n + 10) ∧ ∀ p m', Frm p → Sz p 600 → Off a m m' → DeckAt m' a n → P (dyD p) m'
theorem at3_rem3 {x y z : D} {m : Mem} {P : DK} (t : Int) (h : ∀ d ∈ [x, y, z], P d m) : at3 [x, y, z] (t.fmod 3) m P := by
  have := fmod_b t (b := 3) (by decide)
  exact at3_all this.1 (by simpa using this.2) h
theorem ok_law_drawn (T : Tx K mg fa fd) : Fn3 P w K mg base 2 (fa 17) (fd 17) ["deck"] sp_drawn := by
  refine fn3 T.d_law_drawn.F sc_law_drawn (fun ds m Q h => by obtain ⟨_, _, rfl, _⟩ := h; rfl) fun cdv A outer s H E ds m Q hr h => ?_
  obtain ⟨a, n, rfl, hd, q⟩ := h
  refine ⟨_, (ss_cons (s_set (i := 1) sc_law_drawn.nd (e_call T.d_law_pick (ok_law_pick T) (hr.mono (by omega)) rfl (a_cons (e_v 0) (a_cons e_int a_nil))))
      (ss_cons (s_set (i := 2) sc_law_drawn.nd (e_sub (e_call T.d_law_pick (ok_law_pick T) (hr.mono (by omega)) rfl (a_cons (e_v 0) (a_cons e_int a_nil))) e_int))
      (ss_cons (s_if (t_eqI (e_v 1) e_int) (ss_one (s_set (i := 2) sc_law_drawn.nd (e_add (e_mul (e_sub (e_call T.d_law_pick (ok_law_pick T) (hr.mono (by omega)) rfl (a_cons (e_v 0) (a_cons (e_pow e_int e_int) a_nil))) (e_mul e_int (e_pow e_int e_int))) (e_pow e_int e_int)) (e_call T.d_law_pick (ok_law_pick T) (hr.mono (by omega)) rfl (a_cons (e_v 0) (a_cons (e_pow e_int e_int) a_nil)))))) ss_nil)
      (ss_cons (s_set (i := 3) sc_law_drawn.nd (e_ix (e_lst (a_cons e_int (a_cons e_int (a_cons (e_call T.d_law_pick (ok_law_pick T) (hr.mono (by omega)) rfl (a_cons (e_v 0) (a_cons e_int a_nil))) a_nil)))) (e_mod (e_v 2) e_int)))
      (ss_cons (s_set (i := 4) sc_law_drawn.nd (e_ix (e_lst (a_cons e_int (a_cons (e_call T.d_law_pick (ok_law_pick T) (hr.mono (by omega)) rfl (a_cons (e_v 0) (a_cons e_int a_nil))) (a_cons (e_call T.d_law_pick (ok_law_pick T) (hr.mono (by omega)) rfl (a_cons (e_v 0) (a_cons e_int a_nil))) (a_cons e_int (a_cons (e_call T.d_law_pick (ok_law_pick T) (hr.mono (by omega)) rfl (a_cons (e_v 0) (a_cons e_int a_nil))) (a_cons (e_v 3) a_nil))))))) (e_v 1)))
      (ss_one (s_ret (e_call T.d_law_dyadic (ok_law_dyadic T) (hr.mono (by omega)) rfl (a_cons (e_v 2) (a_cons (e_v 4) a_nil)))))))))), ?_⟩
  try simp only [seq3, ifS3, b3, op3, un3, v3, c3, fIx_tup, fIx_lst, at3_0, at3_1, at3_2, at3_3, at3_4, at3_5, at3_6, start3, fI0_i, fI_i, fLt, fLe, fGt, fGe, fEqI, fNeI, fMin, fMax, asg3, name3, sub3, ret3, retN3, nx3, drop3, par3, aug3, and3, or3, not3, andV3, orV3, notV3, if3, nil3, cons3, tup3, lst3, lstM3, gtup3, gcons3, gnil3, gunl3, bits3, neg3, chain3, fIsi, isiD, fLen_lst, fLen_tup, fAbs, call3, isN3, notN3, dIsN_non, dIsN_int, dIsN_bl, dIsN_str, dIsN_tup, dIsN_lst, slc3, part3, noPart3, ilst3, itup3, irng1, irng2, for3, fCat, fEq_int, fNe_int, fEq_bl, fNe_bl, fEq_pair, fNe_pair, List.map, List.replicate, List.length_cons, List.length_nil, List.set_cons_zero, List.set_cons_succ, List.getElem?_cons_zero, List.getElem?_cons_succ, List.cons_append, List.nil_append, at_0, at_1, at_2, at_3, at_4, at_5, at_6, ix_0, ix_1, ix_2, put_same, put_put, decide_eq_true_eq, Bool.not_eq_true', decide_eq_false_iff_not, ite_not, ite_true, ite_false, if_true, if_false, Bool.false_eq_true, ↓reduceIte, reduceIte, Nat.reduceAdd, Nat.reduceSub, Int.reduceToNat, Nat.reduceLeDiff, not_false_eq_true, true_and, and_true, ne_eq, Int.reduceEq, Nat.zero_add, Bool.not_true, Bool.not_false, reduceCtorEq, nc0, nc1, nc2, nc3, nc4, nc5, fIx_ref put_same, fLen_ref put_same, fIx_dy0, fIx_dy1, fEq_dy, fNe_dy, fIx_bx0, fIx_bx1, fEq_opt, fNe_opt, fNe_optb, fEq_bx, isN_opt, lc3, fInt, fTuple, fNeS_s, fStr]
  refine sp_pick_i (n + 9) hd (by decide) (by decide) fun way m1 w0 w1 o1 d1 => ?_
  refine sp_pick_i (n + 8) d1 (by decide) (by decide) fun top m2 t0 t1 o2 d2 => ?_
  try simp only [seq3, ifS3, b3, op3, un3, v3, c3, fIx_tup, fIx_lst, at3_0, at3_1, at3_2, at3_3, at3_4, at3_5, at3_6, start3, fI0_i, fI_i, fLt, fLe, fGt, fGe, fEqI, fNeI, fMin, fMax, asg3, name3, sub3, ret3, retN3, nx3, drop3, par3, aug3, and3, or3, not3, andV3, orV3, notV3, if3, nil3, cons3, tup3, lst3, lstM3, gtup3, gcons3, gnil3, gunl3, bits3, neg3, chain3, fIsi, isiD, fLen_lst, fLen_tup, fAbs, call3, isN3, notN3, dIsN_non, dIsN_int, dIsN_bl, dIsN_str, dIsN_tup, dIsN_lst, slc3, part3, noPart3, ilst3, itup3, irng1, irng2, for3, fCat, fEq_int, fNe_int, fEq_bl, fNe_bl, fEq_pair, fNe_pair, List.map, List.replicate, List.length_cons, List.length_nil, List.set_cons_zero, List.set_cons_succ, List.getElem?_cons_zero, List.getElem?_cons_succ, List.cons_append, List.nil_append, at_0, at_1, at_2, at_3, at_4, at_5, at_6, ix_0, ix_1, ix_2, put_same, put_put, decide_eq_true_eq, Bool.not_eq_true', decide_eq_false_iff_not, ite_not, ite_true, ite_false, if_true, if_false, Bool.false_eq_true, ↓reduceIte, reduceIte, Nat.reduceAdd, Nat.reduceSub, Int.reduceToNat, Nat.reduceLeDiff, not_false_eq_true, true_and, and_true, ne_eq, Int.reduceEq, Nat.zero_add, Bool.not_true, Bool.not_false, reduceCtorEq, nc0, nc1, nc2, nc3, nc4, nc5, fIx_ref put_same, fLen_ref put_same, fIx_dy0, fIx_dy1, fEq_dy, fNe_dy, fIx_bx0, fIx_bx1, fEq_opt, fNe_opt, fNe_optb, fEq_bx, isN_opt, lc3, fInt, fTuple, fNeS_s, fStr]
  have main : ∀ (top : Int) (m3 : Mem), top.natAbs < 2 ^ 120 → Off a m m3 → DeckAt m3 a (n + 6) →
      ∀ (t : Env3 → Mem → Prop), True := fun _ _ _ _ _ _ => trivial
  clear main
  have rest : ∀ (k : Int) (m3 : Mem), k.natAbs < 2 ^ 120 → Off a m m3 → DeckAt m3 a (n + 6) →
      sp_pick [D.ref a, D.int 601] m3 fun x m4 =>
        at3 [D.int 300, D.int 600, x] (k.fmod 3) m4 fun d m4 =>
          sp_pick [D.ref a, D.int 4] m4 fun x m5 => sp_pick [D.ref a, D.int 9] m5 fun y m6 => sp_pick [D.ref a, D.int 70] m6 fun z m7 =>
            at3 [D.int 0, x, y, D.int 0, z, d] way m7 fun dn m8 => sp_dyadic [D.int k, dn] m8 Q := by
    intro k m3 hk o3 d3
    refine sp_pick_i (n + 5) d3 (by decide) (by decide) fun r m4 r0 r1 o4 d4 => ?_
    refine at3_rem3 k fun d hd => ?_
    refine sp_pick_i (n + 4) d4 (by decide) (by decide) fun r2 m5 r20 r21 o5 d5 => ?_
    refine sp_pick_i (n + 3) d5 (by decide) (by decide) fun r3 m6 r30 r31 o6 d6 => ?_
    refine sp_pick_i (n + 2) d6 (by decide) (by decide) fun r4 m7 r40 r41 o7 d7 => ?_
    refine at3_all w0 (by simpa using w1) fun dn hdn => ?_
    obtain ⟨x, rfl, x0, x1⟩ : ∃ x : Int, d = .int x ∧ 0 ≤ x ∧ x ≤ 600 := by
      simp only [List.mem_cons, List.not_mem_nil, or_false] at hd
      rcases hd with rfl | rfl | rfl <;> exact ⟨_, rfl, by omega, by omega⟩
    obtain ⟨y, rfl, y0, y1⟩ : ∃ y : Int, dn = .int y ∧ 0 ≤ y ∧ y ≤ 600 := by
      simp only [List.mem_cons, List.not_mem_nil, or_false] at hdn
      rcases hdn with rfl | rfl | rfl | rfl | rfl | rfl <;> exact ⟨_, rfl, by omega, by omega⟩
    refine ⟨_, _, rfl, y0, q _ _ (nrm_frm _ _) ⟨lt_pow (Nat.lt_of_le_of_lt (nrm_abs _ _) hk) (by decide), ?_⟩ ((((o3.trans o4).trans o5).trans o6).trans o7) (d7.le (by omega))⟩
    have := nrm_le y.toNat k
    omega
  refine ite2 (fun h => ?_) (fun h => ?_)
  · refine ⟨c_pow (by decide) (by decide) (by decide), ?_⟩
    refine sp_pick_i (n + 7) d2 (by decide) (by decide) fun k m3 k0 k1 o3 d3 => ?_
    try simp only [seq3, ifS3, b3, op3, un3, v3, c3, fIx_tup, fIx_lst, at3_0, at3_1, at3_2, at3_3, at3_4, at3_5, at3_6, start3, fI0_i, fI_i, fLt, fLe, fGt, fGe, fEqI, fNeI, fMin, fMax, asg3, name3, sub3, ret3, retN3, nx3, drop3, par3, aug3, and3, or3, not3, andV3, orV3, notV3, if3, nil3, cons3, tup3, lst3, lstM3, gtup3, gcons3, gnil3, gunl3, bits3, neg3, chain3, fIsi, isiD, fLen_lst, fLen_tup, fAbs, call3, isN3, notN3, dIsN_non, dIsN_int, dIsN_bl, dIsN_str, dIsN_tup, dIsN_lst, slc3, part3, noPart3, ilst3, itup3, irng1, irng2, for3, fCat, fEq_int, fNe_int, fEq_bl, fNe_bl, fEq_pair, fNe_pair, List.map, List.replicate, List.length_cons, List.length_nil, List.set_cons_zero, List.set_cons_succ, List.getElem?_cons_zero, List.getElem?_cons_succ, List.cons_append, List.nil_append, at_0, at_1, at_2, at_3, at_4, at_5, at_6, ix_0, ix_1, ix_2, put_same, put_put, decide_eq_true_eq, Bool.not_eq_true', decide_eq_false_iff_not, ite_not, ite_true, ite_false, if_true, if_false, Bool.false_eq_true, ↓reduceIte, reduceIte, Nat.reduceAdd, Nat.reduceSub, Int.reduceToNat, Nat.reduceLeDiff, not_false_eq_true, true_and, and_true, ne_eq, Int.reduceEq, Nat.zero_add, Bool.not_true, Bool.not_false, reduceCtorEq, nc0, nc1, nc2, nc3, nc4, nc5, fIx_ref put_same, fLen_ref put_same, fIx_dy0, fIx_dy1, fEq_dy, fNe_dy, fIx_bx0, fIx_bx1, fEq_opt, fNe_opt, fNe_optb, fEq_bx, isN_opt, lc3, fInt, fTuple, fNeS_s, fStr]
    refine ⟨c_pow (by decide) (by decide) (by decide), c_mul64 (by decide) (by decide), c_pow (by decide) (by decide) (by decide), c_mul64 (by omega) (by decide), c_pow (by decide) (by decide) (by decide), ?_⟩
    refine sp_pick_i (n + 6) d3 (by decide) (by decide) fun j m4 j0 j1 o4 d4 => ?_
    try simp only [seq3, ifS3, b3, op3, un3, v3, c3, fIx_tup, fIx_lst, at3_0, at3_1, at3_2, at3_3, at3_4, at3_5, at3_6, start3, fI0_i, fI_i, fLt, fLe, fGt, fGe, fEqI, fNeI, fMin, fMax, asg3, name3, sub3, ret3, retN3, nx3, drop3, par3, aug3, and3, or3, not3, andV3, orV3, notV3, if3, nil3, cons3, tup3, lst3, lstM3, gtup3, gcons3, gnil3, gunl3, bits3, neg3, chain3, fIsi, isiD, fLen_lst, fLen_tup, fAbs, call3, isN3, notN3, dIsN_non, dIsN_int, dIsN_bl, dIsN_str, dIsN_tup, dIsN_lst, slc3, part3, noPart3, ilst3, itup3, irng1, irng2, for3, fCat, fEq_int, fNe_int, fEq_bl, fNe_bl, fEq_pair, fNe_pair, List.map, List.replicate, List.length_cons, List.length_nil, List.set_cons_zero, List.set_cons_succ, List.getElem?_cons_zero, List.getElem?_cons_succ, List.cons_append, List.nil_append, at_0, at_1, at_2, at_3, at_4, at_5, at_6, ix_0, ix_1, ix_2, put_same, put_put, decide_eq_true_eq, Bool.not_eq_true', decide_eq_false_iff_not, ite_not, ite_true, ite_false, if_true, if_false, Bool.false_eq_true, ↓reduceIte, reduceIte, Nat.reduceAdd, Nat.reduceSub, Int.reduceToNat, Nat.reduceLeDiff, not_false_eq_true, true_and, and_true, ne_eq, Int.reduceEq, Nat.zero_add, Bool.not_true, Bool.not_false, reduceCtorEq, nc0, nc1, nc2, nc3, nc4, nc5, fIx_ref put_same, fLen_ref put_same, fIx_dy0, fIx_dy1, fEq_dy, fNe_dy, fIx_bx0, fIx_bx1, fEq_opt, fNe_opt, fNe_optb, fEq_bx, isN_opt, lc3, fInt, fTuple, fNeS_s, fStr]
    exact rest _ m4 (by omega) (((o1.trans o2).trans o3).trans o4) d4
  · exact rest _ m2 (by omega) (o1.trans o2) (d2.le (by omega))
structure Gb (b : Bx) : Prop where
  ok : Bok b
  s1 : Sz b.1 700
  s2 : Sz b.2 700
theorem Gb.sm {b : Bx} (h : Gb b) : SmB b := ⟨h.s1.le (by decide), h.s2.le (by decide)⟩
def sp_dbox : Sp3 := fun ds m P => ∃ (a : Addr) (n : Nat), ds = [.ref a] ∧ DeckAt m a (n + 30) ∧ ∀ b m', Gb b → Off a m m' → DeckAt m' a n → P (boxD b) m'
theorem ok_law_drawn_box (T : Tx K mg fa fd) : Fn3 P w K mg base 3 (fa 18) (fd 18) ["deck"] sp_dbox := by
  refine fn3 T.d_law_drawn_box.F sc_law_drawn_box (fun ds m Q h => by obtain ⟨_, _, rfl, _⟩ := h; rfl) fun cdv A outer s H E ds m Q hr h => ?_
  obtain ⟨a, n, rfl, hd, q⟩ := h
  refine ⟨_, (ss_cons (s_set (i := 1) sc_law_drawn_box.nd (e_call T.d_law_drawn (ok_law_drawn T) (hr.mono (by omega)) rfl (a_cons (e_v 0) a_nil)))
      (ss_cons (s_set (i := 2) sc_law_drawn_box.nd (e_call T.d_law_pick (ok_law_pick T) (hr.mono (by omega)) rfl (a_cons (e_v 0) (a_cons e_int a_nil))))
      (ss_cons (s_if (t_eqI (e_v 2) e_int) (ss_one (s_ret (e_tup (a_cons (e_v 1) (a_cons (e_v 1) a_nil))))) ss_nil)
      (ss_cons (s_set (i := 3) sc_law_drawn_box.nd (e_call T.d_law_drawn (ok_law_drawn T) (hr.mono (by omega)) rfl (a_cons (e_v 0) a_nil)))
      (ss_cons (s_if (t_eqI (e_v 2) e_int) (ss_cons (s_set (i := 4) sc_law_drawn_box.nd (e_ix (e_lst (a_cons e_int (a_cons e_int (a_cons (e_pow e_int e_int) a_nil)))) (e_call T.d_law_pick (ok_law_pick T) (hr.mono (by omega)) rfl (a_cons (e_v 0) (a_cons e_int a_nil)))))
      (ss_one (s_set (i := 3) sc_law_drawn_box.nd (e_call T.d_law_dyadic (ok_law_dyadic T) (hr.mono (by omega)) rfl (a_cons (e_add (e_mul (e_ix (e_v 1) e_int) (e_pow e_int e_int)) (e_v 4)) (a_cons (e_add (e_ix (e_v 1) e_int) e_int) a_nil)))))) ss_nil)
      (ss_one (s_ret (e_if (t_val (e_call T.d_law_less (ok_law_less T) (hr.mono (by omega)) rfl (a_cons (e_v 3) (a_cons (e_v 1) a_nil)))) (e_tup (a_cons (e_v 3) (a_cons (e_v 1) a_nil))) (e_tup (a_cons (e_v 1) (a_cons (e_v 3) a_nil))))))))))), ?_⟩
  try simp only [seq3, ifS3, b3, op3, un3, v3, c3, fIx_tup, fIx_lst, at3_0, at3_1, at3_2, at3_3, at3_4, at3_5, at3_6, start3, fI0_i, fI_i, fLt, fLe, fGt, fGe, fEqI, fNeI, fMin, fMax, asg3, name3, sub3, ret3, retN3, nx3, drop3, par3, aug3, and3, or3, not3, andV3, orV3, notV3, if3, nil3, cons3, tup3, lst3, lstM3, gtup3, gcons3, gnil3, gunl3, bits3, neg3, chain3, fIsi, isiD, fLen_lst, fLen_tup, fAbs, call3, isN3, notN3, dIsN_non, dIsN_int, dIsN_bl, dIsN_str, dIsN_tup, dIsN_lst, slc3, part3, noPart3, ilst3, itup3, irng1, irng2, for3, fCat, fEq_int, fNe_int, fEq_bl, fNe_bl, fEq_pair, fNe_pair, List.map, List.replicate, List.length_cons, List.length_nil, List.set_cons_zero, List.set_cons_succ, List.getElem?_cons_zero, List.getElem?_cons_succ, List.cons_append, List.nil_append, at_0, at_1, at_2, at_3, at_4, at_5, at_6, ix_0, ix_1, ix_2, put_same, put_put, decide_eq_true_eq, Bool.not_eq_true', decide_eq_false_iff_not, ite_not, ite_true, ite_false, if_true, if_false, Bool.false_eq_true, ↓reduceIte, reduceIte, Nat.reduceAdd, Nat.reduceSub, Int.reduceToNat, Nat.reduceLeDiff, not_false_eq_true, true_and, and_true, ne_eq, Int.reduceEq, Nat.zero_add, Bool.not_true, Bool.not_false, reduceCtorEq, nc0, nc1, nc2, nc3, nc4, nc5, fIx_ref put_same, fLen_ref put_same, fIx_dy0, fIx_dy1, fEq_dy, fNe_dy, fIx_bx0, fIx_bx1, fEq_opt, fNe_opt, fNe_optb, fEq_bx, isN_opt, lc3, fInt, fTuple, fNeS_s, fStr]
  refine ⟨a, n + 20, rfl, hd, fun p m1 fp sp o1 d1 => ?_⟩
  try simp only [seq3, ifS3, b3, op3, un3, v3, c3, fIx_tup, fIx_lst, at3_0, at3_1, at3_2, at3_3, at3_4, at3_5, at3_6, start3, fI0_i, fI_i, fLt, fLe, fGt, fGe, fEqI, fNeI, fMin, fMax, asg3, name3, sub3, ret3, retN3, nx3, drop3, par3, aug3, and3, or3, not3, andV3, orV3, notV3, if3, nil3, cons3, tup3, lst3, lstM3, gtup3, gcons3, gnil3, gunl3, bits3, neg3, chain3, fIsi, isiD, fLen_lst, fLen_tup, fAbs, call3, isN3, notN3, dIsN_non, dIsN_int, dIsN_bl, dIsN_str, dIsN_tup, dIsN_lst, slc3, part3, noPart3, ilst3, itup3, irng1, irng2, for3, fCat, fEq_int, fNe_int, fEq_bl, fNe_bl, fEq_pair, fNe_pair, List.map, List.replicate, List.length_cons, List.length_nil, List.set_cons_zero, List.set_cons_succ, List.getElem?_cons_zero, List.getElem?_cons_succ, List.cons_append, List.nil_append, at_0, at_1, at_2, at_3, at_4, at_5, at_6, ix_0, ix_1, ix_2, put_same, put_put, decide_eq_true_eq, Bool.not_eq_true', decide_eq_false_iff_not, ite_not, ite_true, ite_false, if_true, if_false, Bool.false_eq_true, ↓reduceIte, reduceIte, Nat.reduceAdd, Nat.reduceSub, Int.reduceToNat, Nat.reduceLeDiff, not_false_eq_true, true_and, and_true, ne_eq, Int.reduceEq, Nat.zero_add, Bool.not_true, Bool.not_false, reduceCtorEq, nc0, nc1, nc2, nc3, nc4, nc5, fIx_ref put_same, fLen_ref put_same, fIx_dy0, fIx_dy1, fEq_dy, fNe_dy, fIx_bx0, fIx_bx1, fEq_opt, fNe_opt, fNe_optb, fEq_bx, isN_opt, lc3, fInt, fTuple, fNeS_s, fStr]
  refine sp_pick_i (n + 19) d1 (by decide) (by decide) fun way m2 w0 w1 o2 d2 => ?_
  try simp only [seq3, ifS3, b3, op3, un3, v3, c3, fIx_tup, fIx_lst, at3_0, at3_1, at3_2, at3_3, at3_4, at3_5, at3_6, start3, fI0_i, fI_i, fLt, fLe, fGt, fGe, fEqI, fNeI, fMin, fMax, asg3, name3, sub3, ret3, retN3, nx3, drop3, par3, aug3, and3, or3, not3, andV3, orV3, notV3, if3, nil3, cons3, tup3, lst3, lstM3, gtup3, gcons3, gnil3, gunl3, bits3, neg3, chain3, fIsi, isiD, fLen_lst, fLen_tup, fAbs, call3, isN3, notN3, dIsN_non, dIsN_int, dIsN_bl, dIsN_str, dIsN_tup, dIsN_lst, slc3, part3, noPart3, ilst3, itup3, irng1, irng2, for3, fCat, fEq_int, fNe_int, fEq_bl, fNe_bl, fEq_pair, fNe_pair, List.map, List.replicate, List.length_cons, List.length_nil, List.set_cons_zero, List.set_cons_succ, List.getElem?_cons_zero, List.getElem?_cons_succ, List.cons_append, List.nil_append, at_0, at_1, at_2, at_3, at_4, at_5, at_6, ix_0, ix_1, ix_2, put_same, put_put, decide_eq_true_eq, Bool.not_eq_true', decide_eq_false_iff_not, ite_not, ite_true, ite_false, if_true, if_false, Bool.false_eq_true, ↓reduceIte, reduceIte, Nat.reduceAdd, Nat.reduceSub, Int.reduceToNat, Nat.reduceLeDiff, not_false_eq_true, true_and, and_true, ne_eq, Int.reduceEq, Nat.zero_add, Bool.not_true, Bool.not_false, reduceCtorEq, nc0, nc1, nc2, nc3, nc4, nc5, fIx_ref put_same, fLen_ref put_same, fIx_dy0, fIx_dy1, fEq_dy, fNe_dy, fIx_bx0, fIx_bx1, fEq_opt, fNe_opt, fNe_optb, fEq_bx, isN_opt, lc3, fInt, fTuple, fNeS_s, fStr]
  have sp7 : Sz p 700 := sp.le (by decide)
  have smp : Sm p := sp.le (by decide)
  refine ite2 (fun h => ?_) (fun h => ?_)
  · exact q (p, p) m2 ⟨⟨fp, fp, dless_irr p⟩, sp7, sp7⟩ (o1.trans o2) (d2.le (by omega))
  refine ⟨a, n + 9, rfl, d2, fun r m3 fr sr o3 d3 => ?_⟩
  try simp only [seq3, ifS3, b3, op3, un3, v3, c3, fIx_tup, fIx_lst, at3_0, at3_1, at3_2, at3_3, at3_4, at3_5, at3_6, start3, fI0_i, fI_i, fLt, fLe, fGt, fGe, fEqI, fNeI, fMin, fMax, asg3, name3, sub3, ret3, retN3, nx3, drop3, par3, aug3, and3, or3, not3, andV3, orV3, notV3, if3, nil3, cons3, tup3, lst3, lstM3, gtup3, gcons3, gnil3, gunl3, bits3, neg3, chain3, fIsi, isiD, fLen_lst, fLen_tup, fAbs, call3, isN3, notN3, dIsN_non, dIsN_int, dIsN_bl, dIsN_str, dIsN_tup, dIsN_lst, slc3, part3, noPart3, ilst3, itup3, irng1, irng2, for3, fCat, fEq_int, fNe_int, fEq_bl, fNe_bl, fEq_pair, fNe_pair, List.map, List.replicate, List.length_cons, List.length_nil, List.set_cons_zero, List.set_cons_succ, List.getElem?_cons_zero, List.getElem?_cons_succ, List.cons_append, List.nil_append, at_0, at_1, at_2, at_3, at_4, at_5, at_6, ix_0, ix_1, ix_2, put_same, put_put, decide_eq_true_eq, Bool.not_eq_true', decide_eq_false_iff_not, ite_not, ite_true, ite_false, if_true, if_false, Bool.false_eq_true, ↓reduceIte, reduceIte, Nat.reduceAdd, Nat.reduceSub, Int.reduceToNat, Nat.reduceLeDiff, not_false_eq_true, true_and, and_true, ne_eq, Int.reduceEq, Nat.zero_add, Bool.not_true, Bool.not_false, reduceCtorEq, nc0, nc1, nc2, nc3, nc4, nc5, fIx_ref put_same, fLen_ref put_same, fIx_dy0, fIx_dy1, fEq_dy, fNe_dy, fIx_bx0, fIx_bx1, fEq_opt, fNe_opt, fNe_optb, fEq_bx, isN_opt, lc3, fInt, fTuple, fNeS_s, fStr]
  have fin : ∀ (r : Int × Nat) (m4 : Mem), Frm r → Sz r 700 → Off a m m4 → DeckAt m4 a n → sp_lawless [dyD r, dyD p] m4 fun x m5 => match x with
      | D.bl c => if c = true then Q (D.tup [dyD r, dyD p]) m5 else Q (D.tup [dyD p, dyD r]) m5
      | x => False := by
    intro r m4 fr sr o4 d4
    refine ⟨_, _, rfl, sr.le (by decide), smp, ?_⟩
    refine iteB (fun h => ?_) (fun h => ?_)
    · exact q (r, p) m4 ⟨⟨fr, fp, dless_asym h⟩, sr, sp7⟩ o4 d4
    · exact q (p, r) m4 ⟨⟨fp, fr, h⟩, sp7, sr⟩ o4 d4
  refine ite2 (fun h => ?_) (fun h => ?_)
  · refine ⟨c_pow (by decide) (by decide) (by decide), ?_⟩
    refine sp_pick_i (n + 8) d3 (by decide) (by decide) fun i m4 i0 i1 o4 d4 => ?_
    try simp only [seq3, ifS3, b3, op3, un3, v3, c3, fIx_tup, fIx_lst, at3_0, at3_1, at3_2, at3_3, at3_4, at3_5, at3_6, start3, fI0_i, fI_i, fLt, fLe, fGt, fGe, fEqI, fNeI, fMin, fMax, asg3, name3, sub3, ret3, retN3, nx3, drop3, par3, aug3, and3, or3, not3, andV3, orV3, notV3, if3, nil3, cons3, tup3, lst3, lstM3, gtup3, gcons3, gnil3, gunl3, bits3, neg3, chain3, fIsi, isiD, fLen_lst, fLen_tup, fAbs, call3, isN3, notN3, dIsN_non, dIsN_int, dIsN_bl, dIsN_str, dIsN_tup, dIsN_lst, slc3, part3, noPart3, ilst3, itup3, irng1, irng2, for3, fCat, fEq_int, fNe_int, fEq_bl, fNe_bl, fEq_pair, fNe_pair, List.map, List.replicate, List.length_cons, List.length_nil, List.set_cons_zero, List.set_cons_succ, List.getElem?_cons_zero, List.getElem?_cons_succ, List.cons_append, List.nil_append, at_0, at_1, at_2, at_3, at_4, at_5, at_6, ix_0, ix_1, ix_2, put_same, put_put, decide_eq_true_eq, Bool.not_eq_true', decide_eq_false_iff_not, ite_not, ite_true, ite_false, if_true, if_false, Bool.false_eq_true, ↓reduceIte, reduceIte, Nat.reduceAdd, Nat.reduceSub, Int.reduceToNat, Nat.reduceLeDiff, not_false_eq_true, true_and, and_true, ne_eq, Int.reduceEq, Nat.zero_add, Bool.not_true, Bool.not_false, reduceCtorEq, nc0, nc1, nc2, nc3, nc4, nc5, fIx_ref put_same, fLen_ref put_same, fIx_dy0, fIx_dy1, fEq_dy, fNe_dy, fIx_bx0, fIx_bx1, fEq_opt, fNe_opt, fNe_optb, fEq_bx, isN_opt, lc3, fInt, fTuple, fNeS_s, fStr]
    refine at3_all i0 (by simpa using i1) fun d hd => ?_
    obtain ⟨x, rfl, x0, x1⟩ : ∃ x : Int, d = .int x ∧ 0 ≤ x ∧ x ≤ 1024 := by
      simp only [List.mem_cons, List.not_mem_nil, or_false] at hd
      rcases hd with rfl | rfl | rfl <;> exact ⟨_, rfl, by decide, by decide⟩
    try simp only [seq3, ifS3, b3, op3, un3, v3, c3, fIx_tup, fIx_lst, at3_0, at3_1, at3_2, at3_3, at3_4, at3_5, at3_6, start3, fI0_i, fI_i, fLt, fLe, fGt, fGe, fEqI, fNeI, fMin, fMax, asg3, name3, sub3, ret3, retN3, nx3, drop3, par3, aug3, and3, or3, not3, andV3, orV3, notV3, if3, nil3, cons3, tup3, lst3, lstM3, gtup3, gcons3, gnil3, gunl3, bits3, neg3, chain3, fIsi, isiD, fLen_lst, fLen_tup, fAbs, call3, isN3, notN3, dIsN_non, dIsN_int, dIsN_bl, dIsN_str, dIsN_tup, dIsN_lst, slc3, part3, noPart3, ilst3, itup3, irng1, irng2, for3, fCat, fEq_int, fNe_int, fEq_bl, fNe_bl, fEq_pair, fNe_pair, List.map, List.replicate, List.length_cons, List.length_nil, List.set_cons_zero, List.set_cons_succ, List.getElem?_cons_zero, List.getElem?_cons_succ, List.cons_append, List.nil_append, at_0, at_1, at_2, at_3, at_4, at_5, at_6, ix_0, ix_1, ix_2, put_same, put_put, decide_eq_true_eq, Bool.not_eq_true', decide_eq_false_iff_not, ite_not, ite_true, ite_false, if_true, if_false, Bool.false_eq_true, ↓reduceIte, reduceIte, Nat.reduceAdd, Nat.reduceSub, Int.reduceToNat, Nat.reduceLeDiff, not_false_eq_true, true_and, and_true, ne_eq, Int.reduceEq, Nat.zero_add, Bool.not_true, Bool.not_false, reduceCtorEq, nc0, nc1, nc2, nc3, nc4, nc5, fIx_ref put_same, fLen_ref put_same, fIx_dy0, fIx_dy1, fEq_dy, fNe_dy, fIx_bx0, fIx_bx1, fEq_opt, fNe_opt, fNe_optb, fEq_bx, isN_opt, lc3, fInt, fTuple, fNeS_s, fStr]
    refine ⟨c_pow (by decide) (by decide) (by decide), mul_c (a := 600) (b := 5) sp.1 (by decide) (by decide), _, _, rfl, by omega, ?_⟩
    try simp only [seq3, ifS3, b3, op3, un3, v3, c3, fIx_tup, fIx_lst, at3_0, at3_1, at3_2, at3_3, at3_4, at3_5, at3_6, start3, fI0_i, fI_i, fLt, fLe, fGt, fGe, fEqI, fNeI, fMin, fMax, asg3, name3, sub3, ret3, retN3, nx3, drop3, par3, aug3, and3, or3, not3, andV3, orV3, notV3, if3, nil3, cons3, tup3, lst3, lstM3, gtup3, gcons3, gnil3, gunl3, bits3, neg3, chain3, fIsi, isiD, fLen_lst, fLen_tup, fAbs, call3, isN3, notN3, dIsN_non, dIsN_int, dIsN_bl, dIsN_str, dIsN_tup, dIsN_lst, slc3, part3, noPart3, ilst3, itup3, irng1, irng2, for3, fCat, fEq_int, fNe_int, fEq_bl, fNe_bl, fEq_pair, fNe_pair, List.map, List.replicate, List.length_cons, List.length_nil, List.set_cons_zero, List.set_cons_succ, List.getElem?_cons_zero, List.getElem?_cons_succ, List.cons_append, List.nil_append, at_0, at_1, at_2, at_3, at_4, at_5, at_6, ix_0, ix_1, ix_2, put_same, put_put, decide_eq_true_eq, Bool.not_eq_true', decide_eq_false_iff_not, ite_not, ite_true, ite_false, if_true, if_false, Bool.false_eq_true, ↓reduceIte, reduceIte, Nat.reduceAdd, Nat.reduceSub, Int.reduceToNat, Nat.reduceLeDiff, not_false_eq_true, true_and, and_true, ne_eq, Int.reduceEq, Nat.zero_add, Bool.not_true, Bool.not_false, reduceCtorEq, nc0, nc1, nc2, nc3, nc4, nc5, fIx_ref put_same, fLen_ref put_same, fIx_dy0, fIx_dy1, fEq_dy, fNe_dy, fIx_bx0, fIx_bx1, fEq_opt, fNe_opt, fNe_optb, fEq_bx, isN_opt, lc3, fInt, fTuple, fNeS_s, fStr]
    rw [show ((p.2 : Int) + 4).toNat = p.2 + 4 by omega]
    refine fin _ m4 (nrm_frm _ _) (sz_nrm ?_ (by have := sp.2; omega)) (((o1.trans o2).trans o3).trans o4) (d4.le (by omega))
    have h1 : (p.1 * 2 ^ 4).natAbs < 2 ^ 604 := abs_shl_lt sp.1
    have h2 : x.natAbs < 2 ^ 604 := lt_pow (a := 11) (by omega) (by decide)
    exact lt_pow (add_abs h1 h2) (by decide)
  · exact fin r m3 fr (sr.le (by decide)) ((o1.trans o2).trans o3) (d3.le (by omega))
/-! ### drawn things of any kind -/
def need : Nat → Nat
  | 0 => 10
  | e + 1 => 10 + 3 * need e
def cap : Nat → Nat
  | 0 => 1
  | e + 1 => 1 + 3 * cap e
def sp_thingN : Nat → Sp3
  | 0 => fun _ _ _ => False
  | e + 1 => fun ds m P => ∃ (a : Addr) (n : Nat), ds = [.ref a, .int (e : Nat)] ∧ DeckAt m a (n + need e) ∧ ∀ d m', Pl 140 d → sz d ≤ cap e → dp d ≤ e + 1 → Off a m m' → DeckAt m' a n → P d m'
theorem never3 {P : Program} {w : World} {K : PySem.W.Frag} {mg : Str → Option Value} {base : Heap} {k : Nat} {f : Addr} {fd : FuncData} {ps : List Str} : Fn3 P w K mg base k f fd ps (fun _ _ _ => False) :=
  ⟨fun _ _ _ _ ⟨_, _, _, _, _, h, _⟩ => (h : False).elim, fun _ _ _ _ _ _ _ _ _ _ _ _ _ ⟨_, _, _, _, _, h, _⟩ => (h : False).elim⟩
theorem szs_app : ∀ (xs ys : List D), szs (xs ++ ys) = szs xs + szs ys
  | [], ys => by show szs ys = szs [] + szs ys; rw [szs, Nat.zero_add]
  | x :: xs, ys => by show szs (x :: (xs ++ ys)) = _; rw [szs, szs, szs_app xs ys, Nat.add_assoc]
theorem dps_app : ∀ (xs ys : List D), dps (xs ++ ys) = max (dps xs) (dps ys)
  | [], ys => by show dps ys = max (dps []) (dps ys); rw [dps]; omega
  | x :: xs, ys => by show dps (x :: (xs ++ ys)) = _; rw [dps, dps, dps_app xs ys]; omega
theorem ok_thingS (T : Tx K mg fa fd) (e : Nat) (ih : Fn3 P w K mg base (e + 1) (fa 19) (fd 19) ["deck", "deep"] (sp_thingN e)) : Fn3 P w K mg base (e + 1 + 1) (fa 19) (fd 19) ["deck", "deep"] (sp_thingN (e + 1)) := by
  refine fn3 T.d_law_thing.F sc_law_thing (fun ds m Q h => by obtain ⟨_, _, rfl, _⟩ := h; rfl) fun cdv A outer s H E ds m Q hr h => ?_
  obtain ⟨a, n, rfl, hd, q⟩ := h
  refine ⟨_, (ss_cons (s_set (i := 2) sc_law_thing.nd (e_call T.d_law_pick (ok_law_pick T) (hr.mono (by omega)) rfl (a_cons (e_v 0) (a_cons e_int a_nil))))
      (ss_cons (s_set (i := 3) sc_law_thing.nd (e_ix (e_lst (a_cons (e_sub (e_call T.d_law_pick (ok_law_pick T) (hr.mono (by omega)) rfl (a_cons (e_v 0) (a_cons e_int a_nil))) e_int) (a_cons (e_sub (e_call T.d_law_pick (ok_law_pick T) (hr.mono (by omega)) rfl (a_cons (e_v 0) (a_cons (e_pow e_int e_int) a_nil))) (e_pow e_int e_int)) (a_cons (e_sub e_int (e_pow e_int e_int)) a_nil)))) (e_call T.d_law_pick (ok_law_pick T) (hr.mono (by omega)) rfl (a_cons (e_v 0) (a_cons e_int a_nil)))))
      (ss_cons (s_if (t_lt (e_v 2) e_int) (ss_one (s_ret (e_v 3))) ss_nil)
      (ss_cons (s_if (t_lt (e_v 2) e_int) (ss_one (s_ret (e_ix (e_lst (a_cons e_bl (a_cons e_bl (a_cons e_non a_nil)))) (e_sub (e_v 2) e_int)))) ss_nil)
      (ss_cons (s_if (t_lt (e_v 2) e_int) (ss_one (s_ret (e_ix (e_lst (a_cons e_str (a_cons e_str (a_cons e_str (a_cons e_str (a_cons e_str (a_cons e_str a_nil))))))) (e_call T.d_law_pick (ok_law_pick T) (hr.mono (by omega)) rfl (a_cons (e_v 0) (a_cons e_int a_nil)))))) ss_nil)
      (ss_cons (s_lc (i := 5) (j := 4) rfl sc_law_thing.nd (i_range1 rfl T.b_range (a_cons (e_mul (e_call T.d_law_pick (ok_law_pick T) (hr.mono (by omega)) rfl (a_cons (e_v 0) (a_cons e_int a_nil))) (e_intO rfl T.b_int (e_gt (e_v 1) e_int))) a_nil)) (blkOk_by (own := [("k", 5)]) (N := ["deck", "deep", "kind", "far", "some", "k"]) (sc := defScope s_law_thing) (by decide +kernel))  (fun _ _ _ _ _ => (e_call T.d_law_thing ih (hr.mono (by omega)) rfl (a_cons (e_v 0) (a_cons (e_sub (e_v 1) e_int) a_nil)))) (sw_true rfl rfl rfl (by decide +kernel)))
      (ss_one (s_ret (e_if (t_eqI (e_v 2) e_int) (e_v 4) (e_tuple rfl T.b_tuple (e_v 4))))))))))), ?_⟩
  have hn : ∃ j, n + need e = n + j + 10 ∧ (j = 0 ∨ ∃ e', e = e' + 1 ∧ j = 3 * need e') := by
    cases e with
    | zero => exact ⟨0, rfl, .inl rfl⟩
    | succ e' => exact ⟨3 * need e', by rw [need]; omega, .inr ⟨e', rfl, rfl⟩⟩
  obtain ⟨j, ej, hj⟩ := hn
  rw [ej] at hd
  have hcap : 1 ≤ cap e := by cases e <;> simp [cap]
  (try simp only [seq3_stop, ifS3, b3, op3, un3, v3, c3, fIx_tup, fIx_lst, at3_0, at3_1, at3_2, at3_3, at3_4, at3_5, at3_6, start3, fI0_i, fI_i, fLt, fLe, fGt, fGe, fEqI, fNeI, fMin, fMax, asg3, name3, sub3, ret3, retN3, nx3, drop3, par3, aug3, and3, or3, not3, andV3, orV3, notV3, if3, nil3, cons3, tup3, lst3, lstM3, gtup3, gcons3, gnil3, gunl3, bits3, neg3, chain3, fIsi, isiD, fLen_lst, fLen_tup, fAbs, call3, isN3, notN3, dIsN_non, dIsN_int, dIsN_bl, dIsN_str, dIsN_tup, dIsN_lst, slc3, part3, noPart3, ilst3, itup3, irng1, irng2, for3, fCat, fEq_int, fNe_int, fEq_bl, fNe_bl, fEq_pair, fNe_pair, List.map, List.replicate, List.length_cons, List.length_nil, List.set_cons_zero, List.set_cons_succ, List.getElem?_cons_zero, List.getElem?_cons_succ, List.cons_append, List.nil_append, at_0, at_1, at_2, at_3, at_4, at_5, at_6, ix_0, ix_1, ix_2, put_same, put_put, decide_eq_true_eq, Bool.not_eq_true', decide_eq_false_iff_not, ite_not, ite_true, ite_false, if_true, if_false, Bool.false_eq_true, ↓reduceIte, reduceIte, Nat.reduceAdd, Nat.reduceSub, Int.reduceToNat, Nat.reduceLeDiff, not_false_eq_true, true_and, and_true, ne_eq, Int.reduceEq, Nat.zero_add, Bool.not_true, Bool.not_false, reduceCtorEq, nc0, nc1, nc2, nc3, nc4, nc5, fIx_ref put_same, fLen_ref put_same, fIx_dy0, fIx_dy1, fEq_dy, fNe_dy, fIx_bx0, fIx_bx1, fEq_opt, fNe_opt, fNe_optb, fEq_bx, isN_opt, lc3, fInt, fTuple, fNeS_s, fStr]); (repeat (with_reducible refine later_i ?_; try simp only [seq3_stop, ifS3, b3, op3, un3, v3, c3, fIx_tup, fIx_lst, at3_0, at3_1, at3_2, at3_3, at3_4, at3_5, at3_6, start3, fI0_i, fI_i, fLt, fLe, fGt, fGe, fEqI, fNeI, fMin, fMax, asg3, name3, sub3, ret3, retN3, nx3, drop3, par3, aug3, and3, or3, not3, andV3, orV3, notV3, if3, nil3, cons3, tup3, lst3, lstM3, gtup3, gcons3, gnil3, gunl3, bits3, neg3, chain3, fIsi, isiD, fLen_lst, fLen_tup, fAbs, call3, isN3, notN3, dIsN_non, dIsN_int, dIsN_bl, dIsN_str, dIsN_tup, dIsN_lst, slc3, part3, noPart3, ilst3, itup3, irng1, irng2, for3, fCat, fEq_int, fNe_int, fEq_bl, fNe_bl, fEq_pair, fNe_pair, List.map, List.replicate, List.length_cons, List.length_nil, List.set_cons_zero, List.set_cons_succ, List.getElem?_cons_zero, List.getElem?_cons_succ, List.cons_append, List.nil_append, at_0, at_1, at_2, at_3, at_4, at_5, at_6, ix_0, ix_1, ix_2, put_same, put_put, decide_eq_true_eq, Bool.not_eq_true', decide_eq_false_iff_not, ite_not, ite_true, ite_false, if_true, if_false, Bool.false_eq_true, ↓reduceIte, reduceIte, Nat.reduceAdd, Nat.reduceSub, Int.reduceToNat, Nat.reduceLeDiff, not_false_eq_true, true_and, and_true, ne_eq, Int.reduceEq, Nat.zero_add, Bool.not_true, Bool.not_false, reduceCtorEq, nc0, nc1, nc2, nc3, nc4, nc5, fIx_ref put_same, fLen_ref put_same, fIx_dy0, fIx_dy1, fEq_dy, fNe_dy, fIx_bx0, fIx_bx1, fEq_opt, fNe_opt, fNe_optb, fEq_bx, isN_opt, lc3, fInt, fTuple, fNeS_s, fStr]))
  refine sp_pick_i (n + j + 9) hd (by decide) (by decide) fun kind m1 k0 k1 o1 d1 => ?_
  (try simp only [seq3_stop, ifS3, b3, op3, un3, v3, c3, fIx_tup, fIx_lst, at3_0, at3_1, at3_2, at3_3, at3_4, at3_5, at3_6, start3, fI0_i, fI_i, fLt, fLe, fGt, fGe, fEqI, fNeI, fMin, fMax, asg3, name3, sub3, ret3, retN3, nx3, drop3, par3, aug3, and3, or3, not3, andV3, orV3, notV3, if3, nil3, cons3, tup3, lst3, lstM3, gtup3, gcons3, gnil3, gunl3, bits3, neg3, chain3, fIsi, isiD, fLen_lst, fLen_tup, fAbs, call3, isN3, notN3, dIsN_non, dIsN_int, dIsN_bl, dIsN_str, dIsN_tup, dIsN_lst, slc3, part3, noPart3, ilst3, itup3, irng1, irng2, for3, fCat, fEq_int, fNe_int, fEq_bl, fNe_bl, fEq_pair, fNe_pair, List.map, List.replicate, List.length_cons, List.length_nil, List.set_cons_zero, List.set_cons_succ, List.getElem?_cons_zero, List.getElem?_cons_succ, List.cons_append, List.nil_append, at_0, at_1, at_2, at_3, at_4, at_5, at_6, ix_0, ix_1, ix_2, put_same, put_put, decide_eq_true_eq, Bool.not_eq_true', decide_eq_false_iff_not, ite_not, ite_true, ite_false, if_true, if_false, Bool.false_eq_true, ↓reduceIte, reduceIte, Nat.reduceAdd, Nat.reduceSub, Int.reduceToNat, Nat.reduceLeDiff, not_false_eq_true, true_and, and_true, ne_eq, Int.reduceEq, Nat.zero_add, Bool.not_true, Bool.not_false, reduceCtorEq, nc0, nc1, nc2, nc3, nc4, nc5, fIx_ref put_same, fLen_ref put_same, fIx_dy0, fIx_dy1, fEq_dy, fNe_dy, fIx_bx0, fIx_bx1, fEq_opt, fNe_opt, fNe_optb, fEq_bx, isN_opt, lc3, fInt, fTuple, fNeS_s, fStr]); (repeat (with_reducible refine later_i ?_; try simp only [seq3_stop, ifS3, b3, op3, un3, v3, c3, fIx_tup, fIx_lst, at3_0, at3_1, at3_2, at3_3, at3_4, at3_5, at3_6, start3, fI0_i, fI_i, fLt, fLe, fGt, fGe, fEqI, fNeI, fMin, fMax, asg3, name3, sub3, ret3, retN3, nx3, drop3, par3, aug3, and3, or3, not3, andV3, orV3, notV3, if3, nil3, cons3, tup3, lst3, lstM3, gtup3, gcons3, gnil3, gunl3, bits3, neg3, chain3, fIsi, isiD, fLen_lst, fLen_tup, fAbs, call3, isN3, notN3, dIsN_non, dIsN_int, dIsN_bl, dIsN_str, dIsN_tup, dIsN_lst, slc3, part3, noPart3, ilst3, itup3, irng1, irng2, for3, fCat, fEq_int, fNe_int, fEq_bl, fNe_bl, fEq_pair, fNe_pair, List.map, List.replicate, List.length_cons, List.length_nil, List.set_cons_zero, List.set_cons_succ, List.getElem?_cons_zero, List.getElem?_cons_succ, List.cons_append, List.nil_append, at_0, at_1, at_2, at_3, at_4, at_5, at_6, ix_0, ix_1, ix_2, put_same, put_put, decide_eq_true_eq, Bool.not_eq_true', decide_eq_false_iff_not, ite_not, ite_true, ite_false, if_true, if_false, Bool.false_eq_true, ↓reduceIte, reduceIte, Nat.reduceAdd, Nat.reduceSub, Int.reduceToNat, Nat.reduceLeDiff, not_false_eq_true, true_and, and_true, ne_eq, Int.reduceEq, Nat.zero_add, Bool.not_true, Bool.not_false, reduceCtorEq, nc0, nc1, nc2, nc3, nc4, nc5, fIx_ref put_same, fLen_ref put_same, fIx_dy0, fIx_dy1, fEq_dy, fNe_dy, fIx_bx0, fIx_bx1, fEq_opt, fNe_opt, fNe_optb, fEq_bx, isN_opt, lc3, fInt, fTuple, fNeS_s, fStr]))
  refine sp_pick_i (n + j + 8) d1 (by decide) (by decide) fun x m2 x0 x1 o2 d2 => ?_
  (try simp only [seq3_stop, ifS3, b3, op3, un3, v3, c3, fIx_tup, fIx_lst, at3_0, at3_1, at3_2, at3_3, at3_4, at3_5, at3_6, start3, fI0_i, fI_i, fLt, fLe, fGt, fGe, fEqI, fNeI, fMin, fMax, asg3, name3, sub3, ret3, retN3, nx3, drop3, par3, aug3, and3, or3, not3, andV3, orV3, notV3, if3, nil3, cons3, tup3, lst3, lstM3, gtup3, gcons3, gnil3, gunl3, bits3, neg3, chain3, fIsi, isiD, fLen_lst, fLen_tup, fAbs, call3, isN3, notN3, dIsN_non, dIsN_int, dIsN_bl, dIsN_str, dIsN_tup, dIsN_lst, slc3, part3, noPart3, ilst3, itup3, irng1, irng2, for3, fCat, fEq_int, fNe_int, fEq_bl, fNe_bl, fEq_pair, fNe_pair, List.map, List.replicate, List.length_cons, List.length_nil, List.set_cons_zero, List.set_cons_succ, List.getElem?_cons_zero, List.getElem?_cons_succ, List.cons_append, List.nil_append, at_0, at_1, at_2, at_3, at_4, at_5, at_6, ix_0, ix_1, ix_2, put_same, put_put, decide_eq_true_eq, Bool.not_eq_true', decide_eq_false_iff_not, ite_not, ite_true, ite_false, if_true, if_false, Bool.false_eq_true, ↓reduceIte, reduceIte, Nat.reduceAdd, Nat.reduceSub, Int.reduceToNat, Nat.reduceLeDiff, not_false_eq_true, true_and, and_true, ne_eq, Int.reduceEq, Nat.zero_add, Bool.not_true, Bool.not_false, reduceCtorEq, nc0, nc1, nc2, nc3, nc4, nc5, fIx_ref put_same, fLen_ref put_same, fIx_dy0, fIx_dy1, fEq_dy, fNe_dy, fIx_bx0, fIx_bx1, fEq_opt, fNe_opt, fNe_optb, fEq_bx, isN_opt, lc3, fInt, fTuple, fNeS_s, fStr]); (repeat (with_reducible refine later_i ?_; try simp only [seq3_stop, ifS3, b3, op3, un3, v3, c3, fIx_tup, fIx_lst, at3_0, at3_1, at3_2, at3_3, at3_4, at3_5, at3_6, start3, fI0_i, fI_i, fLt, fLe, fGt, fGe, fEqI, fNeI, fMin, fMax, asg3, name3, sub3, ret3, retN3, nx3, drop3, par3, aug3, and3, or3, not3, andV3, orV3, notV3, if3, nil3, cons3, tup3, lst3, lstM3, gtup3, gcons3, gnil3, gunl3, bits3, neg3, chain3, fIsi, isiD, fLen_lst, fLen_tup, fAbs, call3, isN3, notN3, dIsN_non, dIsN_int, dIsN_bl, dIsN_str, dIsN_tup, dIsN_lst, slc3, part3, noPart3, ilst3, itup3, irng1, irng2, for3, fCat, fEq_int, fNe_int, fEq_bl, fNe_bl, fEq_pair, fNe_pair, List.map, List.replicate, List.length_cons, List.length_nil, List.set_cons_zero, List.set_cons_succ, List.getElem?_cons_zero, List.getElem?_cons_succ, List.cons_append, List.nil_append, at_0, at_1, at_2, at_3, at_4, at_5, at_6, ix_0, ix_1, ix_2, put_same, put_put, decide_eq_true_eq, Bool.not_eq_true', decide_eq_false_iff_not, ite_not, ite_true, ite_false, if_true, if_false, Bool.false_eq_true, ↓reduceIte, reduceIte, Nat.reduceAdd, Nat.reduceSub, Int.reduceToNat, Nat.reduceLeDiff, not_false_eq_true, true_and, and_true, ne_eq, Int.reduceEq, Nat.zero_add, Bool.not_true, Bool.not_false, reduceCtorEq, nc0, nc1, nc2, nc3, nc4, nc5, fIx_ref put_same, fLen_ref put_same, fIx_dy0, fIx_dy1, fEq_dy, fNe_dy, fIx_bx0, fIx_bx1, fEq_opt, fNe_opt, fNe_optb, fEq_bx, isN_opt, lc3, fInt, fTuple, fNeS_s, fStr]))
  refine ⟨c_pow (by decide) (by decide) (by decide), ?_⟩
  refine sp_pick_i (n + j + 7) d2 (by decide) (by decide) fun y m3 y0 y1 o3 d3 => ?_
  (try simp only [seq3_stop, ifS3, b3, op3, un3, v3, c3, fIx_tup, fIx_lst, at3_0, at3_1, at3_2, at3_3, at3_4, at3_5, at3_6, start3, fI0_i, fI_i, fLt, fLe, fGt, fGe, fEqI, fNeI, fMin, fMax, asg3, name3, sub3, ret3, retN3, nx3, drop3, par3, aug3, and3, or3, not3, andV3, orV3, notV3, if3, nil3, cons3, tup3, lst3, lstM3, gtup3, gcons3, gnil3, gunl3, bits3, neg3, chain3, fIsi, isiD, fLen_lst, fLen_tup, fAbs, call3, isN3, notN3, dIsN_non, dIsN_int, dIsN_bl, dIsN_str, dIsN_tup, dIsN_lst, slc3, part3, noPart3, ilst3, itup3, irng1, irng2, for3, fCat, fEq_int, fNe_int, fEq_bl, fNe_bl, fEq_pair, fNe_pair, List.map, List.replicate, List.length_cons, List.length_nil, List.set_cons_zero, List.set_cons_succ, List.getElem?_cons_zero, List.getElem?_cons_succ, List.cons_append, List.nil_append, at_0, at_1, at_2, at_3, at_4, at_5, at_6, ix_0, ix_1, ix_2, put_same, put_put, decide_eq_true_eq, Bool.not_eq_true', decide_eq_false_iff_not, ite_not, ite_true, ite_false, if_true, if_false, Bool.false_eq_true, ↓reduceIte, reduceIte, Nat.reduceAdd, Nat.reduceSub, Int.reduceToNat, Nat.reduceLeDiff, not_false_eq_true, true_and, and_true, ne_eq, Int.reduceEq, Nat.zero_add, Bool.not_true, Bool.not_false, reduceCtorEq, nc0, nc1, nc2, nc3, nc4, nc5, fIx_ref put_same, fLen_ref put_same, fIx_dy0, fIx_dy1, fEq_dy, fNe_dy, fIx_bx0, fIx_bx1, fEq_opt, fNe_opt, fNe_optb, fEq_bx, isN_opt, lc3, fInt, fTuple, fNeS_s, fStr]); (repeat (with_reducible refine later_i ?_; try simp only [seq3_stop, ifS3, b3, op3, un3, v3, c3, fIx_tup, fIx_lst, at3_0, at3_1, at3_2, at3_3, at3_4, at3_5, at3_6, start3, fI0_i, fI_i, fLt, fLe, fGt, fGe, fEqI, fNeI, fMin, fMax, asg3, name3, sub3, ret3, retN3, nx3, drop3, par3, aug3, and3, or3, not3, andV3, orV3, notV3, if3, nil3, cons3, tup3, lst3, lstM3, gtup3, gcons3, gnil3, gunl3, bits3, neg3, chain3, fIsi, isiD, fLen_lst, fLen_tup, fAbs, call3, isN3, notN3, dIsN_non, dIsN_int, dIsN_bl, dIsN_str, dIsN_tup, dIsN_lst, slc3, part3, noPart3, ilst3, itup3, irng1, irng2, for3, fCat, fEq_int, fNe_int, fEq_bl, fNe_bl, fEq_pair, fNe_pair, List.map, List.replicate, List.length_cons, List.length_nil, List.set_cons_zero, List.set_cons_succ, List.getElem?_cons_zero, List.getElem?_cons_succ, List.cons_append, List.nil_append, at_0, at_1, at_2, at_3, at_4, at_5, at_6, ix_0, ix_1, ix_2, put_same, put_put, decide_eq_true_eq, Bool.not_eq_true', decide_eq_false_iff_not, ite_not, ite_true, ite_false, if_true, if_false, Bool.false_eq_true, ↓reduceIte, reduceIte, Nat.reduceAdd, Nat.reduceSub, Int.reduceToNat, Nat.reduceLeDiff, not_false_eq_true, true_and, and_true, ne_eq, Int.reduceEq, Nat.zero_add, Bool.not_true, Bool.not_false, reduceCtorEq, nc0, nc1, nc2, nc3, nc4, nc5, fIx_ref put_same, fLen_ref put_same, fIx_dy0, fIx_dy1, fEq_dy, fNe_dy, fIx_bx0, fIx_bx1, fEq_opt, fNe_opt, fNe_optb, fEq_bx, isN_opt, lc3, fInt, fTuple, fNeS_s, fStr]))
  refine ⟨c_pow (by decide) (by decide) (by decide), c_pow (by decide) (by decide) (by decide), ?_⟩
  refine sp_pick_i (n + j + 6) d3 (by decide) (by decide) fun z m4 z0 z1 o4 d4 => ?_
  (try simp only [seq3_stop, ifS3, b3, op3, un3, v3, c3, fIx_tup, fIx_lst, at3_0, at3_1, at3_2, at3_3, at3_4, at3_5, at3_6, start3, fI0_i, fI_i, fLt, fLe, fGt, fGe, fEqI, fNeI, fMin, fMax, asg3, name3, sub3, ret3, retN3, nx3, drop3, par3, aug3, and3, or3, not3, andV3, orV3, notV3, if3, nil3, cons3, tup3, lst3, lstM3, gtup3, gcons3, gnil3, gunl3, bits3, neg3, chain3, fIsi, isiD, fLen_lst, fLen_tup, fAbs, call3, isN3, notN3, dIsN_non, dIsN_int, dIsN_bl, dIsN_str, dIsN_tup, dIsN_lst, slc3, part3, noPart3, ilst3, itup3, irng1, irng2, for3, fCat, fEq_int, fNe_int, fEq_bl, fNe_bl, fEq_pair, fNe_pair, List.map, List.replicate, List.length_cons, List.length_nil, List.set_cons_zero, List.set_cons_succ, List.getElem?_cons_zero, List.getElem?_cons_succ, List.cons_append, List.nil_append, at_0, at_1, at_2, at_3, at_4, at_5, at_6, ix_0, ix_1, ix_2, put_same, put_put, decide_eq_true_eq, Bool.not_eq_true', decide_eq_false_iff_not, ite_not, ite_true, ite_false, if_true, if_false, Bool.false_eq_true, ↓reduceIte, reduceIte, Nat.reduceAdd, Nat.reduceSub, Int.reduceToNat, Nat.reduceLeDiff, not_false_eq_true, true_and, and_true, ne_eq, Int.reduceEq, Nat.zero_add, Bool.not_true, Bool.not_false, reduceCtorEq, nc0, nc1, nc2, nc3, nc4, nc5, fIx_ref put_same, fLen_ref put_same, fIx_dy0, fIx_dy1, fEq_dy, fNe_dy, fIx_bx0, fIx_bx1, fEq_opt, fNe_opt, fNe_optb, fEq_bx, isN_opt, lc3, fInt, fTuple, fNeS_s, fStr]); (repeat (with_reducible refine later_i ?_; try simp only [seq3_stop, ifS3, b3, op3, un3, v3, c3, fIx_tup, fIx_lst, at3_0, at3_1, at3_2, at3_3, at3_4, at3_5, at3_6, start3, fI0_i, fI_i, fLt, fLe, fGt, fGe, fEqI, fNeI, fMin, fMax, asg3, name3, sub3, ret3, retN3, nx3, drop3, par3, aug3, and3, or3, not3, andV3, orV3, notV3, if3, nil3, cons3, tup3, lst3, lstM3, gtup3, gcons3, gnil3, gunl3, bits3, neg3, chain3, fIsi, isiD, fLen_lst, fLen_tup, fAbs, call3, isN3, notN3, dIsN_non, dIsN_int, dIsN_bl, dIsN_str, dIsN_tup, dIsN_lst, slc3, part3, noPart3, ilst3, itup3, irng1, irng2, for3, fCat, fEq_int, fNe_int, fEq_bl, fNe_bl, fEq_pair, fNe_pair, List.map, List.replicate, List.length_cons, List.length_nil, List.set_cons_zero, List.set_cons_succ, List.getElem?_cons_zero, List.getElem?_cons_succ, List.cons_append, List.nil_append, at_0, at_1, at_2, at_3, at_4, at_5, at_6, ix_0, ix_1, ix_2, put_same, put_put, decide_eq_true_eq, Bool.not_eq_true', decide_eq_false_iff_not, ite_not, ite_true, ite_false, if_true, if_false, Bool.false_eq_true, ↓reduceIte, reduceIte, Nat.reduceAdd, Nat.reduceSub, Int.reduceToNat, Nat.reduceLeDiff, not_false_eq_true, true_and, and_true, ne_eq, Int.reduceEq, Nat.zero_add, Bool.not_true, Bool.not_false, reduceCtorEq, nc0, nc1, nc2, nc3, nc4, nc5, fIx_ref put_same, fLen_ref put_same, fIx_dy0, fIx_dy1, fEq_dy, fNe_dy, fIx_bx0, fIx_bx1, fEq_opt, fNe_opt, fNe_optb, fEq_bx, isN_opt, lc3, fInt, fTuple, fNeS_s, fStr]))
  have o := ((o1.trans o2).trans o3).trans o4
  refine at3_all z0 (by simpa using z1) fun far hfar => ?_
  have pfar : Pl 140 far ∧ sz far = 1 ∧ dp far = 0 := by
    simp only [List.mem_cons, List.not_mem_nil, or_false] at hfar
    rcases hfar with rfl | rfl | rfl
    · exact ⟨by show Int.natAbs _ < _; omega, rfl, rfl⟩
    · exact ⟨by show Int.natAbs _ < _; omega, rfl, rfl⟩
    · exact ⟨by show Int.natAbs _ < _; decide, rfl, rfl⟩
  (try simp only [seq3_stop, ifS3, b3, op3, un3, v3, c3, fIx_tup, fIx_lst, at3_0, at3_1, at3_2, at3_3, at3_4, at3_5, at3_6, start3, fI0_i, fI_i, fLt, fLe, fGt, fGe, fEqI, fNeI, fMin, fMax, asg3, name3, sub3, ret3, retN3, nx3, drop3, par3, aug3, and3, or3, not3, andV3, orV3, notV3, if3, nil3, cons3, tup3, lst3, lstM3, gtup3, gcons3, gnil3, gunl3, bits3, neg3, chain3, fIsi, isiD, fLen_lst, fLen_tup, fAbs, call3, isN3, notN3, dIsN_non, dIsN_int, dIsN_bl, dIsN_str, dIsN_tup, dIsN_lst, slc3, part3, noPart3, ilst3, itup3, irng1, irng2, for3, fCat, fEq_int, fNe_int, fEq_bl, fNe_bl, fEq_pair, fNe_pair, List.map, List.replicate, List.length_cons, List.length_nil, List.set_cons_zero, List.set_cons_succ, List.getElem?_cons_zero, List.getElem?_cons_succ, List.cons_append, List.nil_append, at_0, at_1, at_2, at_3, at_4, at_5, at_6, ix_0, ix_1, ix_2, put_same, put_put, decide_eq_true_eq, Bool.not_eq_true', decide_eq_false_iff_not, ite_not, ite_true, ite_false, if_true, if_false, Bool.false_eq_true, ↓reduceIte, reduceIte, Nat.reduceAdd, Nat.reduceSub, Int.reduceToNat, Nat.reduceLeDiff, not_false_eq_true, true_and, and_true, ne_eq, Int.reduceEq, Nat.zero_add, Bool.not_true, Bool.not_false, reduceCtorEq, nc0, nc1, nc2, nc3, nc4, nc5, fIx_ref put_same, fLen_ref put_same, fIx_dy0, fIx_dy1, fEq_dy, fNe_dy, fIx_bx0, fIx_bx1, fEq_opt, fNe_opt, fNe_optb, fEq_bx, isN_opt, lc3, fInt, fTuple, fNeS_s, fStr]); (repeat (with_reducible refine later_i ?_; try simp only [seq3_stop, ifS3, b3, op3, un3, v3, c3, fIx_tup, fIx_lst, at3_0, at3_1, at3_2, at3_3, at3_4, at3_5, at3_6, start3, fI0_i, fI_i, fLt, fLe, fGt, fGe, fEqI, fNeI, fMin, fMax, asg3, name3, sub3, ret3, retN3, nx3, drop3, par3, aug3, and3, or3, not3, andV3, orV3, notV3, if3, nil3, cons3, tup3, lst3, lstM3, gtup3, gcons3, gnil3, gunl3, bits3, neg3, chain3, fIsi, isiD, fLen_lst, fLen_tup, fAbs, call3, isN3, notN3, dIsN_non, dIsN_int, dIsN_bl, dIsN_str, dIsN_tup, dIsN_lst, slc3, part3, noPart3, ilst3, itup3, irng1, irng2, for3, fCat, fEq_int, fNe_int, fEq_bl, fNe_bl, fEq_pair, fNe_pair, List.map, List.replicate, List.length_cons, List.length_nil, List.set_cons_zero, List.set_cons_succ, List.getElem?_cons_zero, List.getElem?_cons_succ, List.cons_append, List.nil_append, at_0, at_1, at_2, at_3, at_4, at_5, at_6, ix_0, ix_1, ix_2, put_same, put_put, decide_eq_true_eq, Bool.not_eq_true', decide_eq_false_iff_not, ite_not, ite_true, ite_false, if_true, if_false, Bool.false_eq_true, ↓reduceIte, reduceIte, Nat.reduceAdd, Nat.reduceSub, Int.reduceToNat, Nat.reduceLeDiff, not_false_eq_true, true_and, and_true, ne_eq, Int.reduceEq, Nat.zero_add, Bool.not_true, Bool.not_false, reduceCtorEq, nc0, nc1, nc2, nc3, nc4, nc5, fIx_ref put_same, fLen_ref put_same, fIx_dy0, fIx_dy1, fEq_dy, fNe_dy, fIx_bx0, fIx_bx1, fEq_opt, fNe_opt, fNe_optb, fEq_bx, isN_opt, lc3, fInt, fTuple, fNeS_s, fStr]))
  refine ite2 (fun h => ?_) (fun h4 => ?_)
  · exact q _ _ pfar.1 (by omega) (by omega) o (d4.le (by omega))
  (try simp only [seq3_stop, ifS3, b3, op3, un3, v3, c3, fIx_tup, fIx_lst, at3_0, at3_1, at3_2, at3_3, at3_4, at3_5, at3_6, start3, fI0_i, fI_i, fLt, fLe, fGt, fGe, fEqI, fNeI, fMin, fMax, asg3, name3, sub3, ret3, retN3, nx3, drop3, par3, aug3, and3, or3, not3, andV3, orV3, notV3, if3, nil3, cons3, tup3, lst3, lstM3, gtup3, gcons3, gnil3, gunl3, bits3, neg3, chain3, fIsi, isiD, fLen_lst, fLen_tup, fAbs, call3, isN3, notN3, dIsN_non, dIsN_int, dIsN_bl, dIsN_str, dIsN_tup, dIsN_lst, slc3, part3, noPart3, ilst3, itup3, irng1, irng2, for3, fCat, fEq_int, fNe_int, fEq_bl, fNe_bl, fEq_pair, fNe_pair, List.map, List.replicate, List.length_cons, List.length_nil, List.set_cons_zero, List.set_cons_succ, List.getElem?_cons_zero, List.getElem?_cons_succ, List.cons_append, List.nil_append, at_0, at_1, at_2, at_3, at_4, at_5, at_6, ix_0, ix_1, ix_2, put_same, put_put, decide_eq_true_eq, Bool.not_eq_true', decide_eq_false_iff_not, ite_not, ite_true, ite_false, if_true, if_false, Bool.false_eq_true, ↓reduceIte, reduceIte, Nat.reduceAdd, Nat.reduceSub, Int.reduceToNat, Nat.reduceLeDiff, not_false_eq_true, true_and, and_true, ne_eq, Int.reduceEq, Nat.zero_add, Bool.not_true, Bool.not_false, reduceCtorEq, nc0, nc1, nc2, nc3, nc4, nc5, fIx_ref put_same, fLen_ref put_same, fIx_dy0, fIx_dy1, fEq_dy, fNe_dy, fIx_bx0, fIx_bx1, fEq_opt, fNe_opt, fNe_optb, fEq_bx, isN_opt, lc3, fInt, fTuple, fNeS_s, fStr]); (repeat (with_reducible refine later_i ?_; try simp only [seq3_stop, ifS3, b3, op3, un3, v3, c3, fIx_tup, fIx_lst, at3_0, at3_1, at3_2, at3_3, at3_4, at3_5, at3_6, start3, fI0_i, fI_i, fLt, fLe, fGt, fGe, fEqI, fNeI, fMin, fMax, asg3, name3, sub3, ret3, retN3, nx3, drop3, par3, aug3, and3, or3, not3, andV3, orV3, notV3, if3, nil3, cons3, tup3, lst3, lstM3, gtup3, gcons3, gnil3, gunl3, bits3, neg3, chain3, fIsi, isiD, fLen_lst, fLen_tup, fAbs, call3, isN3, notN3, dIsN_non, dIsN_int, dIsN_bl, dIsN_str, dIsN_tup, dIsN_lst, slc3, part3, noPart3, ilst3, itup3, irng1, irng2, for3, fCat, fEq_int, fNe_int, fEq_bl, fNe_bl, fEq_pair, fNe_pair, List.map, List.replicate, List.length_cons, List.length_nil, List.set_cons_zero, List.set_cons_succ, List.getElem?_cons_zero, List.getElem?_cons_succ, List.cons_append, List.nil_append, at_0, at_1, at_2, at_3, at_4, at_5, at_6, ix_0, ix_1, ix_2, put_same, put_put, decide_eq_true_eq, Bool.not_eq_true', decide_eq_false_iff_not, ite_not, ite_true, ite_false, if_true, if_false, Bool.false_eq_true, ↓reduceIte, reduceIte, Nat.reduceAdd, Nat.reduceSub, Int.reduceToNat, Nat.reduceLeDiff, not_false_eq_true, true_and, and_true, ne_eq, Int.reduceEq, Nat.zero_add, Bool.not_true, Bool.not_false, reduceCtorEq, nc0, nc1, nc2, nc3, nc4, nc5, fIx_ref put_same, fLen_ref put_same, fIx_dy0, fIx_dy1, fEq_dy, fNe_dy, fIx_bx0, fIx_bx1, fEq_opt, fNe_opt, fNe_optb, fEq_bx, isN_opt, lc3, fInt, fTuple, fNeS_s, fStr]))
  refine ite2 (fun h => ?_) (fun h7 => ?_)
  · refine at3_all (by omega) (by simp only [List.length_cons, List.length_nil]; omega) fun d hd => ?_
    have : Pl 140 d ∧ sz d = 1 ∧ dp d = 0 := by
      simp only [List.mem_cons, List.not_mem_nil, or_false] at hd
      rcases hd with rfl | rfl | rfl <;> exact ⟨trivial, rfl, rfl⟩
    exact q _ _ this.1 (by omega) (by omega) o (d4.le (by omega))
  (try simp only [seq3_stop, ifS3, b3, op3, un3, v3, c3, fIx_tup, fIx_lst, at3_0, at3_1, at3_2, at3_3, at3_4, at3_5, at3_6, start3, fI0_i, fI_i, fLt, fLe, fGt, fGe, fEqI, fNeI, fMin, fMax, asg3, name3, sub3, ret3, retN3, nx3, drop3, par3, aug3, and3, or3, not3, andV3, orV3, notV3, if3, nil3, cons3, tup3, lst3, lstM3, gtup3, gcons3, gnil3, gunl3, bits3, neg3, chain3, fIsi, isiD, fLen_lst, fLen_tup, fAbs, call3, isN3, notN3, dIsN_non, dIsN_int, dIsN_bl, dIsN_str, dIsN_tup, dIsN_lst, slc3, part3, noPart3, ilst3, itup3, irng1, irng2, for3, fCat, fEq_int, fNe_int, fEq_bl, fNe_bl, fEq_pair, fNe_pair, List.map, List.replicate, List.length_cons, List.length_nil, List.set_cons_zero, List.set_cons_succ, List.getElem?_cons_zero, List.getElem?_cons_succ, List.cons_append, List.nil_append, at_0, at_1, at_2, at_3, at_4, at_5, at_6, ix_0, ix_1, ix_2, put_same, put_put, decide_eq_true_eq, Bool.not_eq_true', decide_eq_false_iff_not, ite_not, ite_true, ite_false, if_true, if_false, Bool.false_eq_true, ↓reduceIte, reduceIte, Nat.reduceAdd, Nat.reduceSub, Int.reduceToNat, Nat.reduceLeDiff, not_false_eq_true, true_and, and_true, ne_eq, Int.reduceEq, Nat.zero_add, Bool.not_true, Bool.not_false, reduceCtorEq, nc0, nc1, nc2, nc3, nc4, nc5, fIx_ref put_same, fLen_ref put_same, fIx_dy0, fIx_dy1, fEq_dy, fNe_dy, fIx_bx0, fIx_bx1, fEq_opt, fNe_opt, fNe_optb, fEq_bx, isN_opt, lc3, fInt, fTuple, fNeS_s, fStr]); (repeat (with_reducible refine later_i ?_; try simp only [seq3_stop, ifS3, b3, op3, un3, v3, c3, fIx_tup, fIx_lst, at3_0, at3_1, at3_2, at3_3, at3_4, at3_5, at3_6, start3, fI0_i, fI_i, fLt, fLe, fGt, fGe, fEqI, fNeI, fMin, fMax, asg3, name3, sub3, ret3, retN3, nx3, drop3, par3, aug3, and3, or3, not3, andV3, orV3, notV3, if3, nil3, cons3, tup3, lst3, lstM3, gtup3, gcons3, gnil3, gunl3, bits3, neg3, chain3, fIsi, isiD, fLen_lst, fLen_tup, fAbs, call3, isN3, notN3, dIsN_non, dIsN_int, dIsN_bl, dIsN_str, dIsN_tup, dIsN_lst, slc3, part3, noPart3, ilst3, itup3, irng1, irng2, for3, fCat, fEq_int, fNe_int, fEq_bl, fNe_bl, fEq_pair, fNe_pair, List.map, List.replicate, List.length_cons, List.length_nil, List.set_cons_zero, List.set_cons_succ, List.getElem?_cons_zero, List.getElem?_cons_succ, List.cons_append, List.nil_append, at_0, at_1, at_2, at_3, at_4, at_5, at_6, ix_0, ix_1, ix_2, put_same, put_put, decide_eq_true_eq, Bool.not_eq_true', decide_eq_false_iff_not, ite_not, ite_true, ite_false, if_true, if_false, Bool.false_eq_true, ↓reduceIte, reduceIte, Nat.reduceAdd, Nat.reduceSub, Int.reduceToNat, Nat.reduceLeDiff, not_false_eq_true, true_and, and_true, ne_eq, Int.reduceEq, Nat.zero_add, Bool.not_true, Bool.not_false, reduceCtorEq, nc0, nc1, nc2, nc3, nc4, nc5, fIx_ref put_same, fLen_ref put_same, fIx_dy0, fIx_dy1, fEq_dy, fNe_dy, fIx_bx0, fIx_bx1, fEq_opt, fNe_opt, fNe_optb, fEq_bx, isN_opt, lc3, fInt, fTuple, fNeS_s, fStr]))
  refine ite2 (fun h => ?_) (fun h9 => ?_)
  · skip
    refine sp_pick_i (n + j + 5) d4 (by decide) (by decide) fun u m5 u0 u1 o5 d5 => ?_
    (try simp only [seq3_stop, ifS3, b3, op3, un3, v3, c3, fIx_tup, fIx_lst, at3_0, at3_1, at3_2, at3_3, at3_4, at3_5, at3_6, start3, fI0_i, fI_i, fLt, fLe, fGt, fGe, fEqI, fNeI, fMin, fMax, asg3, name3, sub3, ret3, retN3, nx3, drop3, par3, aug3, and3, or3, not3, andV3, orV3, notV3, if3, nil3, cons3, tup3, lst3, lstM3, gtup3, gcons3, gnil3, gunl3, bits3, neg3, chain3, fIsi, isiD, fLen_lst, fLen_tup, fAbs, call3, isN3, notN3, dIsN_non, dIsN_int, dIsN_bl, dIsN_str, dIsN_tup, dIsN_lst, slc3, part3, noPart3, ilst3, itup3, irng1, irng2, for3, fCat, fEq_int, fNe_int, fEq_bl, fNe_bl, fEq_pair, fNe_pair, List.map, List.replicate, List.length_cons, List.length_nil, List.set_cons_zero, List.set_cons_succ, List.getElem?_cons_zero, List.getElem?_cons_succ, List.cons_append, List.nil_append, at_0, at_1, at_2, at_3, at_4, at_5, at_6, ix_0, ix_1, ix_2, put_same, put_put, decide_eq_true_eq, Bool.not_eq_true', decide_eq_false_iff_not, ite_not, ite_true, ite_false, if_true, if_false, Bool.false_eq_true, ↓reduceIte, reduceIte, Nat.reduceAdd, Nat.reduceSub, Int.reduceToNat, Nat.reduceLeDiff, not_false_eq_true, true_and, and_true, ne_eq, Int.reduceEq, Nat.zero_add, Bool.not_true, Bool.not_false, reduceCtorEq, nc0, nc1, nc2, nc3, nc4, nc5, fIx_ref put_same, fLen_ref put_same, fIx_dy0, fIx_dy1, fEq_dy, fNe_dy, fIx_bx0, fIx_bx1, fEq_opt, fNe_opt, fNe_optb, fEq_bx, isN_opt, lc3, fInt, fTuple, fNeS_s, fStr]); (repeat (with_reducible refine later_i ?_; try simp only [seq3_stop, ifS3, b3, op3, un3, v3, c3, fIx_tup, fIx_lst, at3_0, at3_1, at3_2, at3_3, at3_4, at3_5, at3_6, start3, fI0_i, fI_i, fLt, fLe, fGt, fGe, fEqI, fNeI, fMin, fMax, asg3, name3, sub3, ret3, retN3, nx3, drop3, par3, aug3, and3, or3, not3, andV3, orV3, notV3, if3, nil3, cons3, tup3, lst3, lstM3, gtup3, gcons3, gnil3, gunl3, bits3, neg3, chain3, fIsi, isiD, fLen_lst, fLen_tup, fAbs, call3, isN3, notN3, dIsN_non, dIsN_int, dIsN_bl, dIsN_str, dIsN_tup, dIsN_lst, slc3, part3, noPart3, ilst3, itup3, irng1, irng2, for3, fCat, fEq_int, fNe_int, fEq_bl, fNe_bl, fEq_pair, fNe_pair, List.map, List.replicate, List.length_cons, List.length_nil, List.set_cons_zero, List.set_cons_succ, List.getElem?_cons_zero, List.getElem?_cons_succ, List.cons_append, List.nil_append, at_0, at_1, at_2, at_3, at_4, at_5, at_6, ix_0, ix_1, ix_2, put_same, put_put, decide_eq_true_eq, Bool.not_eq_true', decide_eq_false_iff_not, ite_not, ite_true, ite_false, if_true, if_false, Bool.false_eq_true, ↓reduceIte, reduceIte, Nat.reduceAdd, Nat.reduceSub, Int.reduceToNat, Nat.reduceLeDiff, not_false_eq_true, true_and, and_true, ne_eq, Int.reduceEq, Nat.zero_add, Bool.not_true, Bool.not_false, reduceCtorEq, nc0, nc1, nc2, nc3, nc4, nc5, fIx_ref put_same, fLen_ref put_same, fIx_dy0, fIx_dy1, fEq_dy, fNe_dy, fIx_bx0, fIx_bx1, fEq_opt, fNe_opt, fNe_optb, fEq_bx, isN_opt, lc3, fInt, fTuple, fNeS_s, fStr]))
    refine at3_all u0 (by simpa using u1) fun d hd => ?_
    have : Pl 140 d ∧ sz d = 1 ∧ dp d = 0 := by
      simp only [List.mem_cons, List.not_mem_nil, or_false] at hd
      rcases hd with rfl | rfl | rfl | rfl | rfl | rfl <;> exact ⟨⟨by decide +kernel, by decide +kernel⟩, rfl, rfl⟩
    exact q _ _ this.1 (by omega) (by omega) (o.trans o5) (d5.le (by omega))
  (try simp only [seq3_stop, ifS3, b3, op3, un3, v3, c3, fIx_tup, fIx_lst, at3_0, at3_1, at3_2, at3_3, at3_4, at3_5, at3_6, start3, fI0_i, fI_i, fLt, fLe, fGt, fGe, fEqI, fNeI, fMin, fMax, asg3, name3, sub3, ret3, retN3, nx3, drop3, par3, aug3, and3, or3, not3, andV3, orV3, notV3, if3, nil3, cons3, tup3, lst3, lstM3, gtup3, gcons3, gnil3, gunl3, bits3, neg3, chain3, fIsi, isiD, fLen_lst, fLen_tup, fAbs, call3, isN3, notN3, dIsN_non, dIsN_int, dIsN_bl, dIsN_str, dIsN_tup, dIsN_lst, slc3, part3, noPart3, ilst3, itup3, irng1, irng2, for3, fCat, fEq_int, fNe_int, fEq_bl, fNe_bl, fEq_pair, fNe_pair, List.map, List.replicate, List.length_cons, List.length_nil, List.set_cons_zero, List.set_cons_succ, List.getElem?_cons_zero, List.getElem?_cons_succ, List.cons_append, List.nil_append, at_0, at_1, at_2, at_3, at_4, at_5, at_6, ix_0, ix_1, ix_2, put_same, put_put, decide_eq_true_eq, Bool.not_eq_true', decide_eq_false_iff_not, ite_not, ite_true, ite_false, if_true, if_false, Bool.false_eq_true, ↓reduceIte, reduceIte, Nat.reduceAdd, Nat.reduceSub, Int.reduceToNat, Nat.reduceLeDiff, not_false_eq_true, true_and, and_true, ne_eq, Int.reduceEq, Nat.zero_add, Bool.not_true, Bool.not_false, reduceCtorEq, nc0, nc1, nc2, nc3, nc4, nc5, fIx_ref put_same, fLen_ref put_same, fIx_dy0, fIx_dy1, fEq_dy, fNe_dy, fIx_bx0, fIx_bx1, fEq_opt, fNe_opt, fNe_optb, fEq_bx, isN_opt, lc3, fInt, fTuple, fNeS_s, fStr]); (repeat (with_reducible refine later_i ?_; try simp only [seq3_stop, ifS3, b3, op3, un3, v3, c3, fIx_tup, fIx_lst, at3_0, at3_1, at3_2, at3_3, at3_4, at3_5, at3_6, start3, fI0_i, fI_i, fLt, fLe, fGt, fGe, fEqI, fNeI, fMin, fMax, asg3, name3, sub3, ret3, retN3, nx3, drop3, par3, aug3, and3, or3, not3, andV3, orV3, notV3, if3, nil3, cons3, tup3, lst3, lstM3, gtup3, gcons3, gnil3, gunl3, bits3, neg3, chain3, fIsi, isiD, fLen_lst, fLen_tup, fAbs, call3, isN3, notN3, dIsN_non, dIsN_int, dIsN_bl, dIsN_str, dIsN_tup, dIsN_lst, slc3, part3, noPart3, ilst3, itup3, irng1, irng2, for3, fCat, fEq_int, fNe_int, fEq_bl, fNe_bl, fEq_pair, fNe_pair, List.map, List.replicate, List.length_cons, List.length_nil, List.set_cons_zero, List.set_cons_succ, List.getElem?_cons_zero, List.getElem?_cons_succ, List.cons_append, List.nil_append, at_0, at_1, at_2, at_3, at_4, at_5, at_6, ix_0, ix_1, ix_2, put_same, put_put, decide_eq_true_eq, Bool.not_eq_true', decide_eq_false_iff_not, ite_not, ite_true, ite_false, if_true, if_false, Bool.false_eq_true, ↓reduceIte, reduceIte, Nat.reduceAdd, Nat.reduceSub, Int.reduceToNat, Nat.reduceLeDiff, not_false_eq_true, true_and, and_true, ne_eq, Int.reduceEq, Nat.zero_add, Bool.not_true, Bool.not_false, reduceCtorEq, nc0, nc1, nc2, nc3, nc4, nc5, fIx_ref put_same, fLen_ref put_same, fIx_dy0, fIx_dy1, fEq_dy, fNe_dy, fIx_bx0, fIx_bx1, fEq_opt, fNe_opt, fNe_optb, fEq_bx, isN_opt, lc3, fInt, fTuple, fNeS_s, fStr]))
  refine sp_pick_i (n + j + 5) d4 (by decide) (by decide) fun r m5 r0 r1 o5 d5 => ?_
  (try simp only [seq3_stop, ifS3, b3, op3, un3, v3, c3, fIx_tup, fIx_lst, at3_0, at3_1, at3_2, at3_3, at3_4, at3_5, at3_6, start3, fI0_i, fI_i, fLt, fLe, fGt, fGe, fEqI, fNeI, fMin, fMax, asg3, name3, sub3, ret3, retN3, nx3, drop3, par3, aug3, and3, or3, not3, andV3, orV3, notV3, if3, nil3, cons3, tup3, lst3, lstM3, gtup3, gcons3, gnil3, gunl3, bits3, neg3, chain3, fIsi, isiD, fLen_lst, fLen_tup, fAbs, call3, isN3, notN3, dIsN_non, dIsN_int, dIsN_bl, dIsN_str, dIsN_tup, dIsN_lst, slc3, part3, noPart3, ilst3, itup3, irng1, irng2, for3, fCat, fEq_int, fNe_int, fEq_bl, fNe_bl, fEq_pair, fNe_pair, List.map, List.replicate, List.length_cons, List.length_nil, List.set_cons_zero, List.set_cons_succ, List.getElem?_cons_zero, List.getElem?_cons_succ, List.cons_append, List.nil_append, at_0, at_1, at_2, at_3, at_4, at_5, at_6, ix_0, ix_1, ix_2, put_same, put_put, decide_eq_true_eq, Bool.not_eq_true', decide_eq_false_iff_not, ite_not, ite_true, ite_false, if_true, if_false, Bool.false_eq_true, ↓reduceIte, reduceIte, Nat.reduceAdd, Nat.reduceSub, Int.reduceToNat, Nat.reduceLeDiff, not_false_eq_true, true_and, and_true, ne_eq, Int.reduceEq, Nat.zero_add, Bool.not_true, Bool.not_false, reduceCtorEq, nc0, nc1, nc2, nc3, nc4, nc5, fIx_ref put_same, fLen_ref put_same, fIx_dy0, fIx_dy1, fEq_dy, fNe_dy, fIx_bx0, fIx_bx1, fEq_opt, fNe_opt, fNe_optb, fEq_bx, isN_opt, lc3, fInt, fTuple, fNeS_s, fStr]); (repeat (with_reducible refine later_i ?_; try simp only [seq3_stop, ifS3, b3, op3, un3, v3, c3, fIx_tup, fIx_lst, at3_0, at3_1, at3_2, at3_3, at3_4, at3_5, at3_6, start3, fI0_i, fI_i, fLt, fLe, fGt, fGe, fEqI, fNeI, fMin, fMax, asg3, name3, sub3, ret3, retN3, nx3, drop3, par3, aug3, and3, or3, not3, andV3, orV3, notV3, if3, nil3, cons3, tup3, lst3, lstM3, gtup3, gcons3, gnil3, gunl3, bits3, neg3, chain3, fIsi, isiD, fLen_lst, fLen_tup, fAbs, call3, isN3, notN3, dIsN_non, dIsN_int, dIsN_bl, dIsN_str, dIsN_tup, dIsN_lst, slc3, part3, noPart3, ilst3, itup3, irng1, irng2, for3, fCat, fEq_int, fNe_int, fEq_bl, fNe_bl, fEq_pair, fNe_pair, List.map, List.replicate, List.length_cons, List.length_nil, List.set_cons_zero, List.set_cons_succ, List.getElem?_cons_zero, List.getElem?_cons_succ, List.cons_append, List.nil_append, at_0, at_1, at_2, at_3, at_4, at_5, at_6, ix_0, ix_1, ix_2, put_same, put_put, decide_eq_true_eq, Bool.not_eq_true', decide_eq_false_iff_not, ite_not, ite_true, ite_false, if_true, if_false, Bool.false_eq_true, ↓reduceIte, reduceIte, Nat.reduceAdd, Nat.reduceSub, Int.reduceToNat, Nat.reduceLeDiff, not_false_eq_true, true_and, and_true, ne_eq, Int.reduceEq, Nat.zero_add, Bool.not_true, Bool.not_false, reduceCtorEq, nc0, nc1, nc2, nc3, nc4, nc5, fIx_ref put_same, fLen_ref put_same, fIx_dy0, fIx_dy1, fEq_dy, fNe_dy, fIx_bx0, fIx_bx1, fEq_opt, fNe_opt, fNe_optb, fEq_bx, isN_opt, lc3, fInt, fTuple, fNeS_s, fStr]))
  have fin : ∀ (acc : List D) (m6 : Mem), Pls 140 acc → szs acc + 1 ≤ cap e → dps acc ≤ e → Off a m m6 → DeckAt m6 a n → Q (.lst acc) m6 ∧ Q (.tup acc) m6 := fun acc m6 h1 h2 h3 h4 h5 =>
    ⟨q _ _ h1 (by rw [sz]; omega) (by rw [dp]; omega) h4 h5, q _ _ h1 (by rw [sz]; omega) (by rw [dp]; omega) h4 h5⟩
  have oo := o.trans o5
  rcases hj with rfl | ⟨e', rfl, rfl⟩
  · have he : need e = 10 := by omega
    have he : e = 0 := by
      cases e with
      | zero => rfl
      | succ e' => rw [need] at he; have : 1 ≤ need e' := by cases e' <;> simp [need] <;> omega
                   omega
    subst he
    rw [if_neg (by decide), Int.mul_zero]
    refine ⟨c_mul64 (by omega) (by decide), ⟨by decide, by decide⟩, fun L hL => ⟨[], put_same, ?_⟩⟩
    have nL := d5.ne hL
    have f := fin [] (del (put m5 L (.lst [])) L) trivial (by simp [szs, cap]) (by simp [dps]) (oo.trans fun q hq => by
      unfold del put
      split
      · rename_i e; rw [e, hL]
      · rfl) ((d5.le (by omega)).put nL |>.del nL)
    (try simp only [seq3_stop, ifS3, b3, op3, un3, v3, c3, fIx_tup, fIx_lst, at3_0, at3_1, at3_2, at3_3, at3_4, at3_5, at3_6, start3, fI0_i, fI_i, fLt, fLe, fGt, fGe, fEqI, fNeI, fMin, fMax, asg3, name3, sub3, ret3, retN3, nx3, drop3, par3, aug3, and3, or3, not3, andV3, orV3, notV3, if3, nil3, cons3, tup3, lst3, lstM3, gtup3, gcons3, gnil3, gunl3, bits3, neg3, chain3, fIsi, isiD, fLen_lst, fLen_tup, fAbs, call3, isN3, notN3, dIsN_non, dIsN_int, dIsN_bl, dIsN_str, dIsN_tup, dIsN_lst, slc3, part3, noPart3, ilst3, itup3, irng1, irng2, for3, fCat, fEq_int, fNe_int, fEq_bl, fNe_bl, fEq_pair, fNe_pair, List.map, List.replicate, List.length_cons, List.length_nil, List.set_cons_zero, List.set_cons_succ, List.getElem?_cons_zero, List.getElem?_cons_succ, List.cons_append, List.nil_append, at_0, at_1, at_2, at_3, at_4, at_5, at_6, ix_0, ix_1, ix_2, put_same, put_put, decide_eq_true_eq, Bool.not_eq_true', decide_eq_false_iff_not, ite_not, ite_true, ite_false, if_true, if_false, Bool.false_eq_true, ↓reduceIte, reduceIte, Nat.reduceAdd, Nat.reduceSub, Int.reduceToNat, Nat.reduceLeDiff, not_false_eq_true, true_and, and_true, ne_eq, Int.reduceEq, Nat.zero_add, Bool.not_true, Bool.not_false, reduceCtorEq, nc0, nc1, nc2, nc3, nc4, nc5, fIx_ref put_same, fLen_ref put_same, fIx_dy0, fIx_dy1, fEq_dy, fNe_dy, fIx_bx0, fIx_bx1, fEq_opt, fNe_opt, fNe_optb, fEq_bx, isN_opt, lc3, fInt, fTuple, fNeS_s, fStr]); (repeat (with_reducible refine later_i ?_; try simp only [seq3_stop, ifS3, b3, op3, un3, v3, c3, fIx_tup, fIx_lst, at3_0, at3_1, at3_2, at3_3, at3_4, at3_5, at3_6, start3, fI0_i, fI_i, fLt, fLe, fGt, fGe, fEqI, fNeI, fMin, fMax, asg3, name3, sub3, ret3, retN3, nx3, drop3, par3, aug3, and3, or3, not3, andV3, orV3, notV3, if3, nil3, cons3, tup3, lst3, lstM3, gtup3, gcons3, gnil3, gunl3, bits3, neg3, chain3, fIsi, isiD, fLen_lst, fLen_tup, fAbs, call3, isN3, notN3, dIsN_non, dIsN_int, dIsN_bl, dIsN_str, dIsN_tup, dIsN_lst, slc3, part3, noPart3, ilst3, itup3, irng1, irng2, for3, fCat, fEq_int, fNe_int, fEq_bl, fNe_bl, fEq_pair, fNe_pair, List.map, List.replicate, List.length_cons, List.length_nil, List.set_cons_zero, List.set_cons_succ, List.getElem?_cons_zero, List.getElem?_cons_succ, List.cons_append, List.nil_append, at_0, at_1, at_2, at_3, at_4, at_5, at_6, ix_0, ix_1, ix_2, put_same, put_put, decide_eq_true_eq, Bool.not_eq_true', decide_eq_false_iff_not, ite_not, ite_true, ite_false, if_true, if_false, Bool.false_eq_true, ↓reduceIte, reduceIte, Nat.reduceAdd, Nat.reduceSub, Int.reduceToNat, Nat.reduceLeDiff, not_false_eq_true, true_and, and_true, ne_eq, Int.reduceEq, Nat.zero_add, Bool.not_true, Bool.not_false, reduceCtorEq, nc0, nc1, nc2, nc3, nc4, nc5, fIx_ref put_same, fLen_ref put_same, fIx_dy0, fIx_dy1, fEq_dy, fNe_dy, fIx_bx0, fIx_bx1, fEq_opt, fNe_opt, fNe_optb, fEq_bx, isN_opt, lc3, fInt, fTuple, fNeS_s, fStr]))
    exact ite2 (fun _ => f.1) (fun _ => f.2)
  · rw [if_pos (by omega), Int.mul_one]
    refine ⟨c_mul64 (by omega) (by decide), ⟨by omega, by omega⟩, fun L hL => ?_⟩
    have nL := d5.ne hL
    refine lcGo_ind (fun k acc m' => k + acc.length ≤ 3 ∧ Pls 140 acc ∧ szs acc ≤ acc.length * cap e' ∧ dps acc ≤ e' + 1 ∧ (∀ q, q ≠ a → q ≠ L → m' q = m5 q) ∧ DeckAt m' a (n + k * need e')) ?_ ?_ _ [] _ put_same ⟨by simp [rangeD]; omega, trivial, by simp [szs], by simp [dps], fun q _ hq => put_ne hq, (d5.put nL).le ?_⟩
    · rintro k v acc m6 Kt eL ⟨i1, i2, i3, i4, i5, i6⟩ nx
      try simp only [seq3, ifS3, b3, op3, un3, v3, c3, fIx_tup, fIx_lst, at3_0, at3_1, at3_2, at3_3, at3_4, at3_5, at3_6, start3, fI0_i, fI_i, fLt, fLe, fGt, fGe, fEqI, fNeI, fMin, fMax, asg3, name3, sub3, ret3, retN3, nx3, drop3, par3, aug3, and3, or3, not3, andV3, orV3, notV3, if3, nil3, cons3, tup3, lst3, lstM3, gtup3, gcons3, gnil3, gunl3, bits3, neg3, chain3, fIsi, isiD, fLen_lst, fLen_tup, fAbs, call3, isN3, notN3, dIsN_non, dIsN_int, dIsN_bl, dIsN_str, dIsN_tup, dIsN_lst, slc3, part3, noPart3, ilst3, itup3, irng1, irng2, for3, fCat, fEq_int, fNe_int, fEq_bl, fNe_bl, fEq_pair, fNe_pair, List.map, List.replicate, List.length_cons, List.length_nil, List.set_cons_zero, List.set_cons_succ, List.getElem?_cons_zero, List.getElem?_cons_succ, List.cons_append, List.nil_append, at_0, at_1, at_2, at_3, at_4, at_5, at_6, ix_0, ix_1, ix_2, put_same, put_put, decide_eq_true_eq, Bool.not_eq_true', decide_eq_false_iff_not, ite_not, ite_true, ite_false, if_true, if_false, Bool.false_eq_true, ↓reduceIte, reduceIte, Nat.reduceAdd, Nat.reduceSub, Int.reduceToNat, Nat.reduceLeDiff, not_false_eq_true, true_and, and_true, ne_eq, Int.reduceEq, Nat.zero_add, Bool.not_true, Bool.not_false, reduceCtorEq, nc0, nc1, nc2, nc3, nc4, nc5, fIx_ref put_same, fLen_ref put_same, fIx_dy0, fIx_dy1, fEq_dy, fNe_dy, fIx_bx0, fIx_bx1, fEq_opt, fNe_opt, fNe_optb, fEq_bx, isN_opt, lc3, fInt, fTuple, fNeS_s, fStr]
      refine ⟨a, n + k * need e', by rw [show ((e' + 1 : Nat) : Int) - 1 = (e' : Nat) by omega], by rw [Nat.add_mul, Nat.one_mul, ← Nat.add_assoc] at i6; exact i6, fun d m7 p1 p2 p3 p4 p5 => ?_⟩
      refine nx d m7 (by rw [p4 L (Ne.symm nL)]; exact eL) (by omega) ⟨by rw [List.length_append, List.length_singleton]; omega, i2.app ⟨p1, trivial⟩, ?_, ?_, fun q h1 h2 => ?_, p5.put nL⟩
      · rw [szs_app, List.length_append, List.length_singleton, Nat.add_mul, Nat.one_mul]
        simp only [szs]
        omega
      · rw [dps_app]
        simp only [dps]
        omega
      · rw [put_ne h2, p4 q h1, i5 q h1 h2]
    · rintro acc m6 eL ⟨i1, i2, i3, i4, i5, i6⟩
      have hs : szs acc ≤ 3 * cap e' := Nat.le_trans i3 (Nat.mul_le_mul_right _ (by omega))
      have f := fin acc (del m6 L) i2 (by rw [cap]; omega) i4 (oo.trans fun q hq => by
        unfold del
        split
        · rename_i e; rw [e, hL]
        · rename_i e; exact i5 q hq e) ((i6.le (by omega)).del nL)
      (try simp only [seq3_stop, ifS3, b3, op3, un3, v3, c3, fIx_tup, fIx_lst, at3_0, at3_1, at3_2, at3_3, at3_4, at3_5, at3_6, start3, fI0_i, fI_i, fLt, fLe, fGt, fGe, fEqI, fNeI, fMin, fMax, asg3, name3, sub3, ret3, retN3, nx3, drop3, par3, aug3, and3, or3, not3, andV3, orV3, notV3, if3, nil3, cons3, tup3, lst3, lstM3, gtup3, gcons3, gnil3, gunl3, bits3, neg3, chain3, fIsi, isiD, fLen_lst, fLen_tup, fAbs, call3, isN3, notN3, dIsN_non, dIsN_int, dIsN_bl, dIsN_str, dIsN_tup, dIsN_lst, slc3, part3, noPart3, ilst3, itup3, irng1, irng2, for3, fCat, fEq_int, fNe_int, fEq_bl, fNe_bl, fEq_pair, fNe_pair, List.map, List.replicate, List.length_cons, List.length_nil, List.set_cons_zero, List.set_cons_succ, List.getElem?_cons_zero, List.getElem?_cons_succ, List.cons_append, List.nil_append, at_0, at_1, at_2, at_3, at_4, at_5, at_6, ix_0, ix_1, ix_2, put_same, put_put, decide_eq_true_eq, Bool.not_eq_true', decide_eq_false_iff_not, ite_not, ite_true, ite_false, if_true, if_false, Bool.false_eq_true, ↓reduceIte, reduceIte, Nat.reduceAdd, Nat.reduceSub, Int.reduceToNat, Nat.reduceLeDiff, not_false_eq_true, true_and, and_true, ne_eq, Int.reduceEq, Nat.zero_add, Bool.not_true, Bool.not_false, reduceCtorEq, nc0, nc1, nc2, nc3, nc4, nc5, fIx_ref put_same, fLen_ref put_same, fIx_dy0, fIx_dy1, fEq_dy, fNe_dy, fIx_bx0, fIx_bx1, fEq_opt, fNe_opt, fNe_optb, fEq_bx, isN_opt, lc3, fInt, fTuple, fNeS_s, fStr]); (repeat (with_reducible refine later_i ?_; try simp only [seq3_stop, ifS3, b3, op3, un3, v3, c3, fIx_tup, fIx_lst, at3_0, at3_1, at3_2, at3_3, at3_4, at3_5, at3_6, start3, fI0_i, fI_i, fLt, fLe, fGt, fGe, fEqI, fNeI, fMin, fMax, asg3, name3, sub3, ret3, retN3, nx3, drop3, par3, aug3, and3, or3, not3, andV3, orV3, notV3, if3, nil3, cons3, tup3, lst3, lstM3, gtup3, gcons3, gnil3, gunl3, bits3, neg3, chain3, fIsi, isiD, fLen_lst, fLen_tup, fAbs, call3, isN3, notN3, dIsN_non, dIsN_int, dIsN_bl, dIsN_str, dIsN_tup, dIsN_lst, slc3, part3, noPart3, ilst3, itup3, irng1, irng2, for3, fCat, fEq_int, fNe_int, fEq_bl, fNe_bl, fEq_pair, fNe_pair, List.map, List.replicate, List.length_cons, List.length_nil, List.set_cons_zero, List.set_cons_succ, List.getElem?_cons_zero, List.getElem?_cons_succ, List.cons_append, List.nil_append, at_0, at_1, at_2, at_3, at_4, at_5, at_6, ix_0, ix_1, ix_2, put_same, put_put, decide_eq_true_eq, Bool.not_eq_true', decide_eq_false_iff_not, ite_not, ite_true, ite_false, if_true, if_false, Bool.false_eq_true, ↓reduceIte, reduceIte, Nat.reduceAdd, Nat.reduceSub, Int.reduceToNat, Nat.reduceLeDiff, not_false_eq_true, true_and, and_true, ne_eq, Int.reduceEq, Nat.zero_add, Bool.not_true, Bool.not_false, reduceCtorEq, nc0, nc1, nc2, nc3, nc4, nc5, fIx_ref put_same, fLen_ref put_same, fIx_dy0, fIx_dy1, fEq_dy, fNe_dy, fIx_bx0, fIx_bx1, fEq_opt, fNe_opt, fNe_optb, fEq_bx, isN_opt, lc3, fInt, fTuple, fNeS_s, fStr]))
      exact ite2 (fun _ => f.1) (fun _ => f.2)
    · simp only [rangeD, List.length_map, List.length_range]
      have : r.toNat * need e' ≤ 3 * need e' := Nat.mul_le_mul_right _ (by omega)
      omega
theorem ok_thingN (T : Tx K mg fa fd) : ∀ e : Nat, Fn3 P w K mg base (e + 1) (fa 19) (fd 19) ["deck", "deep"] (sp_thingN e)
  | 0 => never3
  | e + 1 => ok_thingS T e (ok_thingN T e)
def sp_thing : Sp3 := fun ds m P => ∃ (a : Addr) (n : Nat), ds = [.ref a, .int 3] ∧ DeckAt m a (n + 400) ∧ ∀ d m', Pl 140 d → sz d ≤ 40 → dp d ≤ 4 → Off a m m' → DeckAt m' a n → P d m'
theorem ok_law_thing (T : Tx K mg fa fd) : Fn3 P w K mg base 5 (fa 19) (fd 19) ["deck", "deep"] sp_thing :=
  (ok_thingN T 4).imp fun vs H Q E h => by
    obtain ⟨ds, m, P, h1, h2, ⟨a, n, e, hd, k⟩, h4⟩ := h
    exact ⟨ds, m, P, h1, h2, ⟨a, n, e, hd, k⟩, h4⟩
/-! ### what a box is -/
def dyOf : D → Int × Nat
  | .tup [.int t, .int n] => (t, n.toNat)
  | _ => (0, 0)
theorem isDy_of {d : D} {b : Nat} (h : isDy d = true) (hp : Pl b d) (hb : b ≤ 1000000) : d = dyD (dyOf d) ∧ Sm (dyOf d) := by
  unfold isDy at h
  split at h
  · rename_i t n
    simp only [decide_eq_true_eq] at h
    refine ⟨?_, lt_pow hp.1 hb, ?_⟩
    · show D.tup [D.int t, D.int n] = D.tup [D.int t, D.int (n.toNat : Nat)]
      rw [show ((n.toNat : Nat) : Int) = n by omega]
    · show n.toNat ≤ _
      omega
  · cases h
def isBx : D → Bool
  | .tup [x, y] => isDy x && (isDy y && !dless (dyOf y) (dyOf x))
  | _ => false
def sp_isbx : Sp3 := fun ds m P => ∃ d : D, ds = [d] ∧ Pl 1000 d ∧ P (.bl (isBx d)) m
theorem ok_is_box (T : Tx K mg fa fd) : Fn3 P w K mg base 3 (fa 8) (fd 8) ["thing"] sp_isbx := by
  refine fn3 T.d_is_box.F sc_is_box (fun ds m Q h => by obtain ⟨_, rfl, _⟩ := h; rfl) fun cdv A outer s H E ds m Q hr h => ?_
  obtain ⟨d, rfl, hp, q⟩ := h
  refine ⟨_, (ss_cons (s_if (t_w (t_or (t_not (t_val (e_isi rfl T.b_isinstance (e_v 0) (e_type rfl T.b_tuple PyProof.Rows.boot_tuple)))) (t_or (t_neI (e_len rfl T.b_len (e_v 0)) e_int) (t_or (t_not (t_val (e_call T.d_is_dyadic (ok_is_dyadic T) (hr.mono (by omega)) rfl (a_cons (e_ix (e_v 0) e_int) a_nil)))) (t_or1 (t_not (t_val (e_call T.d_is_dyadic (ok_is_dyadic T) (hr.mono (by omega)) rfl (a_cons (e_ix (e_v 0) e_int) a_nil))))))))) (ss_one (s_ret e_bl)) ss_nil)
      (ss_one (s_ret (e_not (e_call T.d_is_less (ok_is_less T) (hr.mono (by omega)) rfl (a_cons (e_ix (e_v 0) e_int) (a_cons (e_ix (e_v 0) e_int) a_nil))))))), ?_⟩
  cases d with
  | ref a => exact (hp : False).elim
  | ty a => exact (hp : False).elim
  | tup ds =>
    match ds, hp, q with
    | [], hp, q => (try simp only [seq3, ifS3, b3, op3, un3, v3, c3, fIx_tup, fIx_lst, at3_0, at3_1, at3_2, at3_3, at3_4, at3_5, at3_6, start3, fI0_i, fI_i, fLt, fLe, fGt, fGe, fEqI, fNeI, fMin, fMax, asg3, name3, sub3, ret3, retN3, nx3, drop3, par3, aug3, and3, or3, not3, andV3, orV3, notV3, if3, nil3, cons3, tup3, lst3, lstM3, gtup3, gcons3, gnil3, gunl3, bits3, neg3, chain3, fIsi, isiD, fLen_lst, fLen_tup, fAbs, call3, isN3, notN3, dIsN_non, dIsN_int, dIsN_bl, dIsN_str, dIsN_tup, dIsN_lst, slc3, part3, noPart3, ilst3, itup3, irng1, irng2, for3, fCat, fEq_int, fNe_int, fEq_bl, fNe_bl, fEq_pair, fNe_pair, List.map, List.replicate, List.length_cons, List.length_nil, List.set_cons_zero, List.set_cons_succ, List.getElem?_cons_zero, List.getElem?_cons_succ, List.cons_append, List.nil_append, at_0, at_1, at_2, at_3, at_4, at_5, at_6, ix_0, ix_1, ix_2, put_same, put_put, decide_eq_true_eq, Bool.not_eq_true', decide_eq_false_iff_not, ite_not, ite_true, ite_false, if_true, if_false, Bool.false_eq_true, ↓reduceIte, reduceIte, Nat.reduceAdd, Nat.reduceSub, Int.reduceToNat, Nat.reduceLeDiff, not_false_eq_true, true_and, and_true, ne_eq, Int.reduceEq, Nat.zero_add, Bool.not_true, Bool.not_false, reduceCtorEq, nc0, nc1, nc2, nc3, nc4, nc5, fIx_ref put_same, fLen_ref put_same, fIx_dy0, fIx_dy1, fEq_dy, fNe_dy, fIx_bx0, fIx_bx1, fEq_opt, fNe_opt, fNe_optb, fEq_bx, isN_opt, lc3, fInt, fTuple, fNeS_s, fStr]); exact q
    | [x], hp, q => (try simp only [seq3, ifS3, b3, op3, un3, v3, c3, fIx_tup, fIx_lst, at3_0, at3_1, at3_2, at3_3, at3_4, at3_5, at3_6, start3, fI0_i, fI_i, fLt, fLe, fGt, fGe, fEqI, fNeI, fMin, fMax, asg3, name3, sub3, ret3, retN3, nx3, drop3, par3, aug3, and3, or3, not3, andV3, orV3, notV3, if3, nil3, cons3, tup3, lst3, lstM3, gtup3, gcons3, gnil3, gunl3, bits3, neg3, chain3, fIsi, isiD, fLen_lst, fLen_tup, fAbs, call3, isN3, notN3, dIsN_non, dIsN_int, dIsN_bl, dIsN_str, dIsN_tup, dIsN_lst, slc3, part3, noPart3, ilst3, itup3, irng1, irng2, for3, fCat, fEq_int, fNe_int, fEq_bl, fNe_bl, fEq_pair, fNe_pair, List.map, List.replicate, List.length_cons, List.length_nil, List.set_cons_zero, List.set_cons_succ, List.getElem?_cons_zero, List.getElem?_cons_succ, List.cons_append, List.nil_append, at_0, at_1, at_2, at_3, at_4, at_5, at_6, ix_0, ix_1, ix_2, put_same, put_put, decide_eq_true_eq, Bool.not_eq_true', decide_eq_false_iff_not, ite_not, ite_true, ite_false, if_true, if_false, Bool.false_eq_true, ↓reduceIte, reduceIte, Nat.reduceAdd, Nat.reduceSub, Int.reduceToNat, Nat.reduceLeDiff, not_false_eq_true, true_and, and_true, ne_eq, Int.reduceEq, Nat.zero_add, Bool.not_true, Bool.not_false, reduceCtorEq, nc0, nc1, nc2, nc3, nc4, nc5, fIx_ref put_same, fLen_ref put_same, fIx_dy0, fIx_dy1, fEq_dy, fNe_dy, fIx_bx0, fIx_bx1, fEq_opt, fNe_opt, fNe_optb, fEq_bx, isN_opt, lc3, fInt, fTuple, fNeS_s, fStr]); exact q
    | x :: y :: z :: r, hp, q =>
      try simp only [seq3, ifS3, b3, op3, un3, v3, c3, fIx_tup, fIx_lst, at3_0, at3_1, at3_2, at3_3, at3_4, at3_5, at3_6, start3, fI0_i, fI_i, fLt, fLe, fGt, fGe, fEqI, fNeI, fMin, fMax, asg3, name3, sub3, ret3, retN3, nx3, drop3, par3, aug3, and3, or3, not3, andV3, orV3, notV3, if3, nil3, cons3, tup3, lst3, lstM3, gtup3, gcons3, gnil3, gunl3, bits3, neg3, chain3, fIsi, isiD, fLen_lst, fLen_tup, fAbs, call3, isN3, notN3, dIsN_non, dIsN_int, dIsN_bl, dIsN_str, dIsN_tup, dIsN_lst, slc3, part3, noPart3, ilst3, itup3, irng1, irng2, for3, fCat, fEq_int, fNe_int, fEq_bl, fNe_bl, fEq_pair, fNe_pair, List.map, List.replicate, List.length_cons, List.length_nil, List.set_cons_zero, List.set_cons_succ, List.getElem?_cons_zero, List.getElem?_cons_succ, List.cons_append, List.nil_append, at_0, at_1, at_2, at_3, at_4, at_5, at_6, ix_0, ix_1, ix_2, put_same, put_put, decide_eq_true_eq, Bool.not_eq_true', decide_eq_false_iff_not, ite_not, ite_true, ite_false, if_true, if_false, Bool.false_eq_true, ↓reduceIte, reduceIte, Nat.reduceAdd, Nat.reduceSub, Int.reduceToNat, Nat.reduceLeDiff, not_false_eq_true, true_and, and_true, ne_eq, Int.reduceEq, Nat.zero_add, Bool.not_true, Bool.not_false, reduceCtorEq, nc0, nc1, nc2, nc3, nc4, nc5, fIx_ref put_same, fLen_ref put_same, fIx_dy0, fIx_dy1, fEq_dy, fNe_dy, fIx_bx0, fIx_bx1, fEq_opt, fNe_opt, fNe_optb, fEq_bx, isN_opt, lc3, fInt, fTuple, fNeS_s, fStr]
      exact ite2 (fun h => absurd h (by omega)) (fun h => q)
    | [x, y], hp, q =>
      change Q (.bl (isDy x && (isDy y && !dless (dyOf y) (dyOf x)))) m at q
      try simp only [seq3, ifS3, b3, op3, un3, v3, c3, fIx_tup, fIx_lst, at3_0, at3_1, at3_2, at3_3, at3_4, at3_5, at3_6, start3, fI0_i, fI_i, fLt, fLe, fGt, fGe, fEqI, fNeI, fMin, fMax, asg3, name3, sub3, ret3, retN3, nx3, drop3, par3, aug3, and3, or3, not3, andV3, orV3, notV3, if3, nil3, cons3, tup3, lst3, lstM3, gtup3, gcons3, gnil3, gunl3, bits3, neg3, chain3, fIsi, isiD, fLen_lst, fLen_tup, fAbs, call3, isN3, notN3, dIsN_non, dIsN_int, dIsN_bl, dIsN_str, dIsN_tup, dIsN_lst, slc3, part3, noPart3, ilst3, itup3, irng1, irng2, for3, fCat, fEq_int, fNe_int, fEq_bl, fNe_bl, fEq_pair, fNe_pair, List.map, List.replicate, List.length_cons, List.length_nil, List.set_cons_zero, List.set_cons_succ, List.getElem?_cons_zero, List.getElem?_cons_succ, List.cons_append, List.nil_append, at_0, at_1, at_2, at_3, at_4, at_5, at_6, ix_0, ix_1, ix_2, put_same, put_put, decide_eq_true_eq, Bool.not_eq_true', decide_eq_false_iff_not, ite_not, ite_true, ite_false, if_true, if_false, Bool.false_eq_true, ↓reduceIte, reduceIte, Nat.reduceAdd, Nat.reduceSub, Int.reduceToNat, Nat.reduceLeDiff, not_false_eq_true, true_and, and_true, ne_eq, Int.reduceEq, Nat.zero_add, Bool.not_true, Bool.not_false, reduceCtorEq, nc0, nc1, nc2, nc3, nc4, nc5, fIx_ref put_same, fLen_ref put_same, fIx_dy0, fIx_dy1, fEq_dy, fNe_dy, fIx_bx0, fIx_bx1, fEq_opt, fNe_opt, fNe_optb, fEq_bx, isN_opt, lc3, fInt, fTuple, fNeS_s, fStr]
      refine ⟨x, 1000, rfl, hp.1, ?_⟩
      try simp only [seq3, ifS3, b3, op3, un3, v3, c3, fIx_tup, fIx_lst, at3_0, at3_1, at3_2, at3_3, at3_4, at3_5, at3_6, start3, fI0_i, fI_i, fLt, fLe, fGt, fGe, fEqI, fNeI, fMin, fMax, asg3, name3, sub3, ret3, retN3, nx3, drop3, par3, aug3, and3, or3, not3, andV3, orV3, notV3, if3, nil3, cons3, tup3, lst3, lstM3, gtup3, gcons3, gnil3, gunl3, bits3, neg3, chain3, fIsi, isiD, fLen_lst, fLen_tup, fAbs, call3, isN3, notN3, dIsN_non, dIsN_int, dIsN_bl, dIsN_str, dIsN_tup, dIsN_lst, slc3, part3, noPart3, ilst3, itup3, irng1, irng2, for3, fCat, fEq_int, fNe_int, fEq_bl, fNe_bl, fEq_pair, fNe_pair, List.map, List.replicate, List.length_cons, List.length_nil, List.set_cons_zero, List.set_cons_succ, List.getElem?_cons_zero, List.getElem?_cons_succ, List.cons_append, List.nil_append, at_0, at_1, at_2, at_3, at_4, at_5, at_6, ix_0, ix_1, ix_2, put_same, put_put, decide_eq_true_eq, Bool.not_eq_true', decide_eq_false_iff_not, ite_not, ite_true, ite_false, if_true, if_false, Bool.false_eq_true, ↓reduceIte, reduceIte, Nat.reduceAdd, Nat.reduceSub, Int.reduceToNat, Nat.reduceLeDiff, not_false_eq_true, true_and, and_true, ne_eq, Int.reduceEq, Nat.zero_add, Bool.not_true, Bool.not_false, reduceCtorEq, nc0, nc1, nc2, nc3, nc4, nc5, fIx_ref put_same, fLen_ref put_same, fIx_dy0, fIx_dy1, fEq_dy, fNe_dy, fIx_bx0, fIx_bx1, fEq_opt, fNe_opt, fNe_optb, fEq_bx, isN_opt, lc3, fInt, fTuple, fNeS_s, fStr]
      refine ite2 (fun h1 => ?_) (fun h1 => ?_)
      · rw [h1] at q
        exact q
      · rw [Bool.not_eq_false] at h1
        rw [h1] at q
        refine ⟨y, 1000, rfl, hp.2.1, ?_⟩
        try simp only [seq3, ifS3, b3, op3, un3, v3, c3, fIx_tup, fIx_lst, at3_0, at3_1, at3_2, at3_3, at3_4, at3_5, at3_6, start3, fI0_i, fI_i, fLt, fLe, fGt, fGe, fEqI, fNeI, fMin, fMax, asg3, name3, sub3, ret3, retN3, nx3, drop3, par3, aug3, and3, or3, not3, andV3, orV3, notV3, if3, nil3, cons3, tup3, lst3, lstM3, gtup3, gcons3, gnil3, gunl3, bits3, neg3, chain3, fIsi, isiD, fLen_lst, fLen_tup, fAbs, call3, isN3, notN3, dIsN_non, dIsN_int, dIsN_bl, dIsN_str, dIsN_tup, dIsN_lst, slc3, part3, noPart3, ilst3, itup3, irng1, irng2, for3, fCat, fEq_int, fNe_int, fEq_bl, fNe_bl, fEq_pair, fNe_pair, List.map, List.replicate, List.length_cons, List.length_nil, List.set_cons_zero, List.set_cons_succ, List.getElem?_cons_zero, List.getElem?_cons_succ, List.cons_append, List.nil_append, at_0, at_1, at_2, at_3, at_4, at_5, at_6, ix_0, ix_1, ix_2, put_same, put_put, decide_eq_true_eq, Bool.not_eq_true', decide_eq_false_iff_not, ite_not, ite_true, ite_false, if_true, if_false, Bool.false_eq_true, ↓reduceIte, reduceIte, Nat.reduceAdd, Nat.reduceSub, Int.reduceToNat, Nat.reduceLeDiff, not_false_eq_true, true_and, and_true, ne_eq, Int.reduceEq, Nat.zero_add, Bool.not_true, Bool.not_false, reduceCtorEq, nc0, nc1, nc2, nc3, nc4, nc5, fIx_ref put_same, fLen_ref put_same, fIx_dy0, fIx_dy1, fEq_dy, fNe_dy, fIx_bx0, fIx_bx1, fEq_opt, fNe_opt, fNe_optb, fEq_bx, isN_opt, lc3, fInt, fTuple, fNeS_s, fStr]
        refine ite2 (fun h2 => ?_) (fun h2 => ?_)
        · rw [h2] at q
          exact q
        · rw [Bool.not_eq_false] at h2
          rw [h2] at q
          obtain ⟨e1, s1⟩ := isDy_of h1 hp.1 (by decide)
          obtain ⟨e2, s2⟩ := isDy_of h2 hp.2.1 (by decide)
          refine ⟨dyOf y, dyOf x, by rw [← e1, ← e2], s2, s1, ?_⟩
          exact q
  | _ => (try simp only [seq3, ifS3, b3, op3, un3, v3, c3, fIx_tup, fIx_lst, at3_0, at3_1, at3_2, at3_3, at3_4, at3_5, at3_6, start3, fI0_i, fI_i, fLt, fLe, fGt, fGe, fEqI, fNeI, fMin, fMax, asg3, name3, sub3, ret3, retN3, nx3, drop3, par3, aug3, and3, or3, not3, andV3, orV3, notV3, if3, nil3, cons3, tup3, lst3, lstM3, gtup3, gcons3, gnil3, gunl3, bits3, neg3, chain3, fIsi, isiD, fLen_lst, fLen_tup, fAbs, call3, isN3, notN3, dIsN_non, dIsN_int, dIsN_bl, dIsN_str, dIsN_tup, dIsN_lst, slc3, part3, noPart3, ilst3, itup3, irng1, irng2, for3, fCat, fEq_int, fNe_int, fEq_bl, fNe_bl, fEq_pair, fNe_pair, List.map, List.replicate, List.length_cons, List.length_nil, List.set_cons_zero, List.set_cons_succ, List.getElem?_cons_zero, List.getElem?_cons_succ, List.cons_append, List.nil_append, at_0, at_1, at_2, at_3, at_4, at_5, at_6, ix_0, ix_1, ix_2, put_same, put_put, decide_eq_true_eq, Bool.not_eq_true', decide_eq_false_iff_not, ite_not, ite_true, ite_false, if_true, if_false, Bool.false_eq_true, ↓reduceIte, reduceIte, Nat.reduceAdd, Nat.reduceSub, Int.reduceToNat, Nat.reduceLeDiff, not_false_eq_true, true_and, and_true, ne_eq, Int.reduceEq, Nat.zero_add, Bool.not_true, Bool.not_false, reduceCtorEq, nc0, nc1, nc2, nc3, nc4, nc5, fIx_ref put_same, fLen_ref put_same, fIx_dy0, fIx_dy1, fEq_dy, fNe_dy, fIx_bx0, fIx_bx1, fEq_opt, fNe_opt, fNe_optb, fEq_bx, isN_opt, lc3, fInt, fTuple, fNeS_s, fStr]); exact q
theorem ok_law_is_box (T : Tx K mg fa fd) : Fn3 P w K mg base 3 (fa 21) (fd 21) ["thing"] sp_isbx := by
  refine fn3 T.d_law_is_box.F sc_law_is_box (fun ds m Q h => by obtain ⟨_, rfl, _⟩ := h; rfl) fun cdv A outer s H E ds m Q hr h => ?_
  obtain ⟨d, rfl, hp, q⟩ := h
  refine ⟨_, (ss_cons (s_if (t_w (t_or (t_not (t_val (e_isi rfl T.b_isinstance (e_v 0) (e_type rfl T.b_tuple PyProof.Rows.boot_tuple)))) (t_or1 (t_neI (e_len rfl T.b_len (e_v 0)) e_int)))) (ss_one (s_ret e_bl)) ss_nil)
      (ss_cons (s_if (t_w (t_or (t_not (t_val (e_call T.d_law_is_dyadic (ok_law_is_dyadic T) (hr.mono (by omega)) rfl (a_cons (e_ix (e_v 0) e_int) a_nil)))) (t_or1 (t_not (t_val (e_call T.d_law_is_dyadic (ok_law_is_dyadic T) (hr.mono (by omega)) rfl (a_cons (e_ix (e_v 0) e_int) a_nil))))))) (ss_one (s_ret e_bl)) ss_nil)
      (ss_one (s_ret (e_not (e_call T.d_law_less (ok_law_less T) (hr.mono (by omega)) rfl (a_cons (e_ix (e_v 0) e_int) (a_cons (e_ix (e_v 0) e_int) a_nil)))))))), ?_⟩
  cases d with
  | ref a => exact (hp : False).elim
  | ty a => exact (hp : False).elim
  | tup ds =>
    match ds, hp, q with
    | [], hp, q => (try simp only [seq3, ifS3, b3, op3, un3, v3, c3, fIx_tup, fIx_lst, at3_0, at3_1, at3_2, at3_3, at3_4, at3_5, at3_6, start3, fI0_i, fI_i, fLt, fLe, fGt, fGe, fEqI, fNeI, fMin, fMax, asg3, name3, sub3, ret3, retN3, nx3, drop3, par3, aug3, and3, or3, not3, andV3, orV3, notV3, if3, nil3, cons3, tup3, lst3, lstM3, gtup3, gcons3, gnil3, gunl3, bits3, neg3, chain3, fIsi, isiD, fLen_lst, fLen_tup, fAbs, call3, isN3, notN3, dIsN_non, dIsN_int, dIsN_bl, dIsN_str, dIsN_tup, dIsN_lst, slc3, part3, noPart3, ilst3, itup3, irng1, irng2, for3, fCat, fEq_int, fNe_int, fEq_bl, fNe_bl, fEq_pair, fNe_pair, List.map, List.replicate, List.length_cons, List.length_nil, List.set_cons_zero, List.set_cons_succ, List.getElem?_cons_zero, List.getElem?_cons_succ, List.cons_append, List.nil_append, at_0, at_1, at_2, at_3, at_4, at_5, at_6, ix_0, ix_1, ix_2, put_same, put_put, decide_eq_true_eq, Bool.not_eq_true', decide_eq_false_iff_not, ite_not, ite_true, ite_false, if_true, if_false, Bool.false_eq_true, ↓reduceIte, reduceIte, Nat.reduceAdd, Nat.reduceSub, Int.reduceToNat, Nat.reduceLeDiff, not_false_eq_true, true_and, and_true, ne_eq, Int.reduceEq, Nat.zero_add, Bool.not_true, Bool.not_false, reduceCtorEq, nc0, nc1, nc2, nc3, nc4, nc5, fIx_ref put_same, fLen_ref put_same, fIx_dy0, fIx_dy1, fEq_dy, fNe_dy, fIx_bx0, fIx_bx1, fEq_opt, fNe_opt, fNe_optb, fEq_bx, isN_opt, lc3, fInt, fTuple, fNeS_s, fStr]); exact q
    | [x], hp, q => (try simp only [seq3, ifS3, b3, op3, un3, v3, c3, fIx_tup, fIx_lst, at3_0, at3_1, at3_2, at3_3, at3_4, at3_5, at3_6, start3, fI0_i, fI_i, fLt, fLe, fGt, fGe, fEqI, fNeI, fMin, fMax, asg3, name3, sub3, ret3, retN3, nx3, drop3, par3, aug3, and3, or3, not3, andV3, orV3, notV3, if3, nil3, cons3, tup3, lst3, lstM3, gtup3, gcons3, gnil3, gunl3, bits3, neg3, chain3, fIsi, isiD, fLen_lst, fLen_tup, fAbs, call3, isN3, notN3, dIsN_non, dIsN_int, dIsN_bl, dIsN_str, dIsN_tup, dIsN_lst, slc3, part3, noPart3, ilst3, itup3, irng1, irng2, for3, fCat, fEq_int, fNe_int, fEq_bl, fNe_bl, fEq_pair, fNe_pair, List.map, List.replicate, List.length_cons, List.length_nil, List.set_cons_zero, List.set_cons_succ, List.getElem?_cons_zero, List.getElem?_cons_succ, List.cons_append, List.nil_append, at_0, at_1, at_2, at_3, at_4, at_5, at_6, ix_0, ix_1, ix_2, put_same, put_put, decide_eq_true_eq, Bool.not_eq_true', decide_eq_false_iff_not, ite_not, ite_true, ite_false, if_true, if_false, Bool.false_eq_true, ↓reduceIte, reduceIte, Nat.reduceAdd, Nat.reduceSub, Int.reduceToNat, Nat.reduceLeDiff, not_false_eq_true, true_and, and_true, ne_eq, Int.reduceEq, Nat.zero_add, Bool.not_true, Bool.not_false, reduceCtorEq, nc0, nc1, nc2, nc3, nc4, nc5, fIx_ref put_same, fLen_ref put_same, fIx_dy0, fIx_dy1, fEq_dy, fNe_dy, fIx_bx0, fIx_bx1, fEq_opt, fNe_opt, fNe_optb, fEq_bx, isN_opt, lc3, fInt, fTuple, fNeS_s, fStr]); exact q
    | x :: y :: z :: r, hp, q =>
      try simp only [seq3, ifS3, b3, op3, un3, v3, c3, fIx_tup, fIx_lst, at3_0, at3_1, at3_2, at3_3, at3_4, at3_5, at3_6, start3, fI0_i, fI_i, fLt, fLe, fGt, fGe, fEqI, fNeI, fMin, fMax, asg3, name3, sub3, ret3, retN3, nx3, drop3, par3, aug3, and3, or3, not3, andV3, orV3, notV3, if3, nil3, cons3, tup3, lst3, lstM3, gtup3, gcons3, gnil3, gunl3, bits3, neg3, chain3, fIsi, isiD, fLen_lst, fLen_tup, fAbs, call3, isN3, notN3, dIsN_non, dIsN_int, dIsN_bl, dIsN_str, dIsN_tup, dIsN_lst, slc3, part3, noPart3, ilst3, itup3, irng1, irng2, for3, fCat, fEq_int, fNe_int, fEq_bl, fNe_bl, fEq_pair, fNe_pair, List.map, List.replicate, List.length_cons, List.length_nil, List.set_cons_zero, List.set_cons_succ, List.getElem?_cons_zero, List.getElem?_cons_succ, List.cons_append, List.nil_append, at_0, at_1, at_2, at_3, at_4, at_5, at_6, ix_0, ix_1, ix_2, put_same, put_put, decide_eq_true_eq, Bool.not_eq_true', decide_eq_false_iff_not, ite_not, ite_true, ite_false, if_true, if_false, Bool.false_eq_true, ↓reduceIte, reduceIte, Nat.reduceAdd, Nat.reduceSub, Int.reduceToNat, Nat.reduceLeDiff, not_false_eq_true, true_and, and_true, ne_eq, Int.reduceEq, Nat.zero_add, Bool.not_true, Bool.not_false, reduceCtorEq, nc0, nc1, nc2, nc3, nc4, nc5, fIx_ref put_same, fLen_ref put_same, fIx_dy0, fIx_dy1, fEq_dy, fNe_dy, fIx_bx0, fIx_bx1, fEq_opt, fNe_opt, fNe_optb, fEq_bx, isN_opt, lc3, fInt, fTuple, fNeS_s, fStr]
      exact ite2 (fun h => absurd h (by omega)) (fun h => q)
    | [x, y], hp, q =>
      change Q (.bl (isDy x && (isDy y && !dless (dyOf y) (dyOf x)))) m at q
      try simp only [seq3, ifS3, b3, op3, un3, v3, c3, fIx_tup, fIx_lst, at3_0, at3_1, at3_2, at3_3, at3_4, at3_5, at3_6, start3, fI0_i, fI_i, fLt, fLe, fGt, fGe, fEqI, fNeI, fMin, fMax, asg3, name3, sub3, ret3, retN3, nx3, drop3, par3, aug3, and3, or3, not3, andV3, orV3, notV3, if3, nil3, cons3, tup3, lst3, lstM3, gtup3, gcons3, gnil3, gunl3, bits3, neg3, chain3, fIsi, isiD, fLen_lst, fLen_tup, fAbs, call3, isN3, notN3, dIsN_non, dIsN_int, dIsN_bl, dIsN_str, dIsN_tup, dIsN_lst, slc3, part3, noPart3, ilst3, itup3, irng1, irng2, for3, fCat, fEq_int, fNe_int, fEq_bl, fNe_bl, fEq_pair, fNe_pair, List.map, List.replicate, List.length_cons, List.length_nil, List.set_cons_zero, List.set_cons_succ, List.getElem?_cons_zero, List.getElem?_cons_succ, List.cons_append, List.nil_append, at_0, at_1, at_2, at_3, at_4, at_5, at_6, ix_0, ix_1, ix_2, put_same, put_put, decide_eq_true_eq, Bool.not_eq_true', decide_eq_false_iff_not, ite_not, ite_true, ite_false, if_true, if_false, Bool.false_eq_true, ↓reduceIte, reduceIte, Nat.reduceAdd, Nat.reduceSub, Int.reduceToNat, Nat.reduceLeDiff, not_false_eq_true, true_and, and_true, ne_eq, Int.reduceEq, Nat.zero_add, Bool.not_true, Bool.not_false, reduceCtorEq, nc0, nc1, nc2, nc3, nc4, nc5, fIx_ref put_same, fLen_ref put_same, fIx_dy0, fIx_dy1, fEq_dy, fNe_dy, fIx_bx0, fIx_bx1, fEq_opt, fNe_opt, fNe_optb, fEq_bx, isN_opt, lc3, fInt, fTuple, fNeS_s, fStr]
      refine ⟨x, 1000, rfl, hp.1, ?_⟩
      try simp only [seq3, ifS3, b3, op3, un3, v3, c3, fIx_tup, fIx_lst, at3_0, at3_1, at3_2, at3_3, at3_4, at3_5, at3_6, start3, fI0_i, fI_i, fLt, fLe, fGt, fGe, fEqI, fNeI, fMin, fMax, asg3, name3, sub3, ret3, retN3, nx3, drop3, par3, aug3, and3, or3, not3, andV3, orV3, notV3, if3, nil3, cons3, tup3, lst3, lstM3, gtup3, gcons3, gnil3, gunl3, bits3, neg3, chain3, fIsi, isiD, fLen_lst, fLen_tup, fAbs, call3, isN3, notN3, dIsN_non, dIsN_int, dIsN_bl, dIsN_str, dIsN_tup, dIsN_lst, slc3, part3, noPart3, ilst3, itup3, irng1, irng2, for3, fCat, fEq_int, fNe_int, fEq_bl, fNe_bl, fEq_pair, fNe_pair, List.map, List.replicate, List.length_cons, List.length_nil, List.set_cons_zero, List.set_cons_succ, List.getElem?_cons_zero, List.getElem?_cons_succ, List.cons_append, List.nil_append, at_0, at_1, at_2, at_3, at_4, at_5, at_6, ix_0, ix_1, ix_2, put_same, put_put, decide_eq_true_eq, Bool.not_eq_true', decide_eq_false_iff_not, ite_not, ite_true, ite_false, if_true, if_false, Bool.false_eq_true, ↓reduceIte, reduceIte, Nat.reduceAdd, Nat.reduceSub, Int.reduceToNat, Nat.reduceLeDiff, not_false_eq_true, true_and, and_true, ne_eq, Int.reduceEq, Nat.zero_add, Bool.not_true, Bool.not_false, reduceCtorEq, nc0, nc1, nc2, nc3, nc4, nc5, fIx_ref put_same, fLen_ref put_same, fIx_dy0, fIx_dy1, fEq_dy, fNe_dy, fIx_bx0, fIx_bx1, fEq_opt, fNe_opt, fNe_optb, fEq_bx, isN_opt, lc3, fInt, fTuple, fNeS_s, fStr]
      refine ite2 (fun h1 => ?_) (fun h1 => ?_)
      · rw [h1] at q
        exact q
      · rw [Bool.not_eq_false] at h1
        rw [h1] at q
        refine ⟨y, 1000, rfl, hp.2.1, ?_⟩
        try simp only [seq3, ifS3, b3, op3, un3, v3, c3, fIx_tup, fIx_lst, at3_0, at3_1, at3_2, at3_3, at3_4, at3_5, at3_6, start3, fI0_i, fI_i, fLt, fLe, fGt, fGe, fEqI, fNeI, fMin, fMax, asg3, name3, sub3, ret3, retN3, nx3, drop3, par3, aug3, and3, or3, not3, andV3, orV3, notV3, if3, nil3, cons3, tup3, lst3, lstM3, gtup3, gcons3, gnil3, gunl3, bits3, neg3, chain3, fIsi, isiD, fLen_lst, fLen_tup, fAbs, call3, isN3, notN3, dIsN_non, dIsN_int, dIsN_bl, dIsN_str, dIsN_tup, dIsN_lst, slc3, part3, noPart3, ilst3, itup3, irng1, irng2, for3, fCat, fEq_int, fNe_int, fEq_bl, fNe_bl, fEq_pair, fNe_pair, List.map, List.replicate, List.length_cons, List.length_nil, List.set_cons_zero, List.set_cons_succ, List.getElem?_cons_zero, List.getElem?_cons_succ, List.cons_append, List.nil_append, at_0, at_1, at_2, at_3, at_4, at_5, at_6, ix_0, ix_1, ix_2, put_same, put_put, decide_eq_true_eq, Bool.not_eq_true', decide_eq_false_iff_not, ite_not, ite_true, ite_false, if_true, if_false, Bool.false_eq_true, ↓reduceIte, reduceIte, Nat.reduceAdd, Nat.reduceSub, Int.reduceToNat, Nat.reduceLeDiff, not_false_eq_true, true_and, and_true, ne_eq, Int.reduceEq, Nat.zero_add, Bool.not_true, Bool.not_false, reduceCtorEq, nc0, nc1, nc2, nc3, nc4, nc5, fIx_ref put_same, fLen_ref put_same, fIx_dy0, fIx_dy1, fEq_dy, fNe_dy, fIx_bx0, fIx_bx1, fEq_opt, fNe_opt, fNe_optb, fEq_bx, isN_opt, lc3, fInt, fTuple, fNeS_s, fStr]
        refine ite2 (fun h2 => ?_) (fun h2 => ?_)
        · rw [h2] at q
          exact q
        · rw [Bool.not_eq_false] at h2
          rw [h2] at q
          obtain ⟨e1, s1⟩ := isDy_of h1 hp.1 (by decide)
          obtain ⟨e2, s2⟩ := isDy_of h2 hp.2.1 (by decide)
          refine ⟨dyOf y, dyOf x, by rw [← e1, ← e2], s2, s1, ?_⟩
          exact q
  | _ => (try simp only [seq3, ifS3, b3, op3, un3, v3, c3, fIx_tup, fIx_lst, at3_0, at3_1, at3_2, at3_3, at3_4, at3_5, at3_6, start3, fI0_i, fI_i, fLt, fLe, fGt, fGe, fEqI, fNeI, fMin, fMax, asg3, name3, sub3, ret3, retN3, nx3, drop3, par3, aug3, and3, or3, not3, andV3, orV3, notV3, if3, nil3, cons3, tup3, lst3, lstM3, gtup3, gcons3, gnil3, gunl3, bits3, neg3, chain3, fIsi, isiD, fLen_lst, fLen_tup, fAbs, call3, isN3, notN3, dIsN_non, dIsN_int, dIsN_bl, dIsN_str, dIsN_tup, dIsN_lst, slc3, part3, noPart3, ilst3, itup3, irng1, irng2, for3, fCat, fEq_int, fNe_int, fEq_bl, fNe_bl, fEq_pair, fNe_pair, List.map, List.replicate, List.length_cons, List.length_nil, List.set_cons_zero, List.set_cons_succ, List.getElem?_cons_zero, List.getElem?_cons_succ, List.cons_append, List.nil_append, at_0, at_1, at_2, at_3, at_4, at_5, at_6, ix_0, ix_1, ix_2, put_same, put_put, decide_eq_true_eq, Bool.not_eq_true', decide_eq_false_iff_not, ite_not, ite_true, ite_false, if_true, if_false, Bool.false_eq_true, ↓reduceIte, reduceIte, Nat.reduceAdd, Nat.reduceSub, Int.reduceToNat, Nat.reduceLeDiff, not_false_eq_true, true_and, and_true, ne_eq, Int.reduceEq, Nat.zero_add, Bool.not_true, Bool.not_false, reduceCtorEq, nc0, nc1, nc2, nc3, nc4, nc5, fIx_ref put_same, fLen_ref put_same, fIx_dy0, fIx_dy1, fEq_dy, fNe_dy, fIx_bx0, fIx_bx1, fEq_opt, fNe_opt, fNe_optb, fEq_bx, isN_opt, lc3, fInt, fTuple, fNeS_s, fStr]); exact q
def Ok1 (d : D) : Prop := Pl 800 d ∧ sz d ≤ 40 ∧ dp d ≤ 4
theorem Ok1.shw {d : D} (h : Ok1 d) : Shw d := ⟨800, 40, by decide, by decide, h.1, h.2.1, by decide, by have := h.2.2; omega⟩
def sp_near : Sp3 := fun ds m P => ∃ (a : Addr) (n : Nat) (b : Bx), ds = [.ref a, boxD b] ∧ Gb b ∧ DeckAt m a (n + 1) ∧ ∀ d m', Ok1 d → Off a m m' → DeckAt m' a n → P d m'
theorem fList_dy {p : Int × Nat} {m : Mem} {P : DK} : fList (dyD p) m P = P (.lst [.int p.1, .int p.2]) m := rfl
theorem ok_law_near (T : Tx K mg fa fd) : Fn3 P w K mg base 2 (fa 22) (fd 22) ["deck", "box"] sp_near := by
  refine fn3 T.d_law_near.F sc_law_near (fun ds m Q h => by obtain ⟨_, _, _, rfl, _⟩ := h; rfl) fun cdv A outer s H E ds m Q hr h => ?_
  obtain ⟨a, n, b, rfl, hb, hd, q⟩ := h
  refine ⟨_, (ss_cons (s_asg (e_v 1) (g_tup rfl (gs_cons (g_name (i := 2) sc_law_near.nd) (gs_cons (g_name (i := 3) sc_law_near.nd) gs_nil)) (gl_cons (gl_cons gl_nil))))
      (ss_cons (s_set (i := 4) sc_law_near.nd (e_lst (a_cons (e_v 1) (a_cons (e_tup (a_cons (e_v 3) (a_cons (e_v 2) a_nil))) (a_cons (e_lst (a_cons (e_v 2) (a_cons (e_v 3) a_nil))) (a_cons (e_tup (a_cons (e_v 2) a_nil)) (a_cons (e_tup (a_cons (e_v 2) (a_cons (e_v 3) (a_cons (e_v 3) a_nil)))) (a_cons (e_tup (a_cons (e_v 2) (a_cons (e_tup (a_cons (e_mul e_int (e_ix (e_v 3) e_int)) (a_cons (e_add (e_ix (e_v 3) e_int) e_int) a_nil))) a_nil))) (a_cons (e_tup (a_cons (e_v 2) (a_cons e_non a_nil))) a_nil)))))))))
      (ss_cons (s_set (i := 4) sc_law_near.nd (e_cat (e_v 4) (e_lst (a_cons (e_tup (a_cons (e_tup (a_cons (e_ix (e_v 2) e_int) (a_cons (e_ix (e_v 2) e_int) (a_cons e_int a_nil)))) (a_cons (e_v 3) a_nil))) (a_cons (e_tup (a_cons (e_ix (e_v 2) e_int) (a_cons (e_ix (e_v 3) e_int) a_nil))) (a_cons (e_tup (a_cons (e_v 2) (a_cons (e_v 2) a_nil))) a_nil))))))
      (ss_cons (s_set (i := 4) sc_law_near.nd (e_cat (e_v 4) (e_lst (a_cons (e_tup (a_cons (e_tup (a_cons (e_ix (e_v 2) e_int) (a_cons (e_sub e_int e_int) a_nil))) (a_cons (e_v 3) a_nil))) (a_cons (e_tup (a_cons (e_v 2) (a_cons (e_list rfl T.b_list (e_v 3)) a_nil))) a_nil)))))
      (ss_one (s_ret (e_ix (e_v 4) (e_call T.d_law_pick (ok_law_pick T) (hr.mono (by omega)) rfl (a_cons (e_v 0) (a_cons (e_len rfl T.b_len (e_v 4)) a_nil)))))))))), ?_⟩
  unfold boxD
  have L : ∀ i : Int, i.natAbs < 2 ^ 20 → i.natAbs < 2 ^ 800 := fun i h => lt_pow h (by decide)
  have pd : ∀ p : Int × Nat, Sz p 700 → Pl 800 (.int p.1) ∧ Pl 800 (.int p.2) := fun p h => ⟨lt_pow h.1 (by decide), L _ (by have := h.2; omega)⟩
  obtain ⟨la, lb⟩ := pd _ hb.s1
  obtain ⟨ha, hc⟩ := pd _ hb.s2
  have pl : Pl 800 (dyD b.1) := ⟨la, lb, trivial⟩
  have ph : Pl 800 (dyD b.2) := ⟨ha, hc, trivial⟩
  (try simp only [seq3_stop, ifS3, b3, op3, un3, v3, c3, fIx_tup, fIx_lst, at3_0, at3_1, at3_2, at3_3, at3_4, at3_5, at3_6, start3, fI0_i, fI_i, fLt, fLe, fGt, fGe, fEqI, fNeI, fMin, fMax, asg3, name3, sub3, ret3, retN3, nx3, drop3, par3, aug3, and3, or3, not3, andV3, orV3, notV3, if3, nil3, cons3, tup3, lst3, lstM3, gtup3, gcons3, gnil3, gunl3, bits3, neg3, chain3, fIsi, isiD, fLen_lst, fLen_tup, fAbs, call3, isN3, notN3, dIsN_non, dIsN_int, dIsN_bl, dIsN_str, dIsN_tup, dIsN_lst, slc3, part3, noPart3, ilst3, itup3, irng1, irng2, for3, fCat, fEq_int, fNe_int, fEq_bl, fNe_bl, fEq_pair, fNe_pair, List.map, List.replicate, List.length_cons, List.length_nil, List.set_cons_zero, List.set_cons_succ, List.getElem?_cons_zero, List.getElem?_cons_succ, List.cons_append, List.nil_append, at_0, at_1, at_2, at_3, at_4, at_5, at_6, ix_0, ix_1, ix_2, put_same, put_put, decide_eq_true_eq, Bool.not_eq_true', decide_eq_false_iff_not, ite_not, ite_true, ite_false, if_true, if_false, Bool.false_eq_true, ↓reduceIte, reduceIte, Nat.reduceAdd, Nat.reduceSub, Int.reduceToNat, Nat.reduceLeDiff, not_false_eq_true, true_and, and_true, ne_eq, Int.reduceEq, Nat.zero_add, Bool.not_true, Bool.not_false, reduceCtorEq, nc0, nc1, nc2, nc3, nc4, nc5, fIx_ref put_same, fLen_ref put_same, fIx_dy0, fIx_dy1, fEq_dy, fNe_dy, fIx_bx0, fIx_bx1, fEq_opt, fNe_opt, fNe_optb, fEq_bx, isN_opt, lc3, fInt, fTuple, fNeS_s, fStr]); (repeat (with_reducible refine later_i ?_; try simp only [seq3_stop, ifS3, b3, op3, un3, v3, c3, fIx_tup, fIx_lst, at3_0, at3_1, at3_2, at3_3, at3_4, at3_5, at3_6, start3, fI0_i, fI_i, fLt, fLe, fGt, fGe, fEqI, fNeI, fMin, fMax, asg3, name3, sub3, ret3, retN3, nx3, drop3, par3, aug3, and3, or3, not3, andV3, orV3, notV3, if3, nil3, cons3, tup3, lst3, lstM3, gtup3, gcons3, gnil3, gunl3, bits3, neg3, chain3, fIsi, isiD, fLen_lst, fLen_tup, fAbs, call3, isN3, notN3, dIsN_non, dIsN_int, dIsN_bl, dIsN_str, dIsN_tup, dIsN_lst, slc3, part3, noPart3, ilst3, itup3, irng1, irng2, for3, fCat, fEq_int, fNe_int, fEq_bl, fNe_bl, fEq_pair, fNe_pair, List.map, List.replicate, List.length_cons, List.length_nil, List.set_cons_zero, List.set_cons_succ, List.getElem?_cons_zero, List.getElem?_cons_succ, List.cons_append, List.nil_append, at_0, at_1, at_2, at_3, at_4, at_5, at_6, ix_0, ix_1, ix_2, put_same, put_put, decide_eq_true_eq, Bool.not_eq_true', decide_eq_false_iff_not, ite_not, ite_true, ite_false, if_true, if_false, Bool.false_eq_true, ↓reduceIte, reduceIte, Nat.reduceAdd, Nat.reduceSub, Int.reduceToNat, Nat.reduceLeDiff, not_false_eq_true, true_and, and_true, ne_eq, Int.reduceEq, Nat.zero_add, Bool.not_true, Bool.not_false, reduceCtorEq, nc0, nc1, nc2, nc3, nc4, nc5, fIx_ref put_same, fLen_ref put_same, fIx_dy0, fIx_dy1, fEq_dy, fNe_dy, fIx_bx0, fIx_bx1, fEq_opt, fNe_opt, fNe_optb, fEq_bx, isN_opt, lc3, fInt, fTuple, fNeS_s, fStr]))
  refine ⟨mul_c (a := 2) (b := 700) (by decide) hb.s2.1 (by decide), ?_⟩
  (try simp only [seq3_stop, ifS3, b3, op3, un3, v3, c3, fIx_tup, fIx_lst, at3_0, at3_1, at3_2, at3_3, at3_4, at3_5, at3_6, start3, fI0_i, fI_i, fLt, fLe, fGt, fGe, fEqI, fNeI, fMin, fMax, asg3, name3, sub3, ret3, retN3, nx3, drop3, par3, aug3, and3, or3, not3, andV3, orV3, notV3, if3, nil3, cons3, tup3, lst3, lstM3, gtup3, gcons3, gnil3, gunl3, bits3, neg3, chain3, fIsi, isiD, fLen_lst, fLen_tup, fAbs, call3, isN3, notN3, dIsN_non, dIsN_int, dIsN_bl, dIsN_str, dIsN_tup, dIsN_lst, slc3, part3, noPart3, ilst3, itup3, irng1, irng2, for3, fCat, fEq_int, fNe_int, fEq_bl, fNe_bl, fEq_pair, fNe_pair, List.map, List.replicate, List.length_cons, List.length_nil, List.set_cons_zero, List.set_cons_succ, List.getElem?_cons_zero, List.getElem?_cons_succ, List.cons_append, List.nil_append, at_0, at_1, at_2, at_3, at_4, at_5, at_6, ix_0, ix_1, ix_2, put_same, put_put, decide_eq_true_eq, Bool.not_eq_true', decide_eq_false_iff_not, ite_not, ite_true, ite_false, if_true, if_false, Bool.false_eq_true, ↓reduceIte, reduceIte, Nat.reduceAdd, Nat.reduceSub, Int.reduceToNat, Nat.reduceLeDiff, not_false_eq_true, true_and, and_true, ne_eq, Int.reduceEq, Nat.zero_add, Bool.not_true, Bool.not_false, reduceCtorEq, nc0, nc1, nc2, nc3, nc4, nc5, fIx_ref put_same, fLen_ref put_same, fIx_dy0, fIx_dy1, fEq_dy, fNe_dy, fIx_bx0, fIx_bx1, fEq_opt, fNe_opt, fNe_optb, fEq_bx, isN_opt, lc3, fInt, fTuple, fNeS_s, fStr]); (repeat (with_reducible refine later_i ?_; try simp only [seq3_stop, ifS3, b3, op3, un3, v3, c3, fIx_tup, fIx_lst, at3_0, at3_1, at3_2, at3_3, at3_4, at3_5, at3_6, start3, fI0_i, fI_i, fLt, fLe, fGt, fGe, fEqI, fNeI, fMin, fMax, asg3, name3, sub3, ret3, retN3, nx3, drop3, par3, aug3, and3, or3, not3, andV3, orV3, notV3, if3, nil3, cons3, tup3, lst3, lstM3, gtup3, gcons3, gnil3, gunl3, bits3, neg3, chain3, fIsi, isiD, fLen_lst, fLen_tup, fAbs, call3, isN3, notN3, dIsN_non, dIsN_int, dIsN_bl, dIsN_str, dIsN_tup, dIsN_lst, slc3, part3, noPart3, ilst3, itup3, irng1, irng2, for3, fCat, fEq_int, fNe_int, fEq_bl, fNe_bl, fEq_pair, fNe_pair, List.map, List.replicate, List.length_cons, List.length_nil, List.set_cons_zero, List.set_cons_succ, List.getElem?_cons_zero, List.getElem?_cons_succ, List.cons_append, List.nil_append, at_0, at_1, at_2, at_3, at_4, at_5, at_6, ix_0, ix_1, ix_2, put_same, put_put, decide_eq_true_eq, Bool.not_eq_true', decide_eq_false_iff_not, ite_not, ite_true, ite_false, if_true, if_false, Bool.false_eq_true, ↓reduceIte, reduceIte, Nat.reduceAdd, Nat.reduceSub, Int.reduceToNat, Nat.reduceLeDiff, not_false_eq_true, true_and, and_true, ne_eq, Int.reduceEq, Nat.zero_add, Bool.not_true, Bool.not_false, reduceCtorEq, nc0, nc1, nc2, nc3, nc4, nc5, fIx_ref put_same, fLen_ref put_same, fIx_dy0, fIx_dy1, fEq_dy, fNe_dy, fIx_bx0, fIx_bx1, fEq_opt, fNe_opt, fNe_optb, fEq_bx, isN_opt, lc3, fInt, fTuple, fNeS_s, fStr]))
  (try simp only [seq3_stop, ifS3, b3, op3, un3, v3, c3, fIx_tup, fIx_lst, at3_0, at3_1, at3_2, at3_3, at3_4, at3_5, at3_6, start3, fI0_i, fI_i, fLt, fLe, fGt, fGe, fEqI, fNeI, fMin, fMax, asg3, name3, sub3, ret3, retN3, nx3, drop3, par3, aug3, and3, or3, not3, andV3, orV3, notV3, if3, nil3, cons3, tup3, lst3, lstM3, gtup3, gcons3, gnil3, gunl3, bits3, neg3, chain3, fIsi, isiD, fLen_lst, fLen_tup, fAbs, call3, isN3, notN3, dIsN_non, dIsN_int, dIsN_bl, dIsN_str, dIsN_tup, dIsN_lst, slc3, part3, noPart3, ilst3, itup3, irng1, irng2, for3, fCat, fEq_int, fNe_int, fEq_bl, fNe_bl, fEq_pair, fNe_pair, List.map, List.replicate, List.length_cons, List.length_nil, List.set_cons_zero, List.set_cons_succ, List.getElem?_cons_zero, List.getElem?_cons_succ, List.cons_append, List.nil_append, at_0, at_1, at_2, at_3, at_4, at_5, at_6, ix_0, ix_1, ix_2, put_same, put_put, decide_eq_true_eq, Bool.not_eq_true', decide_eq_false_iff_not, ite_not, ite_true, ite_false, if_true, if_false, Bool.false_eq_true, ↓reduceIte, reduceIte, Nat.reduceAdd, Nat.reduceSub, Int.reduceToNat, Nat.reduceLeDiff, not_false_eq_true, true_and, and_true, ne_eq, Int.reduceEq, Nat.zero_add, Bool.not_true, Bool.not_false, reduceCtorEq, nc0, nc1, nc2, nc3, nc4, nc5, fIx_ref put_same, fLen_ref put_same, fIx_dy0, fIx_dy1, fEq_dy, fNe_dy, fIx_bx0, fIx_bx1, fEq_opt, fNe_opt, fNe_optb, fEq_bx, isN_opt, lc3, fInt, fTuple, fNeS_s, fStr, fList_dy]); (repeat (with_reducible refine later_i ?_; try simp only [seq3_stop, ifS3, b3, op3, un3, v3, c3, fIx_tup, fIx_lst, at3_0, at3_1, at3_2, at3_3, at3_4, at3_5, at3_6, start3, fI0_i, fI_i, fLt, fLe, fGt, fGe, fEqI, fNeI, fMin, fMax, asg3, name3, sub3, ret3, retN3, nx3, drop3, par3, aug3, and3, or3, not3, andV3, orV3, notV3, if3, nil3, cons3, tup3, lst3, lstM3, gtup3, gcons3, gnil3, gunl3, bits3, neg3, chain3, fIsi, isiD, fLen_lst, fLen_tup, fAbs, call3, isN3, notN3, dIsN_non, dIsN_int, dIsN_bl, dIsN_str, dIsN_tup, dIsN_lst, slc3, part3, noPart3, ilst3, itup3, irng1, irng2, for3, fCat, fEq_int, fNe_int, fEq_bl, fNe_bl, fEq_pair, fNe_pair, List.map, List.replicate, List.length_cons, List.length_nil, List.set_cons_zero, List.set_cons_succ, List.getElem?_cons_zero, List.getElem?_cons_succ, List.cons_append, List.nil_append, at_0, at_1, at_2, at_3, at_4, at_5, at_6, ix_0, ix_1, ix_2, put_same, put_put, decide_eq_true_eq, Bool.not_eq_true', decide_eq_false_iff_not, ite_not, ite_true, ite_false, if_true, if_false, Bool.false_eq_true, ↓reduceIte, reduceIte, Nat.reduceAdd, Nat.reduceSub, Int.reduceToNat, Nat.reduceLeDiff, not_false_eq_true, true_and, and_true, ne_eq, Int.reduceEq, Nat.zero_add, Bool.not_true, Bool.not_false, reduceCtorEq, nc0, nc1, nc2, nc3, nc4, nc5, fIx_ref put_same, fLen_ref put_same, fIx_dy0, fIx_dy1, fEq_dy, fNe_dy, fIx_bx0, fIx_bx1, fEq_opt, fNe_opt, fNe_optb, fEq_bx, isN_opt, lc3, fInt, fTuple, fNeS_s, fStr, fList_dy]))
  refine sp_pick_i n hd (by decide) (by decide) fun r m1 r0 r1 o1 d1 => ?_
  refine at3_all r0 (by simpa using r1) fun d hd => q _ _ ?_ o1 d1
  have l3 : Pl 800 (.int (2 * b.2.1)) := lt_pow (abs_mul_lt (a := 2) (b := 700) (by decide) hb.s2.1) (by decide)
  simp only [List.mem_cons, List.not_mem_nil, or_false] at hd
  rcases hd with rfl | rfl | rfl | rfl | rfl | rfl | rfl | rfl | rfl | rfl | rfl | rfl
  all_goals refine ⟨?_, by simp [sz, szs, dyD], by simp [dp, dps, dyD]⟩
  · exact ⟨pl, ph, trivial⟩
  · exact ⟨ph, pl, trivial⟩
  · exact ⟨pl, ph, trivial⟩
  · exact ⟨pl, trivial⟩
  · exact ⟨pl, ph, ph, trivial⟩
  · exact ⟨pl, ⟨l3, L _ (by have := hb.s2.2; omega), trivial⟩, trivial⟩
  · exact ⟨pl, trivial, trivial⟩
  · exact ⟨⟨la, lb, L _ (by decide), trivial⟩, ph, trivial⟩
  · exact ⟨la, ha, trivial⟩
  · exact ⟨pl, pl, trivial⟩
  · exact ⟨⟨la, L _ (by decide), trivial⟩, ph, trivial⟩
  · exact ⟨pl, ⟨ha, hc, trivial⟩, trivial⟩
def sp_pair : Sp3 := fun ds m P => ∃ a b : Bx, ds = [boxD a, boxD b] ∧ Gb a ∧ Gb b ∧ P (.bl true) m
theorem ok_law_pair_right (T : Tx K mg fa fd) : Fn3 P w K mg base 5 (fa 23) (fd 23) ["one", "other"] sp_pair := by
  refine fn3 T.d_law_pair_right.F sc_law_pair_right (fun ds m Q h => by obtain ⟨_, _, rfl, _⟩ := h; rfl) fun cdv A outer s H E ds m Q hr h => ?_
  obtain ⟨a, b, rfl, ha, hb, q⟩ := h
  refine ⟨_, (ss_cons (s_set (i := 2) sc_law_pair_right.nd (e_if (t_val (e_call T.d_law_less (ok_law_less T) (hr.mono (by omega)) rfl (a_cons (e_ix (e_v 0) e_int) (a_cons (e_ix (e_v 1) e_int) a_nil)))) (e_ix (e_v 1) e_int) (e_ix (e_v 0) e_int)))
      (ss_cons (s_set (i := 3) sc_law_pair_right.nd (e_if (t_val (e_call T.d_law_less (ok_law_less T) (hr.mono (by omega)) rfl (a_cons (e_ix (e_v 0) e_int) (a_cons (e_ix (e_v 1) e_int) a_nil)))) (e_ix (e_v 0) e_int) (e_ix (e_v 1) e_int)))
      (ss_cons (s_set (i := 4) sc_law_pair_right.nd (e_if (t_val (e_call T.d_law_less (ok_law_less T) (hr.mono (by omega)) rfl (a_cons (e_v 3) (a_cons (e_v 2) a_nil)))) e_non (e_tup (a_cons (e_v 2) (a_cons (e_v 3) a_nil)))))
      (ss_cons (s_set (i := 5) sc_law_pair_right.nd (e_and (e_not (e_call T.d_law_less (ok_law_less T) (hr.mono (by omega)) rfl (a_cons (e_ix (e_v 0) e_int) (a_cons (e_ix (e_v 1) e_int) a_nil)))) (e_one (e_not (e_call T.d_law_less (ok_law_less T) (hr.mono (by omega)) rfl (a_cons (e_ix (e_v 1) e_int) (a_cons (e_ix (e_v 0) e_int) a_nil)))))))
      (ss_cons (s_set (i := 6) sc_law_pair_right.nd (e_call T.d_is_within (ok_is_within T) (hr.mono (by omega)) rfl (a_cons (e_v 0) (a_cons (e_v 1) a_nil))))
      (ss_cons (s_if (t_w (t_or (t_not (t_val (e_isi rfl T.b_isinstance (e_v 6) (e_type rfl T.b_bool PyProof.Rows.boot_bool)))) (t_or (t_ne hr (e_v 6) (e_v 5)) (t_or1 (t_ne hr (e_call T.d_common (ok_common T) (hr.mono (by omega)) rfl (a_cons (e_v 0) (a_cons (e_v 1) a_nil))) (e_v 4)))))) (ss_one (s_ret e_bl)) ss_nil)
      (ss_cons (s_set (i := 7) sc_law_pair_right.nd (e_max2 rfl T.b_max (e_ix (e_ix (e_v 0) e_int) e_int) (e_ix (e_ix (e_v 0) e_int) e_int)))
      (ss_cons (s_set (i := 8) sc_law_pair_right.nd (e_sub (e_shl (e_ix (e_ix (e_v 0) e_int) e_int) (e_sub (e_v 7) (e_ix (e_ix (e_v 0) e_int) e_int))) (e_shl (e_ix (e_ix (e_v 0) e_int) e_int) (e_sub (e_v 7) (e_ix (e_ix (e_v 0) e_int) e_int)))))
      (ss_one (s_ret (e_eq hr (e_call T.d_width (ok_width T) (hr.mono (by omega)) rfl (a_cons (e_v 0) a_nil)) (e_call T.d_law_dyadic (ok_law_dyadic T) (hr.mono (by omega)) rfl (a_cons (e_v 8) (a_cons (e_v 7) a_nil)))))))))))))), ?_⟩
  have less : ∀ {x y : Int × Nat} {m : Mem} {P : DK}, Sm x → Sm y → P (.bl (dless x y)) m → sp_lawless [dyD x, dyD y] m P := fun hx hy k => ⟨_, _, rfl, hx, hy, k⟩
  (try simp only [seq3_stop, ifS3, b3, op3, un3, v3, c3, fIx_tup, fIx_lst, at3_0, at3_1, at3_2, at3_3, at3_4, at3_5, at3_6, start3, fI0_i, fI_i, fLt, fLe, fGt, fGe, fEqI, fNeI, fMin, fMax, asg3, name3, sub3, ret3, retN3, nx3, drop3, par3, aug3, and3, or3, not3, andV3, orV3, notV3, if3, nil3, cons3, tup3, lst3, lstM3, gtup3, gcons3, gnil3, gunl3, bits3, neg3, chain3, fIsi, isiD, fLen_lst, fLen_tup, fAbs, call3, isN3, notN3, dIsN_non, dIsN_int, dIsN_bl, dIsN_str, dIsN_tup, dIsN_lst, slc3, part3, noPart3, ilst3, itup3, irng1, irng2, for3, fCat, fEq_int, fNe_int, fEq_bl, fNe_bl, fEq_pair, fNe_pair, List.map, List.replicate, List.length_cons, List.length_nil, List.set_cons_zero, List.set_cons_succ, List.getElem?_cons_zero, List.getElem?_cons_succ, List.cons_append, List.nil_append, at_0, at_1, at_2, at_3, at_4, at_5, at_6, ix_0, ix_1, ix_2, put_same, put_put, decide_eq_true_eq, Bool.not_eq_true', decide_eq_false_iff_not, ite_not, ite_true, ite_false, if_true, if_false, Bool.false_eq_true, ↓reduceIte, reduceIte, Nat.reduceAdd, Nat.reduceSub, Int.reduceToNat, Nat.reduceLeDiff, not_false_eq_true, true_and, and_true, ne_eq, Int.reduceEq, Nat.zero_add, Bool.not_true, Bool.not_false, reduceCtorEq, nc0, nc1, nc2, nc3, nc4, nc5, fIx_ref put_same, fLen_ref put_same, fIx_dy0, fIx_dy1, fEq_dy, fNe_dy, fIx_bx0, fIx_bx1, fEq_opt, fNe_opt, fNe_optb, fEq_bx, isN_opt, lc3, fInt, fTuple, fNeS_s, fStr]); (repeat (with_reducible refine later_i ?_; try simp only [seq3_stop, ifS3, b3, op3, un3, v3, c3, fIx_tup, fIx_lst, at3_0, at3_1, at3_2, at3_3, at3_4, at3_5, at3_6, start3, fI0_i, fI_i, fLt, fLe, fGt, fGe, fEqI, fNeI, fMin, fMax, asg3, name3, sub3, ret3, retN3, nx3, drop3, par3, aug3, and3, or3, not3, andV3, orV3, notV3, if3, nil3, cons3, tup3, lst3, lstM3, gtup3, gcons3, gnil3, gunl3, bits3, neg3, chain3, fIsi, isiD, fLen_lst, fLen_tup, fAbs, call3, isN3, notN3, dIsN_non, dIsN_int, dIsN_bl, dIsN_str, dIsN_tup, dIsN_lst, slc3, part3, noPart3, ilst3, itup3, irng1, irng2, for3, fCat, fEq_int, fNe_int, fEq_bl, fNe_bl, fEq_pair, fNe_pair, List.map, List.replicate, List.length_cons, List.length_nil, List.set_cons_zero, List.set_cons_succ, List.getElem?_cons_zero, List.getElem?_cons_succ, List.cons_append, List.nil_append, at_0, at_1, at_2, at_3, at_4, at_5, at_6, ix_0, ix_1, ix_2, put_same, put_put, decide_eq_true_eq, Bool.not_eq_true', decide_eq_false_iff_not, ite_not, ite_true, ite_false, if_true, if_false, Bool.false_eq_true, ↓reduceIte, reduceIte, Nat.reduceAdd, Nat.reduceSub, Int.reduceToNat, Nat.reduceLeDiff, not_false_eq_true, true_and, and_true, ne_eq, Int.reduceEq, Nat.zero_add, Bool.not_true, Bool.not_false, reduceCtorEq, nc0, nc1, nc2, nc3, nc4, nc5, fIx_ref put_same, fLen_ref put_same, fIx_dy0, fIx_dy1, fEq_dy, fNe_dy, fIx_bx0, fIx_bx1, fEq_opt, fNe_opt, fNe_optb, fEq_bx, isN_opt, lc3, fInt, fTuple, fNeS_s, fStr]))
  refine less ha.sm.1 hb.sm.1 ?_
  (try simp only [seq3_stop, ifS3, b3, op3, un3, v3, c3, fIx_tup, fIx_lst, at3_0, at3_1, at3_2, at3_3, at3_4, at3_5, at3_6, start3, fI0_i, fI_i, fLt, fLe, fGt, fGe, fEqI, fNeI, fMin, fMax, asg3, name3, sub3, ret3, retN3, nx3, drop3, par3, aug3, and3, or3, not3, andV3, orV3, notV3, if3, nil3, cons3, tup3, lst3, lstM3, gtup3, gcons3, gnil3, gunl3, bits3, neg3, chain3, fIsi, isiD, fLen_lst, fLen_tup, fAbs, call3, isN3, notN3, dIsN_non, dIsN_int, dIsN_bl, dIsN_str, dIsN_tup, dIsN_lst, slc3, part3, noPart3, ilst3, itup3, irng1, irng2, for3, fCat, fEq_int, fNe_int, fEq_bl, fNe_bl, fEq_pair, fNe_pair, List.map, List.replicate, List.length_cons, List.length_nil, List.set_cons_zero, List.set_cons_succ, List.getElem?_cons_zero, List.getElem?_cons_succ, List.cons_append, List.nil_append, at_0, at_1, at_2, at_3, at_4, at_5, at_6, ix_0, ix_1, ix_2, put_same, put_put, decide_eq_true_eq, Bool.not_eq_true', decide_eq_false_iff_not, ite_not, ite_true, ite_false, if_true, if_false, Bool.false_eq_true, ↓reduceIte, reduceIte, Nat.reduceAdd, Nat.reduceSub, Int.reduceToNat, Nat.reduceLeDiff, not_false_eq_true, true_and, and_true, ne_eq, Int.reduceEq, Nat.zero_add, Bool.not_true, Bool.not_false, reduceCtorEq, nc0, nc1, nc2, nc3, nc4, nc5, fIx_ref put_same, fLen_ref put_same, fIx_dy0, fIx_dy1, fEq_dy, fNe_dy, fIx_bx0, fIx_bx1, fEq_opt, fNe_opt, fNe_optb, fEq_bx, isN_opt, lc3, fInt, fTuple, fNeS_s, fStr]); (repeat (with_reducible refine later_i ?_; try simp only [seq3_stop, ifS3, b3, op3, un3, v3, c3, fIx_tup, fIx_lst, at3_0, at3_1, at3_2, at3_3, at3_4, at3_5, at3_6, start3, fI0_i, fI_i, fLt, fLe, fGt, fGe, fEqI, fNeI, fMin, fMax, asg3, name3, sub3, ret3, retN3, nx3, drop3, par3, aug3, and3, or3, not3, andV3, orV3, notV3, if3, nil3, cons3, tup3, lst3, lstM3, gtup3, gcons3, gnil3, gunl3, bits3, neg3, chain3, fIsi, isiD, fLen_lst, fLen_tup, fAbs, call3, isN3, notN3, dIsN_non, dIsN_int, dIsN_bl, dIsN_str, dIsN_tup, dIsN_lst, slc3, part3, noPart3, ilst3, itup3, irng1, irng2, for3, fCat, fEq_int, fNe_int, fEq_bl, fNe_bl, fEq_pair, fNe_pair, List.map, List.replicate, List.length_cons, List.length_nil, List.set_cons_zero, List.set_cons_succ, List.getElem?_cons_zero, List.getElem?_cons_succ, List.cons_append, List.nil_append, at_0, at_1, at_2, at_3, at_4, at_5, at_6, ix_0, ix_1, ix_2, put_same, put_put, decide_eq_true_eq, Bool.not_eq_true', decide_eq_false_iff_not, ite_not, ite_true, ite_false, if_true, if_false, Bool.false_eq_true, ↓reduceIte, reduceIte, Nat.reduceAdd, Nat.reduceSub, Int.reduceToNat, Nat.reduceLeDiff, not_false_eq_true, true_and, and_true, ne_eq, Int.reduceEq, Nat.zero_add, Bool.not_true, Bool.not_false, reduceCtorEq, nc0, nc1, nc2, nc3, nc4, nc5, fIx_ref put_same, fLen_ref put_same, fIx_dy0, fIx_dy1, fEq_dy, fNe_dy, fIx_bx0, fIx_bx1, fEq_opt, fNe_opt, fNe_optb, fEq_bx, isN_opt, lc3, fInt, fTuple, fNeS_s, fStr]))
  generalize hT : seq3 (asg3 _ (name3 3)) _ = TT
  have tl : Later TT { nx := fun x m' => Q D.non m', rt := Q } [some (boxD a), some (boxD b), some (dyD (dmost a.1 b.1)), none, none, none, none, none, none] m := by
    subst hT
    (try simp only [seq3_stop, ifS3, b3, op3, un3, v3, c3, fIx_tup, fIx_lst, at3_0, at3_1, at3_2, at3_3, at3_4, at3_5, at3_6, start3, fI0_i, fI_i, fLt, fLe, fGt, fGe, fEqI, fNeI, fMin, fMax, asg3, name3, sub3, ret3, retN3, nx3, drop3, par3, aug3, and3, or3, not3, andV3, orV3, notV3, if3, nil3, cons3, tup3, lst3, lstM3, gtup3, gcons3, gnil3, gunl3, bits3, neg3, chain3, fIsi, isiD, fLen_lst, fLen_tup, fAbs, call3, isN3, notN3, dIsN_non, dIsN_int, dIsN_bl, dIsN_str, dIsN_tup, dIsN_lst, slc3, part3, noPart3, ilst3, itup3, irng1, irng2, for3, fCat, fEq_int, fNe_int, fEq_bl, fNe_bl, fEq_pair, fNe_pair, List.map, List.replicate, List.length_cons, List.length_nil, List.set_cons_zero, List.set_cons_succ, List.getElem?_cons_zero, List.getElem?_cons_succ, List.cons_append, List.nil_append, at_0, at_1, at_2, at_3, at_4, at_5, at_6, ix_0, ix_1, ix_2, put_same, put_put, decide_eq_true_eq, Bool.not_eq_true', decide_eq_false_iff_not, ite_not, ite_true, ite_false, if_true, if_false, Bool.false_eq_true, ↓reduceIte, reduceIte, Nat.reduceAdd, Nat.reduceSub, Int.reduceToNat, Nat.reduceLeDiff, not_false_eq_true, true_and, and_true, ne_eq, Int.reduceEq, Nat.zero_add, Bool.not_true, Bool.not_false, reduceCtorEq, nc0, nc1, nc2, nc3, nc4, nc5, fIx_ref put_same, fLen_ref put_same, fIx_dy0, fIx_dy1, fEq_dy, fNe_dy, fIx_bx0, fIx_bx1, fEq_opt, fNe_opt, fNe_optb, fEq_bx, isN_opt, lc3, fInt, fTuple, fNeS_s, fStr]); (repeat (with_reducible refine later_i ?_; try simp only [seq3_stop, ifS3, b3, op3, un3, v3, c3, fIx_tup, fIx_lst, at3_0, at3_1, at3_2, at3_3, at3_4, at3_5, at3_6, start3, fI0_i, fI_i, fLt, fLe, fGt, fGe, fEqI, fNeI, fMin, fMax, asg3, name3, sub3, ret3, retN3, nx3, drop3, par3, aug3, and3, or3, not3, andV3, orV3, notV3, if3, nil3, cons3, tup3, lst3, lstM3, gtup3, gcons3, gnil3, gunl3, bits3, neg3, chain3, fIsi, isiD, fLen_lst, fLen_tup, fAbs, call3, isN3, notN3, dIsN_non, dIsN_int, dIsN_bl, dIsN_str, dIsN_tup, dIsN_lst, slc3, part3, noPart3, ilst3, itup3, irng1, irng2, for3, fCat, fEq_int, fNe_int, fEq_bl, fNe_bl, fEq_pair, fNe_pair, List.map, List.replicate, List.length_cons, List.length_nil, List.set_cons_zero, List.set_cons_succ, List.getElem?_cons_zero, List.getElem?_cons_succ, List.cons_append, List.nil_append, at_0, at_1, at_2, at_3, at_4, at_5, at_6, ix_0, ix_1, ix_2, put_same, put_put, decide_eq_true_eq, Bool.not_eq_true', decide_eq_false_iff_not, ite_not, ite_true, ite_false, if_true, if_false, Bool.false_eq_true, ↓reduceIte, reduceIte, Nat.reduceAdd, Nat.reduceSub, Int.reduceToNat, Nat.reduceLeDiff, not_false_eq_true, true_and, and_true, ne_eq, Int.reduceEq, Nat.zero_add, Bool.not_true, Bool.not_false, reduceCtorEq, nc0, nc1, nc2, nc3, nc4, nc5, fIx_ref put_same, fLen_ref put_same, fIx_dy0, fIx_dy1, fEq_dy, fNe_dy, fIx_bx0, fIx_bx1, fEq_opt, fNe_opt, fNe_optb, fEq_bx, isN_opt, lc3, fInt, fTuple, fNeS_s, fStr]))
    refine less ha.sm.2 hb.sm.2 ?_
    (try simp only [seq3_stop, ifS3, b3, op3, un3, v3, c3, fIx_tup, fIx_lst, at3_0, at3_1, at3_2, at3_3, at3_4, at3_5, at3_6, start3, fI0_i, fI_i, fLt, fLe, fGt, fGe, fEqI, fNeI, fMin, fMax, asg3, name3, sub3, ret3, retN3, nx3, drop3, par3, aug3, and3, or3, not3, andV3, orV3, notV3, if3, nil3, cons3, tup3, lst3, lstM3, gtup3, gcons3, gnil3, gunl3, bits3, neg3, chain3, fIsi, isiD, fLen_lst, fLen_tup, fAbs, call3, isN3, notN3, dIsN_non, dIsN_int, dIsN_bl, dIsN_str, dIsN_tup, dIsN_lst, slc3, part3, noPart3, ilst3, itup3, irng1, irng2, for3, fCat, fEq_int, fNe_int, fEq_bl, fNe_bl, fEq_pair, fNe_pair, List.map, List.replicate, List.length_cons, List.length_nil, List.set_cons_zero, List.set_cons_succ, List.getElem?_cons_zero, List.getElem?_cons_succ, List.cons_append, List.nil_append, at_0, at_1, at_2, at_3, at_4, at_5, at_6, ix_0, ix_1, ix_2, put_same, put_put, decide_eq_true_eq, Bool.not_eq_true', decide_eq_false_iff_not, ite_not, ite_true, ite_false, if_true, if_false, Bool.false_eq_true, ↓reduceIte, reduceIte, Nat.reduceAdd, Nat.reduceSub, Int.reduceToNat, Nat.reduceLeDiff, not_false_eq_true, true_and, and_true, ne_eq, Int.reduceEq, Nat.zero_add, Bool.not_true, Bool.not_false, reduceCtorEq, nc0, nc1, nc2, nc3, nc4, nc5, fIx_ref put_same, fLen_ref put_same, fIx_dy0, fIx_dy1, fEq_dy, fNe_dy, fIx_bx0, fIx_bx1, fEq_opt, fNe_opt, fNe_optb, fEq_bx, isN_opt, lc3, fInt, fTuple, fNeS_s, fStr]); (repeat (with_reducible refine later_i ?_; try simp only [seq3_stop, ifS3, b3, op3, un3, v3, c3, fIx_tup, fIx_lst, at3_0, at3_1, at3_2, at3_3, at3_4, at3_5, at3_6, start3, fI0_i, fI_i, fLt, fLe, fGt, fGe, fEqI, fNeI, fMin, fMax, asg3, name3, sub3, ret3, retN3, nx3, drop3, par3, aug3, and3, or3, not3, andV3, orV3, notV3, if3, nil3, cons3, tup3, lst3, lstM3, gtup3, gcons3, gnil3, gunl3, bits3, neg3, chain3, fIsi, isiD, fLen_lst, fLen_tup, fAbs, call3, isN3, notN3, dIsN_non, dIsN_int, dIsN_bl, dIsN_str, dIsN_tup, dIsN_lst, slc3, part3, noPart3, ilst3, itup3, irng1, irng2, for3, fCat, fEq_int, fNe_int, fEq_bl, fNe_bl, fEq_pair, fNe_pair, List.map, List.replicate, List.length_cons, List.length_nil, List.set_cons_zero, List.set_cons_succ, List.getElem?_cons_zero, List.getElem?_cons_succ, List.cons_append, List.nil_append, at_0, at_1, at_2, at_3, at_4, at_5, at_6, ix_0, ix_1, ix_2, put_same, put_put, decide_eq_true_eq, Bool.not_eq_true', decide_eq_false_iff_not, ite_not, ite_true, ite_false, if_true, if_false, Bool.false_eq_true, ↓reduceIte, reduceIte, Nat.reduceAdd, Nat.reduceSub, Int.reduceToNat, Nat.reduceLeDiff, not_false_eq_true, true_and, and_true, ne_eq, Int.reduceEq, Nat.zero_add, Bool.not_true, Bool.not_false, reduceCtorEq, nc0, nc1, nc2, nc3, nc4, nc5, fIx_ref put_same, fLen_ref put_same, fIx_dy0, fIx_dy1, fEq_dy, fNe_dy, fIx_bx0, fIx_bx1, fEq_opt, fNe_opt, fNe_optb, fEq_bx, isN_opt, lc3, fInt, fTuple, fNeS_s, fStr]))
    generalize hT : seq3 (asg3 _ (name3 4)) _ = TT
    have tl : Later TT { nx := fun x m' => Q D.non m', rt := Q } [some (boxD a), some (boxD b), some (dyD (dmost a.1 b.1)), some (dyD (dleast a.2 b.2)), none, none, none, none, none] m := by
      subst hT
      (try simp only [seq3_stop, ifS3, b3, op3, un3, v3, c3, fIx_tup, fIx_lst, at3_0, at3_1, at3_2, at3_3, at3_4, at3_5, at3_6, start3, fI0_i, fI_i, fLt, fLe, fGt, fGe, fEqI, fNeI, fMin, fMax, asg3, name3, sub3, ret3, retN3, nx3, drop3, par3, aug3, and3, or3, not3, andV3, orV3, notV3, if3, nil3, cons3, tup3, lst3, lstM3, gtup3, gcons3, gnil3, gunl3, bits3, neg3, chain3, fIsi, isiD, fLen_lst, fLen_tup, fAbs, call3, isN3, notN3, dIsN_non, dIsN_int, dIsN_bl, dIsN_str, dIsN_tup, dIsN_lst, slc3, part3, noPart3, ilst3, itup3, irng1, irng2, for3, fCat, fEq_int, fNe_int, fEq_bl, fNe_bl, fEq_pair, fNe_pair, List.map, List.replicate, List.length_cons, List.length_nil, List.set_cons_zero, List.set_cons_succ, List.getElem?_cons_zero, List.getElem?_cons_succ, List.cons_append, List.nil_append, at_0, at_1, at_2, at_3, at_4, at_5, at_6, ix_0, ix_1, ix_2, put_same, put_put, decide_eq_true_eq, Bool.not_eq_true', decide_eq_false_iff_not, ite_not, ite_true, ite_false, if_true, if_false, Bool.false_eq_true, ↓reduceIte, reduceIte, Nat.reduceAdd, Nat.reduceSub, Int.reduceToNat, Nat.reduceLeDiff, not_false_eq_true, true_and, and_true, ne_eq, Int.reduceEq, Nat.zero_add, Bool.not_true, Bool.not_false, reduceCtorEq, nc0, nc1, nc2, nc3, nc4, nc5, fIx_ref put_same, fLen_ref put_same, fIx_dy0, fIx_dy1, fEq_dy, fNe_dy, fIx_bx0, fIx_bx1, fEq_opt, fNe_opt, fNe_optb, fEq_bx, isN_opt, lc3, fInt, fTuple, fNeS_s, fStr]); (repeat (with_reducible refine later_i ?_; try simp only [seq3_stop, ifS3, b3, op3, un3, v3, c3, fIx_tup, fIx_lst, at3_0, at3_1, at3_2, at3_3, at3_4, at3_5, at3_6, start3, fI0_i, fI_i, fLt, fLe, fGt, fGe, fEqI, fNeI, fMin, fMax, asg3, name3, sub3, ret3, retN3, nx3, drop3, par3, aug3, and3, or3, not3, andV3, orV3, notV3, if3, nil3, cons3, tup3, lst3, lstM3, gtup3, gcons3, gnil3, gunl3, bits3, neg3, chain3, fIsi, isiD, fLen_lst, fLen_tup, fAbs, call3, isN3, notN3, dIsN_non, dIsN_int, dIsN_bl, dIsN_str, dIsN_tup, dIsN_lst, slc3, part3, noPart3, ilst3, itup3, irng1, irng2, for3, fCat, fEq_int, fNe_int, fEq_bl, fNe_bl, fEq_pair, fNe_pair, List.map, List.replicate, List.length_cons, List.length_nil, List.set_cons_zero, List.set_cons_succ, List.getElem?_cons_zero, List.getElem?_cons_succ, List.cons_append, List.nil_append, at_0, at_1, at_2, at_3, at_4, at_5, at_6, ix_0, ix_1, ix_2, put_same, put_put, decide_eq_true_eq, Bool.not_eq_true', decide_eq_false_iff_not, ite_not, ite_true, ite_false, if_true, if_false, Bool.false_eq_true, ↓reduceIte, reduceIte, Nat.reduceAdd, Nat.reduceSub, Int.reduceToNat, Nat.reduceLeDiff, not_false_eq_true, true_and, and_true, ne_eq, Int.reduceEq, Nat.zero_add, Bool.not_true, Bool.not_false, reduceCtorEq, nc0, nc1, nc2, nc3, nc4, nc5, fIx_ref put_same, fLen_ref put_same, fIx_dy0, fIx_dy1, fEq_dy, fNe_dy, fIx_bx0, fIx_bx1, fEq_opt, fNe_opt, fNe_optb, fEq_bx, isN_opt, lc3, fInt, fTuple, fNeS_s, fStr]))
      refine less (dleast_sm ha.sm.2 hb.sm.2) (dmost_sm ha.sm.1 hb.sm.1) ?_
      (try simp only [seq3_stop, ifS3, b3, op3, un3, v3, c3, fIx_tup, fIx_lst, at3_0, at3_1, at3_2, at3_3, at3_4, at3_5, at3_6, start3, fI0_i, fI_i, fLt, fLe, fGt, fGe, fEqI, fNeI, fMin, fMax, asg3, name3, sub3, ret3, retN3, nx3, drop3, par3, aug3, and3, or3, not3, andV3, orV3, notV3, if3, nil3, cons3, tup3, lst3, lstM3, gtup3, gcons3, gnil3, gunl3, bits3, neg3, chain3, fIsi, isiD, fLen_lst, fLen_tup, fAbs, call3, isN3, notN3, dIsN_non, dIsN_int, dIsN_bl, dIsN_str, dIsN_tup, dIsN_lst, slc3, part3, noPart3, ilst3, itup3, irng1, irng2, for3, fCat, fEq_int, fNe_int, fEq_bl, fNe_bl, fEq_pair, fNe_pair, List.map, List.replicate, List.length_cons, List.length_nil, List.set_cons_zero, List.set_cons_succ, List.getElem?_cons_zero, List.getElem?_cons_succ, List.cons_append, List.nil_append, at_0, at_1, at_2, at_3, at_4, at_5, at_6, ix_0, ix_1, ix_2, put_same, put_put, decide_eq_true_eq, Bool.not_eq_true', decide_eq_false_iff_not, ite_not, ite_true, ite_false, if_true, if_false, Bool.false_eq_true, ↓reduceIte, reduceIte, Nat.reduceAdd, Nat.reduceSub, Int.reduceToNat, Nat.reduceLeDiff, not_false_eq_true, true_and, and_true, ne_eq, Int.reduceEq, Nat.zero_add, Bool.not_true, Bool.not_false, reduceCtorEq, nc0, nc1, nc2, nc3, nc4, nc5, fIx_ref put_same, fLen_ref put_same, fIx_dy0, fIx_dy1, fEq_dy, fNe_dy, fIx_bx0, fIx_bx1, fEq_opt, fNe_opt, fNe_optb, fEq_bx, isN_opt, lc3, fInt, fTuple, fNeS_s, fStr]); (repeat (with_reducible refine later_i ?_; try simp only [seq3_stop, ifS3, b3, op3, un3, v3, c3, fIx_tup, fIx_lst, at3_0, at3_1, at3_2, at3_3, at3_4, at3_5, at3_6, start3, fI0_i, fI_i, fLt, fLe, fGt, fGe, fEqI, fNeI, fMin, fMax, asg3, name3, sub3, ret3, retN3, nx3, drop3, par3, aug3, and3, or3, not3, andV3, orV3, notV3, if3, nil3, cons3, tup3, lst3, lstM3, gtup3, gcons3, gnil3, gunl3, bits3, neg3, chain3, fIsi, isiD, fLen_lst, fLen_tup, fAbs, call3, isN3, notN3, dIsN_non, dIsN_int, dIsN_bl, dIsN_str, dIsN_tup, dIsN_lst, slc3, part3, noPart3, ilst3, itup3, irng1, irng2, for3, fCat, fEq_int, fNe_int, fEq_bl, fNe_bl, fEq_pair, fNe_pair, List.map, List.replicate, List.length_cons, List.length_nil, List.set_cons_zero, List.set_cons_succ, List.getElem?_cons_zero, List.getElem?_cons_succ, List.cons_append, List.nil_append, at_0, at_1, at_2, at_3, at_4, at_5, at_6, ix_0, ix_1, ix_2, put_same, put_put, decide_eq_true_eq, Bool.not_eq_true', decide_eq_false_iff_not, ite_not, ite_true, ite_false, if_true, if_false, Bool.false_eq_true, ↓reduceIte, reduceIte, Nat.reduceAdd, Nat.reduceSub, Int.reduceToNat, Nat.reduceLeDiff, not_false_eq_true, true_and, and_true, ne_eq, Int.reduceEq, Nat.zero_add, Bool.not_true, Bool.not_false, reduceCtorEq, nc0, nc1, nc2, nc3, nc4, nc5, fIx_ref put_same, fLen_ref put_same, fIx_dy0, fIx_dy1, fEq_dy, fNe_dy, fIx_bx0, fIx_bx1, fEq_opt, fNe_opt, fNe_optb, fEq_bx, isN_opt, lc3, fInt, fTuple, fNeS_s, fStr]))
      generalize hT : seq3 (asg3 _ (name3 5)) _ = TT
      have tl : Later TT { nx := fun x m' => Q D.non m', rt := Q } [some (boxD a), some (boxD b), some (dyD (dmost a.1 b.1)), some (dyD (dleast a.2 b.2)), some (optD (commonB a b)), none, none, none, none] m := by
        subst hT
        (try simp only [seq3_stop, ifS3, b3, op3, un3, v3, c3, fIx_tup, fIx_lst, at3_0, at3_1, at3_2, at3_3, at3_4, at3_5, at3_6, start3, fI0_i, fI_i, fLt, fLe, fGt, fGe, fEqI, fNeI, fMin, fMax, asg3, name3, sub3, ret3, retN3, nx3, drop3, par3, aug3, not3, notV3, if3, nil3, cons3, tup3, lst3, lstM3, gtup3, gcons3, gnil3, gunl3, bits3, neg3, chain3, fIsi, isiD, fLen_lst, fLen_tup, fAbs, call3, isN3, notN3, dIsN_non, dIsN_int, dIsN_bl, dIsN_str, dIsN_tup, dIsN_lst, slc3, part3, noPart3, ilst3, itup3, irng1, irng2, for3, fCat, fEq_int, fNe_int, fEq_bl, fNe_bl, fEq_pair, fNe_pair, List.map, List.replicate, List.length_cons, List.length_nil, List.set_cons_zero, List.set_cons_succ, List.getElem?_cons_zero, List.getElem?_cons_succ, List.cons_append, List.nil_append, at_0, at_1, at_2, at_3, at_4, at_5, at_6, ix_0, ix_1, ix_2, put_same, put_put, decide_eq_true_eq, Bool.not_eq_true', decide_eq_false_iff_not, ite_not, ite_true, ite_false, if_true, if_false, Bool.false_eq_true, ↓reduceIte, reduceIte, Nat.reduceAdd, Nat.reduceSub, Int.reduceToNat, Nat.reduceLeDiff, not_false_eq_true, true_and, and_true, ne_eq, Int.reduceEq, Nat.zero_add, Bool.not_true, Bool.not_false, reduceCtorEq, nc0, nc1, nc2, nc3, nc4, nc5, fIx_ref put_same, fLen_ref put_same, fIx_dy0, fIx_dy1, fEq_dy, fNe_dy, fIx_bx0, fIx_bx1, fEq_opt, fNe_opt, fNe_optb, fEq_bx, isN_opt, lc3, fInt, fTuple, fNeS_s, fStr]); (repeat (with_reducible refine later_i ?_; try simp only [seq3_stop, ifS3, b3, op3, un3, v3, c3, fIx_tup, fIx_lst, at3_0, at3_1, at3_2, at3_3, at3_4, at3_5, at3_6, start3, fI0_i, fI_i, fLt, fLe, fGt, fGe, fEqI, fNeI, fMin, fMax, asg3, name3, sub3, ret3, retN3, nx3, drop3, par3, aug3, not3, notV3, if3, nil3, cons3, tup3, lst3, lstM3, gtup3, gcons3, gnil3, gunl3, bits3, neg3, chain3, fIsi, isiD, fLen_lst, fLen_tup, fAbs, call3, isN3, notN3, dIsN_non, dIsN_int, dIsN_bl, dIsN_str, dIsN_tup, dIsN_lst, slc3, part3, noPart3, ilst3, itup3, irng1, irng2, for3, fCat, fEq_int, fNe_int, fEq_bl, fNe_bl, fEq_pair, fNe_pair, List.map, List.replicate, List.length_cons, List.length_nil, List.set_cons_zero, List.set_cons_succ, List.getElem?_cons_zero, List.getElem?_cons_succ, List.cons_append, List.nil_append, at_0, at_1, at_2, at_3, at_4, at_5, at_6, ix_0, ix_1, ix_2, put_same, put_put, decide_eq_true_eq, Bool.not_eq_true', decide_eq_false_iff_not, ite_not, ite_true, ite_false, if_true, if_false, Bool.false_eq_true, ↓reduceIte, reduceIte, Nat.reduceAdd, Nat.reduceSub, Int.reduceToNat, Nat.reduceLeDiff, not_false_eq_true, true_and, and_true, ne_eq, Int.reduceEq, Nat.zero_add, Bool.not_true, Bool.not_false, reduceCtorEq, nc0, nc1, nc2, nc3, nc4, nc5, fIx_ref put_same, fLen_ref put_same, fIx_dy0, fIx_dy1, fEq_dy, fNe_dy, fIx_bx0, fIx_bx1, fEq_opt, fNe_opt, fNe_optb, fEq_bx, isN_opt, lc3, fInt, fTuple, fNeS_s, fStr]))
        refine andV3_j (b1 := !dless a.1 b.1) (b2 := !dless b.2 a.2) (fun P k => ?_) (fun _ P k => ?_) ?_
        · (try simp only [seq3_stop, ifS3, b3, op3, un3, v3, c3, fIx_tup, fIx_lst, at3_0, at3_1, at3_2, at3_3, at3_4, at3_5, at3_6, start3, fI0_i, fI_i, fLt, fLe, fGt, fGe, fEqI, fNeI, fMin, fMax, asg3, name3, sub3, ret3, retN3, nx3, drop3, par3, aug3, not3, notV3, if3, nil3, cons3, tup3, lst3, lstM3, gtup3, gcons3, gnil3, gunl3, bits3, neg3, chain3, fIsi, isiD, fLen_lst, fLen_tup, fAbs, call3, isN3, notN3, dIsN_non, dIsN_int, dIsN_bl, dIsN_str, dIsN_tup, dIsN_lst, slc3, part3, noPart3, ilst3, itup3, irng1, irng2, for3, fCat, fEq_int, fNe_int, fEq_bl, fNe_bl, fEq_pair, fNe_pair, List.map, List.replicate, List.length_cons, List.length_nil, List.set_cons_zero, List.set_cons_succ, List.getElem?_cons_zero, List.getElem?_cons_succ, List.cons_append, List.nil_append, at_0, at_1, at_2, at_3, at_4, at_5, at_6, ix_0, ix_1, ix_2, put_same, put_put, decide_eq_true_eq, Bool.not_eq_true', decide_eq_false_iff_not, ite_not, ite_true, ite_false, if_true, if_false, Bool.false_eq_true, ↓reduceIte, reduceIte, Nat.reduceAdd, Nat.reduceSub, Int.reduceToNat, Nat.reduceLeDiff, not_false_eq_true, true_and, and_true, ne_eq, Int.reduceEq, Nat.zero_add, Bool.not_true, Bool.not_false, reduceCtorEq, nc0, nc1, nc2, nc3, nc4, nc5, fIx_ref put_same, fLen_ref put_same, fIx_dy0, fIx_dy1, fEq_dy, fNe_dy, fIx_bx0, fIx_bx1, fEq_opt, fNe_opt, fNe_optb, fEq_bx, isN_opt, lc3, fInt, fTuple, fNeS_s, fStr]); (repeat (with_reducible refine later_i ?_; try simp only [seq3_stop, ifS3, b3, op3, un3, v3, c3, fIx_tup, fIx_lst, at3_0, at3_1, at3_2, at3_3, at3_4, at3_5, at3_6, start3, fI0_i, fI_i, fLt, fLe, fGt, fGe, fEqI, fNeI, fMin, fMax, asg3, name3, sub3, ret3, retN3, nx3, drop3, par3, aug3, not3, notV3, if3, nil3, cons3, tup3, lst3, lstM3, gtup3, gcons3, gnil3, gunl3, bits3, neg3, chain3, fIsi, isiD, fLen_lst, fLen_tup, fAbs, call3, isN3, notN3, dIsN_non, dIsN_int, dIsN_bl, dIsN_str, dIsN_tup, dIsN_lst, slc3, part3, noPart3, ilst3, itup3, irng1, irng2, for3, fCat, fEq_int, fNe_int, fEq_bl, fNe_bl, fEq_pair, fNe_pair, List.map, List.replicate, List.length_cons, List.length_nil, List.set_cons_zero, List.set_cons_succ, List.getElem?_cons_zero, List.getElem?_cons_succ, List.cons_append, List.nil_append, at_0, at_1, at_2, at_3, at_4, at_5, at_6, ix_0, ix_1, ix_2, put_same, put_put, decide_eq_true_eq, Bool.not_eq_true', decide_eq_false_iff_not, ite_not, ite_true, ite_false, if_true, if_false, Bool.false_eq_true, ↓reduceIte, reduceIte, Nat.reduceAdd, Nat.reduceSub, Int.reduceToNat, Nat.reduceLeDiff, not_false_eq_true, true_and, and_true, ne_eq, Int.reduceEq, Nat.zero_add, Bool.not_true, Bool.not_false, reduceCtorEq, nc0, nc1, nc2, nc3, nc4, nc5, fIx_ref put_same, fLen_ref put_same, fIx_dy0, fIx_dy1, fEq_dy, fNe_dy, fIx_bx0, fIx_bx1, fEq_opt, fNe_opt, fNe_optb, fEq_bx, isN_opt, lc3, fInt, fTuple, fNeS_s, fStr]))
          exact less ha.sm.1 hb.sm.1 k
        · (try simp only [seq3_stop, ifS3, b3, op3, un3, v3, c3, fIx_tup, fIx_lst, at3_0, at3_1, at3_2, at3_3, at3_4, at3_5, at3_6, start3, fI0_i, fI_i, fLt, fLe, fGt, fGe, fEqI, fNeI, fMin, fMax, asg3, name3, sub3, ret3, retN3, nx3, drop3, par3, aug3, not3, notV3, if3, nil3, cons3, tup3, lst3, lstM3, gtup3, gcons3, gnil3, gunl3, bits3, neg3, chain3, fIsi, isiD, fLen_lst, fLen_tup, fAbs, call3, isN3, notN3, dIsN_non, dIsN_int, dIsN_bl, dIsN_str, dIsN_tup, dIsN_lst, slc3, part3, noPart3, ilst3, itup3, irng1, irng2, for3, fCat, fEq_int, fNe_int, fEq_bl, fNe_bl, fEq_pair, fNe_pair, List.map, List.replicate, List.length_cons, List.length_nil, List.set_cons_zero, List.set_cons_succ, List.getElem?_cons_zero, List.getElem?_cons_succ, List.cons_append, List.nil_append, at_0, at_1, at_2, at_3, at_4, at_5, at_6, ix_0, ix_1, ix_2, put_same, put_put, decide_eq_true_eq, Bool.not_eq_true', decide_eq_false_iff_not, ite_not, ite_true, ite_false, if_true, if_false, Bool.false_eq_true, ↓reduceIte, reduceIte, Nat.reduceAdd, Nat.reduceSub, Int.reduceToNat, Nat.reduceLeDiff, not_false_eq_true, true_and, and_true, ne_eq, Int.reduceEq, Nat.zero_add, Bool.not_true, Bool.not_false, reduceCtorEq, nc0, nc1, nc2, nc3, nc4, nc5, fIx_ref put_same, fLen_ref put_same, fIx_dy0, fIx_dy1, fEq_dy, fNe_dy, fIx_bx0, fIx_bx1, fEq_opt, fNe_opt, fNe_optb, fEq_bx, isN_opt, lc3, fInt, fTuple, fNeS_s, fStr]); (repeat (with_reducible refine later_i ?_; try simp only [seq3_stop, ifS3, b3, op3, un3, v3, c3, fIx_tup, fIx_lst, at3_0, at3_1, at3_2, at3_3, at3_4, at3_5, at3_6, start3, fI0_i, fI_i, fLt, fLe, fGt, fGe, fEqI, fNeI, fMin, fMax, asg3, name3, sub3, ret3, retN3, nx3, drop3, par3, aug3, not3, notV3, if3, nil3, cons3, tup3, lst3, lstM3, gtup3, gcons3, gnil3, gunl3, bits3, neg3, chain3, fIsi, isiD, fLen_lst, fLen_tup, fAbs, call3, isN3, notN3, dIsN_non, dIsN_int, dIsN_bl, dIsN_str, dIsN_tup, dIsN_lst, slc3, part3, noPart3, ilst3, itup3, irng1, irng2, for3, fCat, fEq_int, fNe_int, fEq_bl, fNe_bl, fEq_pair, fNe_pair, List.map, List.replicate, List.length_cons, List.length_nil, List.set_cons_zero, List.set_cons_succ, List.getElem?_cons_zero, List.getElem?_cons_succ, List.cons_append, List.nil_append, at_0, at_1, at_2, at_3, at_4, at_5, at_6, ix_0, ix_1, ix_2, put_same, put_put, decide_eq_true_eq, Bool.not_eq_true', decide_eq_false_iff_not, ite_not, ite_true, ite_false, if_true, if_false, Bool.false_eq_true, ↓reduceIte, reduceIte, Nat.reduceAdd, Nat.reduceSub, Int.reduceToNat, Nat.reduceLeDiff, not_false_eq_true, true_and, and_true, ne_eq, Int.reduceEq, Nat.zero_add, Bool.not_true, Bool.not_false, reduceCtorEq, nc0, nc1, nc2, nc3, nc4, nc5, fIx_ref put_same, fLen_ref put_same, fIx_dy0, fIx_dy1, fEq_dy, fNe_dy, fIx_bx0, fIx_bx1, fEq_opt, fNe_opt, fNe_optb, fEq_bx, isN_opt, lc3, fInt, fTuple, fNeS_s, fStr]))
          exact less hb.sm.2 ha.sm.2 k
        rw [show (!dless a.1 b.1 && !dless b.2 a.2) = withinB a b from rfl]
        (try simp only [seq3_stop, ifS3, b3, op3, un3, v3, c3, fIx_tup, fIx_lst, at3_0, at3_1, at3_2, at3_3, at3_4, at3_5, at3_6, start3, fI0_i, fI_i, fLt, fLe, fGt, fGe, fEqI, fNeI, fMin, fMax, asg3, name3, sub3, ret3, retN3, nx3, drop3, par3, aug3, not3, notV3, if3, nil3, cons3, tup3, lst3, lstM3, gtup3, gcons3, gnil3, gunl3, bits3, neg3, chain3, fIsi, isiD, fLen_lst, fLen_tup, fAbs, call3, isN3, notN3, dIsN_non, dIsN_int, dIsN_bl, dIsN_str, dIsN_tup, dIsN_lst, slc3, part3, noPart3, ilst3, itup3, irng1, irng2, for3, fCat, fEq_int, fNe_int, fEq_bl, fNe_bl, fEq_pair, fNe_pair, List.map, List.replicate, List.length_cons, List.length_nil, List.set_cons_zero, List.set_cons_succ, List.getElem?_cons_zero, List.getElem?_cons_succ, List.cons_append, List.nil_append, at_0, at_1, at_2, at_3, at_4, at_5, at_6, ix_0, ix_1, ix_2, put_same, put_put, decide_eq_true_eq, Bool.not_eq_true', decide_eq_false_iff_not, ite_not, ite_true, ite_false, if_true, if_false, Bool.false_eq_true, ↓reduceIte, reduceIte, Nat.reduceAdd, Nat.reduceSub, Int.reduceToNat, Nat.reduceLeDiff, not_false_eq_true, true_and, and_true, ne_eq, Int.reduceEq, Nat.zero_add, Bool.not_true, Bool.not_false, reduceCtorEq, nc0, nc1, nc2, nc3, nc4, nc5, fIx_ref put_same, fLen_ref put_same, fIx_dy0, fIx_dy1, fEq_dy, fNe_dy, fIx_bx0, fIx_bx1, fEq_opt, fNe_opt, fNe_optb, fEq_bx, isN_opt, lc3, fInt, fTuple, fNeS_s, fStr]); (repeat (with_reducible refine later_i ?_; try simp only [seq3_stop, ifS3, b3, op3, un3, v3, c3, fIx_tup, fIx_lst, at3_0, at3_1, at3_2, at3_3, at3_4, at3_5, at3_6, start3, fI0_i, fI_i, fLt, fLe, fGt, fGe, fEqI, fNeI, fMin, fMax, asg3, name3, sub3, ret3, retN3, nx3, drop3, par3, aug3, not3, notV3, if3, nil3, cons3, tup3, lst3, lstM3, gtup3, gcons3, gnil3, gunl3, bits3, neg3, chain3, fIsi, isiD, fLen_lst, fLen_tup, fAbs, call3, isN3, notN3, dIsN_non, dIsN_int, dIsN_bl, dIsN_str, dIsN_tup, dIsN_lst, slc3, part3, noPart3, ilst3, itup3, irng1, irng2, for3, fCat, fEq_int, fNe_int, fEq_bl, fNe_bl, fEq_pair, fNe_pair, List.map, List.replicate, List.length_cons, List.length_nil, List.set_cons_zero, List.set_cons_succ, List.getElem?_cons_zero, List.getElem?_cons_succ, List.cons_append, List.nil_append, at_0, at_1, at_2, at_3, at_4, at_5, at_6, ix_0, ix_1, ix_2, put_same, put_put, decide_eq_true_eq, Bool.not_eq_true', decide_eq_false_iff_not, ite_not, ite_true, ite_false, if_true, if_false, Bool.false_eq_true, ↓reduceIte, reduceIte, Nat.reduceAdd, Nat.reduceSub, Int.reduceToNat, Nat.reduceLeDiff, not_false_eq_true, true_and, and_true, ne_eq, Int.reduceEq, Nat.zero_add, Bool.not_true, Bool.not_false, reduceCtorEq, nc0, nc1, nc2, nc3, nc4, nc5, fIx_ref put_same, fLen_ref put_same, fIx_dy0, fIx_dy1, fEq_dy, fNe_dy, fIx_bx0, fIx_bx1, fEq_opt, fNe_opt, fNe_optb, fEq_bx, isN_opt, lc3, fInt, fTuple, fNeS_s, fStr]))
        refine ⟨_, _, rfl, ha.sm, hb.sm, ?_⟩
        (try simp only [seq3_stop, ifS3, b3, op3, un3, v3, c3, fIx_tup, fIx_lst, at3_0, at3_1, at3_2, at3_3, at3_4, at3_5, at3_6, start3, fI0_i, fI_i, fLt, fLe, fGt, fGe, fEqI, fNeI, fMin, fMax, asg3, name3, sub3, ret3, retN3, nx3, drop3, par3, aug3, and3, or3, not3, andV3, orV3, notV3, if3, nil3, cons3, tup3, lst3, lstM3, gtup3, gcons3, gnil3, gunl3, bits3, neg3, chain3, fIsi, isiD, fLen_lst, fLen_tup, fAbs, call3, isN3, notN3, dIsN_non, dIsN_int, dIsN_bl, dIsN_str, dIsN_tup, dIsN_lst, slc3, part3, noPart3, ilst3, itup3, irng1, irng2, for3, fCat, fEq_int, fNe_int, fEq_bl, fNe_bl, fEq_pair, fNe_pair, List.map, List.replicate, List.length_cons, List.length_nil, List.set_cons_zero, List.set_cons_succ, List.getElem?_cons_zero, List.getElem?_cons_succ, List.cons_append, List.nil_append, at_0, at_1, at_2, at_3, at_4, at_5, at_6, ix_0, ix_1, ix_2, put_same, put_put, decide_eq_true_eq, Bool.not_eq_true', decide_eq_false_iff_not, ite_not, ite_true, ite_false, if_true, if_false, Bool.false_eq_true, ↓reduceIte, reduceIte, Nat.reduceAdd, Nat.reduceSub, Int.reduceToNat, Nat.reduceLeDiff, not_false_eq_true, true_and, and_true, ne_eq, Int.reduceEq, Nat.zero_add, Bool.not_true, Bool.not_false, reduceCtorEq, nc0, nc1, nc2, nc3, nc4, nc5, fIx_ref put_same, fLen_ref put_same, fIx_dy0, fIx_dy1, fEq_dy, fNe_dy, fIx_bx0, fIx_bx1, fEq_opt, fNe_opt, fNe_optb, fEq_bx, isN_opt, lc3, fInt, fTuple, fNeS_s, fStr, beq_self_eq_true]); (repeat (with_reducible refine later_i ?_; try simp only [seq3_stop, ifS3, b3, op3, un3, v3, c3, fIx_tup, fIx_lst, at3_0, at3_1, at3_2, at3_3, at3_4, at3_5, at3_6, start3, fI0_i, fI_i, fLt, fLe, fGt, fGe, fEqI, fNeI, fMin, fMax, asg3, name3, sub3, ret3, retN3, nx3, drop3, par3, aug3, and3, or3, not3, andV3, orV3, notV3, if3, nil3, cons3, tup3, lst3, lstM3, gtup3, gcons3, gnil3, gunl3, bits3, neg3, chain3, fIsi, isiD, fLen_lst, fLen_tup, fAbs, call3, isN3, notN3, dIsN_non, dIsN_int, dIsN_bl, dIsN_str, dIsN_tup, dIsN_lst, slc3, part3, noPart3, ilst3, itup3, irng1, irng2, for3, fCat, fEq_int, fNe_int, fEq_bl, fNe_bl, fEq_pair, fNe_pair, List.map, List.replicate, List.length_cons, List.length_nil, List.set_cons_zero, List.set_cons_succ, List.getElem?_cons_zero, List.getElem?_cons_succ, List.cons_append, List.nil_append, at_0, at_1, at_2, at_3, at_4, at_5, at_6, ix_0, ix_1, ix_2, put_same, put_put, decide_eq_true_eq, Bool.not_eq_true', decide_eq_false_iff_not, ite_not, ite_true, ite_false, if_true, if_false, Bool.false_eq_true, ↓reduceIte, reduceIte, Nat.reduceAdd, Nat.reduceSub, Int.reduceToNat, Nat.reduceLeDiff, not_false_eq_true, true_and, and_true, ne_eq, Int.reduceEq, Nat.zero_add, Bool.not_true, Bool.not_false, reduceCtorEq, nc0, nc1, nc2, nc3, nc4, nc5, fIx_ref put_same, fLen_ref put_same, fIx_dy0, fIx_dy1, fEq_dy, fNe_dy, fIx_bx0, fIx_bx1, fEq_opt, fNe_opt, fNe_optb, fEq_bx, isN_opt, lc3, fInt, fTuple, fNeS_s, fStr, beq_self_eq_true]))
        refine ⟨_, _, rfl, ha.sm, hb.sm, ?_⟩
        (try simp only [seq3_stop, ifS3, b3, op3, un3, v3, c3, fIx_tup, fIx_lst, at3_0, at3_1, at3_2, at3_3, at3_4, at3_5, at3_6, start3, fI0_i, fI_i, fLt, fLe, fGt, fGe, fEqI, fNeI, fMin, fMax, asg3, name3, sub3, ret3, retN3, nx3, drop3, par3, aug3, and3, or3, not3, andV3, orV3, notV3, if3, nil3, cons3, tup3, lst3, lstM3, gtup3, gcons3, gnil3, gunl3, bits3, neg3, chain3, fIsi, isiD, fLen_lst, fLen_tup, fAbs, call3, isN3, notN3, dIsN_non, dIsN_int, dIsN_bl, dIsN_str, dIsN_tup, dIsN_lst, slc3, part3, noPart3, ilst3, itup3, irng1, irng2, for3, fCat, fEq_int, fNe_int, fEq_bl, fNe_bl, fEq_pair, fNe_pair, List.map, List.replicate, List.length_cons, List.length_nil, List.set_cons_zero, List.set_cons_succ, List.getElem?_cons_zero, List.getElem?_cons_succ, List.cons_append, List.nil_append, at_0, at_1, at_2, at_3, at_4, at_5, at_6, ix_0, ix_1, ix_2, put_same, put_put, decide_eq_true_eq, Bool.not_eq_true', decide_eq_false_iff_not, ite_not, ite_true, ite_false, if_true, if_false, Bool.false_eq_true, ↓reduceIte, reduceIte, Nat.reduceAdd, Nat.reduceSub, Int.reduceToNat, Nat.reduceLeDiff, not_false_eq_true, true_and, and_true, ne_eq, Int.reduceEq, Nat.zero_add, Bool.not_true, Bool.not_false, reduceCtorEq, nc0, nc1, nc2, nc3, nc4, nc5, fIx_ref put_same, fLen_ref put_same, fIx_dy0, fIx_dy1, fEq_dy, fNe_dy, fIx_bx0, fIx_bx1, fEq_opt, fNe_opt, fNe_optb, fEq_bx, isN_opt, lc3, fInt, fTuple, fNeS_s, fStr, decide_true]); (repeat (with_reducible refine later_i ?_; try simp only [seq3_stop, ifS3, b3, op3, un3, v3, c3, fIx_tup, fIx_lst, at3_0, at3_1, at3_2, at3_3, at3_4, at3_5, at3_6, start3, fI0_i, fI_i, fLt, fLe, fGt, fGe, fEqI, fNeI, fMin, fMax, asg3, name3, sub3, ret3, retN3, nx3, drop3, par3, aug3, and3, or3, not3, andV3, orV3, notV3, if3, nil3, cons3, tup3, lst3, lstM3, gtup3, gcons3, gnil3, gunl3, bits3, neg3, chain3, fIsi, isiD, fLen_lst, fLen_tup, fAbs, call3, isN3, notN3, dIsN_non, dIsN_int, dIsN_bl, dIsN_str, dIsN_tup, dIsN_lst, slc3, part3, noPart3, ilst3, itup3, irng1, irng2, for3, fCat, fEq_int, fNe_int, fEq_bl, fNe_bl, fEq_pair, fNe_pair, List.map, List.replicate, List.length_cons, List.length_nil, List.set_cons_zero, List.set_cons_succ, List.getElem?_cons_zero, List.getElem?_cons_succ, List.cons_append, List.nil_append, at_0, at_1, at_2, at_3, at_4, at_5, at_6, ix_0, ix_1, ix_2, put_same, put_put, decide_eq_true_eq, Bool.not_eq_true', decide_eq_false_iff_not, ite_not, ite_true, ite_false, if_true, if_false, Bool.false_eq_true, ↓reduceIte, reduceIte, Nat.reduceAdd, Nat.reduceSub, Int.reduceToNat, Nat.reduceLeDiff, not_false_eq_true, true_and, and_true, ne_eq, Int.reduceEq, Nat.zero_add, Bool.not_true, Bool.not_false, reduceCtorEq, nc0, nc1, nc2, nc3, nc4, nc5, fIx_ref put_same, fLen_ref put_same, fIx_dy0, fIx_dy1, fEq_dy, fNe_dy, fIx_bx0, fIx_bx1, fEq_opt, fNe_opt, fNe_optb, fEq_bx, isN_opt, lc3, fInt, fTuple, fNeS_s, fStr, decide_true]))
        (try simp only [seq3_stop, ifS3, b3, op3, un3, v3, c3, fIx_tup, fIx_lst, at3_0, at3_1, at3_2, at3_3, at3_4, at3_5, at3_6, start3, fI0_i, fI_i, fLt, fLe, fGt, fGe, fEqI, fNeI, fMin, fMax, asg3, name3, sub3, ret3, retN3, nx3, drop3, par3, aug3, and3, or3, not3, andV3, orV3, notV3, if3, nil3, cons3, tup3, lst3, lstM3, gtup3, gcons3, gnil3, gunl3, bits3, neg3, chain3, fIsi, isiD, fLen_lst, fLen_tup, fAbs, call3, isN3, notN3, dIsN_non, dIsN_int, dIsN_bl, dIsN_str, dIsN_tup, dIsN_lst, slc3, part3, noPart3, ilst3, itup3, irng1, irng2, for3, fCat, fEq_int, fNe_int, fEq_bl, fNe_bl, fEq_pair, fNe_pair, List.map, List.replicate, List.length_cons, List.length_nil, List.set_cons_zero, List.set_cons_succ, List.getElem?_cons_zero, List.getElem?_cons_succ, List.cons_append, List.nil_append, at_0, at_1, at_2, at_3, at_4, at_5, at_6, ix_0, ix_1, ix_2, put_same, put_put, decide_eq_true_eq, Bool.not_eq_true', decide_eq_false_iff_not, ite_not, ite_true, ite_false, if_true, if_false, Bool.false_eq_true, ↓reduceIte, reduceIte, Nat.reduceAdd, Nat.reduceSub, Int.reduceToNat, Nat.reduceLeDiff, not_false_eq_true, true_and, and_true, ne_eq, Int.reduceEq, Nat.zero_add, Bool.not_true, Bool.not_false, reduceCtorEq, nc0, nc1, nc2, nc3, nc4, nc5, fIx_ref put_same, fLen_ref put_same, fIx_dy0, fIx_dy1, fEq_dy, fNe_dy, fIx_bx0, fIx_bx1, fEq_opt, fNe_opt, fNe_optb, fEq_bx, isN_opt, lc3, fInt, fTuple, fNeS_s, fStr, dmx_eq]); (repeat (with_reducible refine later_i ?_; try simp only [seq3_stop, ifS3, b3, op3, un3, v3, c3, fIx_tup, fIx_lst, at3_0, at3_1, at3_2, at3_3, at3_4, at3_5, at3_6, start3, fI0_i, fI_i, fLt, fLe, fGt, fGe, fEqI, fNeI, fMin, fMax, asg3, name3, sub3, ret3, retN3, nx3, drop3, par3, aug3, and3, or3, not3, andV3, orV3, notV3, if3, nil3, cons3, tup3, lst3, lstM3, gtup3, gcons3, gnil3, gunl3, bits3, neg3, chain3, fIsi, isiD, fLen_lst, fLen_tup, fAbs, call3, isN3, notN3, dIsN_non, dIsN_int, dIsN_bl, dIsN_str, dIsN_tup, dIsN_lst, slc3, part3, noPart3, ilst3, itup3, irng1, irng2, for3, fCat, fEq_int, fNe_int, fEq_bl, fNe_bl, fEq_pair, fNe_pair, List.map, List.replicate, List.length_cons, List.length_nil, List.set_cons_zero, List.set_cons_succ, List.getElem?_cons_zero, List.getElem?_cons_succ, List.cons_append, List.nil_append, at_0, at_1, at_2, at_3, at_4, at_5, at_6, ix_0, ix_1, ix_2, put_same, put_put, decide_eq_true_eq, Bool.not_eq_true', decide_eq_false_iff_not, ite_not, ite_true, ite_false, if_true, if_false, Bool.false_eq_true, ↓reduceIte, reduceIte, Nat.reduceAdd, Nat.reduceSub, Int.reduceToNat, Nat.reduceLeDiff, not_false_eq_true, true_and, and_true, ne_eq, Int.reduceEq, Nat.zero_add, Bool.not_true, Bool.not_false, reduceCtorEq, nc0, nc1, nc2, nc3, nc4, nc5, fIx_ref put_same, fLen_ref put_same, fIx_dy0, fIx_dy1, fEq_dy, fNe_dy, fIx_bx0, fIx_bx1, fEq_opt, fNe_opt, fNe_optb, fEq_bx, isN_opt, lc3, fInt, fTuple, fNeS_s, fStr, dmx_eq]))
        have h1 : a.1.2 ≤ dmx a.1 a.2 := Nat.le_max_left _ _
        have h2 : a.2.2 ≤ dmx a.1 a.2 := Nat.le_max_right _ _
        have h3 : dmx a.1 a.2 ≤ 1000000 := Nat.max_le.mpr ⟨ha.sm.1.2, ha.sm.2.2⟩
        refine ⟨shl_c ha.sm.2.1 (by omega) (by omega), shl_c ha.sm.1.1 (by omega) (by omega), ?_⟩
        (try simp only [seq3_stop, ifS3, b3, op3, un3, v3, c3, fIx_tup, fIx_lst, at3_0, at3_1, at3_2, at3_3, at3_4, at3_5, at3_6, start3, fI0_i, fI_i, fLt, fLe, fGt, fGe, fEqI, fNeI, fMin, fMax, asg3, name3, sub3, ret3, retN3, nx3, drop3, par3, aug3, and3, or3, not3, andV3, orV3, notV3, if3, nil3, cons3, tup3, lst3, lstM3, gtup3, gcons3, gnil3, gunl3, bits3, neg3, chain3, fIsi, isiD, fLen_lst, fLen_tup, fAbs, call3, isN3, notN3, dIsN_non, dIsN_int, dIsN_bl, dIsN_str, dIsN_tup, dIsN_lst, slc3, part3, noPart3, ilst3, itup3, irng1, irng2, for3, fCat, fEq_int, fNe_int, fEq_bl, fNe_bl, fEq_pair, fNe_pair, List.map, List.replicate, List.length_cons, List.length_nil, List.set_cons_zero, List.set_cons_succ, List.getElem?_cons_zero, List.getElem?_cons_succ, List.cons_append, List.nil_append, at_0, at_1, at_2, at_3, at_4, at_5, at_6, ix_0, ix_1, ix_2, put_same, put_put, decide_eq_true_eq, Bool.not_eq_true', decide_eq_false_iff_not, ite_not, ite_true, ite_false, if_true, if_false, Bool.false_eq_true, ↓reduceIte, reduceIte, Nat.reduceAdd, Nat.reduceSub, Int.reduceToNat, Nat.reduceLeDiff, not_false_eq_true, true_and, and_true, ne_eq, Int.reduceEq, Nat.zero_add, Bool.not_true, Bool.not_false, reduceCtorEq, nc0, nc1, nc2, nc3, nc4, nc5, fIx_ref put_same, fLen_ref put_same, fIx_dy0, fIx_dy1, fEq_dy, fNe_dy, fIx_bx0, fIx_bx1, fEq_opt, fNe_opt, fNe_optb, fEq_bx, isN_opt, lc3, fInt, fTuple, fNeS_s, fStr]); (repeat (with_reducible refine later_i ?_; try simp only [seq3_stop, ifS3, b3, op3, un3, v3, c3, fIx_tup, fIx_lst, at3_0, at3_1, at3_2, at3_3, at3_4, at3_5, at3_6, start3, fI0_i, fI_i, fLt, fLe, fGt, fGe, fEqI, fNeI, fMin, fMax, asg3, name3, sub3, ret3, retN3, nx3, drop3, par3, aug3, and3, or3, not3, andV3, orV3, notV3, if3, nil3, cons3, tup3, lst3, lstM3, gtup3, gcons3, gnil3, gunl3, bits3, neg3, chain3, fIsi, isiD, fLen_lst, fLen_tup, fAbs, call3, isN3, notN3, dIsN_non, dIsN_int, dIsN_bl, dIsN_str, dIsN_tup, dIsN_lst, slc3, part3, noPart3, ilst3, itup3, irng1, irng2, for3, fCat, fEq_int, fNe_int, fEq_bl, fNe_bl, fEq_pair, fNe_pair, List.map, List.replicate, List.length_cons, List.length_nil, List.set_cons_zero, List.set_cons_succ, List.getElem?_cons_zero, List.getElem?_cons_succ, List.cons_append, List.nil_append, at_0, at_1, at_2, at_3, at_4, at_5, at_6, ix_0, ix_1, ix_2, put_same, put_put, decide_eq_true_eq, Bool.not_eq_true', decide_eq_false_iff_not, ite_not, ite_true, ite_false, if_true, if_false, Bool.false_eq_true, ↓reduceIte, reduceIte, Nat.reduceAdd, Nat.reduceSub, Int.reduceToNat, Nat.reduceLeDiff, not_false_eq_true, true_and, and_true, ne_eq, Int.reduceEq, Nat.zero_add, Bool.not_true, Bool.not_false, reduceCtorEq, nc0, nc1, nc2, nc3, nc4, nc5, fIx_ref put_same, fLen_ref put_same, fIx_dy0, fIx_dy1, fEq_dy, fNe_dy, fIx_bx0, fIx_bx1, fEq_opt, fNe_opt, fNe_optb, fEq_bx, isN_opt, lc3, fInt, fTuple, fNeS_s, fStr]))
        refine ⟨_, rfl, ha.sm, _, _, rfl, by omega, ?_⟩
        have e0 : dmx a.2 a.1 = dmx a.1 a.2 := Nat.max_comm _ _
        rw [show widthB a = nrm (dmx a.1 a.2 : Int).toNat (a.2.1 * 2 ^ ((dmx a.1 a.2 : Int) - (a.2.2 : Int)).toNat - a.1.1 * 2 ^ ((dmx a.1 a.2 : Int) - (a.1.2 : Int)).toNat) from by
          unfold widthB dminus tp
          rw [e0, Int.toNat_natCast, show ((dmx a.1 a.2 : Int) - (a.2.2 : Int)).toNat = dmx a.1 a.2 - a.2.2 by omega, show ((dmx a.1 a.2 : Int) - (a.1.2 : Int)).toNat = dmx a.1 a.2 - a.1.2 by omega]]
        (try simp only [seq3_stop, ifS3, b3, op3, un3, v3, c3, fIx_tup, fIx_lst, at3_0, at3_1, at3_2, at3_3, at3_4, at3_5, at3_6, start3, fI0_i, fI_i, fLt, fLe, fGt, fGe, fEqI, fNeI, fMin, fMax, asg3, name3, sub3, ret3, retN3, nx3, drop3, par3, aug3, and3, or3, not3, andV3, orV3, notV3, if3, nil3, cons3, tup3, lst3, lstM3, gtup3, gcons3, gnil3, gunl3, bits3, neg3, chain3, fIsi, isiD, fLen_lst, fLen_tup, fAbs, call3, isN3, notN3, dIsN_non, dIsN_int, dIsN_bl, dIsN_str, dIsN_tup, dIsN_lst, slc3, part3, noPart3, ilst3, itup3, irng1, irng2, for3, fCat, fEq_int, fNe_int, fEq_bl, fNe_bl, fEq_pair, fNe_pair, List.map, List.replicate, List.length_cons, List.length_nil, List.set_cons_zero, List.set_cons_succ, List.getElem?_cons_zero, List.getElem?_cons_succ, List.cons_append, List.nil_append, at_0, at_1, at_2, at_3, at_4, at_5, at_6, ix_0, ix_1, ix_2, put_same, put_put, decide_eq_true_eq, Bool.not_eq_true', decide_eq_false_iff_not, ite_not, ite_true, ite_false, if_true, if_false, Bool.false_eq_true, ↓reduceIte, reduceIte, Nat.reduceAdd, Nat.reduceSub, Int.reduceToNat, Nat.reduceLeDiff, not_false_eq_true, true_and, and_true, ne_eq, Int.reduceEq, Nat.zero_add, Bool.not_true, Bool.not_false, reduceCtorEq, nc0, nc1, nc2, nc3, nc4, nc5, fIx_ref put_same, fLen_ref put_same, fIx_dy0, fIx_dy1, fEq_dy, fNe_dy, fIx_bx0, fIx_bx1, fEq_opt, fNe_opt, fNe_optb, fEq_bx, isN_opt, lc3, fInt, fTuple, fNeS_s, fStr, decide_true]); (repeat (with_reducible refine later_i ?_; try simp only [seq3_stop, ifS3, b3, op3, un3, v3, c3, fIx_tup, fIx_lst, at3_0, at3_1, at3_2, at3_3, at3_4, at3_5, at3_6, start3, fI0_i, fI_i, fLt, fLe, fGt, fGe, fEqI, fNeI, fMin, fMax, asg3, name3, sub3, ret3, retN3, nx3, drop3, par3, aug3, and3, or3, not3, andV3, orV3, notV3, if3, nil3, cons3, tup3, lst3, lstM3, gtup3, gcons3, gnil3, gunl3, bits3, neg3, chain3, fIsi, isiD, fLen_lst, fLen_tup, fAbs, call3, isN3, notN3, dIsN_non, dIsN_int, dIsN_bl, dIsN_str, dIsN_tup, dIsN_lst, slc3, part3, noPart3, ilst3, itup3, irng1, irng2, for3, fCat, fEq_int, fNe_int, fEq_bl, fNe_bl, fEq_pair, fNe_pair, List.map, List.replicate, List.length_cons, List.length_nil, List.set_cons_zero, List.set_cons_succ, List.getElem?_cons_zero, List.getElem?_cons_succ, List.cons_append, List.nil_append, at_0, at_1, at_2, at_3, at_4, at_5, at_6, ix_0, ix_1, ix_2, put_same, put_put, decide_eq_true_eq, Bool.not_eq_true', decide_eq_false_iff_not, ite_not, ite_true, ite_false, if_true, if_false, Bool.false_eq_true, ↓reduceIte, reduceIte, Nat.reduceAdd, Nat.reduceSub, Int.reduceToNat, Nat.reduceLeDiff, not_false_eq_true, true_and, and_true, ne_eq, Int.reduceEq, Nat.zero_add, Bool.not_true, Bool.not_false, reduceCtorEq, nc0, nc1, nc2, nc3, nc4, nc5, fIx_ref put_same, fLen_ref put_same, fIx_dy0, fIx_dy1, fEq_dy, fNe_dy, fIx_bx0, fIx_bx1, fEq_opt, fNe_opt, fNe_optb, fEq_bx, isN_opt, lc3, fInt, fTuple, fNeS_s, fStr, decide_true]))
        exact q
      refine iteB (fun h => ?_) (fun h => ?_)
      · rwa [show commonB a b = none from if_pos h] at tl
      · rwa [show commonB a b = some (dmost a.1 b.1, dleast a.2 b.2) from if_neg (by rw [h]; exact Bool.false_ne_true)] at tl
    rw [dleast_comm ha.ok.f2 hb.ok.f2] at tl
    refine iteB (fun h => ?_) (fun h => ?_)
    · rwa [show dleast b.2 a.2 = a.2 from if_pos h] at tl
    · rwa [show dleast b.2 a.2 = b.2 from if_neg (by rw [h]; exact Bool.false_ne_true)] at tl
  refine iteB (fun h => ?_) (fun h => ?_)
  · rwa [show dmost a.1 b.1 = b.1 from if_pos h] at tl
  · rwa [show dmost a.1 b.1 = a.1 from if_neg (by rw [h]; exact Bool.false_ne_true)] at tl
theorem ok_law (T : Tx K mg fa fd) : FnG P w K mg base 6 (fa 24) (fd 24) ["script"] sp3Law := by
  refine fnG T.d_law.F sc_law (fun ds m Q h => by obtain ⟨_, rfl, _⟩ := h; rfl) fun cdv A outer s H E ds m Q hr hgd h => ?_
  obtain ⟨ns, rfl, hl, q⟩ := h
  refine ⟨_, (ss_cons (s_for PassesOwn.never rfl (i_list (e_cat (e_lst (a_cons e_int a_nil)) (e_slice (e_v 0) o_none (o_some e_int)))) (g_name (i := 1) sc_law.nd)
      (ss_cons (s_set (i := 2) sc_law.nd (e_call T.d_law_deck (ok_law_deck T) (hr.mono (by omega)) rfl (a_cons (e_v 1) (a_cons e_int a_nil))))
      (ss_cons (s_set (i := 3) sc_law.nd (e_call T.d_law_drawn_box (ok_law_drawn_box T) (hr.mono (by omega)) rfl (a_cons (e_v 2) a_nil)))
      (ss_cons (s_set (i := 4) sc_law.nd (e_call T.d_law_drawn_box (ok_law_drawn_box T) (hr.mono (by omega)) rfl (a_cons (e_v 2) a_nil)))
      (ss_cons (s_if (t_w (t_and (t_eqI (e_call T.d_law_pick (ok_law_pick T) (hr.mono (by omega)) rfl (a_cons (e_v 2) (a_cons e_int a_nil))) e_int) (t_and1 (t_not (t_val (e_call T.d_law_less (ok_law_less T) (hr.mono (by omega)) rfl (a_cons (e_ix (e_v 4) e_int) (a_cons (e_ix (e_v 3) e_int) a_nil)))))))) (ss_one (s_set (i := 4) sc_law.nd (e_tup (a_cons (e_ix (e_v 3) e_int) (a_cons (e_ix (e_v 4) e_int) a_nil))))) ss_nil)
      (ss_cons (s_if (t_w (t_or (t_not (t_val (e_call T.d_law_pair_right (ok_law_pair_right T) (hr.mono (by omega)) rfl (a_cons (e_v 3) (a_cons (e_v 4) a_nil))))) (t_or (t_not (t_val (e_call T.d_law_pair_right (ok_law_pair_right T) (hr.mono (by omega)) rfl (a_cons (e_v 4) (a_cons (e_v 3) a_nil))))) (t_or1 (t_not (t_val (e_call T.d_law_pair_right (ok_law_pair_right T) (hr.mono (by omega)) rfl (a_cons (e_v 3) (a_cons (e_v 3) a_nil))))))))) (ss_one (s_ret e_bl)) ss_nil)
      (ss_one (s_for PassesOwn.never rfl (i_list (e_lst (a_cons (e_v 3) (a_cons (e_call T.d_law_near (ok_law_near T) (hr.mono (by omega)) rfl (a_cons (e_v 2) (a_cons (e_v 3) a_nil))) (a_cons (e_call T.d_law_near (ok_law_near T) (hr.mono (by omega)) rfl (a_cons (e_v 2) (a_cons (e_v 4) a_nil))) (a_cons (e_call T.d_law_thing (ok_law_thing T) (hr.mono (by omega)) rfl (a_cons (e_v 2) (a_cons e_int a_nil))) (a_cons (e_tup (a_cons (e_ix (e_v 3) e_int) (a_cons (e_ix (e_v 4) e_int) a_nil))) a_nil))))))) (g_name (i := 5) sc_law.nd)
      (ss_cons (s_set (i := 6) sc_law.nd (e_strD hgd hr rfl T.b_str (e_v 5)))
      (ss_cons (s_set (i := 7) sc_law.nd (e_call T.d_is_box (ok_is_box T) (hr.mono (by omega)) rfl (a_cons (e_v 5) a_nil)))
      (ss_one (s_if (t_w (t_or (t_not (t_val (e_isi rfl T.b_isinstance (e_v 7) (e_type rfl T.b_bool PyProof.Rows.boot_bool)))) (t_or (t_ne hr (e_v 7) (e_call T.d_law_is_box (ok_law_is_box T) (hr.mono (by omega)) rfl (a_cons (e_v 5) a_nil))) (t_or1 (t_neS (e_strD hgd hr rfl T.b_str (e_v 5)) (e_v 6)))))) (ss_one (s_ret e_bl)) ss_nil))))))))))))
      (ss_one (s_ret e_bl))), ?_⟩
  (try simp only [seq3_stop, ifS3, b3, op3, un3, v3, c3, fIx_tup, fIx_lst, at3_0, at3_1, at3_2, at3_3, at3_4, at3_5, at3_6, start3, fI0_i, fI_i, fLt, fLe, fGt, fGe, fEqI, fNeI, fMin, fMax, asg3, name3, sub3, ret3, retN3, nx3, drop3, par3, aug3, and3, or3, not3, andV3, orV3, notV3, if3, nil3, cons3, tup3, lst3, lstM3, gtup3, gcons3, gnil3, gunl3, bits3, neg3, chain3, fIsi, isiD, fLen_lst, fLen_tup, fAbs, call3, isN3, notN3, dIsN_non, dIsN_int, dIsN_bl, dIsN_str, dIsN_tup, dIsN_lst, slc3, part3, noPart3, ilst3, itup3, irng1, irng2, for3, fCat, fEq_int, fNe_int, fEq_bl, fNe_bl, fEq_pair, fNe_pair, List.map, List.replicate, List.length_cons, List.length_nil, List.set_cons_zero, List.set_cons_succ, List.getElem?_cons_zero, List.getElem?_cons_succ, List.cons_append, List.nil_append, at_0, at_1, at_2, at_3, at_4, at_5, at_6, ix_0, ix_1, ix_2, put_same, put_put, decide_eq_true_eq, Bool.not_eq_true', decide_eq_false_iff_not, ite_not, ite_true, ite_false, if_true, if_false, Bool.false_eq_true, ↓reduceIte, reduceIte, Nat.reduceAdd, Nat.reduceSub, Int.reduceToNat, Nat.reduceLeDiff, not_false_eq_true, true_and, and_true, ne_eq, Int.reduceEq, Nat.zero_add, Bool.not_true, Bool.not_false, reduceCtorEq, nc0, nc1, nc2, nc3, nc4, nc5, fIx_ref put_same, fLen_ref put_same, fIx_dy0, fIx_dy1, fEq_dy, fNe_dy, fIx_bx0, fIx_bx1, fEq_opt, fNe_opt, fNe_optb, fEq_bx, isN_opt, lc3, fInt, fTuple, fNeS_s, fStr]); (repeat (with_reducible refine later_i ?_; try simp only [seq3_stop, ifS3, b3, op3, un3, v3, c3, fIx_tup, fIx_lst, at3_0, at3_1, at3_2, at3_3, at3_4, at3_5, at3_6, start3, fI0_i, fI_i, fLt, fLe, fGt, fGe, fEqI, fNeI, fMin, fMax, asg3, name3, sub3, ret3, retN3, nx3, drop3, par3, aug3, and3, or3, not3, andV3, orV3, notV3, if3, nil3, cons3, tup3, lst3, lstM3, gtup3, gcons3, gnil3, gunl3, bits3, neg3, chain3, fIsi, isiD, fLen_lst, fLen_tup, fAbs, call3, isN3, notN3, dIsN_non, dIsN_int, dIsN_bl, dIsN_str, dIsN_tup, dIsN_lst, slc3, part3, noPart3, ilst3, itup3, irng1, irng2, for3, fCat, fEq_int, fNe_int, fEq_bl, fNe_bl, fEq_pair, fNe_pair, List.map, List.replicate, List.length_cons, List.length_nil, List.set_cons_zero, List.set_cons_succ, List.getElem?_cons_zero, List.getElem?_cons_succ, List.cons_append, List.nil_append, at_0, at_1, at_2, at_3, at_4, at_5, at_6, ix_0, ix_1, ix_2, put_same, put_put, decide_eq_true_eq, Bool.not_eq_true', decide_eq_false_iff_not, ite_not, ite_true, ite_false, if_true, if_false, Bool.false_eq_true, ↓reduceIte, reduceIte, Nat.reduceAdd, Nat.reduceSub, Int.reduceToNat, Nat.reduceLeDiff, not_false_eq_true, true_and, and_true, ne_eq, Int.reduceEq, Nat.zero_add, Bool.not_true, Bool.not_false, reduceCtorEq, nc0, nc1, nc2, nc3, nc4, nc5, fIx_ref put_same, fLen_ref put_same, fIx_dy0, fIx_dy1, fEq_dy, fNe_dy, fIx_bx0, fIx_bx1, fEq_opt, fNe_opt, fNe_optb, fEq_bx, isN_opt, lc3, fInt, fTuple, fNeS_s, fStr]))
  refine ⟨by have := cutD_len (List.map D.int ns) none (some 6); rw [List.length_map] at this; omega, ?_⟩
  refine forIn3_ind (fun ds ρ _ => (∀ d ∈ ds, ∃ i : Int, d = .int i) ∧ ∃ x1 x2 x3 x4 x5 x6 x7, ρ = [some (D.lst (ns.map D.int)), x1, x2, x3, x4, x5, x6, x7]) ?_ (fun _ m' _ => q m') _ _ _ ⟨?_, _, _, _, _, _, _, _, rfl⟩
  rotate_left
  · intro d hd
    rcases List.mem_cons.mp hd with rfl | hd
    · exact ⟨0, rfl⟩
    · obtain ⟨i, _, rfl⟩ := List.mem_map.mp (cutD_mem hd)
      exact ⟨i, rfl⟩
  rintro d ds ρ m0 nx hnx ⟨hds, x1, x2, x3, x4, x5, x6, x7, rfl⟩
  obtain ⟨cell, rfl⟩ := hds d List.mem_cons_self
  have nxt : ∀ y1 y2 y3 y4 y5 y6 y7 m', nx [some (D.lst (ns.map D.int)), y1, y2, y3, y4, y5, y6, y7] m' := fun y1 y2 y3 y4 y5 y6 y7 m' => hnx _ m' ⟨fun d hd => hds d (List.mem_cons_of_mem _ hd), y1, y2, y3, y4, y5, y6, y7, rfl⟩
  clear hnx hds
  (try simp only [seq3_stop, ifS3, b3, op3, un3, v3, c3, fIx_tup, fIx_lst, at3_0, at3_1, at3_2, at3_3, at3_4, at3_5, at3_6, start3, fI0_i, fI_i, fLt, fLe, fGt, fGe, fEqI, fNeI, fMin, fMax, asg3, name3, sub3, ret3, retN3, nx3, drop3, par3, aug3, and3, or3, not3, andV3, orV3, notV3, if3, nil3, cons3, tup3, lst3, lstM3, gtup3, gcons3, gnil3, gunl3, bits3, neg3, chain3, fIsi, isiD, fLen_lst, fLen_tup, fAbs, call3, isN3, notN3, dIsN_non, dIsN_int, dIsN_bl, dIsN_str, dIsN_tup, dIsN_lst, slc3, part3, noPart3, ilst3, itup3, irng1, irng2, for3, fCat, fEq_int, fNe_int, fEq_bl, fNe_bl, fEq_pair, fNe_pair, List.map, List.replicate, List.length_cons, List.length_nil, List.set_cons_zero, List.set_cons_succ, List.getElem?_cons_zero, List.getElem?_cons_succ, List.cons_append, List.nil_append, at_0, at_1, at_2, at_3, at_4, at_5, at_6, ix_0, ix_1, ix_2, put_same, put_put, decide_eq_true_eq, Bool.not_eq_true', decide_eq_false_iff_not, ite_not, ite_true, ite_false, if_true, if_false, Bool.false_eq_true, ↓reduceIte, reduceIte, Nat.reduceAdd, Nat.reduceSub, Int.reduceToNat, Nat.reduceLeDiff, not_false_eq_true, true_and, and_true, ne_eq, Int.reduceEq, Nat.zero_add, Bool.not_true, Bool.not_false, reduceCtorEq, nc0, nc1, nc2, nc3, nc4, nc5, fIx_ref put_same, fLen_ref put_same, fIx_dy0, fIx_dy1, fEq_dy, fNe_dy, fIx_bx0, fIx_bx1, fEq_opt, fNe_opt, fNe_optb, fEq_bx, isN_opt, lc3, fInt, fTuple, fNeS_s, fStr]); (repeat (with_reducible refine later_i ?_; try simp only [seq3_stop, ifS3, b3, op3, un3, v3, c3, fIx_tup, fIx_lst, at3_0, at3_1, at3_2, at3_3, at3_4, at3_5, at3_6, start3, fI0_i, fI_i, fLt, fLe, fGt, fGe, fEqI, fNeI, fMin, fMax, asg3, name3, sub3, ret3, retN3, nx3, drop3, par3, aug3, and3, or3, not3, andV3, orV3, notV3, if3, nil3, cons3, tup3, lst3, lstM3, gtup3, gcons3, gnil3, gunl3, bits3, neg3, chain3, fIsi, isiD, fLen_lst, fLen_tup, fAbs, call3, isN3, notN3, dIsN_non, dIsN_int, dIsN_bl, dIsN_str, dIsN_tup, dIsN_lst, slc3, part3, noPart3, ilst3, itup3, irng1, irng2, for3, fCat, fEq_int, fNe_int, fEq_bl, fNe_bl, fEq_pair, fNe_pair, List.map, List.replicate, List.length_cons, List.length_nil, List.set_cons_zero, List.set_cons_succ, List.getElem?_cons_zero, List.getElem?_cons_succ, List.cons_append, List.nil_append, at_0, at_1, at_2, at_3, at_4, at_5, at_6, ix_0, ix_1, ix_2, put_same, put_put, decide_eq_true_eq, Bool.not_eq_true', decide_eq_false_iff_not, ite_not, ite_true, ite_false, if_true, if_false, Bool.false_eq_true, ↓reduceIte, reduceIte, Nat.reduceAdd, Nat.reduceSub, Int.reduceToNat, Nat.reduceLeDiff, not_false_eq_true, true_and, and_true, ne_eq, Int.reduceEq, Nat.zero_add, Bool.not_true, Bool.not_false, reduceCtorEq, nc0, nc1, nc2, nc3, nc4, nc5, fIx_ref put_same, fLen_ref put_same, fIx_dy0, fIx_dy1, fEq_dy, fNe_dy, fIx_bx0, fIx_bx1, fEq_opt, fNe_opt, fNe_optb, fEq_bx, isN_opt, lc3, fInt, fTuple, fNeS_s, fStr]))
  refine ⟨cell, rfl, fun p m1 _ _ d1 => ?_⟩
  (try simp only [seq3_stop, ifS3, b3, op3, un3, v3, c3, fIx_tup, fIx_lst, at3_0, at3_1, at3_2, at3_3, at3_4, at3_5, at3_6, start3, fI0_i, fI_i, fLt, fLe, fGt, fGe, fEqI, fNeI, fMin, fMax, asg3, name3, sub3, ret3, retN3, nx3, drop3, par3, aug3, and3, or3, not3, andV3, orV3, notV3, if3, nil3, cons3, tup3, lst3, lstM3, gtup3, gcons3, gnil3, gunl3, bits3, neg3, chain3, fIsi, isiD, fLen_lst, fLen_tup, fAbs, call3, isN3, notN3, dIsN_non, dIsN_int, dIsN_bl, dIsN_str, dIsN_tup, dIsN_lst, slc3, part3, noPart3, ilst3, itup3, irng1, irng2, for3, fCat, fEq_int, fNe_int, fEq_bl, fNe_bl, fEq_pair, fNe_pair, List.map, List.replicate, List.length_cons, List.length_nil, List.set_cons_zero, List.set_cons_succ, List.getElem?_cons_zero, List.getElem?_cons_succ, List.cons_append, List.nil_append, at_0, at_1, at_2, at_3, at_4, at_5, at_6, ix_0, ix_1, ix_2, put_same, put_put, decide_eq_true_eq, Bool.not_eq_true', decide_eq_false_iff_not, ite_not, ite_true, ite_false, if_true, if_false, Bool.false_eq_true, ↓reduceIte, reduceIte, Nat.reduceAdd, Nat.reduceSub, Int.reduceToNat, Nat.reduceLeDiff, not_false_eq_true, true_and, and_true, ne_eq, Int.reduceEq, Nat.zero_add, Bool.not_true, Bool.not_false, reduceCtorEq, nc0, nc1, nc2, nc3, nc4, nc5, fIx_ref put_same, fLen_ref put_same, fIx_dy0, fIx_dy1, fEq_dy, fNe_dy, fIx_bx0, fIx_bx1, fEq_opt, fNe_opt, fNe_optb, fEq_bx, isN_opt, lc3, fInt, fTuple, fNeS_s, fStr]); (repeat (with_reducible refine later_i ?_; try simp only [seq3_stop, ifS3, b3, op3, un3, v3, c3, fIx_tup, fIx_lst, at3_0, at3_1, at3_2, at3_3, at3_4, at3_5, at3_6, start3, fI0_i, fI_i, fLt, fLe, fGt, fGe, fEqI, fNeI, fMin, fMax, asg3, name3, sub3, ret3, retN3, nx3, drop3, par3, aug3, and3, or3, not3, andV3, orV3, notV3, if3, nil3, cons3, tup3, lst3, lstM3, gtup3, gcons3, gnil3, gunl3, bits3, neg3, chain3, fIsi, isiD, fLen_lst, fLen_tup, fAbs, call3, isN3, notN3, dIsN_non, dIsN_int, dIsN_bl, dIsN_str, dIsN_tup, dIsN_lst, slc3, part3, noPart3, ilst3, itup3, irng1, irng2, for3, fCat, fEq_int, fNe_int, fEq_bl, fNe_bl, fEq_pair, fNe_pair, List.map, List.replicate, List.length_cons, List.length_nil, List.set_cons_zero, List.set_cons_succ, List.getElem?_cons_zero, List.getElem?_cons_succ, List.cons_append, List.nil_append, at_0, at_1, at_2, at_3, at_4, at_5, at_6, ix_0, ix_1, ix_2, put_same, put_put, decide_eq_true_eq, Bool.not_eq_true', decide_eq_false_iff_not, ite_not, ite_true, ite_false, if_true, if_false, Bool.false_eq_true, ↓reduceIte, reduceIte, Nat.reduceAdd, Nat.reduceSub, Int.reduceToNat, Nat.reduceLeDiff, not_false_eq_true, true_and, and_true, ne_eq, Int.reduceEq, Nat.zero_add, Bool.not_true, Bool.not_false, reduceCtorEq, nc0, nc1, nc2, nc3, nc4, nc5, fIx_ref put_same, fLen_ref put_same, fIx_dy0, fIx_dy1, fEq_dy, fNe_dy, fIx_bx0, fIx_bx1, fEq_opt, fNe_opt, fNe_optb, fEq_bx, isN_opt, lc3, fInt, fTuple, fNeS_s, fStr]))
  refine ⟨p, 999999970, rfl, d1, fun a m2 ga _ d2 => ?_⟩
  (try simp only [seq3_stop, ifS3, b3, op3, un3, v3, c3, fIx_tup, fIx_lst, at3_0, at3_1, at3_2, at3_3, at3_4, at3_5, at3_6, start3, fI0_i, fI_i, fLt, fLe, fGt, fGe, fEqI, fNeI, fMin, fMax, asg3, name3, sub3, ret3, retN3, nx3, drop3, par3, aug3, and3, or3, not3, andV3, orV3, notV3, if3, nil3, cons3, tup3, lst3, lstM3, gtup3, gcons3, gnil3, gunl3, bits3, neg3, chain3, fIsi, isiD, fLen_lst, fLen_tup, fAbs, call3, isN3, notN3, dIsN_non, dIsN_int, dIsN_bl, dIsN_str, dIsN_tup, dIsN_lst, slc3, part3, noPart3, ilst3, itup3, irng1, irng2, for3, fCat, fEq_int, fNe_int, fEq_bl, fNe_bl, fEq_pair, fNe_pair, List.map, List.replicate, List.length_cons, List.length_nil, List.set_cons_zero, List.set_cons_succ, List.getElem?_cons_zero, List.getElem?_cons_succ, List.cons_append, List.nil_append, at_0, at_1, at_2, at_3, at_4, at_5, at_6, ix_0, ix_1, ix_2, put_same, put_put, decide_eq_true_eq, Bool.not_eq_true', decide_eq_false_iff_not, ite_not, ite_true, ite_false, if_true, if_false, Bool.false_eq_true, ↓reduceIte, reduceIte, Nat.reduceAdd, Nat.reduceSub, Int.reduceToNat, Nat.reduceLeDiff, not_false_eq_true, true_and, and_true, ne_eq, Int.reduceEq, Nat.zero_add, Bool.not_true, Bool.not_false, reduceCtorEq, nc0, nc1, nc2, nc3, nc4, nc5, fIx_ref put_same, fLen_ref put_same, fIx_dy0, fIx_dy1, fEq_dy, fNe_dy, fIx_bx0, fIx_bx1, fEq_opt, fNe_opt, fNe_optb, fEq_bx, isN_opt, lc3, fInt, fTuple, fNeS_s, fStr]); (repeat (with_reducible refine later_i ?_; try simp only [seq3_stop, ifS3, b3, op3, un3, v3, c3, fIx_tup, fIx_lst, at3_0, at3_1, at3_2, at3_3, at3_4, at3_5, at3_6, start3, fI0_i, fI_i, fLt, fLe, fGt, fGe, fEqI, fNeI, fMin, fMax, asg3, name3, sub3, ret3, retN3, nx3, drop3, par3, aug3, and3, or3, not3, andV3, orV3, notV3, if3, nil3, cons3, tup3, lst3, lstM3, gtup3, gcons3, gnil3, gunl3, bits3, neg3, chain3, fIsi, isiD, fLen_lst, fLen_tup, fAbs, call3, isN3, notN3, dIsN_non, dIsN_int, dIsN_bl, dIsN_str, dIsN_tup, dIsN_lst, slc3, part3, noPart3, ilst3, itup3, irng1, irng2, for3, fCat, fEq_int, fNe_int, fEq_bl, fNe_bl, fEq_pair, fNe_pair, List.map, List.replicate, List.length_cons, List.length_nil, List.set_cons_zero, List.set_cons_succ, List.getElem?_cons_zero, List.getElem?_cons_succ, List.cons_append, List.nil_append, at_0, at_1, at_2, at_3, at_4, at_5, at_6, ix_0, ix_1, ix_2, put_same, put_put, decide_eq_true_eq, Bool.not_eq_true', decide_eq_false_iff_not, ite_not, ite_true, ite_false, if_true, if_false, Bool.false_eq_true, ↓reduceIte, reduceIte, Nat.reduceAdd, Nat.reduceSub, Int.reduceToNat, Nat.reduceLeDiff, not_false_eq_true, true_and, and_true, ne_eq, Int.reduceEq, Nat.zero_add, Bool.not_true, Bool.not_false, reduceCtorEq, nc0, nc1, nc2, nc3, nc4, nc5, fIx_ref put_same, fLen_ref put_same, fIx_dy0, fIx_dy1, fEq_dy, fNe_dy, fIx_bx0, fIx_bx1, fEq_opt, fNe_opt, fNe_optb, fEq_bx, isN_opt, lc3, fInt, fTuple, fNeS_s, fStr]))
  refine ⟨p, 999999940, rfl, d2, fun b m3 gb _ d3 => ?_⟩
  (try simp only [seq3_stop, ifS3, b3, op3, un3, v3, c3, fIx_tup, fIx_lst, at3_0, at3_1, at3_2, at3_3, at3_4, at3_5, at3_6, start3, fI0_i, fI_i, fLt, fLe, fGt, fGe, fEqI, fNeI, fMin, fMax, asg3, name3, sub3, ret3, retN3, nx3, drop3, par3, aug3, and3, or3, not3, andV3, orV3, notV3, if3, nil3, cons3, tup3, lst3, lstM3, gtup3, gcons3, gnil3, gunl3, bits3, neg3, chain3, fIsi, isiD, fLen_lst, fLen_tup, fAbs, call3, isN3, notN3, dIsN_non, dIsN_int, dIsN_bl, dIsN_str, dIsN_tup, dIsN_lst, slc3, part3, noPart3, ilst3, itup3, irng1, irng2, for3, fCat, fEq_int, fNe_int, fEq_bl, fNe_bl, fEq_pair, fNe_pair, List.map, List.replicate, List.length_cons, List.length_nil, List.set_cons_zero, List.set_cons_succ, List.getElem?_cons_zero, List.getElem?_cons_succ, List.cons_append, List.nil_append, at_0, at_1, at_2, at_3, at_4, at_5, at_6, ix_0, ix_1, ix_2, put_same, put_put, decide_eq_true_eq, Bool.not_eq_true', decide_eq_false_iff_not, ite_not, ite_true, ite_false, if_true, if_false, Bool.false_eq_true, ↓reduceIte, reduceIte, Nat.reduceAdd, Nat.reduceSub, Int.reduceToNat, Nat.reduceLeDiff, not_false_eq_true, true_and, and_true, ne_eq, Int.reduceEq, Nat.zero_add, Bool.not_true, Bool.not_false, reduceCtorEq, nc0, nc1, nc2, nc3, nc4, nc5, fIx_ref put_same, fLen_ref put_same, fIx_dy0, fIx_dy1, fEq_dy, fNe_dy, fIx_bx0, fIx_bx1, fEq_opt, fNe_opt, fNe_optb, fEq_bx, isN_opt, lc3, fInt, fTuple, fNeS_s, fStr]); (repeat (with_reducible refine later_i ?_; try simp only [seq3_stop, ifS3, b3, op3, un3, v3, c3, fIx_tup, fIx_lst, at3_0, at3_1, at3_2, at3_3, at3_4, at3_5, at3_6, start3, fI0_i, fI_i, fLt, fLe, fGt, fGe, fEqI, fNeI, fMin, fMax, asg3, name3, sub3, ret3, retN3, nx3, drop3, par3, aug3, and3, or3, not3, andV3, orV3, notV3, if3, nil3, cons3, tup3, lst3, lstM3, gtup3, gcons3, gnil3, gunl3, bits3, neg3, chain3, fIsi, isiD, fLen_lst, fLen_tup, fAbs, call3, isN3, notN3, dIsN_non, dIsN_int, dIsN_bl, dIsN_str, dIsN_tup, dIsN_lst, slc3, part3, noPart3, ilst3, itup3, irng1, irng2, for3, fCat, fEq_int, fNe_int, fEq_bl, fNe_bl, fEq_pair, fNe_pair, List.map, List.replicate, List.length_cons, List.length_nil, List.set_cons_zero, List.set_cons_succ, List.getElem?_cons_zero, List.getElem?_cons_succ, List.cons_append, List.nil_append, at_0, at_1, at_2, at_3, at_4, at_5, at_6, ix_0, ix_1, ix_2, put_same, put_put, decide_eq_true_eq, Bool.not_eq_true', decide_eq_false_iff_not, ite_not, ite_true, ite_false, if_true, if_false, Bool.false_eq_true, ↓reduceIte, reduceIte, Nat.reduceAdd, Nat.reduceSub, Int.reduceToNat, Nat.reduceLeDiff, not_false_eq_true, true_and, and_true, ne_eq, Int.reduceEq, Nat.zero_add, Bool.not_true, Bool.not_false, reduceCtorEq, nc0, nc1, nc2, nc3, nc4, nc5, fIx_ref put_same, fLen_ref put_same, fIx_dy0, fIx_dy1, fEq_dy, fNe_dy, fIx_bx0, fIx_bx1, fEq_opt, fNe_opt, fNe_optb, fEq_bx, isN_opt, lc3, fInt, fTuple, fNeS_s, fStr]))
  refine sp_pick_i 999999939 d3 (by decide) (by decide) fun r m4 r0 r1 o4 d4 => ?_
  (try simp only [seq3_stop, ifS3, b3, op3, un3, v3, c3, fIx_tup, fIx_lst, at3_0, at3_1, at3_2, at3_3, at3_4, at3_5, at3_6, start3, fI0_i, fI_i, fLt, fLe, fGt, fGe, fEqI, fNeI, fMin, fMax, asg3, name3, sub3, ret3, retN3, nx3, drop3, par3, aug3, and3, or3, not3, andV3, orV3, notV3, if3, nil3, cons3, tup3, lst3, lstM3, gtup3, gcons3, gnil3, gunl3, bits3, neg3, chain3, fIsi, isiD, fLen_lst, fLen_tup, fAbs, call3, isN3, notN3, dIsN_non, dIsN_int, dIsN_bl, dIsN_str, dIsN_tup, dIsN_lst, slc3, part3, noPart3, ilst3, itup3, irng1, irng2, for3, fCat, fEq_int, fNe_int, fEq_bl, fNe_bl, fEq_pair, fNe_pair, List.map, List.replicate, List.length_cons, List.length_nil, List.set_cons_zero, List.set_cons_succ, List.getElem?_cons_zero, List.getElem?_cons_succ, List.cons_append, List.nil_append, at_0, at_1, at_2, at_3, at_4, at_5, at_6, ix_0, ix_1, ix_2, put_same, put_put, decide_eq_true_eq, Bool.not_eq_true', decide_eq_false_iff_not, ite_not, ite_true, ite_false, if_true, if_false, Bool.false_eq_true, ↓reduceIte, reduceIte, Nat.reduceAdd, Nat.reduceSub, Int.reduceToNat, Nat.reduceLeDiff, not_false_eq_true, true_and, and_true, ne_eq, Int.reduceEq, Nat.zero_add, Bool.not_true, Bool.not_false, reduceCtorEq, nc0, nc1, nc2, nc3, nc4, nc5, fIx_ref put_same, fLen_ref put_same, fIx_dy0, fIx_dy1, fEq_dy, fNe_dy, fIx_bx0, fIx_bx1, fEq_opt, fNe_opt, fNe_optb, fEq_bx, isN_opt, lc3, fInt, fTuple, fNeS_s, fStr]); (repeat (with_reducible refine later_i ?_; try simp only [seq3_stop, ifS3, b3, op3, un3, v3, c3, fIx_tup, fIx_lst, at3_0, at3_1, at3_2, at3_3, at3_4, at3_5, at3_6, start3, fI0_i, fI_i, fLt, fLe, fGt, fGe, fEqI, fNeI, fMin, fMax, asg3, name3, sub3, ret3, retN3, nx3, drop3, par3, aug3, and3, or3, not3, andV3, orV3, notV3, if3, nil3, cons3, tup3, lst3, lstM3, gtup3, gcons3, gnil3, gunl3, bits3, neg3, chain3, fIsi, isiD, fLen_lst, fLen_tup, fAbs, call3, isN3, notN3, dIsN_non, dIsN_int, dIsN_bl, dIsN_str, dIsN_tup, dIsN_lst, slc3, part3, noPart3, ilst3, itup3, irng1, irng2, for3, fCat, fEq_int, fNe_int, fEq_bl, fNe_bl, fEq_pair, fNe_pair, List.map, List.replicate, List.length_cons, List.length_nil, List.set_cons_zero, List.set_cons_succ, List.getElem?_cons_zero, List.getElem?_cons_succ, List.cons_append, List.nil_append, at_0, at_1, at_2, at_3, at_4, at_5, at_6, ix_0, ix_1, ix_2, put_same, put_put, decide_eq_true_eq, Bool.not_eq_true', decide_eq_false_iff_not, ite_not, ite_true, ite_false, if_true, if_false, Bool.false_eq_true, ↓reduceIte, reduceIte, Nat.reduceAdd, Nat.reduceSub, Int.reduceToNat, Nat.reduceLeDiff, not_false_eq_true, true_and, and_true, ne_eq, Int.reduceEq, Nat.zero_add, Bool.not_true, Bool.not_false, reduceCtorEq, nc0, nc1, nc2, nc3, nc4, nc5, fIx_ref put_same, fLen_ref put_same, fIx_dy0, fIx_dy1, fEq_dy, fNe_dy, fIx_bx0, fIx_bx1, fEq_opt, fNe_opt, fNe_optb, fEq_bx, isN_opt, lc3, fInt, fTuple, fNeS_s, fStr]))
  generalize hT : seq3 (ifS3 (or3 _ _) _ _) _ = TT
  have tl : ∀ (b : Bx) (m6 : Mem), Gb b → DeckAt m6 p 999999939 →
      Later TT { nx := nx, rt := Q, bk := Later (ret3 (c3 (D.bl true))) { nx := fun x m' => Q D.non m', rt := Q }, ct := nx } [some (D.lst (List.map D.int ns)), some (D.int cell), some (D.ref p), some (boxD a), some (boxD b), x5, x6, x7] m6 := by
    clear d4 o4 m4 gb b d3
    subst hT
    intro b m6 gb d6
    (try simp only [seq3_stop, ifS3, b3, op3, un3, v3, c3, fIx_tup, fIx_lst, at3_0, at3_1, at3_2, at3_3, at3_4, at3_5, at3_6, start3, fI0_i, fI_i, fLt, fLe, fGt, fGe, fEqI, fNeI, fMin, fMax, asg3, name3, sub3, ret3, retN3, nx3, drop3, par3, aug3, and3, or3, not3, andV3, orV3, notV3, if3, nil3, cons3, tup3, lst3, lstM3, gtup3, gcons3, gnil3, gunl3, bits3, neg3, chain3, fIsi, isiD, fLen_lst, fLen_tup, fAbs, call3, isN3, notN3, dIsN_non, dIsN_int, dIsN_bl, dIsN_str, dIsN_tup, dIsN_lst, slc3, part3, noPart3, ilst3, itup3, irng1, irng2, for3, fCat, fEq_int, fNe_int, fEq_bl, fNe_bl, fEq_pair, fNe_pair, List.map, List.replicate, List.length_cons, List.length_nil, List.set_cons_zero, List.set_cons_succ, List.getElem?_cons_zero, List.getElem?_cons_succ, List.cons_append, List.nil_append, at_0, at_1, at_2, at_3, at_4, at_5, at_6, ix_0, ix_1, ix_2, put_same, put_put, decide_eq_true_eq, Bool.not_eq_true', decide_eq_false_iff_not, ite_not, ite_true, ite_false, if_true, if_false, Bool.false_eq_true, ↓reduceIte, reduceIte, Nat.reduceAdd, Nat.reduceSub, Int.reduceToNat, Nat.reduceLeDiff, not_false_eq_true, true_and, and_true, ne_eq, Int.reduceEq, Nat.zero_add, Bool.not_true, Bool.not_false, reduceCtorEq, nc0, nc1, nc2, nc3, nc4, nc5, fIx_ref put_same, fLen_ref put_same, fIx_dy0, fIx_dy1, fEq_dy, fNe_dy, fIx_bx0, fIx_bx1, fEq_opt, fNe_opt, fNe_optb, fEq_bx, isN_opt, lc3, fInt, fTuple, fNeS_s, fStr]); (repeat (with_reducible refine later_i ?_; try simp only [seq3_stop, ifS3, b3, op3, un3, v3, c3, fIx_tup, fIx_lst, at3_0, at3_1, at3_2, at3_3, at3_4, at3_5, at3_6, start3, fI0_i, fI_i, fLt, fLe, fGt, fGe, fEqI, fNeI, fMin, fMax, asg3, name3, sub3, ret3, retN3, nx3, drop3, par3, aug3, and3, or3, not3, andV3, orV3, notV3, if3, nil3, cons3, tup3, lst3, lstM3, gtup3, gcons3, gnil3, gunl3, bits3, neg3, chain3, fIsi, isiD, fLen_lst, fLen_tup, fAbs, call3, isN3, notN3, dIsN_non, dIsN_int, dIsN_bl, dIsN_str, dIsN_tup, dIsN_lst, slc3, part3, noPart3, ilst3, itup3, irng1, irng2, for3, fCat, fEq_int, fNe_int, fEq_bl, fNe_bl, fEq_pair, fNe_pair, List.map, List.replicate, List.length_cons, List.length_nil, List.set_cons_zero, List.set_cons_succ, List.getElem?_cons_zero, List.getElem?_cons_succ, List.cons_append, List.nil_append, at_0, at_1, at_2, at_3, at_4, at_5, at_6, ix_0, ix_1, ix_2, put_same, put_put, decide_eq_true_eq, Bool.not_eq_true', decide_eq_false_iff_not, ite_not, ite_true, ite_false, if_true, if_false, Bool.false_eq_true, ↓reduceIte, reduceIte, Nat.reduceAdd, Nat.reduceSub, Int.reduceToNat, Nat.reduceLeDiff, not_false_eq_true, true_and, and_true, ne_eq, Int.reduceEq, Nat.zero_add, Bool.not_true, Bool.not_false, reduceCtorEq, nc0, nc1, nc2, nc3, nc4, nc5, fIx_ref put_same, fLen_ref put_same, fIx_dy0, fIx_dy1, fEq_dy, fNe_dy, fIx_bx0, fIx_bx1, fEq_opt, fNe_opt, fNe_optb, fEq_bx, isN_opt, lc3, fInt, fTuple, fNeS_s, fStr]))
    refine ⟨_, _, rfl, ga, gb, ?_⟩
    (try simp only [seq3_stop, ifS3, b3, op3, un3, v3, c3, fIx_tup, fIx_lst, at3_0, at3_1, at3_2, at3_3, at3_4, at3_5, at3_6, start3, fI0_i, fI_i, fLt, fLe, fGt, fGe, fEqI, fNeI, fMin, fMax, asg3, name3, sub3, ret3, retN3, nx3, drop3, par3, aug3, and3, or3, not3, andV3, orV3, notV3, if3, nil3, cons3, tup3, lst3, lstM3, gtup3, gcons3, gnil3, gunl3, bits3, neg3, chain3, fIsi, isiD, fLen_lst, fLen_tup, fAbs, call3, isN3, notN3, dIsN_non, dIsN_int, dIsN_bl, dIsN_str, dIsN_tup, dIsN_lst, slc3, part3, noPart3, ilst3, itup3, irng1, irng2, for3, fCat, fEq_int, fNe_int, fEq_bl, fNe_bl, fEq_pair, fNe_pair, List.map, List.replicate, List.length_cons, List.length_nil, List.set_cons_zero, List.set_cons_succ, List.getElem?_cons_zero, List.getElem?_cons_succ, List.cons_append, List.nil_append, at_0, at_1, at_2, at_3, at_4, at_5, at_6, ix_0, ix_1, ix_2, put_same, put_put, decide_eq_true_eq, Bool.not_eq_true', decide_eq_false_iff_not, ite_not, ite_true, ite_false, if_true, if_false, Bool.false_eq_true, ↓reduceIte, reduceIte, Nat.reduceAdd, Nat.reduceSub, Int.reduceToNat, Nat.reduceLeDiff, not_false_eq_true, true_and, and_true, ne_eq, Int.reduceEq, Nat.zero_add, Bool.not_true, Bool.not_false, reduceCtorEq, nc0, nc1, nc2, nc3, nc4, nc5, fIx_ref put_same, fLen_ref put_same, fIx_dy0, fIx_dy1, fEq_dy, fNe_dy, fIx_bx0, fIx_bx1, fEq_opt, fNe_opt, fNe_optb, fEq_bx, isN_opt, lc3, fInt, fTuple, fNeS_s, fStr]); (repeat (with_reducible refine later_i ?_; try simp only [seq3_stop, ifS3, b3, op3, un3, v3, c3, fIx_tup, fIx_lst, at3_0, at3_1, at3_2, at3_3, at3_4, at3_5, at3_6, start3, fI0_i, fI_i, fLt, fLe, fGt, fGe, fEqI, fNeI, fMin, fMax, asg3, name3, sub3, ret3, retN3, nx3, drop3, par3, aug3, and3, or3, not3, andV3, orV3, notV3, if3, nil3, cons3, tup3, lst3, lstM3, gtup3, gcons3, gnil3, gunl3, bits3, neg3, chain3, fIsi, isiD, fLen_lst, fLen_tup, fAbs, call3, isN3, notN3, dIsN_non, dIsN_int, dIsN_bl, dIsN_str, dIsN_tup, dIsN_lst, slc3, part3, noPart3, ilst3, itup3, irng1, irng2, for3, fCat, fEq_int, fNe_int, fEq_bl, fNe_bl, fEq_pair, fNe_pair, List.map, List.replicate, List.length_cons, List.length_nil, List.set_cons_zero, List.set_cons_succ, List.getElem?_cons_zero, List.getElem?_cons_succ, List.cons_append, List.nil_append, at_0, at_1, at_2, at_3, at_4, at_5, at_6, ix_0, ix_1, ix_2, put_same, put_put, decide_eq_true_eq, Bool.not_eq_true', decide_eq_false_iff_not, ite_not, ite_true, ite_false, if_true, if_false, Bool.false_eq_true, ↓reduceIte, reduceIte, Nat.reduceAdd, Nat.reduceSub, Int.reduceToNat, Nat.reduceLeDiff, not_false_eq_true, true_and, and_true, ne_eq, Int.reduceEq, Nat.zero_add, Bool.not_true, Bool.not_false, reduceCtorEq, nc0, nc1, nc2, nc3, nc4, nc5, fIx_ref put_same, fLen_ref put_same, fIx_dy0, fIx_dy1, fEq_dy, fNe_dy, fIx_bx0, fIx_bx1, fEq_opt, fNe_opt, fNe_optb, fEq_bx, isN_opt, lc3, fInt, fTuple, fNeS_s, fStr]))
    refine ⟨_, _, rfl, gb, ga, ?_⟩
    (try simp only [seq3_stop, ifS3, b3, op3, un3, v3, c3, fIx_tup, fIx_lst, at3_0, at3_1, at3_2, at3_3, at3_4, at3_5, at3_6, start3, fI0_i, fI_i, fLt, fLe, fGt, fGe, fEqI, fNeI, fMin, fMax, asg3, name3, sub3, ret3, retN3, nx3, drop3, par3, aug3, and3, or3, not3, andV3, orV3, notV3, if3, nil3, cons3, tup3, lst3, lstM3, gtup3, gcons3, gnil3, gunl3, bits3, neg3, chain3, fIsi, isiD, fLen_lst, fLen_tup, fAbs, call3, isN3, notN3, dIsN_non, dIsN_int, dIsN_bl, dIsN_str, dIsN_tup, dIsN_lst, slc3, part3, noPart3, ilst3, itup3, irng1, irng2, for3, fCat, fEq_int, fNe_int, fEq_bl, fNe_bl, fEq_pair, fNe_pair, List.map, List.replicate, List.length_cons, List.length_nil, List.set_cons_zero, List.set_cons_succ, List.getElem?_cons_zero, List.getElem?_cons_succ, List.cons_append, List.nil_append, at_0, at_1, at_2, at_3, at_4, at_5, at_6, ix_0, ix_1, ix_2, put_same, put_put, decide_eq_true_eq, Bool.not_eq_true', decide_eq_false_iff_not, ite_not, ite_true, ite_false, if_true, if_false, Bool.false_eq_true, ↓reduceIte, reduceIte, Nat.reduceAdd, Nat.reduceSub, Int.reduceToNat, Nat.reduceLeDiff, not_false_eq_true, true_and, and_true, ne_eq, Int.reduceEq, Nat.zero_add, Bool.not_true, Bool.not_false, reduceCtorEq, nc0, nc1, nc2, nc3, nc4, nc5, fIx_ref put_same, fLen_ref put_same, fIx_dy0, fIx_dy1, fEq_dy, fNe_dy, fIx_bx0, fIx_bx1, fEq_opt, fNe_opt, fNe_optb, fEq_bx, isN_opt, lc3, fInt, fTuple, fNeS_s, fStr]); (repeat (with_reducible refine later_i ?_; try simp only [seq3_stop, ifS3, b3, op3, un3, v3, c3, fIx_tup, fIx_lst, at3_0, at3_1, at3_2, at3_3, at3_4, at3_5, at3_6, start3, fI0_i, fI_i, fLt, fLe, fGt, fGe, fEqI, fNeI, fMin, fMax, asg3, name3, sub3, ret3, retN3, nx3, drop3, par3, aug3, and3, or3, not3, andV3, orV3, notV3, if3, nil3, cons3, tup3, lst3, lstM3, gtup3, gcons3, gnil3, gunl3, bits3, neg3, chain3, fIsi, isiD, fLen_lst, fLen_tup, fAbs, call3, isN3, notN3, dIsN_non, dIsN_int, dIsN_bl, dIsN_str, dIsN_tup, dIsN_lst, slc3, part3, noPart3, ilst3, itup3, irng1, irng2, for3, fCat, fEq_int, fNe_int, fEq_bl, fNe_bl, fEq_pair, fNe_pair, List.map, List.replicate, List.length_cons, List.length_nil, List.set_cons_zero, List.set_cons_succ, List.getElem?_cons_zero, List.getElem?_cons_succ, List.cons_append, List.nil_append, at_0, at_1, at_2, at_3, at_4, at_5, at_6, ix_0, ix_1, ix_2, put_same, put_put, decide_eq_true_eq, Bool.not_eq_true', decide_eq_false_iff_not, ite_not, ite_true, ite_false, if_true, if_false, Bool.false_eq_true, ↓reduceIte, reduceIte, Nat.reduceAdd, Nat.reduceSub, Int.reduceToNat, Nat.reduceLeDiff, not_false_eq_true, true_and, and_true, ne_eq, Int.reduceEq, Nat.zero_add, Bool.not_true, Bool.not_false, reduceCtorEq, nc0, nc1, nc2, nc3, nc4, nc5, fIx_ref put_same, fLen_ref put_same, fIx_dy0, fIx_dy1, fEq_dy, fNe_dy, fIx_bx0, fIx_bx1, fEq_opt, fNe_opt, fNe_optb, fEq_bx, isN_opt, lc3, fInt, fTuple, fNeS_s, fStr]))
    refine ⟨_, _, rfl, ga, ga, ?_⟩
    (try simp only [seq3_stop, ifS3, b3, op3, un3, v3, c3, fIx_tup, fIx_lst, at3_0, at3_1, at3_2, at3_3, at3_4, at3_5, at3_6, start3, fI0_i, fI_i, fLt, fLe, fGt, fGe, fEqI, fNeI, fMin, fMax, asg3, name3, sub3, ret3, retN3, nx3, drop3, par3, aug3, and3, or3, not3, andV3, orV3, notV3, if3, nil3, cons3, tup3, lst3, lstM3, gtup3, gcons3, gnil3, gunl3, bits3, neg3, chain3, fIsi, isiD, fLen_lst, fLen_tup, fAbs, call3, isN3, notN3, dIsN_non, dIsN_int, dIsN_bl, dIsN_str, dIsN_tup, dIsN_lst, slc3, part3, noPart3, ilst3, itup3, irng1, irng2, for3, fCat, fEq_int, fNe_int, fEq_bl, fNe_bl, fEq_pair, fNe_pair, List.map, List.replicate, List.length_cons, List.length_nil, List.set_cons_zero, List.set_cons_succ, List.getElem?_cons_zero, List.getElem?_cons_succ, List.cons_append, List.nil_append, at_0, at_1, at_2, at_3, at_4, at_5, at_6, ix_0, ix_1, ix_2, put_same, put_put, decide_eq_true_eq, Bool.not_eq_true', decide_eq_false_iff_not, ite_not, ite_true, ite_false, if_true, if_false, Bool.false_eq_true, ↓reduceIte, reduceIte, Nat.reduceAdd, Nat.reduceSub, Int.reduceToNat, Nat.reduceLeDiff, not_false_eq_true, true_and, and_true, ne_eq, Int.reduceEq, Nat.zero_add, Bool.not_true, Bool.not_false, reduceCtorEq, nc0, nc1, nc2, nc3, nc4, nc5, fIx_ref put_same, fLen_ref put_same, fIx_dy0, fIx_dy1, fEq_dy, fNe_dy, fIx_bx0, fIx_bx1, fEq_opt, fNe_opt, fNe_optb, fEq_bx, isN_opt, lc3, fInt, fTuple, fNeS_s, fStr]); (repeat (with_reducible refine later_i ?_; try simp only [seq3_stop, ifS3, b3, op3, un3, v3, c3, fIx_tup, fIx_lst, at3_0, at3_1, at3_2, at3_3, at3_4, at3_5, at3_6, start3, fI0_i, fI_i, fLt, fLe, fGt, fGe, fEqI, fNeI, fMin, fMax, asg3, name3, sub3, ret3, retN3, nx3, drop3, par3, aug3, and3, or3, not3, andV3, orV3, notV3, if3, nil3, cons3, tup3, lst3, lstM3, gtup3, gcons3, gnil3, gunl3, bits3, neg3, chain3, fIsi, isiD, fLen_lst, fLen_tup, fAbs, call3, isN3, notN3, dIsN_non, dIsN_int, dIsN_bl, dIsN_str, dIsN_tup, dIsN_lst, slc3, part3, noPart3, ilst3, itup3, irng1, irng2, for3, fCat, fEq_int, fNe_int, fEq_bl, fNe_bl, fEq_pair, fNe_pair, List.map, List.replicate, List.length_cons, List.length_nil, List.set_cons_zero, List.set_cons_succ, List.getElem?_cons_zero, List.getElem?_cons_succ, List.cons_append, List.nil_append, at_0, at_1, at_2, at_3, at_4, at_5, at_6, ix_0, ix_1, ix_2, put_same, put_put, decide_eq_true_eq, Bool.not_eq_true', decide_eq_false_iff_not, ite_not, ite_true, ite_false, if_true, if_false, Bool.false_eq_true, ↓reduceIte, reduceIte, Nat.reduceAdd, Nat.reduceSub, Int.reduceToNat, Nat.reduceLeDiff, not_false_eq_true, true_and, and_true, ne_eq, Int.reduceEq, Nat.zero_add, Bool.not_true, Bool.not_false, reduceCtorEq, nc0, nc1, nc2, nc3, nc4, nc5, fIx_ref put_same, fLen_ref put_same, fIx_dy0, fIx_dy1, fEq_dy, fNe_dy, fIx_bx0, fIx_bx1, fEq_opt, fNe_opt, fNe_optb, fEq_bx, isN_opt, lc3, fInt, fTuple, fNeS_s, fStr]))
    refine ⟨p, 999999938, a, rfl, ga, d6, fun n1 m7 k1 _ d7 => ?_⟩
    refine ⟨p, 999999937, b, rfl, gb, d7, fun n2 m8 k2 _ d8 => ?_⟩
    refine ⟨p, 999999000, rfl, d8.le (by decide), fun n4 m10 p1 p2 p3 _ d10 => ?_⟩
    have k4 : Ok1 n4 := ⟨Pl.le (by decide) _ p1, p2, p3⟩
    have pd : ∀ p : Int × Nat, Sz p 700 → Pl 800 (dyD p) := fun p h => ⟨lt_pow h.1 (by decide), lt_pow (show ((p.2 : Nat) : Int).natAbs < 2 ^ 20 by have := h.2; omega) (by decide), trivial⟩
    have k0 : Ok1 (boxD a) := ⟨⟨pd _ ga.s1, pd _ ga.s2, trivial⟩, by simp [boxD, dyD, sz, szs], by simp [boxD, dyD, dp, dps]⟩
    have k5 : Ok1 (.tup [dyD a.1, dyD b.1]) := ⟨⟨pd _ ga.s1, pd _ gb.s1, trivial⟩, by simp [dyD, sz, szs], by simp [dyD, dp, dps]⟩
    (try simp only [seq3_stop, ifS3, b3, op3, un3, v3, c3, fIx_tup, fIx_lst, at3_0, at3_1, at3_2, at3_3, at3_4, at3_5, at3_6, start3, fI0_i, fI_i, fLt, fLe, fGt, fGe, fEqI, fNeI, fMin, fMax, asg3, name3, sub3, ret3, retN3, nx3, drop3, par3, aug3, and3, or3, not3, andV3, orV3, notV3, if3, nil3, cons3, tup3, lst3, lstM3, gtup3, gcons3, gnil3, gunl3, bits3, neg3, chain3, fIsi, isiD, fLen_lst, fLen_tup, fAbs, call3, isN3, notN3, dIsN_non, dIsN_int, dIsN_bl, dIsN_str, dIsN_tup, dIsN_lst, slc3, part3, noPart3, ilst3, itup3, irng1, irng2, for3, fCat, fEq_int, fNe_int, fEq_bl, fNe_bl, fEq_pair, fNe_pair, List.map, List.replicate, List.length_cons, List.length_nil, List.set_cons_zero, List.set_cons_succ, List.getElem?_cons_zero, List.getElem?_cons_succ, List.cons_append, List.nil_append, at_0, at_1, at_2, at_3, at_4, at_5, at_6, ix_0, ix_1, ix_2, put_same, put_put, decide_eq_true_eq, Bool.not_eq_true', decide_eq_false_iff_not, ite_not, ite_true, ite_false, if_true, if_false, Bool.false_eq_true, ↓reduceIte, reduceIte, Nat.reduceAdd, Nat.reduceSub, Int.reduceToNat, Nat.reduceLeDiff, not_false_eq_true, true_and, and_true, ne_eq, Int.reduceEq, Nat.zero_add, Bool.not_true, Bool.not_false, reduceCtorEq, nc0, nc1, nc2, nc3, nc4, nc5, fIx_ref put_same, fLen_ref put_same, fIx_dy0, fIx_dy1, fEq_dy, fNe_dy, fIx_bx0, fIx_bx1, fEq_opt, fNe_opt, fNe_optb, fEq_bx, isN_opt, lc3, fInt, fTuple, fNeS_s, fStr]); (repeat (with_reducible refine later_i ?_; try simp only [seq3_stop, ifS3, b3, op3, un3, v3, c3, fIx_tup, fIx_lst, at3_0, at3_1, at3_2, at3_3, at3_4, at3_5, at3_6, start3, fI0_i, fI_i, fLt, fLe, fGt, fGe, fEqI, fNeI, fMin, fMax, asg3, name3, sub3, ret3, retN3, nx3, drop3, par3, aug3, and3, or3, not3, andV3, orV3, notV3, if3, nil3, cons3, tup3, lst3, lstM3, gtup3, gcons3, gnil3, gunl3, bits3, neg3, chain3, fIsi, isiD, fLen_lst, fLen_tup, fAbs, call3, isN3, notN3, dIsN_non, dIsN_int, dIsN_bl, dIsN_str, dIsN_tup, dIsN_lst, slc3, part3, noPart3, ilst3, itup3, irng1, irng2, for3, fCat, fEq_int, fNe_int, fEq_bl, fNe_bl, fEq_pair, fNe_pair, List.map, List.replicate, List.length_cons, List.length_nil, List.set_cons_zero, List.set_cons_succ, List.getElem?_cons_zero, List.getElem?_cons_succ, List.cons_append, List.nil_append, at_0, at_1, at_2, at_3, at_4, at_5, at_6, ix_0, ix_1, ix_2, put_same, put_put, decide_eq_true_eq, Bool.not_eq_true', decide_eq_false_iff_not, ite_not, ite_true, ite_false, if_true, if_false, Bool.false_eq_true, ↓reduceIte, reduceIte, Nat.reduceAdd, Nat.reduceSub, Int.reduceToNat, Nat.reduceLeDiff, not_false_eq_true, true_and, and_true, ne_eq, Int.reduceEq, Nat.zero_add, Bool.not_true, Bool.not_false, reduceCtorEq, nc0, nc1, nc2, nc3, nc4, nc5, fIx_ref put_same, fLen_ref put_same, fIx_dy0, fIx_dy1, fEq_dy, fNe_dy, fIx_bx0, fIx_bx1, fEq_opt, fNe_opt, fNe_optb, fEq_bx, isN_opt, lc3, fInt, fTuple, fNeS_s, fStr]))
    refine forIn3_ind (fun ds ρ _ => (∀ d ∈ ds, Ok1 d) ∧ ∃ x5 x6 x7, ρ = [some (D.lst (ns.map D.int)), some (.int cell), some (.ref p), some (boxD a), some (boxD b), x5, x6, x7]) ?_ ?_ _ _ _ ⟨?_, _, _, _, rfl⟩
    · rintro d ds ρ m11 nx' hnx' ⟨hds, x5, x6, x7, rfl⟩
      have kd := hds d List.mem_cons_self
      (try simp only [seq3_stop, ifS3, b3, op3, un3, v3, c3, fIx_tup, fIx_lst, at3_0, at3_1, at3_2, at3_3, at3_4, at3_5, at3_6, start3, fI0_i, fI_i, fLt, fLe, fGt, fGe, fEqI, fNeI, fMin, fMax, asg3, name3, sub3, ret3, retN3, nx3, drop3, par3, aug3, and3, or3, not3, andV3, orV3, notV3, if3, nil3, cons3, tup3, lst3, lstM3, gtup3, gcons3, gnil3, gunl3, bits3, neg3, chain3, fIsi, isiD, fLen_lst, fLen_tup, fAbs, call3, isN3, notN3, dIsN_non, dIsN_int, dIsN_bl, dIsN_str, dIsN_tup, dIsN_lst, slc3, part3, noPart3, ilst3, itup3, irng1, irng2, for3, fCat, fEq_int, fNe_int, fEq_bl, fNe_bl, fEq_pair, fNe_pair, List.map, List.replicate, List.length_cons, List.length_nil, List.set_cons_zero, List.set_cons_succ, List.getElem?_cons_zero, List.getElem?_cons_succ, List.cons_append, List.nil_append, at_0, at_1, at_2, at_3, at_4, at_5, at_6, ix_0, ix_1, ix_2, put_same, put_put, decide_eq_true_eq, Bool.not_eq_true', decide_eq_false_iff_not, ite_not, ite_true, ite_false, if_true, if_false, Bool.false_eq_true, ↓reduceIte, reduceIte, Nat.reduceAdd, Nat.reduceSub, Int.reduceToNat, Nat.reduceLeDiff, not_false_eq_true, true_and, and_true, ne_eq, Int.reduceEq, Nat.zero_add, Bool.not_true, Bool.not_false, reduceCtorEq, nc0, nc1, nc2, nc3, nc4, nc5, fIx_ref put_same, fLen_ref put_same, fIx_dy0, fIx_dy1, fEq_dy, fNe_dy, fIx_bx0, fIx_bx1, fEq_opt, fNe_opt, fNe_optb, fEq_bx, isN_opt, lc3, fInt, fTuple, fNeS_s, fStr]); (repeat (with_reducible refine later_i ?_; try simp only [seq3_stop, ifS3, b3, op3, un3, v3, c3, fIx_tup, fIx_lst, at3_0, at3_1, at3_2, at3_3, at3_4, at3_5, at3_6, start3, fI0_i, fI_i, fLt, fLe, fGt, fGe, fEqI, fNeI, fMin, fMax, asg3, name3, sub3, ret3, retN3, nx3, drop3, par3, aug3, and3, or3, not3, andV3, orV3, notV3, if3, nil3, cons3, tup3, lst3, lstM3, gtup3, gcons3, gnil3, gunl3, bits3, neg3, chain3, fIsi, isiD, fLen_lst, fLen_tup, fAbs, call3, isN3, notN3, dIsN_non, dIsN_int, dIsN_bl, dIsN_str, dIsN_tup, dIsN_lst, slc3, part3, noPart3, ilst3, itup3, irng1, irng2, for3, fCat, fEq_int, fNe_int, fEq_bl, fNe_bl, fEq_pair, fNe_pair, List.map, List.replicate, List.length_cons, List.length_nil, List.set_cons_zero, List.set_cons_succ, List.getElem?_cons_zero, List.getElem?_cons_succ, List.cons_append, List.nil_append, at_0, at_1, at_2, at_3, at_4, at_5, at_6, ix_0, ix_1, ix_2, put_same, put_put, decide_eq_true_eq, Bool.not_eq_true', decide_eq_false_iff_not, ite_not, ite_true, ite_false, if_true, if_false, Bool.false_eq_true, ↓reduceIte, reduceIte, Nat.reduceAdd, Nat.reduceSub, Int.reduceToNat, Nat.reduceLeDiff, not_false_eq_true, true_and, and_true, ne_eq, Int.reduceEq, Nat.zero_add, Bool.not_true, Bool.not_false, reduceCtorEq, nc0, nc1, nc2, nc3, nc4, nc5, fIx_ref put_same, fLen_ref put_same, fIx_dy0, fIx_dy1, fEq_dy, fNe_dy, fIx_bx0, fIx_bx1, fEq_opt, fNe_opt, fNe_optb, fEq_bx, isN_opt, lc3, fInt, fTuple, fNeS_s, fStr]))
      refine ⟨kd.shw, ?_⟩
      (try simp only [seq3_stop, ifS3, b3, op3, un3, v3, c3, fIx_tup, fIx_lst, at3_0, at3_1, at3_2, at3_3, at3_4, at3_5, at3_6, start3, fI0_i, fI_i, fLt, fLe, fGt, fGe, fEqI, fNeI, fMin, fMax, asg3, name3, sub3, ret3, retN3, nx3, drop3, par3, aug3, and3, or3, not3, andV3, orV3, notV3, if3, nil3, cons3, tup3, lst3, lstM3, gtup3, gcons3, gnil3, gunl3, bits3, neg3, chain3, fIsi, isiD, fLen_lst, fLen_tup, fAbs, call3, isN3, notN3, dIsN_non, dIsN_int, dIsN_bl, dIsN_str, dIsN_tup, dIsN_lst, slc3, part3, noPart3, ilst3, itup3, irng1, irng2, for3, fCat, fEq_int, fNe_int, fEq_bl, fNe_bl, fEq_pair, fNe_pair, List.map, List.replicate, List.length_cons, List.length_nil, List.set_cons_zero, List.set_cons_succ, List.getElem?_cons_zero, List.getElem?_cons_succ, List.cons_append, List.nil_append, at_0, at_1, at_2, at_3, at_4, at_5, at_6, ix_0, ix_1, ix_2, put_same, put_put, decide_eq_true_eq, Bool.not_eq_true', decide_eq_false_iff_not, ite_not, ite_true, ite_false, if_true, if_false, Bool.false_eq_true, ↓reduceIte, reduceIte, Nat.reduceAdd, Nat.reduceSub, Int.reduceToNat, Nat.reduceLeDiff, not_false_eq_true, true_and, and_true, ne_eq, Int.reduceEq, Nat.zero_add, Bool.not_true, Bool.not_false, reduceCtorEq, nc0, nc1, nc2, nc3, nc4, nc5, fIx_ref put_same, fLen_ref put_same, fIx_dy0, fIx_dy1, fEq_dy, fNe_dy, fIx_bx0, fIx_bx1, fEq_opt, fNe_opt, fNe_optb, fEq_bx, isN_opt, lc3, fInt, fTuple, fNeS_s, fStr]); (repeat (with_reducible refine later_i ?_; try simp only [seq3_stop, ifS3, b3, op3, un3, v3, c3, fIx_tup, fIx_lst, at3_0, at3_1, at3_2, at3_3, at3_4, at3_5, at3_6, start3, fI0_i, fI_i, fLt, fLe, fGt, fGe, fEqI, fNeI, fMin, fMax, asg3, name3, sub3, ret3, retN3, nx3, drop3, par3, aug3, and3, or3, not3, andV3, orV3, notV3, if3, nil3, cons3, tup3, lst3, lstM3, gtup3, gcons3, gnil3, gunl3, bits3, neg3, chain3, fIsi, isiD, fLen_lst, fLen_tup, fAbs, call3, isN3, notN3, dIsN_non, dIsN_int, dIsN_bl, dIsN_str, dIsN_tup, dIsN_lst, slc3, part3, noPart3, ilst3, itup3, irng1, irng2, for3, fCat, fEq_int, fNe_int, fEq_bl, fNe_bl, fEq_pair, fNe_pair, List.map, List.replicate, List.length_cons, List.length_nil, List.set_cons_zero, List.set_cons_succ, List.getElem?_cons_zero, List.getElem?_cons_succ, List.cons_append, List.nil_append, at_0, at_1, at_2, at_3, at_4, at_5, at_6, ix_0, ix_1, ix_2, put_same, put_put, decide_eq_true_eq, Bool.not_eq_true', decide_eq_false_iff_not, ite_not, ite_true, ite_false, if_true, if_false, Bool.false_eq_true, ↓reduceIte, reduceIte, Nat.reduceAdd, Nat.reduceSub, Int.reduceToNat, Nat.reduceLeDiff, not_false_eq_true, true_and, and_true, ne_eq, Int.reduceEq, Nat.zero_add, Bool.not_true, Bool.not_false, reduceCtorEq, nc0, nc1, nc2, nc3, nc4, nc5, fIx_ref put_same, fLen_ref put_same, fIx_dy0, fIx_dy1, fEq_dy, fNe_dy, fIx_bx0, fIx_bx1, fEq_opt, fNe_opt, fNe_optb, fEq_bx, isN_opt, lc3, fInt, fTuple, fNeS_s, fStr]))
      refine ⟨d, rfl, Pl.le (by decide) _ kd.1, ?_⟩
      (try simp only [seq3_stop, ifS3, b3, op3, un3, v3, c3, fIx_tup, fIx_lst, at3_0, at3_1, at3_2, at3_3, at3_4, at3_5, at3_6, start3, fI0_i, fI_i, fLt, fLe, fGt, fGe, fEqI, fNeI, fMin, fMax, asg3, name3, sub3, ret3, retN3, nx3, drop3, par3, aug3, and3, or3, not3, andV3, orV3, notV3, if3, nil3, cons3, tup3, lst3, lstM3, gtup3, gcons3, gnil3, gunl3, bits3, neg3, chain3, fIsi, isiD, fLen_lst, fLen_tup, fAbs, call3, isN3, notN3, dIsN_non, dIsN_int, dIsN_bl, dIsN_str, dIsN_tup, dIsN_lst, slc3, part3, noPart3, ilst3, itup3, irng1, irng2, for3, fCat, fEq_int, fNe_int, fEq_bl, fNe_bl, fEq_pair, fNe_pair, List.map, List.replicate, List.length_cons, List.length_nil, List.set_cons_zero, List.set_cons_succ, List.getElem?_cons_zero, List.getElem?_cons_succ, List.cons_append, List.nil_append, at_0, at_1, at_2, at_3, at_4, at_5, at_6, ix_0, ix_1, ix_2, put_same, put_put, decide_eq_true_eq, Bool.not_eq_true', decide_eq_false_iff_not, ite_not, ite_true, ite_false, if_true, if_false, Bool.false_eq_true, ↓reduceIte, reduceIte, Nat.reduceAdd, Nat.reduceSub, Int.reduceToNat, Nat.reduceLeDiff, not_false_eq_true, true_and, and_true, ne_eq, Int.reduceEq, Nat.zero_add, Bool.not_true, Bool.not_false, reduceCtorEq, nc0, nc1, nc2, nc3, nc4, nc5, fIx_ref put_same, fLen_ref put_same, fIx_dy0, fIx_dy1, fEq_dy, fNe_dy, fIx_bx0, fIx_bx1, fEq_opt, fNe_opt, fNe_optb, fEq_bx, isN_opt, lc3, fInt, fTuple, fNeS_s, fStr]); (repeat (with_reducible refine later_i ?_; try simp only [seq3_stop, ifS3, b3, op3, un3, v3, c3, fIx_tup, fIx_lst, at3_0, at3_1, at3_2, at3_3, at3_4, at3_5, at3_6, start3, fI0_i, fI_i, fLt, fLe, fGt, fGe, fEqI, fNeI, fMin, fMax, asg3, name3, sub3, ret3, retN3, nx3, drop3, par3, aug3, and3, or3, not3, andV3, orV3, notV3, if3, nil3, cons3, tup3, lst3, lstM3, gtup3, gcons3, gnil3, gunl3, bits3, neg3, chain3, fIsi, isiD, fLen_lst, fLen_tup, fAbs, call3, isN3, notN3, dIsN_non, dIsN_int, dIsN_bl, dIsN_str, dIsN_tup, dIsN_lst, slc3, part3, noPart3, ilst3, itup3, irng1, irng2, for3, fCat, fEq_int, fNe_int, fEq_bl, fNe_bl, fEq_pair, fNe_pair, List.map, List.replicate, List.length_cons, List.length_nil, List.set_cons_zero, List.set_cons_succ, List.getElem?_cons_zero, List.getElem?_cons_succ, List.cons_append, List.nil_append, at_0, at_1, at_2, at_3, at_4, at_5, at_6, ix_0, ix_1, ix_2, put_same, put_put, decide_eq_true_eq, Bool.not_eq_true', decide_eq_false_iff_not, ite_not, ite_true, ite_false, if_true, if_false, Bool.false_eq_true, ↓reduceIte, reduceIte, Nat.reduceAdd, Nat.reduceSub, Int.reduceToNat, Nat.reduceLeDiff, not_false_eq_true, true_and, and_true, ne_eq, Int.reduceEq, Nat.zero_add, Bool.not_true, Bool.not_false, reduceCtorEq, nc0, nc1, nc2, nc3, nc4, nc5, fIx_ref put_same, fLen_ref put_same, fIx_dy0, fIx_dy1, fEq_dy, fNe_dy, fIx_bx0, fIx_bx1, fEq_opt, fNe_opt, fNe_optb, fEq_bx, isN_opt, lc3, fInt, fTuple, fNeS_s, fStr]))
      refine ⟨d, rfl, Pl.le (by decide) _ kd.1, ?_⟩
      (try simp only [seq3_stop, ifS3, b3, op3, un3, v3, c3, fIx_tup, fIx_lst, at3_0, at3_1, at3_2, at3_3, at3_4, at3_5, at3_6, start3, fI0_i, fI_i, fLt, fLe, fGt, fGe, fEqI, fNeI, fMin, fMax, asg3, name3, sub3, ret3, retN3, nx3, drop3, par3, aug3, and3, or3, not3, andV3, orV3, notV3, if3, nil3, cons3, tup3, lst3, lstM3, gtup3, gcons3, gnil3, gunl3, bits3, neg3, chain3, fIsi, isiD, fLen_lst, fLen_tup, fAbs, call3, isN3, notN3, dIsN_non, dIsN_int, dIsN_bl, dIsN_str, dIsN_tup, dIsN_lst, slc3, part3, noPart3, ilst3, itup3, irng1, irng2, for3, fCat, fEq_int, fNe_int, fEq_bl, fNe_bl, fEq_pair, fNe_pair, List.map, List.replicate, List.length_cons, List.length_nil, List.set_cons_zero, List.set_cons_succ, List.getElem?_cons_zero, List.getElem?_cons_succ, List.cons_append, List.nil_append, at_0, at_1, at_2, at_3, at_4, at_5, at_6, ix_0, ix_1, ix_2, put_same, put_put, decide_eq_true_eq, Bool.not_eq_true', decide_eq_false_iff_not, ite_not, ite_true, ite_false, if_true, if_false, Bool.false_eq_true, ↓reduceIte, reduceIte, Nat.reduceAdd, Nat.reduceSub, Int.reduceToNat, Nat.reduceLeDiff, not_false_eq_true, true_and, and_true, ne_eq, Int.reduceEq, Nat.zero_add, Bool.not_true, Bool.not_false, reduceCtorEq, nc0, nc1, nc2, nc3, nc4, nc5, fIx_ref put_same, fLen_ref put_same, fIx_dy0, fIx_dy1, fEq_dy, fNe_dy, fIx_bx0, fIx_bx1, fEq_opt, fNe_opt, fNe_optb, fEq_bx, isN_opt, lc3, fInt, fTuple, fNeS_s, fStr, beq_self_eq_true]); (repeat (with_reducible refine later_i ?_; try simp only [seq3_stop, ifS3, b3, op3, un3, v3, c3, fIx_tup, fIx_lst, at3_0, at3_1, at3_2, at3_3, at3_4, at3_5, at3_6, start3, fI0_i, fI_i, fLt, fLe, fGt, fGe, fEqI, fNeI, fMin, fMax, asg3, name3, sub3, ret3, retN3, nx3, drop3, par3, aug3, and3, or3, not3, andV3, orV3, notV3, if3, nil3, cons3, tup3, lst3, lstM3, gtup3, gcons3, gnil3, gunl3, bits3, neg3, chain3, fIsi, isiD, fLen_lst, fLen_tup, fAbs, call3, isN3, notN3, dIsN_non, dIsN_int, dIsN_bl, dIsN_str, dIsN_tup, dIsN_lst, slc3, part3, noPart3, ilst3, itup3, irng1, irng2, for3, fCat, fEq_int, fNe_int, fEq_bl, fNe_bl, fEq_pair, fNe_pair, List.map, List.replicate, List.length_cons, List.length_nil, List.set_cons_zero, List.set_cons_succ, List.getElem?_cons_zero, List.getElem?_cons_succ, List.cons_append, List.nil_append, at_0, at_1, at_2, at_3, at_4, at_5, at_6, ix_0, ix_1, ix_2, put_same, put_put, decide_eq_true_eq, Bool.not_eq_true', decide_eq_false_iff_not, ite_not, ite_true, ite_false, if_true, if_false, Bool.false_eq_true, ↓reduceIte, reduceIte, Nat.reduceAdd, Nat.reduceSub, Int.reduceToNat, Nat.reduceLeDiff, not_false_eq_true, true_and, and_true, ne_eq, Int.reduceEq, Nat.zero_add, Bool.not_true, Bool.not_false, reduceCtorEq, nc0, nc1, nc2, nc3, nc4, nc5, fIx_ref put_same, fLen_ref put_same, fIx_dy0, fIx_dy1, fEq_dy, fNe_dy, fIx_bx0, fIx_bx1, fEq_opt, fNe_opt, fNe_optb, fEq_bx, isN_opt, lc3, fInt, fTuple, fNeS_s, fStr, beq_self_eq_true]))
      refine ⟨kd.shw, ?_⟩
      (try simp only [seq3_stop, ifS3, b3, op3, un3, v3, c3, fIx_tup, fIx_lst, at3_0, at3_1, at3_2, at3_3, at3_4, at3_5, at3_6, start3, fI0_i, fI_i, fLt, fLe, fGt, fGe, fEqI, fNeI, fMin, fMax, asg3, name3, sub3, ret3, retN3, nx3, drop3, par3, aug3, and3, or3, not3, andV3, orV3, notV3, if3, nil3, cons3, tup3, lst3, lstM3, gtup3, gcons3, gnil3, gunl3, bits3, neg3, chain3, fIsi, isiD, fLen_lst, fLen_tup, fAbs, call3, isN3, notN3, dIsN_non, dIsN_int, dIsN_bl, dIsN_str, dIsN_tup, dIsN_lst, slc3, part3, noPart3, ilst3, itup3, irng1, irng2, for3, fCat, fEq_int, fNe_int, fEq_bl, fNe_bl, fEq_pair, fNe_pair, List.map, List.replicate, List.length_cons, List.length_nil, List.set_cons_zero, List.set_cons_succ, List.getElem?_cons_zero, List.getElem?_cons_succ, List.cons_append, List.nil_append, at_0, at_1, at_2, at_3, at_4, at_5, at_6, ix_0, ix_1, ix_2, put_same, put_put, decide_eq_true_eq, Bool.not_eq_true', decide_eq_false_iff_not, ite_not, ite_true, ite_false, if_true, if_false, Bool.false_eq_true, ↓reduceIte, reduceIte, Nat.reduceAdd, Nat.reduceSub, Int.reduceToNat, Nat.reduceLeDiff, not_false_eq_true, true_and, and_true, ne_eq, Int.reduceEq, Nat.zero_add, Bool.not_true, Bool.not_false, reduceCtorEq, nc0, nc1, nc2, nc3, nc4, nc5, fIx_ref put_same, fLen_ref put_same, fIx_dy0, fIx_dy1, fEq_dy, fNe_dy, fIx_bx0, fIx_bx1, fEq_opt, fNe_opt, fNe_optb, fEq_bx, isN_opt, lc3, fInt, fTuple, fNeS_s, fStr, decide_true]); (repeat (with_reducible refine later_i ?_; try simp only [seq3_stop, ifS3, b3, op3, un3, v3, c3, fIx_tup, fIx_lst, at3_0, at3_1, at3_2, at3_3, at3_4, at3_5, at3_6, start3, fI0_i, fI_i, fLt, fLe, fGt, fGe, fEqI, fNeI, fMin, fMax, asg3, name3, sub3, ret3, retN3, nx3, drop3, par3, aug3, and3, or3, not3, andV3, orV3, notV3, if3, nil3, cons3, tup3, lst3, lstM3, gtup3, gcons3, gnil3, gunl3, bits3, neg3, chain3, fIsi, isiD, fLen_lst, fLen_tup, fAbs, call3, isN3, notN3, dIsN_non, dIsN_int, dIsN_bl, dIsN_str, dIsN_tup, dIsN_lst, slc3, part3, noPart3, ilst3, itup3, irng1, irng2, for3, fCat, fEq_int, fNe_int, fEq_bl, fNe_bl, fEq_pair, fNe_pair, List.map, List.replicate, List.length_cons, List.length_nil, List.set_cons_zero, List.set_cons_succ, List.getElem?_cons_zero, List.getElem?_cons_succ, List.cons_append, List.nil_append, at_0, at_1, at_2, at_3, at_4, at_5, at_6, ix_0, ix_1, ix_2, put_same, put_put, decide_eq_true_eq, Bool.not_eq_true', decide_eq_false_iff_not, ite_not, ite_true, ite_false, if_true, if_false, Bool.false_eq_true, ↓reduceIte, reduceIte, Nat.reduceAdd, Nat.reduceSub, Int.reduceToNat, Nat.reduceLeDiff, not_false_eq_true, true_and, and_true, ne_eq, Int.reduceEq, Nat.zero_add, Bool.not_true, Bool.not_false, reduceCtorEq, nc0, nc1, nc2, nc3, nc4, nc5, fIx_ref put_same, fLen_ref put_same, fIx_dy0, fIx_dy1, fEq_dy, fNe_dy, fIx_bx0, fIx_bx1, fEq_opt, fNe_opt, fNe_optb, fEq_bx, isN_opt, lc3, fInt, fTuple, fNeS_s, fStr, decide_true]))
      exact hnx' _ _ ⟨fun d hd => hds d (List.mem_cons_of_mem _ hd), _, _, _, rfl⟩
    · rintro ρ m11 ⟨_, x5, x6, x7, rfl⟩
      exact nxt _ _ _ _ _ _ _ _
    · intro d hd
      simp only [List.mem_cons, List.not_mem_nil, or_false] at hd
      rcases hd with rfl | rfl | rfl | rfl | rfl <;> assumption
  refine ite2 (fun h0 => ?_) (fun h0 => tl b m4 gb d4)
  refine ⟨_, _, rfl, gb.sm.2, ga.sm.1, ?_⟩
  (try simp only [seq3_stop, ifS3, b3, op3, un3, v3, c3, fIx_tup, fIx_lst, at3_0, at3_1, at3_2, at3_3, at3_4, at3_5, at3_6, start3, fI0_i, fI_i, fLt, fLe, fGt, fGe, fEqI, fNeI, fMin, fMax, asg3, name3, sub3, ret3, retN3, nx3, drop3, par3, aug3, and3, or3, not3, andV3, orV3, notV3, if3, nil3, cons3, tup3, lst3, lstM3, gtup3, gcons3, gnil3, gunl3, bits3, neg3, chain3, fIsi, isiD, fLen_lst, fLen_tup, fAbs, call3, isN3, notN3, dIsN_non, dIsN_int, dIsN_bl, dIsN_str, dIsN_tup, dIsN_lst, slc3, part3, noPart3, ilst3, itup3, irng1, irng2, for3, fCat, fEq_int, fNe_int, fEq_bl, fNe_bl, fEq_pair, fNe_pair, List.map, List.replicate, List.length_cons, List.length_nil, List.set_cons_zero, List.set_cons_succ, List.getElem?_cons_zero, List.getElem?_cons_succ, List.cons_append, List.nil_append, at_0, at_1, at_2, at_3, at_4, at_5, at_6, ix_0, ix_1, ix_2, put_same, put_put, decide_eq_true_eq, Bool.not_eq_true', decide_eq_false_iff_not, ite_not, ite_true, ite_false, if_true, if_false, Bool.false_eq_true, ↓reduceIte, reduceIte, Nat.reduceAdd, Nat.reduceSub, Int.reduceToNat, Nat.reduceLeDiff, not_false_eq_true, true_and, and_true, ne_eq, Int.reduceEq, Nat.zero_add, Bool.not_true, Bool.not_false, reduceCtorEq, nc0, nc1, nc2, nc3, nc4, nc5, fIx_ref put_same, fLen_ref put_same, fIx_dy0, fIx_dy1, fEq_dy, fNe_dy, fIx_bx0, fIx_bx1, fEq_opt, fNe_opt, fNe_optb, fEq_bx, isN_opt, lc3, fInt, fTuple, fNeS_s, fStr]); (repeat (with_reducible refine later_i ?_; try simp only [seq3_stop, ifS3, b3, op3, un3, v3, c3, fIx_tup, fIx_lst, at3_0, at3_1, at3_2, at3_3, at3_4, at3_5, at3_6, start3, fI0_i, fI_i, fLt, fLe, fGt, fGe, fEqI, fNeI, fMin, fMax, asg3, name3, sub3, ret3, retN3, nx3, drop3, par3, aug3, and3, or3, not3, andV3, orV3, notV3, if3, nil3, cons3, tup3, lst3, lstM3, gtup3, gcons3, gnil3, gunl3, bits3, neg3, chain3, fIsi, isiD, fLen_lst, fLen_tup, fAbs, call3, isN3, notN3, dIsN_non, dIsN_int, dIsN_bl, dIsN_str, dIsN_tup, dIsN_lst, slc3, part3, noPart3, ilst3, itup3, irng1, irng2, for3, fCat, fEq_int, fNe_int, fEq_bl, fNe_bl, fEq_pair, fNe_pair, List.map, List.replicate, List.length_cons, List.length_nil, List.set_cons_zero, List.set_cons_succ, List.getElem?_cons_zero, List.getElem?_cons_succ, List.cons_append, List.nil_append, at_0, at_1, at_2, at_3, at_4, at_5, at_6, ix_0, ix_1, ix_2, put_same, put_put, decide_eq_true_eq, Bool.not_eq_true', decide_eq_false_iff_not, ite_not, ite_true, ite_false, if_true, if_false, Bool.false_eq_true, ↓reduceIte, reduceIte, Nat.reduceAdd, Nat.reduceSub, Int.reduceToNat, Nat.reduceLeDiff, not_false_eq_true, true_and, and_true, ne_eq, Int.reduceEq, Nat.zero_add, Bool.not_true, Bool.not_false, reduceCtorEq, nc0, nc1, nc2, nc3, nc4, nc5, fIx_ref put_same, fLen_ref put_same, fIx_dy0, fIx_dy1, fEq_dy, fNe_dy, fIx_bx0, fIx_bx1, fEq_opt, fNe_opt, fNe_optb, fEq_bx, isN_opt, lc3, fInt, fTuple, fNeS_s, fStr]))
  refine ite2 (fun h1 => ?_) (fun h1 => tl b m4 gb d4)
  exact tl (a.1, b.2) m4 ⟨⟨ga.ok.f1, gb.ok.f2, h1⟩, ga.s1, gb.s2⟩ d4
end
/-! ### what the top has written; the law's end -/
theorem all_mk {l : PySem.W.OpenLaw} {w : World} {K : PySem.W.Frag} {h : Heap} {mg : Str → Option Value} {fa : Addr} (X : K.In h) (G : h.Ns mainGlobals mg) (hfa : mg "law" = some (.ref fa))
    {f0 f1 f2 f3 f4 f5 f6 f7 f8 f9 f10 f11 f12 f13 f14 f15 f16 f17 f18 f19 f20 f21 f22 f23 f24 : Addr} {od0 an0 od1 an1 od2 an2 od3 an3 od4 an4 od5 an5 od6 an6 od7 an7 od8 an8 od9 an9 od10 an10 od11 an11 od12 an12 od13 an13 od14 an14 od15 an15 od16 an16 od17 an17 od18 an18 od19 an19 od20 an20 od21 an21 od22 an22 od23 an23 od24 an24 : Option Addr} {sl0 sl1 sl2 sl3 sl4 sl5 sl6 sl7 sl8 sl9 sl10 sl11 sl12 sl13 sl14 sl15 sl16 sl17 sl18 sl19 sl20 sl21 sl22 sl23 sl24 : Array (Option Value)} {oc0 kV0 dc0 pm0 cd0 ct0 oc1 kV1 dc1 pm1 cd1 ct1 oc2 kV2 dc2 pm2 cd2 ct2 oc3 kV3 dc3 pm3 cd3 ct3 oc4 kV4 dc4 pm4 cd4 ct4 oc5 kV5 dc5 pm5 cd5 ct5 oc6 kV6 dc6 pm6 cd6 ct6 oc7 kV7 dc7 pm7 cd7 ct7 oc8 kV8 dc8 pm8 cd8 ct8 oc9 kV9 dc9 pm9 cd9 ct9 oc10 kV10 dc10 pm10 cd10 ct10 oc11 kV11 dc11 pm11 cd11 ct11 oc12 kV12 dc12 pm12 cd12 ct12 oc13 kV13 dc13 pm13 cd13 ct13 oc14 kV14 dc14 pm14 cd14 ct14 oc15 kV15 dc15 pm15 cd15 ct15 oc16 kV16 dc16 pm16 cd16 ct16 oc17 kV17 dc17 pm17 cd17 ct17 oc18 kV18 dc18 pm18 cd18 ct18 oc19 kV19 dc19 pm19 cd19 ct19 oc20 kV20 dc20 pm20 cd20 ct20 oc21 kV21 dc21 pm21 cd21 ct21 oc22 kV22 dc22 pm22 cd22 ct22 oc23 kV23 dc23 pm23 cd23 ct23 oc24 kV24 dc24 pm24 cd24 ct24 : Value}
    (a0 : PySem.W.nsIn K mainGlobals "is_whole" = some (some (.ref f0))) (l0 : K.lookup f0 = some ⟨oc0, od0, .func (PySem.W.fnOf "is_whole" "is_whole" (defArgs s_is_whole) (defBody s_is_whole) (defScope s_is_whole) .none kV0 dc0 pm0 an0 cd0 ct0), sl0⟩) (c0 : PySem.W.codeIn K cd0 "is_whole" = true) (k0 : PySem.W.keepIn K (.ref f0) = true)
    (a1 : PySem.W.nsIn K mainGlobals "is_dyadic" = some (some (.ref f1))) (l1 : K.lookup f1 = some ⟨oc1, od1, .func (PySem.W.fnOf "is_dyadic" "is_dyadic" (defArgs s_is_dyadic) (defBody s_is_dyadic) (defScope s_is_dyadic) .none kV1 dc1 pm1 an1 cd1 ct1), sl1⟩) (c1 : PySem.W.codeIn K cd1 "is_dyadic" = true) (k1 : PySem.W.keepIn K (.ref f1) = true)
    (a2 : PySem.W.nsIn K mainGlobals "dyadic" = some (some (.ref f2))) (l2 : K.lookup f2 = some ⟨oc2, od2, .func (PySem.W.fnOf "dyadic" "dyadic" (defArgs s_dyadic) (defBody s_dyadic) (defScope s_dyadic) .none kV2 dc2 pm2 an2 cd2 ct2), sl2⟩) (c2 : PySem.W.codeIn K cd2 "dyadic" = true) (k2 : PySem.W.keepIn K (.ref f2) = true)
    (a3 : PySem.W.nsIn K mainGlobals "tops_of" = some (some (.ref f3))) (l3 : K.lookup f3 = some ⟨oc3, od3, .func (PySem.W.fnOf "tops_of" "tops_of" (defArgs s_tops_of) (defBody s_tops_of) (defScope s_tops_of) .none kV3 dc3 pm3 an3 cd3 ct3), sl3⟩) (c3 : PySem.W.codeIn K cd3 "tops_of" = true) (k3 : PySem.W.keepIn K (.ref f3) = true)
    (a4 : PySem.W.nsIn K mainGlobals "minus" = some (some (.ref f4))) (l4 : K.lookup f4 = some ⟨oc4, od4, .func (PySem.W.fnOf "minus" "minus" (defArgs s_minus) (defBody s_minus) (defScope s_minus) .none kV4 dc4 pm4 an4 cd4 ct4), sl4⟩) (c4 : PySem.W.codeIn K cd4 "minus" = true) (k4 : PySem.W.keepIn K (.ref f4) = true)
    (a5 : PySem.W.nsIn K mainGlobals "is_less" = some (some (.ref f5))) (l5 : K.lookup f5 = some ⟨oc5, od5, .func (PySem.W.fnOf "is_less" "is_less" (defArgs s_is_less) (defBody s_is_less) (defScope s_is_less) .none kV5 dc5 pm5 an5 cd5 ct5), sl5⟩) (c5 : PySem.W.codeIn K cd5 "is_less" = true) (k5 : PySem.W.keepIn K (.ref f5) = true)
    (a6 : PySem.W.nsIn K mainGlobals "least_of" = some (some (.ref f6))) (l6 : K.lookup f6 = some ⟨oc6, od6, .func (PySem.W.fnOf "least_of" "least_of" (defArgs s_least_of) (defBody s_least_of) (defScope s_least_of) .none kV6 dc6 pm6 an6 cd6 ct6), sl6⟩) (c6 : PySem.W.codeIn K cd6 "least_of" = true) (k6 : PySem.W.keepIn K (.ref f6) = true)
    (a7 : PySem.W.nsIn K mainGlobals "most_of" = some (some (.ref f7))) (l7 : K.lookup f7 = some ⟨oc7, od7, .func (PySem.W.fnOf "most_of" "most_of" (defArgs s_most_of) (defBody s_most_of) (defScope s_most_of) .none kV7 dc7 pm7 an7 cd7 ct7), sl7⟩) (c7 : PySem.W.codeIn K cd7 "most_of" = true) (k7 : PySem.W.keepIn K (.ref f7) = true)
    (a8 : PySem.W.nsIn K mainGlobals "is_box" = some (some (.ref f8))) (l8 : K.lookup f8 = some ⟨oc8, od8, .func (PySem.W.fnOf "is_box" "is_box" (defArgs s_is_box) (defBody s_is_box) (defScope s_is_box) .none kV8 dc8 pm8 an8 cd8 ct8), sl8⟩) (c8 : PySem.W.codeIn K cd8 "is_box" = true) (k8 : PySem.W.keepIn K (.ref f8) = true)
    (a9 : PySem.W.nsIn K mainGlobals "width" = some (some (.ref f9))) (l9 : K.lookup f9 = some ⟨oc9, od9, .func (PySem.W.fnOf "width" "width" (defArgs s_width) (defBody s_width) (defScope s_width) .none kV9 dc9 pm9 an9 cd9 ct9), sl9⟩) (c9 : PySem.W.codeIn K cd9 "width" = true) (k9 : PySem.W.keepIn K (.ref f9) = true)
    (a10 : PySem.W.nsIn K mainGlobals "is_within" = some (some (.ref f10))) (l10 : K.lookup f10 = some ⟨oc10, od10, .func (PySem.W.fnOf "is_within" "is_within" (defArgs s_is_within) (defBody s_is_within) (defScope s_is_within) .none kV10 dc10 pm10 an10 cd10 ct10), sl10⟩) (c10 : PySem.W.codeIn K cd10 "is_within" = true) (k10 : PySem.W.keepIn K (.ref f10) = true)
    (a11 : PySem.W.nsIn K mainGlobals "common" = some (some (.ref f11))) (l11 : K.lookup f11 = some ⟨oc11, od11, .func (PySem.W.fnOf "common" "common" (defArgs s_common) (defBody s_common) (defScope s_common) .none kV11 dc11 pm11 an11 cd11 ct11), sl11⟩) (c11 : PySem.W.codeIn K cd11 "common" = true) (k11 : PySem.W.keepIn K (.ref f11) = true)
    (a12 : PySem.W.nsIn K mainGlobals "_law_deck" = some (some (.ref f12))) (l12 : K.lookup f12 = some ⟨oc12, od12, .func (PySem.W.fnOf "_law_deck" "_law_deck" (defArgs s_law_deck) (defBody s_law_deck) (defScope s_law_deck) .none kV12 dc12 pm12 an12 cd12 ct12), sl12⟩) (c12 : PySem.W.codeIn K cd12 "_law_deck" = true) (k12 : PySem.W.keepIn K (.ref f12) = true)
    (a13 : PySem.W.nsIn K mainGlobals "_law_pick" = some (some (.ref f13))) (l13 : K.lookup f13 = some ⟨oc13, od13, .func (PySem.W.fnOf "_law_pick" "_law_pick" (defArgs s_law_pick) (defBody s_law_pick) (defScope s_law_pick) .none kV13 dc13 pm13 an13 cd13 ct13), sl13⟩) (c13 : PySem.W.codeIn K cd13 "_law_pick" = true) (k13 : PySem.W.keepIn K (.ref f13) = true)
    (a14 : PySem.W.nsIn K mainGlobals "_law_whole" = some (some (.ref f14))) (l14 : K.lookup f14 = some ⟨oc14, od14, .func (PySem.W.fnOf "_law_whole" "_law_whole" (defArgs s_law_whole) (defBody s_law_whole) (defScope s_law_whole) .none kV14 dc14 pm14 an14 cd14 ct14), sl14⟩) (c14 : PySem.W.codeIn K cd14 "_law_whole" = true) (k14 : PySem.W.keepIn K (.ref f14) = true)
    (a15 : PySem.W.nsIn K mainGlobals "_law_dyadic" = some (some (.ref f15))) (l15 : K.lookup f15 = some ⟨oc15, od15, .func (PySem.W.fnOf "_law_dyadic" "_law_dyadic" (defArgs s_law_dyadic) (defBody s_law_dyadic) (defScope s_law_dyadic) .none kV15 dc15 pm15 an15 cd15 ct15), sl15⟩) (c15 : PySem.W.codeIn K cd15 "_law_dyadic" = true) (k15 : PySem.W.keepIn K (.ref f15) = true)
    (a16 : PySem.W.nsIn K mainGlobals "_law_less" = some (some (.ref f16))) (l16 : K.lookup f16 = some ⟨oc16, od16, .func (PySem.W.fnOf "_law_less" "_law_less" (defArgs s_law_less) (defBody s_law_less) (defScope s_law_less) .none kV16 dc16 pm16 an16 cd16 ct16), sl16⟩) (c16 : PySem.W.codeIn K cd16 "_law_less" = true) (k16 : PySem.W.keepIn K (.ref f16) = true)
    (a17 : PySem.W.nsIn K mainGlobals "_law_drawn" = some (some (.ref f17))) (l17 : K.lookup f17 = some ⟨oc17, od17, .func (PySem.W.fnOf "_law_drawn" "_law_drawn" (defArgs s_law_drawn) (defBody s_law_drawn) (defScope s_law_drawn) .none kV17 dc17 pm17 an17 cd17 ct17), sl17⟩) (c17 : PySem.W.codeIn K cd17 "_law_drawn" = true) (k17 : PySem.W.keepIn K (.ref f17) = true)
    (a18 : PySem.W.nsIn K mainGlobals "_law_drawn_box" = some (some (.ref f18))) (l18 : K.lookup f18 = some ⟨oc18, od18, .func (PySem.W.fnOf "_law_drawn_box" "_law_drawn_box" (defArgs s_law_drawn_box) (defBody s_law_drawn_box) (defScope s_law_drawn_box) .none kV18 dc18 pm18 an18 cd18 ct18), sl18⟩) (c18 : PySem.W.codeIn K cd18 "_law_drawn_box" = true) (k18 : PySem.W.keepIn K (.ref f18) = true)
    (a19 : PySem.W.nsIn K mainGlobals "_law_thing" = some (some (.ref f19))) (l19 : K.lookup f19 = some ⟨oc19, od19, .func (PySem.W.fnOf "_law_thing" "_law_thing" (defArgs s_law_thing) (defBody s_law_thing) (defScope s_law_thing) .none kV19 dc19 pm19 an19 cd19 ct19), sl19⟩) (c19 : PySem.W.codeIn K cd19 "_law_thing" = true) (k19 : PySem.W.keepIn K (.ref f19) = true)
    (a20 : PySem.W.nsIn K mainGlobals "_law_is_dyadic" = some (some (.ref f20))) (l20 : K.lookup f20 = some ⟨oc20, od20, .func (PySem.W.fnOf "_law_is_dyadic" "_law_is_dyadic" (defArgs s_law_is_dyadic) (defBody s_law_is_dyadic) (defScope s_law_is_dyadic) .none kV20 dc20 pm20 an20 cd20 ct20), sl20⟩) (c20 : PySem.W.codeIn K cd20 "_law_is_dyadic" = true) (k20 : PySem.W.keepIn K (.ref f20) = true)
    (a21 : PySem.W.nsIn K mainGlobals "_law_is_box" = some (some (.ref f21))) (l21 : K.lookup f21 = some ⟨oc21, od21, .func (PySem.W.fnOf "_law_is_box" "_law_is_box" (defArgs s_law_is_box) (defBody s_law_is_box) (defScope s_law_is_box) .none kV21 dc21 pm21 an21 cd21 ct21), sl21⟩) (c21 : PySem.W.codeIn K cd21 "_law_is_box" = true) (k21 : PySem.W.keepIn K (.ref f21) = true)
    (a22 : PySem.W.nsIn K mainGlobals "_law_near" = some (some (.ref f22))) (l22 : K.lookup f22 = some ⟨oc22, od22, .func (PySem.W.fnOf "_law_near" "_law_near" (defArgs s_law_near) (defBody s_law_near) (defScope s_law_near) .none kV22 dc22 pm22 an22 cd22 ct22), sl22⟩) (c22 : PySem.W.codeIn K cd22 "_law_near" = true) (k22 : PySem.W.keepIn K (.ref f22) = true)
    (a23 : PySem.W.nsIn K mainGlobals "_law_pair_right" = some (some (.ref f23))) (l23 : K.lookup f23 = some ⟨oc23, od23, .func (PySem.W.fnOf "_law_pair_right" "_law_pair_right" (defArgs s_law_pair_right) (defBody s_law_pair_right) (defScope s_law_pair_right) .none kV23 dc23 pm23 an23 cd23 ct23), sl23⟩) (c23 : PySem.W.codeIn K cd23 "_law_pair_right" = true) (k23 : PySem.W.keepIn K (.ref f23) = true)
    (a24 : PySem.W.nsIn K mainGlobals "law" = some (some (.ref f24))) (l24 : K.lookup f24 = some ⟨oc24, od24, .func (PySem.W.fnOf "law" "law" (defArgs s_law) (defBody s_law) (defScope s_law) .none kV24 dc24 pm24 an24 cd24 ct24), sl24⟩) (c24 : PySem.W.codeIn K cd24 "law" = true) (k24 : PySem.W.keepIn K (.ref f24) = true)
    (z_bool : PySem.W.nsIn K mainGlobals "bool" = some none)
    (z_int : PySem.W.nsIn K mainGlobals "int" = some none)
    (z_isinstance : PySem.W.nsIn K mainGlobals "isinstance" = some none)
    (z_len : PySem.W.nsIn K mainGlobals "len" = some none)
    (z_list : PySem.W.nsIn K mainGlobals "list" = some none)
    (z_max : PySem.W.nsIn K mainGlobals "max" = some none)
    (z_min : PySem.W.nsIn K mainGlobals "min" = some none)
    (z_range : PySem.W.nsIn K mainGlobals "range" = some none)
    (z_str : PySem.W.nsIn K mainGlobals "str" = some none)
    (z_tuple : PySem.W.nsIn K mainGlobals "tuple" = some none)
    {t_MOST_DOWN : Tok} (g_MOST_DOWN : PySem.W.nsIn K mainGlobals "MOST_DOWN" = some (some (.int 4096 t_MOST_DOWN)))
    : ∃ fd : FuncData, (∀ (s : Shared) (v : Value), BindsTo s fd ⟨[v], []⟩ [("script", v)]) ∧ ∀ base : Heap, K.In base → base.Ns mainGlobals mg → FnG l.prog w K mg base 6 fa fd ["script"] sp3Law := by
  have e := hfa.symm.trans (PySem.W.mg_of X G a24)
  cases e
  have F0 := fun_mk (st := s_is_whole) l0 c0 k0
  have b0 := F0.binds (ps := ["thing"]) fun _ _ _ _ _ _ us hl => match us, hl with | [_], _ => rfl
  have F1 := fun_mk (st := s_is_dyadic) l1 c1 k1
  have b1 := F1.binds (ps := ["thing"]) fun _ _ _ _ _ _ us hl => match us, hl with | [_], _ => rfl
  have F2 := fun_mk (st := s_dyadic) l2 c2 k2
  have b2 := F2.binds (ps := ["top", "down"]) fun _ _ _ _ _ _ us hl => match us, hl with | [_, _], _ => rfl
  have F3 := fun_mk (st := s_tops_of) l3 c3 k3
  have b3 := F3.binds (ps := ["one", "other"]) fun _ _ _ _ _ _ us hl => match us, hl with | [_, _], _ => rfl
  have F4 := fun_mk (st := s_minus) l4 c4 k4
  have b4 := F4.binds (ps := ["one", "other"]) fun _ _ _ _ _ _ us hl => match us, hl with | [_, _], _ => rfl
  have F5 := fun_mk (st := s_is_less) l5 c5 k5
  have b5 := F5.binds (ps := ["one", "other"]) fun _ _ _ _ _ _ us hl => match us, hl with | [_, _], _ => rfl
  have F6 := fun_mk (st := s_least_of) l6 c6 k6
  have b6 := F6.binds (ps := ["some"]) fun _ _ _ _ _ _ us hl => match us, hl with | [_], _ => rfl
  have F7 := fun_mk (st := s_most_of) l7 c7 k7
  have b7 := F7.binds (ps := ["some"]) fun _ _ _ _ _ _ us hl => match us, hl with | [_], _ => rfl
  have F8 := fun_mk (st := s_is_box) l8 c8 k8
  have b8 := F8.binds (ps := ["thing"]) fun _ _ _ _ _ _ us hl => match us, hl with | [_], _ => rfl
  have F9 := fun_mk (st := s_width) l9 c9 k9
  have b9 := F9.binds (ps := ["box"]) fun _ _ _ _ _ _ us hl => match us, hl with | [_], _ => rfl
  have F10 := fun_mk (st := s_is_within) l10 c10 k10
  have b10 := F10.binds (ps := ["one", "other"]) fun _ _ _ _ _ _ us hl => match us, hl with | [_, _], _ => rfl
  have F11 := fun_mk (st := s_common) l11 c11 k11
  have b11 := F11.binds (ps := ["one", "other"]) fun _ _ _ _ _ _ us hl => match us, hl with | [_, _], _ => rfl
  have F12 := fun_mk (st := s_law_deck) l12 c12 k12
  have b12 := F12.binds (ps := ["cell", "turn"]) fun _ _ _ _ _ _ us hl => match us, hl with | [_, _], _ => rfl
  have F13 := fun_mk (st := s_law_pick) l13 c13 k13
  have b13 := F13.binds (ps := ["deck", "many"]) fun _ _ _ _ _ _ us hl => match us, hl with | [_, _], _ => rfl
  have F14 := fun_mk (st := s_law_whole) l14 c14 k14
  have b14 := F14.binds (ps := ["thing"]) fun _ _ _ _ _ _ us hl => match us, hl with | [_], _ => rfl
  have F15 := fun_mk (st := s_law_dyadic) l15 c15 k15
  have b15 := F15.binds (ps := ["top", "down"]) fun _ _ _ _ _ _ us hl => match us, hl with | [_, _], _ => rfl
  have F16 := fun_mk (st := s_law_less) l16 c16 k16
  have b16 := F16.binds (ps := ["one", "other"]) fun _ _ _ _ _ _ us hl => match us, hl with | [_, _], _ => rfl
  have F17 := fun_mk (st := s_law_drawn) l17 c17 k17
  have b17 := F17.binds (ps := ["deck"]) fun _ _ _ _ _ _ us hl => match us, hl with | [_], _ => rfl
  have F18 := fun_mk (st := s_law_drawn_box) l18 c18 k18
  have b18 := F18.binds (ps := ["deck"]) fun _ _ _ _ _ _ us hl => match us, hl with | [_], _ => rfl
  have F19 := fun_mk (st := s_law_thing) l19 c19 k19
  have b19 := F19.binds (ps := ["deck", "deep"]) fun _ _ _ _ _ _ us hl => match us, hl with | [_, _], _ => rfl
  have F20 := fun_mk (st := s_law_is_dyadic) l20 c20 k20
  have b20 := F20.binds (ps := ["thing"]) fun _ _ _ _ _ _ us hl => match us, hl with | [_], _ => rfl
  have F21 := fun_mk (st := s_law_is_box) l21 c21 k21
  have b21 := F21.binds (ps := ["thing"]) fun _ _ _ _ _ _ us hl => match us, hl with | [_], _ => rfl
  have F22 := fun_mk (st := s_law_near) l22 c22 k22
  have b22 := F22.binds (ps := ["deck", "box"]) fun _ _ _ _ _ _ us hl => match us, hl with | [_, _], _ => rfl
  have F23 := fun_mk (st := s_law_pair_right) l23 c23 k23
  have b23 := F23.binds (ps := ["one", "other"]) fun _ _ _ _ _ _ us hl => match us, hl with | [_, _], _ => rfl
  have F24 := fun_mk (st := s_law) l24 c24 k24
  have b24 := F24.binds (ps := ["script"]) fun _ _ _ _ _ _ us hl => match us, hl with | [_], _ => rfl
  have T : Tx K mg (fun i => match i with | 0 => f0 | 1 => f1 | 2 => f2 | 3 => f3 | 4 => f4 | 5 => f5 | 6 => f6 | 7 => f7 | 8 => f8 | 9 => f9 | 10 => f10 | 11 => f11 | 12 => f12 | 13 => f13 | 14 => f14 | 15 => f15 | 16 => f16 | 17 => f17 | 18 => f18 | 19 => f19 | 20 => f20 | 21 => f21 | 22 => f22 | 23 => f23 | 24 => fa | _ => 0) (fun i => match i with | 0 => PySem.W.fnOf "is_whole" "is_whole" (defArgs s_is_whole) (defBody s_is_whole) (defScope s_is_whole) .none kV0 dc0 pm0 an0 cd0 ct0 | 1 => PySem.W.fnOf "is_dyadic" "is_dyadic" (defArgs s_is_dyadic) (defBody s_is_dyadic) (defScope s_is_dyadic) .none kV1 dc1 pm1 an1 cd1 ct1 | 2 => PySem.W.fnOf "dyadic" "dyadic" (defArgs s_dyadic) (defBody s_dyadic) (defScope s_dyadic) .none kV2 dc2 pm2 an2 cd2 ct2 | 3 => PySem.W.fnOf "tops_of" "tops_of" (defArgs s_tops_of) (defBody s_tops_of) (defScope s_tops_of) .none kV3 dc3 pm3 an3 cd3 ct3 | 4 => PySem.W.fnOf "minus" "minus" (defArgs s_minus) (defBody s_minus) (defScope s_minus) .none kV4 dc4 pm4 an4 cd4 ct4 | 5 => PySem.W.fnOf "is_less" "is_less" (defArgs s_is_less) (defBody s_is_less) (defScope s_is_less) .none kV5 dc5 pm5 an5 cd5 ct5 | 6 => PySem.W.fnOf "least_of" "least_of" (defArgs s_least_of) (defBody s_least_of) (defScope s_least_of) .none kV6 dc6 pm6 an6 cd6 ct6 | 7 => PySem.W.fnOf "most_of" "most_of" (defArgs s_most_of) (defBody s_most_of) (defScope s_most_of) .none kV7 dc7 pm7 an7 cd7 ct7 | 8 => PySem.W.fnOf "is_box" "is_box" (defArgs s_is_box) (defBody s_is_box) (defScope s_is_box) .none kV8 dc8 pm8 an8 cd8 ct8 | 9 => PySem.W.fnOf "width" "width" (defArgs s_width) (defBody s_width) (defScope s_width) .none kV9 dc9 pm9 an9 cd9 ct9 | 10 => PySem.W.fnOf "is_within" "is_within" (defArgs s_is_within) (defBody s_is_within) (defScope s_is_within) .none kV10 dc10 pm10 an10 cd10 ct10 | 11 => PySem.W.fnOf "common" "common" (defArgs s_common) (defBody s_common) (defScope s_common) .none kV11 dc11 pm11 an11 cd11 ct11 | 12 => PySem.W.fnOf "_law_deck" "_law_deck" (defArgs s_law_deck) (defBody s_law_deck) (defScope s_law_deck) .none kV12 dc12 pm12 an12 cd12 ct12 | 13 => PySem.W.fnOf "_law_pick" "_law_pick" (defArgs s_law_pick) (defBody s_law_pick) (defScope s_law_pick) .none kV13 dc13 pm13 an13 cd13 ct13 | 14 => PySem.W.fnOf "_law_whole" "_law_whole" (defArgs s_law_whole) (defBody s_law_whole) (defScope s_law_whole) .none kV14 dc14 pm14 an14 cd14 ct14 | 15 => PySem.W.fnOf "_law_dyadic" "_law_dyadic" (defArgs s_law_dyadic) (defBody s_law_dyadic) (defScope s_law_dyadic) .none kV15 dc15 pm15 an15 cd15 ct15 | 16 => PySem.W.fnOf "_law_less" "_law_less" (defArgs s_law_less) (defBody s_law_less) (defScope s_law_less) .none kV16 dc16 pm16 an16 cd16 ct16 | 17 => PySem.W.fnOf "_law_drawn" "_law_drawn" (defArgs s_law_drawn) (defBody s_law_drawn) (defScope s_law_drawn) .none kV17 dc17 pm17 an17 cd17 ct17 | 18 => PySem.W.fnOf "_law_drawn_box" "_law_drawn_box" (defArgs s_law_drawn_box) (defBody s_law_drawn_box) (defScope s_law_drawn_box) .none kV18 dc18 pm18 an18 cd18 ct18 | 19 => PySem.W.fnOf "_law_thing" "_law_thing" (defArgs s_law_thing) (defBody s_law_thing) (defScope s_law_thing) .none kV19 dc19 pm19 an19 cd19 ct19 | 20 => PySem.W.fnOf "_law_is_dyadic" "_law_is_dyadic" (defArgs s_law_is_dyadic) (defBody s_law_is_dyadic) (defScope s_law_is_dyadic) .none kV20 dc20 pm20 an20 cd20 ct20 | 21 => PySem.W.fnOf "_law_is_box" "_law_is_box" (defArgs s_law_is_box) (defBody s_law_is_box) (defScope s_law_is_box) .none kV21 dc21 pm21 an21 cd21 ct21 | 22 => PySem.W.fnOf "_law_near" "_law_near" (defArgs s_law_near) (defBody s_law_near) (defScope s_law_near) .none kV22 dc22 pm22 an22 cd22 ct22 | 23 => PySem.W.fnOf "_law_pair_right" "_law_pair_right" (defArgs s_law_pair_right) (defBody s_law_pair_right) (defScope s_law_pair_right) .none kV23 dc23 pm23 an23 cd23 ct23 | 24 => PySem.W.fnOf "law" "law" (defArgs s_law) (defBody s_law) (defScope s_law) .none kV24 dc24 pm24 an24 cd24 ct24 | _ => PySem.W.fnOf "law" "law" (defArgs s_law) (defBody s_law) (defScope s_law) .none kV24 dc24 pm24 an24 cd24 ct24) := ⟨⟨F0, b0, PySem.W.mg_of X G a0⟩, ⟨F1, b1, PySem.W.mg_of X G a1⟩, ⟨F2, b2, PySem.W.mg_of X G a2⟩, ⟨F3, b3, PySem.W.mg_of X G a3⟩, ⟨F4, b4, PySem.W.mg_of X G a4⟩, ⟨F5, b5, PySem.W.mg_of X G a5⟩, ⟨F6, b6, PySem.W.mg_of X G a6⟩, ⟨F7, b7, PySem.W.mg_of X G a7⟩, ⟨F8, b8, PySem.W.mg_of X G a8⟩, ⟨F9, b9, PySem.W.mg_of X G a9⟩, ⟨F10, b10, PySem.W.mg_of X G a10⟩, ⟨F11, b11, PySem.W.mg_of X G a11⟩, ⟨F12, b12, PySem.W.mg_of X G a12⟩, ⟨F13, b13, PySem.W.mg_of X G a13⟩, ⟨F14, b14, PySem.W.mg_of X G a14⟩, ⟨F15, b15, PySem.W.mg_of X G a15⟩, ⟨F16, b16, PySem.W.mg_of X G a16⟩, ⟨F17, b17, PySem.W.mg_of X G a17⟩, ⟨F18, b18, PySem.W.mg_of X G a18⟩, ⟨F19, b19, PySem.W.mg_of X G a19⟩, ⟨F20, b20, PySem.W.mg_of X G a20⟩, ⟨F21, b21, PySem.W.mg_of X G a21⟩, ⟨F22, b22, PySem.W.mg_of X G a22⟩, ⟨F23, b23, PySem.W.mg_of X G a23⟩, ⟨F24, b24, PySem.W.mg_of X G a24⟩, PySem.W.mg_none_of X G z_bool, PySem.W.mg_none_of X G z_int, PySem.W.mg_none_of X G z_isinstance, PySem.W.mg_none_of X G z_len, PySem.W.mg_none_of X G z_list, PySem.W.mg_none_of X G z_max, PySem.W.mg_none_of X G z_min, PySem.W.mg_none_of X G z_range, PySem.W.mg_none_of X G z_str, PySem.W.mg_none_of X G z_tuple, ⟨_, PySem.W.mg_of X G g_MOST_DOWN⟩⟩
  exact ⟨PySem.W.fnOf "law" "law" (defArgs s_law) (defBody s_law) (defScope s_law) .none kV24 dc24 pm24 an24 cd24 ct24, fun s v => .of_eq rfl, fun base _ _ => ok_law T⟩
end LK
open PySem PySem.W PyProof.Rows
set_option maxRecDepth 100000 in
set_option maxHeartbeats 0 in
theorem PySem.Challenge.cw_lazyreal_k04_boxes_holds : PySem.Challenge.rw_lazyreal_k04_boxes.Holds := by
  w_on; o_law; k_head; (case hw => w_witness2)
  k_fill
  refine D3.walk_g (l := PySem.Challenge.rw_lazyreal_k04_boxes) (k := 6) rfl rfl ⟨rfl, by decide, by decide⟩ (fun w h Y => PySem.W.kIn_of Y) ?F
  case F =>
    intro w mg fa h KX G hmg
    refine' LK.all_mk KX G hmg ?a0 ?l0 ?c0 ?k0 ?a1 ?l1 ?c1 ?k1 ?a2 ?l2 ?c2 ?k2 ?a3 ?l3 ?c3 ?k3 ?a4 ?l4 ?c4 ?k4 ?a5 ?l5 ?c5 ?k5 ?a6 ?l6 ?c6 ?k6 ?a7 ?l7 ?c7 ?k7 ?a8 ?l8 ?c8 ?k8 ?a9 ?l9 ?c9 ?k9 ?a10 ?l10 ?c10 ?k10 ?a11 ?l11 ?c11 ?k11 ?a12 ?l12 ?c12 ?k12 ?a13 ?l13 ?c13 ?k13 ?a14 ?l14 ?c14 ?k14 ?a15 ?l15 ?c15 ?k15 ?a16 ?l16 ?c16 ?k16 ?a17 ?l17 ?c17 ?k17 ?a18 ?l18 ?c18 ?k18 ?a19 ?l19 ?c19 ?k19 ?a20 ?l20 ?c20 ?k20 ?a21 ?l21 ?c21 ?k21 ?a22 ?l22 ?c22 ?k22 ?a23 ?l23 ?c23 ?k23 ?a24 ?l24 ?c24 ?k24 ?z_bool ?z_int ?z_isinstance ?z_len ?z_list ?z_max ?z_min ?z_range ?z_str ?z_tuple ?g_MOST_DOWN
    (case a0 => k_is); (case l0 => k_is); (case c0 => k_is); (case k0 => k_is); (case a1 => k_is); (case l1 => k_is); (case c1 => k_is); (case k1 => k_is); (case a2 => k_is); (case l2 => k_is); (case c2 => k_is); (case k2 => k_is); (case a3 => k_is); (case l3 => k_is); (case c3 => k_is); (case k3 => k_is); (case a4 => k_is); (case l4 => k_is); (case c4 => k_is); (case k4 => k_is); (case a5 => k_is); (case l5 => k_is); (case c5 => k_is); (case k5 => k_is); (case a6 => k_is); (case l6 => k_is); (case c6 => k_is); (case k6 => k_is); (case a7 => k_is); (case l7 => k_is); (case c7 => k_is); (case k7 => k_is); (case a8 => k_is); (case l8 => k_is); (case c8 => k_is); (case k8 => k_is); (case a9 => k_is); (case l9 => k_is); (case c9 => k_is); (case k9 => k_is); (case a10 => k_is); (case l10 => k_is); (case c10 => k_is); (case k10 => k_is); (case a11 => k_is); (case l11 => k_is); (case c11 => k_is); (case k11 => k_is); (case a12 => k_is); (case l12 => k_is); (case c12 => k_is); (case k12 => k_is); (case a13 => k_is); (case l13 => k_is); (case c13 => k_is); (case k13 => k_is); (case a14 => k_is); (case l14 => k_is); (case c14 => k_is); (case k14 => k_is); (case a15 => k_is); (case l15 => k_is); (case c15 => k_is); (case k15 => k_is); (case a16 => k_is); (case l16 => k_is); (case c16 => k_is); (case k16 => k_is); (case a17 => k_is); (case l17 => k_is); (case c17 => k_is); (case k17 => k_is); (case a18 => k_is); (case l18 => k_is); (case c18 => k_is); (case k18 => k_is); (case a19 => k_is); (case l19 => k_is); (case c19 => k_is); (case k19 => k_is); (case a20 => k_is); (case l20 => k_is); (case c20 => k_is); (case k20 => k_is); (case a21 => k_is); (case l21 => k_is); (case c21 => k_is); (case k21 => k_is); (case a22 => k_is); (case l22 => k_is); (case c22 => k_is); (case k22 => k_is); (case a23 => k_is); (case l23 => k_is); (case c23 => k_is); (case k23 => k_is); (case a24 => k_is); (case l24 => k_is); (case c24 => k_is); (case k24 => k_is); (case z_bool => k_is); (case z_int => k_is); (case z_isinstance => k_is); (case z_len => k_is); (case z_list => k_is); (case z_max => k_is); (case z_min => k_is); (case z_range => k_is); (case z_str => k_is); (case z_tuple => k_is); (case g_MOST_DOWN => k_is)
