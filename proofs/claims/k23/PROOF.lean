import PyProof.Rows.All
import Wide.All
import OpenK.AllK
import Wide.FinOn
import HandS.ForMost
import HandS.IsInst
import HandS.WideBits
import HandS.Wide
import HandS.Zip
import HandS.NoneIn
import HandS.HeadHook3
import HandS.Text
import HandS.TupAny
import HandS.Iter
import KE.KUnpackStar
import HandS.Deep
import HandS.Dict
import PySem.Challenge.RW_lazyreal_k23_whole_plain_values
set_option Elab.async false
set_option linter.all false
set_option maxRecDepth 100000
set_option maxHeartbeats 4000000
/-! D3: a layer over the hand layer in which tuples (and lists that no longer change) are plain values: data instead of addresses. -/
namespace D3
open PySem L2

/-- data: what a Python value is, without addresses but for what may change -/
inductive D where
  | non | bl (b : Bool) | int (i : Int) | str (x : Str) | tup (xs : List D) | lst (xs : List D) | ref (a : Addr) | ty (n : String)

/-- what may change: a list, a dict, an instance, by data -/
inductive MO where
  | lst (xs : List D)
  | dct (kvs : List (Key × D))
  | ins (C dx : Addr) (fs : List (Str × D))
abbrev Mem := Addr → Option MO
def put (m : Mem) (a : Addr) (o : MO) : Mem := fun b => if b = a then some o else m b
def del (m : Mem) (a : Addr) : Mem := fun b => if b = a then none else m b
theorem put_same {m : Mem} {a : Addr} {o : MO} : put m a o a = some o := by unfold put; rw [if_pos rfl]
theorem put_ne {m : Mem} {a b : Addr} {o : MO} (h : b ≠ a) : put m a o b = m b := by unfold put; rw [if_neg h]
theorem put_put {m : Mem} {a : Addr} {o u : MO} : put (put m a o) a u = put m a u := by
  funext b; unfold put; split <;> rfl
theorem put_self {m : Mem} {a : Addr} {o : MO} (h : m a = some o) : put m a o = m := by
  funext b; unfold put; split
  · rename_i e; rw [e, h]
  · rfl

/-- what is tracked and does not change -/
def RdS (H : Hp) (m : Mem) (a : Addr) (u : HO) : Prop := Rd H a u ∧ m a = none
def TupAt (K : PySem.W.Frag) (H : Hp) (m : Mem) (a : Addr) (xs : List V) : Prop :=
  RdS H m a (.tup xs) ∨ ∃ (o : Obj) (its : Array Value) (n : Nat), K.lookup a = some o ∧ o.cls = .type "tuple" ∧ o.data = .seq its n ∧ its.size ≤ sizeLine ∧ Vals xs its.toList
def LstAt (K : PySem.W.Frag) (H : Hp) (m : Mem) (a : Addr) (xs : List V) : Prop :=
  RdS H m a (.lst xs) ∨ ∃ (o : Obj) (its : Array Value) (n : Nat), K.lookup a = some o ∧ o.cls = .type "list" ∧ o.dict = none ∧ o.data = .seq its n ∧ its.size ≤ sizeLine ∧ Vals xs its.toList
theorem TupAt.sq {K : PySem.W.Frag} {H : Hp} {m : Mem} {a : Addr} {xs : List V} (h : TupAt K H m a xs) : SqT K H a xs := by
  rcases h with h | h
  · exact .inl h.1
  · exact .inr h
theorem LstAt.sq {K : PySem.W.Frag} {H : Hp} {m : Mem} {a : Addr} {xs : List V} (h : LstAt K H m a xs) : SqL K H a xs := by
  rcases h with h | h
  · exact .inl h.1
  · exact .inr h

mutual
inductive Rep (K : PySem.W.Frag) (H : Hp) (m : Mem) : V → D → Prop
  | non : Rep K H m .non .non
  | bl (b : Bool) : Rep K H m (.bl b) (.bl b)
  | int (i : Int) : Rep K H m (.int i) (.int i)
  | str (x : Str) : Rep K H m (.str x) (.str x)
  | ref (a : Addr) : Rep K H m (.ref a) (.ref a)
  | ty (n : String) : Rep K H m (.ty n) (.ty n)
  | tup {a : Addr} {xs : List V} {ds : List D} : TupAt K H m a xs → Reps K H m xs ds → Rep K H m (.ref a) (.tup ds)
  | lst {a : Addr} {xs : List V} {ds : List D} : LstAt K H m a xs → Reps K H m xs ds → Rep K H m (.ref a) (.lst ds)
inductive Reps (K : PySem.W.Frag) (H : Hp) (m : Mem) : List V → List D → Prop
  | nil : Reps K H m [] []
  | cons {v : V} {vs : List V} {d : D} {ds : List D} : Rep K H m v d → Reps K H m vs ds → Reps K H m (v :: vs) (d :: ds)
end

/-- from one state to a later one: what is tracked and does not change stands -/
def Step (H : Hp) (m : Mem) (H' : Hp) (m' : Mem) : Prop := ∀ a o, H a = some o → m a = none → H' a = some o ∧ m' a = none
theorem Step.refl (H : Hp) (m : Mem) : Step H m H m := fun _ _ h n => ⟨h, n⟩
theorem Step.trans {H H1 H2 : Hp} {m m1 m2 : Mem} (a : Step H m H1 m1) (b : Step H1 m1 H2 m2) : Step H m H2 m2 := fun c o h n =>
  b c o (a c o h n).1 (a c o h n).2
theorem RdS.step {H H' : Hp} {m m' : Mem} {a : Addr} {u : HO} (s : Step H m H' m') (h : RdS H m a u) : RdS H' m' a u := by
  obtain ⟨h | ⟨o, h⟩, n⟩ := h
  · exact ⟨.inl (s _ _ h n).1, (s _ _ h n).2⟩
  · exact ⟨.inr ⟨o, (s _ _ h n).1⟩, (s _ _ h n).2⟩
theorem TupAt.step {K : PySem.W.Frag} {H H' : Hp} {m m' : Mem} {a : Addr} {xs : List V} (s : Step H m H' m') (h : TupAt K H m a xs) : TupAt K H' m' a xs := by
  rcases h with h | h
  · exact .inl (h.step s)
  · exact .inr h
theorem LstAt.step {K : PySem.W.Frag} {H H' : Hp} {m m' : Mem} {a : Addr} {xs : List V} (s : Step H m H' m') (h : LstAt K H m a xs) : LstAt K H' m' a xs := by
  rcases h with h | h
  · exact .inl (h.step s)
  · exact .inr h
mutual
theorem Rep.step {K : PySem.W.Frag} {H H' : Hp} {m m' : Mem} (s : Step H m H' m') : ∀ (d : D) (v : V), Rep K H m v d → Rep K H' m' v d
  | .non, _, h => by cases h; exact .non
  | .bl b, _, h => by cases h; exact .bl b
  | .int i, _, h => by cases h; exact .int i
  | .str x, _, h => by cases h; exact .str x
  | .ref a, _, h => by cases h; exact .ref a
  | .ty n, _, h => by cases h; exact .ty n
  | .tup ds, _, h => by
    cases h with
    | tup t r => exact .tup (t.step s) (Reps.step s ds _ r)
  | .lst ds, _, h => by
    cases h with
    | lst t r => exact .lst (t.step s) (Reps.step s ds _ r)
theorem Reps.step {K : PySem.W.Frag} {H H' : Hp} {m m' : Mem} (s : Step H m H' m') : ∀ (ds : List D) (vs : List V), Reps K H m vs ds → Reps K H' m' vs ds
  | [], _, h => by cases h; exact .nil
  | d :: ds, _, h => by
    cases h with
    | cons r rr => exact .cons (Rep.step s d _ r) (Reps.step s ds _ rr)
end
theorem Rep.mv {K : PySem.W.Frag} {H H' : Hp} {m m' : Mem} {v : V} {d : D} (s : Step H m H' m') (h : Rep K H m v d) : Rep K H' m' v d := Rep.step s d v h
theorem Reps.mv {K : PySem.W.Frag} {H H' : Hp} {m m' : Mem} {vs : List V} {ds : List D} (s : Step H m H' m') (h : Reps K H m vs ds) : Reps K H' m' vs ds := Reps.step s ds vs h
section
variable {K : PySem.W.Frag} {H H' : Hp} {m m' : Mem}
theorem Reps.length : ∀ {vs : List V} {ds : List D}, Reps K H m vs ds → vs.length = ds.length
  | _, _, .nil => rfl
  | _, _, .cons _ t => by rw [List.length_cons, List.length_cons, Reps.length t]
theorem Reps.get : ∀ {vs : List V} {ds : List D} {i : Nat} {d : D}, Reps K H m vs ds → ds[i]? = some d → ∃ v, vs[i]? = some v ∧ Rep K H m v d
  | _, _, _, _, .nil, e => by simp at e
  | _, _, 0, _, .cons r _, e => by simp at e; subst e; exact ⟨_, rfl, r⟩
  | _, _, i + 1, x, .cons _ t, e => by
    obtain ⟨u, h1, h2⟩ := Reps.get (i := i) (d := x) t (by simpa using e)
    exact ⟨u, by simpa using h1, h2⟩
theorem Reps.get' : ∀ {vs : List V} {ds : List D} {i : Nat} {v : V}, Reps K H m vs ds → vs[i]? = some v → ∃ d, ds[i]? = some d ∧ Rep K H m v d
  | _, _, _, _, .nil, e => by simp at e
  | _, _, 0, _, .cons r _, e => by simp at e; subst e; exact ⟨_, rfl, r⟩
  | _, _, i + 1, x, .cons _ t, e => by
    obtain ⟨u, h1, h2⟩ := Reps.get' (i := i) (v := x) t (by simpa using e)
    exact ⟨u, by simpa using h1, h2⟩
theorem Reps.append : ∀ {xs ys : List V} {us ws : List D}, Reps K H m xs us → Reps K H m ys ws → Reps K H m (xs ++ ys) (us ++ ws)
  | _, _, _, _, .nil, s => s
  | _, _, _, _, .cons r t, s => .cons r (Reps.append t s)
theorem Reps.take : ∀ {xs : List V} {us : List D} (n : Nat), Reps K H m xs us → Reps K H m (xs.take n) (us.take n)
  | _, _, 0, _ => .nil
  | _, _, _ + 1, .nil => .nil
  | _, _, n + 1, .cons r t => .cons r (Reps.take n t)
theorem Reps.drop : ∀ {xs : List V} {us : List D} (n : Nat), Reps K H m xs us → Reps K H m (xs.drop n) (us.drop n)
  | _, _, 0, r => r
  | _, _, _ + 1, .nil => .nil
  | _, _, n + 1, .cons _ t => Reps.drop n t
theorem Reps.set {x : V} {u : D} (r : Rep K H m x u) : ∀ {xs : List V} {us : List D} (i : Nat), Reps K H m xs us → Reps K H m (xs.set i x) (us.set i u)
  | _, _, _, .nil => .nil
  | _, _, 0, .cons _ t => .cons r t
  | _, _, i + 1, .cons q t => .cons q (Reps.set r i t)
theorem Reps.dropLast : ∀ {xs : List V} {us : List D}, Reps K H m xs us → Reps K H m xs.dropLast us.dropLast
  | _, _, .nil => .nil
  | _, _, .cons _ .nil => .nil
  | _, _, .cons r (.cons r2 t) => .cons r (Reps.dropLast (.cons r2 t))
theorem Reps.ints : ∀ (ns : List Int), Reps K H m (ns.map V.int) (ns.map D.int)
  | [] => .nil
  | n :: ns => .cons (.int n) (Reps.ints ns)
theorem Reps.ints' : ∀ {ns : List Int} {vs : List V}, Reps K H m vs (ns.map D.int) → vs = ns.map V.int
  | [], _, h => by cases h; rfl
  | n :: ns, _, h => by
    cases h with
    | cons r t => cases r; rw [Reps.ints' t]; rfl
end

/-- keys and values -/
def RepK (K : PySem.W.Frag) (H : Hp) (m : Mem) {κ : Type} : List (κ × V) → List (κ × D) → Prop := Paired fun p q => p.1 = q.1 ∧ Rep K H m p.2 q.2
theorem RepK.mv {K : PySem.W.Frag} {H H' : Hp} {m m' : Mem} {κ : Type} (s : Step H m H' m') : ∀ {a : List (κ × V)} {b : List (κ × D)}, RepK K H m a b → RepK K H' m' a b
  | _, _, .nil => .nil
  | _, _, .cons r t => .cons ⟨r.1, r.2.mv s⟩ (RepK.mv s t)
def RepO (K : PySem.W.Frag) (H : Hp) (m : Mem) : HO → MO → Prop
  | .lst xs, .lst ds => Reps K H m xs ds
  | .dK kvs, .dct kds => RepK K H m kvs kds
  | .ins C dx fs, .ins C' dx' gs => C = C' ∧ dx = dx' ∧ RepK K H m fs gs
  | _, _ => False
theorem RepO.mv {K : PySem.W.Frag} {H H' : Hp} {m m' : Mem} {o : HO} {u : MO} (s : Step H m H' m') (h : RepO K H m o u) : RepO K H' m' o u := by
  cases o <;> cases u <;> first
    | exact Reps.mv s h
    | exact RepK.mv s h
    | exact ⟨h.1, h.2.1, RepK.mv s h.2.2⟩
    | exact (h : False).elim
/-- the memory of what may change is held -/
def HR (K : PySem.W.Frag) (H : Hp) (m : Mem) : Prop := ∀ a u, m a = some u → ∃ o, H a = some o ∧ RepO K H m o u
theorem HR.none {K : PySem.W.Frag} {H : Hp} {m : Mem} (h : HR K H m) {a : Addr} (n : H a = none) : m a = none := by
  cases e : m a with
  | none => rfl
  | some u =>
    obtain ⟨o, e2, _⟩ := h a u e
    rw [n] at e2
    cases e2
theorem HR.lst {K : PySem.W.Frag} {H : Hp} {m : Mem} (h : HR K H m) {a : Addr} {ds : List D} (e : m a = some (.lst ds)) : ∃ xs, H a = some (.lst xs) ∧ Reps K H m xs ds := by
  obtain ⟨o, e1, r⟩ := h a _ e
  cases o with
  | lst xs => exact ⟨xs, e1, r⟩
  | _ => exact (r : False).elim
section
variable {K : PySem.W.Frag} {H : Hp} {m : Mem} {p : Addr}
/-- a new object that will not change -/
theorem step_new {o : HO} (n : H p = none) : Step H m (upd H p o) m := fun a u e z => ⟨by rw [upd_ne (ne_of_none e n)]; exact e, z⟩
theorem hr_new {o : HO} (h : HR K H m) (n : H p = none) : HR K (upd H p o) m := fun a u e => by
  obtain ⟨q, e1, r⟩ := h a u e
  exact ⟨q, by rw [upd_ne (ne_of_none e1 n)]; exact e1, r.mv (step_new n)⟩
/-- a new object that may change -/
theorem step_newM {o : HO} {u : MO} (n : H p = none) : Step H m (upd H p o) (put m p u) := fun a q e z => by
  have ne := ne_of_none e n
  exact ⟨by rw [upd_ne ne]; exact e, by rw [put_ne ne]; exact z⟩
theorem hr_newM {o : HO} {u : MO} (h : HR K H m) (n : H p = none) (r : RepO K H m o u) : HR K (upd H p o) (put m p u) := fun a q e => by
  by_cases ea : a = p
  · subst ea
    rw [put_same] at e
    cases e
    exact ⟨o, upd_same, r.mv (step_newM n)⟩
  · rw [put_ne ea] at e
    obtain ⟨q', e1, r1⟩ := h a q e
    exact ⟨q', by rw [upd_ne ea]; exact e1, r1.mv (step_newM n)⟩
/-- an object that may change is written -/
theorem step_set {o : HO} {u w : MO} (e : m p = some w) : Step H m (upd H p o) (put m p u) := fun a q e1 z => by
  have ne : a ≠ p := fun x => by subst x; rw [e] at z; cases z
  exact ⟨by rw [upd_ne ne]; exact e1, by rw [put_ne ne]; exact z⟩
theorem hr_set {o : HO} {u w : MO} (h : HR K H m) (e : m p = some w) (r : RepO K H m o u) : HR K (upd H p o) (put m p u) := fun a q e1 => by
  by_cases ea : a = p
  · subst ea
    rw [put_same] at e1
    cases e1
    exact ⟨o, upd_same, r.mv (step_set e)⟩
  · rw [put_ne ea] at e1
    obtain ⟨q', e2, r2⟩ := h a q e1
    exact ⟨q', by rw [upd_ne ea]; exact e2, r2.mv (step_set e)⟩
/-- what may change is forgotten -/
theorem step_del {p : Addr} : Step H m H (del m p) := fun a q e1 z => ⟨e1, by unfold del; split; rfl; exact z⟩
theorem hr_del (h : HR K H m) : HR K H (del m p) := fun a q e1 => by
  by_cases ea : a = p
  · subst ea
    unfold del at e1
    rw [if_pos rfl] at e1
    cases e1
  · have e2 : m a = some q := by
      unfold del at e1
      rw [if_neg ea] at e1
      exact e1
    obtain ⟨q', e3, r3⟩ := h a q e2
    exact ⟨q', e3, r3.mv step_del⟩
end

/-! ### the frame -/
abbrev Env3 := List (Option D)
def EnvR (K : PySem.W.Frag) (H : Hp) (m : Mem) (σ : L2.St) (ρ : Env3) : Prop := σ.length = ρ.length ∧ ∀ (i : Nat) (d : D), ρ[i]? = some (some d) → ∃ v, σ[i]? = some (some v) ∧ Rep K H m v d
structure Ok (K : PySem.W.Frag) (σ : L2.St) (H : Hp) (ρ : Env3) (m : Mem) : Prop where
  env : EnvR K H m σ ρ
  hr : HR K H m
theorem Ok.mv {K : PySem.W.Frag} {σ : L2.St} {H H' : Hp} {ρ : Env3} {m m' : Mem} (o : Ok K σ H ρ m) (s : Step H m H' m') (h : HR K H' m') : Ok K σ H' ρ m' :=
  ⟨⟨o.env.1, fun i d e => let ⟨v, a, r⟩ := o.env.2 i d e; ⟨v, a, r.mv s⟩⟩, h⟩
theorem Ok.set {K : PySem.W.Frag} {σ : L2.St} {H : Hp} {ρ : Env3} {m : Mem} {v : V} {d : D} (o : Ok K σ H ρ m) (i : Nat) (r : Rep K H m v d) : Ok K (σ.set i (some v)) H (ρ.set i (some d)) m := by
  refine ⟨⟨by rw [List.length_set, List.length_set]; exact o.env.1, fun j e h => ?_⟩, o.hr⟩
  by_cases ij : i = j
  · subst ij
    have hl : i < ρ.length := by
      have := (List.getElem?_eq_some_iff.mp h).1
      rw [List.length_set] at this
      exact this
    rw [List.getElem?_set_self hl] at h
    cases h
    exact ⟨v, List.getElem?_set_self (by rw [o.env.1]; exact hl), r⟩
  · rw [List.getElem?_set_ne ij] at h
    obtain ⟨v', a, r'⟩ := o.env.2 j e h
    exact ⟨v', by rw [List.getElem?_set_ne ij]; exact a, r'⟩
theorem Ok.weak {K : PySem.W.Frag} {σ : L2.St} {H : Hp} {ρ ρ' : Env3} {m : Mem} (o : Ok K σ H ρ m) (hl : ρ'.length = ρ.length) (h : ∀ (i : Nat) d, ρ'[i]? = some (some d) → ρ[i]? = some (some d)) : Ok K σ H ρ' m :=
  ⟨⟨o.env.1.trans hl.symm, fun i d e => o.env.2 i d (h i d e)⟩, o.hr⟩

/-! ### the readings by data -/
abbrev DK := D → Mem → Prop
abbrev TE3 := Env3 → Mem → DK → Prop
abbrev TT3 := Env3 → Mem → (Bool → Mem → Prop) → Prop
abbrev TA3 := Env3 → Mem → (List D → Mem → Prop) → Prop
structure Ends3 where
  nx : Env3 → Mem → Prop
  rt : DK
  bk : Env3 → Mem → Prop := fun _ _ => False
  ct : Env3 → Mem → Prop := fun _ _ => False
abbrev TS3 := Ends3 → Env3 → Mem → Prop
def EK (K : PySem.W.Frag) (H : Hp) (m : Mem) (P : DK) (Q : VK) : Prop := ∀ v H' d m', P d m' → Step H m H' m' → HR K H' m' → Rep K H' m' v d → Q v H'
def TK (K : PySem.W.Frag) (H : Hp) (m : Mem) (P : Bool → Mem → Prop) (Q : Bool → Hp → Prop) : Prop := ∀ b H' m', P b m' → Step H m H' m' → HR K H' m' → Q b H'
def AK (K : PySem.W.Frag) (H : Hp) (m : Mem) (P : List D → Mem → Prop) (Q : List V → Hp → Prop) : Prop := ∀ vs H' ds m', P ds m' → Step H m H' m' → HR K H' m' → Reps K H' m' vs ds → Q vs H'
def EL (K : PySem.W.Frag) (t : TE) (t3 : TE3) : Prop := ∀ σ H ρ m P Q, Ok K σ H ρ m → t3 ρ m P → EK K H m P Q → t σ H Q
def TL (K : PySem.W.Frag) (t : TT) (t3 : TT3) : Prop := ∀ σ H ρ m P Q, Ok K σ H ρ m → t3 ρ m P → TK K H m P Q → t σ H Q
def AL (K : PySem.W.Frag) (t : TA) (t3 : TA3) : Prop := ∀ σ H ρ m P Q, Ok K σ H ρ m → t3 ρ m P → AK K H m P Q → t σ H Q
structure Link (K : PySem.W.Frag) (H : Hp) (m : Mem) (D3 : Ends3) (E : Ends) : Prop where
  nx : ∀ σ' H' ρ' m', D3.nx ρ' m' → Step H m H' m' → Ok K σ' H' ρ' m' → E.nx σ' H'
  rt : EK K H m D3.rt E.rt
  bk : ∀ σ' H' ρ' m', D3.bk ρ' m' → Step H m H' m' → Ok K σ' H' ρ' m' → E.bk σ' H'
  ct : ∀ σ' H' ρ' m', D3.ct ρ' m' → Step H m H' m' → Ok K σ' H' ρ' m' → E.ct σ' H'
theorem Link.mv {K : PySem.W.Frag} {H H' : Hp} {m m' : Mem} {D3 : Ends3} {E : Ends} (l : Link K H m D3 E) (s : Step H m H' m') : Link K H' m' D3 E :=
  ⟨fun σ' H2 ρ' m2 h s2 o => l.nx σ' H2 ρ' m2 h (s.trans s2) o, fun v H2 d m2 p s2 h r => l.rt v H2 d m2 p (s.trans s2) h r,
   fun σ' H2 ρ' m2 h s2 o => l.bk σ' H2 ρ' m2 h (s.trans s2) o, fun σ' H2 ρ' m2 h s2 o => l.ct σ' H2 ρ' m2 h (s.trans s2) o⟩
def SL (K : PySem.W.Frag) (t : TS) (t3 : TS3) : Prop := ∀ σ H ρ m D3 E, Ok K σ H ρ m → t3 D3 ρ m → Link K H m D3 E → t E σ H
def PE3 (X : Cx) (e : Expr) (t3 : TE3) : Prop := ∃ t, PE X e t ∧ EL X.K t t3
def PT3 (X : Cx) (e : Expr) (t3 : TT3) : Prop := ∃ t, PT X e t ∧ TL X.K t t3
def PW3 (X : Cx) (e : Expr) (t3 : TT3) : Prop := ∃ t, PW X e t ∧ TL X.K t t3
def PA3 (X : Cx) (es : List Expr) (t3 : TA3) : Prop := ∃ t, PA X es t ∧ AL X.K t t3
def PS3 (X : Cx) (st : Stmt) (t3 : TS3) : Prop := ∃ t, PS X st t ∧ SL X.K t t3
def PSs3 (X : Cx) (st : List Stmt) (t3 : TS3) : Prop := ∃ t, PSs X st t ∧ SL X.K t t3
theorem EK.mv {K : PySem.W.Frag} {H H' : Hp} {m m' : Mem} {P : DK} {Q : VK} (k : EK K H m P Q) (s : Step H m H' m') : EK K H' m' P Q := fun v H2 d m2 p s2 h r => k v H2 d m2 p (s.trans s2) h r
theorem TK.mv {K : PySem.W.Frag} {H H' : Hp} {m m' : Mem} {P : Bool → Mem → Prop} {Q : Bool → Hp → Prop} (k : TK K H m P Q) (s : Step H m H' m') : TK K H' m' P Q := fun v H2 m2 p s2 h => k v H2 m2 p (s.trans s2) h
theorem AK.mv {K : PySem.W.Frag} {H H' : Hp} {m m' : Mem} {P : List D → Mem → Prop} {Q : List V → Hp → Prop} (k : AK K H m P Q) (s : Step H m H' m') : AK K H' m' P Q := fun v H2 d m2 p s2 h r => k v H2 d m2 p (s.trans s2) h r
theorem EK.now {K : PySem.W.Frag} {H : Hp} {m : Mem} {P : DK} {Q : VK} {v : V} {d : D} (k : EK K H m P Q) (h : HR K H m) (p : P d m) (r : Rep K H m v d) : Q v H := k v H d m p (Step.refl _ _) h r

/-! ### names, constants -/
def v3 (i : Nat) : TE3 := fun ρ m P => match ρ[i]? with
  | some (some d) => P d m
  | _ => False
def c3 (d : D) : TE3 := fun _ m P => P d m
section
variable {X : Cx} {pos : Pos} {e a b c : Expr} {ta tb tc : TE3} {t u : TT3}
theorem el_var {K : PySem.W.Frag} {i : Nat} : EL K (tVar i) (v3 i) := by
  intro σ H ρ m P Q o h k
  unfold v3 at h
  split at h
  · rename_i d e
    obtain ⟨v, e1, r⟩ := o.env.2 i d e
    exact ⟨v, e1, k.now o.hr h r⟩
  · exact h.elim
theorem e_v (i : Nat) {x : Str} {pos : Pos} (hN : X.N[i]? = some x := by rfl) (hv : Vis X.env.scope x := by first | exact Or.inl rfl | exact Or.inr (Or.inl rfl) | exact Or.inr (Or.inr rfl)) (hd : (x == ("__debug__" : Str)) = false := by decide)
    (hcd : (x == ("__classdict__" : Str)) = false := by decide) : PE3 X (.Name x pos) (v3 i) := ⟨_, pe_var hN hv hd hcd, el_var⟩
theorem el_c {K : PySem.W.Frag} {v : V} {d : D} (r : ∀ H m, Rep K H m v d) : EL K (tC v) (c3 d) := fun σ H ρ m P Q o h k => k.now o.hr h (r H m)
theorem e_int {i j pos} : PE3 X (.Constant (.int i) j pos) (c3 (.int i)) := ⟨_, pe_int, el_c fun _ _ => .int i⟩
theorem e_bl {b j pos} : PE3 X (.Constant (.bool b) j pos) (c3 (.bl b)) := ⟨_, pe_bl, el_c fun _ _ => .bl b⟩
theorem e_non {j pos} : PE3 X (.Constant .none j pos) (c3 .non) := ⟨_, pe_non, el_c fun _ _ => .non⟩
theorem e_str {x j pos} : PE3 X (.Constant (.str x) j pos) (c3 (.str x)) := ⟨_, pe_str, el_c fun _ _ => .str x⟩
/-- a module's constant -/
theorem e_glob {x : Str} {v : V} {d : D} {u : Value} {pos : Pos} (hg : Gl X x) (hm : X.mg x = some u) (r : RelV v u) (rd : ∀ H m, Rep X.K H m v d) (hd : (x == ("__debug__" : Str)) = false := by decide) : PE3 X (.Name x pos) (c3 d) := ⟨_, pe_glob hg hm r hd, el_c rd⟩
theorem e_type {x : Str} {n : String} {pos : Pos} (hg : Gl X x) (hm : X.mg x = none) (hv : bootBuiltins x = some (.type n)) (hn : x ≠ "__name__" := by decide) (hd : (x == ("__debug__" : Str)) = false := by decide) : PE3 X (.Name x pos) (c3 (.ty n)) :=
  ⟨_, pe_bltn (v := .ty n) hg hm hv rfl hn hd, el_c fun _ _ => .ty n⟩

/-! ### operators -/
abbrev F2 := D → D → Mem → DK → Prop
def op3 (f : F2) (ta tb : TE3) : TE3 := fun ρ m P => ta ρ m fun x m1 => tb ρ m1 fun y m2 => f x y m2 P
def RL (K : PySem.W.Frag) (r : R2) (f : F2) : Prop := ∀ x y d e H m P Q, HR K H m → Rep K H m x d → Rep K H m y e → f d e m P → EK K H m P Q → r x y H Q
theorem el_op {K : PySem.W.Frag} {t u : TE} {r : R2} {f : F2} (ha : EL K t ta) (hb : EL K u tb) (hr : RL K r f) : EL K (tOp r t u) (op3 f ta tb) := by
  intro σ H ρ m P Q o h k
  refine ha σ H ρ m _ _ o h fun x H1 d m1 p1 s1 h1 r1 => ?_
  refine hb σ H1 ρ m1 _ _ (o.mv s1 h1) p1 fun y H2 e m2 p2 s2 h2 r2 => ?_
  exact hr x y d e H2 m2 P Q h2 (r1.mv s2) r2 p2 (k.mv (s1.trans s2))
def fI (C : Int → Int → Prop) (g : Int → Int → D) : F2 := fun x y m P => match x, y with
  | .int i, .int j => C i j ∧ P (g i j) m
  | _, _ => False
def fI0 (g : Int → Int → D) : F2 := fun x y m P => match x, y with
  | .int i, .int j => P (g i j) m
  | _, _ => False
theorem rl_I {K : PySem.W.Frag} {C : Int → Int → Prop} {g : Int → Int → V} {g' : Int → Int → D} (hg : ∀ i j H m, Rep K H m (g i j) (g' i j)) : RL K (rI C g) (fI C g') := by
  intro x y d e H m P Q h r1 r2 f k
  unfold fI at f
  split at f
  · cases r1
    cases r2
    exact ⟨_, _, rfl, rfl, f.1, k.now h f.2 (hg _ _ _ _)⟩
  · exact f.elim
theorem rl_I0 {K : PySem.W.Frag} {g : Int → Int → V} {g' : Int → Int → D} (hg : ∀ i j H m, Rep K H m (g i j) (g' i j)) : RL K (rI0 g) (fI0 g') := by
  intro x y d e H m P Q h r1 r2 f k
  unfold fI0 at f
  split at f
  · cases r1
    cases r2
    exact ⟨_, _, rfl, rfl, k.now h f (hg _ _ _ _)⟩
  · exact f.elim
theorem e_op {op : Operator} {r : R2} {f : F2} (ho : OpR X (binaryOp op) r) (hr : RL X.K r f) (ha : PE3 X a ta) (hb : PE3 X b tb) : PE3 X (.BinOp a op b pos) (op3 f ta tb) :=
  let ⟨_, p, q⟩ := ha
  let ⟨_, p', q'⟩ := hb
  ⟨_, pe_op ho p p', el_op q q' hr⟩
theorem e_add (ha : PE3 X a ta) (hb : PE3 X b tb) : PE3 X (.BinOp a .Add b pos) (op3 (fI0 fun i j => .int (i + j)) ta tb) := e_op op_add (rl_I0 fun _ _ _ _ => .int _) ha hb
theorem e_sub (ha : PE3 X a ta) (hb : PE3 X b tb) : PE3 X (.BinOp a .Sub b pos) (op3 (fI0 fun i j => .int (i - j)) ta tb) := e_op op_sub (rl_I0 fun _ _ _ _ => .int _) ha hb
/-- a product of together at most 2 ^ 27 bits -/
theorem e_mul (ha : PE3 X a ta) (hb : PE3 X b tb) : PE3 X (.BinOp a .Mult b pos) (op3 (fI CMulX fun i j => .int (i * j)) ta tb) := e_op op_mulX (rl_I fun _ _ _ _ => .int _) ha hb
/-- // by a divisor that isn't 0, without the long way -/
def CFdiv (i j : Int) : Prop := j ≠ 0 ∧ Builtin.divisionGoesByPylong i j = false
theorem op_fdivG : OpR X (binaryOp .FloorDiv) (rI CFdiv fun i j => .int (i.fdiv j)) := opI fun _ _ _ _ _ _ _ hc q => PyProof.Rows.floordiv_int hc.1 q (.inl hc.2)
theorem e_fdiv (ha : PE3 X a ta) (hb : PE3 X b tb) : PE3 X (.BinOp a .FloorDiv b pos) (op3 (fI CFdiv fun i j => .int (i.fdiv j)) ta tb) := e_op op_fdivG (rl_I fun _ _ _ _ => .int _) ha hb
theorem e_mod (ha : PE3 X a ta) (hb : PE3 X b tb) : PE3 X (.BinOp a .Mod b pos) (op3 (fI (fun _ j => j ≠ 0) fun i j => .int (i.fmod j)) ta tb) := e_op op_modN (rl_I fun _ _ _ _ => .int _) ha hb
theorem e_pow (ha : PE3 X a ta) (hb : PE3 X b tb) : PE3 X (.BinOp a .Pow b pos) (op3 (fI CPow fun i j => .int (i ^ j.toNat)) ta tb) := e_op op_pow (rl_I fun _ _ _ _ => .int _) ha hb
theorem e_shl (ha : PE3 X a ta) (hb : PE3 X b tb) : PE3 X (.BinOp a .LShift b pos) (op3 (fI CShl fun i j => .int (i * 2 ^ j.toNat)) ta tb) := e_op op_shlW (rl_I fun _ _ _ _ => .int _) ha hb
theorem e_shr (ha : PE3 X a ta) (hb : PE3 X b tb) : PE3 X (.BinOp a .RShift b pos) (op3 (fI (fun _ j => 0 ≤ j) fun i j => .int (i / 2 ^ j.toNat)) ta tb) := e_op op_shr (rl_I fun _ _ _ _ => .int _) ha hb
theorem e_bitand (ha : PE3 X a ta) (hb : PE3 X b tb) : PE3 X (.BinOp a .BitAnd b pos) (op3 (fI0 fun i j => .int (Builtin.bitAnd i j)) ta tb) := e_op op_and (rl_I0 fun _ _ _ _ => .int _) ha hb
def neg3 (ta : TE3) : TE3 := fun ρ m P => ta ρ m fun x m1 => match x with
  | .int i => P (.int (-i)) m1
  | _ => False
theorem e_neg (ha : PE3 X a ta) : PE3 X (.UnaryOp .USub a pos) (neg3 ta) := by
  obtain ⟨t, p, q⟩ := ha
  refine ⟨_, pe_un un_neg p, fun σ H ρ m P Q o h k => ?_⟩
  refine q σ H ρ m _ _ o h fun x H1 d m1 p1 s1 h1 r1 => ?_
  cases d with
  | int i =>
    cases r1
    exact ⟨i, rfl, (k.mv s1).now h1 p1 (.int _)⟩
  | _ => exact (p1 : False).elim
/-- x.bit_length() -/
def bits3 (ta : TE3) : TE3 := fun ρ m P => ta ρ m fun x m1 => match x with
  | .int i => P (.int (Builtin.Int.intBits i : Nat)) m1
  | _ => False
theorem e_bits {apos : Pos} (ha : PE3 X a ta) (hbase : attributeBase a "bit_length" X.env (eval a X.env) = eval a X.env := by rfl) (hline : (apos.endLine == pos.line) = true := by rfl) : PE3 X (.Call (.Attribute a "bit_length" apos) [] [] pos) (bits3 ta) := by
  obtain ⟨t, p, q⟩ := ha
  refine ⟨_, pe_bits p hbase hline, fun σ H ρ m P Q o h k => ?_⟩
  refine q σ H ρ m _ _ o h fun x H1 d m1 p1 s1 h1 r1 => ?_
  cases d with
  | int i =>
    cases r1
    exact ⟨i, rfl, (k.mv s1).now h1 p1 (.int _)⟩
  | _ => exact (p1 : False).elim

/-! ### comparisons -/
theorem e_cmpR {op : CmpOp} {r : R2} {f : F2} (ho : OpR X (compareOp op) r) (hr : RL X.K r f) (ha : PE3 X a ta) (hb : PE3 X b tb) (hm : behindInMarks op b = false) : PE3 X (.Compare a [op] [b] pos) (op3 f ta tb) :=
  let ⟨_, p, q⟩ := ha
  let ⟨_, p', q'⟩ := hb
  ⟨_, pe_cmpR ho p p' hm, el_op q q' hr⟩
abbrev fLt : F2 := fI0 fun i j => .bl (decide (i < j))
abbrev fLe : F2 := fI0 fun i j => .bl (decide (i ≤ j))
abbrev fGt : F2 := fI0 fun i j => .bl (decide (j < i))
abbrev fGe : F2 := fI0 fun i j => .bl (decide (j ≤ i))
theorem rl_lt {K : PySem.W.Frag} : RL K (rI0 fun i j => .bl (decide (i < j))) fLt := rl_I0 fun _ _ _ _ => .bl _
theorem rl_le {K : PySem.W.Frag} : RL K (rI0 fun i j => .bl (decide (i ≤ j))) fLe := rl_I0 fun _ _ _ _ => .bl _
theorem rl_gt {K : PySem.W.Frag} : RL K (rI0 fun i j => .bl (decide (j < i))) fGt := rl_I0 fun _ _ _ _ => .bl _
theorem rl_ge {K : PySem.W.Frag} : RL K (rI0 fun i j => .bl (decide (j ≤ i))) fGe := rl_I0 fun _ _ _ _ => .bl _
theorem e_lt (ha : PE3 X a ta) (hb : PE3 X b tb) : PE3 X (.Compare a [.Lt] [b] pos) (op3 fLt ta tb) := e_cmpR op_lt rl_lt ha hb (nomark _)
theorem e_le (ha : PE3 X a ta) (hb : PE3 X b tb) : PE3 X (.Compare a [.LtE] [b] pos) (op3 fLe ta tb) := e_cmpR op_le rl_le ha hb (nomark _)
theorem e_gt (ha : PE3 X a ta) (hb : PE3 X b tb) : PE3 X (.Compare a [.Gt] [b] pos) (op3 fGt ta tb) := e_cmpR op_gt rl_gt ha hb (nomark _)
theorem e_ge (ha : PE3 X a ta) (hb : PE3 X b tb) : PE3 X (.Compare a [.GtE] [b] pos) (op3 fGe ta tb) := e_cmpR op_ge rl_ge ha hb (nomark _)
end
mutual
def toPy : D → Option PyData
  | .non => some .none
  | .bl b => some (.bool b)
  | .int i => some (.int i)
  | .str x => some (.str x)
  | .tup ds => (toPys ds).map .tuple
  | .lst ds => (toPys ds).map .list
  | .ref _ => none
  | .ty _ => none
def toPys : List D → Option (List PyData)
  | [] => some []
  | d :: ds => match toPy d, toPys ds with
    | some p, some ps => some (p :: ps)
    | _, _ => none
end
mutual
theorem Rep.dp {K : PySem.W.Frag} {H : Hp} {m : Mem} : ∀ (d : D) (v : V) (p : PyData), Rep K H m v d → toPy d = some p → Dp K H v p
  | .non, _, _, h, e => by cases h; rw [toPy] at e; cases e; exact .non
  | .bl b, _, _, h, e => by cases h; rw [toPy] at e; cases e; exact .bl b
  | .int i, _, _, h, e => by cases h; rw [toPy] at e; cases e; exact .int i
  | .str x, _, _, h, e => by cases h; rw [toPy] at e; cases e; exact .str x
  | .ref a, _, _, h, e => by rw [toPy] at e; cases e
  | .ty n, _, _, h, e => by rw [toPy] at e; cases e
  | .tup ds, _, _, h, e => by
    rw [toPy, Option.map_eq_some_iff] at e
    obtain ⟨ps, e1, e2⟩ := e
    subst e2
    cases h with
    | tup t r => exact .tup t.sq (Reps.dp ds _ ps r e1)
  | .lst ds, _, _, h, e => by
    rw [toPy, Option.map_eq_some_iff] at e
    obtain ⟨ps, e1, e2⟩ := e
    subst e2
    cases h with
    | lst t r => exact .lst t.sq (Reps.dp ds _ ps r e1)
theorem Reps.dp {K : PySem.W.Frag} {H : Hp} {m : Mem} : ∀ (ds : List D) (vs : List V) (ps : List PyData), Reps K H m vs ds → toPys ds = some ps → DpAll K H vs ps
  | [], _, _, h, e => by cases h; rw [toPys] at e; cases e; exact .nil
  | d :: ds, _, _, h, e => by
    cases h with
    | cons r rr =>
      rw [toPys] at e
      split at e
      · rename_i p ps e1 e2
        cases e
        exact .cons (Rep.dp d _ p r e1) (Reps.dp ds _ ps rr e2)
      · cases e
end
section
variable {X : Cx} {pos : Pos} {e a b c : Expr} {ta tb tc : TE3} {t u : TT3}
def deq (d e : D) : Bool := match toPy d, toPy e with
  | some p, some q => PyData.eqv p q
  | _, _ => false
def deqOk (d e : D) : Bool := match toPy d, toPy e with
  | some p, some q => SeqAt.shaped p && SeqAt.shaped q
  | _, _ => false
def fEq : F2 := fun x y m P => deqOk x y = true ∧ P (.bl (deq x y)) m
def fNe : F2 := fun x y m P => deqOk x y = true ∧ P (.bl (!deq x y)) m
theorem deqOk_some {d e : D} (h : deqOk d e = true) : ∃ p q, toPy d = some p ∧ toPy e = some q ∧ SeqAt.shaped p = true ∧ SeqAt.shaped q = true ∧ deq d e = PyData.eqv p q := by
  unfold deqOk at h
  unfold deq
  split at h
  · rename_i p q e1 e2
    rw [Bool.and_eq_true] at h
    exact ⟨p, q, e1, e2, h.1, h.2, rfl⟩
  · cases h
theorem rl_eq {K : PySem.W.Frag} : RL K (rEqD K) fEq := by
  intro x y d e H m P Q h r1 r2 f k
  obtain ⟨f1, f2⟩ := f
  obtain ⟨p, q, e1, e2, s1, s2, e3⟩ := deqOk_some f1
  rw [e3] at f2
  exact ⟨p, q, r1.dp _ _ _ e1, r2.dp _ _ _ e2, s1, s2, k.now h f2 (.bl _)⟩
theorem rl_ne {K : PySem.W.Frag} : RL K (rNeD K) fNe := by
  intro x y d e H m P Q h r1 r2 f k
  obtain ⟨f1, f2⟩ := f
  obtain ⟨p, q, e1, e2, s1, s2, e3⟩ := deqOk_some f1
  rw [e3] at f2
  exact ⟨p, q, r1.dp _ _ _ e1, r2.dp _ _ _ e2, s1, s2, k.now h f2 (.bl _)⟩
theorem e_eq {k : Nat} (hr : Room k X.A) (ha : PE3 X a ta) (hb : PE3 X b tb) : PE3 X (.Compare a [.Eq] [b] pos) (op3 fEq ta tb) := e_cmpR (op_eqD hr.units) rl_eq ha hb (nomark _)
theorem e_ne {k : Nat} (hr : Room k X.A) (ha : PE3 X a ta) (hb : PE3 X b tb) : PE3 X (.Compare a [.NotEq] [b] pos) (op3 fNe ta tb) := e_cmpR (op_neD hr.units) rl_ne ha hb (nomark _)
/-- == of two ints -/
abbrev fEqI : F2 := fI0 fun i j => .bl (decide (i = j))
abbrev fNeI : F2 := fI0 fun i j => .bl (!decide (i = j))
theorem op_eqI : OpR X (compareOp .Eq) (rI0 fun i j => .bl (decide (i = j))) := opB0 fun _ _ _ _ _ _ _ q => PyProof.Rows.eq_int (by rw [Bool.beq_eq_decide_eq]; exact q)
theorem op_neI : OpR X (compareOp .NotEq) (rI0 fun i j => .bl (!decide (i = j))) := opB0 fun _ _ _ _ _ _ _ q => PyProof.Rows.ne_int (by rw [bne, Bool.beq_eq_decide_eq]; exact q)
theorem rl_eqI {K : PySem.W.Frag} : RL K (rI0 fun i j => .bl (decide (i = j))) fEqI := rl_I0 fun _ _ _ _ => .bl _
theorem rl_neI {K : PySem.W.Frag} : RL K (rI0 fun i j => .bl (!decide (i = j))) fNeI := rl_I0 fun _ _ _ _ => .bl _
theorem e_eqI (ha : PE3 X a ta) (hb : PE3 X b tb) : PE3 X (.Compare a [.Eq] [b] pos) (op3 fEqI ta tb) := e_cmpR op_eqI rl_eqI ha hb (nomark _)
theorem e_neI (ha : PE3 X a ta) (hb : PE3 X b tb) : PE3 X (.Compare a [.NotEq] [b] pos) (op3 fNeI ta tb) := e_cmpR op_neI rl_neI ha hb (nomark _)
def dIsN : D → Bool
  | .non => true
  | _ => false
def isN3 (ta : TE3) : TE3 := fun ρ m P => ta ρ m fun x m1 => P (.bl (dIsN x)) m1
def notN3 (ta : TE3) : TE3 := fun ρ m P => ta ρ m fun x m1 => P (.bl (!dIsN x)) m1
theorem isN_eq {K : PySem.W.Frag} {H : Hp} {m : Mem} {v : V} {d : D} (r : Rep K H m v d) : decide (v = V.non) = dIsN d := by
  cases r <;> rfl
theorem e_isN {j pos'} (ha : PE3 X a ta) : PE3 X (.Compare a [.Is] [.Constant .none j pos'] pos) (isN3 ta) := by
  obtain ⟨t, p, q⟩ := ha
  refine ⟨_, pe_cmp (pc_isN p), fun σ H ρ m P Q o h k => ?_⟩
  refine q σ H ρ m _ _ o h fun x H1 d m1 p1 s1 h1 r1 => ?_
  show Q (.bl (decide (x = .non))) H1
  rw [isN_eq r1]
  exact (k.mv s1).now h1 p1 (.bl _)
theorem e_notN {j pos'} (ha : PE3 X a ta) : PE3 X (.Compare a [.IsNot] [.Constant .none j pos'] pos) (notN3 ta) := by
  obtain ⟨t, p, q⟩ := ha
  refine ⟨_, pe_cmp (pc_notN p), fun σ H ρ m P Q o h k => ?_⟩
  refine q σ H ρ m _ _ o h fun x H1 d m1 p1 s1 h1 r1 => ?_
  show Q (.bl (!decide (x = .non))) H1
  rw [isN_eq r1]
  exact (k.mv s1).now h1 p1 (.bl _)
/-- a op b op' c -/
def chain3 (f f' : F2) (ta tb tc : TE3) : TE3 := fun ρ m P => ta ρ m fun x m1 => tb ρ m1 fun y m2 => f x y m2 fun z m3 => match z with
  | .bl k => if k = true then tc ρ m3 fun w m4 => f' y w m4 P else P (.bl false) m3
  | _ => False
theorem e_chain {op op' : CmpOp} {r r' : R2} {f f' : F2} (ho : OpR X (compareOp op) r) (hr : RL X.K r f) (ho' : OpR X (compareOp op') r') (hr' : RL X.K r' f') (ha : PE3 X a ta) (hb : PE3 X b tb) (hc : PE3 X c tc)
    (hm : lastMarks [op, op'] [b, c] = false := by with_unfolding_all rfl) : PE3 X (.Compare a [op, op'] [b, c] pos) (chain3 f f' ta tb tc) := by
  obtain ⟨_, p1, q1⟩ := ha
  obtain ⟨_, p2, q2⟩ := hb
  obtain ⟨_, p3, q3⟩ := hc
  refine ⟨_, pe_chain ho ho' p1 p2 p3 hm, fun σ H ρ m P Q o h k => ?_⟩
  refine q1 σ H ρ m _ _ o h fun x H1 d m1 p1 s1 h1 r1 => ?_
  refine q2 σ H1 ρ m1 _ _ (o.mv s1 h1) p1 fun y H2 e m2 p2 s2 h2 r2 => ?_
  refine hr x y d e H2 m2 _ _ h2 (r1.mv s2) r2 p2 fun z H3 g m3 p3 s3 h3 r3 => ?_
  cases g with
  | bl b =>
    cases r3
    refine ⟨b, rfl, ?_⟩
    cases b with
    | true =>
      have p3 : tc ρ m3 fun w m4 => f' e w m4 P := p3
      rw [if_pos rfl]
      refine q3 σ H3 ρ m3 _ _ (o.mv (s1.trans (s2.trans s3)) h3) p3 fun w H4 g m4 p4 s4 h4 r4 => ?_
      exact hr' y w e g H4 m4 P Q h4 (r2.mv (s3.trans s4)) r4 p4 (k.mv (s1.trans (s2.trans (s3.trans s4))))
    | false =>
      rw [if_neg Bool.false_ne_true]
      exact (k.mv (s1.trans (s2.trans s3))).now h3 p3 (.bl _)
  | _ => exact (p3 : False).elim

/-! ### tests -/
def b3 (ta : TE3) : TT3 := fun ρ m P => ta ρ m fun x m1 => match x with
  | .bl k => P k m1
  | _ => False
theorem t_val (ha : PE3 X e ta) (he : ∀ whole, isTrue e X.env whole = (do let v ← whole; standAt e.pos; holding [v] (truthy v)) := by intro _; rfl) : PT3 X e (b3 ta) := by
  obtain ⟨t, p, q⟩ := ha
  refine ⟨_, pt_val p he, fun σ H ρ m P Q o h k => ?_⟩
  refine q σ H ρ m _ _ o h fun x H1 d m1 p1 s1 h1 r1 => ?_
  cases d with
  | bl b =>
    cases r1
    exact ⟨b, rfl, k b H1 m1 p1 s1 h1⟩
  | _ => exact (p1 : False).elim
theorem t_cmpR {op : CmpOp} {r : R2} {f : F2} (ho : OpR X (compareOp op) r) (hr : RL X.K r f) (ha : PE3 X a ta) (hb : PE3 X b tb) (hm : behindInMarks op b = false) : PT3 X (.Compare a [op] [b] pos) (b3 (op3 f ta tb)) := by
  obtain ⟨_, p, q⟩ := ha
  obtain ⟨_, p', q'⟩ := hb
  refine ⟨_, pt_cmpR ho p p' hm, fun σ H ρ m P Q o h k => ?_⟩
  refine el_op q q' hr σ H ρ m _ _ o h fun x H1 d m1 p1 s1 h1 r1 => ?_
  cases d with
  | bl b =>
    cases r1
    exact ⟨b, rfl, k b H1 m1 p1 s1 h1⟩
  | _ => exact (p1 : False).elim
theorem t_lt (ha : PE3 X a ta) (hb : PE3 X b tb) : PT3 X (.Compare a [.Lt] [b] pos) (b3 (op3 fLt ta tb)) := t_cmpR op_lt rl_lt ha hb (nomark _)
theorem t_le (ha : PE3 X a ta) (hb : PE3 X b tb) : PT3 X (.Compare a [.LtE] [b] pos) (b3 (op3 fLe ta tb)) := t_cmpR op_le rl_le ha hb (nomark _)
theorem t_gt (ha : PE3 X a ta) (hb : PE3 X b tb) : PT3 X (.Compare a [.Gt] [b] pos) (b3 (op3 fGt ta tb)) := t_cmpR op_gt rl_gt ha hb (nomark _)
theorem t_ge (ha : PE3 X a ta) (hb : PE3 X b tb) : PT3 X (.Compare a [.GtE] [b] pos) (b3 (op3 fGe ta tb)) := t_cmpR op_ge rl_ge ha hb (nomark _)
theorem t_eqI (ha : PE3 X a ta) (hb : PE3 X b tb) : PT3 X (.Compare a [.Eq] [b] pos) (b3 (op3 fEqI ta tb)) := t_cmpR op_eqI rl_eqI ha hb (nomark _)
theorem t_neI (ha : PE3 X a ta) (hb : PE3 X b tb) : PT3 X (.Compare a [.NotEq] [b] pos) (b3 (op3 fNeI ta tb)) := t_cmpR op_neI rl_neI ha hb (nomark _)
theorem t_eq {k : Nat} (hr : Room k X.A) (ha : PE3 X a ta) (hb : PE3 X b tb) : PT3 X (.Compare a [.Eq] [b] pos) (b3 (op3 fEq ta tb)) := t_cmpR (op_eqD hr.units) rl_eq ha hb (nomark _)
theorem t_ne {k : Nat} (hr : Room k X.A) (ha : PE3 X a ta) (hb : PE3 X b tb) : PT3 X (.Compare a [.NotEq] [b] pos) (b3 (op3 fNe ta tb)) := t_cmpR (op_neD hr.units) rl_ne ha hb (nomark _)
theorem t_isN {j pos'} (ha : PE3 X a ta) : PT3 X (.Compare a [.Is] [.Constant .none j pos'] pos) (b3 (isN3 ta)) := by
  obtain ⟨t, p, q⟩ := ha
  refine ⟨_, pt_cmp (pc_isN p), fun σ H ρ m P Q o h k => ?_⟩
  refine q σ H ρ m _ _ o h fun x H1 d m1 p1 s1 h1 r1 => ?_
  exact ⟨_, rfl, by rw [isN_eq r1]; exact k _ H1 m1 p1 s1 h1⟩
theorem t_notN {j pos'} (ha : PE3 X a ta) : PT3 X (.Compare a [.IsNot] [.Constant .none j pos'] pos) (b3 (notN3 ta)) := by
  obtain ⟨t, p, q⟩ := ha
  refine ⟨_, pt_cmp (pc_notN p), fun σ H ρ m P Q o h k => ?_⟩
  refine q σ H ρ m _ _ o h fun x H1 d m1 p1 s1 h1 r1 => ?_
  exact ⟨_, rfl, by rw [isN_eq r1]; exact k _ H1 m1 p1 s1 h1⟩
theorem t_chain {op op' : CmpOp} {r r' : R2} {f f' : F2} (ho : OpR X (compareOp op) r) (hr : RL X.K r f) (ho' : OpR X (compareOp op') r') (hr' : RL X.K r' f') (ha : PE3 X a ta) (hb : PE3 X b tb) (hc : PE3 X c tc)
    (hm : lastMarks [op, op'] [b, c] = false := by with_unfolding_all rfl) : PT3 X (.Compare a [op, op'] [b, c] pos) (b3 (chain3 f f' ta tb tc)) := by
  obtain ⟨_, p1, q1⟩ := ha
  obtain ⟨_, p2, q2⟩ := hb
  obtain ⟨_, p3, q3⟩ := hc
  refine ⟨_, pt_chain ho ho' p1 p2 p3 hm, fun σ H ρ m P Q o h k => ?_⟩
  refine q1 σ H ρ m _ _ o h fun x H1 d m1 p1 s1 h1 r1 => ?_
  refine q2 σ H1 ρ m1 _ _ (o.mv s1 h1) p1 fun y H2 e m2 p2 s2 h2 r2 => ?_
  refine hr x y d e H2 m2 _ _ h2 (r1.mv s2) r2 p2 fun z H3 g m3 p3 s3 h3 r3 => ?_
  cases g with
  | bl b =>
    cases r3
    refine ⟨b, rfl, ?_⟩
    cases b with
    | true =>
      have p3 : tc ρ m3 fun w m4 => f' e w m4 _ := p3
      rw [if_pos rfl]
      refine q3 σ H3 ρ m3 _ _ (o.mv (s1.trans (s2.trans s3)) h3) p3 fun w H4 g m4 p4 s4 h4 r4 => ?_
      refine hr' y w e g H4 m4 _ _ h4 (r2.mv (s3.trans s4)) r4 p4 fun u H5 g5 m5 p5 s5 h5 r5 => ?_
      cases g5 with
      | bl b5 =>
        cases r5
        exact ⟨b5, rfl, k b5 H5 m5 p5 (s1.trans (s2.trans (s3.trans (s4.trans s5)))) h5⟩
      | _ => exact (p5 : False).elim
    | false =>
      rw [if_neg Bool.false_ne_true]
      exact ⟨false, rfl, k false H3 m3 p3 (s1.trans (s2.trans s3)) h3⟩
  | _ => exact (p3 : False).elim
def and3 (t u : TT3) : TT3 := fun ρ m P => t ρ m fun c m1 => if c = true then u ρ m1 P else P false m1
def or3 (t u : TT3) : TT3 := fun ρ m P => t ρ m fun c m1 => if c = true then P true m1 else u ρ m1 P
def not3 (t : TT3) : TT3 := fun ρ m P => t ρ m fun c m1 => P (!c) m1
variable {rest : List Expr}
theorem t_and1 (ha : PT3 X a t) : PW3 X (.BoolOp .And [a] pos) t := let ⟨_, p, q⟩ := ha; ⟨_, pw_and1 p, q⟩
theorem t_or1 (ha : PT3 X a t) : PW3 X (.BoolOp .Or [a] pos) t := let ⟨_, p, q⟩ := ha; ⟨_, pw_or1 p, q⟩
theorem t_and (ha : PT3 X a t) (hb : PW3 X (.BoolOp .And (b :: rest) pos) u) : PW3 X (.BoolOp .And (a :: b :: rest) pos) (and3 t u) := by
  obtain ⟨_, p, q⟩ := ha
  obtain ⟨_, p', q'⟩ := hb
  refine ⟨_, pw_and p p', fun σ H ρ m P Q o h k => ?_⟩
  refine q σ H ρ m _ _ o h fun c H1 m1 p1 s1 h1 => ?_
  cases c with
  | true =>
    rw [if_pos rfl] at p1 ⊢
    exact q' σ H1 ρ m1 _ _ (o.mv s1 h1) p1 (k.mv s1)
  | false =>
    rw [if_neg Bool.false_ne_true] at p1 ⊢
    exact k false H1 m1 p1 s1 h1
theorem t_or (ha : PT3 X a t) (hb : PW3 X (.BoolOp .Or (b :: rest) pos) u) : PW3 X (.BoolOp .Or (a :: b :: rest) pos) (or3 t u) := by
  obtain ⟨_, p, q⟩ := ha
  obtain ⟨_, p', q'⟩ := hb
  refine ⟨_, pw_or p p', fun σ H ρ m P Q o h k => ?_⟩
  refine q σ H ρ m _ _ o h fun c H1 m1 p1 s1 h1 => ?_
  cases c with
  | true =>
    rw [if_pos rfl] at p1 ⊢
    exact k true H1 m1 p1 s1 h1
  | false =>
    rw [if_neg Bool.false_ne_true] at p1 ⊢
    exact q' σ H1 ρ m1 _ _ (o.mv s1 h1) p1 (k.mv s1)
theorem t_w (h : PW3 X e t) : PT3 X e t := let ⟨_, p, q⟩ := h; ⟨_, p.pt, q⟩
theorem t_not (ha : PT3 X a t) : PT3 X (.UnaryOp .Not a pos) (not3 t) := by
  obtain ⟨_, p, q⟩ := ha
  refine ⟨_, pt_not p, fun σ H ρ m P Q o h k => ?_⟩
  exact q σ H ρ m _ _ o h fun c H1 m1 p1 s1 h1 => k _ H1 m1 p1 s1 h1
/-- as values -/
def andV3 (ta tb : TE3) : TE3 := fun ρ m P => ta ρ m fun x m1 => match x with
  | .bl c => if c = true then tb ρ m1 P else P (.bl false) m1
  | _ => False
def orV3 (ta tb : TE3) : TE3 := fun ρ m P => ta ρ m fun x m1 => match x with
  | .bl c => if c = true then P (.bl true) m1 else tb ρ m1 P
  | _ => False
def notV3 (ta : TE3) : TE3 := fun ρ m P => ta ρ m fun x m1 => match x with
  | .bl c => P (.bl (!c)) m1
  | _ => False
theorem e_one {op} (h : PE3 X a ta) : PE3 X (.BoolOp op [a] pos) ta := let ⟨_, p, q⟩ := h; ⟨_, pe_one p, q⟩
theorem e_and (ha : PE3 X a ta) (hb : PE3 X (.BoolOp .And (b :: rest) pos) tb) : PE3 X (.BoolOp .And (a :: b :: rest) pos) (andV3 ta tb) := by
  obtain ⟨_, p, q⟩ := ha
  obtain ⟨_, p', q'⟩ := hb
  refine ⟨_, pe_and p p', fun σ H ρ m P Q o h k => ?_⟩
  refine q σ H ρ m _ _ o h fun x H1 d m1 p1 s1 h1 r1 => ?_
  cases d with
  | bl c =>
    cases r1
    refine ⟨c, rfl, ?_⟩
    cases c with
    | true =>
      have p2 : tb ρ m1 P := p1
      rw [if_pos rfl]
      exact q' σ H1 ρ m1 _ _ (o.mv s1 h1) p2 (k.mv s1)
    | false =>
      rw [if_neg Bool.false_ne_true]
      exact (k.mv s1).now h1 p1 (.bl _)
  | _ => exact (p1 : False).elim
theorem e_or (ha : PE3 X a ta) (hb : PE3 X (.BoolOp .Or (b :: rest) pos) tb) : PE3 X (.BoolOp .Or (a :: b :: rest) pos) (orV3 ta tb) := by
  obtain ⟨_, p, q⟩ := ha
  obtain ⟨_, p', q'⟩ := hb
  refine ⟨_, pe_or p p', fun σ H ρ m P Q o h k => ?_⟩
  refine q σ H ρ m _ _ o h fun x H1 d m1 p1 s1 h1 r1 => ?_
  cases d with
  | bl c =>
    cases r1
    refine ⟨c, rfl, ?_⟩
    cases c with
    | true =>
      rw [if_pos rfl]
      exact (k.mv s1).now h1 p1 (.bl _)
    | false =>
      have p2 : tb ρ m1 P := p1
      rw [if_neg Bool.false_ne_true]
      exact q' σ H1 ρ m1 _ _ (o.mv s1 h1) p2 (k.mv s1)
  | _ => exact (p1 : False).elim
theorem e_not (ha : PE3 X a ta) : PE3 X (.UnaryOp .Not a pos) (notV3 ta) := by
  obtain ⟨_, p, q⟩ := ha
  refine ⟨_, pe_not p, fun σ H ρ m P Q o h k => ?_⟩
  refine q σ H ρ m _ _ o h fun x H1 d m1 p1 s1 h1 r1 => ?_
  cases d with
  | bl c =>
    cases r1
    exact ⟨c, rfl, (k.mv s1).now h1 p1 (.bl _)⟩
  | _ => exact (p1 : False).elim
def if3 (t : TT3) (ta tb : TE3) : TE3 := fun ρ m P => t ρ m fun c m1 => if c = true then ta ρ m1 P else tb ρ m1 P
theorem e_if (hc : PT3 X c t) (ha : PE3 X a ta) (hb : PE3 X b tb) : PE3 X (.IfExp c a b pos) (if3 t ta tb) := by
  obtain ⟨_, p0, q0⟩ := hc
  obtain ⟨_, p, q⟩ := ha
  obtain ⟨_, p', q'⟩ := hb
  refine ⟨_, pe_ifExp p0 p p', fun σ H ρ m P Q o h k => ?_⟩
  refine q0 σ H ρ m _ _ o h fun c H1 m1 p1 s1 h1 => ?_
  cases c with
  | true =>
    rw [if_pos rfl] at p1 ⊢
    exact q σ H1 ρ m1 _ _ (o.mv s1 h1) p1 (k.mv s1)
  | false =>
    rw [if_neg Bool.false_ne_true] at p1 ⊢
    exact q' σ H1 ρ m1 _ _ (o.mv s1 h1) p1 (k.mv s1)

/-! ### argument lists, tuples, lists -/
variable {es : List Expr} {tr : TA3}
def nil3 : TA3 := fun _ m P => P [] m
def cons3 (ta : TE3) (tr : TA3) : TA3 := fun ρ m P => ta ρ m fun x m1 => tr ρ m1 fun xs m2 => P (x :: xs) m2
theorem a_nil : PA3 X [] nil3 := ⟨_, pa_nil, fun σ H ρ m P Q o h k => k [] H [] m h (Step.refl _ _) o.hr .nil⟩
theorem a_cons (ha : PE3 X e ta) (hr : PA3 X es tr) (hs : starEach (e :: es) X.env = (false, eval e X.env) :: starEach es X.env := by rfl) : PA3 X (e :: es) (cons3 ta tr) := by
  obtain ⟨_, p, q⟩ := ha
  obtain ⟨_, p', q'⟩ := hr
  refine ⟨_, pa_cons p p' hs, fun σ H ρ m P Q o h k => ?_⟩
  refine q σ H ρ m _ _ o h fun x H1 d m1 p1 s1 h1 r1 => ?_
  refine q' σ H1 ρ m1 _ _ (o.mv s1 h1) p1 fun xs H2 ds m2 p2 s2 h2 r2 => ?_
  exact k (x :: xs) H2 (d :: ds) m2 p2 (s1.trans s2) h2 (.cons (r1.mv s2) r2)
/-- a short display -/
def Short (n : Nat) : Prop := n ≤ 16000
theorem Short.line {n : Nat} (h : Short n) : n ≤ sizeLine := Nat.le_trans h (by decide)
def tup3 (tr : TA3) : TE3 := fun ρ m P => tr ρ m fun xs m1 => xs.length ≤ 16000 ∧ P (.tup xs) m1
def lst3 (tr : TA3) : TE3 := fun ρ m P => tr ρ m fun xs m1 => xs.length ≤ 16000 ∧ P (.lst xs) m1
/-- a list that will change -/
def lstM3 (tr : TA3) : TE3 := fun ρ m P => tr ρ m fun xs m1 => xs.length ≤ 16000 ∧ ∀ p, m1 p = none → P (.ref p) (put m1 p (.lst xs))
theorem e_tup {x1} (h : PA3 X es tr) : PE3 X (.Tuple es x1 pos) (tup3 tr) := by
  obtain ⟨_, p, q⟩ := h
  refine ⟨_, pe_tup p, fun σ H ρ m P Q o h k => ?_⟩
  refine q σ H ρ m _ _ o h fun xs H1 ds m1 p1 s1 h1 r1 => ⟨by rw [r1.length]; exact Short.line p1.1, fun p hp => ?_⟩
  exact k _ _ _ _ p1.2 (s1.trans (step_new hp)) (hr_new h1 hp) (.tup (.inl ⟨.inl upd_same, h1.none hp⟩) (r1.mv (step_new hp)))
theorem e_lst (h : PA3 X es tr) : PE3 X (.List es pos) (lst3 tr) := by
  obtain ⟨_, p, q⟩ := h
  refine ⟨_, pe_lst p, fun σ H ρ m P Q o h k => ?_⟩
  refine q σ H ρ m _ _ o h fun xs H1 ds m1 p1 s1 h1 r1 => ⟨by rw [r1.length]; exact Short.line p1.1, fun p hp => ?_⟩
  exact k _ _ _ _ p1.2 (s1.trans (step_new hp)) (hr_new h1 hp) (.lst (.inl ⟨.inl upd_same, h1.none hp⟩) (r1.mv (step_new hp)))
theorem e_lstM (h : PA3 X es tr) : PE3 X (.List es pos) (lstM3 tr) := by
  obtain ⟨_, p, q⟩ := h
  refine ⟨_, pe_lst p, fun σ H ρ m P Q o h k => ?_⟩
  refine q σ H ρ m _ _ o h fun xs H1 ds m1 p1 s1 h1 r1 => ⟨by rw [r1.length]; exact Short.line p1.1, fun p hp => ?_⟩
  exact k _ _ _ _ (p1.2 p (h1.none hp)) (s1.trans (step_newM hp)) (hr_newM h1 hp r1) (.ref p)

/-! ### subscripts -/
theorem atI_map {α β : Type} {xs : List α} {ys : List β} {R : α → β → Prop} (hl : xs.length = ys.length) (hg : ∀ (i : Nat) y, ys[i]? = some y → ∃ x, xs[i]? = some x ∧ R x y) {i : Int} {y : β} (h : atI ys i = some y) : ∃ x, atI xs i = some x ∧ R x y := by
  unfold atI at h ⊢
  rw [hl]
  cases e : ixN ys.length i with
  | none => rw [e] at h; cases h
  | some j =>
    rw [e] at h
    exact hg j y h
theorem Reps.atI {K : PySem.W.Frag} {H : Hp} {m : Mem} {vs : List V} {ds : List D} (r : Reps K H m vs ds) {i : Int} {d : D} (h : L2.atI ds i = some d) : ∃ v, L2.atI vs i = some v ∧ Rep K H m v d :=
  atI_map r.length (fun j y e => r.get e) h
/-- the item at a place -/
def at3 (ds : List D) (i : Int) (m : Mem) (P : DK) : Prop := match L2.atI ds i with
  | some v => P v m
  | none => False
theorem at3_some {ds : List D} {i : Int} {m : Mem} {P : DK} (h : at3 ds i m P) : ∃ v, L2.atI ds i = some v ∧ P v m := by
  unfold at3 at h
  split at h
  · rename_i v e
    exact ⟨v, e, h⟩
  · exact h.elim
def fIx : F2 := fun x y m P => match x, y with
  | .tup ds, .int i => at3 ds i m P
  | .lst ds, .int i => at3 ds i m P
  | .ref a, .int i => match m a with
    | some (.lst ds) => at3 ds i m P
    | _ => False
  | .str z, .int i => ∃ c, z.length ≤ 16000 ∧ L2.atI z.cps.toList i = some c ∧ P (.str ⟨#[c]⟩) m
  | _, _ => False
theorem rl_ix {K : PySem.W.Frag} : RL K (rIx K) fIx := by
  intro x y d e H m P Q h r1 r2 f k
  unfold fIx at f
  split at f
  · obtain ⟨v, e1, p1⟩ := at3_some f
    cases r2
    cases r1 with
    | tup t r =>
      obtain ⟨w, e2, rw2⟩ := r.atI e1
      exact .inr (.inl ⟨_, _, _, _, rfl, rfl, t.sq, e2, k.now h p1 rw2⟩)
  · obtain ⟨v, e1, p1⟩ := at3_some f
    cases r2
    cases r1 with
    | lst t r =>
      obtain ⟨w, e2, rw2⟩ := r.atI e1
      exact .inl ⟨_, _, _, _, rfl, rfl, t.sq, e2, k.now h p1 rw2⟩
  · split at f
    · rename_i ds em
      obtain ⟨v, e1, p1⟩ := at3_some f
      cases r2
      cases r1
      obtain ⟨xs, ex, r⟩ := h.lst em
      obtain ⟨w, e2, rw2⟩ := r.atI e1
      exact .inl ⟨_, _, _, _, rfl, rfl, SqL.of ex, e2, k.now h p1 rw2⟩
    · exact f.elim
  · obtain ⟨c, hz, e1, p1⟩ := f
    cases r2
    cases r1
    exact .inr (.inr ⟨_, _, c, rfl, rfl, Nat.le_trans hz (by decide), e1, k.now h p1 (.str _)⟩)
  · exact f.elim
theorem e_ix (ha : PE3 X a ta) (hb : PE3 X b tb) (hs : PlainIx b := by exact fun _ _ => rfl) : PE3 X (.Subscript a b pos) (op3 fIx ta tb) :=
  let ⟨_, p, q⟩ := ha
  let ⟨_, p', q'⟩ := hb
  ⟨_, pe_ix ix_seq p p' hs, el_op q q' rl_ix⟩

/-! ### slices of lists: a new list -/
abbrev TO3 := Env3 → Mem → (Option Int → Mem → Prop) → Prop
def OK3 (K : PySem.W.Frag) (H : Hp) (m : Mem) (P : Option Int → Mem → Prop) (Q : Option Int → Hp → Prop) : Prop := ∀ i H' m', P i m' → Step H m H' m' → HR K H' m' → Q i H'
def PO3 (X : Cx) (e : Option Expr) (t3 : TO3) : Prop := ∃ t, PO X e t ∧ ∀ σ H ρ m P Q, Ok X.K σ H ρ m → t3 ρ m P → OK3 X.K H m P Q → t σ H Q
def noPart3 : TO3 := fun _ m P => P none m
def part3 (ta : TE3) : TO3 := fun ρ m P => ta ρ m fun x m1 => match x with
  | .int i => P (some i) m1
  | _ => False
theorem o_none : PO3 X none noPart3 := ⟨_, po_none, fun σ H ρ m P Q o h k => k none H m h (Step.refl _ _) o.hr⟩
theorem o_some (ha : PE3 X a ta) : PO3 X (some a) (part3 ta) := by
  obtain ⟨_, p, q⟩ := ha
  refine ⟨_, po_some p, fun σ H ρ m P Q o h k => ?_⟩
  refine q σ H ρ m _ _ o h fun x H1 d m1 p1 s1 h1 r1 => ?_
  cases d with
  | int i =>
    cases r1
    exact ⟨i, rfl, k (some i) H1 m1 p1 s1 h1⟩
  | _ => exact (p1 : False).elim
def cutD (ds : List D) (lo hi : Option Int) : List D := (ds.drop (HT.sIx ds.length 0 lo)).take (HT.sIx ds.length ds.length hi - HT.sIx ds.length 0 lo)

/-! ### blocks -/
def nx3 : TS3 := fun D ρ m => D.nx ρ m
def seq3 (t u : TS3) : TS3 := fun D ρ m => t { D with nx := u D } ρ m
variable {st : Stmt} {sts : List Stmt} {ts us : TS3}
theorem ss_nil : PSs3 X [] nx3 := ⟨_, pss_nil, fun σ H ρ m D3 E o h l => l.nx σ H ρ m h (Step.refl _ _) o⟩
theorem ss_cons (h1 : PS3 X st ts) (h2 : PSs3 X sts us) : PSs3 X (st :: sts) (seq3 ts us) := by
  obtain ⟨_, p, q⟩ := h1
  obtain ⟨_, p', q'⟩ := h2
  refine ⟨_, pss_cons p p', fun σ H ρ m D3 E o h l => ?_⟩
  refine q σ H ρ m _ _ o h ⟨fun σ' H' ρ' m' h' s' o' => ?_, l.rt, l.bk, l.ct⟩
  exact q' σ' H' ρ' m' D3 E o' h' (l.mv s')
theorem ss_one (h1 : PS3 X st ts) : PSs3 X [st] ts := let ⟨_, p, q⟩ := h1; ⟨_, pss_one p, q⟩
def brk3 : TS3 := fun D ρ m => D.bk ρ m
def cont3 : TS3 := fun D ρ m => D.ct ρ m
theorem s_pass : PS3 X (.Pass pos) nx3 := ⟨_, ps_pass, fun σ H ρ m D3 E o h l => l.nx σ H ρ m h (Step.refl _ _) o⟩
theorem s_break : PS3 X (.Break pos) brk3 := ⟨_, ps_break, fun σ H ρ m D3 E o h l => l.bk σ H ρ m h (Step.refl _ _) o⟩
theorem s_continue : PS3 X (.Continue pos) cont3 := ⟨_, ps_continue, fun σ H ρ m D3 E o h l => l.ct σ H ρ m h (Step.refl _ _) o⟩
def drop3 (ta : TE3) : TS3 := fun D ρ m => ta ρ m fun _ m1 => D.nx ρ m1
theorem s_expr (ha : PE3 X e ta) (hs : swapsWith e none pos.line X.env = pure false := by rfl) : PS3 X (.Expr e pos) (drop3 ta) := by
  obtain ⟨_, p, q⟩ := ha
  refine ⟨_, ps_expr p hs, fun σ H ρ m D3 E o h l => ?_⟩
  exact q σ H ρ m _ _ o h fun x H1 d m1 p1 s1 h1 r1 => l.nx σ H1 ρ m1 p1 s1 (o.mv s1 h1)
def ret3 (ta : TE3) : TS3 := fun D ρ m => ta ρ m D.rt
theorem s_ret (ha : PE3 X e ta) : PS3 X (.Return (some e) pos) (ret3 ta) := by
  obtain ⟨_, p, q⟩ := ha
  exact ⟨_, ps_ret p, fun σ H ρ m D3 E o h l => q σ H ρ m _ _ o h l.rt⟩
def retN3 : TS3 := fun D _ m => D.rt .non m
theorem s_retN : PS3 X (.Return none pos) retN3 := ⟨_, ps_retN, fun σ H ρ m D3 E o h l => l.rt.now o.hr h .non⟩
def ifS3 (c : TT3) (t u : TS3) : TS3 := fun D ρ m => c ρ m fun b m1 => if b = true then t D ρ m1 else u D ρ m1
theorem s_if {sa sb : List Stmt} (hc : PT3 X c t) (ha : PSs3 X sa ts) (hb : PSs3 X sb us) : PS3 X (.If c sa sb pos) (ifS3 t ts us) := by
  obtain ⟨_, p0, q0⟩ := hc
  obtain ⟨_, p, q⟩ := ha
  obtain ⟨_, p', q'⟩ := hb
  refine ⟨_, ps_if p0 p p', fun σ H ρ m D3 E o h l => ?_⟩
  refine q0 σ H ρ m _ _ o h fun c H1 m1 p1 s1 h1 => ?_
  cases c with
  | true =>
    rw [if_pos rfl] at p1 ⊢
    exact q σ H1 ρ m1 _ _ (o.mv s1 h1) p1 (l.mv s1)
  | false =>
    rw [if_neg Bool.false_ne_true] at p1 ⊢
    exact q' σ H1 ρ m1 _ _ (o.mv s1 h1) p1 (l.mv s1)
/-- what is never come to -/
def never3 : TS3 := fun _ _ _ => False
theorem s_never : PS3 X st never3 := ⟨_, ps_never, fun _ _ _ _ _ _ _ h _ => h.elim⟩
theorem ss_never : PSs3 X sts never3 := ⟨_, pss_never, fun _ _ _ _ _ _ _ h _ => h.elim⟩

/-! ### targets -/
abbrev NK := Env3 → Mem → Prop
abbrev TG3 := D → Env3 → Mem → NK → Prop
abbrev TGs3 := List D → Env3 → Mem → NK → Prop
def GK (K : PySem.W.Frag) (H : Hp) (m : Mem) (P : NK) (Q : L2.St → Hp → Prop) : Prop := ∀ σ' H' ρ' m', P ρ' m' → Step H m H' m' → Ok K σ' H' ρ' m' → Q σ' H'
theorem GK.mv {K : PySem.W.Frag} {H H' : Hp} {m m' : Mem} {P : NK} {Q : L2.St → Hp → Prop} (k : GK K H m P Q) (s : Step H m H' m') : GK K H' m' P Q := fun v H2 d m2 p s2 h => k v H2 d m2 p (s.trans s2) h
def PG3 (X : Cx) (tg : Expr) (g3 : TG3) : Prop := ∃ g, PG X tg g ∧ ∀ v d σ H ρ m P Q, Ok X.K σ H ρ m → Rep X.K H m v d → g3 d ρ m P → GK X.K H m P Q → g v σ H Q
def PGs3 (X : Cx) (tg : List Expr) (g3 : TGs3) : Prop := ∃ g, PGs X tg g ∧ ∀ v d σ H ρ m P Q, Ok X.K σ H ρ m → Reps X.K H m v d → g3 d ρ m P → GK X.K H m P Q → g v σ H Q
def name3 (i : Nat) : TG3 := fun d ρ m P => P (ρ.set i (some d)) m
theorem g_name {i : Nat} {x : Str} (hN : X.N.Nodup) (hi : X.N[i]? = some x := by rfl) (hx : Loc X.env.scope x := by first | exact Or.inl rfl | exact Or.inr rfl) (hf : X.fn x = true ∨ X.env.scope.names.lookup x = some .local := by first | exact .inl rfl | exact .inr rfl | assumption) : PG3 X (.Name x pos) (name3 i) :=
  ⟨_, pg_name hN hi hx hf, fun v d σ H ρ m P Q o r h k => k _ H _ m h (Step.refl _ _) (o.set i r)⟩
def gnil3 : TGs3 := fun ds ρ m P => match ds with
  | [] => P ρ m
  | _ => False
def gcons3 (g : TG3) (gs : TGs3) : TGs3 := fun ds ρ m P => match ds with
  | d :: r => g d ρ m fun ρ' m' => gs r ρ' m' P
  | _ => False
variable {tg : Expr} {tgs : List Expr} {g : TG3} {gs : TGs3}
theorem gs_nil : PGs3 X [] gnil3 := ⟨_, pgs_nil, fun v d σ H ρ m P Q o r h k => by
  cases r with
  | nil => exact ⟨rfl, k σ H ρ m h (Step.refl _ _) o⟩
  | cons _ _ => exact (h : False).elim⟩
theorem gs_cons (h1 : PG3 X tg g) (h2 : PGs3 X tgs gs) (hs : (assignEach (tg :: tgs) X.env).map (·.2) = assign tg X.env :: (assignEach tgs X.env).map (·.2) := by rfl) : PGs3 X (tg :: tgs) (gcons3 g gs) := by
  obtain ⟨_, p, q⟩ := h1
  obtain ⟨_, p', q'⟩ := h2
  refine ⟨_, pgs_cons p p' hs, fun v d σ H ρ m P Q o r h k => ?_⟩
  cases r with
  | nil => exact (h : False).elim
  | cons r rr =>
    exact ⟨_, _, rfl, q _ _ σ H ρ m _ _ o r h fun σ' H' ρ' m' h' s' o' => q' _ _ σ' H' ρ' m' _ _ o' (rr.mv s') h' (k.mv s')⟩
def gtup3 (gs : TGs3) : TG3 := fun d ρ m P => match d with
  | .tup ds => gs ds ρ m P
  | _ => False
theorem g_tup {k : Nat} {n : Nat} (hc : X.calm = true) (h : PGs3 X tgs gs) (hlen : ∀ ds ρ m P, gs ds ρ m P → ds.length = n)
    (hn : (assignEach tgs X.env).length = n := by rfl) (hst : (assignEach tgs X.env).findIdx? (·.1) = none := by rfl) : PG3 X (.Tuple tgs k pos) (gtup3 gs) := by
  obtain ⟨_, p, q⟩ := h
  refine ⟨_, pg_tup hc p hn hst, fun v d σ H ρ m P Q o r h k => ?_⟩
  cases d with
  | tup ds =>
    cases r with
    | tup t r => exact ⟨_, _, rfl, t.sq, by rw [r.length]; exact hlen _ _ _ _ h, q _ _ σ H ρ m _ _ o r h k⟩
  | _ => exact (h : False).elim
theorem gl_nil : ∀ ds ρ m P, gnil3 ds ρ m P → ds.length = 0 := fun ds ρ m P h => by
  cases ds with
  | nil => rfl
  | cons _ _ => exact (h : False).elim
theorem gl_cons {i n : Nat} (hl : ∀ ds ρ m P, gs ds ρ m P → ds.length = n) : ∀ ds ρ m P, gcons3 (name3 i) gs ds ρ m P → ds.length = n + 1 := fun ds ρ m P h => by
  cases ds with
  | nil => exact (h : False).elim
  | cons d r => rw [List.length_cons, hl r _ _ _ h]
def asg3 (ta : TE3) (g : TG3) : TS3 := fun D ρ m => ta ρ m fun x m1 => g x ρ m1 D.nx
theorem s_asg (ha : PE3 X e ta) (hg : PG3 X tg g) (hs : swapsWithSole [tg] e pos.line X.env = pure false := by rfl) (hw : swappedStores [tg] e X.env = pure none := by rfl)
    (h1 : (assignEach [tg] X.env).map (·.2) = [assign tg X.env] := by rfl) : PS3 X (.Assign [tg] e pos) (asg3 ta g) := by
  obtain ⟨_, p, q⟩ := ha
  obtain ⟨_, p', q'⟩ := hg
  refine ⟨_, ps_asg p p' hs hw h1, fun σ H ρ m D3 E o h l => ?_⟩
  refine q σ H ρ m _ _ o h fun x H1 d m1 p1 s1 h1 r1 => ?_
  exact q' x d σ H1 ρ m1 _ _ (o.mv s1 h1) r1 p1 fun σ' H' ρ' m' h' s' o' => l.nx σ' H' ρ' m' h' (s1.trans s') o'
theorem s_set {i : Nat} {x : Str} {pos' : Pos} (hN : X.N.Nodup) (ha : PE3 X e ta) (hi : X.N[i]? = some x := by rfl) (hx : Loc X.env.scope x := by first | exact Or.inl rfl | exact Or.inr rfl) (hs : swapsWith e (some (.Name x pos')) pos.line X.env = pure false := by rfl) (hf : X.fn x = true ∨ X.env.scope.names.lookup x = some .local := by first | exact .inl rfl | exact .inr rfl | assumption) :
    PS3 X (.Assign [.Name x pos'] e pos) (asg3 ta (name3 i)) := by
  obtain ⟨_, p, q⟩ := ha
  refine ⟨_, ps_set hN hi hx p hs hf, fun σ H ρ m D3 E o h l => ?_⟩
  refine q σ H ρ m _ _ o h fun x H1 d m1 p1 s1 h1 r1 => ?_
  exact l.nx _ H1 _ m1 p1 s1 ((o.mv s1 h1).set i r1)
def par3 (i j : Nat) (tr : TA3) : TS3 := fun D ρ m => tr ρ m fun ds m1 => match ds with
  | [v, w] => D.nx ((ρ.set i (some v)).set j (some w)) m1
  | _ => False
theorem s_par {i j : Nat} {x y : Str} {px py pt : Pos} {kt k2 pt2} (hc : X.calm = true) (hN : X.N.Nodup) (hi : X.N[i]? = some x) (hj : X.N[j]? = some y) (hij : i ≠ j)
    (hx : X.env.scope.names.lookup x = some .local) (hy : X.env.scope.names.lookup y = some .local) (ha : PA3 X [a, b] tr)
    (hw : swappedStores [.Tuple [.Name x px, .Name y py] kt pt] (.Tuple [a, b] k2 pt2) X.env = pure (some [x, y]))
    (hs : swapsWithSole [.Tuple [.Name x px, .Name y py] kt pt] (.Tuple [a, b] k2 pt2) pos.line X.env = pure false := by rfl) :
    PS3 X (.Assign [.Tuple [.Name x px, .Name y py] kt pt] (.Tuple [a, b] k2 pt2) pos) (par3 i j tr) := by
  obtain ⟨_, p, q⟩ := ha
  refine ⟨_, ps_par hc hN hi hj hij hx hy p hw hs, fun σ H ρ m D3 E o h l => ?_⟩
  refine q σ H ρ m _ _ o h fun vs H1 ds m1 p1 s1 h1 r1 => ?_
  match ds, r1, p1 with
  | [v, w], .cons ra (.cons rb .nil), p1 => exact ⟨_, _, rfl, l.nx _ H1 _ m1 p1 s1 (((o.mv s1 h1).set i ra).set j rb)⟩
def aug3 (i : Nat) (ta : TE3) (f : F2) : TS3 := fun D ρ m => match ρ[i]? with
  | some (some x) => ta ρ m fun y m1 => f x y m1 fun z m2 => D.nx (ρ.set i (some z)) m2
  | _ => False
theorem s_aug {i : Nat} {x : Str} {op : Operator} {r : R2} {f : F2} {pos' : Pos} (hN : X.N.Nodup) (ho : OpR X (inplaceOp op) r) (hr : RL X.K r f) (ha : PE3 X e ta) (hi : X.N[i]? = some x := by rfl) (hx : Loc X.env.scope x := by first | exact Or.inl rfl | exact Or.inr rfl) (hf : X.fn x = true ∨ X.env.scope.names.lookup x = some .local := by first | exact .inl rfl | exact .inr rfl | assumption) :
    PS3 X (.AugAssign (.Name x pos') op e pos) (aug3 i ta f) := by
  obtain ⟨_, p, q⟩ := ha
  refine ⟨_, ps_aug hN hi hx p ho hf, fun σ H ρ m D3 E o h l => ?_⟩
  unfold aug3 at h
  split at h
  · rename_i d ed
    obtain ⟨v, ev, rv⟩ := o.env.2 i d ed
    refine ⟨v, ev, q σ H ρ m _ _ o h fun y H1 d2 m1 p1 s1 h1 r1 => ?_⟩
    refine hr v y d d2 H1 m1 _ _ h1 (rv.mv s1) r1 p1 fun z H2 dz m2 p2 s2 h2 r2 => ?_
    exact l.nx _ H2 _ m2 p2 (s1.trans s2) ((o.mv (s1.trans s2) h2).set i r2)
  · exact h.elim
/-- xs[i] = v of a list that may change -/
def sub3 (to ti : TE3) : TG3 := fun d ρ m P => to ρ m fun o m1 => ti ρ m1 fun i m2 => match o, i with
  | .ref p, .int k => match m2 p with
    | some (.lst ds) => match ixN ds.length k with
      | some j => P ρ (put m2 p (.lst (ds.set j d)))
      | none => False
    | _ => False
  | _, _ => False
theorem g_sub (ha : PE3 X a ta) (hb : PE3 X b tb)
    (hs : ∀ v, assign (.Subscript a b pos) X.env v = (do
      let ov ← holding [v] (eval a X.env)
      let iv ← holding [v, ov] (eval b X.env)
      standAt pos
      holding [v, ov, iv] (setItem ov iv v)
      release [v, ov, iv] []) := by intro _; rfl) : PG3 X (.Subscript a b pos) (sub3 ta tb) := by
  obtain ⟨_, p, q⟩ := ha
  obtain ⟨_, p', q'⟩ := hb
  refine ⟨_, pg_sub p p' set_list hs, fun v d σ H ρ m P Q o r h k => ?_⟩
  refine q σ H ρ m _ _ o h fun ov H1 od m1 p1 s1 h1 r1 => ?_
  refine q' σ H1 ρ m1 _ _ (o.mv s1 h1) p1 fun iv H2 idd m2 p2 s2 h2 r2 => ?_
  cases od with
  | ref pp =>
    cases idd with
    | int kk =>
      cases r1
      cases r2
      simp only at p2
      split at p2
      · rename_i ds em
        split at p2
        · rename_i j ej
          obtain ⟨xs, ex, rx⟩ := h2.lst em
          have rd : Reps X.K H2 m2 (xs.set j v) (ds.set j d) := rx.set (r.mv (s1.trans s2)) j
          refine ⟨pp, xs, kk, j, rfl, rfl, ex, by rw [rx.length]; exact ej, ?_⟩
          exact k σ _ ρ _ p2 ((s1.trans s2).trans (step_set em)) (o.mv ((s1.trans s2).trans (step_set em)) (hr_set (u := .lst (ds.set j d)) h2 em rd))
        · exact p2.elim
      · exact p2.elim
    | _ => exact (p2 : False).elim
  | _ => exact (p2 : False).elim

/-! ### while -/
def while3 (c : TT3) (tb : TS3) : TS3 := fun D ρ m => ∃ W : Nat → Env3 → Mem → Prop, (∃ n, W n ρ m) ∧ ∀ n ρ m, W n ρ m →
  c ρ m fun b m1 => if b = true then tb { D with nx := fun ρ' m' => ∃ n', n' < n ∧ W n' ρ' m', ct := fun ρ' m' => ∃ n', n' < n ∧ W n' ρ' m', bk := D.nx } ρ m1 else D.nx ρ m1
theorem s_while (hp : PassesOwn (model X.prog X.w) X.A X.env X.xe) (hc : PT3 X c t) (hb : PSs3 X sts ts) : PS3 X (.While c sts [] pos) (while3 t ts) := by
  obtain ⟨_, p, q⟩ := hc
  obtain ⟨_, p', q'⟩ := hb
  refine ⟨_, ps_while hp p p', fun σ H ρ m D3 E o h l => ?_⟩
  obtain ⟨W, ⟨n0, w0⟩, turn⟩ := h
  refine ⟨fun n σ1 H1 => ∃ ρ1 m1, Ok X.K σ1 H1 ρ1 m1 ∧ Step H m H1 m1 ∧ W n ρ1 m1, ⟨n0, ρ, m, o, Step.refl _ _, w0⟩, ?_⟩
  rintro n σ1 H1 ⟨ρ1, m1, o1, s1, w1⟩
  refine q σ1 H1 ρ1 m1 _ _ o1 (turn n ρ1 m1 w1) fun b H2 m2 p2 s2 h2 => ?_
  cases b with
  | true =>
    rw [if_pos rfl] at p2 ⊢
    refine ⟨fun σ' H' => ∃ n', n' < n ∧ ∃ ρ' m', Ok X.K σ' H' ρ' m' ∧ Step H m H' m' ∧ W n' ρ' m', fun σ' H' z => z, ?_⟩
    refine q' σ1 H2 ρ1 m2 _ _ (o1.mv s2 h2) p2 ⟨fun σ' H' ρ' m' h' s' o' => ?_, fun v H' d m' h' s' hh rr => l.rt v H' d m' h' (s1.trans (s2.trans s')) hh rr, fun σ' H' ρ' m' h' s' o' => l.nx σ' H' ρ' m' h' (s1.trans (s2.trans s')) o', fun σ' H' ρ' m' h' s' o' => ?_⟩
    · obtain ⟨n', hn, w'⟩ := h'
      exact ⟨n', hn, ρ', m', o', s1.trans (s2.trans s'), w'⟩
    · obtain ⟨n', hn, w'⟩ := h'
      exact ⟨n', hn, ρ', m', o', s1.trans (s2.trans s'), w'⟩
  | false =>
    rw [if_neg Bool.false_ne_true] at p2 ⊢
    exact l.nx σ1 H2 ρ1 m2 p2 (s1.trans s2) (o1.mv s2 h2)

/-! ### what is walked -/
abbrev TI3 := Env3 → Mem → (List D → Mem → Prop) → Prop
/-- an iterator that gives the items ds, while what does not change stands -/
def Wlk (K : PySem.W.Frag) (J : It) (ds : List D) (H : Hp) (m : Mem) : Prop := ∀ (i : Nat) H2 m2, Step H m H2 m2 → HR K H2 m2 →
  (ds.length ≤ i → J.stop i H2) ∧ ∀ d, ds[i]? = some d → J.go i H2 ∧ ∀ x H', J.yld i H2 x H' → Step H2 m2 H' m2 ∧ HR K H' m2 ∧ Rep K H' m2 x d
def PI3 (X : Cx) (tg iter : Expr) (w3 : TI3) : Prop := ∃ wi, PI X tg iter wi ∧ ∀ σ H ρ m P R, Ok X.K σ H ρ m → w3 ρ m P →
  (∀ J H1 ds m1, P ds m1 → Step H m H1 m1 → HR X.K H1 m1 → Wlk X.K J ds H1 m1 → R J H1) → wi σ H R
def seq_items : D → Option (List D)
  | .tup ds => some ds
  | .lst ds => some ds
  | _ => none
/-- a list of data -/
def ilst3 (ta : TE3) : TI3 := fun ρ m P => ta ρ m fun x m1 => match x with
  | .lst ds => P ds m1
  | _ => False
def itup3 (ta : TE3) : TI3 := fun ρ m P => ta ρ m fun x m1 => match x with
  | .tup ds => P ds m1
  | _ => False
theorem wlk_list {K : PySem.W.Frag} {H : Hp} {m : Mem} {a : Addr} {xs : List V} {ds : List D} (t : LstAt K H m a xs) (r : Reps K H m xs ds) : Wlk K (Itl K a) ds H m := by
  intro i H2 m2 s2 h2
  have t2 := (t.step s2).sq
  have r2 := r.mv s2
  refine ⟨fun hi => ⟨xs, t2, by rw [r.length]; exact hi⟩, fun d hd => ?_⟩
  obtain ⟨v, hv, rv⟩ := r2.get hd
  refine ⟨⟨xs, v, t2, hv⟩, fun x H' y => ?_⟩
  obtain ⟨e, y⟩ := y
  subst e
  have ev : x = v := Option.some.inj ((y xs t2).symm.trans hv)
  subst ev
  exact ⟨Step.refl _ _, h2, rv⟩
theorem wlk_tup {K : PySem.W.Frag} {H : Hp} {m : Mem} {a : Addr} {xs : List V} {ds : List D} (t : TupAt K H m a xs) (r : Reps K H m xs ds) : Wlk K (Itt K a) ds H m := by
  intro i H2 m2 s2 h2
  have t2 := (t.step s2).sq
  have r2 := r.mv s2
  refine ⟨fun hi => ⟨xs, t2, by rw [r.length]; exact hi⟩, fun d hd => ?_⟩
  obtain ⟨v, hv, rv⟩ := r2.get hd
  refine ⟨⟨xs, v, t2, hv⟩, fun x H' y => ?_⟩
  obtain ⟨e, y⟩ := y
  subst e
  have ev : x = v := Option.some.inj ((y xs t2).symm.trans hv)
  subst ev
  exact ⟨Step.refl _ _, h2, rv⟩
theorem i_list (ha : PE3 X a ta) : PI3 X tg a (ilst3 ta) := by
  obtain ⟨_, p, q⟩ := ha
  refine ⟨_, pi_list p, fun σ H ρ m P R o h k => ?_⟩
  refine q σ H ρ m _ _ o h fun x H1 d m1 p1 s1 h1 r1 => ?_
  cases d with
  | lst ds =>
    cases r1 with
    | lst t r => exact ⟨_, rfl, ⟨_, t.sq⟩, k _ H1 ds m1 p1 s1 h1 (wlk_list t r)⟩
  | _ => exact (p1 : False).elim
theorem i_tup (ha : PE3 X a ta) : PI3 X tg a (itup3 ta) := by
  obtain ⟨_, p, q⟩ := ha
  refine ⟨_, pi_tup p, fun σ H ρ m P R o h k => ?_⟩
  refine q σ H ρ m _ _ o h fun x H1 d m1 p1 s1 h1 r1 => ?_
  cases d with
  | tup ds =>
    cases r1 with
    | tup t r => exact ⟨_, rfl, ⟨_, t.sq⟩, k _ H1 ds m1 p1 s1 h1 (wlk_tup t r)⟩
  | _ => exact (p1 : False).elim
def rangeD (lo : Int) (n : Nat) : List D := (List.range n).map fun k => D.int (lo + (k : Nat))
theorem wlk_range {K : PySem.W.Frag} {H : Hp} {m : Mem} {lo : Int} {n : Nat} : Wlk K (Itr lo n) (rangeD lo n) H m := by
  intro i H2 m2 s2 h2
  refine ⟨fun hi => ?_, fun d hd => ?_⟩
  · unfold rangeD at hi
    rw [List.length_map, List.length_range] at hi
    exact hi
  · unfold rangeD at hd
    rw [List.getElem?_map] at hd
    cases e : (List.range n)[i]? with
    | none => rw [e] at hd; cases hd
    | some j =>
      rw [e] at hd
      obtain ⟨hl, ej⟩ := List.getElem?_eq_some_iff.mp e
      rw [List.length_range] at hl
      rw [List.getElem_range] at ej
      subst ej
      have ed : D.int (lo + (i : Nat)) = d := Option.some.inj hd
      subst ed
      refine ⟨hl, fun x H' y => ?_⟩
      obtain ⟨e1, e2⟩ := y
      subst e1 e2
      exact ⟨Step.refl _ _, h2, .int _⟩
def irng1 (tr : TA3) : TI3 := fun ρ m P => tr ρ m fun ds m1 => match ds with
  | [.int j] => (-(2 ^ 62) ≤ j ∧ j < 2 ^ 62) ∧ P (rangeD 0 j.toNat) m1
  | _ => False
def irng2 (tr : TA3) : TI3 := fun ρ m P => tr ρ m fun ds m1 => match ds with
  | [.int i, .int j] => (-(2 ^ 62) ≤ i ∧ i < 2 ^ 62 ∧ -(2 ^ 62) ≤ j ∧ j < 2 ^ 62) ∧ P (rangeD i (j - i).toNat) m1
  | _ => False
theorem i_range1 {p pos : Pos} (hg : Gl X "range") (hm : X.mg "range" = none) (ha : PA3 X [a] tr) (hs : starEach [a] X.env = [(false, eval a X.env)] := by rfl) : PI3 X tg (.Call (.Name "range" p) [a] [] pos) (irng1 tr) := by
  obtain ⟨_, p, q⟩ := ha
  refine ⟨_, pi_range1 hg hm p hs, fun σ H ρ m P R o h k => ?_⟩
  refine q σ H ρ m _ _ o h fun vs H1 ds m1 p1 s1 h1 r1 => ?_
  match ds, r1, p1 with
  | [.int j], .cons (.int _) .nil, p1 => exact ⟨j, rfl, p1.1.1, p1.1.2, k _ H1 _ m1 p1.2 s1 h1 wlk_range⟩
theorem i_range2 {p pos : Pos} (hg : Gl X "range") (hm : X.mg "range" = none) (ha : PA3 X [a, b] tr) (hs : starEach [a, b] X.env = [(false, eval a X.env), (false, eval b X.env)] := by rfl) (hs2 : starEach [b] X.env = [(false, eval b X.env)] := by rfl) :
    PI3 X tg (.Call (.Name "range" p) [a, b] [] pos) (irng2 tr) := by
  obtain ⟨_, p, q⟩ := ha
  refine ⟨_, pi_range2 hg hm p hs hs2, fun σ H ρ m P R o h k => ?_⟩
  refine q σ H ρ m _ _ o h fun vs H1 ds m1 p1 s1 h1 r1 => ?_
  match ds, r1, p1 with
  | [.int i, .int j], .cons (.int _) (.cons (.int _) .nil), p1 => exact ⟨i, j, rfl, p1.1, k _ H1 _ m1 p1.2 s1 h1 wlk_range⟩

/-! ### for -/
def forIn3 (g : TG3) (tb : TS3) (D3 : Ends3) : List D → Env3 → Mem → Prop
  | [], ρ, m => D3.nx ρ m
  | d :: ds, ρ, m => g d ρ m fun ρ1 m1 => tb { D3 with nx := forIn3 g tb D3 ds, ct := forIn3 g tb D3 ds, bk := D3.nx } ρ1 m1
def for3 (w : TI3) (g : TG3) (tb : TS3) : TS3 := fun D3 ρ m => w ρ m fun ds m1 => forIn3 g tb D3 ds ρ m1
theorem s_for {iter : Expr} {w : TI3} (hp : PassesOwn (model X.prog X.w) X.A X.env X.xe) (hc : X.calm = true) (hi : PI3 X tg iter w) (hg : PG3 X tg g) (hb : PSs3 X sts ts)
    (hs : ∀ x, foldedSetIterable iter X.env x = pure x := by intro _; rfl) : PS3 X (.For tg iter sts [] pos) (for3 w g ts) := by
  obtain ⟨_, pi, qi⟩ := hi
  obtain ⟨_, pg, qg⟩ := hg
  obtain ⟨_, pb, qb⟩ := hb
  refine ⟨_, ps_for hp hc pi pg pb hs, fun σ H ρ m D3 E o h l => ?_⟩
  refine qi σ H ρ m _ _ o h fun J H1 ds m1 p1 s1 h1 wk => ?_
  refine ⟨fun i n σ2 H2 => ∃ ρ2 m2, Ok X.K σ2 H2 ρ2 m2 ∧ Step H1 m1 H2 m2 ∧ forIn3 g ts D3 (ds.drop i) ρ2 m2 ∧ n = ds.length - i ∧ i ≤ ds.length, ⟨ds.length, ρ, m1, o.mv s1 h1, Step.refl _ _, p1, rfl, Nat.zero_le _⟩, ?_⟩
  rintro i n σ2 H2 ⟨ρ2, m2, o2, s2, f2, rfl, hi⟩
  obtain ⟨wstop, wgo⟩ := wk i H2 m2 s2 o2.hr
  by_cases hlt : i < ds.length
  · obtain ⟨go, yl⟩ := wgo ds[i] (List.getElem?_eq_getElem hlt)
    refine .inr ⟨go, fun σ' H' => ∃ ρ' m', Ok X.K σ' H' ρ' m' ∧ Step H1 m1 H' m' ∧ forIn3 g ts D3 (ds.drop (i + 1)) ρ' m', fun σ' H' ⟨ρ', m', o', s', f'⟩ => ⟨ds.length - (i + 1), by omega, ρ', m', o', s', f', rfl, hlt⟩, fun x H' y => ?_⟩
    obtain ⟨s3, h3, r3⟩ := yl x H' y
    rw [List.drop_eq_getElem_cons hlt] at f2
    refine qg x ds[i] σ2 H' ρ2 m2 _ _ (o2.mv s3 h3) r3 f2 fun σ4 H4 ρ4 m4 h4 s4 o4 => ?_
    have st : Step H1 m1 H4 m4 := s2.trans (s3.trans s4)
    refine qb σ4 H4 ρ4 m4 _ _ o4 h4 ⟨fun σ' H' ρ' m' h' s' o' => ⟨ρ', m', o', st.trans s', h'⟩, fun v H' d m' h' s' hh rr => l.rt v H' d m' h' (s1.trans (st.trans s')) hh rr, fun σ' H' ρ' m' h' s' o' => l.nx σ' H' ρ' m' h' (s1.trans (st.trans s')) o', fun σ' H' ρ' m' h' s' o' => ⟨ρ', m', o', st.trans s', h'⟩⟩
  · have e : ds.drop i = [] := List.drop_eq_nil_of_le (by omega)
    rw [e] at f2
    exact .inl ⟨wstop (by omega), l.nx σ2 H2 ρ2 m2 f2 (s1.trans s2) o2⟩

/-! ### defs: promises by data -/
abbrev Sp3 := List D → Mem → DK → Prop
def spOf (K : PySem.W.Frag) (sp : Sp3) : Sp := fun vs H Q _ => ∃ ds m P, HR K H m ∧ Reps K H m vs ds ∧ sp ds m P ∧ EK K H m P Q
def call3 (sp : Sp3) (tr : TA3) : TE3 := fun ρ m P => tr ρ m fun ds m1 => sp ds m1 P
/-- what follows a call: not looked into -/
structure Tg (P : DK) : Type where
  n : Nat
def Kont (P : DK) (_ : Tg P) : DK := P
theorem call3_k {sp : Sp3} {tr : TA3} {ρ : Env3} {m : Mem} {P : DK} : call3 sp tr ρ m P = tr ρ m fun ds m1 => sp ds m1 (Kont P ⟨0⟩) := rfl
theorem kont_app {P : DK} {h : Tg P} {d : D} {m : Mem} : Kont P h d m = P d m := rfl
end
/-- a def of the text: where it stands -/
structure Def (K : PySem.W.Frag) (mg : Str → Option Value) (x : Str) (st : Stmt) (ps : List Str) (f : Addr) (fd : FuncData) : Prop where
  F : Fun K x x st f fd
  b : Binds K fd ps []
  g : mg x = some (.ref f)
abbrev Fn3 (P : Program) (w : World) (K : PySem.W.Frag) (mg : Str → Option Value) (base : Heap) (k : Nat) (f : Addr) (fd : FuncData) (ps : List Str) (sp : Sp3) : Prop := FnOk P w K mg base CX0 k f fd ps (spOf K sp)
section
variable {X : Cx} {pos p : Pos} {e : Expr} {es : List Expr} {tr : TA3} {k : Nat} {x : Str} {st : Stmt} {ps : List Str} {f : Addr} {fd : FuncData} {sp : Sp3}
theorem e_call (d : Def X.K X.mg x st ps f fd) (G : Fn3 X.prog X.w X.K X.mg X.base k f fd ps sp) (hr : Room k X.A) (hg : Gl X x) (ha : PA3 X (e :: es) tr) (hdb : (x == ("__debug__" : Str)) = false := by decide) (he : starEach (e :: es) X.env = (false, eval e X.env) :: starEach es X.env := by rfl) (hpl : (backTo pos (starEach es X.env)).any (·.1) = false := by rfl) :
    PE3 X (.Call (.Name x p) (e :: es) [] pos) (call3 sp tr) := by
  obtain ⟨_, p, q⟩ := ha
  refine ⟨_, pe_call G hr hg d.g d.F.kp d.b .nil pass0 p hdb he hpl, fun σ H ρ m P Q o h k => ?_⟩
  refine q σ H ρ m _ _ o h fun vs H1 ds m1 p1 s1 h1 r1 => ?_
  rw [List.append_nil]
  exact ⟨ds, m1, P, h1, r1, p1, k.mv s1⟩
end
def start3 (N : List Str) (ds : List D) : Env3 := ds.map some ++ List.replicate (N.length - ds.length) none
theorem ok_start {K : PySem.W.Frag} {H : Hp} {m : Mem} {N : List Str} {vs : List V} {ds : List D} (h : HR K H m) (r : Reps K H m vs ds) : Ok K (L2.start N vs) H (start3 N ds) m := by
  refine ⟨⟨?_, fun i d e => ?_⟩, h⟩
  · unfold L2.start start3
    rw [List.length_append, List.length_append, List.length_map, List.length_map, List.length_replicate, List.length_replicate, r.length]
  · unfold start3 at e
    by_cases hi : i < ds.length
    · rw [List.getElem?_append_left (by rw [List.length_map]; exact hi), List.getElem?_map, List.getElem?_eq_getElem hi] at e
      have ed : ds[i] = d := by simpa using e
      obtain ⟨v, hv, rv⟩ := r.get (List.getElem?_eq_getElem hi)
      rw [ed] at rv
      refine ⟨v, ?_, rv⟩
      unfold L2.start
      rw [List.getElem?_append_left (by rw [List.length_map, r.length]; exact hi), List.getElem?_map, hv]
      rfl
    · rw [List.getElem?_append_right (by rw [List.length_map]; omega), List.getElem?_replicate] at e
      split at e
      · cases e
      · cases e
/-- THE RULE for a def -/
theorem fn3 {P : Program} {w : World} {K : PySem.W.Frag} {mg : Str → Option Value} {base : Heap} {x : Str} {st : Stmt} {f : Addr} {fd : FuncData} {N ps : List Str} {k : Nat} {sp : Sp3} (F : Fun K x x st f fd) (S : FnScope N ps (defScope st)) (len : ∀ ds m Q, sp ds m Q → ds.length = ps.length)
    (hbody : ∀ (cdv : Value) (A : Around) (outer : List Env) (s : Shared) (H : Hp) (E : XK) (ds : List D) (m : Mem) (Q : DK), Room k (A.deeper (PyProof.Rows.envOfC x (defScope st) s.heap.objs.size f cdv)) → sp ds m Q →
      ∃ t, PSs3 (cxOf CX0 P w K mg base N x (defScope st) f cdv A outer s H E).nox (defBody st) t ∧ t { nx := fun _ m' => Q .non m', rt := Q } (start3 N ds) m) : Fn3 P w K mg base (k + 1) f fd ps sp := by
  refine F.ok S (fun vs H Q E h => ?_) (fun cdv A outer s H vs Q E hr h => ?_)
  · obtain ⟨ds, m, P', h1, r1, h2, _⟩ := h
    rw [r1.length]
    exact len ds m P' h2
  · obtain ⟨ds, m, P', h1, r1, h2, ek⟩ := h
    obtain ⟨t3, ⟨t, p, q⟩, h3⟩ := hbody cdv A outer s H E ds m P' hr h2
    refine ⟨t, p, q _ H _ m _ _ (ok_start h1 r1) h3 ⟨fun σ' H' ρ' m' h' s' o' => ek .non H' .non m' h' s' o'.hr .non, ek, fun _ _ _ _ h _ _ => h.elim, fun _ _ _ _ h _ _ => h.elim⟩⟩
end D3

set_option Elab.async false
set_option linter.all false
set_option maxRecDepth 100000
set_option maxHeartbeats 4000000
/-! D3b: built-ins, slices, joined lists, the law's own end. -/
namespace D3
open PySem L2
section
variable {X : Cx} {pos p : Pos} {e a b c : Expr} {es : List Expr} {ta tb tc : TE3} {tr : TA3} {x : Str}

/-! ### lists joined, cut -/
def rCatS (K : PySem.W.Frag) : R2 := fun x y H Q => ∃ l b xs zs, x = .ref l ∧ y = .ref b ∧ SqL K H l xs ∧ SqL K H b zs ∧ xs.length + zs.length ≤ sizeLine ∧ ∀ p, H p = none → Q (.ref p) (upd H p (.lst (xs ++ zs)))
theorem op_catS : OpR X (binaryOp .Add) (rCatS X.K) := by
  intro pins s σ H x y v u Q I rx ry h
  obtain ⟨l, b, xs, zs, rfl, rfl, hH, hB, hz, q⟩ := h
  cases rx
  cases ry
  obtain ⟨its, r, ⟨⟨cls, dd, data, sl⟩, n, ho, hc, _, hd⟩, z⟩ := I.list hH
  obtain ⟨its2, r2, ⟨⟨cls2, dd2, data2, sl2⟩, n2, ho2, hc2, _, hd2⟩, z2⟩ := I.list hB
  simp only at hc hd hc2 hd2
  subst hc hd hc2 hd2
  have hl := r.length
  have hl2 := r2.length
  have ea : its.toArray ++ its2.toArray = (its ++ its2).toArray := by simp
  refine PySem.concat_meets ⟨_, ho, rfl⟩ ⟨_, ho2, rfl⟩ noFill_list_add seq_list_add PySem.F.slot_list_add PySem.F.entry_list_add (PySem.F.args_list_add_2 _ _) (PyProof.Rows.list_addW l b its.toArray its2.toArray n n2 dd dd2 sl sl2 (by rw [List.size_toArray, List.size_toArray]; omega)) ⟨ho, ho2, ?_⟩
  rw [ea]
  exact ⟨.ref _, _, I.lnew (t' := s.toks) (r.append r2) (by rw [List.length_append]; omega), rfl, q _ I.fresh⟩
def fCat : F2 := fun x y m P => match x, y with
  | .lst ds, .lst es => ds.length + es.length ≤ 16000 ∧ P (.lst (ds ++ es)) m
  | _, _ => False
theorem rl_cat {K : PySem.W.Frag} : RL K (rCatS K) fCat := by
  intro x y d e H m P Q h r1 r2 f k
  unfold fCat at f
  split at f
  · cases r1 with
    | lst t r =>
      cases r2 with
      | lst t2 r2 =>
        refine ⟨_, _, _, _, rfl, rfl, t.sq, t2.sq, by rw [r.length, r2.length]; exact Short.line f.1, fun p hp => ?_⟩
        exact k _ _ _ _ f.2 (step_new hp) (hr_new h hp) (.lst (.inl ⟨.inl upd_same, h.none hp⟩) ((r.append r2).mv (step_new hp)))
  · exact f.elim
theorem e_cat (ha : PE3 X a ta) (hb : PE3 X b tb) : PE3 X (.BinOp a .Add b pos) (op3 fCat ta tb) := e_op op_catS rl_cat ha hb
def slc3 (ta : TE3) (tl th : TO3) : TE3 := fun ρ m P => ta ρ m fun x m1 => tl ρ m1 fun lo m2 => th ρ m2 fun hi m3 => match x with
  | .lst ds => P (.lst (cutD ds lo hi)) m3
  | _ => False
theorem Reps.cut {K : PySem.W.Frag} {H : Hp} {m : Mem} {vs : List V} {ds : List D} (r : Reps K H m vs ds) (lo hi : Option Int) : Reps K H m (cutV vs lo hi) (cutD ds lo hi) := by
  unfold cutV cutD
  rw [r.length]
  exact (r.drop _).take _
theorem e_slice {lo hi : Option Expr} {tl th : TO3} {p2 : Pos} (ha : PE3 X a ta) (hl : PO3 X lo tl) (hh : PO3 X hi th) : PE3 X (.Subscript a (.Slice lo hi none p2) pos) (slc3 ta tl th) := by
  obtain ⟨_, p, q⟩ := ha
  obtain ⟨_, p1, q1⟩ := hl
  obtain ⟨_, p2, q2⟩ := hh
  refine ⟨_, pe_slice sl_list p p1 p2, fun σ H ρ m P Q o h k => ?_⟩
  refine q σ H ρ m _ _ o h fun x H1 d m1 p1 s1 h1 r1 => ?_
  refine q1 σ H1 ρ m1 _ _ (o.mv s1 h1) p1 fun lo H2 m2 p2 s2 h2 => ?_
  refine q2 σ H2 ρ m2 _ _ (o.mv (s1.trans s2) h2) p2 fun hi H3 m3 p3 s3 h3 => ?_
  cases d with
  | lst ds =>
    have r3 := r1.mv (s2.trans s3)
    cases r3 with
    | lst t r =>
      refine ⟨_, _, rfl, t.sq, fun p hp => ?_⟩
      exact k _ _ _ _ p3 ((s1.trans (s2.trans s3)).trans (step_new hp)) (hr_new h3 hp) (.lst (.inl ⟨.inl upd_same, h3.none hp⟩) ((r.cut lo hi).mv (step_new hp)))
  | _ => exact (p3 : False).elim

/-! ### built-ins -/
abbrev F1 := D → Mem → DK → Prop
def un3 (f : F1) (ta : TE3) : TE3 := fun ρ m P => ta ρ m fun x m1 => f x m1 P
def RC1 (K : PySem.W.Frag) (r : List V → Hp → VK → Prop) (f : F1) : Prop := ∀ x d H m P Q, HR K H m → Rep K H m x d → f d m P → EK K H m P Q → r [x] H Q
def RC2 (K : PySem.W.Frag) (r : List V → Hp → VK → Prop) (f : F2) : Prop := ∀ x y d e H m P Q, HR K H m → Rep K H m x d → Rep K H m y e → f d e m P → EK K H m P Q → r [x, y] H Q
theorem e_b1 {id : String} {r : List V → Hp → VK → Prop} {f : F1} (hc : CallR X (.builtin id) r) (hr : RC1 X.K r f) (hg : Gl X x) (hm : X.mg x = none) (hv : bootBuiltins x = some (.builtin id)) (ha : PE3 X a ta) (hn : x ≠ "__name__" := by decide) (hdb : (x == ("__debug__" : Str)) = false := by decide)
    (he : starEach [a] X.env = (false, eval a X.env) :: starEach [] X.env := by rfl) (hpl : (backTo pos (starEach [] X.env)).any (·.1) = false := by rfl) : PE3 X (.Call (.Name x p) [a] [] pos) (un3 f ta) := by
  obtain ⟨_, p, q⟩ := ha
  refine ⟨_, pe_callB hc hg hm hv (pa_cons p pa_nil he) hn hdb he hpl, fun σ H ρ m P Q o h k => ?_⟩
  refine q σ H ρ m _ _ o h fun x H1 d m1 p1 s1 h1 r1 => ?_
  exact hr x d H1 m1 P Q h1 r1 p1 (k.mv s1)
theorem e_b2 {id : String} {r : List V → Hp → VK → Prop} {f : F2} (hc : CallR X (.builtin id) r) (hr : RC2 X.K r f) (hg : Gl X x) (hm : X.mg x = none) (hv : bootBuiltins x = some (.builtin id)) (ha : PE3 X a ta) (hb : PE3 X b tb) (hn : x ≠ "__name__" := by decide) (hdb : (x == ("__debug__" : Str)) = false := by decide)
    (he : starEach [a, b] X.env = (false, eval a X.env) :: starEach [b] X.env := by rfl) (he2 : starEach [b] X.env = (false, eval b X.env) :: starEach [] X.env := by rfl) (hpl : (backTo pos (starEach [b] X.env)).any (·.1) = false := by rfl) : PE3 X (.Call (.Name x p) [a, b] [] pos) (op3 f ta tb) := by
  obtain ⟨_, p, q⟩ := ha
  obtain ⟨_, p', q'⟩ := hb
  refine ⟨_, pe_callB hc hg hm hv (pa_cons p (pa_cons p' pa_nil he2) he) hn hdb he hpl, fun σ H ρ m P Q o h k => ?_⟩
  refine q σ H ρ m _ _ o h fun x H1 d m1 p1 s1 h1 r1 => ?_
  refine q' σ H1 ρ m1 _ _ (o.mv s1 h1) p1 fun y H2 e m2 p2 s2 h2 r2 => ?_
  exact hr x y d e H2 m2 P Q h2 (r1.mv s2) r2 p2 (k.mv (s1.trans s2))
def fAbs : F1 := fun x m P => match x with
  | .int i => P (.int (if i < 0 then -i else i)) m
  | _ => False
theorem e_abs (hg : Gl X "abs") (hm : X.mg "abs" = none) (ha : PE3 X a ta) (he : starEach [a] X.env = (false, eval a X.env) :: starEach [] X.env := by rfl) (hpl : (backTo pos (starEach [] X.env)).any (·.1) = false := by rfl) : PE3 X (.Call (.Name "abs" p) [a] [] pos) (un3 fAbs ta) :=
  e_b1 (f := fAbs) call_abs (fun x d H m P Q h r f k => by
    unfold fAbs at f
    split at f
    · cases r
      exact ⟨_, rfl, k.now h f (.int _)⟩
    · exact f.elim) hg hm PyProof.Rows.boot_abs ha (by decide) (by decide) he hpl
def fMin : F2 := fI0 fun i j => .int (if j < i then j else i)
def fMax : F2 := fI0 fun i j => .int (if j > i then j else i)
theorem e_min2 (hg : Gl X "min") (hm : X.mg "min" = none) (ha : PE3 X a ta) (hb : PE3 X b tb) (hc : X.calm = true := by rfl) (he : starEach [a, b] X.env = (false, eval a X.env) :: starEach [b] X.env := by rfl) (he2 : starEach [b] X.env = (false, eval b X.env) :: starEach [] X.env := by rfl) (hpl : (backTo pos (starEach [b] X.env)).any (·.1) = false := by rfl) : PE3 X (.Call (.Name "min" p) [a, b] [] pos) (op3 fMin ta tb) :=
  e_b2 (f := fMin) (call_min2 hc) (fun x y d e H m P Q h r1 r2 f k => by
    unfold fMin fI0 at f
    split at f
    · cases r1
      cases r2
      exact ⟨_, _, rfl, k.now h f (.int _)⟩
    · exact f.elim) hg hm PyProof.Rows.boot_min ha hb (by decide) (by decide) he he2 hpl
theorem e_max2 (hg : Gl X "max") (hm : X.mg "max" = none) (ha : PE3 X a ta) (hb : PE3 X b tb) (hc : X.calm = true := by rfl) (he : starEach [a, b] X.env = (false, eval a X.env) :: starEach [b] X.env := by rfl) (he2 : starEach [b] X.env = (false, eval b X.env) :: starEach [] X.env := by rfl) (hpl : (backTo pos (starEach [b] X.env)).any (·.1) = false := by rfl) : PE3 X (.Call (.Name "max" p) [a, b] [] pos) (op3 fMax ta tb) :=
  e_b2 (f := fMax) (call_max2 hc) (fun x y d e H m P Q h r1 r2 f k => by
    unfold fMax fI0 at f
    split at f
    · cases r1
      cases r2
      exact ⟨_, _, rfl, k.now h f (.int _)⟩
    · exact f.elim) hg hm PyProof.Rows.boot_max ha hb (by decide) (by decide) he he2 hpl
def fLen : F1 := fun x m P => match x with
  | .lst ds => P (.int ds.length) m
  | .tup ds => P (.int ds.length) m
  | .ref a => match m a with
    | some (.lst ds) => P (.int ds.length) m
    | _ => False
  | _ => False
theorem e_len (hg : Gl X "len") (hm : X.mg "len" = none) (ha : PE3 X a ta) (he : starEach [a] X.env = (false, eval a X.env) :: starEach [] X.env := by rfl) (hpl : (backTo pos (starEach [] X.env)).any (·.1) = false := by rfl) : PE3 X (.Call (.Name "len" p) [a] [] pos) (un3 fLen ta) :=
  e_b1 (f := fLen) call_len_seq (fun x d H m P Q h r f k => by
    unfold fLen at f
    split at f
    · cases r with
      | lst t r => exact ⟨_, _, rfl, .inl t.sq, k.now h f (by rw [r.length]; exact .int _)⟩
    · cases r with
      | tup t r => exact ⟨_, _, rfl, .inr t.sq, k.now h f (by rw [r.length]; exact .int _)⟩
    · split at f
      · rename_i ds em
        obtain ⟨xs, ex, rx⟩ := h.lst em
        cases r
        exact ⟨_, _, rfl, .inl (SqL.of ex), k.now h f (by rw [rx.length]; exact .int _)⟩
      · exact f.elim
    · exact f.elim) hg hm PySem.boot_len ha (by decide) (by decide) he hpl

/-! ### isinstance -/
/-- the built-in class of data, by name -/
def dTy : D → Option String
  | .non => some "NoneType"
  | .bl _ => some "bool"
  | .int _ => some "int"
  | .str _ => some "str"
  | .tup _ => some "tuple"
  | .lst _ => some "list"
  | _ => none
theorem dTy_ty {K : PySem.W.Frag} {H : Hp} {m : Mem} {v : V} {d : D} {n : String} (r : Rep K H m v d) (h : dTy d = some n) : TyX K H v (.type n) := by
  cases r with
  | non => cases h; exact .base .non
  | bl b => cases h; exact .base (.bl b)
  | int i => cases h; exact .base (.int i)
  | str i => cases h; exact .base (.str i)
  | ref a => cases h
  | ty a => cases h
  | tup t _ =>
    cases h
    rcases t with ⟨t | ⟨o, t⟩, _⟩ | ⟨o, its, n, t, tc, _⟩
    · exact .base (.tup t)
    · exact .fTuple t
    · exact .kTuple t tc
  | lst t _ =>
    cases h
    rcases t with ⟨t | ⟨o, t⟩, _⟩ | ⟨o, its, n, t, tc, _⟩
    · exact .base (.lst t)
    · exact .base (.frz t)
    · exact .kList t tc
/-- isinstance of built-in classes: what it says -/
def isiD (d : D) (n : String) : Option Bool := match d, n with
  | .int _, "int" => some true
  | .bl _, "int" => some true
  | .bl _, "bool" => some true
  | .int _, "bool" => some false
  | .non, "int" => some false
  | .str _, "int" => some false
  | .tup _, "int" => some false
  | .lst _, "int" => some false
  | .non, "bool" => some false
  | .str _, "bool" => some false
  | .tup _, "bool" => some false
  | .lst _, "bool" => some false
  | .tup _, "tuple" => some true
  | .int _, "tuple" => some false
  | .bl _, "tuple" => some false
  | .non, "tuple" => some false
  | .str _, "tuple" => some false
  | .lst _, "tuple" => some false
  | .str _, "str" => some true
  | .int _, "str" => some false
  | .bl _, "str" => some false
  | .non, "str" => some false
  | .tup _, "str" => some false
  | .lst _, "str" => some false
  | .lst _, "list" => some true
  | .int _, "list" => some false
  | .bl _, "list" => some false
  | .non, "list" => some false
  | .tup _, "list" => some false
  | .str _, "list" => some false
  | _, _ => none
def fIsi : F2 := fun x y m P => match y with
  | .ty n => match isiD x n with
    | some b => P (.bl b) m
    | none => False
  | _ => False
theorem isiD_kit {d : D} {n : String} {b : Bool} (h : isiD d n = some b) : ∃ t, dTy d = some t ∧ kitB t n = some b := by
  unfold isiD at h
  split at h <;> first
    | (cases h; exact ⟨_, rfl, by decide +kernel⟩)
    | cases h
theorem e_isi (hg : Gl X "isinstance") (hm : X.mg "isinstance" = none) (ha : PE3 X a ta) (hb : PE3 X b tb) (he : starEach [a, b] X.env = (false, eval a X.env) :: starEach [b] X.env := by rfl) (he2 : starEach [b] X.env = (false, eval b X.env) :: starEach [] X.env := by rfl) (hpl : (backTo pos (starEach [b] X.env)).any (·.1) = false := by rfl) : PE3 X (.Call (.Name "isinstance" p) [a, b] [] pos) (op3 fIsi ta tb) :=
  e_b2 (f := fIsi) call_isi (fun x y d e H m P Q h r1 r2 f k => by
    unfold fIsi at f
    split at f
    · split at f
      · rename_i n b eb
        obtain ⟨t, e1, e2⟩ := isiD_kit eb
        cases r2
        exact ⟨_, _, _, _, b, rfl, .ty _, dTy_ty r1 e1, kit_ty e2, k.now h f (.bl _)⟩
      · exact f.elim
    · exact f.elim) hg hm PyProof.Rows.boot_isinstance ha hb (by decide) (by decide) he he2 hpl

theorem iop_mulX : OpR X (inplaceOp .Mult) (rI CMulX fun i j => .int (i * j)) := opI fun _ _ _ _ _ _ _ hc q => PyProof.Rows.imul_int q hc.ok

/-! ### a list unpacked -/
variable {tgs : List Expr} {gs : TGs3}
def gunl3 (gs : TGs3) : TG3 := fun d ρ m P => match d with
  | .lst ds => gs ds ρ m P
  | .ref a => match m a with
    | some (.lst ds) => gs ds ρ m P
    | _ => False
  | _ => False
theorem g_unl {k : Nat} {n : Nat} (hc : X.calm = true) (h : PGs3 X tgs gs) (hlen : ∀ ds ρ m P, gs ds ρ m P → ds.length = n)
    (hn : (assignEach tgs X.env).length = n := by rfl) (hst : (assignEach tgs X.env).findIdx? (·.1) = none := by rfl) : PG3 X (.Tuple tgs k pos) (gunl3 gs) := by
  obtain ⟨_, p, q⟩ := h
  refine ⟨_, pg_unl hc p hn hst, fun v d σ H ρ m P Q o r h k => ?_⟩
  unfold gunl3 at h
  split at h
  · cases r with
    | lst t r => exact ⟨_, _, rfl, t.sq, by rw [r.length]; exact hlen _ _ _ _ h, q _ _ σ H ρ m _ _ o r h k⟩
  · split at h
    · rename_i ds em
      cases r
      obtain ⟨xs, ex, rx⟩ := o.hr.lst em
      exact ⟨_, _, rfl, SqL.of ex, by rw [rx.length]; exact hlen _ _ _ _ h, q _ _ σ H ρ m _ _ o rx h k⟩
    · exact h.elim
  · exact h.elim
end

/-! ### a list that will not change any more -/
def frz3 (i : Nat) (ts : TS3) : TS3 := fun D ρ m => match ρ[i]? with
  | some (some (.ref a)) => match m a with
    | some (.lst ds) => ts D (ρ.set i (some (.lst ds))) (del m a)
    | _ => False
  | _ => False
theorem ss_frz {X : Cx} {i : Nat} {sts : List Stmt} {ts : TS3} (h : PSs3 X sts ts) : PSs3 X sts (frz3 i ts) := by
  obtain ⟨_, p, q⟩ := h
  refine ⟨_, p, fun σ H ρ m D3 E o h l => ?_⟩
  unfold frz3 at h
  split at h
  · rename_i a ea
    split at h
    · rename_i ds em
      obtain ⟨xs, ex, rx⟩ := o.hr.lst em
      obtain ⟨v, ev, rv⟩ := o.env.2 i _ ea
      cases rv
      have da : del m a a = none := by unfold del; rw [if_pos rfl]
      have rl : Rep X.K H (del m a) (.ref a) (.lst ds) := .lst (.inl ⟨.inl ex, da⟩) (rx.mv step_del)
      have o2 := (o.mv step_del (hr_del o.hr)).set i rl
      have es : σ.set i (some (V.ref a)) = σ := by
        obtain ⟨hl, e⟩ := List.getElem?_eq_some_iff.mp ev
        rw [← e, List.set_getElem_self]
      rw [es] at o2
      exact q σ H _ _ D3 E o2 h (l.mv step_del)
    · exact h.elim
  · exact h.elim

/-! ### the law -/
def spLaw (K : PySem.W.Frag) : Sp := fun vs H Q _ => ∃ (a : Addr) (ns : List Int), vs = [.ref a] ∧ SqL K H a (ns.map V.int) ∧ ns.length ≤ 63 ∧ ∀ H', Q (.bl true) H'
def sp3Law : Sp3 := fun ds m P => ∃ ns : List Int, ds = [.lst (ns.map D.int)] ∧ ns.length ≤ 63 ∧ ∀ m', P (.bl true) m'
theorem law_end {P : Program} {w : World} {K : PySem.W.Frag} {mg : Str → Option Value} {base : Heap} {k : Nat} {f : Addr} {fd : FuncData} (F : Fn3 P w K mg base k f fd ["script"] sp3Law) : FnOk P w K mg base CX0 k f fd ["script"] (spLaw K) := by
  refine F.imp fun vs H Q E h => ?_
  obtain ⟨a, ns, rfl, hS, hl, q⟩ := h
  refine ⟨[.lst (ns.map D.int)], fun _ => none, fun d _ => d = .bl true, fun a u e => (nomatch e), .cons (.lst (xs := ns.map V.int) ?_ (Reps.ints ns)) .nil, ⟨ns, rfl, hl, fun _ => rfl⟩, fun v H' d m' p _ _ r => ?_⟩
  · rcases hS with h | h
    · exact .inl ⟨h, rfl⟩
    · exact .inr h
  · subst p
    cases r
    exact q H'

/-! ### tests -/
theorem iteD {p A B : Prop} [Decidable p] (h1 : p → A) (h2 : ¬ p → B) : if decide p = true then A else B := by
  by_cases h : p
  · rw [decide_eq_true h]; exact h1 h
  · rw [decide_eq_false h]; exact h2 h
theorem iteDn {p A B : Prop} [Decidable p] (h1 : ¬ p → A) (h2 : p → B) : if (!decide p) = true then A else B := by
  by_cases h : p
  · rw [decide_eq_true h]; exact h2 h
  · rw [decide_eq_false h]; exact h1 h
theorem iteB {b : Bool} {A B : Prop} (h1 : b = true → A) (h2 : b = false → B) : if b = true then A else B := by
  cases b
  · exact h2 rfl
  · exact h1 rfl
theorem at_0 {x : D} {xs : List D} : L2.atI (x :: xs) 0 = some x := by
  unfold L2.atI ixN
  rw [if_pos (by decide), if_pos (by rw [List.length_cons]; omega)]
  rfl
theorem at_s {x : D} {xs : List D} {i : Int} (h : 0 ≤ i) : L2.atI (x :: xs) (i + 1) = L2.atI xs i := by
  unfold L2.atI ixN
  rw [if_pos (by omega), if_pos h, List.length_cons]
  by_cases c : i < (xs.length : Int)
  · rw [if_pos (by omega), if_pos c, show (i + 1).toNat = i.toNat + 1 by omega]
    rfl
  · rw [if_neg (by omega), if_neg c]
    rfl
theorem at_1 {x y : D} {xs : List D} : L2.atI (x :: y :: xs) 1 = some y := (at_s (i := 0) (by decide)).trans at_0
theorem at_2 {x y z : D} {xs : List D} : L2.atI (x :: y :: z :: xs) 2 = some z := (at_s (i := 1) (by decide)).trans at_1
theorem at_3 {x y z u : D} {xs : List D} : L2.atI (x :: y :: z :: u :: xs) 3 = some u := (at_s (i := 2) (by decide)).trans at_2
theorem at_4 {x y z u v : D} {xs : List D} : L2.atI (x :: y :: z :: u :: v :: xs) 4 = some v := (at_s (i := 3) (by decide)).trans at_3
theorem at_5 {x y z u v w : D} {xs : List D} : L2.atI (x :: y :: z :: u :: v :: w :: xs) 5 = some w := (at_s (i := 4) (by decide)).trans at_4
theorem at_6 {x y z u v w s : D} {xs : List D} : L2.atI (x :: y :: z :: u :: v :: w :: s :: xs) 6 = some s := (at_s (i := 5) (by decide)).trans at_5
theorem ix_0 {n : Nat} : ixN (n + 1) 0 = some 0 := by
  unfold ixN
  rw [if_pos (by decide), if_pos (by omega)]
  rfl
theorem ix_1 {n : Nat} : ixN (n + 1 + 1) 1 = some 1 := by
  unfold ixN
  rw [if_pos (by decide), if_pos (by omega)]
  rfl
theorem ix_2 {n : Nat} : ixN (n + 1 + 1 + 1) 2 = some 2 := by
  unfold ixN
  rw [if_pos (by decide), if_pos (by omega)]
  rfl
theorem fIx_tup {ds : List D} {i : Int} {m : Mem} {P : DK} : fIx (.tup ds) (.int i) m P = at3 ds i m P := rfl
theorem fIx_lst {ds : List D} {i : Int} {m : Mem} {P : DK} : fIx (.lst ds) (.int i) m P = at3 ds i m P := rfl
theorem fIx_ref {ds : List D} {a : Addr} {i : Int} {m : Mem} {P : DK} (h : m a = some (.lst ds)) : fIx (.ref a) (.int i) m P = at3 ds i m P := by
  unfold fIx
  simp only [h]
theorem fLen_tup {ds : List D} {m : Mem} {P : DK} : fLen (.tup ds) m P = P (.int ds.length) m := rfl
theorem fLen_lst {ds : List D} {m : Mem} {P : DK} : fLen (.lst ds) m P = P (.int ds.length) m := rfl
theorem fLen_ref {ds : List D} {a : Addr} {m : Mem} {P : DK} (h : m a = some (.lst ds)) : fLen (.ref a) m P = P (.int ds.length) m := by
  unfold fLen
  simp only [h]
theorem fI0_i {g : Int → Int → D} {i j : Int} {m : Mem} {P : DK} : fI0 g (.int i) (.int j) m P = P (g i j) m := rfl
theorem fI_i {C : Int → Int → Prop} {g : Int → Int → D} {i j : Int} {m : Mem} {P : DK} : fI C g (.int i) (.int j) m P = (C i j ∧ P (g i j) m) := rfl
theorem at3_0 {x : D} {xs : List D} {m : Mem} {P : DK} : at3 (x :: xs) 0 m P = P x m := by unfold at3; rw [at_0]
theorem at3_1 {x y : D} {xs : List D} {m : Mem} {P : DK} : at3 (x :: y :: xs) 1 m P = P y m := by unfold at3; rw [at_1]
theorem at3_2 {x y z : D} {xs : List D} {m : Mem} {P : DK} : at3 (x :: y :: z :: xs) 2 m P = P z m := by unfold at3; rw [at_2]
theorem at3_3 {x y z u : D} {xs : List D} {m : Mem} {P : DK} : at3 (x :: y :: z :: u :: xs) 3 m P = P u m := by unfold at3; rw [at_3]
theorem at3_4 {x y z u v : D} {xs : List D} {m : Mem} {P : DK} : at3 (x :: y :: z :: u :: v :: xs) 4 m P = P v m := by unfold at3; rw [at_4]
theorem at3_5 {x y z u v w : D} {xs : List D} {m : Mem} {P : DK} : at3 (x :: y :: z :: u :: v :: w :: xs) 5 m P = P w m := by unfold at3; rw [at_5]
theorem at3_6 {x y z u v w s : D} {xs : List D} {m : Mem} {P : DK} : at3 (x :: y :: z :: u :: v :: w :: s :: xs) 6 m P = P s m := by unfold at3; rw [at_6]
/-- an item at a place that is drawn -/
theorem at3_all {m : Mem} {P : DK} : ∀ {ds : List D} {i : Int}, 0 ≤ i → i < ds.length → (∀ d ∈ ds, P d m) → at3 ds i m P
  | [], i, h0, h1, _ => by exfalso; rw [List.length_nil] at h1; omega
  | d :: ds, i, h0, h1, h => by
    rw [List.length_cons] at h1
    by_cases e : i = 0
    · subst e
      rw [at3_0]
      exact h d List.mem_cons_self
    · have e2 : at3 (d :: ds) i m P = at3 ds (i - 1) m P := by
        unfold at3
        rw [show L2.atI (d :: ds) i = L2.atI ds (i - 1) from by
          conv => lhs; rw [show i = (i - 1) + 1 by omega]
          exact at_s (by omega)]
      rw [e2]
      exact at3_all (by omega) (by omega) fun x hx => h x (List.mem_cons_of_mem _ hx)
/-! ### == by kinds -/
theorem fEq_int {x y : Int} {m : Mem} {P : DK} : fEq (.int x) (.int y) m P = P (.bl (decide (x = y))) m := by
  have e : (x == y) = decide (x = y) := by rw [Bool.beq_eq_decide_eq]
  show (true = true ∧ P (.bl (x == y)) m) = _
  rw [e, eq_self, true_and]
theorem fNe_int {x y : Int} {m : Mem} {P : DK} : fNe (.int x) (.int y) m P = P (.bl (!decide (x = y))) m := by
  have e : (x == y) = decide (x = y) := by rw [Bool.beq_eq_decide_eq]
  show (true = true ∧ P (.bl (!(x == y))) m) = _
  rw [e, eq_self, true_and]
theorem fEq_bl {x y : Bool} {m : Mem} {P : DK} : fEq (.bl x) (.bl y) m P = P (.bl (x == y)) m := by
  show (true = true ∧ P (.bl (x == y)) m) = _
  rw [eq_self, true_and]
theorem fNe_bl {x y : Bool} {m : Mem} {P : DK} : fNe (.bl x) (.bl y) m P = P (.bl (!(x == y))) m := by
  show (true = true ∧ P (.bl (!(x == y))) m) = _
  rw [eq_self, true_and]
theorem fEq_pair {x y z w : Int} {m : Mem} {P : DK} : fEq (.tup [.int x, .int y]) (.tup [.int z, .int w]) m P = P (.bl (decide (x = z) && decide (y = w))) m := by
  have e1 : (x == z) = decide (x = z) := by rw [Bool.beq_eq_decide_eq]
  have e2 : (y == w) = decide (y = w) := by rw [Bool.beq_eq_decide_eq]
  show (true = true ∧ P (.bl ((x == z) && ((y == w) && true))) m) = _
  rw [e1, e2, Bool.and_true, eq_self, true_and]
theorem fNe_pair {x y z w : Int} {m : Mem} {P : DK} : fNe (.tup [.int x, .int y]) (.tup [.int z, .int w]) m P = P (.bl (!(decide (x = z) && decide (y = w)))) m := by
  have e1 : (x == z) = decide (x = z) := by rw [Bool.beq_eq_decide_eq]
  have e2 : (y == w) = decide (y = w) := by rw [Bool.beq_eq_decide_eq]
  show (true = true ∧ P (.bl (!((x == z) && ((y == w) && true)))) m) = _
  rw [e1, e2, Bool.and_true, eq_self, true_and]
/-! ### for, by what holds -/
theorem forIn3_ind {g : TG3} {tb : TS3} {D3 : Ends3} (I : List D → Env3 → Mem → Prop)
    (hs : ∀ d ds ρ m (nx : Env3 → Mem → Prop), (∀ ρ m, I ds ρ m → nx ρ m) → I (d :: ds) ρ m → g d ρ m fun ρ1 m1 => tb { D3 with nx := nx, ct := nx, bk := D3.nx } ρ1 m1)
    (hd : ∀ ρ m, I [] ρ m → D3.nx ρ m) : ∀ (ds : List D) (ρ : Env3) (m : Mem), I ds ρ m → forIn3 g tb D3 ds ρ m
  | [], ρ, m, h => hd ρ m h
  | d :: ds, ρ, m, h => hs d ds ρ m _ (fun ρ m h => forIn3_ind I hs hd ds ρ m h) h
theorem cutD_mem {ds : List D} {lo hi : Option Int} {d : D} (h : d ∈ cutD ds lo hi) : d ∈ ds := List.mem_of_mem_drop (List.mem_of_mem_take h)
theorem cutD_len (ds : List D) (lo hi : Option Int) : (cutD ds lo hi).length ≤ ds.length := by
  unfold cutD
  rw [List.length_take, List.length_drop]
  omega
theorem dIsN_non : dIsN .non = true := rfl
theorem dIsN_int {i : Int} : dIsN (.int i) = false := rfl
theorem dIsN_bl {i : Bool} : dIsN (.bl i) = false := rfl
theorem dIsN_str {i : Str} : dIsN (.str i) = false := rfl
theorem dIsN_tup {i : List D} : dIsN (.tup i) = false := rfl
theorem dIsN_lst {i : List D} : dIsN (.lst i) = false := rfl
/-- what comes later: not looked at yet -/
def Later (t : TS3) : TS3 := t
theorem seq3_stop {t u : TS3} {D : Ends3} {ρ : Env3} {m : Mem} : seq3 t u D ρ m = t { D with nx := Later u D } ρ m := rfl
theorem later_i {t : TS3} {D : Ends3} {ρ : Env3} {m : Mem} (h : t D ρ m) : Later t D ρ m := h
/-- a goal that is looked at -/
def LaterP (A : Prop) : Prop := A
theorem laterP_in {A : Prop} (h : LaterP A) : A := h
theorem laterP_i {A : Prop} (h : A) : LaterP A := h
theorem later_eq {t : TS3} {D : Ends3} {ρ : Env3} {m : Mem} : Later t D ρ m = t D ρ m := rfl
/-! ### ways that meet again -/
theorem andV3_j {ta tb : TE3} {ρ : Env3} {m : Mem} {P : DK} {b1 b2 : Bool} (h1 : ∀ P : DK, P (.bl b1) m → ta ρ m P) (h2 : b1 = true → ∀ P : DK, P (.bl b2) m → tb ρ m P) (k : P (.bl (b1 && b2)) m) : andV3 ta tb ρ m P := by
  refine h1 _ ?_
  cases b1 with
  | true => exact h2 rfl P k
  | false => exact k
theorem orV3_j {ta tb : TE3} {ρ : Env3} {m : Mem} {P : DK} {b1 b2 : Bool} (h1 : ∀ P : DK, P (.bl b1) m → ta ρ m P) (h2 : b1 = false → ∀ P : DK, P (.bl b2) m → tb ρ m P) (k : P (.bl (b1 || b2)) m) : orV3 ta tb ρ m P := by
  refine h1 _ ?_
  cases b1 with
  | true => exact k
  | false => exact h2 rfl P k
theorem and3_j {t u : TT3} {ρ : Env3} {m : Mem} {P : Bool → Mem → Prop} {b1 b2 : Bool} (h1 : ∀ P : Bool → Mem → Prop, P b1 m → t ρ m P) (h2 : b1 = true → ∀ P : Bool → Mem → Prop, P b2 m → u ρ m P) (k : P (b1 && b2) m) : and3 t u ρ m P := by
  refine h1 _ ?_
  cases b1 with
  | true => exact h2 rfl P k
  | false => exact k
theorem or3_j {t u : TT3} {ρ : Env3} {m : Mem} {P : Bool → Mem → Prop} {b1 b2 : Bool} (h1 : ∀ P : Bool → Mem → Prop, P b1 m → t ρ m P) (h2 : b1 = false → ∀ P : Bool → Mem → Prop, P b2 m → u ρ m P) (k : P (b1 || b2) m) : or3 t u ρ m P := by
  refine h1 _ ?_
  cases b1 with
  | true => exact k
  | false => exact h2 rfl P k
theorem nc0 : ((0 : Nat) : Int) = 0 := rfl
theorem nc1 : ((1 : Nat) : Int) = 1 := rfl
theorem nc2 : ((2 : Nat) : Int) = 2 := rfl
theorem nc3 : ((3 : Nat) : Int) = 3 := rfl
theorem nc4 : ((4 : Nat) : Int) = 4 := rfl
theorem nc5 : ((5 : Nat) : Int) = 5 := rfl
theorem sh {n : Nat} (h : Nat.ble n 16000 = true := by rfl) : n ≤ 16000 := Nat.le_of_ble_eq_true h
/-! isinstance, kind by kind -/
theorem fIsi_int_int {i : Int} {m : Mem} {P : DK} : fIsi (.int i) (.ty "int") m P = P (.bl true) m := rfl
theorem fIsi_int_bool {i : Int} {m : Mem} {P : DK} : fIsi (.int i) (.ty "bool") m P = P (.bl false) m := rfl
theorem fIsi_int_tuple {i : Int} {m : Mem} {P : DK} : fIsi (.int i) (.ty "tuple") m P = P (.bl false) m := rfl
theorem fIsi_int_str {i : Int} {m : Mem} {P : DK} : fIsi (.int i) (.ty "str") m P = P (.bl false) m := rfl
theorem fIsi_int_list {i : Int} {m : Mem} {P : DK} : fIsi (.int i) (.ty "list") m P = P (.bl false) m := rfl
theorem fIsi_bl_int {i : Bool} {m : Mem} {P : DK} : fIsi (.bl i) (.ty "int") m P = P (.bl true) m := rfl
theorem fIsi_bl_bool {i : Bool} {m : Mem} {P : DK} : fIsi (.bl i) (.ty "bool") m P = P (.bl true) m := rfl
theorem fIsi_bl_tuple {i : Bool} {m : Mem} {P : DK} : fIsi (.bl i) (.ty "tuple") m P = P (.bl false) m := rfl
theorem fIsi_bl_str {i : Bool} {m : Mem} {P : DK} : fIsi (.bl i) (.ty "str") m P = P (.bl false) m := rfl
theorem fIsi_bl_list {i : Bool} {m : Mem} {P : DK} : fIsi (.bl i) (.ty "list") m P = P (.bl false) m := rfl
theorem fIsi_non_int  {m : Mem} {P : DK} : fIsi D.non (.ty "int") m P = P (.bl false) m := rfl
theorem fIsi_non_bool  {m : Mem} {P : DK} : fIsi D.non (.ty "bool") m P = P (.bl false) m := rfl
theorem fIsi_non_tuple  {m : Mem} {P : DK} : fIsi D.non (.ty "tuple") m P = P (.bl false) m := rfl
theorem fIsi_non_str  {m : Mem} {P : DK} : fIsi D.non (.ty "str") m P = P (.bl false) m := rfl
theorem fIsi_non_list  {m : Mem} {P : DK} : fIsi D.non (.ty "list") m P = P (.bl false) m := rfl
theorem fIsi_str_int {i : Str} {m : Mem} {P : DK} : fIsi (.str i) (.ty "int") m P = P (.bl false) m := rfl
theorem fIsi_str_bool {i : Str} {m : Mem} {P : DK} : fIsi (.str i) (.ty "bool") m P = P (.bl false) m := rfl
theorem fIsi_str_tuple {i : Str} {m : Mem} {P : DK} : fIsi (.str i) (.ty "tuple") m P = P (.bl false) m := rfl
theorem fIsi_str_str {i : Str} {m : Mem} {P : DK} : fIsi (.str i) (.ty "str") m P = P (.bl true) m := rfl
theorem fIsi_str_list {i : Str} {m : Mem} {P : DK} : fIsi (.str i) (.ty "list") m P = P (.bl false) m := rfl
theorem fIsi_tup_int {i : List D} {m : Mem} {P : DK} : fIsi (.tup i) (.ty "int") m P = P (.bl false) m := rfl
theorem fIsi_tup_bool {i : List D} {m : Mem} {P : DK} : fIsi (.tup i) (.ty "bool") m P = P (.bl false) m := rfl
theorem fIsi_tup_tuple {i : List D} {m : Mem} {P : DK} : fIsi (.tup i) (.ty "tuple") m P = P (.bl true) m := rfl
theorem fIsi_tup_str {i : List D} {m : Mem} {P : DK} : fIsi (.tup i) (.ty "str") m P = P (.bl false) m := rfl
theorem fIsi_tup_list {i : List D} {m : Mem} {P : DK} : fIsi (.tup i) (.ty "list") m P = P (.bl false) m := rfl
theorem fIsi_lst_int {i : List D} {m : Mem} {P : DK} : fIsi (.lst i) (.ty "int") m P = P (.bl false) m := rfl
theorem fIsi_lst_bool {i : List D} {m : Mem} {P : DK} : fIsi (.lst i) (.ty "bool") m P = P (.bl false) m := rfl
theorem fIsi_lst_tuple {i : List D} {m : Mem} {P : DK} : fIsi (.lst i) (.ty "tuple") m P = P (.bl false) m := rfl
theorem fIsi_lst_str {i : List D} {m : Mem} {P : DK} : fIsi (.lst i) (.ty "str") m P = P (.bl false) m := rfl
theorem fIsi_lst_list {i : List D} {m : Mem} {P : DK} : fIsi (.lst i) (.ty "list") m P = P (.bl true) m := rfl
theorem iteTrue {A B : Prop} (h : A) : if true = true then A else B := h
theorem iteFalse {A B : Prop} (h : B) : if false = true then A else B := h
end D3

set_option Elab.async false
set_option linter.all false
set_option maxRecDepth 100000
set_option maxHeartbeats 4000000
/-! Gd: str of nested data (the guards of the showing are known to be none), list comprehensions, tuple(..), int(truth). -/
namespace D3
open PySem L2

/-! ### sizes of data -/
mutual
def Pl (b : Nat) : D → Prop
  | .non => True
  | .bl _ => True
  | .int i => i.natAbs < 2 ^ b
  | .str x => x.length ≤ b ∧ ∀ c ∈ x.cps.toList, c < 0x110000
  | .tup ds => Pls b ds
  | .lst ds => Pls b ds
  | .ref _ => False
  | .ty _ => False
def Pls (b : Nat) : List D → Prop
  | [] => True
  | d :: ds => Pl b d ∧ Pls b ds
end
mutual
theorem Pl.le {b c : Nat} (h : b ≤ c) : ∀ d : D, Pl b d → Pl c d
  | .non, _ => trivial
  | .bl _, _ => trivial
  | .int i, z => Nat.lt_of_lt_of_le (show i.natAbs < 2 ^ b from z) (Nat.pow_le_pow_right (by decide) h)
  | .str x, z => ⟨Nat.le_trans z.1 h, z.2⟩
  | .tup ds, z => Pls.le h ds z
  | .lst ds, z => Pls.le h ds z
  | .ref _, z => (z : False).elim
  | .ty _, z => (z : False).elim
theorem Pls.le {b c : Nat} (h : b ≤ c) : ∀ ds : List D, Pls b ds → Pls c ds
  | [], _ => trivial
  | d :: ds, z => ⟨Pl.le h d z.1, Pls.le h ds z.2⟩
end
theorem Pls.app {b : Nat} : ∀ {xs ys : List D}, Pls b xs → Pls b ys → Pls b (xs ++ ys)
  | [], _, _, h => h
  | _ :: _, _, h, h' => ⟨h.1, Pls.app h.2 h'⟩
mutual
def sz : D → Nat
  | .tup ds => szs ds + 1
  | .lst ds => szs ds + 1
  | _ => 1
def szs : List D → Nat
  | [] => 0
  | d :: ds => sz d + szs ds
end
mutual
def dp : D → Nat
  | .tup ds => dps ds + 1
  | .lst ds => dps ds + 1
  | _ => 0
def dps : List D → Nat
  | [] => 0
  | d :: ds => max (dp d) (dps ds)
end
mutual
def pyOf : D → PyData
  | .non => .none
  | .bl b => .bool b
  | .int i => .int i
  | .str x => .str x
  | .tup ds => .tuple (pysOf ds)
  | .lst ds => .list (pysOf ds)
  | .ref _ => .none
  | .ty _ => .none
def pysOf : List D → List PyData
  | [] => []
  | d :: ds => pyOf d :: pysOf ds
end
theorem log2_lt {n k : Nat} (hk : 0 < k) (h : n < 2 ^ k) : n.log2 < k := by
  by_cases h0 : n = 0
  · subst h0; rw [Nat.log2_zero]; exact hk
  · exact (Nat.log2_lt h0).mpr h
mutual
theorem py_facts {n : Nat} (h18 : 18 ≤ n) (h19 : n ≤ 1900) : ∀ d : D, Pl n d → toPy d = some (pyOf d) ∧ (pyOf d).showable = true ∧ (pyOf d).hasDict = false ∧ (pyOf d).leavesShort (n / 3 + 2) = true ∧ (pyOf d).weight + 1 ≤ (n + 1) * sz d ∧ (pyOf d).depth ≤ dp d
  | .non, _ => ⟨by rw [toPy, pyOf], rfl, rfl, rfl, by simp [pyOf, PyData.weight, sz], Nat.le_refl _⟩
  | .bl b, _ => ⟨by rw [toPy, pyOf], rfl, rfl, rfl, by simp [pyOf, PyData.weight, sz], Nat.le_refl _⟩
  | .int i, h => by
    have h : i.natAbs < 2 ^ n := h
    have h10 : i.natAbs < 10 ^ (n / 3 + 1) := by
      have e1 : 2 ^ n ≤ 2 ^ (3 * (n / 3 + 1)) := Nat.pow_le_pow_right (by decide) (by omega)
      have e2 : 2 ^ (3 * (n / 3 + 1)) = 8 ^ (n / 3 + 1) := by rw [Nat.pow_mul]
      have e3 : 8 ^ (n / 3 + 1) ≤ 10 ^ (n / 3 + 1) := Nat.pow_le_pow_left (by decide) _
      omega
    have hl : i.natAbs.log2 < n := log2_lt (by omega) h
    refine ⟨by rw [toPy, pyOf], ?_, rfl, ?_, ?_, Nat.le_refl _⟩
    · simp only [pyOf, PyData.showable, decide_eq_true_eq]; omega
    · simp only [pyOf, PyData.leavesShort, decide_eq_true_eq]
      have e := int_text_length_le10 (k := n / 3 + 1) (by omega) h10
      show (Str.ofString (toString i)).length ≤ n / 3 + 2
      rw [ofString_length]; exact e
    · simp only [pyOf, PyData.weight, sz, Nat.mul_one]
      split <;> omega
  | .str x, h => by
    have h : x.length ≤ n ∧ ∀ c ∈ x.cps.toList, c < 0x110000 := h
    have h1 : x.cps.size ≤ n := h.1
    refine ⟨by rw [toPy, pyOf], rfl, rfl, ?_, ?_, Nat.le_refl _⟩
    · simp only [pyOf, PyData.leavesShort, List.all_eq_true, decide_eq_true_eq]
      exact fun c hc => Nat.lt_trans (h.2 c hc) (by decide)
    · simp only [pyOf, PyData.weight, sz, Nat.mul_one]; omega
  | .tup ds, h => by
    obtain ⟨a, b, c, e, f, g⟩ := pys_facts h18 h19 ds h
    refine ⟨by rw [toPy, a, pyOf]; rfl, ?_, ?_, ?_, ?_, ?_⟩
    · simpa only [pyOf, PyData.showable] using b
    · simpa only [pyOf, PyData.hasDict] using c
    · simpa only [pyOf, PyData.leavesShort] using e
    · simp only [pyOf, PyData.weight, sz, Nat.mul_add, Nat.mul_one]; omega
    · simp only [pyOf, PyData.depth, dp]; omega
  | .lst ds, h => by
    obtain ⟨a, b, c, e, f, g⟩ := pys_facts h18 h19 ds h
    refine ⟨by rw [toPy, a, pyOf]; rfl, ?_, ?_, ?_, ?_, ?_⟩
    · simpa only [pyOf, PyData.showable] using b
    · simpa only [pyOf, PyData.hasDict] using c
    · simpa only [pyOf, PyData.leavesShort] using e
    · simp only [pyOf, PyData.weight, sz, Nat.mul_add, Nat.mul_one]; omega
    · simp only [pyOf, PyData.depth, dp]; omega
  | .ref _, h => (h : False).elim
  | .ty _, h => (h : False).elim
theorem pys_facts {n : Nat} (h18 : 18 ≤ n) (h19 : n ≤ 1900) : ∀ ds : List D, Pls n ds → toPys ds = some (pysOf ds) ∧ PyData.showableAll (pysOf ds) = true ∧ PyData.hasDictAll (pysOf ds) = false ∧ PyData.leavesShortAll (n / 3 + 2) (pysOf ds) = true ∧ PyData.weightAll (pysOf ds) ≤ (n + 1) * szs ds ∧ PyData.depthAll (pysOf ds) ≤ dps ds
  | [], _ => ⟨by rw [toPys, pysOf], rfl, rfl, rfl, Nat.zero_le _, Nat.le_refl _⟩
  | d :: ds, h => by
    obtain ⟨a, b, c, e, f, g⟩ := py_facts h18 h19 d h.1
    obtain ⟨a', b', c', e', f', g'⟩ := pys_facts h18 h19 ds h.2
    refine ⟨by rw [toPys, a, a', pysOf], ?_, ?_, ?_, ?_, ?_⟩
    · simp only [pysOf, PyData.showableAll, b, b', Bool.and_self]
    · simp only [pysOf, PyData.hasDictAll, c, c', Bool.or_self]
    · simp only [pysOf, PyData.leavesShortAll, e, e', Bool.and_self]
    · simp only [pysOf, PyData.weightAll, szs, Nat.mul_add]; omega
    · simp only [pysOf, PyData.depthAll, dps]; omega
end
/-- what str tells -/
def strD : D → Str
  | .str x => x
  | d => (pyOf d).shown
/-- b bounds the leaves, k the number of parts -/
def Shw (d : D) : Prop := ∃ b k : Nat, 18 ≤ b ∧ b ≤ 1900 ∧ Pl b d ∧ sz d ≤ k ∧ (b / 3 + 4) * ((b + 1) * k) + (b / 3 + 2) ≤ 16777216 ∧ dp d ≤ 50
def fStr : F1 := fun d m P => Shw d ∧ P (.str (strD d)) m
theorem ofString_c (s : String) : ∀ c ∈ (Str.ofString s).cps.toList, c < 0x110000 := by
  intro c hc
  rw [Str.ofString_eq_toList] at hc
  simp only [List.mem_map] at hc
  obtain ⟨x, _, rfl⟩ := hc
  show x.val.toNat < 0x110000
  rcases x.valid with h | h
  · exact Nat.lt_trans h (by decide)
  · exact h.2
/-- the text of a whole number -/
theorem pl_digits {i : Int} (h : i.natAbs < 10 ^ 20) {b : Nat} (hb : 21 ≤ b) : Pl b (.str (toString i)) := by
  refine ⟨?_, ofString_c _⟩
  rw [ofString_length]
  exact Nat.le_trans (int_text_length_le10 (k := 20) (by decide) h) hb
mutual
theorem can_of {n : Nat} : ∀ d : D, Pl n d → (pyOf d).canLay0 = true
  | .non, _ => rfl
  | .bl _, _ => rfl
  | .int _, _ => rfl
  | .str x, h => by
    have h : x.length ≤ n ∧ ∀ c ∈ x.cps.toList, c < 0x110000 := h
    show x.cps.all (· < 0x110000) = true
    rw [← Array.all_toList, List.all_eq_true]
    exact fun c hc => decide_eq_true (h.2 c hc)
  | .tup ds, h => by simpa only [pyOf, PyData.canLay0] using cans_of ds h
  | .lst ds, h => by simpa only [pyOf, PyData.canLay0] using cans_of ds h
  | .ref _, h => (h : False).elim
  | .ty _, h => (h : False).elim
theorem cans_of {n : Nat} : ∀ ds : List D, Pls n ds → PyData.canLayAll0 (pysOf ds) = true
  | [], _ => rfl
  | d :: ds, h => by simp only [pysOf, PyData.canLayAll0, can_of d h.1, cans_of ds h.2, Bool.and_self]
end
mutual
theorem toPy_of {n : Nat} : ∀ d : D, Pl n d → toPy d = some (pyOf d) ∧ (pyOf d).depth ≤ dp d
  | .non, _ => ⟨by rw [toPy, pyOf], Nat.le_refl _⟩
  | .bl _, _ => ⟨by rw [toPy, pyOf], Nat.le_refl _⟩
  | .int _, _ => ⟨by rw [toPy, pyOf], Nat.le_refl _⟩
  | .str _, _ => ⟨by rw [toPy, pyOf], Nat.le_refl _⟩
  | .tup ds, h => ⟨by rw [toPy, (toPys_of ds h).1, pyOf]; rfl, by have := (toPys_of ds h).2; simp only [pyOf, PyData.depth, dp]; omega⟩
  | .lst ds, h => ⟨by rw [toPy, (toPys_of ds h).1, pyOf]; rfl, by have := (toPys_of ds h).2; simp only [pyOf, PyData.depth, dp]; omega⟩
  | .ref _, h => (h : False).elim
  | .ty _, h => (h : False).elim
theorem toPys_of {n : Nat} : ∀ ds : List D, Pls n ds → toPys ds = some (pysOf ds) ∧ PyData.depthAll (pysOf ds) ≤ dps ds
  | [], _ => ⟨by rw [toPys, pysOf], Nat.le_refl _⟩
  | d :: ds, h => by
    obtain ⟨a, b⟩ := toPy_of d h.1
    obtain ⟨c, e⟩ := toPys_of ds h.2
    exact ⟨by rw [toPys, a, c, pysOf], by simp only [pysOf, PyData.depthAll, dps]; omega⟩
end
/-- == of any two data of small depth -/
theorem fEq_pl {d e : D} {n k : Nat} {m : Mem} {P : DK} (hd : Pl n d) (he : Pl k e) (h1 : dp d ≤ 64) (h2 : dp e ≤ 64) : fEq d e m P = P (.bl (PyData.eqv (pyOf d) (pyOf e))) m := by
  obtain ⟨a, b⟩ := toPy_of d hd
  obtain ⟨c, f⟩ := toPy_of e he
  unfold fEq deqOk deq
  rw [a, c]
  have s1 : SeqAt.shaped (pyOf d) = true := by unfold SeqAt.shaped; rw [can_of d hd, Bool.true_and]; exact decide_eq_true (by omega)
  have s2 : SeqAt.shaped (pyOf e) = true := by unfold SeqAt.shaped; rw [can_of e he, Bool.true_and]; exact decide_eq_true (by omega)
  simp only [s1, s2, Bool.and_self, true_and]
theorem fNe_pl {d e : D} {n k : Nat} {m : Mem} {P : DK} (hd : Pl n d) (he : Pl k e) (h1 : dp d ≤ 64) (h2 : dp e ≤ 64) : fNe d e m P = P (.bl (!PyData.eqv (pyOf d) (pyOf e))) m := by
  obtain ⟨a, b⟩ := toPy_of d hd
  obtain ⟨c, f⟩ := toPy_of e he
  unfold fNe deqOk deq
  rw [a, c]
  have s1 : SeqAt.shaped (pyOf d) = true := by unfold SeqAt.shaped; rw [can_of d hd, Bool.true_and]; exact decide_eq_true (by omega)
  have s2 : SeqAt.shaped (pyOf e) = true := by unfold SeqAt.shaped; rw [can_of e he, Bool.true_and]; exact decide_eq_true (by omega)
  simp only [s1, s2, Bool.and_self, true_and]
/-- scalars by == and != -/
def fEqS : F2 := fun x y m P => match x, y with
  | .str a, .str b => P (.bl (decide (a = b))) m
  | .int a, .str _ => P (.bl false) m
  | .str _, .int _ => P (.bl false) m
  | .str _, .non => P (.bl false) m
  | .non, .str _ => P (.bl false) m
  | .bl _, .str _ => P (.bl false) m
  | .str _, .bl _ => P (.bl false) m
  | _, _ => False
def fNeS : F2 := fun x y m P => match x, y with
  | .str a, .str b => P (.bl (!decide (a = b))) m
  | .int a, .str _ => P (.bl true) m
  | .str _, .int _ => P (.bl true) m
  | .str _, .non => P (.bl true) m
  | .non, .str _ => P (.bl true) m
  | .bl _, .str _ => P (.bl true) m
  | .str _, .bl _ => P (.bl true) m
  | _, _ => False
theorem fEqS_s {a b : Str} {m : Mem} {P : DK} : fEqS (.str a) (.str b) m P = P (.bl (decide (a = b))) m := rfl
theorem fNeS_s {a b : Str} {m : Mem} {P : DK} : fNeS (.str a) (.str b) m P = P (.bl (!decide (a = b))) m := rfl
theorem rl_eqS {K : PySem.W.Frag} : RL K rEq fEqS := by
  intro x y d e H m P Q h r1 r2 f k
  unfold fEqS at f
  split at f <;> first | exact f.elim | (cases r1; cases r2; first | exact ⟨rfl, k.now h f (by simp; exact .bl _)⟩ | exact ⟨rfl, k.now h f (by simpa using Rep.bl _)⟩)
theorem rl_neS {K : PySem.W.Frag} : RL K rNe fNeS := by
  intro x y d e H m P Q h r1 r2 f k
  unfold fNeS at f
  split at f <;> first | exact f.elim | (cases r1; cases r2; first | exact ⟨rfl, k.now h f (by simp; exact .bl _)⟩ | exact ⟨rfl, k.now h f (by simpa using Rep.bl _)⟩)
section
variable {X : Cx} {pos p : Pos} {e a b c : Expr} {ta tb tc : TE3} {x : Str} {k : Nat}
theorem e_eqS (ha : PE3 X a ta) (hb : PE3 X b tb) : PE3 X (.Compare a [.Eq] [b] pos) (op3 fEqS ta tb) := e_cmpR op_eq rl_eqS ha hb (nomark _)
theorem e_neS (ha : PE3 X a ta) (hb : PE3 X b tb) : PE3 X (.Compare a [.NotEq] [b] pos) (op3 fNeS ta tb) := e_cmpR op_ne rl_neS ha hb (nomark _)
theorem t_eqS (ha : PE3 X a ta) (hb : PE3 X b tb) : PT3 X (.Compare a [.Eq] [b] pos) (b3 (op3 fEqS ta tb)) := t_cmpR op_eq rl_eqS ha hb (nomark _)
theorem t_neS (ha : PE3 X a ta) (hb : PE3 X b tb) : PT3 X (.Compare a [.NotEq] [b] pos) (b3 (op3 fNeS ta tb)) := t_cmpR op_ne rl_neS ha hb (nomark _)
def rStrD (K : PySem.W.Frag) : List V → Hp → VK → Prop := fun xs H Q => ∃ v d m, xs = [v] ∧ Rep K H m v d ∧ Shw d ∧ Q (.str (strD d)) H
theorem call_strD (hgd : X.A.guards = some []) (hr : Room k X.A) : CallR X (.type "str") (rStrD X.K) := by
  intro pins s σ H xs us Q I r h
  obtain ⟨v, d, m, rfl, rp, ⟨b, kk, hb1, hb2, hp, hk, hz, hd⟩, q⟩ := h
  obtain ⟨u, rfl, ru⟩ := vals1 r
  obtain ⟨f1, f2, f3, f4, f5, f6⟩ := py_facts hb1 hb2 d hp
  have hu := hr.units
  have hlen : (pyOf d).shown.length ≤ sizeLine := by
    have h1 := PyData.shown_le (b / 3 + 2) (by omega) (pyOf d) f4
    have h2 : (b / 3 + 2 + 2) * (pyOf d).weight ≤ (b / 3 + 4) * ((b + 1) * kk) := Nat.mul_le_mul (by omega) (Nat.le_trans (by omega) (Nat.mul_le_mul_left (b + 1) hk))
    rw [sizeLine_eq]
    omega
  have big : ∀ a : Addr, v = .ref a → strD d = (pyOf d).shown → wpAny (model X.prog X.w) X.A (call (.type "str") [u]) (EP X pins σ Q) X.xe s := by
    intro a ev es
    subst ev
    obtain rfl : u = .ref a := ru
    obtain ⟨as, rd⟩ := Dp.reads I (pyOf d) (.ref a) (.ref a) (Rep.dp d _ _ rp f1) rfl
    refine str_of_reads rd f2 (PyData.noDict_hsm f3) hgd (by omega) (fun _ _ e => e) (fun h' t tk hk => ?_) hlen
    exact ⟨.str (strD d), H, I.kept hk, ⟨t, by rw [es]⟩, q⟩
  cases rp with
  | non =>
    cases ru
    exact PySem.P.str_of_none ⟨.str _, H, I.tok _, ⟨_, rfl⟩, q⟩
  | bl _ =>
    cases ru
    exact PySem.P.str_of_bool ⟨.str _, H, I.tok _, ⟨_, rfl⟩, q⟩
  | int i =>
    obtain ⟨t, rfl⟩ := ru
    have hi : i.natAbs.log2 < 1920 := by simpa only [pyOf, PyData.showable, decide_eq_true_eq] using f2
    exact PySem.P.str_of_int hi ⟨.str _, H, I.tok _, ⟨_, rfl⟩, q⟩
  | str y =>
    obtain ⟨t, rfl⟩ := ru
    exact PySem.P.str_of_str ⟨.str _, H, I, ⟨_, rfl⟩, q⟩
  | ref a => exact (hp : False).elim
  | ty n => exact (hp : False).elim
  | tup t r' => exact big _ rfl rfl
  | lst t r' => exact big _ rfl rfl
theorem e_ty1 {T : String} {r : List V → Hp → VK → Prop} {f : F1} (hc : CallR X (.type T) r) (hr : RC1 X.K r f) (hg : Gl X x) (hm : X.mg x = none) (hv : bootBuiltins x = some (.type T)) (ha : PE3 X a ta) (hn : x ≠ "__name__" := by decide) (hdb : (x == ("__debug__" : Str)) = false := by decide)
    (he : starEach [a] X.env = (false, eval a X.env) :: starEach [] X.env := by rfl) (hpl : (backTo pos (starEach [] X.env)).any (·.1) = false := by rfl) : PE3 X (.Call (.Name x p) [a] [] pos) (un3 f ta) := by
  obtain ⟨_, p, q⟩ := ha
  refine ⟨_, pe_callTy hc hg hm hv (pa_cons p pa_nil he) hn hdb he hpl, fun σ H ρ m P Q o h k => ?_⟩
  refine q σ H ρ m _ _ o h fun x H1 d m1 p1 s1 h1 r1 => ?_
  exact hr x d H1 m1 P Q h1 r1 p1 (k.mv s1)
theorem e_strD (hgd : X.A.guards = some []) (hr : Room k X.A) (hg : Gl X "str") (hm : X.mg "str" = none) (ha : PE3 X a ta) (he : starEach [a] X.env = (false, eval a X.env) :: starEach [] X.env := by rfl) (hpl : (backTo pos (starEach [] X.env)).any (·.1) = false := by rfl) :
    PE3 X (.Call (.Name "str" p) [a] [] pos) (un3 fStr ta) :=
  e_ty1 (call_strD hgd hr) (fun x d H m P Q h r f k => ⟨x, d, m, rfl, r, f.1, k.now h f.2 (.str _)⟩) hg hm PyProof.Rows.boot_str ha (by decide) (by decide) he hpl
/-- str of a whole number -/
def fStrI : F1 := fun d m P => match d with
  | .int i => i.natAbs.log2 < 1920 ∧ P (.str (toString i)) m
  | _ => False
theorem e_strI (hg : Gl X "str") (hm : X.mg "str" = none) (ha : PE3 X a ta) (he : starEach [a] X.env = (false, eval a X.env) :: starEach [] X.env := by rfl) (hpl : (backTo pos (starEach [] X.env)).any (·.1) = false := by rfl) :
    PE3 X (.Call (.Name "str" p) [a] [] pos) (un3 fStrI ta) :=
  e_ty1 call_str_int (fun x d H m P Q h r f k => by
    cases d with
    | int i => cases r; exact ⟨i, rfl, f.1, k.now h f.2 (.str _)⟩
    | _ => exact (f : False).elim) hg hm PyProof.Rows.boot_str ha (by decide) (by decide) he hpl
/-- a module's whole number -/
theorem e_globI {x : Str} {i : Int} {pos : Pos} (hg : Gl X x) (h : ∃ t, X.mg x = some (.int i t)) (hd : (x == ("__debug__" : Str)) = false := by decide) : PE3 X (.Name x pos) (c3 (.int i)) := by
  obtain ⟨t, h⟩ := h
  exact e_glob (v := .int i) hg h ⟨t, rfl⟩ (fun _ _ => .int i) hd
/-- int of a whole number or a truth -/
def fInt : F1 := fun d m P => match d with
  | .int i => P (.int i) m
  | .bl b => P (.int (if b then 1 else 0)) m
  | _ => False
theorem boot_int : bootBuiltins "int" = some (.type "int") := by decide +kernel
theorem boot_tuple : bootBuiltins "tuple" = some (.type "tuple") := by decide +kernel
theorem boot_list : bootBuiltins "list" = some (.type "list") := by decide +kernel
theorem e_intO (hg : Gl X "int") (hm : X.mg "int" = none) (ha : PE3 X a ta) (he : starEach [a] X.env = (false, eval a X.env) :: starEach [] X.env := by rfl) (hpl : (backTo pos (starEach [] X.env)).any (·.1) = false := by rfl) :
    PE3 X (.Call (.Name "int" p) [a] [] pos) (un3 fInt ta) :=
  e_ty1 call_int1 (fun x d H m P Q h r f k => by
    cases d with
    | int i => cases r; exact .inl ⟨i, rfl, k.now h f (.int _)⟩
    | bl b => cases r; exact .inr ⟨b, rfl, k.now h f (.int _)⟩
    | _ => exact (f : False).elim) hg hm boot_int ha (by decide) (by decide) he hpl
/-- tuple of a list or a tuple -/
def fTuple : F1 := fun d m P => match d with
  | .lst ds => P (.tup ds) m
  | .tup ds => P (.tup ds) m
  | _ => False
theorem e_tuple (hg : Gl X "tuple") (hm : X.mg "tuple" = none) (ha : PE3 X a ta) (he : starEach [a] X.env = (false, eval a X.env) :: starEach [] X.env := by rfl) (hpl : (backTo pos (starEach [] X.env)).any (·.1) = false := by rfl) :
    PE3 X (.Call (.Name "tuple" p) [a] [] pos) (un3 fTuple ta) :=
  e_ty1 call_tuple_of (fun x d H m P Q h r f k => by
    cases d with
    | lst ds =>
      cases r with
      | lst t r => exact ⟨_, _, rfl, .inl ⟨t.sq, fun l hl => k _ _ _ _ f (step_new hl) (hr_new h hl) (.tup (.inl ⟨.inl upd_same, h.none hl⟩) (r.mv (step_new hl)))⟩⟩
    | tup ds =>
      cases r with
      | tup t r => exact ⟨_, _, rfl, .inr ⟨t.sq, k.now h f (.tup t r)⟩⟩
    | _ => exact (f : False).elim) hg hm boot_tuple ha (by decide) (by decide) he hpl
/-- list of a list or a tuple: a new one that does not change -/
def fList : F1 := fun d m P => match d with
  | .lst ds => P (.lst ds) m
  | .tup ds => P (.lst ds) m
  | _ => False
theorem e_list (hg : Gl X "list") (hm : X.mg "list" = none) (ha : PE3 X a ta) (he : starEach [a] X.env = (false, eval a X.env) :: starEach [] X.env := by rfl) (hpl : (backTo pos (starEach [] X.env)).any (·.1) = false := by rfl) :
    PE3 X (.Call (.Name "list" p) [a] [] pos) (un3 fList ta) :=
  e_ty1 call_list_of (fun x d H m P Q h r f k => by
    cases d with
    | lst ds =>
      cases r with
      | lst t r => exact ⟨_, _, rfl, .inl t.sq, fun l hl => k _ _ _ _ f (step_new hl) (hr_new h hl) (.lst (.inl ⟨.inl upd_same, h.none hl⟩) (r.mv (step_new hl)))⟩
    | tup ds =>
      cases r with
      | tup t r => exact ⟨_, _, rfl, .inr t.sq, fun l hl => k _ _ _ _ f (step_new hl) (hr_new h hl) (.lst (.inl ⟨.inl upd_same, h.none hl⟩) (r.mv (step_new hl)))⟩
    | _ => exact (f : False).elim) hg hm boot_list ha (by decide) (by decide) he hpl
end

/-! ### list comprehensions of one walk, one name -/
/-- the one reading for all frames -/
def cE (K : PySem.W.Frag) (t3 : TE3) : TE := fun σ H Q => ∃ ρ m P, Ok K σ H ρ m ∧ t3 ρ m P ∧ EK K H m P Q
theorem pe_cE {X : Cx} {e : Expr} {t3 : TE3} (h : PE3 X e t3) : PE X e (cE X.K t3) := by
  obtain ⟨t, p, q⟩ := h
  refine ⟨fun pins s σ H Q I z => ?_⟩
  obtain ⟨ρ, m, P, o, h3, k⟩ := z
  exact p.run pins s σ H Q I (q σ H ρ m P Q o h3 k)
def cT (K : PySem.W.Frag) (t3 : TT3) : TT := fun σ H Q => ∃ ρ m P, Ok K σ H ρ m ∧ t3 ρ m P ∧ TK K H m P Q
theorem pt_cT {X : Cx} {e : Expr} {t3 : TT3} (h : PT3 X e t3) : PT X e (cT X.K t3) := by
  obtain ⟨t, p, q⟩ := h
  refine ⟨fun pins s σ H Q I z => ?_⟩
  obtain ⟨ρ, m, P, o, h3, k⟩ := z
  exact p.run pins s σ H Q I (q σ H ρ m P Q o h3 k)
theorem Ok.forget {K : PySem.W.Frag} {σ : L2.St} {H : Hp} {ρ : Env3} {m : Mem} (o : Ok K σ H ρ m) (i : Nat) : Ok K (wipe σ [i]) H (ρ.set i none) m := by
  refine ⟨⟨?_, fun j d h => ?_⟩, o.hr⟩
  · rw [wipe_length, List.length_set]; exact o.env.1
  · by_cases ij : i = j
    · subst ij
      rw [List.getElem?_set] at h
      simp only [if_true] at h
      split at h <;> cases h
    · rw [List.getElem?_set_ne ij] at h
      obtain ⟨v, e, r⟩ := o.env.2 j d h
      exact ⟨v, by show ((wipe σ []).set i none)[j]? = _; rw [List.getElem?_set_ne ij]; exact e, r⟩
def lcGo (i : Nat) (tt : TT3) (te : TE3) (L : Addr) (ρ : Env3) (P : DK) : List D → Mem → Prop
  | [], m => ∃ acc, m L = some (.lst acc) ∧ P (.lst acc) (del m L)
  | x :: xs, m => ∃ acc, m L = some (.lst acc) ∧ tt (ρ.set i (some x)) m fun b m3 => m3 L = some (.lst acc) ∧
      if b = true then te (ρ.set i (some x)) m3 fun y m4 => m4 L = some (.lst acc) ∧ acc.length < 16000 ∧ lcGo i tt te L ρ P xs (put m4 L (.lst (acc ++ [y]))) else lcGo i tt te L ρ P xs m3
def lc3 (w : TI3) (i : Nat) (tt : TT3) (te : TE3) : TE3 := fun ρ m P => w ρ m fun ds m1 => ∀ L, m1 L = none → lcGo i tt te L ρ P ds (put m1 L (.lst []))
def yes3 : TT3 := fun _ m P => P true m
theorem lcGo_ind {i : Nat} {te : TE3} {L : Addr} {ρ : Env3} {P : DK} (I : Nat → List D → Mem → Prop)
    (step : ∀ n x acc m (Kt : DK), m L = some (.lst acc) → I (n + 1) acc m → (∀ y m4, m4 L = some (.lst acc) → acc.length < 16000 → I n (acc ++ [y]) (put m4 L (.lst (acc ++ [y]))) → Kt y m4) → te (ρ.set i (some x)) m Kt)
    (done : ∀ acc m, m L = some (.lst acc) → I 0 acc m → P (.lst acc) (del m L)) : ∀ (xs acc : List D) (m : Mem), m L = some (.lst acc) → I xs.length acc m → lcGo i yes3 te L ρ P xs m
  | [], acc, m, e, h => ⟨acc, e, done acc m e h⟩
  | x :: xs, acc, m, e, h => ⟨acc, e, e, by
    rw [if_pos rfl]
    exact step xs.length x acc m _ e h fun y m4 e4 hl h4 => ⟨e4, hl, lcGo_ind I step done xs (acc ++ [y]) _ put_same h4⟩⟩
section
variable {X : Cx} {pos : Pos} {elt iter : Expr} {ifs : List Expr} {scope : Scope} {x : Str} {i : Nat} {p : Pos} {w : TI3} {tt : TT3} {te : TE3}
theorem lc_el {K : PySem.W.Frag} {wi : TI} {tT : TT} (qi : ∀ σ H ρ m P R, Ok K σ H ρ m → w ρ m P → (∀ J H1 ds m1, P ds m1 → Step H m H1 m1 → HR K H1 m1 → Wlk K J ds H1 m1 → R J H1) → wi σ H R) (htt : TL K tT tt) :
    EL K (tLc wi (gName i) tT (cE K te) [i]) (lc3 w i tt te) := by
  intro σ H ρ m P Q o h k
  refine qi σ H ρ m _ _ o h fun J H1 ds m1 p1 s1 h1 wk => ?_
  intro L hL
  have mL : m1 L = none := h1.none hL
  have p2 := p1 L mL
  have sA : Step H1 m1 (upd H1 L (.lst [])) (put m1 L (.lst [])) := step_newM hL
  have hA : HR K (upd H1 L (.lst [])) (put m1 L (.lst [])) := hr_newM h1 hL (show Reps _ _ _ [] [] from .nil)
  refine ⟨fun j n H2 => ∃ m2, HR K H2 m2 ∧ Step H1 m1 H2 m2 ∧ lcGo i tt te L ρ P (ds.drop j) m2 ∧ n = ds.length - j ∧ j ≤ ds.length, ⟨ds.length, _, hA, sA, p2, rfl, Nat.zero_le _⟩, ?_⟩
  rintro j n H2 ⟨m2, h2, s2, f2, rfl, hj⟩
  obtain ⟨wstop, wgo⟩ := wk j H2 m2 s2 h2
  by_cases hlt : j < ds.length
  · obtain ⟨go, yl⟩ := wgo ds[j] (List.getElem?_eq_getElem hlt)
    refine .inr ⟨go, fun H5 => ∃ m5, HR K H5 m5 ∧ Step H1 m1 H5 m5 ∧ lcGo i tt te L ρ P (ds.drop (j + 1)) m5, fun H5 ⟨m5, a5, b5, c5⟩ => ⟨ds.length - (j + 1), by omega, m5, a5, b5, c5, rfl, hlt⟩, fun v H' y => ?_⟩
    obtain ⟨s3, h3, r3⟩ := yl v H' y
    rw [List.drop_eq_getElem_cons hlt] at f2
    obtain ⟨acc, eL, f3⟩ := f2
    have oB : Ok K ((wipe σ [i]).set i (some v)) H' (ρ.set i (some ds[j])) m2 := by
      have := ((o.mv (s1.trans (s2.trans s3)) h3).forget i).set i r3
      rwa [List.set_set] at this
    refine ⟨?_, ?_⟩
    · show ((σ.set i none).set i (some v)).set i none = σ.set i none
      rw [List.set_set, List.set_set]
    · refine htt _ H' _ m2 _ _ oB f3 fun b H3 m3 p3 s4 h4 => ?_
      obtain ⟨eL3, p3⟩ := p3
      have st3 : Step H1 m1 H3 m3 := s2.trans (s3.trans s4)
      cases b with
      | false => exact ⟨m3, h4, st3, p3⟩
      | true =>
        rw [if_pos rfl] at p3 ⊢
        refine ⟨_, m3, _, oB.mv s4 h4, p3, fun y H4 d m4 p4 s5 h5 r5 => ?_⟩
        obtain ⟨eL4, hlen, p4⟩ := p4
        obtain ⟨xs, e1, rr⟩ := h5.lst eL4
        refine ⟨xs, e1, by rw [rr.length, sizeLine_eq]; omega, put m4 L (.lst (acc ++ [d])), ?_, ?_, p4⟩
        · exact hr_set h5 eL4 (show Reps _ _ _ (xs ++ [y]) (acc ++ [d]) from rr.append (.cons r5 .nil))
        · exact st3.trans (s5.trans (step_set eL4))
  · have e : ds.drop j = [] := List.drop_eq_nil_of_le (by omega)
    rw [e] at f2
    obtain ⟨acc, eL, f3⟩ := f2
    obtain ⟨xs, e1, rr⟩ := h2.lst eL
    refine .inl ⟨wstop (by omega), k _ _ _ _ f3 (s1.trans (s2.trans step_del)) (hr_del h2) (.lst (.inl ⟨.inl e1, ?_⟩) (rr.mv step_del))⟩
    unfold del
    rw [if_pos rfl]
theorem lc_mk {tT : TT} (hc : X.calm = true) (hN : X.N.Nodup) (hi : PI3 X (.Name x p) iter w) (ok : BlkOk X.N X.env.scope scope [(x, i)])
    (hg : ∀ (s : Shared) (H : Hp) (C : Addr) (cl : List (Str × Addr)) (fp : List Addr), PG (X.blk s H scope (compEnvC scope cl C X.env) fp) (.Name x p) (gName i))
    (ht : ∀ (s : Shared) (H : Hp) (C : Addr) (cl : List (Str × Addr)) (fp : List Addr), PTs (X.blk s H scope (compEnvC scope cl C X.env) fp) ifs tT) (htt : TL X.K tT tt)
    (he : ∀ (s : Shared) (H : Hp) (C : Addr) (cl : List (Str × Addr)) (fp : List Addr), PE3 (X.blk s H scope (compEnvC scope cl C X.env) fp) elt te)
    (hs : ∀ z, foldedSetIterable iter X.env z = pure z) : PE3 X (.ListComp elt [⟨.Name x p, iter, ifs, 0⟩] scope pos) (lc3 w i tt te) := by
  obtain ⟨wi, pi, qi⟩ := hi
  exact ⟨_, pe_lc hc hN pi ok hg ht (te := cE X.K te) (fun s H C cl fp => pe_cE (he s H C cl fp)) hs, lc_el qi htt⟩
/-- y = [elt for x in iter] -/
theorem lcS_mk {tT : TT} {j : Nat} {y : Str} {py spos : Pos} (hc : X.calm = true) (hN : X.N.Nodup) (hi : PI3 X (.Name x p) iter w) (ok : BlkOk X.N X.env.scope scope [(x, i)])
    (hg : ∀ (s : Shared) (H : Hp) (C : Addr) (cl : List (Str × Addr)) (fp : List Addr), PG (X.blk s H scope (compEnvC scope cl C X.env) fp) (.Name x p) (gName i))
    (ht : ∀ (s : Shared) (H : Hp) (C : Addr) (cl : List (Str × Addr)) (fp : List Addr), PTs (X.blk s H scope (compEnvC scope cl C X.env) fp) ifs tT) (htt : TL X.K tT tt)
    (he : ∀ (s : Shared) (H : Hp) (C : Addr) (cl : List (Str × Addr)) (fp : List Addr), PE3 (X.blk s H scope (compEnvC scope cl C X.env) fp) elt te)
    (hs : ∀ z, foldedSetIterable iter X.env z = pure z) (hy : X.N[j]? = some y) (hyl : X.env.scope.names.lookup y = some .local) (hsw : swapsWith (.ListComp elt [⟨.Name x p, iter, ifs, 0⟩] scope pos) (some (.Name y py)) spos.line X.env = pure true) :
    PS3 X (.Assign [.Name y py] (.ListComp elt [⟨.Name x p, iter, ifs, 0⟩] scope pos) spos) (asg3 (lc3 w i tt te) (name3 j)) := by
  obtain ⟨wi, pi, qi⟩ := hi
  refine ⟨_, ps_setLc hc hN hy hyl hsw pi ok hg ht (te := cE X.K te) (fun s H C cl fp => pe_cE (he s H C cl fp)) hs, fun σ H ρ m D3 E o h l => ?_⟩
  refine lc_el qi htt σ H ρ m _ _ o h fun x H1 d m1 p1 s1 h1 r1 => ?_
  exact l.nx _ H1 _ m1 p1 s1 ((o.mv s1 h1).set j r1)
/-- [elt for x in iter] -/
theorem e_lc (hc : X.calm = true) (hN : X.N.Nodup) (hi : PI3 X (.Name x p) iter w) (ok : BlkOk X.N X.env.scope scope [(x, i)])
    (he : ∀ (s : Shared) (H : Hp) (C : Addr) (cl : List (Str × Addr)) (fp : List Addr), PE3 (X.blk s H scope (compEnvC scope cl C X.env) fp) elt te)
    (hx : X.N[i]? = some x := by rfl) (hl : (relabel scope X.env).names.lookup x = some .local := by rfl) (hs : ∀ z, foldedSetIterable iter X.env z = pure z := by intro _; rfl) : PE3 X (.ListComp elt [⟨.Name x p, iter, [], 0⟩] scope pos) (lc3 w i yes3 te) :=
  lc_mk hc hN hi ok (fun _ _ _ _ _ => pg_name hN hx (.inl hl) (.inr hl)) (fun _ _ _ _ _ => pts_nil) (fun σ H ρ m P Q o h k => k true H m h (Step.refl _ _) o.hr) he hs
theorem e_lcIf {c : Expr} (hc : X.calm = true) (hN : X.N.Nodup) (hi : PI3 X (.Name x p) iter w) (ok : BlkOk X.N X.env.scope scope [(x, i)])
    (ht : ∀ (s : Shared) (H : Hp) (C : Addr) (cl : List (Str × Addr)) (fp : List Addr), PT3 (X.blk s H scope (compEnvC scope cl C X.env) fp) c tt)
    (he : ∀ (s : Shared) (H : Hp) (C : Addr) (cl : List (Str × Addr)) (fp : List Addr), PE3 (X.blk s H scope (compEnvC scope cl C X.env) fp) elt te)
    (hx : X.N[i]? = some x := by rfl) (hl : (relabel scope X.env).names.lookup x = some .local := by rfl) (hs : ∀ z, foldedSetIterable iter X.env z = pure z := by intro _; rfl) : PE3 X (.ListComp elt [⟨.Name x p, iter, [c], 0⟩] scope pos) (lc3 w i tt te) :=
  lc_mk (tT := cT X.K tt) hc hN hi ok (fun _ _ _ _ _ => pg_name hN hx (.inl hl) (.inr hl)) (fun s H C cl fp => pts_one (pt_cT (ht s H C cl fp))) (fun σ H ρ m P Q o h k => ⟨ρ, m, P, o, h, k⟩) he hs
theorem s_lc {j : Nat} {y : Str} {py spos : Pos} (hc : X.calm = true) (hN : X.N.Nodup) (hi : PI3 X (.Name x p) iter w) (ok : BlkOk X.N X.env.scope scope [(x, i)])
    (he : ∀ (s : Shared) (H : Hp) (C : Addr) (cl : List (Str × Addr)) (fp : List Addr), PE3 (X.blk s H scope (compEnvC scope cl C X.env) fp) elt te)
    (hsw : swapsWith (.ListComp elt [⟨.Name x p, iter, [], 0⟩] scope pos) (some (.Name y py)) spos.line X.env = pure true) (hy : X.N[j]? = some y := by rfl) (hyl : X.env.scope.names.lookup y = some .local := by rfl)
    (hx : X.N[i]? = some x := by rfl) (hl : (relabel scope X.env).names.lookup x = some .local := by rfl) (hs : ∀ z, foldedSetIterable iter X.env z = pure z := by intro _; rfl) :
    PS3 X (.Assign [.Name y py] (.ListComp elt [⟨.Name x p, iter, [], 0⟩] scope pos) spos) (asg3 (lc3 w i yes3 te) (name3 j)) :=
  lcS_mk hc hN hi ok (fun _ _ _ _ _ => pg_name hN hx (.inl hl) (.inr hl)) (fun _ _ _ _ _ => pts_nil) (fun σ H ρ m P Q o h k => k true H m h (Step.refl _ _) o.hr) he hs hy hyl hsw
theorem s_lcIf {c : Expr} {j : Nat} {y : Str} {py spos : Pos} (hc : X.calm = true) (hN : X.N.Nodup) (hi : PI3 X (.Name x p) iter w) (ok : BlkOk X.N X.env.scope scope [(x, i)])
    (ht : ∀ (s : Shared) (H : Hp) (C : Addr) (cl : List (Str × Addr)) (fp : List Addr), PT3 (X.blk s H scope (compEnvC scope cl C X.env) fp) c tt)
    (he : ∀ (s : Shared) (H : Hp) (C : Addr) (cl : List (Str × Addr)) (fp : List Addr), PE3 (X.blk s H scope (compEnvC scope cl C X.env) fp) elt te)
    (hsw : swapsWith (.ListComp elt [⟨.Name x p, iter, [c], 0⟩] scope pos) (some (.Name y py)) spos.line X.env = pure true) (hy : X.N[j]? = some y := by rfl) (hyl : X.env.scope.names.lookup y = some .local := by rfl)
    (hx : X.N[i]? = some x := by rfl) (hl : (relabel scope X.env).names.lookup x = some .local := by rfl) (hs : ∀ z, foldedSetIterable iter X.env z = pure z := by intro _; rfl) :
    PS3 X (.Assign [.Name y py] (.ListComp elt [⟨.Name x p, iter, [c], 0⟩] scope pos) spos) (asg3 (lc3 w i tt te) (name3 j)) :=
  lcS_mk (tT := cT X.K tt) hc hN hi ok (fun _ _ _ _ _ => pg_name hN hx (.inl hl) (.inr hl)) (fun s H C cl fp => pts_one (pt_cT (ht s H C cl fp))) (fun σ H ρ m P Q o h k => ⟨ρ, m, P, o, h, k⟩) he hs hy hyl hsw
end
end D3

set_option Elab.async false
set_option linter.all false
set_option maxRecDepth 100000
set_option maxHeartbeats 4000000
/-! Gs: more rules by data: a, *b = a tuple. -/
namespace D3
open PySem L2 PyProof.Rows
section
variable {prog : Program} {w : World} {A : Around} {E : Value → Shared → Prop} {s : Shared}
/-- what a, *b = a tuple of one or more takes -/
theorem take_star {t : Addr} {x : Value} {xs : List Value} {Q : List Value → Shared → Prop} (hh : A.handled = none) (ht : IsTup s.heap t (x :: xs).toArray) (hz : xs.length + 1 ≤ sizeLine)
    (hQ : ∀ (h' : Heap) (tk : Nat), (∀ b o, s.heap.get? b = some o → h'.get? b = some o) → Q [x, .ref h'.objs.size] { s with heap := h'.push { cls := .type "list", data := .seq xs.toArray }, toks := tk }) : wpAny (model prog w) A (unpackItems (.ref t) 2 (some 1)) Q E s := by
  have tlt : t < s.heap.objs.size := by obtain ⟨o, ho, _⟩ := ht; exact Heap.lt_size ho
  have tne : t ≠ s.heap.objs.size := Nat.ne_of_lt tlt
  have sz : (x :: xs).toArray.size = xs.length + 1 := by simp
  unfold unpackItems notIterableAtAll
  refine wpAny_bind (wpAny_bind (wpAny_specialOf ht.typeIs slot_tuple_iter.lookup (wpAny_pure ?_)))
  simp only [Bool.false_eq_true, if_false]
  refine wpAny_bind (wpAny_holding (iter_tuple ht (wpAny_bind (wpAny_holding (draw_tuple tne 1 0 _ _ ⟨_, Heap.get?_push_size _ rfl, rfl, rfl⟩ (ht.push _) (by rw [sz]; omega) fun h1 hi1 hs1 => ?_)))))
  have ht1 : IsTup h1 t (x :: xs).toArray := (ht.push _).extBut hs1.extBut tne
  rw [show List.take 1 (List.drop 0 (x :: xs).toArray.toList) = [x] by simp, if_neg (by simp)]
  have li : s.heap.objs.size < h1.objs.size := by obtain ⟨o, ho, _⟩ := hi1; exact Heap.lt_size ho
  have lt1 : t < h1.objs.size := by obtain ⟨o, ho, _⟩ := ht1; exact Heap.lt_size ho
  refine wpAny_bind (wpAny_holding (PySem.W.kun_collect (s := { s with heap := h1 }) (T := "tuple_iterator") (.inr (.inr (.inr rfl))) (Walks.tuple (A := A.in1) hh s.heap.objs.size t tne _) (fun _ _ st => st.1.typeIs) (k := 1) (by rw [sz]; omega) ⟨hi1, ht1⟩ li lt1 (fun h2 tk hk => ?_) (by rw [sz]; exact hz)))
  rw [show List.drop 1 (x :: xs).toArray.toList = xs by simp]
  show wpAny _ _ (if xs.length < 2 - 1 - 1 then _ else _) _ _ _
  rw [if_neg (by omega)]
  show wpAny _ _ (newList (xs.take (xs.length - (2 - 1 - 1))) >>= fun d => pure ([x] ++ [d] ++ xs.drop (xs.length - (2 - 1 - 1)))) _ _ _
  rw [show xs.length - (2 - 1 - 1) = xs.length by omega, List.take_length, List.drop_length]
  refine wpAny_bind (wpAny_newObj_type (wpAny_pure ?_) (by simp only [PySem.sizeOk, List.size_toArray]; omega))
  exact hQ h2 tk fun b o e => hk b o (Nat.ne_of_lt (Heap.lt_size e)) (hs1.extBut b o (Nat.ne_of_lt (Heap.lt_size e)) (Heap.get?_push_of_some _ e))
end
section
variable {X : Cx} {pos sp : Pos} {e1 e2 : Expr} {t1 t2 : TG} {g1 g2 : TG3} {k : Nat}
def gStar (K : PySem.W.Frag) (t1 t2 : TG) : TG := fun v σ H Q => ∃ a x xs, v = .ref a ∧ SqT K H a (x :: xs) ∧ ∀ l, H l = none → t1 x σ (upd H l (.lst xs)) fun σ' H' => t2 (.ref l) σ' H' Q
theorem pg_star (hc : X.calm = true) (h1 : PG X e1 t1) (h2 : PG X e2 t2) (hs : assignEach [e1, .Starred e2 sp] X.env = [(false, assign e1 X.env), (true, assign e2 X.env)] := by rfl) : PG X (.Tuple [e1, .Starred e2 sp] k pos) (gStar X.K t1 t2) := by
  refine ⟨fun pins s σ H v u Q I r hw => ?_⟩
  obtain ⟨a, x, xs, ev, hq, hw⟩ := hw
  subst ev
  cases r
  obtain ⟨its, rv, ht, hz⟩ := I.tuple hq
  rw [assign_Tuple]
  refine wpAny_bind (wpAny_standAt ?_)
  unfold unpack
  rw [hs]
  cases rv with
  | cons rx rr =>
    have hl := rr.length
    have hz1 : xs.length + 1 ≤ sizeLine := hz
    refine wpAny_bind (wpAny_holding (take_star (I.ok.hd hc) ht (by rw [← hl]; exact hz1) fun h' tk hk => ?_))
    have I1 : Inv X pins σ H { s with heap := h', toks := tk } := I.kept hk
    have hf : H h'.objs.size = none := I1.hok.fresh (Nat.le_refl _)
    have I2 : Inv X pins σ (upd H h'.objs.size (.lst xs)) _ := I1.laid (t' := tk) (fun b o e => Heap.get?_push_of_some _ e) (Nat.le_refl _) ⟨Nat.le_trans (Nat.le_succ _) hz1, _, 0, rr, Heap.get?_push_size _ rfl⟩
    refine assignInOrder_cons (thn (h1.run pins _ σ _ _ _ _ I2 rx (hw _ hf)) fun _ s1 z => ?_)
    obtain ⟨σ1, H1, I3, q1⟩ := z
    refine assignInOrder_cons (thn (h2.run pins s1 σ1 H1 (.ref h'.objs.size) _ _ I3 rfl q1) fun _ s2 z => ?_)
    exact assignInOrder_nil z
def gstar3 (g1 g2 : TG3) : TG3 := fun d ρ m P => match d with
  | .tup (x :: xs) => g1 x ρ m fun ρ1 m1 => g2 (.lst xs) ρ1 m1 P
  | _ => False
theorem g_star (hc : X.calm = true) (h1 : PG3 X e1 g1) (h2 : PG3 X e2 g2) (hs : assignEach [e1, .Starred e2 sp] X.env = [(false, assign e1 X.env), (true, assign e2 X.env)] := by rfl) : PG3 X (.Tuple [e1, .Starred e2 sp] k pos) (gstar3 g1 g2) := by
  obtain ⟨t1, p1, q1⟩ := h1
  obtain ⟨t2, p2, q2⟩ := h2
  refine ⟨_, pg_star hc p1 p2 hs, fun v d σ H ρ m P Q o r h kk => ?_⟩
  cases d with
  | tup ds =>
    cases ds with
    | nil => exact (h : False).elim
    | cons x xs =>
      cases r with
      | tup t r =>
        cases r with
        | @cons v vs _ _ r1 rr =>
          refine ⟨_, _, _, rfl, t.sq, fun l hl => ?_⟩
          have st : Step H m (upd H l (.lst vs)) m := step_new hl
          refine q1 _ x σ _ ρ m _ _ (o.mv st (hr_new o.hr hl)) (r1.mv st) h fun σ1 H1 ρ1 m1 hh s1 o1 => ?_
          exact q2 _ (.lst xs) σ1 H1 ρ1 m1 P Q o1 ((Rep.lst (.inl ⟨.inl upd_same, o.hr.none hl⟩) (rr.mv st)).mv s1) hh (kk.mv (st.trans s1))
  | _ => exact (h : False).elim
end
end D3

set_option Elab.async false
set_option linter.all false
set_option maxRecDepth 100000
set_option maxHeartbeats 4000000
/-! Gk: a table of the module with text keys: in. -/
namespace D3
open PySem L2 PyProof.Rows
theorem dic_es {K : PySem.W.Frag} {a : Addr} {l : List (Option (Str × Int))} (h : He.dicW K a = some l) : ∃ (es : Array DictEntry) (n : Nat) (c : String) (sl : Array (Option Value)), K.lookup a = some ⟨.type c, none, .dict es n, sl⟩ ∧ es.toList.map He.keyOf = l := by
  unfold He.dicW at h
  split at h
  · rename_i c es n sl q
    split at h
    · exact ⟨es, n, c, sl, q, Option.some.inj h⟩
    · cases h
  · cases h
theorem find_key {P : Params} {z : Str} : ∀ {l : List DictEntry} {ks : List Str}, l.map He.keyOf = He.keysIn P ks → (l.find? (·.key.isStr z)).isSome = decide (z ∈ ks) ∧ l.any (·.refKey) = false
  | [], [], _ => ⟨by simp, rfl⟩
  | [], k :: ks, h => by cases h
  | e :: l, [], h => by cases h
  | e :: l, k :: ks, h => by
    have h1 : He.keyOf e :: l.map He.keyOf = some (k, PyData.keyHash P k) :: He.keysIn P ks := h
    injection h1 with h2 h3
    obtain ⟨i1, i2⟩ := find_key (z := z) h3
    unfold He.keyOf at h2
    split at h2
    · rename_i x t q
      have h4 := (Prod.mk.inj (Option.some.inj h2)).1
      subst h4
      refine ⟨?_, ?_⟩
      · rw [List.find?_cons, q]
        show (match x == z with
          | true => some e
          | false => l.find? (·.key.isStr z)).isSome = _
        by_cases e : x = z
        · subst e; simp
        · rw [show (x == z) = false from beq_eq_false_iff_ne.mpr e]
          show (l.find? (·.key.isStr z)).isSome = _
          rw [i1]
          simp [Ne.symm e]
      · rw [List.any_cons, i2, Bool.or_false]
        simp [DictEntry.refKey, q]
    · cases h2
theorem ns_key {K : PySem.W.Frag} {w : World} {a : Addr} {ks : List Str} (h : He.dicW K a = some (He.keysIn w.params ks)) (z : Str) : ∃ r, PySem.W.nsIn K a z = some r ∧ r.isSome = decide (z ∈ ks) := by
  obtain ⟨es, n, c, sl, q, e⟩ := dic_es h
  obtain ⟨i1, i2⟩ := find_key (z := z) e
  unfold PySem.W.nsIn
  rw [q]
  cases f : es.toList.find? (·.key.isStr z) with
  | some y => exact ⟨some y.val, by simp only [f], by rw [f] at i1; exact i1⟩
  | none => exact ⟨none, by simp only [f, i2, Bool.false_eq_true, if_false], by rw [f] at i1; exact i1⟩
section
variable {X : Cx} {pos p : Pos} {a : Expr} {ta : TE3} {x : Str} {ks : List Str}
def fInK (ks : List Str) : F1 := fun d m P => match d with
  | .str z => P (.bl (decide (z ∈ ks))) m
  | _ => False
def fNinK (ks : List Str) : F1 := fun d m P => match d with
  | .str z => P (.bl (!decide (z ∈ ks))) m
  | _ => False
theorem fInK_s {z : Str} {m : Mem} {P : DK} : fInK ks (.str z) m P = P (.bl (decide (z ∈ ks))) m := rfl
theorem fNinK_s {z : Str} {m : Mem} {P : DK} : fNinK ks (.str z) m P = P (.bl (!decide (z ∈ ks))) m := rfl
/-- a text in a table of the module -/
theorem e_inK (hg : Gl X x) (hm : ∃ d, X.mg x = some (.ref d) ∧ He.dicW X.K d = some (He.keysIn X.w.params ks)) (ha : PE3 X a ta) (hd : (x == ("__debug__" : Str)) = false := by decide) (hb : behindInMarks .In (.Name x p) = false := by rfl) : PE3 X (.Compare a [.In] [.Name x p] pos) (un3 (fInK ks) ta) := by
  obtain ⟨d, h1, h2⟩ := hm
  obtain ⟨t, pa, qa⟩ := ha
  obtain ⟨es, n, D⟩ := He.dicW_ok h2
  refine ⟨_, pe_cmpR (op_in_kd D) pa (pe_glob (v := .ref d) hg h1 rfl hd) hb, fun σ H ρ m P Q o h k => ?_⟩
  refine qa σ H ρ m _ _ o h fun v H1 y m1 p1 s1 h1' r1 => ?_
  cases y with
  | str z =>
    cases r1
    obtain ⟨r, e1, e2⟩ := ns_key h2 z
    exact ⟨z, r, rfl, rfl, e1, (k.mv s1).now h1' p1 (by rw [e2]; exact .bl _)⟩
  | _ => exact (p1 : False).elim
theorem e_ninK (hg : Gl X x) (hm : ∃ d, X.mg x = some (.ref d) ∧ He.dicW X.K d = some (He.keysIn X.w.params ks)) (ha : PE3 X a ta) (hd : (x == ("__debug__" : Str)) = false := by decide) (hb : behindInMarks .NotIn (.Name x p) = false := by rfl) : PE3 X (.Compare a [.NotIn] [.Name x p] pos) (un3 (fNinK ks) ta) := by
  obtain ⟨d, h1, h2⟩ := hm
  obtain ⟨t, pa, qa⟩ := ha
  obtain ⟨es, n, D⟩ := He.dicW_ok h2
  refine ⟨_, pe_cmpR (op_notIn_kd D) pa (pe_glob (v := .ref d) hg h1 rfl hd) hb, fun σ H ρ m P Q o h k => ?_⟩
  refine qa σ H ρ m _ _ o h fun v H1 y m1 p1 s1 h1' r1 => ?_
  cases y with
  | str z =>
    cases r1
    obtain ⟨r, e1, e2⟩ := ns_key h2 z
    exact ⟨z, r, rfl, rfl, e1, (k.mv s1).now h1' p1 (by rw [e2]; exact .bl _)⟩
  | _ => exact (p1 : False).elim
theorem t_inK (hg : Gl X x) (hm : ∃ d, X.mg x = some (.ref d) ∧ He.dicW X.K d = some (He.keysIn X.w.params ks)) (ha : PE3 X a ta) (hd : (x == ("__debug__" : Str)) = false := by decide) (hb : behindInMarks .In (.Name x p) = false := by rfl) : PT3 X (.Compare a [.In] [.Name x p] pos) (b3 (un3 (fInK ks) ta)) := by
  obtain ⟨d, h1, h2⟩ := hm
  obtain ⟨t, pa, qa⟩ := ha
  obtain ⟨es, n, D⟩ := He.dicW_ok h2
  refine ⟨_, pt_cmpR (op_in_kd D) pa (pe_glob (v := .ref d) hg h1 rfl hd) hb, fun σ H ρ m P Q o h k => ?_⟩
  refine qa σ H ρ m _ _ o h fun v H1 y m1 p1 s1 h1' r1 => ?_
  cases y with
  | str z =>
    cases r1
    obtain ⟨r, e1, e2⟩ := ns_key h2 z
    exact ⟨z, r, rfl, rfl, e1, _, rfl, by rw [e2]; exact k _ _ _ p1 s1 h1'⟩
  | _ => exact (p1 : False).elim
theorem t_ninK (hg : Gl X x) (hm : ∃ d, X.mg x = some (.ref d) ∧ He.dicW X.K d = some (He.keysIn X.w.params ks)) (ha : PE3 X a ta) (hd : (x == ("__debug__" : Str)) = false := by decide) (hb : behindInMarks .NotIn (.Name x p) = false := by rfl) : PT3 X (.Compare a [.NotIn] [.Name x p] pos) (b3 (un3 (fNinK ks) ta)) := by
  obtain ⟨d, h1, h2⟩ := hm
  obtain ⟨t, pa, qa⟩ := ha
  obtain ⟨es, n, D⟩ := He.dicW_ok h2
  refine ⟨_, pt_cmpR (op_notIn_kd D) pa (pe_glob (v := .ref d) hg h1 rfl hd) hb, fun σ H ρ m P Q o h k => ?_⟩
  refine qa σ H ρ m _ _ o h fun v H1 y m1 p1 s1 h1' r1 => ?_
  cases y with
  | str z =>
    cases r1
    obtain ⟨r, e1, e2⟩ := ns_key h2 z
    exact ⟨z, r, rfl, rfl, e1, _, rfl, by rw [e2]; exact k _ _ _ p1 s1 h1'⟩
  | _ => exact (p1 : False).elim
end
end D3

set_option Elab.async false
set_option linter.all false
set_option maxRecDepth 100000
set_option maxHeartbeats 4000000
/-! Gt: texts, tuples: len, walk, order, sums, slices, in; all. -/
namespace D3
open PySem L2 PyProof.Rows
def bigN : Nat := 1000000
theorem bigN_line : bigN ≤ sizeLine := by rw [sizeLine_eq]; decide
theorem lbig {n : Nat} (h : n ≤ 100000) : n ≤ bigN := Nat.le_trans h (by decide)
theorem del_put {m : Mem} {L : Addr} {o : MO} : del (put m L o) L = del m L := by
  funext q
  unfold del put
  split <;> rfl
theorem del_none {m : Mem} {L : Addr} (h : m L = none) : del m L = m := by
  funext q
  unfold del
  split
  · rename_i e; rw [e, h]
  · rfl
/-- a comprehension that changes nothing -/
theorem lcGo_map {i : Nat} {te : TE3} {L : Addr} {ρ : Env3} {P : DK} (f : D → D) : ∀ (xs acc : List D) (m : Mem), m L = some (.lst acc) → acc.length + xs.length ≤ 16000 →
    (∀ x ∈ xs, ∀ m' (Kt : DK), Kt (f x) m' → te (ρ.set i (some x)) m' Kt) → P (.lst (acc ++ xs.map f)) (del m L) → lcGo i yes3 te L ρ P xs m
  | [], acc, m, e, _, _, h => ⟨acc, e, by simpa using h⟩
  | x :: xs, acc, m, e, hl, hs, h => ⟨acc, e, e, by
    rw [if_pos rfl]
    refine hs x List.mem_cons_self m _ ⟨e, by simp only [List.length_cons] at hl; omega, lcGo_map f xs (acc ++ [f x]) _ put_same (by simp only [List.length_append, List.length_cons, List.length_nil] at hl ⊢; omega) (fun y hy => hs y (List.mem_cons_of_mem _ hy)) ?_⟩
    rw [del_put]
    simpa using h⟩
section
variable {X : Cx} {pos p : Pos} {a b c tg : Expr} {ta tb tc : TE3} {x : Str}
/-! ### texts -/
theorem e_globS {y : Str} {pos : Pos} (hg : Gl X x) (h : ∃ t, X.mg x = some (.str y t)) (hd : (x == ("__debug__" : Str)) = false := by decide) : PE3 X (.Name x pos) (c3 (.str y)) := by
  obtain ⟨t, h⟩ := h
  exact e_glob (v := .str y) hg h ⟨t, rfl⟩ (fun _ _ => .str y) hd
def fLenS : F1 := fun x m P => match x with
  | .str y => y.length ≤ bigN ∧ P (.int y.length) m
  | _ => False
theorem fLenS_s {y : Str} {m : Mem} {P : DK} : fLenS (.str y) m P = (y.length ≤ bigN ∧ P (.int y.length) m) := rfl
theorem e_lenS (hg : Gl X "len") (hm : X.mg "len" = none) (ha : PE3 X a ta) (he : starEach [a] X.env = (false, eval a X.env) :: starEach [] X.env := by rfl) (hpl : (backTo pos (starEach [] X.env)).any (·.1) = false := by rfl) : PE3 X (.Call (.Name "len" p) [a] [] pos) (un3 fLenS ta) :=
  e_b1 (f := fLenS) call_len (fun x d H m P Q h r f k => by
    cases d with
    | str y => cases r; exact ⟨_, y.length, rfl, ⟨Nat.le_trans f.1 bigN_line, rfl⟩, k.now h f.2 (.int _)⟩
    | _ => exact (f : False).elim) hg hm boot_len ha (by decide) (by decide) he hpl
def signs (y : Str) : List D := y.cps.toList.map fun c => D.str ⟨#[c]⟩
def istr3 (ta : TE3) : TI3 := fun ρ m P => ta ρ m fun x m1 => match x with
  | .str y => P (signs y) m1
  | _ => False
theorem wlk_str {K : PySem.W.Frag} {H : Hp} {m : Mem} {y : Str} : Wlk K (Its y) (signs y) H m := by
  intro i H2 m2 s2 h2
  refine ⟨fun hi => ?_, fun d hd => ?_⟩
  · unfold signs at hi
    rw [List.length_map, Array.length_toList] at hi
    exact hi
  · unfold signs at hd
    rw [List.getElem?_map] at hd
    cases e : y.cps.toList[i]? with
    | none => rw [e] at hd; cases hd
    | some c =>
      rw [e] at hd
      have ed : D.str ⟨#[c]⟩ = d := Option.some.inj hd
      subst ed
      have e' : y.cps[i]? = some c := by rw [← Array.getElem?_toList]; exact e
      refine ⟨(Array.getElem?_eq_some_iff.mp e').1, fun v H' z => ?_⟩
      obtain ⟨e1, c', e2, e3⟩ := z
      subst e1 e3
      rw [e'] at e2
      cases e2
      exact ⟨Step.refl _ _, h2, .str _⟩
theorem i_str (ha : PE3 X a ta) : PI3 X tg a (istr3 ta) := by
  obtain ⟨_, p, q⟩ := ha
  refine ⟨_, pi_str p, fun σ H ρ m P R o h k => ?_⟩
  refine q σ H ρ m _ _ o h fun x H1 d m1 p1 s1 h1 r1 => ?_
  cases d with
  | str y =>
    cases r1
    exact ⟨_, rfl, k _ H1 _ m1 p1 s1 h1 wlk_str⟩
  | _ => exact (p1 : False).elim
/-- a sign in a text -/
def fInS : F2 := fun x y m P => match x, y with
  | .str s, .str z => ∃ c : Nat, s = ⟨#[c]⟩ ∧ P (.bl (decide (c ∈ z.cps.toList))) m
  | _, _ => False
theorem rl_inS {K : PySem.W.Frag} : RL K (fun x y H Q => ∃ (c : Nat) (z : Str), x = .str ⟨#[c]⟩ ∧ y = .str z ∧ Q (.bl (decide (c ∈ z.cps.toList))) H) fInS := by
  intro x y d e H m P Q h r1 r2 f k
  cases d with
  | str s =>
    cases e with
    | str z =>
      obtain ⟨c, es, f⟩ := f
      subst es
      cases r1
      cases r2
      exact ⟨c, z, rfl, rfl, k.now h f (.bl _)⟩
    | _ => exact (f : False).elim
  | _ => exact (f : False).elim
theorem e_inS (ha : PE3 X a ta) (hb : PE3 X b tb) (hm : behindInMarks .In b = false := by rfl) : PE3 X (.Compare a [.In] [b] pos) (op3 fInS ta tb) := e_cmpR op_in_sign rl_inS ha hb hm
theorem t_inS (ha : PE3 X a ta) (hb : PE3 X b tb) (hm : behindInMarks .In b = false := by rfl) : PT3 X (.Compare a [.In] [b] pos) (b3 (op3 fInS ta tb)) := t_cmpR op_in_sign rl_inS ha hb hm
def fLeS : F2 := fun x y m P => match x, y with
  | .str i, .str j => P (.bl (!decide (j.cps.toList < i.cps.toList))) m
  | _, _ => False
theorem rl_leS {K : PySem.W.Frag} : RL K (fun x y H Q => ∃ i j, x = .str i ∧ y = .str j ∧ Q (.bl (!decide (j.cps.toList < i.cps.toList))) H) fLeS := by
  intro x y d e H m P Q h r1 r2 f k
  cases d with
  | str s =>
    cases e with
    | str z =>
      cases r1
      cases r2
      exact ⟨s, z, rfl, rfl, k.now h f (.bl _)⟩
    | _ => exact (f : False).elim
  | _ => exact (f : False).elim
def fAddS : F2 := fun x y m P => match x, y with
  | .str i, .str j => i.length + j.length ≤ bigN ∧ P (.str (i ++ j)) m
  | _, _ => False
theorem fAddS_s {i j : Str} {m : Mem} {P : DK} : fAddS (.str i) (.str j) m P = (i.length + j.length ≤ bigN ∧ P (.str (i ++ j)) m) := rfl
theorem rl_addS {K : PySem.W.Frag} : RL K (fun x y H Q => ∃ i j, x = .str i ∧ y = .str j ∧ i.length + j.length ≤ sizeLine ∧ Q (.str (i ++ j)) H) fAddS := by
  intro x y d e H m P Q h r1 r2 f k
  cases d with
  | str s =>
    cases e with
    | str z =>
      cases r1
      cases r2
      exact ⟨s, z, rfl, rfl, Nat.le_trans f.1 bigN_line, k.now h f.2 (.str _)⟩
    | _ => exact (f : False).elim
  | _ => exact (f : False).elim
theorem e_addS (ha : PE3 X a ta) (hb : PE3 X b tb) : PE3 X (.BinOp a .Add b pos) (op3 fAddS ta tb) := e_op op_add_str rl_addS ha hb
/-! ### tuples -/
def fCatT : F2 := fun x y m P => match x, y with
  | .tup xs, .tup ys => xs.length + ys.length ≤ bigN ∧ P (.tup (xs ++ ys)) m
  | _, _ => False
theorem fCatT_t {i j : List D} {m : Mem} {P : DK} : fCatT (.tup i) (.tup j) m P = (i.length + j.length ≤ bigN ∧ P (.tup (i ++ j)) m) := rfl
theorem rl_catT {K : PySem.W.Frag} : RL K (rCatA K) fCatT := by
  intro x y d e H m P Q h r1 r2 f k
  cases d with
  | tup xs =>
    cases e with
    | tup ys =>
      cases r1 with
      | tup t1 q1 =>
        cases r2 with
        | tup t2 q2 =>
          obtain ⟨f1, f2⟩ := f
          refine ⟨_, _, _, _, rfl, rfl, t1.sq, t2.sq, by rw [q1.length, q2.length]; exact Nat.le_trans f1 bigN_line, fun e => ?_, fun _ e => ?_, fun _ _ l hl => ?_⟩
          · subst e
            cases q1
            exact k.now h f2 (.tup t2 q2)
          · subst e
            cases q2
            rw [List.append_nil] at f2
            exact k.now h f2 (.tup t1 q1)
          · exact k _ _ _ _ f2 (step_new hl) (hr_new h hl) (.tup (.inl ⟨.inl upd_same, h.none hl⟩) ((q1.append q2).mv (step_new hl)))
    | _ => exact (f : False).elim
  | _ => exact (f : False).elim
theorem e_catT (ha : PE3 X a ta) (hb : PE3 X b tb) : PE3 X (.BinOp a .Add b pos) (op3 fCatT ta tb) := e_op op_catA rl_catT ha hb
def slcT3 (ta : TE3) (tl th : TO3) : TE3 := fun ρ m P => ta ρ m fun x m1 => tl ρ m1 fun lo m2 => th ρ m2 fun hi m3 => match x with
  | .tup ds => P (.tup (cutD ds lo hi)) m3
  | _ => False
theorem e_sliceT {lo hi : Option Expr} {tl th : TO3} {p2 : Pos} (ha : PE3 X a ta) (hl : PO3 X lo tl) (hh : PO3 X hi th) : PE3 X (.Subscript a (.Slice lo hi none p2) pos) (slcT3 ta tl th) := by
  obtain ⟨_, p, q⟩ := ha
  obtain ⟨_, p1, q1⟩ := hl
  obtain ⟨_, p2, q2⟩ := hh
  refine ⟨_, pe_slice sl_tupA p p1 p2, fun σ H ρ m P Q o h k => ?_⟩
  refine q σ H ρ m _ _ o h fun x H1 d m1 p1 s1 h1 r1 => ?_
  refine q1 σ H1 ρ m1 _ _ (o.mv s1 h1) p1 fun lo H2 m2 p2 s2 h2 => ?_
  refine q2 σ H2 ρ m2 _ _ (o.mv (s1.trans s2) h2) p2 fun hi H3 m3 p3 s3 h3 => ?_
  cases d with
  | tup ds =>
    have r3 := r1.mv (s2.trans s3)
    cases r3 with
    | tup t r =>
      refine ⟨_, _, rfl, t.sq, fun hw => ?_, fun _ l hl => ?_⟩
      · rw [r.length] at hw
        have e : cutD ds lo hi = ds := by
          unfold cutD
          rw [hw.1, hw.2, List.drop_zero, Nat.sub_zero, List.take_length]
        have p4 : P (.tup (cutD ds lo hi)) m3 := p3
        rw [e] at p4
        exact k _ _ _ _ p4 (s1.trans (s2.trans s3)) h3 (.tup t r)
      · exact k _ _ _ _ p3 ((s1.trans (s2.trans s3)).trans (step_new hl)) (hr_new h3 hl) (.tup (.inl ⟨.inl upd_same, h3.none hl⟩) ((r.cut lo hi).mv (step_new hl)))
  | _ => exact (p3 : False).elim
/-! ### in a written tuple of texts, of whole numbers -/
theorem Reps.strs : ∀ {K : PySem.W.Frag} {H : Hp} {m : Mem} {vs : List V} {ks : List Str}, Reps K H m vs (ks.map D.str) → vs = ks.map V.str
  | _, _, _, _, [], h => by cases h; rfl
  | _, _, _, _, k :: ks, h => by
    cases h with
    | cons r rr => cases r; rw [Reps.strs rr]; rfl
theorem inV_str (z : Str) : ∀ ks : List Str, inV (.str z) (ks.map V.str) = decide (z ∈ ks)
  | [] => rfl
  | k :: ks => by
    show (eqV (.str k) (.str z) || inV (.str z) (ks.map V.str)) = _
    rw [inV_str z ks]
    show ((k == z) || decide (z ∈ ks)) = _
    by_cases e : k = z
    · subst e; simp
    · simp [e, Ne.symm e]
theorem inV_int (z : Int) : ∀ ks : List Int, inV (.int z) (ks.map V.int) = decide (z ∈ ks)
  | [] => rfl
  | k :: ks => by
    show (eqV (.int k) (.int z) || inV (.int z) (ks.map V.int)) = _
    rw [inV_int z ks]
    show ((k == z) || decide (z ∈ ks)) = _
    by_cases e : k = z
    · subst e; simp
    · simp [e, Ne.symm e]
def fInT : F2 := fun x y m P => match x, y with
  | .str z, .tup ds => ∃ ks : List Str, ds = ks.map D.str ∧ P (.bl (decide (z ∈ ks))) m
  | .int z, .tup ds => ∃ ks : List Int, ds = ks.map D.int ∧ P (.bl (decide (z ∈ ks))) m
  | _, _ => False
theorem rl_inT {K : PySem.W.Frag} : RL K (rIn K false) fInT := by
  intro x y d e H m P Q h r1 r2 f k
  cases e with
  | tup ds =>
    cases d with
    | str z =>
      obtain ⟨ks, rfl, f⟩ := f
      cases r1
      cases r2 with
      | tup t r =>
        have ev := Reps.strs r
        subst ev
        exact ⟨_, _, rfl, .inr t.sq, rfl, by simp [flatV], k.now h f (by show Rep K H m (.bl (inV (.str z) (ks.map V.str))) _; rw [inV_str]; exact .bl _)⟩
    | int z =>
      obtain ⟨ks, rfl, f⟩ := f
      cases r1
      cases r2 with
      | tup t r =>
        have ev := Reps.ints' r
        subst ev
        exact ⟨_, _, rfl, .inr t.sq, rfl, by simp [flatV], k.now h f (by show Rep K H m (.bl (inV (.int z) (ks.map V.int))) _; rw [inV_int]; exact .bl _)⟩
    | _ => exact (f : False).elim
  | _ => cases d <;> exact (f : False).elim
theorem e_inT (ha : PE3 X a ta) (hb : PE3 X b tb) (hm : behindInMarks .In b = false := by rfl) : PE3 X (.Compare a [.In] [b] pos) (op3 fInT ta tb) := e_cmpR op_in_seq rl_inT ha hb hm
theorem t_inT (ha : PE3 X a ta) (hb : PE3 X b tb) (hm : behindInMarks .In b = false := by rfl) : PT3 X (.Compare a [.In] [b] pos) (b3 (op3 fInT ta tb)) := t_cmpR op_in_seq rl_inT ha hb hm
/-! ### all of a list of truths -/
theorem Reps.bls : ∀ {K : PySem.W.Frag} {H : Hp} {m : Mem} {vs : List V} {ks : List Bool}, Reps K H m vs (ks.map D.bl) → vs = ks.map V.bl
  | _, _, _, _, [], h => by cases h; rfl
  | _, _, _, _, k :: ks, h => by
    cases h with
    | cons r rr => cases r; rw [Reps.bls rr]; rfl
def fAll : F1 := fun x m P => match x with
  | .lst ds => ∃ ks : List Bool, ds = ks.map D.bl ∧ P (.bl (ks.all id)) m
  | _ => False
theorem e_all (hg : Gl X "all") (hm : X.mg "all" = none) (ha : PE3 X a ta) (hc : X.calm = true := by rfl) (he : starEach [a] X.env = (false, eval a X.env) :: starEach [] X.env := by rfl) (hpl : (backTo pos (starEach [] X.env)).any (·.1) = false := by rfl) : PE3 X (.Call (.Name "all" p) [a] [] pos) (un3 fAll ta) :=
  e_b1 (f := fAll) (cr_all hc) (fun x d H m P Q h r f k => by
    cases d with
    | lst ds =>
      obtain ⟨ks, rfl, f⟩ := f
      cases r with
      | lst t r =>
        have ev := Reps.bls r
        subst ev
        exact ⟨_, ks, rfl, t.sq, k.now h f (.bl _)⟩
    | _ => exact (f : False).elim) hg hm (by decide +kernel) ha (by decide) (by decide) he hpl
end
end D3

set_option Elab.async false
set_option linter.all false
set_option maxRecDepth 100000
set_option maxHeartbeats 4000000
/-! Gm: lists that change: append, extend, pop at a place; a comprehension's list that may change; [x] * n. -/
namespace D3
open PySem L2 PyProof.Rows
section
variable {X : Cx} {pos p apos cpos : Pos} {a b c o e tg : Expr} {ta tb tc : TE3} {x : Str}
def app3 (ta tb : TE3) : TE3 := fun ρ m P => ta ρ m fun x m1 => match x with
  | .ref l => (∃ ds, m1 l = some (.lst ds)) ∧ tb ρ m1 fun y m2 => ∃ ds, m2 l = some (.lst ds) ∧ ds.length ≤ 16000 ∧ P .non (put m2 l (.lst (ds ++ [y])))
  | _ => False
theorem e_append (ho : PE3 X o ta) (hb : PE3 X e tb) (hbase : attributeBase o "append" X.env (eval o X.env) = eval o X.env := by rfl)
    (hfew : ((backTo cpos (starEach [e] X.env)).all (fun x => !x.1) && (backToKw cpos (keywordEach [] X.env)).all (fun x => x.1.isSome)
      && decide ([e].length + ([] : List Keyword).length + (if ([] : List Keyword).isEmpty then 0 else 1) < 30)) = true := by rfl)
    (hline : (apos.endLine == cpos.line) = true := by rfl) (hs : starEach [e] X.env = (false, eval e X.env) :: starEach [] X.env := by rfl) (hplain : (backTo cpos (starEach [] X.env)).any (·.1) = false := by rfl) :
    PE3 X (.Call (.Attribute o "append" apos) [e] [] cpos) (app3 ta tb) := by
  obtain ⟨t1, p1, q1⟩ := ho
  obtain ⟨t2, p2, q2⟩ := hb
  refine ⟨_, pe_bm PySem.F.plainAttrs_list PySem.F.slot_list_append PySem.F.type_list_append mt_append p1 (pa_cons p2 pa_nil hs) hbase hfew hline hs hplain, fun σ H ρ m P Q ok h k => ?_⟩
  refine q1 σ H ρ m _ _ ok h fun v H1 d m1 z1 s1 h1 r1 => ?_
  cases d with
  | ref l =>
    cases r1
    obtain ⟨⟨ds, e1⟩, z2⟩ := z1
    obtain ⟨xs, ex, rx⟩ := h1.lst e1
    refine ⟨.inl ⟨rfl, _, SqL.of ex⟩, ?_⟩
    refine q2 σ H1 ρ m1 _ _ (ok.mv s1 h1) z2 fun w H2 y m2 z3 s2 h2 r2 => ?_
    obtain ⟨ds2, e2, hl, z4⟩ := z3
    obtain ⟨ys, ey, ry⟩ := h2.lst e2
    refine ⟨l, ys, w, rfl, rfl, ey, by rw [ry.length, sizeLine_eq]; omega, ?_⟩
    exact k _ _ _ _ z4 ((s1.trans s2).trans (step_set e2)) (hr_set h2 e2 (show Reps _ _ _ (ys ++ [w]) (ds2 ++ [y]) from ry.append (.cons r2 .nil))) .non
  | _ => exact (z1 : False).elim
/-- l.extend(a list that may change) -/
def ext3 (ta tb : TE3) : TE3 := fun ρ m P => ta ρ m fun x m1 => match x with
  | .ref l => (∃ ds, m1 l = some (.lst ds)) ∧ tb ρ m1 fun y m2 => match y with
    | .ref b => ∃ ds es, m2 l = some (.lst ds) ∧ m2 b = some (.lst es) ∧ ds.length + es.length ≤ 16000 ∧ P .non (put m2 l (.lst (ds ++ es)))
    | _ => False
  | _ => False
theorem e_extend (ho : PE3 X o ta) (hb : PE3 X e tb) (hbase : attributeBase o "extend" X.env (eval o X.env) = eval o X.env := by rfl)
    (hfew : ((backTo cpos (starEach [e] X.env)).all (fun x => !x.1) && (backToKw cpos (keywordEach [] X.env)).all (fun x => x.1.isSome)
      && decide ([e].length + ([] : List Keyword).length + (if ([] : List Keyword).isEmpty then 0 else 1) < 30)) = true := by rfl)
    (hline : (apos.endLine == cpos.line) = true := by rfl) (hs : starEach [e] X.env = (false, eval e X.env) :: starEach [] X.env := by rfl) (hplain : (backTo cpos (starEach [] X.env)).any (·.1) = false := by rfl) :
    PE3 X (.Call (.Attribute o "extend" apos) [e] [] cpos) (ext3 ta tb) := by
  obtain ⟨t1, p1, q1⟩ := ho
  obtain ⟨t2, p2, q2⟩ := hb
  refine ⟨_, pe_bm PySem.F.plainAttrs_list PySem.F.slot_list_extend PySem.F.type_list_extend mt_extend p1 (pa_cons p2 pa_nil hs) hbase hfew hline hs hplain, fun σ H ρ m P Q ok h k => ?_⟩
  refine q1 σ H ρ m _ _ ok h fun v H1 d m1 z1 s1 h1 r1 => ?_
  cases d with
  | ref l =>
    cases r1
    obtain ⟨⟨ds, e1⟩, z2⟩ := z1
    obtain ⟨xs, ex, rx⟩ := h1.lst e1
    refine ⟨.inl ⟨rfl, _, SqL.of ex⟩, ?_⟩
    refine q2 σ H1 ρ m1 _ _ (ok.mv s1 h1) z2 fun w H2 y m2 z3 s2 h2 r2 => ?_
    cases y with
    | ref b =>
      cases r2
      obtain ⟨ds2, es, e2, e3, hl, z4⟩ := z3
      obtain ⟨ys, ey, ry⟩ := h2.lst e2
      obtain ⟨zs, ez, rz⟩ := h2.lst e3
      refine ⟨l, b, ys, zs, rfl, rfl, ey, ez, by rw [ry.length, rz.length, sizeLine_eq]; omega, ?_⟩
      exact k _ _ _ _ z4 ((s1.trans s2).trans (step_set e2)) (hr_set h2 e2 (show Reps _ _ _ (ys ++ zs) (ds2 ++ es) from ry.append rz)) .non
    | _ => exact (z3 : False).elim
  | _ => exact (z1 : False).elim
/-- a list that may change, taken so often: one that may change -/
def rep3 : F2 := fun x y m P => match x, y with
  | .ref l, .int k => ∃ ds, m l = some (.lst ds) ∧ 0 ≤ k ∧ k ≤ 16000 ∧ ds.length * k.toNat ≤ 16000 ∧ ∀ p, m p = none → P (.ref p) (put m p (.lst (List.replicate k.toNat ds).flatten))
  | _, _ => False
theorem Reps.rep {K : PySem.W.Frag} {H : Hp} {m : Mem} {vs : List V} {ds : List D} (r : Reps K H m vs ds) : ∀ n, Reps K H m (List.replicate n vs).flatten (List.replicate n ds).flatten
  | 0 => .nil
  | n + 1 => by
    rw [List.replicate_succ, List.replicate_succ, List.flatten_cons, List.flatten_cons]
    exact r.append (Reps.rep r n)
theorem rl_rep {K : PySem.W.Frag} : RL K rRep rep3 := by
  intro x y d e H m P Q h r1 r2 f k
  cases d with
  | ref l =>
    cases e with
    | int n =>
      obtain ⟨ds, e1, n0, n1, hl, f⟩ := f
      cases r1
      cases r2
      obtain ⟨xs, ex, rx⟩ := h.lst e1
      refine ⟨l, n, xs, rfl, rfl, ex, by omega, by omega, by rw [rx.length, sizeLine_eq]; omega, fun p hp => ?_⟩
      have np : m p = none := h.none hp
      exact k _ _ _ _ (f p np) (step_newM hp) (hr_newM h hp (show Reps _ _ _ _ _ from rx.rep _)) (.ref p)
    | _ => exact (f : False).elim
  | _ => exact (f : False).elim
theorem e_rep (ha : PE3 X a ta) (hb : PE3 X b tb) : PE3 X (.BinOp a .Mult b pos) (op3 rep3 ta tb) := e_op op_rep rl_rep ha hb
end
def lcGoM (i : Nat) (tt : TT3) (te : TE3) (L : Addr) (ρ : Env3) (P : DK) : List D → Mem → Prop
  | [], m => ∃ acc, m L = some (.lst acc) ∧ P (.ref L) m
  | x :: xs, m => ∃ acc, m L = some (.lst acc) ∧ tt (ρ.set i (some x)) m fun b m3 => m3 L = some (.lst acc) ∧
      if b = true then te (ρ.set i (some x)) m3 fun y m4 => m4 L = some (.lst acc) ∧ acc.length < 16000 ∧ lcGoM i tt te L ρ P xs (put m4 L (.lst (acc ++ [y]))) else lcGoM i tt te L ρ P xs m3
def lcM3 (w : TI3) (i : Nat) (tt : TT3) (te : TE3) : TE3 := fun ρ m P => w ρ m fun ds m1 => ∀ L, m1 L = none → lcGoM i tt te L ρ P ds (put m1 L (.lst []))
theorem lcGoM_ind {i : Nat} {te : TE3} {L : Addr} {ρ : Env3} {P : DK} (I : Nat → List D → Mem → Prop)
    (step : ∀ n x acc m (Kt : DK), m L = some (.lst acc) → I (n + 1) acc m → (∀ y m4, m4 L = some (.lst acc) → acc.length < 16000 → I n (acc ++ [y]) (put m4 L (.lst (acc ++ [y]))) → Kt y m4) → te (ρ.set i (some x)) m Kt)
    (done : ∀ acc m, m L = some (.lst acc) → I 0 acc m → P (.ref L) m) : ∀ (xs acc : List D) (m : Mem), m L = some (.lst acc) → I xs.length acc m → lcGoM i yes3 te L ρ P xs m
  | [], acc, m, e, h => ⟨acc, e, done acc m e h⟩
  | x :: xs, acc, m, e, h => ⟨acc, e, e, by
    rw [if_pos rfl]
    exact step xs.length x acc m _ e h fun y m4 e4 hl h4 => ⟨e4, hl, lcGoM_ind I step done xs (acc ++ [y]) _ put_same h4⟩⟩
section
variable {X : Cx} {pos : Pos} {elt iter : Expr} {ifs : List Expr} {scope : Scope} {x : Str} {i : Nat} {p : Pos} {w : TI3} {tt : TT3} {te : TE3}
theorem lcM_el {K : PySem.W.Frag} {wi : TI} {tT : TT} (qi : ∀ σ H ρ m P R, Ok K σ H ρ m → w ρ m P → (∀ J H1 ds m1, P ds m1 → Step H m H1 m1 → HR K H1 m1 → Wlk K J ds H1 m1 → R J H1) → wi σ H R) (htt : TL K tT tt) :
    EL K (tLc wi (gName i) tT (cE K te) [i]) (lcM3 w i tt te) := by
  intro σ H ρ m P Q o h k
  refine qi σ H ρ m _ _ o h fun J H1 ds m1 p1 s1 h1 wk => ?_
  intro L hL
  have mL : m1 L = none := h1.none hL
  have p2 := p1 L mL
  have sA : Step H1 m1 (upd H1 L (.lst [])) (put m1 L (.lst [])) := step_newM hL
  have hA : HR K (upd H1 L (.lst [])) (put m1 L (.lst [])) := hr_newM h1 hL (show Reps _ _ _ [] [] from .nil)
  refine ⟨fun j n H2 => ∃ m2, HR K H2 m2 ∧ Step H1 m1 H2 m2 ∧ lcGoM i tt te L ρ P (ds.drop j) m2 ∧ n = ds.length - j ∧ j ≤ ds.length, ⟨ds.length, _, hA, sA, p2, rfl, Nat.zero_le _⟩, ?_⟩
  rintro j n H2 ⟨m2, h2, s2, f2, rfl, hj⟩
  obtain ⟨wstop, wgo⟩ := wk j H2 m2 s2 h2
  by_cases hlt : j < ds.length
  · obtain ⟨go, yl⟩ := wgo ds[j] (List.getElem?_eq_getElem hlt)
    refine .inr ⟨go, fun H5 => ∃ m5, HR K H5 m5 ∧ Step H1 m1 H5 m5 ∧ lcGoM i tt te L ρ P (ds.drop (j + 1)) m5, fun H5 ⟨m5, a5, b5, c5⟩ => ⟨ds.length - (j + 1), by omega, m5, a5, b5, c5, rfl, hlt⟩, fun v H' y => ?_⟩
    obtain ⟨s3, h3, r3⟩ := yl v H' y
    rw [List.drop_eq_getElem_cons hlt] at f2
    obtain ⟨acc, eL, f3⟩ := f2
    have oB : Ok K ((wipe σ [i]).set i (some v)) H' (ρ.set i (some ds[j])) m2 := by
      have := ((o.mv (s1.trans (s2.trans s3)) h3).forget i).set i r3
      rwa [List.set_set] at this
    refine ⟨?_, ?_⟩
    · show ((σ.set i none).set i (some v)).set i none = σ.set i none
      rw [List.set_set, List.set_set]
    · refine htt _ H' _ m2 _ _ oB f3 fun b H3 m3 p3 s4 h4 => ?_
      obtain ⟨eL3, p3⟩ := p3
      have st3 : Step H1 m1 H3 m3 := s2.trans (s3.trans s4)
      cases b with
      | false => exact ⟨m3, h4, st3, p3⟩
      | true =>
        rw [if_pos rfl] at p3 ⊢
        refine ⟨_, m3, _, oB.mv s4 h4, p3, fun y H4 d m4 p4 s5 h5 r5 => ?_⟩
        obtain ⟨eL4, hlen, p4⟩ := p4
        obtain ⟨xs, e1, rr⟩ := h5.lst eL4
        refine ⟨xs, e1, by rw [rr.length, sizeLine_eq]; omega, put m4 L (.lst (acc ++ [d])), ?_, ?_, p4⟩
        · exact hr_set h5 eL4 (show Reps _ _ _ (xs ++ [y]) (acc ++ [d]) from rr.append (.cons r5 .nil))
        · exact st3.trans (s5.trans (step_set eL4))
  · have e : ds.drop j = [] := List.drop_eq_nil_of_le (by omega)
    rw [e] at f2
    obtain ⟨acc, eL, f3⟩ := f2
    obtain ⟨xs, e1, rr⟩ := h2.lst eL
    exact .inl ⟨wstop (by omega), k _ _ _ _ f3 (s1.trans s2) h2 (.ref L)⟩
theorem lcM_mk {tT : TT} (hc : X.calm = true) (hN : X.N.Nodup) (hi : PI3 X (.Name x p) iter w) (ok : BlkOk X.N X.env.scope scope [(x, i)])
    (hg : ∀ (s : Shared) (H : Hp) (C : Addr) (cl : List (Str × Addr)) (fp : List Addr), PG (X.blk s H scope (compEnvC scope cl C X.env) fp) (.Name x p) (gName i))
    (ht : ∀ (s : Shared) (H : Hp) (C : Addr) (cl : List (Str × Addr)) (fp : List Addr), PTs (X.blk s H scope (compEnvC scope cl C X.env) fp) ifs tT) (htt : TL X.K tT tt)
    (he : ∀ (s : Shared) (H : Hp) (C : Addr) (cl : List (Str × Addr)) (fp : List Addr), PE3 (X.blk s H scope (compEnvC scope cl C X.env) fp) elt te)
    (hs : ∀ z, foldedSetIterable iter X.env z = pure z) : PE3 X (.ListComp elt [⟨.Name x p, iter, ifs, 0⟩] scope pos) (lcM3 w i tt te) := by
  obtain ⟨wi, pi, qi⟩ := hi
  exact ⟨_, pe_lc hc hN pi ok hg ht (te := cE X.K te) (fun s H C cl fp => pe_cE (he s H C cl fp)) hs, lcM_el qi htt⟩
/-- y = [elt for x in iter] -/
theorem lcMS_mk {tT : TT} {j : Nat} {y : Str} {py spos : Pos} (hc : X.calm = true) (hN : X.N.Nodup) (hi : PI3 X (.Name x p) iter w) (ok : BlkOk X.N X.env.scope scope [(x, i)])
    (hg : ∀ (s : Shared) (H : Hp) (C : Addr) (cl : List (Str × Addr)) (fp : List Addr), PG (X.blk s H scope (compEnvC scope cl C X.env) fp) (.Name x p) (gName i))
    (ht : ∀ (s : Shared) (H : Hp) (C : Addr) (cl : List (Str × Addr)) (fp : List Addr), PTs (X.blk s H scope (compEnvC scope cl C X.env) fp) ifs tT) (htt : TL X.K tT tt)
    (he : ∀ (s : Shared) (H : Hp) (C : Addr) (cl : List (Str × Addr)) (fp : List Addr), PE3 (X.blk s H scope (compEnvC scope cl C X.env) fp) elt te)
    (hs : ∀ z, foldedSetIterable iter X.env z = pure z) (hy : X.N[j]? = some y) (hyl : X.env.scope.names.lookup y = some .local) (hsw : swapsWith (.ListComp elt [⟨.Name x p, iter, ifs, 0⟩] scope pos) (some (.Name y py)) spos.line X.env = pure true) :
    PS3 X (.Assign [.Name y py] (.ListComp elt [⟨.Name x p, iter, ifs, 0⟩] scope pos) spos) (asg3 (lcM3 w i tt te) (name3 j)) := by
  obtain ⟨wi, pi, qi⟩ := hi
  refine ⟨_, ps_setLc hc hN hy hyl hsw pi ok hg ht (te := cE X.K te) (fun s H C cl fp => pe_cE (he s H C cl fp)) hs, fun σ H ρ m D3 E o h l => ?_⟩
  refine lcM_el qi htt σ H ρ m _ _ o h fun x H1 d m1 p1 s1 h1 r1 => ?_
  exact l.nx _ H1 _ m1 p1 s1 ((o.mv s1 h1).set j r1)
/-- [elt for x in iter] -/
theorem e_lcM (hc : X.calm = true) (hN : X.N.Nodup) (hi : PI3 X (.Name x p) iter w) (ok : BlkOk X.N X.env.scope scope [(x, i)])
    (he : ∀ (s : Shared) (H : Hp) (C : Addr) (cl : List (Str × Addr)) (fp : List Addr), PE3 (X.blk s H scope (compEnvC scope cl C X.env) fp) elt te)
    (hx : X.N[i]? = some x := by rfl) (hl : (relabel scope X.env).names.lookup x = some .local := by rfl) (hs : ∀ z, foldedSetIterable iter X.env z = pure z := by intro _; rfl) : PE3 X (.ListComp elt [⟨.Name x p, iter, [], 0⟩] scope pos) (lcM3 w i yes3 te) :=
  lcM_mk hc hN hi ok (fun _ _ _ _ _ => pg_name hN hx (.inl hl) (.inr hl)) (fun _ _ _ _ _ => pts_nil) (fun σ H ρ m P Q o h k => k true H m h (Step.refl _ _) o.hr) he hs
theorem e_lcMIf {c : Expr} (hc : X.calm = true) (hN : X.N.Nodup) (hi : PI3 X (.Name x p) iter w) (ok : BlkOk X.N X.env.scope scope [(x, i)])
    (ht : ∀ (s : Shared) (H : Hp) (C : Addr) (cl : List (Str × Addr)) (fp : List Addr), PT3 (X.blk s H scope (compEnvC scope cl C X.env) fp) c tt)
    (he : ∀ (s : Shared) (H : Hp) (C : Addr) (cl : List (Str × Addr)) (fp : List Addr), PE3 (X.blk s H scope (compEnvC scope cl C X.env) fp) elt te)
    (hx : X.N[i]? = some x := by rfl) (hl : (relabel scope X.env).names.lookup x = some .local := by rfl) (hs : ∀ z, foldedSetIterable iter X.env z = pure z := by intro _; rfl) : PE3 X (.ListComp elt [⟨.Name x p, iter, [c], 0⟩] scope pos) (lcM3 w i tt te) :=
  lcM_mk (tT := cT X.K tt) hc hN hi ok (fun _ _ _ _ _ => pg_name hN hx (.inl hl) (.inr hl)) (fun s H C cl fp => pts_one (pt_cT (ht s H C cl fp))) (fun σ H ρ m P Q o h k => ⟨ρ, m, P, o, h, k⟩) he hs
theorem s_lcM {j : Nat} {y : Str} {py spos : Pos} (hc : X.calm = true) (hN : X.N.Nodup) (hi : PI3 X (.Name x p) iter w) (ok : BlkOk X.N X.env.scope scope [(x, i)])
    (he : ∀ (s : Shared) (H : Hp) (C : Addr) (cl : List (Str × Addr)) (fp : List Addr), PE3 (X.blk s H scope (compEnvC scope cl C X.env) fp) elt te)
    (hsw : swapsWith (.ListComp elt [⟨.Name x p, iter, [], 0⟩] scope pos) (some (.Name y py)) spos.line X.env = pure true) (hy : X.N[j]? = some y := by rfl) (hyl : X.env.scope.names.lookup y = some .local := by rfl)
    (hx : X.N[i]? = some x := by rfl) (hl : (relabel scope X.env).names.lookup x = some .local := by rfl) (hs : ∀ z, foldedSetIterable iter X.env z = pure z := by intro _; rfl) :
    PS3 X (.Assign [.Name y py] (.ListComp elt [⟨.Name x p, iter, [], 0⟩] scope pos) spos) (asg3 (lcM3 w i yes3 te) (name3 j)) :=
  lcMS_mk hc hN hi ok (fun _ _ _ _ _ => pg_name hN hx (.inl hl) (.inr hl)) (fun _ _ _ _ _ => pts_nil) (fun σ H ρ m P Q o h k => k true H m h (Step.refl _ _) o.hr) he hs hy hyl hsw
theorem s_lcMIf {c : Expr} {j : Nat} {y : Str} {py spos : Pos} (hc : X.calm = true) (hN : X.N.Nodup) (hi : PI3 X (.Name x p) iter w) (ok : BlkOk X.N X.env.scope scope [(x, i)])
    (ht : ∀ (s : Shared) (H : Hp) (C : Addr) (cl : List (Str × Addr)) (fp : List Addr), PT3 (X.blk s H scope (compEnvC scope cl C X.env) fp) c tt)
    (he : ∀ (s : Shared) (H : Hp) (C : Addr) (cl : List (Str × Addr)) (fp : List Addr), PE3 (X.blk s H scope (compEnvC scope cl C X.env) fp) elt te)
    (hsw : swapsWith (.ListComp elt [⟨.Name x p, iter, [c], 0⟩] scope pos) (some (.Name y py)) spos.line X.env = pure true) (hy : X.N[j]? = some y := by rfl) (hyl : X.env.scope.names.lookup y = some .local := by rfl)
    (hx : X.N[i]? = some x := by rfl) (hl : (relabel scope X.env).names.lookup x = some .local := by rfl) (hs : ∀ z, foldedSetIterable iter X.env z = pure z := by intro _; rfl) :
    PS3 X (.Assign [.Name y py] (.ListComp elt [⟨.Name x p, iter, [c], 0⟩] scope pos) spos) (asg3 (lcM3 w i tt te) (name3 j)) :=
  lcMS_mk (tT := cT X.K tt) hc hN hi ok (fun _ _ _ _ _ => pg_name hN hx (.inl hl) (.inr hl)) (fun s H C cl fp => pts_one (pt_cT (ht s H C cl fp))) (fun σ H ρ m P Q o h k => ⟨ρ, m, P, o, h, k⟩) he hs hy hyl hsw
end
end D3

set_option Elab.async false
set_option linter.all false
/-! DyM: whole numbers halved so often: plain mathematics. -/
namespace DyM
open PySem

theorem pow_pos' (k : Nat) : (0 : Int) < 2 ^ k := PySem.W.kbt_pos k
theorem pow_succ' (k : Nat) : (2 : Int) ^ (k + 1) = 2 * 2 ^ k := by rw [Int.pow_succ, Int.mul_comm]
theorem pow_add' (a b : Nat) : (2 : Int) ^ (a + b) = 2 ^ a * 2 ^ b := Int.pow_add 2 a b

/-- the one form of t halved n times -/
def nrm : Nat → Int → Int × Nat
  | 0, t => (t, 0)
  | n + 1, t => if t % 2 = 0 then nrm n (t / 2) else (t, n + 1)
/-- the form -/
def Frm (p : Int × Nat) : Prop := p.2 = 0 ∨ p.1 % 2 = 1
theorem nrm_le : ∀ (n : Nat) (t : Int), (nrm n t).2 ≤ n
  | 0, t => Nat.le_refl 0
  | n + 1, t => by
    unfold nrm
    split
    · exact Nat.le_succ_of_le (nrm_le n _)
    · exact Nat.le_refl _
theorem nrm_frm : ∀ (n : Nat) (t : Int), Frm (nrm n t)
  | 0, t => .inl rfl
  | n + 1, t => by
    unfold nrm
    split
    · exact nrm_frm n _
    · refine .inr ?_
      show t % 2 = 1
      omega
theorem nrm_val : ∀ (n : Nat) (t : Int), (nrm n t).1 * 2 ^ (n - (nrm n t).2) = t
  | 0, t => by
    show t * 2 ^ (0 - 0) = t
    simp
  | n + 1, t => by
    unfold nrm
    split
    · rename_i h
      have ih := nrm_val n (t / 2)
      have hl := nrm_le n (t / 2)
      rw [show n + 1 - (nrm n (t / 2)).2 = (n - (nrm n (t / 2)).2) + 1 by omega, pow_succ', Int.mul_left_comm, ih]
      omega
    · show t * 2 ^ (n + 1 - (n + 1)) = t
      simp
theorem nrm_uniq : ∀ (n : Nat) (t a : Int) (d : Nat), d ≤ n → a * 2 ^ (n - d) = t → (d = 0 ∨ a % 2 = 1) → nrm n t = (a, d)
  | 0, t, a, d, hd, h, hf => by
    have e : d = 0 := by omega
    subst e
    have h' : a = t := by simpa using h
    rw [h']
    rfl
  | n + 1, t, a, d, hd, h, hf => by
    unfold nrm
    by_cases e : d = n + 1
    · subst e
      have h' : a = t := by simpa using h
      subst h'
      have h2 : a % 2 = 1 := by
        rcases hf with z | z
        · omega
        · exact z
      rw [if_neg (by omega)]
    · have hd' : d ≤ n := by omega
      have e1 : t = 2 * (a * 2 ^ (n - d)) := by
        rw [← h, show n + 1 - d = (n - d) + 1 by omega, pow_succ', Int.mul_left_comm]
      rw [if_pos (by omega)]
      exact nrm_uniq n (t / 2) a d hd' (by omega) hf
theorem nrm_zero (n : Nat) : nrm n 0 = (0, 0) := nrm_uniq n 0 0 0 (Nat.zero_le _) (by simp) (.inl rfl)
theorem nrm_id {p : Int × Nat} (h : Frm p) : nrm p.2 p.1 = p := nrm_uniq p.2 p.1 p.1 p.2 (Nat.le_refl _) (by simp) h
/-- t halved n times and t 2 ^ k halved n + k times are one -/
theorem nrm_shift (n k : Nat) (t : Int) : nrm (n + k) (t * 2 ^ k) = nrm n t := by
  have h1 := nrm_val n t
  have h2 := nrm_le n t
  refine nrm_uniq (n + k) _ _ _ (by omega) ?_ (nrm_frm n t)
  rw [show n + k - (nrm n t).2 = (n - (nrm n t).2) + k by omega, pow_add', ← Int.mul_assoc, h1]
theorem nrm_neg (n : Nat) (t : Int) : nrm n (-t) = (-(nrm n t).1, (nrm n t).2) := by
  refine nrm_uniq n _ _ _ (nrm_le n t) ?_ ?_
  · rw [Int.neg_mul, nrm_val]
  · rcases nrm_frm n t with h | h
    · exact .inl h
    · exact .inr (by show -(nrm n t).1 % 2 = 1; omega)
/-- two are one just where the crosswise products are -/
theorem frm_eq {p q : Int × Nat} (hp : Frm p) (hq : Frm q) (h : p.1 * 2 ^ q.2 = q.1 * 2 ^ p.2) : p = q := by
  have a : nrm (p.2 + q.2) (p.1 * 2 ^ q.2) = p := by rw [nrm_shift, nrm_id hp]
  have b : nrm (q.2 + p.2) (q.1 * 2 ^ p.2) = q := by rw [nrm_shift, nrm_id hq]
  have c : nrm (p.2 + q.2) (p.1 * 2 ^ q.2) = nrm (q.2 + p.2) (q.1 * 2 ^ p.2) := by rw [h, Nat.add_comm]
  exact a.symm.trans (c.trans b)
theorem nrm_eq {n k : Nat} {t u : Int} (h : t * 2 ^ k = u * 2 ^ n) : nrm n t = nrm k u := by
  rw [← nrm_shift n k t, ← nrm_shift k n u, h, Nat.add_comm]

/-! ### the lowest bit -/
theorem low_ex : ∀ (k : Nat) (t : Int), t.natAbs ≤ k → t ≠ 0 → ∃ (v : Nat) (a : Int), t = 2 ^ v * (2 * a + 1)
  | 0, t, h, h0 => absurd (Int.natAbs_eq_zero.mp (by omega)) h0
  | k + 1, t, h, h0 => by
    by_cases e : t % 2 = 0
    · obtain ⟨v, a, e1⟩ := low_ex k (t / 2) (by omega) (by omega)
      refine ⟨v + 1, a, ?_⟩
      rw [pow_succ', Int.mul_assoc, ← e1]
      omega
    · refine ⟨0, t / 2, ?_⟩
      rw [Int.pow_zero, Int.one_mul]
      omega
theorem bits_pow (v : Nat) : Builtin.Int.intBits ((2 : Int) ^ v) = v + 1 := by
  unfold Builtin.Int.intBits
  have hp := pow_pos' v
  rw [if_neg (by simpa using (show (2 : Int) ^ v ≠ 0 by omega))]
  have e : ((2 : Int) ^ v).natAbs = 2 ^ v := by
    rw [← PySem.W.kbt_cast v, Int.natAbs_natCast]
  rw [e, Nat.log2_two_pow]
/-- what the program's dyadic reckons -/
theorem dy_eq {top down : Int} (h0 : top ≠ 0) (hd : 0 ≤ down) {h : Int}
    (hh : h = if (Builtin.Int.intBits (Builtin.bitAnd top (0 - top)) : Int) - 1 < down then (Builtin.Int.intBits (Builtin.bitAnd top (0 - top)) : Int) - 1 else down) :
    0 ≤ h ∧ top / 2 ^ h.toNat = (nrm down.toNat top).1 ∧ down - h = ((nrm down.toNat top).2 : Int) := by
  obtain ⟨v, a, e⟩ := low_ex top.natAbs top (Nat.le_refl _) h0
  have eb : Builtin.bitAnd top (0 - top) = 2 ^ v := by
    rw [e, Int.zero_sub]
    exact PySem.W.kbt_low v a
  rw [eb, bits_pow] at hh
  have hv : ((v + 1 : Nat) : Int) - 1 = (v : Int) := by omega
  rw [hv] at hh
  by_cases c : (v : Int) < down
  · rw [if_pos c] at hh
    subst hh
    have en : nrm down.toNat top = (2 * a + 1, down.toNat - v) := by
      refine nrm_uniq _ _ _ _ (by omega) ?_ (.inr (by omega))
      rw [show down.toNat - (down.toNat - v) = v by omega, e, Int.mul_comm]
    rw [en, Int.toNat_natCast]
    refine ⟨by omega, ?_, by show down - (v : Int) = ((down.toNat - v : Nat) : Int); omega⟩
    show top / 2 ^ v = 2 * a + 1
    rw [e]
    exact Int.mul_ediv_cancel_left _ (by have := pow_pos' v; omega)
  · rw [if_neg c] at hh
    subst hh
    have e2 : top = (2 ^ (v - h.toNat) * (2 * a + 1)) * 2 ^ h.toNat := by
      rw [e, Int.mul_right_comm, ← pow_add', show v - h.toNat + h.toNat = v by omega]
    have en : nrm h.toNat top = (2 ^ (v - h.toNat) * (2 * a + 1), 0) := by
      refine nrm_uniq _ _ _ _ (Nat.zero_le _) ?_ (.inl rfl)
      rw [Nat.sub_zero]
      exact e2.symm
    rw [en]
    refine ⟨hd, ?_, by show h - h = ((0 : Nat) : Int); omega⟩
    show top / 2 ^ h.toNat = 2 ^ (v - h.toNat) * (2 * a + 1)
    conv => lhs; rw [e2]
    exact Int.mul_ediv_cancel _ (by have := pow_pos' h.toNat; omega)

/-! ### sizes -/
theorem shl_c {i j : Int} {n : Nat} (h : i.natAbs < 2 ^ n) (h0 : 0 ≤ j) (hn : (n : Int) + j ≤ 134217728) : L2.CShl i j := by
  obtain ⟨k, rfl⟩ := Int.eq_ofNat_of_zero_le h0
  exact L2.shl_ok h (by omega)
theorem mul_c {i j : Int} {a b : Nat} (ha : i.natAbs < 2 ^ a) (hb : j.natAbs < 2 ^ b) (h : a + b ≤ 134217728) : L2.CMulX i j := L2.mulx_ok ha hb h
theorem noPy {i j : Int} {b : Nat} (hb : j.natAbs < 2 ^ b) (h0 : 0 < b) (h9 : b ≤ 9000) : Builtin.divisionGoesByPylong i j = false :=
  PyProof.noPylong_of_log2 (Nat.lt_of_lt_of_le (PySem.Flt.log2_lt_of h0 hb) h9)
theorem abs_mul_lt {i j : Int} {a b : Nat} (ha : i.natAbs < 2 ^ a) (hb : j.natAbs < 2 ^ b) : (i * j).natAbs < 2 ^ (a + b) := L2.wide_lt ha hb
theorem abs_shl_lt {i : Int} {a k : Nat} (ha : i.natAbs < 2 ^ a) : (i * 2 ^ k).natAbs < 2 ^ (a + k) := by
  rw [Int.natAbs_mul, Int.natAbs_pow, Nat.pow_add]
  exact Nat.mul_lt_mul_of_pos_right ha (Nat.two_pow_pos k)
theorem pow_mono {a b : Nat} (h : a ≤ b) : 2 ^ a ≤ 2 ^ b := Nat.pow_le_pow_right (by decide) h
theorem lt_pow {x a b : Nat} (h : x < 2 ^ a) (hab : a ≤ b) : x < 2 ^ b := Nat.lt_of_lt_of_le h (pow_mono hab)
theorem nrm_abs (n : Nat) (t : Int) : (nrm n t).1.natAbs ≤ t.natAbs := by
  have h := nrm_val n t
  have hp := Nat.two_pow_pos (n - (nrm n t).2)
  have e : t.natAbs = (nrm n t).1.natAbs * 2 ^ (n - (nrm n t).2) := by
    conv => lhs; rw [← h]
    rw [Int.natAbs_mul, Int.natAbs_pow]
    rfl
  rw [e]
  exact Nat.le_mul_of_pos_right _ hp
/-! ### the greatest divisor -/
theorem gcd_step {x y : Int} (hx : 0 ≤ x) (hy : 0 < y) : Int.gcd y (x % y) = Int.gcd x y := by
  obtain ⟨a, rfl⟩ := Int.eq_ofNat_of_zero_le hx
  obtain ⟨b, rfl⟩ := Int.eq_ofNat_of_zero_le (show 0 ≤ y by omega)
  rw [← Int.natCast_emod]
  show Nat.gcd b (a % b) = Nat.gcd a b
  rw [Nat.gcd_comm b, ← Nat.gcd_rec, Nat.gcd_comm]
theorem gcd_abs (a b : Int) : Int.gcd (if a < 0 then -a else a) (if b < 0 then -b else b) = Int.gcd a b := by
  split <;> split <;> simp [Int.gcd_neg, Int.neg_gcd]
/-- a / g, b / g -/
theorem frac_div {a b g : Int} (hb : b ≠ 0) (hg : g = (Int.gcd a b : Nat)) : 0 < g ∧ a / g * g = a ∧ b / g * g = b ∧ Int.gcd (a / g) (b / g) = 1 ∧ (a / g).natAbs ≤ a.natAbs ∧ (b / g).natAbs ≤ b.natAbs := by
  have h0 : 0 < Int.gcd a b := Int.gcd_pos_of_ne_zero_right a hb
  have d1 : g ∣ a := by rw [hg]; exact Int.gcd_dvd_left a b
  have d2 : g ∣ b := by rw [hg]; exact Int.gcd_dvd_right a b
  have e1 := Int.ediv_mul_cancel d1
  have e2 := Int.ediv_mul_cancel d2
  have hgp : 0 < g := by omega
  refine ⟨hgp, e1, e2, ?_, ?_, ?_⟩
  · rw [hg]
    exact Int.gcd_ediv_gcd_ediv_gcd h0
  · conv => rhs; rw [← e1]
    rw [Int.natAbs_mul]
    exact Nat.le_mul_of_pos_right _ (by omega)
  · conv => rhs; rw [← e2]
    rw [Int.natAbs_mul]
    exact Nat.le_mul_of_pos_right _ (by omega)
theorem floor_facts {X b : Int} (hb : 0 < b) : X / b * b ≤ X ∧ X < (X / b + 1) * b := by
  have h1 := Int.ediv_mul_le X (show b ≠ 0 by omega)
  have h2 := Int.lt_ediv_add_one_mul_self X hb
  exact ⟨h1, h2⟩
theorem ceil_facts {X b : Int} (hb : 0 < b) : X ≤ (0 - (0 - X) / b) * b ∧ (0 - (0 - X) / b - 1) * b < X := by
  obtain ⟨h1, h2⟩ := floor_facts (X := 0 - X) hb
  generalize (0 - X) / b = q at h1 h2
  constructor <;> grind
theorem floor_ceil {X b : Int} (hb : 0 < b) : (X / b = 0 - (0 - X) / b) ↔ X % b = 0 := by
  obtain ⟨h1, h2⟩ := floor_facts (X := X) hb
  obtain ⟨h3, h4⟩ := ceil_facts (X := X) hb
  have e := Int.emod_add_mul_ediv X b
  generalize 0 - (0 - X) / b = c at h3 h4 ⊢
  constructor
  · intro z
    rw [← z, Int.mul_comm] at h3
    have := Int.emod_nonneg X (show b ≠ 0 by omega)
    omega
  · intro z
    have e2 : X = X / b * b := by rw [Int.mul_comm]; omega
    have h5 : (c - 1) * b < X / b * b := by omega
    have h6 : X / b * b ≤ c * b := by omega
    have h7 := Int.lt_of_mul_lt_mul_right h5 (by omega)
    have h8 := Int.le_of_mul_le_mul_right h6 hb
    omega
theorem nrm_inj {n : Nat} {t u : Int} (h : nrm n t = nrm n u) : t = u := by
  rw [← nrm_val n t, ← nrm_val n u, h]
theorem fmod_b (a : Int) {b : Int} (h : 0 < b) : 0 ≤ a.fmod b ∧ a.fmod b < b := by
  rw [Int.fmod_eq_emod_of_nonneg a (by omega)]
  exact ⟨Int.emod_nonneg a (by omega), Int.emod_lt_of_pos a h⟩
theorem fmod_e (a : Int) {b : Int} (h : 0 < b) : a.fmod b = a % b := Int.fmod_eq_emod_of_nonneg a (by omega)
theorem fdiv_e (a : Int) {b : Int} (h : 0 < b) : a.fdiv b = a / b := Int.fdiv_eq_ediv_of_nonneg a (by omega)
theorem c_fdiv {i j : Int} {b : Nat} (h : 0 < j) (hb : j.natAbs < 2 ^ b) (h0 : 0 < b) (h9 : b ≤ 9000) : D3.CFdiv i j := ⟨by omega, noPy hb h0 h9⟩
theorem c_mul64 {i j : Int} (ha : i.natAbs < 2 ^ 64) (hb : j.natAbs < 2 ^ 64) : L2.CMulX i j := mul_c ha hb (by decide)
theorem c_pow {i j : Int} (h0 : 0 ≤ j) (h1 : j ≤ 1000000) (h : i.natAbs < 2 ^ 64) : L2.CPow i j := ⟨h0, h1, h⟩
end DyM

set_option Elab.async false
set_option linter.all false
set_option maxHeartbeats 4000000
/-! Deck: what the laws draw by. -/
namespace LK
open PySem L2 D3 DyM
/-- a deck with room for n more draws -/
def DeckAt (m : Mem) (p : Addr) (n : Nat) : Prop := ∃ a b c : Int, m p = some (.lst [.int a, .int b, .int c]) ∧ 0 ≤ b ∧ b < 2147483648 ∧ 0 ≤ c ∧ c + n ≤ 1000000000
theorem DeckAt.le {m : Mem} {p : Addr} {n k : Nat} (h : DeckAt m p n) (hk : k ≤ n) : DeckAt m p k := by
  obtain ⟨a, b, c, h1, h2, h3, h4, h5⟩ := h
  exact ⟨a, b, c, h1, h2, h3, h4, by omega⟩
/-- nothing but p has changed -/
def Off (p : Addr) (m m' : Mem) : Prop := ∀ q, q ≠ p → m' q = m q
theorem Off.refl (p : Addr) (m : Mem) : Off p m m := fun _ _ => rfl
theorem Off.trans {p : Addr} {m m1 m2 : Mem} (a : Off p m m1) (b : Off p m1 m2) : Off p m m2 := fun q h => (b q h).trans (a q h)
theorem Off.put {p : Addr} {m : Mem} {o : MO} : Off p m (put m p o) := fun _ h => put_ne h
def sp_deck : Sp3 := fun ds m P => ∃ cell : Int, ds = [.int cell, .int 0] ∧ ∀ p m', m p = none → Off p m m' → DeckAt m' p 1000000000 → P (.ref p) m'
def sp_pick : Sp3 := fun ds m P => ∃ (p : Addr) (many : Int) (n : Nat), ds = [.ref p, .int many] ∧ DeckAt m p (n + 1) ∧ 0 < many ∧ many.natAbs < 2 ^ 9000 ∧ ∀ r m', 0 ≤ r → r < many → Off p m m' → DeckAt m' p n → P (.int r) m'
theorem sp_pick_i {m : Mem} {P : DK} {p : Addr} {many : Int} (n : Nat) (h : DeckAt m p (n + 1)) (h0 : 0 < many) (hl : many < 2 ^ 100) (k : ∀ r m', 0 ≤ r → r < many → Off p m m' → DeckAt m' p n → P (.int r) m') : sp_pick [.ref p, .int many] m P :=
  ⟨p, many, n, rfl, h, h0, Nat.lt_of_lt_of_le (show many.natAbs < 2 ^ 100 by omega) (pow_mono (by decide)), k⟩
theorem DeckAt.ne {m : Mem} {p s : Addr} {n : Nat} (h : DeckAt m p n) (hs : m s = none) : p ≠ s := fun e => by
  obtain ⟨a, b, c, h1, _⟩ := h
  rw [e, hs] at h1
  cases h1
theorem DeckAt.put {m : Mem} {p s : Addr} {n : Nat} {o : MO} (h : DeckAt m p n) (hs : p ≠ s) : DeckAt (put m s o) p n := by
  obtain ⟨a, b, c, h1, h2⟩ := h
  exact ⟨a, b, c, by rw [put_ne hs]; exact h1, h2⟩
theorem DeckAt.del {m : Mem} {p s : Addr} {n : Nat} (h : DeckAt m p n) (hs : p ≠ s) : DeckAt (del m s) p n := by
  obtain ⟨a, b, c, h1, h2⟩ := h
  exact ⟨a, b, c, by unfold D3.del; rw [if_neg hs]; exact h1, h2⟩
theorem DeckAt.off {m m' : Mem} {p s : Addr} {n : Nat} (h : DeckAt m p n) (o : Off s m m') (hs : p ≠ s) : DeckAt m' p n := by
  obtain ⟨a, b, c, h1, h2⟩ := h
  exact ⟨a, b, c, by rw [o p hs]; exact h1, h2⟩
end LK

set_option Elab.async false
set_option linter.all false
set_option maxRecDepth 100000
set_option maxHeartbeats 4000000
/-! Tm: terms as data, in plain mathematics. -/
namespace LK
open PySem L2 D3 DyM
def K2 : List Str := ["plus", "minus", "times", "over", "least", "most"]
def K1 : List Str := ["size", "e", "log", "arc", "sine", "cosine"]
def isFr : D → Bool
  | .tup [.int a, .int b] => decide (0 < b ∧ Int.gcd a b = 1)
  | _ => false
def isNm : D → Bool
  | .str s => decide (1 ≤ s.length ∧ s.length ≤ 8 ∧ s ≠ "pi") && s.cps.toList.all fun c => decide (97 ≤ c ∧ c ≤ 122)
  | _ => false
def frLt : D → D → Bool
  | .tup [.int a, .int b], .tup [.int c, .int d] => decide (a * d < c * b)
  | _, _ => false
/-- what has to be terms within a thing -/
def inn2 (h : Str) (r : List D) : Option (List D) :=
  if h ∈ K2 then (if r.length = 2 then some r else none)
  else if h ∈ K1 then (if r.length = 1 then some r else none)
  else if h = "pi" then (if r.length = 0 then some [] else none)
  else if h = "number" then (match r with
    | [q] => if isFr q = true then some [] else none
    | _ => none)
  else if h = "name" then (match r with
    | [q] => if isNm q = true then some [] else none
    | _ => none)
  else if h = "root" then (match r with
    | [.int k, t] => if 2 ≤ k ∧ k ≤ 5 then some [t] else none
    | _ => none)
  else if h = "limit" then (match r with
    | [n, a, b, t] => if isNm n && (isFr a && (isFr b && frLt a b)) = true then some [t] else none
    | _ => none)
  else none
def inn : D → Option (List D)
  | .tup (.str h :: r) => inn2 h r
  | _ => none
def isLim : D → Bool
  | .tup (.str h :: _) => decide (h = "limit")
  | _ => false
def sumO {α : Type} (f : α → Option Nat) : List α → Option Nat
  | [] => some 0
  | d :: ds => match f d, sumO f ds with
    | some a, some b => some (a + b)
    | _, _ => none
/-- how many parts, in so many floors -/
def tree : Nat → Bool → D → Option Nat
  | 0, _, _ => none
  | k + 1, ins, d => match inn d with
    | none => none
    | some ps => if (ins && isLim d) = true then none else (sumO (tree k (ins || isLim d)) ps).map (1 + ·)
def lim (o : Option Nat) : Option Nat := o.bind fun n => if n ≤ 30 then some n else none
def termD (d : D) : Bool := (lim (tree 12 false d)).isSome
/-- the program's sum over the parts -/
def addUp (f : D → Option Nat) : Nat → List D → Option Nat
  | t, [] => some t
  | t, d :: ds => match lim (f d) with
    | none => none
    | some n => if t + n > 30 then none else addUp f (t + n) ds
theorem addUp_eq (f : D → Option Nat) : ∀ (ds : List D) (t : Nat), t ≤ 30 → addUp f t ds = lim ((sumO f ds).map (t + ·))
  | [], t, h => by simp [addUp, sumO, lim, h]
  | d :: ds, t, h => by
    cases e : f d with
    | none => simp [addUp, sumO, lim, e]
    | some n =>
      simp only [addUp, e]
      by_cases hn : n ≤ 30
      · have e1 : lim (some n) = some n := by simp [lim, hn]
        rw [e1]
        simp only
        by_cases ht : t + n > 30
        · rw [if_pos ht]
          cases e2 : sumO f ds with
          | none => simp [sumO, e, e2, lim]
          | some k =>
            simp only [sumO, e, e2, lim, Option.map_some, Option.bind_some]
            rw [if_neg (by omega)]
        · rw [if_neg ht, addUp_eq f ds (t + n) (by omega)]
          cases e2 : sumO f ds with
          | none => simp [sumO, e, e2, lim]
          | some k => simp only [sumO, e, e2, Option.map_some, Nat.add_assoc]
      · have e1 : lim (some n) = none := by simp [lim, hn]
        rw [e1]
        cases e2 : sumO f ds with
        | none => simp [sumO, e, e2, lim]
        | some k =>
          simp only [sumO, e, e2, lim, Option.map_some, Option.bind_some]
          rw [if_neg (by omega)]
theorem sumO_app {α : Type} (f : α → Option Nat) : ∀ xs ys : List α, sumO f (xs ++ ys) = match sumO f xs, sumO f ys with
    | some a, some b => some (a + b)
    | _, _ => none
  | [], ys => by
    show sumO f ys = _
    simp only [sumO]
    cases sumO f ys <;> simp
  | x :: xs, ys => by
    show sumO f (x :: (xs ++ ys)) = _
    simp only [sumO]
    rw [sumO_app f xs ys]
    cases f x <;> cases sumO f xs <;> cases sumO f ys <;> simp [Nat.add_assoc]
theorem tree_pos : ∀ {k : Nat} {i : Bool} {d : D} {n : Nat}, tree k i d = some n → 1 ≤ n
  | 0, _, _, _, h => by cases h
  | k + 1, i, d, n, h => by
    unfold tree at h
    split at h
    · cases h
    · split at h
      · cases h
      · rw [Option.map_eq_some_iff] at h
        obtain ⟨a, _, rfl⟩ := h
        omega
/-- the law's worklist: each thing with its floor and whether it stands in a limit -/
abbrev Job := D × Nat × Bool
def jobT (j : Job) : Option Nat := tree (13 - j.2.1) j.2.2 j.1
def kids (j : Job) (ps : List D) : List Job := ps.map fun p => (p, j.2.1 + 1, j.2.2 || isLim j.1)
theorem sum_kids (j : Job) (k : Nat) (hk : 13 - (j.2.1 + 1) = k) : ∀ ps : List D, sumO jobT (kids j ps) = sumO (tree k (j.2.2 || isLim j.1)) ps
  | [] => rfl
  | p :: ps => by
    show sumO jobT ((p, j.2.1 + 1, j.2.2 || isLim j.1) :: kids j ps) = _
    simp only [sumO]
    rw [sum_kids j k hk ps]
    have e : jobT (p, j.2.1 + 1, j.2.2 || isLim j.1) = tree k (j.2.2 || isLim j.1) p := by
      show tree (13 - (j.2.1 + 1)) _ _ = _
      rw [hk]
    rw [e]
/-- what the worklist comes to -/
def comes (at_ : Nat) (js : List Job) : Bool := match sumO jobT js with
  | some n => decide (at_ + n ≤ 30)
  | none => false
theorem comes_stop (n : Nat) : comes n [] = decide (n ≤ 30) := rfl
theorem sum_ge : ∀ {js : List Job} {n : Nat}, sumO jobT js = some n → js.length ≤ n
  | [], _, _ => Nat.zero_le _
  | j :: js, n, h => by
    simp only [sumO] at h
    split at h
    · rename_i a b e1 e2
      cases h
      have := tree_pos e1
      have := sum_ge e2
      simp only [List.length_cons]
      omega
    · cases h
theorem comes_long {at_ : Nat} {js : List Job} (h : 30 < at_ + js.length) : comes at_ js = false := by
  unfold comes
  split
  · rename_i n e
    have := sum_ge e
    exact decide_eq_false (by omega)
  · rfl
theorem comes_bad {at_ : Nat} {j : Job} {js : List Job} (h : inn j.1 = none ∨ 12 < j.2.1 ∨ (j.2.2 && isLim j.1) = true) : comes at_ (j :: js) = false := by
  have e : jobT j = none := by
    unfold jobT
    rcases h with h | h | h
    · cases 13 - j.2.1 with
      | zero => rfl
      | succ k => unfold tree; rw [h]
    · rw [show 13 - j.2.1 = 0 by omega]; rfl
    · cases 13 - j.2.1 with
      | zero => rfl
      | succ k =>
        unfold tree
        split
        · rfl
        · rw [if_pos h]
  unfold comes
  simp only [sumO, e]
theorem comes_go {at_ : Nat} {j : Job} {js : List Job} {ps : List D} (h1 : inn j.1 = some ps) (h2 : j.2.1 ≤ 12) (h3 : (j.2.2 && isLim j.1) = false) : comes at_ (j :: js) = comes (at_ + 1) (js ++ kids j ps) := by
  have e : jobT j = (sumO jobT (kids j ps)).map (1 + ·) := by
    show tree (13 - j.2.1) j.2.2 j.1 = _
    obtain ⟨k, hk⟩ : ∃ k, 13 - j.2.1 = k + 1 := ⟨12 - j.2.1, by omega⟩
    rw [sum_kids j k (by omega) ps, hk]
    unfold tree
    rw [h1]
    simp only
    rw [if_neg (by rw [h3]; exact Bool.false_ne_true)]
  unfold comes
  rw [sumO_app]
  simp only [sumO, e]
  cases sumO jobT (kids j ps) with
  | none => cases sumO jobT js <;> simp
  | some a =>
    cases sumO jobT js with
    | none => simp
    | some b =>
      simp only [Option.map_some]
      congr 1
      apply propext
      constructor <;> intro <;> omega
theorem comes_all (d : D) : comes 0 [(d, 1, false)] = termD d := by
  unfold comes termD lim
  simp only [sumO]
  show (match (match tree 12 false d, some 0 with | some a, some b => some (a + b) | _, _ => none) with | some n => decide (0 + n ≤ 30) | none => false) = _
  cases tree 12 false d with
  | none => rfl
  | some n =>
    simp only [Nat.add_zero, Nat.zero_add, Option.bind_some]
    by_cases h : n ≤ 30 <;> simp [h]
end LK

set_option Elab.async false
set_option linter.all false
set_option maxRecDepth 100000
set_option maxHeartbeats 4000000
/-! Gn: whole numbers and truths reckoned together; comprehensions that keep some; promises joined. -/
namespace D3
open PySem L2 PyProof.Rows
def b2 (b : Bool) : Int := if b = true then 1 else 0
section
variable {X : Cx} {pos p : Pos} {a b : Expr} {ta tb : TE3}
/-- a number or truth on the left -/
def rNL (C : Int → Int → Prop) (g : Int → Int → Int) : R2 := fun x y H Q => ∃ j, y = .int j ∧ ((∃ i, x = .int i ∧ C i j ∧ Q (.int (g i j)) H) ∨ (∃ b, x = .bl b ∧ Q (.int (g (b2 b) j)) H))
/-- on the right -/
def rNR (C : Int → Int → Prop) (g : Int → Int → Int) : R2 := fun x y H Q => ∃ i, x = .int i ∧ ((∃ j, y = .int j ∧ C i j ∧ Q (.int (g i j)) H) ∨ (∃ b, y = .bl b ∧ Q (.int (g i (b2 b))) H))
def fNL (C : Int → Int → Prop) (g : Int → Int → Int) : F2 := fun x y m P => match x, y with
  | .int i, .int j => C i j ∧ P (.int (g i j)) m
  | .bl b, .int j => P (.int (g (b2 b) j)) m
  | _, _ => False
def fNR (C : Int → Int → Prop) (g : Int → Int → Int) : F2 := fun x y m P => match x, y with
  | .int i, .int j => C i j ∧ P (.int (g i j)) m
  | .int i, .bl b => P (.int (g i (b2 b))) m
  | _, _ => False
theorem fNL_i {C : Int → Int → Prop} {g : Int → Int → Int} {i j : Int} {m : Mem} {P : DK} : fNL C g (.int i) (.int j) m P = (C i j ∧ P (.int (g i j)) m) := rfl
theorem fNL_b {C : Int → Int → Prop} {g : Int → Int → Int} {i : Bool} {j : Int} {m : Mem} {P : DK} : fNL C g (.bl i) (.int j) m P = P (.int (g (b2 i) j)) m := rfl
theorem fNR_i {C : Int → Int → Prop} {g : Int → Int → Int} {i j : Int} {m : Mem} {P : DK} : fNR C g (.int i) (.int j) m P = (C i j ∧ P (.int (g i j)) m) := rfl
theorem fNR_b {C : Int → Int → Prop} {g : Int → Int → Int} {i : Int} {j : Bool} {m : Mem} {P : DK} : fNR C g (.int i) (.bl j) m P = P (.int (g i (b2 j))) m := rfl
theorem rl_NL {K : PySem.W.Frag} {C : Int → Int → Prop} {g : Int → Int → Int} : RL K (rNL C g) (fNL C g) := by
  intro x y d e H m P Q h r1 r2 f k
  unfold fNL at f
  split at f
  · cases r1; cases r2
    exact ⟨_, rfl, .inl ⟨_, rfl, f.1, k.now h f.2 (.int _)⟩⟩
  · cases r1; cases r2
    exact ⟨_, rfl, .inr ⟨_, rfl, k.now h f (.int _)⟩⟩
  · exact f.elim
theorem rl_NR {K : PySem.W.Frag} {C : Int → Int → Prop} {g : Int → Int → Int} : RL K (rNR C g) (fNR C g) := by
  intro x y d e H m P Q h r1 r2 f k
  unfold fNR at f
  split at f
  · cases r1; cases r2
    exact ⟨_, rfl, .inl ⟨_, rfl, f.1, k.now h f.2 (.int _)⟩⟩
  · cases r1; cases r2
    exact ⟨_, rfl, .inr ⟨_, rfl, k.now h f (.int _)⟩⟩
  · exact f.elim
def CYes (_ _ : Int) : Prop := True
theorem op_addNL : OpR X (binaryOp .Add) (rNL CYes fun i j => i + j) := by
  intro pins s σ H x y v u Q I rx ry h
  obtain ⟨j, rfl, ⟨i, rfl, _, q⟩ | ⟨b, rfl, q⟩⟩ := h
  · obtain ⟨t, rfl⟩ := rx
    obtain ⟨t', rfl⟩ := ry
    exact PyProof.Rows.add_int ⟨.int _, H, I.tok _, ⟨_, rfl⟩, q⟩
  · cases rx
    obtain ⟨t', rfl⟩ := ry
    exact IntBool.add_bool_int ⟨.int _, H, I.tok _, ⟨_, rfl⟩, q⟩
theorem op_subNL : OpR X (binaryOp .Sub) (rNL CYes fun i j => i - j) := by
  intro pins s σ H x y v u Q I rx ry h
  obtain ⟨j, rfl, ⟨i, rfl, _, q⟩ | ⟨b, rfl, q⟩⟩ := h
  · obtain ⟨t, rfl⟩ := rx
    obtain ⟨t', rfl⟩ := ry
    exact PyProof.Rows.sub_int ⟨.int _, H, I.tok _, ⟨_, rfl⟩, q⟩
  · cases rx
    obtain ⟨t', rfl⟩ := ry
    exact IntBool.sub_bool_int ⟨.int _, H, I.tok _, ⟨_, rfl⟩, q⟩
theorem op_subNR : OpR X (binaryOp .Sub) (rNR CYes fun i j => i - j) := by
  intro pins s σ H x y v u Q I rx ry h
  obtain ⟨j, rfl, ⟨i, rfl, _, q⟩ | ⟨b, rfl, q⟩⟩ := h
  · obtain ⟨t, rfl⟩ := rx
    obtain ⟨t', rfl⟩ := ry
    exact PyProof.Rows.sub_int ⟨.int _, H, I.tok _, ⟨_, rfl⟩, q⟩
  · cases ry
    obtain ⟨t', rfl⟩ := rx
    exact IntBool.sub_int_bool ⟨.int _, H, I.tok _, ⟨_, rfl⟩, q⟩
theorem op_mulNR : OpR X (binaryOp .Mult) (rNR CMulX fun i j => i * j) := by
  intro pins s σ H x y v u Q I rx ry h
  obtain ⟨j, rfl, ⟨i, rfl, hc, q⟩ | ⟨b, rfl, q⟩⟩ := h
  · exact op_mulX pins s σ H _ _ v u Q I rx ry ⟨_, _, rfl, rfl, hc, q⟩
  · cases ry
    obtain ⟨t', rfl⟩ := rx
    exact IntBool.mul_int_bool ⟨.int _, H, I.tok _, ⟨_, rfl⟩, q⟩
theorem e_addNL (ha : PE3 X a ta) (hb : PE3 X b tb) : PE3 X (.BinOp a .Add b pos) (op3 (fNL CYes fun i j => i + j) ta tb) := e_op op_addNL rl_NL ha hb
theorem e_subNL (ha : PE3 X a ta) (hb : PE3 X b tb) : PE3 X (.BinOp a .Sub b pos) (op3 (fNL CYes fun i j => i - j) ta tb) := e_op op_subNL rl_NL ha hb
theorem e_subNR (ha : PE3 X a ta) (hb : PE3 X b tb) : PE3 X (.BinOp a .Sub b pos) (op3 (fNR CYes fun i j => i - j) ta tb) := e_op op_subNR rl_NR ha hb
theorem e_mulNR (ha : PE3 X a ta) (hb : PE3 X b tb) : PE3 X (.BinOp a .Mult b pos) (op3 (fNR CMulX fun i j => i * j) ta tb) := e_op op_mulNR rl_NR ha hb
end
/-- str of a whole number or a truth -/
def bstr (b : Bool) : Str := (PyData.bool b).shown
def rStrN : List V → Hp → VK → Prop := fun xs H Q => (∃ i, xs = [.int i] ∧ i.natAbs.log2 < 1920 ∧ Q (.str (toString i)) H) ∨ (∃ b, xs = [.bl b] ∧ Q (.str (bstr b)) H)
def fStrN : F1 := fun d m P => match d with
  | .int i => i.natAbs.log2 < 1920 ∧ P (.str (toString i)) m
  | .bl b => P (.str (bstr b)) m
  | _ => False
theorem fStrN_i {i : Int} {m : Mem} {P : DK} : fStrN (.int i) m P = (i.natAbs.log2 < 1920 ∧ P (.str (toString i)) m) := rfl
theorem fStrN_b {i : Bool} {m : Mem} {P : DK} : fStrN (.bl i) m P = P (.str (bstr i)) m := rfl
section
variable {X : Cx} {pos p : Pos} {a b : Expr} {ta tb : TE3}
theorem call_strN : CallR X (.type "str") rStrN := by
  intro pins s σ H xs us Q I r h
  rcases h with ⟨i, rfl, hi, q⟩ | ⟨b, rfl, q⟩
  · obtain ⟨u, rfl, ru⟩ := vals1 r
    obtain ⟨t, rfl⟩ := ru
    exact PySem.P.str_of_int hi ⟨.str _, H, I.tok _, ⟨_, rfl⟩, q⟩
  · obtain ⟨u, rfl, ru⟩ := vals1 r
    cases ru
    exact PySem.P.str_of_bool ⟨.str _, H, I.tok _, ⟨_, rfl⟩, q⟩
theorem e_strN (hg : Gl X "str") (hm : X.mg "str" = none) (ha : PE3 X a ta) (he : starEach [a] X.env = (false, eval a X.env) :: starEach [] X.env := by rfl) (hpl : (backTo pos (starEach [] X.env)).any (·.1) = false := by rfl) :
    PE3 X (.Call (.Name "str" p) [a] [] pos) (un3 fStrN ta) :=
  e_ty1 call_strN (fun x d H m P Q h r f k => by
    cases d with
    | int i => cases r; exact .inl ⟨i, rfl, f.1, k.now h f.2 (.str _)⟩
    | bl b => cases r; exact .inr ⟨b, rfl, k.now h f (.str _)⟩
    | _ => exact (f : False).elim) hg hm PyProof.Rows.boot_str ha (by decide) (by decide) he hpl
end
theorem pl_bstr (c : Bool) {b : Nat} (hb : 5 ≤ b) : Pl b (.str (bstr c)) := by
  refine Pl.le hb _ (?_ : Pl 5 _)
  cases c <;> exact ⟨by decide +kernel, by decide +kernel⟩
theorem pl_tos {i : Int} {b : Nat} (h1 : 18 ≤ b) (h2 : b ≤ 1900) (h : Pl b (.int i)) : Pl (b + 1) (.str (toString i)) := by
  have f := (py_facts h1 h2 (.int i) h).2.2.2.1
  simp only [pyOf, PyData.leavesShort, decide_eq_true_eq] at f
  have f2 : (Str.ofString (toString i)).length ≤ b / 3 + 2 := f
  exact ⟨by show (Str.ofString (toString i)).length ≤ b + 1; omega, ofString_c _⟩
/-- a comprehension that keeps some -/
theorem lcGo_fil {i : Nat} {tt : TT3} {te : TE3} {L : Addr} {ρ : Env3} {P : DK} (b : D → Bool) : ∀ (xs acc : List D) (m : Mem), m L = some (.lst acc) → acc.length + xs.length ≤ 16000 →
    (∀ x ∈ xs, ∀ m' (Kt : Bool → Mem → Prop), Kt (b x) m' → tt (ρ.set i (some x)) m' Kt) → (∀ x ∈ xs, ∀ m' (Kt : DK), Kt x m' → te (ρ.set i (some x)) m' Kt) → P (.lst (acc ++ xs.filter b)) (del m L) → lcGo i tt te L ρ P xs m
  | [], acc, m, e, _, _, _, h => ⟨acc, e, by simpa using h⟩
  | x :: xs, acc, m, e, hl, ht, hs, h => ⟨acc, e, ht x List.mem_cons_self m _ ⟨e, by
    simp only [List.length_cons] at hl
    cases hb : b x with
    | true =>
      rw [if_pos rfl]
      refine hs x List.mem_cons_self m _ ⟨e, by omega, lcGo_fil b xs (acc ++ [x]) _ put_same (by simp only [List.length_append, List.length_cons, List.length_nil]; omega) (fun y hy => ht y (List.mem_cons_of_mem _ hy)) (fun y hy => hs y (List.mem_cons_of_mem _ hy)) ?_⟩
      rw [del_put]
      rw [List.filter_cons, hb, if_pos rfl] at h
      simpa using h
    | false =>
      rw [if_neg Bool.false_ne_true]
      refine lcGo_fil b xs acc m e (by omega) (fun y hy => ht y (List.mem_cons_of_mem _ hy)) (fun y hy => hs y (List.mem_cons_of_mem _ hy)) ?_
      rw [List.filter_cons, hb, if_neg Bool.false_ne_true] at h
      exact h⟩⟩
/-- one whose list may change -/
theorem lcGoM_map {i : Nat} {te : TE3} {L : Addr} {ρ : Env3} {P : DK} (f : D → D) : ∀ (xs acc : List D) (m : Mem), m L = some (.lst acc) → acc.length + xs.length ≤ 16000 →
    (∀ x ∈ xs, ∀ m' (Kt : DK), Kt (f x) m' → te (ρ.set i (some x)) m' Kt) → P (.ref L) (put m L (.lst (acc ++ xs.map f))) → lcGoM i yes3 te L ρ P xs m
  | [], acc, m, e, _, _, h => ⟨acc, e, by
    rw [List.map_nil, List.append_nil, put_self e] at h
    exact h⟩
  | x :: xs, acc, m, e, hl, hs, h => ⟨acc, e, e, by
    rw [if_pos rfl]
    refine hs x List.mem_cons_self m _ ⟨e, by simp only [List.length_cons] at hl; omega, lcGoM_map f xs (acc ++ [f x]) _ put_same (by simp only [List.length_append, List.length_cons, List.length_nil] at hl ⊢; omega) (fun y hy => hs y (List.mem_cons_of_mem _ hy)) ?_⟩
    rw [put_put]
    simpa using h⟩
theorem iteFf {b : Bool} {A B : Prop} (h1 : b = false → A) (h2 : b = true → B) : if b = false then A else B := by
  cases b
  · exact h1 rfl
  · exact h2 rfl
theorem at3_nat {ds : List D} {k : Nat} {x : D} {m : Mem} {P : DK} (h : ds[k]? = some x) : at3 ds (k : Int) m P = P x m := by
  have hk : k < ds.length := (List.getElem?_eq_some_iff.mp h).1
  have e : L2.atI ds (k : Int) = some x := by
    unfold L2.atI ixN
    rw [if_pos (by omega), if_pos (by omega), Int.toNat_natCast]
    exact h
  unfold at3
  rw [e]
/-- what holds between two statements -/
theorem seq3_cut {t u : TS3} {D : Ends3} {ρ : Env3} {m : Mem} (I : Env3 → Mem → Prop) (h2 : ∀ ρ' m', I ρ' m' → u D ρ' m') (h1 : ∀ nx : Env3 → Mem → Prop, (∀ ρ' m', I ρ' m' → nx ρ' m') → t { D with nx := nx } ρ m) : seq3 t u D ρ m := h1 _ h2
theorem pDec {c : Prop} [Decidable c] {P : Bool → Mem → Prop} {m : Mem} (h1 : c → P true m) (h2 : ¬ c → P false m) : P (decide c) m := by
  by_cases h : c
  · rw [decide_eq_true h]; exact h1 h
  · rw [decide_eq_false h]; exact h2 h
theorem ite_and2 {c d A B : Prop} [Decidable c] [Decidable d] (h1 : c ∧ d → A) (h2 : ¬ (c ∧ d) → B) : if c then (if d then A else B) else B := by
  by_cases h : c
  · rw [if_pos h]
    by_cases h' : d
    · rw [if_pos h']; exact h1 ⟨h, h'⟩
    · rw [if_neg h']; exact h2 fun z => h' z.2
  · rw [if_neg h]; exact h2 fun z => h z.1
/-- an if whose test changes what may change -/
theorem seq3_if {c : TT3} {t u rest : TS3} {D : Ends3} {ρ : Env3} {m : Mem} (I J : Mem → Prop) (hc : ∀ P : Bool → Mem → Prop, (∀ m', I m' → P true m') → (∀ m', J m' → P false m') → c ρ m P) (ht : ∀ m', I m' → t { D with nx := Later rest D } ρ m') (hu : ∀ m', J m' → u { D with nx := Later rest D } ρ m') : seq3 (ifS3 c t u) rest D ρ m := by
  refine hc _ (fun m' h => ?_) (fun m' h => ?_)
  · rw [if_pos rfl]; exact ht m' h
  · rw [if_neg Bool.false_ne_true]; exact hu m' h
/-- promises for each i, joined -/
theorem fn_ex {P : Program} {w : World} {K : PySem.W.Frag} {mg : Str → Option Value} {base : Heap} {kk : Nat} {f : Addr} {fd : FuncData} {ps : List Str} {ι : Type} {sp : ι → Sp3} {k : ι → Nat}
    (h : ∀ i, Fn3 P w K mg base (k i) f fd ps (sp i)) (sp' : Sp3) (hs : ∀ ds m Q, sp' ds m Q → ∃ i, k i ≤ kk ∧ sp i ds m Q) : Fn3 P w K mg base kk f fd ps sp' := by
  refine ⟨fun vs H Q E q => ?_, fun A outer s H args us vs Q E hr he hb hv q => ?_⟩
  · obtain ⟨ds, m, P', h1, r1, h2, ek⟩ := q
    obtain ⟨i, _, z⟩ := hs ds m P' h2
    exact (h i).len vs H Q E ⟨ds, m, P', h1, r1, z, ek⟩
  · obtain ⟨ds, m, P', h1, r1, h2, ek⟩ := q
    obtain ⟨i, hk, z⟩ := hs ds m P' h2
    exact (h i).run A outer s H args us vs Q E (hr.mono hk) he hb hv ⟨ds, m, P', h1, r1, z, ek⟩
theorem fn_never {P : Program} {w : World} {K : PySem.W.Frag} {mg : Str → Option Value} {base : Heap} {k : Nat} {f : Addr} {fd : FuncData} {ps : List Str} : Fn3 P w K mg base k f fd ps (fun _ _ _ => False) :=
  ⟨fun _ _ _ _ ⟨_, _, _, _, _, h, _⟩ => (h : False).elim, fun _ _ _ _ _ _ _ _ _ _ _ _ _ ⟨_, _, _, _, _, h, _⟩ => (h : False).elim⟩
end D3

set_option Elab.async false
set_option linter.all false
set_option maxRecDepth 100000
set_option maxHeartbeats 4000000
/-! Tw: drawn terms: what is known of them. -/
namespace LK
open PySem L2 D3 DyM
theorem Pls_mem {b : Nat} {d : D} : ∀ {ds : List D}, Pls b ds → d ∈ ds → Pl b d
  | [], _, h => nomatch h
  | x :: xs, h, hm => by
    rcases List.mem_cons.mp hm with rfl | hm
    · exact h.1
    · exact Pls_mem h.2 hm
theorem Pls_of {b : Nat} : ∀ {ds : List D}, (∀ d ∈ ds, Pl b d) → Pls b ds
  | [], _ => trivial
  | x :: xs, h => ⟨h x List.mem_cons_self, Pls_of fun d hd => h d (List.mem_cons_of_mem _ hd)⟩
theorem dps_mem {d : D} : ∀ {ds : List D}, d ∈ ds → dp d ≤ dps ds
  | [], h => nomatch h
  | x :: xs, hm => by
    rw [dps]
    rcases List.mem_cons.mp hm with rfl | hm
    · omega
    · have := dps_mem hm; omega
theorem dps_of {n : Nat} : ∀ {ds : List D}, (∀ d ∈ ds, dp d ≤ n) → dps ds ≤ n
  | [], _ => Nat.zero_le _
  | x :: xs, h => by
    rw [dps]
    have := h x List.mem_cons_self
    have := dps_of fun d hd => h d (List.mem_cons_of_mem x hd)
    omega
theorem szs_mem {d : D} : ∀ {ds : List D}, d ∈ ds → sz d ≤ szs ds
  | [], h => nomatch h
  | x :: xs, hm => by
    rw [szs]
    rcases List.mem_cons.mp hm with rfl | hm
    · omega
    · have := szs_mem hm; omega
theorem inn_mem {d : D} {ps : List D} (h : inn d = some ps) : ∃ k r, d = .tup (.str k :: r) ∧ (∀ p ∈ ps, p ∈ r) ∧ ps.length ≤ 2 := by
  cases d with
  | tup ds =>
    cases ds with
    | nil => cases h
    | cons x r =>
      cases x with
      | str k =>
        refine ⟨k, r, rfl, ?_⟩
        change inn2 k r = some ps at h
        unfold inn2 at h
        have two : ∀ (n : Nat), n ≤ 2 → (if r.length = n then some r else none) = some ps → (∀ p ∈ ps, p ∈ r) ∧ ps.length ≤ 2 := by
          intro n hn h
          split at h
          · cases h; exact ⟨fun _ z => z, by omega⟩
          · cases h
        have nil : ∀ (c : Prop) [Decidable c], (if c then some ([] : List D) else none) = some ps → (∀ p ∈ ps, p ∈ r) ∧ ps.length ≤ 2 := by
          intro c _ h
          split at h
          · cases h; exact ⟨fun _ z => (nomatch z), by decide⟩
          · cases h
        split at h
        · exact two 2 (by decide) h
        split at h
        · exact two 1 (by decide) h
        split at h
        · exact nil _ h
        split at h
        · split at h
          · exact nil _ h
          · cases h
        split at h
        · split at h
          · exact nil _ h
          · cases h
        split at h
        · split at h
          · split at h
            · cases h; exact ⟨fun p z => by simp at z; simp [z], by simp⟩
            · cases h
          · cases h
        split at h
        · split at h
          · split at h
            · cases h; exact ⟨fun p z => by simp at z; simp [z], by simp⟩
            · cases h
          · cases h
        · cases h
      | _ => cases h
  | _ => cases h
theorem inn_ok {d : D} {ps : List D} {b n : Nat} (h : inn d = some ps) (hp : Pl b d) (hd : dp d ≤ n + 1) : ∀ p ∈ ps, Pl b p ∧ dp p ≤ n := by
  obtain ⟨k, r, rfl, hm, _⟩ := inn_mem h
  intro p hpm
  have h1 : Pls b r := hp.2
  refine ⟨Pls_mem h1 (hm p hpm), ?_⟩
  have := dps_mem (hm p hpm)
  simp only [dp, dps] at hd
  omega
theorem isFr_ex {d : D} (h : isFr d = true) : ∃ a b : Int, d = .tup [.int a, .int b] ∧ 0 < b ∧ Int.gcd a b = 1 := by
  unfold isFr at h
  split at h
  · exact ⟨_, _, rfl, (of_decide_eq_true h).1, (of_decide_eq_true h).2⟩
  · cases h
theorem dvd_cop {u t b : Int} (h : u ∣ t * b) (g : Int.gcd u t = 1) : u ∣ b := by
  have e := Int.gcd_mul_right_right_of_gcd_eq_one (k := b) g
  have h1 : u ∣ (Int.gcd u (t * b) : Int) := Int.dvd_coe_gcd (Int.dvd_refl u) h
  rw [e] at h1
  exact Int.dvd_trans h1 (Int.gcd_dvd_right ..)
/-- two fractions that are one -/
theorem frac_uniq {a b t u : Int} (hb : 0 < b) (hu : 0 < u) (h : t * b = a * u) (hg : Int.gcd t u = 1) : (t = a ∧ u = b) ↔ Int.gcd a b = 1 := by
  constructor
  · rintro ⟨rfl, rfl⟩; exact hg
  · intro g
    have h1 : u ∣ b := by
      have : u ∣ t * b := ⟨a, by rw [h, Int.mul_comm]⟩
      exact dvd_cop this (by rw [Int.gcd_comm]; exact hg)
    have h2 : b ∣ u := by
      have : b ∣ a * u := ⟨t, by rw [← h, Int.mul_comm]⟩
      exact dvd_cop this (by rw [Int.gcd_comm]; exact g)
    have e : u = b := Int.dvd_antisymm (by omega) (by omega) h1 h2
    subst e
    exact ⟨Int.eq_of_mul_eq_mul_right (by omega) h, rfl⟩
/-- a drawn term, so many within one another, with these names -/
inductive Wt (ns : List Str) : Nat → D → Prop
  | num {e : Nat} {a b : Int} : 0 < b → Int.gcd a b = 1 → a.natAbs < 1024 → b.natAbs < 1024 → Wt ns (e + 1) (.tup [.str "number", .tup [.int a, .int b]])
  | name {e : Nat} {x : Str} : x ∈ ns → Wt ns (e + 1) (.tup [.str "name", .str x])
  | pi {e : Nat} : Wt ns (e + 1) (.tup [.str "pi"])
  | two {e : Nat} {k : Str} {a b : D} : k ∈ K2 → Wt ns e a → Wt ns e b → Wt ns (e + 1) (.tup [.str k, a, b])
  | one {e : Nat} {k : Str} {a : D} : k ∈ K1 → Wt ns e a → Wt ns (e + 1) (.tup [.str k, a])
  | root {e : Nat} {k : Int} {a : D} : 2 ≤ k → k ≤ 5 → Wt ns e a → Wt ns (e + 1) (.tup [.str "root", .int k, a])
def Nms (ns : List Str) : Prop := ∀ x ∈ ns, Pl 140 (.str x)
theorem pl_k {k : Str} (h : k ∈ K2 ∨ k ∈ K1) : Pl 140 (.str k) := by
  rcases h with h | h
  · simp only [K2, List.mem_cons, List.not_mem_nil, or_false] at h
    rcases h with rfl | rfl | rfl | rfl | rfl | rfl <;> exact ⟨by decide +kernel, by decide +kernel⟩
  · simp only [K1, List.mem_cons, List.not_mem_nil, or_false] at h
    rcases h with rfl | rfl | rfl | rfl | rfl | rfl <;> exact ⟨by decide +kernel, by decide +kernel⟩
theorem pl_sm {i : Int} (h : i.natAbs < 1024) : Pl 140 (.int i) := lt_pow (a := 10) (by omega) (by decide)
theorem Wt.up {ns : List Str} {e : Nat} {d : D} (h : Wt ns e d) : Wt ns (e + 1) d := by
  induction h with
  | num a b c d => exact .num a b c d
  | name a => exact .name a
  | pi => exact .pi
  | two a _ _ i1 i2 => exact .two a i1 i2
  | one a _ i => exact .one a i
  | root a b _ i => exact .root a b i
theorem Wt.le {ns : List Str} {e e' : Nat} {d : D} (h : Wt ns e d) (he : e ≤ e') : Wt ns e' d := by
  obtain ⟨k, rfl⟩ := Nat.le.dest he
  clear he
  induction k with
  | zero => exact h
  | succ k ih => exact ih.up
theorem Wt.more {ns ns' : List Str} (hs : ∀ x ∈ ns, x ∈ ns') {e : Nat} {d : D} (h : Wt ns e d) : Wt ns' e d := by
  induction h with
  | num a b c d => exact .num a b c d
  | name a => exact .name (hs _ a)
  | pi => exact .pi
  | two a _ _ i1 i2 => exact .two a i1 i2
  | one a _ i => exact .one a i
  | root a b _ i => exact .root a b i
theorem Wt.ok {ns : List Str} (hn : Nms ns) {e : Nat} {d : D} (h : Wt ns e d) : Pl 140 d ∧ 2 * sz d + 4 ≤ 7 * 2 ^ e ∧ dp d ≤ e + 1 := by
  induction h with
  | @num e a b _ _ c d =>
    have : 1 ≤ 2 ^ e := Nat.one_le_two_pow
    exact ⟨⟨⟨by decide +kernel, by decide +kernel⟩, ⟨pl_sm c, pl_sm d, trivial⟩, trivial⟩, by simp only [sz, szs, Nat.pow_succ]; omega, by simp only [dp, dps]; omega⟩
  | @name e x a =>
    have : 1 ≤ 2 ^ e := Nat.one_le_two_pow
    exact ⟨⟨⟨by decide +kernel, by decide +kernel⟩, hn _ a, trivial⟩, by simp only [sz, szs, Nat.pow_succ]; omega, by simp only [dp, dps]; omega⟩
  | @pi e =>
    have : 1 ≤ 2 ^ e := Nat.one_le_two_pow
    exact ⟨⟨⟨by decide +kernel, by decide +kernel⟩, trivial⟩, by simp only [sz, szs, Nat.pow_succ]; omega, by simp only [dp, dps]; omega⟩
  | two a _ _ i1 i2 =>
    refine ⟨⟨pl_k (.inl a), i1.1, i2.1, trivial⟩, ?_, ?_⟩
    · have := i1.2.1; have := i2.2.1; simp only [sz, szs, Nat.pow_succ]; omega
    · have := i1.2.2; have := i2.2.2; simp only [dp, dps]; omega
  | one a _ i1 =>
    refine ⟨⟨pl_k (.inr a), i1.1, trivial⟩, ?_, ?_⟩
    · have := i1.2.1; simp only [sz, szs, Nat.pow_succ]; omega
    · have := i1.2.2; simp only [dp, dps]; omega
  | root a b _ i1 =>
    refine ⟨⟨⟨by decide +kernel, by decide +kernel⟩, pl_sm (by omega), i1.1, trivial⟩, ?_, ?_⟩
    · have := i1.2.1; simp only [sz, szs, Nat.pow_succ]; omega
    · have := i1.2.2; simp only [dp, dps]; omega
structure SmFr (a b : Int) : Prop where
  pos : 0 < b
  g : Int.gcd a b = 1
  la : a.natAbs < 1024
  lb : b.natAbs < 1024
theorem SmFr.wt {a b : Int} (h : SmFr a b) {ns : List Str} {e : Nat} : Wt ns (e + 1) (.tup [.str "number", .tup [.int a, .int b]]) := .num h.pos h.g h.la h.lb
/-- a drawn limit -/
def WLim (nm : Str) (ns : List Str) (d : D) : Prop := ∃ (a b c e : Int) (body : D), d = .tup [.str "limit", .str nm, .tup [.int a, .int b], .tup [.int c, .int e], body] ∧ SmFr a b ∧ SmFr c e ∧ a * e < c * b ∧ Wt (nm :: ns) 4 body
theorem WLim.ok {nm : Str} {ns : List Str} (hn : Nms (nm :: ns)) {d : D} (h : WLim nm ns d) : Pl 140 d ∧ sz d ≤ 64 ∧ dp d ≤ 6 := by
  obtain ⟨a, b, c, e, body, rfl, h1, h2, _, h3⟩ := h
  obtain ⟨k1, k2, k3⟩ := h3.ok hn
  refine ⟨⟨⟨by decide +kernel, by decide +kernel⟩, hn _ List.mem_cons_self, ⟨pl_sm h1.la, pl_sm h1.lb, trivial⟩, ⟨pl_sm h2.la, pl_sm h2.lb, trivial⟩, k1, trivial⟩, ?_, ?_⟩
  · simp only [sz, szs]; omega
  · simp only [dp, dps]; omega
end LK

set_option Elab.async false
set_option linter.all false
set_option maxRecDepth 100000
set_option maxHeartbeats 4000000
/-! Ti: what has to be terms within, kind by kind; empty lists; cuts. -/
namespace LK
open PySem L2 D3 DyM
theorem nil_eqv_l (ds : List D) : PyData.eqv (pyOf (.lst ds)) (pyOf (.lst [])) = ds.isEmpty := by
  cases ds with
  | nil => rfl
  | cons x ds => simp [pyOf, pysOf, PyData.eqv, PyData.eqvAll]
theorem nil_eqv_t (ds : List D) : PyData.eqv (pyOf (.tup ds)) (pyOf (.tup [])) = ds.isEmpty := by
  cases ds with
  | nil => rfl
  | cons x ds => simp [pyOf, pysOf, PyData.eqv, PyData.eqvAll]
theorem fEq_nil {ds : List D} {n : Nat} {m : Mem} {P : DK} (h : Pls n ds) (hd : dps ds ≤ 60) : fEq (.lst ds) (.lst []) m P = P (.bl ds.isEmpty) m := by
  rw [fEq_pl (n := n) (k := n) (show Pl n (.lst ds) from h) (show Pl n (.lst []) from trivial) (by simp only [dp]; omega) (by simp [dp, dps]), nil_eqv_l]
theorem fNe_nil {ds : List D} {n : Nat} {m : Mem} {P : DK} (h : Pls n ds) (hd : dps ds ≤ 60) : fNe (.lst ds) (.lst []) m P = P (.bl (!ds.isEmpty)) m := by
  rw [fNe_pl (n := n) (k := n) (show Pl n (.lst ds) from h) (show Pl n (.lst []) from trivial) (by simp only [dp]; omega) (by simp [dp, dps]), nil_eqv_l]
theorem fEq_tnil {ds : List D} {n : Nat} {m : Mem} {P : DK} (h : Pls n ds) (hd : dps ds ≤ 60) : fEq (.tup ds) (.tup []) m P = P (.bl ds.isEmpty) m := by
  rw [fEq_pl (n := n) (k := n) (show Pl n (.tup ds) from h) (show Pl n (.tup []) from trivial) (by simp only [dp]; omega) (by simp [dp, dps]), nil_eqv_t]
theorem fNe_tnil {ds : List D} {n : Nat} {m : Mem} {P : DK} (h : Pls n ds) (hd : dps ds ≤ 60) : fNe (.tup ds) (.tup []) m P = P (.bl (!ds.isEmpty)) m := by
  rw [fNe_pl (n := n) (k := n) (show Pl n (.tup ds) from h) (show Pl n (.tup []) from trivial) (by simp only [dp]; omega) (by simp [dp, dps]), nil_eqv_t]
theorem cutD_nat (ds : List D) (k : Nat) : cutD ds (some (k : Int)) none = ds.drop k := by
  unfold cutD
  rw [HT.sIx_nat, HT.sIx_none]
  by_cases h : k ≤ ds.length
  · rw [show min k ds.length = k by omega, List.take_of_length_le (by rw [List.length_drop]; omega)]
  · rw [show min k ds.length = ds.length by omega, List.drop_eq_nil_of_le (Nat.le_refl _), List.drop_eq_nil_of_le (by omega), List.take_nil]
theorem cutD_to (ds : List D) (k : Nat) : cutD ds none (some (k : Int)) = ds.take k := by
  unfold cutD
  rw [HT.sIx_nat, HT.sIx_none, List.drop_zero, Nat.sub_zero]
  by_cases h : k ≤ ds.length
  · rw [show min k ds.length = k by omega]
  · rw [show min k ds.length = ds.length by omega, List.take_length, List.take_of_length_le (by omega)]
theorem cutD_1 (ds : List D) : cutD ds (some 1) none = ds.drop 1 := cutD_nat ds 1
theorem cutD_2 (ds : List D) : cutD ds (some 2) none = ds.drop 2 := cutD_nat ds 2
theorem cutD_t1 (ds : List D) : cutD ds none (some 1) = ds.take 1 := cutD_to ds 1
theorem sz_pos (d : D) : 1 ≤ sz d := by cases d <;> simp [sz]
theorem len_szs : ∀ ds : List D, ds.length ≤ szs ds
  | [] => Nat.le_refl _
  | d :: ds => by rw [szs, List.length_cons]; have := sz_pos d; have := len_szs ds; omega
theorem szs_ap : ∀ (xs ys : List D), szs (xs ++ ys) = szs xs + szs ys
  | [], ys => by show szs ys = szs [] + szs ys; rw [szs, Nat.zero_add]
  | x :: xs, ys => by show szs (x :: (xs ++ ys)) = _; rw [szs, szs, szs_ap xs ys, Nat.add_assoc]
theorem dps_ap : ∀ (xs ys : List D), dps (xs ++ ys) = max (dps xs) (dps ys)
  | [], ys => by show dps ys = max (dps []) (dps ys); rw [dps]; omega
  | x :: xs, ys => by show dps (x :: (xs ++ ys)) = _; rw [dps, dps, dps_ap xs ys]; omega
theorem cut_facts (ds : List D) (k : Nat) : szs (ds.take k) + szs (ds.drop k) = szs ds ∧ dps (ds.take k) ≤ dps ds ∧ dps (ds.drop k) ≤ dps ds := by
  have e : ds.take k ++ ds.drop k = ds := List.take_append_drop k ds
  refine ⟨by rw [← szs_ap, e], ?_, ?_⟩
  · conv => rhs; rw [← e, dps_ap]
    omega
  · conv => rhs; rw [← e, dps_ap]
    omega
theorem pls_take {b : Nat} {ds : List D} (h : Pls b ds) (k : Nat) : Pls b (ds.take k) := Pls_of fun d hd => Pls_mem h (List.mem_of_mem_take hd)
theorem pls_drop {b : Nat} {ds : List D} (h : Pls b ds) (k : Nat) : Pls b (ds.drop k) := Pls_of fun d hd => Pls_mem h (List.mem_of_mem_drop hd)
theorem k1_perm (h : Str) : decide (h ∈ (["size", "e", "log", "sine", "cosine", "arc"] : List Str)) = decide (h ∈ K1) := by
  congr 1
  apply propext
  simp only [K1, List.mem_cons, List.not_mem_nil, or_false]
  constructor <;> (rintro (h | h | h | h | h | h) <;> simp [h])
theorem inn2_K2 {h : Str} {r : List D} (z : h ∈ K2) : inn2 h r = if r.length = 2 then some r else none := by
  unfold inn2; rw [if_pos z]
theorem K1_K2 {h : Str} (z : h ∈ K1) : h ∉ K2 := by
  simp only [K1, List.mem_cons, List.not_mem_nil, or_false] at z
  rcases z with rfl | rfl | rfl | rfl | rfl | rfl <;> decide +kernel
theorem inn2_K1 {h : Str} {r : List D} (z : h ∈ K1) : inn2 h r = if r.length = 1 then some r else none := by
  unfold inn2; rw [if_neg (K1_K2 z), if_pos z]
theorem inn2_pi {r : List D} : inn2 "pi" r = if r.length = 0 then some [] else none := by
  unfold inn2; rw [if_neg (by decide +kernel), if_neg (by decide +kernel), if_pos rfl]
theorem inn2_number {r : List D} : inn2 "number" r = (match r with
    | [q] => if isFr q = true then some [] else none
    | _ => none) := by
  unfold inn2; rw [if_neg (by decide +kernel), if_neg (by decide +kernel), if_neg (by decide +kernel), if_pos rfl]; try rfl
theorem inn2_name {r : List D} : inn2 "name" r = (match r with
    | [q] => if isNm q = true then some [] else none
    | _ => none) := by
  unfold inn2; rw [if_neg (by decide +kernel), if_neg (by decide +kernel), if_neg (by decide +kernel), if_neg (by decide +kernel), if_pos rfl]; try rfl
theorem inn2_root {r : List D} : inn2 "root" r = (match r with
    | [.int k, t] => if 2 ≤ k ∧ k ≤ 5 then some [t] else none
    | _ => none) := by
  unfold inn2; rw [if_neg (by decide +kernel), if_neg (by decide +kernel), if_neg (by decide +kernel), if_neg (by decide +kernel), if_neg (by decide +kernel), if_pos rfl]; try rfl
theorem inn2_limit {r : List D} : inn2 "limit" r = (match r with
    | [n, a, b, t] => if isNm n && (isFr a && (isFr b && frLt a b)) = true then some [t] else none
    | _ => none) := by
  unfold inn2; rw [if_neg (by decide +kernel), if_neg (by decide +kernel), if_neg (by decide +kernel), if_neg (by decide +kernel), if_neg (by decide +kernel), if_neg (by decide +kernel), if_pos rfl]; try rfl
theorem inn2_else {h : Str} {r : List D} (h1 : h ∉ K2) (h2 : h ∉ K1) (h3 : h ≠ "pi") (h4 : h ≠ "number") (h5 : h ≠ "name") (h6 : h ≠ "root") (h7 : h ≠ "limit") : inn2 h r = none := by
  unfold inn2; rw [if_neg h1, if_neg h2, if_neg h3, if_neg h4, if_neg h5, if_neg h6, if_neg h7]
end LK

set_option Elab.async false
set_option linter.all false
set_option maxRecDepth 100000
set_option maxHeartbeats 4000000
/-! Rq: fractions as rational numbers. -/
namespace LK
open PySem L2 D3 DyM
def qD (q : Rat) : D := .tup [.int q.num, .int ((q.den : Nat) : Int)]
def oQ : Option Rat → D
  | none => .non
  | some q => qD q
def Sm (n : Nat) (q : Rat) : Prop := q.num.natAbs < 2 ^ n ∧ q.den < 2 ^ n
theorem Sm.le {n k : Nat} {q : Rat} (h : Sm n q) (hk : n ≤ k) : Sm k q := ⟨lt_pow h.1 hk, lt_pow h.2 hk⟩
theorem rat_mk {t u : Int} (hu : 0 < u) (hg : Int.gcd t u = 1) : (Rat.divInt t u).num = t ∧ ((Rat.divInt t u).den : Int) = u := by
  have hz : u.toNat ≠ 0 := by omega
  have hc : Nat.Coprime t.natAbs u.toNat := by
    show Nat.gcd t.natAbs u.toNat = 1
    rw [← hg, Int.gcd_eq_natAbs_gcd_natAbs]
    congr 1
    omega
  have e : (⟨t, u.toNat, hz, hc⟩ : Rat) = Rat.divInt t ((u.toNat : Nat) : Int) := Rat.mk_eq_divInt
  rw [show ((u.toNat : Nat) : Int) = u by omega] at e
  rw [← e]
  exact ⟨rfl, by show ((u.toNat : Nat) : Int) = u; omega⟩
theorem rat_of {a b t u : Int} (hb : b ≠ 0) (hu : 0 < u) (h : t * b = a * u) (hg : Int.gcd t u = 1) : t = (Rat.divInt a b).num ∧ u = ((Rat.divInt a b).den : Int) := by
  have e : Rat.divInt a b = Rat.divInt t u := (Rat.divInt_eq_divInt_iff hb (by omega)).mpr h.symm
  rw [e]
  obtain ⟨h1, h2⟩ := rat_mk hu hg
  exact ⟨h1.symm, h2.symm⟩
theorem rat_le {a b : Int} (hb : b ≠ 0) : (Rat.divInt a b).num.natAbs ≤ a.natAbs ∧ (Rat.divInt a b).den ≤ b.natAbs := by
  obtain ⟨m, hm, e1, e2⟩ := Rat.divInt_num_den (n' := (Rat.divInt a b).num) (d' := (Rat.divInt a b).den) (z' := (Rat.divInt a b).den_nz) (c := (Rat.divInt a b).reduced) hb rfl
  have h1 : 1 ≤ m.natAbs := Int.natAbs_pos.mpr hm
  constructor
  · conv => rhs; rw [e1, Int.natAbs_mul]
    exact Nat.le_mul_of_pos_right _ h1
  · conv => rhs; rw [e2, Int.natAbs_mul, Int.natAbs_natCast]
    exact Nat.le_mul_of_pos_right _ h1
theorem qD_mk {a b : Int} (h1 : 0 < b) (h2 : Int.gcd a b = 1) : D.tup [.int a, .int b] = qD (Rat.divInt a b) := by
  obtain ⟨e1, e2⟩ := rat_mk h1 h2
  unfold qD
  rw [e1, e2]
theorem SmFr.qd {a b : Int} (h : SmFr a b) : D.tup [.int a, .int b] = qD (Rat.divInt a b) ∧ Sm 10 (Rat.divInt a b) := by
  obtain ⟨e1, e2⟩ := rat_mk h.pos h.g
  refine ⟨qD_mk h.pos h.g, ?_, ?_⟩
  · rw [e1]; exact h.la
  · have := h.lb; omega
theorem den_pos (q : Rat) : (0 : Int) < ((q.den : Nat) : Int) := by have := q.den_pos; omega
/-! ### what is made of two -/
theorem r_add (p q : Rat) : p + q = Rat.divInt (p.num * q.den + q.num * p.den) (p.den * q.den) := by
  have e := Rat.divInt_add_divInt p.num q.num (d₁ := p.den) (d₂ := q.den) (by have := den_pos p; omega) (by have := den_pos q; omega)
  rw [Rat.num_divInt_den, Rat.num_divInt_den] at e
  exact e
theorem r_sub (p q : Rat) : p - q = Rat.divInt (p.num * q.den - q.num * p.den) (p.den * q.den) := by
  have e := Rat.divInt_sub_divInt p.num q.num (d₁ := p.den) (d₂ := q.den) (by have := den_pos p; omega) (by have := den_pos q; omega)
  rw [Rat.num_divInt_den, Rat.num_divInt_den] at e
  exact e
theorem r_mul (p q : Rat) : p * q = Rat.divInt (p.num * q.num) (p.den * q.den) := by
  have e := Rat.divInt_mul_divInt p.num q.num (d₁ := p.den) (d₂ := q.den)
  rw [Rat.num_divInt_den, Rat.num_divInt_den] at e
  exact e
theorem r_div (p q : Rat) : p / q = Rat.divInt (p.num * q.den) (p.den * q.num) := by
  rw [Rat.div_def, Rat.inv_def]
  have e := Rat.divInt_mul_divInt p.num (q.den : Int) (d₁ := p.den) (d₂ := q.num)
  rw [Rat.num_divInt_den] at e
  exact e
theorem sm_of {a b : Int} {n : Nat} (hb : b ≠ 0) (h1 : a.natAbs < 2 ^ n) (h2 : b.natAbs < 2 ^ n) : Sm n (Rat.divInt a b) := by
  obtain ⟨e1, e2⟩ := rat_le (a := a) hb
  exact ⟨by omega, by omega⟩
theorem nd_ne (p q : Rat) : (p.den : Int) * (q.den : Int) ≠ 0 := by
  have := Int.mul_pos (den_pos p) (den_pos q)
  omega
theorem abs_dd {p q : Rat} {n : Nat} (hp : Sm n p) (hq : Sm n q) : ((p.den : Int) * (q.den : Int)).natAbs < 2 ^ (2 * n) := by
  have := abs_mul_lt (i := p.den) (j := q.den) (a := n) (b := n) (by have := hp.2; omega) (by have := hq.2; omega)
  rwa [← Nat.two_mul] at this
theorem abs_nd {p q : Rat} {n : Nat} (hp : Sm n p) (hq : Sm n q) : (p.num * (q.den : Int)).natAbs < 2 ^ (2 * n) := by
  have := abs_mul_lt (i := p.num) (j := q.den) (a := n) (b := n) hp.1 (by have := hq.2; omega)
  rwa [← Nat.two_mul] at this
theorem abs_nn {p q : Rat} {n : Nat} (hp : Sm n p) (hq : Sm n q) : (p.num * q.num).natAbs < 2 ^ (2 * n) := by
  have := abs_mul_lt (i := p.num) (j := q.num) (a := n) (b := n) hp.1 hq.1
  rwa [← Nat.two_mul] at this
theorem two_pow1 (n : Nat) : 2 ^ (n + 1) = 2 * 2 ^ n := by rw [Nat.pow_succ]; omega
theorem Sm.add {p q : Rat} {n : Nat} (hp : Sm n p) (hq : Sm n q) : Sm (2 * n + 1) (p + q) := by
  rw [r_add]
  refine sm_of (nd_ne p q) ?_ ?_
  · have := abs_nd hp hq; have := abs_nd hq hp; rw [two_pow1]; omega
  · have := abs_dd hp hq; rw [two_pow1]; omega
theorem Sm.sub {p q : Rat} {n : Nat} (hp : Sm n p) (hq : Sm n q) : Sm (2 * n + 1) (p - q) := by
  rw [r_sub]
  refine sm_of (nd_ne p q) ?_ ?_
  · have := abs_nd hp hq; have := abs_nd hq hp; rw [two_pow1]; omega
  · have := abs_dd hp hq; rw [two_pow1]; omega
theorem Sm.mul {p q : Rat} {n : Nat} (hp : Sm n p) (hq : Sm n q) : Sm (2 * n) (p * q) := by
  rw [r_mul]
  exact sm_of (nd_ne p q) (abs_nn hp hq) (abs_dd hp hq)
theorem Sm.div {p q : Rat} {n : Nat} (hp : Sm n p) (hq : Sm n q) (h0 : q.num ≠ 0) : Sm (2 * n) (p / q) := by
  rw [r_div]
  refine sm_of (fun z => ?_) (abs_nd hp hq) ?_
  · rcases Int.mul_eq_zero.mp z with z | z
    · have := den_pos p; omega
    · exact h0 z
  · have := abs_nd hq hp; rwa [Int.mul_comm] at this
def rabs (q : Rat) : Rat := if q.num < 0 then -q else q
theorem rabs_D (q : Rat) : qD (rabs q) = .tup [.int (if q.num < 0 then -q.num else q.num), .int ((q.den : Nat) : Int)] := by
  unfold rabs qD
  split <;> rfl
theorem Sm.abs {q : Rat} {n : Nat} (h : Sm n q) : Sm n (rabs q) := by
  unfold rabs
  split
  · exact ⟨by rw [Rat.neg_num, Int.natAbs_neg]; exact h.1, by rw [Rat.neg_den]; exact h.2⟩
  · exact h
theorem r_lt (p q : Rat) : p.num * q.den < q.num * p.den ↔ p < q := (Rat.lt_iff p q).symm
/-- what a plain kind makes of two values -/
def op2 (k : Str) : Option Rat → Option Rat → Option Rat
  | some p, some q =>
    if k = "plus" then some (p + q) else if k = "minus" then some (p - q) else if k = "times" then some (p * q)
    else if k = "over" then (if q.num = 0 then none else some (p / q))
    else if k = "least" then some (if p < q then p else q) else some (if p < q then q else p)
  | _, _ => none
theorem op2_sm {k : Str} {p q v : Rat} {n : Nat} (hp : Sm n p) (hq : Sm n q) (h : op2 k (some p) (some q) = some v) : Sm (2 * n + 1) v := by
  unfold op2 at h
  simp only at h
  split at h
  · cases h; exact hp.add hq
  split at h
  · cases h; exact hp.sub hq
  split at h
  · cases h; exact (hp.mul hq).le (by omega)
  split at h
  · split at h
    · cases h
    · rename_i h0
      cases h; exact (hp.div hq h0).le (by omega)
  split at h
  · cases h; split
    · exact hp.le (by omega)
    · exact hq.le (by omega)
  · cases h; split
    · exact hq.le (by omega)
    · exact hp.le (by omega)
theorem op2_none_l {k : Str} {v : Option Rat} : op2 k none v = none := by cases v <;> rfl
theorem op2_none_r {k : Str} {v : Option Rat} : op2 k v none = none := by cases v <;> rfl
/-- the value of a thing: plain ones, and others -/
inductive Gv : Nat → D → Option Rat → Prop
  | num {e : Nat} {q : Rat} : Sm 10 q → Gv (e + 1) (.tup [.str "number", qD q]) (some q)
  | size {e : Nat} {a : D} {v : Option Rat} : Gv e a v → Gv (e + 1) (.tup [.str "size", a]) (v.map rabs)
  | two {e : Nat} {k : Str} {a b : D} {v u : Option Rat} : k ∈ K2 → Gv e a v → Gv e b u → Gv (e + 1) (.tup [.str k, a, b]) (op2 k v u)
  | other {e : Nat} {h : Str} {r : List D} : h ∉ K2 → h ≠ "size" → h ≠ "number" → Gv (e + 1) (.tup (.str h :: r)) none
def bits (e : Nat) : Nat := 6 * 2 ^ e - 1
theorem Gv.sm {e : Nat} {d : D} {v : Option Rat} (h : Gv e d v) : ∀ q, v = some q → Sm (bits e) q := by
  induction h with
  | @num e q hs =>
    intro q' h; cases h
    refine hs.le ?_
    unfold bits
    have : 1 ≤ 2 ^ e := Nat.one_le_two_pow
    rw [Nat.pow_succ]; omega
  | @size e a v _ ih =>
    intro q h
    rw [Option.map_eq_some_iff] at h
    obtain ⟨p, e1, rfl⟩ := h
    refine (ih p e1).abs.le ?_
    unfold bits
    rw [Nat.pow_succ]; omega
  | @two e k a b v u hk _ _ i1 i2 =>
    intro q h
    cases v with
    | none => rw [op2_none_l] at h; cases h
    | some p =>
      cases u with
      | none => rw [op2_none_r] at h; cases h
      | some r =>
        refine (op2_sm (i1 p rfl) (i2 r rfl) h).le ?_
        unfold bits
        have : 1 ≤ 2 ^ e := Nat.one_le_two_pow
        rw [Nat.pow_succ]; omega
  | other => intro q h; cases h
theorem bits_le {e : Nat} (h : e ≤ 8) : bits e ≤ 1535 := by
  have : 2 ^ e ≤ 2 ^ 8 := Nat.pow_le_pow_right (by decide) h
  unfold bits; omega
theorem Gv.up {e : Nat} {d : D} {v : Option Rat} (h : Gv e d v) : Gv (e + 1) d v := by
  induction h with
  | num hs => exact .num hs
  | size _ ih => exact .size ih
  | two hk _ _ i1 i2 => exact .two hk i1 i2
  | other a b c => exact .other a b c
theorem Gv.le {e e' : Nat} {d : D} {v : Option Rat} (h : Gv e d v) (he : e ≤ e') : Gv e' d v := by
  obtain ⟨k, rfl⟩ := Nat.le.dest he
  clear he
  induction k with
  | zero => exact h
  | succ k ih => exact ih.up
end LK
namespace LK
open PySem L2 D3 DyM
/-- a plain term, drawn -/
inductive Wp (ns : List Str) : Nat → D → Prop
  | num {e : Nat} {q : Rat} : Sm 10 q → Wp ns (e + 1) (.tup [.str "number", qD q])
  | name {e : Nat} {x : Str} : x ∈ ns → Wp ns (e + 1) (.tup [.str "name", .str x])
  | size {e : Nat} {a : D} : Wp ns e a → Wp ns (e + 1) (.tup [.str "size", a])
  | two {e : Nat} {k : Str} {a b : D} : k ∈ K2 → Wp ns e a → Wp ns e b → Wp ns (e + 1) (.tup [.str k, a, b])
theorem qD_pl {q : Rat} {n : Nat} (h : Sm n q) : Pl n (qD q) := ⟨h.1, by show Int.natAbs _ < _; rw [Int.natAbs_natCast]; exact h.2, trivial⟩
theorem Wp.ok {ns : List Str} (hn : Nms ns) {e : Nat} {d : D} (h : Wp ns e d) : Pl 140 d ∧ dp d ≤ e + 1 := by
  induction h with
  | @num e q hs => exact ⟨⟨⟨by decide +kernel, by decide +kernel⟩, Pl.le (by decide) _ (qD_pl hs), trivial⟩, by simp only [dp, dps, qD]; omega⟩
  | @name e x a => exact ⟨⟨⟨by decide +kernel, by decide +kernel⟩, hn _ a, trivial⟩, by simp only [dp, dps]; omega⟩
  | size _ i => exact ⟨⟨⟨by decide +kernel, by decide +kernel⟩, i.1, trivial⟩, by have := i.2; simp only [dp, dps]; omega⟩
  | two a _ _ i1 i2 => exact ⟨⟨pl_k (.inl a), i1.1, i2.1, trivial⟩, by have := i1.2; have := i2.2; simp only [dp, dps]; omega⟩
theorem Wp.up {ns : List Str} {e : Nat} {d : D} (h : Wp ns e d) : Wp ns (e + 1) d := by
  induction h with
  | num a => exact .num a
  | name a => exact .name a
  | size _ i => exact .size i
  | two a _ _ i1 i2 => exact .two a i1 i2
theorem Wp.le {ns : List Str} {e e' : Nat} {d : D} (h : Wp ns e d) (he : e ≤ e') : Wp ns e' d := by
  obtain ⟨k, rfl⟩ := Nat.le.dest he
  clear he
  induction k with
  | zero => exact h
  | succ k ih => exact ih.up
theorem Wp.gv {e : Nat} {d : D} (h : Wp [] e d) : ∃ v, Gv e d v := by
  induction h with
  | num a => exact ⟨_, .num a⟩
  | name a => cases a
  | size _ i => obtain ⟨v, i⟩ := i; exact ⟨_, .size i⟩
  | two a _ _ i1 i2 => obtain ⟨v, i1⟩ := i1; obtain ⟨u, i2⟩ := i2; exact ⟨_, .two a i1 i2⟩
end LK
namespace LK
open PySem L2 D3 DyM
theorem qD_inj {p q : Rat} (h : qD p = qD q) : p = q := by
  unfold qD at h
  simp only [D.tup.injEq, List.cons.injEq, D.int.injEq, and_true] at h
  exact Rat.ext h.1 (by omega)
theorem gv_num {e : Nat} {d : D} {v : Option Rat} (h : Gv e d v) : ∀ q, d = .tup [.str "number", qD q] → v = some q := by
  cases h with
  | num hs =>
    intro q' e
    simp only [D.tup.injEq, List.cons.injEq, and_true, true_and] at e
    rw [qD_inj e]
  | size _ =>
    intro q' e
    simp only [D.tup.injEq, List.cons.injEq, D.str.injEq] at e
    exact absurd e.1 (by decide +kernel)
  | two _ _ _ =>
    intro q' e
    simp only [D.tup.injEq, List.cons.injEq, reduceCtorEq, and_false] at e
  | other _ _ h3 =>
    intro q' e
    simp only [D.tup.injEq, List.cons.injEq, D.str.injEq] at e
    exact absurd e.1 h3
end LK

set_option Elab.async false
set_option linter.all false
set_option maxRecDepth 100000
set_option maxHeartbeats 4000000
/-! Gi: in a list of any data; new dicts; comprehensions by pairs. -/
namespace D3
open PySem L2 PyProof.Rows
section
variable {X : Cx} {pos p : Pos} {a b : Expr} {ta tb : TE3}
def fInD : F2 := fun x y m P => ∃ d ds, toPy x = some d ∧ toPy y = some (.list ds) ∧ SeqAt.shaped d = true ∧ SeqAt.shaped (.list ds) = true ∧ P (.bl (ds.any fun z => PyData.eqv z d)) m
def fNinD : F2 := fun x y m P => ∃ d ds, toPy x = some d ∧ toPy y = some (.list ds) ∧ SeqAt.shaped d = true ∧ SeqAt.shaped (.list ds) = true ∧ P (.bl (!ds.any fun z => PyData.eqv z d)) m
theorem rl_inD {K : PySem.W.Frag} : RL K (rInD K) fInD := by
  intro x y d e H m P Q h r1 r2 f k
  obtain ⟨u, us, e1, e2, s1, s2, q⟩ := f
  exact ⟨u, us, r1.dp _ _ _ e1, r2.dp _ _ _ e2, s1, s2, k.now h q (.bl _)⟩
theorem rl_ninD {K : PySem.W.Frag} : RL K (rNotInD K) fNinD := by
  intro x y d e H m P Q h r1 r2 f k
  obtain ⟨u, us, e1, e2, s1, s2, q⟩ := f
  exact ⟨u, us, r1.dp _ _ _ e1, r2.dp _ _ _ e2, s1, s2, k.now h q (.bl _)⟩
theorem e_inD {k : Nat} (hr : Room k X.A) (ha : PE3 X a ta) (hb : PE3 X b tb) (hm : behindInMarks .In b = false := by rfl) : PE3 X (.Compare a [.In] [b] pos) (op3 fInD ta tb) := e_cmpR (op_inD (by have := hr.un; omega)) rl_inD ha hb hm
theorem e_ninD {k : Nat} (hr : Room k X.A) (ha : PE3 X a ta) (hb : PE3 X b tb) (hm : behindInMarks .NotIn b = false := by rfl) : PE3 X (.Compare a [.NotIn] [b] pos) (op3 fNinD ta tb) := e_cmpR (op_notInD (by have := hr.un; omega)) rl_ninD ha hb hm
theorem t_inD {k : Nat} (hr : Room k X.A) (ha : PE3 X a ta) (hb : PE3 X b tb) (hm : behindInMarks .In b = false := by rfl) : PT3 X (.Compare a [.In] [b] pos) (b3 (op3 fInD ta tb)) := t_cmpR (op_inD (by have := hr.un; omega)) rl_inD ha hb hm
theorem t_ninD {k : Nat} (hr : Room k X.A) (ha : PE3 X a ta) (hb : PE3 X b tb) (hm : behindInMarks .NotIn b = false := by rfl) : PT3 X (.Compare a [.NotIn] [b] pos) (b3 (op3 fNinD ta tb)) := t_cmpR (op_notInD (by have := hr.un; omega)) rl_ninD ha hb hm
theorem fInD_pl {x : D} {ds : List D} {n k : Nat} {m : Mem} {P : DK} (hx : Pl n x) (hd : Pls k ds) (h1 : dp x ≤ 60) (h2 : dps ds ≤ 60) (q : P (.bl ((pysOf ds).any fun z => PyData.eqv z (pyOf x))) m) : fInD x (.lst ds) m P := by
  obtain ⟨a, b⟩ := toPy_of x hx
  obtain ⟨c, e⟩ := toPy_of (.lst ds) hd
  refine ⟨pyOf x, pysOf ds, a, by rw [c, pyOf], ?_, ?_, q⟩
  · unfold SeqAt.shaped; rw [can_of x hx, Bool.true_and]; exact decide_eq_true (by omega)
  · have hc := can_of (.lst ds) hd
    rw [pyOf] at hc e
    unfold SeqAt.shaped; rw [hc, Bool.true_and]; exact decide_eq_true (by simp only [dp] at e; omega)
theorem fNinD_pl {x : D} {ds : List D} {n k : Nat} {m : Mem} {P : DK} (hx : Pl n x) (hd : Pls k ds) (h1 : dp x ≤ 60) (h2 : dps ds ≤ 60) (q : P (.bl (!(pysOf ds).any fun z => PyData.eqv z (pyOf x))) m) : fNinD x (.lst ds) m P := by
  obtain ⟨a, b⟩ := toPy_of x hx
  obtain ⟨c, e⟩ := toPy_of (.lst ds) hd
  refine ⟨pyOf x, pysOf ds, a, by rw [c, pyOf], ?_, ?_, q⟩
  · unfold SeqAt.shaped; rw [can_of x hx, Bool.true_and]; exact decide_eq_true (by omega)
  · have hc := can_of (.lst ds) hd
    rw [pyOf] at hc e
    unfold SeqAt.shaped; rw [hc, Bool.true_and]; exact decide_eq_true (by simp only [dp] at e; omega)
/-- a new dict -/
def dnew3 : TE3 := fun _ m P => ∀ p, m p = none → P (.ref p) (put m p (.dct []))
theorem e_dnew : PE3 X (.Dict [] [] pos) dnew3 := by
  refine ⟨_, pe_dnewK, fun σ H ρ m P Q o h k => ?_⟩
  intro p hp
  exact k _ _ _ _ (h p (o.hr.none hp)) (step_newM hp) (hr_newM o.hr hp (show RepO _ _ _ (.dK []) (.dct []) from .nil)) (.ref p)
end
/-- a comprehension, by what is made of each -/
theorem lcGo_pairs {i : Nat} {te : TE3} {L : Addr} {ρ : Env3} {P : DK} : ∀ (zs : List (D × D)) (acc : List D) (m : Mem), m L = some (.lst acc) → acc.length + zs.length ≤ 16000 →
    (∀ z ∈ zs, ∀ m' (Kt : DK), Kt z.2 m' → te (ρ.set i (some z.1)) m' Kt) → P (.lst (acc ++ zs.map (·.2))) (del m L) → lcGo i yes3 te L ρ P (zs.map (·.1)) m
  | [], acc, m, e, _, _, h => ⟨acc, e, by simpa using h⟩
  | z :: zs, acc, m, e, hl, hs, h => ⟨acc, e, e, by
    rw [if_pos rfl]
    refine hs z List.mem_cons_self m _ ⟨e, by simp only [List.length_cons] at hl; omega, lcGo_pairs zs (acc ++ [z.2]) _ put_same (by simp only [List.length_append, List.length_cons, List.length_nil] at hl ⊢; omega) (fun y hy => hs y (List.mem_cons_of_mem _ hy)) ?_⟩
    rw [del_put]
    simpa using h⟩
end D3

namespace LK
open PySem L2 D3 DyM
def topS (i : Nat) : Stmt := PySem.Challenge.pw_lazyreal_k23_whole_plain_values.main.body.getD i (.Pass ⟨0, 0, 0, 0⟩)
abbrev s_is_whole : Stmt := topS 1
theorem sc_is_whole : FnScope ["thing"] ["thing"] (defScope s_is_whole) := ⟨rfl, rfl, rfl, by decide +kernel, rfl, by decide +kernel, by decide +kernel⟩
abbrev s_divisor : Stmt := topS 13
theorem sc_divisor : FnScope ["one", "other"] ["one", "other"] (defScope s_divisor) := ⟨rfl, rfl, rfl, by decide +kernel, rfl, by decide +kernel, by decide +kernel⟩
abbrev s_fraction : Stmt := topS 14
theorem sc_fraction : FnScope ["top", "bottom", "by"] ["top", "bottom"] (defScope s_fraction) := ⟨rfl, rfl, rfl, by decide +kernel, rfl, by decide +kernel, by decide +kernel⟩
abbrev s_is_fraction : Stmt := topS 15
theorem sc_is_fraction : FnScope ["thing"] ["thing"] (defScope s_is_fraction) := ⟨rfl, rfl, rfl, by decide +kernel, rfl, by decide +kernel, by decide +kernel⟩
abbrev s_is_less_fraction : Stmt := topS 16
theorem sc_is_less_fraction : FnScope ["one", "other"] ["one", "other"] (defScope s_is_less_fraction) := ⟨rfl, rfl, rfl, by decide +kernel, rfl, by decide +kernel, by decide +kernel⟩
abbrev s_is_name : Stmt := topS 67
theorem sc_is_name : FnScope ["thing", "sign"] ["thing"] (defScope s_is_name) := ⟨rfl, rfl, rfl, by decide +kernel, rfl, by decide +kernel, by decide +kernel⟩
abbrev s_parts_within : Stmt := topS 68
theorem sc_parts_within : FnScope ["thing", "head", "rest"] ["thing"] (defScope s_parts_within) := ⟨rfl, rfl, rfl, by decide +kernel, rfl, by decide +kernel, by decide +kernel⟩
abbrev s_counted : Stmt := topS 69
theorem sc_counted : FnScope ["thing", "deep", "inside", "parts", "total", "part", "many"] ["thing", "deep", "inside"] (defScope s_counted) := ⟨rfl, rfl, rfl, by decide +kernel, rfl, by decide +kernel, by decide +kernel⟩
abbrev s_is_term : Stmt := topS 70
theorem sc_is_term : FnScope ["thing"] ["thing"] (defScope s_is_term) := ⟨rfl, rfl, rfl, by decide +kernel, rfl, by decide +kernel, by decide +kernel⟩
abbrev s_plain_of_two : Stmt := topS 71
theorem sc_plain_of_two : FnScope ["kind", "one", "other"] ["kind", "one", "other"] (defScope s_plain_of_two) := ⟨rfl, rfl, rfl, by decide +kernel, rfl, by decide +kernel, by decide +kernel⟩
abbrev s_value_of : Stmt := topS 72
theorem sc_value_of : FnScope ["term", "values", "part"] ["term"] (defScope s_value_of) := ⟨rfl, rfl, rfl, by decide +kernel, rfl, by decide +kernel, by decide +kernel⟩
abbrev s_law_deck : Stmt := topS 74
theorem sc_law_deck : FnScope ["cell", "turn"] ["cell", "turn"] (defScope s_law_deck) := ⟨rfl, rfl, rfl, by decide +kernel, rfl, by decide +kernel, by decide +kernel⟩
abbrev s_law_pick : Stmt := topS 75
theorem sc_law_pick : FnScope ["deck", "many", "found", "number"] ["deck", "many"] (defScope s_law_pick) := ⟨rfl, rfl, rfl, by decide +kernel, rfl, by decide +kernel, by decide +kernel⟩
abbrev s_law_fraction : Stmt := topS 76
theorem sc_law_fraction : FnScope ["top", "bottom", "one", "other"] ["top", "bottom"] (defScope s_law_fraction) := ⟨rfl, rfl, rfl, by decide +kernel, rfl, by decide +kernel, by decide +kernel⟩
abbrev s_law_plain : Stmt := topS 79
theorem sc_law_plain : FnScope ["deck", "deep", "names", "one", "way", "kind"] ["deck", "deep", "names"] (defScope s_law_plain) := ⟨rfl, rfl, rfl, by decide +kernel, rfl, by decide +kernel, by decide +kernel⟩
abbrev s_law_value : Stmt := topS 80
theorem sc_law_value : FnScope ["term", "values", "kind", "one", "other", "under"] ["term", "values"] (defScope s_law_value) := ⟨rfl, rfl, rfl, by decide +kernel, rfl, by decide +kernel, by decide +kernel⟩
abbrev s_law_put : Stmt := topS 81
theorem sc_law_put : FnScope ["deck", "term", "other", "inner", "at"] ["deck", "term", "other"] (defScope s_law_put) := ⟨rfl, rfl, rfl, by decide +kernel, rfl, by decide +kernel, by decide +kernel⟩
abbrev s_law : Stmt := topS 82
theorem sc_law : FnScope ["script", "cell", "deck", "one", "other", "due", "kind", "alike", "some", "spoilt"] ["script"] (defScope s_law) := ⟨rfl, rfl, rfl, by decide +kernel, rfl, by decide +kernel, by decide +kernel⟩
/-- what the top has left -/
structure Tx (w : World) (K : PySem.W.Frag) (mg : Str → Option Value) (fa : Nat → Addr) (fd : Nat → FuncData) : Prop where
  d_is_whole : Def K mg "is_whole" s_is_whole ["thing"] (fa 0) (fd 0)
  d_divisor : Def K mg "divisor" s_divisor ["one", "other"] (fa 1) (fd 1)
  d_fraction : Def K mg "fraction" s_fraction ["top", "bottom"] (fa 2) (fd 2)
  d_is_fraction : Def K mg "is_fraction" s_is_fraction ["thing"] (fa 3) (fd 3)
  d_is_less_fraction : Def K mg "is_less_fraction" s_is_less_fraction ["one", "other"] (fa 4) (fd 4)
  d_is_name : Def K mg "is_name" s_is_name ["thing"] (fa 5) (fd 5)
  d_parts_within : Def K mg "parts_within" s_parts_within ["thing"] (fa 6) (fd 6)
  d_counted : Def K mg "counted" s_counted ["thing", "deep", "inside"] (fa 7) (fd 7)
  d_is_term : Def K mg "is_term" s_is_term ["thing"] (fa 8) (fd 8)
  d_plain_of_two : Def K mg "plain_of_two" s_plain_of_two ["kind", "one", "other"] (fa 9) (fd 9)
  d_value_of : Def K mg "value_of" s_value_of ["term"] (fa 10) (fd 10)
  d_law_deck : Def K mg "_law_deck" s_law_deck ["cell", "turn"] (fa 11) (fd 11)
  d_law_pick : Def K mg "_law_pick" s_law_pick ["deck", "many"] (fa 12) (fd 12)
  d_law_fraction : Def K mg "_law_fraction" s_law_fraction ["top", "bottom"] (fa 13) (fd 13)
  d_law_plain : Def K mg "_law_plain" s_law_plain ["deck", "deep", "names"] (fa 14) (fd 14)
  d_law_value : Def K mg "_law_value" s_law_value ["term", "values"] (fa 15) (fd 15)
  d_law_put : Def K mg "_law_put" s_law_put ["deck", "term", "other"] (fa 16) (fd 16)
  d_law : Def K mg "law" s_law ["script"] (fa 17) (fd 17)
  b_abs : mg "abs" = none
  b_all : mg "all" = none
  b_bool : mg "bool" = none
  b_int : mg "int" = none
  b_isinstance : mg "isinstance" = none
  b_len : mg "len" = none
  b_range : mg "range" = none
  b_str : mg "str" = none
  b_tuple : mg "tuple" = none
  c_LONGEST_NAME : ∃ t, mg "LONGEST_NAME" = some (.int 8 t)
  c_MOST_DEEP : ∃ t, mg "MOST_DEEP" = some (.int 12 t)
  c_MOST_PARTS : ∃ t, mg "MOST_PARTS" = some (.int 30 t)
  u_LETTERS : ∃ t, mg "LETTERS" = some (.str "abcdefghijklmnopqrstuvwxyz" t)
  t_KINDS_OF_ONE : ∃ d, mg "KINDS_OF_ONE" = some (.ref d) ∧ He.dicW K d = some (He.keysIn w.params ["size", "e", "log", "arc", "sine", "cosine"])
  t_KINDS_OF_TWO : ∃ d, mg "KINDS_OF_TWO" = some (.ref d) ∧ He.dicW K d = some (He.keysIn w.params ["plus", "minus", "times", "over", "least", "most"])
section
variable {P : Program} {w : World} {K : PySem.W.Frag} {mg : Str → Option Value} {base : Heap} {fa : Nat → Addr} {fd : Nat → FuncData}
def wh : D → Bool
  | .int _ => true
  | _ => false
def sp_isw : Sp3 := fun ds m P => ∃ (d : D) (b : Nat), ds = [d] ∧ Pl b d ∧ P (.bl (wh d)) m
theorem ok_is_whole (T : Tx w K mg fa fd) : Fn3 P w K mg base 1 (fa 0) (fd 0) ["thing"] sp_isw := by
  refine fn3 T.d_is_whole.F sc_is_whole (fun ds m Q h => by obtain ⟨_, _, rfl, _⟩ := h; rfl) fun cdv A outer s H E ds m Q hr h => ?_
  obtain ⟨d, b, rfl, hp, q⟩ := h
  refine ⟨_, (ss_one (s_ret (e_and (e_isi rfl T.b_isinstance (e_v 0) (e_type rfl T.b_int PyProof.Rows.boot_int)) (e_one (e_not (e_isi rfl T.b_isinstance (e_v 0) (e_type rfl T.b_bool PyProof.Rows.boot_bool))))))), ?_⟩
  cases d <;> first | (exact (hp : False).elim) | ((try simp -implicitDefEqProofs -dsimp only [seq3, ↓D3.ifS3.eq_1, ↓D3.b3.eq_1, ↓D3.op3.eq_1, ↓D3.un3.eq_1, ↓D3.v3.eq_1, ↓D3.c3.eq_1, fIx_tup, fIx_lst, at3_0, at3_1, at3_2, at3_3, at3_4, at3_5, at3_6, start3, fI0_i, fI_i, fLt, fLe, fGt, fGe, fEqI, fNeI, fMin, fMax, ↓D3.asg3.eq_1, ↓D3.name3.eq_1, ↓D3.sub3.eq_1, ↓D3.ret3.eq_1, ↓D3.retN3.eq_1, ↓D3.nx3.eq_1, ↓D3.drop3.eq_1, ↓D3.par3.eq_1, ↓D3.aug3.eq_1, ↓D3.and3.eq_1, ↓D3.or3.eq_1, ↓D3.not3.eq_1, ↓D3.andV3.eq_1, ↓D3.orV3.eq_1, ↓D3.notV3.eq_1, ↓D3.if3.eq_1, ↓D3.nil3.eq_1, ↓D3.cons3.eq_1, ↓D3.tup3.eq_1, ↓D3.lst3.eq_1, ↓D3.lstM3.eq_1, ↓D3.gtup3.eq_1, ↓D3.gcons3.eq_1, ↓D3.gnil3.eq_1, ↓D3.gunl3.eq_1, ↓D3.bits3.eq_1, ↓D3.neg3.eq_1, ↓D3.chain3.eq_1, fIsi_int_int, fIsi_int_bool, fIsi_int_tuple, fIsi_int_str, fIsi_int_list, fIsi_bl_int, fIsi_bl_bool, fIsi_bl_tuple, fIsi_bl_str, fIsi_bl_list, fIsi_non_int, fIsi_non_bool, fIsi_non_tuple, fIsi_non_str, fIsi_non_list, fIsi_str_int, fIsi_str_bool, fIsi_str_tuple, fIsi_str_str, fIsi_str_list, fIsi_tup_int, fIsi_tup_bool, fIsi_tup_tuple, fIsi_tup_str, fIsi_tup_list, fIsi_lst_int, fIsi_lst_bool, fIsi_lst_tuple, fIsi_lst_str, fIsi_lst_list, fLen_lst, fLen_tup, fAbs, ↓D3.call3_k, ↓D3.kont_app, ↓D3.isN3.eq_1, ↓D3.notN3.eq_1, dIsN_non, dIsN_int, dIsN_bl, dIsN_str, dIsN_tup, dIsN_lst, ↓D3.slc3.eq_1, ↓D3.part3.eq_1, ↓D3.noPart3.eq_1, ↓D3.ilst3.eq_1, ↓D3.itup3.eq_1, ↓D3.irng1.eq_1, ↓D3.irng2.eq_1, ↓D3.for3.eq_1, fCat, fEq_int, fNe_int, fEq_bl, fNe_bl, fEq_pair, fNe_pair, List.map, List.replicate, List.length_cons, List.length_nil, List.set_cons_zero, List.set_cons_succ, List.getElem?_cons_zero, List.getElem?_cons_succ, List.cons_append, List.nil_append, at_0, at_1, at_2, at_3, at_4, at_5, at_6, ix_0, ix_1, ix_2, put_same, put_put, decide_eq_true_eq, Bool.not_eq_true', decide_eq_false_iff_not, ite_not, ite_true, ite_false, if_true, if_false, Bool.false_eq_true, ↓reduceIte, reduceIte, Nat.reduceAdd, Nat.reduceSub, Int.reduceToNat, Nat.reduceLeDiff, not_false_eq_true, true_and, and_true, ne_eq, Int.reduceEq, Nat.zero_add, Bool.not_true, Bool.not_false, reduceCtorEq, nc0, nc1, nc2, nc3, nc4, nc5, fIx_ref put_same, fLen_ref put_same, ↓D3.lc3.eq_1, fInt, fTuple, fList, fNeS_s, fEqS_s, ↓D3.gstar3.eq_1, fInK_s, fNinK_s, fLenS_s, ↓D3.slcT3.eq_1, fCatT_t, dnew3]); exact q)
def sp_divisor : Sp3 := fun ds m P => ∃ a b : Int, ds = [.int a, .int b] ∧ 0 ≤ a ∧ 0 ≤ b ∧ P (.int (Int.gcd a b : Nat)) m
theorem ok_divisor (T : Tx w K mg fa fd) : Fn3 P w K mg base 1 (fa 1) (fd 1) ["one", "other"] sp_divisor := by
  refine fn3 T.d_divisor.F sc_divisor (fun ds m Q h => by obtain ⟨_, _, rfl, _⟩ := h; rfl) fun cdv A outer s H E ds m Q hr h => ?_
  obtain ⟨a, b, rfl, ha, hb, q⟩ := h
  refine ⟨_, (ss_cons (s_while PassesOwn.never (t_neI (e_v 1) e_int) (ss_one (s_par (i := 0) (j := 1) rfl sc_divisor.nd rfl rfl (by decide) rfl rfl (a_cons (e_v 1) (a_cons (e_mod (e_v 0) (e_v 1)) a_nil)) (by rfl))))
      (ss_one (s_ret (e_v 0)))), ?_⟩
  try simp -implicitDefEqProofs -dsimp only [seq3, ↓D3.ifS3.eq_1, ↓D3.b3.eq_1, ↓D3.op3.eq_1, ↓D3.un3.eq_1, ↓D3.v3.eq_1, ↓D3.c3.eq_1, fIx_tup, fIx_lst, at3_0, at3_1, at3_2, at3_3, at3_4, at3_5, at3_6, start3, fI0_i, fI_i, fLt, fLe, fGt, fGe, fEqI, fNeI, fMin, fMax, ↓D3.asg3.eq_1, ↓D3.name3.eq_1, ↓D3.sub3.eq_1, ↓D3.ret3.eq_1, ↓D3.retN3.eq_1, ↓D3.nx3.eq_1, ↓D3.drop3.eq_1, ↓D3.par3.eq_1, ↓D3.aug3.eq_1, ↓D3.and3.eq_1, ↓D3.or3.eq_1, ↓D3.not3.eq_1, ↓D3.andV3.eq_1, ↓D3.orV3.eq_1, ↓D3.notV3.eq_1, ↓D3.if3.eq_1, ↓D3.nil3.eq_1, ↓D3.cons3.eq_1, ↓D3.tup3.eq_1, ↓D3.lst3.eq_1, ↓D3.lstM3.eq_1, ↓D3.gtup3.eq_1, ↓D3.gcons3.eq_1, ↓D3.gnil3.eq_1, ↓D3.gunl3.eq_1, ↓D3.bits3.eq_1, ↓D3.neg3.eq_1, ↓D3.chain3.eq_1, fIsi_int_int, fIsi_int_bool, fIsi_int_tuple, fIsi_int_str, fIsi_int_list, fIsi_bl_int, fIsi_bl_bool, fIsi_bl_tuple, fIsi_bl_str, fIsi_bl_list, fIsi_non_int, fIsi_non_bool, fIsi_non_tuple, fIsi_non_str, fIsi_non_list, fIsi_str_int, fIsi_str_bool, fIsi_str_tuple, fIsi_str_str, fIsi_str_list, fIsi_tup_int, fIsi_tup_bool, fIsi_tup_tuple, fIsi_tup_str, fIsi_tup_list, fIsi_lst_int, fIsi_lst_bool, fIsi_lst_tuple, fIsi_lst_str, fIsi_lst_list, fLen_lst, fLen_tup, fAbs, ↓D3.call3_k, ↓D3.kont_app, ↓D3.isN3.eq_1, ↓D3.notN3.eq_1, dIsN_non, dIsN_int, dIsN_bl, dIsN_str, dIsN_tup, dIsN_lst, ↓D3.slc3.eq_1, ↓D3.part3.eq_1, ↓D3.noPart3.eq_1, ↓D3.ilst3.eq_1, ↓D3.itup3.eq_1, ↓D3.irng1.eq_1, ↓D3.irng2.eq_1, ↓D3.for3.eq_1, fCat, fEq_int, fNe_int, fEq_bl, fNe_bl, fEq_pair, fNe_pair, List.map, List.replicate, List.length_cons, List.length_nil, List.set_cons_zero, List.set_cons_succ, List.getElem?_cons_zero, List.getElem?_cons_succ, List.cons_append, List.nil_append, at_0, at_1, at_2, at_3, at_4, at_5, at_6, ix_0, ix_1, ix_2, put_same, put_put, decide_eq_true_eq, Bool.not_eq_true', decide_eq_false_iff_not, ite_not, ite_true, ite_false, if_true, if_false, Bool.false_eq_true, ↓reduceIte, reduceIte, Nat.reduceAdd, Nat.reduceSub, Int.reduceToNat, Nat.reduceLeDiff, not_false_eq_true, true_and, and_true, ne_eq, Int.reduceEq, Nat.zero_add, Bool.not_true, Bool.not_false, reduceCtorEq, nc0, nc1, nc2, nc3, nc4, nc5, fIx_ref put_same, fLen_ref put_same, ↓D3.lc3.eq_1, fInt, fTuple, fList, fNeS_s, fEqS_s, ↓D3.gstar3.eq_1, fInK_s, fNinK_s, fLenS_s, ↓D3.slcT3.eq_1, fCatT_t, dnew3]
  refine ⟨fun n ρ m' => ∃ x y : Int, ρ = [some (.int x), some (.int y)] ∧ m' = m ∧ 0 ≤ x ∧ 0 ≤ y ∧ n = y.toNat ∧ Int.gcd x y = Int.gcd a b, ⟨_, _, _, rfl, rfl, ha, hb, rfl, rfl⟩, ?_⟩
  rintro n ρ m' ⟨x, y, rfl, rfl, hx, hy, rfl, hg⟩
  try simp -implicitDefEqProofs -dsimp only [seq3, ↓D3.ifS3.eq_1, ↓D3.b3.eq_1, ↓D3.op3.eq_1, ↓D3.un3.eq_1, ↓D3.v3.eq_1, ↓D3.c3.eq_1, fIx_tup, fIx_lst, at3_0, at3_1, at3_2, at3_3, at3_4, at3_5, at3_6, start3, fI0_i, fI_i, fLt, fLe, fGt, fGe, fEqI, fNeI, fMin, fMax, ↓D3.asg3.eq_1, ↓D3.name3.eq_1, ↓D3.sub3.eq_1, ↓D3.ret3.eq_1, ↓D3.retN3.eq_1, ↓D3.nx3.eq_1, ↓D3.drop3.eq_1, ↓D3.par3.eq_1, ↓D3.aug3.eq_1, ↓D3.and3.eq_1, ↓D3.or3.eq_1, ↓D3.not3.eq_1, ↓D3.andV3.eq_1, ↓D3.orV3.eq_1, ↓D3.notV3.eq_1, ↓D3.if3.eq_1, ↓D3.nil3.eq_1, ↓D3.cons3.eq_1, ↓D3.tup3.eq_1, ↓D3.lst3.eq_1, ↓D3.lstM3.eq_1, ↓D3.gtup3.eq_1, ↓D3.gcons3.eq_1, ↓D3.gnil3.eq_1, ↓D3.gunl3.eq_1, ↓D3.bits3.eq_1, ↓D3.neg3.eq_1, ↓D3.chain3.eq_1, fIsi_int_int, fIsi_int_bool, fIsi_int_tuple, fIsi_int_str, fIsi_int_list, fIsi_bl_int, fIsi_bl_bool, fIsi_bl_tuple, fIsi_bl_str, fIsi_bl_list, fIsi_non_int, fIsi_non_bool, fIsi_non_tuple, fIsi_non_str, fIsi_non_list, fIsi_str_int, fIsi_str_bool, fIsi_str_tuple, fIsi_str_str, fIsi_str_list, fIsi_tup_int, fIsi_tup_bool, fIsi_tup_tuple, fIsi_tup_str, fIsi_tup_list, fIsi_lst_int, fIsi_lst_bool, fIsi_lst_tuple, fIsi_lst_str, fIsi_lst_list, fLen_lst, fLen_tup, fAbs, ↓D3.call3_k, ↓D3.kont_app, ↓D3.isN3.eq_1, ↓D3.notN3.eq_1, dIsN_non, dIsN_int, dIsN_bl, dIsN_str, dIsN_tup, dIsN_lst, ↓D3.slc3.eq_1, ↓D3.part3.eq_1, ↓D3.noPart3.eq_1, ↓D3.ilst3.eq_1, ↓D3.itup3.eq_1, ↓D3.irng1.eq_1, ↓D3.irng2.eq_1, ↓D3.for3.eq_1, fCat, fEq_int, fNe_int, fEq_bl, fNe_bl, fEq_pair, fNe_pair, List.map, List.replicate, List.length_cons, List.length_nil, List.set_cons_zero, List.set_cons_succ, List.getElem?_cons_zero, List.getElem?_cons_succ, List.cons_append, List.nil_append, at_0, at_1, at_2, at_3, at_4, at_5, at_6, ix_0, ix_1, ix_2, put_same, put_put, decide_eq_true_eq, Bool.not_eq_true', decide_eq_false_iff_not, ite_not, ite_true, ite_false, if_true, if_false, Bool.false_eq_true, ↓reduceIte, reduceIte, Nat.reduceAdd, Nat.reduceSub, Int.reduceToNat, Nat.reduceLeDiff, not_false_eq_true, true_and, and_true, ne_eq, Int.reduceEq, Nat.zero_add, Bool.not_true, Bool.not_false, reduceCtorEq, nc0, nc1, nc2, nc3, nc4, nc5, fIx_ref put_same, fLen_ref put_same, ↓D3.lc3.eq_1, fInt, fTuple, fList, fNeS_s, fEqS_s, ↓D3.gstar3.eq_1, fInK_s, fNinK_s, fLenS_s, ↓D3.slcT3.eq_1, fCatT_t, dnew3]
  refine ite2 (fun h => ?_) (fun h => ⟨h, (x.fmod y).toNat, by have := fmod_b x (show 0 < y by omega); omega, _, _, rfl, hy, (fmod_b x (show 0 < y by omega)).1, rfl, by rw [fmod_e x (show 0 < y by omega), gcd_step hx (by omega), hg]⟩)
  subst h
  rw [Int.gcd_zero_right] at hg
  rw [show x = (Int.gcd a b : Nat) by omega]
  exact q
def sp_isfr : Sp3 := fun ds m P => ∃ (d : D) (b : Nat), ds = [d] ∧ Pl b d ∧ P (.bl (isFr d)) m
theorem isFr_1 (x : D) : isFr (.tup [x]) = false := by cases x <;> rfl
theorem isFr_3 (x y z : D) (r : List D) : isFr (.tup (x :: y :: z :: r)) = false := by cases x <;> first | rfl | (cases y <;> rfl)
theorem isFr_2 (a b : Int) : isFr (.tup [.int a, .int b]) = decide (0 < b ∧ Int.gcd a b = 1) := rfl
theorem ok_is_fraction (T : Tx w K mg fa fd) : Fn3 P w K mg base 2 (fa 3) (fd 3) ["thing"] sp_isfr := by
  refine fn3 T.d_is_fraction.F sc_is_fraction (fun ds m Q h => by obtain ⟨_, _, rfl, _⟩ := h; rfl) fun cdv A outer s H E ds m Q hr h => ?_
  obtain ⟨d, b, rfl, hp, q⟩ := h
  refine ⟨_, (ss_cons (s_if (t_w (t_or (t_not (t_val (e_isi rfl T.b_isinstance (e_v 0) (e_type rfl T.b_tuple PyProof.Rows.boot_tuple)))) (t_or (t_neI (e_len rfl T.b_len (e_v 0)) e_int) (t_or (t_not (t_val (e_call T.d_is_whole (ok_is_whole T) (hr.mono (by omega)) rfl (a_cons (e_ix (e_v 0) e_int) a_nil)))) (t_or1 (t_not (t_val (e_call T.d_is_whole (ok_is_whole T) (hr.mono (by omega)) rfl (a_cons (e_ix (e_v 0) e_int) a_nil))))))))) (ss_one (s_ret e_bl)) ss_nil)
      (ss_one (s_ret (e_and (e_gt (e_ix (e_v 0) e_int) e_int) (e_one (e_eqI (e_call T.d_divisor (ok_divisor T) (hr.mono (by omega)) rfl (a_cons (e_abs rfl T.b_abs (e_ix (e_v 0) e_int)) (a_cons (e_ix (e_v 0) e_int) a_nil))) e_int)))))), ?_⟩
  cases d with
  | ref a => exact (hp : False).elim
  | ty a => exact (hp : False).elim
  | tup ds =>
    match ds, hp, q with
    | [], hp, q => (try simp -implicitDefEqProofs -dsimp only [seq3, ↓D3.ifS3.eq_1, ↓D3.b3.eq_1, ↓D3.op3.eq_1, ↓D3.un3.eq_1, ↓D3.v3.eq_1, ↓D3.c3.eq_1, fIx_tup, fIx_lst, at3_0, at3_1, at3_2, at3_3, at3_4, at3_5, at3_6, start3, fI0_i, fI_i, fLt, fLe, fGt, fGe, fEqI, fNeI, fMin, fMax, ↓D3.asg3.eq_1, ↓D3.name3.eq_1, ↓D3.sub3.eq_1, ↓D3.ret3.eq_1, ↓D3.retN3.eq_1, ↓D3.nx3.eq_1, ↓D3.drop3.eq_1, ↓D3.par3.eq_1, ↓D3.aug3.eq_1, ↓D3.and3.eq_1, ↓D3.or3.eq_1, ↓D3.not3.eq_1, ↓D3.andV3.eq_1, ↓D3.orV3.eq_1, ↓D3.notV3.eq_1, ↓D3.if3.eq_1, ↓D3.nil3.eq_1, ↓D3.cons3.eq_1, ↓D3.tup3.eq_1, ↓D3.lst3.eq_1, ↓D3.lstM3.eq_1, ↓D3.gtup3.eq_1, ↓D3.gcons3.eq_1, ↓D3.gnil3.eq_1, ↓D3.gunl3.eq_1, ↓D3.bits3.eq_1, ↓D3.neg3.eq_1, ↓D3.chain3.eq_1, fIsi_int_int, fIsi_int_bool, fIsi_int_tuple, fIsi_int_str, fIsi_int_list, fIsi_bl_int, fIsi_bl_bool, fIsi_bl_tuple, fIsi_bl_str, fIsi_bl_list, fIsi_non_int, fIsi_non_bool, fIsi_non_tuple, fIsi_non_str, fIsi_non_list, fIsi_str_int, fIsi_str_bool, fIsi_str_tuple, fIsi_str_str, fIsi_str_list, fIsi_tup_int, fIsi_tup_bool, fIsi_tup_tuple, fIsi_tup_str, fIsi_tup_list, fIsi_lst_int, fIsi_lst_bool, fIsi_lst_tuple, fIsi_lst_str, fIsi_lst_list, fLen_lst, fLen_tup, fAbs, ↓D3.call3_k, ↓D3.kont_app, ↓D3.isN3.eq_1, ↓D3.notN3.eq_1, dIsN_non, dIsN_int, dIsN_bl, dIsN_str, dIsN_tup, dIsN_lst, ↓D3.slc3.eq_1, ↓D3.part3.eq_1, ↓D3.noPart3.eq_1, ↓D3.ilst3.eq_1, ↓D3.itup3.eq_1, ↓D3.irng1.eq_1, ↓D3.irng2.eq_1, ↓D3.for3.eq_1, fCat, fEq_int, fNe_int, fEq_bl, fNe_bl, fEq_pair, fNe_pair, List.map, List.replicate, List.length_cons, List.length_nil, List.set_cons_zero, List.set_cons_succ, List.getElem?_cons_zero, List.getElem?_cons_succ, List.cons_append, List.nil_append, at_0, at_1, at_2, at_3, at_4, at_5, at_6, ix_0, ix_1, ix_2, put_same, put_put, decide_eq_true_eq, Bool.not_eq_true', decide_eq_false_iff_not, ite_not, ite_true, ite_false, if_true, if_false, Bool.false_eq_true, ↓reduceIte, reduceIte, Nat.reduceAdd, Nat.reduceSub, Int.reduceToNat, Nat.reduceLeDiff, not_false_eq_true, true_and, and_true, ne_eq, Int.reduceEq, Nat.zero_add, Bool.not_true, Bool.not_false, reduceCtorEq, nc0, nc1, nc2, nc3, nc4, nc5, fIx_ref put_same, fLen_ref put_same, ↓D3.lc3.eq_1, fInt, fTuple, fList, fNeS_s, fEqS_s, ↓D3.gstar3.eq_1, fInK_s, fNinK_s, fLenS_s, ↓D3.slcT3.eq_1, fCatT_t, dnew3]); exact q
    | [x], hp, q =>
      rw [isFr_1] at q
      try simp -implicitDefEqProofs -dsimp only [seq3, ↓D3.ifS3.eq_1, ↓D3.b3.eq_1, ↓D3.op3.eq_1, ↓D3.un3.eq_1, ↓D3.v3.eq_1, ↓D3.c3.eq_1, fIx_tup, fIx_lst, at3_0, at3_1, at3_2, at3_3, at3_4, at3_5, at3_6, start3, fI0_i, fI_i, fLt, fLe, fGt, fGe, fEqI, fNeI, fMin, fMax, ↓D3.asg3.eq_1, ↓D3.name3.eq_1, ↓D3.sub3.eq_1, ↓D3.ret3.eq_1, ↓D3.retN3.eq_1, ↓D3.nx3.eq_1, ↓D3.drop3.eq_1, ↓D3.par3.eq_1, ↓D3.aug3.eq_1, ↓D3.and3.eq_1, ↓D3.or3.eq_1, ↓D3.not3.eq_1, ↓D3.andV3.eq_1, ↓D3.orV3.eq_1, ↓D3.notV3.eq_1, ↓D3.if3.eq_1, ↓D3.nil3.eq_1, ↓D3.cons3.eq_1, ↓D3.tup3.eq_1, ↓D3.lst3.eq_1, ↓D3.lstM3.eq_1, ↓D3.gtup3.eq_1, ↓D3.gcons3.eq_1, ↓D3.gnil3.eq_1, ↓D3.gunl3.eq_1, ↓D3.bits3.eq_1, ↓D3.neg3.eq_1, ↓D3.chain3.eq_1, fIsi_int_int, fIsi_int_bool, fIsi_int_tuple, fIsi_int_str, fIsi_int_list, fIsi_bl_int, fIsi_bl_bool, fIsi_bl_tuple, fIsi_bl_str, fIsi_bl_list, fIsi_non_int, fIsi_non_bool, fIsi_non_tuple, fIsi_non_str, fIsi_non_list, fIsi_str_int, fIsi_str_bool, fIsi_str_tuple, fIsi_str_str, fIsi_str_list, fIsi_tup_int, fIsi_tup_bool, fIsi_tup_tuple, fIsi_tup_str, fIsi_tup_list, fIsi_lst_int, fIsi_lst_bool, fIsi_lst_tuple, fIsi_lst_str, fIsi_lst_list, fLen_lst, fLen_tup, fAbs, ↓D3.call3_k, ↓D3.kont_app, ↓D3.isN3.eq_1, ↓D3.notN3.eq_1, dIsN_non, dIsN_int, dIsN_bl, dIsN_str, dIsN_tup, dIsN_lst, ↓D3.slc3.eq_1, ↓D3.part3.eq_1, ↓D3.noPart3.eq_1, ↓D3.ilst3.eq_1, ↓D3.itup3.eq_1, ↓D3.irng1.eq_1, ↓D3.irng2.eq_1, ↓D3.for3.eq_1, fCat, fEq_int, fNe_int, fEq_bl, fNe_bl, fEq_pair, fNe_pair, List.map, List.replicate, List.length_cons, List.length_nil, List.set_cons_zero, List.set_cons_succ, List.getElem?_cons_zero, List.getElem?_cons_succ, List.cons_append, List.nil_append, at_0, at_1, at_2, at_3, at_4, at_5, at_6, ix_0, ix_1, ix_2, put_same, put_put, decide_eq_true_eq, Bool.not_eq_true', decide_eq_false_iff_not, ite_not, ite_true, ite_false, if_true, if_false, Bool.false_eq_true, ↓reduceIte, reduceIte, Nat.reduceAdd, Nat.reduceSub, Int.reduceToNat, Nat.reduceLeDiff, not_false_eq_true, true_and, and_true, ne_eq, Int.reduceEq, Nat.zero_add, Bool.not_true, Bool.not_false, reduceCtorEq, nc0, nc1, nc2, nc3, nc4, nc5, fIx_ref put_same, fLen_ref put_same, ↓D3.lc3.eq_1, fInt, fTuple, fList, fNeS_s, fEqS_s, ↓D3.gstar3.eq_1, fInK_s, fNinK_s, fLenS_s, ↓D3.slcT3.eq_1, fCatT_t, dnew3]
      exact q
    | x :: y :: z :: r, hp, q =>
      rw [isFr_3] at q
      try simp -implicitDefEqProofs -dsimp only [seq3, ↓D3.ifS3.eq_1, ↓D3.b3.eq_1, ↓D3.op3.eq_1, ↓D3.un3.eq_1, ↓D3.v3.eq_1, ↓D3.c3.eq_1, fIx_tup, fIx_lst, at3_0, at3_1, at3_2, at3_3, at3_4, at3_5, at3_6, start3, fI0_i, fI_i, fLt, fLe, fGt, fGe, fEqI, fNeI, fMin, fMax, ↓D3.asg3.eq_1, ↓D3.name3.eq_1, ↓D3.sub3.eq_1, ↓D3.ret3.eq_1, ↓D3.retN3.eq_1, ↓D3.nx3.eq_1, ↓D3.drop3.eq_1, ↓D3.par3.eq_1, ↓D3.aug3.eq_1, ↓D3.and3.eq_1, ↓D3.or3.eq_1, ↓D3.not3.eq_1, ↓D3.andV3.eq_1, ↓D3.orV3.eq_1, ↓D3.notV3.eq_1, ↓D3.if3.eq_1, ↓D3.nil3.eq_1, ↓D3.cons3.eq_1, ↓D3.tup3.eq_1, ↓D3.lst3.eq_1, ↓D3.lstM3.eq_1, ↓D3.gtup3.eq_1, ↓D3.gcons3.eq_1, ↓D3.gnil3.eq_1, ↓D3.gunl3.eq_1, ↓D3.bits3.eq_1, ↓D3.neg3.eq_1, ↓D3.chain3.eq_1, fIsi_int_int, fIsi_int_bool, fIsi_int_tuple, fIsi_int_str, fIsi_int_list, fIsi_bl_int, fIsi_bl_bool, fIsi_bl_tuple, fIsi_bl_str, fIsi_bl_list, fIsi_non_int, fIsi_non_bool, fIsi_non_tuple, fIsi_non_str, fIsi_non_list, fIsi_str_int, fIsi_str_bool, fIsi_str_tuple, fIsi_str_str, fIsi_str_list, fIsi_tup_int, fIsi_tup_bool, fIsi_tup_tuple, fIsi_tup_str, fIsi_tup_list, fIsi_lst_int, fIsi_lst_bool, fIsi_lst_tuple, fIsi_lst_str, fIsi_lst_list, fLen_lst, fLen_tup, fAbs, ↓D3.call3_k, ↓D3.kont_app, ↓D3.isN3.eq_1, ↓D3.notN3.eq_1, dIsN_non, dIsN_int, dIsN_bl, dIsN_str, dIsN_tup, dIsN_lst, ↓D3.slc3.eq_1, ↓D3.part3.eq_1, ↓D3.noPart3.eq_1, ↓D3.ilst3.eq_1, ↓D3.itup3.eq_1, ↓D3.irng1.eq_1, ↓D3.irng2.eq_1, ↓D3.for3.eq_1, fCat, fEq_int, fNe_int, fEq_bl, fNe_bl, fEq_pair, fNe_pair, List.map, List.replicate, List.length_cons, List.length_nil, List.set_cons_zero, List.set_cons_succ, List.getElem?_cons_zero, List.getElem?_cons_succ, List.cons_append, List.nil_append, at_0, at_1, at_2, at_3, at_4, at_5, at_6, ix_0, ix_1, ix_2, put_same, put_put, decide_eq_true_eq, Bool.not_eq_true', decide_eq_false_iff_not, ite_not, ite_true, ite_false, if_true, if_false, Bool.false_eq_true, ↓reduceIte, reduceIte, Nat.reduceAdd, Nat.reduceSub, Int.reduceToNat, Nat.reduceLeDiff, not_false_eq_true, true_and, and_true, ne_eq, Int.reduceEq, Nat.zero_add, Bool.not_true, Bool.not_false, reduceCtorEq, nc0, nc1, nc2, nc3, nc4, nc5, fIx_ref put_same, fLen_ref put_same, ↓D3.lc3.eq_1, fInt, fTuple, fList, fNeS_s, fEqS_s, ↓D3.gstar3.eq_1, fInK_s, fNinK_s, fLenS_s, ↓D3.slcT3.eq_1, fCatT_t, dnew3]
      exact ite2 (fun h => absurd h (by omega)) (fun h => q)
    | [x, y], hp, q =>
      try simp -implicitDefEqProofs -dsimp only [seq3, ↓D3.ifS3.eq_1, ↓D3.b3.eq_1, ↓D3.op3.eq_1, ↓D3.un3.eq_1, ↓D3.v3.eq_1, ↓D3.c3.eq_1, fIx_tup, fIx_lst, at3_0, at3_1, at3_2, at3_3, at3_4, at3_5, at3_6, start3, fI0_i, fI_i, fLt, fLe, fGt, fGe, fEqI, fNeI, fMin, fMax, ↓D3.asg3.eq_1, ↓D3.name3.eq_1, ↓D3.sub3.eq_1, ↓D3.ret3.eq_1, ↓D3.retN3.eq_1, ↓D3.nx3.eq_1, ↓D3.drop3.eq_1, ↓D3.par3.eq_1, ↓D3.aug3.eq_1, ↓D3.and3.eq_1, ↓D3.or3.eq_1, ↓D3.not3.eq_1, ↓D3.andV3.eq_1, ↓D3.orV3.eq_1, ↓D3.notV3.eq_1, ↓D3.if3.eq_1, ↓D3.nil3.eq_1, ↓D3.cons3.eq_1, ↓D3.tup3.eq_1, ↓D3.lst3.eq_1, ↓D3.lstM3.eq_1, ↓D3.gtup3.eq_1, ↓D3.gcons3.eq_1, ↓D3.gnil3.eq_1, ↓D3.gunl3.eq_1, ↓D3.bits3.eq_1, ↓D3.neg3.eq_1, ↓D3.chain3.eq_1, fIsi_int_int, fIsi_int_bool, fIsi_int_tuple, fIsi_int_str, fIsi_int_list, fIsi_bl_int, fIsi_bl_bool, fIsi_bl_tuple, fIsi_bl_str, fIsi_bl_list, fIsi_non_int, fIsi_non_bool, fIsi_non_tuple, fIsi_non_str, fIsi_non_list, fIsi_str_int, fIsi_str_bool, fIsi_str_tuple, fIsi_str_str, fIsi_str_list, fIsi_tup_int, fIsi_tup_bool, fIsi_tup_tuple, fIsi_tup_str, fIsi_tup_list, fIsi_lst_int, fIsi_lst_bool, fIsi_lst_tuple, fIsi_lst_str, fIsi_lst_list, fLen_lst, fLen_tup, fAbs, ↓D3.call3_k, ↓D3.kont_app, ↓D3.isN3.eq_1, ↓D3.notN3.eq_1, dIsN_non, dIsN_int, dIsN_bl, dIsN_str, dIsN_tup, dIsN_lst, ↓D3.slc3.eq_1, ↓D3.part3.eq_1, ↓D3.noPart3.eq_1, ↓D3.ilst3.eq_1, ↓D3.itup3.eq_1, ↓D3.irng1.eq_1, ↓D3.irng2.eq_1, ↓D3.for3.eq_1, fCat, fEq_int, fNe_int, fEq_bl, fNe_bl, fEq_pair, fNe_pair, List.map, List.replicate, List.length_cons, List.length_nil, List.set_cons_zero, List.set_cons_succ, List.getElem?_cons_zero, List.getElem?_cons_succ, List.cons_append, List.nil_append, at_0, at_1, at_2, at_3, at_4, at_5, at_6, ix_0, ix_1, ix_2, put_same, put_put, decide_eq_true_eq, Bool.not_eq_true', decide_eq_false_iff_not, ite_not, ite_true, ite_false, if_true, if_false, Bool.false_eq_true, ↓reduceIte, reduceIte, Nat.reduceAdd, Nat.reduceSub, Int.reduceToNat, Nat.reduceLeDiff, not_false_eq_true, true_and, and_true, ne_eq, Int.reduceEq, Nat.zero_add, Bool.not_true, Bool.not_false, reduceCtorEq, nc0, nc1, nc2, nc3, nc4, nc5, fIx_ref put_same, fLen_ref put_same, ↓D3.lc3.eq_1, fInt, fTuple, fList, fNeS_s, fEqS_s, ↓D3.gstar3.eq_1, fInK_s, fNinK_s, fLenS_s, ↓D3.slcT3.eq_1, fCatT_t, dnew3]
      refine ⟨x, b, rfl, hp.1, ?_⟩
      cases x with
      | int t =>
        simp only [wh]
        try simp -implicitDefEqProofs -dsimp only [seq3, ↓D3.ifS3.eq_1, ↓D3.b3.eq_1, ↓D3.op3.eq_1, ↓D3.un3.eq_1, ↓D3.v3.eq_1, ↓D3.c3.eq_1, fIx_tup, fIx_lst, at3_0, at3_1, at3_2, at3_3, at3_4, at3_5, at3_6, start3, fI0_i, fI_i, fLt, fLe, fGt, fGe, fEqI, fNeI, fMin, fMax, ↓D3.asg3.eq_1, ↓D3.name3.eq_1, ↓D3.sub3.eq_1, ↓D3.ret3.eq_1, ↓D3.retN3.eq_1, ↓D3.nx3.eq_1, ↓D3.drop3.eq_1, ↓D3.par3.eq_1, ↓D3.aug3.eq_1, ↓D3.and3.eq_1, ↓D3.or3.eq_1, ↓D3.not3.eq_1, ↓D3.andV3.eq_1, ↓D3.orV3.eq_1, ↓D3.notV3.eq_1, ↓D3.if3.eq_1, ↓D3.nil3.eq_1, ↓D3.cons3.eq_1, ↓D3.tup3.eq_1, ↓D3.lst3.eq_1, ↓D3.lstM3.eq_1, ↓D3.gtup3.eq_1, ↓D3.gcons3.eq_1, ↓D3.gnil3.eq_1, ↓D3.gunl3.eq_1, ↓D3.bits3.eq_1, ↓D3.neg3.eq_1, ↓D3.chain3.eq_1, fIsi_int_int, fIsi_int_bool, fIsi_int_tuple, fIsi_int_str, fIsi_int_list, fIsi_bl_int, fIsi_bl_bool, fIsi_bl_tuple, fIsi_bl_str, fIsi_bl_list, fIsi_non_int, fIsi_non_bool, fIsi_non_tuple, fIsi_non_str, fIsi_non_list, fIsi_str_int, fIsi_str_bool, fIsi_str_tuple, fIsi_str_str, fIsi_str_list, fIsi_tup_int, fIsi_tup_bool, fIsi_tup_tuple, fIsi_tup_str, fIsi_tup_list, fIsi_lst_int, fIsi_lst_bool, fIsi_lst_tuple, fIsi_lst_str, fIsi_lst_list, fLen_lst, fLen_tup, fAbs, ↓D3.call3_k, ↓D3.kont_app, ↓D3.isN3.eq_1, ↓D3.notN3.eq_1, dIsN_non, dIsN_int, dIsN_bl, dIsN_str, dIsN_tup, dIsN_lst, ↓D3.slc3.eq_1, ↓D3.part3.eq_1, ↓D3.noPart3.eq_1, ↓D3.ilst3.eq_1, ↓D3.itup3.eq_1, ↓D3.irng1.eq_1, ↓D3.irng2.eq_1, ↓D3.for3.eq_1, fCat, fEq_int, fNe_int, fEq_bl, fNe_bl, fEq_pair, fNe_pair, List.map, List.replicate, List.length_cons, List.length_nil, List.set_cons_zero, List.set_cons_succ, List.getElem?_cons_zero, List.getElem?_cons_succ, List.cons_append, List.nil_append, at_0, at_1, at_2, at_3, at_4, at_5, at_6, ix_0, ix_1, ix_2, put_same, put_put, decide_eq_true_eq, Bool.not_eq_true', decide_eq_false_iff_not, ite_not, ite_true, ite_false, if_true, if_false, Bool.false_eq_true, ↓reduceIte, reduceIte, Nat.reduceAdd, Nat.reduceSub, Int.reduceToNat, Nat.reduceLeDiff, not_false_eq_true, true_and, and_true, ne_eq, Int.reduceEq, Nat.zero_add, Bool.not_true, Bool.not_false, reduceCtorEq, nc0, nc1, nc2, nc3, nc4, nc5, fIx_ref put_same, fLen_ref put_same, ↓D3.lc3.eq_1, fInt, fTuple, fList, fNeS_s, fEqS_s, ↓D3.gstar3.eq_1, fInK_s, fNinK_s, fLenS_s, ↓D3.slcT3.eq_1, fCatT_t, dnew3]
        refine ⟨y, b, rfl, hp.2.1, ?_⟩
        cases y with
        | int n =>
          simp only [wh]
          try simp -implicitDefEqProofs -dsimp only [seq3, ↓D3.ifS3.eq_1, ↓D3.b3.eq_1, ↓D3.op3.eq_1, ↓D3.un3.eq_1, ↓D3.v3.eq_1, ↓D3.c3.eq_1, fIx_tup, fIx_lst, at3_0, at3_1, at3_2, at3_3, at3_4, at3_5, at3_6, start3, fI0_i, fI_i, fLt, fLe, fGt, fGe, fEqI, fNeI, fMin, fMax, ↓D3.asg3.eq_1, ↓D3.name3.eq_1, ↓D3.sub3.eq_1, ↓D3.ret3.eq_1, ↓D3.retN3.eq_1, ↓D3.nx3.eq_1, ↓D3.drop3.eq_1, ↓D3.par3.eq_1, ↓D3.aug3.eq_1, ↓D3.and3.eq_1, ↓D3.or3.eq_1, ↓D3.not3.eq_1, ↓D3.andV3.eq_1, ↓D3.orV3.eq_1, ↓D3.notV3.eq_1, ↓D3.if3.eq_1, ↓D3.nil3.eq_1, ↓D3.cons3.eq_1, ↓D3.tup3.eq_1, ↓D3.lst3.eq_1, ↓D3.lstM3.eq_1, ↓D3.gtup3.eq_1, ↓D3.gcons3.eq_1, ↓D3.gnil3.eq_1, ↓D3.gunl3.eq_1, ↓D3.bits3.eq_1, ↓D3.neg3.eq_1, ↓D3.chain3.eq_1, fIsi_int_int, fIsi_int_bool, fIsi_int_tuple, fIsi_int_str, fIsi_int_list, fIsi_bl_int, fIsi_bl_bool, fIsi_bl_tuple, fIsi_bl_str, fIsi_bl_list, fIsi_non_int, fIsi_non_bool, fIsi_non_tuple, fIsi_non_str, fIsi_non_list, fIsi_str_int, fIsi_str_bool, fIsi_str_tuple, fIsi_str_str, fIsi_str_list, fIsi_tup_int, fIsi_tup_bool, fIsi_tup_tuple, fIsi_tup_str, fIsi_tup_list, fIsi_lst_int, fIsi_lst_bool, fIsi_lst_tuple, fIsi_lst_str, fIsi_lst_list, fLen_lst, fLen_tup, fAbs, ↓D3.call3_k, ↓D3.kont_app, ↓D3.isN3.eq_1, ↓D3.notN3.eq_1, dIsN_non, dIsN_int, dIsN_bl, dIsN_str, dIsN_tup, dIsN_lst, ↓D3.slc3.eq_1, ↓D3.part3.eq_1, ↓D3.noPart3.eq_1, ↓D3.ilst3.eq_1, ↓D3.itup3.eq_1, ↓D3.irng1.eq_1, ↓D3.irng2.eq_1, ↓D3.for3.eq_1, fCat, fEq_int, fNe_int, fEq_bl, fNe_bl, fEq_pair, fNe_pair, List.map, List.replicate, List.length_cons, List.length_nil, List.set_cons_zero, List.set_cons_succ, List.getElem?_cons_zero, List.getElem?_cons_succ, List.cons_append, List.nil_append, at_0, at_1, at_2, at_3, at_4, at_5, at_6, ix_0, ix_1, ix_2, put_same, put_put, decide_eq_true_eq, Bool.not_eq_true', decide_eq_false_iff_not, ite_not, ite_true, ite_false, if_true, if_false, Bool.false_eq_true, ↓reduceIte, reduceIte, Nat.reduceAdd, Nat.reduceSub, Int.reduceToNat, Nat.reduceLeDiff, not_false_eq_true, true_and, and_true, ne_eq, Int.reduceEq, Nat.zero_add, Bool.not_true, Bool.not_false, reduceCtorEq, nc0, nc1, nc2, nc3, nc4, nc5, fIx_ref put_same, fLen_ref put_same, ↓D3.lc3.eq_1, fInt, fTuple, fList, fNeS_s, fEqS_s, ↓D3.gstar3.eq_1, fInK_s, fNinK_s, fLenS_s, ↓D3.slcT3.eq_1, fCatT_t, dnew3]
          rw [isFr_2] at q
          refine ite2 (fun h => ⟨_, _, rfl, by split <;> omega, by omega, ?_⟩) (fun h => ?_)
          · try simp -implicitDefEqProofs -dsimp only [seq3, ↓D3.ifS3.eq_1, ↓D3.b3.eq_1, ↓D3.op3.eq_1, ↓D3.un3.eq_1, ↓D3.v3.eq_1, ↓D3.c3.eq_1, fIx_tup, fIx_lst, at3_0, at3_1, at3_2, at3_3, at3_4, at3_5, at3_6, start3, fI0_i, fI_i, fLt, fLe, fGt, fGe, fEqI, fNeI, fMin, fMax, ↓D3.asg3.eq_1, ↓D3.name3.eq_1, ↓D3.sub3.eq_1, ↓D3.ret3.eq_1, ↓D3.retN3.eq_1, ↓D3.nx3.eq_1, ↓D3.drop3.eq_1, ↓D3.par3.eq_1, ↓D3.aug3.eq_1, ↓D3.and3.eq_1, ↓D3.or3.eq_1, ↓D3.not3.eq_1, ↓D3.andV3.eq_1, ↓D3.orV3.eq_1, ↓D3.notV3.eq_1, ↓D3.if3.eq_1, ↓D3.nil3.eq_1, ↓D3.cons3.eq_1, ↓D3.tup3.eq_1, ↓D3.lst3.eq_1, ↓D3.lstM3.eq_1, ↓D3.gtup3.eq_1, ↓D3.gcons3.eq_1, ↓D3.gnil3.eq_1, ↓D3.gunl3.eq_1, ↓D3.bits3.eq_1, ↓D3.neg3.eq_1, ↓D3.chain3.eq_1, fIsi_int_int, fIsi_int_bool, fIsi_int_tuple, fIsi_int_str, fIsi_int_list, fIsi_bl_int, fIsi_bl_bool, fIsi_bl_tuple, fIsi_bl_str, fIsi_bl_list, fIsi_non_int, fIsi_non_bool, fIsi_non_tuple, fIsi_non_str, fIsi_non_list, fIsi_str_int, fIsi_str_bool, fIsi_str_tuple, fIsi_str_str, fIsi_str_list, fIsi_tup_int, fIsi_tup_bool, fIsi_tup_tuple, fIsi_tup_str, fIsi_tup_list, fIsi_lst_int, fIsi_lst_bool, fIsi_lst_tuple, fIsi_lst_str, fIsi_lst_list, fLen_lst, fLen_tup, fAbs, ↓D3.call3_k, ↓D3.kont_app, ↓D3.isN3.eq_1, ↓D3.notN3.eq_1, dIsN_non, dIsN_int, dIsN_bl, dIsN_str, dIsN_tup, dIsN_lst, ↓D3.slc3.eq_1, ↓D3.part3.eq_1, ↓D3.noPart3.eq_1, ↓D3.ilst3.eq_1, ↓D3.itup3.eq_1, ↓D3.irng1.eq_1, ↓D3.irng2.eq_1, ↓D3.for3.eq_1, fCat, fEq_int, fNe_int, fEq_bl, fNe_bl, fEq_pair, fNe_pair, List.map, List.replicate, List.length_cons, List.length_nil, List.set_cons_zero, List.set_cons_succ, List.getElem?_cons_zero, List.getElem?_cons_succ, List.cons_append, List.nil_append, at_0, at_1, at_2, at_3, at_4, at_5, at_6, ix_0, ix_1, ix_2, put_same, put_put, decide_eq_true_eq, Bool.not_eq_true', decide_eq_false_iff_not, ite_not, ite_true, ite_false, if_true, if_false, Bool.false_eq_true, ↓reduceIte, reduceIte, Nat.reduceAdd, Nat.reduceSub, Int.reduceToNat, Nat.reduceLeDiff, not_false_eq_true, true_and, and_true, ne_eq, Int.reduceEq, Nat.zero_add, Bool.not_true, Bool.not_false, reduceCtorEq, nc0, nc1, nc2, nc3, nc4, nc5, fIx_ref put_same, fLen_ref put_same, ↓D3.lc3.eq_1, fInt, fTuple, fList, fNeS_s, fEqS_s, ↓D3.gstar3.eq_1, fInK_s, fNinK_s, fLenS_s, ↓D3.slcT3.eq_1, fCatT_t, dnew3]
            rw [show (decide ((((if t < 0 then -t else t).gcd n : Nat) : Int) = 1)) = decide (0 < n ∧ t.gcd n = 1) from by
              have e : (if t < 0 then -t else t).gcd n = t.gcd n := by split <;> simp
              rw [e]
              by_cases g : t.gcd n = 1
              · rw [g]; simp [h]
              · simp [g]; omega]
            exact q
          · rwa [decide_eq_false (p := 0 < n ∧ t.gcd n = 1) fun z => h z.1] at q
        | _ => (try simp -implicitDefEqProofs -dsimp only [seq3, ↓D3.ifS3.eq_1, ↓D3.b3.eq_1, ↓D3.op3.eq_1, ↓D3.un3.eq_1, ↓D3.v3.eq_1, ↓D3.c3.eq_1, fIx_tup, fIx_lst, at3_0, at3_1, at3_2, at3_3, at3_4, at3_5, at3_6, start3, fI0_i, fI_i, fLt, fLe, fGt, fGe, fEqI, fNeI, fMin, fMax, ↓D3.asg3.eq_1, ↓D3.name3.eq_1, ↓D3.sub3.eq_1, ↓D3.ret3.eq_1, ↓D3.retN3.eq_1, ↓D3.nx3.eq_1, ↓D3.drop3.eq_1, ↓D3.par3.eq_1, ↓D3.aug3.eq_1, ↓D3.and3.eq_1, ↓D3.or3.eq_1, ↓D3.not3.eq_1, ↓D3.andV3.eq_1, ↓D3.orV3.eq_1, ↓D3.notV3.eq_1, ↓D3.if3.eq_1, ↓D3.nil3.eq_1, ↓D3.cons3.eq_1, ↓D3.tup3.eq_1, ↓D3.lst3.eq_1, ↓D3.lstM3.eq_1, ↓D3.gtup3.eq_1, ↓D3.gcons3.eq_1, ↓D3.gnil3.eq_1, ↓D3.gunl3.eq_1, ↓D3.bits3.eq_1, ↓D3.neg3.eq_1, ↓D3.chain3.eq_1, fIsi_int_int, fIsi_int_bool, fIsi_int_tuple, fIsi_int_str, fIsi_int_list, fIsi_bl_int, fIsi_bl_bool, fIsi_bl_tuple, fIsi_bl_str, fIsi_bl_list, fIsi_non_int, fIsi_non_bool, fIsi_non_tuple, fIsi_non_str, fIsi_non_list, fIsi_str_int, fIsi_str_bool, fIsi_str_tuple, fIsi_str_str, fIsi_str_list, fIsi_tup_int, fIsi_tup_bool, fIsi_tup_tuple, fIsi_tup_str, fIsi_tup_list, fIsi_lst_int, fIsi_lst_bool, fIsi_lst_tuple, fIsi_lst_str, fIsi_lst_list, fLen_lst, fLen_tup, fAbs, ↓D3.call3_k, ↓D3.kont_app, ↓D3.isN3.eq_1, ↓D3.notN3.eq_1, dIsN_non, dIsN_int, dIsN_bl, dIsN_str, dIsN_tup, dIsN_lst, ↓D3.slc3.eq_1, ↓D3.part3.eq_1, ↓D3.noPart3.eq_1, ↓D3.ilst3.eq_1, ↓D3.itup3.eq_1, ↓D3.irng1.eq_1, ↓D3.irng2.eq_1, ↓D3.for3.eq_1, fCat, fEq_int, fNe_int, fEq_bl, fNe_bl, fEq_pair, fNe_pair, List.map, List.replicate, List.length_cons, List.length_nil, List.set_cons_zero, List.set_cons_succ, List.getElem?_cons_zero, List.getElem?_cons_succ, List.cons_append, List.nil_append, at_0, at_1, at_2, at_3, at_4, at_5, at_6, ix_0, ix_1, ix_2, put_same, put_put, decide_eq_true_eq, Bool.not_eq_true', decide_eq_false_iff_not, ite_not, ite_true, ite_false, if_true, if_false, Bool.false_eq_true, ↓reduceIte, reduceIte, Nat.reduceAdd, Nat.reduceSub, Int.reduceToNat, Nat.reduceLeDiff, not_false_eq_true, true_and, and_true, ne_eq, Int.reduceEq, Nat.zero_add, Bool.not_true, Bool.not_false, reduceCtorEq, nc0, nc1, nc2, nc3, nc4, nc5, fIx_ref put_same, fLen_ref put_same, ↓D3.lc3.eq_1, fInt, fTuple, fList, fNeS_s, fEqS_s, ↓D3.gstar3.eq_1, fInK_s, fNinK_s, fLenS_s, ↓D3.slcT3.eq_1, fCatT_t, dnew3, wh]); exact q
      | _ => (try simp -implicitDefEqProofs -dsimp only [seq3, ↓D3.ifS3.eq_1, ↓D3.b3.eq_1, ↓D3.op3.eq_1, ↓D3.un3.eq_1, ↓D3.v3.eq_1, ↓D3.c3.eq_1, fIx_tup, fIx_lst, at3_0, at3_1, at3_2, at3_3, at3_4, at3_5, at3_6, start3, fI0_i, fI_i, fLt, fLe, fGt, fGe, fEqI, fNeI, fMin, fMax, ↓D3.asg3.eq_1, ↓D3.name3.eq_1, ↓D3.sub3.eq_1, ↓D3.ret3.eq_1, ↓D3.retN3.eq_1, ↓D3.nx3.eq_1, ↓D3.drop3.eq_1, ↓D3.par3.eq_1, ↓D3.aug3.eq_1, ↓D3.and3.eq_1, ↓D3.or3.eq_1, ↓D3.not3.eq_1, ↓D3.andV3.eq_1, ↓D3.orV3.eq_1, ↓D3.notV3.eq_1, ↓D3.if3.eq_1, ↓D3.nil3.eq_1, ↓D3.cons3.eq_1, ↓D3.tup3.eq_1, ↓D3.lst3.eq_1, ↓D3.lstM3.eq_1, ↓D3.gtup3.eq_1, ↓D3.gcons3.eq_1, ↓D3.gnil3.eq_1, ↓D3.gunl3.eq_1, ↓D3.bits3.eq_1, ↓D3.neg3.eq_1, ↓D3.chain3.eq_1, fIsi_int_int, fIsi_int_bool, fIsi_int_tuple, fIsi_int_str, fIsi_int_list, fIsi_bl_int, fIsi_bl_bool, fIsi_bl_tuple, fIsi_bl_str, fIsi_bl_list, fIsi_non_int, fIsi_non_bool, fIsi_non_tuple, fIsi_non_str, fIsi_non_list, fIsi_str_int, fIsi_str_bool, fIsi_str_tuple, fIsi_str_str, fIsi_str_list, fIsi_tup_int, fIsi_tup_bool, fIsi_tup_tuple, fIsi_tup_str, fIsi_tup_list, fIsi_lst_int, fIsi_lst_bool, fIsi_lst_tuple, fIsi_lst_str, fIsi_lst_list, fLen_lst, fLen_tup, fAbs, ↓D3.call3_k, ↓D3.kont_app, ↓D3.isN3.eq_1, ↓D3.notN3.eq_1, dIsN_non, dIsN_int, dIsN_bl, dIsN_str, dIsN_tup, dIsN_lst, ↓D3.slc3.eq_1, ↓D3.part3.eq_1, ↓D3.noPart3.eq_1, ↓D3.ilst3.eq_1, ↓D3.itup3.eq_1, ↓D3.irng1.eq_1, ↓D3.irng2.eq_1, ↓D3.for3.eq_1, fCat, fEq_int, fNe_int, fEq_bl, fNe_bl, fEq_pair, fNe_pair, List.map, List.replicate, List.length_cons, List.length_nil, List.set_cons_zero, List.set_cons_succ, List.getElem?_cons_zero, List.getElem?_cons_succ, List.cons_append, List.nil_append, at_0, at_1, at_2, at_3, at_4, at_5, at_6, ix_0, ix_1, ix_2, put_same, put_put, decide_eq_true_eq, Bool.not_eq_true', decide_eq_false_iff_not, ite_not, ite_true, ite_false, if_true, if_false, Bool.false_eq_true, ↓reduceIte, reduceIte, Nat.reduceAdd, Nat.reduceSub, Int.reduceToNat, Nat.reduceLeDiff, not_false_eq_true, true_and, and_true, ne_eq, Int.reduceEq, Nat.zero_add, Bool.not_true, Bool.not_false, reduceCtorEq, nc0, nc1, nc2, nc3, nc4, nc5, fIx_ref put_same, fLen_ref put_same, ↓D3.lc3.eq_1, fInt, fTuple, fList, fNeS_s, fEqS_s, ↓D3.gstar3.eq_1, fInK_s, fNinK_s, fLenS_s, ↓D3.slcT3.eq_1, fCatT_t, dnew3, wh]); exact q
  | _ => (try simp -implicitDefEqProofs -dsimp only [seq3, ↓D3.ifS3.eq_1, ↓D3.b3.eq_1, ↓D3.op3.eq_1, ↓D3.un3.eq_1, ↓D3.v3.eq_1, ↓D3.c3.eq_1, fIx_tup, fIx_lst, at3_0, at3_1, at3_2, at3_3, at3_4, at3_5, at3_6, start3, fI0_i, fI_i, fLt, fLe, fGt, fGe, fEqI, fNeI, fMin, fMax, ↓D3.asg3.eq_1, ↓D3.name3.eq_1, ↓D3.sub3.eq_1, ↓D3.ret3.eq_1, ↓D3.retN3.eq_1, ↓D3.nx3.eq_1, ↓D3.drop3.eq_1, ↓D3.par3.eq_1, ↓D3.aug3.eq_1, ↓D3.and3.eq_1, ↓D3.or3.eq_1, ↓D3.not3.eq_1, ↓D3.andV3.eq_1, ↓D3.orV3.eq_1, ↓D3.notV3.eq_1, ↓D3.if3.eq_1, ↓D3.nil3.eq_1, ↓D3.cons3.eq_1, ↓D3.tup3.eq_1, ↓D3.lst3.eq_1, ↓D3.lstM3.eq_1, ↓D3.gtup3.eq_1, ↓D3.gcons3.eq_1, ↓D3.gnil3.eq_1, ↓D3.gunl3.eq_1, ↓D3.bits3.eq_1, ↓D3.neg3.eq_1, ↓D3.chain3.eq_1, fIsi_int_int, fIsi_int_bool, fIsi_int_tuple, fIsi_int_str, fIsi_int_list, fIsi_bl_int, fIsi_bl_bool, fIsi_bl_tuple, fIsi_bl_str, fIsi_bl_list, fIsi_non_int, fIsi_non_bool, fIsi_non_tuple, fIsi_non_str, fIsi_non_list, fIsi_str_int, fIsi_str_bool, fIsi_str_tuple, fIsi_str_str, fIsi_str_list, fIsi_tup_int, fIsi_tup_bool, fIsi_tup_tuple, fIsi_tup_str, fIsi_tup_list, fIsi_lst_int, fIsi_lst_bool, fIsi_lst_tuple, fIsi_lst_str, fIsi_lst_list, fLen_lst, fLen_tup, fAbs, ↓D3.call3_k, ↓D3.kont_app, ↓D3.isN3.eq_1, ↓D3.notN3.eq_1, dIsN_non, dIsN_int, dIsN_bl, dIsN_str, dIsN_tup, dIsN_lst, ↓D3.slc3.eq_1, ↓D3.part3.eq_1, ↓D3.noPart3.eq_1, ↓D3.ilst3.eq_1, ↓D3.itup3.eq_1, ↓D3.irng1.eq_1, ↓D3.irng2.eq_1, ↓D3.for3.eq_1, fCat, fEq_int, fNe_int, fEq_bl, fNe_bl, fEq_pair, fNe_pair, List.map, List.replicate, List.length_cons, List.length_nil, List.set_cons_zero, List.set_cons_succ, List.getElem?_cons_zero, List.getElem?_cons_succ, List.cons_append, List.nil_append, at_0, at_1, at_2, at_3, at_4, at_5, at_6, ix_0, ix_1, ix_2, put_same, put_put, decide_eq_true_eq, Bool.not_eq_true', decide_eq_false_iff_not, ite_not, ite_true, ite_false, if_true, if_false, Bool.false_eq_true, ↓reduceIte, reduceIte, Nat.reduceAdd, Nat.reduceSub, Int.reduceToNat, Nat.reduceLeDiff, not_false_eq_true, true_and, and_true, ne_eq, Int.reduceEq, Nat.zero_add, Bool.not_true, Bool.not_false, reduceCtorEq, nc0, nc1, nc2, nc3, nc4, nc5, fIx_ref put_same, fLen_ref put_same, ↓D3.lc3.eq_1, fInt, fTuple, fList, fNeS_s, fEqS_s, ↓D3.gstar3.eq_1, fInK_s, fNinK_s, fLenS_s, ↓D3.slcT3.eq_1, fCatT_t, dnew3]); exact q
def sp_isfr4 : Sp3 := fun ds m P => ∃ (d : D) (b : Nat), ds = [d] ∧ Pl b d ∧ b ≤ 400 ∧ P (.bl (isFr d)) m
def sp_lessfr : Sp3 := fun ds m P => ∃ a b c d : Int, ds = [.tup [.int a, .int b], .tup [.int c, .int d]] ∧ a.natAbs < 2 ^ 4000 ∧ b.natAbs < 2 ^ 4000 ∧ c.natAbs < 2 ^ 4000 ∧ d.natAbs < 2 ^ 4000 ∧ P (.bl (decide (a * d < c * b))) m
theorem ok_is_less_fraction (T : Tx w K mg fa fd) : Fn3 P w K mg base 1 (fa 4) (fd 4) ["one", "other"] sp_lessfr := by
  refine fn3 T.d_is_less_fraction.F sc_is_less_fraction (fun ds m Q h => by obtain ⟨_, _, _, _, rfl, _⟩ := h; rfl) fun cdv A outer s H E ds m Q hr h => ?_
  obtain ⟨a, b, c, d, rfl, ha, hb, hc, hd, q⟩ := h
  refine ⟨_, (ss_one (s_ret (e_lt (e_mul (e_ix (e_v 0) e_int) (e_ix (e_v 1) e_int)) (e_mul (e_ix (e_v 1) e_int) (e_ix (e_v 0) e_int))))), ?_⟩
  try simp -implicitDefEqProofs -dsimp only [seq3, ↓D3.ifS3.eq_1, ↓D3.b3.eq_1, ↓D3.op3.eq_1, ↓D3.un3.eq_1, ↓D3.v3.eq_1, ↓D3.c3.eq_1, fIx_tup, fIx_lst, at3_0, at3_1, at3_2, at3_3, at3_4, at3_5, at3_6, start3, fI0_i, fI_i, fLt, fLe, fGt, fGe, fEqI, fNeI, fMin, fMax, ↓D3.asg3.eq_1, ↓D3.name3.eq_1, ↓D3.sub3.eq_1, ↓D3.ret3.eq_1, ↓D3.retN3.eq_1, ↓D3.nx3.eq_1, ↓D3.drop3.eq_1, ↓D3.par3.eq_1, ↓D3.aug3.eq_1, ↓D3.and3.eq_1, ↓D3.or3.eq_1, ↓D3.not3.eq_1, ↓D3.andV3.eq_1, ↓D3.orV3.eq_1, ↓D3.notV3.eq_1, ↓D3.if3.eq_1, ↓D3.nil3.eq_1, ↓D3.cons3.eq_1, ↓D3.tup3.eq_1, ↓D3.lst3.eq_1, ↓D3.lstM3.eq_1, ↓D3.gtup3.eq_1, ↓D3.gcons3.eq_1, ↓D3.gnil3.eq_1, ↓D3.gunl3.eq_1, ↓D3.bits3.eq_1, ↓D3.neg3.eq_1, ↓D3.chain3.eq_1, fIsi_int_int, fIsi_int_bool, fIsi_int_tuple, fIsi_int_str, fIsi_int_list, fIsi_bl_int, fIsi_bl_bool, fIsi_bl_tuple, fIsi_bl_str, fIsi_bl_list, fIsi_non_int, fIsi_non_bool, fIsi_non_tuple, fIsi_non_str, fIsi_non_list, fIsi_str_int, fIsi_str_bool, fIsi_str_tuple, fIsi_str_str, fIsi_str_list, fIsi_tup_int, fIsi_tup_bool, fIsi_tup_tuple, fIsi_tup_str, fIsi_tup_list, fIsi_lst_int, fIsi_lst_bool, fIsi_lst_tuple, fIsi_lst_str, fIsi_lst_list, fLen_lst, fLen_tup, fAbs, ↓D3.call3_k, ↓D3.kont_app, ↓D3.isN3.eq_1, ↓D3.notN3.eq_1, dIsN_non, dIsN_int, dIsN_bl, dIsN_str, dIsN_tup, dIsN_lst, ↓D3.slc3.eq_1, ↓D3.part3.eq_1, ↓D3.noPart3.eq_1, ↓D3.ilst3.eq_1, ↓D3.itup3.eq_1, ↓D3.irng1.eq_1, ↓D3.irng2.eq_1, ↓D3.for3.eq_1, fCat, fEq_int, fNe_int, fEq_bl, fNe_bl, fEq_pair, fNe_pair, List.map, List.replicate, List.length_cons, List.length_nil, List.set_cons_zero, List.set_cons_succ, List.getElem?_cons_zero, List.getElem?_cons_succ, List.cons_append, List.nil_append, at_0, at_1, at_2, at_3, at_4, at_5, at_6, ix_0, ix_1, ix_2, put_same, put_put, decide_eq_true_eq, Bool.not_eq_true', decide_eq_false_iff_not, ite_not, ite_true, ite_false, if_true, if_false, Bool.false_eq_true, ↓reduceIte, reduceIte, Nat.reduceAdd, Nat.reduceSub, Int.reduceToNat, Nat.reduceLeDiff, not_false_eq_true, true_and, and_true, ne_eq, Int.reduceEq, Nat.zero_add, Bool.not_true, Bool.not_false, reduceCtorEq, nc0, nc1, nc2, nc3, nc4, nc5, fIx_ref put_same, fLen_ref put_same, ↓D3.lc3.eq_1, fInt, fTuple, fList, fNeS_s, fEqS_s, ↓D3.gstar3.eq_1, fInK_s, fNinK_s, fLenS_s, ↓D3.slcT3.eq_1, fCatT_t, dnew3]
  exact ⟨mul_c ha hd (by decide), mul_c hc hb (by decide), q⟩
def sp_isnm : Sp3 := fun ds m P => ∃ (d : D) (b : Nat), ds = [d] ∧ Pl b d ∧ b ≤ 1000 ∧ P (.bl (isNm d)) m
theorem ok_is_name (T : Tx w K mg fa fd) : Fn3 P w K mg base 1 (fa 5) (fd 5) ["thing"] sp_isnm := by
  refine fn3 T.d_is_name.F sc_is_name (fun ds m Q h => by obtain ⟨_, _, rfl, _⟩ := h; rfl) fun cdv A outer s H E ds m Q hr h => ?_
  obtain ⟨d, b, rfl, hp, hb, q⟩ := h
  refine ⟨_, (ss_cons (s_if (t_w (t_or (t_not (t_val (e_isi rfl T.b_isinstance (e_v 0) (e_type rfl T.b_str PyProof.Rows.boot_str)))) (t_or (t_not (t_chain op_le rl_le op_le rl_le e_int (e_lenS rfl T.b_len (e_v 0)) (e_globI rfl T.c_LONGEST_NAME))) (t_or1 (t_eqS (e_v 0) e_str))))) (ss_one (s_ret e_bl)) ss_nil)
      (ss_one (s_ret (e_all rfl T.b_all (e_lc (i := 1) rfl sc_is_name.nd (i_str (e_v 0)) (blkOk_by (own := [("sign", 1)]) (N := ["thing", "sign"]) (sc := defScope s_is_name) (by decide +kernel))  (fun _ _ _ _ _ => (e_inS (e_v 1) (e_globS rfl T.u_LETTERS)))))))), ?_⟩
  cases d with
  | ref a => exact (hp : False).elim
  | ty a => exact (hp : False).elim
  | str y =>
    have hl : y.length ≤ b ∧ ∀ c ∈ y.cps.toList, c < 0x110000 := hp
    try simp -implicitDefEqProofs -dsimp only [seq3, ↓D3.ifS3.eq_1, ↓D3.b3.eq_1, ↓D3.op3.eq_1, ↓D3.un3.eq_1, ↓D3.v3.eq_1, ↓D3.c3.eq_1, fIx_tup, fIx_lst, at3_0, at3_1, at3_2, at3_3, at3_4, at3_5, at3_6, start3, fI0_i, fI_i, fLt, fLe, fGt, fGe, fEqI, fNeI, fMin, fMax, ↓D3.asg3.eq_1, ↓D3.name3.eq_1, ↓D3.sub3.eq_1, ↓D3.ret3.eq_1, ↓D3.retN3.eq_1, ↓D3.nx3.eq_1, ↓D3.drop3.eq_1, ↓D3.par3.eq_1, ↓D3.aug3.eq_1, ↓D3.and3.eq_1, ↓D3.or3.eq_1, ↓D3.not3.eq_1, ↓D3.andV3.eq_1, ↓D3.orV3.eq_1, ↓D3.notV3.eq_1, ↓D3.if3.eq_1, ↓D3.nil3.eq_1, ↓D3.cons3.eq_1, ↓D3.tup3.eq_1, ↓D3.lst3.eq_1, ↓D3.lstM3.eq_1, ↓D3.gtup3.eq_1, ↓D3.gcons3.eq_1, ↓D3.gnil3.eq_1, ↓D3.gunl3.eq_1, ↓D3.bits3.eq_1, ↓D3.neg3.eq_1, ↓D3.chain3.eq_1, fIsi_int_int, fIsi_int_bool, fIsi_int_tuple, fIsi_int_str, fIsi_int_list, fIsi_bl_int, fIsi_bl_bool, fIsi_bl_tuple, fIsi_bl_str, fIsi_bl_list, fIsi_non_int, fIsi_non_bool, fIsi_non_tuple, fIsi_non_str, fIsi_non_list, fIsi_str_int, fIsi_str_bool, fIsi_str_tuple, fIsi_str_str, fIsi_str_list, fIsi_tup_int, fIsi_tup_bool, fIsi_tup_tuple, fIsi_tup_str, fIsi_tup_list, fIsi_lst_int, fIsi_lst_bool, fIsi_lst_tuple, fIsi_lst_str, fIsi_lst_list, fLen_lst, fLen_tup, fAbs, ↓D3.call3_k, ↓D3.kont_app, ↓D3.isN3.eq_1, ↓D3.notN3.eq_1, dIsN_non, dIsN_int, dIsN_bl, dIsN_str, dIsN_tup, dIsN_lst, ↓D3.slc3.eq_1, ↓D3.part3.eq_1, ↓D3.noPart3.eq_1, ↓D3.ilst3.eq_1, ↓D3.itup3.eq_1, ↓D3.irng1.eq_1, ↓D3.irng2.eq_1, ↓D3.for3.eq_1, fCat, fEq_int, fNe_int, fEq_bl, fNe_bl, fEq_pair, fNe_pair, List.map, List.replicate, List.length_cons, List.length_nil, List.set_cons_zero, List.set_cons_succ, List.getElem?_cons_zero, List.getElem?_cons_succ, List.cons_append, List.nil_append, at_0, at_1, at_2, at_3, at_4, at_5, at_6, ix_0, ix_1, ix_2, put_same, put_put, decide_eq_true_eq, Bool.not_eq_true', decide_eq_false_iff_not, ite_not, ite_true, ite_false, if_true, if_false, Bool.false_eq_true, ↓reduceIte, reduceIte, Nat.reduceAdd, Nat.reduceSub, Int.reduceToNat, Nat.reduceLeDiff, not_false_eq_true, true_and, and_true, ne_eq, Int.reduceEq, Nat.zero_add, Bool.not_true, Bool.not_false, reduceCtorEq, nc0, nc1, nc2, nc3, nc4, nc5, fIx_ref put_same, fLen_ref put_same, ↓D3.lc3.eq_1, fInt, fTuple, fList, fNeS_s, fEqS_s, ↓D3.gstar3.eq_1, fInK_s, fNinK_s, fLenS_s, ↓D3.slcT3.eq_1, fCatT_t, dnew3, istr3]
    refine ⟨lbig (by omega), ?_⟩
    have eN : isNm (.str y) = (decide (1 ≤ y.length ∧ y.length ≤ 8 ∧ y ≠ "pi") && y.cps.toList.all fun c => decide (97 ≤ c ∧ c ≤ 122)) := rfl
    rw [eN] at q
    refine ite2 (fun h1 => ite2 (fun h2 => ite2 (fun h3 => ?_) (fun h3 => ?_)) (fun h2 => ?_)) (fun h1 => ?_)
    · rwa [decide_eq_false (p := 1 ≤ y.length ∧ y.length ≤ 8 ∧ y ≠ "pi") fun z => z.2.2 h3, Bool.false_and] at q
    · rw [decide_eq_true (p := 1 ≤ y.length ∧ y.length ≤ 8 ∧ y ≠ "pi") ⟨by omega, by omega, h3⟩, Bool.true_and] at q
      intro L hL
      have hlen : (signs y).length = y.length := by simp [signs]; rfl
      refine lcGo_map (fun d => match d with
        | .str s => .bl (s.cps.toList.all fun c => decide (97 ≤ c ∧ c ≤ 122))
        | _ => .non) (signs y) [] _ put_same (by rw [hlen]; simp; omega) (fun x hx m' Kt k => ?_) ?_
      · unfold signs at hx
        obtain ⟨c, _, rfl⟩ := List.mem_map.mp hx
        try simp -implicitDefEqProofs -dsimp only [seq3, ↓D3.ifS3.eq_1, ↓D3.b3.eq_1, ↓D3.op3.eq_1, ↓D3.un3.eq_1, ↓D3.v3.eq_1, ↓D3.c3.eq_1, fIx_tup, fIx_lst, at3_0, at3_1, at3_2, at3_3, at3_4, at3_5, at3_6, start3, fI0_i, fI_i, fLt, fLe, fGt, fGe, fEqI, fNeI, fMin, fMax, ↓D3.asg3.eq_1, ↓D3.name3.eq_1, ↓D3.sub3.eq_1, ↓D3.ret3.eq_1, ↓D3.retN3.eq_1, ↓D3.nx3.eq_1, ↓D3.drop3.eq_1, ↓D3.par3.eq_1, ↓D3.aug3.eq_1, ↓D3.and3.eq_1, ↓D3.or3.eq_1, ↓D3.not3.eq_1, ↓D3.andV3.eq_1, ↓D3.orV3.eq_1, ↓D3.notV3.eq_1, ↓D3.if3.eq_1, ↓D3.nil3.eq_1, ↓D3.cons3.eq_1, ↓D3.tup3.eq_1, ↓D3.lst3.eq_1, ↓D3.lstM3.eq_1, ↓D3.gtup3.eq_1, ↓D3.gcons3.eq_1, ↓D3.gnil3.eq_1, ↓D3.gunl3.eq_1, ↓D3.bits3.eq_1, ↓D3.neg3.eq_1, ↓D3.chain3.eq_1, fIsi_int_int, fIsi_int_bool, fIsi_int_tuple, fIsi_int_str, fIsi_int_list, fIsi_bl_int, fIsi_bl_bool, fIsi_bl_tuple, fIsi_bl_str, fIsi_bl_list, fIsi_non_int, fIsi_non_bool, fIsi_non_tuple, fIsi_non_str, fIsi_non_list, fIsi_str_int, fIsi_str_bool, fIsi_str_tuple, fIsi_str_str, fIsi_str_list, fIsi_tup_int, fIsi_tup_bool, fIsi_tup_tuple, fIsi_tup_str, fIsi_tup_list, fIsi_lst_int, fIsi_lst_bool, fIsi_lst_tuple, fIsi_lst_str, fIsi_lst_list, fLen_lst, fLen_tup, fAbs, ↓D3.call3_k, ↓D3.kont_app, ↓D3.isN3.eq_1, ↓D3.notN3.eq_1, dIsN_non, dIsN_int, dIsN_bl, dIsN_str, dIsN_tup, dIsN_lst, ↓D3.slc3.eq_1, ↓D3.part3.eq_1, ↓D3.noPart3.eq_1, ↓D3.ilst3.eq_1, ↓D3.itup3.eq_1, ↓D3.irng1.eq_1, ↓D3.irng2.eq_1, ↓D3.for3.eq_1, fCat, fEq_int, fNe_int, fEq_bl, fNe_bl, fEq_pair, fNe_pair, List.map, List.replicate, List.length_cons, List.length_nil, List.set_cons_zero, List.set_cons_succ, List.getElem?_cons_zero, List.getElem?_cons_succ, List.cons_append, List.nil_append, at_0, at_1, at_2, at_3, at_4, at_5, at_6, ix_0, ix_1, ix_2, put_same, put_put, decide_eq_true_eq, Bool.not_eq_true', decide_eq_false_iff_not, ite_not, ite_true, ite_false, if_true, if_false, Bool.false_eq_true, ↓reduceIte, reduceIte, Nat.reduceAdd, Nat.reduceSub, Int.reduceToNat, Nat.reduceLeDiff, not_false_eq_true, true_and, and_true, ne_eq, Int.reduceEq, Nat.zero_add, Bool.not_true, Bool.not_false, reduceCtorEq, nc0, nc1, nc2, nc3, nc4, nc5, fIx_ref put_same, fLen_ref put_same, ↓D3.lc3.eq_1, fInt, fTuple, fList, fNeS_s, fEqS_s, ↓D3.gstar3.eq_1, fInK_s, fNinK_s, fLenS_s, ↓D3.slcT3.eq_1, fCatT_t, dnew3]
        refine ⟨c, rfl, ?_⟩
        have e : decide (c ∈ (Str.ofString "abcdefghijklmnopqrstuvwxyz").cps.toList) = decide (97 ≤ c ∧ c ≤ 122) := by
          have e0 : (Str.ofString "abcdefghijklmnopqrstuvwxyz").cps.toList = [97, 98, 99, 100, 101, 102, 103, 104, 105, 106, 107, 108, 109, 110, 111, 112, 113, 114, 115, 116, 117, 118, 119, 120, 121, 122] := by decide +kernel
          rw [e0]
          simp only [List.mem_cons, List.not_mem_nil, or_false]
          congr 1
          apply propext
          omega
        rw [e]
        simpa using k
      · rw [del_put, del_none hL]
        refine ⟨y.cps.toList.map fun c => decide (97 ≤ c ∧ c ≤ 122), ?_, ?_⟩
        · simp [signs]
        · simpa using q
    · rwa [decide_eq_false (p := 1 ≤ y.length ∧ y.length ≤ 8 ∧ y ≠ "pi") fun z => h2 (by omega), Bool.false_and] at q
    · rwa [decide_eq_false (p := 1 ≤ y.length ∧ y.length ≤ 8 ∧ y ≠ "pi") fun z => h1 (by omega), Bool.false_and] at q
  | _ => (try simp -implicitDefEqProofs -dsimp only [seq3, ↓D3.ifS3.eq_1, ↓D3.b3.eq_1, ↓D3.op3.eq_1, ↓D3.un3.eq_1, ↓D3.v3.eq_1, ↓D3.c3.eq_1, fIx_tup, fIx_lst, at3_0, at3_1, at3_2, at3_3, at3_4, at3_5, at3_6, start3, fI0_i, fI_i, fLt, fLe, fGt, fGe, fEqI, fNeI, fMin, fMax, ↓D3.asg3.eq_1, ↓D3.name3.eq_1, ↓D3.sub3.eq_1, ↓D3.ret3.eq_1, ↓D3.retN3.eq_1, ↓D3.nx3.eq_1, ↓D3.drop3.eq_1, ↓D3.par3.eq_1, ↓D3.aug3.eq_1, ↓D3.and3.eq_1, ↓D3.or3.eq_1, ↓D3.not3.eq_1, ↓D3.andV3.eq_1, ↓D3.orV3.eq_1, ↓D3.notV3.eq_1, ↓D3.if3.eq_1, ↓D3.nil3.eq_1, ↓D3.cons3.eq_1, ↓D3.tup3.eq_1, ↓D3.lst3.eq_1, ↓D3.lstM3.eq_1, ↓D3.gtup3.eq_1, ↓D3.gcons3.eq_1, ↓D3.gnil3.eq_1, ↓D3.gunl3.eq_1, ↓D3.bits3.eq_1, ↓D3.neg3.eq_1, ↓D3.chain3.eq_1, fIsi_int_int, fIsi_int_bool, fIsi_int_tuple, fIsi_int_str, fIsi_int_list, fIsi_bl_int, fIsi_bl_bool, fIsi_bl_tuple, fIsi_bl_str, fIsi_bl_list, fIsi_non_int, fIsi_non_bool, fIsi_non_tuple, fIsi_non_str, fIsi_non_list, fIsi_str_int, fIsi_str_bool, fIsi_str_tuple, fIsi_str_str, fIsi_str_list, fIsi_tup_int, fIsi_tup_bool, fIsi_tup_tuple, fIsi_tup_str, fIsi_tup_list, fIsi_lst_int, fIsi_lst_bool, fIsi_lst_tuple, fIsi_lst_str, fIsi_lst_list, fLen_lst, fLen_tup, fAbs, ↓D3.call3_k, ↓D3.kont_app, ↓D3.isN3.eq_1, ↓D3.notN3.eq_1, dIsN_non, dIsN_int, dIsN_bl, dIsN_str, dIsN_tup, dIsN_lst, ↓D3.slc3.eq_1, ↓D3.part3.eq_1, ↓D3.noPart3.eq_1, ↓D3.ilst3.eq_1, ↓D3.itup3.eq_1, ↓D3.irng1.eq_1, ↓D3.irng2.eq_1, ↓D3.for3.eq_1, fCat, fEq_int, fNe_int, fEq_bl, fNe_bl, fEq_pair, fNe_pair, List.map, List.replicate, List.length_cons, List.length_nil, List.set_cons_zero, List.set_cons_succ, List.getElem?_cons_zero, List.getElem?_cons_succ, List.cons_append, List.nil_append, at_0, at_1, at_2, at_3, at_4, at_5, at_6, ix_0, ix_1, ix_2, put_same, put_put, decide_eq_true_eq, Bool.not_eq_true', decide_eq_false_iff_not, ite_not, ite_true, ite_false, if_true, if_false, Bool.false_eq_true, ↓reduceIte, reduceIte, Nat.reduceAdd, Nat.reduceSub, Int.reduceToNat, Nat.reduceLeDiff, not_false_eq_true, true_and, and_true, ne_eq, Int.reduceEq, Nat.zero_add, Bool.not_true, Bool.not_false, reduceCtorEq, nc0, nc1, nc2, nc3, nc4, nc5, fIx_ref put_same, fLen_ref put_same, ↓D3.lc3.eq_1, fInt, fTuple, fList, fNeS_s, fEqS_s, ↓D3.gstar3.eq_1, fInK_s, fNinK_s, fLenS_s, ↓D3.slcT3.eq_1, fCatT_t, dnew3]); exact q
def oD : Option (List D) → D
  | none => .non
  | some l => .lst l
def sp_parts : Sp3 := fun ds m P => ∃ d : D, ds = [d] ∧ Pl 900 d ∧ dp d ≤ 60 ∧ P (oD (inn d)) m
theorem ok_parts_within (T : Tx w K mg fa fd) : Fn3 P w K mg base 3 (fa 6) (fd 6) ["thing"] sp_parts := by
  refine fn3 T.d_parts_within.F sc_parts_within (fun ds m Q h => by obtain ⟨_, rfl, _⟩ := h; rfl) fun cdv A outer s H E ds m Q hr h => ?_
  obtain ⟨d, rfl, hp, hd, q⟩ := h
  refine ⟨_, (ss_cons (s_if (t_w (t_or (t_not (t_val (e_isi rfl T.b_isinstance (e_v 0) (e_type rfl T.b_tuple PyProof.Rows.boot_tuple)))) (t_or (t_eq hr (e_v 0) (e_tup a_nil)) (t_or1 (t_not (t_val (e_isi rfl T.b_isinstance (e_ix (e_v 0) e_int) (e_type rfl T.b_str PyProof.Rows.boot_str)))))))) (ss_one (s_ret e_non)) ss_nil)
      (ss_cons (s_asg (e_v 0) (g_star rfl (g_name (i := 1) sc_parts_within.nd) (g_name (i := 2) sc_parts_within.nd)))
      (ss_cons (s_if (t_inK rfl T.t_KINDS_OF_TWO (e_v 1)) (ss_one (s_ret (e_if (t_eqI (e_len rfl T.b_len (e_v 2)) e_int) (e_v 2) e_non))) ss_nil)
      (ss_cons (s_if (t_inK rfl T.t_KINDS_OF_ONE (e_v 1)) (ss_one (s_ret (e_if (t_eqI (e_len rfl T.b_len (e_v 2)) e_int) (e_v 2) e_non))) ss_nil)
      (ss_cons (s_if (t_eqS (e_v 1) e_str) (ss_one (s_ret (e_if (t_eq hr (e_v 2) (e_lst a_nil)) (e_lst a_nil) e_non))) ss_nil)
      (ss_cons (s_if (t_eqS (e_v 1) e_str) (ss_one (s_ret (e_if (t_w (t_and (t_eqI (e_len rfl T.b_len (e_v 2)) e_int) (t_and1 (t_val (e_call T.d_is_fraction (ok_is_fraction T) (hr.mono (by omega)) rfl (a_cons (e_ix (e_v 2) e_int) a_nil)))))) (e_lst a_nil) e_non))) ss_nil)
      (ss_cons (s_if (t_eqS (e_v 1) e_str) (ss_one (s_ret (e_if (t_w (t_and (t_eqI (e_len rfl T.b_len (e_v 2)) e_int) (t_and1 (t_val (e_call T.d_is_name (ok_is_name T) (hr.mono (by omega)) rfl (a_cons (e_ix (e_v 2) e_int) a_nil)))))) (e_lst a_nil) e_non))) ss_nil)
      (ss_cons (s_if (t_eqS (e_v 1) e_str) (ss_one (s_ret (e_if (t_w (t_and (t_eqI (e_len rfl T.b_len (e_v 2)) e_int) (t_and (t_val (e_call T.d_is_whole (ok_is_whole T) (hr.mono (by omega)) rfl (a_cons (e_ix (e_v 2) e_int) a_nil))) (t_and1 (t_chain op_le rl_le op_le rl_le e_int (e_ix (e_v 2) e_int) e_int))))) (e_slice (e_v 2) (o_some e_int) o_none) e_non))) ss_nil)
      (ss_cons (s_if (t_w (t_and (t_eqS (e_v 1) e_str) (t_and (t_eqI (e_len rfl T.b_len (e_v 2)) e_int) (t_and (t_val (e_call T.d_is_name (ok_is_name T) (hr.mono (by omega)) rfl (a_cons (e_ix (e_v 2) e_int) a_nil))) (t_and (t_val (e_call T.d_is_fraction (ok_is_fraction T) (hr.mono (by omega)) rfl (a_cons (e_ix (e_v 2) e_int) a_nil))) (t_and1 (t_val (e_call T.d_is_fraction (ok_is_fraction T) (hr.mono (by omega)) rfl (a_cons (e_ix (e_v 2) e_int) a_nil))))))))) (ss_one (s_ret (e_if (t_val (e_call T.d_is_less_fraction (ok_is_less_fraction T) (hr.mono (by omega)) rfl (a_cons (e_ix (e_v 2) e_int) (a_cons (e_ix (e_v 2) e_int) a_nil)))) (e_slice (e_v 2) (o_some e_int) o_none) e_non))) ss_nil)
      (ss_one (s_ret e_non))))))))))), ?_⟩
  cases d with
  | ref a => exact (hp : False).elim
  | ty a => exact (hp : False).elim
  | tup ds =>
    cases ds with
    | nil =>
      (refine laterP_in ?_; repeat ((first | with_reducible refine laterP_i ?_ | with_reducible refine later_i ?_); try simp -implicitDefEqProofs -dsimp only [↓D3.seq3_stop, ↓D3.ifS3.eq_1, ↓D3.b3.eq_1, ↓D3.op3.eq_1, ↓D3.un3.eq_1, ↓D3.v3.eq_1, ↓D3.c3.eq_1, fIx_tup, fIx_lst, at3_0, at3_1, at3_2, at3_3, at3_4, at3_5, at3_6, start3, fI0_i, fI_i, fLt, fLe, fGt, fGe, fEqI, fNeI, fMin, fMax, ↓D3.asg3.eq_1, ↓D3.name3.eq_1, ↓D3.sub3.eq_1, ↓D3.ret3.eq_1, ↓D3.retN3.eq_1, ↓D3.nx3.eq_1, ↓D3.drop3.eq_1, ↓D3.par3.eq_1, ↓D3.aug3.eq_1, ↓D3.and3.eq_1, ↓D3.or3.eq_1, ↓D3.not3.eq_1, ↓D3.andV3.eq_1, ↓D3.orV3.eq_1, ↓D3.notV3.eq_1, ↓D3.if3.eq_1, ↓D3.nil3.eq_1, ↓D3.cons3.eq_1, ↓D3.tup3.eq_1, ↓D3.lst3.eq_1, ↓D3.lstM3.eq_1, ↓D3.gtup3.eq_1, ↓D3.gcons3.eq_1, ↓D3.gnil3.eq_1, ↓D3.gunl3.eq_1, ↓D3.bits3.eq_1, ↓D3.neg3.eq_1, ↓D3.chain3.eq_1, fIsi_int_int, fIsi_int_bool, fIsi_int_tuple, fIsi_int_str, fIsi_int_list, fIsi_bl_int, fIsi_bl_bool, fIsi_bl_tuple, fIsi_bl_str, fIsi_bl_list, fIsi_non_int, fIsi_non_bool, fIsi_non_tuple, fIsi_non_str, fIsi_non_list, fIsi_str_int, fIsi_str_bool, fIsi_str_tuple, fIsi_str_str, fIsi_str_list, fIsi_tup_int, fIsi_tup_bool, fIsi_tup_tuple, fIsi_tup_str, fIsi_tup_list, fIsi_lst_int, fIsi_lst_bool, fIsi_lst_tuple, fIsi_lst_str, fIsi_lst_list, fLen_lst, fLen_tup, fAbs, ↓D3.call3_k, ↓D3.kont_app, ↓D3.isN3.eq_1, ↓D3.notN3.eq_1, dIsN_non, dIsN_int, dIsN_bl, dIsN_str, dIsN_tup, dIsN_lst, ↓D3.slc3.eq_1, ↓D3.part3.eq_1, ↓D3.noPart3.eq_1, ↓D3.ilst3.eq_1, ↓D3.itup3.eq_1, ↓D3.irng1.eq_1, ↓D3.irng2.eq_1, ↓D3.for3.eq_1, fCat, fEq_int, fNe_int, fEq_bl, fNe_bl, fEq_pair, fNe_pair, List.map, List.replicate, List.length_cons, List.length_nil, List.set_cons_zero, List.set_cons_succ, List.getElem?_cons_zero, List.getElem?_cons_succ, List.cons_append, List.nil_append, at_0, at_1, at_2, at_3, at_4, at_5, at_6, ix_0, ix_1, ix_2, put_same, put_put, decide_eq_true_eq, Bool.not_eq_true', decide_eq_false_iff_not, ite_not, ite_true, ite_false, if_true, if_false, Bool.false_eq_true, ↓reduceIte, reduceIte, Nat.reduceAdd, Nat.reduceSub, Int.reduceToNat, Nat.reduceLeDiff, not_false_eq_true, true_and, and_true, ne_eq, Int.reduceEq, Nat.zero_add, Bool.not_true, Bool.not_false, reduceCtorEq, nc0, nc1, nc2, nc3, nc4, nc5, fIx_ref put_same, fLen_ref put_same, ↓D3.lc3.eq_1, fInt, fTuple, fList, fNeS_s, fEqS_s, ↓D3.gstar3.eq_1, fInK_s, fNinK_s, fLenS_s, ↓D3.slcT3.eq_1, fCatT_t, dnew3]))
      rw [fEq_pl (n := 900) (k := 900) hp (show Pl 900 (.tup []) from trivial) (by simp [dp, dps]) (by simp [dp, dps])]
      (refine laterP_in ?_; repeat ((first | with_reducible refine laterP_i ?_ | with_reducible refine later_i ?_); try simp -implicitDefEqProofs -dsimp only [↓D3.seq3_stop, ↓D3.ifS3.eq_1, ↓D3.b3.eq_1, ↓D3.op3.eq_1, ↓D3.un3.eq_1, ↓D3.v3.eq_1, ↓D3.c3.eq_1, fIx_tup, fIx_lst, at3_0, at3_1, at3_2, at3_3, at3_4, at3_5, at3_6, start3, fI0_i, fI_i, fLt, fLe, fGt, fGe, fEqI, fNeI, fMin, fMax, ↓D3.asg3.eq_1, ↓D3.name3.eq_1, ↓D3.sub3.eq_1, ↓D3.ret3.eq_1, ↓D3.retN3.eq_1, ↓D3.nx3.eq_1, ↓D3.drop3.eq_1, ↓D3.par3.eq_1, ↓D3.aug3.eq_1, ↓D3.and3.eq_1, ↓D3.or3.eq_1, ↓D3.not3.eq_1, ↓D3.andV3.eq_1, ↓D3.orV3.eq_1, ↓D3.notV3.eq_1, ↓D3.if3.eq_1, ↓D3.nil3.eq_1, ↓D3.cons3.eq_1, ↓D3.tup3.eq_1, ↓D3.lst3.eq_1, ↓D3.lstM3.eq_1, ↓D3.gtup3.eq_1, ↓D3.gcons3.eq_1, ↓D3.gnil3.eq_1, ↓D3.gunl3.eq_1, ↓D3.bits3.eq_1, ↓D3.neg3.eq_1, ↓D3.chain3.eq_1, fIsi_int_int, fIsi_int_bool, fIsi_int_tuple, fIsi_int_str, fIsi_int_list, fIsi_bl_int, fIsi_bl_bool, fIsi_bl_tuple, fIsi_bl_str, fIsi_bl_list, fIsi_non_int, fIsi_non_bool, fIsi_non_tuple, fIsi_non_str, fIsi_non_list, fIsi_str_int, fIsi_str_bool, fIsi_str_tuple, fIsi_str_str, fIsi_str_list, fIsi_tup_int, fIsi_tup_bool, fIsi_tup_tuple, fIsi_tup_str, fIsi_tup_list, fIsi_lst_int, fIsi_lst_bool, fIsi_lst_tuple, fIsi_lst_str, fIsi_lst_list, fLen_lst, fLen_tup, fAbs, ↓D3.call3_k, ↓D3.kont_app, ↓D3.isN3.eq_1, ↓D3.notN3.eq_1, dIsN_non, dIsN_int, dIsN_bl, dIsN_str, dIsN_tup, dIsN_lst, ↓D3.slc3.eq_1, ↓D3.part3.eq_1, ↓D3.noPart3.eq_1, ↓D3.ilst3.eq_1, ↓D3.itup3.eq_1, ↓D3.irng1.eq_1, ↓D3.irng2.eq_1, ↓D3.for3.eq_1, fCat, fEq_int, fNe_int, fEq_bl, fNe_bl, fEq_pair, fNe_pair, List.map, List.replicate, List.length_cons, List.length_nil, List.set_cons_zero, List.set_cons_succ, List.getElem?_cons_zero, List.getElem?_cons_succ, List.cons_append, List.nil_append, at_0, at_1, at_2, at_3, at_4, at_5, at_6, ix_0, ix_1, ix_2, put_same, put_put, decide_eq_true_eq, Bool.not_eq_true', decide_eq_false_iff_not, ite_not, ite_true, ite_false, if_true, if_false, Bool.false_eq_true, ↓reduceIte, reduceIte, Nat.reduceAdd, Nat.reduceSub, Int.reduceToNat, Nat.reduceLeDiff, not_false_eq_true, true_and, and_true, ne_eq, Int.reduceEq, Nat.zero_add, Bool.not_true, Bool.not_false, reduceCtorEq, nc0, nc1, nc2, nc3, nc4, nc5, fIx_ref put_same, fLen_ref put_same, ↓D3.lc3.eq_1, fInt, fTuple, fList, fNeS_s, fEqS_s, ↓D3.gstar3.eq_1, fInK_s, fNinK_s, fLenS_s, ↓D3.slcT3.eq_1, fCatT_t, dnew3]))
      exact q
    | cons x r =>
      (refine laterP_in ?_; repeat ((first | with_reducible refine laterP_i ?_ | with_reducible refine later_i ?_); try simp -implicitDefEqProofs -dsimp only [↓D3.seq3_stop, ↓D3.ifS3.eq_1, ↓D3.b3.eq_1, ↓D3.op3.eq_1, ↓D3.un3.eq_1, ↓D3.v3.eq_1, ↓D3.c3.eq_1, fIx_tup, fIx_lst, at3_0, at3_1, at3_2, at3_3, at3_4, at3_5, at3_6, start3, fI0_i, fI_i, fLt, fLe, fGt, fGe, fEqI, fNeI, fMin, fMax, ↓D3.asg3.eq_1, ↓D3.name3.eq_1, ↓D3.sub3.eq_1, ↓D3.ret3.eq_1, ↓D3.retN3.eq_1, ↓D3.nx3.eq_1, ↓D3.drop3.eq_1, ↓D3.par3.eq_1, ↓D3.aug3.eq_1, ↓D3.and3.eq_1, ↓D3.or3.eq_1, ↓D3.not3.eq_1, ↓D3.andV3.eq_1, ↓D3.orV3.eq_1, ↓D3.notV3.eq_1, ↓D3.if3.eq_1, ↓D3.nil3.eq_1, ↓D3.cons3.eq_1, ↓D3.tup3.eq_1, ↓D3.lst3.eq_1, ↓D3.lstM3.eq_1, ↓D3.gtup3.eq_1, ↓D3.gcons3.eq_1, ↓D3.gnil3.eq_1, ↓D3.gunl3.eq_1, ↓D3.bits3.eq_1, ↓D3.neg3.eq_1, ↓D3.chain3.eq_1, fIsi_int_int, fIsi_int_bool, fIsi_int_tuple, fIsi_int_str, fIsi_int_list, fIsi_bl_int, fIsi_bl_bool, fIsi_bl_tuple, fIsi_bl_str, fIsi_bl_list, fIsi_non_int, fIsi_non_bool, fIsi_non_tuple, fIsi_non_str, fIsi_non_list, fIsi_str_int, fIsi_str_bool, fIsi_str_tuple, fIsi_str_str, fIsi_str_list, fIsi_tup_int, fIsi_tup_bool, fIsi_tup_tuple, fIsi_tup_str, fIsi_tup_list, fIsi_lst_int, fIsi_lst_bool, fIsi_lst_tuple, fIsi_lst_str, fIsi_lst_list, fLen_lst, fLen_tup, fAbs, ↓D3.call3_k, ↓D3.kont_app, ↓D3.isN3.eq_1, ↓D3.notN3.eq_1, dIsN_non, dIsN_int, dIsN_bl, dIsN_str, dIsN_tup, dIsN_lst, ↓D3.slc3.eq_1, ↓D3.part3.eq_1, ↓D3.noPart3.eq_1, ↓D3.ilst3.eq_1, ↓D3.itup3.eq_1, ↓D3.irng1.eq_1, ↓D3.irng2.eq_1, ↓D3.for3.eq_1, fCat, fEq_int, fNe_int, fEq_bl, fNe_bl, fEq_pair, fNe_pair, List.map, List.replicate, List.length_cons, List.length_nil, List.set_cons_zero, List.set_cons_succ, List.getElem?_cons_zero, List.getElem?_cons_succ, List.cons_append, List.nil_append, at_0, at_1, at_2, at_3, at_4, at_5, at_6, ix_0, ix_1, ix_2, put_same, put_put, decide_eq_true_eq, Bool.not_eq_true', decide_eq_false_iff_not, ite_not, ite_true, ite_false, if_true, if_false, Bool.false_eq_true, ↓reduceIte, reduceIte, Nat.reduceAdd, Nat.reduceSub, Int.reduceToNat, Nat.reduceLeDiff, not_false_eq_true, true_and, and_true, ne_eq, Int.reduceEq, Nat.zero_add, Bool.not_true, Bool.not_false, reduceCtorEq, nc0, nc1, nc2, nc3, nc4, nc5, fIx_ref put_same, fLen_ref put_same, ↓D3.lc3.eq_1, fInt, fTuple, fList, fNeS_s, fEqS_s, ↓D3.gstar3.eq_1, fInK_s, fNinK_s, fLenS_s, ↓D3.slcT3.eq_1, fCatT_t, dnew3]))
      rw [fEq_pl (n := 900) (k := 900) hp (show Pl 900 (.tup []) from trivial) (by omega) (by simp [dp, dps])]
      rw [show PyData.eqv (pyOf (.tup (x :: r))) (pyOf (.tup [])) = false from by simp [pyOf, pysOf, PyData.eqv, PyData.eqvAll]]
      cases x with
      | str h =>
        change Q (oD (inn2 h r)) m at q
        unfold inn2 at q
        have pr : Pls 900 r := hp.2
        have dr : dp (.lst r) ≤ 60 := by simp only [dp, dps] at hd ⊢; omega
        clear hp hd
        (refine laterP_in ?_; repeat ((first | with_reducible refine laterP_i ?_ | with_reducible refine later_i ?_); try simp -implicitDefEqProofs -dsimp only [↓D3.seq3_stop, ↓D3.ifS3.eq_1, ↓D3.b3.eq_1, ↓D3.op3.eq_1, ↓D3.un3.eq_1, ↓D3.v3.eq_1, ↓D3.c3.eq_1, fIx_tup, fIx_lst, at3_0, at3_1, at3_2, at3_3, at3_4, at3_5, at3_6, start3, fI0_i, fI_i, fLt, fLe, fGt, fGe, fEqI, fNeI, fMin, fMax, ↓D3.asg3.eq_1, ↓D3.name3.eq_1, ↓D3.sub3.eq_1, ↓D3.ret3.eq_1, ↓D3.retN3.eq_1, ↓D3.nx3.eq_1, ↓D3.drop3.eq_1, ↓D3.par3.eq_1, ↓D3.aug3.eq_1, ↓D3.and3.eq_1, ↓D3.or3.eq_1, ↓D3.not3.eq_1, ↓D3.andV3.eq_1, ↓D3.orV3.eq_1, ↓D3.notV3.eq_1, ↓D3.if3.eq_1, ↓D3.nil3.eq_1, ↓D3.cons3.eq_1, ↓D3.tup3.eq_1, ↓D3.lst3.eq_1, ↓D3.lstM3.eq_1, ↓D3.gtup3.eq_1, ↓D3.gcons3.eq_1, ↓D3.gnil3.eq_1, ↓D3.gunl3.eq_1, ↓D3.bits3.eq_1, ↓D3.neg3.eq_1, ↓D3.chain3.eq_1, fIsi_int_int, fIsi_int_bool, fIsi_int_tuple, fIsi_int_str, fIsi_int_list, fIsi_bl_int, fIsi_bl_bool, fIsi_bl_tuple, fIsi_bl_str, fIsi_bl_list, fIsi_non_int, fIsi_non_bool, fIsi_non_tuple, fIsi_non_str, fIsi_non_list, fIsi_str_int, fIsi_str_bool, fIsi_str_tuple, fIsi_str_str, fIsi_str_list, fIsi_tup_int, fIsi_tup_bool, fIsi_tup_tuple, fIsi_tup_str, fIsi_tup_list, fIsi_lst_int, fIsi_lst_bool, fIsi_lst_tuple, fIsi_lst_str, fIsi_lst_list, fLen_lst, fLen_tup, fAbs, ↓D3.call3_k, ↓D3.kont_app, ↓D3.isN3.eq_1, ↓D3.notN3.eq_1, dIsN_non, dIsN_int, dIsN_bl, dIsN_str, dIsN_tup, dIsN_lst, ↓D3.slc3.eq_1, ↓D3.part3.eq_1, ↓D3.noPart3.eq_1, ↓D3.ilst3.eq_1, ↓D3.itup3.eq_1, ↓D3.irng1.eq_1, ↓D3.irng2.eq_1, ↓D3.for3.eq_1, fCat, fEq_int, fNe_int, fEq_bl, fNe_bl, fEq_pair, fNe_pair, List.map, List.replicate, List.length_cons, List.length_nil, List.set_cons_zero, List.set_cons_succ, List.getElem?_cons_zero, List.getElem?_cons_succ, List.cons_append, List.nil_append, at_0, at_1, at_2, at_3, at_4, at_5, at_6, ix_0, ix_1, ix_2, put_same, put_put, decide_eq_true_eq, Bool.not_eq_true', decide_eq_false_iff_not, ite_not, ite_true, ite_false, if_true, if_false, Bool.false_eq_true, ↓reduceIte, reduceIte, Nat.reduceAdd, Nat.reduceSub, Int.reduceToNat, Nat.reduceLeDiff, not_false_eq_true, true_and, and_true, ne_eq, Int.reduceEq, Nat.zero_add, Bool.not_true, Bool.not_false, reduceCtorEq, nc0, nc1, nc2, nc3, nc4, nc5, fIx_ref put_same, fLen_ref put_same, ↓D3.lc3.eq_1, fInt, fTuple, fList, fNeS_s, fEqS_s, ↓D3.gstar3.eq_1, fInK_s, fNinK_s, fLenS_s, ↓D3.slcT3.eq_1, fCatT_t, dnew3]))
        refine ite2 (fun h1 => ?_) (fun h1 => ?_)
        · rw [if_pos (show h ∈ K2 from h1)] at q
          exact ite2 (fun b => by rw [if_pos (by omega)] at q; exact q) (fun b => by rw [if_neg (by omega)] at q; exact q)
        rw [if_neg (show ¬ h ∈ K2 from h1)] at q
        (refine laterP_in ?_; repeat ((first | with_reducible refine laterP_i ?_ | with_reducible refine later_i ?_); try simp -implicitDefEqProofs -dsimp only [↓D3.seq3_stop, ↓D3.ifS3.eq_1, ↓D3.b3.eq_1, ↓D3.op3.eq_1, ↓D3.un3.eq_1, ↓D3.v3.eq_1, ↓D3.c3.eq_1, fIx_tup, fIx_lst, at3_0, at3_1, at3_2, at3_3, at3_4, at3_5, at3_6, start3, fI0_i, fI_i, fLt, fLe, fGt, fGe, fEqI, fNeI, fMin, fMax, ↓D3.asg3.eq_1, ↓D3.name3.eq_1, ↓D3.sub3.eq_1, ↓D3.ret3.eq_1, ↓D3.retN3.eq_1, ↓D3.nx3.eq_1, ↓D3.drop3.eq_1, ↓D3.par3.eq_1, ↓D3.aug3.eq_1, ↓D3.and3.eq_1, ↓D3.or3.eq_1, ↓D3.not3.eq_1, ↓D3.andV3.eq_1, ↓D3.orV3.eq_1, ↓D3.notV3.eq_1, ↓D3.if3.eq_1, ↓D3.nil3.eq_1, ↓D3.cons3.eq_1, ↓D3.tup3.eq_1, ↓D3.lst3.eq_1, ↓D3.lstM3.eq_1, ↓D3.gtup3.eq_1, ↓D3.gcons3.eq_1, ↓D3.gnil3.eq_1, ↓D3.gunl3.eq_1, ↓D3.bits3.eq_1, ↓D3.neg3.eq_1, ↓D3.chain3.eq_1, fIsi_int_int, fIsi_int_bool, fIsi_int_tuple, fIsi_int_str, fIsi_int_list, fIsi_bl_int, fIsi_bl_bool, fIsi_bl_tuple, fIsi_bl_str, fIsi_bl_list, fIsi_non_int, fIsi_non_bool, fIsi_non_tuple, fIsi_non_str, fIsi_non_list, fIsi_str_int, fIsi_str_bool, fIsi_str_tuple, fIsi_str_str, fIsi_str_list, fIsi_tup_int, fIsi_tup_bool, fIsi_tup_tuple, fIsi_tup_str, fIsi_tup_list, fIsi_lst_int, fIsi_lst_bool, fIsi_lst_tuple, fIsi_lst_str, fIsi_lst_list, fLen_lst, fLen_tup, fAbs, ↓D3.call3_k, ↓D3.kont_app, ↓D3.isN3.eq_1, ↓D3.notN3.eq_1, dIsN_non, dIsN_int, dIsN_bl, dIsN_str, dIsN_tup, dIsN_lst, ↓D3.slc3.eq_1, ↓D3.part3.eq_1, ↓D3.noPart3.eq_1, ↓D3.ilst3.eq_1, ↓D3.itup3.eq_1, ↓D3.irng1.eq_1, ↓D3.irng2.eq_1, ↓D3.for3.eq_1, fCat, fEq_int, fNe_int, fEq_bl, fNe_bl, fEq_pair, fNe_pair, List.map, List.replicate, List.length_cons, List.length_nil, List.set_cons_zero, List.set_cons_succ, List.getElem?_cons_zero, List.getElem?_cons_succ, List.cons_append, List.nil_append, at_0, at_1, at_2, at_3, at_4, at_5, at_6, ix_0, ix_1, ix_2, put_same, put_put, decide_eq_true_eq, Bool.not_eq_true', decide_eq_false_iff_not, ite_not, ite_true, ite_false, if_true, if_false, Bool.false_eq_true, ↓reduceIte, reduceIte, Nat.reduceAdd, Nat.reduceSub, Int.reduceToNat, Nat.reduceLeDiff, not_false_eq_true, true_and, and_true, ne_eq, Int.reduceEq, Nat.zero_add, Bool.not_true, Bool.not_false, reduceCtorEq, nc0, nc1, nc2, nc3, nc4, nc5, fIx_ref put_same, fLen_ref put_same, ↓D3.lc3.eq_1, fInt, fTuple, fList, fNeS_s, fEqS_s, ↓D3.gstar3.eq_1, fInK_s, fNinK_s, fLenS_s, ↓D3.slcT3.eq_1, fCatT_t, dnew3]))
        refine ite2 (fun h2 => ?_) (fun h2 => ?_)
        · rw [if_pos (show h ∈ K1 from h2)] at q
          exact ite2 (fun b => by rw [if_pos (by omega)] at q; exact q) (fun b => by rw [if_neg (by omega)] at q; exact q)
        rw [if_neg (show ¬ h ∈ K1 from h2)] at q
        (refine laterP_in ?_; repeat ((first | with_reducible refine laterP_i ?_ | with_reducible refine later_i ?_); try simp -implicitDefEqProofs -dsimp only [↓D3.seq3_stop, ↓D3.ifS3.eq_1, ↓D3.b3.eq_1, ↓D3.op3.eq_1, ↓D3.un3.eq_1, ↓D3.v3.eq_1, ↓D3.c3.eq_1, fIx_tup, fIx_lst, at3_0, at3_1, at3_2, at3_3, at3_4, at3_5, at3_6, start3, fI0_i, fI_i, fLt, fLe, fGt, fGe, fEqI, fNeI, fMin, fMax, ↓D3.asg3.eq_1, ↓D3.name3.eq_1, ↓D3.sub3.eq_1, ↓D3.ret3.eq_1, ↓D3.retN3.eq_1, ↓D3.nx3.eq_1, ↓D3.drop3.eq_1, ↓D3.par3.eq_1, ↓D3.aug3.eq_1, ↓D3.and3.eq_1, ↓D3.or3.eq_1, ↓D3.not3.eq_1, ↓D3.andV3.eq_1, ↓D3.orV3.eq_1, ↓D3.notV3.eq_1, ↓D3.if3.eq_1, ↓D3.nil3.eq_1, ↓D3.cons3.eq_1, ↓D3.tup3.eq_1, ↓D3.lst3.eq_1, ↓D3.lstM3.eq_1, ↓D3.gtup3.eq_1, ↓D3.gcons3.eq_1, ↓D3.gnil3.eq_1, ↓D3.gunl3.eq_1, ↓D3.bits3.eq_1, ↓D3.neg3.eq_1, ↓D3.chain3.eq_1, fIsi_int_int, fIsi_int_bool, fIsi_int_tuple, fIsi_int_str, fIsi_int_list, fIsi_bl_int, fIsi_bl_bool, fIsi_bl_tuple, fIsi_bl_str, fIsi_bl_list, fIsi_non_int, fIsi_non_bool, fIsi_non_tuple, fIsi_non_str, fIsi_non_list, fIsi_str_int, fIsi_str_bool, fIsi_str_tuple, fIsi_str_str, fIsi_str_list, fIsi_tup_int, fIsi_tup_bool, fIsi_tup_tuple, fIsi_tup_str, fIsi_tup_list, fIsi_lst_int, fIsi_lst_bool, fIsi_lst_tuple, fIsi_lst_str, fIsi_lst_list, fLen_lst, fLen_tup, fAbs, ↓D3.call3_k, ↓D3.kont_app, ↓D3.isN3.eq_1, ↓D3.notN3.eq_1, dIsN_non, dIsN_int, dIsN_bl, dIsN_str, dIsN_tup, dIsN_lst, ↓D3.slc3.eq_1, ↓D3.part3.eq_1, ↓D3.noPart3.eq_1, ↓D3.ilst3.eq_1, ↓D3.itup3.eq_1, ↓D3.irng1.eq_1, ↓D3.irng2.eq_1, ↓D3.for3.eq_1, fCat, fEq_int, fNe_int, fEq_bl, fNe_bl, fEq_pair, fNe_pair, List.map, List.replicate, List.length_cons, List.length_nil, List.set_cons_zero, List.set_cons_succ, List.getElem?_cons_zero, List.getElem?_cons_succ, List.cons_append, List.nil_append, at_0, at_1, at_2, at_3, at_4, at_5, at_6, ix_0, ix_1, ix_2, put_same, put_put, decide_eq_true_eq, Bool.not_eq_true', decide_eq_false_iff_not, ite_not, ite_true, ite_false, if_true, if_false, Bool.false_eq_true, ↓reduceIte, reduceIte, Nat.reduceAdd, Nat.reduceSub, Int.reduceToNat, Nat.reduceLeDiff, not_false_eq_true, true_and, and_true, ne_eq, Int.reduceEq, Nat.zero_add, Bool.not_true, Bool.not_false, reduceCtorEq, nc0, nc1, nc2, nc3, nc4, nc5, fIx_ref put_same, fLen_ref put_same, ↓D3.lc3.eq_1, fInt, fTuple, fList, fNeS_s, fEqS_s, ↓D3.gstar3.eq_1, fInK_s, fNinK_s, fLenS_s, ↓D3.slcT3.eq_1, fCatT_t, dnew3]))
        refine ite2 (fun h3 => ?_) (fun h3 => ?_)
        · rw [if_pos (show h = "pi" from h3)] at q
          rw [fEq_pl (n := 900) (k := 900) (show Pl 900 (.lst r) from pr) (show Pl 900 (.lst []) from trivial) (by omega) (by simp [dp, dps])]
          cases r with
          | nil => ((refine laterP_in ?_; repeat ((first | with_reducible refine laterP_i ?_ | with_reducible refine later_i ?_); try simp -implicitDefEqProofs -dsimp only [↓D3.seq3_stop, ↓D3.ifS3.eq_1, ↓D3.b3.eq_1, ↓D3.op3.eq_1, ↓D3.un3.eq_1, ↓D3.v3.eq_1, ↓D3.c3.eq_1, fIx_tup, fIx_lst, at3_0, at3_1, at3_2, at3_3, at3_4, at3_5, at3_6, start3, fI0_i, fI_i, fLt, fLe, fGt, fGe, fEqI, fNeI, fMin, fMax, ↓D3.asg3.eq_1, ↓D3.name3.eq_1, ↓D3.sub3.eq_1, ↓D3.ret3.eq_1, ↓D3.retN3.eq_1, ↓D3.nx3.eq_1, ↓D3.drop3.eq_1, ↓D3.par3.eq_1, ↓D3.aug3.eq_1, ↓D3.and3.eq_1, ↓D3.or3.eq_1, ↓D3.not3.eq_1, ↓D3.andV3.eq_1, ↓D3.orV3.eq_1, ↓D3.notV3.eq_1, ↓D3.if3.eq_1, ↓D3.nil3.eq_1, ↓D3.cons3.eq_1, ↓D3.tup3.eq_1, ↓D3.lst3.eq_1, ↓D3.lstM3.eq_1, ↓D3.gtup3.eq_1, ↓D3.gcons3.eq_1, ↓D3.gnil3.eq_1, ↓D3.gunl3.eq_1, ↓D3.bits3.eq_1, ↓D3.neg3.eq_1, ↓D3.chain3.eq_1, fIsi_int_int, fIsi_int_bool, fIsi_int_tuple, fIsi_int_str, fIsi_int_list, fIsi_bl_int, fIsi_bl_bool, fIsi_bl_tuple, fIsi_bl_str, fIsi_bl_list, fIsi_non_int, fIsi_non_bool, fIsi_non_tuple, fIsi_non_str, fIsi_non_list, fIsi_str_int, fIsi_str_bool, fIsi_str_tuple, fIsi_str_str, fIsi_str_list, fIsi_tup_int, fIsi_tup_bool, fIsi_tup_tuple, fIsi_tup_str, fIsi_tup_list, fIsi_lst_int, fIsi_lst_bool, fIsi_lst_tuple, fIsi_lst_str, fIsi_lst_list, fLen_lst, fLen_tup, fAbs, ↓D3.call3_k, ↓D3.kont_app, ↓D3.isN3.eq_1, ↓D3.notN3.eq_1, dIsN_non, dIsN_int, dIsN_bl, dIsN_str, dIsN_tup, dIsN_lst, ↓D3.slc3.eq_1, ↓D3.part3.eq_1, ↓D3.noPart3.eq_1, ↓D3.ilst3.eq_1, ↓D3.itup3.eq_1, ↓D3.irng1.eq_1, ↓D3.irng2.eq_1, ↓D3.for3.eq_1, fCat, fEq_int, fNe_int, fEq_bl, fNe_bl, fEq_pair, fNe_pair, List.map, List.replicate, List.length_cons, List.length_nil, List.set_cons_zero, List.set_cons_succ, List.getElem?_cons_zero, List.getElem?_cons_succ, List.cons_append, List.nil_append, at_0, at_1, at_2, at_3, at_4, at_5, at_6, ix_0, ix_1, ix_2, put_same, put_put, decide_eq_true_eq, Bool.not_eq_true', decide_eq_false_iff_not, ite_not, ite_true, ite_false, if_true, if_false, Bool.false_eq_true, ↓reduceIte, reduceIte, Nat.reduceAdd, Nat.reduceSub, Int.reduceToNat, Nat.reduceLeDiff, not_false_eq_true, true_and, and_true, ne_eq, Int.reduceEq, Nat.zero_add, Bool.not_true, Bool.not_false, reduceCtorEq, nc0, nc1, nc2, nc3, nc4, nc5, fIx_ref put_same, fLen_ref put_same, ↓D3.lc3.eq_1, fInt, fTuple, fList, fNeS_s, fEqS_s, ↓D3.gstar3.eq_1, fInK_s, fNinK_s, fLenS_s, ↓D3.slcT3.eq_1, fCatT_t, dnew3]))); exact q
          | cons x r =>
            rw [show PyData.eqv (pyOf (.lst (x :: r))) (pyOf (.lst [])) = false from by simp [pyOf, pysOf, PyData.eqv, PyData.eqvAll]]
            ((refine laterP_in ?_; repeat ((first | with_reducible refine laterP_i ?_ | with_reducible refine later_i ?_); try simp -implicitDefEqProofs -dsimp only [↓D3.seq3_stop, ↓D3.ifS3.eq_1, ↓D3.b3.eq_1, ↓D3.op3.eq_1, ↓D3.un3.eq_1, ↓D3.v3.eq_1, ↓D3.c3.eq_1, fIx_tup, fIx_lst, at3_0, at3_1, at3_2, at3_3, at3_4, at3_5, at3_6, start3, fI0_i, fI_i, fLt, fLe, fGt, fGe, fEqI, fNeI, fMin, fMax, ↓D3.asg3.eq_1, ↓D3.name3.eq_1, ↓D3.sub3.eq_1, ↓D3.ret3.eq_1, ↓D3.retN3.eq_1, ↓D3.nx3.eq_1, ↓D3.drop3.eq_1, ↓D3.par3.eq_1, ↓D3.aug3.eq_1, ↓D3.and3.eq_1, ↓D3.or3.eq_1, ↓D3.not3.eq_1, ↓D3.andV3.eq_1, ↓D3.orV3.eq_1, ↓D3.notV3.eq_1, ↓D3.if3.eq_1, ↓D3.nil3.eq_1, ↓D3.cons3.eq_1, ↓D3.tup3.eq_1, ↓D3.lst3.eq_1, ↓D3.lstM3.eq_1, ↓D3.gtup3.eq_1, ↓D3.gcons3.eq_1, ↓D3.gnil3.eq_1, ↓D3.gunl3.eq_1, ↓D3.bits3.eq_1, ↓D3.neg3.eq_1, ↓D3.chain3.eq_1, fIsi_int_int, fIsi_int_bool, fIsi_int_tuple, fIsi_int_str, fIsi_int_list, fIsi_bl_int, fIsi_bl_bool, fIsi_bl_tuple, fIsi_bl_str, fIsi_bl_list, fIsi_non_int, fIsi_non_bool, fIsi_non_tuple, fIsi_non_str, fIsi_non_list, fIsi_str_int, fIsi_str_bool, fIsi_str_tuple, fIsi_str_str, fIsi_str_list, fIsi_tup_int, fIsi_tup_bool, fIsi_tup_tuple, fIsi_tup_str, fIsi_tup_list, fIsi_lst_int, fIsi_lst_bool, fIsi_lst_tuple, fIsi_lst_str, fIsi_lst_list, fLen_lst, fLen_tup, fAbs, ↓D3.call3_k, ↓D3.kont_app, ↓D3.isN3.eq_1, ↓D3.notN3.eq_1, dIsN_non, dIsN_int, dIsN_bl, dIsN_str, dIsN_tup, dIsN_lst, ↓D3.slc3.eq_1, ↓D3.part3.eq_1, ↓D3.noPart3.eq_1, ↓D3.ilst3.eq_1, ↓D3.itup3.eq_1, ↓D3.irng1.eq_1, ↓D3.irng2.eq_1, ↓D3.for3.eq_1, fCat, fEq_int, fNe_int, fEq_bl, fNe_bl, fEq_pair, fNe_pair, List.map, List.replicate, List.length_cons, List.length_nil, List.set_cons_zero, List.set_cons_succ, List.getElem?_cons_zero, List.getElem?_cons_succ, List.cons_append, List.nil_append, at_0, at_1, at_2, at_3, at_4, at_5, at_6, ix_0, ix_1, ix_2, put_same, put_put, decide_eq_true_eq, Bool.not_eq_true', decide_eq_false_iff_not, ite_not, ite_true, ite_false, if_true, if_false, Bool.false_eq_true, ↓reduceIte, reduceIte, Nat.reduceAdd, Nat.reduceSub, Int.reduceToNat, Nat.reduceLeDiff, not_false_eq_true, true_and, and_true, ne_eq, Int.reduceEq, Nat.zero_add, Bool.not_true, Bool.not_false, reduceCtorEq, nc0, nc1, nc2, nc3, nc4, nc5, fIx_ref put_same, fLen_ref put_same, ↓D3.lc3.eq_1, fInt, fTuple, fList, fNeS_s, fEqS_s, ↓D3.gstar3.eq_1, fInK_s, fNinK_s, fLenS_s, ↓D3.slcT3.eq_1, fCatT_t, dnew3]))); exact q
        rw [if_neg (show ¬ h = "pi" from h3)] at q
        (refine laterP_in ?_; repeat ((first | with_reducible refine laterP_i ?_ | with_reducible refine later_i ?_); try simp -implicitDefEqProofs -dsimp only [↓D3.seq3_stop, ↓D3.ifS3.eq_1, ↓D3.b3.eq_1, ↓D3.op3.eq_1, ↓D3.un3.eq_1, ↓D3.v3.eq_1, ↓D3.c3.eq_1, fIx_tup, fIx_lst, at3_0, at3_1, at3_2, at3_3, at3_4, at3_5, at3_6, start3, fI0_i, fI_i, fLt, fLe, fGt, fGe, fEqI, fNeI, fMin, fMax, ↓D3.asg3.eq_1, ↓D3.name3.eq_1, ↓D3.sub3.eq_1, ↓D3.ret3.eq_1, ↓D3.retN3.eq_1, ↓D3.nx3.eq_1, ↓D3.drop3.eq_1, ↓D3.par3.eq_1, ↓D3.aug3.eq_1, ↓D3.and3.eq_1, ↓D3.or3.eq_1, ↓D3.not3.eq_1, ↓D3.andV3.eq_1, ↓D3.orV3.eq_1, ↓D3.notV3.eq_1, ↓D3.if3.eq_1, ↓D3.nil3.eq_1, ↓D3.cons3.eq_1, ↓D3.tup3.eq_1, ↓D3.lst3.eq_1, ↓D3.lstM3.eq_1, ↓D3.gtup3.eq_1, ↓D3.gcons3.eq_1, ↓D3.gnil3.eq_1, ↓D3.gunl3.eq_1, ↓D3.bits3.eq_1, ↓D3.neg3.eq_1, ↓D3.chain3.eq_1, fIsi_int_int, fIsi_int_bool, fIsi_int_tuple, fIsi_int_str, fIsi_int_list, fIsi_bl_int, fIsi_bl_bool, fIsi_bl_tuple, fIsi_bl_str, fIsi_bl_list, fIsi_non_int, fIsi_non_bool, fIsi_non_tuple, fIsi_non_str, fIsi_non_list, fIsi_str_int, fIsi_str_bool, fIsi_str_tuple, fIsi_str_str, fIsi_str_list, fIsi_tup_int, fIsi_tup_bool, fIsi_tup_tuple, fIsi_tup_str, fIsi_tup_list, fIsi_lst_int, fIsi_lst_bool, fIsi_lst_tuple, fIsi_lst_str, fIsi_lst_list, fLen_lst, fLen_tup, fAbs, ↓D3.call3_k, ↓D3.kont_app, ↓D3.isN3.eq_1, ↓D3.notN3.eq_1, dIsN_non, dIsN_int, dIsN_bl, dIsN_str, dIsN_tup, dIsN_lst, ↓D3.slc3.eq_1, ↓D3.part3.eq_1, ↓D3.noPart3.eq_1, ↓D3.ilst3.eq_1, ↓D3.itup3.eq_1, ↓D3.irng1.eq_1, ↓D3.irng2.eq_1, ↓D3.for3.eq_1, fCat, fEq_int, fNe_int, fEq_bl, fNe_bl, fEq_pair, fNe_pair, List.map, List.replicate, List.length_cons, List.length_nil, List.set_cons_zero, List.set_cons_succ, List.getElem?_cons_zero, List.getElem?_cons_succ, List.cons_append, List.nil_append, at_0, at_1, at_2, at_3, at_4, at_5, at_6, ix_0, ix_1, ix_2, put_same, put_put, decide_eq_true_eq, Bool.not_eq_true', decide_eq_false_iff_not, ite_not, ite_true, ite_false, if_true, if_false, Bool.false_eq_true, ↓reduceIte, reduceIte, Nat.reduceAdd, Nat.reduceSub, Int.reduceToNat, Nat.reduceLeDiff, not_false_eq_true, true_and, and_true, ne_eq, Int.reduceEq, Nat.zero_add, Bool.not_true, Bool.not_false, reduceCtorEq, nc0, nc1, nc2, nc3, nc4, nc5, fIx_ref put_same, fLen_ref put_same, ↓D3.lc3.eq_1, fInt, fTuple, fList, fNeS_s, fEqS_s, ↓D3.gstar3.eq_1, fInK_s, fNinK_s, fLenS_s, ↓D3.slcT3.eq_1, fCatT_t, dnew3]))
        refine ite2 (fun h4 => ?_) (fun h4 => ?_)
        · rw [if_pos (show h = "number" from h4)] at q
          match r, pr, q with
          | [], pr, q => ((refine laterP_in ?_; repeat ((first | with_reducible refine laterP_i ?_ | with_reducible refine later_i ?_); try simp -implicitDefEqProofs -dsimp only [↓D3.seq3_stop, ↓D3.ifS3.eq_1, ↓D3.b3.eq_1, ↓D3.op3.eq_1, ↓D3.un3.eq_1, ↓D3.v3.eq_1, ↓D3.c3.eq_1, fIx_tup, fIx_lst, at3_0, at3_1, at3_2, at3_3, at3_4, at3_5, at3_6, start3, fI0_i, fI_i, fLt, fLe, fGt, fGe, fEqI, fNeI, fMin, fMax, ↓D3.asg3.eq_1, ↓D3.name3.eq_1, ↓D3.sub3.eq_1, ↓D3.ret3.eq_1, ↓D3.retN3.eq_1, ↓D3.nx3.eq_1, ↓D3.drop3.eq_1, ↓D3.par3.eq_1, ↓D3.aug3.eq_1, ↓D3.and3.eq_1, ↓D3.or3.eq_1, ↓D3.not3.eq_1, ↓D3.andV3.eq_1, ↓D3.orV3.eq_1, ↓D3.notV3.eq_1, ↓D3.if3.eq_1, ↓D3.nil3.eq_1, ↓D3.cons3.eq_1, ↓D3.tup3.eq_1, ↓D3.lst3.eq_1, ↓D3.lstM3.eq_1, ↓D3.gtup3.eq_1, ↓D3.gcons3.eq_1, ↓D3.gnil3.eq_1, ↓D3.gunl3.eq_1, ↓D3.bits3.eq_1, ↓D3.neg3.eq_1, ↓D3.chain3.eq_1, fIsi_int_int, fIsi_int_bool, fIsi_int_tuple, fIsi_int_str, fIsi_int_list, fIsi_bl_int, fIsi_bl_bool, fIsi_bl_tuple, fIsi_bl_str, fIsi_bl_list, fIsi_non_int, fIsi_non_bool, fIsi_non_tuple, fIsi_non_str, fIsi_non_list, fIsi_str_int, fIsi_str_bool, fIsi_str_tuple, fIsi_str_str, fIsi_str_list, fIsi_tup_int, fIsi_tup_bool, fIsi_tup_tuple, fIsi_tup_str, fIsi_tup_list, fIsi_lst_int, fIsi_lst_bool, fIsi_lst_tuple, fIsi_lst_str, fIsi_lst_list, fLen_lst, fLen_tup, fAbs, ↓D3.call3_k, ↓D3.kont_app, ↓D3.isN3.eq_1, ↓D3.notN3.eq_1, dIsN_non, dIsN_int, dIsN_bl, dIsN_str, dIsN_tup, dIsN_lst, ↓D3.slc3.eq_1, ↓D3.part3.eq_1, ↓D3.noPart3.eq_1, ↓D3.ilst3.eq_1, ↓D3.itup3.eq_1, ↓D3.irng1.eq_1, ↓D3.irng2.eq_1, ↓D3.for3.eq_1, fCat, fEq_int, fNe_int, fEq_bl, fNe_bl, fEq_pair, fNe_pair, List.map, List.replicate, List.length_cons, List.length_nil, List.set_cons_zero, List.set_cons_succ, List.getElem?_cons_zero, List.getElem?_cons_succ, List.cons_append, List.nil_append, at_0, at_1, at_2, at_3, at_4, at_5, at_6, ix_0, ix_1, ix_2, put_same, put_put, decide_eq_true_eq, Bool.not_eq_true', decide_eq_false_iff_not, ite_not, ite_true, ite_false, if_true, if_false, Bool.false_eq_true, ↓reduceIte, reduceIte, Nat.reduceAdd, Nat.reduceSub, Int.reduceToNat, Nat.reduceLeDiff, not_false_eq_true, true_and, and_true, ne_eq, Int.reduceEq, Nat.zero_add, Bool.not_true, Bool.not_false, reduceCtorEq, nc0, nc1, nc2, nc3, nc4, nc5, fIx_ref put_same, fLen_ref put_same, ↓D3.lc3.eq_1, fInt, fTuple, fList, fNeS_s, fEqS_s, ↓D3.gstar3.eq_1, fInK_s, fNinK_s, fLenS_s, ↓D3.slcT3.eq_1, fCatT_t, dnew3]))); exact q
          | [x], pr, q =>
            (refine laterP_in ?_; repeat ((first | with_reducible refine laterP_i ?_ | with_reducible refine later_i ?_); try simp -implicitDefEqProofs -dsimp only [↓D3.seq3_stop, ↓D3.ifS3.eq_1, ↓D3.b3.eq_1, ↓D3.op3.eq_1, ↓D3.un3.eq_1, ↓D3.v3.eq_1, ↓D3.c3.eq_1, fIx_tup, fIx_lst, at3_0, at3_1, at3_2, at3_3, at3_4, at3_5, at3_6, start3, fI0_i, fI_i, fLt, fLe, fGt, fGe, fEqI, fNeI, fMin, fMax, ↓D3.asg3.eq_1, ↓D3.name3.eq_1, ↓D3.sub3.eq_1, ↓D3.ret3.eq_1, ↓D3.retN3.eq_1, ↓D3.nx3.eq_1, ↓D3.drop3.eq_1, ↓D3.par3.eq_1, ↓D3.aug3.eq_1, ↓D3.and3.eq_1, ↓D3.or3.eq_1, ↓D3.not3.eq_1, ↓D3.andV3.eq_1, ↓D3.orV3.eq_1, ↓D3.notV3.eq_1, ↓D3.if3.eq_1, ↓D3.nil3.eq_1, ↓D3.cons3.eq_1, ↓D3.tup3.eq_1, ↓D3.lst3.eq_1, ↓D3.lstM3.eq_1, ↓D3.gtup3.eq_1, ↓D3.gcons3.eq_1, ↓D3.gnil3.eq_1, ↓D3.gunl3.eq_1, ↓D3.bits3.eq_1, ↓D3.neg3.eq_1, ↓D3.chain3.eq_1, fIsi_int_int, fIsi_int_bool, fIsi_int_tuple, fIsi_int_str, fIsi_int_list, fIsi_bl_int, fIsi_bl_bool, fIsi_bl_tuple, fIsi_bl_str, fIsi_bl_list, fIsi_non_int, fIsi_non_bool, fIsi_non_tuple, fIsi_non_str, fIsi_non_list, fIsi_str_int, fIsi_str_bool, fIsi_str_tuple, fIsi_str_str, fIsi_str_list, fIsi_tup_int, fIsi_tup_bool, fIsi_tup_tuple, fIsi_tup_str, fIsi_tup_list, fIsi_lst_int, fIsi_lst_bool, fIsi_lst_tuple, fIsi_lst_str, fIsi_lst_list, fLen_lst, fLen_tup, fAbs, ↓D3.call3_k, ↓D3.kont_app, ↓D3.isN3.eq_1, ↓D3.notN3.eq_1, dIsN_non, dIsN_int, dIsN_bl, dIsN_str, dIsN_tup, dIsN_lst, ↓D3.slc3.eq_1, ↓D3.part3.eq_1, ↓D3.noPart3.eq_1, ↓D3.ilst3.eq_1, ↓D3.itup3.eq_1, ↓D3.irng1.eq_1, ↓D3.irng2.eq_1, ↓D3.for3.eq_1, fCat, fEq_int, fNe_int, fEq_bl, fNe_bl, fEq_pair, fNe_pair, List.map, List.replicate, List.length_cons, List.length_nil, List.set_cons_zero, List.set_cons_succ, List.getElem?_cons_zero, List.getElem?_cons_succ, List.cons_append, List.nil_append, at_0, at_1, at_2, at_3, at_4, at_5, at_6, ix_0, ix_1, ix_2, put_same, put_put, decide_eq_true_eq, Bool.not_eq_true', decide_eq_false_iff_not, ite_not, ite_true, ite_false, if_true, if_false, Bool.false_eq_true, ↓reduceIte, reduceIte, Nat.reduceAdd, Nat.reduceSub, Int.reduceToNat, Nat.reduceLeDiff, not_false_eq_true, true_and, and_true, ne_eq, Int.reduceEq, Nat.zero_add, Bool.not_true, Bool.not_false, reduceCtorEq, nc0, nc1, nc2, nc3, nc4, nc5, fIx_ref put_same, fLen_ref put_same, ↓D3.lc3.eq_1, fInt, fTuple, fList, fNeS_s, fEqS_s, ↓D3.gstar3.eq_1, fInK_s, fNinK_s, fLenS_s, ↓D3.slcT3.eq_1, fCatT_t, dnew3]))
            refine ⟨x, 900, rfl, pr.1, ?_⟩
            (refine laterP_in ?_; repeat ((first | with_reducible refine laterP_i ?_ | with_reducible refine later_i ?_); try simp -implicitDefEqProofs -dsimp only [↓D3.seq3_stop, ↓D3.ifS3.eq_1, ↓D3.b3.eq_1, ↓D3.op3.eq_1, ↓D3.un3.eq_1, ↓D3.v3.eq_1, ↓D3.c3.eq_1, fIx_tup, fIx_lst, at3_0, at3_1, at3_2, at3_3, at3_4, at3_5, at3_6, start3, fI0_i, fI_i, fLt, fLe, fGt, fGe, fEqI, fNeI, fMin, fMax, ↓D3.asg3.eq_1, ↓D3.name3.eq_1, ↓D3.sub3.eq_1, ↓D3.ret3.eq_1, ↓D3.retN3.eq_1, ↓D3.nx3.eq_1, ↓D3.drop3.eq_1, ↓D3.par3.eq_1, ↓D3.aug3.eq_1, ↓D3.and3.eq_1, ↓D3.or3.eq_1, ↓D3.not3.eq_1, ↓D3.andV3.eq_1, ↓D3.orV3.eq_1, ↓D3.notV3.eq_1, ↓D3.if3.eq_1, ↓D3.nil3.eq_1, ↓D3.cons3.eq_1, ↓D3.tup3.eq_1, ↓D3.lst3.eq_1, ↓D3.lstM3.eq_1, ↓D3.gtup3.eq_1, ↓D3.gcons3.eq_1, ↓D3.gnil3.eq_1, ↓D3.gunl3.eq_1, ↓D3.bits3.eq_1, ↓D3.neg3.eq_1, ↓D3.chain3.eq_1, fIsi_int_int, fIsi_int_bool, fIsi_int_tuple, fIsi_int_str, fIsi_int_list, fIsi_bl_int, fIsi_bl_bool, fIsi_bl_tuple, fIsi_bl_str, fIsi_bl_list, fIsi_non_int, fIsi_non_bool, fIsi_non_tuple, fIsi_non_str, fIsi_non_list, fIsi_str_int, fIsi_str_bool, fIsi_str_tuple, fIsi_str_str, fIsi_str_list, fIsi_tup_int, fIsi_tup_bool, fIsi_tup_tuple, fIsi_tup_str, fIsi_tup_list, fIsi_lst_int, fIsi_lst_bool, fIsi_lst_tuple, fIsi_lst_str, fIsi_lst_list, fLen_lst, fLen_tup, fAbs, ↓D3.call3_k, ↓D3.kont_app, ↓D3.isN3.eq_1, ↓D3.notN3.eq_1, dIsN_non, dIsN_int, dIsN_bl, dIsN_str, dIsN_tup, dIsN_lst, ↓D3.slc3.eq_1, ↓D3.part3.eq_1, ↓D3.noPart3.eq_1, ↓D3.ilst3.eq_1, ↓D3.itup3.eq_1, ↓D3.irng1.eq_1, ↓D3.irng2.eq_1, ↓D3.for3.eq_1, fCat, fEq_int, fNe_int, fEq_bl, fNe_bl, fEq_pair, fNe_pair, List.map, List.replicate, List.length_cons, List.length_nil, List.set_cons_zero, List.set_cons_succ, List.getElem?_cons_zero, List.getElem?_cons_succ, List.cons_append, List.nil_append, at_0, at_1, at_2, at_3, at_4, at_5, at_6, ix_0, ix_1, ix_2, put_same, put_put, decide_eq_true_eq, Bool.not_eq_true', decide_eq_false_iff_not, ite_not, ite_true, ite_false, if_true, if_false, Bool.false_eq_true, ↓reduceIte, reduceIte, Nat.reduceAdd, Nat.reduceSub, Int.reduceToNat, Nat.reduceLeDiff, not_false_eq_true, true_and, and_true, ne_eq, Int.reduceEq, Nat.zero_add, Bool.not_true, Bool.not_false, reduceCtorEq, nc0, nc1, nc2, nc3, nc4, nc5, fIx_ref put_same, fLen_ref put_same, ↓D3.lc3.eq_1, fInt, fTuple, fList, fNeS_s, fEqS_s, ↓D3.gstar3.eq_1, fInK_s, fNinK_s, fLenS_s, ↓D3.slcT3.eq_1, fCatT_t, dnew3]))
            refine iteB (fun b => ?_) (fun b => ?_)
            · (simp [b] at q; exact q)
            · (simp [b] at q; exact q)
          | x :: y :: r, pr, q =>
            (refine laterP_in ?_; repeat ((first | with_reducible refine laterP_i ?_ | with_reducible refine later_i ?_); try simp -implicitDefEqProofs -dsimp only [↓D3.seq3_stop, ↓D3.ifS3.eq_1, ↓D3.b3.eq_1, ↓D3.op3.eq_1, ↓D3.un3.eq_1, ↓D3.v3.eq_1, ↓D3.c3.eq_1, fIx_tup, fIx_lst, at3_0, at3_1, at3_2, at3_3, at3_4, at3_5, at3_6, start3, fI0_i, fI_i, fLt, fLe, fGt, fGe, fEqI, fNeI, fMin, fMax, ↓D3.asg3.eq_1, ↓D3.name3.eq_1, ↓D3.sub3.eq_1, ↓D3.ret3.eq_1, ↓D3.retN3.eq_1, ↓D3.nx3.eq_1, ↓D3.drop3.eq_1, ↓D3.par3.eq_1, ↓D3.aug3.eq_1, ↓D3.and3.eq_1, ↓D3.or3.eq_1, ↓D3.not3.eq_1, ↓D3.andV3.eq_1, ↓D3.orV3.eq_1, ↓D3.notV3.eq_1, ↓D3.if3.eq_1, ↓D3.nil3.eq_1, ↓D3.cons3.eq_1, ↓D3.tup3.eq_1, ↓D3.lst3.eq_1, ↓D3.lstM3.eq_1, ↓D3.gtup3.eq_1, ↓D3.gcons3.eq_1, ↓D3.gnil3.eq_1, ↓D3.gunl3.eq_1, ↓D3.bits3.eq_1, ↓D3.neg3.eq_1, ↓D3.chain3.eq_1, fIsi_int_int, fIsi_int_bool, fIsi_int_tuple, fIsi_int_str, fIsi_int_list, fIsi_bl_int, fIsi_bl_bool, fIsi_bl_tuple, fIsi_bl_str, fIsi_bl_list, fIsi_non_int, fIsi_non_bool, fIsi_non_tuple, fIsi_non_str, fIsi_non_list, fIsi_str_int, fIsi_str_bool, fIsi_str_tuple, fIsi_str_str, fIsi_str_list, fIsi_tup_int, fIsi_tup_bool, fIsi_tup_tuple, fIsi_tup_str, fIsi_tup_list, fIsi_lst_int, fIsi_lst_bool, fIsi_lst_tuple, fIsi_lst_str, fIsi_lst_list, fLen_lst, fLen_tup, fAbs, ↓D3.call3_k, ↓D3.kont_app, ↓D3.isN3.eq_1, ↓D3.notN3.eq_1, dIsN_non, dIsN_int, dIsN_bl, dIsN_str, dIsN_tup, dIsN_lst, ↓D3.slc3.eq_1, ↓D3.part3.eq_1, ↓D3.noPart3.eq_1, ↓D3.ilst3.eq_1, ↓D3.itup3.eq_1, ↓D3.irng1.eq_1, ↓D3.irng2.eq_1, ↓D3.for3.eq_1, fCat, fEq_int, fNe_int, fEq_bl, fNe_bl, fEq_pair, fNe_pair, List.map, List.replicate, List.length_cons, List.length_nil, List.set_cons_zero, List.set_cons_succ, List.getElem?_cons_zero, List.getElem?_cons_succ, List.cons_append, List.nil_append, at_0, at_1, at_2, at_3, at_4, at_5, at_6, ix_0, ix_1, ix_2, put_same, put_put, decide_eq_true_eq, Bool.not_eq_true', decide_eq_false_iff_not, ite_not, ite_true, ite_false, if_true, if_false, Bool.false_eq_true, ↓reduceIte, reduceIte, Nat.reduceAdd, Nat.reduceSub, Int.reduceToNat, Nat.reduceLeDiff, not_false_eq_true, true_and, and_true, ne_eq, Int.reduceEq, Nat.zero_add, Bool.not_true, Bool.not_false, reduceCtorEq, nc0, nc1, nc2, nc3, nc4, nc5, fIx_ref put_same, fLen_ref put_same, ↓D3.lc3.eq_1, fInt, fTuple, fList, fNeS_s, fEqS_s, ↓D3.gstar3.eq_1, fInK_s, fNinK_s, fLenS_s, ↓D3.slcT3.eq_1, fCatT_t, dnew3]))
            exact ite2 (fun b => absurd b (by omega)) (fun b => q)
        rw [if_neg (show ¬ h = "number" from h4)] at q
        (refine laterP_in ?_; repeat ((first | with_reducible refine laterP_i ?_ | with_reducible refine later_i ?_); try simp -implicitDefEqProofs -dsimp only [↓D3.seq3_stop, ↓D3.ifS3.eq_1, ↓D3.b3.eq_1, ↓D3.op3.eq_1, ↓D3.un3.eq_1, ↓D3.v3.eq_1, ↓D3.c3.eq_1, fIx_tup, fIx_lst, at3_0, at3_1, at3_2, at3_3, at3_4, at3_5, at3_6, start3, fI0_i, fI_i, fLt, fLe, fGt, fGe, fEqI, fNeI, fMin, fMax, ↓D3.asg3.eq_1, ↓D3.name3.eq_1, ↓D3.sub3.eq_1, ↓D3.ret3.eq_1, ↓D3.retN3.eq_1, ↓D3.nx3.eq_1, ↓D3.drop3.eq_1, ↓D3.par3.eq_1, ↓D3.aug3.eq_1, ↓D3.and3.eq_1, ↓D3.or3.eq_1, ↓D3.not3.eq_1, ↓D3.andV3.eq_1, ↓D3.orV3.eq_1, ↓D3.notV3.eq_1, ↓D3.if3.eq_1, ↓D3.nil3.eq_1, ↓D3.cons3.eq_1, ↓D3.tup3.eq_1, ↓D3.lst3.eq_1, ↓D3.lstM3.eq_1, ↓D3.gtup3.eq_1, ↓D3.gcons3.eq_1, ↓D3.gnil3.eq_1, ↓D3.gunl3.eq_1, ↓D3.bits3.eq_1, ↓D3.neg3.eq_1, ↓D3.chain3.eq_1, fIsi_int_int, fIsi_int_bool, fIsi_int_tuple, fIsi_int_str, fIsi_int_list, fIsi_bl_int, fIsi_bl_bool, fIsi_bl_tuple, fIsi_bl_str, fIsi_bl_list, fIsi_non_int, fIsi_non_bool, fIsi_non_tuple, fIsi_non_str, fIsi_non_list, fIsi_str_int, fIsi_str_bool, fIsi_str_tuple, fIsi_str_str, fIsi_str_list, fIsi_tup_int, fIsi_tup_bool, fIsi_tup_tuple, fIsi_tup_str, fIsi_tup_list, fIsi_lst_int, fIsi_lst_bool, fIsi_lst_tuple, fIsi_lst_str, fIsi_lst_list, fLen_lst, fLen_tup, fAbs, ↓D3.call3_k, ↓D3.kont_app, ↓D3.isN3.eq_1, ↓D3.notN3.eq_1, dIsN_non, dIsN_int, dIsN_bl, dIsN_str, dIsN_tup, dIsN_lst, ↓D3.slc3.eq_1, ↓D3.part3.eq_1, ↓D3.noPart3.eq_1, ↓D3.ilst3.eq_1, ↓D3.itup3.eq_1, ↓D3.irng1.eq_1, ↓D3.irng2.eq_1, ↓D3.for3.eq_1, fCat, fEq_int, fNe_int, fEq_bl, fNe_bl, fEq_pair, fNe_pair, List.map, List.replicate, List.length_cons, List.length_nil, List.set_cons_zero, List.set_cons_succ, List.getElem?_cons_zero, List.getElem?_cons_succ, List.cons_append, List.nil_append, at_0, at_1, at_2, at_3, at_4, at_5, at_6, ix_0, ix_1, ix_2, put_same, put_put, decide_eq_true_eq, Bool.not_eq_true', decide_eq_false_iff_not, ite_not, ite_true, ite_false, if_true, if_false, Bool.false_eq_true, ↓reduceIte, reduceIte, Nat.reduceAdd, Nat.reduceSub, Int.reduceToNat, Nat.reduceLeDiff, not_false_eq_true, true_and, and_true, ne_eq, Int.reduceEq, Nat.zero_add, Bool.not_true, Bool.not_false, reduceCtorEq, nc0, nc1, nc2, nc3, nc4, nc5, fIx_ref put_same, fLen_ref put_same, ↓D3.lc3.eq_1, fInt, fTuple, fList, fNeS_s, fEqS_s, ↓D3.gstar3.eq_1, fInK_s, fNinK_s, fLenS_s, ↓D3.slcT3.eq_1, fCatT_t, dnew3]))
        refine ite2 (fun h5 => ?_) (fun h5 => ?_)
        · rw [if_pos (show h = "name" from h5)] at q
          match r, pr, q with
          | [], pr, q => ((refine laterP_in ?_; repeat ((first | with_reducible refine laterP_i ?_ | with_reducible refine later_i ?_); try simp -implicitDefEqProofs -dsimp only [↓D3.seq3_stop, ↓D3.ifS3.eq_1, ↓D3.b3.eq_1, ↓D3.op3.eq_1, ↓D3.un3.eq_1, ↓D3.v3.eq_1, ↓D3.c3.eq_1, fIx_tup, fIx_lst, at3_0, at3_1, at3_2, at3_3, at3_4, at3_5, at3_6, start3, fI0_i, fI_i, fLt, fLe, fGt, fGe, fEqI, fNeI, fMin, fMax, ↓D3.asg3.eq_1, ↓D3.name3.eq_1, ↓D3.sub3.eq_1, ↓D3.ret3.eq_1, ↓D3.retN3.eq_1, ↓D3.nx3.eq_1, ↓D3.drop3.eq_1, ↓D3.par3.eq_1, ↓D3.aug3.eq_1, ↓D3.and3.eq_1, ↓D3.or3.eq_1, ↓D3.not3.eq_1, ↓D3.andV3.eq_1, ↓D3.orV3.eq_1, ↓D3.notV3.eq_1, ↓D3.if3.eq_1, ↓D3.nil3.eq_1, ↓D3.cons3.eq_1, ↓D3.tup3.eq_1, ↓D3.lst3.eq_1, ↓D3.lstM3.eq_1, ↓D3.gtup3.eq_1, ↓D3.gcons3.eq_1, ↓D3.gnil3.eq_1, ↓D3.gunl3.eq_1, ↓D3.bits3.eq_1, ↓D3.neg3.eq_1, ↓D3.chain3.eq_1, fIsi_int_int, fIsi_int_bool, fIsi_int_tuple, fIsi_int_str, fIsi_int_list, fIsi_bl_int, fIsi_bl_bool, fIsi_bl_tuple, fIsi_bl_str, fIsi_bl_list, fIsi_non_int, fIsi_non_bool, fIsi_non_tuple, fIsi_non_str, fIsi_non_list, fIsi_str_int, fIsi_str_bool, fIsi_str_tuple, fIsi_str_str, fIsi_str_list, fIsi_tup_int, fIsi_tup_bool, fIsi_tup_tuple, fIsi_tup_str, fIsi_tup_list, fIsi_lst_int, fIsi_lst_bool, fIsi_lst_tuple, fIsi_lst_str, fIsi_lst_list, fLen_lst, fLen_tup, fAbs, ↓D3.call3_k, ↓D3.kont_app, ↓D3.isN3.eq_1, ↓D3.notN3.eq_1, dIsN_non, dIsN_int, dIsN_bl, dIsN_str, dIsN_tup, dIsN_lst, ↓D3.slc3.eq_1, ↓D3.part3.eq_1, ↓D3.noPart3.eq_1, ↓D3.ilst3.eq_1, ↓D3.itup3.eq_1, ↓D3.irng1.eq_1, ↓D3.irng2.eq_1, ↓D3.for3.eq_1, fCat, fEq_int, fNe_int, fEq_bl, fNe_bl, fEq_pair, fNe_pair, List.map, List.replicate, List.length_cons, List.length_nil, List.set_cons_zero, List.set_cons_succ, List.getElem?_cons_zero, List.getElem?_cons_succ, List.cons_append, List.nil_append, at_0, at_1, at_2, at_3, at_4, at_5, at_6, ix_0, ix_1, ix_2, put_same, put_put, decide_eq_true_eq, Bool.not_eq_true', decide_eq_false_iff_not, ite_not, ite_true, ite_false, if_true, if_false, Bool.false_eq_true, ↓reduceIte, reduceIte, Nat.reduceAdd, Nat.reduceSub, Int.reduceToNat, Nat.reduceLeDiff, not_false_eq_true, true_and, and_true, ne_eq, Int.reduceEq, Nat.zero_add, Bool.not_true, Bool.not_false, reduceCtorEq, nc0, nc1, nc2, nc3, nc4, nc5, fIx_ref put_same, fLen_ref put_same, ↓D3.lc3.eq_1, fInt, fTuple, fList, fNeS_s, fEqS_s, ↓D3.gstar3.eq_1, fInK_s, fNinK_s, fLenS_s, ↓D3.slcT3.eq_1, fCatT_t, dnew3]))); exact q
          | [x], pr, q =>
            (refine laterP_in ?_; repeat ((first | with_reducible refine laterP_i ?_ | with_reducible refine later_i ?_); try simp -implicitDefEqProofs -dsimp only [↓D3.seq3_stop, ↓D3.ifS3.eq_1, ↓D3.b3.eq_1, ↓D3.op3.eq_1, ↓D3.un3.eq_1, ↓D3.v3.eq_1, ↓D3.c3.eq_1, fIx_tup, fIx_lst, at3_0, at3_1, at3_2, at3_3, at3_4, at3_5, at3_6, start3, fI0_i, fI_i, fLt, fLe, fGt, fGe, fEqI, fNeI, fMin, fMax, ↓D3.asg3.eq_1, ↓D3.name3.eq_1, ↓D3.sub3.eq_1, ↓D3.ret3.eq_1, ↓D3.retN3.eq_1, ↓D3.nx3.eq_1, ↓D3.drop3.eq_1, ↓D3.par3.eq_1, ↓D3.aug3.eq_1, ↓D3.and3.eq_1, ↓D3.or3.eq_1, ↓D3.not3.eq_1, ↓D3.andV3.eq_1, ↓D3.orV3.eq_1, ↓D3.notV3.eq_1, ↓D3.if3.eq_1, ↓D3.nil3.eq_1, ↓D3.cons3.eq_1, ↓D3.tup3.eq_1, ↓D3.lst3.eq_1, ↓D3.lstM3.eq_1, ↓D3.gtup3.eq_1, ↓D3.gcons3.eq_1, ↓D3.gnil3.eq_1, ↓D3.gunl3.eq_1, ↓D3.bits3.eq_1, ↓D3.neg3.eq_1, ↓D3.chain3.eq_1, fIsi_int_int, fIsi_int_bool, fIsi_int_tuple, fIsi_int_str, fIsi_int_list, fIsi_bl_int, fIsi_bl_bool, fIsi_bl_tuple, fIsi_bl_str, fIsi_bl_list, fIsi_non_int, fIsi_non_bool, fIsi_non_tuple, fIsi_non_str, fIsi_non_list, fIsi_str_int, fIsi_str_bool, fIsi_str_tuple, fIsi_str_str, fIsi_str_list, fIsi_tup_int, fIsi_tup_bool, fIsi_tup_tuple, fIsi_tup_str, fIsi_tup_list, fIsi_lst_int, fIsi_lst_bool, fIsi_lst_tuple, fIsi_lst_str, fIsi_lst_list, fLen_lst, fLen_tup, fAbs, ↓D3.call3_k, ↓D3.kont_app, ↓D3.isN3.eq_1, ↓D3.notN3.eq_1, dIsN_non, dIsN_int, dIsN_bl, dIsN_str, dIsN_tup, dIsN_lst, ↓D3.slc3.eq_1, ↓D3.part3.eq_1, ↓D3.noPart3.eq_1, ↓D3.ilst3.eq_1, ↓D3.itup3.eq_1, ↓D3.irng1.eq_1, ↓D3.irng2.eq_1, ↓D3.for3.eq_1, fCat, fEq_int, fNe_int, fEq_bl, fNe_bl, fEq_pair, fNe_pair, List.map, List.replicate, List.length_cons, List.length_nil, List.set_cons_zero, List.set_cons_succ, List.getElem?_cons_zero, List.getElem?_cons_succ, List.cons_append, List.nil_append, at_0, at_1, at_2, at_3, at_4, at_5, at_6, ix_0, ix_1, ix_2, put_same, put_put, decide_eq_true_eq, Bool.not_eq_true', decide_eq_false_iff_not, ite_not, ite_true, ite_false, if_true, if_false, Bool.false_eq_true, ↓reduceIte, reduceIte, Nat.reduceAdd, Nat.reduceSub, Int.reduceToNat, Nat.reduceLeDiff, not_false_eq_true, true_and, and_true, ne_eq, Int.reduceEq, Nat.zero_add, Bool.not_true, Bool.not_false, reduceCtorEq, nc0, nc1, nc2, nc3, nc4, nc5, fIx_ref put_same, fLen_ref put_same, ↓D3.lc3.eq_1, fInt, fTuple, fList, fNeS_s, fEqS_s, ↓D3.gstar3.eq_1, fInK_s, fNinK_s, fLenS_s, ↓D3.slcT3.eq_1, fCatT_t, dnew3]))
            refine ⟨x, 900, rfl, pr.1, by decide, ?_⟩
            (refine laterP_in ?_; repeat ((first | with_reducible refine laterP_i ?_ | with_reducible refine later_i ?_); try simp -implicitDefEqProofs -dsimp only [↓D3.seq3_stop, ↓D3.ifS3.eq_1, ↓D3.b3.eq_1, ↓D3.op3.eq_1, ↓D3.un3.eq_1, ↓D3.v3.eq_1, ↓D3.c3.eq_1, fIx_tup, fIx_lst, at3_0, at3_1, at3_2, at3_3, at3_4, at3_5, at3_6, start3, fI0_i, fI_i, fLt, fLe, fGt, fGe, fEqI, fNeI, fMin, fMax, ↓D3.asg3.eq_1, ↓D3.name3.eq_1, ↓D3.sub3.eq_1, ↓D3.ret3.eq_1, ↓D3.retN3.eq_1, ↓D3.nx3.eq_1, ↓D3.drop3.eq_1, ↓D3.par3.eq_1, ↓D3.aug3.eq_1, ↓D3.and3.eq_1, ↓D3.or3.eq_1, ↓D3.not3.eq_1, ↓D3.andV3.eq_1, ↓D3.orV3.eq_1, ↓D3.notV3.eq_1, ↓D3.if3.eq_1, ↓D3.nil3.eq_1, ↓D3.cons3.eq_1, ↓D3.tup3.eq_1, ↓D3.lst3.eq_1, ↓D3.lstM3.eq_1, ↓D3.gtup3.eq_1, ↓D3.gcons3.eq_1, ↓D3.gnil3.eq_1, ↓D3.gunl3.eq_1, ↓D3.bits3.eq_1, ↓D3.neg3.eq_1, ↓D3.chain3.eq_1, fIsi_int_int, fIsi_int_bool, fIsi_int_tuple, fIsi_int_str, fIsi_int_list, fIsi_bl_int, fIsi_bl_bool, fIsi_bl_tuple, fIsi_bl_str, fIsi_bl_list, fIsi_non_int, fIsi_non_bool, fIsi_non_tuple, fIsi_non_str, fIsi_non_list, fIsi_str_int, fIsi_str_bool, fIsi_str_tuple, fIsi_str_str, fIsi_str_list, fIsi_tup_int, fIsi_tup_bool, fIsi_tup_tuple, fIsi_tup_str, fIsi_tup_list, fIsi_lst_int, fIsi_lst_bool, fIsi_lst_tuple, fIsi_lst_str, fIsi_lst_list, fLen_lst, fLen_tup, fAbs, ↓D3.call3_k, ↓D3.kont_app, ↓D3.isN3.eq_1, ↓D3.notN3.eq_1, dIsN_non, dIsN_int, dIsN_bl, dIsN_str, dIsN_tup, dIsN_lst, ↓D3.slc3.eq_1, ↓D3.part3.eq_1, ↓D3.noPart3.eq_1, ↓D3.ilst3.eq_1, ↓D3.itup3.eq_1, ↓D3.irng1.eq_1, ↓D3.irng2.eq_1, ↓D3.for3.eq_1, fCat, fEq_int, fNe_int, fEq_bl, fNe_bl, fEq_pair, fNe_pair, List.map, List.replicate, List.length_cons, List.length_nil, List.set_cons_zero, List.set_cons_succ, List.getElem?_cons_zero, List.getElem?_cons_succ, List.cons_append, List.nil_append, at_0, at_1, at_2, at_3, at_4, at_5, at_6, ix_0, ix_1, ix_2, put_same, put_put, decide_eq_true_eq, Bool.not_eq_true', decide_eq_false_iff_not, ite_not, ite_true, ite_false, if_true, if_false, Bool.false_eq_true, ↓reduceIte, reduceIte, Nat.reduceAdd, Nat.reduceSub, Int.reduceToNat, Nat.reduceLeDiff, not_false_eq_true, true_and, and_true, ne_eq, Int.reduceEq, Nat.zero_add, Bool.not_true, Bool.not_false, reduceCtorEq, nc0, nc1, nc2, nc3, nc4, nc5, fIx_ref put_same, fLen_ref put_same, ↓D3.lc3.eq_1, fInt, fTuple, fList, fNeS_s, fEqS_s, ↓D3.gstar3.eq_1, fInK_s, fNinK_s, fLenS_s, ↓D3.slcT3.eq_1, fCatT_t, dnew3]))
            refine iteB (fun b => ?_) (fun b => ?_)
            · (simp [b] at q; exact q)
            · (simp [b] at q; exact q)
          | x :: y :: r, pr, q =>
            (refine laterP_in ?_; repeat ((first | with_reducible refine laterP_i ?_ | with_reducible refine later_i ?_); try simp -implicitDefEqProofs -dsimp only [↓D3.seq3_stop, ↓D3.ifS3.eq_1, ↓D3.b3.eq_1, ↓D3.op3.eq_1, ↓D3.un3.eq_1, ↓D3.v3.eq_1, ↓D3.c3.eq_1, fIx_tup, fIx_lst, at3_0, at3_1, at3_2, at3_3, at3_4, at3_5, at3_6, start3, fI0_i, fI_i, fLt, fLe, fGt, fGe, fEqI, fNeI, fMin, fMax, ↓D3.asg3.eq_1, ↓D3.name3.eq_1, ↓D3.sub3.eq_1, ↓D3.ret3.eq_1, ↓D3.retN3.eq_1, ↓D3.nx3.eq_1, ↓D3.drop3.eq_1, ↓D3.par3.eq_1, ↓D3.aug3.eq_1, ↓D3.and3.eq_1, ↓D3.or3.eq_1, ↓D3.not3.eq_1, ↓D3.andV3.eq_1, ↓D3.orV3.eq_1, ↓D3.notV3.eq_1, ↓D3.if3.eq_1, ↓D3.nil3.eq_1, ↓D3.cons3.eq_1, ↓D3.tup3.eq_1, ↓D3.lst3.eq_1, ↓D3.lstM3.eq_1, ↓D3.gtup3.eq_1, ↓D3.gcons3.eq_1, ↓D3.gnil3.eq_1, ↓D3.gunl3.eq_1, ↓D3.bits3.eq_1, ↓D3.neg3.eq_1, ↓D3.chain3.eq_1, fIsi_int_int, fIsi_int_bool, fIsi_int_tuple, fIsi_int_str, fIsi_int_list, fIsi_bl_int, fIsi_bl_bool, fIsi_bl_tuple, fIsi_bl_str, fIsi_bl_list, fIsi_non_int, fIsi_non_bool, fIsi_non_tuple, fIsi_non_str, fIsi_non_list, fIsi_str_int, fIsi_str_bool, fIsi_str_tuple, fIsi_str_str, fIsi_str_list, fIsi_tup_int, fIsi_tup_bool, fIsi_tup_tuple, fIsi_tup_str, fIsi_tup_list, fIsi_lst_int, fIsi_lst_bool, fIsi_lst_tuple, fIsi_lst_str, fIsi_lst_list, fLen_lst, fLen_tup, fAbs, ↓D3.call3_k, ↓D3.kont_app, ↓D3.isN3.eq_1, ↓D3.notN3.eq_1, dIsN_non, dIsN_int, dIsN_bl, dIsN_str, dIsN_tup, dIsN_lst, ↓D3.slc3.eq_1, ↓D3.part3.eq_1, ↓D3.noPart3.eq_1, ↓D3.ilst3.eq_1, ↓D3.itup3.eq_1, ↓D3.irng1.eq_1, ↓D3.irng2.eq_1, ↓D3.for3.eq_1, fCat, fEq_int, fNe_int, fEq_bl, fNe_bl, fEq_pair, fNe_pair, List.map, List.replicate, List.length_cons, List.length_nil, List.set_cons_zero, List.set_cons_succ, List.getElem?_cons_zero, List.getElem?_cons_succ, List.cons_append, List.nil_append, at_0, at_1, at_2, at_3, at_4, at_5, at_6, ix_0, ix_1, ix_2, put_same, put_put, decide_eq_true_eq, Bool.not_eq_true', decide_eq_false_iff_not, ite_not, ite_true, ite_false, if_true, if_false, Bool.false_eq_true, ↓reduceIte, reduceIte, Nat.reduceAdd, Nat.reduceSub, Int.reduceToNat, Nat.reduceLeDiff, not_false_eq_true, true_and, and_true, ne_eq, Int.reduceEq, Nat.zero_add, Bool.not_true, Bool.not_false, reduceCtorEq, nc0, nc1, nc2, nc3, nc4, nc5, fIx_ref put_same, fLen_ref put_same, ↓D3.lc3.eq_1, fInt, fTuple, fList, fNeS_s, fEqS_s, ↓D3.gstar3.eq_1, fInK_s, fNinK_s, fLenS_s, ↓D3.slcT3.eq_1, fCatT_t, dnew3]))
            exact ite2 (fun b => absurd b (by omega)) (fun b => q)
        rw [if_neg (show ¬ h = "name" from h5)] at q
        (refine laterP_in ?_; repeat ((first | with_reducible refine laterP_i ?_ | with_reducible refine later_i ?_); try simp -implicitDefEqProofs -dsimp only [↓D3.seq3_stop, ↓D3.ifS3.eq_1, ↓D3.b3.eq_1, ↓D3.op3.eq_1, ↓D3.un3.eq_1, ↓D3.v3.eq_1, ↓D3.c3.eq_1, fIx_tup, fIx_lst, at3_0, at3_1, at3_2, at3_3, at3_4, at3_5, at3_6, start3, fI0_i, fI_i, fLt, fLe, fGt, fGe, fEqI, fNeI, fMin, fMax, ↓D3.asg3.eq_1, ↓D3.name3.eq_1, ↓D3.sub3.eq_1, ↓D3.ret3.eq_1, ↓D3.retN3.eq_1, ↓D3.nx3.eq_1, ↓D3.drop3.eq_1, ↓D3.par3.eq_1, ↓D3.aug3.eq_1, ↓D3.and3.eq_1, ↓D3.or3.eq_1, ↓D3.not3.eq_1, ↓D3.andV3.eq_1, ↓D3.orV3.eq_1, ↓D3.notV3.eq_1, ↓D3.if3.eq_1, ↓D3.nil3.eq_1, ↓D3.cons3.eq_1, ↓D3.tup3.eq_1, ↓D3.lst3.eq_1, ↓D3.lstM3.eq_1, ↓D3.gtup3.eq_1, ↓D3.gcons3.eq_1, ↓D3.gnil3.eq_1, ↓D3.gunl3.eq_1, ↓D3.bits3.eq_1, ↓D3.neg3.eq_1, ↓D3.chain3.eq_1, fIsi_int_int, fIsi_int_bool, fIsi_int_tuple, fIsi_int_str, fIsi_int_list, fIsi_bl_int, fIsi_bl_bool, fIsi_bl_tuple, fIsi_bl_str, fIsi_bl_list, fIsi_non_int, fIsi_non_bool, fIsi_non_tuple, fIsi_non_str, fIsi_non_list, fIsi_str_int, fIsi_str_bool, fIsi_str_tuple, fIsi_str_str, fIsi_str_list, fIsi_tup_int, fIsi_tup_bool, fIsi_tup_tuple, fIsi_tup_str, fIsi_tup_list, fIsi_lst_int, fIsi_lst_bool, fIsi_lst_tuple, fIsi_lst_str, fIsi_lst_list, fLen_lst, fLen_tup, fAbs, ↓D3.call3_k, ↓D3.kont_app, ↓D3.isN3.eq_1, ↓D3.notN3.eq_1, dIsN_non, dIsN_int, dIsN_bl, dIsN_str, dIsN_tup, dIsN_lst, ↓D3.slc3.eq_1, ↓D3.part3.eq_1, ↓D3.noPart3.eq_1, ↓D3.ilst3.eq_1, ↓D3.itup3.eq_1, ↓D3.irng1.eq_1, ↓D3.irng2.eq_1, ↓D3.for3.eq_1, fCat, fEq_int, fNe_int, fEq_bl, fNe_bl, fEq_pair, fNe_pair, List.map, List.replicate, List.length_cons, List.length_nil, List.set_cons_zero, List.set_cons_succ, List.getElem?_cons_zero, List.getElem?_cons_succ, List.cons_append, List.nil_append, at_0, at_1, at_2, at_3, at_4, at_5, at_6, ix_0, ix_1, ix_2, put_same, put_put, decide_eq_true_eq, Bool.not_eq_true', decide_eq_false_iff_not, ite_not, ite_true, ite_false, if_true, if_false, Bool.false_eq_true, ↓reduceIte, reduceIte, Nat.reduceAdd, Nat.reduceSub, Int.reduceToNat, Nat.reduceLeDiff, not_false_eq_true, true_and, and_true, ne_eq, Int.reduceEq, Nat.zero_add, Bool.not_true, Bool.not_false, reduceCtorEq, nc0, nc1, nc2, nc3, nc4, nc5, fIx_ref put_same, fLen_ref put_same, ↓D3.lc3.eq_1, fInt, fTuple, fList, fNeS_s, fEqS_s, ↓D3.gstar3.eq_1, fInK_s, fNinK_s, fLenS_s, ↓D3.slcT3.eq_1, fCatT_t, dnew3]))
        refine ite2 (fun h6 => ?_) (fun h6 => ?_)
        · rw [if_pos (show h = "root" from h6)] at q
          match r, pr, q with
          | [], pr, q => ((refine laterP_in ?_; repeat ((first | with_reducible refine laterP_i ?_ | with_reducible refine later_i ?_); try simp -implicitDefEqProofs -dsimp only [↓D3.seq3_stop, ↓D3.ifS3.eq_1, ↓D3.b3.eq_1, ↓D3.op3.eq_1, ↓D3.un3.eq_1, ↓D3.v3.eq_1, ↓D3.c3.eq_1, fIx_tup, fIx_lst, at3_0, at3_1, at3_2, at3_3, at3_4, at3_5, at3_6, start3, fI0_i, fI_i, fLt, fLe, fGt, fGe, fEqI, fNeI, fMin, fMax, ↓D3.asg3.eq_1, ↓D3.name3.eq_1, ↓D3.sub3.eq_1, ↓D3.ret3.eq_1, ↓D3.retN3.eq_1, ↓D3.nx3.eq_1, ↓D3.drop3.eq_1, ↓D3.par3.eq_1, ↓D3.aug3.eq_1, ↓D3.and3.eq_1, ↓D3.or3.eq_1, ↓D3.not3.eq_1, ↓D3.andV3.eq_1, ↓D3.orV3.eq_1, ↓D3.notV3.eq_1, ↓D3.if3.eq_1, ↓D3.nil3.eq_1, ↓D3.cons3.eq_1, ↓D3.tup3.eq_1, ↓D3.lst3.eq_1, ↓D3.lstM3.eq_1, ↓D3.gtup3.eq_1, ↓D3.gcons3.eq_1, ↓D3.gnil3.eq_1, ↓D3.gunl3.eq_1, ↓D3.bits3.eq_1, ↓D3.neg3.eq_1, ↓D3.chain3.eq_1, fIsi_int_int, fIsi_int_bool, fIsi_int_tuple, fIsi_int_str, fIsi_int_list, fIsi_bl_int, fIsi_bl_bool, fIsi_bl_tuple, fIsi_bl_str, fIsi_bl_list, fIsi_non_int, fIsi_non_bool, fIsi_non_tuple, fIsi_non_str, fIsi_non_list, fIsi_str_int, fIsi_str_bool, fIsi_str_tuple, fIsi_str_str, fIsi_str_list, fIsi_tup_int, fIsi_tup_bool, fIsi_tup_tuple, fIsi_tup_str, fIsi_tup_list, fIsi_lst_int, fIsi_lst_bool, fIsi_lst_tuple, fIsi_lst_str, fIsi_lst_list, fLen_lst, fLen_tup, fAbs, ↓D3.call3_k, ↓D3.kont_app, ↓D3.isN3.eq_1, ↓D3.notN3.eq_1, dIsN_non, dIsN_int, dIsN_bl, dIsN_str, dIsN_tup, dIsN_lst, ↓D3.slc3.eq_1, ↓D3.part3.eq_1, ↓D3.noPart3.eq_1, ↓D3.ilst3.eq_1, ↓D3.itup3.eq_1, ↓D3.irng1.eq_1, ↓D3.irng2.eq_1, ↓D3.for3.eq_1, fCat, fEq_int, fNe_int, fEq_bl, fNe_bl, fEq_pair, fNe_pair, List.map, List.replicate, List.length_cons, List.length_nil, List.set_cons_zero, List.set_cons_succ, List.getElem?_cons_zero, List.getElem?_cons_succ, List.cons_append, List.nil_append, at_0, at_1, at_2, at_3, at_4, at_5, at_6, ix_0, ix_1, ix_2, put_same, put_put, decide_eq_true_eq, Bool.not_eq_true', decide_eq_false_iff_not, ite_not, ite_true, ite_false, if_true, if_false, Bool.false_eq_true, ↓reduceIte, reduceIte, Nat.reduceAdd, Nat.reduceSub, Int.reduceToNat, Nat.reduceLeDiff, not_false_eq_true, true_and, and_true, ne_eq, Int.reduceEq, Nat.zero_add, Bool.not_true, Bool.not_false, reduceCtorEq, nc0, nc1, nc2, nc3, nc4, nc5, fIx_ref put_same, fLen_ref put_same, ↓D3.lc3.eq_1, fInt, fTuple, fList, fNeS_s, fEqS_s, ↓D3.gstar3.eq_1, fInK_s, fNinK_s, fLenS_s, ↓D3.slcT3.eq_1, fCatT_t, dnew3]))); exact q
          | [x], pr, q => ((refine laterP_in ?_; repeat ((first | with_reducible refine laterP_i ?_ | with_reducible refine later_i ?_); try simp -implicitDefEqProofs -dsimp only [↓D3.seq3_stop, ↓D3.ifS3.eq_1, ↓D3.b3.eq_1, ↓D3.op3.eq_1, ↓D3.un3.eq_1, ↓D3.v3.eq_1, ↓D3.c3.eq_1, fIx_tup, fIx_lst, at3_0, at3_1, at3_2, at3_3, at3_4, at3_5, at3_6, start3, fI0_i, fI_i, fLt, fLe, fGt, fGe, fEqI, fNeI, fMin, fMax, ↓D3.asg3.eq_1, ↓D3.name3.eq_1, ↓D3.sub3.eq_1, ↓D3.ret3.eq_1, ↓D3.retN3.eq_1, ↓D3.nx3.eq_1, ↓D3.drop3.eq_1, ↓D3.par3.eq_1, ↓D3.aug3.eq_1, ↓D3.and3.eq_1, ↓D3.or3.eq_1, ↓D3.not3.eq_1, ↓D3.andV3.eq_1, ↓D3.orV3.eq_1, ↓D3.notV3.eq_1, ↓D3.if3.eq_1, ↓D3.nil3.eq_1, ↓D3.cons3.eq_1, ↓D3.tup3.eq_1, ↓D3.lst3.eq_1, ↓D3.lstM3.eq_1, ↓D3.gtup3.eq_1, ↓D3.gcons3.eq_1, ↓D3.gnil3.eq_1, ↓D3.gunl3.eq_1, ↓D3.bits3.eq_1, ↓D3.neg3.eq_1, ↓D3.chain3.eq_1, fIsi_int_int, fIsi_int_bool, fIsi_int_tuple, fIsi_int_str, fIsi_int_list, fIsi_bl_int, fIsi_bl_bool, fIsi_bl_tuple, fIsi_bl_str, fIsi_bl_list, fIsi_non_int, fIsi_non_bool, fIsi_non_tuple, fIsi_non_str, fIsi_non_list, fIsi_str_int, fIsi_str_bool, fIsi_str_tuple, fIsi_str_str, fIsi_str_list, fIsi_tup_int, fIsi_tup_bool, fIsi_tup_tuple, fIsi_tup_str, fIsi_tup_list, fIsi_lst_int, fIsi_lst_bool, fIsi_lst_tuple, fIsi_lst_str, fIsi_lst_list, fLen_lst, fLen_tup, fAbs, ↓D3.call3_k, ↓D3.kont_app, ↓D3.isN3.eq_1, ↓D3.notN3.eq_1, dIsN_non, dIsN_int, dIsN_bl, dIsN_str, dIsN_tup, dIsN_lst, ↓D3.slc3.eq_1, ↓D3.part3.eq_1, ↓D3.noPart3.eq_1, ↓D3.ilst3.eq_1, ↓D3.itup3.eq_1, ↓D3.irng1.eq_1, ↓D3.irng2.eq_1, ↓D3.for3.eq_1, fCat, fEq_int, fNe_int, fEq_bl, fNe_bl, fEq_pair, fNe_pair, List.map, List.replicate, List.length_cons, List.length_nil, List.set_cons_zero, List.set_cons_succ, List.getElem?_cons_zero, List.getElem?_cons_succ, List.cons_append, List.nil_append, at_0, at_1, at_2, at_3, at_4, at_5, at_6, ix_0, ix_1, ix_2, put_same, put_put, decide_eq_true_eq, Bool.not_eq_true', decide_eq_false_iff_not, ite_not, ite_true, ite_false, if_true, if_false, Bool.false_eq_true, ↓reduceIte, reduceIte, Nat.reduceAdd, Nat.reduceSub, Int.reduceToNat, Nat.reduceLeDiff, not_false_eq_true, true_and, and_true, ne_eq, Int.reduceEq, Nat.zero_add, Bool.not_true, Bool.not_false, reduceCtorEq, nc0, nc1, nc2, nc3, nc4, nc5, fIx_ref put_same, fLen_ref put_same, ↓D3.lc3.eq_1, fInt, fTuple, fList, fNeS_s, fEqS_s, ↓D3.gstar3.eq_1, fInK_s, fNinK_s, fLenS_s, ↓D3.slcT3.eq_1, fCatT_t, dnew3]))); (cases x <;> exact q)
          | x :: y :: z :: r, pr, q =>
            (refine laterP_in ?_; repeat ((first | with_reducible refine laterP_i ?_ | with_reducible refine later_i ?_); try simp -implicitDefEqProofs -dsimp only [↓D3.seq3_stop, ↓D3.ifS3.eq_1, ↓D3.b3.eq_1, ↓D3.op3.eq_1, ↓D3.un3.eq_1, ↓D3.v3.eq_1, ↓D3.c3.eq_1, fIx_tup, fIx_lst, at3_0, at3_1, at3_2, at3_3, at3_4, at3_5, at3_6, start3, fI0_i, fI_i, fLt, fLe, fGt, fGe, fEqI, fNeI, fMin, fMax, ↓D3.asg3.eq_1, ↓D3.name3.eq_1, ↓D3.sub3.eq_1, ↓D3.ret3.eq_1, ↓D3.retN3.eq_1, ↓D3.nx3.eq_1, ↓D3.drop3.eq_1, ↓D3.par3.eq_1, ↓D3.aug3.eq_1, ↓D3.and3.eq_1, ↓D3.or3.eq_1, ↓D3.not3.eq_1, ↓D3.andV3.eq_1, ↓D3.orV3.eq_1, ↓D3.notV3.eq_1, ↓D3.if3.eq_1, ↓D3.nil3.eq_1, ↓D3.cons3.eq_1, ↓D3.tup3.eq_1, ↓D3.lst3.eq_1, ↓D3.lstM3.eq_1, ↓D3.gtup3.eq_1, ↓D3.gcons3.eq_1, ↓D3.gnil3.eq_1, ↓D3.gunl3.eq_1, ↓D3.bits3.eq_1, ↓D3.neg3.eq_1, ↓D3.chain3.eq_1, fIsi_int_int, fIsi_int_bool, fIsi_int_tuple, fIsi_int_str, fIsi_int_list, fIsi_bl_int, fIsi_bl_bool, fIsi_bl_tuple, fIsi_bl_str, fIsi_bl_list, fIsi_non_int, fIsi_non_bool, fIsi_non_tuple, fIsi_non_str, fIsi_non_list, fIsi_str_int, fIsi_str_bool, fIsi_str_tuple, fIsi_str_str, fIsi_str_list, fIsi_tup_int, fIsi_tup_bool, fIsi_tup_tuple, fIsi_tup_str, fIsi_tup_list, fIsi_lst_int, fIsi_lst_bool, fIsi_lst_tuple, fIsi_lst_str, fIsi_lst_list, fLen_lst, fLen_tup, fAbs, ↓D3.call3_k, ↓D3.kont_app, ↓D3.isN3.eq_1, ↓D3.notN3.eq_1, dIsN_non, dIsN_int, dIsN_bl, dIsN_str, dIsN_tup, dIsN_lst, ↓D3.slc3.eq_1, ↓D3.part3.eq_1, ↓D3.noPart3.eq_1, ↓D3.ilst3.eq_1, ↓D3.itup3.eq_1, ↓D3.irng1.eq_1, ↓D3.irng2.eq_1, ↓D3.for3.eq_1, fCat, fEq_int, fNe_int, fEq_bl, fNe_bl, fEq_pair, fNe_pair, List.map, List.replicate, List.length_cons, List.length_nil, List.set_cons_zero, List.set_cons_succ, List.getElem?_cons_zero, List.getElem?_cons_succ, List.cons_append, List.nil_append, at_0, at_1, at_2, at_3, at_4, at_5, at_6, ix_0, ix_1, ix_2, put_same, put_put, decide_eq_true_eq, Bool.not_eq_true', decide_eq_false_iff_not, ite_not, ite_true, ite_false, if_true, if_false, Bool.false_eq_true, ↓reduceIte, reduceIte, Nat.reduceAdd, Nat.reduceSub, Int.reduceToNat, Nat.reduceLeDiff, not_false_eq_true, true_and, and_true, ne_eq, Int.reduceEq, Nat.zero_add, Bool.not_true, Bool.not_false, reduceCtorEq, nc0, nc1, nc2, nc3, nc4, nc5, fIx_ref put_same, fLen_ref put_same, ↓D3.lc3.eq_1, fInt, fTuple, fList, fNeS_s, fEqS_s, ↓D3.gstar3.eq_1, fInK_s, fNinK_s, fLenS_s, ↓D3.slcT3.eq_1, fCatT_t, dnew3]))
            exact ite2 (fun b => absurd b (by omega)) (fun b => by cases x <;> exact q)
          | [x, y], pr, q =>
            (refine laterP_in ?_; repeat ((first | with_reducible refine laterP_i ?_ | with_reducible refine later_i ?_); try simp -implicitDefEqProofs -dsimp only [↓D3.seq3_stop, ↓D3.ifS3.eq_1, ↓D3.b3.eq_1, ↓D3.op3.eq_1, ↓D3.un3.eq_1, ↓D3.v3.eq_1, ↓D3.c3.eq_1, fIx_tup, fIx_lst, at3_0, at3_1, at3_2, at3_3, at3_4, at3_5, at3_6, start3, fI0_i, fI_i, fLt, fLe, fGt, fGe, fEqI, fNeI, fMin, fMax, ↓D3.asg3.eq_1, ↓D3.name3.eq_1, ↓D3.sub3.eq_1, ↓D3.ret3.eq_1, ↓D3.retN3.eq_1, ↓D3.nx3.eq_1, ↓D3.drop3.eq_1, ↓D3.par3.eq_1, ↓D3.aug3.eq_1, ↓D3.and3.eq_1, ↓D3.or3.eq_1, ↓D3.not3.eq_1, ↓D3.andV3.eq_1, ↓D3.orV3.eq_1, ↓D3.notV3.eq_1, ↓D3.if3.eq_1, ↓D3.nil3.eq_1, ↓D3.cons3.eq_1, ↓D3.tup3.eq_1, ↓D3.lst3.eq_1, ↓D3.lstM3.eq_1, ↓D3.gtup3.eq_1, ↓D3.gcons3.eq_1, ↓D3.gnil3.eq_1, ↓D3.gunl3.eq_1, ↓D3.bits3.eq_1, ↓D3.neg3.eq_1, ↓D3.chain3.eq_1, fIsi_int_int, fIsi_int_bool, fIsi_int_tuple, fIsi_int_str, fIsi_int_list, fIsi_bl_int, fIsi_bl_bool, fIsi_bl_tuple, fIsi_bl_str, fIsi_bl_list, fIsi_non_int, fIsi_non_bool, fIsi_non_tuple, fIsi_non_str, fIsi_non_list, fIsi_str_int, fIsi_str_bool, fIsi_str_tuple, fIsi_str_str, fIsi_str_list, fIsi_tup_int, fIsi_tup_bool, fIsi_tup_tuple, fIsi_tup_str, fIsi_tup_list, fIsi_lst_int, fIsi_lst_bool, fIsi_lst_tuple, fIsi_lst_str, fIsi_lst_list, fLen_lst, fLen_tup, fAbs, ↓D3.call3_k, ↓D3.kont_app, ↓D3.isN3.eq_1, ↓D3.notN3.eq_1, dIsN_non, dIsN_int, dIsN_bl, dIsN_str, dIsN_tup, dIsN_lst, ↓D3.slc3.eq_1, ↓D3.part3.eq_1, ↓D3.noPart3.eq_1, ↓D3.ilst3.eq_1, ↓D3.itup3.eq_1, ↓D3.irng1.eq_1, ↓D3.irng2.eq_1, ↓D3.for3.eq_1, fCat, fEq_int, fNe_int, fEq_bl, fNe_bl, fEq_pair, fNe_pair, List.map, List.replicate, List.length_cons, List.length_nil, List.set_cons_zero, List.set_cons_succ, List.getElem?_cons_zero, List.getElem?_cons_succ, List.cons_append, List.nil_append, at_0, at_1, at_2, at_3, at_4, at_5, at_6, ix_0, ix_1, ix_2, put_same, put_put, decide_eq_true_eq, Bool.not_eq_true', decide_eq_false_iff_not, ite_not, ite_true, ite_false, if_true, if_false, Bool.false_eq_true, ↓reduceIte, reduceIte, Nat.reduceAdd, Nat.reduceSub, Int.reduceToNat, Nat.reduceLeDiff, not_false_eq_true, true_and, and_true, ne_eq, Int.reduceEq, Nat.zero_add, Bool.not_true, Bool.not_false, reduceCtorEq, nc0, nc1, nc2, nc3, nc4, nc5, fIx_ref put_same, fLen_ref put_same, ↓D3.lc3.eq_1, fInt, fTuple, fList, fNeS_s, fEqS_s, ↓D3.gstar3.eq_1, fInK_s, fNinK_s, fLenS_s, ↓D3.slcT3.eq_1, fCatT_t, dnew3]))
            refine ⟨x, 900, rfl, pr.1, ?_⟩
            cases x with
            | int k =>
              (refine laterP_in ?_; repeat ((first | with_reducible refine laterP_i ?_ | with_reducible refine later_i ?_); try simp -implicitDefEqProofs -dsimp only [↓D3.seq3_stop, ↓D3.ifS3.eq_1, ↓D3.b3.eq_1, ↓D3.op3.eq_1, ↓D3.un3.eq_1, ↓D3.v3.eq_1, ↓D3.c3.eq_1, fIx_tup, fIx_lst, at3_0, at3_1, at3_2, at3_3, at3_4, at3_5, at3_6, start3, fI0_i, fI_i, fLt, fLe, fGt, fGe, fEqI, fNeI, fMin, fMax, ↓D3.asg3.eq_1, ↓D3.name3.eq_1, ↓D3.sub3.eq_1, ↓D3.ret3.eq_1, ↓D3.retN3.eq_1, ↓D3.nx3.eq_1, ↓D3.drop3.eq_1, ↓D3.par3.eq_1, ↓D3.aug3.eq_1, ↓D3.and3.eq_1, ↓D3.or3.eq_1, ↓D3.not3.eq_1, ↓D3.andV3.eq_1, ↓D3.orV3.eq_1, ↓D3.notV3.eq_1, ↓D3.if3.eq_1, ↓D3.nil3.eq_1, ↓D3.cons3.eq_1, ↓D3.tup3.eq_1, ↓D3.lst3.eq_1, ↓D3.lstM3.eq_1, ↓D3.gtup3.eq_1, ↓D3.gcons3.eq_1, ↓D3.gnil3.eq_1, ↓D3.gunl3.eq_1, ↓D3.bits3.eq_1, ↓D3.neg3.eq_1, ↓D3.chain3.eq_1, fIsi_int_int, fIsi_int_bool, fIsi_int_tuple, fIsi_int_str, fIsi_int_list, fIsi_bl_int, fIsi_bl_bool, fIsi_bl_tuple, fIsi_bl_str, fIsi_bl_list, fIsi_non_int, fIsi_non_bool, fIsi_non_tuple, fIsi_non_str, fIsi_non_list, fIsi_str_int, fIsi_str_bool, fIsi_str_tuple, fIsi_str_str, fIsi_str_list, fIsi_tup_int, fIsi_tup_bool, fIsi_tup_tuple, fIsi_tup_str, fIsi_tup_list, fIsi_lst_int, fIsi_lst_bool, fIsi_lst_tuple, fIsi_lst_str, fIsi_lst_list, fLen_lst, fLen_tup, fAbs, ↓D3.call3_k, ↓D3.kont_app, ↓D3.isN3.eq_1, ↓D3.notN3.eq_1, dIsN_non, dIsN_int, dIsN_bl, dIsN_str, dIsN_tup, dIsN_lst, ↓D3.slc3.eq_1, ↓D3.part3.eq_1, ↓D3.noPart3.eq_1, ↓D3.ilst3.eq_1, ↓D3.itup3.eq_1, ↓D3.irng1.eq_1, ↓D3.irng2.eq_1, ↓D3.for3.eq_1, fCat, fEq_int, fNe_int, fEq_bl, fNe_bl, fEq_pair, fNe_pair, List.map, List.replicate, List.length_cons, List.length_nil, List.set_cons_zero, List.set_cons_succ, List.getElem?_cons_zero, List.getElem?_cons_succ, List.cons_append, List.nil_append, at_0, at_1, at_2, at_3, at_4, at_5, at_6, ix_0, ix_1, ix_2, put_same, put_put, decide_eq_true_eq, Bool.not_eq_true', decide_eq_false_iff_not, ite_not, ite_true, ite_false, if_true, if_false, Bool.false_eq_true, ↓reduceIte, reduceIte, Nat.reduceAdd, Nat.reduceSub, Int.reduceToNat, Nat.reduceLeDiff, not_false_eq_true, true_and, and_true, ne_eq, Int.reduceEq, Nat.zero_add, Bool.not_true, Bool.not_false, reduceCtorEq, nc0, nc1, nc2, nc3, nc4, nc5, fIx_ref put_same, fLen_ref put_same, ↓D3.lc3.eq_1, fInt, fTuple, fList, fNeS_s, fEqS_s, ↓D3.gstar3.eq_1, fInK_s, fNinK_s, fLenS_s, ↓D3.slcT3.eq_1, fCatT_t, dnew3, wh]))
              refine ite2 (fun b1 => ite2 (fun b2 => ?_) (fun b2 => ?_)) (fun b1 => ?_)
              · rw [show oD (if 2 ≤ k ∧ k ≤ 5 then some [y] else none) = .lst [y] from by rw [if_pos ⟨b1, b2⟩]; rfl] at q
                exact q
              · rw [show oD (if 2 ≤ k ∧ k ≤ 5 then some [y] else none) = .non from by rw [if_neg fun z => b2 z.2]; rfl] at q
                exact q
              · rw [show oD (if 2 ≤ k ∧ k ≤ 5 then some [y] else none) = .non from by rw [if_neg fun z => b1 z.1]; rfl] at q
                exact q
            | _ => ((refine laterP_in ?_; repeat ((first | with_reducible refine laterP_i ?_ | with_reducible refine later_i ?_); try simp -implicitDefEqProofs -dsimp only [↓D3.seq3_stop, ↓D3.ifS3.eq_1, ↓D3.b3.eq_1, ↓D3.op3.eq_1, ↓D3.un3.eq_1, ↓D3.v3.eq_1, ↓D3.c3.eq_1, fIx_tup, fIx_lst, at3_0, at3_1, at3_2, at3_3, at3_4, at3_5, at3_6, start3, fI0_i, fI_i, fLt, fLe, fGt, fGe, fEqI, fNeI, fMin, fMax, ↓D3.asg3.eq_1, ↓D3.name3.eq_1, ↓D3.sub3.eq_1, ↓D3.ret3.eq_1, ↓D3.retN3.eq_1, ↓D3.nx3.eq_1, ↓D3.drop3.eq_1, ↓D3.par3.eq_1, ↓D3.aug3.eq_1, ↓D3.and3.eq_1, ↓D3.or3.eq_1, ↓D3.not3.eq_1, ↓D3.andV3.eq_1, ↓D3.orV3.eq_1, ↓D3.notV3.eq_1, ↓D3.if3.eq_1, ↓D3.nil3.eq_1, ↓D3.cons3.eq_1, ↓D3.tup3.eq_1, ↓D3.lst3.eq_1, ↓D3.lstM3.eq_1, ↓D3.gtup3.eq_1, ↓D3.gcons3.eq_1, ↓D3.gnil3.eq_1, ↓D3.gunl3.eq_1, ↓D3.bits3.eq_1, ↓D3.neg3.eq_1, ↓D3.chain3.eq_1, fIsi_int_int, fIsi_int_bool, fIsi_int_tuple, fIsi_int_str, fIsi_int_list, fIsi_bl_int, fIsi_bl_bool, fIsi_bl_tuple, fIsi_bl_str, fIsi_bl_list, fIsi_non_int, fIsi_non_bool, fIsi_non_tuple, fIsi_non_str, fIsi_non_list, fIsi_str_int, fIsi_str_bool, fIsi_str_tuple, fIsi_str_str, fIsi_str_list, fIsi_tup_int, fIsi_tup_bool, fIsi_tup_tuple, fIsi_tup_str, fIsi_tup_list, fIsi_lst_int, fIsi_lst_bool, fIsi_lst_tuple, fIsi_lst_str, fIsi_lst_list, fLen_lst, fLen_tup, fAbs, ↓D3.call3_k, ↓D3.kont_app, ↓D3.isN3.eq_1, ↓D3.notN3.eq_1, dIsN_non, dIsN_int, dIsN_bl, dIsN_str, dIsN_tup, dIsN_lst, ↓D3.slc3.eq_1, ↓D3.part3.eq_1, ↓D3.noPart3.eq_1, ↓D3.ilst3.eq_1, ↓D3.itup3.eq_1, ↓D3.irng1.eq_1, ↓D3.irng2.eq_1, ↓D3.for3.eq_1, fCat, fEq_int, fNe_int, fEq_bl, fNe_bl, fEq_pair, fNe_pair, List.map, List.replicate, List.length_cons, List.length_nil, List.set_cons_zero, List.set_cons_succ, List.getElem?_cons_zero, List.getElem?_cons_succ, List.cons_append, List.nil_append, at_0, at_1, at_2, at_3, at_4, at_5, at_6, ix_0, ix_1, ix_2, put_same, put_put, decide_eq_true_eq, Bool.not_eq_true', decide_eq_false_iff_not, ite_not, ite_true, ite_false, if_true, if_false, Bool.false_eq_true, ↓reduceIte, reduceIte, Nat.reduceAdd, Nat.reduceSub, Int.reduceToNat, Nat.reduceLeDiff, not_false_eq_true, true_and, and_true, ne_eq, Int.reduceEq, Nat.zero_add, Bool.not_true, Bool.not_false, reduceCtorEq, nc0, nc1, nc2, nc3, nc4, nc5, fIx_ref put_same, fLen_ref put_same, ↓D3.lc3.eq_1, fInt, fTuple, fList, fNeS_s, fEqS_s, ↓D3.gstar3.eq_1, fInK_s, fNinK_s, fLenS_s, ↓D3.slcT3.eq_1, fCatT_t, dnew3, wh]))); exact q
        rw [if_neg (show ¬ h = "root" from h6)] at q
        (refine laterP_in ?_; repeat ((first | with_reducible refine laterP_i ?_ | with_reducible refine later_i ?_); try simp -implicitDefEqProofs -dsimp only [↓D3.seq3_stop, ↓D3.ifS3.eq_1, ↓D3.b3.eq_1, ↓D3.op3.eq_1, ↓D3.un3.eq_1, ↓D3.v3.eq_1, ↓D3.c3.eq_1, fIx_tup, fIx_lst, at3_0, at3_1, at3_2, at3_3, at3_4, at3_5, at3_6, start3, fI0_i, fI_i, fLt, fLe, fGt, fGe, fEqI, fNeI, fMin, fMax, ↓D3.asg3.eq_1, ↓D3.name3.eq_1, ↓D3.sub3.eq_1, ↓D3.ret3.eq_1, ↓D3.retN3.eq_1, ↓D3.nx3.eq_1, ↓D3.drop3.eq_1, ↓D3.par3.eq_1, ↓D3.aug3.eq_1, ↓D3.and3.eq_1, ↓D3.or3.eq_1, ↓D3.not3.eq_1, ↓D3.andV3.eq_1, ↓D3.orV3.eq_1, ↓D3.notV3.eq_1, ↓D3.if3.eq_1, ↓D3.nil3.eq_1, ↓D3.cons3.eq_1, ↓D3.tup3.eq_1, ↓D3.lst3.eq_1, ↓D3.lstM3.eq_1, ↓D3.gtup3.eq_1, ↓D3.gcons3.eq_1, ↓D3.gnil3.eq_1, ↓D3.gunl3.eq_1, ↓D3.bits3.eq_1, ↓D3.neg3.eq_1, ↓D3.chain3.eq_1, fIsi_int_int, fIsi_int_bool, fIsi_int_tuple, fIsi_int_str, fIsi_int_list, fIsi_bl_int, fIsi_bl_bool, fIsi_bl_tuple, fIsi_bl_str, fIsi_bl_list, fIsi_non_int, fIsi_non_bool, fIsi_non_tuple, fIsi_non_str, fIsi_non_list, fIsi_str_int, fIsi_str_bool, fIsi_str_tuple, fIsi_str_str, fIsi_str_list, fIsi_tup_int, fIsi_tup_bool, fIsi_tup_tuple, fIsi_tup_str, fIsi_tup_list, fIsi_lst_int, fIsi_lst_bool, fIsi_lst_tuple, fIsi_lst_str, fIsi_lst_list, fLen_lst, fLen_tup, fAbs, ↓D3.call3_k, ↓D3.kont_app, ↓D3.isN3.eq_1, ↓D3.notN3.eq_1, dIsN_non, dIsN_int, dIsN_bl, dIsN_str, dIsN_tup, dIsN_lst, ↓D3.slc3.eq_1, ↓D3.part3.eq_1, ↓D3.noPart3.eq_1, ↓D3.ilst3.eq_1, ↓D3.itup3.eq_1, ↓D3.irng1.eq_1, ↓D3.irng2.eq_1, ↓D3.for3.eq_1, fCat, fEq_int, fNe_int, fEq_bl, fNe_bl, fEq_pair, fNe_pair, List.map, List.replicate, List.length_cons, List.length_nil, List.set_cons_zero, List.set_cons_succ, List.getElem?_cons_zero, List.getElem?_cons_succ, List.cons_append, List.nil_append, at_0, at_1, at_2, at_3, at_4, at_5, at_6, ix_0, ix_1, ix_2, put_same, put_put, decide_eq_true_eq, Bool.not_eq_true', decide_eq_false_iff_not, ite_not, ite_true, ite_false, if_true, if_false, Bool.false_eq_true, ↓reduceIte, reduceIte, Nat.reduceAdd, Nat.reduceSub, Int.reduceToNat, Nat.reduceLeDiff, not_false_eq_true, true_and, and_true, ne_eq, Int.reduceEq, Nat.zero_add, Bool.not_true, Bool.not_false, reduceCtorEq, nc0, nc1, nc2, nc3, nc4, nc5, fIx_ref put_same, fLen_ref put_same, ↓D3.lc3.eq_1, fInt, fTuple, fList, fNeS_s, fEqS_s, ↓D3.gstar3.eq_1, fInK_s, fNinK_s, fLenS_s, ↓D3.slcT3.eq_1, fCatT_t, dnew3]))
        refine ite2 (fun h7 => ?_) (fun h7 => ?_)
        · rw [if_pos (show h = "limit" from h7)] at q
          match r, pr, q with
          | [], pr, q => ((refine laterP_in ?_; repeat ((first | with_reducible refine laterP_i ?_ | with_reducible refine later_i ?_); try simp -implicitDefEqProofs -dsimp only [↓D3.seq3_stop, ↓D3.ifS3.eq_1, ↓D3.b3.eq_1, ↓D3.op3.eq_1, ↓D3.un3.eq_1, ↓D3.v3.eq_1, ↓D3.c3.eq_1, fIx_tup, fIx_lst, at3_0, at3_1, at3_2, at3_3, at3_4, at3_5, at3_6, start3, fI0_i, fI_i, fLt, fLe, fGt, fGe, fEqI, fNeI, fMin, fMax, ↓D3.asg3.eq_1, ↓D3.name3.eq_1, ↓D3.sub3.eq_1, ↓D3.ret3.eq_1, ↓D3.retN3.eq_1, ↓D3.nx3.eq_1, ↓D3.drop3.eq_1, ↓D3.par3.eq_1, ↓D3.aug3.eq_1, ↓D3.and3.eq_1, ↓D3.or3.eq_1, ↓D3.not3.eq_1, ↓D3.andV3.eq_1, ↓D3.orV3.eq_1, ↓D3.notV3.eq_1, ↓D3.if3.eq_1, ↓D3.nil3.eq_1, ↓D3.cons3.eq_1, ↓D3.tup3.eq_1, ↓D3.lst3.eq_1, ↓D3.lstM3.eq_1, ↓D3.gtup3.eq_1, ↓D3.gcons3.eq_1, ↓D3.gnil3.eq_1, ↓D3.gunl3.eq_1, ↓D3.bits3.eq_1, ↓D3.neg3.eq_1, ↓D3.chain3.eq_1, fIsi_int_int, fIsi_int_bool, fIsi_int_tuple, fIsi_int_str, fIsi_int_list, fIsi_bl_int, fIsi_bl_bool, fIsi_bl_tuple, fIsi_bl_str, fIsi_bl_list, fIsi_non_int, fIsi_non_bool, fIsi_non_tuple, fIsi_non_str, fIsi_non_list, fIsi_str_int, fIsi_str_bool, fIsi_str_tuple, fIsi_str_str, fIsi_str_list, fIsi_tup_int, fIsi_tup_bool, fIsi_tup_tuple, fIsi_tup_str, fIsi_tup_list, fIsi_lst_int, fIsi_lst_bool, fIsi_lst_tuple, fIsi_lst_str, fIsi_lst_list, fLen_lst, fLen_tup, fAbs, ↓D3.call3_k, ↓D3.kont_app, ↓D3.isN3.eq_1, ↓D3.notN3.eq_1, dIsN_non, dIsN_int, dIsN_bl, dIsN_str, dIsN_tup, dIsN_lst, ↓D3.slc3.eq_1, ↓D3.part3.eq_1, ↓D3.noPart3.eq_1, ↓D3.ilst3.eq_1, ↓D3.itup3.eq_1, ↓D3.irng1.eq_1, ↓D3.irng2.eq_1, ↓D3.for3.eq_1, fCat, fEq_int, fNe_int, fEq_bl, fNe_bl, fEq_pair, fNe_pair, List.map, List.replicate, List.length_cons, List.length_nil, List.set_cons_zero, List.set_cons_succ, List.getElem?_cons_zero, List.getElem?_cons_succ, List.cons_append, List.nil_append, at_0, at_1, at_2, at_3, at_4, at_5, at_6, ix_0, ix_1, ix_2, put_same, put_put, decide_eq_true_eq, Bool.not_eq_true', decide_eq_false_iff_not, ite_not, ite_true, ite_false, if_true, if_false, Bool.false_eq_true, ↓reduceIte, reduceIte, Nat.reduceAdd, Nat.reduceSub, Int.reduceToNat, Nat.reduceLeDiff, not_false_eq_true, true_and, and_true, ne_eq, Int.reduceEq, Nat.zero_add, Bool.not_true, Bool.not_false, reduceCtorEq, nc0, nc1, nc2, nc3, nc4, nc5, fIx_ref put_same, fLen_ref put_same, ↓D3.lc3.eq_1, fInt, fTuple, fList, fNeS_s, fEqS_s, ↓D3.gstar3.eq_1, fInK_s, fNinK_s, fLenS_s, ↓D3.slcT3.eq_1, fCatT_t, dnew3]))); exact q
          | [x], pr, q => ((refine laterP_in ?_; repeat ((first | with_reducible refine laterP_i ?_ | with_reducible refine later_i ?_); try simp -implicitDefEqProofs -dsimp only [↓D3.seq3_stop, ↓D3.ifS3.eq_1, ↓D3.b3.eq_1, ↓D3.op3.eq_1, ↓D3.un3.eq_1, ↓D3.v3.eq_1, ↓D3.c3.eq_1, fIx_tup, fIx_lst, at3_0, at3_1, at3_2, at3_3, at3_4, at3_5, at3_6, start3, fI0_i, fI_i, fLt, fLe, fGt, fGe, fEqI, fNeI, fMin, fMax, ↓D3.asg3.eq_1, ↓D3.name3.eq_1, ↓D3.sub3.eq_1, ↓D3.ret3.eq_1, ↓D3.retN3.eq_1, ↓D3.nx3.eq_1, ↓D3.drop3.eq_1, ↓D3.par3.eq_1, ↓D3.aug3.eq_1, ↓D3.and3.eq_1, ↓D3.or3.eq_1, ↓D3.not3.eq_1, ↓D3.andV3.eq_1, ↓D3.orV3.eq_1, ↓D3.notV3.eq_1, ↓D3.if3.eq_1, ↓D3.nil3.eq_1, ↓D3.cons3.eq_1, ↓D3.tup3.eq_1, ↓D3.lst3.eq_1, ↓D3.lstM3.eq_1, ↓D3.gtup3.eq_1, ↓D3.gcons3.eq_1, ↓D3.gnil3.eq_1, ↓D3.gunl3.eq_1, ↓D3.bits3.eq_1, ↓D3.neg3.eq_1, ↓D3.chain3.eq_1, fIsi_int_int, fIsi_int_bool, fIsi_int_tuple, fIsi_int_str, fIsi_int_list, fIsi_bl_int, fIsi_bl_bool, fIsi_bl_tuple, fIsi_bl_str, fIsi_bl_list, fIsi_non_int, fIsi_non_bool, fIsi_non_tuple, fIsi_non_str, fIsi_non_list, fIsi_str_int, fIsi_str_bool, fIsi_str_tuple, fIsi_str_str, fIsi_str_list, fIsi_tup_int, fIsi_tup_bool, fIsi_tup_tuple, fIsi_tup_str, fIsi_tup_list, fIsi_lst_int, fIsi_lst_bool, fIsi_lst_tuple, fIsi_lst_str, fIsi_lst_list, fLen_lst, fLen_tup, fAbs, ↓D3.call3_k, ↓D3.kont_app, ↓D3.isN3.eq_1, ↓D3.notN3.eq_1, dIsN_non, dIsN_int, dIsN_bl, dIsN_str, dIsN_tup, dIsN_lst, ↓D3.slc3.eq_1, ↓D3.part3.eq_1, ↓D3.noPart3.eq_1, ↓D3.ilst3.eq_1, ↓D3.itup3.eq_1, ↓D3.irng1.eq_1, ↓D3.irng2.eq_1, ↓D3.for3.eq_1, fCat, fEq_int, fNe_int, fEq_bl, fNe_bl, fEq_pair, fNe_pair, List.map, List.replicate, List.length_cons, List.length_nil, List.set_cons_zero, List.set_cons_succ, List.getElem?_cons_zero, List.getElem?_cons_succ, List.cons_append, List.nil_append, at_0, at_1, at_2, at_3, at_4, at_5, at_6, ix_0, ix_1, ix_2, put_same, put_put, decide_eq_true_eq, Bool.not_eq_true', decide_eq_false_iff_not, ite_not, ite_true, ite_false, if_true, if_false, Bool.false_eq_true, ↓reduceIte, reduceIte, Nat.reduceAdd, Nat.reduceSub, Int.reduceToNat, Nat.reduceLeDiff, not_false_eq_true, true_and, and_true, ne_eq, Int.reduceEq, Nat.zero_add, Bool.not_true, Bool.not_false, reduceCtorEq, nc0, nc1, nc2, nc3, nc4, nc5, fIx_ref put_same, fLen_ref put_same, ↓D3.lc3.eq_1, fInt, fTuple, fList, fNeS_s, fEqS_s, ↓D3.gstar3.eq_1, fInK_s, fNinK_s, fLenS_s, ↓D3.slcT3.eq_1, fCatT_t, dnew3]))); exact q
          | [x, y], pr, q => ((refine laterP_in ?_; repeat ((first | with_reducible refine laterP_i ?_ | with_reducible refine later_i ?_); try simp -implicitDefEqProofs -dsimp only [↓D3.seq3_stop, ↓D3.ifS3.eq_1, ↓D3.b3.eq_1, ↓D3.op3.eq_1, ↓D3.un3.eq_1, ↓D3.v3.eq_1, ↓D3.c3.eq_1, fIx_tup, fIx_lst, at3_0, at3_1, at3_2, at3_3, at3_4, at3_5, at3_6, start3, fI0_i, fI_i, fLt, fLe, fGt, fGe, fEqI, fNeI, fMin, fMax, ↓D3.asg3.eq_1, ↓D3.name3.eq_1, ↓D3.sub3.eq_1, ↓D3.ret3.eq_1, ↓D3.retN3.eq_1, ↓D3.nx3.eq_1, ↓D3.drop3.eq_1, ↓D3.par3.eq_1, ↓D3.aug3.eq_1, ↓D3.and3.eq_1, ↓D3.or3.eq_1, ↓D3.not3.eq_1, ↓D3.andV3.eq_1, ↓D3.orV3.eq_1, ↓D3.notV3.eq_1, ↓D3.if3.eq_1, ↓D3.nil3.eq_1, ↓D3.cons3.eq_1, ↓D3.tup3.eq_1, ↓D3.lst3.eq_1, ↓D3.lstM3.eq_1, ↓D3.gtup3.eq_1, ↓D3.gcons3.eq_1, ↓D3.gnil3.eq_1, ↓D3.gunl3.eq_1, ↓D3.bits3.eq_1, ↓D3.neg3.eq_1, ↓D3.chain3.eq_1, fIsi_int_int, fIsi_int_bool, fIsi_int_tuple, fIsi_int_str, fIsi_int_list, fIsi_bl_int, fIsi_bl_bool, fIsi_bl_tuple, fIsi_bl_str, fIsi_bl_list, fIsi_non_int, fIsi_non_bool, fIsi_non_tuple, fIsi_non_str, fIsi_non_list, fIsi_str_int, fIsi_str_bool, fIsi_str_tuple, fIsi_str_str, fIsi_str_list, fIsi_tup_int, fIsi_tup_bool, fIsi_tup_tuple, fIsi_tup_str, fIsi_tup_list, fIsi_lst_int, fIsi_lst_bool, fIsi_lst_tuple, fIsi_lst_str, fIsi_lst_list, fLen_lst, fLen_tup, fAbs, ↓D3.call3_k, ↓D3.kont_app, ↓D3.isN3.eq_1, ↓D3.notN3.eq_1, dIsN_non, dIsN_int, dIsN_bl, dIsN_str, dIsN_tup, dIsN_lst, ↓D3.slc3.eq_1, ↓D3.part3.eq_1, ↓D3.noPart3.eq_1, ↓D3.ilst3.eq_1, ↓D3.itup3.eq_1, ↓D3.irng1.eq_1, ↓D3.irng2.eq_1, ↓D3.for3.eq_1, fCat, fEq_int, fNe_int, fEq_bl, fNe_bl, fEq_pair, fNe_pair, List.map, List.replicate, List.length_cons, List.length_nil, List.set_cons_zero, List.set_cons_succ, List.getElem?_cons_zero, List.getElem?_cons_succ, List.cons_append, List.nil_append, at_0, at_1, at_2, at_3, at_4, at_5, at_6, ix_0, ix_1, ix_2, put_same, put_put, decide_eq_true_eq, Bool.not_eq_true', decide_eq_false_iff_not, ite_not, ite_true, ite_false, if_true, if_false, Bool.false_eq_true, ↓reduceIte, reduceIte, Nat.reduceAdd, Nat.reduceSub, Int.reduceToNat, Nat.reduceLeDiff, not_false_eq_true, true_and, and_true, ne_eq, Int.reduceEq, Nat.zero_add, Bool.not_true, Bool.not_false, reduceCtorEq, nc0, nc1, nc2, nc3, nc4, nc5, fIx_ref put_same, fLen_ref put_same, ↓D3.lc3.eq_1, fInt, fTuple, fList, fNeS_s, fEqS_s, ↓D3.gstar3.eq_1, fInK_s, fNinK_s, fLenS_s, ↓D3.slcT3.eq_1, fCatT_t, dnew3]))); exact q
          | [x, y, z], pr, q => ((refine laterP_in ?_; repeat ((first | with_reducible refine laterP_i ?_ | with_reducible refine later_i ?_); try simp -implicitDefEqProofs -dsimp only [↓D3.seq3_stop, ↓D3.ifS3.eq_1, ↓D3.b3.eq_1, ↓D3.op3.eq_1, ↓D3.un3.eq_1, ↓D3.v3.eq_1, ↓D3.c3.eq_1, fIx_tup, fIx_lst, at3_0, at3_1, at3_2, at3_3, at3_4, at3_5, at3_6, start3, fI0_i, fI_i, fLt, fLe, fGt, fGe, fEqI, fNeI, fMin, fMax, ↓D3.asg3.eq_1, ↓D3.name3.eq_1, ↓D3.sub3.eq_1, ↓D3.ret3.eq_1, ↓D3.retN3.eq_1, ↓D3.nx3.eq_1, ↓D3.drop3.eq_1, ↓D3.par3.eq_1, ↓D3.aug3.eq_1, ↓D3.and3.eq_1, ↓D3.or3.eq_1, ↓D3.not3.eq_1, ↓D3.andV3.eq_1, ↓D3.orV3.eq_1, ↓D3.notV3.eq_1, ↓D3.if3.eq_1, ↓D3.nil3.eq_1, ↓D3.cons3.eq_1, ↓D3.tup3.eq_1, ↓D3.lst3.eq_1, ↓D3.lstM3.eq_1, ↓D3.gtup3.eq_1, ↓D3.gcons3.eq_1, ↓D3.gnil3.eq_1, ↓D3.gunl3.eq_1, ↓D3.bits3.eq_1, ↓D3.neg3.eq_1, ↓D3.chain3.eq_1, fIsi_int_int, fIsi_int_bool, fIsi_int_tuple, fIsi_int_str, fIsi_int_list, fIsi_bl_int, fIsi_bl_bool, fIsi_bl_tuple, fIsi_bl_str, fIsi_bl_list, fIsi_non_int, fIsi_non_bool, fIsi_non_tuple, fIsi_non_str, fIsi_non_list, fIsi_str_int, fIsi_str_bool, fIsi_str_tuple, fIsi_str_str, fIsi_str_list, fIsi_tup_int, fIsi_tup_bool, fIsi_tup_tuple, fIsi_tup_str, fIsi_tup_list, fIsi_lst_int, fIsi_lst_bool, fIsi_lst_tuple, fIsi_lst_str, fIsi_lst_list, fLen_lst, fLen_tup, fAbs, ↓D3.call3_k, ↓D3.kont_app, ↓D3.isN3.eq_1, ↓D3.notN3.eq_1, dIsN_non, dIsN_int, dIsN_bl, dIsN_str, dIsN_tup, dIsN_lst, ↓D3.slc3.eq_1, ↓D3.part3.eq_1, ↓D3.noPart3.eq_1, ↓D3.ilst3.eq_1, ↓D3.itup3.eq_1, ↓D3.irng1.eq_1, ↓D3.irng2.eq_1, ↓D3.for3.eq_1, fCat, fEq_int, fNe_int, fEq_bl, fNe_bl, fEq_pair, fNe_pair, List.map, List.replicate, List.length_cons, List.length_nil, List.set_cons_zero, List.set_cons_succ, List.getElem?_cons_zero, List.getElem?_cons_succ, List.cons_append, List.nil_append, at_0, at_1, at_2, at_3, at_4, at_5, at_6, ix_0, ix_1, ix_2, put_same, put_put, decide_eq_true_eq, Bool.not_eq_true', decide_eq_false_iff_not, ite_not, ite_true, ite_false, if_true, if_false, Bool.false_eq_true, ↓reduceIte, reduceIte, Nat.reduceAdd, Nat.reduceSub, Int.reduceToNat, Nat.reduceLeDiff, not_false_eq_true, true_and, and_true, ne_eq, Int.reduceEq, Nat.zero_add, Bool.not_true, Bool.not_false, reduceCtorEq, nc0, nc1, nc2, nc3, nc4, nc5, fIx_ref put_same, fLen_ref put_same, ↓D3.lc3.eq_1, fInt, fTuple, fList, fNeS_s, fEqS_s, ↓D3.gstar3.eq_1, fInK_s, fNinK_s, fLenS_s, ↓D3.slcT3.eq_1, fCatT_t, dnew3]))); exact q
          | x :: y :: z :: u :: v :: r, pr, q =>
            (refine laterP_in ?_; repeat ((first | with_reducible refine laterP_i ?_ | with_reducible refine later_i ?_); try simp -implicitDefEqProofs -dsimp only [↓D3.seq3_stop, ↓D3.ifS3.eq_1, ↓D3.b3.eq_1, ↓D3.op3.eq_1, ↓D3.un3.eq_1, ↓D3.v3.eq_1, ↓D3.c3.eq_1, fIx_tup, fIx_lst, at3_0, at3_1, at3_2, at3_3, at3_4, at3_5, at3_6, start3, fI0_i, fI_i, fLt, fLe, fGt, fGe, fEqI, fNeI, fMin, fMax, ↓D3.asg3.eq_1, ↓D3.name3.eq_1, ↓D3.sub3.eq_1, ↓D3.ret3.eq_1, ↓D3.retN3.eq_1, ↓D3.nx3.eq_1, ↓D3.drop3.eq_1, ↓D3.par3.eq_1, ↓D3.aug3.eq_1, ↓D3.and3.eq_1, ↓D3.or3.eq_1, ↓D3.not3.eq_1, ↓D3.andV3.eq_1, ↓D3.orV3.eq_1, ↓D3.notV3.eq_1, ↓D3.if3.eq_1, ↓D3.nil3.eq_1, ↓D3.cons3.eq_1, ↓D3.tup3.eq_1, ↓D3.lst3.eq_1, ↓D3.lstM3.eq_1, ↓D3.gtup3.eq_1, ↓D3.gcons3.eq_1, ↓D3.gnil3.eq_1, ↓D3.gunl3.eq_1, ↓D3.bits3.eq_1, ↓D3.neg3.eq_1, ↓D3.chain3.eq_1, fIsi_int_int, fIsi_int_bool, fIsi_int_tuple, fIsi_int_str, fIsi_int_list, fIsi_bl_int, fIsi_bl_bool, fIsi_bl_tuple, fIsi_bl_str, fIsi_bl_list, fIsi_non_int, fIsi_non_bool, fIsi_non_tuple, fIsi_non_str, fIsi_non_list, fIsi_str_int, fIsi_str_bool, fIsi_str_tuple, fIsi_str_str, fIsi_str_list, fIsi_tup_int, fIsi_tup_bool, fIsi_tup_tuple, fIsi_tup_str, fIsi_tup_list, fIsi_lst_int, fIsi_lst_bool, fIsi_lst_tuple, fIsi_lst_str, fIsi_lst_list, fLen_lst, fLen_tup, fAbs, ↓D3.call3_k, ↓D3.kont_app, ↓D3.isN3.eq_1, ↓D3.notN3.eq_1, dIsN_non, dIsN_int, dIsN_bl, dIsN_str, dIsN_tup, dIsN_lst, ↓D3.slc3.eq_1, ↓D3.part3.eq_1, ↓D3.noPart3.eq_1, ↓D3.ilst3.eq_1, ↓D3.itup3.eq_1, ↓D3.irng1.eq_1, ↓D3.irng2.eq_1, ↓D3.for3.eq_1, fCat, fEq_int, fNe_int, fEq_bl, fNe_bl, fEq_pair, fNe_pair, List.map, List.replicate, List.length_cons, List.length_nil, List.set_cons_zero, List.set_cons_succ, List.getElem?_cons_zero, List.getElem?_cons_succ, List.cons_append, List.nil_append, at_0, at_1, at_2, at_3, at_4, at_5, at_6, ix_0, ix_1, ix_2, put_same, put_put, decide_eq_true_eq, Bool.not_eq_true', decide_eq_false_iff_not, ite_not, ite_true, ite_false, if_true, if_false, Bool.false_eq_true, ↓reduceIte, reduceIte, Nat.reduceAdd, Nat.reduceSub, Int.reduceToNat, Nat.reduceLeDiff, not_false_eq_true, true_and, and_true, ne_eq, Int.reduceEq, Nat.zero_add, Bool.not_true, Bool.not_false, reduceCtorEq, nc0, nc1, nc2, nc3, nc4, nc5, fIx_ref put_same, fLen_ref put_same, ↓D3.lc3.eq_1, fInt, fTuple, fList, fNeS_s, fEqS_s, ↓D3.gstar3.eq_1, fInK_s, fNinK_s, fLenS_s, ↓D3.slcT3.eq_1, fCatT_t, dnew3]))
            exact ite2 (fun b => absurd b (by omega)) (fun b => q)
          | [x, y, z, u], pr, q =>
            (refine laterP_in ?_; repeat ((first | with_reducible refine laterP_i ?_ | with_reducible refine later_i ?_); try simp -implicitDefEqProofs -dsimp only [↓D3.seq3_stop, ↓D3.ifS3.eq_1, ↓D3.b3.eq_1, ↓D3.op3.eq_1, ↓D3.un3.eq_1, ↓D3.v3.eq_1, ↓D3.c3.eq_1, fIx_tup, fIx_lst, at3_0, at3_1, at3_2, at3_3, at3_4, at3_5, at3_6, start3, fI0_i, fI_i, fLt, fLe, fGt, fGe, fEqI, fNeI, fMin, fMax, ↓D3.asg3.eq_1, ↓D3.name3.eq_1, ↓D3.sub3.eq_1, ↓D3.ret3.eq_1, ↓D3.retN3.eq_1, ↓D3.nx3.eq_1, ↓D3.drop3.eq_1, ↓D3.par3.eq_1, ↓D3.aug3.eq_1, ↓D3.and3.eq_1, ↓D3.or3.eq_1, ↓D3.not3.eq_1, ↓D3.andV3.eq_1, ↓D3.orV3.eq_1, ↓D3.notV3.eq_1, ↓D3.if3.eq_1, ↓D3.nil3.eq_1, ↓D3.cons3.eq_1, ↓D3.tup3.eq_1, ↓D3.lst3.eq_1, ↓D3.lstM3.eq_1, ↓D3.gtup3.eq_1, ↓D3.gcons3.eq_1, ↓D3.gnil3.eq_1, ↓D3.gunl3.eq_1, ↓D3.bits3.eq_1, ↓D3.neg3.eq_1, ↓D3.chain3.eq_1, fIsi_int_int, fIsi_int_bool, fIsi_int_tuple, fIsi_int_str, fIsi_int_list, fIsi_bl_int, fIsi_bl_bool, fIsi_bl_tuple, fIsi_bl_str, fIsi_bl_list, fIsi_non_int, fIsi_non_bool, fIsi_non_tuple, fIsi_non_str, fIsi_non_list, fIsi_str_int, fIsi_str_bool, fIsi_str_tuple, fIsi_str_str, fIsi_str_list, fIsi_tup_int, fIsi_tup_bool, fIsi_tup_tuple, fIsi_tup_str, fIsi_tup_list, fIsi_lst_int, fIsi_lst_bool, fIsi_lst_tuple, fIsi_lst_str, fIsi_lst_list, fLen_lst, fLen_tup, fAbs, ↓D3.call3_k, ↓D3.kont_app, ↓D3.isN3.eq_1, ↓D3.notN3.eq_1, dIsN_non, dIsN_int, dIsN_bl, dIsN_str, dIsN_tup, dIsN_lst, ↓D3.slc3.eq_1, ↓D3.part3.eq_1, ↓D3.noPart3.eq_1, ↓D3.ilst3.eq_1, ↓D3.itup3.eq_1, ↓D3.irng1.eq_1, ↓D3.irng2.eq_1, ↓D3.for3.eq_1, fCat, fEq_int, fNe_int, fEq_bl, fNe_bl, fEq_pair, fNe_pair, List.map, List.replicate, List.length_cons, List.length_nil, List.set_cons_zero, List.set_cons_succ, List.getElem?_cons_zero, List.getElem?_cons_succ, List.cons_append, List.nil_append, at_0, at_1, at_2, at_3, at_4, at_5, at_6, ix_0, ix_1, ix_2, put_same, put_put, decide_eq_true_eq, Bool.not_eq_true', decide_eq_false_iff_not, ite_not, ite_true, ite_false, if_true, if_false, Bool.false_eq_true, ↓reduceIte, reduceIte, Nat.reduceAdd, Nat.reduceSub, Int.reduceToNat, Nat.reduceLeDiff, not_false_eq_true, true_and, and_true, ne_eq, Int.reduceEq, Nat.zero_add, Bool.not_true, Bool.not_false, reduceCtorEq, nc0, nc1, nc2, nc3, nc4, nc5, fIx_ref put_same, fLen_ref put_same, ↓D3.lc3.eq_1, fInt, fTuple, fList, fNeS_s, fEqS_s, ↓D3.gstar3.eq_1, fInK_s, fNinK_s, fLenS_s, ↓D3.slcT3.eq_1, fCatT_t, dnew3]))
            refine ⟨x, 900, rfl, pr.1, by decide, ?_⟩
            (refine laterP_in ?_; repeat ((first | with_reducible refine laterP_i ?_ | with_reducible refine later_i ?_); try simp -implicitDefEqProofs -dsimp only [↓D3.seq3_stop, ↓D3.ifS3.eq_1, ↓D3.b3.eq_1, ↓D3.op3.eq_1, ↓D3.un3.eq_1, ↓D3.v3.eq_1, ↓D3.c3.eq_1, fIx_tup, fIx_lst, at3_0, at3_1, at3_2, at3_3, at3_4, at3_5, at3_6, start3, fI0_i, fI_i, fLt, fLe, fGt, fGe, fEqI, fNeI, fMin, fMax, ↓D3.asg3.eq_1, ↓D3.name3.eq_1, ↓D3.sub3.eq_1, ↓D3.ret3.eq_1, ↓D3.retN3.eq_1, ↓D3.nx3.eq_1, ↓D3.drop3.eq_1, ↓D3.par3.eq_1, ↓D3.aug3.eq_1, ↓D3.and3.eq_1, ↓D3.or3.eq_1, ↓D3.not3.eq_1, ↓D3.andV3.eq_1, ↓D3.orV3.eq_1, ↓D3.notV3.eq_1, ↓D3.if3.eq_1, ↓D3.nil3.eq_1, ↓D3.cons3.eq_1, ↓D3.tup3.eq_1, ↓D3.lst3.eq_1, ↓D3.lstM3.eq_1, ↓D3.gtup3.eq_1, ↓D3.gcons3.eq_1, ↓D3.gnil3.eq_1, ↓D3.gunl3.eq_1, ↓D3.bits3.eq_1, ↓D3.neg3.eq_1, ↓D3.chain3.eq_1, fIsi_int_int, fIsi_int_bool, fIsi_int_tuple, fIsi_int_str, fIsi_int_list, fIsi_bl_int, fIsi_bl_bool, fIsi_bl_tuple, fIsi_bl_str, fIsi_bl_list, fIsi_non_int, fIsi_non_bool, fIsi_non_tuple, fIsi_non_str, fIsi_non_list, fIsi_str_int, fIsi_str_bool, fIsi_str_tuple, fIsi_str_str, fIsi_str_list, fIsi_tup_int, fIsi_tup_bool, fIsi_tup_tuple, fIsi_tup_str, fIsi_tup_list, fIsi_lst_int, fIsi_lst_bool, fIsi_lst_tuple, fIsi_lst_str, fIsi_lst_list, fLen_lst, fLen_tup, fAbs, ↓D3.call3_k, ↓D3.kont_app, ↓D3.isN3.eq_1, ↓D3.notN3.eq_1, dIsN_non, dIsN_int, dIsN_bl, dIsN_str, dIsN_tup, dIsN_lst, ↓D3.slc3.eq_1, ↓D3.part3.eq_1, ↓D3.noPart3.eq_1, ↓D3.ilst3.eq_1, ↓D3.itup3.eq_1, ↓D3.irng1.eq_1, ↓D3.irng2.eq_1, ↓D3.for3.eq_1, fCat, fEq_int, fNe_int, fEq_bl, fNe_bl, fEq_pair, fNe_pair, List.map, List.replicate, List.length_cons, List.length_nil, List.set_cons_zero, List.set_cons_succ, List.getElem?_cons_zero, List.getElem?_cons_succ, List.cons_append, List.nil_append, at_0, at_1, at_2, at_3, at_4, at_5, at_6, ix_0, ix_1, ix_2, put_same, put_put, decide_eq_true_eq, Bool.not_eq_true', decide_eq_false_iff_not, ite_not, ite_true, ite_false, if_true, if_false, Bool.false_eq_true, ↓reduceIte, reduceIte, Nat.reduceAdd, Nat.reduceSub, Int.reduceToNat, Nat.reduceLeDiff, not_false_eq_true, true_and, and_true, ne_eq, Int.reduceEq, Nat.zero_add, Bool.not_true, Bool.not_false, reduceCtorEq, nc0, nc1, nc2, nc3, nc4, nc5, fIx_ref put_same, fLen_ref put_same, ↓D3.lc3.eq_1, fInt, fTuple, fList, fNeS_s, fEqS_s, ↓D3.gstar3.eq_1, fInK_s, fNinK_s, fLenS_s, ↓D3.slcT3.eq_1, fCatT_t, dnew3]))
            refine iteB (fun b1 => ?_) (fun b1 => ?_)
            · refine ⟨y, 900, rfl, pr.2.1, ?_⟩
              (refine laterP_in ?_; repeat ((first | with_reducible refine laterP_i ?_ | with_reducible refine later_i ?_); try simp -implicitDefEqProofs -dsimp only [↓D3.seq3_stop, ↓D3.ifS3.eq_1, ↓D3.b3.eq_1, ↓D3.op3.eq_1, ↓D3.un3.eq_1, ↓D3.v3.eq_1, ↓D3.c3.eq_1, fIx_tup, fIx_lst, at3_0, at3_1, at3_2, at3_3, at3_4, at3_5, at3_6, start3, fI0_i, fI_i, fLt, fLe, fGt, fGe, fEqI, fNeI, fMin, fMax, ↓D3.asg3.eq_1, ↓D3.name3.eq_1, ↓D3.sub3.eq_1, ↓D3.ret3.eq_1, ↓D3.retN3.eq_1, ↓D3.nx3.eq_1, ↓D3.drop3.eq_1, ↓D3.par3.eq_1, ↓D3.aug3.eq_1, ↓D3.and3.eq_1, ↓D3.or3.eq_1, ↓D3.not3.eq_1, ↓D3.andV3.eq_1, ↓D3.orV3.eq_1, ↓D3.notV3.eq_1, ↓D3.if3.eq_1, ↓D3.nil3.eq_1, ↓D3.cons3.eq_1, ↓D3.tup3.eq_1, ↓D3.lst3.eq_1, ↓D3.lstM3.eq_1, ↓D3.gtup3.eq_1, ↓D3.gcons3.eq_1, ↓D3.gnil3.eq_1, ↓D3.gunl3.eq_1, ↓D3.bits3.eq_1, ↓D3.neg3.eq_1, ↓D3.chain3.eq_1, fIsi_int_int, fIsi_int_bool, fIsi_int_tuple, fIsi_int_str, fIsi_int_list, fIsi_bl_int, fIsi_bl_bool, fIsi_bl_tuple, fIsi_bl_str, fIsi_bl_list, fIsi_non_int, fIsi_non_bool, fIsi_non_tuple, fIsi_non_str, fIsi_non_list, fIsi_str_int, fIsi_str_bool, fIsi_str_tuple, fIsi_str_str, fIsi_str_list, fIsi_tup_int, fIsi_tup_bool, fIsi_tup_tuple, fIsi_tup_str, fIsi_tup_list, fIsi_lst_int, fIsi_lst_bool, fIsi_lst_tuple, fIsi_lst_str, fIsi_lst_list, fLen_lst, fLen_tup, fAbs, ↓D3.call3_k, ↓D3.kont_app, ↓D3.isN3.eq_1, ↓D3.notN3.eq_1, dIsN_non, dIsN_int, dIsN_bl, dIsN_str, dIsN_tup, dIsN_lst, ↓D3.slc3.eq_1, ↓D3.part3.eq_1, ↓D3.noPart3.eq_1, ↓D3.ilst3.eq_1, ↓D3.itup3.eq_1, ↓D3.irng1.eq_1, ↓D3.irng2.eq_1, ↓D3.for3.eq_1, fCat, fEq_int, fNe_int, fEq_bl, fNe_bl, fEq_pair, fNe_pair, List.map, List.replicate, List.length_cons, List.length_nil, List.set_cons_zero, List.set_cons_succ, List.getElem?_cons_zero, List.getElem?_cons_succ, List.cons_append, List.nil_append, at_0, at_1, at_2, at_3, at_4, at_5, at_6, ix_0, ix_1, ix_2, put_same, put_put, decide_eq_true_eq, Bool.not_eq_true', decide_eq_false_iff_not, ite_not, ite_true, ite_false, if_true, if_false, Bool.false_eq_true, ↓reduceIte, reduceIte, Nat.reduceAdd, Nat.reduceSub, Int.reduceToNat, Nat.reduceLeDiff, not_false_eq_true, true_and, and_true, ne_eq, Int.reduceEq, Nat.zero_add, Bool.not_true, Bool.not_false, reduceCtorEq, nc0, nc1, nc2, nc3, nc4, nc5, fIx_ref put_same, fLen_ref put_same, ↓D3.lc3.eq_1, fInt, fTuple, fList, fNeS_s, fEqS_s, ↓D3.gstar3.eq_1, fInK_s, fNinK_s, fLenS_s, ↓D3.slcT3.eq_1, fCatT_t, dnew3]))
              refine iteB (fun b2 => ?_) (fun b2 => ?_)
              · refine ⟨z, 900, rfl, pr.2.2.1, ?_⟩
                (refine laterP_in ?_; repeat ((first | with_reducible refine laterP_i ?_ | with_reducible refine later_i ?_); try simp -implicitDefEqProofs -dsimp only [↓D3.seq3_stop, ↓D3.ifS3.eq_1, ↓D3.b3.eq_1, ↓D3.op3.eq_1, ↓D3.un3.eq_1, ↓D3.v3.eq_1, ↓D3.c3.eq_1, fIx_tup, fIx_lst, at3_0, at3_1, at3_2, at3_3, at3_4, at3_5, at3_6, start3, fI0_i, fI_i, fLt, fLe, fGt, fGe, fEqI, fNeI, fMin, fMax, ↓D3.asg3.eq_1, ↓D3.name3.eq_1, ↓D3.sub3.eq_1, ↓D3.ret3.eq_1, ↓D3.retN3.eq_1, ↓D3.nx3.eq_1, ↓D3.drop3.eq_1, ↓D3.par3.eq_1, ↓D3.aug3.eq_1, ↓D3.and3.eq_1, ↓D3.or3.eq_1, ↓D3.not3.eq_1, ↓D3.andV3.eq_1, ↓D3.orV3.eq_1, ↓D3.notV3.eq_1, ↓D3.if3.eq_1, ↓D3.nil3.eq_1, ↓D3.cons3.eq_1, ↓D3.tup3.eq_1, ↓D3.lst3.eq_1, ↓D3.lstM3.eq_1, ↓D3.gtup3.eq_1, ↓D3.gcons3.eq_1, ↓D3.gnil3.eq_1, ↓D3.gunl3.eq_1, ↓D3.bits3.eq_1, ↓D3.neg3.eq_1, ↓D3.chain3.eq_1, fIsi_int_int, fIsi_int_bool, fIsi_int_tuple, fIsi_int_str, fIsi_int_list, fIsi_bl_int, fIsi_bl_bool, fIsi_bl_tuple, fIsi_bl_str, fIsi_bl_list, fIsi_non_int, fIsi_non_bool, fIsi_non_tuple, fIsi_non_str, fIsi_non_list, fIsi_str_int, fIsi_str_bool, fIsi_str_tuple, fIsi_str_str, fIsi_str_list, fIsi_tup_int, fIsi_tup_bool, fIsi_tup_tuple, fIsi_tup_str, fIsi_tup_list, fIsi_lst_int, fIsi_lst_bool, fIsi_lst_tuple, fIsi_lst_str, fIsi_lst_list, fLen_lst, fLen_tup, fAbs, ↓D3.call3_k, ↓D3.kont_app, ↓D3.isN3.eq_1, ↓D3.notN3.eq_1, dIsN_non, dIsN_int, dIsN_bl, dIsN_str, dIsN_tup, dIsN_lst, ↓D3.slc3.eq_1, ↓D3.part3.eq_1, ↓D3.noPart3.eq_1, ↓D3.ilst3.eq_1, ↓D3.itup3.eq_1, ↓D3.irng1.eq_1, ↓D3.irng2.eq_1, ↓D3.for3.eq_1, fCat, fEq_int, fNe_int, fEq_bl, fNe_bl, fEq_pair, fNe_pair, List.map, List.replicate, List.length_cons, List.length_nil, List.set_cons_zero, List.set_cons_succ, List.getElem?_cons_zero, List.getElem?_cons_succ, List.cons_append, List.nil_append, at_0, at_1, at_2, at_3, at_4, at_5, at_6, ix_0, ix_1, ix_2, put_same, put_put, decide_eq_true_eq, Bool.not_eq_true', decide_eq_false_iff_not, ite_not, ite_true, ite_false, if_true, if_false, Bool.false_eq_true, ↓reduceIte, reduceIte, Nat.reduceAdd, Nat.reduceSub, Int.reduceToNat, Nat.reduceLeDiff, not_false_eq_true, true_and, and_true, ne_eq, Int.reduceEq, Nat.zero_add, Bool.not_true, Bool.not_false, reduceCtorEq, nc0, nc1, nc2, nc3, nc4, nc5, fIx_ref put_same, fLen_ref put_same, ↓D3.lc3.eq_1, fInt, fTuple, fList, fNeS_s, fEqS_s, ↓D3.gstar3.eq_1, fInK_s, fNinK_s, fLenS_s, ↓D3.slcT3.eq_1, fCatT_t, dnew3]))
                refine iteB (fun b3 => ?_) (fun b3 => ?_)
                · obtain ⟨a, b, rfl, _, _⟩ := isFr_ex b2
                  obtain ⟨c, d, rfl, _, _⟩ := isFr_ex b3
                  have L := pr.2.1
                  have L2 := pr.2.2.1
                  refine ⟨a, b, c, d, rfl, lt_pow L.1 (by decide), lt_pow L.2.1 (by decide), lt_pow L2.1 (by decide), lt_pow L2.2.1 (by decide), ?_⟩
                  (refine laterP_in ?_; repeat ((first | with_reducible refine laterP_i ?_ | with_reducible refine later_i ?_); try simp -implicitDefEqProofs -dsimp only [↓D3.seq3_stop, ↓D3.ifS3.eq_1, ↓D3.b3.eq_1, ↓D3.op3.eq_1, ↓D3.un3.eq_1, ↓D3.v3.eq_1, ↓D3.c3.eq_1, fIx_tup, fIx_lst, at3_0, at3_1, at3_2, at3_3, at3_4, at3_5, at3_6, start3, fI0_i, fI_i, fLt, fLe, fGt, fGe, fEqI, fNeI, fMin, fMax, ↓D3.asg3.eq_1, ↓D3.name3.eq_1, ↓D3.sub3.eq_1, ↓D3.ret3.eq_1, ↓D3.retN3.eq_1, ↓D3.nx3.eq_1, ↓D3.drop3.eq_1, ↓D3.par3.eq_1, ↓D3.aug3.eq_1, ↓D3.and3.eq_1, ↓D3.or3.eq_1, ↓D3.not3.eq_1, ↓D3.andV3.eq_1, ↓D3.orV3.eq_1, ↓D3.notV3.eq_1, ↓D3.if3.eq_1, ↓D3.nil3.eq_1, ↓D3.cons3.eq_1, ↓D3.tup3.eq_1, ↓D3.lst3.eq_1, ↓D3.lstM3.eq_1, ↓D3.gtup3.eq_1, ↓D3.gcons3.eq_1, ↓D3.gnil3.eq_1, ↓D3.gunl3.eq_1, ↓D3.bits3.eq_1, ↓D3.neg3.eq_1, ↓D3.chain3.eq_1, fIsi_int_int, fIsi_int_bool, fIsi_int_tuple, fIsi_int_str, fIsi_int_list, fIsi_bl_int, fIsi_bl_bool, fIsi_bl_tuple, fIsi_bl_str, fIsi_bl_list, fIsi_non_int, fIsi_non_bool, fIsi_non_tuple, fIsi_non_str, fIsi_non_list, fIsi_str_int, fIsi_str_bool, fIsi_str_tuple, fIsi_str_str, fIsi_str_list, fIsi_tup_int, fIsi_tup_bool, fIsi_tup_tuple, fIsi_tup_str, fIsi_tup_list, fIsi_lst_int, fIsi_lst_bool, fIsi_lst_tuple, fIsi_lst_str, fIsi_lst_list, fLen_lst, fLen_tup, fAbs, ↓D3.call3_k, ↓D3.kont_app, ↓D3.isN3.eq_1, ↓D3.notN3.eq_1, dIsN_non, dIsN_int, dIsN_bl, dIsN_str, dIsN_tup, dIsN_lst, ↓D3.slc3.eq_1, ↓D3.part3.eq_1, ↓D3.noPart3.eq_1, ↓D3.ilst3.eq_1, ↓D3.itup3.eq_1, ↓D3.irng1.eq_1, ↓D3.irng2.eq_1, ↓D3.for3.eq_1, fCat, fEq_int, fNe_int, fEq_bl, fNe_bl, fEq_pair, fNe_pair, List.map, List.replicate, List.length_cons, List.length_nil, List.set_cons_zero, List.set_cons_succ, List.getElem?_cons_zero, List.getElem?_cons_succ, List.cons_append, List.nil_append, at_0, at_1, at_2, at_3, at_4, at_5, at_6, ix_0, ix_1, ix_2, put_same, put_put, decide_eq_true_eq, Bool.not_eq_true', decide_eq_false_iff_not, ite_not, ite_true, ite_false, if_true, if_false, Bool.false_eq_true, ↓reduceIte, reduceIte, Nat.reduceAdd, Nat.reduceSub, Int.reduceToNat, Nat.reduceLeDiff, not_false_eq_true, true_and, and_true, ne_eq, Int.reduceEq, Nat.zero_add, Bool.not_true, Bool.not_false, reduceCtorEq, nc0, nc1, nc2, nc3, nc4, nc5, fIx_ref put_same, fLen_ref put_same, ↓D3.lc3.eq_1, fInt, fTuple, fList, fNeS_s, fEqS_s, ↓D3.gstar3.eq_1, fInK_s, fNinK_s, fLenS_s, ↓D3.slcT3.eq_1, fCatT_t, dnew3]))
                  refine ite2 (fun b4 => ?_) (fun b4 => ?_)
                  · (simp [b1, b2, b3, frLt, b4] at q; exact q)
                  · (simp [b1, b2, b3, frLt, b4] at q; exact q)
                · (simp [b1, b2, b3] at q; exact q)
              · (simp [b1, b2] at q; exact q)
            · (simp [b1] at q; exact q)
        · rw [if_neg (show ¬ h = "limit" from h7)] at q
          exact q
      | ref a => exact (hp.1 : False).elim
      | ty a => exact (hp.1 : False).elim
      | _ => ((refine laterP_in ?_; repeat ((first | with_reducible refine laterP_i ?_ | with_reducible refine later_i ?_); try simp -implicitDefEqProofs -dsimp only [↓D3.seq3_stop, ↓D3.ifS3.eq_1, ↓D3.b3.eq_1, ↓D3.op3.eq_1, ↓D3.un3.eq_1, ↓D3.v3.eq_1, ↓D3.c3.eq_1, fIx_tup, fIx_lst, at3_0, at3_1, at3_2, at3_3, at3_4, at3_5, at3_6, start3, fI0_i, fI_i, fLt, fLe, fGt, fGe, fEqI, fNeI, fMin, fMax, ↓D3.asg3.eq_1, ↓D3.name3.eq_1, ↓D3.sub3.eq_1, ↓D3.ret3.eq_1, ↓D3.retN3.eq_1, ↓D3.nx3.eq_1, ↓D3.drop3.eq_1, ↓D3.par3.eq_1, ↓D3.aug3.eq_1, ↓D3.and3.eq_1, ↓D3.or3.eq_1, ↓D3.not3.eq_1, ↓D3.andV3.eq_1, ↓D3.orV3.eq_1, ↓D3.notV3.eq_1, ↓D3.if3.eq_1, ↓D3.nil3.eq_1, ↓D3.cons3.eq_1, ↓D3.tup3.eq_1, ↓D3.lst3.eq_1, ↓D3.lstM3.eq_1, ↓D3.gtup3.eq_1, ↓D3.gcons3.eq_1, ↓D3.gnil3.eq_1, ↓D3.gunl3.eq_1, ↓D3.bits3.eq_1, ↓D3.neg3.eq_1, ↓D3.chain3.eq_1, fIsi_int_int, fIsi_int_bool, fIsi_int_tuple, fIsi_int_str, fIsi_int_list, fIsi_bl_int, fIsi_bl_bool, fIsi_bl_tuple, fIsi_bl_str, fIsi_bl_list, fIsi_non_int, fIsi_non_bool, fIsi_non_tuple, fIsi_non_str, fIsi_non_list, fIsi_str_int, fIsi_str_bool, fIsi_str_tuple, fIsi_str_str, fIsi_str_list, fIsi_tup_int, fIsi_tup_bool, fIsi_tup_tuple, fIsi_tup_str, fIsi_tup_list, fIsi_lst_int, fIsi_lst_bool, fIsi_lst_tuple, fIsi_lst_str, fIsi_lst_list, fLen_lst, fLen_tup, fAbs, ↓D3.call3_k, ↓D3.kont_app, ↓D3.isN3.eq_1, ↓D3.notN3.eq_1, dIsN_non, dIsN_int, dIsN_bl, dIsN_str, dIsN_tup, dIsN_lst, ↓D3.slc3.eq_1, ↓D3.part3.eq_1, ↓D3.noPart3.eq_1, ↓D3.ilst3.eq_1, ↓D3.itup3.eq_1, ↓D3.irng1.eq_1, ↓D3.irng2.eq_1, ↓D3.for3.eq_1, fCat, fEq_int, fNe_int, fEq_bl, fNe_bl, fEq_pair, fNe_pair, List.map, List.replicate, List.length_cons, List.length_nil, List.set_cons_zero, List.set_cons_succ, List.getElem?_cons_zero, List.getElem?_cons_succ, List.cons_append, List.nil_append, at_0, at_1, at_2, at_3, at_4, at_5, at_6, ix_0, ix_1, ix_2, put_same, put_put, decide_eq_true_eq, Bool.not_eq_true', decide_eq_false_iff_not, ite_not, ite_true, ite_false, if_true, if_false, Bool.false_eq_true, ↓reduceIte, reduceIte, Nat.reduceAdd, Nat.reduceSub, Int.reduceToNat, Nat.reduceLeDiff, not_false_eq_true, true_and, and_true, ne_eq, Int.reduceEq, Nat.zero_add, Bool.not_true, Bool.not_false, reduceCtorEq, nc0, nc1, nc2, nc3, nc4, nc5, fIx_ref put_same, fLen_ref put_same, ↓D3.lc3.eq_1, fInt, fTuple, fList, fNeS_s, fEqS_s, ↓D3.gstar3.eq_1, fInK_s, fNinK_s, fLenS_s, ↓D3.slcT3.eq_1, fCatT_t, dnew3]))); exact q
  | _ => ((refine laterP_in ?_; repeat ((first | with_reducible refine laterP_i ?_ | with_reducible refine later_i ?_); try simp -implicitDefEqProofs -dsimp only [↓D3.seq3_stop, ↓D3.ifS3.eq_1, ↓D3.b3.eq_1, ↓D3.op3.eq_1, ↓D3.un3.eq_1, ↓D3.v3.eq_1, ↓D3.c3.eq_1, fIx_tup, fIx_lst, at3_0, at3_1, at3_2, at3_3, at3_4, at3_5, at3_6, start3, fI0_i, fI_i, fLt, fLe, fGt, fGe, fEqI, fNeI, fMin, fMax, ↓D3.asg3.eq_1, ↓D3.name3.eq_1, ↓D3.sub3.eq_1, ↓D3.ret3.eq_1, ↓D3.retN3.eq_1, ↓D3.nx3.eq_1, ↓D3.drop3.eq_1, ↓D3.par3.eq_1, ↓D3.aug3.eq_1, ↓D3.and3.eq_1, ↓D3.or3.eq_1, ↓D3.not3.eq_1, ↓D3.andV3.eq_1, ↓D3.orV3.eq_1, ↓D3.notV3.eq_1, ↓D3.if3.eq_1, ↓D3.nil3.eq_1, ↓D3.cons3.eq_1, ↓D3.tup3.eq_1, ↓D3.lst3.eq_1, ↓D3.lstM3.eq_1, ↓D3.gtup3.eq_1, ↓D3.gcons3.eq_1, ↓D3.gnil3.eq_1, ↓D3.gunl3.eq_1, ↓D3.bits3.eq_1, ↓D3.neg3.eq_1, ↓D3.chain3.eq_1, fIsi_int_int, fIsi_int_bool, fIsi_int_tuple, fIsi_int_str, fIsi_int_list, fIsi_bl_int, fIsi_bl_bool, fIsi_bl_tuple, fIsi_bl_str, fIsi_bl_list, fIsi_non_int, fIsi_non_bool, fIsi_non_tuple, fIsi_non_str, fIsi_non_list, fIsi_str_int, fIsi_str_bool, fIsi_str_tuple, fIsi_str_str, fIsi_str_list, fIsi_tup_int, fIsi_tup_bool, fIsi_tup_tuple, fIsi_tup_str, fIsi_tup_list, fIsi_lst_int, fIsi_lst_bool, fIsi_lst_tuple, fIsi_lst_str, fIsi_lst_list, fLen_lst, fLen_tup, fAbs, ↓D3.call3_k, ↓D3.kont_app, ↓D3.isN3.eq_1, ↓D3.notN3.eq_1, dIsN_non, dIsN_int, dIsN_bl, dIsN_str, dIsN_tup, dIsN_lst, ↓D3.slc3.eq_1, ↓D3.part3.eq_1, ↓D3.noPart3.eq_1, ↓D3.ilst3.eq_1, ↓D3.itup3.eq_1, ↓D3.irng1.eq_1, ↓D3.irng2.eq_1, ↓D3.for3.eq_1, fCat, fEq_int, fNe_int, fEq_bl, fNe_bl, fEq_pair, fNe_pair, List.map, List.replicate, List.length_cons, List.length_nil, List.set_cons_zero, List.set_cons_succ, List.getElem?_cons_zero, List.getElem?_cons_succ, List.cons_append, List.nil_append, at_0, at_1, at_2, at_3, at_4, at_5, at_6, ix_0, ix_1, ix_2, put_same, put_put, decide_eq_true_eq, Bool.not_eq_true', decide_eq_false_iff_not, ite_not, ite_true, ite_false, if_true, if_false, Bool.false_eq_true, ↓reduceIte, reduceIte, Nat.reduceAdd, Nat.reduceSub, Int.reduceToNat, Nat.reduceLeDiff, not_false_eq_true, true_and, and_true, ne_eq, Int.reduceEq, Nat.zero_add, Bool.not_true, Bool.not_false, reduceCtorEq, nc0, nc1, nc2, nc3, nc4, nc5, fIx_ref put_same, fLen_ref put_same, ↓D3.lc3.eq_1, fInt, fTuple, fList, fNeS_s, fEqS_s, ↓D3.gstar3.eq_1, fInK_s, fNinK_s, fLenS_s, ↓D3.slcT3.eq_1, fCatT_t, dnew3]))); exact q
def oN : Option Nat → D
  | none => .non
  | some n => .int n
def sp_cN : Nat → Sp3
  | 0 => fun _ _ _ => False
  | e + 1 => fun ds m P => ∃ (d : D) (i : Bool), ds = [d, .int (e : Nat), .bl i] ∧ Pl 900 d ∧ dp d ≤ 60 ∧ P (oN (lim (tree e i d))) m
theorem ok_cS (T : Tx w K mg fa fd) (e : Nat) (ih : Fn3 P w K mg base (e + 3) (fa 7) (fd 7) ["thing", "deep", "inside"] (sp_cN e)) : Fn3 P w K mg base (e + 3 + 1) (fa 7) (fd 7) ["thing", "deep", "inside"] (sp_cN (e + 1)) := by
  refine fn3 T.d_counted.F sc_counted (fun ds m Q h => by obtain ⟨_, _, rfl, _⟩ := h; rfl) fun cdv A outer s H E ds m Q hr h => ?_
  obtain ⟨d, i, rfl, hp, hd, q⟩ := h
  refine ⟨_, (ss_cons (s_set (i := 3) sc_counted.nd (e_call T.d_parts_within (ok_parts_within T) (hr.mono (by omega)) rfl (a_cons (e_v 0) a_nil)))
      (ss_cons (s_if (t_w (t_or (t_isN (e_v 3)) (t_or (t_eqI (e_v 1) e_int) (t_or1 (t_w (t_and (t_val (e_v 2)) (t_and1 (t_eqS (e_ix (e_v 0) e_int) e_str)))))))) (ss_one (s_ret e_non)) ss_nil)
      (ss_cons (s_set (i := 4) sc_counted.nd e_int)
      (ss_cons (s_for PassesOwn.never rfl (i_list (e_v 3)) (g_name (i := 5) sc_counted.nd)
      (ss_cons (s_set (i := 6) sc_counted.nd (e_call T.d_counted ih (hr.mono (by omega)) rfl (a_cons (e_v 5) (a_cons (e_sub (e_v 1) e_int) (a_cons (e_or (e_v 2) (e_one (e_eqS (e_ix (e_v 0) e_int) e_str))) a_nil)))))
      (ss_cons (s_if (t_w (t_or (t_isN (e_v 6)) (t_or1 (t_gt (e_add (e_v 4) (e_v 6)) (e_globI rfl T.c_MOST_PARTS))))) (ss_one (s_ret e_non)) ss_nil)
      (ss_one (s_aug (i := 4) sc_counted.nd iop_add (rl_I0 fun _ _ _ _ => .int _) (e_v 6))))))
      (ss_one (s_ret (e_v 4))))))), ?_⟩
  (refine laterP_in ?_; repeat ((first | with_reducible refine laterP_i ?_ | with_reducible refine later_i ?_); try simp -implicitDefEqProofs -dsimp only [↓D3.seq3_stop, ↓D3.ifS3.eq_1, ↓D3.b3.eq_1, ↓D3.op3.eq_1, ↓D3.un3.eq_1, ↓D3.v3.eq_1, ↓D3.c3.eq_1, fIx_tup, fIx_lst, at3_0, at3_1, at3_2, at3_3, at3_4, at3_5, at3_6, start3, fI0_i, fI_i, fLt, fLe, fGt, fGe, fEqI, fNeI, fMin, fMax, ↓D3.asg3.eq_1, ↓D3.name3.eq_1, ↓D3.sub3.eq_1, ↓D3.ret3.eq_1, ↓D3.retN3.eq_1, ↓D3.nx3.eq_1, ↓D3.drop3.eq_1, ↓D3.par3.eq_1, ↓D3.aug3.eq_1, ↓D3.not3.eq_1, ↓D3.notV3.eq_1, ↓D3.if3.eq_1, ↓D3.nil3.eq_1, ↓D3.cons3.eq_1, ↓D3.tup3.eq_1, ↓D3.lst3.eq_1, ↓D3.lstM3.eq_1, ↓D3.gtup3.eq_1, ↓D3.gcons3.eq_1, ↓D3.gnil3.eq_1, ↓D3.gunl3.eq_1, ↓D3.bits3.eq_1, ↓D3.neg3.eq_1, ↓D3.chain3.eq_1, fIsi_int_int, fIsi_int_bool, fIsi_int_tuple, fIsi_int_str, fIsi_int_list, fIsi_bl_int, fIsi_bl_bool, fIsi_bl_tuple, fIsi_bl_str, fIsi_bl_list, fIsi_non_int, fIsi_non_bool, fIsi_non_tuple, fIsi_non_str, fIsi_non_list, fIsi_str_int, fIsi_str_bool, fIsi_str_tuple, fIsi_str_str, fIsi_str_list, fIsi_tup_int, fIsi_tup_bool, fIsi_tup_tuple, fIsi_tup_str, fIsi_tup_list, fIsi_lst_int, fIsi_lst_bool, fIsi_lst_tuple, fIsi_lst_str, fIsi_lst_list, fLen_lst, fLen_tup, fAbs, ↓D3.call3_k, ↓D3.kont_app, ↓D3.isN3.eq_1, ↓D3.notN3.eq_1, dIsN_non, dIsN_int, dIsN_bl, dIsN_str, dIsN_tup, dIsN_lst, ↓D3.slc3.eq_1, ↓D3.part3.eq_1, ↓D3.noPart3.eq_1, ↓D3.ilst3.eq_1, ↓D3.itup3.eq_1, ↓D3.irng1.eq_1, ↓D3.irng2.eq_1, ↓D3.for3.eq_1, fCat, fEq_int, fNe_int, fEq_bl, fNe_bl, fEq_pair, fNe_pair, List.map, List.replicate, List.length_cons, List.length_nil, List.set_cons_zero, List.set_cons_succ, List.getElem?_cons_zero, List.getElem?_cons_succ, List.cons_append, List.nil_append, at_0, at_1, at_2, at_3, at_4, at_5, at_6, ix_0, ix_1, ix_2, put_same, put_put, decide_eq_true_eq, Bool.not_eq_true', decide_eq_false_iff_not, ite_not, ite_true, ite_false, if_true, if_false, Bool.false_eq_true, ↓reduceIte, reduceIte, Nat.reduceAdd, Nat.reduceSub, Int.reduceToNat, Nat.reduceLeDiff, not_false_eq_true, true_and, and_true, ne_eq, Int.reduceEq, Nat.zero_add, Bool.not_true, Bool.not_false, reduceCtorEq, nc0, nc1, nc2, nc3, nc4, nc5, fIx_ref put_same, fLen_ref put_same, ↓D3.lc3.eq_1, fInt, fTuple, fList, fNeS_s, fEqS_s, ↓D3.gstar3.eq_1, fInK_s, fNinK_s, fLenS_s, ↓D3.slcT3.eq_1, fCatT_t, dnew3]))
  refine ⟨d, rfl, hp, hd, ?_⟩
  cases hi : inn d with
  | none =>
    rw [show tree e i d = none from by cases e <;> simp [tree, hi]] at q
    (refine laterP_in ?_; repeat ((first | with_reducible refine laterP_i ?_ | with_reducible refine later_i ?_); try simp -implicitDefEqProofs -dsimp only [↓D3.seq3_stop, ↓D3.ifS3.eq_1, ↓D3.b3.eq_1, ↓D3.op3.eq_1, ↓D3.un3.eq_1, ↓D3.v3.eq_1, ↓D3.c3.eq_1, fIx_tup, fIx_lst, at3_0, at3_1, at3_2, at3_3, at3_4, at3_5, at3_6, start3, fI0_i, fI_i, fLt, fLe, fGt, fGe, fEqI, fNeI, fMin, fMax, ↓D3.asg3.eq_1, ↓D3.name3.eq_1, ↓D3.sub3.eq_1, ↓D3.ret3.eq_1, ↓D3.retN3.eq_1, ↓D3.nx3.eq_1, ↓D3.drop3.eq_1, ↓D3.par3.eq_1, ↓D3.aug3.eq_1, ↓D3.not3.eq_1, ↓D3.notV3.eq_1, ↓D3.if3.eq_1, ↓D3.nil3.eq_1, ↓D3.cons3.eq_1, ↓D3.tup3.eq_1, ↓D3.lst3.eq_1, ↓D3.lstM3.eq_1, ↓D3.gtup3.eq_1, ↓D3.gcons3.eq_1, ↓D3.gnil3.eq_1, ↓D3.gunl3.eq_1, ↓D3.bits3.eq_1, ↓D3.neg3.eq_1, ↓D3.chain3.eq_1, fIsi_int_int, fIsi_int_bool, fIsi_int_tuple, fIsi_int_str, fIsi_int_list, fIsi_bl_int, fIsi_bl_bool, fIsi_bl_tuple, fIsi_bl_str, fIsi_bl_list, fIsi_non_int, fIsi_non_bool, fIsi_non_tuple, fIsi_non_str, fIsi_non_list, fIsi_str_int, fIsi_str_bool, fIsi_str_tuple, fIsi_str_str, fIsi_str_list, fIsi_tup_int, fIsi_tup_bool, fIsi_tup_tuple, fIsi_tup_str, fIsi_tup_list, fIsi_lst_int, fIsi_lst_bool, fIsi_lst_tuple, fIsi_lst_str, fIsi_lst_list, fLen_lst, fLen_tup, fAbs, ↓D3.call3_k, ↓D3.kont_app, ↓D3.isN3.eq_1, ↓D3.notN3.eq_1, dIsN_non, dIsN_int, dIsN_bl, dIsN_str, dIsN_tup, dIsN_lst, ↓D3.slc3.eq_1, ↓D3.part3.eq_1, ↓D3.noPart3.eq_1, ↓D3.ilst3.eq_1, ↓D3.itup3.eq_1, ↓D3.irng1.eq_1, ↓D3.irng2.eq_1, ↓D3.for3.eq_1, fCat, fEq_int, fNe_int, fEq_bl, fNe_bl, fEq_pair, fNe_pair, List.map, List.replicate, List.length_cons, List.length_nil, List.set_cons_zero, List.set_cons_succ, List.getElem?_cons_zero, List.getElem?_cons_succ, List.cons_append, List.nil_append, at_0, at_1, at_2, at_3, at_4, at_5, at_6, ix_0, ix_1, ix_2, put_same, put_put, decide_eq_true_eq, Bool.not_eq_true', decide_eq_false_iff_not, ite_not, ite_true, ite_false, if_true, if_false, Bool.false_eq_true, ↓reduceIte, reduceIte, Nat.reduceAdd, Nat.reduceSub, Int.reduceToNat, Nat.reduceLeDiff, not_false_eq_true, true_and, and_true, ne_eq, Int.reduceEq, Nat.zero_add, Bool.not_true, Bool.not_false, reduceCtorEq, nc0, nc1, nc2, nc3, nc4, nc5, fIx_ref put_same, fLen_ref put_same, ↓D3.lc3.eq_1, fInt, fTuple, fList, fNeS_s, fEqS_s, ↓D3.gstar3.eq_1, fInK_s, fNinK_s, fLenS_s, ↓D3.slcT3.eq_1, fCatT_t, dnew3, oD]))
    refine or3_j (b1 := true) (b2 := true) (fun P k => ?_) (fun z => (nomatch z)) ?_
    · (refine laterP_in ?_; repeat ((first | with_reducible refine laterP_i ?_ | with_reducible refine later_i ?_); try simp -implicitDefEqProofs -dsimp only [↓D3.seq3_stop, ↓D3.ifS3.eq_1, ↓D3.b3.eq_1, ↓D3.op3.eq_1, ↓D3.un3.eq_1, ↓D3.v3.eq_1, ↓D3.c3.eq_1, fIx_tup, fIx_lst, at3_0, at3_1, at3_2, at3_3, at3_4, at3_5, at3_6, start3, fI0_i, fI_i, fLt, fLe, fGt, fGe, fEqI, fNeI, fMin, fMax, ↓D3.asg3.eq_1, ↓D3.name3.eq_1, ↓D3.sub3.eq_1, ↓D3.ret3.eq_1, ↓D3.retN3.eq_1, ↓D3.nx3.eq_1, ↓D3.drop3.eq_1, ↓D3.par3.eq_1, ↓D3.aug3.eq_1, ↓D3.not3.eq_1, ↓D3.notV3.eq_1, ↓D3.if3.eq_1, ↓D3.nil3.eq_1, ↓D3.cons3.eq_1, ↓D3.tup3.eq_1, ↓D3.lst3.eq_1, ↓D3.lstM3.eq_1, ↓D3.gtup3.eq_1, ↓D3.gcons3.eq_1, ↓D3.gnil3.eq_1, ↓D3.gunl3.eq_1, ↓D3.bits3.eq_1, ↓D3.neg3.eq_1, ↓D3.chain3.eq_1, fIsi_int_int, fIsi_int_bool, fIsi_int_tuple, fIsi_int_str, fIsi_int_list, fIsi_bl_int, fIsi_bl_bool, fIsi_bl_tuple, fIsi_bl_str, fIsi_bl_list, fIsi_non_int, fIsi_non_bool, fIsi_non_tuple, fIsi_non_str, fIsi_non_list, fIsi_str_int, fIsi_str_bool, fIsi_str_tuple, fIsi_str_str, fIsi_str_list, fIsi_tup_int, fIsi_tup_bool, fIsi_tup_tuple, fIsi_tup_str, fIsi_tup_list, fIsi_lst_int, fIsi_lst_bool, fIsi_lst_tuple, fIsi_lst_str, fIsi_lst_list, fLen_lst, fLen_tup, fAbs, ↓D3.call3_k, ↓D3.kont_app, ↓D3.isN3.eq_1, ↓D3.notN3.eq_1, dIsN_non, dIsN_int, dIsN_bl, dIsN_str, dIsN_tup, dIsN_lst, ↓D3.slc3.eq_1, ↓D3.part3.eq_1, ↓D3.noPart3.eq_1, ↓D3.ilst3.eq_1, ↓D3.itup3.eq_1, ↓D3.irng1.eq_1, ↓D3.irng2.eq_1, ↓D3.for3.eq_1, fCat, fEq_int, fNe_int, fEq_bl, fNe_bl, fEq_pair, fNe_pair, List.map, List.replicate, List.length_cons, List.length_nil, List.set_cons_zero, List.set_cons_succ, List.getElem?_cons_zero, List.getElem?_cons_succ, List.cons_append, List.nil_append, at_0, at_1, at_2, at_3, at_4, at_5, at_6, ix_0, ix_1, ix_2, put_same, put_put, decide_eq_true_eq, Bool.not_eq_true', decide_eq_false_iff_not, ite_not, ite_true, ite_false, if_true, if_false, Bool.false_eq_true, ↓reduceIte, reduceIte, Nat.reduceAdd, Nat.reduceSub, Int.reduceToNat, Nat.reduceLeDiff, not_false_eq_true, true_and, and_true, ne_eq, Int.reduceEq, Nat.zero_add, Bool.not_true, Bool.not_false, reduceCtorEq, nc0, nc1, nc2, nc3, nc4, nc5, fIx_ref put_same, fLen_ref put_same, ↓D3.lc3.eq_1, fInt, fTuple, fList, fNeS_s, fEqS_s, ↓D3.gstar3.eq_1, fInK_s, fNinK_s, fLenS_s, ↓D3.slcT3.eq_1, fCatT_t, dnew3, oD]))
      exact k
    · (refine laterP_in ?_; repeat ((first | with_reducible refine laterP_i ?_ | with_reducible refine later_i ?_); try simp -implicitDefEqProofs -dsimp only [↓D3.seq3_stop, ↓D3.ifS3.eq_1, ↓D3.b3.eq_1, ↓D3.op3.eq_1, ↓D3.un3.eq_1, ↓D3.v3.eq_1, ↓D3.c3.eq_1, fIx_tup, fIx_lst, at3_0, at3_1, at3_2, at3_3, at3_4, at3_5, at3_6, start3, fI0_i, fI_i, fLt, fLe, fGt, fGe, fEqI, fNeI, fMin, fMax, ↓D3.asg3.eq_1, ↓D3.name3.eq_1, ↓D3.sub3.eq_1, ↓D3.ret3.eq_1, ↓D3.retN3.eq_1, ↓D3.nx3.eq_1, ↓D3.drop3.eq_1, ↓D3.par3.eq_1, ↓D3.aug3.eq_1, ↓D3.not3.eq_1, ↓D3.notV3.eq_1, ↓D3.if3.eq_1, ↓D3.nil3.eq_1, ↓D3.cons3.eq_1, ↓D3.tup3.eq_1, ↓D3.lst3.eq_1, ↓D3.lstM3.eq_1, ↓D3.gtup3.eq_1, ↓D3.gcons3.eq_1, ↓D3.gnil3.eq_1, ↓D3.gunl3.eq_1, ↓D3.bits3.eq_1, ↓D3.neg3.eq_1, ↓D3.chain3.eq_1, fIsi_int_int, fIsi_int_bool, fIsi_int_tuple, fIsi_int_str, fIsi_int_list, fIsi_bl_int, fIsi_bl_bool, fIsi_bl_tuple, fIsi_bl_str, fIsi_bl_list, fIsi_non_int, fIsi_non_bool, fIsi_non_tuple, fIsi_non_str, fIsi_non_list, fIsi_str_int, fIsi_str_bool, fIsi_str_tuple, fIsi_str_str, fIsi_str_list, fIsi_tup_int, fIsi_tup_bool, fIsi_tup_tuple, fIsi_tup_str, fIsi_tup_list, fIsi_lst_int, fIsi_lst_bool, fIsi_lst_tuple, fIsi_lst_str, fIsi_lst_list, fLen_lst, fLen_tup, fAbs, ↓D3.call3_k, ↓D3.kont_app, ↓D3.isN3.eq_1, ↓D3.notN3.eq_1, dIsN_non, dIsN_int, dIsN_bl, dIsN_str, dIsN_tup, dIsN_lst, ↓D3.slc3.eq_1, ↓D3.part3.eq_1, ↓D3.noPart3.eq_1, ↓D3.ilst3.eq_1, ↓D3.itup3.eq_1, ↓D3.irng1.eq_1, ↓D3.irng2.eq_1, ↓D3.for3.eq_1, fCat, fEq_int, fNe_int, fEq_bl, fNe_bl, fEq_pair, fNe_pair, List.map, List.replicate, List.length_cons, List.length_nil, List.set_cons_zero, List.set_cons_succ, List.getElem?_cons_zero, List.getElem?_cons_succ, List.cons_append, List.nil_append, at_0, at_1, at_2, at_3, at_4, at_5, at_6, ix_0, ix_1, ix_2, put_same, put_put, decide_eq_true_eq, Bool.not_eq_true', decide_eq_false_iff_not, ite_not, ite_true, ite_false, if_true, if_false, Bool.false_eq_true, ↓reduceIte, reduceIte, Nat.reduceAdd, Nat.reduceSub, Int.reduceToNat, Nat.reduceLeDiff, not_false_eq_true, true_and, and_true, ne_eq, Int.reduceEq, Nat.zero_add, Bool.not_true, Bool.not_false, reduceCtorEq, nc0, nc1, nc2, nc3, nc4, nc5, fIx_ref put_same, fLen_ref put_same, ↓D3.lc3.eq_1, fInt, fTuple, fList, fNeS_s, fEqS_s, ↓D3.gstar3.eq_1, fInK_s, fNinK_s, fLenS_s, ↓D3.slcT3.eq_1, fCatT_t, dnew3]))
      exact q
  | some ps =>
    obtain ⟨h, r, rfl, hm, hl⟩ := inn_mem hi
    have hk := inn_ok (n := 59) hi hp hd
    (refine laterP_in ?_; repeat ((first | with_reducible refine laterP_i ?_ | with_reducible refine later_i ?_); try simp -implicitDefEqProofs -dsimp only [↓D3.seq3_stop, ↓D3.ifS3.eq_1, ↓D3.b3.eq_1, ↓D3.op3.eq_1, ↓D3.un3.eq_1, ↓D3.v3.eq_1, ↓D3.c3.eq_1, fIx_tup, fIx_lst, at3_0, at3_1, at3_2, at3_3, at3_4, at3_5, at3_6, start3, fI0_i, fI_i, fLt, fLe, fGt, fGe, fEqI, fNeI, fMin, fMax, ↓D3.asg3.eq_1, ↓D3.name3.eq_1, ↓D3.sub3.eq_1, ↓D3.ret3.eq_1, ↓D3.retN3.eq_1, ↓D3.nx3.eq_1, ↓D3.drop3.eq_1, ↓D3.par3.eq_1, ↓D3.aug3.eq_1, ↓D3.not3.eq_1, ↓D3.notV3.eq_1, ↓D3.if3.eq_1, ↓D3.nil3.eq_1, ↓D3.cons3.eq_1, ↓D3.tup3.eq_1, ↓D3.lst3.eq_1, ↓D3.lstM3.eq_1, ↓D3.gtup3.eq_1, ↓D3.gcons3.eq_1, ↓D3.gnil3.eq_1, ↓D3.gunl3.eq_1, ↓D3.bits3.eq_1, ↓D3.neg3.eq_1, ↓D3.chain3.eq_1, fIsi_int_int, fIsi_int_bool, fIsi_int_tuple, fIsi_int_str, fIsi_int_list, fIsi_bl_int, fIsi_bl_bool, fIsi_bl_tuple, fIsi_bl_str, fIsi_bl_list, fIsi_non_int, fIsi_non_bool, fIsi_non_tuple, fIsi_non_str, fIsi_non_list, fIsi_str_int, fIsi_str_bool, fIsi_str_tuple, fIsi_str_str, fIsi_str_list, fIsi_tup_int, fIsi_tup_bool, fIsi_tup_tuple, fIsi_tup_str, fIsi_tup_list, fIsi_lst_int, fIsi_lst_bool, fIsi_lst_tuple, fIsi_lst_str, fIsi_lst_list, fLen_lst, fLen_tup, fAbs, ↓D3.call3_k, ↓D3.kont_app, ↓D3.isN3.eq_1, ↓D3.notN3.eq_1, dIsN_non, dIsN_int, dIsN_bl, dIsN_str, dIsN_tup, dIsN_lst, ↓D3.slc3.eq_1, ↓D3.part3.eq_1, ↓D3.noPart3.eq_1, ↓D3.ilst3.eq_1, ↓D3.itup3.eq_1, ↓D3.irng1.eq_1, ↓D3.irng2.eq_1, ↓D3.for3.eq_1, fCat, fEq_int, fNe_int, fEq_bl, fNe_bl, fEq_pair, fNe_pair, List.map, List.replicate, List.length_cons, List.length_nil, List.set_cons_zero, List.set_cons_succ, List.getElem?_cons_zero, List.getElem?_cons_succ, List.cons_append, List.nil_append, at_0, at_1, at_2, at_3, at_4, at_5, at_6, ix_0, ix_1, ix_2, put_same, put_put, decide_eq_true_eq, Bool.not_eq_true', decide_eq_false_iff_not, ite_not, ite_true, ite_false, if_true, if_false, Bool.false_eq_true, ↓reduceIte, reduceIte, Nat.reduceAdd, Nat.reduceSub, Int.reduceToNat, Nat.reduceLeDiff, not_false_eq_true, true_and, and_true, ne_eq, Int.reduceEq, Nat.zero_add, Bool.not_true, Bool.not_false, reduceCtorEq, nc0, nc1, nc2, nc3, nc4, nc5, fIx_ref put_same, fLen_ref put_same, ↓D3.lc3.eq_1, fInt, fTuple, fList, fNeS_s, fEqS_s, ↓D3.gstar3.eq_1, fInK_s, fNinK_s, fLenS_s, ↓D3.slcT3.eq_1, fCatT_t, dnew3, oD]))
    refine or3_j (b1 := false) (b2 := decide (e = 0) || (i && decide (h = "limit"))) (fun P k => ?_) (fun _ P k => ?_) ?_
    · (refine laterP_in ?_; repeat ((first | with_reducible refine laterP_i ?_ | with_reducible refine later_i ?_); try simp -implicitDefEqProofs -dsimp only [↓D3.seq3_stop, ↓D3.ifS3.eq_1, ↓D3.b3.eq_1, ↓D3.op3.eq_1, ↓D3.un3.eq_1, ↓D3.v3.eq_1, ↓D3.c3.eq_1, fIx_tup, fIx_lst, at3_0, at3_1, at3_2, at3_3, at3_4, at3_5, at3_6, start3, fI0_i, fI_i, fLt, fLe, fGt, fGe, fEqI, fNeI, fMin, fMax, ↓D3.asg3.eq_1, ↓D3.name3.eq_1, ↓D3.sub3.eq_1, ↓D3.ret3.eq_1, ↓D3.retN3.eq_1, ↓D3.nx3.eq_1, ↓D3.drop3.eq_1, ↓D3.par3.eq_1, ↓D3.aug3.eq_1, ↓D3.not3.eq_1, ↓D3.notV3.eq_1, ↓D3.if3.eq_1, ↓D3.nil3.eq_1, ↓D3.cons3.eq_1, ↓D3.tup3.eq_1, ↓D3.lst3.eq_1, ↓D3.lstM3.eq_1, ↓D3.gtup3.eq_1, ↓D3.gcons3.eq_1, ↓D3.gnil3.eq_1, ↓D3.gunl3.eq_1, ↓D3.bits3.eq_1, ↓D3.neg3.eq_1, ↓D3.chain3.eq_1, fIsi_int_int, fIsi_int_bool, fIsi_int_tuple, fIsi_int_str, fIsi_int_list, fIsi_bl_int, fIsi_bl_bool, fIsi_bl_tuple, fIsi_bl_str, fIsi_bl_list, fIsi_non_int, fIsi_non_bool, fIsi_non_tuple, fIsi_non_str, fIsi_non_list, fIsi_str_int, fIsi_str_bool, fIsi_str_tuple, fIsi_str_str, fIsi_str_list, fIsi_tup_int, fIsi_tup_bool, fIsi_tup_tuple, fIsi_tup_str, fIsi_tup_list, fIsi_lst_int, fIsi_lst_bool, fIsi_lst_tuple, fIsi_lst_str, fIsi_lst_list, fLen_lst, fLen_tup, fAbs, ↓D3.call3_k, ↓D3.kont_app, ↓D3.isN3.eq_1, ↓D3.notN3.eq_1, dIsN_non, dIsN_int, dIsN_bl, dIsN_str, dIsN_tup, dIsN_lst, ↓D3.slc3.eq_1, ↓D3.part3.eq_1, ↓D3.noPart3.eq_1, ↓D3.ilst3.eq_1, ↓D3.itup3.eq_1, ↓D3.irng1.eq_1, ↓D3.irng2.eq_1, ↓D3.for3.eq_1, fCat, fEq_int, fNe_int, fEq_bl, fNe_bl, fEq_pair, fNe_pair, List.map, List.replicate, List.length_cons, List.length_nil, List.set_cons_zero, List.set_cons_succ, List.getElem?_cons_zero, List.getElem?_cons_succ, List.cons_append, List.nil_append, at_0, at_1, at_2, at_3, at_4, at_5, at_6, ix_0, ix_1, ix_2, put_same, put_put, decide_eq_true_eq, Bool.not_eq_true', decide_eq_false_iff_not, ite_not, ite_true, ite_false, if_true, if_false, Bool.false_eq_true, ↓reduceIte, reduceIte, Nat.reduceAdd, Nat.reduceSub, Int.reduceToNat, Nat.reduceLeDiff, not_false_eq_true, true_and, and_true, ne_eq, Int.reduceEq, Nat.zero_add, Bool.not_true, Bool.not_false, reduceCtorEq, nc0, nc1, nc2, nc3, nc4, nc5, fIx_ref put_same, fLen_ref put_same, ↓D3.lc3.eq_1, fInt, fTuple, fList, fNeS_s, fEqS_s, ↓D3.gstar3.eq_1, fInK_s, fNinK_s, fLenS_s, ↓D3.slcT3.eq_1, fCatT_t, dnew3, oD]))
      exact k
    · refine or3_j (b1 := decide (e = 0)) (b2 := i && decide (h = "limit")) (fun P k => ?_) (fun _ P k => ?_) k
      · (refine laterP_in ?_; repeat ((first | with_reducible refine laterP_i ?_ | with_reducible refine later_i ?_); try simp -implicitDefEqProofs -dsimp only [↓D3.seq3_stop, ↓D3.ifS3.eq_1, ↓D3.b3.eq_1, ↓D3.op3.eq_1, ↓D3.un3.eq_1, ↓D3.v3.eq_1, ↓D3.c3.eq_1, fIx_tup, fIx_lst, at3_0, at3_1, at3_2, at3_3, at3_4, at3_5, at3_6, start3, fI0_i, fI_i, fLt, fLe, fGt, fGe, fEqI, fNeI, fMin, fMax, ↓D3.asg3.eq_1, ↓D3.name3.eq_1, ↓D3.sub3.eq_1, ↓D3.ret3.eq_1, ↓D3.retN3.eq_1, ↓D3.nx3.eq_1, ↓D3.drop3.eq_1, ↓D3.par3.eq_1, ↓D3.aug3.eq_1, ↓D3.not3.eq_1, ↓D3.notV3.eq_1, ↓D3.if3.eq_1, ↓D3.nil3.eq_1, ↓D3.cons3.eq_1, ↓D3.tup3.eq_1, ↓D3.lst3.eq_1, ↓D3.lstM3.eq_1, ↓D3.gtup3.eq_1, ↓D3.gcons3.eq_1, ↓D3.gnil3.eq_1, ↓D3.gunl3.eq_1, ↓D3.bits3.eq_1, ↓D3.neg3.eq_1, ↓D3.chain3.eq_1, fIsi_int_int, fIsi_int_bool, fIsi_int_tuple, fIsi_int_str, fIsi_int_list, fIsi_bl_int, fIsi_bl_bool, fIsi_bl_tuple, fIsi_bl_str, fIsi_bl_list, fIsi_non_int, fIsi_non_bool, fIsi_non_tuple, fIsi_non_str, fIsi_non_list, fIsi_str_int, fIsi_str_bool, fIsi_str_tuple, fIsi_str_str, fIsi_str_list, fIsi_tup_int, fIsi_tup_bool, fIsi_tup_tuple, fIsi_tup_str, fIsi_tup_list, fIsi_lst_int, fIsi_lst_bool, fIsi_lst_tuple, fIsi_lst_str, fIsi_lst_list, fLen_lst, fLen_tup, fAbs, ↓D3.call3_k, ↓D3.kont_app, ↓D3.isN3.eq_1, ↓D3.notN3.eq_1, dIsN_non, dIsN_int, dIsN_bl, dIsN_str, dIsN_tup, dIsN_lst, ↓D3.slc3.eq_1, ↓D3.part3.eq_1, ↓D3.noPart3.eq_1, ↓D3.ilst3.eq_1, ↓D3.itup3.eq_1, ↓D3.irng1.eq_1, ↓D3.irng2.eq_1, ↓D3.for3.eq_1, fCat, fEq_int, fNe_int, fEq_bl, fNe_bl, fEq_pair, fNe_pair, List.map, List.replicate, List.length_cons, List.length_nil, List.set_cons_zero, List.set_cons_succ, List.getElem?_cons_zero, List.getElem?_cons_succ, List.cons_append, List.nil_append, at_0, at_1, at_2, at_3, at_4, at_5, at_6, ix_0, ix_1, ix_2, put_same, put_put, decide_eq_true_eq, Bool.not_eq_true', decide_eq_false_iff_not, ite_not, ite_true, ite_false, if_true, if_false, Bool.false_eq_true, ↓reduceIte, reduceIte, Nat.reduceAdd, Nat.reduceSub, Int.reduceToNat, Nat.reduceLeDiff, not_false_eq_true, true_and, and_true, ne_eq, Int.reduceEq, Nat.zero_add, Bool.not_true, Bool.not_false, reduceCtorEq, nc0, nc1, nc2, nc3, nc4, nc5, fIx_ref put_same, fLen_ref put_same, ↓D3.lc3.eq_1, fInt, fTuple, fList, fNeS_s, fEqS_s, ↓D3.gstar3.eq_1, fInK_s, fNinK_s, fLenS_s, ↓D3.slcT3.eq_1, fCatT_t, dnew3]))
        rw [show decide ((e : Int) = 0) = decide (e = 0) from by congr 1; apply propext; omega]
        exact k
      · refine and3_j (b1 := i) (b2 := decide (h = "limit")) (fun P k => ?_) (fun _ P k => ?_) k
        · (refine laterP_in ?_; repeat ((first | with_reducible refine laterP_i ?_ | with_reducible refine later_i ?_); try simp -implicitDefEqProofs -dsimp only [↓D3.seq3_stop, ↓D3.ifS3.eq_1, ↓D3.b3.eq_1, ↓D3.op3.eq_1, ↓D3.un3.eq_1, ↓D3.v3.eq_1, ↓D3.c3.eq_1, fIx_tup, fIx_lst, at3_0, at3_1, at3_2, at3_3, at3_4, at3_5, at3_6, start3, fI0_i, fI_i, fLt, fLe, fGt, fGe, fEqI, fNeI, fMin, fMax, ↓D3.asg3.eq_1, ↓D3.name3.eq_1, ↓D3.sub3.eq_1, ↓D3.ret3.eq_1, ↓D3.retN3.eq_1, ↓D3.nx3.eq_1, ↓D3.drop3.eq_1, ↓D3.par3.eq_1, ↓D3.aug3.eq_1, ↓D3.not3.eq_1, ↓D3.notV3.eq_1, ↓D3.if3.eq_1, ↓D3.nil3.eq_1, ↓D3.cons3.eq_1, ↓D3.tup3.eq_1, ↓D3.lst3.eq_1, ↓D3.lstM3.eq_1, ↓D3.gtup3.eq_1, ↓D3.gcons3.eq_1, ↓D3.gnil3.eq_1, ↓D3.gunl3.eq_1, ↓D3.bits3.eq_1, ↓D3.neg3.eq_1, ↓D3.chain3.eq_1, fIsi_int_int, fIsi_int_bool, fIsi_int_tuple, fIsi_int_str, fIsi_int_list, fIsi_bl_int, fIsi_bl_bool, fIsi_bl_tuple, fIsi_bl_str, fIsi_bl_list, fIsi_non_int, fIsi_non_bool, fIsi_non_tuple, fIsi_non_str, fIsi_non_list, fIsi_str_int, fIsi_str_bool, fIsi_str_tuple, fIsi_str_str, fIsi_str_list, fIsi_tup_int, fIsi_tup_bool, fIsi_tup_tuple, fIsi_tup_str, fIsi_tup_list, fIsi_lst_int, fIsi_lst_bool, fIsi_lst_tuple, fIsi_lst_str, fIsi_lst_list, fLen_lst, fLen_tup, fAbs, ↓D3.call3_k, ↓D3.kont_app, ↓D3.isN3.eq_1, ↓D3.notN3.eq_1, dIsN_non, dIsN_int, dIsN_bl, dIsN_str, dIsN_tup, dIsN_lst, ↓D3.slc3.eq_1, ↓D3.part3.eq_1, ↓D3.noPart3.eq_1, ↓D3.ilst3.eq_1, ↓D3.itup3.eq_1, ↓D3.irng1.eq_1, ↓D3.irng2.eq_1, ↓D3.for3.eq_1, fCat, fEq_int, fNe_int, fEq_bl, fNe_bl, fEq_pair, fNe_pair, List.map, List.replicate, List.length_cons, List.length_nil, List.set_cons_zero, List.set_cons_succ, List.getElem?_cons_zero, List.getElem?_cons_succ, List.cons_append, List.nil_append, at_0, at_1, at_2, at_3, at_4, at_5, at_6, ix_0, ix_1, ix_2, put_same, put_put, decide_eq_true_eq, Bool.not_eq_true', decide_eq_false_iff_not, ite_not, ite_true, ite_false, if_true, if_false, Bool.false_eq_true, ↓reduceIte, reduceIte, Nat.reduceAdd, Nat.reduceSub, Int.reduceToNat, Nat.reduceLeDiff, not_false_eq_true, true_and, and_true, ne_eq, Int.reduceEq, Nat.zero_add, Bool.not_true, Bool.not_false, reduceCtorEq, nc0, nc1, nc2, nc3, nc4, nc5, fIx_ref put_same, fLen_ref put_same, ↓D3.lc3.eq_1, fInt, fTuple, fList, fNeS_s, fEqS_s, ↓D3.gstar3.eq_1, fInK_s, fNinK_s, fLenS_s, ↓D3.slcT3.eq_1, fCatT_t, dnew3]))
          exact k
        · (refine laterP_in ?_; repeat ((first | with_reducible refine laterP_i ?_ | with_reducible refine later_i ?_); try simp -implicitDefEqProofs -dsimp only [↓D3.seq3_stop, ↓D3.ifS3.eq_1, ↓D3.b3.eq_1, ↓D3.op3.eq_1, ↓D3.un3.eq_1, ↓D3.v3.eq_1, ↓D3.c3.eq_1, fIx_tup, fIx_lst, at3_0, at3_1, at3_2, at3_3, at3_4, at3_5, at3_6, start3, fI0_i, fI_i, fLt, fLe, fGt, fGe, fEqI, fNeI, fMin, fMax, ↓D3.asg3.eq_1, ↓D3.name3.eq_1, ↓D3.sub3.eq_1, ↓D3.ret3.eq_1, ↓D3.retN3.eq_1, ↓D3.nx3.eq_1, ↓D3.drop3.eq_1, ↓D3.par3.eq_1, ↓D3.aug3.eq_1, ↓D3.not3.eq_1, ↓D3.notV3.eq_1, ↓D3.if3.eq_1, ↓D3.nil3.eq_1, ↓D3.cons3.eq_1, ↓D3.tup3.eq_1, ↓D3.lst3.eq_1, ↓D3.lstM3.eq_1, ↓D3.gtup3.eq_1, ↓D3.gcons3.eq_1, ↓D3.gnil3.eq_1, ↓D3.gunl3.eq_1, ↓D3.bits3.eq_1, ↓D3.neg3.eq_1, ↓D3.chain3.eq_1, fIsi_int_int, fIsi_int_bool, fIsi_int_tuple, fIsi_int_str, fIsi_int_list, fIsi_bl_int, fIsi_bl_bool, fIsi_bl_tuple, fIsi_bl_str, fIsi_bl_list, fIsi_non_int, fIsi_non_bool, fIsi_non_tuple, fIsi_non_str, fIsi_non_list, fIsi_str_int, fIsi_str_bool, fIsi_str_tuple, fIsi_str_str, fIsi_str_list, fIsi_tup_int, fIsi_tup_bool, fIsi_tup_tuple, fIsi_tup_str, fIsi_tup_list, fIsi_lst_int, fIsi_lst_bool, fIsi_lst_tuple, fIsi_lst_str, fIsi_lst_list, fLen_lst, fLen_tup, fAbs, ↓D3.call3_k, ↓D3.kont_app, ↓D3.isN3.eq_1, ↓D3.notN3.eq_1, dIsN_non, dIsN_int, dIsN_bl, dIsN_str, dIsN_tup, dIsN_lst, ↓D3.slc3.eq_1, ↓D3.part3.eq_1, ↓D3.noPart3.eq_1, ↓D3.ilst3.eq_1, ↓D3.itup3.eq_1, ↓D3.irng1.eq_1, ↓D3.irng2.eq_1, ↓D3.for3.eq_1, fCat, fEq_int, fNe_int, fEq_bl, fNe_bl, fEq_pair, fNe_pair, List.map, List.replicate, List.length_cons, List.length_nil, List.set_cons_zero, List.set_cons_succ, List.getElem?_cons_zero, List.getElem?_cons_succ, List.cons_append, List.nil_append, at_0, at_1, at_2, at_3, at_4, at_5, at_6, ix_0, ix_1, ix_2, put_same, put_put, decide_eq_true_eq, Bool.not_eq_true', decide_eq_false_iff_not, ite_not, ite_true, ite_false, if_true, if_false, Bool.false_eq_true, ↓reduceIte, reduceIte, Nat.reduceAdd, Nat.reduceSub, Int.reduceToNat, Nat.reduceLeDiff, not_false_eq_true, true_and, and_true, ne_eq, Int.reduceEq, Nat.zero_add, Bool.not_true, Bool.not_false, reduceCtorEq, nc0, nc1, nc2, nc3, nc4, nc5, fIx_ref put_same, fLen_ref put_same, ↓D3.lc3.eq_1, fInt, fTuple, fList, fNeS_s, fEqS_s, ↓D3.gstar3.eq_1, fInK_s, fNinK_s, fLenS_s, ↓D3.slcT3.eq_1, fCatT_t, dnew3]))
          exact k
    rw [Bool.false_or]
    refine iteB (fun b => ?_) (fun b => ?_)
    · rw [show tree e i (.tup (.str h :: r)) = none from by
        rcases Bool.or_eq_true_iff.mp b with b | b
        · rw [of_decide_eq_true b]; rfl
        · cases e with
          | zero => rfl
          | succ e =>
            unfold tree
            rw [hi]
            simp only
            rw [if_pos (show (i && isLim (.tup (.str h :: r))) = true from b)]] at q
      (refine laterP_in ?_; repeat ((first | with_reducible refine laterP_i ?_ | with_reducible refine later_i ?_); try simp -implicitDefEqProofs -dsimp only [↓D3.seq3_stop, ↓D3.ifS3.eq_1, ↓D3.b3.eq_1, ↓D3.op3.eq_1, ↓D3.un3.eq_1, ↓D3.v3.eq_1, ↓D3.c3.eq_1, fIx_tup, fIx_lst, at3_0, at3_1, at3_2, at3_3, at3_4, at3_5, at3_6, start3, fI0_i, fI_i, fLt, fLe, fGt, fGe, fEqI, fNeI, fMin, fMax, ↓D3.asg3.eq_1, ↓D3.name3.eq_1, ↓D3.sub3.eq_1, ↓D3.ret3.eq_1, ↓D3.retN3.eq_1, ↓D3.nx3.eq_1, ↓D3.drop3.eq_1, ↓D3.par3.eq_1, ↓D3.aug3.eq_1, ↓D3.not3.eq_1, ↓D3.notV3.eq_1, ↓D3.if3.eq_1, ↓D3.nil3.eq_1, ↓D3.cons3.eq_1, ↓D3.tup3.eq_1, ↓D3.lst3.eq_1, ↓D3.lstM3.eq_1, ↓D3.gtup3.eq_1, ↓D3.gcons3.eq_1, ↓D3.gnil3.eq_1, ↓D3.gunl3.eq_1, ↓D3.bits3.eq_1, ↓D3.neg3.eq_1, ↓D3.chain3.eq_1, fIsi_int_int, fIsi_int_bool, fIsi_int_tuple, fIsi_int_str, fIsi_int_list, fIsi_bl_int, fIsi_bl_bool, fIsi_bl_tuple, fIsi_bl_str, fIsi_bl_list, fIsi_non_int, fIsi_non_bool, fIsi_non_tuple, fIsi_non_str, fIsi_non_list, fIsi_str_int, fIsi_str_bool, fIsi_str_tuple, fIsi_str_str, fIsi_str_list, fIsi_tup_int, fIsi_tup_bool, fIsi_tup_tuple, fIsi_tup_str, fIsi_tup_list, fIsi_lst_int, fIsi_lst_bool, fIsi_lst_tuple, fIsi_lst_str, fIsi_lst_list, fLen_lst, fLen_tup, fAbs, ↓D3.call3_k, ↓D3.kont_app, ↓D3.isN3.eq_1, ↓D3.notN3.eq_1, dIsN_non, dIsN_int, dIsN_bl, dIsN_str, dIsN_tup, dIsN_lst, ↓D3.slc3.eq_1, ↓D3.part3.eq_1, ↓D3.noPart3.eq_1, ↓D3.ilst3.eq_1, ↓D3.itup3.eq_1, ↓D3.irng1.eq_1, ↓D3.irng2.eq_1, ↓D3.for3.eq_1, fCat, fEq_int, fNe_int, fEq_bl, fNe_bl, fEq_pair, fNe_pair, List.map, List.replicate, List.length_cons, List.length_nil, List.set_cons_zero, List.set_cons_succ, List.getElem?_cons_zero, List.getElem?_cons_succ, List.cons_append, List.nil_append, at_0, at_1, at_2, at_3, at_4, at_5, at_6, ix_0, ix_1, ix_2, put_same, put_put, decide_eq_true_eq, Bool.not_eq_true', decide_eq_false_iff_not, ite_not, ite_true, ite_false, if_true, if_false, Bool.false_eq_true, ↓reduceIte, reduceIte, Nat.reduceAdd, Nat.reduceSub, Int.reduceToNat, Nat.reduceLeDiff, not_false_eq_true, true_and, and_true, ne_eq, Int.reduceEq, Nat.zero_add, Bool.not_true, Bool.not_false, reduceCtorEq, nc0, nc1, nc2, nc3, nc4, nc5, fIx_ref put_same, fLen_ref put_same, ↓D3.lc3.eq_1, fInt, fTuple, fList, fNeS_s, fEqS_s, ↓D3.gstar3.eq_1, fInK_s, fNinK_s, fLenS_s, ↓D3.slcT3.eq_1, fCatT_t, dnew3]))
      exact q
    obtain ⟨b1, b2⟩ := Bool.or_eq_false_iff.mp b
    obtain ⟨e, rfl⟩ : ∃ k, e = k + 1 := ⟨e - 1, by have := of_decide_eq_false b1; omega⟩
    have et : tree (e + 1) i (.tup (.str h :: r)) = (sumO (tree e (i || decide (h = "limit"))) ps).map (1 + ·) := by
      conv => lhs; unfold tree
      rw [hi]
      simp only
      rw [if_neg (show ¬ (i && isLim (.tup (.str h :: r))) = true from by rw [show (i && isLim (.tup (.str h :: r))) = false from b2]; exact Bool.false_ne_true)]
      rfl
    rw [et] at q
    (refine laterP_in ?_; repeat ((first | with_reducible refine laterP_i ?_ | with_reducible refine later_i ?_); try simp -implicitDefEqProofs -dsimp only [↓D3.seq3_stop, ↓D3.ifS3.eq_1, ↓D3.b3.eq_1, ↓D3.op3.eq_1, ↓D3.un3.eq_1, ↓D3.v3.eq_1, ↓D3.c3.eq_1, fIx_tup, fIx_lst, at3_0, at3_1, at3_2, at3_3, at3_4, at3_5, at3_6, start3, fI0_i, fI_i, fLt, fLe, fGt, fGe, fEqI, fNeI, fMin, fMax, ↓D3.asg3.eq_1, ↓D3.name3.eq_1, ↓D3.sub3.eq_1, ↓D3.ret3.eq_1, ↓D3.retN3.eq_1, ↓D3.nx3.eq_1, ↓D3.drop3.eq_1, ↓D3.par3.eq_1, ↓D3.aug3.eq_1, ↓D3.not3.eq_1, ↓D3.notV3.eq_1, ↓D3.if3.eq_1, ↓D3.nil3.eq_1, ↓D3.cons3.eq_1, ↓D3.tup3.eq_1, ↓D3.lst3.eq_1, ↓D3.lstM3.eq_1, ↓D3.gtup3.eq_1, ↓D3.gcons3.eq_1, ↓D3.gnil3.eq_1, ↓D3.gunl3.eq_1, ↓D3.bits3.eq_1, ↓D3.neg3.eq_1, ↓D3.chain3.eq_1, fIsi_int_int, fIsi_int_bool, fIsi_int_tuple, fIsi_int_str, fIsi_int_list, fIsi_bl_int, fIsi_bl_bool, fIsi_bl_tuple, fIsi_bl_str, fIsi_bl_list, fIsi_non_int, fIsi_non_bool, fIsi_non_tuple, fIsi_non_str, fIsi_non_list, fIsi_str_int, fIsi_str_bool, fIsi_str_tuple, fIsi_str_str, fIsi_str_list, fIsi_tup_int, fIsi_tup_bool, fIsi_tup_tuple, fIsi_tup_str, fIsi_tup_list, fIsi_lst_int, fIsi_lst_bool, fIsi_lst_tuple, fIsi_lst_str, fIsi_lst_list, fLen_lst, fLen_tup, fAbs, ↓D3.call3_k, ↓D3.kont_app, ↓D3.isN3.eq_1, ↓D3.notN3.eq_1, dIsN_non, dIsN_int, dIsN_bl, dIsN_str, dIsN_tup, dIsN_lst, ↓D3.slc3.eq_1, ↓D3.part3.eq_1, ↓D3.noPart3.eq_1, ↓D3.ilst3.eq_1, ↓D3.itup3.eq_1, ↓D3.irng1.eq_1, ↓D3.irng2.eq_1, ↓D3.for3.eq_1, fCat, fEq_int, fNe_int, fEq_bl, fNe_bl, fEq_pair, fNe_pair, List.map, List.replicate, List.length_cons, List.length_nil, List.set_cons_zero, List.set_cons_succ, List.getElem?_cons_zero, List.getElem?_cons_succ, List.cons_append, List.nil_append, at_0, at_1, at_2, at_3, at_4, at_5, at_6, ix_0, ix_1, ix_2, put_same, put_put, decide_eq_true_eq, Bool.not_eq_true', decide_eq_false_iff_not, ite_not, ite_true, ite_false, if_true, if_false, Bool.false_eq_true, ↓reduceIte, reduceIte, Nat.reduceAdd, Nat.reduceSub, Int.reduceToNat, Nat.reduceLeDiff, not_false_eq_true, true_and, and_true, ne_eq, Int.reduceEq, Nat.zero_add, Bool.not_true, Bool.not_false, reduceCtorEq, nc0, nc1, nc2, nc3, nc4, nc5, fIx_ref put_same, fLen_ref put_same, ↓D3.lc3.eq_1, fInt, fTuple, fList, fNeS_s, fEqS_s, ↓D3.gstar3.eq_1, fInK_s, fNinK_s, fLenS_s, ↓D3.slcT3.eq_1, fCatT_t, dnew3]))
    refine forIn3_ind (fun ds ρ m' => m' = m ∧ (∀ d ∈ ds, d ∈ ps) ∧ ∃ (t : Nat) (x1 x2 : Option D), ρ = [some (.tup (.str h :: r)), some (.int ((e + 1 : Nat) : Int)), some (.bl i), some (.lst ps), some (.int (t : Nat)), x1, x2] ∧ t ≤ 30 ∧ addUp (tree e (i || decide (h = "limit"))) t ds = lim ((sumO (tree e (i || decide (h = "limit"))) ps).map (1 + ·))) ?_ ?_ _ _ _ ⟨rfl, fun _ z => z, 1, _, _, rfl, by decide, addUp_eq _ _ _ (by decide)⟩
    · rintro d ds ρ m' nx hnx ⟨rfl, hds, t, x1, x2, rfl, ht, ha⟩
      obtain ⟨p1, p2⟩ := hk d (hds d List.mem_cons_self)
      (refine laterP_in ?_; repeat ((first | with_reducible refine laterP_i ?_ | with_reducible refine later_i ?_); try simp -implicitDefEqProofs -dsimp only [↓D3.seq3_stop, ↓D3.ifS3.eq_1, ↓D3.b3.eq_1, ↓D3.op3.eq_1, ↓D3.un3.eq_1, ↓D3.v3.eq_1, ↓D3.c3.eq_1, fIx_tup, fIx_lst, at3_0, at3_1, at3_2, at3_3, at3_4, at3_5, at3_6, start3, fI0_i, fI_i, fLt, fLe, fGt, fGe, fEqI, fNeI, fMin, fMax, ↓D3.asg3.eq_1, ↓D3.name3.eq_1, ↓D3.sub3.eq_1, ↓D3.ret3.eq_1, ↓D3.retN3.eq_1, ↓D3.nx3.eq_1, ↓D3.drop3.eq_1, ↓D3.par3.eq_1, ↓D3.aug3.eq_1, ↓D3.not3.eq_1, ↓D3.notV3.eq_1, ↓D3.if3.eq_1, ↓D3.nil3.eq_1, ↓D3.cons3.eq_1, ↓D3.tup3.eq_1, ↓D3.lst3.eq_1, ↓D3.lstM3.eq_1, ↓D3.gtup3.eq_1, ↓D3.gcons3.eq_1, ↓D3.gnil3.eq_1, ↓D3.gunl3.eq_1, ↓D3.bits3.eq_1, ↓D3.neg3.eq_1, ↓D3.chain3.eq_1, fIsi_int_int, fIsi_int_bool, fIsi_int_tuple, fIsi_int_str, fIsi_int_list, fIsi_bl_int, fIsi_bl_bool, fIsi_bl_tuple, fIsi_bl_str, fIsi_bl_list, fIsi_non_int, fIsi_non_bool, fIsi_non_tuple, fIsi_non_str, fIsi_non_list, fIsi_str_int, fIsi_str_bool, fIsi_str_tuple, fIsi_str_str, fIsi_str_list, fIsi_tup_int, fIsi_tup_bool, fIsi_tup_tuple, fIsi_tup_str, fIsi_tup_list, fIsi_lst_int, fIsi_lst_bool, fIsi_lst_tuple, fIsi_lst_str, fIsi_lst_list, fLen_lst, fLen_tup, fAbs, ↓D3.call3_k, ↓D3.kont_app, ↓D3.isN3.eq_1, ↓D3.notN3.eq_1, dIsN_non, dIsN_int, dIsN_bl, dIsN_str, dIsN_tup, dIsN_lst, ↓D3.slc3.eq_1, ↓D3.part3.eq_1, ↓D3.noPart3.eq_1, ↓D3.ilst3.eq_1, ↓D3.itup3.eq_1, ↓D3.irng1.eq_1, ↓D3.irng2.eq_1, ↓D3.for3.eq_1, fCat, fEq_int, fNe_int, fEq_bl, fNe_bl, fEq_pair, fNe_pair, List.map, List.replicate, List.length_cons, List.length_nil, List.set_cons_zero, List.set_cons_succ, List.getElem?_cons_zero, List.getElem?_cons_succ, List.cons_append, List.nil_append, at_0, at_1, at_2, at_3, at_4, at_5, at_6, ix_0, ix_1, ix_2, put_same, put_put, decide_eq_true_eq, Bool.not_eq_true', decide_eq_false_iff_not, ite_not, ite_true, ite_false, if_true, if_false, Bool.false_eq_true, ↓reduceIte, reduceIte, Nat.reduceAdd, Nat.reduceSub, Int.reduceToNat, Nat.reduceLeDiff, not_false_eq_true, true_and, and_true, ne_eq, Int.reduceEq, Nat.zero_add, Bool.not_true, Bool.not_false, reduceCtorEq, nc0, nc1, nc2, nc3, nc4, nc5, fIx_ref put_same, fLen_ref put_same, ↓D3.lc3.eq_1, fInt, fTuple, fList, fNeS_s, fEqS_s, ↓D3.gstar3.eq_1, fInK_s, fNinK_s, fLenS_s, ↓D3.slcT3.eq_1, fCatT_t, dnew3]))
      refine orV3_j (b1 := i) (b2 := decide (h = "limit")) (fun P k => ?_) (fun _ P k => ?_) ?_
      · (refine laterP_in ?_; repeat ((first | with_reducible refine laterP_i ?_ | with_reducible refine later_i ?_); try simp -implicitDefEqProofs -dsimp only [↓D3.seq3_stop, ↓D3.ifS3.eq_1, ↓D3.b3.eq_1, ↓D3.op3.eq_1, ↓D3.un3.eq_1, ↓D3.v3.eq_1, ↓D3.c3.eq_1, fIx_tup, fIx_lst, at3_0, at3_1, at3_2, at3_3, at3_4, at3_5, at3_6, start3, fI0_i, fI_i, fLt, fLe, fGt, fGe, fEqI, fNeI, fMin, fMax, ↓D3.asg3.eq_1, ↓D3.name3.eq_1, ↓D3.sub3.eq_1, ↓D3.ret3.eq_1, ↓D3.retN3.eq_1, ↓D3.nx3.eq_1, ↓D3.drop3.eq_1, ↓D3.par3.eq_1, ↓D3.aug3.eq_1, ↓D3.not3.eq_1, ↓D3.notV3.eq_1, ↓D3.if3.eq_1, ↓D3.nil3.eq_1, ↓D3.cons3.eq_1, ↓D3.tup3.eq_1, ↓D3.lst3.eq_1, ↓D3.lstM3.eq_1, ↓D3.gtup3.eq_1, ↓D3.gcons3.eq_1, ↓D3.gnil3.eq_1, ↓D3.gunl3.eq_1, ↓D3.bits3.eq_1, ↓D3.neg3.eq_1, ↓D3.chain3.eq_1, fIsi_int_int, fIsi_int_bool, fIsi_int_tuple, fIsi_int_str, fIsi_int_list, fIsi_bl_int, fIsi_bl_bool, fIsi_bl_tuple, fIsi_bl_str, fIsi_bl_list, fIsi_non_int, fIsi_non_bool, fIsi_non_tuple, fIsi_non_str, fIsi_non_list, fIsi_str_int, fIsi_str_bool, fIsi_str_tuple, fIsi_str_str, fIsi_str_list, fIsi_tup_int, fIsi_tup_bool, fIsi_tup_tuple, fIsi_tup_str, fIsi_tup_list, fIsi_lst_int, fIsi_lst_bool, fIsi_lst_tuple, fIsi_lst_str, fIsi_lst_list, fLen_lst, fLen_tup, fAbs, ↓D3.call3_k, ↓D3.kont_app, ↓D3.isN3.eq_1, ↓D3.notN3.eq_1, dIsN_non, dIsN_int, dIsN_bl, dIsN_str, dIsN_tup, dIsN_lst, ↓D3.slc3.eq_1, ↓D3.part3.eq_1, ↓D3.noPart3.eq_1, ↓D3.ilst3.eq_1, ↓D3.itup3.eq_1, ↓D3.irng1.eq_1, ↓D3.irng2.eq_1, ↓D3.for3.eq_1, fCat, fEq_int, fNe_int, fEq_bl, fNe_bl, fEq_pair, fNe_pair, List.map, List.replicate, List.length_cons, List.length_nil, List.set_cons_zero, List.set_cons_succ, List.getElem?_cons_zero, List.getElem?_cons_succ, List.cons_append, List.nil_append, at_0, at_1, at_2, at_3, at_4, at_5, at_6, ix_0, ix_1, ix_2, put_same, put_put, decide_eq_true_eq, Bool.not_eq_true', decide_eq_false_iff_not, ite_not, ite_true, ite_false, if_true, if_false, Bool.false_eq_true, ↓reduceIte, reduceIte, Nat.reduceAdd, Nat.reduceSub, Int.reduceToNat, Nat.reduceLeDiff, not_false_eq_true, true_and, and_true, ne_eq, Int.reduceEq, Nat.zero_add, Bool.not_true, Bool.not_false, reduceCtorEq, nc0, nc1, nc2, nc3, nc4, nc5, fIx_ref put_same, fLen_ref put_same, ↓D3.lc3.eq_1, fInt, fTuple, fList, fNeS_s, fEqS_s, ↓D3.gstar3.eq_1, fInK_s, fNinK_s, fLenS_s, ↓D3.slcT3.eq_1, fCatT_t, dnew3]))
        exact k
      · (refine laterP_in ?_; repeat ((first | with_reducible refine laterP_i ?_ | with_reducible refine later_i ?_); try simp -implicitDefEqProofs -dsimp only [↓D3.seq3_stop, ↓D3.ifS3.eq_1, ↓D3.b3.eq_1, ↓D3.op3.eq_1, ↓D3.un3.eq_1, ↓D3.v3.eq_1, ↓D3.c3.eq_1, fIx_tup, fIx_lst, at3_0, at3_1, at3_2, at3_3, at3_4, at3_5, at3_6, start3, fI0_i, fI_i, fLt, fLe, fGt, fGe, fEqI, fNeI, fMin, fMax, ↓D3.asg3.eq_1, ↓D3.name3.eq_1, ↓D3.sub3.eq_1, ↓D3.ret3.eq_1, ↓D3.retN3.eq_1, ↓D3.nx3.eq_1, ↓D3.drop3.eq_1, ↓D3.par3.eq_1, ↓D3.aug3.eq_1, ↓D3.not3.eq_1, ↓D3.notV3.eq_1, ↓D3.if3.eq_1, ↓D3.nil3.eq_1, ↓D3.cons3.eq_1, ↓D3.tup3.eq_1, ↓D3.lst3.eq_1, ↓D3.lstM3.eq_1, ↓D3.gtup3.eq_1, ↓D3.gcons3.eq_1, ↓D3.gnil3.eq_1, ↓D3.gunl3.eq_1, ↓D3.bits3.eq_1, ↓D3.neg3.eq_1, ↓D3.chain3.eq_1, fIsi_int_int, fIsi_int_bool, fIsi_int_tuple, fIsi_int_str, fIsi_int_list, fIsi_bl_int, fIsi_bl_bool, fIsi_bl_tuple, fIsi_bl_str, fIsi_bl_list, fIsi_non_int, fIsi_non_bool, fIsi_non_tuple, fIsi_non_str, fIsi_non_list, fIsi_str_int, fIsi_str_bool, fIsi_str_tuple, fIsi_str_str, fIsi_str_list, fIsi_tup_int, fIsi_tup_bool, fIsi_tup_tuple, fIsi_tup_str, fIsi_tup_list, fIsi_lst_int, fIsi_lst_bool, fIsi_lst_tuple, fIsi_lst_str, fIsi_lst_list, fLen_lst, fLen_tup, fAbs, ↓D3.call3_k, ↓D3.kont_app, ↓D3.isN3.eq_1, ↓D3.notN3.eq_1, dIsN_non, dIsN_int, dIsN_bl, dIsN_str, dIsN_tup, dIsN_lst, ↓D3.slc3.eq_1, ↓D3.part3.eq_1, ↓D3.noPart3.eq_1, ↓D3.ilst3.eq_1, ↓D3.itup3.eq_1, ↓D3.irng1.eq_1, ↓D3.irng2.eq_1, ↓D3.for3.eq_1, fCat, fEq_int, fNe_int, fEq_bl, fNe_bl, fEq_pair, fNe_pair, List.map, List.replicate, List.length_cons, List.length_nil, List.set_cons_zero, List.set_cons_succ, List.getElem?_cons_zero, List.getElem?_cons_succ, List.cons_append, List.nil_append, at_0, at_1, at_2, at_3, at_4, at_5, at_6, ix_0, ix_1, ix_2, put_same, put_put, decide_eq_true_eq, Bool.not_eq_true', decide_eq_false_iff_not, ite_not, ite_true, ite_false, if_true, if_false, Bool.false_eq_true, ↓reduceIte, reduceIte, Nat.reduceAdd, Nat.reduceSub, Int.reduceToNat, Nat.reduceLeDiff, not_false_eq_true, true_and, and_true, ne_eq, Int.reduceEq, Nat.zero_add, Bool.not_true, Bool.not_false, reduceCtorEq, nc0, nc1, nc2, nc3, nc4, nc5, fIx_ref put_same, fLen_ref put_same, ↓D3.lc3.eq_1, fInt, fTuple, fList, fNeS_s, fEqS_s, ↓D3.gstar3.eq_1, fInK_s, fNinK_s, fLenS_s, ↓D3.slcT3.eq_1, fCatT_t, dnew3]))
        exact k
      refine ⟨d, i || decide (h = "limit"), by rw [show ((e + 1 : Nat) : Int) - 1 = (e : Nat) by omega], p1, by omega, ?_⟩
      cases hl : lim (tree e (i || decide (h = "limit")) d) with
      | none =>
        simp only [addUp, hl] at ha
        rw [← ha] at q
        (refine laterP_in ?_; repeat ((first | with_reducible refine laterP_i ?_ | with_reducible refine later_i ?_); try simp -implicitDefEqProofs -dsimp only [↓D3.seq3_stop, ↓D3.ifS3.eq_1, ↓D3.b3.eq_1, ↓D3.op3.eq_1, ↓D3.un3.eq_1, ↓D3.v3.eq_1, ↓D3.c3.eq_1, fIx_tup, fIx_lst, at3_0, at3_1, at3_2, at3_3, at3_4, at3_5, at3_6, start3, fI0_i, fI_i, fLt, fLe, fGt, fGe, fEqI, fNeI, fMin, fMax, ↓D3.asg3.eq_1, ↓D3.name3.eq_1, ↓D3.sub3.eq_1, ↓D3.ret3.eq_1, ↓D3.retN3.eq_1, ↓D3.nx3.eq_1, ↓D3.drop3.eq_1, ↓D3.par3.eq_1, ↓D3.aug3.eq_1, ↓D3.and3.eq_1, ↓D3.or3.eq_1, ↓D3.not3.eq_1, ↓D3.andV3.eq_1, ↓D3.orV3.eq_1, ↓D3.notV3.eq_1, ↓D3.if3.eq_1, ↓D3.nil3.eq_1, ↓D3.cons3.eq_1, ↓D3.tup3.eq_1, ↓D3.lst3.eq_1, ↓D3.lstM3.eq_1, ↓D3.gtup3.eq_1, ↓D3.gcons3.eq_1, ↓D3.gnil3.eq_1, ↓D3.gunl3.eq_1, ↓D3.bits3.eq_1, ↓D3.neg3.eq_1, ↓D3.chain3.eq_1, fIsi_int_int, fIsi_int_bool, fIsi_int_tuple, fIsi_int_str, fIsi_int_list, fIsi_bl_int, fIsi_bl_bool, fIsi_bl_tuple, fIsi_bl_str, fIsi_bl_list, fIsi_non_int, fIsi_non_bool, fIsi_non_tuple, fIsi_non_str, fIsi_non_list, fIsi_str_int, fIsi_str_bool, fIsi_str_tuple, fIsi_str_str, fIsi_str_list, fIsi_tup_int, fIsi_tup_bool, fIsi_tup_tuple, fIsi_tup_str, fIsi_tup_list, fIsi_lst_int, fIsi_lst_bool, fIsi_lst_tuple, fIsi_lst_str, fIsi_lst_list, fLen_lst, fLen_tup, fAbs, ↓D3.call3_k, ↓D3.kont_app, ↓D3.isN3.eq_1, ↓D3.notN3.eq_1, dIsN_non, dIsN_int, dIsN_bl, dIsN_str, dIsN_tup, dIsN_lst, ↓D3.slc3.eq_1, ↓D3.part3.eq_1, ↓D3.noPart3.eq_1, ↓D3.ilst3.eq_1, ↓D3.itup3.eq_1, ↓D3.irng1.eq_1, ↓D3.irng2.eq_1, ↓D3.for3.eq_1, fCat, fEq_int, fNe_int, fEq_bl, fNe_bl, fEq_pair, fNe_pair, List.map, List.replicate, List.length_cons, List.length_nil, List.set_cons_zero, List.set_cons_succ, List.getElem?_cons_zero, List.getElem?_cons_succ, List.cons_append, List.nil_append, at_0, at_1, at_2, at_3, at_4, at_5, at_6, ix_0, ix_1, ix_2, put_same, put_put, decide_eq_true_eq, Bool.not_eq_true', decide_eq_false_iff_not, ite_not, ite_true, ite_false, if_true, if_false, Bool.false_eq_true, ↓reduceIte, reduceIte, Nat.reduceAdd, Nat.reduceSub, Int.reduceToNat, Nat.reduceLeDiff, not_false_eq_true, true_and, and_true, ne_eq, Int.reduceEq, Nat.zero_add, Bool.not_true, Bool.not_false, reduceCtorEq, nc0, nc1, nc2, nc3, nc4, nc5, fIx_ref put_same, fLen_ref put_same, ↓D3.lc3.eq_1, fInt, fTuple, fList, fNeS_s, fEqS_s, ↓D3.gstar3.eq_1, fInK_s, fNinK_s, fLenS_s, ↓D3.slcT3.eq_1, fCatT_t, dnew3, oN]))
        exact q
      | some n =>
        simp only [addUp, hl] at ha
        (refine laterP_in ?_; repeat ((first | with_reducible refine laterP_i ?_ | with_reducible refine later_i ?_); try simp -implicitDefEqProofs -dsimp only [↓D3.seq3_stop, ↓D3.ifS3.eq_1, ↓D3.b3.eq_1, ↓D3.op3.eq_1, ↓D3.un3.eq_1, ↓D3.v3.eq_1, ↓D3.c3.eq_1, fIx_tup, fIx_lst, at3_0, at3_1, at3_2, at3_3, at3_4, at3_5, at3_6, start3, fI0_i, fI_i, fLt, fLe, fGt, fGe, fEqI, fNeI, fMin, fMax, ↓D3.asg3.eq_1, ↓D3.name3.eq_1, ↓D3.sub3.eq_1, ↓D3.ret3.eq_1, ↓D3.retN3.eq_1, ↓D3.nx3.eq_1, ↓D3.drop3.eq_1, ↓D3.par3.eq_1, ↓D3.aug3.eq_1, ↓D3.and3.eq_1, ↓D3.or3.eq_1, ↓D3.not3.eq_1, ↓D3.andV3.eq_1, ↓D3.orV3.eq_1, ↓D3.notV3.eq_1, ↓D3.if3.eq_1, ↓D3.nil3.eq_1, ↓D3.cons3.eq_1, ↓D3.tup3.eq_1, ↓D3.lst3.eq_1, ↓D3.lstM3.eq_1, ↓D3.gtup3.eq_1, ↓D3.gcons3.eq_1, ↓D3.gnil3.eq_1, ↓D3.gunl3.eq_1, ↓D3.bits3.eq_1, ↓D3.neg3.eq_1, ↓D3.chain3.eq_1, fIsi_int_int, fIsi_int_bool, fIsi_int_tuple, fIsi_int_str, fIsi_int_list, fIsi_bl_int, fIsi_bl_bool, fIsi_bl_tuple, fIsi_bl_str, fIsi_bl_list, fIsi_non_int, fIsi_non_bool, fIsi_non_tuple, fIsi_non_str, fIsi_non_list, fIsi_str_int, fIsi_str_bool, fIsi_str_tuple, fIsi_str_str, fIsi_str_list, fIsi_tup_int, fIsi_tup_bool, fIsi_tup_tuple, fIsi_tup_str, fIsi_tup_list, fIsi_lst_int, fIsi_lst_bool, fIsi_lst_tuple, fIsi_lst_str, fIsi_lst_list, fLen_lst, fLen_tup, fAbs, ↓D3.call3_k, ↓D3.kont_app, ↓D3.isN3.eq_1, ↓D3.notN3.eq_1, dIsN_non, dIsN_int, dIsN_bl, dIsN_str, dIsN_tup, dIsN_lst, ↓D3.slc3.eq_1, ↓D3.part3.eq_1, ↓D3.noPart3.eq_1, ↓D3.ilst3.eq_1, ↓D3.itup3.eq_1, ↓D3.irng1.eq_1, ↓D3.irng2.eq_1, ↓D3.for3.eq_1, fCat, fEq_int, fNe_int, fEq_bl, fNe_bl, fEq_pair, fNe_pair, List.map, List.replicate, List.length_cons, List.length_nil, List.set_cons_zero, List.set_cons_succ, List.getElem?_cons_zero, List.getElem?_cons_succ, List.cons_append, List.nil_append, at_0, at_1, at_2, at_3, at_4, at_5, at_6, ix_0, ix_1, ix_2, put_same, put_put, decide_eq_true_eq, Bool.not_eq_true', decide_eq_false_iff_not, ite_not, ite_true, ite_false, if_true, if_false, Bool.false_eq_true, ↓reduceIte, reduceIte, Nat.reduceAdd, Nat.reduceSub, Int.reduceToNat, Nat.reduceLeDiff, not_false_eq_true, true_and, and_true, ne_eq, Int.reduceEq, Nat.zero_add, Bool.not_true, Bool.not_false, reduceCtorEq, nc0, nc1, nc2, nc3, nc4, nc5, fIx_ref put_same, fLen_ref put_same, ↓D3.lc3.eq_1, fInt, fTuple, fList, fNeS_s, fEqS_s, ↓D3.gstar3.eq_1, fInK_s, fNinK_s, fLenS_s, ↓D3.slcT3.eq_1, fCatT_t, dnew3, oN]))
        refine ite2 (fun c => ?_) (fun c => ?_)
        · rw [if_pos (by omega)] at ha
          rw [← ha] at q
          exact q
        · rw [if_neg (by omega)] at ha
          (refine laterP_in ?_; repeat ((first | with_reducible refine laterP_i ?_ | with_reducible refine later_i ?_); try simp -implicitDefEqProofs -dsimp only [↓D3.seq3_stop, ↓D3.ifS3.eq_1, ↓D3.b3.eq_1, ↓D3.op3.eq_1, ↓D3.un3.eq_1, ↓D3.v3.eq_1, ↓D3.c3.eq_1, fIx_tup, fIx_lst, at3_0, at3_1, at3_2, at3_3, at3_4, at3_5, at3_6, start3, fI0_i, fI_i, fLt, fLe, fGt, fGe, fEqI, fNeI, fMin, fMax, ↓D3.asg3.eq_1, ↓D3.name3.eq_1, ↓D3.sub3.eq_1, ↓D3.ret3.eq_1, ↓D3.retN3.eq_1, ↓D3.nx3.eq_1, ↓D3.drop3.eq_1, ↓D3.par3.eq_1, ↓D3.aug3.eq_1, ↓D3.and3.eq_1, ↓D3.or3.eq_1, ↓D3.not3.eq_1, ↓D3.andV3.eq_1, ↓D3.orV3.eq_1, ↓D3.notV3.eq_1, ↓D3.if3.eq_1, ↓D3.nil3.eq_1, ↓D3.cons3.eq_1, ↓D3.tup3.eq_1, ↓D3.lst3.eq_1, ↓D3.lstM3.eq_1, ↓D3.gtup3.eq_1, ↓D3.gcons3.eq_1, ↓D3.gnil3.eq_1, ↓D3.gunl3.eq_1, ↓D3.bits3.eq_1, ↓D3.neg3.eq_1, ↓D3.chain3.eq_1, fIsi_int_int, fIsi_int_bool, fIsi_int_tuple, fIsi_int_str, fIsi_int_list, fIsi_bl_int, fIsi_bl_bool, fIsi_bl_tuple, fIsi_bl_str, fIsi_bl_list, fIsi_non_int, fIsi_non_bool, fIsi_non_tuple, fIsi_non_str, fIsi_non_list, fIsi_str_int, fIsi_str_bool, fIsi_str_tuple, fIsi_str_str, fIsi_str_list, fIsi_tup_int, fIsi_tup_bool, fIsi_tup_tuple, fIsi_tup_str, fIsi_tup_list, fIsi_lst_int, fIsi_lst_bool, fIsi_lst_tuple, fIsi_lst_str, fIsi_lst_list, fLen_lst, fLen_tup, fAbs, ↓D3.call3_k, ↓D3.kont_app, ↓D3.isN3.eq_1, ↓D3.notN3.eq_1, dIsN_non, dIsN_int, dIsN_bl, dIsN_str, dIsN_tup, dIsN_lst, ↓D3.slc3.eq_1, ↓D3.part3.eq_1, ↓D3.noPart3.eq_1, ↓D3.ilst3.eq_1, ↓D3.itup3.eq_1, ↓D3.irng1.eq_1, ↓D3.irng2.eq_1, ↓D3.for3.eq_1, fCat, fEq_int, fNe_int, fEq_bl, fNe_bl, fEq_pair, fNe_pair, List.map, List.replicate, List.length_cons, List.length_nil, List.set_cons_zero, List.set_cons_succ, List.getElem?_cons_zero, List.getElem?_cons_succ, List.cons_append, List.nil_append, at_0, at_1, at_2, at_3, at_4, at_5, at_6, ix_0, ix_1, ix_2, put_same, put_put, decide_eq_true_eq, Bool.not_eq_true', decide_eq_false_iff_not, ite_not, ite_true, ite_false, if_true, if_false, Bool.false_eq_true, ↓reduceIte, reduceIte, Nat.reduceAdd, Nat.reduceSub, Int.reduceToNat, Nat.reduceLeDiff, not_false_eq_true, true_and, and_true, ne_eq, Int.reduceEq, Nat.zero_add, Bool.not_true, Bool.not_false, reduceCtorEq, nc0, nc1, nc2, nc3, nc4, nc5, fIx_ref put_same, fLen_ref put_same, ↓D3.lc3.eq_1, fInt, fTuple, fList, fNeS_s, fEqS_s, ↓D3.gstar3.eq_1, fInK_s, fNinK_s, fLenS_s, ↓D3.slcT3.eq_1, fCatT_t, dnew3]))
          exact hnx _ _ ⟨rfl, fun x hx => hds x (List.mem_cons_of_mem _ hx), t + n, _, _, by rw [show ((t : Int) + (n : Int)) = ((t + n : Nat) : Int) by omega], by omega, ha⟩
    · rintro ρ m' ⟨rfl, _, t, x1, x2, rfl, ht, ha⟩
      (refine laterP_in ?_; repeat ((first | with_reducible refine laterP_i ?_ | with_reducible refine later_i ?_); try simp -implicitDefEqProofs -dsimp only [↓D3.seq3_stop, ↓D3.ifS3.eq_1, ↓D3.b3.eq_1, ↓D3.op3.eq_1, ↓D3.un3.eq_1, ↓D3.v3.eq_1, ↓D3.c3.eq_1, fIx_tup, fIx_lst, at3_0, at3_1, at3_2, at3_3, at3_4, at3_5, at3_6, start3, fI0_i, fI_i, fLt, fLe, fGt, fGe, fEqI, fNeI, fMin, fMax, ↓D3.asg3.eq_1, ↓D3.name3.eq_1, ↓D3.sub3.eq_1, ↓D3.ret3.eq_1, ↓D3.retN3.eq_1, ↓D3.nx3.eq_1, ↓D3.drop3.eq_1, ↓D3.par3.eq_1, ↓D3.aug3.eq_1, ↓D3.not3.eq_1, ↓D3.notV3.eq_1, ↓D3.if3.eq_1, ↓D3.nil3.eq_1, ↓D3.cons3.eq_1, ↓D3.tup3.eq_1, ↓D3.lst3.eq_1, ↓D3.lstM3.eq_1, ↓D3.gtup3.eq_1, ↓D3.gcons3.eq_1, ↓D3.gnil3.eq_1, ↓D3.gunl3.eq_1, ↓D3.bits3.eq_1, ↓D3.neg3.eq_1, ↓D3.chain3.eq_1, fIsi_int_int, fIsi_int_bool, fIsi_int_tuple, fIsi_int_str, fIsi_int_list, fIsi_bl_int, fIsi_bl_bool, fIsi_bl_tuple, fIsi_bl_str, fIsi_bl_list, fIsi_non_int, fIsi_non_bool, fIsi_non_tuple, fIsi_non_str, fIsi_non_list, fIsi_str_int, fIsi_str_bool, fIsi_str_tuple, fIsi_str_str, fIsi_str_list, fIsi_tup_int, fIsi_tup_bool, fIsi_tup_tuple, fIsi_tup_str, fIsi_tup_list, fIsi_lst_int, fIsi_lst_bool, fIsi_lst_tuple, fIsi_lst_str, fIsi_lst_list, fLen_lst, fLen_tup, fAbs, ↓D3.call3_k, ↓D3.kont_app, ↓D3.isN3.eq_1, ↓D3.notN3.eq_1, dIsN_non, dIsN_int, dIsN_bl, dIsN_str, dIsN_tup, dIsN_lst, ↓D3.slc3.eq_1, ↓D3.part3.eq_1, ↓D3.noPart3.eq_1, ↓D3.ilst3.eq_1, ↓D3.itup3.eq_1, ↓D3.irng1.eq_1, ↓D3.irng2.eq_1, ↓D3.for3.eq_1, fCat, fEq_int, fNe_int, fEq_bl, fNe_bl, fEq_pair, fNe_pair, List.map, List.replicate, List.length_cons, List.length_nil, List.set_cons_zero, List.set_cons_succ, List.getElem?_cons_zero, List.getElem?_cons_succ, List.cons_append, List.nil_append, at_0, at_1, at_2, at_3, at_4, at_5, at_6, ix_0, ix_1, ix_2, put_same, put_put, decide_eq_true_eq, Bool.not_eq_true', decide_eq_false_iff_not, ite_not, ite_true, ite_false, if_true, if_false, Bool.false_eq_true, ↓reduceIte, reduceIte, Nat.reduceAdd, Nat.reduceSub, Int.reduceToNat, Nat.reduceLeDiff, not_false_eq_true, true_and, and_true, ne_eq, Int.reduceEq, Nat.zero_add, Bool.not_true, Bool.not_false, reduceCtorEq, nc0, nc1, nc2, nc3, nc4, nc5, fIx_ref put_same, fLen_ref put_same, ↓D3.lc3.eq_1, fInt, fTuple, fList, fNeS_s, fEqS_s, ↓D3.gstar3.eq_1, fInK_s, fNinK_s, fLenS_s, ↓D3.slcT3.eq_1, fCatT_t, dnew3]))
      rw [← ha] at q
      exact q
theorem ok_cN (T : Tx w K mg fa fd) : ∀ e : Nat, Fn3 P w K mg base (e + 3) (fa 7) (fd 7) ["thing", "deep", "inside"] (sp_cN e)
  | 0 => fn_never
  | e + 1 => ok_cS T e (ok_cN T e)
def sp_counted : Sp3 := fun ds m P => ∃ d : D, ds = [d, .int 12, .bl false] ∧ Pl 900 d ∧ dp d ≤ 60 ∧ P (oN (lim (tree 12 false d))) m
theorem ok_counted (T : Tx w K mg fa fd) : Fn3 P w K mg base 16 (fa 7) (fd 7) ["thing", "deep", "inside"] sp_counted :=
  (ok_cN T 13).imp fun vs H Q E h => by
    obtain ⟨ds, m, P, h1, h2, ⟨d, e, k⟩, h4⟩ := h
    exact ⟨ds, m, P, h1, h2, ⟨d, false, e, k⟩, h4⟩
def sp_isterm : Sp3 := fun ds m P => ∃ d : D, ds = [d] ∧ Pl 900 d ∧ dp d ≤ 60 ∧ P (.bl (termD d)) m
theorem ok_is_term (T : Tx w K mg fa fd) : Fn3 P w K mg base 17 (fa 8) (fd 8) ["thing"] sp_isterm := by
  refine fn3 T.d_is_term.F sc_is_term (fun ds m Q h => by obtain ⟨_, rfl, _⟩ := h; rfl) fun cdv A outer s H E ds m Q hr h => ?_
  obtain ⟨d, rfl, hp, hd, q⟩ := h
  refine ⟨_, (ss_one (s_ret (e_notN (e_call T.d_counted (ok_counted T) (hr.mono (by omega)) rfl (a_cons (e_v 0) (a_cons (e_globI rfl T.c_MOST_DEEP) (a_cons e_bl a_nil))))))), ?_⟩
  try simp -implicitDefEqProofs -dsimp only [seq3, ↓D3.ifS3.eq_1, ↓D3.b3.eq_1, ↓D3.op3.eq_1, ↓D3.un3.eq_1, ↓D3.v3.eq_1, ↓D3.c3.eq_1, fIx_tup, fIx_lst, at3_0, at3_1, at3_2, at3_3, at3_4, at3_5, at3_6, start3, fI0_i, fI_i, fLt, fLe, fGt, fGe, fEqI, fNeI, fMin, fMax, ↓D3.asg3.eq_1, ↓D3.name3.eq_1, ↓D3.sub3.eq_1, ↓D3.ret3.eq_1, ↓D3.retN3.eq_1, ↓D3.nx3.eq_1, ↓D3.drop3.eq_1, ↓D3.par3.eq_1, ↓D3.aug3.eq_1, ↓D3.and3.eq_1, ↓D3.or3.eq_1, ↓D3.not3.eq_1, ↓D3.andV3.eq_1, ↓D3.orV3.eq_1, ↓D3.notV3.eq_1, ↓D3.if3.eq_1, ↓D3.nil3.eq_1, ↓D3.cons3.eq_1, ↓D3.tup3.eq_1, ↓D3.lst3.eq_1, ↓D3.lstM3.eq_1, ↓D3.gtup3.eq_1, ↓D3.gcons3.eq_1, ↓D3.gnil3.eq_1, ↓D3.gunl3.eq_1, ↓D3.bits3.eq_1, ↓D3.neg3.eq_1, ↓D3.chain3.eq_1, fIsi_int_int, fIsi_int_bool, fIsi_int_tuple, fIsi_int_str, fIsi_int_list, fIsi_bl_int, fIsi_bl_bool, fIsi_bl_tuple, fIsi_bl_str, fIsi_bl_list, fIsi_non_int, fIsi_non_bool, fIsi_non_tuple, fIsi_non_str, fIsi_non_list, fIsi_str_int, fIsi_str_bool, fIsi_str_tuple, fIsi_str_str, fIsi_str_list, fIsi_tup_int, fIsi_tup_bool, fIsi_tup_tuple, fIsi_tup_str, fIsi_tup_list, fIsi_lst_int, fIsi_lst_bool, fIsi_lst_tuple, fIsi_lst_str, fIsi_lst_list, fLen_lst, fLen_tup, fAbs, ↓D3.call3_k, ↓D3.kont_app, ↓D3.isN3.eq_1, ↓D3.notN3.eq_1, dIsN_non, dIsN_int, dIsN_bl, dIsN_str, dIsN_tup, dIsN_lst, ↓D3.slc3.eq_1, ↓D3.part3.eq_1, ↓D3.noPart3.eq_1, ↓D3.ilst3.eq_1, ↓D3.itup3.eq_1, ↓D3.irng1.eq_1, ↓D3.irng2.eq_1, ↓D3.for3.eq_1, fCat, fEq_int, fNe_int, fEq_bl, fNe_bl, fEq_pair, fNe_pair, List.map, List.replicate, List.length_cons, List.length_nil, List.set_cons_zero, List.set_cons_succ, List.getElem?_cons_zero, List.getElem?_cons_succ, List.cons_append, List.nil_append, at_0, at_1, at_2, at_3, at_4, at_5, at_6, ix_0, ix_1, ix_2, put_same, put_put, decide_eq_true_eq, Bool.not_eq_true', decide_eq_false_iff_not, ite_not, ite_true, ite_false, if_true, if_false, Bool.false_eq_true, ↓reduceIte, reduceIte, Nat.reduceAdd, Nat.reduceSub, Int.reduceToNat, Nat.reduceLeDiff, not_false_eq_true, true_and, and_true, ne_eq, Int.reduceEq, Nat.zero_add, Bool.not_true, Bool.not_false, reduceCtorEq, nc0, nc1, nc2, nc3, nc4, nc5, fIx_ref put_same, fLen_ref put_same, ↓D3.lc3.eq_1, fInt, fTuple, fList, fNeS_s, fEqS_s, ↓D3.gstar3.eq_1, fInK_s, fNinK_s, fLenS_s, ↓D3.slcT3.eq_1, fCatT_t, dnew3]
  refine ⟨d, rfl, hp, hd, ?_⟩
  unfold termD at q
  cases e : lim (tree 12 false d) with
  | none => rw [e] at q; (try simp -implicitDefEqProofs -dsimp only [seq3, ↓D3.ifS3.eq_1, ↓D3.b3.eq_1, ↓D3.op3.eq_1, ↓D3.un3.eq_1, ↓D3.v3.eq_1, ↓D3.c3.eq_1, fIx_tup, fIx_lst, at3_0, at3_1, at3_2, at3_3, at3_4, at3_5, at3_6, start3, fI0_i, fI_i, fLt, fLe, fGt, fGe, fEqI, fNeI, fMin, fMax, ↓D3.asg3.eq_1, ↓D3.name3.eq_1, ↓D3.sub3.eq_1, ↓D3.ret3.eq_1, ↓D3.retN3.eq_1, ↓D3.nx3.eq_1, ↓D3.drop3.eq_1, ↓D3.par3.eq_1, ↓D3.aug3.eq_1, ↓D3.and3.eq_1, ↓D3.or3.eq_1, ↓D3.not3.eq_1, ↓D3.andV3.eq_1, ↓D3.orV3.eq_1, ↓D3.notV3.eq_1, ↓D3.if3.eq_1, ↓D3.nil3.eq_1, ↓D3.cons3.eq_1, ↓D3.tup3.eq_1, ↓D3.lst3.eq_1, ↓D3.lstM3.eq_1, ↓D3.gtup3.eq_1, ↓D3.gcons3.eq_1, ↓D3.gnil3.eq_1, ↓D3.gunl3.eq_1, ↓D3.bits3.eq_1, ↓D3.neg3.eq_1, ↓D3.chain3.eq_1, fIsi_int_int, fIsi_int_bool, fIsi_int_tuple, fIsi_int_str, fIsi_int_list, fIsi_bl_int, fIsi_bl_bool, fIsi_bl_tuple, fIsi_bl_str, fIsi_bl_list, fIsi_non_int, fIsi_non_bool, fIsi_non_tuple, fIsi_non_str, fIsi_non_list, fIsi_str_int, fIsi_str_bool, fIsi_str_tuple, fIsi_str_str, fIsi_str_list, fIsi_tup_int, fIsi_tup_bool, fIsi_tup_tuple, fIsi_tup_str, fIsi_tup_list, fIsi_lst_int, fIsi_lst_bool, fIsi_lst_tuple, fIsi_lst_str, fIsi_lst_list, fLen_lst, fLen_tup, fAbs, ↓D3.call3_k, ↓D3.kont_app, ↓D3.isN3.eq_1, ↓D3.notN3.eq_1, dIsN_non, dIsN_int, dIsN_bl, dIsN_str, dIsN_tup, dIsN_lst, ↓D3.slc3.eq_1, ↓D3.part3.eq_1, ↓D3.noPart3.eq_1, ↓D3.ilst3.eq_1, ↓D3.itup3.eq_1, ↓D3.irng1.eq_1, ↓D3.irng2.eq_1, ↓D3.for3.eq_1, fCat, fEq_int, fNe_int, fEq_bl, fNe_bl, fEq_pair, fNe_pair, List.map, List.replicate, List.length_cons, List.length_nil, List.set_cons_zero, List.set_cons_succ, List.getElem?_cons_zero, List.getElem?_cons_succ, List.cons_append, List.nil_append, at_0, at_1, at_2, at_3, at_4, at_5, at_6, ix_0, ix_1, ix_2, put_same, put_put, decide_eq_true_eq, Bool.not_eq_true', decide_eq_false_iff_not, ite_not, ite_true, ite_false, if_true, if_false, Bool.false_eq_true, ↓reduceIte, reduceIte, Nat.reduceAdd, Nat.reduceSub, Int.reduceToNat, Nat.reduceLeDiff, not_false_eq_true, true_and, and_true, ne_eq, Int.reduceEq, Nat.zero_add, Bool.not_true, Bool.not_false, reduceCtorEq, nc0, nc1, nc2, nc3, nc4, nc5, fIx_ref put_same, fLen_ref put_same, ↓D3.lc3.eq_1, fInt, fTuple, fList, fNeS_s, fEqS_s, ↓D3.gstar3.eq_1, fInK_s, fNinK_s, fLenS_s, ↓D3.slcT3.eq_1, fCatT_t, dnew3, oN]); exact q
  | some n => rw [e] at q; (try simp -implicitDefEqProofs -dsimp only [seq3, ↓D3.ifS3.eq_1, ↓D3.b3.eq_1, ↓D3.op3.eq_1, ↓D3.un3.eq_1, ↓D3.v3.eq_1, ↓D3.c3.eq_1, fIx_tup, fIx_lst, at3_0, at3_1, at3_2, at3_3, at3_4, at3_5, at3_6, start3, fI0_i, fI_i, fLt, fLe, fGt, fGe, fEqI, fNeI, fMin, fMax, ↓D3.asg3.eq_1, ↓D3.name3.eq_1, ↓D3.sub3.eq_1, ↓D3.ret3.eq_1, ↓D3.retN3.eq_1, ↓D3.nx3.eq_1, ↓D3.drop3.eq_1, ↓D3.par3.eq_1, ↓D3.aug3.eq_1, ↓D3.and3.eq_1, ↓D3.or3.eq_1, ↓D3.not3.eq_1, ↓D3.andV3.eq_1, ↓D3.orV3.eq_1, ↓D3.notV3.eq_1, ↓D3.if3.eq_1, ↓D3.nil3.eq_1, ↓D3.cons3.eq_1, ↓D3.tup3.eq_1, ↓D3.lst3.eq_1, ↓D3.lstM3.eq_1, ↓D3.gtup3.eq_1, ↓D3.gcons3.eq_1, ↓D3.gnil3.eq_1, ↓D3.gunl3.eq_1, ↓D3.bits3.eq_1, ↓D3.neg3.eq_1, ↓D3.chain3.eq_1, fIsi_int_int, fIsi_int_bool, fIsi_int_tuple, fIsi_int_str, fIsi_int_list, fIsi_bl_int, fIsi_bl_bool, fIsi_bl_tuple, fIsi_bl_str, fIsi_bl_list, fIsi_non_int, fIsi_non_bool, fIsi_non_tuple, fIsi_non_str, fIsi_non_list, fIsi_str_int, fIsi_str_bool, fIsi_str_tuple, fIsi_str_str, fIsi_str_list, fIsi_tup_int, fIsi_tup_bool, fIsi_tup_tuple, fIsi_tup_str, fIsi_tup_list, fIsi_lst_int, fIsi_lst_bool, fIsi_lst_tuple, fIsi_lst_str, fIsi_lst_list, fLen_lst, fLen_tup, fAbs, ↓D3.call3_k, ↓D3.kont_app, ↓D3.isN3.eq_1, ↓D3.notN3.eq_1, dIsN_non, dIsN_int, dIsN_bl, dIsN_str, dIsN_tup, dIsN_lst, ↓D3.slc3.eq_1, ↓D3.part3.eq_1, ↓D3.noPart3.eq_1, ↓D3.ilst3.eq_1, ↓D3.itup3.eq_1, ↓D3.irng1.eq_1, ↓D3.irng2.eq_1, ↓D3.for3.eq_1, fCat, fEq_int, fNe_int, fEq_bl, fNe_bl, fEq_pair, fNe_pair, List.map, List.replicate, List.length_cons, List.length_nil, List.set_cons_zero, List.set_cons_succ, List.getElem?_cons_zero, List.getElem?_cons_succ, List.cons_append, List.nil_append, at_0, at_1, at_2, at_3, at_4, at_5, at_6, ix_0, ix_1, ix_2, put_same, put_put, decide_eq_true_eq, Bool.not_eq_true', decide_eq_false_iff_not, ite_not, ite_true, ite_false, if_true, if_false, Bool.false_eq_true, ↓reduceIte, reduceIte, Nat.reduceAdd, Nat.reduceSub, Int.reduceToNat, Nat.reduceLeDiff, not_false_eq_true, true_and, and_true, ne_eq, Int.reduceEq, Nat.zero_add, Bool.not_true, Bool.not_false, reduceCtorEq, nc0, nc1, nc2, nc3, nc4, nc5, fIx_ref put_same, fLen_ref put_same, ↓D3.lc3.eq_1, fInt, fTuple, fList, fNeS_s, fEqS_s, ↓D3.gstar3.eq_1, fInK_s, fNinK_s, fLenS_s, ↓D3.slcT3.eq_1, fCatT_t, dnew3, oN]); exact q
def sp_frac : Sp3 := fun ds m P => ∃ a b : Int, ds = [.int a, .int b] ∧ b ≠ 0 ∧ a.natAbs < 2 ^ 4000 ∧ b.natAbs < 2 ^ 4000 ∧ P (qD (Rat.divInt a b)) m
theorem qD_fd {a b g : Int} (hb : 0 < b) (hg : g = (Int.gcd a b : Nat)) (hl : b.natAbs < 2 ^ 4000) : 0 < g ∧ g.natAbs < 2 ^ 4000 ∧ qD (Rat.divInt a b) = .tup [.int (a / g), .int (b / g)] := by
  obtain ⟨g0, e1, e2, e3, _, _⟩ := frac_div (by omega) hg
  have hu : 0 < b / g := Int.ediv_pos_of_pos_of_dvd hb (by omega) ⟨b / g, by rw [Int.mul_comm]; exact e2.symm⟩
  refine ⟨g0, ?_, ?_⟩
  · have : g.natAbs ≤ b.natAbs := by
      conv => rhs; rw [← e2]
      rw [Int.natAbs_mul]
      exact Nat.le_mul_of_pos_left _ (by omega)
    omega
  · obtain ⟨h1, h2⟩ := rat_of (a := a) (b := b) (t := a / g) (u := b / g) (by omega) hu (by
      conv => lhs; rw [← e2]
      conv => rhs; rw [← e1]
      grind) e3
    unfold qD
    rw [← h1, ← h2]
theorem ok_fraction (T : Tx w K mg fa fd) : Fn3 P w K mg base 2 (fa 2) (fd 2) ["top", "bottom"] sp_frac := by
  refine fn3 T.d_fraction.F sc_fraction (fun ds m Q h => by obtain ⟨_, _, rfl, _⟩ := h; rfl) fun cdv A outer s H E ds m Q hr h => ?_
  obtain ⟨a, b, rfl, hb, la, lb, q⟩ := h
  refine ⟨_, (ss_cons (s_if (t_lt (e_v 1) e_int) (ss_one (s_par (i := 0) (j := 1) rfl sc_fraction.nd rfl rfl (by decide) rfl rfl (a_cons (e_sub e_int (e_v 0)) (a_cons (e_sub e_int (e_v 1)) a_nil)) (by rfl))) ss_nil)
      (ss_cons (s_set (i := 2) sc_fraction.nd (e_call T.d_divisor (ok_divisor T) (hr.mono (by omega)) rfl (a_cons (e_abs rfl T.b_abs (e_v 0)) (a_cons (e_v 1) a_nil))))
      (ss_one (s_ret (e_tup (a_cons (e_fdiv (e_v 0) (e_v 2)) (a_cons (e_fdiv (e_v 1) (e_v 2)) a_nil))))))), ?_⟩
  refine seq3_cut (fun ρ m' => m' = m ∧ ∃ a' b' : Int, ρ = [some (.int a'), some (.int b'), none] ∧ 0 < b' ∧ a'.natAbs < 2 ^ 4000 ∧ b'.natAbs < 2 ^ 4000 ∧ Rat.divInt a' b' = Rat.divInt a b) ?_ (fun nx hnx => ?_)
  rotate_left
  · (refine laterP_in ?_; repeat ((first | with_reducible refine laterP_i ?_ | with_reducible refine later_i ?_); try simp -implicitDefEqProofs -dsimp only [↓D3.seq3_stop, ↓D3.ifS3.eq_1, ↓D3.b3.eq_1, ↓D3.op3.eq_1, ↓D3.un3.eq_1, ↓D3.v3.eq_1, ↓D3.c3.eq_1, fIx_tup, fIx_lst, at3_0, at3_1, at3_2, at3_3, at3_4, at3_5, at3_6, start3, fI0_i, fI_i, fLt, fLe, fGt, fGe, fEqI, fNeI, fMin, fMax, ↓D3.asg3.eq_1, ↓D3.name3.eq_1, ↓D3.sub3.eq_1, ↓D3.ret3.eq_1, ↓D3.retN3.eq_1, ↓D3.nx3.eq_1, ↓D3.drop3.eq_1, ↓D3.par3.eq_1, ↓D3.aug3.eq_1, ↓D3.and3.eq_1, ↓D3.or3.eq_1, ↓D3.not3.eq_1, ↓D3.andV3.eq_1, ↓D3.orV3.eq_1, ↓D3.notV3.eq_1, ↓D3.if3.eq_1, ↓D3.nil3.eq_1, ↓D3.cons3.eq_1, ↓D3.tup3.eq_1, ↓D3.lst3.eq_1, ↓D3.lstM3.eq_1, ↓D3.gtup3.eq_1, ↓D3.gcons3.eq_1, ↓D3.gnil3.eq_1, ↓D3.gunl3.eq_1, ↓D3.bits3.eq_1, ↓D3.neg3.eq_1, ↓D3.chain3.eq_1, fIsi_int_int, fIsi_int_bool, fIsi_int_tuple, fIsi_int_str, fIsi_int_list, fIsi_bl_int, fIsi_bl_bool, fIsi_bl_tuple, fIsi_bl_str, fIsi_bl_list, fIsi_non_int, fIsi_non_bool, fIsi_non_tuple, fIsi_non_str, fIsi_non_list, fIsi_str_int, fIsi_str_bool, fIsi_str_tuple, fIsi_str_str, fIsi_str_list, fIsi_tup_int, fIsi_tup_bool, fIsi_tup_tuple, fIsi_tup_str, fIsi_tup_list, fIsi_lst_int, fIsi_lst_bool, fIsi_lst_tuple, fIsi_lst_str, fIsi_lst_list, fLen_lst, fLen_tup, fAbs, ↓D3.call3_k, ↓D3.kont_app, ↓D3.isN3.eq_1, ↓D3.notN3.eq_1, dIsN_non, dIsN_int, dIsN_bl, dIsN_str, dIsN_tup, dIsN_lst, ↓D3.slc3.eq_1, ↓D3.part3.eq_1, ↓D3.noPart3.eq_1, ↓D3.ilst3.eq_1, ↓D3.itup3.eq_1, ↓D3.irng1.eq_1, ↓D3.irng2.eq_1, ↓D3.for3.eq_1, fCat, fEq_int, fNe_int, fEq_bl, fNe_bl, fEq_pair, fNe_pair, List.map, List.replicate, List.length_cons, List.length_nil, List.set_cons_zero, List.set_cons_succ, List.getElem?_cons_zero, List.getElem?_cons_succ, List.cons_append, List.nil_append, at_0, at_1, at_2, at_3, at_4, at_5, at_6, ix_0, ix_1, ix_2, put_same, put_put, decide_eq_true_eq, Bool.not_eq_true', decide_eq_false_iff_not, ite_not, ite_true, ite_false, if_true, if_false, Bool.false_eq_true, ↓reduceIte, reduceIte, Nat.reduceAdd, Nat.reduceSub, Int.reduceToNat, Nat.reduceLeDiff, not_false_eq_true, true_and, and_true, ne_eq, Int.reduceEq, Nat.zero_add, Bool.not_true, Bool.not_false, reduceCtorEq, nc0, nc1, nc2, nc3, nc4, nc5, fIx_ref put_same, fLen_ref put_same, ↓D3.lc3.eq_1, fInt, fTuple, fList, fNeS_s, fEqS_s, ↓D3.gstar3.eq_1, fInK_s, fNinK_s, fLenS_s, ↓D3.slcT3.eq_1, fCatT_t, dnew3]))
    refine ite2 (fun h => ?_) (fun h => ?_)
    · (refine laterP_in ?_; repeat ((first | with_reducible refine laterP_i ?_ | with_reducible refine later_i ?_); try simp -implicitDefEqProofs -dsimp only [↓D3.seq3_stop, ↓D3.ifS3.eq_1, ↓D3.b3.eq_1, ↓D3.op3.eq_1, ↓D3.un3.eq_1, ↓D3.v3.eq_1, ↓D3.c3.eq_1, fIx_tup, fIx_lst, at3_0, at3_1, at3_2, at3_3, at3_4, at3_5, at3_6, start3, fI0_i, fI_i, fLt, fLe, fGt, fGe, fEqI, fNeI, fMin, fMax, ↓D3.asg3.eq_1, ↓D3.name3.eq_1, ↓D3.sub3.eq_1, ↓D3.ret3.eq_1, ↓D3.retN3.eq_1, ↓D3.nx3.eq_1, ↓D3.drop3.eq_1, ↓D3.par3.eq_1, ↓D3.aug3.eq_1, ↓D3.and3.eq_1, ↓D3.or3.eq_1, ↓D3.not3.eq_1, ↓D3.andV3.eq_1, ↓D3.orV3.eq_1, ↓D3.notV3.eq_1, ↓D3.if3.eq_1, ↓D3.nil3.eq_1, ↓D3.cons3.eq_1, ↓D3.tup3.eq_1, ↓D3.lst3.eq_1, ↓D3.lstM3.eq_1, ↓D3.gtup3.eq_1, ↓D3.gcons3.eq_1, ↓D3.gnil3.eq_1, ↓D3.gunl3.eq_1, ↓D3.bits3.eq_1, ↓D3.neg3.eq_1, ↓D3.chain3.eq_1, fIsi_int_int, fIsi_int_bool, fIsi_int_tuple, fIsi_int_str, fIsi_int_list, fIsi_bl_int, fIsi_bl_bool, fIsi_bl_tuple, fIsi_bl_str, fIsi_bl_list, fIsi_non_int, fIsi_non_bool, fIsi_non_tuple, fIsi_non_str, fIsi_non_list, fIsi_str_int, fIsi_str_bool, fIsi_str_tuple, fIsi_str_str, fIsi_str_list, fIsi_tup_int, fIsi_tup_bool, fIsi_tup_tuple, fIsi_tup_str, fIsi_tup_list, fIsi_lst_int, fIsi_lst_bool, fIsi_lst_tuple, fIsi_lst_str, fIsi_lst_list, fLen_lst, fLen_tup, fAbs, ↓D3.call3_k, ↓D3.kont_app, ↓D3.isN3.eq_1, ↓D3.notN3.eq_1, dIsN_non, dIsN_int, dIsN_bl, dIsN_str, dIsN_tup, dIsN_lst, ↓D3.slc3.eq_1, ↓D3.part3.eq_1, ↓D3.noPart3.eq_1, ↓D3.ilst3.eq_1, ↓D3.itup3.eq_1, ↓D3.irng1.eq_1, ↓D3.irng2.eq_1, ↓D3.for3.eq_1, fCat, fEq_int, fNe_int, fEq_bl, fNe_bl, fEq_pair, fNe_pair, List.map, List.replicate, List.length_cons, List.length_nil, List.set_cons_zero, List.set_cons_succ, List.getElem?_cons_zero, List.getElem?_cons_succ, List.cons_append, List.nil_append, at_0, at_1, at_2, at_3, at_4, at_5, at_6, ix_0, ix_1, ix_2, put_same, put_put, decide_eq_true_eq, Bool.not_eq_true', decide_eq_false_iff_not, ite_not, ite_true, ite_false, if_true, if_false, Bool.false_eq_true, ↓reduceIte, reduceIte, Nat.reduceAdd, Nat.reduceSub, Int.reduceToNat, Nat.reduceLeDiff, not_false_eq_true, true_and, and_true, ne_eq, Int.reduceEq, Nat.zero_add, Bool.not_true, Bool.not_false, reduceCtorEq, nc0, nc1, nc2, nc3, nc4, nc5, fIx_ref put_same, fLen_ref put_same, ↓D3.lc3.eq_1, fInt, fTuple, fList, fNeS_s, fEqS_s, ↓D3.gstar3.eq_1, fInK_s, fNinK_s, fLenS_s, ↓D3.slcT3.eq_1, fCatT_t, dnew3]))
      exact hnx _ _ ⟨rfl, 0 - a, 0 - b, rfl, by omega, by omega, by omega, by rw [Int.zero_sub, Int.zero_sub, Rat.neg_divInt_neg]⟩
    · (refine laterP_in ?_; repeat ((first | with_reducible refine laterP_i ?_ | with_reducible refine later_i ?_); try simp -implicitDefEqProofs -dsimp only [↓D3.seq3_stop, ↓D3.ifS3.eq_1, ↓D3.b3.eq_1, ↓D3.op3.eq_1, ↓D3.un3.eq_1, ↓D3.v3.eq_1, ↓D3.c3.eq_1, fIx_tup, fIx_lst, at3_0, at3_1, at3_2, at3_3, at3_4, at3_5, at3_6, start3, fI0_i, fI_i, fLt, fLe, fGt, fGe, fEqI, fNeI, fMin, fMax, ↓D3.asg3.eq_1, ↓D3.name3.eq_1, ↓D3.sub3.eq_1, ↓D3.ret3.eq_1, ↓D3.retN3.eq_1, ↓D3.nx3.eq_1, ↓D3.drop3.eq_1, ↓D3.par3.eq_1, ↓D3.aug3.eq_1, ↓D3.and3.eq_1, ↓D3.or3.eq_1, ↓D3.not3.eq_1, ↓D3.andV3.eq_1, ↓D3.orV3.eq_1, ↓D3.notV3.eq_1, ↓D3.if3.eq_1, ↓D3.nil3.eq_1, ↓D3.cons3.eq_1, ↓D3.tup3.eq_1, ↓D3.lst3.eq_1, ↓D3.lstM3.eq_1, ↓D3.gtup3.eq_1, ↓D3.gcons3.eq_1, ↓D3.gnil3.eq_1, ↓D3.gunl3.eq_1, ↓D3.bits3.eq_1, ↓D3.neg3.eq_1, ↓D3.chain3.eq_1, fIsi_int_int, fIsi_int_bool, fIsi_int_tuple, fIsi_int_str, fIsi_int_list, fIsi_bl_int, fIsi_bl_bool, fIsi_bl_tuple, fIsi_bl_str, fIsi_bl_list, fIsi_non_int, fIsi_non_bool, fIsi_non_tuple, fIsi_non_str, fIsi_non_list, fIsi_str_int, fIsi_str_bool, fIsi_str_tuple, fIsi_str_str, fIsi_str_list, fIsi_tup_int, fIsi_tup_bool, fIsi_tup_tuple, fIsi_tup_str, fIsi_tup_list, fIsi_lst_int, fIsi_lst_bool, fIsi_lst_tuple, fIsi_lst_str, fIsi_lst_list, fLen_lst, fLen_tup, fAbs, ↓D3.call3_k, ↓D3.kont_app, ↓D3.isN3.eq_1, ↓D3.notN3.eq_1, dIsN_non, dIsN_int, dIsN_bl, dIsN_str, dIsN_tup, dIsN_lst, ↓D3.slc3.eq_1, ↓D3.part3.eq_1, ↓D3.noPart3.eq_1, ↓D3.ilst3.eq_1, ↓D3.itup3.eq_1, ↓D3.irng1.eq_1, ↓D3.irng2.eq_1, ↓D3.for3.eq_1, fCat, fEq_int, fNe_int, fEq_bl, fNe_bl, fEq_pair, fNe_pair, List.map, List.replicate, List.length_cons, List.length_nil, List.set_cons_zero, List.set_cons_succ, List.getElem?_cons_zero, List.getElem?_cons_succ, List.cons_append, List.nil_append, at_0, at_1, at_2, at_3, at_4, at_5, at_6, ix_0, ix_1, ix_2, put_same, put_put, decide_eq_true_eq, Bool.not_eq_true', decide_eq_false_iff_not, ite_not, ite_true, ite_false, if_true, if_false, Bool.false_eq_true, ↓reduceIte, reduceIte, Nat.reduceAdd, Nat.reduceSub, Int.reduceToNat, Nat.reduceLeDiff, not_false_eq_true, true_and, and_true, ne_eq, Int.reduceEq, Nat.zero_add, Bool.not_true, Bool.not_false, reduceCtorEq, nc0, nc1, nc2, nc3, nc4, nc5, fIx_ref put_same, fLen_ref put_same, ↓D3.lc3.eq_1, fInt, fTuple, fList, fNeS_s, fEqS_s, ↓D3.gstar3.eq_1, fInK_s, fNinK_s, fLenS_s, ↓D3.slcT3.eq_1, fCatT_t, dnew3]))
      exact hnx _ _ ⟨rfl, a, b, rfl, by omega, la, lb, rfl⟩
  · rintro ρ m' ⟨rfl, a', b', rfl, hb', la', lb', e⟩
    rw [← e] at q
    (refine laterP_in ?_; repeat ((first | with_reducible refine laterP_i ?_ | with_reducible refine later_i ?_); try simp -implicitDefEqProofs -dsimp only [↓D3.seq3_stop, ↓D3.ifS3.eq_1, ↓D3.b3.eq_1, ↓D3.op3.eq_1, ↓D3.un3.eq_1, ↓D3.v3.eq_1, ↓D3.c3.eq_1, fIx_tup, fIx_lst, at3_0, at3_1, at3_2, at3_3, at3_4, at3_5, at3_6, start3, fI0_i, fI_i, fLt, fLe, fGt, fGe, fEqI, fNeI, fMin, fMax, ↓D3.asg3.eq_1, ↓D3.name3.eq_1, ↓D3.sub3.eq_1, ↓D3.ret3.eq_1, ↓D3.retN3.eq_1, ↓D3.nx3.eq_1, ↓D3.drop3.eq_1, ↓D3.par3.eq_1, ↓D3.aug3.eq_1, ↓D3.and3.eq_1, ↓D3.or3.eq_1, ↓D3.not3.eq_1, ↓D3.andV3.eq_1, ↓D3.orV3.eq_1, ↓D3.notV3.eq_1, ↓D3.if3.eq_1, ↓D3.nil3.eq_1, ↓D3.cons3.eq_1, ↓D3.tup3.eq_1, ↓D3.lst3.eq_1, ↓D3.lstM3.eq_1, ↓D3.gtup3.eq_1, ↓D3.gcons3.eq_1, ↓D3.gnil3.eq_1, ↓D3.gunl3.eq_1, ↓D3.bits3.eq_1, ↓D3.neg3.eq_1, ↓D3.chain3.eq_1, fIsi_int_int, fIsi_int_bool, fIsi_int_tuple, fIsi_int_str, fIsi_int_list, fIsi_bl_int, fIsi_bl_bool, fIsi_bl_tuple, fIsi_bl_str, fIsi_bl_list, fIsi_non_int, fIsi_non_bool, fIsi_non_tuple, fIsi_non_str, fIsi_non_list, fIsi_str_int, fIsi_str_bool, fIsi_str_tuple, fIsi_str_str, fIsi_str_list, fIsi_tup_int, fIsi_tup_bool, fIsi_tup_tuple, fIsi_tup_str, fIsi_tup_list, fIsi_lst_int, fIsi_lst_bool, fIsi_lst_tuple, fIsi_lst_str, fIsi_lst_list, fLen_lst, fLen_tup, fAbs, ↓D3.call3_k, ↓D3.kont_app, ↓D3.isN3.eq_1, ↓D3.notN3.eq_1, dIsN_non, dIsN_int, dIsN_bl, dIsN_str, dIsN_tup, dIsN_lst, ↓D3.slc3.eq_1, ↓D3.part3.eq_1, ↓D3.noPart3.eq_1, ↓D3.ilst3.eq_1, ↓D3.itup3.eq_1, ↓D3.irng1.eq_1, ↓D3.irng2.eq_1, ↓D3.for3.eq_1, fCat, fEq_int, fNe_int, fEq_bl, fNe_bl, fEq_pair, fNe_pair, List.map, List.replicate, List.length_cons, List.length_nil, List.set_cons_zero, List.set_cons_succ, List.getElem?_cons_zero, List.getElem?_cons_succ, List.cons_append, List.nil_append, at_0, at_1, at_2, at_3, at_4, at_5, at_6, ix_0, ix_1, ix_2, put_same, put_put, decide_eq_true_eq, Bool.not_eq_true', decide_eq_false_iff_not, ite_not, ite_true, ite_false, if_true, if_false, Bool.false_eq_true, ↓reduceIte, reduceIte, Nat.reduceAdd, Nat.reduceSub, Int.reduceToNat, Nat.reduceLeDiff, not_false_eq_true, true_and, and_true, ne_eq, Int.reduceEq, Nat.zero_add, Bool.not_true, Bool.not_false, reduceCtorEq, nc0, nc1, nc2, nc3, nc4, nc5, fIx_ref put_same, fLen_ref put_same, ↓D3.lc3.eq_1, fInt, fTuple, fList, fNeS_s, fEqS_s, ↓D3.gstar3.eq_1, fInK_s, fNinK_s, fLenS_s, ↓D3.slcT3.eq_1, fCatT_t, dnew3]))
    refine ⟨_, _, rfl, by split <;> omega, by omega, ?_⟩
    have eg : Int.gcd (if a' < 0 then -a' else a') b' = Int.gcd a' b' := by split <;> simp
    rw [eg]
    obtain ⟨g0, g1, ed⟩ := qD_fd (a := a') hb' rfl lb'
    rw [ed] at q
    (refine laterP_in ?_; repeat ((first | with_reducible refine laterP_i ?_ | with_reducible refine later_i ?_); try simp -implicitDefEqProofs -dsimp only [↓D3.seq3_stop, ↓D3.ifS3.eq_1, ↓D3.b3.eq_1, ↓D3.op3.eq_1, ↓D3.un3.eq_1, ↓D3.v3.eq_1, ↓D3.c3.eq_1, fIx_tup, fIx_lst, at3_0, at3_1, at3_2, at3_3, at3_4, at3_5, at3_6, start3, fI0_i, fI_i, fLt, fLe, fGt, fGe, fEqI, fNeI, fMin, fMax, ↓D3.asg3.eq_1, ↓D3.name3.eq_1, ↓D3.sub3.eq_1, ↓D3.ret3.eq_1, ↓D3.retN3.eq_1, ↓D3.nx3.eq_1, ↓D3.drop3.eq_1, ↓D3.par3.eq_1, ↓D3.aug3.eq_1, ↓D3.and3.eq_1, ↓D3.or3.eq_1, ↓D3.not3.eq_1, ↓D3.andV3.eq_1, ↓D3.orV3.eq_1, ↓D3.notV3.eq_1, ↓D3.if3.eq_1, ↓D3.nil3.eq_1, ↓D3.cons3.eq_1, ↓D3.tup3.eq_1, ↓D3.lst3.eq_1, ↓D3.lstM3.eq_1, ↓D3.gtup3.eq_1, ↓D3.gcons3.eq_1, ↓D3.gnil3.eq_1, ↓D3.gunl3.eq_1, ↓D3.bits3.eq_1, ↓D3.neg3.eq_1, ↓D3.chain3.eq_1, fIsi_int_int, fIsi_int_bool, fIsi_int_tuple, fIsi_int_str, fIsi_int_list, fIsi_bl_int, fIsi_bl_bool, fIsi_bl_tuple, fIsi_bl_str, fIsi_bl_list, fIsi_non_int, fIsi_non_bool, fIsi_non_tuple, fIsi_non_str, fIsi_non_list, fIsi_str_int, fIsi_str_bool, fIsi_str_tuple, fIsi_str_str, fIsi_str_list, fIsi_tup_int, fIsi_tup_bool, fIsi_tup_tuple, fIsi_tup_str, fIsi_tup_list, fIsi_lst_int, fIsi_lst_bool, fIsi_lst_tuple, fIsi_lst_str, fIsi_lst_list, fLen_lst, fLen_tup, fAbs, ↓D3.call3_k, ↓D3.kont_app, ↓D3.isN3.eq_1, ↓D3.notN3.eq_1, dIsN_non, dIsN_int, dIsN_bl, dIsN_str, dIsN_tup, dIsN_lst, ↓D3.slc3.eq_1, ↓D3.part3.eq_1, ↓D3.noPart3.eq_1, ↓D3.ilst3.eq_1, ↓D3.itup3.eq_1, ↓D3.irng1.eq_1, ↓D3.irng2.eq_1, ↓D3.for3.eq_1, fCat, fEq_int, fNe_int, fEq_bl, fNe_bl, fEq_pair, fNe_pair, List.map, List.replicate, List.length_cons, List.length_nil, List.set_cons_zero, List.set_cons_succ, List.getElem?_cons_zero, List.getElem?_cons_succ, List.cons_append, List.nil_append, at_0, at_1, at_2, at_3, at_4, at_5, at_6, ix_0, ix_1, ix_2, put_same, put_put, decide_eq_true_eq, Bool.not_eq_true', decide_eq_false_iff_not, ite_not, ite_true, ite_false, if_true, if_false, Bool.false_eq_true, ↓reduceIte, reduceIte, Nat.reduceAdd, Nat.reduceSub, Int.reduceToNat, Nat.reduceLeDiff, not_false_eq_true, true_and, and_true, ne_eq, Int.reduceEq, Nat.zero_add, Bool.not_true, Bool.not_false, reduceCtorEq, nc0, nc1, nc2, nc3, nc4, nc5, fIx_ref put_same, fLen_ref put_same, ↓D3.lc3.eq_1, fInt, fTuple, fList, fNeS_s, fEqS_s, ↓D3.gstar3.eq_1, fInK_s, fNinK_s, fLenS_s, ↓D3.slcT3.eq_1, fCatT_t, dnew3]))
    refine ⟨c_fdiv g0 g1 (by decide) (by decide), c_fdiv g0 g1 (by decide) (by decide), ?_⟩
    rw [fdiv_e a' g0, fdiv_e b' g0]
    exact q
def sp_plain2 : Sp3 := fun ds m P => ∃ (k : Str) (p q : Rat), ds = [.str k, qD p, qD q] ∧ k ∈ K2 ∧ Sm 1535 p ∧ Sm 1535 q ∧ P (oQ (op2 k (some p) (some q))) m
theorem ok_plain_of_two (T : Tx w K mg fa fd) : Fn3 P w K mg base 3 (fa 9) (fd 9) ["kind", "one", "other"] sp_plain2 := by
  refine fn3 T.d_plain_of_two.F sc_plain_of_two (fun ds m Q h => by obtain ⟨_, _, _, rfl, _⟩ := h; rfl) fun cdv A outer s H E ds m Q hr h => ?_
  obtain ⟨k, p, r, rfl, hk, hp, hr', q⟩ := h
  refine ⟨_, (ss_cons (s_if (t_eqS (e_v 0) e_str) (ss_one (s_ret (e_call T.d_fraction (ok_fraction T) (hr.mono (by omega)) rfl (a_cons (e_add (e_mul (e_ix (e_v 1) e_int) (e_ix (e_v 2) e_int)) (e_mul (e_ix (e_v 2) e_int) (e_ix (e_v 1) e_int))) (a_cons (e_mul (e_ix (e_v 1) e_int) (e_ix (e_v 2) e_int)) a_nil))))) ss_nil)
      (ss_cons (s_if (t_eqS (e_v 0) e_str) (ss_one (s_ret (e_call T.d_fraction (ok_fraction T) (hr.mono (by omega)) rfl (a_cons (e_sub (e_mul (e_ix (e_v 1) e_int) (e_ix (e_v 2) e_int)) (e_mul (e_ix (e_v 2) e_int) (e_ix (e_v 1) e_int))) (a_cons (e_mul (e_ix (e_v 1) e_int) (e_ix (e_v 2) e_int)) a_nil))))) ss_nil)
      (ss_cons (s_if (t_eqS (e_v 0) e_str) (ss_one (s_ret (e_call T.d_fraction (ok_fraction T) (hr.mono (by omega)) rfl (a_cons (e_mul (e_ix (e_v 1) e_int) (e_ix (e_v 2) e_int)) (a_cons (e_mul (e_ix (e_v 1) e_int) (e_ix (e_v 2) e_int)) a_nil))))) ss_nil)
      (ss_cons (s_if (t_eqS (e_v 0) e_str) (ss_cons (s_if (t_eqI (e_ix (e_v 2) e_int) e_int) (ss_one (s_ret e_non)) ss_nil)
      (ss_one (s_ret (e_call T.d_fraction (ok_fraction T) (hr.mono (by omega)) rfl (a_cons (e_mul (e_ix (e_v 1) e_int) (e_ix (e_v 2) e_int)) (a_cons (e_mul (e_ix (e_v 1) e_int) (e_ix (e_v 2) e_int)) a_nil)))))) ss_nil)
      (ss_cons (s_if (t_eq hr (e_call T.d_is_less_fraction (ok_is_less_fraction T) (hr.mono (by omega)) rfl (a_cons (e_v 1) (a_cons (e_v 2) a_nil))) (e_eqS (e_v 0) e_str)) (ss_one (s_ret (e_v 1))) ss_nil)
      (ss_one (s_ret (e_v 2)))))))), ?_⟩
  have p1 := hp.1
  have p2 : ((p.den : Nat) : Int).natAbs < 2 ^ 1535 := by rw [Int.natAbs_natCast]; exact hp.2
  have r1 := hr'.1
  have r2 : ((r.den : Nat) : Int).natAbs < 2 ^ 1535 := by rw [Int.natAbs_natCast]; exact hr'.2
  have a1 := abs_nd hp hr'
  have a2 := abs_nd hr' hp
  have a3 := abs_dd hp hr'
  have a4 := abs_nn hp hr'
  have big : 2 * 2 ^ (2 * 1535) ≤ 2 ^ 4000 := by rw [← two_pow1]; exact pow_mono (by decide)
  unfold op2 at q
  simp only at q
  (refine laterP_in ?_; repeat ((first | with_reducible refine laterP_i ?_ | with_reducible refine later_i ?_); try simp -implicitDefEqProofs -dsimp only [↓D3.seq3_stop, ↓D3.ifS3.eq_1, ↓D3.b3.eq_1, ↓D3.op3.eq_1, ↓D3.un3.eq_1, ↓D3.v3.eq_1, ↓D3.c3.eq_1, fIx_tup, fIx_lst, at3_0, at3_1, at3_2, at3_3, at3_4, at3_5, at3_6, start3, fI0_i, fI_i, fLt, fLe, fGt, fGe, fEqI, fNeI, fMin, fMax, ↓D3.asg3.eq_1, ↓D3.name3.eq_1, ↓D3.sub3.eq_1, ↓D3.ret3.eq_1, ↓D3.retN3.eq_1, ↓D3.nx3.eq_1, ↓D3.drop3.eq_1, ↓D3.par3.eq_1, ↓D3.aug3.eq_1, ↓D3.and3.eq_1, ↓D3.or3.eq_1, ↓D3.not3.eq_1, ↓D3.andV3.eq_1, ↓D3.orV3.eq_1, ↓D3.notV3.eq_1, ↓D3.if3.eq_1, ↓D3.nil3.eq_1, ↓D3.cons3.eq_1, ↓D3.tup3.eq_1, ↓D3.lst3.eq_1, ↓D3.lstM3.eq_1, ↓D3.gtup3.eq_1, ↓D3.gcons3.eq_1, ↓D3.gnil3.eq_1, ↓D3.gunl3.eq_1, ↓D3.bits3.eq_1, ↓D3.neg3.eq_1, ↓D3.chain3.eq_1, fIsi_int_int, fIsi_int_bool, fIsi_int_tuple, fIsi_int_str, fIsi_int_list, fIsi_bl_int, fIsi_bl_bool, fIsi_bl_tuple, fIsi_bl_str, fIsi_bl_list, fIsi_non_int, fIsi_non_bool, fIsi_non_tuple, fIsi_non_str, fIsi_non_list, fIsi_str_int, fIsi_str_bool, fIsi_str_tuple, fIsi_str_str, fIsi_str_list, fIsi_tup_int, fIsi_tup_bool, fIsi_tup_tuple, fIsi_tup_str, fIsi_tup_list, fIsi_lst_int, fIsi_lst_bool, fIsi_lst_tuple, fIsi_lst_str, fIsi_lst_list, fLen_lst, fLen_tup, fAbs, ↓D3.call3_k, ↓D3.kont_app, ↓D3.isN3.eq_1, ↓D3.notN3.eq_1, dIsN_non, dIsN_int, dIsN_bl, dIsN_str, dIsN_tup, dIsN_lst, ↓D3.slc3.eq_1, ↓D3.part3.eq_1, ↓D3.noPart3.eq_1, ↓D3.ilst3.eq_1, ↓D3.itup3.eq_1, ↓D3.irng1.eq_1, ↓D3.irng2.eq_1, ↓D3.for3.eq_1, fCat, fEq_int, fNe_int, fEq_bl, fNe_bl, fEq_pair, fNe_pair, List.map, List.replicate, List.length_cons, List.length_nil, List.set_cons_zero, List.set_cons_succ, List.getElem?_cons_zero, List.getElem?_cons_succ, List.cons_append, List.nil_append, at_0, at_1, at_2, at_3, at_4, at_5, at_6, ix_0, ix_1, ix_2, put_same, put_put, decide_eq_true_eq, Bool.not_eq_true', decide_eq_false_iff_not, ite_not, ite_true, ite_false, if_true, if_false, Bool.false_eq_true, ↓reduceIte, reduceIte, Nat.reduceAdd, Nat.reduceSub, Int.reduceToNat, Nat.reduceLeDiff, not_false_eq_true, true_and, and_true, ne_eq, Int.reduceEq, Nat.zero_add, Bool.not_true, Bool.not_false, reduceCtorEq, nc0, nc1, nc2, nc3, nc4, nc5, fIx_ref put_same, fLen_ref put_same, ↓D3.lc3.eq_1, fInt, fTuple, fList, fNeS_s, fEqS_s, ↓D3.gstar3.eq_1, fInK_s, fNinK_s, fLenS_s, ↓D3.slcT3.eq_1, fCatT_t, dnew3, qD]))
  refine ite2 (fun h => ?_) (fun h1 => ?_)
  · rw [if_pos (show k = "plus" from h)] at q
    (refine laterP_in ?_; repeat ((first | with_reducible refine laterP_i ?_ | with_reducible refine later_i ?_); try simp -implicitDefEqProofs -dsimp only [↓D3.seq3_stop, ↓D3.ifS3.eq_1, ↓D3.b3.eq_1, ↓D3.op3.eq_1, ↓D3.un3.eq_1, ↓D3.v3.eq_1, ↓D3.c3.eq_1, fIx_tup, fIx_lst, at3_0, at3_1, at3_2, at3_3, at3_4, at3_5, at3_6, start3, fI0_i, fI_i, fLt, fLe, fGt, fGe, fEqI, fNeI, fMin, fMax, ↓D3.asg3.eq_1, ↓D3.name3.eq_1, ↓D3.sub3.eq_1, ↓D3.ret3.eq_1, ↓D3.retN3.eq_1, ↓D3.nx3.eq_1, ↓D3.drop3.eq_1, ↓D3.par3.eq_1, ↓D3.aug3.eq_1, ↓D3.and3.eq_1, ↓D3.or3.eq_1, ↓D3.not3.eq_1, ↓D3.andV3.eq_1, ↓D3.orV3.eq_1, ↓D3.notV3.eq_1, ↓D3.if3.eq_1, ↓D3.nil3.eq_1, ↓D3.cons3.eq_1, ↓D3.tup3.eq_1, ↓D3.lst3.eq_1, ↓D3.lstM3.eq_1, ↓D3.gtup3.eq_1, ↓D3.gcons3.eq_1, ↓D3.gnil3.eq_1, ↓D3.gunl3.eq_1, ↓D3.bits3.eq_1, ↓D3.neg3.eq_1, ↓D3.chain3.eq_1, fIsi_int_int, fIsi_int_bool, fIsi_int_tuple, fIsi_int_str, fIsi_int_list, fIsi_bl_int, fIsi_bl_bool, fIsi_bl_tuple, fIsi_bl_str, fIsi_bl_list, fIsi_non_int, fIsi_non_bool, fIsi_non_tuple, fIsi_non_str, fIsi_non_list, fIsi_str_int, fIsi_str_bool, fIsi_str_tuple, fIsi_str_str, fIsi_str_list, fIsi_tup_int, fIsi_tup_bool, fIsi_tup_tuple, fIsi_tup_str, fIsi_tup_list, fIsi_lst_int, fIsi_lst_bool, fIsi_lst_tuple, fIsi_lst_str, fIsi_lst_list, fLen_lst, fLen_tup, fAbs, ↓D3.call3_k, ↓D3.kont_app, ↓D3.isN3.eq_1, ↓D3.notN3.eq_1, dIsN_non, dIsN_int, dIsN_bl, dIsN_str, dIsN_tup, dIsN_lst, ↓D3.slc3.eq_1, ↓D3.part3.eq_1, ↓D3.noPart3.eq_1, ↓D3.ilst3.eq_1, ↓D3.itup3.eq_1, ↓D3.irng1.eq_1, ↓D3.irng2.eq_1, ↓D3.for3.eq_1, fCat, fEq_int, fNe_int, fEq_bl, fNe_bl, fEq_pair, fNe_pair, List.map, List.replicate, List.length_cons, List.length_nil, List.set_cons_zero, List.set_cons_succ, List.getElem?_cons_zero, List.getElem?_cons_succ, List.cons_append, List.nil_append, at_0, at_1, at_2, at_3, at_4, at_5, at_6, ix_0, ix_1, ix_2, put_same, put_put, decide_eq_true_eq, Bool.not_eq_true', decide_eq_false_iff_not, ite_not, ite_true, ite_false, if_true, if_false, Bool.false_eq_true, ↓reduceIte, reduceIte, Nat.reduceAdd, Nat.reduceSub, Int.reduceToNat, Nat.reduceLeDiff, not_false_eq_true, true_and, and_true, ne_eq, Int.reduceEq, Nat.zero_add, Bool.not_true, Bool.not_false, reduceCtorEq, nc0, nc1, nc2, nc3, nc4, nc5, fIx_ref put_same, fLen_ref put_same, ↓D3.lc3.eq_1, fInt, fTuple, fList, fNeS_s, fEqS_s, ↓D3.gstar3.eq_1, fInK_s, fNinK_s, fLenS_s, ↓D3.slcT3.eq_1, fCatT_t, dnew3]))
    refine ⟨mul_c p1 r2 (by decide), mul_c r1 p2 (by decide), mul_c p2 r2 (by decide), _, _, rfl, nd_ne p r, by omega, by omega, ?_⟩
    rw [← r_add]
    exact q
  rw [if_neg (show ¬ k = "plus" from h1)] at q
  (refine laterP_in ?_; repeat ((first | with_reducible refine laterP_i ?_ | with_reducible refine later_i ?_); try simp -implicitDefEqProofs -dsimp only [↓D3.seq3_stop, ↓D3.ifS3.eq_1, ↓D3.b3.eq_1, ↓D3.op3.eq_1, ↓D3.un3.eq_1, ↓D3.v3.eq_1, ↓D3.c3.eq_1, fIx_tup, fIx_lst, at3_0, at3_1, at3_2, at3_3, at3_4, at3_5, at3_6, start3, fI0_i, fI_i, fLt, fLe, fGt, fGe, fEqI, fNeI, fMin, fMax, ↓D3.asg3.eq_1, ↓D3.name3.eq_1, ↓D3.sub3.eq_1, ↓D3.ret3.eq_1, ↓D3.retN3.eq_1, ↓D3.nx3.eq_1, ↓D3.drop3.eq_1, ↓D3.par3.eq_1, ↓D3.aug3.eq_1, ↓D3.and3.eq_1, ↓D3.or3.eq_1, ↓D3.not3.eq_1, ↓D3.andV3.eq_1, ↓D3.orV3.eq_1, ↓D3.notV3.eq_1, ↓D3.if3.eq_1, ↓D3.nil3.eq_1, ↓D3.cons3.eq_1, ↓D3.tup3.eq_1, ↓D3.lst3.eq_1, ↓D3.lstM3.eq_1, ↓D3.gtup3.eq_1, ↓D3.gcons3.eq_1, ↓D3.gnil3.eq_1, ↓D3.gunl3.eq_1, ↓D3.bits3.eq_1, ↓D3.neg3.eq_1, ↓D3.chain3.eq_1, fIsi_int_int, fIsi_int_bool, fIsi_int_tuple, fIsi_int_str, fIsi_int_list, fIsi_bl_int, fIsi_bl_bool, fIsi_bl_tuple, fIsi_bl_str, fIsi_bl_list, fIsi_non_int, fIsi_non_bool, fIsi_non_tuple, fIsi_non_str, fIsi_non_list, fIsi_str_int, fIsi_str_bool, fIsi_str_tuple, fIsi_str_str, fIsi_str_list, fIsi_tup_int, fIsi_tup_bool, fIsi_tup_tuple, fIsi_tup_str, fIsi_tup_list, fIsi_lst_int, fIsi_lst_bool, fIsi_lst_tuple, fIsi_lst_str, fIsi_lst_list, fLen_lst, fLen_tup, fAbs, ↓D3.call3_k, ↓D3.kont_app, ↓D3.isN3.eq_1, ↓D3.notN3.eq_1, dIsN_non, dIsN_int, dIsN_bl, dIsN_str, dIsN_tup, dIsN_lst, ↓D3.slc3.eq_1, ↓D3.part3.eq_1, ↓D3.noPart3.eq_1, ↓D3.ilst3.eq_1, ↓D3.itup3.eq_1, ↓D3.irng1.eq_1, ↓D3.irng2.eq_1, ↓D3.for3.eq_1, fCat, fEq_int, fNe_int, fEq_bl, fNe_bl, fEq_pair, fNe_pair, List.map, List.replicate, List.length_cons, List.length_nil, List.set_cons_zero, List.set_cons_succ, List.getElem?_cons_zero, List.getElem?_cons_succ, List.cons_append, List.nil_append, at_0, at_1, at_2, at_3, at_4, at_5, at_6, ix_0, ix_1, ix_2, put_same, put_put, decide_eq_true_eq, Bool.not_eq_true', decide_eq_false_iff_not, ite_not, ite_true, ite_false, if_true, if_false, Bool.false_eq_true, ↓reduceIte, reduceIte, Nat.reduceAdd, Nat.reduceSub, Int.reduceToNat, Nat.reduceLeDiff, not_false_eq_true, true_and, and_true, ne_eq, Int.reduceEq, Nat.zero_add, Bool.not_true, Bool.not_false, reduceCtorEq, nc0, nc1, nc2, nc3, nc4, nc5, fIx_ref put_same, fLen_ref put_same, ↓D3.lc3.eq_1, fInt, fTuple, fList, fNeS_s, fEqS_s, ↓D3.gstar3.eq_1, fInK_s, fNinK_s, fLenS_s, ↓D3.slcT3.eq_1, fCatT_t, dnew3, qD]))
  refine ite2 (fun h => ?_) (fun h2 => ?_)
  · rw [if_pos (show k = "minus" from h)] at q
    (refine laterP_in ?_; repeat ((first | with_reducible refine laterP_i ?_ | with_reducible refine later_i ?_); try simp -implicitDefEqProofs -dsimp only [↓D3.seq3_stop, ↓D3.ifS3.eq_1, ↓D3.b3.eq_1, ↓D3.op3.eq_1, ↓D3.un3.eq_1, ↓D3.v3.eq_1, ↓D3.c3.eq_1, fIx_tup, fIx_lst, at3_0, at3_1, at3_2, at3_3, at3_4, at3_5, at3_6, start3, fI0_i, fI_i, fLt, fLe, fGt, fGe, fEqI, fNeI, fMin, fMax, ↓D3.asg3.eq_1, ↓D3.name3.eq_1, ↓D3.sub3.eq_1, ↓D3.ret3.eq_1, ↓D3.retN3.eq_1, ↓D3.nx3.eq_1, ↓D3.drop3.eq_1, ↓D3.par3.eq_1, ↓D3.aug3.eq_1, ↓D3.and3.eq_1, ↓D3.or3.eq_1, ↓D3.not3.eq_1, ↓D3.andV3.eq_1, ↓D3.orV3.eq_1, ↓D3.notV3.eq_1, ↓D3.if3.eq_1, ↓D3.nil3.eq_1, ↓D3.cons3.eq_1, ↓D3.tup3.eq_1, ↓D3.lst3.eq_1, ↓D3.lstM3.eq_1, ↓D3.gtup3.eq_1, ↓D3.gcons3.eq_1, ↓D3.gnil3.eq_1, ↓D3.gunl3.eq_1, ↓D3.bits3.eq_1, ↓D3.neg3.eq_1, ↓D3.chain3.eq_1, fIsi_int_int, fIsi_int_bool, fIsi_int_tuple, fIsi_int_str, fIsi_int_list, fIsi_bl_int, fIsi_bl_bool, fIsi_bl_tuple, fIsi_bl_str, fIsi_bl_list, fIsi_non_int, fIsi_non_bool, fIsi_non_tuple, fIsi_non_str, fIsi_non_list, fIsi_str_int, fIsi_str_bool, fIsi_str_tuple, fIsi_str_str, fIsi_str_list, fIsi_tup_int, fIsi_tup_bool, fIsi_tup_tuple, fIsi_tup_str, fIsi_tup_list, fIsi_lst_int, fIsi_lst_bool, fIsi_lst_tuple, fIsi_lst_str, fIsi_lst_list, fLen_lst, fLen_tup, fAbs, ↓D3.call3_k, ↓D3.kont_app, ↓D3.isN3.eq_1, ↓D3.notN3.eq_1, dIsN_non, dIsN_int, dIsN_bl, dIsN_str, dIsN_tup, dIsN_lst, ↓D3.slc3.eq_1, ↓D3.part3.eq_1, ↓D3.noPart3.eq_1, ↓D3.ilst3.eq_1, ↓D3.itup3.eq_1, ↓D3.irng1.eq_1, ↓D3.irng2.eq_1, ↓D3.for3.eq_1, fCat, fEq_int, fNe_int, fEq_bl, fNe_bl, fEq_pair, fNe_pair, List.map, List.replicate, List.length_cons, List.length_nil, List.set_cons_zero, List.set_cons_succ, List.getElem?_cons_zero, List.getElem?_cons_succ, List.cons_append, List.nil_append, at_0, at_1, at_2, at_3, at_4, at_5, at_6, ix_0, ix_1, ix_2, put_same, put_put, decide_eq_true_eq, Bool.not_eq_true', decide_eq_false_iff_not, ite_not, ite_true, ite_false, if_true, if_false, Bool.false_eq_true, ↓reduceIte, reduceIte, Nat.reduceAdd, Nat.reduceSub, Int.reduceToNat, Nat.reduceLeDiff, not_false_eq_true, true_and, and_true, ne_eq, Int.reduceEq, Nat.zero_add, Bool.not_true, Bool.not_false, reduceCtorEq, nc0, nc1, nc2, nc3, nc4, nc5, fIx_ref put_same, fLen_ref put_same, ↓D3.lc3.eq_1, fInt, fTuple, fList, fNeS_s, fEqS_s, ↓D3.gstar3.eq_1, fInK_s, fNinK_s, fLenS_s, ↓D3.slcT3.eq_1, fCatT_t, dnew3]))
    refine ⟨mul_c p1 r2 (by decide), mul_c r1 p2 (by decide), mul_c p2 r2 (by decide), _, _, rfl, nd_ne p r, by omega, by omega, ?_⟩
    rw [← r_sub]
    exact q
  rw [if_neg (show ¬ k = "minus" from h2)] at q
  (refine laterP_in ?_; repeat ((first | with_reducible refine laterP_i ?_ | with_reducible refine later_i ?_); try simp -implicitDefEqProofs -dsimp only [↓D3.seq3_stop, ↓D3.ifS3.eq_1, ↓D3.b3.eq_1, ↓D3.op3.eq_1, ↓D3.un3.eq_1, ↓D3.v3.eq_1, ↓D3.c3.eq_1, fIx_tup, fIx_lst, at3_0, at3_1, at3_2, at3_3, at3_4, at3_5, at3_6, start3, fI0_i, fI_i, fLt, fLe, fGt, fGe, fEqI, fNeI, fMin, fMax, ↓D3.asg3.eq_1, ↓D3.name3.eq_1, ↓D3.sub3.eq_1, ↓D3.ret3.eq_1, ↓D3.retN3.eq_1, ↓D3.nx3.eq_1, ↓D3.drop3.eq_1, ↓D3.par3.eq_1, ↓D3.aug3.eq_1, ↓D3.and3.eq_1, ↓D3.or3.eq_1, ↓D3.not3.eq_1, ↓D3.andV3.eq_1, ↓D3.orV3.eq_1, ↓D3.notV3.eq_1, ↓D3.if3.eq_1, ↓D3.nil3.eq_1, ↓D3.cons3.eq_1, ↓D3.tup3.eq_1, ↓D3.lst3.eq_1, ↓D3.lstM3.eq_1, ↓D3.gtup3.eq_1, ↓D3.gcons3.eq_1, ↓D3.gnil3.eq_1, ↓D3.gunl3.eq_1, ↓D3.bits3.eq_1, ↓D3.neg3.eq_1, ↓D3.chain3.eq_1, fIsi_int_int, fIsi_int_bool, fIsi_int_tuple, fIsi_int_str, fIsi_int_list, fIsi_bl_int, fIsi_bl_bool, fIsi_bl_tuple, fIsi_bl_str, fIsi_bl_list, fIsi_non_int, fIsi_non_bool, fIsi_non_tuple, fIsi_non_str, fIsi_non_list, fIsi_str_int, fIsi_str_bool, fIsi_str_tuple, fIsi_str_str, fIsi_str_list, fIsi_tup_int, fIsi_tup_bool, fIsi_tup_tuple, fIsi_tup_str, fIsi_tup_list, fIsi_lst_int, fIsi_lst_bool, fIsi_lst_tuple, fIsi_lst_str, fIsi_lst_list, fLen_lst, fLen_tup, fAbs, ↓D3.call3_k, ↓D3.kont_app, ↓D3.isN3.eq_1, ↓D3.notN3.eq_1, dIsN_non, dIsN_int, dIsN_bl, dIsN_str, dIsN_tup, dIsN_lst, ↓D3.slc3.eq_1, ↓D3.part3.eq_1, ↓D3.noPart3.eq_1, ↓D3.ilst3.eq_1, ↓D3.itup3.eq_1, ↓D3.irng1.eq_1, ↓D3.irng2.eq_1, ↓D3.for3.eq_1, fCat, fEq_int, fNe_int, fEq_bl, fNe_bl, fEq_pair, fNe_pair, List.map, List.replicate, List.length_cons, List.length_nil, List.set_cons_zero, List.set_cons_succ, List.getElem?_cons_zero, List.getElem?_cons_succ, List.cons_append, List.nil_append, at_0, at_1, at_2, at_3, at_4, at_5, at_6, ix_0, ix_1, ix_2, put_same, put_put, decide_eq_true_eq, Bool.not_eq_true', decide_eq_false_iff_not, ite_not, ite_true, ite_false, if_true, if_false, Bool.false_eq_true, ↓reduceIte, reduceIte, Nat.reduceAdd, Nat.reduceSub, Int.reduceToNat, Nat.reduceLeDiff, not_false_eq_true, true_and, and_true, ne_eq, Int.reduceEq, Nat.zero_add, Bool.not_true, Bool.not_false, reduceCtorEq, nc0, nc1, nc2, nc3, nc4, nc5, fIx_ref put_same, fLen_ref put_same, ↓D3.lc3.eq_1, fInt, fTuple, fList, fNeS_s, fEqS_s, ↓D3.gstar3.eq_1, fInK_s, fNinK_s, fLenS_s, ↓D3.slcT3.eq_1, fCatT_t, dnew3, qD]))
  refine ite2 (fun h => ?_) (fun h3 => ?_)
  · rw [if_pos (show k = "times" from h)] at q
    (refine laterP_in ?_; repeat ((first | with_reducible refine laterP_i ?_ | with_reducible refine later_i ?_); try simp -implicitDefEqProofs -dsimp only [↓D3.seq3_stop, ↓D3.ifS3.eq_1, ↓D3.b3.eq_1, ↓D3.op3.eq_1, ↓D3.un3.eq_1, ↓D3.v3.eq_1, ↓D3.c3.eq_1, fIx_tup, fIx_lst, at3_0, at3_1, at3_2, at3_3, at3_4, at3_5, at3_6, start3, fI0_i, fI_i, fLt, fLe, fGt, fGe, fEqI, fNeI, fMin, fMax, ↓D3.asg3.eq_1, ↓D3.name3.eq_1, ↓D3.sub3.eq_1, ↓D3.ret3.eq_1, ↓D3.retN3.eq_1, ↓D3.nx3.eq_1, ↓D3.drop3.eq_1, ↓D3.par3.eq_1, ↓D3.aug3.eq_1, ↓D3.and3.eq_1, ↓D3.or3.eq_1, ↓D3.not3.eq_1, ↓D3.andV3.eq_1, ↓D3.orV3.eq_1, ↓D3.notV3.eq_1, ↓D3.if3.eq_1, ↓D3.nil3.eq_1, ↓D3.cons3.eq_1, ↓D3.tup3.eq_1, ↓D3.lst3.eq_1, ↓D3.lstM3.eq_1, ↓D3.gtup3.eq_1, ↓D3.gcons3.eq_1, ↓D3.gnil3.eq_1, ↓D3.gunl3.eq_1, ↓D3.bits3.eq_1, ↓D3.neg3.eq_1, ↓D3.chain3.eq_1, fIsi_int_int, fIsi_int_bool, fIsi_int_tuple, fIsi_int_str, fIsi_int_list, fIsi_bl_int, fIsi_bl_bool, fIsi_bl_tuple, fIsi_bl_str, fIsi_bl_list, fIsi_non_int, fIsi_non_bool, fIsi_non_tuple, fIsi_non_str, fIsi_non_list, fIsi_str_int, fIsi_str_bool, fIsi_str_tuple, fIsi_str_str, fIsi_str_list, fIsi_tup_int, fIsi_tup_bool, fIsi_tup_tuple, fIsi_tup_str, fIsi_tup_list, fIsi_lst_int, fIsi_lst_bool, fIsi_lst_tuple, fIsi_lst_str, fIsi_lst_list, fLen_lst, fLen_tup, fAbs, ↓D3.call3_k, ↓D3.kont_app, ↓D3.isN3.eq_1, ↓D3.notN3.eq_1, dIsN_non, dIsN_int, dIsN_bl, dIsN_str, dIsN_tup, dIsN_lst, ↓D3.slc3.eq_1, ↓D3.part3.eq_1, ↓D3.noPart3.eq_1, ↓D3.ilst3.eq_1, ↓D3.itup3.eq_1, ↓D3.irng1.eq_1, ↓D3.irng2.eq_1, ↓D3.for3.eq_1, fCat, fEq_int, fNe_int, fEq_bl, fNe_bl, fEq_pair, fNe_pair, List.map, List.replicate, List.length_cons, List.length_nil, List.set_cons_zero, List.set_cons_succ, List.getElem?_cons_zero, List.getElem?_cons_succ, List.cons_append, List.nil_append, at_0, at_1, at_2, at_3, at_4, at_5, at_6, ix_0, ix_1, ix_2, put_same, put_put, decide_eq_true_eq, Bool.not_eq_true', decide_eq_false_iff_not, ite_not, ite_true, ite_false, if_true, if_false, Bool.false_eq_true, ↓reduceIte, reduceIte, Nat.reduceAdd, Nat.reduceSub, Int.reduceToNat, Nat.reduceLeDiff, not_false_eq_true, true_and, and_true, ne_eq, Int.reduceEq, Nat.zero_add, Bool.not_true, Bool.not_false, reduceCtorEq, nc0, nc1, nc2, nc3, nc4, nc5, fIx_ref put_same, fLen_ref put_same, ↓D3.lc3.eq_1, fInt, fTuple, fList, fNeS_s, fEqS_s, ↓D3.gstar3.eq_1, fInK_s, fNinK_s, fLenS_s, ↓D3.slcT3.eq_1, fCatT_t, dnew3]))
    refine ⟨mul_c p1 r1 (by decide), mul_c p2 r2 (by decide), _, _, rfl, nd_ne p r, by omega, by omega, ?_⟩
    rw [← r_mul]
    exact q
  rw [if_neg (show ¬ k = "times" from h3)] at q
  (refine laterP_in ?_; repeat ((first | with_reducible refine laterP_i ?_ | with_reducible refine later_i ?_); try simp -implicitDefEqProofs -dsimp only [↓D3.seq3_stop, ↓D3.ifS3.eq_1, ↓D3.b3.eq_1, ↓D3.op3.eq_1, ↓D3.un3.eq_1, ↓D3.v3.eq_1, ↓D3.c3.eq_1, fIx_tup, fIx_lst, at3_0, at3_1, at3_2, at3_3, at3_4, at3_5, at3_6, start3, fI0_i, fI_i, fLt, fLe, fGt, fGe, fEqI, fNeI, fMin, fMax, ↓D3.asg3.eq_1, ↓D3.name3.eq_1, ↓D3.sub3.eq_1, ↓D3.ret3.eq_1, ↓D3.retN3.eq_1, ↓D3.nx3.eq_1, ↓D3.drop3.eq_1, ↓D3.par3.eq_1, ↓D3.aug3.eq_1, ↓D3.and3.eq_1, ↓D3.or3.eq_1, ↓D3.not3.eq_1, ↓D3.andV3.eq_1, ↓D3.orV3.eq_1, ↓D3.notV3.eq_1, ↓D3.if3.eq_1, ↓D3.nil3.eq_1, ↓D3.cons3.eq_1, ↓D3.tup3.eq_1, ↓D3.lst3.eq_1, ↓D3.lstM3.eq_1, ↓D3.gtup3.eq_1, ↓D3.gcons3.eq_1, ↓D3.gnil3.eq_1, ↓D3.gunl3.eq_1, ↓D3.bits3.eq_1, ↓D3.neg3.eq_1, ↓D3.chain3.eq_1, fIsi_int_int, fIsi_int_bool, fIsi_int_tuple, fIsi_int_str, fIsi_int_list, fIsi_bl_int, fIsi_bl_bool, fIsi_bl_tuple, fIsi_bl_str, fIsi_bl_list, fIsi_non_int, fIsi_non_bool, fIsi_non_tuple, fIsi_non_str, fIsi_non_list, fIsi_str_int, fIsi_str_bool, fIsi_str_tuple, fIsi_str_str, fIsi_str_list, fIsi_tup_int, fIsi_tup_bool, fIsi_tup_tuple, fIsi_tup_str, fIsi_tup_list, fIsi_lst_int, fIsi_lst_bool, fIsi_lst_tuple, fIsi_lst_str, fIsi_lst_list, fLen_lst, fLen_tup, fAbs, ↓D3.call3_k, ↓D3.kont_app, ↓D3.isN3.eq_1, ↓D3.notN3.eq_1, dIsN_non, dIsN_int, dIsN_bl, dIsN_str, dIsN_tup, dIsN_lst, ↓D3.slc3.eq_1, ↓D3.part3.eq_1, ↓D3.noPart3.eq_1, ↓D3.ilst3.eq_1, ↓D3.itup3.eq_1, ↓D3.irng1.eq_1, ↓D3.irng2.eq_1, ↓D3.for3.eq_1, fCat, fEq_int, fNe_int, fEq_bl, fNe_bl, fEq_pair, fNe_pair, List.map, List.replicate, List.length_cons, List.length_nil, List.set_cons_zero, List.set_cons_succ, List.getElem?_cons_zero, List.getElem?_cons_succ, List.cons_append, List.nil_append, at_0, at_1, at_2, at_3, at_4, at_5, at_6, ix_0, ix_1, ix_2, put_same, put_put, decide_eq_true_eq, Bool.not_eq_true', decide_eq_false_iff_not, ite_not, ite_true, ite_false, if_true, if_false, Bool.false_eq_true, ↓reduceIte, reduceIte, Nat.reduceAdd, Nat.reduceSub, Int.reduceToNat, Nat.reduceLeDiff, not_false_eq_true, true_and, and_true, ne_eq, Int.reduceEq, Nat.zero_add, Bool.not_true, Bool.not_false, reduceCtorEq, nc0, nc1, nc2, nc3, nc4, nc5, fIx_ref put_same, fLen_ref put_same, ↓D3.lc3.eq_1, fInt, fTuple, fList, fNeS_s, fEqS_s, ↓D3.gstar3.eq_1, fInK_s, fNinK_s, fLenS_s, ↓D3.slcT3.eq_1, fCatT_t, dnew3, qD]))
  refine ite2 (fun h => ?_) (fun h4 => ?_)
  · rw [if_pos (show k = "over" from h)] at q
    (refine laterP_in ?_; repeat ((first | with_reducible refine laterP_i ?_ | with_reducible refine later_i ?_); try simp -implicitDefEqProofs -dsimp only [↓D3.seq3_stop, ↓D3.ifS3.eq_1, ↓D3.b3.eq_1, ↓D3.op3.eq_1, ↓D3.un3.eq_1, ↓D3.v3.eq_1, ↓D3.c3.eq_1, fIx_tup, fIx_lst, at3_0, at3_1, at3_2, at3_3, at3_4, at3_5, at3_6, start3, fI0_i, fI_i, fLt, fLe, fGt, fGe, fEqI, fNeI, fMin, fMax, ↓D3.asg3.eq_1, ↓D3.name3.eq_1, ↓D3.sub3.eq_1, ↓D3.ret3.eq_1, ↓D3.retN3.eq_1, ↓D3.nx3.eq_1, ↓D3.drop3.eq_1, ↓D3.par3.eq_1, ↓D3.aug3.eq_1, ↓D3.and3.eq_1, ↓D3.or3.eq_1, ↓D3.not3.eq_1, ↓D3.andV3.eq_1, ↓D3.orV3.eq_1, ↓D3.notV3.eq_1, ↓D3.if3.eq_1, ↓D3.nil3.eq_1, ↓D3.cons3.eq_1, ↓D3.tup3.eq_1, ↓D3.lst3.eq_1, ↓D3.lstM3.eq_1, ↓D3.gtup3.eq_1, ↓D3.gcons3.eq_1, ↓D3.gnil3.eq_1, ↓D3.gunl3.eq_1, ↓D3.bits3.eq_1, ↓D3.neg3.eq_1, ↓D3.chain3.eq_1, fIsi_int_int, fIsi_int_bool, fIsi_int_tuple, fIsi_int_str, fIsi_int_list, fIsi_bl_int, fIsi_bl_bool, fIsi_bl_tuple, fIsi_bl_str, fIsi_bl_list, fIsi_non_int, fIsi_non_bool, fIsi_non_tuple, fIsi_non_str, fIsi_non_list, fIsi_str_int, fIsi_str_bool, fIsi_str_tuple, fIsi_str_str, fIsi_str_list, fIsi_tup_int, fIsi_tup_bool, fIsi_tup_tuple, fIsi_tup_str, fIsi_tup_list, fIsi_lst_int, fIsi_lst_bool, fIsi_lst_tuple, fIsi_lst_str, fIsi_lst_list, fLen_lst, fLen_tup, fAbs, ↓D3.call3_k, ↓D3.kont_app, ↓D3.isN3.eq_1, ↓D3.notN3.eq_1, dIsN_non, dIsN_int, dIsN_bl, dIsN_str, dIsN_tup, dIsN_lst, ↓D3.slc3.eq_1, ↓D3.part3.eq_1, ↓D3.noPart3.eq_1, ↓D3.ilst3.eq_1, ↓D3.itup3.eq_1, ↓D3.irng1.eq_1, ↓D3.irng2.eq_1, ↓D3.for3.eq_1, fCat, fEq_int, fNe_int, fEq_bl, fNe_bl, fEq_pair, fNe_pair, List.map, List.replicate, List.length_cons, List.length_nil, List.set_cons_zero, List.set_cons_succ, List.getElem?_cons_zero, List.getElem?_cons_succ, List.cons_append, List.nil_append, at_0, at_1, at_2, at_3, at_4, at_5, at_6, ix_0, ix_1, ix_2, put_same, put_put, decide_eq_true_eq, Bool.not_eq_true', decide_eq_false_iff_not, ite_not, ite_true, ite_false, if_true, if_false, Bool.false_eq_true, ↓reduceIte, reduceIte, Nat.reduceAdd, Nat.reduceSub, Int.reduceToNat, Nat.reduceLeDiff, not_false_eq_true, true_and, and_true, ne_eq, Int.reduceEq, Nat.zero_add, Bool.not_true, Bool.not_false, reduceCtorEq, nc0, nc1, nc2, nc3, nc4, nc5, fIx_ref put_same, fLen_ref put_same, ↓D3.lc3.eq_1, fInt, fTuple, fList, fNeS_s, fEqS_s, ↓D3.gstar3.eq_1, fInK_s, fNinK_s, fLenS_s, ↓D3.slcT3.eq_1, fCatT_t, dnew3]))
    refine ite2 (fun h0 => ?_) (fun h0 => ?_)
    · rw [if_pos h0] at q
      (refine laterP_in ?_; repeat ((first | with_reducible refine laterP_i ?_ | with_reducible refine later_i ?_); try simp -implicitDefEqProofs -dsimp only [↓D3.seq3_stop, ↓D3.ifS3.eq_1, ↓D3.b3.eq_1, ↓D3.op3.eq_1, ↓D3.un3.eq_1, ↓D3.v3.eq_1, ↓D3.c3.eq_1, fIx_tup, fIx_lst, at3_0, at3_1, at3_2, at3_3, at3_4, at3_5, at3_6, start3, fI0_i, fI_i, fLt, fLe, fGt, fGe, fEqI, fNeI, fMin, fMax, ↓D3.asg3.eq_1, ↓D3.name3.eq_1, ↓D3.sub3.eq_1, ↓D3.ret3.eq_1, ↓D3.retN3.eq_1, ↓D3.nx3.eq_1, ↓D3.drop3.eq_1, ↓D3.par3.eq_1, ↓D3.aug3.eq_1, ↓D3.and3.eq_1, ↓D3.or3.eq_1, ↓D3.not3.eq_1, ↓D3.andV3.eq_1, ↓D3.orV3.eq_1, ↓D3.notV3.eq_1, ↓D3.if3.eq_1, ↓D3.nil3.eq_1, ↓D3.cons3.eq_1, ↓D3.tup3.eq_1, ↓D3.lst3.eq_1, ↓D3.lstM3.eq_1, ↓D3.gtup3.eq_1, ↓D3.gcons3.eq_1, ↓D3.gnil3.eq_1, ↓D3.gunl3.eq_1, ↓D3.bits3.eq_1, ↓D3.neg3.eq_1, ↓D3.chain3.eq_1, fIsi_int_int, fIsi_int_bool, fIsi_int_tuple, fIsi_int_str, fIsi_int_list, fIsi_bl_int, fIsi_bl_bool, fIsi_bl_tuple, fIsi_bl_str, fIsi_bl_list, fIsi_non_int, fIsi_non_bool, fIsi_non_tuple, fIsi_non_str, fIsi_non_list, fIsi_str_int, fIsi_str_bool, fIsi_str_tuple, fIsi_str_str, fIsi_str_list, fIsi_tup_int, fIsi_tup_bool, fIsi_tup_tuple, fIsi_tup_str, fIsi_tup_list, fIsi_lst_int, fIsi_lst_bool, fIsi_lst_tuple, fIsi_lst_str, fIsi_lst_list, fLen_lst, fLen_tup, fAbs, ↓D3.call3_k, ↓D3.kont_app, ↓D3.isN3.eq_1, ↓D3.notN3.eq_1, dIsN_non, dIsN_int, dIsN_bl, dIsN_str, dIsN_tup, dIsN_lst, ↓D3.slc3.eq_1, ↓D3.part3.eq_1, ↓D3.noPart3.eq_1, ↓D3.ilst3.eq_1, ↓D3.itup3.eq_1, ↓D3.irng1.eq_1, ↓D3.irng2.eq_1, ↓D3.for3.eq_1, fCat, fEq_int, fNe_int, fEq_bl, fNe_bl, fEq_pair, fNe_pair, List.map, List.replicate, List.length_cons, List.length_nil, List.set_cons_zero, List.set_cons_succ, List.getElem?_cons_zero, List.getElem?_cons_succ, List.cons_append, List.nil_append, at_0, at_1, at_2, at_3, at_4, at_5, at_6, ix_0, ix_1, ix_2, put_same, put_put, decide_eq_true_eq, Bool.not_eq_true', decide_eq_false_iff_not, ite_not, ite_true, ite_false, if_true, if_false, Bool.false_eq_true, ↓reduceIte, reduceIte, Nat.reduceAdd, Nat.reduceSub, Int.reduceToNat, Nat.reduceLeDiff, not_false_eq_true, true_and, and_true, ne_eq, Int.reduceEq, Nat.zero_add, Bool.not_true, Bool.not_false, reduceCtorEq, nc0, nc1, nc2, nc3, nc4, nc5, fIx_ref put_same, fLen_ref put_same, ↓D3.lc3.eq_1, fInt, fTuple, fList, fNeS_s, fEqS_s, ↓D3.gstar3.eq_1, fInK_s, fNinK_s, fLenS_s, ↓D3.slcT3.eq_1, fCatT_t, dnew3]))
      exact q
    · rw [if_neg h0] at q
      (refine laterP_in ?_; repeat ((first | with_reducible refine laterP_i ?_ | with_reducible refine later_i ?_); try simp -implicitDefEqProofs -dsimp only [↓D3.seq3_stop, ↓D3.ifS3.eq_1, ↓D3.b3.eq_1, ↓D3.op3.eq_1, ↓D3.un3.eq_1, ↓D3.v3.eq_1, ↓D3.c3.eq_1, fIx_tup, fIx_lst, at3_0, at3_1, at3_2, at3_3, at3_4, at3_5, at3_6, start3, fI0_i, fI_i, fLt, fLe, fGt, fGe, fEqI, fNeI, fMin, fMax, ↓D3.asg3.eq_1, ↓D3.name3.eq_1, ↓D3.sub3.eq_1, ↓D3.ret3.eq_1, ↓D3.retN3.eq_1, ↓D3.nx3.eq_1, ↓D3.drop3.eq_1, ↓D3.par3.eq_1, ↓D3.aug3.eq_1, ↓D3.and3.eq_1, ↓D3.or3.eq_1, ↓D3.not3.eq_1, ↓D3.andV3.eq_1, ↓D3.orV3.eq_1, ↓D3.notV3.eq_1, ↓D3.if3.eq_1, ↓D3.nil3.eq_1, ↓D3.cons3.eq_1, ↓D3.tup3.eq_1, ↓D3.lst3.eq_1, ↓D3.lstM3.eq_1, ↓D3.gtup3.eq_1, ↓D3.gcons3.eq_1, ↓D3.gnil3.eq_1, ↓D3.gunl3.eq_1, ↓D3.bits3.eq_1, ↓D3.neg3.eq_1, ↓D3.chain3.eq_1, fIsi_int_int, fIsi_int_bool, fIsi_int_tuple, fIsi_int_str, fIsi_int_list, fIsi_bl_int, fIsi_bl_bool, fIsi_bl_tuple, fIsi_bl_str, fIsi_bl_list, fIsi_non_int, fIsi_non_bool, fIsi_non_tuple, fIsi_non_str, fIsi_non_list, fIsi_str_int, fIsi_str_bool, fIsi_str_tuple, fIsi_str_str, fIsi_str_list, fIsi_tup_int, fIsi_tup_bool, fIsi_tup_tuple, fIsi_tup_str, fIsi_tup_list, fIsi_lst_int, fIsi_lst_bool, fIsi_lst_tuple, fIsi_lst_str, fIsi_lst_list, fLen_lst, fLen_tup, fAbs, ↓D3.call3_k, ↓D3.kont_app, ↓D3.isN3.eq_1, ↓D3.notN3.eq_1, dIsN_non, dIsN_int, dIsN_bl, dIsN_str, dIsN_tup, dIsN_lst, ↓D3.slc3.eq_1, ↓D3.part3.eq_1, ↓D3.noPart3.eq_1, ↓D3.ilst3.eq_1, ↓D3.itup3.eq_1, ↓D3.irng1.eq_1, ↓D3.irng2.eq_1, ↓D3.for3.eq_1, fCat, fEq_int, fNe_int, fEq_bl, fNe_bl, fEq_pair, fNe_pair, List.map, List.replicate, List.length_cons, List.length_nil, List.set_cons_zero, List.set_cons_succ, List.getElem?_cons_zero, List.getElem?_cons_succ, List.cons_append, List.nil_append, at_0, at_1, at_2, at_3, at_4, at_5, at_6, ix_0, ix_1, ix_2, put_same, put_put, decide_eq_true_eq, Bool.not_eq_true', decide_eq_false_iff_not, ite_not, ite_true, ite_false, if_true, if_false, Bool.false_eq_true, ↓reduceIte, reduceIte, Nat.reduceAdd, Nat.reduceSub, Int.reduceToNat, Nat.reduceLeDiff, not_false_eq_true, true_and, and_true, ne_eq, Int.reduceEq, Nat.zero_add, Bool.not_true, Bool.not_false, reduceCtorEq, nc0, nc1, nc2, nc3, nc4, nc5, fIx_ref put_same, fLen_ref put_same, ↓D3.lc3.eq_1, fInt, fTuple, fList, fNeS_s, fEqS_s, ↓D3.gstar3.eq_1, fInK_s, fNinK_s, fLenS_s, ↓D3.slcT3.eq_1, fCatT_t, dnew3]))
      refine ⟨mul_c p1 r2 (by decide), mul_c p2 r1 (by decide), _, _, rfl, fun z => ?_, by omega, ?_, ?_⟩
      · rcases Int.mul_eq_zero.mp z with z | z
        · have := den_pos p; omega
        · exact h0 z
      · rw [Int.mul_comm]; omega
      · rw [← r_div]
        exact q
  rw [if_neg (show ¬ k = "over" from h4)] at q
  (refine laterP_in ?_; repeat ((first | with_reducible refine laterP_i ?_ | with_reducible refine later_i ?_); try simp -implicitDefEqProofs -dsimp only [↓D3.seq3_stop, ↓D3.ifS3.eq_1, ↓D3.b3.eq_1, ↓D3.op3.eq_1, ↓D3.un3.eq_1, ↓D3.v3.eq_1, ↓D3.c3.eq_1, fIx_tup, fIx_lst, at3_0, at3_1, at3_2, at3_3, at3_4, at3_5, at3_6, start3, fI0_i, fI_i, fLt, fLe, fGt, fGe, fEqI, fNeI, fMin, fMax, ↓D3.asg3.eq_1, ↓D3.name3.eq_1, ↓D3.sub3.eq_1, ↓D3.ret3.eq_1, ↓D3.retN3.eq_1, ↓D3.nx3.eq_1, ↓D3.drop3.eq_1, ↓D3.par3.eq_1, ↓D3.aug3.eq_1, ↓D3.and3.eq_1, ↓D3.or3.eq_1, ↓D3.not3.eq_1, ↓D3.andV3.eq_1, ↓D3.orV3.eq_1, ↓D3.notV3.eq_1, ↓D3.if3.eq_1, ↓D3.nil3.eq_1, ↓D3.cons3.eq_1, ↓D3.tup3.eq_1, ↓D3.lst3.eq_1, ↓D3.lstM3.eq_1, ↓D3.gtup3.eq_1, ↓D3.gcons3.eq_1, ↓D3.gnil3.eq_1, ↓D3.gunl3.eq_1, ↓D3.bits3.eq_1, ↓D3.neg3.eq_1, ↓D3.chain3.eq_1, fIsi_int_int, fIsi_int_bool, fIsi_int_tuple, fIsi_int_str, fIsi_int_list, fIsi_bl_int, fIsi_bl_bool, fIsi_bl_tuple, fIsi_bl_str, fIsi_bl_list, fIsi_non_int, fIsi_non_bool, fIsi_non_tuple, fIsi_non_str, fIsi_non_list, fIsi_str_int, fIsi_str_bool, fIsi_str_tuple, fIsi_str_str, fIsi_str_list, fIsi_tup_int, fIsi_tup_bool, fIsi_tup_tuple, fIsi_tup_str, fIsi_tup_list, fIsi_lst_int, fIsi_lst_bool, fIsi_lst_tuple, fIsi_lst_str, fIsi_lst_list, fLen_lst, fLen_tup, fAbs, ↓D3.call3_k, ↓D3.kont_app, ↓D3.isN3.eq_1, ↓D3.notN3.eq_1, dIsN_non, dIsN_int, dIsN_bl, dIsN_str, dIsN_tup, dIsN_lst, ↓D3.slc3.eq_1, ↓D3.part3.eq_1, ↓D3.noPart3.eq_1, ↓D3.ilst3.eq_1, ↓D3.itup3.eq_1, ↓D3.irng1.eq_1, ↓D3.irng2.eq_1, ↓D3.for3.eq_1, fCat, fEq_int, fNe_int, fEq_bl, fNe_bl, fEq_pair, fNe_pair, List.map, List.replicate, List.length_cons, List.length_nil, List.set_cons_zero, List.set_cons_succ, List.getElem?_cons_zero, List.getElem?_cons_succ, List.cons_append, List.nil_append, at_0, at_1, at_2, at_3, at_4, at_5, at_6, ix_0, ix_1, ix_2, put_same, put_put, decide_eq_true_eq, Bool.not_eq_true', decide_eq_false_iff_not, ite_not, ite_true, ite_false, if_true, if_false, Bool.false_eq_true, ↓reduceIte, reduceIte, Nat.reduceAdd, Nat.reduceSub, Int.reduceToNat, Nat.reduceLeDiff, not_false_eq_true, true_and, and_true, ne_eq, Int.reduceEq, Nat.zero_add, Bool.not_true, Bool.not_false, reduceCtorEq, nc0, nc1, nc2, nc3, nc4, nc5, fIx_ref put_same, fLen_ref put_same, ↓D3.lc3.eq_1, fInt, fTuple, fList, fNeS_s, fEqS_s, ↓D3.gstar3.eq_1, fInK_s, fNinK_s, fLenS_s, ↓D3.slcT3.eq_1, fCatT_t, dnew3, qD]))
  refine ⟨_, _, _, _, rfl, lt_pow p1 (by decide), lt_pow p2 (by decide), lt_pow r1 (by decide), lt_pow r2 (by decide), ?_⟩
  (refine laterP_in ?_; repeat ((first | with_reducible refine laterP_i ?_ | with_reducible refine later_i ?_); try simp -implicitDefEqProofs -dsimp only [↓D3.seq3_stop, ↓D3.ifS3.eq_1, ↓D3.b3.eq_1, ↓D3.op3.eq_1, ↓D3.un3.eq_1, ↓D3.v3.eq_1, ↓D3.c3.eq_1, fIx_tup, fIx_lst, at3_0, at3_1, at3_2, at3_3, at3_4, at3_5, at3_6, start3, fI0_i, fI_i, fLt, fLe, fGt, fGe, fEqI, fNeI, fMin, fMax, ↓D3.asg3.eq_1, ↓D3.name3.eq_1, ↓D3.sub3.eq_1, ↓D3.ret3.eq_1, ↓D3.retN3.eq_1, ↓D3.nx3.eq_1, ↓D3.drop3.eq_1, ↓D3.par3.eq_1, ↓D3.aug3.eq_1, ↓D3.and3.eq_1, ↓D3.or3.eq_1, ↓D3.not3.eq_1, ↓D3.andV3.eq_1, ↓D3.orV3.eq_1, ↓D3.notV3.eq_1, ↓D3.if3.eq_1, ↓D3.nil3.eq_1, ↓D3.cons3.eq_1, ↓D3.tup3.eq_1, ↓D3.lst3.eq_1, ↓D3.lstM3.eq_1, ↓D3.gtup3.eq_1, ↓D3.gcons3.eq_1, ↓D3.gnil3.eq_1, ↓D3.gunl3.eq_1, ↓D3.bits3.eq_1, ↓D3.neg3.eq_1, ↓D3.chain3.eq_1, fIsi_int_int, fIsi_int_bool, fIsi_int_tuple, fIsi_int_str, fIsi_int_list, fIsi_bl_int, fIsi_bl_bool, fIsi_bl_tuple, fIsi_bl_str, fIsi_bl_list, fIsi_non_int, fIsi_non_bool, fIsi_non_tuple, fIsi_non_str, fIsi_non_list, fIsi_str_int, fIsi_str_bool, fIsi_str_tuple, fIsi_str_str, fIsi_str_list, fIsi_tup_int, fIsi_tup_bool, fIsi_tup_tuple, fIsi_tup_str, fIsi_tup_list, fIsi_lst_int, fIsi_lst_bool, fIsi_lst_tuple, fIsi_lst_str, fIsi_lst_list, fLen_lst, fLen_tup, fAbs, ↓D3.call3_k, ↓D3.kont_app, ↓D3.isN3.eq_1, ↓D3.notN3.eq_1, dIsN_non, dIsN_int, dIsN_bl, dIsN_str, dIsN_tup, dIsN_lst, ↓D3.slc3.eq_1, ↓D3.part3.eq_1, ↓D3.noPart3.eq_1, ↓D3.ilst3.eq_1, ↓D3.itup3.eq_1, ↓D3.irng1.eq_1, ↓D3.irng2.eq_1, ↓D3.for3.eq_1, fCat, fEq_int, fNe_int, fEq_bl, fNe_bl, fEq_pair, fNe_pair, List.map, List.replicate, List.length_cons, List.length_nil, List.set_cons_zero, List.set_cons_succ, List.getElem?_cons_zero, List.getElem?_cons_succ, List.cons_append, List.nil_append, at_0, at_1, at_2, at_3, at_4, at_5, at_6, ix_0, ix_1, ix_2, put_same, put_put, decide_eq_true_eq, Bool.not_eq_true', decide_eq_false_iff_not, ite_not, ite_true, ite_false, if_true, if_false, Bool.false_eq_true, ↓reduceIte, reduceIte, Nat.reduceAdd, Nat.reduceSub, Int.reduceToNat, Nat.reduceLeDiff, not_false_eq_true, true_and, and_true, ne_eq, Int.reduceEq, Nat.zero_add, Bool.not_true, Bool.not_false, reduceCtorEq, nc0, nc1, nc2, nc3, nc4, nc5, fIx_ref put_same, fLen_ref put_same, ↓D3.lc3.eq_1, fInt, fTuple, fList, fNeS_s, fEqS_s, ↓D3.gstar3.eq_1, fInK_s, fNinK_s, fLenS_s, ↓D3.slcT3.eq_1, fCatT_t, dnew3]))
  have key : ∀ b : Bool, decide (k = "least") = b → (p < r ↔ p.num * r.den < r.num * p.den) → True := fun _ _ _ => trivial
  by_cases hl : k = "least"
  · rw [if_pos hl] at q
    rw [decide_eq_true (show k = "least" from hl)]
    by_cases hlt : p < r
    · rw [if_pos hlt] at q
      rw [decide_eq_true ((r_lt p r).mpr hlt)]
      (refine laterP_in ?_; repeat ((first | with_reducible refine laterP_i ?_ | with_reducible refine later_i ?_); try simp -implicitDefEqProofs -dsimp only [↓D3.seq3_stop, ↓D3.ifS3.eq_1, ↓D3.b3.eq_1, ↓D3.op3.eq_1, ↓D3.un3.eq_1, ↓D3.v3.eq_1, ↓D3.c3.eq_1, fIx_tup, fIx_lst, at3_0, at3_1, at3_2, at3_3, at3_4, at3_5, at3_6, start3, fI0_i, fI_i, fLt, fLe, fGt, fGe, fEqI, fNeI, fMin, fMax, ↓D3.asg3.eq_1, ↓D3.name3.eq_1, ↓D3.sub3.eq_1, ↓D3.ret3.eq_1, ↓D3.retN3.eq_1, ↓D3.nx3.eq_1, ↓D3.drop3.eq_1, ↓D3.par3.eq_1, ↓D3.aug3.eq_1, ↓D3.and3.eq_1, ↓D3.or3.eq_1, ↓D3.not3.eq_1, ↓D3.andV3.eq_1, ↓D3.orV3.eq_1, ↓D3.notV3.eq_1, ↓D3.if3.eq_1, ↓D3.nil3.eq_1, ↓D3.cons3.eq_1, ↓D3.tup3.eq_1, ↓D3.lst3.eq_1, ↓D3.lstM3.eq_1, ↓D3.gtup3.eq_1, ↓D3.gcons3.eq_1, ↓D3.gnil3.eq_1, ↓D3.gunl3.eq_1, ↓D3.bits3.eq_1, ↓D3.neg3.eq_1, ↓D3.chain3.eq_1, fIsi_int_int, fIsi_int_bool, fIsi_int_tuple, fIsi_int_str, fIsi_int_list, fIsi_bl_int, fIsi_bl_bool, fIsi_bl_tuple, fIsi_bl_str, fIsi_bl_list, fIsi_non_int, fIsi_non_bool, fIsi_non_tuple, fIsi_non_str, fIsi_non_list, fIsi_str_int, fIsi_str_bool, fIsi_str_tuple, fIsi_str_str, fIsi_str_list, fIsi_tup_int, fIsi_tup_bool, fIsi_tup_tuple, fIsi_tup_str, fIsi_tup_list, fIsi_lst_int, fIsi_lst_bool, fIsi_lst_tuple, fIsi_lst_str, fIsi_lst_list, fLen_lst, fLen_tup, fAbs, ↓D3.call3_k, ↓D3.kont_app, ↓D3.isN3.eq_1, ↓D3.notN3.eq_1, dIsN_non, dIsN_int, dIsN_bl, dIsN_str, dIsN_tup, dIsN_lst, ↓D3.slc3.eq_1, ↓D3.part3.eq_1, ↓D3.noPart3.eq_1, ↓D3.ilst3.eq_1, ↓D3.itup3.eq_1, ↓D3.irng1.eq_1, ↓D3.irng2.eq_1, ↓D3.for3.eq_1, fCat, fEq_int, fNe_int, fEq_bl, fNe_bl, fEq_pair, fNe_pair, List.map, List.replicate, List.length_cons, List.length_nil, List.set_cons_zero, List.set_cons_succ, List.getElem?_cons_zero, List.getElem?_cons_succ, List.cons_append, List.nil_append, at_0, at_1, at_2, at_3, at_4, at_5, at_6, ix_0, ix_1, ix_2, put_same, put_put, decide_eq_true_eq, Bool.not_eq_true', decide_eq_false_iff_not, ite_not, ite_true, ite_false, if_true, if_false, Bool.false_eq_true, ↓reduceIte, reduceIte, Nat.reduceAdd, Nat.reduceSub, Int.reduceToNat, Nat.reduceLeDiff, not_false_eq_true, true_and, and_true, ne_eq, Int.reduceEq, Nat.zero_add, Bool.not_true, Bool.not_false, reduceCtorEq, nc0, nc1, nc2, nc3, nc4, nc5, fIx_ref put_same, fLen_ref put_same, ↓D3.lc3.eq_1, fInt, fTuple, fList, fNeS_s, fEqS_s, ↓D3.gstar3.eq_1, fInK_s, fNinK_s, fLenS_s, ↓D3.slcT3.eq_1, fCatT_t, dnew3, beq_self_eq_true]))
      exact q
    · rw [if_neg hlt] at q
      rw [decide_eq_false fun z => hlt ((r_lt p r).mp z)]
      (refine laterP_in ?_; repeat ((first | with_reducible refine laterP_i ?_ | with_reducible refine later_i ?_); try simp -implicitDefEqProofs -dsimp only [↓D3.seq3_stop, ↓D3.ifS3.eq_1, ↓D3.b3.eq_1, ↓D3.op3.eq_1, ↓D3.un3.eq_1, ↓D3.v3.eq_1, ↓D3.c3.eq_1, fIx_tup, fIx_lst, at3_0, at3_1, at3_2, at3_3, at3_4, at3_5, at3_6, start3, fI0_i, fI_i, fLt, fLe, fGt, fGe, fEqI, fNeI, fMin, fMax, ↓D3.asg3.eq_1, ↓D3.name3.eq_1, ↓D3.sub3.eq_1, ↓D3.ret3.eq_1, ↓D3.retN3.eq_1, ↓D3.nx3.eq_1, ↓D3.drop3.eq_1, ↓D3.par3.eq_1, ↓D3.aug3.eq_1, ↓D3.and3.eq_1, ↓D3.or3.eq_1, ↓D3.not3.eq_1, ↓D3.andV3.eq_1, ↓D3.orV3.eq_1, ↓D3.notV3.eq_1, ↓D3.if3.eq_1, ↓D3.nil3.eq_1, ↓D3.cons3.eq_1, ↓D3.tup3.eq_1, ↓D3.lst3.eq_1, ↓D3.lstM3.eq_1, ↓D3.gtup3.eq_1, ↓D3.gcons3.eq_1, ↓D3.gnil3.eq_1, ↓D3.gunl3.eq_1, ↓D3.bits3.eq_1, ↓D3.neg3.eq_1, ↓D3.chain3.eq_1, fIsi_int_int, fIsi_int_bool, fIsi_int_tuple, fIsi_int_str, fIsi_int_list, fIsi_bl_int, fIsi_bl_bool, fIsi_bl_tuple, fIsi_bl_str, fIsi_bl_list, fIsi_non_int, fIsi_non_bool, fIsi_non_tuple, fIsi_non_str, fIsi_non_list, fIsi_str_int, fIsi_str_bool, fIsi_str_tuple, fIsi_str_str, fIsi_str_list, fIsi_tup_int, fIsi_tup_bool, fIsi_tup_tuple, fIsi_tup_str, fIsi_tup_list, fIsi_lst_int, fIsi_lst_bool, fIsi_lst_tuple, fIsi_lst_str, fIsi_lst_list, fLen_lst, fLen_tup, fAbs, ↓D3.call3_k, ↓D3.kont_app, ↓D3.isN3.eq_1, ↓D3.notN3.eq_1, dIsN_non, dIsN_int, dIsN_bl, dIsN_str, dIsN_tup, dIsN_lst, ↓D3.slc3.eq_1, ↓D3.part3.eq_1, ↓D3.noPart3.eq_1, ↓D3.ilst3.eq_1, ↓D3.itup3.eq_1, ↓D3.irng1.eq_1, ↓D3.irng2.eq_1, ↓D3.for3.eq_1, fCat, fEq_int, fNe_int, fEq_bl, fNe_bl, fEq_pair, fNe_pair, List.map, List.replicate, List.length_cons, List.length_nil, List.set_cons_zero, List.set_cons_succ, List.getElem?_cons_zero, List.getElem?_cons_succ, List.cons_append, List.nil_append, at_0, at_1, at_2, at_3, at_4, at_5, at_6, ix_0, ix_1, ix_2, put_same, put_put, decide_eq_true_eq, Bool.not_eq_true', decide_eq_false_iff_not, ite_not, ite_true, ite_false, if_true, if_false, Bool.false_eq_true, ↓reduceIte, reduceIte, Nat.reduceAdd, Nat.reduceSub, Int.reduceToNat, Nat.reduceLeDiff, not_false_eq_true, true_and, and_true, ne_eq, Int.reduceEq, Nat.zero_add, Bool.not_true, Bool.not_false, reduceCtorEq, nc0, nc1, nc2, nc3, nc4, nc5, fIx_ref put_same, fLen_ref put_same, ↓D3.lc3.eq_1, fInt, fTuple, fList, fNeS_s, fEqS_s, ↓D3.gstar3.eq_1, fInK_s, fNinK_s, fLenS_s, ↓D3.slcT3.eq_1, fCatT_t, dnew3, beq_self_eq_true, Bool.false_beq, Bool.beq_true]))
      exact q
  · rw [if_neg hl] at q
    rw [decide_eq_false (show ¬ k = "least" from hl)]
    by_cases hlt : p < r
    · rw [if_pos hlt] at q
      rw [decide_eq_true ((r_lt p r).mpr hlt)]
      (refine laterP_in ?_; repeat ((first | with_reducible refine laterP_i ?_ | with_reducible refine later_i ?_); try simp -implicitDefEqProofs -dsimp only [↓D3.seq3_stop, ↓D3.ifS3.eq_1, ↓D3.b3.eq_1, ↓D3.op3.eq_1, ↓D3.un3.eq_1, ↓D3.v3.eq_1, ↓D3.c3.eq_1, fIx_tup, fIx_lst, at3_0, at3_1, at3_2, at3_3, at3_4, at3_5, at3_6, start3, fI0_i, fI_i, fLt, fLe, fGt, fGe, fEqI, fNeI, fMin, fMax, ↓D3.asg3.eq_1, ↓D3.name3.eq_1, ↓D3.sub3.eq_1, ↓D3.ret3.eq_1, ↓D3.retN3.eq_1, ↓D3.nx3.eq_1, ↓D3.drop3.eq_1, ↓D3.par3.eq_1, ↓D3.aug3.eq_1, ↓D3.and3.eq_1, ↓D3.or3.eq_1, ↓D3.not3.eq_1, ↓D3.andV3.eq_1, ↓D3.orV3.eq_1, ↓D3.notV3.eq_1, ↓D3.if3.eq_1, ↓D3.nil3.eq_1, ↓D3.cons3.eq_1, ↓D3.tup3.eq_1, ↓D3.lst3.eq_1, ↓D3.lstM3.eq_1, ↓D3.gtup3.eq_1, ↓D3.gcons3.eq_1, ↓D3.gnil3.eq_1, ↓D3.gunl3.eq_1, ↓D3.bits3.eq_1, ↓D3.neg3.eq_1, ↓D3.chain3.eq_1, fIsi_int_int, fIsi_int_bool, fIsi_int_tuple, fIsi_int_str, fIsi_int_list, fIsi_bl_int, fIsi_bl_bool, fIsi_bl_tuple, fIsi_bl_str, fIsi_bl_list, fIsi_non_int, fIsi_non_bool, fIsi_non_tuple, fIsi_non_str, fIsi_non_list, fIsi_str_int, fIsi_str_bool, fIsi_str_tuple, fIsi_str_str, fIsi_str_list, fIsi_tup_int, fIsi_tup_bool, fIsi_tup_tuple, fIsi_tup_str, fIsi_tup_list, fIsi_lst_int, fIsi_lst_bool, fIsi_lst_tuple, fIsi_lst_str, fIsi_lst_list, fLen_lst, fLen_tup, fAbs, ↓D3.call3_k, ↓D3.kont_app, ↓D3.isN3.eq_1, ↓D3.notN3.eq_1, dIsN_non, dIsN_int, dIsN_bl, dIsN_str, dIsN_tup, dIsN_lst, ↓D3.slc3.eq_1, ↓D3.part3.eq_1, ↓D3.noPart3.eq_1, ↓D3.ilst3.eq_1, ↓D3.itup3.eq_1, ↓D3.irng1.eq_1, ↓D3.irng2.eq_1, ↓D3.for3.eq_1, fCat, fEq_int, fNe_int, fEq_bl, fNe_bl, fEq_pair, fNe_pair, List.map, List.replicate, List.length_cons, List.length_nil, List.set_cons_zero, List.set_cons_succ, List.getElem?_cons_zero, List.getElem?_cons_succ, List.cons_append, List.nil_append, at_0, at_1, at_2, at_3, at_4, at_5, at_6, ix_0, ix_1, ix_2, put_same, put_put, decide_eq_true_eq, Bool.not_eq_true', decide_eq_false_iff_not, ite_not, ite_true, ite_false, if_true, if_false, Bool.false_eq_true, ↓reduceIte, reduceIte, Nat.reduceAdd, Nat.reduceSub, Int.reduceToNat, Nat.reduceLeDiff, not_false_eq_true, true_and, and_true, ne_eq, Int.reduceEq, Nat.zero_add, Bool.not_true, Bool.not_false, reduceCtorEq, nc0, nc1, nc2, nc3, nc4, nc5, fIx_ref put_same, fLen_ref put_same, ↓D3.lc3.eq_1, fInt, fTuple, fList, fNeS_s, fEqS_s, ↓D3.gstar3.eq_1, fInK_s, fNinK_s, fLenS_s, ↓D3.slcT3.eq_1, fCatT_t, dnew3, Bool.beq_false]))
      exact q
    · rw [if_neg hlt] at q
      rw [decide_eq_false fun z => hlt ((r_lt p r).mp z)]
      (refine laterP_in ?_; repeat ((first | with_reducible refine laterP_i ?_ | with_reducible refine later_i ?_); try simp -implicitDefEqProofs -dsimp only [↓D3.seq3_stop, ↓D3.ifS3.eq_1, ↓D3.b3.eq_1, ↓D3.op3.eq_1, ↓D3.un3.eq_1, ↓D3.v3.eq_1, ↓D3.c3.eq_1, fIx_tup, fIx_lst, at3_0, at3_1, at3_2, at3_3, at3_4, at3_5, at3_6, start3, fI0_i, fI_i, fLt, fLe, fGt, fGe, fEqI, fNeI, fMin, fMax, ↓D3.asg3.eq_1, ↓D3.name3.eq_1, ↓D3.sub3.eq_1, ↓D3.ret3.eq_1, ↓D3.retN3.eq_1, ↓D3.nx3.eq_1, ↓D3.drop3.eq_1, ↓D3.par3.eq_1, ↓D3.aug3.eq_1, ↓D3.and3.eq_1, ↓D3.or3.eq_1, ↓D3.not3.eq_1, ↓D3.andV3.eq_1, ↓D3.orV3.eq_1, ↓D3.notV3.eq_1, ↓D3.if3.eq_1, ↓D3.nil3.eq_1, ↓D3.cons3.eq_1, ↓D3.tup3.eq_1, ↓D3.lst3.eq_1, ↓D3.lstM3.eq_1, ↓D3.gtup3.eq_1, ↓D3.gcons3.eq_1, ↓D3.gnil3.eq_1, ↓D3.gunl3.eq_1, ↓D3.bits3.eq_1, ↓D3.neg3.eq_1, ↓D3.chain3.eq_1, fIsi_int_int, fIsi_int_bool, fIsi_int_tuple, fIsi_int_str, fIsi_int_list, fIsi_bl_int, fIsi_bl_bool, fIsi_bl_tuple, fIsi_bl_str, fIsi_bl_list, fIsi_non_int, fIsi_non_bool, fIsi_non_tuple, fIsi_non_str, fIsi_non_list, fIsi_str_int, fIsi_str_bool, fIsi_str_tuple, fIsi_str_str, fIsi_str_list, fIsi_tup_int, fIsi_tup_bool, fIsi_tup_tuple, fIsi_tup_str, fIsi_tup_list, fIsi_lst_int, fIsi_lst_bool, fIsi_lst_tuple, fIsi_lst_str, fIsi_lst_list, fLen_lst, fLen_tup, fAbs, ↓D3.call3_k, ↓D3.kont_app, ↓D3.isN3.eq_1, ↓D3.notN3.eq_1, dIsN_non, dIsN_int, dIsN_bl, dIsN_str, dIsN_tup, dIsN_lst, ↓D3.slc3.eq_1, ↓D3.part3.eq_1, ↓D3.noPart3.eq_1, ↓D3.ilst3.eq_1, ↓D3.itup3.eq_1, ↓D3.irng1.eq_1, ↓D3.irng2.eq_1, ↓D3.for3.eq_1, fCat, fEq_int, fNe_int, fEq_bl, fNe_bl, fEq_pair, fNe_pair, List.map, List.replicate, List.length_cons, List.length_nil, List.set_cons_zero, List.set_cons_succ, List.getElem?_cons_zero, List.getElem?_cons_succ, List.cons_append, List.nil_append, at_0, at_1, at_2, at_3, at_4, at_5, at_6, ix_0, ix_1, ix_2, put_same, put_put, decide_eq_true_eq, Bool.not_eq_true', decide_eq_false_iff_not, ite_not, ite_true, ite_false, if_true, if_false, Bool.false_eq_true, ↓reduceIte, reduceIte, Nat.reduceAdd, Nat.reduceSub, Int.reduceToNat, Nat.reduceLeDiff, not_false_eq_true, true_and, and_true, ne_eq, Int.reduceEq, Nat.zero_add, Bool.not_true, Bool.not_false, reduceCtorEq, nc0, nc1, nc2, nc3, nc4, nc5, fIx_ref put_same, fLen_ref put_same, ↓D3.lc3.eq_1, fInt, fTuple, fList, fNeS_s, fEqS_s, ↓D3.gstar3.eq_1, fInK_s, fNinK_s, fLenS_s, ↓D3.slcT3.eq_1, fCatT_t, dnew3, beq_self_eq_true]))
      exact q
theorem inn_one {k : Str} {a : D} (h : k ∈ K1) : inn (.tup [.str k, a]) = some [a] := by
  show inn2 k [a] = _
  rw [inn2_K1 h]; rfl
theorem inn_two {k : Str} {a b : D} (h : k ∈ K2) : inn (.tup [.str k, a, b]) = some [a, b] := by
  show inn2 k [a, b] = _
  rw [inn2_K2 h]; rfl
theorem oQ_pl {v : Option Rat} {n : Nat} (h : ∀ q, v = some q → Sm n q) : Pl n (oQ v) ∧ dp (oQ v) ≤ 1 := by
  cases v with
  | none => exact ⟨trivial, by simp [oQ, dp]⟩
  | some q => exact ⟨qD_pl (h q rfl), by simp [oQ, qD, dp, dps]⟩
theorem oQ_none (v : Option Rat) : PyData.eqv (pyOf (oQ v)) (pyOf .non) = v.isNone := by
  cases v <;> rfl
def sp_valN : Nat → Sp3
  | 0 => fun _ _ _ => False
  | e + 1 => fun ds m P => ∃ (d : D) (v : Option Rat), ds = [d] ∧ Gv (e + 1) d v ∧ e ≤ 8 ∧ Pl 900 d ∧ dp d ≤ 60 ∧ P (oQ v) m
theorem ok_valS (T : Tx w K mg fa fd) (e : Nat) (ih : Fn3 P w K mg base (e + 3) (fa 10) (fd 10) ["term"] (sp_valN e)) : Fn3 P w K mg base (e + 3 + 1) (fa 10) (fd 10) ["term"] (sp_valN (e + 1)) := by
  refine fn3 T.d_value_of.F sc_value_of (fun ds m Q h => by obtain ⟨_, _, rfl, _⟩ := h; rfl) fun cdv A outer s H E ds m Q hr h => ?_
  obtain ⟨d, v, rfl, hv, he, hp, hd, q⟩ := h
  refine ⟨_, (ss_cons (s_if (t_eqS (e_ix (e_v 0) e_int) e_str) (ss_one (s_ret (e_ix (e_v 0) e_int))) ss_nil)
      (ss_cons (s_if (t_w (t_and (t_ninK rfl T.t_KINDS_OF_TWO (e_ix (e_v 0) e_int)) (t_and1 (t_neS (e_ix (e_v 0) e_int) e_str)))) (ss_one (s_ret e_non)) ss_nil)
      (ss_cons (s_lc (i := 2) (j := 1) rfl sc_value_of.nd (i_list (e_call T.d_parts_within (ok_parts_within T) (hr.mono (by omega)) rfl (a_cons (e_v 0) a_nil))) (blkOk_by (own := [("part", 2)]) (N := ["term", "values", "part"]) (sc := defScope s_value_of) (by decide +kernel))  (fun _ _ _ _ _ => (e_call T.d_value_of ih (hr.mono (by omega)) rfl (a_cons (e_v 2) a_nil))) (sw_true rfl rfl rfl (by decide +kernel)))
      (ss_cons (s_if (t_inD hr e_non (e_v 1)) (ss_one (s_ret e_non)) ss_nil)
      (ss_cons (s_if (t_eqS (e_ix (e_v 0) e_int) e_str) (ss_one (s_ret (e_tup (a_cons (e_abs rfl T.b_abs (e_ix (e_ix (e_v 1) e_int) e_int)) (a_cons (e_ix (e_ix (e_v 1) e_int) e_int) a_nil))))) ss_nil)
      (ss_one (s_ret (e_call T.d_plain_of_two (ok_plain_of_two T) (hr.mono (by omega)) rfl (a_cons (e_ix (e_v 0) e_int) (a_cons (e_ix (e_v 1) e_int) (a_cons (e_ix (e_v 1) e_int) a_nil))))))))))), ?_⟩
  cases hv with
  | @num e q' hs =>
    (refine laterP_in ?_; repeat ((first | with_reducible refine laterP_i ?_ | with_reducible refine later_i ?_); try simp -implicitDefEqProofs -dsimp only [↓D3.seq3_stop, ↓D3.ifS3.eq_1, ↓D3.b3.eq_1, ↓D3.op3.eq_1, ↓D3.un3.eq_1, ↓D3.v3.eq_1, ↓D3.c3.eq_1, fIx_tup, fIx_lst, at3_0, at3_1, at3_2, at3_3, at3_4, at3_5, at3_6, start3, fI0_i, fI_i, fLt, fLe, fGt, fGe, fEqI, fNeI, fMin, fMax, ↓D3.asg3.eq_1, ↓D3.name3.eq_1, ↓D3.sub3.eq_1, ↓D3.ret3.eq_1, ↓D3.retN3.eq_1, ↓D3.nx3.eq_1, ↓D3.drop3.eq_1, ↓D3.par3.eq_1, ↓D3.aug3.eq_1, ↓D3.and3.eq_1, ↓D3.or3.eq_1, ↓D3.not3.eq_1, ↓D3.andV3.eq_1, ↓D3.orV3.eq_1, ↓D3.notV3.eq_1, ↓D3.if3.eq_1, ↓D3.nil3.eq_1, ↓D3.cons3.eq_1, ↓D3.tup3.eq_1, ↓D3.lst3.eq_1, ↓D3.lstM3.eq_1, ↓D3.gtup3.eq_1, ↓D3.gcons3.eq_1, ↓D3.gnil3.eq_1, ↓D3.gunl3.eq_1, ↓D3.bits3.eq_1, ↓D3.neg3.eq_1, ↓D3.chain3.eq_1, fIsi_int_int, fIsi_int_bool, fIsi_int_tuple, fIsi_int_str, fIsi_int_list, fIsi_bl_int, fIsi_bl_bool, fIsi_bl_tuple, fIsi_bl_str, fIsi_bl_list, fIsi_non_int, fIsi_non_bool, fIsi_non_tuple, fIsi_non_str, fIsi_non_list, fIsi_str_int, fIsi_str_bool, fIsi_str_tuple, fIsi_str_str, fIsi_str_list, fIsi_tup_int, fIsi_tup_bool, fIsi_tup_tuple, fIsi_tup_str, fIsi_tup_list, fIsi_lst_int, fIsi_lst_bool, fIsi_lst_tuple, fIsi_lst_str, fIsi_lst_list, fLen_lst, fLen_tup, fAbs, ↓D3.call3_k, ↓D3.kont_app, ↓D3.isN3.eq_1, ↓D3.notN3.eq_1, dIsN_non, dIsN_int, dIsN_bl, dIsN_str, dIsN_tup, dIsN_lst, ↓D3.slc3.eq_1, ↓D3.part3.eq_1, ↓D3.noPart3.eq_1, ↓D3.ilst3.eq_1, ↓D3.itup3.eq_1, ↓D3.irng1.eq_1, ↓D3.irng2.eq_1, ↓D3.for3.eq_1, fCat, fEq_int, fNe_int, fEq_bl, fNe_bl, fEq_pair, fNe_pair, List.map, List.replicate, List.length_cons, List.length_nil, List.set_cons_zero, List.set_cons_succ, List.getElem?_cons_zero, List.getElem?_cons_succ, List.cons_append, List.nil_append, at_0, at_1, at_2, at_3, at_4, at_5, at_6, ix_0, ix_1, ix_2, put_same, put_put, decide_eq_true_eq, Bool.not_eq_true', decide_eq_false_iff_not, ite_not, ite_true, ite_false, if_true, if_false, Bool.false_eq_true, ↓reduceIte, reduceIte, Nat.reduceAdd, Nat.reduceSub, Int.reduceToNat, Nat.reduceLeDiff, not_false_eq_true, true_and, and_true, ne_eq, Int.reduceEq, Nat.zero_add, Bool.not_true, Bool.not_false, reduceCtorEq, nc0, nc1, nc2, nc3, nc4, nc5, fIx_ref put_same, fLen_ref put_same, ↓D3.lc3.eq_1, fInt, fTuple, fList, fNeS_s, fEqS_s, ↓D3.gstar3.eq_1, fInK_s, fNinK_s, fLenS_s, ↓D3.slcT3.eq_1, fCatT_t, dnew3]))
    exact q
  | @other e h r h1 h2 h3 =>
    (refine laterP_in ?_; repeat ((first | with_reducible refine laterP_i ?_ | with_reducible refine later_i ?_); try simp -implicitDefEqProofs -dsimp only [↓D3.seq3_stop, ↓D3.ifS3.eq_1, ↓D3.b3.eq_1, ↓D3.op3.eq_1, ↓D3.un3.eq_1, ↓D3.v3.eq_1, ↓D3.c3.eq_1, fIx_tup, fIx_lst, at3_0, at3_1, at3_2, at3_3, at3_4, at3_5, at3_6, start3, fI0_i, fI_i, fLt, fLe, fGt, fGe, fEqI, fNeI, fMin, fMax, ↓D3.asg3.eq_1, ↓D3.name3.eq_1, ↓D3.sub3.eq_1, ↓D3.ret3.eq_1, ↓D3.retN3.eq_1, ↓D3.nx3.eq_1, ↓D3.drop3.eq_1, ↓D3.par3.eq_1, ↓D3.aug3.eq_1, ↓D3.and3.eq_1, ↓D3.or3.eq_1, ↓D3.not3.eq_1, ↓D3.andV3.eq_1, ↓D3.orV3.eq_1, ↓D3.notV3.eq_1, ↓D3.if3.eq_1, ↓D3.nil3.eq_1, ↓D3.cons3.eq_1, ↓D3.tup3.eq_1, ↓D3.lst3.eq_1, ↓D3.lstM3.eq_1, ↓D3.gtup3.eq_1, ↓D3.gcons3.eq_1, ↓D3.gnil3.eq_1, ↓D3.gunl3.eq_1, ↓D3.bits3.eq_1, ↓D3.neg3.eq_1, ↓D3.chain3.eq_1, fIsi_int_int, fIsi_int_bool, fIsi_int_tuple, fIsi_int_str, fIsi_int_list, fIsi_bl_int, fIsi_bl_bool, fIsi_bl_tuple, fIsi_bl_str, fIsi_bl_list, fIsi_non_int, fIsi_non_bool, fIsi_non_tuple, fIsi_non_str, fIsi_non_list, fIsi_str_int, fIsi_str_bool, fIsi_str_tuple, fIsi_str_str, fIsi_str_list, fIsi_tup_int, fIsi_tup_bool, fIsi_tup_tuple, fIsi_tup_str, fIsi_tup_list, fIsi_lst_int, fIsi_lst_bool, fIsi_lst_tuple, fIsi_lst_str, fIsi_lst_list, fLen_lst, fLen_tup, fAbs, ↓D3.call3_k, ↓D3.kont_app, ↓D3.isN3.eq_1, ↓D3.notN3.eq_1, dIsN_non, dIsN_int, dIsN_bl, dIsN_str, dIsN_tup, dIsN_lst, ↓D3.slc3.eq_1, ↓D3.part3.eq_1, ↓D3.noPart3.eq_1, ↓D3.ilst3.eq_1, ↓D3.itup3.eq_1, ↓D3.irng1.eq_1, ↓D3.irng2.eq_1, ↓D3.for3.eq_1, fCat, fEq_int, fNe_int, fEq_bl, fNe_bl, fEq_pair, fNe_pair, List.map, List.replicate, List.length_cons, List.length_nil, List.set_cons_zero, List.set_cons_succ, List.getElem?_cons_zero, List.getElem?_cons_succ, List.cons_append, List.nil_append, at_0, at_1, at_2, at_3, at_4, at_5, at_6, ix_0, ix_1, ix_2, put_same, put_put, decide_eq_true_eq, Bool.not_eq_true', decide_eq_false_iff_not, ite_not, ite_true, ite_false, if_true, if_false, Bool.false_eq_true, ↓reduceIte, reduceIte, Nat.reduceAdd, Nat.reduceSub, Int.reduceToNat, Nat.reduceLeDiff, not_false_eq_true, true_and, and_true, ne_eq, Int.reduceEq, Nat.zero_add, Bool.not_true, Bool.not_false, reduceCtorEq, nc0, nc1, nc2, nc3, nc4, nc5, fIx_ref put_same, fLen_ref put_same, ↓D3.lc3.eq_1, fInt, fTuple, fList, fNeS_s, fEqS_s, ↓D3.gstar3.eq_1, fInK_s, fNinK_s, fLenS_s, ↓D3.slcT3.eq_1, fCatT_t, dnew3]))
    refine ite2 (fun z => absurd z h3) (fun _ => ?_)
    (refine laterP_in ?_; repeat ((first | with_reducible refine laterP_i ?_ | with_reducible refine later_i ?_); try simp -implicitDefEqProofs -dsimp only [↓D3.seq3_stop, ↓D3.ifS3.eq_1, ↓D3.b3.eq_1, ↓D3.op3.eq_1, ↓D3.un3.eq_1, ↓D3.v3.eq_1, ↓D3.c3.eq_1, fIx_tup, fIx_lst, at3_0, at3_1, at3_2, at3_3, at3_4, at3_5, at3_6, start3, fI0_i, fI_i, fLt, fLe, fGt, fGe, fEqI, fNeI, fMin, fMax, ↓D3.asg3.eq_1, ↓D3.name3.eq_1, ↓D3.sub3.eq_1, ↓D3.ret3.eq_1, ↓D3.retN3.eq_1, ↓D3.nx3.eq_1, ↓D3.drop3.eq_1, ↓D3.par3.eq_1, ↓D3.aug3.eq_1, ↓D3.and3.eq_1, ↓D3.or3.eq_1, ↓D3.not3.eq_1, ↓D3.andV3.eq_1, ↓D3.orV3.eq_1, ↓D3.notV3.eq_1, ↓D3.if3.eq_1, ↓D3.nil3.eq_1, ↓D3.cons3.eq_1, ↓D3.tup3.eq_1, ↓D3.lst3.eq_1, ↓D3.lstM3.eq_1, ↓D3.gtup3.eq_1, ↓D3.gcons3.eq_1, ↓D3.gnil3.eq_1, ↓D3.gunl3.eq_1, ↓D3.bits3.eq_1, ↓D3.neg3.eq_1, ↓D3.chain3.eq_1, fIsi_int_int, fIsi_int_bool, fIsi_int_tuple, fIsi_int_str, fIsi_int_list, fIsi_bl_int, fIsi_bl_bool, fIsi_bl_tuple, fIsi_bl_str, fIsi_bl_list, fIsi_non_int, fIsi_non_bool, fIsi_non_tuple, fIsi_non_str, fIsi_non_list, fIsi_str_int, fIsi_str_bool, fIsi_str_tuple, fIsi_str_str, fIsi_str_list, fIsi_tup_int, fIsi_tup_bool, fIsi_tup_tuple, fIsi_tup_str, fIsi_tup_list, fIsi_lst_int, fIsi_lst_bool, fIsi_lst_tuple, fIsi_lst_str, fIsi_lst_list, fLen_lst, fLen_tup, fAbs, ↓D3.call3_k, ↓D3.kont_app, ↓D3.isN3.eq_1, ↓D3.notN3.eq_1, dIsN_non, dIsN_int, dIsN_bl, dIsN_str, dIsN_tup, dIsN_lst, ↓D3.slc3.eq_1, ↓D3.part3.eq_1, ↓D3.noPart3.eq_1, ↓D3.ilst3.eq_1, ↓D3.itup3.eq_1, ↓D3.irng1.eq_1, ↓D3.irng2.eq_1, ↓D3.for3.eq_1, fCat, fEq_int, fNe_int, fEq_bl, fNe_bl, fEq_pair, fNe_pair, List.map, List.replicate, List.length_cons, List.length_nil, List.set_cons_zero, List.set_cons_succ, List.getElem?_cons_zero, List.getElem?_cons_succ, List.cons_append, List.nil_append, at_0, at_1, at_2, at_3, at_4, at_5, at_6, ix_0, ix_1, ix_2, put_same, put_put, decide_eq_true_eq, Bool.not_eq_true', decide_eq_false_iff_not, ite_not, ite_true, ite_false, if_true, if_false, Bool.false_eq_true, ↓reduceIte, reduceIte, Nat.reduceAdd, Nat.reduceSub, Int.reduceToNat, Nat.reduceLeDiff, not_false_eq_true, true_and, and_true, ne_eq, Int.reduceEq, Nat.zero_add, Bool.not_true, Bool.not_false, reduceCtorEq, nc0, nc1, nc2, nc3, nc4, nc5, fIx_ref put_same, fLen_ref put_same, ↓D3.lc3.eq_1, fInt, fTuple, fList, fNeS_s, fEqS_s, ↓D3.gstar3.eq_1, fInK_s, fNinK_s, fLenS_s, ↓D3.slcT3.eq_1, fCatT_t, dnew3]))
    refine ite2 (fun z => absurd z h1) (fun _ => ?_)
    refine ite2 (fun z => absurd z h2) (fun _ => ?_)
    exact q
  | @size e a v ha =>
    obtain ⟨e, rfl⟩ : ∃ k, e = k + 1 := by cases ha <;> exact ⟨_, rfl⟩
    (refine laterP_in ?_; repeat ((first | with_reducible refine laterP_i ?_ | with_reducible refine later_i ?_); try simp -implicitDefEqProofs -dsimp only [↓D3.seq3_stop, ↓D3.ifS3.eq_1, ↓D3.b3.eq_1, ↓D3.op3.eq_1, ↓D3.un3.eq_1, ↓D3.v3.eq_1, ↓D3.c3.eq_1, fIx_tup, fIx_lst, at3_0, at3_1, at3_2, at3_3, at3_4, at3_5, at3_6, start3, fI0_i, fI_i, fLt, fLe, fGt, fGe, fEqI, fNeI, fMin, fMax, ↓D3.asg3.eq_1, ↓D3.name3.eq_1, ↓D3.sub3.eq_1, ↓D3.ret3.eq_1, ↓D3.retN3.eq_1, ↓D3.nx3.eq_1, ↓D3.drop3.eq_1, ↓D3.par3.eq_1, ↓D3.aug3.eq_1, ↓D3.and3.eq_1, ↓D3.or3.eq_1, ↓D3.not3.eq_1, ↓D3.andV3.eq_1, ↓D3.orV3.eq_1, ↓D3.notV3.eq_1, ↓D3.if3.eq_1, ↓D3.nil3.eq_1, ↓D3.cons3.eq_1, ↓D3.tup3.eq_1, ↓D3.lst3.eq_1, ↓D3.lstM3.eq_1, ↓D3.gtup3.eq_1, ↓D3.gcons3.eq_1, ↓D3.gnil3.eq_1, ↓D3.gunl3.eq_1, ↓D3.bits3.eq_1, ↓D3.neg3.eq_1, ↓D3.chain3.eq_1, fIsi_int_int, fIsi_int_bool, fIsi_int_tuple, fIsi_int_str, fIsi_int_list, fIsi_bl_int, fIsi_bl_bool, fIsi_bl_tuple, fIsi_bl_str, fIsi_bl_list, fIsi_non_int, fIsi_non_bool, fIsi_non_tuple, fIsi_non_str, fIsi_non_list, fIsi_str_int, fIsi_str_bool, fIsi_str_tuple, fIsi_str_str, fIsi_str_list, fIsi_tup_int, fIsi_tup_bool, fIsi_tup_tuple, fIsi_tup_str, fIsi_tup_list, fIsi_lst_int, fIsi_lst_bool, fIsi_lst_tuple, fIsi_lst_str, fIsi_lst_list, fLen_lst, fLen_tup, fAbs, ↓D3.call3_k, ↓D3.kont_app, ↓D3.isN3.eq_1, ↓D3.notN3.eq_1, dIsN_non, dIsN_int, dIsN_bl, dIsN_str, dIsN_tup, dIsN_lst, ↓D3.slc3.eq_1, ↓D3.part3.eq_1, ↓D3.noPart3.eq_1, ↓D3.ilst3.eq_1, ↓D3.itup3.eq_1, ↓D3.irng1.eq_1, ↓D3.irng2.eq_1, ↓D3.for3.eq_1, fCat, fEq_int, fNe_int, fEq_bl, fNe_bl, fEq_pair, fNe_pair, List.map, List.replicate, List.length_cons, List.length_nil, List.set_cons_zero, List.set_cons_succ, List.getElem?_cons_zero, List.getElem?_cons_succ, List.cons_append, List.nil_append, at_0, at_1, at_2, at_3, at_4, at_5, at_6, ix_0, ix_1, ix_2, put_same, put_put, decide_eq_true_eq, Bool.not_eq_true', decide_eq_false_iff_not, ite_not, ite_true, ite_false, if_true, if_false, Bool.false_eq_true, ↓reduceIte, reduceIte, Nat.reduceAdd, Nat.reduceSub, Int.reduceToNat, Nat.reduceLeDiff, not_false_eq_true, true_and, and_true, ne_eq, Int.reduceEq, Nat.zero_add, Bool.not_true, Bool.not_false, reduceCtorEq, nc0, nc1, nc2, nc3, nc4, nc5, fIx_ref put_same, fLen_ref put_same, ↓D3.lc3.eq_1, fInt, fTuple, fList, fNeS_s, fEqS_s, ↓D3.gstar3.eq_1, fInK_s, fNinK_s, fLenS_s, ↓D3.slcT3.eq_1, fCatT_t, dnew3]))
    refine ite2 (fun z => absurd z (by decide +kernel)) (fun _ => ?_)
    (refine laterP_in ?_; repeat ((first | with_reducible refine laterP_i ?_ | with_reducible refine later_i ?_); try simp -implicitDefEqProofs -dsimp only [↓D3.seq3_stop, ↓D3.ifS3.eq_1, ↓D3.b3.eq_1, ↓D3.op3.eq_1, ↓D3.un3.eq_1, ↓D3.v3.eq_1, ↓D3.c3.eq_1, fIx_tup, fIx_lst, at3_0, at3_1, at3_2, at3_3, at3_4, at3_5, at3_6, start3, fI0_i, fI_i, fLt, fLe, fGt, fGe, fEqI, fNeI, fMin, fMax, ↓D3.asg3.eq_1, ↓D3.name3.eq_1, ↓D3.sub3.eq_1, ↓D3.ret3.eq_1, ↓D3.retN3.eq_1, ↓D3.nx3.eq_1, ↓D3.drop3.eq_1, ↓D3.par3.eq_1, ↓D3.aug3.eq_1, ↓D3.and3.eq_1, ↓D3.or3.eq_1, ↓D3.not3.eq_1, ↓D3.andV3.eq_1, ↓D3.orV3.eq_1, ↓D3.notV3.eq_1, ↓D3.if3.eq_1, ↓D3.nil3.eq_1, ↓D3.cons3.eq_1, ↓D3.tup3.eq_1, ↓D3.lst3.eq_1, ↓D3.lstM3.eq_1, ↓D3.gtup3.eq_1, ↓D3.gcons3.eq_1, ↓D3.gnil3.eq_1, ↓D3.gunl3.eq_1, ↓D3.bits3.eq_1, ↓D3.neg3.eq_1, ↓D3.chain3.eq_1, fIsi_int_int, fIsi_int_bool, fIsi_int_tuple, fIsi_int_str, fIsi_int_list, fIsi_bl_int, fIsi_bl_bool, fIsi_bl_tuple, fIsi_bl_str, fIsi_bl_list, fIsi_non_int, fIsi_non_bool, fIsi_non_tuple, fIsi_non_str, fIsi_non_list, fIsi_str_int, fIsi_str_bool, fIsi_str_tuple, fIsi_str_str, fIsi_str_list, fIsi_tup_int, fIsi_tup_bool, fIsi_tup_tuple, fIsi_tup_str, fIsi_tup_list, fIsi_lst_int, fIsi_lst_bool, fIsi_lst_tuple, fIsi_lst_str, fIsi_lst_list, fLen_lst, fLen_tup, fAbs, ↓D3.call3_k, ↓D3.kont_app, ↓D3.isN3.eq_1, ↓D3.notN3.eq_1, dIsN_non, dIsN_int, dIsN_bl, dIsN_str, dIsN_tup, dIsN_lst, ↓D3.slc3.eq_1, ↓D3.part3.eq_1, ↓D3.noPart3.eq_1, ↓D3.ilst3.eq_1, ↓D3.itup3.eq_1, ↓D3.irng1.eq_1, ↓D3.irng2.eq_1, ↓D3.for3.eq_1, fCat, fEq_int, fNe_int, fEq_bl, fNe_bl, fEq_pair, fNe_pair, List.map, List.replicate, List.length_cons, List.length_nil, List.set_cons_zero, List.set_cons_succ, List.getElem?_cons_zero, List.getElem?_cons_succ, List.cons_append, List.nil_append, at_0, at_1, at_2, at_3, at_4, at_5, at_6, ix_0, ix_1, ix_2, put_same, put_put, decide_eq_true_eq, Bool.not_eq_true', decide_eq_false_iff_not, ite_not, ite_true, ite_false, if_true, if_false, Bool.false_eq_true, ↓reduceIte, reduceIte, Nat.reduceAdd, Nat.reduceSub, Int.reduceToNat, Nat.reduceLeDiff, not_false_eq_true, true_and, and_true, ne_eq, Int.reduceEq, Nat.zero_add, Bool.not_true, Bool.not_false, reduceCtorEq, nc0, nc1, nc2, nc3, nc4, nc5, fIx_ref put_same, fLen_ref put_same, ↓D3.lc3.eq_1, fInt, fTuple, fList, fNeS_s, fEqS_s, ↓D3.gstar3.eq_1, fInK_s, fNinK_s, fLenS_s, ↓D3.slcT3.eq_1, fCatT_t, dnew3]))
    refine ite2 (fun z => absurd z (by decide +kernel)) (fun _ => ?_)
    (refine laterP_in ?_; repeat ((first | with_reducible refine laterP_i ?_ | with_reducible refine later_i ?_); try simp -implicitDefEqProofs -dsimp only [↓D3.seq3_stop, ↓D3.ifS3.eq_1, ↓D3.b3.eq_1, ↓D3.op3.eq_1, ↓D3.un3.eq_1, ↓D3.v3.eq_1, ↓D3.c3.eq_1, fIx_tup, fIx_lst, at3_0, at3_1, at3_2, at3_3, at3_4, at3_5, at3_6, start3, fI0_i, fI_i, fLt, fLe, fGt, fGe, fEqI, fNeI, fMin, fMax, ↓D3.asg3.eq_1, ↓D3.name3.eq_1, ↓D3.sub3.eq_1, ↓D3.ret3.eq_1, ↓D3.retN3.eq_1, ↓D3.nx3.eq_1, ↓D3.drop3.eq_1, ↓D3.par3.eq_1, ↓D3.aug3.eq_1, ↓D3.and3.eq_1, ↓D3.or3.eq_1, ↓D3.not3.eq_1, ↓D3.andV3.eq_1, ↓D3.orV3.eq_1, ↓D3.notV3.eq_1, ↓D3.if3.eq_1, ↓D3.nil3.eq_1, ↓D3.cons3.eq_1, ↓D3.tup3.eq_1, ↓D3.lst3.eq_1, ↓D3.lstM3.eq_1, ↓D3.gtup3.eq_1, ↓D3.gcons3.eq_1, ↓D3.gnil3.eq_1, ↓D3.gunl3.eq_1, ↓D3.bits3.eq_1, ↓D3.neg3.eq_1, ↓D3.chain3.eq_1, fIsi_int_int, fIsi_int_bool, fIsi_int_tuple, fIsi_int_str, fIsi_int_list, fIsi_bl_int, fIsi_bl_bool, fIsi_bl_tuple, fIsi_bl_str, fIsi_bl_list, fIsi_non_int, fIsi_non_bool, fIsi_non_tuple, fIsi_non_str, fIsi_non_list, fIsi_str_int, fIsi_str_bool, fIsi_str_tuple, fIsi_str_str, fIsi_str_list, fIsi_tup_int, fIsi_tup_bool, fIsi_tup_tuple, fIsi_tup_str, fIsi_tup_list, fIsi_lst_int, fIsi_lst_bool, fIsi_lst_tuple, fIsi_lst_str, fIsi_lst_list, fLen_lst, fLen_tup, fAbs, ↓D3.call3_k, ↓D3.kont_app, ↓D3.isN3.eq_1, ↓D3.notN3.eq_1, dIsN_non, dIsN_int, dIsN_bl, dIsN_str, dIsN_tup, dIsN_lst, ↓D3.slc3.eq_1, ↓D3.part3.eq_1, ↓D3.noPart3.eq_1, ↓D3.ilst3.eq_1, ↓D3.itup3.eq_1, ↓D3.irng1.eq_1, ↓D3.irng2.eq_1, ↓D3.for3.eq_1, fCat, fEq_int, fNe_int, fEq_bl, fNe_bl, fEq_pair, fNe_pair, List.map, List.replicate, List.length_cons, List.length_nil, List.set_cons_zero, List.set_cons_succ, List.getElem?_cons_zero, List.getElem?_cons_succ, List.cons_append, List.nil_append, at_0, at_1, at_2, at_3, at_4, at_5, at_6, ix_0, ix_1, ix_2, put_same, put_put, decide_eq_true_eq, Bool.not_eq_true', decide_eq_false_iff_not, ite_not, ite_true, ite_false, if_true, if_false, Bool.false_eq_true, ↓reduceIte, reduceIte, Nat.reduceAdd, Nat.reduceSub, Int.reduceToNat, Nat.reduceLeDiff, not_false_eq_true, true_and, and_true, ne_eq, Int.reduceEq, Nat.zero_add, Bool.not_true, Bool.not_false, reduceCtorEq, nc0, nc1, nc2, nc3, nc4, nc5, fIx_ref put_same, fLen_ref put_same, ↓D3.lc3.eq_1, fInt, fTuple, fList, fNeS_s, fEqS_s, ↓D3.gstar3.eq_1, fInK_s, fNinK_s, fLenS_s, ↓D3.slcT3.eq_1, fCatT_t, dnew3]))
    refine ⟨_, rfl, hp, hd, ?_⟩
    rw [inn_one (by simp [K1])]
    (refine laterP_in ?_; repeat ((first | with_reducible refine laterP_i ?_ | with_reducible refine later_i ?_); try simp -implicitDefEqProofs -dsimp only [↓D3.seq3_stop, ↓D3.ifS3.eq_1, ↓D3.b3.eq_1, ↓D3.op3.eq_1, ↓D3.un3.eq_1, ↓D3.v3.eq_1, ↓D3.c3.eq_1, fIx_tup, fIx_lst, at3_0, at3_1, at3_2, at3_3, at3_4, at3_5, at3_6, start3, fI0_i, fI_i, fLt, fLe, fGt, fGe, fEqI, fNeI, fMin, fMax, ↓D3.asg3.eq_1, ↓D3.name3.eq_1, ↓D3.sub3.eq_1, ↓D3.ret3.eq_1, ↓D3.retN3.eq_1, ↓D3.nx3.eq_1, ↓D3.drop3.eq_1, ↓D3.par3.eq_1, ↓D3.aug3.eq_1, ↓D3.and3.eq_1, ↓D3.or3.eq_1, ↓D3.not3.eq_1, ↓D3.andV3.eq_1, ↓D3.orV3.eq_1, ↓D3.notV3.eq_1, ↓D3.if3.eq_1, ↓D3.nil3.eq_1, ↓D3.cons3.eq_1, ↓D3.tup3.eq_1, ↓D3.lst3.eq_1, ↓D3.lstM3.eq_1, ↓D3.gtup3.eq_1, ↓D3.gcons3.eq_1, ↓D3.gnil3.eq_1, ↓D3.gunl3.eq_1, ↓D3.bits3.eq_1, ↓D3.neg3.eq_1, ↓D3.chain3.eq_1, fIsi_int_int, fIsi_int_bool, fIsi_int_tuple, fIsi_int_str, fIsi_int_list, fIsi_bl_int, fIsi_bl_bool, fIsi_bl_tuple, fIsi_bl_str, fIsi_bl_list, fIsi_non_int, fIsi_non_bool, fIsi_non_tuple, fIsi_non_str, fIsi_non_list, fIsi_str_int, fIsi_str_bool, fIsi_str_tuple, fIsi_str_str, fIsi_str_list, fIsi_tup_int, fIsi_tup_bool, fIsi_tup_tuple, fIsi_tup_str, fIsi_tup_list, fIsi_lst_int, fIsi_lst_bool, fIsi_lst_tuple, fIsi_lst_str, fIsi_lst_list, fLen_lst, fLen_tup, fAbs, ↓D3.call3_k, ↓D3.kont_app, ↓D3.isN3.eq_1, ↓D3.notN3.eq_1, dIsN_non, dIsN_int, dIsN_bl, dIsN_str, dIsN_tup, dIsN_lst, ↓D3.slc3.eq_1, ↓D3.part3.eq_1, ↓D3.noPart3.eq_1, ↓D3.ilst3.eq_1, ↓D3.itup3.eq_1, ↓D3.irng1.eq_1, ↓D3.irng2.eq_1, ↓D3.for3.eq_1, fCat, fEq_int, fNe_int, fEq_bl, fNe_bl, fEq_pair, fNe_pair, List.map, List.replicate, List.length_cons, List.length_nil, List.set_cons_zero, List.set_cons_succ, List.getElem?_cons_zero, List.getElem?_cons_succ, List.cons_append, List.nil_append, at_0, at_1, at_2, at_3, at_4, at_5, at_6, ix_0, ix_1, ix_2, put_same, put_put, decide_eq_true_eq, Bool.not_eq_true', decide_eq_false_iff_not, ite_not, ite_true, ite_false, if_true, if_false, Bool.false_eq_true, ↓reduceIte, reduceIte, Nat.reduceAdd, Nat.reduceSub, Int.reduceToNat, Nat.reduceLeDiff, not_false_eq_true, true_and, and_true, ne_eq, Int.reduceEq, Nat.zero_add, Bool.not_true, Bool.not_false, reduceCtorEq, nc0, nc1, nc2, nc3, nc4, nc5, fIx_ref put_same, fLen_ref put_same, ↓D3.lc3.eq_1, fInt, fTuple, fList, fNeS_s, fEqS_s, ↓D3.gstar3.eq_1, fInK_s, fNinK_s, fLenS_s, ↓D3.slcT3.eq_1, fCatT_t, dnew3, oD]))
    intro L hL
    have pa : Pl 900 a := hp.2.1
    have da : dp a ≤ 60 := by simp only [dp, dps] at hd; omega
    have sm := ha.sm
    have bl := bits_le (e := e + 1) (by omega)
    refine lcGo_pairs [(a, oQ v)] [] _ put_same (by simp) (fun z hz m' Kt k => ?_) ?_
    · simp only [List.mem_cons, List.not_mem_nil, or_false] at hz
      subst hz
      try simp -implicitDefEqProofs -dsimp only [seq3, ↓D3.ifS3.eq_1, ↓D3.b3.eq_1, ↓D3.op3.eq_1, ↓D3.un3.eq_1, ↓D3.v3.eq_1, ↓D3.c3.eq_1, fIx_tup, fIx_lst, at3_0, at3_1, at3_2, at3_3, at3_4, at3_5, at3_6, start3, fI0_i, fI_i, fLt, fLe, fGt, fGe, fEqI, fNeI, fMin, fMax, ↓D3.asg3.eq_1, ↓D3.name3.eq_1, ↓D3.sub3.eq_1, ↓D3.ret3.eq_1, ↓D3.retN3.eq_1, ↓D3.nx3.eq_1, ↓D3.drop3.eq_1, ↓D3.par3.eq_1, ↓D3.aug3.eq_1, ↓D3.and3.eq_1, ↓D3.or3.eq_1, ↓D3.not3.eq_1, ↓D3.andV3.eq_1, ↓D3.orV3.eq_1, ↓D3.notV3.eq_1, ↓D3.if3.eq_1, ↓D3.nil3.eq_1, ↓D3.cons3.eq_1, ↓D3.tup3.eq_1, ↓D3.lst3.eq_1, ↓D3.lstM3.eq_1, ↓D3.gtup3.eq_1, ↓D3.gcons3.eq_1, ↓D3.gnil3.eq_1, ↓D3.gunl3.eq_1, ↓D3.bits3.eq_1, ↓D3.neg3.eq_1, ↓D3.chain3.eq_1, fIsi_int_int, fIsi_int_bool, fIsi_int_tuple, fIsi_int_str, fIsi_int_list, fIsi_bl_int, fIsi_bl_bool, fIsi_bl_tuple, fIsi_bl_str, fIsi_bl_list, fIsi_non_int, fIsi_non_bool, fIsi_non_tuple, fIsi_non_str, fIsi_non_list, fIsi_str_int, fIsi_str_bool, fIsi_str_tuple, fIsi_str_str, fIsi_str_list, fIsi_tup_int, fIsi_tup_bool, fIsi_tup_tuple, fIsi_tup_str, fIsi_tup_list, fIsi_lst_int, fIsi_lst_bool, fIsi_lst_tuple, fIsi_lst_str, fIsi_lst_list, fLen_lst, fLen_tup, fAbs, ↓D3.call3_k, ↓D3.kont_app, ↓D3.isN3.eq_1, ↓D3.notN3.eq_1, dIsN_non, dIsN_int, dIsN_bl, dIsN_str, dIsN_tup, dIsN_lst, ↓D3.slc3.eq_1, ↓D3.part3.eq_1, ↓D3.noPart3.eq_1, ↓D3.ilst3.eq_1, ↓D3.itup3.eq_1, ↓D3.irng1.eq_1, ↓D3.irng2.eq_1, ↓D3.for3.eq_1, fCat, fEq_int, fNe_int, fEq_bl, fNe_bl, fEq_pair, fNe_pair, List.map, List.replicate, List.length_cons, List.length_nil, List.set_cons_zero, List.set_cons_succ, List.getElem?_cons_zero, List.getElem?_cons_succ, List.cons_append, List.nil_append, at_0, at_1, at_2, at_3, at_4, at_5, at_6, ix_0, ix_1, ix_2, put_same, put_put, decide_eq_true_eq, Bool.not_eq_true', decide_eq_false_iff_not, ite_not, ite_true, ite_false, if_true, if_false, Bool.false_eq_true, ↓reduceIte, reduceIte, Nat.reduceAdd, Nat.reduceSub, Int.reduceToNat, Nat.reduceLeDiff, not_false_eq_true, true_and, and_true, ne_eq, Int.reduceEq, Nat.zero_add, Bool.not_true, Bool.not_false, reduceCtorEq, nc0, nc1, nc2, nc3, nc4, nc5, fIx_ref put_same, fLen_ref put_same, ↓D3.lc3.eq_1, fInt, fTuple, fList, fNeS_s, fEqS_s, ↓D3.gstar3.eq_1, fInK_s, fNinK_s, fLenS_s, ↓D3.slcT3.eq_1, fCatT_t, dnew3]
      exact ⟨a, v, rfl, ha, by omega, pa, da, k⟩
    rw [del_put, del_none hL]
    (refine laterP_in ?_; repeat ((first | with_reducible refine laterP_i ?_ | with_reducible refine later_i ?_); try simp -implicitDefEqProofs -dsimp only [↓D3.seq3_stop, ↓D3.ifS3.eq_1, ↓D3.b3.eq_1, ↓D3.op3.eq_1, ↓D3.un3.eq_1, ↓D3.v3.eq_1, ↓D3.c3.eq_1, fIx_tup, fIx_lst, at3_0, at3_1, at3_2, at3_3, at3_4, at3_5, at3_6, start3, fI0_i, fI_i, fLt, fLe, fGt, fGe, fEqI, fNeI, fMin, fMax, ↓D3.asg3.eq_1, ↓D3.name3.eq_1, ↓D3.sub3.eq_1, ↓D3.ret3.eq_1, ↓D3.retN3.eq_1, ↓D3.nx3.eq_1, ↓D3.drop3.eq_1, ↓D3.par3.eq_1, ↓D3.aug3.eq_1, ↓D3.and3.eq_1, ↓D3.or3.eq_1, ↓D3.not3.eq_1, ↓D3.andV3.eq_1, ↓D3.orV3.eq_1, ↓D3.notV3.eq_1, ↓D3.if3.eq_1, ↓D3.nil3.eq_1, ↓D3.cons3.eq_1, ↓D3.tup3.eq_1, ↓D3.lst3.eq_1, ↓D3.lstM3.eq_1, ↓D3.gtup3.eq_1, ↓D3.gcons3.eq_1, ↓D3.gnil3.eq_1, ↓D3.gunl3.eq_1, ↓D3.bits3.eq_1, ↓D3.neg3.eq_1, ↓D3.chain3.eq_1, fIsi_int_int, fIsi_int_bool, fIsi_int_tuple, fIsi_int_str, fIsi_int_list, fIsi_bl_int, fIsi_bl_bool, fIsi_bl_tuple, fIsi_bl_str, fIsi_bl_list, fIsi_non_int, fIsi_non_bool, fIsi_non_tuple, fIsi_non_str, fIsi_non_list, fIsi_str_int, fIsi_str_bool, fIsi_str_tuple, fIsi_str_str, fIsi_str_list, fIsi_tup_int, fIsi_tup_bool, fIsi_tup_tuple, fIsi_tup_str, fIsi_tup_list, fIsi_lst_int, fIsi_lst_bool, fIsi_lst_tuple, fIsi_lst_str, fIsi_lst_list, fLen_lst, fLen_tup, fAbs, ↓D3.call3_k, ↓D3.kont_app, ↓D3.isN3.eq_1, ↓D3.notN3.eq_1, dIsN_non, dIsN_int, dIsN_bl, dIsN_str, dIsN_tup, dIsN_lst, ↓D3.slc3.eq_1, ↓D3.part3.eq_1, ↓D3.noPart3.eq_1, ↓D3.ilst3.eq_1, ↓D3.itup3.eq_1, ↓D3.irng1.eq_1, ↓D3.irng2.eq_1, ↓D3.for3.eq_1, fCat, fEq_int, fNe_int, fEq_bl, fNe_bl, fEq_pair, fNe_pair, List.map, List.replicate, List.length_cons, List.length_nil, List.set_cons_zero, List.set_cons_succ, List.getElem?_cons_zero, List.getElem?_cons_succ, List.cons_append, List.nil_append, at_0, at_1, at_2, at_3, at_4, at_5, at_6, ix_0, ix_1, ix_2, put_same, put_put, decide_eq_true_eq, Bool.not_eq_true', decide_eq_false_iff_not, ite_not, ite_true, ite_false, if_true, if_false, Bool.false_eq_true, ↓reduceIte, reduceIte, Nat.reduceAdd, Nat.reduceSub, Int.reduceToNat, Nat.reduceLeDiff, not_false_eq_true, true_and, and_true, ne_eq, Int.reduceEq, Nat.zero_add, Bool.not_true, Bool.not_false, reduceCtorEq, nc0, nc1, nc2, nc3, nc4, nc5, fIx_ref put_same, fLen_ref put_same, ↓D3.lc3.eq_1, fInt, fTuple, fList, fNeS_s, fEqS_s, ↓D3.gstar3.eq_1, fInK_s, fNinK_s, fLenS_s, ↓D3.slcT3.eq_1, fCatT_t, dnew3]))
    obtain ⟨o1, o2⟩ := oQ_pl (n := bits (e + 1)) sm
    refine fInD_pl (n := 900) (k := bits (e + 1)) (x := .non) trivial (show Pls (bits (e + 1)) [oQ v] from ⟨o1, trivial⟩) (by simp [dp]) (by simp only [dps]; omega) ?_
    rw [show ((pysOf [oQ v]).any fun z => PyData.eqv z (pyOf .non)) = v.isNone from by simp only [pysOf, List.any_cons, List.any_nil, Bool.or_false, oQ_none]]
    cases v with
    | none =>
      (refine laterP_in ?_; repeat ((first | with_reducible refine laterP_i ?_ | with_reducible refine later_i ?_); try simp -implicitDefEqProofs -dsimp only [↓D3.seq3_stop, ↓D3.ifS3.eq_1, ↓D3.b3.eq_1, ↓D3.op3.eq_1, ↓D3.un3.eq_1, ↓D3.v3.eq_1, ↓D3.c3.eq_1, fIx_tup, fIx_lst, at3_0, at3_1, at3_2, at3_3, at3_4, at3_5, at3_6, start3, fI0_i, fI_i, fLt, fLe, fGt, fGe, fEqI, fNeI, fMin, fMax, ↓D3.asg3.eq_1, ↓D3.name3.eq_1, ↓D3.sub3.eq_1, ↓D3.ret3.eq_1, ↓D3.retN3.eq_1, ↓D3.nx3.eq_1, ↓D3.drop3.eq_1, ↓D3.par3.eq_1, ↓D3.aug3.eq_1, ↓D3.and3.eq_1, ↓D3.or3.eq_1, ↓D3.not3.eq_1, ↓D3.andV3.eq_1, ↓D3.orV3.eq_1, ↓D3.notV3.eq_1, ↓D3.if3.eq_1, ↓D3.nil3.eq_1, ↓D3.cons3.eq_1, ↓D3.tup3.eq_1, ↓D3.lst3.eq_1, ↓D3.lstM3.eq_1, ↓D3.gtup3.eq_1, ↓D3.gcons3.eq_1, ↓D3.gnil3.eq_1, ↓D3.gunl3.eq_1, ↓D3.bits3.eq_1, ↓D3.neg3.eq_1, ↓D3.chain3.eq_1, fIsi_int_int, fIsi_int_bool, fIsi_int_tuple, fIsi_int_str, fIsi_int_list, fIsi_bl_int, fIsi_bl_bool, fIsi_bl_tuple, fIsi_bl_str, fIsi_bl_list, fIsi_non_int, fIsi_non_bool, fIsi_non_tuple, fIsi_non_str, fIsi_non_list, fIsi_str_int, fIsi_str_bool, fIsi_str_tuple, fIsi_str_str, fIsi_str_list, fIsi_tup_int, fIsi_tup_bool, fIsi_tup_tuple, fIsi_tup_str, fIsi_tup_list, fIsi_lst_int, fIsi_lst_bool, fIsi_lst_tuple, fIsi_lst_str, fIsi_lst_list, fLen_lst, fLen_tup, fAbs, ↓D3.call3_k, ↓D3.kont_app, ↓D3.isN3.eq_1, ↓D3.notN3.eq_1, dIsN_non, dIsN_int, dIsN_bl, dIsN_str, dIsN_tup, dIsN_lst, ↓D3.slc3.eq_1, ↓D3.part3.eq_1, ↓D3.noPart3.eq_1, ↓D3.ilst3.eq_1, ↓D3.itup3.eq_1, ↓D3.irng1.eq_1, ↓D3.irng2.eq_1, ↓D3.for3.eq_1, fCat, fEq_int, fNe_int, fEq_bl, fNe_bl, fEq_pair, fNe_pair, List.map, List.replicate, List.length_cons, List.length_nil, List.set_cons_zero, List.set_cons_succ, List.getElem?_cons_zero, List.getElem?_cons_succ, List.cons_append, List.nil_append, at_0, at_1, at_2, at_3, at_4, at_5, at_6, ix_0, ix_1, ix_2, put_same, put_put, decide_eq_true_eq, Bool.not_eq_true', decide_eq_false_iff_not, ite_not, ite_true, ite_false, if_true, if_false, Bool.false_eq_true, ↓reduceIte, reduceIte, Nat.reduceAdd, Nat.reduceSub, Int.reduceToNat, Nat.reduceLeDiff, not_false_eq_true, true_and, and_true, ne_eq, Int.reduceEq, Nat.zero_add, Bool.not_true, Bool.not_false, reduceCtorEq, nc0, nc1, nc2, nc3, nc4, nc5, fIx_ref put_same, fLen_ref put_same, ↓D3.lc3.eq_1, fInt, fTuple, fList, fNeS_s, fEqS_s, ↓D3.gstar3.eq_1, fInK_s, fNinK_s, fLenS_s, ↓D3.slcT3.eq_1, fCatT_t, dnew3, Option.isNone_none]))
      exact q
    | some r =>
      (refine laterP_in ?_; repeat ((first | with_reducible refine laterP_i ?_ | with_reducible refine later_i ?_); try simp -implicitDefEqProofs -dsimp only [↓D3.seq3_stop, ↓D3.ifS3.eq_1, ↓D3.b3.eq_1, ↓D3.op3.eq_1, ↓D3.un3.eq_1, ↓D3.v3.eq_1, ↓D3.c3.eq_1, fIx_tup, fIx_lst, at3_0, at3_1, at3_2, at3_3, at3_4, at3_5, at3_6, start3, fI0_i, fI_i, fLt, fLe, fGt, fGe, fEqI, fNeI, fMin, fMax, ↓D3.asg3.eq_1, ↓D3.name3.eq_1, ↓D3.sub3.eq_1, ↓D3.ret3.eq_1, ↓D3.retN3.eq_1, ↓D3.nx3.eq_1, ↓D3.drop3.eq_1, ↓D3.par3.eq_1, ↓D3.aug3.eq_1, ↓D3.and3.eq_1, ↓D3.or3.eq_1, ↓D3.not3.eq_1, ↓D3.andV3.eq_1, ↓D3.orV3.eq_1, ↓D3.notV3.eq_1, ↓D3.if3.eq_1, ↓D3.nil3.eq_1, ↓D3.cons3.eq_1, ↓D3.tup3.eq_1, ↓D3.lst3.eq_1, ↓D3.lstM3.eq_1, ↓D3.gtup3.eq_1, ↓D3.gcons3.eq_1, ↓D3.gnil3.eq_1, ↓D3.gunl3.eq_1, ↓D3.bits3.eq_1, ↓D3.neg3.eq_1, ↓D3.chain3.eq_1, fIsi_int_int, fIsi_int_bool, fIsi_int_tuple, fIsi_int_str, fIsi_int_list, fIsi_bl_int, fIsi_bl_bool, fIsi_bl_tuple, fIsi_bl_str, fIsi_bl_list, fIsi_non_int, fIsi_non_bool, fIsi_non_tuple, fIsi_non_str, fIsi_non_list, fIsi_str_int, fIsi_str_bool, fIsi_str_tuple, fIsi_str_str, fIsi_str_list, fIsi_tup_int, fIsi_tup_bool, fIsi_tup_tuple, fIsi_tup_str, fIsi_tup_list, fIsi_lst_int, fIsi_lst_bool, fIsi_lst_tuple, fIsi_lst_str, fIsi_lst_list, fLen_lst, fLen_tup, fAbs, ↓D3.call3_k, ↓D3.kont_app, ↓D3.isN3.eq_1, ↓D3.notN3.eq_1, dIsN_non, dIsN_int, dIsN_bl, dIsN_str, dIsN_tup, dIsN_lst, ↓D3.slc3.eq_1, ↓D3.part3.eq_1, ↓D3.noPart3.eq_1, ↓D3.ilst3.eq_1, ↓D3.itup3.eq_1, ↓D3.irng1.eq_1, ↓D3.irng2.eq_1, ↓D3.for3.eq_1, fCat, fEq_int, fNe_int, fEq_bl, fNe_bl, fEq_pair, fNe_pair, List.map, List.replicate, List.length_cons, List.length_nil, List.set_cons_zero, List.set_cons_succ, List.getElem?_cons_zero, List.getElem?_cons_succ, List.cons_append, List.nil_append, at_0, at_1, at_2, at_3, at_4, at_5, at_6, ix_0, ix_1, ix_2, put_same, put_put, decide_eq_true_eq, Bool.not_eq_true', decide_eq_false_iff_not, ite_not, ite_true, ite_false, if_true, if_false, Bool.false_eq_true, ↓reduceIte, reduceIte, Nat.reduceAdd, Nat.reduceSub, Int.reduceToNat, Nat.reduceLeDiff, not_false_eq_true, true_and, and_true, ne_eq, Int.reduceEq, Nat.zero_add, Bool.not_true, Bool.not_false, reduceCtorEq, nc0, nc1, nc2, nc3, nc4, nc5, fIx_ref put_same, fLen_ref put_same, ↓D3.lc3.eq_1, fInt, fTuple, fList, fNeS_s, fEqS_s, ↓D3.gstar3.eq_1, fInK_s, fNinK_s, fLenS_s, ↓D3.slcT3.eq_1, fCatT_t, dnew3, Option.isNone_some]))
      have q2 : Q (qD (rabs r)) m := q
      rw [rabs_D] at q2
      (refine laterP_in ?_; repeat ((first | with_reducible refine laterP_i ?_ | with_reducible refine later_i ?_); try simp -implicitDefEqProofs -dsimp only [↓D3.seq3_stop, ↓D3.ifS3.eq_1, ↓D3.b3.eq_1, ↓D3.op3.eq_1, ↓D3.un3.eq_1, ↓D3.v3.eq_1, ↓D3.c3.eq_1, fIx_tup, fIx_lst, at3_0, at3_1, at3_2, at3_3, at3_4, at3_5, at3_6, start3, fI0_i, fI_i, fLt, fLe, fGt, fGe, fEqI, fNeI, fMin, fMax, ↓D3.asg3.eq_1, ↓D3.name3.eq_1, ↓D3.sub3.eq_1, ↓D3.ret3.eq_1, ↓D3.retN3.eq_1, ↓D3.nx3.eq_1, ↓D3.drop3.eq_1, ↓D3.par3.eq_1, ↓D3.aug3.eq_1, ↓D3.and3.eq_1, ↓D3.or3.eq_1, ↓D3.not3.eq_1, ↓D3.andV3.eq_1, ↓D3.orV3.eq_1, ↓D3.notV3.eq_1, ↓D3.if3.eq_1, ↓D3.nil3.eq_1, ↓D3.cons3.eq_1, ↓D3.tup3.eq_1, ↓D3.lst3.eq_1, ↓D3.lstM3.eq_1, ↓D3.gtup3.eq_1, ↓D3.gcons3.eq_1, ↓D3.gnil3.eq_1, ↓D3.gunl3.eq_1, ↓D3.bits3.eq_1, ↓D3.neg3.eq_1, ↓D3.chain3.eq_1, fIsi_int_int, fIsi_int_bool, fIsi_int_tuple, fIsi_int_str, fIsi_int_list, fIsi_bl_int, fIsi_bl_bool, fIsi_bl_tuple, fIsi_bl_str, fIsi_bl_list, fIsi_non_int, fIsi_non_bool, fIsi_non_tuple, fIsi_non_str, fIsi_non_list, fIsi_str_int, fIsi_str_bool, fIsi_str_tuple, fIsi_str_str, fIsi_str_list, fIsi_tup_int, fIsi_tup_bool, fIsi_tup_tuple, fIsi_tup_str, fIsi_tup_list, fIsi_lst_int, fIsi_lst_bool, fIsi_lst_tuple, fIsi_lst_str, fIsi_lst_list, fLen_lst, fLen_tup, fAbs, ↓D3.call3_k, ↓D3.kont_app, ↓D3.isN3.eq_1, ↓D3.notN3.eq_1, dIsN_non, dIsN_int, dIsN_bl, dIsN_str, dIsN_tup, dIsN_lst, ↓D3.slc3.eq_1, ↓D3.part3.eq_1, ↓D3.noPart3.eq_1, ↓D3.ilst3.eq_1, ↓D3.itup3.eq_1, ↓D3.irng1.eq_1, ↓D3.irng2.eq_1, ↓D3.for3.eq_1, fCat, fEq_int, fNe_int, fEq_bl, fNe_bl, fEq_pair, fNe_pair, List.map, List.replicate, List.length_cons, List.length_nil, List.set_cons_zero, List.set_cons_succ, List.getElem?_cons_zero, List.getElem?_cons_succ, List.cons_append, List.nil_append, at_0, at_1, at_2, at_3, at_4, at_5, at_6, ix_0, ix_1, ix_2, put_same, put_put, decide_eq_true_eq, Bool.not_eq_true', decide_eq_false_iff_not, ite_not, ite_true, ite_false, if_true, if_false, Bool.false_eq_true, ↓reduceIte, reduceIte, Nat.reduceAdd, Nat.reduceSub, Int.reduceToNat, Nat.reduceLeDiff, not_false_eq_true, true_and, and_true, ne_eq, Int.reduceEq, Nat.zero_add, Bool.not_true, Bool.not_false, reduceCtorEq, nc0, nc1, nc2, nc3, nc4, nc5, fIx_ref put_same, fLen_ref put_same, ↓D3.lc3.eq_1, fInt, fTuple, fList, fNeS_s, fEqS_s, ↓D3.gstar3.eq_1, fInK_s, fNinK_s, fLenS_s, ↓D3.slcT3.eq_1, fCatT_t, dnew3, oQ, qD]))
      exact q2
  | @two e k a b v u hk ha hb =>
    obtain ⟨e, rfl⟩ : ∃ k, e = k + 1 := by cases ha <;> exact ⟨_, rfl⟩
    (refine laterP_in ?_; repeat ((first | with_reducible refine laterP_i ?_ | with_reducible refine later_i ?_); try simp -implicitDefEqProofs -dsimp only [↓D3.seq3_stop, ↓D3.ifS3.eq_1, ↓D3.b3.eq_1, ↓D3.op3.eq_1, ↓D3.un3.eq_1, ↓D3.v3.eq_1, ↓D3.c3.eq_1, fIx_tup, fIx_lst, at3_0, at3_1, at3_2, at3_3, at3_4, at3_5, at3_6, start3, fI0_i, fI_i, fLt, fLe, fGt, fGe, fEqI, fNeI, fMin, fMax, ↓D3.asg3.eq_1, ↓D3.name3.eq_1, ↓D3.sub3.eq_1, ↓D3.ret3.eq_1, ↓D3.retN3.eq_1, ↓D3.nx3.eq_1, ↓D3.drop3.eq_1, ↓D3.par3.eq_1, ↓D3.aug3.eq_1, ↓D3.and3.eq_1, ↓D3.or3.eq_1, ↓D3.not3.eq_1, ↓D3.andV3.eq_1, ↓D3.orV3.eq_1, ↓D3.notV3.eq_1, ↓D3.if3.eq_1, ↓D3.nil3.eq_1, ↓D3.cons3.eq_1, ↓D3.tup3.eq_1, ↓D3.lst3.eq_1, ↓D3.lstM3.eq_1, ↓D3.gtup3.eq_1, ↓D3.gcons3.eq_1, ↓D3.gnil3.eq_1, ↓D3.gunl3.eq_1, ↓D3.bits3.eq_1, ↓D3.neg3.eq_1, ↓D3.chain3.eq_1, fIsi_int_int, fIsi_int_bool, fIsi_int_tuple, fIsi_int_str, fIsi_int_list, fIsi_bl_int, fIsi_bl_bool, fIsi_bl_tuple, fIsi_bl_str, fIsi_bl_list, fIsi_non_int, fIsi_non_bool, fIsi_non_tuple, fIsi_non_str, fIsi_non_list, fIsi_str_int, fIsi_str_bool, fIsi_str_tuple, fIsi_str_str, fIsi_str_list, fIsi_tup_int, fIsi_tup_bool, fIsi_tup_tuple, fIsi_tup_str, fIsi_tup_list, fIsi_lst_int, fIsi_lst_bool, fIsi_lst_tuple, fIsi_lst_str, fIsi_lst_list, fLen_lst, fLen_tup, fAbs, ↓D3.call3_k, ↓D3.kont_app, ↓D3.isN3.eq_1, ↓D3.notN3.eq_1, dIsN_non, dIsN_int, dIsN_bl, dIsN_str, dIsN_tup, dIsN_lst, ↓D3.slc3.eq_1, ↓D3.part3.eq_1, ↓D3.noPart3.eq_1, ↓D3.ilst3.eq_1, ↓D3.itup3.eq_1, ↓D3.irng1.eq_1, ↓D3.irng2.eq_1, ↓D3.for3.eq_1, fCat, fEq_int, fNe_int, fEq_bl, fNe_bl, fEq_pair, fNe_pair, List.map, List.replicate, List.length_cons, List.length_nil, List.set_cons_zero, List.set_cons_succ, List.getElem?_cons_zero, List.getElem?_cons_succ, List.cons_append, List.nil_append, at_0, at_1, at_2, at_3, at_4, at_5, at_6, ix_0, ix_1, ix_2, put_same, put_put, decide_eq_true_eq, Bool.not_eq_true', decide_eq_false_iff_not, ite_not, ite_true, ite_false, if_true, if_false, Bool.false_eq_true, ↓reduceIte, reduceIte, Nat.reduceAdd, Nat.reduceSub, Int.reduceToNat, Nat.reduceLeDiff, not_false_eq_true, true_and, and_true, ne_eq, Int.reduceEq, Nat.zero_add, Bool.not_true, Bool.not_false, reduceCtorEq, nc0, nc1, nc2, nc3, nc4, nc5, fIx_ref put_same, fLen_ref put_same, ↓D3.lc3.eq_1, fInt, fTuple, fList, fNeS_s, fEqS_s, ↓D3.gstar3.eq_1, fInK_s, fNinK_s, fLenS_s, ↓D3.slcT3.eq_1, fCatT_t, dnew3]))
    refine ite2 (fun z => absurd (z ▸ hk) (by decide +kernel)) (fun _ => ?_)
    (refine laterP_in ?_; repeat ((first | with_reducible refine laterP_i ?_ | with_reducible refine later_i ?_); try simp -implicitDefEqProofs -dsimp only [↓D3.seq3_stop, ↓D3.ifS3.eq_1, ↓D3.b3.eq_1, ↓D3.op3.eq_1, ↓D3.un3.eq_1, ↓D3.v3.eq_1, ↓D3.c3.eq_1, fIx_tup, fIx_lst, at3_0, at3_1, at3_2, at3_3, at3_4, at3_5, at3_6, start3, fI0_i, fI_i, fLt, fLe, fGt, fGe, fEqI, fNeI, fMin, fMax, ↓D3.asg3.eq_1, ↓D3.name3.eq_1, ↓D3.sub3.eq_1, ↓D3.ret3.eq_1, ↓D3.retN3.eq_1, ↓D3.nx3.eq_1, ↓D3.drop3.eq_1, ↓D3.par3.eq_1, ↓D3.aug3.eq_1, ↓D3.and3.eq_1, ↓D3.or3.eq_1, ↓D3.not3.eq_1, ↓D3.andV3.eq_1, ↓D3.orV3.eq_1, ↓D3.notV3.eq_1, ↓D3.if3.eq_1, ↓D3.nil3.eq_1, ↓D3.cons3.eq_1, ↓D3.tup3.eq_1, ↓D3.lst3.eq_1, ↓D3.lstM3.eq_1, ↓D3.gtup3.eq_1, ↓D3.gcons3.eq_1, ↓D3.gnil3.eq_1, ↓D3.gunl3.eq_1, ↓D3.bits3.eq_1, ↓D3.neg3.eq_1, ↓D3.chain3.eq_1, fIsi_int_int, fIsi_int_bool, fIsi_int_tuple, fIsi_int_str, fIsi_int_list, fIsi_bl_int, fIsi_bl_bool, fIsi_bl_tuple, fIsi_bl_str, fIsi_bl_list, fIsi_non_int, fIsi_non_bool, fIsi_non_tuple, fIsi_non_str, fIsi_non_list, fIsi_str_int, fIsi_str_bool, fIsi_str_tuple, fIsi_str_str, fIsi_str_list, fIsi_tup_int, fIsi_tup_bool, fIsi_tup_tuple, fIsi_tup_str, fIsi_tup_list, fIsi_lst_int, fIsi_lst_bool, fIsi_lst_tuple, fIsi_lst_str, fIsi_lst_list, fLen_lst, fLen_tup, fAbs, ↓D3.call3_k, ↓D3.kont_app, ↓D3.isN3.eq_1, ↓D3.notN3.eq_1, dIsN_non, dIsN_int, dIsN_bl, dIsN_str, dIsN_tup, dIsN_lst, ↓D3.slc3.eq_1, ↓D3.part3.eq_1, ↓D3.noPart3.eq_1, ↓D3.ilst3.eq_1, ↓D3.itup3.eq_1, ↓D3.irng1.eq_1, ↓D3.irng2.eq_1, ↓D3.for3.eq_1, fCat, fEq_int, fNe_int, fEq_bl, fNe_bl, fEq_pair, fNe_pair, List.map, List.replicate, List.length_cons, List.length_nil, List.set_cons_zero, List.set_cons_succ, List.getElem?_cons_zero, List.getElem?_cons_succ, List.cons_append, List.nil_append, at_0, at_1, at_2, at_3, at_4, at_5, at_6, ix_0, ix_1, ix_2, put_same, put_put, decide_eq_true_eq, Bool.not_eq_true', decide_eq_false_iff_not, ite_not, ite_true, ite_false, if_true, if_false, Bool.false_eq_true, ↓reduceIte, reduceIte, Nat.reduceAdd, Nat.reduceSub, Int.reduceToNat, Nat.reduceLeDiff, not_false_eq_true, true_and, and_true, ne_eq, Int.reduceEq, Nat.zero_add, Bool.not_true, Bool.not_false, reduceCtorEq, nc0, nc1, nc2, nc3, nc4, nc5, fIx_ref put_same, fLen_ref put_same, ↓D3.lc3.eq_1, fInt, fTuple, fList, fNeS_s, fEqS_s, ↓D3.gstar3.eq_1, fInK_s, fNinK_s, fLenS_s, ↓D3.slcT3.eq_1, fCatT_t, dnew3]))
    refine ite2 (fun _ => ?_) (fun z => absurd hk z)
    (refine laterP_in ?_; repeat ((first | with_reducible refine laterP_i ?_ | with_reducible refine later_i ?_); try simp -implicitDefEqProofs -dsimp only [↓D3.seq3_stop, ↓D3.ifS3.eq_1, ↓D3.b3.eq_1, ↓D3.op3.eq_1, ↓D3.un3.eq_1, ↓D3.v3.eq_1, ↓D3.c3.eq_1, fIx_tup, fIx_lst, at3_0, at3_1, at3_2, at3_3, at3_4, at3_5, at3_6, start3, fI0_i, fI_i, fLt, fLe, fGt, fGe, fEqI, fNeI, fMin, fMax, ↓D3.asg3.eq_1, ↓D3.name3.eq_1, ↓D3.sub3.eq_1, ↓D3.ret3.eq_1, ↓D3.retN3.eq_1, ↓D3.nx3.eq_1, ↓D3.drop3.eq_1, ↓D3.par3.eq_1, ↓D3.aug3.eq_1, ↓D3.and3.eq_1, ↓D3.or3.eq_1, ↓D3.not3.eq_1, ↓D3.andV3.eq_1, ↓D3.orV3.eq_1, ↓D3.notV3.eq_1, ↓D3.if3.eq_1, ↓D3.nil3.eq_1, ↓D3.cons3.eq_1, ↓D3.tup3.eq_1, ↓D3.lst3.eq_1, ↓D3.lstM3.eq_1, ↓D3.gtup3.eq_1, ↓D3.gcons3.eq_1, ↓D3.gnil3.eq_1, ↓D3.gunl3.eq_1, ↓D3.bits3.eq_1, ↓D3.neg3.eq_1, ↓D3.chain3.eq_1, fIsi_int_int, fIsi_int_bool, fIsi_int_tuple, fIsi_int_str, fIsi_int_list, fIsi_bl_int, fIsi_bl_bool, fIsi_bl_tuple, fIsi_bl_str, fIsi_bl_list, fIsi_non_int, fIsi_non_bool, fIsi_non_tuple, fIsi_non_str, fIsi_non_list, fIsi_str_int, fIsi_str_bool, fIsi_str_tuple, fIsi_str_str, fIsi_str_list, fIsi_tup_int, fIsi_tup_bool, fIsi_tup_tuple, fIsi_tup_str, fIsi_tup_list, fIsi_lst_int, fIsi_lst_bool, fIsi_lst_tuple, fIsi_lst_str, fIsi_lst_list, fLen_lst, fLen_tup, fAbs, ↓D3.call3_k, ↓D3.kont_app, ↓D3.isN3.eq_1, ↓D3.notN3.eq_1, dIsN_non, dIsN_int, dIsN_bl, dIsN_str, dIsN_tup, dIsN_lst, ↓D3.slc3.eq_1, ↓D3.part3.eq_1, ↓D3.noPart3.eq_1, ↓D3.ilst3.eq_1, ↓D3.itup3.eq_1, ↓D3.irng1.eq_1, ↓D3.irng2.eq_1, ↓D3.for3.eq_1, fCat, fEq_int, fNe_int, fEq_bl, fNe_bl, fEq_pair, fNe_pair, List.map, List.replicate, List.length_cons, List.length_nil, List.set_cons_zero, List.set_cons_succ, List.getElem?_cons_zero, List.getElem?_cons_succ, List.cons_append, List.nil_append, at_0, at_1, at_2, at_3, at_4, at_5, at_6, ix_0, ix_1, ix_2, put_same, put_put, decide_eq_true_eq, Bool.not_eq_true', decide_eq_false_iff_not, ite_not, ite_true, ite_false, if_true, if_false, Bool.false_eq_true, ↓reduceIte, reduceIte, Nat.reduceAdd, Nat.reduceSub, Int.reduceToNat, Nat.reduceLeDiff, not_false_eq_true, true_and, and_true, ne_eq, Int.reduceEq, Nat.zero_add, Bool.not_true, Bool.not_false, reduceCtorEq, nc0, nc1, nc2, nc3, nc4, nc5, fIx_ref put_same, fLen_ref put_same, ↓D3.lc3.eq_1, fInt, fTuple, fList, fNeS_s, fEqS_s, ↓D3.gstar3.eq_1, fInK_s, fNinK_s, fLenS_s, ↓D3.slcT3.eq_1, fCatT_t, dnew3]))
    refine ⟨_, rfl, hp, hd, ?_⟩
    rw [inn_two hk]
    (refine laterP_in ?_; repeat ((first | with_reducible refine laterP_i ?_ | with_reducible refine later_i ?_); try simp -implicitDefEqProofs -dsimp only [↓D3.seq3_stop, ↓D3.ifS3.eq_1, ↓D3.b3.eq_1, ↓D3.op3.eq_1, ↓D3.un3.eq_1, ↓D3.v3.eq_1, ↓D3.c3.eq_1, fIx_tup, fIx_lst, at3_0, at3_1, at3_2, at3_3, at3_4, at3_5, at3_6, start3, fI0_i, fI_i, fLt, fLe, fGt, fGe, fEqI, fNeI, fMin, fMax, ↓D3.asg3.eq_1, ↓D3.name3.eq_1, ↓D3.sub3.eq_1, ↓D3.ret3.eq_1, ↓D3.retN3.eq_1, ↓D3.nx3.eq_1, ↓D3.drop3.eq_1, ↓D3.par3.eq_1, ↓D3.aug3.eq_1, ↓D3.and3.eq_1, ↓D3.or3.eq_1, ↓D3.not3.eq_1, ↓D3.andV3.eq_1, ↓D3.orV3.eq_1, ↓D3.notV3.eq_1, ↓D3.if3.eq_1, ↓D3.nil3.eq_1, ↓D3.cons3.eq_1, ↓D3.tup3.eq_1, ↓D3.lst3.eq_1, ↓D3.lstM3.eq_1, ↓D3.gtup3.eq_1, ↓D3.gcons3.eq_1, ↓D3.gnil3.eq_1, ↓D3.gunl3.eq_1, ↓D3.bits3.eq_1, ↓D3.neg3.eq_1, ↓D3.chain3.eq_1, fIsi_int_int, fIsi_int_bool, fIsi_int_tuple, fIsi_int_str, fIsi_int_list, fIsi_bl_int, fIsi_bl_bool, fIsi_bl_tuple, fIsi_bl_str, fIsi_bl_list, fIsi_non_int, fIsi_non_bool, fIsi_non_tuple, fIsi_non_str, fIsi_non_list, fIsi_str_int, fIsi_str_bool, fIsi_str_tuple, fIsi_str_str, fIsi_str_list, fIsi_tup_int, fIsi_tup_bool, fIsi_tup_tuple, fIsi_tup_str, fIsi_tup_list, fIsi_lst_int, fIsi_lst_bool, fIsi_lst_tuple, fIsi_lst_str, fIsi_lst_list, fLen_lst, fLen_tup, fAbs, ↓D3.call3_k, ↓D3.kont_app, ↓D3.isN3.eq_1, ↓D3.notN3.eq_1, dIsN_non, dIsN_int, dIsN_bl, dIsN_str, dIsN_tup, dIsN_lst, ↓D3.slc3.eq_1, ↓D3.part3.eq_1, ↓D3.noPart3.eq_1, ↓D3.ilst3.eq_1, ↓D3.itup3.eq_1, ↓D3.irng1.eq_1, ↓D3.irng2.eq_1, ↓D3.for3.eq_1, fCat, fEq_int, fNe_int, fEq_bl, fNe_bl, fEq_pair, fNe_pair, List.map, List.replicate, List.length_cons, List.length_nil, List.set_cons_zero, List.set_cons_succ, List.getElem?_cons_zero, List.getElem?_cons_succ, List.cons_append, List.nil_append, at_0, at_1, at_2, at_3, at_4, at_5, at_6, ix_0, ix_1, ix_2, put_same, put_put, decide_eq_true_eq, Bool.not_eq_true', decide_eq_false_iff_not, ite_not, ite_true, ite_false, if_true, if_false, Bool.false_eq_true, ↓reduceIte, reduceIte, Nat.reduceAdd, Nat.reduceSub, Int.reduceToNat, Nat.reduceLeDiff, not_false_eq_true, true_and, and_true, ne_eq, Int.reduceEq, Nat.zero_add, Bool.not_true, Bool.not_false, reduceCtorEq, nc0, nc1, nc2, nc3, nc4, nc5, fIx_ref put_same, fLen_ref put_same, ↓D3.lc3.eq_1, fInt, fTuple, fList, fNeS_s, fEqS_s, ↓D3.gstar3.eq_1, fInK_s, fNinK_s, fLenS_s, ↓D3.slcT3.eq_1, fCatT_t, dnew3, oD]))
    intro L hL
    have pa : Pl 900 a := hp.2.1
    have pb : Pl 900 b := hp.2.2.1
    have da : dp a ≤ 60 := by simp only [dp, dps] at hd; omega
    have db : dp b ≤ 60 := by simp only [dp, dps] at hd; omega
    have sm := ha.sm
    have sm2 := hb.sm
    have bl := bits_le (e := e + 1) (by omega)
    refine lcGo_pairs [(a, oQ v), (b, oQ u)] [] _ put_same (by simp) (fun z hz m' Kt k => ?_) ?_
    · simp only [List.mem_cons, List.not_mem_nil, or_false] at hz
      rcases hz with rfl | rfl
      · try simp -implicitDefEqProofs -dsimp only [seq3, ↓D3.ifS3.eq_1, ↓D3.b3.eq_1, ↓D3.op3.eq_1, ↓D3.un3.eq_1, ↓D3.v3.eq_1, ↓D3.c3.eq_1, fIx_tup, fIx_lst, at3_0, at3_1, at3_2, at3_3, at3_4, at3_5, at3_6, start3, fI0_i, fI_i, fLt, fLe, fGt, fGe, fEqI, fNeI, fMin, fMax, ↓D3.asg3.eq_1, ↓D3.name3.eq_1, ↓D3.sub3.eq_1, ↓D3.ret3.eq_1, ↓D3.retN3.eq_1, ↓D3.nx3.eq_1, ↓D3.drop3.eq_1, ↓D3.par3.eq_1, ↓D3.aug3.eq_1, ↓D3.and3.eq_1, ↓D3.or3.eq_1, ↓D3.not3.eq_1, ↓D3.andV3.eq_1, ↓D3.orV3.eq_1, ↓D3.notV3.eq_1, ↓D3.if3.eq_1, ↓D3.nil3.eq_1, ↓D3.cons3.eq_1, ↓D3.tup3.eq_1, ↓D3.lst3.eq_1, ↓D3.lstM3.eq_1, ↓D3.gtup3.eq_1, ↓D3.gcons3.eq_1, ↓D3.gnil3.eq_1, ↓D3.gunl3.eq_1, ↓D3.bits3.eq_1, ↓D3.neg3.eq_1, ↓D3.chain3.eq_1, fIsi_int_int, fIsi_int_bool, fIsi_int_tuple, fIsi_int_str, fIsi_int_list, fIsi_bl_int, fIsi_bl_bool, fIsi_bl_tuple, fIsi_bl_str, fIsi_bl_list, fIsi_non_int, fIsi_non_bool, fIsi_non_tuple, fIsi_non_str, fIsi_non_list, fIsi_str_int, fIsi_str_bool, fIsi_str_tuple, fIsi_str_str, fIsi_str_list, fIsi_tup_int, fIsi_tup_bool, fIsi_tup_tuple, fIsi_tup_str, fIsi_tup_list, fIsi_lst_int, fIsi_lst_bool, fIsi_lst_tuple, fIsi_lst_str, fIsi_lst_list, fLen_lst, fLen_tup, fAbs, ↓D3.call3_k, ↓D3.kont_app, ↓D3.isN3.eq_1, ↓D3.notN3.eq_1, dIsN_non, dIsN_int, dIsN_bl, dIsN_str, dIsN_tup, dIsN_lst, ↓D3.slc3.eq_1, ↓D3.part3.eq_1, ↓D3.noPart3.eq_1, ↓D3.ilst3.eq_1, ↓D3.itup3.eq_1, ↓D3.irng1.eq_1, ↓D3.irng2.eq_1, ↓D3.for3.eq_1, fCat, fEq_int, fNe_int, fEq_bl, fNe_bl, fEq_pair, fNe_pair, List.map, List.replicate, List.length_cons, List.length_nil, List.set_cons_zero, List.set_cons_succ, List.getElem?_cons_zero, List.getElem?_cons_succ, List.cons_append, List.nil_append, at_0, at_1, at_2, at_3, at_4, at_5, at_6, ix_0, ix_1, ix_2, put_same, put_put, decide_eq_true_eq, Bool.not_eq_true', decide_eq_false_iff_not, ite_not, ite_true, ite_false, if_true, if_false, Bool.false_eq_true, ↓reduceIte, reduceIte, Nat.reduceAdd, Nat.reduceSub, Int.reduceToNat, Nat.reduceLeDiff, not_false_eq_true, true_and, and_true, ne_eq, Int.reduceEq, Nat.zero_add, Bool.not_true, Bool.not_false, reduceCtorEq, nc0, nc1, nc2, nc3, nc4, nc5, fIx_ref put_same, fLen_ref put_same, ↓D3.lc3.eq_1, fInt, fTuple, fList, fNeS_s, fEqS_s, ↓D3.gstar3.eq_1, fInK_s, fNinK_s, fLenS_s, ↓D3.slcT3.eq_1, fCatT_t, dnew3]
        exact ⟨a, v, rfl, ha, by omega, pa, da, k⟩
      · try simp -implicitDefEqProofs -dsimp only [seq3, ↓D3.ifS3.eq_1, ↓D3.b3.eq_1, ↓D3.op3.eq_1, ↓D3.un3.eq_1, ↓D3.v3.eq_1, ↓D3.c3.eq_1, fIx_tup, fIx_lst, at3_0, at3_1, at3_2, at3_3, at3_4, at3_5, at3_6, start3, fI0_i, fI_i, fLt, fLe, fGt, fGe, fEqI, fNeI, fMin, fMax, ↓D3.asg3.eq_1, ↓D3.name3.eq_1, ↓D3.sub3.eq_1, ↓D3.ret3.eq_1, ↓D3.retN3.eq_1, ↓D3.nx3.eq_1, ↓D3.drop3.eq_1, ↓D3.par3.eq_1, ↓D3.aug3.eq_1, ↓D3.and3.eq_1, ↓D3.or3.eq_1, ↓D3.not3.eq_1, ↓D3.andV3.eq_1, ↓D3.orV3.eq_1, ↓D3.notV3.eq_1, ↓D3.if3.eq_1, ↓D3.nil3.eq_1, ↓D3.cons3.eq_1, ↓D3.tup3.eq_1, ↓D3.lst3.eq_1, ↓D3.lstM3.eq_1, ↓D3.gtup3.eq_1, ↓D3.gcons3.eq_1, ↓D3.gnil3.eq_1, ↓D3.gunl3.eq_1, ↓D3.bits3.eq_1, ↓D3.neg3.eq_1, ↓D3.chain3.eq_1, fIsi_int_int, fIsi_int_bool, fIsi_int_tuple, fIsi_int_str, fIsi_int_list, fIsi_bl_int, fIsi_bl_bool, fIsi_bl_tuple, fIsi_bl_str, fIsi_bl_list, fIsi_non_int, fIsi_non_bool, fIsi_non_tuple, fIsi_non_str, fIsi_non_list, fIsi_str_int, fIsi_str_bool, fIsi_str_tuple, fIsi_str_str, fIsi_str_list, fIsi_tup_int, fIsi_tup_bool, fIsi_tup_tuple, fIsi_tup_str, fIsi_tup_list, fIsi_lst_int, fIsi_lst_bool, fIsi_lst_tuple, fIsi_lst_str, fIsi_lst_list, fLen_lst, fLen_tup, fAbs, ↓D3.call3_k, ↓D3.kont_app, ↓D3.isN3.eq_1, ↓D3.notN3.eq_1, dIsN_non, dIsN_int, dIsN_bl, dIsN_str, dIsN_tup, dIsN_lst, ↓D3.slc3.eq_1, ↓D3.part3.eq_1, ↓D3.noPart3.eq_1, ↓D3.ilst3.eq_1, ↓D3.itup3.eq_1, ↓D3.irng1.eq_1, ↓D3.irng2.eq_1, ↓D3.for3.eq_1, fCat, fEq_int, fNe_int, fEq_bl, fNe_bl, fEq_pair, fNe_pair, List.map, List.replicate, List.length_cons, List.length_nil, List.set_cons_zero, List.set_cons_succ, List.getElem?_cons_zero, List.getElem?_cons_succ, List.cons_append, List.nil_append, at_0, at_1, at_2, at_3, at_4, at_5, at_6, ix_0, ix_1, ix_2, put_same, put_put, decide_eq_true_eq, Bool.not_eq_true', decide_eq_false_iff_not, ite_not, ite_true, ite_false, if_true, if_false, Bool.false_eq_true, ↓reduceIte, reduceIte, Nat.reduceAdd, Nat.reduceSub, Int.reduceToNat, Nat.reduceLeDiff, not_false_eq_true, true_and, and_true, ne_eq, Int.reduceEq, Nat.zero_add, Bool.not_true, Bool.not_false, reduceCtorEq, nc0, nc1, nc2, nc3, nc4, nc5, fIx_ref put_same, fLen_ref put_same, ↓D3.lc3.eq_1, fInt, fTuple, fList, fNeS_s, fEqS_s, ↓D3.gstar3.eq_1, fInK_s, fNinK_s, fLenS_s, ↓D3.slcT3.eq_1, fCatT_t, dnew3]
        exact ⟨b, u, rfl, hb, by omega, pb, db, k⟩
    rw [del_put, del_none hL]
    (refine laterP_in ?_; repeat ((first | with_reducible refine laterP_i ?_ | with_reducible refine later_i ?_); try simp -implicitDefEqProofs -dsimp only [↓D3.seq3_stop, ↓D3.ifS3.eq_1, ↓D3.b3.eq_1, ↓D3.op3.eq_1, ↓D3.un3.eq_1, ↓D3.v3.eq_1, ↓D3.c3.eq_1, fIx_tup, fIx_lst, at3_0, at3_1, at3_2, at3_3, at3_4, at3_5, at3_6, start3, fI0_i, fI_i, fLt, fLe, fGt, fGe, fEqI, fNeI, fMin, fMax, ↓D3.asg3.eq_1, ↓D3.name3.eq_1, ↓D3.sub3.eq_1, ↓D3.ret3.eq_1, ↓D3.retN3.eq_1, ↓D3.nx3.eq_1, ↓D3.drop3.eq_1, ↓D3.par3.eq_1, ↓D3.aug3.eq_1, ↓D3.and3.eq_1, ↓D3.or3.eq_1, ↓D3.not3.eq_1, ↓D3.andV3.eq_1, ↓D3.orV3.eq_1, ↓D3.notV3.eq_1, ↓D3.if3.eq_1, ↓D3.nil3.eq_1, ↓D3.cons3.eq_1, ↓D3.tup3.eq_1, ↓D3.lst3.eq_1, ↓D3.lstM3.eq_1, ↓D3.gtup3.eq_1, ↓D3.gcons3.eq_1, ↓D3.gnil3.eq_1, ↓D3.gunl3.eq_1, ↓D3.bits3.eq_1, ↓D3.neg3.eq_1, ↓D3.chain3.eq_1, fIsi_int_int, fIsi_int_bool, fIsi_int_tuple, fIsi_int_str, fIsi_int_list, fIsi_bl_int, fIsi_bl_bool, fIsi_bl_tuple, fIsi_bl_str, fIsi_bl_list, fIsi_non_int, fIsi_non_bool, fIsi_non_tuple, fIsi_non_str, fIsi_non_list, fIsi_str_int, fIsi_str_bool, fIsi_str_tuple, fIsi_str_str, fIsi_str_list, fIsi_tup_int, fIsi_tup_bool, fIsi_tup_tuple, fIsi_tup_str, fIsi_tup_list, fIsi_lst_int, fIsi_lst_bool, fIsi_lst_tuple, fIsi_lst_str, fIsi_lst_list, fLen_lst, fLen_tup, fAbs, ↓D3.call3_k, ↓D3.kont_app, ↓D3.isN3.eq_1, ↓D3.notN3.eq_1, dIsN_non, dIsN_int, dIsN_bl, dIsN_str, dIsN_tup, dIsN_lst, ↓D3.slc3.eq_1, ↓D3.part3.eq_1, ↓D3.noPart3.eq_1, ↓D3.ilst3.eq_1, ↓D3.itup3.eq_1, ↓D3.irng1.eq_1, ↓D3.irng2.eq_1, ↓D3.for3.eq_1, fCat, fEq_int, fNe_int, fEq_bl, fNe_bl, fEq_pair, fNe_pair, List.map, List.replicate, List.length_cons, List.length_nil, List.set_cons_zero, List.set_cons_succ, List.getElem?_cons_zero, List.getElem?_cons_succ, List.cons_append, List.nil_append, at_0, at_1, at_2, at_3, at_4, at_5, at_6, ix_0, ix_1, ix_2, put_same, put_put, decide_eq_true_eq, Bool.not_eq_true', decide_eq_false_iff_not, ite_not, ite_true, ite_false, if_true, if_false, Bool.false_eq_true, ↓reduceIte, reduceIte, Nat.reduceAdd, Nat.reduceSub, Int.reduceToNat, Nat.reduceLeDiff, not_false_eq_true, true_and, and_true, ne_eq, Int.reduceEq, Nat.zero_add, Bool.not_true, Bool.not_false, reduceCtorEq, nc0, nc1, nc2, nc3, nc4, nc5, fIx_ref put_same, fLen_ref put_same, ↓D3.lc3.eq_1, fInt, fTuple, fList, fNeS_s, fEqS_s, ↓D3.gstar3.eq_1, fInK_s, fNinK_s, fLenS_s, ↓D3.slcT3.eq_1, fCatT_t, dnew3]))
    obtain ⟨o1, o2⟩ := oQ_pl (n := bits (e + 1)) sm
    obtain ⟨o3, o4⟩ := oQ_pl (n := bits (e + 1)) sm2
    refine fInD_pl (n := 900) (k := bits (e + 1)) (x := .non) trivial (show Pls (bits (e + 1)) [oQ v, oQ u] from ⟨o1, o3, trivial⟩) (by simp [dp]) (by simp only [dps]; omega) ?_
    rw [show ((pysOf [oQ v, oQ u]).any fun z => PyData.eqv z (pyOf .non)) = (v.isNone || u.isNone) from by simp only [pysOf, List.any_cons, List.any_nil, Bool.or_false, oQ_none]]
    cases v with
    | none =>
      rw [op2_none_l] at q
      (refine laterP_in ?_; repeat ((first | with_reducible refine laterP_i ?_ | with_reducible refine later_i ?_); try simp -implicitDefEqProofs -dsimp only [↓D3.seq3_stop, ↓D3.ifS3.eq_1, ↓D3.b3.eq_1, ↓D3.op3.eq_1, ↓D3.un3.eq_1, ↓D3.v3.eq_1, ↓D3.c3.eq_1, fIx_tup, fIx_lst, at3_0, at3_1, at3_2, at3_3, at3_4, at3_5, at3_6, start3, fI0_i, fI_i, fLt, fLe, fGt, fGe, fEqI, fNeI, fMin, fMax, ↓D3.asg3.eq_1, ↓D3.name3.eq_1, ↓D3.sub3.eq_1, ↓D3.ret3.eq_1, ↓D3.retN3.eq_1, ↓D3.nx3.eq_1, ↓D3.drop3.eq_1, ↓D3.par3.eq_1, ↓D3.aug3.eq_1, ↓D3.and3.eq_1, ↓D3.or3.eq_1, ↓D3.not3.eq_1, ↓D3.andV3.eq_1, ↓D3.orV3.eq_1, ↓D3.notV3.eq_1, ↓D3.if3.eq_1, ↓D3.nil3.eq_1, ↓D3.cons3.eq_1, ↓D3.tup3.eq_1, ↓D3.lst3.eq_1, ↓D3.lstM3.eq_1, ↓D3.gtup3.eq_1, ↓D3.gcons3.eq_1, ↓D3.gnil3.eq_1, ↓D3.gunl3.eq_1, ↓D3.bits3.eq_1, ↓D3.neg3.eq_1, ↓D3.chain3.eq_1, fIsi_int_int, fIsi_int_bool, fIsi_int_tuple, fIsi_int_str, fIsi_int_list, fIsi_bl_int, fIsi_bl_bool, fIsi_bl_tuple, fIsi_bl_str, fIsi_bl_list, fIsi_non_int, fIsi_non_bool, fIsi_non_tuple, fIsi_non_str, fIsi_non_list, fIsi_str_int, fIsi_str_bool, fIsi_str_tuple, fIsi_str_str, fIsi_str_list, fIsi_tup_int, fIsi_tup_bool, fIsi_tup_tuple, fIsi_tup_str, fIsi_tup_list, fIsi_lst_int, fIsi_lst_bool, fIsi_lst_tuple, fIsi_lst_str, fIsi_lst_list, fLen_lst, fLen_tup, fAbs, ↓D3.call3_k, ↓D3.kont_app, ↓D3.isN3.eq_1, ↓D3.notN3.eq_1, dIsN_non, dIsN_int, dIsN_bl, dIsN_str, dIsN_tup, dIsN_lst, ↓D3.slc3.eq_1, ↓D3.part3.eq_1, ↓D3.noPart3.eq_1, ↓D3.ilst3.eq_1, ↓D3.itup3.eq_1, ↓D3.irng1.eq_1, ↓D3.irng2.eq_1, ↓D3.for3.eq_1, fCat, fEq_int, fNe_int, fEq_bl, fNe_bl, fEq_pair, fNe_pair, List.map, List.replicate, List.length_cons, List.length_nil, List.set_cons_zero, List.set_cons_succ, List.getElem?_cons_zero, List.getElem?_cons_succ, List.cons_append, List.nil_append, at_0, at_1, at_2, at_3, at_4, at_5, at_6, ix_0, ix_1, ix_2, put_same, put_put, decide_eq_true_eq, Bool.not_eq_true', decide_eq_false_iff_not, ite_not, ite_true, ite_false, if_true, if_false, Bool.false_eq_true, ↓reduceIte, reduceIte, Nat.reduceAdd, Nat.reduceSub, Int.reduceToNat, Nat.reduceLeDiff, not_false_eq_true, true_and, and_true, ne_eq, Int.reduceEq, Nat.zero_add, Bool.not_true, Bool.not_false, reduceCtorEq, nc0, nc1, nc2, nc3, nc4, nc5, fIx_ref put_same, fLen_ref put_same, ↓D3.lc3.eq_1, fInt, fTuple, fList, fNeS_s, fEqS_s, ↓D3.gstar3.eq_1, fInK_s, fNinK_s, fLenS_s, ↓D3.slcT3.eq_1, fCatT_t, dnew3, Option.isNone_none, Bool.true_or]))
      exact q
    | some r =>
      cases u with
      | none =>
        rw [op2_none_r] at q
        (refine laterP_in ?_; repeat ((first | with_reducible refine laterP_i ?_ | with_reducible refine later_i ?_); try simp -implicitDefEqProofs -dsimp only [↓D3.seq3_stop, ↓D3.ifS3.eq_1, ↓D3.b3.eq_1, ↓D3.op3.eq_1, ↓D3.un3.eq_1, ↓D3.v3.eq_1, ↓D3.c3.eq_1, fIx_tup, fIx_lst, at3_0, at3_1, at3_2, at3_3, at3_4, at3_5, at3_6, start3, fI0_i, fI_i, fLt, fLe, fGt, fGe, fEqI, fNeI, fMin, fMax, ↓D3.asg3.eq_1, ↓D3.name3.eq_1, ↓D3.sub3.eq_1, ↓D3.ret3.eq_1, ↓D3.retN3.eq_1, ↓D3.nx3.eq_1, ↓D3.drop3.eq_1, ↓D3.par3.eq_1, ↓D3.aug3.eq_1, ↓D3.and3.eq_1, ↓D3.or3.eq_1, ↓D3.not3.eq_1, ↓D3.andV3.eq_1, ↓D3.orV3.eq_1, ↓D3.notV3.eq_1, ↓D3.if3.eq_1, ↓D3.nil3.eq_1, ↓D3.cons3.eq_1, ↓D3.tup3.eq_1, ↓D3.lst3.eq_1, ↓D3.lstM3.eq_1, ↓D3.gtup3.eq_1, ↓D3.gcons3.eq_1, ↓D3.gnil3.eq_1, ↓D3.gunl3.eq_1, ↓D3.bits3.eq_1, ↓D3.neg3.eq_1, ↓D3.chain3.eq_1, fIsi_int_int, fIsi_int_bool, fIsi_int_tuple, fIsi_int_str, fIsi_int_list, fIsi_bl_int, fIsi_bl_bool, fIsi_bl_tuple, fIsi_bl_str, fIsi_bl_list, fIsi_non_int, fIsi_non_bool, fIsi_non_tuple, fIsi_non_str, fIsi_non_list, fIsi_str_int, fIsi_str_bool, fIsi_str_tuple, fIsi_str_str, fIsi_str_list, fIsi_tup_int, fIsi_tup_bool, fIsi_tup_tuple, fIsi_tup_str, fIsi_tup_list, fIsi_lst_int, fIsi_lst_bool, fIsi_lst_tuple, fIsi_lst_str, fIsi_lst_list, fLen_lst, fLen_tup, fAbs, ↓D3.call3_k, ↓D3.kont_app, ↓D3.isN3.eq_1, ↓D3.notN3.eq_1, dIsN_non, dIsN_int, dIsN_bl, dIsN_str, dIsN_tup, dIsN_lst, ↓D3.slc3.eq_1, ↓D3.part3.eq_1, ↓D3.noPart3.eq_1, ↓D3.ilst3.eq_1, ↓D3.itup3.eq_1, ↓D3.irng1.eq_1, ↓D3.irng2.eq_1, ↓D3.for3.eq_1, fCat, fEq_int, fNe_int, fEq_bl, fNe_bl, fEq_pair, fNe_pair, List.map, List.replicate, List.length_cons, List.length_nil, List.set_cons_zero, List.set_cons_succ, List.getElem?_cons_zero, List.getElem?_cons_succ, List.cons_append, List.nil_append, at_0, at_1, at_2, at_3, at_4, at_5, at_6, ix_0, ix_1, ix_2, put_same, put_put, decide_eq_true_eq, Bool.not_eq_true', decide_eq_false_iff_not, ite_not, ite_true, ite_false, if_true, if_false, Bool.false_eq_true, ↓reduceIte, reduceIte, Nat.reduceAdd, Nat.reduceSub, Int.reduceToNat, Nat.reduceLeDiff, not_false_eq_true, true_and, and_true, ne_eq, Int.reduceEq, Nat.zero_add, Bool.not_true, Bool.not_false, reduceCtorEq, nc0, nc1, nc2, nc3, nc4, nc5, fIx_ref put_same, fLen_ref put_same, ↓D3.lc3.eq_1, fInt, fTuple, fList, fNeS_s, fEqS_s, ↓D3.gstar3.eq_1, fInK_s, fNinK_s, fLenS_s, ↓D3.slcT3.eq_1, fCatT_t, dnew3, Option.isNone_none, Bool.or_true]))
        exact q
      | some t =>
        (refine laterP_in ?_; repeat ((first | with_reducible refine laterP_i ?_ | with_reducible refine later_i ?_); try simp -implicitDefEqProofs -dsimp only [↓D3.seq3_stop, ↓D3.ifS3.eq_1, ↓D3.b3.eq_1, ↓D3.op3.eq_1, ↓D3.un3.eq_1, ↓D3.v3.eq_1, ↓D3.c3.eq_1, fIx_tup, fIx_lst, at3_0, at3_1, at3_2, at3_3, at3_4, at3_5, at3_6, start3, fI0_i, fI_i, fLt, fLe, fGt, fGe, fEqI, fNeI, fMin, fMax, ↓D3.asg3.eq_1, ↓D3.name3.eq_1, ↓D3.sub3.eq_1, ↓D3.ret3.eq_1, ↓D3.retN3.eq_1, ↓D3.nx3.eq_1, ↓D3.drop3.eq_1, ↓D3.par3.eq_1, ↓D3.aug3.eq_1, ↓D3.and3.eq_1, ↓D3.or3.eq_1, ↓D3.not3.eq_1, ↓D3.andV3.eq_1, ↓D3.orV3.eq_1, ↓D3.notV3.eq_1, ↓D3.if3.eq_1, ↓D3.nil3.eq_1, ↓D3.cons3.eq_1, ↓D3.tup3.eq_1, ↓D3.lst3.eq_1, ↓D3.lstM3.eq_1, ↓D3.gtup3.eq_1, ↓D3.gcons3.eq_1, ↓D3.gnil3.eq_1, ↓D3.gunl3.eq_1, ↓D3.bits3.eq_1, ↓D3.neg3.eq_1, ↓D3.chain3.eq_1, fIsi_int_int, fIsi_int_bool, fIsi_int_tuple, fIsi_int_str, fIsi_int_list, fIsi_bl_int, fIsi_bl_bool, fIsi_bl_tuple, fIsi_bl_str, fIsi_bl_list, fIsi_non_int, fIsi_non_bool, fIsi_non_tuple, fIsi_non_str, fIsi_non_list, fIsi_str_int, fIsi_str_bool, fIsi_str_tuple, fIsi_str_str, fIsi_str_list, fIsi_tup_int, fIsi_tup_bool, fIsi_tup_tuple, fIsi_tup_str, fIsi_tup_list, fIsi_lst_int, fIsi_lst_bool, fIsi_lst_tuple, fIsi_lst_str, fIsi_lst_list, fLen_lst, fLen_tup, fAbs, ↓D3.call3_k, ↓D3.kont_app, ↓D3.isN3.eq_1, ↓D3.notN3.eq_1, dIsN_non, dIsN_int, dIsN_bl, dIsN_str, dIsN_tup, dIsN_lst, ↓D3.slc3.eq_1, ↓D3.part3.eq_1, ↓D3.noPart3.eq_1, ↓D3.ilst3.eq_1, ↓D3.itup3.eq_1, ↓D3.irng1.eq_1, ↓D3.irng2.eq_1, ↓D3.for3.eq_1, fCat, fEq_int, fNe_int, fEq_bl, fNe_bl, fEq_pair, fNe_pair, List.map, List.replicate, List.length_cons, List.length_nil, List.set_cons_zero, List.set_cons_succ, List.getElem?_cons_zero, List.getElem?_cons_succ, List.cons_append, List.nil_append, at_0, at_1, at_2, at_3, at_4, at_5, at_6, ix_0, ix_1, ix_2, put_same, put_put, decide_eq_true_eq, Bool.not_eq_true', decide_eq_false_iff_not, ite_not, ite_true, ite_false, if_true, if_false, Bool.false_eq_true, ↓reduceIte, reduceIte, Nat.reduceAdd, Nat.reduceSub, Int.reduceToNat, Nat.reduceLeDiff, not_false_eq_true, true_and, and_true, ne_eq, Int.reduceEq, Nat.zero_add, Bool.not_true, Bool.not_false, reduceCtorEq, nc0, nc1, nc2, nc3, nc4, nc5, fIx_ref put_same, fLen_ref put_same, ↓D3.lc3.eq_1, fInt, fTuple, fList, fNeS_s, fEqS_s, ↓D3.gstar3.eq_1, fInK_s, fNinK_s, fLenS_s, ↓D3.slcT3.eq_1, fCatT_t, dnew3, Option.isNone_some, Bool.or_self]))
        refine ite2 (fun z => absurd (z ▸ hk) (by decide +kernel)) (fun _ => ?_)
        (refine laterP_in ?_; repeat ((first | with_reducible refine laterP_i ?_ | with_reducible refine later_i ?_); try simp -implicitDefEqProofs -dsimp only [↓D3.seq3_stop, ↓D3.ifS3.eq_1, ↓D3.b3.eq_1, ↓D3.op3.eq_1, ↓D3.un3.eq_1, ↓D3.v3.eq_1, ↓D3.c3.eq_1, fIx_tup, fIx_lst, at3_0, at3_1, at3_2, at3_3, at3_4, at3_5, at3_6, start3, fI0_i, fI_i, fLt, fLe, fGt, fGe, fEqI, fNeI, fMin, fMax, ↓D3.asg3.eq_1, ↓D3.name3.eq_1, ↓D3.sub3.eq_1, ↓D3.ret3.eq_1, ↓D3.retN3.eq_1, ↓D3.nx3.eq_1, ↓D3.drop3.eq_1, ↓D3.par3.eq_1, ↓D3.aug3.eq_1, ↓D3.and3.eq_1, ↓D3.or3.eq_1, ↓D3.not3.eq_1, ↓D3.andV3.eq_1, ↓D3.orV3.eq_1, ↓D3.notV3.eq_1, ↓D3.if3.eq_1, ↓D3.nil3.eq_1, ↓D3.cons3.eq_1, ↓D3.tup3.eq_1, ↓D3.lst3.eq_1, ↓D3.lstM3.eq_1, ↓D3.gtup3.eq_1, ↓D3.gcons3.eq_1, ↓D3.gnil3.eq_1, ↓D3.gunl3.eq_1, ↓D3.bits3.eq_1, ↓D3.neg3.eq_1, ↓D3.chain3.eq_1, fIsi_int_int, fIsi_int_bool, fIsi_int_tuple, fIsi_int_str, fIsi_int_list, fIsi_bl_int, fIsi_bl_bool, fIsi_bl_tuple, fIsi_bl_str, fIsi_bl_list, fIsi_non_int, fIsi_non_bool, fIsi_non_tuple, fIsi_non_str, fIsi_non_list, fIsi_str_int, fIsi_str_bool, fIsi_str_tuple, fIsi_str_str, fIsi_str_list, fIsi_tup_int, fIsi_tup_bool, fIsi_tup_tuple, fIsi_tup_str, fIsi_tup_list, fIsi_lst_int, fIsi_lst_bool, fIsi_lst_tuple, fIsi_lst_str, fIsi_lst_list, fLen_lst, fLen_tup, fAbs, ↓D3.call3_k, ↓D3.kont_app, ↓D3.isN3.eq_1, ↓D3.notN3.eq_1, dIsN_non, dIsN_int, dIsN_bl, dIsN_str, dIsN_tup, dIsN_lst, ↓D3.slc3.eq_1, ↓D3.part3.eq_1, ↓D3.noPart3.eq_1, ↓D3.ilst3.eq_1, ↓D3.itup3.eq_1, ↓D3.irng1.eq_1, ↓D3.irng2.eq_1, ↓D3.for3.eq_1, fCat, fEq_int, fNe_int, fEq_bl, fNe_bl, fEq_pair, fNe_pair, List.map, List.replicate, List.length_cons, List.length_nil, List.set_cons_zero, List.set_cons_succ, List.getElem?_cons_zero, List.getElem?_cons_succ, List.cons_append, List.nil_append, at_0, at_1, at_2, at_3, at_4, at_5, at_6, ix_0, ix_1, ix_2, put_same, put_put, decide_eq_true_eq, Bool.not_eq_true', decide_eq_false_iff_not, ite_not, ite_true, ite_false, if_true, if_false, Bool.false_eq_true, ↓reduceIte, reduceIte, Nat.reduceAdd, Nat.reduceSub, Int.reduceToNat, Nat.reduceLeDiff, not_false_eq_true, true_and, and_true, ne_eq, Int.reduceEq, Nat.zero_add, Bool.not_true, Bool.not_false, reduceCtorEq, nc0, nc1, nc2, nc3, nc4, nc5, fIx_ref put_same, fLen_ref put_same, ↓D3.lc3.eq_1, fInt, fTuple, fList, fNeS_s, fEqS_s, ↓D3.gstar3.eq_1, fInK_s, fNinK_s, fLenS_s, ↓D3.slcT3.eq_1, fCatT_t, dnew3, oQ]))
        exact ⟨k, r, t, rfl, hk, (sm r rfl).le bl, (sm2 t rfl).le bl, q⟩
theorem ok_valN (T : Tx w K mg fa fd) : ∀ e : Nat, Fn3 P w K mg base (e + 3) (fa 10) (fd 10) ["term"] (sp_valN e)
  | 0 => fn_never
  | e + 1 => ok_valS T e (ok_valN T e)
def sp_val : Sp3 := fun ds m P => ∃ (d : D) (v : Option Rat), ds = [d] ∧ Gv 9 d v ∧ Pl 900 d ∧ dp d ≤ 60 ∧ P (oQ v) m
theorem ok_value_of (T : Tx w K mg fa fd) : Fn3 P w K mg base 12 (fa 10) (fd 10) ["term"] sp_val :=
  (ok_valN T 9).imp fun vs H Q E h => by
    obtain ⟨ds, m, P, h1, h2, ⟨d, v, e, hv, hp, hd, k⟩, h4⟩ := h
    exact ⟨ds, m, P, h1, h2, ⟨d, v, e, hv, by decide, hp, hd, k⟩, h4⟩
theorem ok_law_deck (T : Tx w K mg fa fd) : Fn3 P w K mg base 1 (fa 11) (fd 11) ["cell", "turn"] sp_deck := by
  refine fn3 T.d_law_deck.F sc_law_deck (fun ds m Q h => by obtain ⟨_, rfl, _⟩ := h; rfl) fun cdv A outer s H E ds m Q hr h => ?_
  obtain ⟨cell, rfl, q⟩ := h
  refine ⟨_, (ss_cons (s_if (t_ge (e_v 0) (e_pow e_int e_int)) (ss_one (s_ret (e_lstM (a_cons (e_sub (e_v 0) (e_pow e_int e_int)) (a_cons (e_mod (e_v 0) e_int) (a_cons (e_v 1) a_nil)))))) ss_nil)
      (ss_one (s_ret (e_lstM (a_cons e_int (a_cons (e_mod (e_v 0) e_int) (a_cons (e_v 1) a_nil))))))), ?_⟩
  try simp -implicitDefEqProofs -dsimp only [seq3, ↓D3.ifS3.eq_1, ↓D3.b3.eq_1, ↓D3.op3.eq_1, ↓D3.un3.eq_1, ↓D3.v3.eq_1, ↓D3.c3.eq_1, fIx_tup, fIx_lst, at3_0, at3_1, at3_2, at3_3, at3_4, at3_5, at3_6, start3, fI0_i, fI_i, fLt, fLe, fGt, fGe, fEqI, fNeI, fMin, fMax, ↓D3.asg3.eq_1, ↓D3.name3.eq_1, ↓D3.sub3.eq_1, ↓D3.ret3.eq_1, ↓D3.retN3.eq_1, ↓D3.nx3.eq_1, ↓D3.drop3.eq_1, ↓D3.par3.eq_1, ↓D3.aug3.eq_1, ↓D3.and3.eq_1, ↓D3.or3.eq_1, ↓D3.not3.eq_1, ↓D3.andV3.eq_1, ↓D3.orV3.eq_1, ↓D3.notV3.eq_1, ↓D3.if3.eq_1, ↓D3.nil3.eq_1, ↓D3.cons3.eq_1, ↓D3.tup3.eq_1, ↓D3.lst3.eq_1, ↓D3.lstM3.eq_1, ↓D3.gtup3.eq_1, ↓D3.gcons3.eq_1, ↓D3.gnil3.eq_1, ↓D3.gunl3.eq_1, ↓D3.bits3.eq_1, ↓D3.neg3.eq_1, ↓D3.chain3.eq_1, fIsi_int_int, fIsi_int_bool, fIsi_int_tuple, fIsi_int_str, fIsi_int_list, fIsi_bl_int, fIsi_bl_bool, fIsi_bl_tuple, fIsi_bl_str, fIsi_bl_list, fIsi_non_int, fIsi_non_bool, fIsi_non_tuple, fIsi_non_str, fIsi_non_list, fIsi_str_int, fIsi_str_bool, fIsi_str_tuple, fIsi_str_str, fIsi_str_list, fIsi_tup_int, fIsi_tup_bool, fIsi_tup_tuple, fIsi_tup_str, fIsi_tup_list, fIsi_lst_int, fIsi_lst_bool, fIsi_lst_tuple, fIsi_lst_str, fIsi_lst_list, fLen_lst, fLen_tup, fAbs, ↓D3.call3_k, ↓D3.kont_app, ↓D3.isN3.eq_1, ↓D3.notN3.eq_1, dIsN_non, dIsN_int, dIsN_bl, dIsN_str, dIsN_tup, dIsN_lst, ↓D3.slc3.eq_1, ↓D3.part3.eq_1, ↓D3.noPart3.eq_1, ↓D3.ilst3.eq_1, ↓D3.itup3.eq_1, ↓D3.irng1.eq_1, ↓D3.irng2.eq_1, ↓D3.for3.eq_1, fCat, fEq_int, fNe_int, fEq_bl, fNe_bl, fEq_pair, fNe_pair, List.map, List.replicate, List.length_cons, List.length_nil, List.set_cons_zero, List.set_cons_succ, List.getElem?_cons_zero, List.getElem?_cons_succ, List.cons_append, List.nil_append, at_0, at_1, at_2, at_3, at_4, at_5, at_6, ix_0, ix_1, ix_2, put_same, put_put, decide_eq_true_eq, Bool.not_eq_true', decide_eq_false_iff_not, ite_not, ite_true, ite_false, if_true, if_false, Bool.false_eq_true, ↓reduceIte, reduceIte, Nat.reduceAdd, Nat.reduceSub, Int.reduceToNat, Nat.reduceLeDiff, not_false_eq_true, true_and, and_true, ne_eq, Int.reduceEq, Nat.zero_add, Bool.not_true, Bool.not_false, reduceCtorEq, nc0, nc1, nc2, nc3, nc4, nc5, fIx_ref put_same, fLen_ref put_same, ↓D3.lc3.eq_1, fInt, fTuple, fList, fNeS_s, fEqS_s, ↓D3.gstar3.eq_1, fInK_s, fNinK_s, fLenS_s, ↓D3.slcT3.eq_1, fCatT_t, dnew3]
  have hb := fmod_b cell (b := 2147483579) (by decide)
  refine ⟨c_pow (by decide) (by decide) (by decide), ite2 (fun h => ⟨c_pow (by decide) (by decide) (by decide), fun p hp => q p _ hp Off.put ⟨_, _, _, put_same, by omega, by omega, by omega, by omega⟩⟩) (fun h => fun p hp => q p _ hp Off.put ⟨_, _, _, put_same, by omega, by omega, by omega, by omega⟩)⟩
theorem ok_law_pick (T : Tx w K mg fa fd) : Fn3 P w K mg base 1 (fa 12) (fd 12) ["deck", "many"] sp_pick := by
  refine fn3 T.d_law_pick.F sc_law_pick (fun ds m Q h => by obtain ⟨_, _, _, rfl, _⟩ := h; rfl) fun cdv A outer s H E ds m Q hr h => ?_
  obtain ⟨p, many, n, rfl, ⟨a, b, c, hm, b0, b1, c0, c1⟩, hp, hl, q⟩ := h
  refine ⟨_, (ss_cons (s_if (t_gt (e_ix (e_v 0) e_int) e_int) (ss_cons (s_set (i := 2) sc_law_pick.nd (e_mod (e_ix (e_v 0) e_int) (e_v 1)))
      (ss_cons (s_asg (e_fdiv (e_ix (e_v 0) e_int) (e_v 1)) (g_sub (e_v 0) e_int))
      (ss_one (s_ret (e_v 2))))) ss_nil)
      (ss_cons (s_asg (e_add (e_ix (e_v 0) e_int) e_int) (g_sub (e_v 0) e_int))
      (ss_cons (s_set (i := 3) sc_law_pick.nd (e_mod (e_pow (e_add (e_ix (e_v 0) e_int) (e_mul e_int (e_ix (e_v 0) e_int))) e_int) e_int))
      (ss_cons (s_set (i := 2) sc_law_pick.nd (e_fdiv (e_mod (e_pow (e_add (e_v 3) (e_mul e_int (e_ix (e_v 0) e_int))) e_int) e_int) e_int))
      (ss_cons (s_if (t_gt (e_v 1) e_int) (ss_one (s_ret (e_mod (e_add (e_mul (e_v 2) e_int) (e_v 3)) (e_v 1)))) ss_nil)
      (ss_one (s_ret (e_mod (e_v 2) (e_v 1))))))))), ?_⟩
  try simp -implicitDefEqProofs -dsimp only [seq3, ↓D3.ifS3.eq_1, ↓D3.b3.eq_1, ↓D3.op3.eq_1, ↓D3.un3.eq_1, ↓D3.v3.eq_1, ↓D3.c3.eq_1, fIx_tup, fIx_lst, at3_0, at3_1, at3_2, at3_3, at3_4, at3_5, at3_6, start3, fI0_i, fI_i, fLt, fLe, fGt, fGe, fEqI, fNeI, fMin, fMax, ↓D3.asg3.eq_1, ↓D3.name3.eq_1, ↓D3.sub3.eq_1, ↓D3.ret3.eq_1, ↓D3.retN3.eq_1, ↓D3.nx3.eq_1, ↓D3.drop3.eq_1, ↓D3.par3.eq_1, ↓D3.aug3.eq_1, ↓D3.and3.eq_1, ↓D3.or3.eq_1, ↓D3.not3.eq_1, ↓D3.andV3.eq_1, ↓D3.orV3.eq_1, ↓D3.notV3.eq_1, ↓D3.if3.eq_1, ↓D3.nil3.eq_1, ↓D3.cons3.eq_1, ↓D3.tup3.eq_1, ↓D3.lst3.eq_1, ↓D3.lstM3.eq_1, ↓D3.gtup3.eq_1, ↓D3.gcons3.eq_1, ↓D3.gnil3.eq_1, ↓D3.gunl3.eq_1, ↓D3.bits3.eq_1, ↓D3.neg3.eq_1, ↓D3.chain3.eq_1, fIsi_int_int, fIsi_int_bool, fIsi_int_tuple, fIsi_int_str, fIsi_int_list, fIsi_bl_int, fIsi_bl_bool, fIsi_bl_tuple, fIsi_bl_str, fIsi_bl_list, fIsi_non_int, fIsi_non_bool, fIsi_non_tuple, fIsi_non_str, fIsi_non_list, fIsi_str_int, fIsi_str_bool, fIsi_str_tuple, fIsi_str_str, fIsi_str_list, fIsi_tup_int, fIsi_tup_bool, fIsi_tup_tuple, fIsi_tup_str, fIsi_tup_list, fIsi_lst_int, fIsi_lst_bool, fIsi_lst_tuple, fIsi_lst_str, fIsi_lst_list, fLen_lst, fLen_tup, fAbs, ↓D3.call3_k, ↓D3.kont_app, ↓D3.isN3.eq_1, ↓D3.notN3.eq_1, dIsN_non, dIsN_int, dIsN_bl, dIsN_str, dIsN_tup, dIsN_lst, ↓D3.slc3.eq_1, ↓D3.part3.eq_1, ↓D3.noPart3.eq_1, ↓D3.ilst3.eq_1, ↓D3.itup3.eq_1, ↓D3.irng1.eq_1, ↓D3.irng2.eq_1, ↓D3.for3.eq_1, fCat, fEq_int, fNe_int, fEq_bl, fNe_bl, fEq_pair, fNe_pair, List.map, List.replicate, List.length_cons, List.length_nil, List.set_cons_zero, List.set_cons_succ, List.getElem?_cons_zero, List.getElem?_cons_succ, List.cons_append, List.nil_append, at_0, at_1, at_2, at_3, at_4, at_5, at_6, ix_0, ix_1, ix_2, put_same, put_put, decide_eq_true_eq, Bool.not_eq_true', decide_eq_false_iff_not, ite_not, ite_true, ite_false, if_true, if_false, Bool.false_eq_true, ↓reduceIte, reduceIte, Nat.reduceAdd, Nat.reduceSub, Int.reduceToNat, Nat.reduceLeDiff, not_false_eq_true, true_and, and_true, ne_eq, Int.reduceEq, Nat.zero_add, Bool.not_true, Bool.not_false, reduceCtorEq, nc0, nc1, nc2, nc3, nc4, nc5, fIx_ref put_same, fLen_ref put_same, ↓D3.lc3.eq_1, fInt, fTuple, fList, fNeS_s, fEqS_s, ↓D3.gstar3.eq_1, fInK_s, fNinK_s, fLenS_s, ↓D3.slcT3.eq_1, fCatT_t, dnew3, hm, fIx_ref hm]
  refine ite2 (fun h => ⟨by omega, c_fdiv hp hl (by decide) (by decide), ?_⟩) (fun h => ?_)
  · obtain ⟨r0, r1⟩ := fmod_b a hp
    exact q _ _ r0 r1 Off.put ⟨_, _, _, put_same, b0, b1, c0, by omega⟩
  · have e1 := fmod_b ((b + 15485867 * (c + 1)) ^ 5) (b := 2147483647) (by decide)
    generalize ((b + 15485867 * (c + 1)) ^ 5).fmod 2147483647 = num at e1 ⊢
    have e2 := fmod_b ((num + 7919 * (c + 1)) ^ 3) (b := 2147483629) (by decide)
    generalize ((num + 7919 * (c + 1)) ^ 3).fmod 2147483629 = f0 at e2 ⊢
    have e3 := fdiv_e f0 (b := 32) (by decide)
    generalize f0.fdiv 32 = f at e3 ⊢
    refine ⟨c_mul64 (by decide) (by omega), c_pow (by decide) (by decide) (by omega), c_mul64 (by decide) (by omega), c_pow (by decide) (by decide) (by omega), c_fdiv (b := 6) (by decide) (by decide) (by decide) (by decide), ite2 (fun h => ⟨c_mul64 (by omega) (by decide), by omega, ?_⟩) (fun h => ⟨by omega, ?_⟩)⟩
    · obtain ⟨r0, r1⟩ := fmod_b (f * 2147483563 + num) hp
      exact q _ _ r0 r1 Off.put ⟨_, _, _, put_same, b0, b1, by omega, by omega⟩
    · obtain ⟨r0, r1⟩ := fmod_b f hp
      exact q _ _ r0 r1 Off.put ⟨_, _, _, put_same, b0, b1, by omega, by omega⟩
def sp_fraction : Sp3 := fun ds m P => ∃ a b : Int, ds = [.int a, .int b] ∧ b ≠ 0 ∧ a.natAbs < 2 ^ 4000 ∧ b.natAbs < 2 ^ 4000 ∧ ∀ t u : Int, 0 < u → t * b = a * u → Int.gcd t u = 1 → t.natAbs ≤ a.natAbs → u.natAbs ≤ b.natAbs → P (.tup [.int t, .int u]) m
theorem ok_law_fraction (T : Tx w K mg fa fd) : Fn3 P w K mg base 1 (fa 13) (fd 13) ["top", "bottom"] sp_fraction := by
  refine fn3 T.d_law_fraction.F sc_law_fraction (fun ds m Q h => by obtain ⟨_, _, rfl, _⟩ := h; rfl) fun cdv A outer s H E ds m Q hr h => ?_
  obtain ⟨a, b, rfl, hb, la, lb, q⟩ := h
  refine ⟨_, (ss_cons (s_par (i := 2) (j := 3) rfl sc_law_fraction.nd rfl rfl (by decide) rfl rfl (a_cons (e_abs rfl T.b_abs (e_v 0)) (a_cons (e_abs rfl T.b_abs (e_v 1)) a_nil)) (by rfl))
      (ss_cons (s_while PassesOwn.never (t_neI (e_v 3) e_int) (ss_one (s_par (i := 2) (j := 3) rfl sc_law_fraction.nd rfl rfl (by decide) rfl rfl (a_cons (e_v 3) (a_cons (e_mod (e_v 2) (e_v 3)) a_nil)) (by rfl))))
      (ss_cons (s_if (t_lt (e_v 1) e_int) (ss_one (s_ret (e_tup (a_cons (e_sub e_int (e_fdiv (e_v 0) (e_v 2))) (a_cons (e_sub e_int (e_fdiv (e_v 1) (e_v 2))) a_nil))))) ss_nil)
      (ss_one (s_ret (e_tup (a_cons (e_fdiv (e_v 0) (e_v 2)) (a_cons (e_fdiv (e_v 1) (e_v 2)) a_nil)))))))), ?_⟩
  try simp -implicitDefEqProofs -dsimp only [seq3, ↓D3.ifS3.eq_1, ↓D3.b3.eq_1, ↓D3.op3.eq_1, ↓D3.un3.eq_1, ↓D3.v3.eq_1, ↓D3.c3.eq_1, fIx_tup, fIx_lst, at3_0, at3_1, at3_2, at3_3, at3_4, at3_5, at3_6, start3, fI0_i, fI_i, fLt, fLe, fGt, fGe, fEqI, fNeI, fMin, fMax, ↓D3.asg3.eq_1, ↓D3.name3.eq_1, ↓D3.sub3.eq_1, ↓D3.ret3.eq_1, ↓D3.retN3.eq_1, ↓D3.nx3.eq_1, ↓D3.drop3.eq_1, ↓D3.par3.eq_1, ↓D3.aug3.eq_1, ↓D3.and3.eq_1, ↓D3.or3.eq_1, ↓D3.not3.eq_1, ↓D3.andV3.eq_1, ↓D3.orV3.eq_1, ↓D3.notV3.eq_1, ↓D3.if3.eq_1, ↓D3.nil3.eq_1, ↓D3.cons3.eq_1, ↓D3.tup3.eq_1, ↓D3.lst3.eq_1, ↓D3.lstM3.eq_1, ↓D3.gtup3.eq_1, ↓D3.gcons3.eq_1, ↓D3.gnil3.eq_1, ↓D3.gunl3.eq_1, ↓D3.bits3.eq_1, ↓D3.neg3.eq_1, ↓D3.chain3.eq_1, fIsi_int_int, fIsi_int_bool, fIsi_int_tuple, fIsi_int_str, fIsi_int_list, fIsi_bl_int, fIsi_bl_bool, fIsi_bl_tuple, fIsi_bl_str, fIsi_bl_list, fIsi_non_int, fIsi_non_bool, fIsi_non_tuple, fIsi_non_str, fIsi_non_list, fIsi_str_int, fIsi_str_bool, fIsi_str_tuple, fIsi_str_str, fIsi_str_list, fIsi_tup_int, fIsi_tup_bool, fIsi_tup_tuple, fIsi_tup_str, fIsi_tup_list, fIsi_lst_int, fIsi_lst_bool, fIsi_lst_tuple, fIsi_lst_str, fIsi_lst_list, fLen_lst, fLen_tup, fAbs, ↓D3.call3_k, ↓D3.kont_app, ↓D3.isN3.eq_1, ↓D3.notN3.eq_1, dIsN_non, dIsN_int, dIsN_bl, dIsN_str, dIsN_tup, dIsN_lst, ↓D3.slc3.eq_1, ↓D3.part3.eq_1, ↓D3.noPart3.eq_1, ↓D3.ilst3.eq_1, ↓D3.itup3.eq_1, ↓D3.irng1.eq_1, ↓D3.irng2.eq_1, ↓D3.for3.eq_1, fCat, fEq_int, fNe_int, fEq_bl, fNe_bl, fEq_pair, fNe_pair, List.map, List.replicate, List.length_cons, List.length_nil, List.set_cons_zero, List.set_cons_succ, List.getElem?_cons_zero, List.getElem?_cons_succ, List.cons_append, List.nil_append, at_0, at_1, at_2, at_3, at_4, at_5, at_6, ix_0, ix_1, ix_2, put_same, put_put, decide_eq_true_eq, Bool.not_eq_true', decide_eq_false_iff_not, ite_not, ite_true, ite_false, if_true, if_false, Bool.false_eq_true, ↓reduceIte, reduceIte, Nat.reduceAdd, Nat.reduceSub, Int.reduceToNat, Nat.reduceLeDiff, not_false_eq_true, true_and, and_true, ne_eq, Int.reduceEq, Nat.zero_add, Bool.not_true, Bool.not_false, reduceCtorEq, nc0, nc1, nc2, nc3, nc4, nc5, fIx_ref put_same, fLen_ref put_same, ↓D3.lc3.eq_1, fInt, fTuple, fList, fNeS_s, fEqS_s, ↓D3.gstar3.eq_1, fInK_s, fNinK_s, fLenS_s, ↓D3.slcT3.eq_1, fCatT_t, dnew3]
  refine ⟨fun n ρ m' => ∃ x y : Int, ρ = [some (.int a), some (.int b), some (.int x), some (.int y)] ∧ m' = m ∧ 0 ≤ x ∧ 0 ≤ y ∧ n = y.toNat ∧ Int.gcd x y = Int.gcd a b, ⟨_, _, _, rfl, rfl, by split <;> omega, by split <;> omega, rfl, gcd_abs a b⟩, ?_⟩
  rintro n ρ m' ⟨x, y, rfl, rfl, hx, hy, rfl, hg⟩
  try simp -implicitDefEqProofs -dsimp only [seq3, ↓D3.ifS3.eq_1, ↓D3.b3.eq_1, ↓D3.op3.eq_1, ↓D3.un3.eq_1, ↓D3.v3.eq_1, ↓D3.c3.eq_1, fIx_tup, fIx_lst, at3_0, at3_1, at3_2, at3_3, at3_4, at3_5, at3_6, start3, fI0_i, fI_i, fLt, fLe, fGt, fGe, fEqI, fNeI, fMin, fMax, ↓D3.asg3.eq_1, ↓D3.name3.eq_1, ↓D3.sub3.eq_1, ↓D3.ret3.eq_1, ↓D3.retN3.eq_1, ↓D3.nx3.eq_1, ↓D3.drop3.eq_1, ↓D3.par3.eq_1, ↓D3.aug3.eq_1, ↓D3.and3.eq_1, ↓D3.or3.eq_1, ↓D3.not3.eq_1, ↓D3.andV3.eq_1, ↓D3.orV3.eq_1, ↓D3.notV3.eq_1, ↓D3.if3.eq_1, ↓D3.nil3.eq_1, ↓D3.cons3.eq_1, ↓D3.tup3.eq_1, ↓D3.lst3.eq_1, ↓D3.lstM3.eq_1, ↓D3.gtup3.eq_1, ↓D3.gcons3.eq_1, ↓D3.gnil3.eq_1, ↓D3.gunl3.eq_1, ↓D3.bits3.eq_1, ↓D3.neg3.eq_1, ↓D3.chain3.eq_1, fIsi_int_int, fIsi_int_bool, fIsi_int_tuple, fIsi_int_str, fIsi_int_list, fIsi_bl_int, fIsi_bl_bool, fIsi_bl_tuple, fIsi_bl_str, fIsi_bl_list, fIsi_non_int, fIsi_non_bool, fIsi_non_tuple, fIsi_non_str, fIsi_non_list, fIsi_str_int, fIsi_str_bool, fIsi_str_tuple, fIsi_str_str, fIsi_str_list, fIsi_tup_int, fIsi_tup_bool, fIsi_tup_tuple, fIsi_tup_str, fIsi_tup_list, fIsi_lst_int, fIsi_lst_bool, fIsi_lst_tuple, fIsi_lst_str, fIsi_lst_list, fLen_lst, fLen_tup, fAbs, ↓D3.call3_k, ↓D3.kont_app, ↓D3.isN3.eq_1, ↓D3.notN3.eq_1, dIsN_non, dIsN_int, dIsN_bl, dIsN_str, dIsN_tup, dIsN_lst, ↓D3.slc3.eq_1, ↓D3.part3.eq_1, ↓D3.noPart3.eq_1, ↓D3.ilst3.eq_1, ↓D3.itup3.eq_1, ↓D3.irng1.eq_1, ↓D3.irng2.eq_1, ↓D3.for3.eq_1, fCat, fEq_int, fNe_int, fEq_bl, fNe_bl, fEq_pair, fNe_pair, List.map, List.replicate, List.length_cons, List.length_nil, List.set_cons_zero, List.set_cons_succ, List.getElem?_cons_zero, List.getElem?_cons_succ, List.cons_append, List.nil_append, at_0, at_1, at_2, at_3, at_4, at_5, at_6, ix_0, ix_1, ix_2, put_same, put_put, decide_eq_true_eq, Bool.not_eq_true', decide_eq_false_iff_not, ite_not, ite_true, ite_false, if_true, if_false, Bool.false_eq_true, ↓reduceIte, reduceIte, Nat.reduceAdd, Nat.reduceSub, Int.reduceToNat, Nat.reduceLeDiff, not_false_eq_true, true_and, and_true, ne_eq, Int.reduceEq, Nat.zero_add, Bool.not_true, Bool.not_false, reduceCtorEq, nc0, nc1, nc2, nc3, nc4, nc5, fIx_ref put_same, fLen_ref put_same, ↓D3.lc3.eq_1, fInt, fTuple, fList, fNeS_s, fEqS_s, ↓D3.gstar3.eq_1, fInK_s, fNinK_s, fLenS_s, ↓D3.slcT3.eq_1, fCatT_t, dnew3]
  refine ite2 (fun h => ?_) (fun h => ⟨h, (x.fmod y).toNat, by have := fmod_b x (show 0 < y by omega); omega, _, _, rfl, hy, (fmod_b x (show 0 < y by omega)).1, rfl, by rw [fmod_e x (show 0 < y by omega), gcd_step hx (by omega), hg]⟩)
  · subst h
    have hx2 : x = (Int.gcd a b : Nat) := by
      rw [← hg, Int.gcd_zero_right]
      omega
    obtain ⟨g0, e1, e2, e3, e4, e5⟩ := frac_div hb hx2
    have lx : x.natAbs < 2 ^ 4000 := by
      have : x.natAbs ≤ b.natAbs := by
        conv => rhs; rw [← e2]
        rw [Int.natAbs_mul]
        refine Nat.le_mul_of_pos_left _ ?_
        refine Int.natAbs_pos.mpr fun z => ?_
        rw [z, Int.zero_mul] at e2
        exact hb e2.symm
      omega
    rw [fdiv_e a g0, fdiv_e b g0]
    have eq : a / x * b = a * (b / x) := by
      conv => lhs; rw [← e2]
      conv => rhs; rw [← e1]
      grind
    have hs : b / x < 0 ↔ b < 0 := by
      constructor
      · intro h; rw [← e2]; exact Int.mul_neg_of_neg_of_pos h g0
      · intro h; exact Int.ediv_neg_of_neg_of_pos h g0
    have hz : b / x ≠ 0 := fun z => by
      rw [z, Int.zero_mul] at e2
      exact hb e2.symm
    refine ite2 (fun h => ⟨c_fdiv g0 lx (by decide) (by decide), c_fdiv g0 lx (by decide) (by decide), ?_⟩) (fun h => ⟨c_fdiv g0 lx (by decide) (by decide), c_fdiv g0 lx (by decide) (by decide), ?_⟩)
    · refine q _ _ (by omega) ?_ ?_ (by omega) (by omega)
      · rw [Int.zero_sub, Int.zero_sub, Int.neg_mul, Int.mul_neg, eq]
      · rw [Int.zero_sub, Int.zero_sub, Int.neg_gcd, Int.gcd_neg, e3]
    · exact q _ _ (by omega) eq e3 e4 e5
def pneed (e : Nat) : Nat := 6 * 2 ^ e - 2
def sp_plainN : Nat → Sp3
  | 0 => fun _ _ _ => False
  | e + 1 => fun ds m P => ∃ (a : Addr) (n : Nat) (ns : List Str), ds = [.ref a, .int ((e + 1 : Nat) : Int), .lst (ns.map D.str)] ∧ Nms ns ∧ ns.length ≤ 10 ∧ DeckAt m a (n + pneed e) ∧ ∀ d m', Wp ns (e + 1) d → Off a m m' → DeckAt m' a n → P d m'
theorem nms_pl {ns : List Str} (h : Nms ns) : Pl 140 (.lst (ns.map D.str)) := Pls_of fun d hd => by
  obtain ⟨x, hx, rfl⟩ := List.mem_map.mp hd
  exact h x hx
theorem nms_dp (ns : List Str) : dp (.lst (ns.map D.str)) ≤ 1 := by
  rw [dp]
  have : dps (ns.map D.str) ≤ 0 := dps_of fun d hd => by
    obtain ⟨x, hx, rfl⟩ := List.mem_map.mp hd
    exact Nat.le_refl _
  omega
/-- names != [] -/
theorem fNe_names {ns : List Str} (h : Nms ns) {m : Mem} {P : DK} : fNe (.lst (ns.map D.str)) (.lst []) m P = P (.bl (!ns.isEmpty)) m := by
  rw [fNe_pl (n := 140) (k := 140) (nms_pl h) (show Pl 140 (.lst []) from trivial) (by have := nms_dp ns; omega) (by simp [dp, dps])]
  cases ns with
  | nil => rfl
  | cons x ns => rw [show PyData.eqv (pyOf (.lst ((x :: ns).map D.str))) (pyOf (.lst [])) = false from by simp [pyOf, pysOf, PyData.eqv, PyData.eqvAll]]; rfl
theorem ok_plainS (T : Tx w K mg fa fd) (e : Nat) (ih : Fn3 P w K mg base (e + 2) (fa 14) (fd 14) ["deck", "deep", "names"] (sp_plainN e)) : Fn3 P w K mg base (e + 2 + 1) (fa 14) (fd 14) ["deck", "deep", "names"] (sp_plainN (e + 1)) := by
  refine fn3 T.d_law_plain.F sc_law_plain (fun ds m Q h => by obtain ⟨_, _, _, rfl, _⟩ := h; rfl) fun cdv A outer s H E ds m Q hr h => ?_
  obtain ⟨a, n, ns, rfl, hn, hl, hd, q⟩ := h
  refine ⟨_, (ss_cons (s_if (t_w (t_or (t_lt (e_v 1) e_int) (t_or1 (t_eqI (e_call T.d_law_pick (ok_law_pick T) (hr.mono (by omega)) rfl (a_cons (e_v 0) (a_cons e_int a_nil))) e_int)))) (ss_cons (s_if (t_w (t_and (t_ne hr (e_v 2) (e_lst a_nil)) (t_and1 (t_eqI (e_call T.d_law_pick (ok_law_pick T) (hr.mono (by omega)) rfl (a_cons (e_v 0) (a_cons e_int a_nil))) e_int)))) (ss_one (s_ret (e_tup (a_cons e_str (a_cons (e_ix (e_v 2) (e_call T.d_law_pick (ok_law_pick T) (hr.mono (by omega)) rfl (a_cons (e_v 0) (a_cons (e_len rfl T.b_len (e_v 2)) a_nil)))) a_nil))))) ss_nil)
      (ss_one (s_ret (e_tup (a_cons e_str (a_cons (e_call T.d_law_fraction (ok_law_fraction T) (hr.mono (by omega)) rfl (a_cons (e_sub (e_call T.d_law_pick (ok_law_pick T) (hr.mono (by omega)) rfl (a_cons (e_v 0) (a_cons e_int a_nil))) e_int) (a_cons (e_ix (e_lst (a_cons e_int (a_cons e_int (a_cons e_int (a_cons e_int (a_cons e_int a_nil)))))) (e_call T.d_law_pick (ok_law_pick T) (hr.mono (by omega)) rfl (a_cons (e_v 0) (a_cons e_int a_nil)))) a_nil))) a_nil)))))) ss_nil)
      (ss_cons (s_set (i := 3) sc_law_plain.nd (e_call T.d_law_plain ih (hr.mono (by omega)) rfl (a_cons (e_v 0) (a_cons (e_sub (e_v 1) e_int) (a_cons (e_v 2) a_nil)))))
      (ss_cons (s_set (i := 4) sc_law_plain.nd (e_call T.d_law_pick (ok_law_pick T) (hr.mono (by omega)) rfl (a_cons (e_v 0) (a_cons e_int a_nil))))
      (ss_cons (s_if (t_eqI (e_v 4) e_int) (ss_one (s_ret (e_tup (a_cons e_str (a_cons (e_v 3) a_nil))))) ss_nil)
      (ss_cons (s_set (i := 5) sc_law_plain.nd (e_ix (e_lst (a_cons e_str (a_cons e_str (a_cons e_str (a_cons e_str (a_cons e_str (a_cons e_str (a_cons e_str a_nil)))))))) (e_v 4)))
      (ss_one (s_ret (e_tup (a_cons (e_v 5) (a_cons (e_v 3) (a_cons (e_call T.d_law_plain ih (hr.mono (by omega)) rfl (a_cons (e_v 0) (a_cons (e_sub (e_v 1) e_int) (a_cons (e_v 2) a_nil)))) a_nil))))))))))), ?_⟩
  have h4 : 4 ≤ pneed e := by unfold pneed; have : 1 ≤ 2 ^ e := Nat.one_le_two_pow; omega
  refine seq3_if (fun m' => Off a m m' ∧ DeckAt m' a (n + 3)) (fun m' => Off a m m' ∧ DeckAt m' a (n + (pneed e - 1)) ∧ 1 ≤ e) (fun P h1 h2 => ?_) (fun m1 ⟨o1, d1⟩ => ?_) (fun m1 ⟨o1, d1, e1⟩ => ?_)
  · try simp -implicitDefEqProofs -dsimp only [seq3, ↓D3.ifS3.eq_1, ↓D3.b3.eq_1, ↓D3.op3.eq_1, ↓D3.un3.eq_1, ↓D3.v3.eq_1, ↓D3.c3.eq_1, fIx_tup, fIx_lst, at3_0, at3_1, at3_2, at3_3, at3_4, at3_5, at3_6, start3, fI0_i, fI_i, fLt, fLe, fGt, fGe, fEqI, fNeI, fMin, fMax, ↓D3.asg3.eq_1, ↓D3.name3.eq_1, ↓D3.sub3.eq_1, ↓D3.ret3.eq_1, ↓D3.retN3.eq_1, ↓D3.nx3.eq_1, ↓D3.drop3.eq_1, ↓D3.par3.eq_1, ↓D3.aug3.eq_1, ↓D3.and3.eq_1, ↓D3.or3.eq_1, ↓D3.not3.eq_1, ↓D3.andV3.eq_1, ↓D3.orV3.eq_1, ↓D3.notV3.eq_1, ↓D3.if3.eq_1, ↓D3.nil3.eq_1, ↓D3.cons3.eq_1, ↓D3.tup3.eq_1, ↓D3.lst3.eq_1, ↓D3.lstM3.eq_1, ↓D3.gtup3.eq_1, ↓D3.gcons3.eq_1, ↓D3.gnil3.eq_1, ↓D3.gunl3.eq_1, ↓D3.bits3.eq_1, ↓D3.neg3.eq_1, ↓D3.chain3.eq_1, fIsi_int_int, fIsi_int_bool, fIsi_int_tuple, fIsi_int_str, fIsi_int_list, fIsi_bl_int, fIsi_bl_bool, fIsi_bl_tuple, fIsi_bl_str, fIsi_bl_list, fIsi_non_int, fIsi_non_bool, fIsi_non_tuple, fIsi_non_str, fIsi_non_list, fIsi_str_int, fIsi_str_bool, fIsi_str_tuple, fIsi_str_str, fIsi_str_list, fIsi_tup_int, fIsi_tup_bool, fIsi_tup_tuple, fIsi_tup_str, fIsi_tup_list, fIsi_lst_int, fIsi_lst_bool, fIsi_lst_tuple, fIsi_lst_str, fIsi_lst_list, fLen_lst, fLen_tup, fAbs, ↓D3.call3_k, ↓D3.kont_app, ↓D3.isN3.eq_1, ↓D3.notN3.eq_1, dIsN_non, dIsN_int, dIsN_bl, dIsN_str, dIsN_tup, dIsN_lst, ↓D3.slc3.eq_1, ↓D3.part3.eq_1, ↓D3.noPart3.eq_1, ↓D3.ilst3.eq_1, ↓D3.itup3.eq_1, ↓D3.irng1.eq_1, ↓D3.irng2.eq_1, ↓D3.for3.eq_1, fCat, fEq_int, fNe_int, fEq_bl, fNe_bl, fEq_pair, fNe_pair, List.map, List.replicate, List.length_cons, List.length_nil, List.set_cons_zero, List.set_cons_succ, List.getElem?_cons_zero, List.getElem?_cons_succ, List.cons_append, List.nil_append, at_0, at_1, at_2, at_3, at_4, at_5, at_6, ix_0, ix_1, ix_2, put_same, put_put, decide_eq_true_eq, Bool.not_eq_true', decide_eq_false_iff_not, ite_not, ite_true, ite_false, if_true, if_false, Bool.false_eq_true, ↓reduceIte, reduceIte, Nat.reduceAdd, Nat.reduceSub, Int.reduceToNat, Nat.reduceLeDiff, not_false_eq_true, true_and, and_true, ne_eq, Int.reduceEq, Nat.zero_add, Bool.not_true, Bool.not_false, reduceCtorEq, nc0, nc1, nc2, nc3, nc4, nc5, fIx_ref put_same, fLen_ref put_same, ↓D3.lc3.eq_1, fInt, fTuple, fList, fNeS_s, fEqS_s, ↓D3.gstar3.eq_1, fInK_s, fNinK_s, fLenS_s, ↓D3.slcT3.eq_1, fCatT_t, dnew3]
    refine ite2 (fun c => h1 _ ⟨Off.refl _ _, hd.le (by omega)⟩) (fun c => ?_)
    refine sp_pick_i (n + (pneed e - 1)) (hd.le (by omega)) (by decide) (by decide) fun r m1 r0 r1 o1 d1 => ?_
    try simp -implicitDefEqProofs -dsimp only [seq3, ↓D3.ifS3.eq_1, ↓D3.b3.eq_1, ↓D3.op3.eq_1, ↓D3.un3.eq_1, ↓D3.v3.eq_1, ↓D3.c3.eq_1, fIx_tup, fIx_lst, at3_0, at3_1, at3_2, at3_3, at3_4, at3_5, at3_6, start3, fI0_i, fI_i, fLt, fLe, fGt, fGe, fEqI, fNeI, fMin, fMax, ↓D3.asg3.eq_1, ↓D3.name3.eq_1, ↓D3.sub3.eq_1, ↓D3.ret3.eq_1, ↓D3.retN3.eq_1, ↓D3.nx3.eq_1, ↓D3.drop3.eq_1, ↓D3.par3.eq_1, ↓D3.aug3.eq_1, ↓D3.and3.eq_1, ↓D3.or3.eq_1, ↓D3.not3.eq_1, ↓D3.andV3.eq_1, ↓D3.orV3.eq_1, ↓D3.notV3.eq_1, ↓D3.if3.eq_1, ↓D3.nil3.eq_1, ↓D3.cons3.eq_1, ↓D3.tup3.eq_1, ↓D3.lst3.eq_1, ↓D3.lstM3.eq_1, ↓D3.gtup3.eq_1, ↓D3.gcons3.eq_1, ↓D3.gnil3.eq_1, ↓D3.gunl3.eq_1, ↓D3.bits3.eq_1, ↓D3.neg3.eq_1, ↓D3.chain3.eq_1, fIsi_int_int, fIsi_int_bool, fIsi_int_tuple, fIsi_int_str, fIsi_int_list, fIsi_bl_int, fIsi_bl_bool, fIsi_bl_tuple, fIsi_bl_str, fIsi_bl_list, fIsi_non_int, fIsi_non_bool, fIsi_non_tuple, fIsi_non_str, fIsi_non_list, fIsi_str_int, fIsi_str_bool, fIsi_str_tuple, fIsi_str_str, fIsi_str_list, fIsi_tup_int, fIsi_tup_bool, fIsi_tup_tuple, fIsi_tup_str, fIsi_tup_list, fIsi_lst_int, fIsi_lst_bool, fIsi_lst_tuple, fIsi_lst_str, fIsi_lst_list, fLen_lst, fLen_tup, fAbs, ↓D3.call3_k, ↓D3.kont_app, ↓D3.isN3.eq_1, ↓D3.notN3.eq_1, dIsN_non, dIsN_int, dIsN_bl, dIsN_str, dIsN_tup, dIsN_lst, ↓D3.slc3.eq_1, ↓D3.part3.eq_1, ↓D3.noPart3.eq_1, ↓D3.ilst3.eq_1, ↓D3.itup3.eq_1, ↓D3.irng1.eq_1, ↓D3.irng2.eq_1, ↓D3.for3.eq_1, fCat, fEq_int, fNe_int, fEq_bl, fNe_bl, fEq_pair, fNe_pair, List.map, List.replicate, List.length_cons, List.length_nil, List.set_cons_zero, List.set_cons_succ, List.getElem?_cons_zero, List.getElem?_cons_succ, List.cons_append, List.nil_append, at_0, at_1, at_2, at_3, at_4, at_5, at_6, ix_0, ix_1, ix_2, put_same, put_put, decide_eq_true_eq, Bool.not_eq_true', decide_eq_false_iff_not, ite_not, ite_true, ite_false, if_true, if_false, Bool.false_eq_true, ↓reduceIte, reduceIte, Nat.reduceAdd, Nat.reduceSub, Int.reduceToNat, Nat.reduceLeDiff, not_false_eq_true, true_and, and_true, ne_eq, Int.reduceEq, Nat.zero_add, Bool.not_true, Bool.not_false, reduceCtorEq, nc0, nc1, nc2, nc3, nc4, nc5, fIx_ref put_same, fLen_ref put_same, ↓D3.lc3.eq_1, fInt, fTuple, fList, fNeS_s, fEqS_s, ↓D3.gstar3.eq_1, fInK_s, fNinK_s, fLenS_s, ↓D3.slcT3.eq_1, fCatT_t, dnew3]
    exact pDec (fun z => h1 _ ⟨o1, d1.le (by omega)⟩) (fun z => h2 _ ⟨o1, d1, by omega⟩)
  · refine seq3_if (fun m' => Off a m m' ∧ DeckAt m' a (n + 2) ∧ 0 < ns.length) (fun m' => Off a m m' ∧ DeckAt m' a (n + 2)) (fun P h1 h2 => ?_) (fun m2 ⟨o2, d2, hpos⟩ => ?_) (fun m2 ⟨o2, d2⟩ => ?_)
    · try simp -implicitDefEqProofs -dsimp only [seq3, ↓D3.ifS3.eq_1, ↓D3.b3.eq_1, ↓D3.op3.eq_1, ↓D3.un3.eq_1, ↓D3.v3.eq_1, ↓D3.c3.eq_1, fIx_tup, fIx_lst, at3_0, at3_1, at3_2, at3_3, at3_4, at3_5, at3_6, start3, fI0_i, fI_i, fLt, fLe, fGt, fGe, fEqI, fNeI, fMin, fMax, ↓D3.asg3.eq_1, ↓D3.name3.eq_1, ↓D3.sub3.eq_1, ↓D3.ret3.eq_1, ↓D3.retN3.eq_1, ↓D3.nx3.eq_1, ↓D3.drop3.eq_1, ↓D3.par3.eq_1, ↓D3.aug3.eq_1, ↓D3.and3.eq_1, ↓D3.or3.eq_1, ↓D3.not3.eq_1, ↓D3.andV3.eq_1, ↓D3.orV3.eq_1, ↓D3.notV3.eq_1, ↓D3.if3.eq_1, ↓D3.nil3.eq_1, ↓D3.cons3.eq_1, ↓D3.tup3.eq_1, ↓D3.lst3.eq_1, ↓D3.lstM3.eq_1, ↓D3.gtup3.eq_1, ↓D3.gcons3.eq_1, ↓D3.gnil3.eq_1, ↓D3.gunl3.eq_1, ↓D3.bits3.eq_1, ↓D3.neg3.eq_1, ↓D3.chain3.eq_1, fIsi_int_int, fIsi_int_bool, fIsi_int_tuple, fIsi_int_str, fIsi_int_list, fIsi_bl_int, fIsi_bl_bool, fIsi_bl_tuple, fIsi_bl_str, fIsi_bl_list, fIsi_non_int, fIsi_non_bool, fIsi_non_tuple, fIsi_non_str, fIsi_non_list, fIsi_str_int, fIsi_str_bool, fIsi_str_tuple, fIsi_str_str, fIsi_str_list, fIsi_tup_int, fIsi_tup_bool, fIsi_tup_tuple, fIsi_tup_str, fIsi_tup_list, fIsi_lst_int, fIsi_lst_bool, fIsi_lst_tuple, fIsi_lst_str, fIsi_lst_list, fLen_lst, fLen_tup, fAbs, ↓D3.call3_k, ↓D3.kont_app, ↓D3.isN3.eq_1, ↓D3.notN3.eq_1, dIsN_non, dIsN_int, dIsN_bl, dIsN_str, dIsN_tup, dIsN_lst, ↓D3.slc3.eq_1, ↓D3.part3.eq_1, ↓D3.noPart3.eq_1, ↓D3.ilst3.eq_1, ↓D3.itup3.eq_1, ↓D3.irng1.eq_1, ↓D3.irng2.eq_1, ↓D3.for3.eq_1, fCat, fEq_int, fNe_int, fEq_bl, fNe_bl, fEq_pair, fNe_pair, List.map, List.replicate, List.length_cons, List.length_nil, List.set_cons_zero, List.set_cons_succ, List.getElem?_cons_zero, List.getElem?_cons_succ, List.cons_append, List.nil_append, at_0, at_1, at_2, at_3, at_4, at_5, at_6, ix_0, ix_1, ix_2, put_same, put_put, decide_eq_true_eq, Bool.not_eq_true', decide_eq_false_iff_not, ite_not, ite_true, ite_false, if_true, if_false, Bool.false_eq_true, ↓reduceIte, reduceIte, Nat.reduceAdd, Nat.reduceSub, Int.reduceToNat, Nat.reduceLeDiff, not_false_eq_true, true_and, and_true, ne_eq, Int.reduceEq, Nat.zero_add, Bool.not_true, Bool.not_false, reduceCtorEq, nc0, nc1, nc2, nc3, nc4, nc5, fIx_ref put_same, fLen_ref put_same, ↓D3.lc3.eq_1, fInt, fTuple, fList, fNeS_s, fEqS_s, ↓D3.gstar3.eq_1, fInK_s, fNinK_s, fLenS_s, ↓D3.slcT3.eq_1, fCatT_t, dnew3]
      rw [fNe_names hn]
      try simp -implicitDefEqProofs -dsimp only [seq3, ↓D3.ifS3.eq_1, ↓D3.b3.eq_1, ↓D3.op3.eq_1, ↓D3.un3.eq_1, ↓D3.v3.eq_1, ↓D3.c3.eq_1, fIx_tup, fIx_lst, at3_0, at3_1, at3_2, at3_3, at3_4, at3_5, at3_6, start3, fI0_i, fI_i, fLt, fLe, fGt, fGe, fEqI, fNeI, fMin, fMax, ↓D3.asg3.eq_1, ↓D3.name3.eq_1, ↓D3.sub3.eq_1, ↓D3.ret3.eq_1, ↓D3.retN3.eq_1, ↓D3.nx3.eq_1, ↓D3.drop3.eq_1, ↓D3.par3.eq_1, ↓D3.aug3.eq_1, ↓D3.and3.eq_1, ↓D3.or3.eq_1, ↓D3.not3.eq_1, ↓D3.andV3.eq_1, ↓D3.orV3.eq_1, ↓D3.notV3.eq_1, ↓D3.if3.eq_1, ↓D3.nil3.eq_1, ↓D3.cons3.eq_1, ↓D3.tup3.eq_1, ↓D3.lst3.eq_1, ↓D3.lstM3.eq_1, ↓D3.gtup3.eq_1, ↓D3.gcons3.eq_1, ↓D3.gnil3.eq_1, ↓D3.gunl3.eq_1, ↓D3.bits3.eq_1, ↓D3.neg3.eq_1, ↓D3.chain3.eq_1, fIsi_int_int, fIsi_int_bool, fIsi_int_tuple, fIsi_int_str, fIsi_int_list, fIsi_bl_int, fIsi_bl_bool, fIsi_bl_tuple, fIsi_bl_str, fIsi_bl_list, fIsi_non_int, fIsi_non_bool, fIsi_non_tuple, fIsi_non_str, fIsi_non_list, fIsi_str_int, fIsi_str_bool, fIsi_str_tuple, fIsi_str_str, fIsi_str_list, fIsi_tup_int, fIsi_tup_bool, fIsi_tup_tuple, fIsi_tup_str, fIsi_tup_list, fIsi_lst_int, fIsi_lst_bool, fIsi_lst_tuple, fIsi_lst_str, fIsi_lst_list, fLen_lst, fLen_tup, fAbs, ↓D3.call3_k, ↓D3.kont_app, ↓D3.isN3.eq_1, ↓D3.notN3.eq_1, dIsN_non, dIsN_int, dIsN_bl, dIsN_str, dIsN_tup, dIsN_lst, ↓D3.slc3.eq_1, ↓D3.part3.eq_1, ↓D3.noPart3.eq_1, ↓D3.ilst3.eq_1, ↓D3.itup3.eq_1, ↓D3.irng1.eq_1, ↓D3.irng2.eq_1, ↓D3.for3.eq_1, fCat, fEq_int, fNe_int, fEq_bl, fNe_bl, fEq_pair, fNe_pair, List.map, List.replicate, List.length_cons, List.length_nil, List.set_cons_zero, List.set_cons_succ, List.getElem?_cons_zero, List.getElem?_cons_succ, List.cons_append, List.nil_append, at_0, at_1, at_2, at_3, at_4, at_5, at_6, ix_0, ix_1, ix_2, put_same, put_put, decide_eq_true_eq, Bool.not_eq_true', decide_eq_false_iff_not, ite_not, ite_true, ite_false, if_true, if_false, Bool.false_eq_true, ↓reduceIte, reduceIte, Nat.reduceAdd, Nat.reduceSub, Int.reduceToNat, Nat.reduceLeDiff, not_false_eq_true, true_and, and_true, ne_eq, Int.reduceEq, Nat.zero_add, Bool.not_true, Bool.not_false, reduceCtorEq, nc0, nc1, nc2, nc3, nc4, nc5, fIx_ref put_same, fLen_ref put_same, ↓D3.lc3.eq_1, fInt, fTuple, fList, fNeS_s, fEqS_s, ↓D3.gstar3.eq_1, fInK_s, fNinK_s, fLenS_s, ↓D3.slcT3.eq_1, fCatT_t, dnew3]
      refine iteFf (fun h3 => ?_) (fun h3 => h2 _ ⟨o1, d1.le (by omega)⟩)
      refine sp_pick_i (n + 2) d1 (by decide) (by decide) fun r m2 r0 r1 o2 d2 => ?_
      try simp -implicitDefEqProofs -dsimp only [seq3, ↓D3.ifS3.eq_1, ↓D3.b3.eq_1, ↓D3.op3.eq_1, ↓D3.un3.eq_1, ↓D3.v3.eq_1, ↓D3.c3.eq_1, fIx_tup, fIx_lst, at3_0, at3_1, at3_2, at3_3, at3_4, at3_5, at3_6, start3, fI0_i, fI_i, fLt, fLe, fGt, fGe, fEqI, fNeI, fMin, fMax, ↓D3.asg3.eq_1, ↓D3.name3.eq_1, ↓D3.sub3.eq_1, ↓D3.ret3.eq_1, ↓D3.retN3.eq_1, ↓D3.nx3.eq_1, ↓D3.drop3.eq_1, ↓D3.par3.eq_1, ↓D3.aug3.eq_1, ↓D3.and3.eq_1, ↓D3.or3.eq_1, ↓D3.not3.eq_1, ↓D3.andV3.eq_1, ↓D3.orV3.eq_1, ↓D3.notV3.eq_1, ↓D3.if3.eq_1, ↓D3.nil3.eq_1, ↓D3.cons3.eq_1, ↓D3.tup3.eq_1, ↓D3.lst3.eq_1, ↓D3.lstM3.eq_1, ↓D3.gtup3.eq_1, ↓D3.gcons3.eq_1, ↓D3.gnil3.eq_1, ↓D3.gunl3.eq_1, ↓D3.bits3.eq_1, ↓D3.neg3.eq_1, ↓D3.chain3.eq_1, fIsi_int_int, fIsi_int_bool, fIsi_int_tuple, fIsi_int_str, fIsi_int_list, fIsi_bl_int, fIsi_bl_bool, fIsi_bl_tuple, fIsi_bl_str, fIsi_bl_list, fIsi_non_int, fIsi_non_bool, fIsi_non_tuple, fIsi_non_str, fIsi_non_list, fIsi_str_int, fIsi_str_bool, fIsi_str_tuple, fIsi_str_str, fIsi_str_list, fIsi_tup_int, fIsi_tup_bool, fIsi_tup_tuple, fIsi_tup_str, fIsi_tup_list, fIsi_lst_int, fIsi_lst_bool, fIsi_lst_tuple, fIsi_lst_str, fIsi_lst_list, fLen_lst, fLen_tup, fAbs, ↓D3.call3_k, ↓D3.kont_app, ↓D3.isN3.eq_1, ↓D3.notN3.eq_1, dIsN_non, dIsN_int, dIsN_bl, dIsN_str, dIsN_tup, dIsN_lst, ↓D3.slc3.eq_1, ↓D3.part3.eq_1, ↓D3.noPart3.eq_1, ↓D3.ilst3.eq_1, ↓D3.itup3.eq_1, ↓D3.irng1.eq_1, ↓D3.irng2.eq_1, ↓D3.for3.eq_1, fCat, fEq_int, fNe_int, fEq_bl, fNe_bl, fEq_pair, fNe_pair, List.map, List.replicate, List.length_cons, List.length_nil, List.set_cons_zero, List.set_cons_succ, List.getElem?_cons_zero, List.getElem?_cons_succ, List.cons_append, List.nil_append, at_0, at_1, at_2, at_3, at_4, at_5, at_6, ix_0, ix_1, ix_2, put_same, put_put, decide_eq_true_eq, Bool.not_eq_true', decide_eq_false_iff_not, ite_not, ite_true, ite_false, if_true, if_false, Bool.false_eq_true, ↓reduceIte, reduceIte, Nat.reduceAdd, Nat.reduceSub, Int.reduceToNat, Nat.reduceLeDiff, not_false_eq_true, true_and, and_true, ne_eq, Int.reduceEq, Nat.zero_add, Bool.not_true, Bool.not_false, reduceCtorEq, nc0, nc1, nc2, nc3, nc4, nc5, fIx_ref put_same, fLen_ref put_same, ↓D3.lc3.eq_1, fInt, fTuple, fList, fNeS_s, fEqS_s, ↓D3.gstar3.eq_1, fInK_s, fNinK_s, fLenS_s, ↓D3.slcT3.eq_1, fCatT_t, dnew3]
      exact pDec (fun z => h1 _ ⟨o1.trans o2, d2, by cases ns with
        | nil => cases h3
        | cons _ _ => simp⟩) (fun z => h2 _ ⟨o1.trans o2, d2⟩)
    · try simp -implicitDefEqProofs -dsimp only [seq3, ↓D3.ifS3.eq_1, ↓D3.b3.eq_1, ↓D3.op3.eq_1, ↓D3.un3.eq_1, ↓D3.v3.eq_1, ↓D3.c3.eq_1, fIx_tup, fIx_lst, at3_0, at3_1, at3_2, at3_3, at3_4, at3_5, at3_6, start3, fI0_i, fI_i, fLt, fLe, fGt, fGe, fEqI, fNeI, fMin, fMax, ↓D3.asg3.eq_1, ↓D3.name3.eq_1, ↓D3.sub3.eq_1, ↓D3.ret3.eq_1, ↓D3.retN3.eq_1, ↓D3.nx3.eq_1, ↓D3.drop3.eq_1, ↓D3.par3.eq_1, ↓D3.aug3.eq_1, ↓D3.and3.eq_1, ↓D3.or3.eq_1, ↓D3.not3.eq_1, ↓D3.andV3.eq_1, ↓D3.orV3.eq_1, ↓D3.notV3.eq_1, ↓D3.if3.eq_1, ↓D3.nil3.eq_1, ↓D3.cons3.eq_1, ↓D3.tup3.eq_1, ↓D3.lst3.eq_1, ↓D3.lstM3.eq_1, ↓D3.gtup3.eq_1, ↓D3.gcons3.eq_1, ↓D3.gnil3.eq_1, ↓D3.gunl3.eq_1, ↓D3.bits3.eq_1, ↓D3.neg3.eq_1, ↓D3.chain3.eq_1, fIsi_int_int, fIsi_int_bool, fIsi_int_tuple, fIsi_int_str, fIsi_int_list, fIsi_bl_int, fIsi_bl_bool, fIsi_bl_tuple, fIsi_bl_str, fIsi_bl_list, fIsi_non_int, fIsi_non_bool, fIsi_non_tuple, fIsi_non_str, fIsi_non_list, fIsi_str_int, fIsi_str_bool, fIsi_str_tuple, fIsi_str_str, fIsi_str_list, fIsi_tup_int, fIsi_tup_bool, fIsi_tup_tuple, fIsi_tup_str, fIsi_tup_list, fIsi_lst_int, fIsi_lst_bool, fIsi_lst_tuple, fIsi_lst_str, fIsi_lst_list, fLen_lst, fLen_tup, fAbs, ↓D3.call3_k, ↓D3.kont_app, ↓D3.isN3.eq_1, ↓D3.notN3.eq_1, dIsN_non, dIsN_int, dIsN_bl, dIsN_str, dIsN_tup, dIsN_lst, ↓D3.slc3.eq_1, ↓D3.part3.eq_1, ↓D3.noPart3.eq_1, ↓D3.ilst3.eq_1, ↓D3.itup3.eq_1, ↓D3.irng1.eq_1, ↓D3.irng2.eq_1, ↓D3.for3.eq_1, fCat, fEq_int, fNe_int, fEq_bl, fNe_bl, fEq_pair, fNe_pair, List.map, List.replicate, List.length_cons, List.length_nil, List.set_cons_zero, List.set_cons_succ, List.getElem?_cons_zero, List.getElem?_cons_succ, List.cons_append, List.nil_append, at_0, at_1, at_2, at_3, at_4, at_5, at_6, ix_0, ix_1, ix_2, put_same, put_put, decide_eq_true_eq, Bool.not_eq_true', decide_eq_false_iff_not, ite_not, ite_true, ite_false, if_true, if_false, Bool.false_eq_true, ↓reduceIte, reduceIte, Nat.reduceAdd, Nat.reduceSub, Int.reduceToNat, Nat.reduceLeDiff, not_false_eq_true, true_and, and_true, ne_eq, Int.reduceEq, Nat.zero_add, Bool.not_true, Bool.not_false, reduceCtorEq, nc0, nc1, nc2, nc3, nc4, nc5, fIx_ref put_same, fLen_ref put_same, ↓D3.lc3.eq_1, fInt, fTuple, fList, fNeS_s, fEqS_s, ↓D3.gstar3.eq_1, fInK_s, fNinK_s, fLenS_s, ↓D3.slcT3.eq_1, fCatT_t, dnew3]
      refine sp_pick_i (n + 1) d2 (by simp; omega) (by simp; omega) fun r m3 r0 r1 o3 d3 => ?_
      try simp -implicitDefEqProofs -dsimp only [seq3, ↓D3.ifS3.eq_1, ↓D3.b3.eq_1, ↓D3.op3.eq_1, ↓D3.un3.eq_1, ↓D3.v3.eq_1, ↓D3.c3.eq_1, fIx_tup, fIx_lst, at3_0, at3_1, at3_2, at3_3, at3_4, at3_5, at3_6, start3, fI0_i, fI_i, fLt, fLe, fGt, fGe, fEqI, fNeI, fMin, fMax, ↓D3.asg3.eq_1, ↓D3.name3.eq_1, ↓D3.sub3.eq_1, ↓D3.ret3.eq_1, ↓D3.retN3.eq_1, ↓D3.nx3.eq_1, ↓D3.drop3.eq_1, ↓D3.par3.eq_1, ↓D3.aug3.eq_1, ↓D3.and3.eq_1, ↓D3.or3.eq_1, ↓D3.not3.eq_1, ↓D3.andV3.eq_1, ↓D3.orV3.eq_1, ↓D3.notV3.eq_1, ↓D3.if3.eq_1, ↓D3.nil3.eq_1, ↓D3.cons3.eq_1, ↓D3.tup3.eq_1, ↓D3.lst3.eq_1, ↓D3.lstM3.eq_1, ↓D3.gtup3.eq_1, ↓D3.gcons3.eq_1, ↓D3.gnil3.eq_1, ↓D3.gunl3.eq_1, ↓D3.bits3.eq_1, ↓D3.neg3.eq_1, ↓D3.chain3.eq_1, fIsi_int_int, fIsi_int_bool, fIsi_int_tuple, fIsi_int_str, fIsi_int_list, fIsi_bl_int, fIsi_bl_bool, fIsi_bl_tuple, fIsi_bl_str, fIsi_bl_list, fIsi_non_int, fIsi_non_bool, fIsi_non_tuple, fIsi_non_str, fIsi_non_list, fIsi_str_int, fIsi_str_bool, fIsi_str_tuple, fIsi_str_str, fIsi_str_list, fIsi_tup_int, fIsi_tup_bool, fIsi_tup_tuple, fIsi_tup_str, fIsi_tup_list, fIsi_lst_int, fIsi_lst_bool, fIsi_lst_tuple, fIsi_lst_str, fIsi_lst_list, fLen_lst, fLen_tup, fAbs, ↓D3.call3_k, ↓D3.kont_app, ↓D3.isN3.eq_1, ↓D3.notN3.eq_1, dIsN_non, dIsN_int, dIsN_bl, dIsN_str, dIsN_tup, dIsN_lst, ↓D3.slc3.eq_1, ↓D3.part3.eq_1, ↓D3.noPart3.eq_1, ↓D3.ilst3.eq_1, ↓D3.itup3.eq_1, ↓D3.irng1.eq_1, ↓D3.irng2.eq_1, ↓D3.for3.eq_1, fCat, fEq_int, fNe_int, fEq_bl, fNe_bl, fEq_pair, fNe_pair, List.map, List.replicate, List.length_cons, List.length_nil, List.set_cons_zero, List.set_cons_succ, List.getElem?_cons_zero, List.getElem?_cons_succ, List.cons_append, List.nil_append, at_0, at_1, at_2, at_3, at_4, at_5, at_6, ix_0, ix_1, ix_2, put_same, put_put, decide_eq_true_eq, Bool.not_eq_true', decide_eq_false_iff_not, ite_not, ite_true, ite_false, if_true, if_false, Bool.false_eq_true, ↓reduceIte, reduceIte, Nat.reduceAdd, Nat.reduceSub, Int.reduceToNat, Nat.reduceLeDiff, not_false_eq_true, true_and, and_true, ne_eq, Int.reduceEq, Nat.zero_add, Bool.not_true, Bool.not_false, reduceCtorEq, nc0, nc1, nc2, nc3, nc4, nc5, fIx_ref put_same, fLen_ref put_same, ↓D3.lc3.eq_1, fInt, fTuple, fList, fNeS_s, fEqS_s, ↓D3.gstar3.eq_1, fInK_s, fNinK_s, fLenS_s, ↓D3.slcT3.eq_1, fCatT_t, dnew3]
      refine at3_all r0 (by simpa using r1) fun d hd => ?_
      obtain ⟨x, hx, rfl⟩ := List.mem_map.mp hd
      try simp -implicitDefEqProofs -dsimp only [seq3, ↓D3.ifS3.eq_1, ↓D3.b3.eq_1, ↓D3.op3.eq_1, ↓D3.un3.eq_1, ↓D3.v3.eq_1, ↓D3.c3.eq_1, fIx_tup, fIx_lst, at3_0, at3_1, at3_2, at3_3, at3_4, at3_5, at3_6, start3, fI0_i, fI_i, fLt, fLe, fGt, fGe, fEqI, fNeI, fMin, fMax, ↓D3.asg3.eq_1, ↓D3.name3.eq_1, ↓D3.sub3.eq_1, ↓D3.ret3.eq_1, ↓D3.retN3.eq_1, ↓D3.nx3.eq_1, ↓D3.drop3.eq_1, ↓D3.par3.eq_1, ↓D3.aug3.eq_1, ↓D3.and3.eq_1, ↓D3.or3.eq_1, ↓D3.not3.eq_1, ↓D3.andV3.eq_1, ↓D3.orV3.eq_1, ↓D3.notV3.eq_1, ↓D3.if3.eq_1, ↓D3.nil3.eq_1, ↓D3.cons3.eq_1, ↓D3.tup3.eq_1, ↓D3.lst3.eq_1, ↓D3.lstM3.eq_1, ↓D3.gtup3.eq_1, ↓D3.gcons3.eq_1, ↓D3.gnil3.eq_1, ↓D3.gunl3.eq_1, ↓D3.bits3.eq_1, ↓D3.neg3.eq_1, ↓D3.chain3.eq_1, fIsi_int_int, fIsi_int_bool, fIsi_int_tuple, fIsi_int_str, fIsi_int_list, fIsi_bl_int, fIsi_bl_bool, fIsi_bl_tuple, fIsi_bl_str, fIsi_bl_list, fIsi_non_int, fIsi_non_bool, fIsi_non_tuple, fIsi_non_str, fIsi_non_list, fIsi_str_int, fIsi_str_bool, fIsi_str_tuple, fIsi_str_str, fIsi_str_list, fIsi_tup_int, fIsi_tup_bool, fIsi_tup_tuple, fIsi_tup_str, fIsi_tup_list, fIsi_lst_int, fIsi_lst_bool, fIsi_lst_tuple, fIsi_lst_str, fIsi_lst_list, fLen_lst, fLen_tup, fAbs, ↓D3.call3_k, ↓D3.kont_app, ↓D3.isN3.eq_1, ↓D3.notN3.eq_1, dIsN_non, dIsN_int, dIsN_bl, dIsN_str, dIsN_tup, dIsN_lst, ↓D3.slc3.eq_1, ↓D3.part3.eq_1, ↓D3.noPart3.eq_1, ↓D3.ilst3.eq_1, ↓D3.itup3.eq_1, ↓D3.irng1.eq_1, ↓D3.irng2.eq_1, ↓D3.for3.eq_1, fCat, fEq_int, fNe_int, fEq_bl, fNe_bl, fEq_pair, fNe_pair, List.map, List.replicate, List.length_cons, List.length_nil, List.set_cons_zero, List.set_cons_succ, List.getElem?_cons_zero, List.getElem?_cons_succ, List.cons_append, List.nil_append, at_0, at_1, at_2, at_3, at_4, at_5, at_6, ix_0, ix_1, ix_2, put_same, put_put, decide_eq_true_eq, Bool.not_eq_true', decide_eq_false_iff_not, ite_not, ite_true, ite_false, if_true, if_false, Bool.false_eq_true, ↓reduceIte, reduceIte, Nat.reduceAdd, Nat.reduceSub, Int.reduceToNat, Nat.reduceLeDiff, not_false_eq_true, true_and, and_true, ne_eq, Int.reduceEq, Nat.zero_add, Bool.not_true, Bool.not_false, reduceCtorEq, nc0, nc1, nc2, nc3, nc4, nc5, fIx_ref put_same, fLen_ref put_same, ↓D3.lc3.eq_1, fInt, fTuple, fList, fNeS_s, fEqS_s, ↓D3.gstar3.eq_1, fInK_s, fNinK_s, fLenS_s, ↓D3.slcT3.eq_1, fCatT_t, dnew3]
      exact q _ _ (.name hx) (o2.trans o3) (d3.le (by omega))
    · (refine laterP_in ?_; repeat ((first | with_reducible refine laterP_i ?_ | with_reducible refine later_i ?_); try simp -implicitDefEqProofs -dsimp only [↓D3.seq3_stop, ↓D3.ifS3.eq_1, ↓D3.b3.eq_1, ↓D3.op3.eq_1, ↓D3.un3.eq_1, ↓D3.v3.eq_1, ↓D3.c3.eq_1, fIx_tup, fIx_lst, at3_0, at3_1, at3_2, at3_3, at3_4, at3_5, at3_6, start3, fI0_i, fI_i, fLt, fLe, fGt, fGe, fEqI, fNeI, fMin, fMax, ↓D3.asg3.eq_1, ↓D3.name3.eq_1, ↓D3.sub3.eq_1, ↓D3.ret3.eq_1, ↓D3.retN3.eq_1, ↓D3.nx3.eq_1, ↓D3.drop3.eq_1, ↓D3.par3.eq_1, ↓D3.aug3.eq_1, ↓D3.and3.eq_1, ↓D3.or3.eq_1, ↓D3.not3.eq_1, ↓D3.andV3.eq_1, ↓D3.orV3.eq_1, ↓D3.notV3.eq_1, ↓D3.if3.eq_1, ↓D3.nil3.eq_1, ↓D3.cons3.eq_1, ↓D3.tup3.eq_1, ↓D3.lst3.eq_1, ↓D3.lstM3.eq_1, ↓D3.gtup3.eq_1, ↓D3.gcons3.eq_1, ↓D3.gnil3.eq_1, ↓D3.gunl3.eq_1, ↓D3.bits3.eq_1, ↓D3.neg3.eq_1, ↓D3.chain3.eq_1, fIsi_int_int, fIsi_int_bool, fIsi_int_tuple, fIsi_int_str, fIsi_int_list, fIsi_bl_int, fIsi_bl_bool, fIsi_bl_tuple, fIsi_bl_str, fIsi_bl_list, fIsi_non_int, fIsi_non_bool, fIsi_non_tuple, fIsi_non_str, fIsi_non_list, fIsi_str_int, fIsi_str_bool, fIsi_str_tuple, fIsi_str_str, fIsi_str_list, fIsi_tup_int, fIsi_tup_bool, fIsi_tup_tuple, fIsi_tup_str, fIsi_tup_list, fIsi_lst_int, fIsi_lst_bool, fIsi_lst_tuple, fIsi_lst_str, fIsi_lst_list, fLen_lst, fLen_tup, fAbs, ↓D3.call3_k, ↓D3.kont_app, ↓D3.isN3.eq_1, ↓D3.notN3.eq_1, dIsN_non, dIsN_int, dIsN_bl, dIsN_str, dIsN_tup, dIsN_lst, ↓D3.slc3.eq_1, ↓D3.part3.eq_1, ↓D3.noPart3.eq_1, ↓D3.ilst3.eq_1, ↓D3.itup3.eq_1, ↓D3.irng1.eq_1, ↓D3.irng2.eq_1, ↓D3.for3.eq_1, fCat, fEq_int, fNe_int, fEq_bl, fNe_bl, fEq_pair, fNe_pair, List.map, List.replicate, List.length_cons, List.length_nil, List.set_cons_zero, List.set_cons_succ, List.getElem?_cons_zero, List.getElem?_cons_succ, List.cons_append, List.nil_append, at_0, at_1, at_2, at_3, at_4, at_5, at_6, ix_0, ix_1, ix_2, put_same, put_put, decide_eq_true_eq, Bool.not_eq_true', decide_eq_false_iff_not, ite_not, ite_true, ite_false, if_true, if_false, Bool.false_eq_true, ↓reduceIte, reduceIte, Nat.reduceAdd, Nat.reduceSub, Int.reduceToNat, Nat.reduceLeDiff, not_false_eq_true, true_and, and_true, ne_eq, Int.reduceEq, Nat.zero_add, Bool.not_true, Bool.not_false, reduceCtorEq, nc0, nc1, nc2, nc3, nc4, nc5, fIx_ref put_same, fLen_ref put_same, ↓D3.lc3.eq_1, fInt, fTuple, fList, fNeS_s, fEqS_s, ↓D3.gstar3.eq_1, fInK_s, fNinK_s, fLenS_s, ↓D3.slcT3.eq_1, fCatT_t, dnew3]))
      refine sp_pick_i (n + 1) d2 (by decide) (by decide) fun r m3 r0 r1 o3 d3 => ?_
      (refine laterP_in ?_; repeat ((first | with_reducible refine laterP_i ?_ | with_reducible refine later_i ?_); try simp -implicitDefEqProofs -dsimp only [↓D3.seq3_stop, ↓D3.ifS3.eq_1, ↓D3.b3.eq_1, ↓D3.op3.eq_1, ↓D3.un3.eq_1, ↓D3.v3.eq_1, ↓D3.c3.eq_1, fIx_tup, fIx_lst, at3_0, at3_1, at3_2, at3_3, at3_4, at3_5, at3_6, start3, fI0_i, fI_i, fLt, fLe, fGt, fGe, fEqI, fNeI, fMin, fMax, ↓D3.asg3.eq_1, ↓D3.name3.eq_1, ↓D3.sub3.eq_1, ↓D3.ret3.eq_1, ↓D3.retN3.eq_1, ↓D3.nx3.eq_1, ↓D3.drop3.eq_1, ↓D3.par3.eq_1, ↓D3.aug3.eq_1, ↓D3.and3.eq_1, ↓D3.or3.eq_1, ↓D3.not3.eq_1, ↓D3.andV3.eq_1, ↓D3.orV3.eq_1, ↓D3.notV3.eq_1, ↓D3.if3.eq_1, ↓D3.nil3.eq_1, ↓D3.cons3.eq_1, ↓D3.tup3.eq_1, ↓D3.lst3.eq_1, ↓D3.lstM3.eq_1, ↓D3.gtup3.eq_1, ↓D3.gcons3.eq_1, ↓D3.gnil3.eq_1, ↓D3.gunl3.eq_1, ↓D3.bits3.eq_1, ↓D3.neg3.eq_1, ↓D3.chain3.eq_1, fIsi_int_int, fIsi_int_bool, fIsi_int_tuple, fIsi_int_str, fIsi_int_list, fIsi_bl_int, fIsi_bl_bool, fIsi_bl_tuple, fIsi_bl_str, fIsi_bl_list, fIsi_non_int, fIsi_non_bool, fIsi_non_tuple, fIsi_non_str, fIsi_non_list, fIsi_str_int, fIsi_str_bool, fIsi_str_tuple, fIsi_str_str, fIsi_str_list, fIsi_tup_int, fIsi_tup_bool, fIsi_tup_tuple, fIsi_tup_str, fIsi_tup_list, fIsi_lst_int, fIsi_lst_bool, fIsi_lst_tuple, fIsi_lst_str, fIsi_lst_list, fLen_lst, fLen_tup, fAbs, ↓D3.call3_k, ↓D3.kont_app, ↓D3.isN3.eq_1, ↓D3.notN3.eq_1, dIsN_non, dIsN_int, dIsN_bl, dIsN_str, dIsN_tup, dIsN_lst, ↓D3.slc3.eq_1, ↓D3.part3.eq_1, ↓D3.noPart3.eq_1, ↓D3.ilst3.eq_1, ↓D3.itup3.eq_1, ↓D3.irng1.eq_1, ↓D3.irng2.eq_1, ↓D3.for3.eq_1, fCat, fEq_int, fNe_int, fEq_bl, fNe_bl, fEq_pair, fNe_pair, List.map, List.replicate, List.length_cons, List.length_nil, List.set_cons_zero, List.set_cons_succ, List.getElem?_cons_zero, List.getElem?_cons_succ, List.cons_append, List.nil_append, at_0, at_1, at_2, at_3, at_4, at_5, at_6, ix_0, ix_1, ix_2, put_same, put_put, decide_eq_true_eq, Bool.not_eq_true', decide_eq_false_iff_not, ite_not, ite_true, ite_false, if_true, if_false, Bool.false_eq_true, ↓reduceIte, reduceIte, Nat.reduceAdd, Nat.reduceSub, Int.reduceToNat, Nat.reduceLeDiff, not_false_eq_true, true_and, and_true, ne_eq, Int.reduceEq, Nat.zero_add, Bool.not_true, Bool.not_false, reduceCtorEq, nc0, nc1, nc2, nc3, nc4, nc5, fIx_ref put_same, fLen_ref put_same, ↓D3.lc3.eq_1, fInt, fTuple, fList, fNeS_s, fEqS_s, ↓D3.gstar3.eq_1, fInK_s, fNinK_s, fLenS_s, ↓D3.slcT3.eq_1, fCatT_t, dnew3]))
      refine sp_pick_i n d3 (by decide) (by decide) fun r' m4 r0' r1' o4 d4 => ?_
      (refine laterP_in ?_; repeat ((first | with_reducible refine laterP_i ?_ | with_reducible refine later_i ?_); try simp -implicitDefEqProofs -dsimp only [↓D3.seq3_stop, ↓D3.ifS3.eq_1, ↓D3.b3.eq_1, ↓D3.op3.eq_1, ↓D3.un3.eq_1, ↓D3.v3.eq_1, ↓D3.c3.eq_1, fIx_tup, fIx_lst, at3_0, at3_1, at3_2, at3_3, at3_4, at3_5, at3_6, start3, fI0_i, fI_i, fLt, fLe, fGt, fGe, fEqI, fNeI, fMin, fMax, ↓D3.asg3.eq_1, ↓D3.name3.eq_1, ↓D3.sub3.eq_1, ↓D3.ret3.eq_1, ↓D3.retN3.eq_1, ↓D3.nx3.eq_1, ↓D3.drop3.eq_1, ↓D3.par3.eq_1, ↓D3.aug3.eq_1, ↓D3.and3.eq_1, ↓D3.or3.eq_1, ↓D3.not3.eq_1, ↓D3.andV3.eq_1, ↓D3.orV3.eq_1, ↓D3.notV3.eq_1, ↓D3.if3.eq_1, ↓D3.nil3.eq_1, ↓D3.cons3.eq_1, ↓D3.tup3.eq_1, ↓D3.lst3.eq_1, ↓D3.lstM3.eq_1, ↓D3.gtup3.eq_1, ↓D3.gcons3.eq_1, ↓D3.gnil3.eq_1, ↓D3.gunl3.eq_1, ↓D3.bits3.eq_1, ↓D3.neg3.eq_1, ↓D3.chain3.eq_1, fIsi_int_int, fIsi_int_bool, fIsi_int_tuple, fIsi_int_str, fIsi_int_list, fIsi_bl_int, fIsi_bl_bool, fIsi_bl_tuple, fIsi_bl_str, fIsi_bl_list, fIsi_non_int, fIsi_non_bool, fIsi_non_tuple, fIsi_non_str, fIsi_non_list, fIsi_str_int, fIsi_str_bool, fIsi_str_tuple, fIsi_str_str, fIsi_str_list, fIsi_tup_int, fIsi_tup_bool, fIsi_tup_tuple, fIsi_tup_str, fIsi_tup_list, fIsi_lst_int, fIsi_lst_bool, fIsi_lst_tuple, fIsi_lst_str, fIsi_lst_list, fLen_lst, fLen_tup, fAbs, ↓D3.call3_k, ↓D3.kont_app, ↓D3.isN3.eq_1, ↓D3.notN3.eq_1, dIsN_non, dIsN_int, dIsN_bl, dIsN_str, dIsN_tup, dIsN_lst, ↓D3.slc3.eq_1, ↓D3.part3.eq_1, ↓D3.noPart3.eq_1, ↓D3.ilst3.eq_1, ↓D3.itup3.eq_1, ↓D3.irng1.eq_1, ↓D3.irng2.eq_1, ↓D3.for3.eq_1, fCat, fEq_int, fNe_int, fEq_bl, fNe_bl, fEq_pair, fNe_pair, List.map, List.replicate, List.length_cons, List.length_nil, List.set_cons_zero, List.set_cons_succ, List.getElem?_cons_zero, List.getElem?_cons_succ, List.cons_append, List.nil_append, at_0, at_1, at_2, at_3, at_4, at_5, at_6, ix_0, ix_1, ix_2, put_same, put_put, decide_eq_true_eq, Bool.not_eq_true', decide_eq_false_iff_not, ite_not, ite_true, ite_false, if_true, if_false, Bool.false_eq_true, ↓reduceIte, reduceIte, Nat.reduceAdd, Nat.reduceSub, Int.reduceToNat, Nat.reduceLeDiff, not_false_eq_true, true_and, and_true, ne_eq, Int.reduceEq, Nat.zero_add, Bool.not_true, Bool.not_false, reduceCtorEq, nc0, nc1, nc2, nc3, nc4, nc5, fIx_ref put_same, fLen_ref put_same, ↓D3.lc3.eq_1, fInt, fTuple, fList, fNeS_s, fEqS_s, ↓D3.gstar3.eq_1, fInK_s, fNinK_s, fLenS_s, ↓D3.slcT3.eq_1, fCatT_t, dnew3]))
      refine at3_all r0' (by simpa using r1') fun d hd => ?_
      obtain ⟨b, rfl, b0, b1⟩ : ∃ b : Int, d = .int b ∧ 0 < b ∧ b ≤ 16 := by
        simp only [List.mem_cons, List.not_mem_nil, or_false] at hd
        rcases hd with rfl | rfl | rfl | rfl | rfl <;> exact ⟨_, rfl, by decide, by decide⟩
      (refine laterP_in ?_; repeat ((first | with_reducible refine laterP_i ?_ | with_reducible refine later_i ?_); try simp -implicitDefEqProofs -dsimp only [↓D3.seq3_stop, ↓D3.ifS3.eq_1, ↓D3.b3.eq_1, ↓D3.op3.eq_1, ↓D3.un3.eq_1, ↓D3.v3.eq_1, ↓D3.c3.eq_1, fIx_tup, fIx_lst, at3_0, at3_1, at3_2, at3_3, at3_4, at3_5, at3_6, start3, fI0_i, fI_i, fLt, fLe, fGt, fGe, fEqI, fNeI, fMin, fMax, ↓D3.asg3.eq_1, ↓D3.name3.eq_1, ↓D3.sub3.eq_1, ↓D3.ret3.eq_1, ↓D3.retN3.eq_1, ↓D3.nx3.eq_1, ↓D3.drop3.eq_1, ↓D3.par3.eq_1, ↓D3.aug3.eq_1, ↓D3.and3.eq_1, ↓D3.or3.eq_1, ↓D3.not3.eq_1, ↓D3.andV3.eq_1, ↓D3.orV3.eq_1, ↓D3.notV3.eq_1, ↓D3.if3.eq_1, ↓D3.nil3.eq_1, ↓D3.cons3.eq_1, ↓D3.tup3.eq_1, ↓D3.lst3.eq_1, ↓D3.lstM3.eq_1, ↓D3.gtup3.eq_1, ↓D3.gcons3.eq_1, ↓D3.gnil3.eq_1, ↓D3.gunl3.eq_1, ↓D3.bits3.eq_1, ↓D3.neg3.eq_1, ↓D3.chain3.eq_1, fIsi_int_int, fIsi_int_bool, fIsi_int_tuple, fIsi_int_str, fIsi_int_list, fIsi_bl_int, fIsi_bl_bool, fIsi_bl_tuple, fIsi_bl_str, fIsi_bl_list, fIsi_non_int, fIsi_non_bool, fIsi_non_tuple, fIsi_non_str, fIsi_non_list, fIsi_str_int, fIsi_str_bool, fIsi_str_tuple, fIsi_str_str, fIsi_str_list, fIsi_tup_int, fIsi_tup_bool, fIsi_tup_tuple, fIsi_tup_str, fIsi_tup_list, fIsi_lst_int, fIsi_lst_bool, fIsi_lst_tuple, fIsi_lst_str, fIsi_lst_list, fLen_lst, fLen_tup, fAbs, ↓D3.call3_k, ↓D3.kont_app, ↓D3.isN3.eq_1, ↓D3.notN3.eq_1, dIsN_non, dIsN_int, dIsN_bl, dIsN_str, dIsN_tup, dIsN_lst, ↓D3.slc3.eq_1, ↓D3.part3.eq_1, ↓D3.noPart3.eq_1, ↓D3.ilst3.eq_1, ↓D3.itup3.eq_1, ↓D3.irng1.eq_1, ↓D3.irng2.eq_1, ↓D3.for3.eq_1, fCat, fEq_int, fNe_int, fEq_bl, fNe_bl, fEq_pair, fNe_pair, List.map, List.replicate, List.length_cons, List.length_nil, List.set_cons_zero, List.set_cons_succ, List.getElem?_cons_zero, List.getElem?_cons_succ, List.cons_append, List.nil_append, at_0, at_1, at_2, at_3, at_4, at_5, at_6, ix_0, ix_1, ix_2, put_same, put_put, decide_eq_true_eq, Bool.not_eq_true', decide_eq_false_iff_not, ite_not, ite_true, ite_false, if_true, if_false, Bool.false_eq_true, ↓reduceIte, reduceIte, Nat.reduceAdd, Nat.reduceSub, Int.reduceToNat, Nat.reduceLeDiff, not_false_eq_true, true_and, and_true, ne_eq, Int.reduceEq, Nat.zero_add, Bool.not_true, Bool.not_false, reduceCtorEq, nc0, nc1, nc2, nc3, nc4, nc5, fIx_ref put_same, fLen_ref put_same, ↓D3.lc3.eq_1, fInt, fTuple, fList, fNeS_s, fEqS_s, ↓D3.gstar3.eq_1, fInK_s, fNinK_s, fLenS_s, ↓D3.slcT3.eq_1, fCatT_t, dnew3]))
      refine ⟨_, _, rfl, by omega, lt_pow (a := 10) (by omega) (by decide), lt_pow (a := 10) (by omega) (by decide), fun t u hu he hg l1 l2 => ?_⟩
      (refine laterP_in ?_; repeat ((first | with_reducible refine laterP_i ?_ | with_reducible refine later_i ?_); try simp -implicitDefEqProofs -dsimp only [↓D3.seq3_stop, ↓D3.ifS3.eq_1, ↓D3.b3.eq_1, ↓D3.op3.eq_1, ↓D3.un3.eq_1, ↓D3.v3.eq_1, ↓D3.c3.eq_1, fIx_tup, fIx_lst, at3_0, at3_1, at3_2, at3_3, at3_4, at3_5, at3_6, start3, fI0_i, fI_i, fLt, fLe, fGt, fGe, fEqI, fNeI, fMin, fMax, ↓D3.asg3.eq_1, ↓D3.name3.eq_1, ↓D3.sub3.eq_1, ↓D3.ret3.eq_1, ↓D3.retN3.eq_1, ↓D3.nx3.eq_1, ↓D3.drop3.eq_1, ↓D3.par3.eq_1, ↓D3.aug3.eq_1, ↓D3.and3.eq_1, ↓D3.or3.eq_1, ↓D3.not3.eq_1, ↓D3.andV3.eq_1, ↓D3.orV3.eq_1, ↓D3.notV3.eq_1, ↓D3.if3.eq_1, ↓D3.nil3.eq_1, ↓D3.cons3.eq_1, ↓D3.tup3.eq_1, ↓D3.lst3.eq_1, ↓D3.lstM3.eq_1, ↓D3.gtup3.eq_1, ↓D3.gcons3.eq_1, ↓D3.gnil3.eq_1, ↓D3.gunl3.eq_1, ↓D3.bits3.eq_1, ↓D3.neg3.eq_1, ↓D3.chain3.eq_1, fIsi_int_int, fIsi_int_bool, fIsi_int_tuple, fIsi_int_str, fIsi_int_list, fIsi_bl_int, fIsi_bl_bool, fIsi_bl_tuple, fIsi_bl_str, fIsi_bl_list, fIsi_non_int, fIsi_non_bool, fIsi_non_tuple, fIsi_non_str, fIsi_non_list, fIsi_str_int, fIsi_str_bool, fIsi_str_tuple, fIsi_str_str, fIsi_str_list, fIsi_tup_int, fIsi_tup_bool, fIsi_tup_tuple, fIsi_tup_str, fIsi_tup_list, fIsi_lst_int, fIsi_lst_bool, fIsi_lst_tuple, fIsi_lst_str, fIsi_lst_list, fLen_lst, fLen_tup, fAbs, ↓D3.call3_k, ↓D3.kont_app, ↓D3.isN3.eq_1, ↓D3.notN3.eq_1, dIsN_non, dIsN_int, dIsN_bl, dIsN_str, dIsN_tup, dIsN_lst, ↓D3.slc3.eq_1, ↓D3.part3.eq_1, ↓D3.noPart3.eq_1, ↓D3.ilst3.eq_1, ↓D3.itup3.eq_1, ↓D3.irng1.eq_1, ↓D3.irng2.eq_1, ↓D3.for3.eq_1, fCat, fEq_int, fNe_int, fEq_bl, fNe_bl, fEq_pair, fNe_pair, List.map, List.replicate, List.length_cons, List.length_nil, List.set_cons_zero, List.set_cons_succ, List.getElem?_cons_zero, List.getElem?_cons_succ, List.cons_append, List.nil_append, at_0, at_1, at_2, at_3, at_4, at_5, at_6, ix_0, ix_1, ix_2, put_same, put_put, decide_eq_true_eq, Bool.not_eq_true', decide_eq_false_iff_not, ite_not, ite_true, ite_false, if_true, if_false, Bool.false_eq_true, ↓reduceIte, reduceIte, Nat.reduceAdd, Nat.reduceSub, Int.reduceToNat, Nat.reduceLeDiff, not_false_eq_true, true_and, and_true, ne_eq, Int.reduceEq, Nat.zero_add, Bool.not_true, Bool.not_false, reduceCtorEq, nc0, nc1, nc2, nc3, nc4, nc5, fIx_ref put_same, fLen_ref put_same, ↓D3.lc3.eq_1, fInt, fTuple, fList, fNeS_s, fEqS_s, ↓D3.gstar3.eq_1, fInK_s, fNinK_s, fLenS_s, ↓D3.slcT3.eq_1, fCatT_t, dnew3]))
      have sf : SmFr t u := ⟨hu, hg, by omega, by omega⟩
      rw [sf.qd.1]
      exact q _ _ (.num sf.qd.2) ((o2.trans o3).trans o4) d4
  · obtain ⟨e, rfl⟩ : ∃ k, e = k + 1 := ⟨e - 1, by omega⟩
    have h4' : 4 ≤ pneed e := by unfold pneed; have : 1 ≤ 2 ^ e := Nat.one_le_two_pow; omega
    have et : pneed (e + 1) = 2 * pneed e + 2 := by unfold pneed; have : 1 ≤ 2 ^ e := Nat.one_le_two_pow; rw [Nat.pow_succ]; omega
    (refine laterP_in ?_; repeat ((first | with_reducible refine laterP_i ?_ | with_reducible refine later_i ?_); try simp -implicitDefEqProofs -dsimp only [↓D3.seq3_stop, ↓D3.ifS3.eq_1, ↓D3.b3.eq_1, ↓D3.op3.eq_1, ↓D3.un3.eq_1, ↓D3.v3.eq_1, ↓D3.c3.eq_1, fIx_tup, fIx_lst, at3_0, at3_1, at3_2, at3_3, at3_4, at3_5, at3_6, start3, fI0_i, fI_i, fLt, fLe, fGt, fGe, fEqI, fNeI, fMin, fMax, ↓D3.asg3.eq_1, ↓D3.name3.eq_1, ↓D3.sub3.eq_1, ↓D3.ret3.eq_1, ↓D3.retN3.eq_1, ↓D3.nx3.eq_1, ↓D3.drop3.eq_1, ↓D3.par3.eq_1, ↓D3.aug3.eq_1, ↓D3.and3.eq_1, ↓D3.or3.eq_1, ↓D3.not3.eq_1, ↓D3.andV3.eq_1, ↓D3.orV3.eq_1, ↓D3.notV3.eq_1, ↓D3.if3.eq_1, ↓D3.nil3.eq_1, ↓D3.cons3.eq_1, ↓D3.tup3.eq_1, ↓D3.lst3.eq_1, ↓D3.lstM3.eq_1, ↓D3.gtup3.eq_1, ↓D3.gcons3.eq_1, ↓D3.gnil3.eq_1, ↓D3.gunl3.eq_1, ↓D3.bits3.eq_1, ↓D3.neg3.eq_1, ↓D3.chain3.eq_1, fIsi_int_int, fIsi_int_bool, fIsi_int_tuple, fIsi_int_str, fIsi_int_list, fIsi_bl_int, fIsi_bl_bool, fIsi_bl_tuple, fIsi_bl_str, fIsi_bl_list, fIsi_non_int, fIsi_non_bool, fIsi_non_tuple, fIsi_non_str, fIsi_non_list, fIsi_str_int, fIsi_str_bool, fIsi_str_tuple, fIsi_str_str, fIsi_str_list, fIsi_tup_int, fIsi_tup_bool, fIsi_tup_tuple, fIsi_tup_str, fIsi_tup_list, fIsi_lst_int, fIsi_lst_bool, fIsi_lst_tuple, fIsi_lst_str, fIsi_lst_list, fLen_lst, fLen_tup, fAbs, ↓D3.call3_k, ↓D3.kont_app, ↓D3.isN3.eq_1, ↓D3.notN3.eq_1, dIsN_non, dIsN_int, dIsN_bl, dIsN_str, dIsN_tup, dIsN_lst, ↓D3.slc3.eq_1, ↓D3.part3.eq_1, ↓D3.noPart3.eq_1, ↓D3.ilst3.eq_1, ↓D3.itup3.eq_1, ↓D3.irng1.eq_1, ↓D3.irng2.eq_1, ↓D3.for3.eq_1, fCat, fEq_int, fNe_int, fEq_bl, fNe_bl, fEq_pair, fNe_pair, List.map, List.replicate, List.length_cons, List.length_nil, List.set_cons_zero, List.set_cons_succ, List.getElem?_cons_zero, List.getElem?_cons_succ, List.cons_append, List.nil_append, at_0, at_1, at_2, at_3, at_4, at_5, at_6, ix_0, ix_1, ix_2, put_same, put_put, decide_eq_true_eq, Bool.not_eq_true', decide_eq_false_iff_not, ite_not, ite_true, ite_false, if_true, if_false, Bool.false_eq_true, ↓reduceIte, reduceIte, Nat.reduceAdd, Nat.reduceSub, Int.reduceToNat, Nat.reduceLeDiff, not_false_eq_true, true_and, and_true, ne_eq, Int.reduceEq, Nat.zero_add, Bool.not_true, Bool.not_false, reduceCtorEq, nc0, nc1, nc2, nc3, nc4, nc5, fIx_ref put_same, fLen_ref put_same, ↓D3.lc3.eq_1, fInt, fTuple, fList, fNeS_s, fEqS_s, ↓D3.gstar3.eq_1, fInK_s, fNinK_s, fLenS_s, ↓D3.slcT3.eq_1, fCatT_t, dnew3]))
    refine ⟨a, n + (pneed e + 1), ns, by rw [show ((e + 1 + 1 : Nat) : Int) - 1 = ((e + 1 : Nat) : Int) by omega], hn, hl, d1.le (by omega), fun one m2 w2 o2 d2 => ?_⟩
    (refine laterP_in ?_; repeat ((first | with_reducible refine laterP_i ?_ | with_reducible refine later_i ?_); try simp -implicitDefEqProofs -dsimp only [↓D3.seq3_stop, ↓D3.ifS3.eq_1, ↓D3.b3.eq_1, ↓D3.op3.eq_1, ↓D3.un3.eq_1, ↓D3.v3.eq_1, ↓D3.c3.eq_1, fIx_tup, fIx_lst, at3_0, at3_1, at3_2, at3_3, at3_4, at3_5, at3_6, start3, fI0_i, fI_i, fLt, fLe, fGt, fGe, fEqI, fNeI, fMin, fMax, ↓D3.asg3.eq_1, ↓D3.name3.eq_1, ↓D3.sub3.eq_1, ↓D3.ret3.eq_1, ↓D3.retN3.eq_1, ↓D3.nx3.eq_1, ↓D3.drop3.eq_1, ↓D3.par3.eq_1, ↓D3.aug3.eq_1, ↓D3.and3.eq_1, ↓D3.or3.eq_1, ↓D3.not3.eq_1, ↓D3.andV3.eq_1, ↓D3.orV3.eq_1, ↓D3.notV3.eq_1, ↓D3.if3.eq_1, ↓D3.nil3.eq_1, ↓D3.cons3.eq_1, ↓D3.tup3.eq_1, ↓D3.lst3.eq_1, ↓D3.lstM3.eq_1, ↓D3.gtup3.eq_1, ↓D3.gcons3.eq_1, ↓D3.gnil3.eq_1, ↓D3.gunl3.eq_1, ↓D3.bits3.eq_1, ↓D3.neg3.eq_1, ↓D3.chain3.eq_1, fIsi_int_int, fIsi_int_bool, fIsi_int_tuple, fIsi_int_str, fIsi_int_list, fIsi_bl_int, fIsi_bl_bool, fIsi_bl_tuple, fIsi_bl_str, fIsi_bl_list, fIsi_non_int, fIsi_non_bool, fIsi_non_tuple, fIsi_non_str, fIsi_non_list, fIsi_str_int, fIsi_str_bool, fIsi_str_tuple, fIsi_str_str, fIsi_str_list, fIsi_tup_int, fIsi_tup_bool, fIsi_tup_tuple, fIsi_tup_str, fIsi_tup_list, fIsi_lst_int, fIsi_lst_bool, fIsi_lst_tuple, fIsi_lst_str, fIsi_lst_list, fLen_lst, fLen_tup, fAbs, ↓D3.call3_k, ↓D3.kont_app, ↓D3.isN3.eq_1, ↓D3.notN3.eq_1, dIsN_non, dIsN_int, dIsN_bl, dIsN_str, dIsN_tup, dIsN_lst, ↓D3.slc3.eq_1, ↓D3.part3.eq_1, ↓D3.noPart3.eq_1, ↓D3.ilst3.eq_1, ↓D3.itup3.eq_1, ↓D3.irng1.eq_1, ↓D3.irng2.eq_1, ↓D3.for3.eq_1, fCat, fEq_int, fNe_int, fEq_bl, fNe_bl, fEq_pair, fNe_pair, List.map, List.replicate, List.length_cons, List.length_nil, List.set_cons_zero, List.set_cons_succ, List.getElem?_cons_zero, List.getElem?_cons_succ, List.cons_append, List.nil_append, at_0, at_1, at_2, at_3, at_4, at_5, at_6, ix_0, ix_1, ix_2, put_same, put_put, decide_eq_true_eq, Bool.not_eq_true', decide_eq_false_iff_not, ite_not, ite_true, ite_false, if_true, if_false, Bool.false_eq_true, ↓reduceIte, reduceIte, Nat.reduceAdd, Nat.reduceSub, Int.reduceToNat, Nat.reduceLeDiff, not_false_eq_true, true_and, and_true, ne_eq, Int.reduceEq, Nat.zero_add, Bool.not_true, Bool.not_false, reduceCtorEq, nc0, nc1, nc2, nc3, nc4, nc5, fIx_ref put_same, fLen_ref put_same, ↓D3.lc3.eq_1, fInt, fTuple, fList, fNeS_s, fEqS_s, ↓D3.gstar3.eq_1, fInK_s, fNinK_s, fLenS_s, ↓D3.slcT3.eq_1, fCatT_t, dnew3]))
    refine sp_pick_i (n + pneed e) d2 (by decide) (by decide) fun way m3 r0 r1 o3 d3 => ?_
    (refine laterP_in ?_; repeat ((first | with_reducible refine laterP_i ?_ | with_reducible refine later_i ?_); try simp -implicitDefEqProofs -dsimp only [↓D3.seq3_stop, ↓D3.ifS3.eq_1, ↓D3.b3.eq_1, ↓D3.op3.eq_1, ↓D3.un3.eq_1, ↓D3.v3.eq_1, ↓D3.c3.eq_1, fIx_tup, fIx_lst, at3_0, at3_1, at3_2, at3_3, at3_4, at3_5, at3_6, start3, fI0_i, fI_i, fLt, fLe, fGt, fGe, fEqI, fNeI, fMin, fMax, ↓D3.asg3.eq_1, ↓D3.name3.eq_1, ↓D3.sub3.eq_1, ↓D3.ret3.eq_1, ↓D3.retN3.eq_1, ↓D3.nx3.eq_1, ↓D3.drop3.eq_1, ↓D3.par3.eq_1, ↓D3.aug3.eq_1, ↓D3.and3.eq_1, ↓D3.or3.eq_1, ↓D3.not3.eq_1, ↓D3.andV3.eq_1, ↓D3.orV3.eq_1, ↓D3.notV3.eq_1, ↓D3.if3.eq_1, ↓D3.nil3.eq_1, ↓D3.cons3.eq_1, ↓D3.tup3.eq_1, ↓D3.lst3.eq_1, ↓D3.lstM3.eq_1, ↓D3.gtup3.eq_1, ↓D3.gcons3.eq_1, ↓D3.gnil3.eq_1, ↓D3.gunl3.eq_1, ↓D3.bits3.eq_1, ↓D3.neg3.eq_1, ↓D3.chain3.eq_1, fIsi_int_int, fIsi_int_bool, fIsi_int_tuple, fIsi_int_str, fIsi_int_list, fIsi_bl_int, fIsi_bl_bool, fIsi_bl_tuple, fIsi_bl_str, fIsi_bl_list, fIsi_non_int, fIsi_non_bool, fIsi_non_tuple, fIsi_non_str, fIsi_non_list, fIsi_str_int, fIsi_str_bool, fIsi_str_tuple, fIsi_str_str, fIsi_str_list, fIsi_tup_int, fIsi_tup_bool, fIsi_tup_tuple, fIsi_tup_str, fIsi_tup_list, fIsi_lst_int, fIsi_lst_bool, fIsi_lst_tuple, fIsi_lst_str, fIsi_lst_list, fLen_lst, fLen_tup, fAbs, ↓D3.call3_k, ↓D3.kont_app, ↓D3.isN3.eq_1, ↓D3.notN3.eq_1, dIsN_non, dIsN_int, dIsN_bl, dIsN_str, dIsN_tup, dIsN_lst, ↓D3.slc3.eq_1, ↓D3.part3.eq_1, ↓D3.noPart3.eq_1, ↓D3.ilst3.eq_1, ↓D3.itup3.eq_1, ↓D3.irng1.eq_1, ↓D3.irng2.eq_1, ↓D3.for3.eq_1, fCat, fEq_int, fNe_int, fEq_bl, fNe_bl, fEq_pair, fNe_pair, List.map, List.replicate, List.length_cons, List.length_nil, List.set_cons_zero, List.set_cons_succ, List.getElem?_cons_zero, List.getElem?_cons_succ, List.cons_append, List.nil_append, at_0, at_1, at_2, at_3, at_4, at_5, at_6, ix_0, ix_1, ix_2, put_same, put_put, decide_eq_true_eq, Bool.not_eq_true', decide_eq_false_iff_not, ite_not, ite_true, ite_false, if_true, if_false, Bool.false_eq_true, ↓reduceIte, reduceIte, Nat.reduceAdd, Nat.reduceSub, Int.reduceToNat, Nat.reduceLeDiff, not_false_eq_true, true_and, and_true, ne_eq, Int.reduceEq, Nat.zero_add, Bool.not_true, Bool.not_false, reduceCtorEq, nc0, nc1, nc2, nc3, nc4, nc5, fIx_ref put_same, fLen_ref put_same, ↓D3.lc3.eq_1, fInt, fTuple, fList, fNeS_s, fEqS_s, ↓D3.gstar3.eq_1, fInK_s, fNinK_s, fLenS_s, ↓D3.slcT3.eq_1, fCatT_t, dnew3]))
    refine ite2 (fun h => ?_) (fun h => ?_)
    · (refine laterP_in ?_; repeat ((first | with_reducible refine laterP_i ?_ | with_reducible refine later_i ?_); try simp -implicitDefEqProofs -dsimp only [↓D3.seq3_stop, ↓D3.ifS3.eq_1, ↓D3.b3.eq_1, ↓D3.op3.eq_1, ↓D3.un3.eq_1, ↓D3.v3.eq_1, ↓D3.c3.eq_1, fIx_tup, fIx_lst, at3_0, at3_1, at3_2, at3_3, at3_4, at3_5, at3_6, start3, fI0_i, fI_i, fLt, fLe, fGt, fGe, fEqI, fNeI, fMin, fMax, ↓D3.asg3.eq_1, ↓D3.name3.eq_1, ↓D3.sub3.eq_1, ↓D3.ret3.eq_1, ↓D3.retN3.eq_1, ↓D3.nx3.eq_1, ↓D3.drop3.eq_1, ↓D3.par3.eq_1, ↓D3.aug3.eq_1, ↓D3.and3.eq_1, ↓D3.or3.eq_1, ↓D3.not3.eq_1, ↓D3.andV3.eq_1, ↓D3.orV3.eq_1, ↓D3.notV3.eq_1, ↓D3.if3.eq_1, ↓D3.nil3.eq_1, ↓D3.cons3.eq_1, ↓D3.tup3.eq_1, ↓D3.lst3.eq_1, ↓D3.lstM3.eq_1, ↓D3.gtup3.eq_1, ↓D3.gcons3.eq_1, ↓D3.gnil3.eq_1, ↓D3.gunl3.eq_1, ↓D3.bits3.eq_1, ↓D3.neg3.eq_1, ↓D3.chain3.eq_1, fIsi_int_int, fIsi_int_bool, fIsi_int_tuple, fIsi_int_str, fIsi_int_list, fIsi_bl_int, fIsi_bl_bool, fIsi_bl_tuple, fIsi_bl_str, fIsi_bl_list, fIsi_non_int, fIsi_non_bool, fIsi_non_tuple, fIsi_non_str, fIsi_non_list, fIsi_str_int, fIsi_str_bool, fIsi_str_tuple, fIsi_str_str, fIsi_str_list, fIsi_tup_int, fIsi_tup_bool, fIsi_tup_tuple, fIsi_tup_str, fIsi_tup_list, fIsi_lst_int, fIsi_lst_bool, fIsi_lst_tuple, fIsi_lst_str, fIsi_lst_list, fLen_lst, fLen_tup, fAbs, ↓D3.call3_k, ↓D3.kont_app, ↓D3.isN3.eq_1, ↓D3.notN3.eq_1, dIsN_non, dIsN_int, dIsN_bl, dIsN_str, dIsN_tup, dIsN_lst, ↓D3.slc3.eq_1, ↓D3.part3.eq_1, ↓D3.noPart3.eq_1, ↓D3.ilst3.eq_1, ↓D3.itup3.eq_1, ↓D3.irng1.eq_1, ↓D3.irng2.eq_1, ↓D3.for3.eq_1, fCat, fEq_int, fNe_int, fEq_bl, fNe_bl, fEq_pair, fNe_pair, List.map, List.replicate, List.length_cons, List.length_nil, List.set_cons_zero, List.set_cons_succ, List.getElem?_cons_zero, List.getElem?_cons_succ, List.cons_append, List.nil_append, at_0, at_1, at_2, at_3, at_4, at_5, at_6, ix_0, ix_1, ix_2, put_same, put_put, decide_eq_true_eq, Bool.not_eq_true', decide_eq_false_iff_not, ite_not, ite_true, ite_false, if_true, if_false, Bool.false_eq_true, ↓reduceIte, reduceIte, Nat.reduceAdd, Nat.reduceSub, Int.reduceToNat, Nat.reduceLeDiff, not_false_eq_true, true_and, and_true, ne_eq, Int.reduceEq, Nat.zero_add, Bool.not_true, Bool.not_false, reduceCtorEq, nc0, nc1, nc2, nc3, nc4, nc5, fIx_ref put_same, fLen_ref put_same, ↓D3.lc3.eq_1, fInt, fTuple, fList, fNeS_s, fEqS_s, ↓D3.gstar3.eq_1, fInK_s, fNinK_s, fLenS_s, ↓D3.slcT3.eq_1, fCatT_t, dnew3]))
      exact q _ _ (.size w2) ((o1.trans o2).trans o3) (d3.le (by omega))
    (refine laterP_in ?_; repeat ((first | with_reducible refine laterP_i ?_ | with_reducible refine later_i ?_); try simp -implicitDefEqProofs -dsimp only [↓D3.seq3_stop, ↓D3.ifS3.eq_1, ↓D3.b3.eq_1, ↓D3.op3.eq_1, ↓D3.un3.eq_1, ↓D3.v3.eq_1, ↓D3.c3.eq_1, fIx_tup, fIx_lst, at3_0, at3_1, at3_2, at3_3, at3_4, at3_5, at3_6, start3, fI0_i, fI_i, fLt, fLe, fGt, fGe, fEqI, fNeI, fMin, fMax, ↓D3.asg3.eq_1, ↓D3.name3.eq_1, ↓D3.sub3.eq_1, ↓D3.ret3.eq_1, ↓D3.retN3.eq_1, ↓D3.nx3.eq_1, ↓D3.drop3.eq_1, ↓D3.par3.eq_1, ↓D3.aug3.eq_1, ↓D3.and3.eq_1, ↓D3.or3.eq_1, ↓D3.not3.eq_1, ↓D3.andV3.eq_1, ↓D3.orV3.eq_1, ↓D3.notV3.eq_1, ↓D3.if3.eq_1, ↓D3.nil3.eq_1, ↓D3.cons3.eq_1, ↓D3.tup3.eq_1, ↓D3.lst3.eq_1, ↓D3.lstM3.eq_1, ↓D3.gtup3.eq_1, ↓D3.gcons3.eq_1, ↓D3.gnil3.eq_1, ↓D3.gunl3.eq_1, ↓D3.bits3.eq_1, ↓D3.neg3.eq_1, ↓D3.chain3.eq_1, fIsi_int_int, fIsi_int_bool, fIsi_int_tuple, fIsi_int_str, fIsi_int_list, fIsi_bl_int, fIsi_bl_bool, fIsi_bl_tuple, fIsi_bl_str, fIsi_bl_list, fIsi_non_int, fIsi_non_bool, fIsi_non_tuple, fIsi_non_str, fIsi_non_list, fIsi_str_int, fIsi_str_bool, fIsi_str_tuple, fIsi_str_str, fIsi_str_list, fIsi_tup_int, fIsi_tup_bool, fIsi_tup_tuple, fIsi_tup_str, fIsi_tup_list, fIsi_lst_int, fIsi_lst_bool, fIsi_lst_tuple, fIsi_lst_str, fIsi_lst_list, fLen_lst, fLen_tup, fAbs, ↓D3.call3_k, ↓D3.kont_app, ↓D3.isN3.eq_1, ↓D3.notN3.eq_1, dIsN_non, dIsN_int, dIsN_bl, dIsN_str, dIsN_tup, dIsN_lst, ↓D3.slc3.eq_1, ↓D3.part3.eq_1, ↓D3.noPart3.eq_1, ↓D3.ilst3.eq_1, ↓D3.itup3.eq_1, ↓D3.irng1.eq_1, ↓D3.irng2.eq_1, ↓D3.for3.eq_1, fCat, fEq_int, fNe_int, fEq_bl, fNe_bl, fEq_pair, fNe_pair, List.map, List.replicate, List.length_cons, List.length_nil, List.set_cons_zero, List.set_cons_succ, List.getElem?_cons_zero, List.getElem?_cons_succ, List.cons_append, List.nil_append, at_0, at_1, at_2, at_3, at_4, at_5, at_6, ix_0, ix_1, ix_2, put_same, put_put, decide_eq_true_eq, Bool.not_eq_true', decide_eq_false_iff_not, ite_not, ite_true, ite_false, if_true, if_false, Bool.false_eq_true, ↓reduceIte, reduceIte, Nat.reduceAdd, Nat.reduceSub, Int.reduceToNat, Nat.reduceLeDiff, not_false_eq_true, true_and, and_true, ne_eq, Int.reduceEq, Nat.zero_add, Bool.not_true, Bool.not_false, reduceCtorEq, nc0, nc1, nc2, nc3, nc4, nc5, fIx_ref put_same, fLen_ref put_same, ↓D3.lc3.eq_1, fInt, fTuple, fList, fNeS_s, fEqS_s, ↓D3.gstar3.eq_1, fInK_s, fNinK_s, fLenS_s, ↓D3.slcT3.eq_1, fCatT_t, dnew3]))
    refine at3_all r0 (by simp only [List.length_cons, List.length_nil]; omega) fun k hk => ?_
    obtain ⟨k, rfl, hk2⟩ : ∃ k', k = .str k' ∧ k' ∈ K2 := by
      simp only [List.mem_cons, List.not_mem_nil, or_false] at hk
      rcases hk with rfl | rfl | rfl | rfl | rfl | rfl | rfl <;> exact ⟨_, rfl, by simp [K2]⟩
    (refine laterP_in ?_; repeat ((first | with_reducible refine laterP_i ?_ | with_reducible refine later_i ?_); try simp -implicitDefEqProofs -dsimp only [↓D3.seq3_stop, ↓D3.ifS3.eq_1, ↓D3.b3.eq_1, ↓D3.op3.eq_1, ↓D3.un3.eq_1, ↓D3.v3.eq_1, ↓D3.c3.eq_1, fIx_tup, fIx_lst, at3_0, at3_1, at3_2, at3_3, at3_4, at3_5, at3_6, start3, fI0_i, fI_i, fLt, fLe, fGt, fGe, fEqI, fNeI, fMin, fMax, ↓D3.asg3.eq_1, ↓D3.name3.eq_1, ↓D3.sub3.eq_1, ↓D3.ret3.eq_1, ↓D3.retN3.eq_1, ↓D3.nx3.eq_1, ↓D3.drop3.eq_1, ↓D3.par3.eq_1, ↓D3.aug3.eq_1, ↓D3.and3.eq_1, ↓D3.or3.eq_1, ↓D3.not3.eq_1, ↓D3.andV3.eq_1, ↓D3.orV3.eq_1, ↓D3.notV3.eq_1, ↓D3.if3.eq_1, ↓D3.nil3.eq_1, ↓D3.cons3.eq_1, ↓D3.tup3.eq_1, ↓D3.lst3.eq_1, ↓D3.lstM3.eq_1, ↓D3.gtup3.eq_1, ↓D3.gcons3.eq_1, ↓D3.gnil3.eq_1, ↓D3.gunl3.eq_1, ↓D3.bits3.eq_1, ↓D3.neg3.eq_1, ↓D3.chain3.eq_1, fIsi_int_int, fIsi_int_bool, fIsi_int_tuple, fIsi_int_str, fIsi_int_list, fIsi_bl_int, fIsi_bl_bool, fIsi_bl_tuple, fIsi_bl_str, fIsi_bl_list, fIsi_non_int, fIsi_non_bool, fIsi_non_tuple, fIsi_non_str, fIsi_non_list, fIsi_str_int, fIsi_str_bool, fIsi_str_tuple, fIsi_str_str, fIsi_str_list, fIsi_tup_int, fIsi_tup_bool, fIsi_tup_tuple, fIsi_tup_str, fIsi_tup_list, fIsi_lst_int, fIsi_lst_bool, fIsi_lst_tuple, fIsi_lst_str, fIsi_lst_list, fLen_lst, fLen_tup, fAbs, ↓D3.call3_k, ↓D3.kont_app, ↓D3.isN3.eq_1, ↓D3.notN3.eq_1, dIsN_non, dIsN_int, dIsN_bl, dIsN_str, dIsN_tup, dIsN_lst, ↓D3.slc3.eq_1, ↓D3.part3.eq_1, ↓D3.noPart3.eq_1, ↓D3.ilst3.eq_1, ↓D3.itup3.eq_1, ↓D3.irng1.eq_1, ↓D3.irng2.eq_1, ↓D3.for3.eq_1, fCat, fEq_int, fNe_int, fEq_bl, fNe_bl, fEq_pair, fNe_pair, List.map, List.replicate, List.length_cons, List.length_nil, List.set_cons_zero, List.set_cons_succ, List.getElem?_cons_zero, List.getElem?_cons_succ, List.cons_append, List.nil_append, at_0, at_1, at_2, at_3, at_4, at_5, at_6, ix_0, ix_1, ix_2, put_same, put_put, decide_eq_true_eq, Bool.not_eq_true', decide_eq_false_iff_not, ite_not, ite_true, ite_false, if_true, if_false, Bool.false_eq_true, ↓reduceIte, reduceIte, Nat.reduceAdd, Nat.reduceSub, Int.reduceToNat, Nat.reduceLeDiff, not_false_eq_true, true_and, and_true, ne_eq, Int.reduceEq, Nat.zero_add, Bool.not_true, Bool.not_false, reduceCtorEq, nc0, nc1, nc2, nc3, nc4, nc5, fIx_ref put_same, fLen_ref put_same, ↓D3.lc3.eq_1, fInt, fTuple, fList, fNeS_s, fEqS_s, ↓D3.gstar3.eq_1, fInK_s, fNinK_s, fLenS_s, ↓D3.slcT3.eq_1, fCatT_t, dnew3]))
    refine ⟨a, n, ns, by rw [show ((e + 1 + 1 : Nat) : Int) - 1 = ((e + 1 : Nat) : Int) by omega], hn, hl, d3, fun two m4 w4 o4 d4 => ?_⟩
    (refine laterP_in ?_; repeat ((first | with_reducible refine laterP_i ?_ | with_reducible refine later_i ?_); try simp -implicitDefEqProofs -dsimp only [↓D3.seq3_stop, ↓D3.ifS3.eq_1, ↓D3.b3.eq_1, ↓D3.op3.eq_1, ↓D3.un3.eq_1, ↓D3.v3.eq_1, ↓D3.c3.eq_1, fIx_tup, fIx_lst, at3_0, at3_1, at3_2, at3_3, at3_4, at3_5, at3_6, start3, fI0_i, fI_i, fLt, fLe, fGt, fGe, fEqI, fNeI, fMin, fMax, ↓D3.asg3.eq_1, ↓D3.name3.eq_1, ↓D3.sub3.eq_1, ↓D3.ret3.eq_1, ↓D3.retN3.eq_1, ↓D3.nx3.eq_1, ↓D3.drop3.eq_1, ↓D3.par3.eq_1, ↓D3.aug3.eq_1, ↓D3.and3.eq_1, ↓D3.or3.eq_1, ↓D3.not3.eq_1, ↓D3.andV3.eq_1, ↓D3.orV3.eq_1, ↓D3.notV3.eq_1, ↓D3.if3.eq_1, ↓D3.nil3.eq_1, ↓D3.cons3.eq_1, ↓D3.tup3.eq_1, ↓D3.lst3.eq_1, ↓D3.lstM3.eq_1, ↓D3.gtup3.eq_1, ↓D3.gcons3.eq_1, ↓D3.gnil3.eq_1, ↓D3.gunl3.eq_1, ↓D3.bits3.eq_1, ↓D3.neg3.eq_1, ↓D3.chain3.eq_1, fIsi_int_int, fIsi_int_bool, fIsi_int_tuple, fIsi_int_str, fIsi_int_list, fIsi_bl_int, fIsi_bl_bool, fIsi_bl_tuple, fIsi_bl_str, fIsi_bl_list, fIsi_non_int, fIsi_non_bool, fIsi_non_tuple, fIsi_non_str, fIsi_non_list, fIsi_str_int, fIsi_str_bool, fIsi_str_tuple, fIsi_str_str, fIsi_str_list, fIsi_tup_int, fIsi_tup_bool, fIsi_tup_tuple, fIsi_tup_str, fIsi_tup_list, fIsi_lst_int, fIsi_lst_bool, fIsi_lst_tuple, fIsi_lst_str, fIsi_lst_list, fLen_lst, fLen_tup, fAbs, ↓D3.call3_k, ↓D3.kont_app, ↓D3.isN3.eq_1, ↓D3.notN3.eq_1, dIsN_non, dIsN_int, dIsN_bl, dIsN_str, dIsN_tup, dIsN_lst, ↓D3.slc3.eq_1, ↓D3.part3.eq_1, ↓D3.noPart3.eq_1, ↓D3.ilst3.eq_1, ↓D3.itup3.eq_1, ↓D3.irng1.eq_1, ↓D3.irng2.eq_1, ↓D3.for3.eq_1, fCat, fEq_int, fNe_int, fEq_bl, fNe_bl, fEq_pair, fNe_pair, List.map, List.replicate, List.length_cons, List.length_nil, List.set_cons_zero, List.set_cons_succ, List.getElem?_cons_zero, List.getElem?_cons_succ, List.cons_append, List.nil_append, at_0, at_1, at_2, at_3, at_4, at_5, at_6, ix_0, ix_1, ix_2, put_same, put_put, decide_eq_true_eq, Bool.not_eq_true', decide_eq_false_iff_not, ite_not, ite_true, ite_false, if_true, if_false, Bool.false_eq_true, ↓reduceIte, reduceIte, Nat.reduceAdd, Nat.reduceSub, Int.reduceToNat, Nat.reduceLeDiff, not_false_eq_true, true_and, and_true, ne_eq, Int.reduceEq, Nat.zero_add, Bool.not_true, Bool.not_false, reduceCtorEq, nc0, nc1, nc2, nc3, nc4, nc5, fIx_ref put_same, fLen_ref put_same, ↓D3.lc3.eq_1, fInt, fTuple, fList, fNeS_s, fEqS_s, ↓D3.gstar3.eq_1, fInK_s, fNinK_s, fLenS_s, ↓D3.slcT3.eq_1, fCatT_t, dnew3]))
    exact q _ _ (.two hk2 w2 w4) (((o1.trans o2).trans o3).trans o4) d4
theorem ok_plainN (T : Tx w K mg fa fd) : ∀ e : Nat, Fn3 P w K mg base (e + 2) (fa 14) (fd 14) ["deck", "deep", "names"] (sp_plainN e)
  | 0 => fn_never
  | e + 1 => ok_plainS T e (ok_plainN T e)
def sp_plain : Sp3 := fun ds m P => ∃ (a : Addr) (n : Nat) (ns : List Str) (e : Nat), ds = [.ref a, .int ((e + 1 : Nat) : Int), .lst (ns.map D.str)] ∧ e ≤ 4 ∧ Nms ns ∧ ns.length ≤ 10 ∧ DeckAt m a (n + 100) ∧ ∀ d m', Wp ns (e + 1) d → Off a m m' → DeckAt m' a n → P d m'
theorem ok_law_plain (T : Tx w K mg fa fd) : Fn3 P w K mg base 7 (fa 14) (fd 14) ["deck", "deep", "names"] sp_plain :=
  fn_ex (k := fun e => e + 1 + 2) (fun e => ok_plainN T (e + 1)) _ fun ds m Q h => by
    obtain ⟨a, n, ns, e, rfl, he, hn, hl, hd, q⟩ := h
    refine ⟨e, by omega, a, n, ns, rfl, hn, hl, hd.le ?_, q⟩
    have : 2 ^ e ≤ 2 ^ 4 := Nat.pow_le_pow_right (by decide) he
    unfold pneed
    omega
def sp_lvN : Nat → Sp3
  | 0 => fun _ _ _ => False
  | e + 1 => fun ds m P => ∃ (d x : D) (v : Option Rat), ds = [d, x] ∧ Wp [] (e + 1) d ∧ Gv (e + 1) d v ∧ e ≤ 8 ∧ P (oQ v) m
theorem ok_lvS (T : Tx w K mg fa fd) (e : Nat) (ih : Fn3 P w K mg base (e + 2) (fa 15) (fd 15) ["term", "values"] (sp_lvN e)) : Fn3 P w K mg base (e + 2 + 1) (fa 15) (fd 15) ["term", "values"] (sp_lvN (e + 1)) := by
  refine fn3 T.d_law_value.F sc_law_value (fun ds m Q h => by obtain ⟨_, _, _, rfl, _⟩ := h; rfl) fun cdv A outer s H E ds m Q hr h => ?_
  obtain ⟨d, x, v, rfl, hw, hv, he, q⟩ := h
  refine ⟨_, (ss_cons (s_set (i := 2) sc_law_value.nd (e_ix (e_v 0) e_int))
      (ss_cons (s_if (t_eqS (e_v 2) e_str) (ss_one (s_ret (e_ix (e_v 0) e_int))) ss_nil)
      (ss_cons (s_if (t_eqS (e_v 2) e_str) (ss_one s_never) ss_nil)
      (ss_cons (s_set (i := 3) sc_law_value.nd (e_call T.d_law_value ih (hr.mono (by omega)) rfl (a_cons (e_ix (e_v 0) e_int) (a_cons (e_v 1) a_nil))))
      (ss_cons (s_if (t_w (t_or (t_isN (e_v 3)) (t_or1 (t_eqS (e_v 2) e_str)))) (ss_one (s_ret (e_if (t_isN (e_v 3)) e_non (e_tup (a_cons (e_abs rfl T.b_abs (e_ix (e_v 3) e_int)) (a_cons (e_ix (e_v 3) e_int) a_nil)))))) ss_nil)
      (ss_cons (s_set (i := 4) sc_law_value.nd (e_call T.d_law_value ih (hr.mono (by omega)) rfl (a_cons (e_ix (e_v 0) e_int) (a_cons (e_v 1) a_nil))))
      (ss_cons (s_if (t_w (t_or (t_isN (e_v 4)) (t_or1 (t_w (t_and (t_eqS (e_v 2) e_str) (t_and1 (t_eqI (e_ix (e_v 4) e_int) e_int))))))) (ss_one (s_ret e_non)) ss_nil)
      (ss_cons (s_if (t_eqS (e_v 2) e_str) (ss_one (s_ret (e_call T.d_law_fraction (ok_law_fraction T) (hr.mono (by omega)) rfl (a_cons (e_add (e_mul (e_ix (e_v 3) e_int) (e_ix (e_v 4) e_int)) (e_mul (e_ix (e_v 4) e_int) (e_ix (e_v 3) e_int))) (a_cons (e_mul (e_ix (e_v 3) e_int) (e_ix (e_v 4) e_int)) a_nil))))) ss_nil)
      (ss_cons (s_if (t_eqS (e_v 2) e_str) (ss_one (s_ret (e_call T.d_law_fraction (ok_law_fraction T) (hr.mono (by omega)) rfl (a_cons (e_sub (e_mul (e_ix (e_v 3) e_int) (e_ix (e_v 4) e_int)) (e_mul (e_ix (e_v 4) e_int) (e_ix (e_v 3) e_int))) (a_cons (e_mul (e_ix (e_v 3) e_int) (e_ix (e_v 4) e_int)) a_nil))))) ss_nil)
      (ss_cons (s_if (t_eqS (e_v 2) e_str) (ss_one (s_ret (e_call T.d_law_fraction (ok_law_fraction T) (hr.mono (by omega)) rfl (a_cons (e_mul (e_ix (e_v 3) e_int) (e_ix (e_v 4) e_int)) (a_cons (e_mul (e_ix (e_v 3) e_int) (e_ix (e_v 4) e_int)) a_nil))))) ss_nil)
      (ss_cons (s_if (t_eqS (e_v 2) e_str) (ss_one (s_ret (e_call T.d_law_fraction (ok_law_fraction T) (hr.mono (by omega)) rfl (a_cons (e_mul (e_ix (e_v 3) e_int) (e_ix (e_v 4) e_int)) (a_cons (e_mul (e_ix (e_v 3) e_int) (e_ix (e_v 4) e_int)) a_nil))))) ss_nil)
      (ss_cons (s_set (i := 5) sc_law_value.nd (e_lt (e_mul (e_ix (e_v 3) e_int) (e_ix (e_v 4) e_int)) (e_mul (e_ix (e_v 4) e_int) (e_ix (e_v 3) e_int))))
      (ss_one (s_ret (e_if (t_eq hr (e_v 5) (e_eqS (e_v 2) e_str)) (e_v 3) (e_v 4)))))))))))))))), ?_⟩
  cases hw with
  | @num e q' hs =>
    have ev := gv_num hv _ rfl
    subst ev
    (refine laterP_in ?_; repeat ((first | with_reducible refine laterP_i ?_ | with_reducible refine later_i ?_); try simp -implicitDefEqProofs -dsimp only [↓D3.seq3_stop, ↓D3.ifS3.eq_1, ↓D3.b3.eq_1, ↓D3.op3.eq_1, ↓D3.un3.eq_1, ↓D3.v3.eq_1, ↓D3.c3.eq_1, fIx_tup, fIx_lst, at3_0, at3_1, at3_2, at3_3, at3_4, at3_5, at3_6, start3, fI0_i, fI_i, fLt, fLe, fGt, fGe, fEqI, fNeI, fMin, fMax, ↓D3.asg3.eq_1, ↓D3.name3.eq_1, ↓D3.sub3.eq_1, ↓D3.ret3.eq_1, ↓D3.retN3.eq_1, ↓D3.nx3.eq_1, ↓D3.drop3.eq_1, ↓D3.par3.eq_1, ↓D3.aug3.eq_1, ↓D3.and3.eq_1, ↓D3.or3.eq_1, ↓D3.not3.eq_1, ↓D3.andV3.eq_1, ↓D3.orV3.eq_1, ↓D3.notV3.eq_1, ↓D3.if3.eq_1, ↓D3.nil3.eq_1, ↓D3.cons3.eq_1, ↓D3.tup3.eq_1, ↓D3.lst3.eq_1, ↓D3.lstM3.eq_1, ↓D3.gtup3.eq_1, ↓D3.gcons3.eq_1, ↓D3.gnil3.eq_1, ↓D3.gunl3.eq_1, ↓D3.bits3.eq_1, ↓D3.neg3.eq_1, ↓D3.chain3.eq_1, fIsi_int_int, fIsi_int_bool, fIsi_int_tuple, fIsi_int_str, fIsi_int_list, fIsi_bl_int, fIsi_bl_bool, fIsi_bl_tuple, fIsi_bl_str, fIsi_bl_list, fIsi_non_int, fIsi_non_bool, fIsi_non_tuple, fIsi_non_str, fIsi_non_list, fIsi_str_int, fIsi_str_bool, fIsi_str_tuple, fIsi_str_str, fIsi_str_list, fIsi_tup_int, fIsi_tup_bool, fIsi_tup_tuple, fIsi_tup_str, fIsi_tup_list, fIsi_lst_int, fIsi_lst_bool, fIsi_lst_tuple, fIsi_lst_str, fIsi_lst_list, fLen_lst, fLen_tup, fAbs, ↓D3.call3_k, ↓D3.kont_app, ↓D3.isN3.eq_1, ↓D3.notN3.eq_1, dIsN_non, dIsN_int, dIsN_bl, dIsN_str, dIsN_tup, dIsN_lst, ↓D3.slc3.eq_1, ↓D3.part3.eq_1, ↓D3.noPart3.eq_1, ↓D3.ilst3.eq_1, ↓D3.itup3.eq_1, ↓D3.irng1.eq_1, ↓D3.irng2.eq_1, ↓D3.for3.eq_1, fCat, fEq_int, fNe_int, fEq_bl, fNe_bl, fEq_pair, fNe_pair, List.map, List.replicate, List.length_cons, List.length_nil, List.set_cons_zero, List.set_cons_succ, List.getElem?_cons_zero, List.getElem?_cons_succ, List.cons_append, List.nil_append, at_0, at_1, at_2, at_3, at_4, at_5, at_6, ix_0, ix_1, ix_2, put_same, put_put, decide_eq_true_eq, Bool.not_eq_true', decide_eq_false_iff_not, ite_not, ite_true, ite_false, if_true, if_false, Bool.false_eq_true, ↓reduceIte, reduceIte, Nat.reduceAdd, Nat.reduceSub, Int.reduceToNat, Nat.reduceLeDiff, not_false_eq_true, true_and, and_true, ne_eq, Int.reduceEq, Nat.zero_add, Bool.not_true, Bool.not_false, reduceCtorEq, nc0, nc1, nc2, nc3, nc4, nc5, fIx_ref put_same, fLen_ref put_same, ↓D3.lc3.eq_1, fInt, fTuple, fList, fNeS_s, fEqS_s, ↓D3.gstar3.eq_1, fInK_s, fNinK_s, fLenS_s, ↓D3.slcT3.eq_1, fCatT_t, dnew3]))
    exact q
  | name h => cases h
  | @size e a wa =>
    cases hv with
    | other _ h _ => exact absurd rfl h
    | @size _ _ v ha =>
      obtain ⟨e, rfl⟩ : ∃ k, e = k + 1 := by cases ha <;> exact ⟨_, rfl⟩
      (refine laterP_in ?_; repeat ((first | with_reducible refine laterP_i ?_ | with_reducible refine later_i ?_); try simp -implicitDefEqProofs -dsimp only [↓D3.seq3_stop, ↓D3.ifS3.eq_1, ↓D3.b3.eq_1, ↓D3.op3.eq_1, ↓D3.un3.eq_1, ↓D3.v3.eq_1, ↓D3.c3.eq_1, fIx_tup, fIx_lst, at3_0, at3_1, at3_2, at3_3, at3_4, at3_5, at3_6, start3, fI0_i, fI_i, fLt, fLe, fGt, fGe, fEqI, fNeI, fMin, fMax, ↓D3.asg3.eq_1, ↓D3.name3.eq_1, ↓D3.sub3.eq_1, ↓D3.ret3.eq_1, ↓D3.retN3.eq_1, ↓D3.nx3.eq_1, ↓D3.drop3.eq_1, ↓D3.par3.eq_1, ↓D3.aug3.eq_1, ↓D3.and3.eq_1, ↓D3.or3.eq_1, ↓D3.not3.eq_1, ↓D3.andV3.eq_1, ↓D3.orV3.eq_1, ↓D3.notV3.eq_1, ↓D3.if3.eq_1, ↓D3.nil3.eq_1, ↓D3.cons3.eq_1, ↓D3.tup3.eq_1, ↓D3.lst3.eq_1, ↓D3.lstM3.eq_1, ↓D3.gtup3.eq_1, ↓D3.gcons3.eq_1, ↓D3.gnil3.eq_1, ↓D3.gunl3.eq_1, ↓D3.bits3.eq_1, ↓D3.neg3.eq_1, ↓D3.chain3.eq_1, fIsi_int_int, fIsi_int_bool, fIsi_int_tuple, fIsi_int_str, fIsi_int_list, fIsi_bl_int, fIsi_bl_bool, fIsi_bl_tuple, fIsi_bl_str, fIsi_bl_list, fIsi_non_int, fIsi_non_bool, fIsi_non_tuple, fIsi_non_str, fIsi_non_list, fIsi_str_int, fIsi_str_bool, fIsi_str_tuple, fIsi_str_str, fIsi_str_list, fIsi_tup_int, fIsi_tup_bool, fIsi_tup_tuple, fIsi_tup_str, fIsi_tup_list, fIsi_lst_int, fIsi_lst_bool, fIsi_lst_tuple, fIsi_lst_str, fIsi_lst_list, fLen_lst, fLen_tup, fAbs, ↓D3.call3_k, ↓D3.kont_app, ↓D3.isN3.eq_1, ↓D3.notN3.eq_1, dIsN_non, dIsN_int, dIsN_bl, dIsN_str, dIsN_tup, dIsN_lst, ↓D3.slc3.eq_1, ↓D3.part3.eq_1, ↓D3.noPart3.eq_1, ↓D3.ilst3.eq_1, ↓D3.itup3.eq_1, ↓D3.irng1.eq_1, ↓D3.irng2.eq_1, ↓D3.for3.eq_1, fCat, fEq_int, fNe_int, fEq_bl, fNe_bl, fEq_pair, fNe_pair, List.map, List.replicate, List.length_cons, List.length_nil, List.set_cons_zero, List.set_cons_succ, List.getElem?_cons_zero, List.getElem?_cons_succ, List.cons_append, List.nil_append, at_0, at_1, at_2, at_3, at_4, at_5, at_6, ix_0, ix_1, ix_2, put_same, put_put, decide_eq_true_eq, Bool.not_eq_true', decide_eq_false_iff_not, ite_not, ite_true, ite_false, if_true, if_false, Bool.false_eq_true, ↓reduceIte, reduceIte, Nat.reduceAdd, Nat.reduceSub, Int.reduceToNat, Nat.reduceLeDiff, not_false_eq_true, true_and, and_true, ne_eq, Int.reduceEq, Nat.zero_add, Bool.not_true, Bool.not_false, reduceCtorEq, nc0, nc1, nc2, nc3, nc4, nc5, fIx_ref put_same, fLen_ref put_same, ↓D3.lc3.eq_1, fInt, fTuple, fList, fNeS_s, fEqS_s, ↓D3.gstar3.eq_1, fInK_s, fNinK_s, fLenS_s, ↓D3.slcT3.eq_1, fCatT_t, dnew3]))
      refine ite2 (fun z => absurd z (by decide +kernel)) (fun _ => ?_)
      (refine laterP_in ?_; repeat ((first | with_reducible refine laterP_i ?_ | with_reducible refine later_i ?_); try simp -implicitDefEqProofs -dsimp only [↓D3.seq3_stop, ↓D3.ifS3.eq_1, ↓D3.b3.eq_1, ↓D3.op3.eq_1, ↓D3.un3.eq_1, ↓D3.v3.eq_1, ↓D3.c3.eq_1, fIx_tup, fIx_lst, at3_0, at3_1, at3_2, at3_3, at3_4, at3_5, at3_6, start3, fI0_i, fI_i, fLt, fLe, fGt, fGe, fEqI, fNeI, fMin, fMax, ↓D3.asg3.eq_1, ↓D3.name3.eq_1, ↓D3.sub3.eq_1, ↓D3.ret3.eq_1, ↓D3.retN3.eq_1, ↓D3.nx3.eq_1, ↓D3.drop3.eq_1, ↓D3.par3.eq_1, ↓D3.aug3.eq_1, ↓D3.and3.eq_1, ↓D3.or3.eq_1, ↓D3.not3.eq_1, ↓D3.andV3.eq_1, ↓D3.orV3.eq_1, ↓D3.notV3.eq_1, ↓D3.if3.eq_1, ↓D3.nil3.eq_1, ↓D3.cons3.eq_1, ↓D3.tup3.eq_1, ↓D3.lst3.eq_1, ↓D3.lstM3.eq_1, ↓D3.gtup3.eq_1, ↓D3.gcons3.eq_1, ↓D3.gnil3.eq_1, ↓D3.gunl3.eq_1, ↓D3.bits3.eq_1, ↓D3.neg3.eq_1, ↓D3.chain3.eq_1, fIsi_int_int, fIsi_int_bool, fIsi_int_tuple, fIsi_int_str, fIsi_int_list, fIsi_bl_int, fIsi_bl_bool, fIsi_bl_tuple, fIsi_bl_str, fIsi_bl_list, fIsi_non_int, fIsi_non_bool, fIsi_non_tuple, fIsi_non_str, fIsi_non_list, fIsi_str_int, fIsi_str_bool, fIsi_str_tuple, fIsi_str_str, fIsi_str_list, fIsi_tup_int, fIsi_tup_bool, fIsi_tup_tuple, fIsi_tup_str, fIsi_tup_list, fIsi_lst_int, fIsi_lst_bool, fIsi_lst_tuple, fIsi_lst_str, fIsi_lst_list, fLen_lst, fLen_tup, fAbs, ↓D3.call3_k, ↓D3.kont_app, ↓D3.isN3.eq_1, ↓D3.notN3.eq_1, dIsN_non, dIsN_int, dIsN_bl, dIsN_str, dIsN_tup, dIsN_lst, ↓D3.slc3.eq_1, ↓D3.part3.eq_1, ↓D3.noPart3.eq_1, ↓D3.ilst3.eq_1, ↓D3.itup3.eq_1, ↓D3.irng1.eq_1, ↓D3.irng2.eq_1, ↓D3.for3.eq_1, fCat, fEq_int, fNe_int, fEq_bl, fNe_bl, fEq_pair, fNe_pair, List.map, List.replicate, List.length_cons, List.length_nil, List.set_cons_zero, List.set_cons_succ, List.getElem?_cons_zero, List.getElem?_cons_succ, List.cons_append, List.nil_append, at_0, at_1, at_2, at_3, at_4, at_5, at_6, ix_0, ix_1, ix_2, put_same, put_put, decide_eq_true_eq, Bool.not_eq_true', decide_eq_false_iff_not, ite_not, ite_true, ite_false, if_true, if_false, Bool.false_eq_true, ↓reduceIte, reduceIte, Nat.reduceAdd, Nat.reduceSub, Int.reduceToNat, Nat.reduceLeDiff, not_false_eq_true, true_and, and_true, ne_eq, Int.reduceEq, Nat.zero_add, Bool.not_true, Bool.not_false, reduceCtorEq, nc0, nc1, nc2, nc3, nc4, nc5, fIx_ref put_same, fLen_ref put_same, ↓D3.lc3.eq_1, fInt, fTuple, fList, fNeS_s, fEqS_s, ↓D3.gstar3.eq_1, fInK_s, fNinK_s, fLenS_s, ↓D3.slcT3.eq_1, fCatT_t, dnew3]))
      refine ite2 (fun z => absurd z (by decide +kernel)) (fun _ => ?_)
      (refine laterP_in ?_; repeat ((first | with_reducible refine laterP_i ?_ | with_reducible refine later_i ?_); try simp -implicitDefEqProofs -dsimp only [↓D3.seq3_stop, ↓D3.ifS3.eq_1, ↓D3.b3.eq_1, ↓D3.op3.eq_1, ↓D3.un3.eq_1, ↓D3.v3.eq_1, ↓D3.c3.eq_1, fIx_tup, fIx_lst, at3_0, at3_1, at3_2, at3_3, at3_4, at3_5, at3_6, start3, fI0_i, fI_i, fLt, fLe, fGt, fGe, fEqI, fNeI, fMin, fMax, ↓D3.asg3.eq_1, ↓D3.name3.eq_1, ↓D3.sub3.eq_1, ↓D3.ret3.eq_1, ↓D3.retN3.eq_1, ↓D3.nx3.eq_1, ↓D3.drop3.eq_1, ↓D3.par3.eq_1, ↓D3.aug3.eq_1, ↓D3.and3.eq_1, ↓D3.or3.eq_1, ↓D3.not3.eq_1, ↓D3.andV3.eq_1, ↓D3.orV3.eq_1, ↓D3.notV3.eq_1, ↓D3.if3.eq_1, ↓D3.nil3.eq_1, ↓D3.cons3.eq_1, ↓D3.tup3.eq_1, ↓D3.lst3.eq_1, ↓D3.lstM3.eq_1, ↓D3.gtup3.eq_1, ↓D3.gcons3.eq_1, ↓D3.gnil3.eq_1, ↓D3.gunl3.eq_1, ↓D3.bits3.eq_1, ↓D3.neg3.eq_1, ↓D3.chain3.eq_1, fIsi_int_int, fIsi_int_bool, fIsi_int_tuple, fIsi_int_str, fIsi_int_list, fIsi_bl_int, fIsi_bl_bool, fIsi_bl_tuple, fIsi_bl_str, fIsi_bl_list, fIsi_non_int, fIsi_non_bool, fIsi_non_tuple, fIsi_non_str, fIsi_non_list, fIsi_str_int, fIsi_str_bool, fIsi_str_tuple, fIsi_str_str, fIsi_str_list, fIsi_tup_int, fIsi_tup_bool, fIsi_tup_tuple, fIsi_tup_str, fIsi_tup_list, fIsi_lst_int, fIsi_lst_bool, fIsi_lst_tuple, fIsi_lst_str, fIsi_lst_list, fLen_lst, fLen_tup, fAbs, ↓D3.call3_k, ↓D3.kont_app, ↓D3.isN3.eq_1, ↓D3.notN3.eq_1, dIsN_non, dIsN_int, dIsN_bl, dIsN_str, dIsN_tup, dIsN_lst, ↓D3.slc3.eq_1, ↓D3.part3.eq_1, ↓D3.noPart3.eq_1, ↓D3.ilst3.eq_1, ↓D3.itup3.eq_1, ↓D3.irng1.eq_1, ↓D3.irng2.eq_1, ↓D3.for3.eq_1, fCat, fEq_int, fNe_int, fEq_bl, fNe_bl, fEq_pair, fNe_pair, List.map, List.replicate, List.length_cons, List.length_nil, List.set_cons_zero, List.set_cons_succ, List.getElem?_cons_zero, List.getElem?_cons_succ, List.cons_append, List.nil_append, at_0, at_1, at_2, at_3, at_4, at_5, at_6, ix_0, ix_1, ix_2, put_same, put_put, decide_eq_true_eq, Bool.not_eq_true', decide_eq_false_iff_not, ite_not, ite_true, ite_false, if_true, if_false, Bool.false_eq_true, ↓reduceIte, reduceIte, Nat.reduceAdd, Nat.reduceSub, Int.reduceToNat, Nat.reduceLeDiff, not_false_eq_true, true_and, and_true, ne_eq, Int.reduceEq, Nat.zero_add, Bool.not_true, Bool.not_false, reduceCtorEq, nc0, nc1, nc2, nc3, nc4, nc5, fIx_ref put_same, fLen_ref put_same, ↓D3.lc3.eq_1, fInt, fTuple, fList, fNeS_s, fEqS_s, ↓D3.gstar3.eq_1, fInK_s, fNinK_s, fLenS_s, ↓D3.slcT3.eq_1, fCatT_t, dnew3]))
      refine ⟨a, x, v, rfl, wa, ha, by omega, ?_⟩
      cases v with
      | none =>
        (refine laterP_in ?_; repeat ((first | with_reducible refine laterP_i ?_ | with_reducible refine later_i ?_); try simp -implicitDefEqProofs -dsimp only [↓D3.seq3_stop, ↓D3.ifS3.eq_1, ↓D3.b3.eq_1, ↓D3.op3.eq_1, ↓D3.un3.eq_1, ↓D3.v3.eq_1, ↓D3.c3.eq_1, fIx_tup, fIx_lst, at3_0, at3_1, at3_2, at3_3, at3_4, at3_5, at3_6, start3, fI0_i, fI_i, fLt, fLe, fGt, fGe, fEqI, fNeI, fMin, fMax, ↓D3.asg3.eq_1, ↓D3.name3.eq_1, ↓D3.sub3.eq_1, ↓D3.ret3.eq_1, ↓D3.retN3.eq_1, ↓D3.nx3.eq_1, ↓D3.drop3.eq_1, ↓D3.par3.eq_1, ↓D3.aug3.eq_1, ↓D3.and3.eq_1, ↓D3.or3.eq_1, ↓D3.not3.eq_1, ↓D3.andV3.eq_1, ↓D3.orV3.eq_1, ↓D3.notV3.eq_1, ↓D3.if3.eq_1, ↓D3.nil3.eq_1, ↓D3.cons3.eq_1, ↓D3.tup3.eq_1, ↓D3.lst3.eq_1, ↓D3.lstM3.eq_1, ↓D3.gtup3.eq_1, ↓D3.gcons3.eq_1, ↓D3.gnil3.eq_1, ↓D3.gunl3.eq_1, ↓D3.bits3.eq_1, ↓D3.neg3.eq_1, ↓D3.chain3.eq_1, fIsi_int_int, fIsi_int_bool, fIsi_int_tuple, fIsi_int_str, fIsi_int_list, fIsi_bl_int, fIsi_bl_bool, fIsi_bl_tuple, fIsi_bl_str, fIsi_bl_list, fIsi_non_int, fIsi_non_bool, fIsi_non_tuple, fIsi_non_str, fIsi_non_list, fIsi_str_int, fIsi_str_bool, fIsi_str_tuple, fIsi_str_str, fIsi_str_list, fIsi_tup_int, fIsi_tup_bool, fIsi_tup_tuple, fIsi_tup_str, fIsi_tup_list, fIsi_lst_int, fIsi_lst_bool, fIsi_lst_tuple, fIsi_lst_str, fIsi_lst_list, fLen_lst, fLen_tup, fAbs, ↓D3.call3_k, ↓D3.kont_app, ↓D3.isN3.eq_1, ↓D3.notN3.eq_1, dIsN_non, dIsN_int, dIsN_bl, dIsN_str, dIsN_tup, dIsN_lst, ↓D3.slc3.eq_1, ↓D3.part3.eq_1, ↓D3.noPart3.eq_1, ↓D3.ilst3.eq_1, ↓D3.itup3.eq_1, ↓D3.irng1.eq_1, ↓D3.irng2.eq_1, ↓D3.for3.eq_1, fCat, fEq_int, fNe_int, fEq_bl, fNe_bl, fEq_pair, fNe_pair, List.map, List.replicate, List.length_cons, List.length_nil, List.set_cons_zero, List.set_cons_succ, List.getElem?_cons_zero, List.getElem?_cons_succ, List.cons_append, List.nil_append, at_0, at_1, at_2, at_3, at_4, at_5, at_6, ix_0, ix_1, ix_2, put_same, put_put, decide_eq_true_eq, Bool.not_eq_true', decide_eq_false_iff_not, ite_not, ite_true, ite_false, if_true, if_false, Bool.false_eq_true, ↓reduceIte, reduceIte, Nat.reduceAdd, Nat.reduceSub, Int.reduceToNat, Nat.reduceLeDiff, not_false_eq_true, true_and, and_true, ne_eq, Int.reduceEq, Nat.zero_add, Bool.not_true, Bool.not_false, reduceCtorEq, nc0, nc1, nc2, nc3, nc4, nc5, fIx_ref put_same, fLen_ref put_same, ↓D3.lc3.eq_1, fInt, fTuple, fList, fNeS_s, fEqS_s, ↓D3.gstar3.eq_1, fInK_s, fNinK_s, fLenS_s, ↓D3.slcT3.eq_1, fCatT_t, dnew3, oQ]))
        exact q
      | some r =>
        have q2 : Q (qD (rabs r)) m := q
        rw [rabs_D] at q2
        (refine laterP_in ?_; repeat ((first | with_reducible refine laterP_i ?_ | with_reducible refine later_i ?_); try simp -implicitDefEqProofs -dsimp only [↓D3.seq3_stop, ↓D3.ifS3.eq_1, ↓D3.b3.eq_1, ↓D3.op3.eq_1, ↓D3.un3.eq_1, ↓D3.v3.eq_1, ↓D3.c3.eq_1, fIx_tup, fIx_lst, at3_0, at3_1, at3_2, at3_3, at3_4, at3_5, at3_6, start3, fI0_i, fI_i, fLt, fLe, fGt, fGe, fEqI, fNeI, fMin, fMax, ↓D3.asg3.eq_1, ↓D3.name3.eq_1, ↓D3.sub3.eq_1, ↓D3.ret3.eq_1, ↓D3.retN3.eq_1, ↓D3.nx3.eq_1, ↓D3.drop3.eq_1, ↓D3.par3.eq_1, ↓D3.aug3.eq_1, ↓D3.and3.eq_1, ↓D3.or3.eq_1, ↓D3.not3.eq_1, ↓D3.andV3.eq_1, ↓D3.orV3.eq_1, ↓D3.notV3.eq_1, ↓D3.if3.eq_1, ↓D3.nil3.eq_1, ↓D3.cons3.eq_1, ↓D3.tup3.eq_1, ↓D3.lst3.eq_1, ↓D3.lstM3.eq_1, ↓D3.gtup3.eq_1, ↓D3.gcons3.eq_1, ↓D3.gnil3.eq_1, ↓D3.gunl3.eq_1, ↓D3.bits3.eq_1, ↓D3.neg3.eq_1, ↓D3.chain3.eq_1, fIsi_int_int, fIsi_int_bool, fIsi_int_tuple, fIsi_int_str, fIsi_int_list, fIsi_bl_int, fIsi_bl_bool, fIsi_bl_tuple, fIsi_bl_str, fIsi_bl_list, fIsi_non_int, fIsi_non_bool, fIsi_non_tuple, fIsi_non_str, fIsi_non_list, fIsi_str_int, fIsi_str_bool, fIsi_str_tuple, fIsi_str_str, fIsi_str_list, fIsi_tup_int, fIsi_tup_bool, fIsi_tup_tuple, fIsi_tup_str, fIsi_tup_list, fIsi_lst_int, fIsi_lst_bool, fIsi_lst_tuple, fIsi_lst_str, fIsi_lst_list, fLen_lst, fLen_tup, fAbs, ↓D3.call3_k, ↓D3.kont_app, ↓D3.isN3.eq_1, ↓D3.notN3.eq_1, dIsN_non, dIsN_int, dIsN_bl, dIsN_str, dIsN_tup, dIsN_lst, ↓D3.slc3.eq_1, ↓D3.part3.eq_1, ↓D3.noPart3.eq_1, ↓D3.ilst3.eq_1, ↓D3.itup3.eq_1, ↓D3.irng1.eq_1, ↓D3.irng2.eq_1, ↓D3.for3.eq_1, fCat, fEq_int, fNe_int, fEq_bl, fNe_bl, fEq_pair, fNe_pair, List.map, List.replicate, List.length_cons, List.length_nil, List.set_cons_zero, List.set_cons_succ, List.getElem?_cons_zero, List.getElem?_cons_succ, List.cons_append, List.nil_append, at_0, at_1, at_2, at_3, at_4, at_5, at_6, ix_0, ix_1, ix_2, put_same, put_put, decide_eq_true_eq, Bool.not_eq_true', decide_eq_false_iff_not, ite_not, ite_true, ite_false, if_true, if_false, Bool.false_eq_true, ↓reduceIte, reduceIte, Nat.reduceAdd, Nat.reduceSub, Int.reduceToNat, Nat.reduceLeDiff, not_false_eq_true, true_and, and_true, ne_eq, Int.reduceEq, Nat.zero_add, Bool.not_true, Bool.not_false, reduceCtorEq, nc0, nc1, nc2, nc3, nc4, nc5, fIx_ref put_same, fLen_ref put_same, ↓D3.lc3.eq_1, fInt, fTuple, fList, fNeS_s, fEqS_s, ↓D3.gstar3.eq_1, fInK_s, fNinK_s, fLenS_s, ↓D3.slcT3.eq_1, fCatT_t, dnew3, oQ, qD]))
        exact q2
  | @two e k a b hk wa wb =>
    cases hv with
    | other h _ _ => exact absurd hk h
    | @two _ _ _ _ v u _ ha hb =>
      obtain ⟨e, rfl⟩ : ∃ k, e = k + 1 := by cases ha <;> exact ⟨_, rfl⟩
      have bl := bits_le (e := e + 1) (by omega)
      (refine laterP_in ?_; repeat ((first | with_reducible refine laterP_i ?_ | with_reducible refine later_i ?_); try simp -implicitDefEqProofs -dsimp only [↓D3.seq3_stop, ↓D3.ifS3.eq_1, ↓D3.b3.eq_1, ↓D3.op3.eq_1, ↓D3.un3.eq_1, ↓D3.v3.eq_1, ↓D3.c3.eq_1, fIx_tup, fIx_lst, at3_0, at3_1, at3_2, at3_3, at3_4, at3_5, at3_6, start3, fI0_i, fI_i, fLt, fLe, fGt, fGe, fEqI, fNeI, fMin, fMax, ↓D3.asg3.eq_1, ↓D3.name3.eq_1, ↓D3.sub3.eq_1, ↓D3.ret3.eq_1, ↓D3.retN3.eq_1, ↓D3.nx3.eq_1, ↓D3.drop3.eq_1, ↓D3.par3.eq_1, ↓D3.aug3.eq_1, ↓D3.and3.eq_1, ↓D3.or3.eq_1, ↓D3.not3.eq_1, ↓D3.andV3.eq_1, ↓D3.orV3.eq_1, ↓D3.notV3.eq_1, ↓D3.if3.eq_1, ↓D3.nil3.eq_1, ↓D3.cons3.eq_1, ↓D3.tup3.eq_1, ↓D3.lst3.eq_1, ↓D3.lstM3.eq_1, ↓D3.gtup3.eq_1, ↓D3.gcons3.eq_1, ↓D3.gnil3.eq_1, ↓D3.gunl3.eq_1, ↓D3.bits3.eq_1, ↓D3.neg3.eq_1, ↓D3.chain3.eq_1, fIsi_int_int, fIsi_int_bool, fIsi_int_tuple, fIsi_int_str, fIsi_int_list, fIsi_bl_int, fIsi_bl_bool, fIsi_bl_tuple, fIsi_bl_str, fIsi_bl_list, fIsi_non_int, fIsi_non_bool, fIsi_non_tuple, fIsi_non_str, fIsi_non_list, fIsi_str_int, fIsi_str_bool, fIsi_str_tuple, fIsi_str_str, fIsi_str_list, fIsi_tup_int, fIsi_tup_bool, fIsi_tup_tuple, fIsi_tup_str, fIsi_tup_list, fIsi_lst_int, fIsi_lst_bool, fIsi_lst_tuple, fIsi_lst_str, fIsi_lst_list, fLen_lst, fLen_tup, fAbs, ↓D3.call3_k, ↓D3.kont_app, ↓D3.isN3.eq_1, ↓D3.notN3.eq_1, dIsN_non, dIsN_int, dIsN_bl, dIsN_str, dIsN_tup, dIsN_lst, ↓D3.slc3.eq_1, ↓D3.part3.eq_1, ↓D3.noPart3.eq_1, ↓D3.ilst3.eq_1, ↓D3.itup3.eq_1, ↓D3.irng1.eq_1, ↓D3.irng2.eq_1, ↓D3.for3.eq_1, fCat, fEq_int, fNe_int, fEq_bl, fNe_bl, fEq_pair, fNe_pair, List.map, List.replicate, List.length_cons, List.length_nil, List.set_cons_zero, List.set_cons_succ, List.getElem?_cons_zero, List.getElem?_cons_succ, List.cons_append, List.nil_append, at_0, at_1, at_2, at_3, at_4, at_5, at_6, ix_0, ix_1, ix_2, put_same, put_put, decide_eq_true_eq, Bool.not_eq_true', decide_eq_false_iff_not, ite_not, ite_true, ite_false, if_true, if_false, Bool.false_eq_true, ↓reduceIte, reduceIte, Nat.reduceAdd, Nat.reduceSub, Int.reduceToNat, Nat.reduceLeDiff, not_false_eq_true, true_and, and_true, ne_eq, Int.reduceEq, Nat.zero_add, Bool.not_true, Bool.not_false, reduceCtorEq, nc0, nc1, nc2, nc3, nc4, nc5, fIx_ref put_same, fLen_ref put_same, ↓D3.lc3.eq_1, fInt, fTuple, fList, fNeS_s, fEqS_s, ↓D3.gstar3.eq_1, fInK_s, fNinK_s, fLenS_s, ↓D3.slcT3.eq_1, fCatT_t, dnew3]))
      refine ite2 (fun z => absurd (z ▸ hk) (by decide +kernel)) (fun _ => ?_)
      (refine laterP_in ?_; repeat ((first | with_reducible refine laterP_i ?_ | with_reducible refine later_i ?_); try simp -implicitDefEqProofs -dsimp only [↓D3.seq3_stop, ↓D3.ifS3.eq_1, ↓D3.b3.eq_1, ↓D3.op3.eq_1, ↓D3.un3.eq_1, ↓D3.v3.eq_1, ↓D3.c3.eq_1, fIx_tup, fIx_lst, at3_0, at3_1, at3_2, at3_3, at3_4, at3_5, at3_6, start3, fI0_i, fI_i, fLt, fLe, fGt, fGe, fEqI, fNeI, fMin, fMax, ↓D3.asg3.eq_1, ↓D3.name3.eq_1, ↓D3.sub3.eq_1, ↓D3.ret3.eq_1, ↓D3.retN3.eq_1, ↓D3.nx3.eq_1, ↓D3.drop3.eq_1, ↓D3.par3.eq_1, ↓D3.aug3.eq_1, ↓D3.and3.eq_1, ↓D3.or3.eq_1, ↓D3.not3.eq_1, ↓D3.andV3.eq_1, ↓D3.orV3.eq_1, ↓D3.notV3.eq_1, ↓D3.if3.eq_1, ↓D3.nil3.eq_1, ↓D3.cons3.eq_1, ↓D3.tup3.eq_1, ↓D3.lst3.eq_1, ↓D3.lstM3.eq_1, ↓D3.gtup3.eq_1, ↓D3.gcons3.eq_1, ↓D3.gnil3.eq_1, ↓D3.gunl3.eq_1, ↓D3.bits3.eq_1, ↓D3.neg3.eq_1, ↓D3.chain3.eq_1, fIsi_int_int, fIsi_int_bool, fIsi_int_tuple, fIsi_int_str, fIsi_int_list, fIsi_bl_int, fIsi_bl_bool, fIsi_bl_tuple, fIsi_bl_str, fIsi_bl_list, fIsi_non_int, fIsi_non_bool, fIsi_non_tuple, fIsi_non_str, fIsi_non_list, fIsi_str_int, fIsi_str_bool, fIsi_str_tuple, fIsi_str_str, fIsi_str_list, fIsi_tup_int, fIsi_tup_bool, fIsi_tup_tuple, fIsi_tup_str, fIsi_tup_list, fIsi_lst_int, fIsi_lst_bool, fIsi_lst_tuple, fIsi_lst_str, fIsi_lst_list, fLen_lst, fLen_tup, fAbs, ↓D3.call3_k, ↓D3.kont_app, ↓D3.isN3.eq_1, ↓D3.notN3.eq_1, dIsN_non, dIsN_int, dIsN_bl, dIsN_str, dIsN_tup, dIsN_lst, ↓D3.slc3.eq_1, ↓D3.part3.eq_1, ↓D3.noPart3.eq_1, ↓D3.ilst3.eq_1, ↓D3.itup3.eq_1, ↓D3.irng1.eq_1, ↓D3.irng2.eq_1, ↓D3.for3.eq_1, fCat, fEq_int, fNe_int, fEq_bl, fNe_bl, fEq_pair, fNe_pair, List.map, List.replicate, List.length_cons, List.length_nil, List.set_cons_zero, List.set_cons_succ, List.getElem?_cons_zero, List.getElem?_cons_succ, List.cons_append, List.nil_append, at_0, at_1, at_2, at_3, at_4, at_5, at_6, ix_0, ix_1, ix_2, put_same, put_put, decide_eq_true_eq, Bool.not_eq_true', decide_eq_false_iff_not, ite_not, ite_true, ite_false, if_true, if_false, Bool.false_eq_true, ↓reduceIte, reduceIte, Nat.reduceAdd, Nat.reduceSub, Int.reduceToNat, Nat.reduceLeDiff, not_false_eq_true, true_and, and_true, ne_eq, Int.reduceEq, Nat.zero_add, Bool.not_true, Bool.not_false, reduceCtorEq, nc0, nc1, nc2, nc3, nc4, nc5, fIx_ref put_same, fLen_ref put_same, ↓D3.lc3.eq_1, fInt, fTuple, fList, fNeS_s, fEqS_s, ↓D3.gstar3.eq_1, fInK_s, fNinK_s, fLenS_s, ↓D3.slcT3.eq_1, fCatT_t, dnew3]))
      refine ite2 (fun z => absurd (z ▸ hk) (by decide +kernel)) (fun _ => ?_)
      (refine laterP_in ?_; repeat ((first | with_reducible refine laterP_i ?_ | with_reducible refine later_i ?_); try simp -implicitDefEqProofs -dsimp only [↓D3.seq3_stop, ↓D3.ifS3.eq_1, ↓D3.b3.eq_1, ↓D3.op3.eq_1, ↓D3.un3.eq_1, ↓D3.v3.eq_1, ↓D3.c3.eq_1, fIx_tup, fIx_lst, at3_0, at3_1, at3_2, at3_3, at3_4, at3_5, at3_6, start3, fI0_i, fI_i, fLt, fLe, fGt, fGe, fEqI, fNeI, fMin, fMax, ↓D3.asg3.eq_1, ↓D3.name3.eq_1, ↓D3.sub3.eq_1, ↓D3.ret3.eq_1, ↓D3.retN3.eq_1, ↓D3.nx3.eq_1, ↓D3.drop3.eq_1, ↓D3.par3.eq_1, ↓D3.aug3.eq_1, ↓D3.and3.eq_1, ↓D3.or3.eq_1, ↓D3.not3.eq_1, ↓D3.andV3.eq_1, ↓D3.orV3.eq_1, ↓D3.notV3.eq_1, ↓D3.if3.eq_1, ↓D3.nil3.eq_1, ↓D3.cons3.eq_1, ↓D3.tup3.eq_1, ↓D3.lst3.eq_1, ↓D3.lstM3.eq_1, ↓D3.gtup3.eq_1, ↓D3.gcons3.eq_1, ↓D3.gnil3.eq_1, ↓D3.gunl3.eq_1, ↓D3.bits3.eq_1, ↓D3.neg3.eq_1, ↓D3.chain3.eq_1, fIsi_int_int, fIsi_int_bool, fIsi_int_tuple, fIsi_int_str, fIsi_int_list, fIsi_bl_int, fIsi_bl_bool, fIsi_bl_tuple, fIsi_bl_str, fIsi_bl_list, fIsi_non_int, fIsi_non_bool, fIsi_non_tuple, fIsi_non_str, fIsi_non_list, fIsi_str_int, fIsi_str_bool, fIsi_str_tuple, fIsi_str_str, fIsi_str_list, fIsi_tup_int, fIsi_tup_bool, fIsi_tup_tuple, fIsi_tup_str, fIsi_tup_list, fIsi_lst_int, fIsi_lst_bool, fIsi_lst_tuple, fIsi_lst_str, fIsi_lst_list, fLen_lst, fLen_tup, fAbs, ↓D3.call3_k, ↓D3.kont_app, ↓D3.isN3.eq_1, ↓D3.notN3.eq_1, dIsN_non, dIsN_int, dIsN_bl, dIsN_str, dIsN_tup, dIsN_lst, ↓D3.slc3.eq_1, ↓D3.part3.eq_1, ↓D3.noPart3.eq_1, ↓D3.ilst3.eq_1, ↓D3.itup3.eq_1, ↓D3.irng1.eq_1, ↓D3.irng2.eq_1, ↓D3.for3.eq_1, fCat, fEq_int, fNe_int, fEq_bl, fNe_bl, fEq_pair, fNe_pair, List.map, List.replicate, List.length_cons, List.length_nil, List.set_cons_zero, List.set_cons_succ, List.getElem?_cons_zero, List.getElem?_cons_succ, List.cons_append, List.nil_append, at_0, at_1, at_2, at_3, at_4, at_5, at_6, ix_0, ix_1, ix_2, put_same, put_put, decide_eq_true_eq, Bool.not_eq_true', decide_eq_false_iff_not, ite_not, ite_true, ite_false, if_true, if_false, Bool.false_eq_true, ↓reduceIte, reduceIte, Nat.reduceAdd, Nat.reduceSub, Int.reduceToNat, Nat.reduceLeDiff, not_false_eq_true, true_and, and_true, ne_eq, Int.reduceEq, Nat.zero_add, Bool.not_true, Bool.not_false, reduceCtorEq, nc0, nc1, nc2, nc3, nc4, nc5, fIx_ref put_same, fLen_ref put_same, ↓D3.lc3.eq_1, fInt, fTuple, fList, fNeS_s, fEqS_s, ↓D3.gstar3.eq_1, fInK_s, fNinK_s, fLenS_s, ↓D3.slcT3.eq_1, fCatT_t, dnew3]))
      refine ⟨a, x, v, rfl, wa, ha, by omega, ?_⟩
      cases v with
      | none =>
        rw [op2_none_l] at q
        (refine laterP_in ?_; repeat ((first | with_reducible refine laterP_i ?_ | with_reducible refine later_i ?_); try simp -implicitDefEqProofs -dsimp only [↓D3.seq3_stop, ↓D3.ifS3.eq_1, ↓D3.b3.eq_1, ↓D3.op3.eq_1, ↓D3.un3.eq_1, ↓D3.v3.eq_1, ↓D3.c3.eq_1, fIx_tup, fIx_lst, at3_0, at3_1, at3_2, at3_3, at3_4, at3_5, at3_6, start3, fI0_i, fI_i, fLt, fLe, fGt, fGe, fEqI, fNeI, fMin, fMax, ↓D3.asg3.eq_1, ↓D3.name3.eq_1, ↓D3.sub3.eq_1, ↓D3.ret3.eq_1, ↓D3.retN3.eq_1, ↓D3.nx3.eq_1, ↓D3.drop3.eq_1, ↓D3.par3.eq_1, ↓D3.aug3.eq_1, ↓D3.and3.eq_1, ↓D3.or3.eq_1, ↓D3.not3.eq_1, ↓D3.andV3.eq_1, ↓D3.orV3.eq_1, ↓D3.notV3.eq_1, ↓D3.if3.eq_1, ↓D3.nil3.eq_1, ↓D3.cons3.eq_1, ↓D3.tup3.eq_1, ↓D3.lst3.eq_1, ↓D3.lstM3.eq_1, ↓D3.gtup3.eq_1, ↓D3.gcons3.eq_1, ↓D3.gnil3.eq_1, ↓D3.gunl3.eq_1, ↓D3.bits3.eq_1, ↓D3.neg3.eq_1, ↓D3.chain3.eq_1, fIsi_int_int, fIsi_int_bool, fIsi_int_tuple, fIsi_int_str, fIsi_int_list, fIsi_bl_int, fIsi_bl_bool, fIsi_bl_tuple, fIsi_bl_str, fIsi_bl_list, fIsi_non_int, fIsi_non_bool, fIsi_non_tuple, fIsi_non_str, fIsi_non_list, fIsi_str_int, fIsi_str_bool, fIsi_str_tuple, fIsi_str_str, fIsi_str_list, fIsi_tup_int, fIsi_tup_bool, fIsi_tup_tuple, fIsi_tup_str, fIsi_tup_list, fIsi_lst_int, fIsi_lst_bool, fIsi_lst_tuple, fIsi_lst_str, fIsi_lst_list, fLen_lst, fLen_tup, fAbs, ↓D3.call3_k, ↓D3.kont_app, ↓D3.isN3.eq_1, ↓D3.notN3.eq_1, dIsN_non, dIsN_int, dIsN_bl, dIsN_str, dIsN_tup, dIsN_lst, ↓D3.slc3.eq_1, ↓D3.part3.eq_1, ↓D3.noPart3.eq_1, ↓D3.ilst3.eq_1, ↓D3.itup3.eq_1, ↓D3.irng1.eq_1, ↓D3.irng2.eq_1, ↓D3.for3.eq_1, fCat, fEq_int, fNe_int, fEq_bl, fNe_bl, fEq_pair, fNe_pair, List.map, List.replicate, List.length_cons, List.length_nil, List.set_cons_zero, List.set_cons_succ, List.getElem?_cons_zero, List.getElem?_cons_succ, List.cons_append, List.nil_append, at_0, at_1, at_2, at_3, at_4, at_5, at_6, ix_0, ix_1, ix_2, put_same, put_put, decide_eq_true_eq, Bool.not_eq_true', decide_eq_false_iff_not, ite_not, ite_true, ite_false, if_true, if_false, Bool.false_eq_true, ↓reduceIte, reduceIte, Nat.reduceAdd, Nat.reduceSub, Int.reduceToNat, Nat.reduceLeDiff, not_false_eq_true, true_and, and_true, ne_eq, Int.reduceEq, Nat.zero_add, Bool.not_true, Bool.not_false, reduceCtorEq, nc0, nc1, nc2, nc3, nc4, nc5, fIx_ref put_same, fLen_ref put_same, ↓D3.lc3.eq_1, fInt, fTuple, fList, fNeS_s, fEqS_s, ↓D3.gstar3.eq_1, fInK_s, fNinK_s, fLenS_s, ↓D3.slcT3.eq_1, fCatT_t, dnew3, oQ]))
        exact q
      | some p =>
        (refine laterP_in ?_; repeat ((first | with_reducible refine laterP_i ?_ | with_reducible refine later_i ?_); try simp -implicitDefEqProofs -dsimp only [↓D3.seq3_stop, ↓D3.ifS3.eq_1, ↓D3.b3.eq_1, ↓D3.op3.eq_1, ↓D3.un3.eq_1, ↓D3.v3.eq_1, ↓D3.c3.eq_1, fIx_tup, fIx_lst, at3_0, at3_1, at3_2, at3_3, at3_4, at3_5, at3_6, start3, fI0_i, fI_i, fLt, fLe, fGt, fGe, fEqI, fNeI, fMin, fMax, ↓D3.asg3.eq_1, ↓D3.name3.eq_1, ↓D3.sub3.eq_1, ↓D3.ret3.eq_1, ↓D3.retN3.eq_1, ↓D3.nx3.eq_1, ↓D3.drop3.eq_1, ↓D3.par3.eq_1, ↓D3.aug3.eq_1, ↓D3.and3.eq_1, ↓D3.or3.eq_1, ↓D3.not3.eq_1, ↓D3.andV3.eq_1, ↓D3.orV3.eq_1, ↓D3.notV3.eq_1, ↓D3.if3.eq_1, ↓D3.nil3.eq_1, ↓D3.cons3.eq_1, ↓D3.tup3.eq_1, ↓D3.lst3.eq_1, ↓D3.lstM3.eq_1, ↓D3.gtup3.eq_1, ↓D3.gcons3.eq_1, ↓D3.gnil3.eq_1, ↓D3.gunl3.eq_1, ↓D3.bits3.eq_1, ↓D3.neg3.eq_1, ↓D3.chain3.eq_1, fIsi_int_int, fIsi_int_bool, fIsi_int_tuple, fIsi_int_str, fIsi_int_list, fIsi_bl_int, fIsi_bl_bool, fIsi_bl_tuple, fIsi_bl_str, fIsi_bl_list, fIsi_non_int, fIsi_non_bool, fIsi_non_tuple, fIsi_non_str, fIsi_non_list, fIsi_str_int, fIsi_str_bool, fIsi_str_tuple, fIsi_str_str, fIsi_str_list, fIsi_tup_int, fIsi_tup_bool, fIsi_tup_tuple, fIsi_tup_str, fIsi_tup_list, fIsi_lst_int, fIsi_lst_bool, fIsi_lst_tuple, fIsi_lst_str, fIsi_lst_list, fLen_lst, fLen_tup, fAbs, ↓D3.call3_k, ↓D3.kont_app, ↓D3.isN3.eq_1, ↓D3.notN3.eq_1, dIsN_non, dIsN_int, dIsN_bl, dIsN_str, dIsN_tup, dIsN_lst, ↓D3.slc3.eq_1, ↓D3.part3.eq_1, ↓D3.noPart3.eq_1, ↓D3.ilst3.eq_1, ↓D3.itup3.eq_1, ↓D3.irng1.eq_1, ↓D3.irng2.eq_1, ↓D3.for3.eq_1, fCat, fEq_int, fNe_int, fEq_bl, fNe_bl, fEq_pair, fNe_pair, List.map, List.replicate, List.length_cons, List.length_nil, List.set_cons_zero, List.set_cons_succ, List.getElem?_cons_zero, List.getElem?_cons_succ, List.cons_append, List.nil_append, at_0, at_1, at_2, at_3, at_4, at_5, at_6, ix_0, ix_1, ix_2, put_same, put_put, decide_eq_true_eq, Bool.not_eq_true', decide_eq_false_iff_not, ite_not, ite_true, ite_false, if_true, if_false, Bool.false_eq_true, ↓reduceIte, reduceIte, Nat.reduceAdd, Nat.reduceSub, Int.reduceToNat, Nat.reduceLeDiff, not_false_eq_true, true_and, and_true, ne_eq, Int.reduceEq, Nat.zero_add, Bool.not_true, Bool.not_false, reduceCtorEq, nc0, nc1, nc2, nc3, nc4, nc5, fIx_ref put_same, fLen_ref put_same, ↓D3.lc3.eq_1, fInt, fTuple, fList, fNeS_s, fEqS_s, ↓D3.gstar3.eq_1, fInK_s, fNinK_s, fLenS_s, ↓D3.slcT3.eq_1, fCatT_t, dnew3, oQ, qD]))
        refine ite2 (fun z => absurd (z ▸ hk) (by decide +kernel)) (fun _ => ?_)
        (refine laterP_in ?_; repeat ((first | with_reducible refine laterP_i ?_ | with_reducible refine later_i ?_); try simp -implicitDefEqProofs -dsimp only [↓D3.seq3_stop, ↓D3.ifS3.eq_1, ↓D3.b3.eq_1, ↓D3.op3.eq_1, ↓D3.un3.eq_1, ↓D3.v3.eq_1, ↓D3.c3.eq_1, fIx_tup, fIx_lst, at3_0, at3_1, at3_2, at3_3, at3_4, at3_5, at3_6, start3, fI0_i, fI_i, fLt, fLe, fGt, fGe, fEqI, fNeI, fMin, fMax, ↓D3.asg3.eq_1, ↓D3.name3.eq_1, ↓D3.sub3.eq_1, ↓D3.ret3.eq_1, ↓D3.retN3.eq_1, ↓D3.nx3.eq_1, ↓D3.drop3.eq_1, ↓D3.par3.eq_1, ↓D3.aug3.eq_1, ↓D3.and3.eq_1, ↓D3.or3.eq_1, ↓D3.not3.eq_1, ↓D3.andV3.eq_1, ↓D3.orV3.eq_1, ↓D3.notV3.eq_1, ↓D3.if3.eq_1, ↓D3.nil3.eq_1, ↓D3.cons3.eq_1, ↓D3.tup3.eq_1, ↓D3.lst3.eq_1, ↓D3.lstM3.eq_1, ↓D3.gtup3.eq_1, ↓D3.gcons3.eq_1, ↓D3.gnil3.eq_1, ↓D3.gunl3.eq_1, ↓D3.bits3.eq_1, ↓D3.neg3.eq_1, ↓D3.chain3.eq_1, fIsi_int_int, fIsi_int_bool, fIsi_int_tuple, fIsi_int_str, fIsi_int_list, fIsi_bl_int, fIsi_bl_bool, fIsi_bl_tuple, fIsi_bl_str, fIsi_bl_list, fIsi_non_int, fIsi_non_bool, fIsi_non_tuple, fIsi_non_str, fIsi_non_list, fIsi_str_int, fIsi_str_bool, fIsi_str_tuple, fIsi_str_str, fIsi_str_list, fIsi_tup_int, fIsi_tup_bool, fIsi_tup_tuple, fIsi_tup_str, fIsi_tup_list, fIsi_lst_int, fIsi_lst_bool, fIsi_lst_tuple, fIsi_lst_str, fIsi_lst_list, fLen_lst, fLen_tup, fAbs, ↓D3.call3_k, ↓D3.kont_app, ↓D3.isN3.eq_1, ↓D3.notN3.eq_1, dIsN_non, dIsN_int, dIsN_bl, dIsN_str, dIsN_tup, dIsN_lst, ↓D3.slc3.eq_1, ↓D3.part3.eq_1, ↓D3.noPart3.eq_1, ↓D3.ilst3.eq_1, ↓D3.itup3.eq_1, ↓D3.irng1.eq_1, ↓D3.irng2.eq_1, ↓D3.for3.eq_1, fCat, fEq_int, fNe_int, fEq_bl, fNe_bl, fEq_pair, fNe_pair, List.map, List.replicate, List.length_cons, List.length_nil, List.set_cons_zero, List.set_cons_succ, List.getElem?_cons_zero, List.getElem?_cons_succ, List.cons_append, List.nil_append, at_0, at_1, at_2, at_3, at_4, at_5, at_6, ix_0, ix_1, ix_2, put_same, put_put, decide_eq_true_eq, Bool.not_eq_true', decide_eq_false_iff_not, ite_not, ite_true, ite_false, if_true, if_false, Bool.false_eq_true, ↓reduceIte, reduceIte, Nat.reduceAdd, Nat.reduceSub, Int.reduceToNat, Nat.reduceLeDiff, not_false_eq_true, true_and, and_true, ne_eq, Int.reduceEq, Nat.zero_add, Bool.not_true, Bool.not_false, reduceCtorEq, nc0, nc1, nc2, nc3, nc4, nc5, fIx_ref put_same, fLen_ref put_same, ↓D3.lc3.eq_1, fInt, fTuple, fList, fNeS_s, fEqS_s, ↓D3.gstar3.eq_1, fInK_s, fNinK_s, fLenS_s, ↓D3.slcT3.eq_1, fCatT_t, dnew3]))
        refine ⟨b, x, u, rfl, wb, hb, by omega, ?_⟩
        cases u with
        | none =>
          rw [op2_none_r] at q
          (refine laterP_in ?_; repeat ((first | with_reducible refine laterP_i ?_ | with_reducible refine later_i ?_); try simp -implicitDefEqProofs -dsimp only [↓D3.seq3_stop, ↓D3.ifS3.eq_1, ↓D3.b3.eq_1, ↓D3.op3.eq_1, ↓D3.un3.eq_1, ↓D3.v3.eq_1, ↓D3.c3.eq_1, fIx_tup, fIx_lst, at3_0, at3_1, at3_2, at3_3, at3_4, at3_5, at3_6, start3, fI0_i, fI_i, fLt, fLe, fGt, fGe, fEqI, fNeI, fMin, fMax, ↓D3.asg3.eq_1, ↓D3.name3.eq_1, ↓D3.sub3.eq_1, ↓D3.ret3.eq_1, ↓D3.retN3.eq_1, ↓D3.nx3.eq_1, ↓D3.drop3.eq_1, ↓D3.par3.eq_1, ↓D3.aug3.eq_1, ↓D3.and3.eq_1, ↓D3.or3.eq_1, ↓D3.not3.eq_1, ↓D3.andV3.eq_1, ↓D3.orV3.eq_1, ↓D3.notV3.eq_1, ↓D3.if3.eq_1, ↓D3.nil3.eq_1, ↓D3.cons3.eq_1, ↓D3.tup3.eq_1, ↓D3.lst3.eq_1, ↓D3.lstM3.eq_1, ↓D3.gtup3.eq_1, ↓D3.gcons3.eq_1, ↓D3.gnil3.eq_1, ↓D3.gunl3.eq_1, ↓D3.bits3.eq_1, ↓D3.neg3.eq_1, ↓D3.chain3.eq_1, fIsi_int_int, fIsi_int_bool, fIsi_int_tuple, fIsi_int_str, fIsi_int_list, fIsi_bl_int, fIsi_bl_bool, fIsi_bl_tuple, fIsi_bl_str, fIsi_bl_list, fIsi_non_int, fIsi_non_bool, fIsi_non_tuple, fIsi_non_str, fIsi_non_list, fIsi_str_int, fIsi_str_bool, fIsi_str_tuple, fIsi_str_str, fIsi_str_list, fIsi_tup_int, fIsi_tup_bool, fIsi_tup_tuple, fIsi_tup_str, fIsi_tup_list, fIsi_lst_int, fIsi_lst_bool, fIsi_lst_tuple, fIsi_lst_str, fIsi_lst_list, fLen_lst, fLen_tup, fAbs, ↓D3.call3_k, ↓D3.kont_app, ↓D3.isN3.eq_1, ↓D3.notN3.eq_1, dIsN_non, dIsN_int, dIsN_bl, dIsN_str, dIsN_tup, dIsN_lst, ↓D3.slc3.eq_1, ↓D3.part3.eq_1, ↓D3.noPart3.eq_1, ↓D3.ilst3.eq_1, ↓D3.itup3.eq_1, ↓D3.irng1.eq_1, ↓D3.irng2.eq_1, ↓D3.for3.eq_1, fCat, fEq_int, fNe_int, fEq_bl, fNe_bl, fEq_pair, fNe_pair, List.map, List.replicate, List.length_cons, List.length_nil, List.set_cons_zero, List.set_cons_succ, List.getElem?_cons_zero, List.getElem?_cons_succ, List.cons_append, List.nil_append, at_0, at_1, at_2, at_3, at_4, at_5, at_6, ix_0, ix_1, ix_2, put_same, put_put, decide_eq_true_eq, Bool.not_eq_true', decide_eq_false_iff_not, ite_not, ite_true, ite_false, if_true, if_false, Bool.false_eq_true, ↓reduceIte, reduceIte, Nat.reduceAdd, Nat.reduceSub, Int.reduceToNat, Nat.reduceLeDiff, not_false_eq_true, true_and, and_true, ne_eq, Int.reduceEq, Nat.zero_add, Bool.not_true, Bool.not_false, reduceCtorEq, nc0, nc1, nc2, nc3, nc4, nc5, fIx_ref put_same, fLen_ref put_same, ↓D3.lc3.eq_1, fInt, fTuple, fList, fNeS_s, fEqS_s, ↓D3.gstar3.eq_1, fInK_s, fNinK_s, fLenS_s, ↓D3.slcT3.eq_1, fCatT_t, dnew3, oQ]))
          exact q
        | some r =>
          have hp := (ha.sm p rfl).le bl
          have hr' := (hb.sm r rfl).le bl
          have p1 := hp.1
          have p2 : ((p.den : Nat) : Int).natAbs < 2 ^ 1535 := by rw [Int.natAbs_natCast]; exact hp.2
          have r1 := hr'.1
          have r2 : ((r.den : Nat) : Int).natAbs < 2 ^ 1535 := by rw [Int.natAbs_natCast]; exact hr'.2
          have a1 := abs_nd hp hr'
          have a2 := abs_nd hr' hp
          have a3 := abs_dd hp hr'
          have a4 := abs_nn hp hr'
          have big : 2 * 2 ^ (2 * 1535) ≤ 2 ^ 4000 := by rw [← two_pow1]; exact pow_mono (by decide)
          have fin : ∀ (a b : Int), b ≠ 0 → a.natAbs < 2 ^ 4000 → b.natAbs < 2 ^ 4000 → Q (qD (Rat.divInt a b)) m → ∀ P : DK, (∀ d, Q d m → P d m) → sp_fraction [.int a, .int b] m P := fun a b hb la lb hq P hP =>
            ⟨a, b, rfl, hb, la, lb, fun t u hu he hg _ _ => hP _ (by
              obtain ⟨e1, e2⟩ := rat_of hb hu he hg
              rw [e1, e2]
              exact hq)⟩
          unfold op2 at q
          simp only at q
          (refine laterP_in ?_; repeat ((first | with_reducible refine laterP_i ?_ | with_reducible refine later_i ?_); try simp -implicitDefEqProofs -dsimp only [↓D3.seq3_stop, ↓D3.ifS3.eq_1, ↓D3.b3.eq_1, ↓D3.op3.eq_1, ↓D3.un3.eq_1, ↓D3.v3.eq_1, ↓D3.c3.eq_1, fIx_tup, fIx_lst, at3_0, at3_1, at3_2, at3_3, at3_4, at3_5, at3_6, start3, fI0_i, fI_i, fLt, fLe, fGt, fGe, fEqI, fNeI, fMin, fMax, ↓D3.asg3.eq_1, ↓D3.name3.eq_1, ↓D3.sub3.eq_1, ↓D3.ret3.eq_1, ↓D3.retN3.eq_1, ↓D3.nx3.eq_1, ↓D3.drop3.eq_1, ↓D3.par3.eq_1, ↓D3.aug3.eq_1, ↓D3.and3.eq_1, ↓D3.or3.eq_1, ↓D3.not3.eq_1, ↓D3.andV3.eq_1, ↓D3.orV3.eq_1, ↓D3.notV3.eq_1, ↓D3.if3.eq_1, ↓D3.nil3.eq_1, ↓D3.cons3.eq_1, ↓D3.tup3.eq_1, ↓D3.lst3.eq_1, ↓D3.lstM3.eq_1, ↓D3.gtup3.eq_1, ↓D3.gcons3.eq_1, ↓D3.gnil3.eq_1, ↓D3.gunl3.eq_1, ↓D3.bits3.eq_1, ↓D3.neg3.eq_1, ↓D3.chain3.eq_1, fIsi_int_int, fIsi_int_bool, fIsi_int_tuple, fIsi_int_str, fIsi_int_list, fIsi_bl_int, fIsi_bl_bool, fIsi_bl_tuple, fIsi_bl_str, fIsi_bl_list, fIsi_non_int, fIsi_non_bool, fIsi_non_tuple, fIsi_non_str, fIsi_non_list, fIsi_str_int, fIsi_str_bool, fIsi_str_tuple, fIsi_str_str, fIsi_str_list, fIsi_tup_int, fIsi_tup_bool, fIsi_tup_tuple, fIsi_tup_str, fIsi_tup_list, fIsi_lst_int, fIsi_lst_bool, fIsi_lst_tuple, fIsi_lst_str, fIsi_lst_list, fLen_lst, fLen_tup, fAbs, ↓D3.call3_k, ↓D3.kont_app, ↓D3.isN3.eq_1, ↓D3.notN3.eq_1, dIsN_non, dIsN_int, dIsN_bl, dIsN_str, dIsN_tup, dIsN_lst, ↓D3.slc3.eq_1, ↓D3.part3.eq_1, ↓D3.noPart3.eq_1, ↓D3.ilst3.eq_1, ↓D3.itup3.eq_1, ↓D3.irng1.eq_1, ↓D3.irng2.eq_1, ↓D3.for3.eq_1, fCat, fEq_int, fNe_int, fEq_bl, fNe_bl, fEq_pair, fNe_pair, List.map, List.replicate, List.length_cons, List.length_nil, List.set_cons_zero, List.set_cons_succ, List.getElem?_cons_zero, List.getElem?_cons_succ, List.cons_append, List.nil_append, at_0, at_1, at_2, at_3, at_4, at_5, at_6, ix_0, ix_1, ix_2, put_same, put_put, decide_eq_true_eq, Bool.not_eq_true', decide_eq_false_iff_not, ite_not, ite_true, ite_false, if_true, if_false, Bool.false_eq_true, ↓reduceIte, reduceIte, Nat.reduceAdd, Nat.reduceSub, Int.reduceToNat, Nat.reduceLeDiff, not_false_eq_true, true_and, and_true, ne_eq, Int.reduceEq, Nat.zero_add, Bool.not_true, Bool.not_false, reduceCtorEq, nc0, nc1, nc2, nc3, nc4, nc5, fIx_ref put_same, fLen_ref put_same, ↓D3.lc3.eq_1, fInt, fTuple, fList, fNeS_s, fEqS_s, ↓D3.gstar3.eq_1, fInK_s, fNinK_s, fLenS_s, ↓D3.slcT3.eq_1, fCatT_t, dnew3, oQ, qD]))
          refine ite_and2 (fun hz => ?_) (fun hno => ?_)
          · rw [if_neg (show ¬ k = "plus" from fun z => absurd (hz.1.symm.trans z) (by decide +kernel)), if_neg (show ¬ k = "minus" from fun z => absurd (hz.1.symm.trans z) (by decide +kernel)), if_neg (show ¬ k = "times" from fun z => absurd (hz.1.symm.trans z) (by decide +kernel)), if_pos (show k = "over" from hz.1), if_pos hz.2] at q
            exact q
          have hl : ∀ a b : Int, True := fun _ _ => trivial
          (refine laterP_in ?_; repeat ((first | with_reducible refine laterP_i ?_ | with_reducible refine later_i ?_); try simp -implicitDefEqProofs -dsimp only [↓D3.seq3_stop, ↓D3.ifS3.eq_1, ↓D3.b3.eq_1, ↓D3.op3.eq_1, ↓D3.un3.eq_1, ↓D3.v3.eq_1, ↓D3.c3.eq_1, fIx_tup, fIx_lst, at3_0, at3_1, at3_2, at3_3, at3_4, at3_5, at3_6, start3, fI0_i, fI_i, fLt, fLe, fGt, fGe, fEqI, fNeI, fMin, fMax, ↓D3.asg3.eq_1, ↓D3.name3.eq_1, ↓D3.sub3.eq_1, ↓D3.ret3.eq_1, ↓D3.retN3.eq_1, ↓D3.nx3.eq_1, ↓D3.drop3.eq_1, ↓D3.par3.eq_1, ↓D3.aug3.eq_1, ↓D3.and3.eq_1, ↓D3.or3.eq_1, ↓D3.not3.eq_1, ↓D3.andV3.eq_1, ↓D3.orV3.eq_1, ↓D3.notV3.eq_1, ↓D3.if3.eq_1, ↓D3.nil3.eq_1, ↓D3.cons3.eq_1, ↓D3.tup3.eq_1, ↓D3.lst3.eq_1, ↓D3.lstM3.eq_1, ↓D3.gtup3.eq_1, ↓D3.gcons3.eq_1, ↓D3.gnil3.eq_1, ↓D3.gunl3.eq_1, ↓D3.bits3.eq_1, ↓D3.neg3.eq_1, ↓D3.chain3.eq_1, fIsi_int_int, fIsi_int_bool, fIsi_int_tuple, fIsi_int_str, fIsi_int_list, fIsi_bl_int, fIsi_bl_bool, fIsi_bl_tuple, fIsi_bl_str, fIsi_bl_list, fIsi_non_int, fIsi_non_bool, fIsi_non_tuple, fIsi_non_str, fIsi_non_list, fIsi_str_int, fIsi_str_bool, fIsi_str_tuple, fIsi_str_str, fIsi_str_list, fIsi_tup_int, fIsi_tup_bool, fIsi_tup_tuple, fIsi_tup_str, fIsi_tup_list, fIsi_lst_int, fIsi_lst_bool, fIsi_lst_tuple, fIsi_lst_str, fIsi_lst_list, fLen_lst, fLen_tup, fAbs, ↓D3.call3_k, ↓D3.kont_app, ↓D3.isN3.eq_1, ↓D3.notN3.eq_1, dIsN_non, dIsN_int, dIsN_bl, dIsN_str, dIsN_tup, dIsN_lst, ↓D3.slc3.eq_1, ↓D3.part3.eq_1, ↓D3.noPart3.eq_1, ↓D3.ilst3.eq_1, ↓D3.itup3.eq_1, ↓D3.irng1.eq_1, ↓D3.irng2.eq_1, ↓D3.for3.eq_1, fCat, fEq_int, fNe_int, fEq_bl, fNe_bl, fEq_pair, fNe_pair, List.map, List.replicate, List.length_cons, List.length_nil, List.set_cons_zero, List.set_cons_succ, List.getElem?_cons_zero, List.getElem?_cons_succ, List.cons_append, List.nil_append, at_0, at_1, at_2, at_3, at_4, at_5, at_6, ix_0, ix_1, ix_2, put_same, put_put, decide_eq_true_eq, Bool.not_eq_true', decide_eq_false_iff_not, ite_not, ite_true, ite_false, if_true, if_false, Bool.false_eq_true, ↓reduceIte, reduceIte, Nat.reduceAdd, Nat.reduceSub, Int.reduceToNat, Nat.reduceLeDiff, not_false_eq_true, true_and, and_true, ne_eq, Int.reduceEq, Nat.zero_add, Bool.not_true, Bool.not_false, reduceCtorEq, nc0, nc1, nc2, nc3, nc4, nc5, fIx_ref put_same, fLen_ref put_same, ↓D3.lc3.eq_1, fInt, fTuple, fList, fNeS_s, fEqS_s, ↓D3.gstar3.eq_1, fInK_s, fNinK_s, fLenS_s, ↓D3.slcT3.eq_1, fCatT_t, dnew3]))
          refine ite2 (fun h => ?_) (fun h1 => ?_)
          · rw [if_pos (show k = "plus" from h)] at q
            (refine laterP_in ?_; repeat ((first | with_reducible refine laterP_i ?_ | with_reducible refine later_i ?_); try simp -implicitDefEqProofs -dsimp only [↓D3.seq3_stop, ↓D3.ifS3.eq_1, ↓D3.b3.eq_1, ↓D3.op3.eq_1, ↓D3.un3.eq_1, ↓D3.v3.eq_1, ↓D3.c3.eq_1, fIx_tup, fIx_lst, at3_0, at3_1, at3_2, at3_3, at3_4, at3_5, at3_6, start3, fI0_i, fI_i, fLt, fLe, fGt, fGe, fEqI, fNeI, fMin, fMax, ↓D3.asg3.eq_1, ↓D3.name3.eq_1, ↓D3.sub3.eq_1, ↓D3.ret3.eq_1, ↓D3.retN3.eq_1, ↓D3.nx3.eq_1, ↓D3.drop3.eq_1, ↓D3.par3.eq_1, ↓D3.aug3.eq_1, ↓D3.and3.eq_1, ↓D3.or3.eq_1, ↓D3.not3.eq_1, ↓D3.andV3.eq_1, ↓D3.orV3.eq_1, ↓D3.notV3.eq_1, ↓D3.if3.eq_1, ↓D3.nil3.eq_1, ↓D3.cons3.eq_1, ↓D3.tup3.eq_1, ↓D3.lst3.eq_1, ↓D3.lstM3.eq_1, ↓D3.gtup3.eq_1, ↓D3.gcons3.eq_1, ↓D3.gnil3.eq_1, ↓D3.gunl3.eq_1, ↓D3.bits3.eq_1, ↓D3.neg3.eq_1, ↓D3.chain3.eq_1, fIsi_int_int, fIsi_int_bool, fIsi_int_tuple, fIsi_int_str, fIsi_int_list, fIsi_bl_int, fIsi_bl_bool, fIsi_bl_tuple, fIsi_bl_str, fIsi_bl_list, fIsi_non_int, fIsi_non_bool, fIsi_non_tuple, fIsi_non_str, fIsi_non_list, fIsi_str_int, fIsi_str_bool, fIsi_str_tuple, fIsi_str_str, fIsi_str_list, fIsi_tup_int, fIsi_tup_bool, fIsi_tup_tuple, fIsi_tup_str, fIsi_tup_list, fIsi_lst_int, fIsi_lst_bool, fIsi_lst_tuple, fIsi_lst_str, fIsi_lst_list, fLen_lst, fLen_tup, fAbs, ↓D3.call3_k, ↓D3.kont_app, ↓D3.isN3.eq_1, ↓D3.notN3.eq_1, dIsN_non, dIsN_int, dIsN_bl, dIsN_str, dIsN_tup, dIsN_lst, ↓D3.slc3.eq_1, ↓D3.part3.eq_1, ↓D3.noPart3.eq_1, ↓D3.ilst3.eq_1, ↓D3.itup3.eq_1, ↓D3.irng1.eq_1, ↓D3.irng2.eq_1, ↓D3.for3.eq_1, fCat, fEq_int, fNe_int, fEq_bl, fNe_bl, fEq_pair, fNe_pair, List.map, List.replicate, List.length_cons, List.length_nil, List.set_cons_zero, List.set_cons_succ, List.getElem?_cons_zero, List.getElem?_cons_succ, List.cons_append, List.nil_append, at_0, at_1, at_2, at_3, at_4, at_5, at_6, ix_0, ix_1, ix_2, put_same, put_put, decide_eq_true_eq, Bool.not_eq_true', decide_eq_false_iff_not, ite_not, ite_true, ite_false, if_true, if_false, Bool.false_eq_true, ↓reduceIte, reduceIte, Nat.reduceAdd, Nat.reduceSub, Int.reduceToNat, Nat.reduceLeDiff, not_false_eq_true, true_and, and_true, ne_eq, Int.reduceEq, Nat.zero_add, Bool.not_true, Bool.not_false, reduceCtorEq, nc0, nc1, nc2, nc3, nc4, nc5, fIx_ref put_same, fLen_ref put_same, ↓D3.lc3.eq_1, fInt, fTuple, fList, fNeS_s, fEqS_s, ↓D3.gstar3.eq_1, fInK_s, fNinK_s, fLenS_s, ↓D3.slcT3.eq_1, fCatT_t, dnew3]))
            refine ⟨mul_c p1 r2 (by decide), mul_c r1 p2 (by decide), mul_c p2 r2 (by decide), fin _ _ (nd_ne p r) (by omega) (by omega) ?_ _ fun d hq => hq⟩
            rw [← r_add]
            exact q
          rw [if_neg (show ¬ k = "plus" from h1)] at q
          (refine laterP_in ?_; repeat ((first | with_reducible refine laterP_i ?_ | with_reducible refine later_i ?_); try simp -implicitDefEqProofs -dsimp only [↓D3.seq3_stop, ↓D3.ifS3.eq_1, ↓D3.b3.eq_1, ↓D3.op3.eq_1, ↓D3.un3.eq_1, ↓D3.v3.eq_1, ↓D3.c3.eq_1, fIx_tup, fIx_lst, at3_0, at3_1, at3_2, at3_3, at3_4, at3_5, at3_6, start3, fI0_i, fI_i, fLt, fLe, fGt, fGe, fEqI, fNeI, fMin, fMax, ↓D3.asg3.eq_1, ↓D3.name3.eq_1, ↓D3.sub3.eq_1, ↓D3.ret3.eq_1, ↓D3.retN3.eq_1, ↓D3.nx3.eq_1, ↓D3.drop3.eq_1, ↓D3.par3.eq_1, ↓D3.aug3.eq_1, ↓D3.and3.eq_1, ↓D3.or3.eq_1, ↓D3.not3.eq_1, ↓D3.andV3.eq_1, ↓D3.orV3.eq_1, ↓D3.notV3.eq_1, ↓D3.if3.eq_1, ↓D3.nil3.eq_1, ↓D3.cons3.eq_1, ↓D3.tup3.eq_1, ↓D3.lst3.eq_1, ↓D3.lstM3.eq_1, ↓D3.gtup3.eq_1, ↓D3.gcons3.eq_1, ↓D3.gnil3.eq_1, ↓D3.gunl3.eq_1, ↓D3.bits3.eq_1, ↓D3.neg3.eq_1, ↓D3.chain3.eq_1, fIsi_int_int, fIsi_int_bool, fIsi_int_tuple, fIsi_int_str, fIsi_int_list, fIsi_bl_int, fIsi_bl_bool, fIsi_bl_tuple, fIsi_bl_str, fIsi_bl_list, fIsi_non_int, fIsi_non_bool, fIsi_non_tuple, fIsi_non_str, fIsi_non_list, fIsi_str_int, fIsi_str_bool, fIsi_str_tuple, fIsi_str_str, fIsi_str_list, fIsi_tup_int, fIsi_tup_bool, fIsi_tup_tuple, fIsi_tup_str, fIsi_tup_list, fIsi_lst_int, fIsi_lst_bool, fIsi_lst_tuple, fIsi_lst_str, fIsi_lst_list, fLen_lst, fLen_tup, fAbs, ↓D3.call3_k, ↓D3.kont_app, ↓D3.isN3.eq_1, ↓D3.notN3.eq_1, dIsN_non, dIsN_int, dIsN_bl, dIsN_str, dIsN_tup, dIsN_lst, ↓D3.slc3.eq_1, ↓D3.part3.eq_1, ↓D3.noPart3.eq_1, ↓D3.ilst3.eq_1, ↓D3.itup3.eq_1, ↓D3.irng1.eq_1, ↓D3.irng2.eq_1, ↓D3.for3.eq_1, fCat, fEq_int, fNe_int, fEq_bl, fNe_bl, fEq_pair, fNe_pair, List.map, List.replicate, List.length_cons, List.length_nil, List.set_cons_zero, List.set_cons_succ, List.getElem?_cons_zero, List.getElem?_cons_succ, List.cons_append, List.nil_append, at_0, at_1, at_2, at_3, at_4, at_5, at_6, ix_0, ix_1, ix_2, put_same, put_put, decide_eq_true_eq, Bool.not_eq_true', decide_eq_false_iff_not, ite_not, ite_true, ite_false, if_true, if_false, Bool.false_eq_true, ↓reduceIte, reduceIte, Nat.reduceAdd, Nat.reduceSub, Int.reduceToNat, Nat.reduceLeDiff, not_false_eq_true, true_and, and_true, ne_eq, Int.reduceEq, Nat.zero_add, Bool.not_true, Bool.not_false, reduceCtorEq, nc0, nc1, nc2, nc3, nc4, nc5, fIx_ref put_same, fLen_ref put_same, ↓D3.lc3.eq_1, fInt, fTuple, fList, fNeS_s, fEqS_s, ↓D3.gstar3.eq_1, fInK_s, fNinK_s, fLenS_s, ↓D3.slcT3.eq_1, fCatT_t, dnew3]))
          refine ite2 (fun h => ?_) (fun h2 => ?_)
          · rw [if_pos (show k = "minus" from h)] at q
            (refine laterP_in ?_; repeat ((first | with_reducible refine laterP_i ?_ | with_reducible refine later_i ?_); try simp -implicitDefEqProofs -dsimp only [↓D3.seq3_stop, ↓D3.ifS3.eq_1, ↓D3.b3.eq_1, ↓D3.op3.eq_1, ↓D3.un3.eq_1, ↓D3.v3.eq_1, ↓D3.c3.eq_1, fIx_tup, fIx_lst, at3_0, at3_1, at3_2, at3_3, at3_4, at3_5, at3_6, start3, fI0_i, fI_i, fLt, fLe, fGt, fGe, fEqI, fNeI, fMin, fMax, ↓D3.asg3.eq_1, ↓D3.name3.eq_1, ↓D3.sub3.eq_1, ↓D3.ret3.eq_1, ↓D3.retN3.eq_1, ↓D3.nx3.eq_1, ↓D3.drop3.eq_1, ↓D3.par3.eq_1, ↓D3.aug3.eq_1, ↓D3.and3.eq_1, ↓D3.or3.eq_1, ↓D3.not3.eq_1, ↓D3.andV3.eq_1, ↓D3.orV3.eq_1, ↓D3.notV3.eq_1, ↓D3.if3.eq_1, ↓D3.nil3.eq_1, ↓D3.cons3.eq_1, ↓D3.tup3.eq_1, ↓D3.lst3.eq_1, ↓D3.lstM3.eq_1, ↓D3.gtup3.eq_1, ↓D3.gcons3.eq_1, ↓D3.gnil3.eq_1, ↓D3.gunl3.eq_1, ↓D3.bits3.eq_1, ↓D3.neg3.eq_1, ↓D3.chain3.eq_1, fIsi_int_int, fIsi_int_bool, fIsi_int_tuple, fIsi_int_str, fIsi_int_list, fIsi_bl_int, fIsi_bl_bool, fIsi_bl_tuple, fIsi_bl_str, fIsi_bl_list, fIsi_non_int, fIsi_non_bool, fIsi_non_tuple, fIsi_non_str, fIsi_non_list, fIsi_str_int, fIsi_str_bool, fIsi_str_tuple, fIsi_str_str, fIsi_str_list, fIsi_tup_int, fIsi_tup_bool, fIsi_tup_tuple, fIsi_tup_str, fIsi_tup_list, fIsi_lst_int, fIsi_lst_bool, fIsi_lst_tuple, fIsi_lst_str, fIsi_lst_list, fLen_lst, fLen_tup, fAbs, ↓D3.call3_k, ↓D3.kont_app, ↓D3.isN3.eq_1, ↓D3.notN3.eq_1, dIsN_non, dIsN_int, dIsN_bl, dIsN_str, dIsN_tup, dIsN_lst, ↓D3.slc3.eq_1, ↓D3.part3.eq_1, ↓D3.noPart3.eq_1, ↓D3.ilst3.eq_1, ↓D3.itup3.eq_1, ↓D3.irng1.eq_1, ↓D3.irng2.eq_1, ↓D3.for3.eq_1, fCat, fEq_int, fNe_int, fEq_bl, fNe_bl, fEq_pair, fNe_pair, List.map, List.replicate, List.length_cons, List.length_nil, List.set_cons_zero, List.set_cons_succ, List.getElem?_cons_zero, List.getElem?_cons_succ, List.cons_append, List.nil_append, at_0, at_1, at_2, at_3, at_4, at_5, at_6, ix_0, ix_1, ix_2, put_same, put_put, decide_eq_true_eq, Bool.not_eq_true', decide_eq_false_iff_not, ite_not, ite_true, ite_false, if_true, if_false, Bool.false_eq_true, ↓reduceIte, reduceIte, Nat.reduceAdd, Nat.reduceSub, Int.reduceToNat, Nat.reduceLeDiff, not_false_eq_true, true_and, and_true, ne_eq, Int.reduceEq, Nat.zero_add, Bool.not_true, Bool.not_false, reduceCtorEq, nc0, nc1, nc2, nc3, nc4, nc5, fIx_ref put_same, fLen_ref put_same, ↓D3.lc3.eq_1, fInt, fTuple, fList, fNeS_s, fEqS_s, ↓D3.gstar3.eq_1, fInK_s, fNinK_s, fLenS_s, ↓D3.slcT3.eq_1, fCatT_t, dnew3]))
            refine ⟨mul_c p1 r2 (by decide), mul_c r1 p2 (by decide), mul_c p2 r2 (by decide), fin _ _ (nd_ne p r) (by omega) (by omega) ?_ _ fun d hq => hq⟩
            rw [← r_sub]
            exact q
          rw [if_neg (show ¬ k = "minus" from h2)] at q
          (refine laterP_in ?_; repeat ((first | with_reducible refine laterP_i ?_ | with_reducible refine later_i ?_); try simp -implicitDefEqProofs -dsimp only [↓D3.seq3_stop, ↓D3.ifS3.eq_1, ↓D3.b3.eq_1, ↓D3.op3.eq_1, ↓D3.un3.eq_1, ↓D3.v3.eq_1, ↓D3.c3.eq_1, fIx_tup, fIx_lst, at3_0, at3_1, at3_2, at3_3, at3_4, at3_5, at3_6, start3, fI0_i, fI_i, fLt, fLe, fGt, fGe, fEqI, fNeI, fMin, fMax, ↓D3.asg3.eq_1, ↓D3.name3.eq_1, ↓D3.sub3.eq_1, ↓D3.ret3.eq_1, ↓D3.retN3.eq_1, ↓D3.nx3.eq_1, ↓D3.drop3.eq_1, ↓D3.par3.eq_1, ↓D3.aug3.eq_1, ↓D3.and3.eq_1, ↓D3.or3.eq_1, ↓D3.not3.eq_1, ↓D3.andV3.eq_1, ↓D3.orV3.eq_1, ↓D3.notV3.eq_1, ↓D3.if3.eq_1, ↓D3.nil3.eq_1, ↓D3.cons3.eq_1, ↓D3.tup3.eq_1, ↓D3.lst3.eq_1, ↓D3.lstM3.eq_1, ↓D3.gtup3.eq_1, ↓D3.gcons3.eq_1, ↓D3.gnil3.eq_1, ↓D3.gunl3.eq_1, ↓D3.bits3.eq_1, ↓D3.neg3.eq_1, ↓D3.chain3.eq_1, fIsi_int_int, fIsi_int_bool, fIsi_int_tuple, fIsi_int_str, fIsi_int_list, fIsi_bl_int, fIsi_bl_bool, fIsi_bl_tuple, fIsi_bl_str, fIsi_bl_list, fIsi_non_int, fIsi_non_bool, fIsi_non_tuple, fIsi_non_str, fIsi_non_list, fIsi_str_int, fIsi_str_bool, fIsi_str_tuple, fIsi_str_str, fIsi_str_list, fIsi_tup_int, fIsi_tup_bool, fIsi_tup_tuple, fIsi_tup_str, fIsi_tup_list, fIsi_lst_int, fIsi_lst_bool, fIsi_lst_tuple, fIsi_lst_str, fIsi_lst_list, fLen_lst, fLen_tup, fAbs, ↓D3.call3_k, ↓D3.kont_app, ↓D3.isN3.eq_1, ↓D3.notN3.eq_1, dIsN_non, dIsN_int, dIsN_bl, dIsN_str, dIsN_tup, dIsN_lst, ↓D3.slc3.eq_1, ↓D3.part3.eq_1, ↓D3.noPart3.eq_1, ↓D3.ilst3.eq_1, ↓D3.itup3.eq_1, ↓D3.irng1.eq_1, ↓D3.irng2.eq_1, ↓D3.for3.eq_1, fCat, fEq_int, fNe_int, fEq_bl, fNe_bl, fEq_pair, fNe_pair, List.map, List.replicate, List.length_cons, List.length_nil, List.set_cons_zero, List.set_cons_succ, List.getElem?_cons_zero, List.getElem?_cons_succ, List.cons_append, List.nil_append, at_0, at_1, at_2, at_3, at_4, at_5, at_6, ix_0, ix_1, ix_2, put_same, put_put, decide_eq_true_eq, Bool.not_eq_true', decide_eq_false_iff_not, ite_not, ite_true, ite_false, if_true, if_false, Bool.false_eq_true, ↓reduceIte, reduceIte, Nat.reduceAdd, Nat.reduceSub, Int.reduceToNat, Nat.reduceLeDiff, not_false_eq_true, true_and, and_true, ne_eq, Int.reduceEq, Nat.zero_add, Bool.not_true, Bool.not_false, reduceCtorEq, nc0, nc1, nc2, nc3, nc4, nc5, fIx_ref put_same, fLen_ref put_same, ↓D3.lc3.eq_1, fInt, fTuple, fList, fNeS_s, fEqS_s, ↓D3.gstar3.eq_1, fInK_s, fNinK_s, fLenS_s, ↓D3.slcT3.eq_1, fCatT_t, dnew3]))
          refine ite2 (fun h => ?_) (fun h3 => ?_)
          · rw [if_pos (show k = "times" from h)] at q
            (refine laterP_in ?_; repeat ((first | with_reducible refine laterP_i ?_ | with_reducible refine later_i ?_); try simp -implicitDefEqProofs -dsimp only [↓D3.seq3_stop, ↓D3.ifS3.eq_1, ↓D3.b3.eq_1, ↓D3.op3.eq_1, ↓D3.un3.eq_1, ↓D3.v3.eq_1, ↓D3.c3.eq_1, fIx_tup, fIx_lst, at3_0, at3_1, at3_2, at3_3, at3_4, at3_5, at3_6, start3, fI0_i, fI_i, fLt, fLe, fGt, fGe, fEqI, fNeI, fMin, fMax, ↓D3.asg3.eq_1, ↓D3.name3.eq_1, ↓D3.sub3.eq_1, ↓D3.ret3.eq_1, ↓D3.retN3.eq_1, ↓D3.nx3.eq_1, ↓D3.drop3.eq_1, ↓D3.par3.eq_1, ↓D3.aug3.eq_1, ↓D3.and3.eq_1, ↓D3.or3.eq_1, ↓D3.not3.eq_1, ↓D3.andV3.eq_1, ↓D3.orV3.eq_1, ↓D3.notV3.eq_1, ↓D3.if3.eq_1, ↓D3.nil3.eq_1, ↓D3.cons3.eq_1, ↓D3.tup3.eq_1, ↓D3.lst3.eq_1, ↓D3.lstM3.eq_1, ↓D3.gtup3.eq_1, ↓D3.gcons3.eq_1, ↓D3.gnil3.eq_1, ↓D3.gunl3.eq_1, ↓D3.bits3.eq_1, ↓D3.neg3.eq_1, ↓D3.chain3.eq_1, fIsi_int_int, fIsi_int_bool, fIsi_int_tuple, fIsi_int_str, fIsi_int_list, fIsi_bl_int, fIsi_bl_bool, fIsi_bl_tuple, fIsi_bl_str, fIsi_bl_list, fIsi_non_int, fIsi_non_bool, fIsi_non_tuple, fIsi_non_str, fIsi_non_list, fIsi_str_int, fIsi_str_bool, fIsi_str_tuple, fIsi_str_str, fIsi_str_list, fIsi_tup_int, fIsi_tup_bool, fIsi_tup_tuple, fIsi_tup_str, fIsi_tup_list, fIsi_lst_int, fIsi_lst_bool, fIsi_lst_tuple, fIsi_lst_str, fIsi_lst_list, fLen_lst, fLen_tup, fAbs, ↓D3.call3_k, ↓D3.kont_app, ↓D3.isN3.eq_1, ↓D3.notN3.eq_1, dIsN_non, dIsN_int, dIsN_bl, dIsN_str, dIsN_tup, dIsN_lst, ↓D3.slc3.eq_1, ↓D3.part3.eq_1, ↓D3.noPart3.eq_1, ↓D3.ilst3.eq_1, ↓D3.itup3.eq_1, ↓D3.irng1.eq_1, ↓D3.irng2.eq_1, ↓D3.for3.eq_1, fCat, fEq_int, fNe_int, fEq_bl, fNe_bl, fEq_pair, fNe_pair, List.map, List.replicate, List.length_cons, List.length_nil, List.set_cons_zero, List.set_cons_succ, List.getElem?_cons_zero, List.getElem?_cons_succ, List.cons_append, List.nil_append, at_0, at_1, at_2, at_3, at_4, at_5, at_6, ix_0, ix_1, ix_2, put_same, put_put, decide_eq_true_eq, Bool.not_eq_true', decide_eq_false_iff_not, ite_not, ite_true, ite_false, if_true, if_false, Bool.false_eq_true, ↓reduceIte, reduceIte, Nat.reduceAdd, Nat.reduceSub, Int.reduceToNat, Nat.reduceLeDiff, not_false_eq_true, true_and, and_true, ne_eq, Int.reduceEq, Nat.zero_add, Bool.not_true, Bool.not_false, reduceCtorEq, nc0, nc1, nc2, nc3, nc4, nc5, fIx_ref put_same, fLen_ref put_same, ↓D3.lc3.eq_1, fInt, fTuple, fList, fNeS_s, fEqS_s, ↓D3.gstar3.eq_1, fInK_s, fNinK_s, fLenS_s, ↓D3.slcT3.eq_1, fCatT_t, dnew3]))
            refine ⟨mul_c p1 r1 (by decide), mul_c p2 r2 (by decide), fin _ _ (nd_ne p r) (by omega) (by omega) ?_ _ fun d hq => hq⟩
            rw [← r_mul]
            exact q
          rw [if_neg (show ¬ k = "times" from h3)] at q
          (refine laterP_in ?_; repeat ((first | with_reducible refine laterP_i ?_ | with_reducible refine later_i ?_); try simp -implicitDefEqProofs -dsimp only [↓D3.seq3_stop, ↓D3.ifS3.eq_1, ↓D3.b3.eq_1, ↓D3.op3.eq_1, ↓D3.un3.eq_1, ↓D3.v3.eq_1, ↓D3.c3.eq_1, fIx_tup, fIx_lst, at3_0, at3_1, at3_2, at3_3, at3_4, at3_5, at3_6, start3, fI0_i, fI_i, fLt, fLe, fGt, fGe, fEqI, fNeI, fMin, fMax, ↓D3.asg3.eq_1, ↓D3.name3.eq_1, ↓D3.sub3.eq_1, ↓D3.ret3.eq_1, ↓D3.retN3.eq_1, ↓D3.nx3.eq_1, ↓D3.drop3.eq_1, ↓D3.par3.eq_1, ↓D3.aug3.eq_1, ↓D3.and3.eq_1, ↓D3.or3.eq_1, ↓D3.not3.eq_1, ↓D3.andV3.eq_1, ↓D3.orV3.eq_1, ↓D3.notV3.eq_1, ↓D3.if3.eq_1, ↓D3.nil3.eq_1, ↓D3.cons3.eq_1, ↓D3.tup3.eq_1, ↓D3.lst3.eq_1, ↓D3.lstM3.eq_1, ↓D3.gtup3.eq_1, ↓D3.gcons3.eq_1, ↓D3.gnil3.eq_1, ↓D3.gunl3.eq_1, ↓D3.bits3.eq_1, ↓D3.neg3.eq_1, ↓D3.chain3.eq_1, fIsi_int_int, fIsi_int_bool, fIsi_int_tuple, fIsi_int_str, fIsi_int_list, fIsi_bl_int, fIsi_bl_bool, fIsi_bl_tuple, fIsi_bl_str, fIsi_bl_list, fIsi_non_int, fIsi_non_bool, fIsi_non_tuple, fIsi_non_str, fIsi_non_list, fIsi_str_int, fIsi_str_bool, fIsi_str_tuple, fIsi_str_str, fIsi_str_list, fIsi_tup_int, fIsi_tup_bool, fIsi_tup_tuple, fIsi_tup_str, fIsi_tup_list, fIsi_lst_int, fIsi_lst_bool, fIsi_lst_tuple, fIsi_lst_str, fIsi_lst_list, fLen_lst, fLen_tup, fAbs, ↓D3.call3_k, ↓D3.kont_app, ↓D3.isN3.eq_1, ↓D3.notN3.eq_1, dIsN_non, dIsN_int, dIsN_bl, dIsN_str, dIsN_tup, dIsN_lst, ↓D3.slc3.eq_1, ↓D3.part3.eq_1, ↓D3.noPart3.eq_1, ↓D3.ilst3.eq_1, ↓D3.itup3.eq_1, ↓D3.irng1.eq_1, ↓D3.irng2.eq_1, ↓D3.for3.eq_1, fCat, fEq_int, fNe_int, fEq_bl, fNe_bl, fEq_pair, fNe_pair, List.map, List.replicate, List.length_cons, List.length_nil, List.set_cons_zero, List.set_cons_succ, List.getElem?_cons_zero, List.getElem?_cons_succ, List.cons_append, List.nil_append, at_0, at_1, at_2, at_3, at_4, at_5, at_6, ix_0, ix_1, ix_2, put_same, put_put, decide_eq_true_eq, Bool.not_eq_true', decide_eq_false_iff_not, ite_not, ite_true, ite_false, if_true, if_false, Bool.false_eq_true, ↓reduceIte, reduceIte, Nat.reduceAdd, Nat.reduceSub, Int.reduceToNat, Nat.reduceLeDiff, not_false_eq_true, true_and, and_true, ne_eq, Int.reduceEq, Nat.zero_add, Bool.not_true, Bool.not_false, reduceCtorEq, nc0, nc1, nc2, nc3, nc4, nc5, fIx_ref put_same, fLen_ref put_same, ↓D3.lc3.eq_1, fInt, fTuple, fList, fNeS_s, fEqS_s, ↓D3.gstar3.eq_1, fInK_s, fNinK_s, fLenS_s, ↓D3.slcT3.eq_1, fCatT_t, dnew3]))
          refine ite2 (fun h => ?_) (fun h4 => ?_)
          · have h0 : ¬ r.num = 0 := fun z => hno ⟨h, z⟩
            rw [if_pos (show k = "over" from h), if_neg h0] at q
            (refine laterP_in ?_; repeat ((first | with_reducible refine laterP_i ?_ | with_reducible refine later_i ?_); try simp -implicitDefEqProofs -dsimp only [↓D3.seq3_stop, ↓D3.ifS3.eq_1, ↓D3.b3.eq_1, ↓D3.op3.eq_1, ↓D3.un3.eq_1, ↓D3.v3.eq_1, ↓D3.c3.eq_1, fIx_tup, fIx_lst, at3_0, at3_1, at3_2, at3_3, at3_4, at3_5, at3_6, start3, fI0_i, fI_i, fLt, fLe, fGt, fGe, fEqI, fNeI, fMin, fMax, ↓D3.asg3.eq_1, ↓D3.name3.eq_1, ↓D3.sub3.eq_1, ↓D3.ret3.eq_1, ↓D3.retN3.eq_1, ↓D3.nx3.eq_1, ↓D3.drop3.eq_1, ↓D3.par3.eq_1, ↓D3.aug3.eq_1, ↓D3.and3.eq_1, ↓D3.or3.eq_1, ↓D3.not3.eq_1, ↓D3.andV3.eq_1, ↓D3.orV3.eq_1, ↓D3.notV3.eq_1, ↓D3.if3.eq_1, ↓D3.nil3.eq_1, ↓D3.cons3.eq_1, ↓D3.tup3.eq_1, ↓D3.lst3.eq_1, ↓D3.lstM3.eq_1, ↓D3.gtup3.eq_1, ↓D3.gcons3.eq_1, ↓D3.gnil3.eq_1, ↓D3.gunl3.eq_1, ↓D3.bits3.eq_1, ↓D3.neg3.eq_1, ↓D3.chain3.eq_1, fIsi_int_int, fIsi_int_bool, fIsi_int_tuple, fIsi_int_str, fIsi_int_list, fIsi_bl_int, fIsi_bl_bool, fIsi_bl_tuple, fIsi_bl_str, fIsi_bl_list, fIsi_non_int, fIsi_non_bool, fIsi_non_tuple, fIsi_non_str, fIsi_non_list, fIsi_str_int, fIsi_str_bool, fIsi_str_tuple, fIsi_str_str, fIsi_str_list, fIsi_tup_int, fIsi_tup_bool, fIsi_tup_tuple, fIsi_tup_str, fIsi_tup_list, fIsi_lst_int, fIsi_lst_bool, fIsi_lst_tuple, fIsi_lst_str, fIsi_lst_list, fLen_lst, fLen_tup, fAbs, ↓D3.call3_k, ↓D3.kont_app, ↓D3.isN3.eq_1, ↓D3.notN3.eq_1, dIsN_non, dIsN_int, dIsN_bl, dIsN_str, dIsN_tup, dIsN_lst, ↓D3.slc3.eq_1, ↓D3.part3.eq_1, ↓D3.noPart3.eq_1, ↓D3.ilst3.eq_1, ↓D3.itup3.eq_1, ↓D3.irng1.eq_1, ↓D3.irng2.eq_1, ↓D3.for3.eq_1, fCat, fEq_int, fNe_int, fEq_bl, fNe_bl, fEq_pair, fNe_pair, List.map, List.replicate, List.length_cons, List.length_nil, List.set_cons_zero, List.set_cons_succ, List.getElem?_cons_zero, List.getElem?_cons_succ, List.cons_append, List.nil_append, at_0, at_1, at_2, at_3, at_4, at_5, at_6, ix_0, ix_1, ix_2, put_same, put_put, decide_eq_true_eq, Bool.not_eq_true', decide_eq_false_iff_not, ite_not, ite_true, ite_false, if_true, if_false, Bool.false_eq_true, ↓reduceIte, reduceIte, Nat.reduceAdd, Nat.reduceSub, Int.reduceToNat, Nat.reduceLeDiff, not_false_eq_true, true_and, and_true, ne_eq, Int.reduceEq, Nat.zero_add, Bool.not_true, Bool.not_false, reduceCtorEq, nc0, nc1, nc2, nc3, nc4, nc5, fIx_ref put_same, fLen_ref put_same, ↓D3.lc3.eq_1, fInt, fTuple, fList, fNeS_s, fEqS_s, ↓D3.gstar3.eq_1, fInK_s, fNinK_s, fLenS_s, ↓D3.slcT3.eq_1, fCatT_t, dnew3]))
            refine ⟨mul_c p1 r2 (by decide), mul_c p2 r1 (by decide), fin _ _ (fun z => ?_) (by omega) (by rw [Int.mul_comm]; omega) ?_ _ fun d hq => hq⟩
            · rcases Int.mul_eq_zero.mp z with z | z
              · have := den_pos p; omega
              · exact h0 z
            rw [← r_div]
            exact q
          rw [if_neg (show ¬ k = "over" from h4)] at q
          (refine laterP_in ?_; repeat ((first | with_reducible refine laterP_i ?_ | with_reducible refine later_i ?_); try simp -implicitDefEqProofs -dsimp only [↓D3.seq3_stop, ↓D3.ifS3.eq_1, ↓D3.b3.eq_1, ↓D3.op3.eq_1, ↓D3.un3.eq_1, ↓D3.v3.eq_1, ↓D3.c3.eq_1, fIx_tup, fIx_lst, at3_0, at3_1, at3_2, at3_3, at3_4, at3_5, at3_6, start3, fI0_i, fI_i, fLt, fLe, fGt, fGe, fEqI, fNeI, fMin, fMax, ↓D3.asg3.eq_1, ↓D3.name3.eq_1, ↓D3.sub3.eq_1, ↓D3.ret3.eq_1, ↓D3.retN3.eq_1, ↓D3.nx3.eq_1, ↓D3.drop3.eq_1, ↓D3.par3.eq_1, ↓D3.aug3.eq_1, ↓D3.and3.eq_1, ↓D3.or3.eq_1, ↓D3.not3.eq_1, ↓D3.andV3.eq_1, ↓D3.orV3.eq_1, ↓D3.notV3.eq_1, ↓D3.if3.eq_1, ↓D3.nil3.eq_1, ↓D3.cons3.eq_1, ↓D3.tup3.eq_1, ↓D3.lst3.eq_1, ↓D3.lstM3.eq_1, ↓D3.gtup3.eq_1, ↓D3.gcons3.eq_1, ↓D3.gnil3.eq_1, ↓D3.gunl3.eq_1, ↓D3.bits3.eq_1, ↓D3.neg3.eq_1, ↓D3.chain3.eq_1, fIsi_int_int, fIsi_int_bool, fIsi_int_tuple, fIsi_int_str, fIsi_int_list, fIsi_bl_int, fIsi_bl_bool, fIsi_bl_tuple, fIsi_bl_str, fIsi_bl_list, fIsi_non_int, fIsi_non_bool, fIsi_non_tuple, fIsi_non_str, fIsi_non_list, fIsi_str_int, fIsi_str_bool, fIsi_str_tuple, fIsi_str_str, fIsi_str_list, fIsi_tup_int, fIsi_tup_bool, fIsi_tup_tuple, fIsi_tup_str, fIsi_tup_list, fIsi_lst_int, fIsi_lst_bool, fIsi_lst_tuple, fIsi_lst_str, fIsi_lst_list, fLen_lst, fLen_tup, fAbs, ↓D3.call3_k, ↓D3.kont_app, ↓D3.isN3.eq_1, ↓D3.notN3.eq_1, dIsN_non, dIsN_int, dIsN_bl, dIsN_str, dIsN_tup, dIsN_lst, ↓D3.slc3.eq_1, ↓D3.part3.eq_1, ↓D3.noPart3.eq_1, ↓D3.ilst3.eq_1, ↓D3.itup3.eq_1, ↓D3.irng1.eq_1, ↓D3.irng2.eq_1, ↓D3.for3.eq_1, fCat, fEq_int, fNe_int, fEq_bl, fNe_bl, fEq_pair, fNe_pair, List.map, List.replicate, List.length_cons, List.length_nil, List.set_cons_zero, List.set_cons_succ, List.getElem?_cons_zero, List.getElem?_cons_succ, List.cons_append, List.nil_append, at_0, at_1, at_2, at_3, at_4, at_5, at_6, ix_0, ix_1, ix_2, put_same, put_put, decide_eq_true_eq, Bool.not_eq_true', decide_eq_false_iff_not, ite_not, ite_true, ite_false, if_true, if_false, Bool.false_eq_true, ↓reduceIte, reduceIte, Nat.reduceAdd, Nat.reduceSub, Int.reduceToNat, Nat.reduceLeDiff, not_false_eq_true, true_and, and_true, ne_eq, Int.reduceEq, Nat.zero_add, Bool.not_true, Bool.not_false, reduceCtorEq, nc0, nc1, nc2, nc3, nc4, nc5, fIx_ref put_same, fLen_ref put_same, ↓D3.lc3.eq_1, fInt, fTuple, fList, fNeS_s, fEqS_s, ↓D3.gstar3.eq_1, fInK_s, fNinK_s, fLenS_s, ↓D3.slcT3.eq_1, fCatT_t, dnew3]))
          refine ⟨mul_c p1 r2 (by decide), mul_c r1 p2 (by decide), ?_⟩
          (refine laterP_in ?_; repeat ((first | with_reducible refine laterP_i ?_ | with_reducible refine later_i ?_); try simp -implicitDefEqProofs -dsimp only [↓D3.seq3_stop, ↓D3.ifS3.eq_1, ↓D3.b3.eq_1, ↓D3.op3.eq_1, ↓D3.un3.eq_1, ↓D3.v3.eq_1, ↓D3.c3.eq_1, fIx_tup, fIx_lst, at3_0, at3_1, at3_2, at3_3, at3_4, at3_5, at3_6, start3, fI0_i, fI_i, fLt, fLe, fGt, fGe, fEqI, fNeI, fMin, fMax, ↓D3.asg3.eq_1, ↓D3.name3.eq_1, ↓D3.sub3.eq_1, ↓D3.ret3.eq_1, ↓D3.retN3.eq_1, ↓D3.nx3.eq_1, ↓D3.drop3.eq_1, ↓D3.par3.eq_1, ↓D3.aug3.eq_1, ↓D3.and3.eq_1, ↓D3.or3.eq_1, ↓D3.not3.eq_1, ↓D3.andV3.eq_1, ↓D3.orV3.eq_1, ↓D3.notV3.eq_1, ↓D3.if3.eq_1, ↓D3.nil3.eq_1, ↓D3.cons3.eq_1, ↓D3.tup3.eq_1, ↓D3.lst3.eq_1, ↓D3.lstM3.eq_1, ↓D3.gtup3.eq_1, ↓D3.gcons3.eq_1, ↓D3.gnil3.eq_1, ↓D3.gunl3.eq_1, ↓D3.bits3.eq_1, ↓D3.neg3.eq_1, ↓D3.chain3.eq_1, fIsi_int_int, fIsi_int_bool, fIsi_int_tuple, fIsi_int_str, fIsi_int_list, fIsi_bl_int, fIsi_bl_bool, fIsi_bl_tuple, fIsi_bl_str, fIsi_bl_list, fIsi_non_int, fIsi_non_bool, fIsi_non_tuple, fIsi_non_str, fIsi_non_list, fIsi_str_int, fIsi_str_bool, fIsi_str_tuple, fIsi_str_str, fIsi_str_list, fIsi_tup_int, fIsi_tup_bool, fIsi_tup_tuple, fIsi_tup_str, fIsi_tup_list, fIsi_lst_int, fIsi_lst_bool, fIsi_lst_tuple, fIsi_lst_str, fIsi_lst_list, fLen_lst, fLen_tup, fAbs, ↓D3.call3_k, ↓D3.kont_app, ↓D3.isN3.eq_1, ↓D3.notN3.eq_1, dIsN_non, dIsN_int, dIsN_bl, dIsN_str, dIsN_tup, dIsN_lst, ↓D3.slc3.eq_1, ↓D3.part3.eq_1, ↓D3.noPart3.eq_1, ↓D3.ilst3.eq_1, ↓D3.itup3.eq_1, ↓D3.irng1.eq_1, ↓D3.irng2.eq_1, ↓D3.for3.eq_1, fCat, fEq_int, fNe_int, fEq_bl, fNe_bl, fEq_pair, fNe_pair, List.map, List.replicate, List.length_cons, List.length_nil, List.set_cons_zero, List.set_cons_succ, List.getElem?_cons_zero, List.getElem?_cons_succ, List.cons_append, List.nil_append, at_0, at_1, at_2, at_3, at_4, at_5, at_6, ix_0, ix_1, ix_2, put_same, put_put, decide_eq_true_eq, Bool.not_eq_true', decide_eq_false_iff_not, ite_not, ite_true, ite_false, if_true, if_false, Bool.false_eq_true, ↓reduceIte, reduceIte, Nat.reduceAdd, Nat.reduceSub, Int.reduceToNat, Nat.reduceLeDiff, not_false_eq_true, true_and, and_true, ne_eq, Int.reduceEq, Nat.zero_add, Bool.not_true, Bool.not_false, reduceCtorEq, nc0, nc1, nc2, nc3, nc4, nc5, fIx_ref put_same, fLen_ref put_same, ↓D3.lc3.eq_1, fInt, fTuple, fList, fNeS_s, fEqS_s, ↓D3.gstar3.eq_1, fInK_s, fNinK_s, fLenS_s, ↓D3.slcT3.eq_1, fCatT_t, dnew3]))
          by_cases hl : k = "least"
          · rw [if_pos hl] at q
            rw [decide_eq_true (show k = "least" from hl)]
            by_cases hlt : p < r
            · rw [if_pos hlt] at q
              rw [decide_eq_true ((r_lt p r).mpr hlt)]
              (refine laterP_in ?_; repeat ((first | with_reducible refine laterP_i ?_ | with_reducible refine later_i ?_); try simp -implicitDefEqProofs -dsimp only [↓D3.seq3_stop, ↓D3.ifS3.eq_1, ↓D3.b3.eq_1, ↓D3.op3.eq_1, ↓D3.un3.eq_1, ↓D3.v3.eq_1, ↓D3.c3.eq_1, fIx_tup, fIx_lst, at3_0, at3_1, at3_2, at3_3, at3_4, at3_5, at3_6, start3, fI0_i, fI_i, fLt, fLe, fGt, fGe, fEqI, fNeI, fMin, fMax, ↓D3.asg3.eq_1, ↓D3.name3.eq_1, ↓D3.sub3.eq_1, ↓D3.ret3.eq_1, ↓D3.retN3.eq_1, ↓D3.nx3.eq_1, ↓D3.drop3.eq_1, ↓D3.par3.eq_1, ↓D3.aug3.eq_1, ↓D3.and3.eq_1, ↓D3.or3.eq_1, ↓D3.not3.eq_1, ↓D3.andV3.eq_1, ↓D3.orV3.eq_1, ↓D3.notV3.eq_1, ↓D3.if3.eq_1, ↓D3.nil3.eq_1, ↓D3.cons3.eq_1, ↓D3.tup3.eq_1, ↓D3.lst3.eq_1, ↓D3.lstM3.eq_1, ↓D3.gtup3.eq_1, ↓D3.gcons3.eq_1, ↓D3.gnil3.eq_1, ↓D3.gunl3.eq_1, ↓D3.bits3.eq_1, ↓D3.neg3.eq_1, ↓D3.chain3.eq_1, fIsi_int_int, fIsi_int_bool, fIsi_int_tuple, fIsi_int_str, fIsi_int_list, fIsi_bl_int, fIsi_bl_bool, fIsi_bl_tuple, fIsi_bl_str, fIsi_bl_list, fIsi_non_int, fIsi_non_bool, fIsi_non_tuple, fIsi_non_str, fIsi_non_list, fIsi_str_int, fIsi_str_bool, fIsi_str_tuple, fIsi_str_str, fIsi_str_list, fIsi_tup_int, fIsi_tup_bool, fIsi_tup_tuple, fIsi_tup_str, fIsi_tup_list, fIsi_lst_int, fIsi_lst_bool, fIsi_lst_tuple, fIsi_lst_str, fIsi_lst_list, fLen_lst, fLen_tup, fAbs, ↓D3.call3_k, ↓D3.kont_app, ↓D3.isN3.eq_1, ↓D3.notN3.eq_1, dIsN_non, dIsN_int, dIsN_bl, dIsN_str, dIsN_tup, dIsN_lst, ↓D3.slc3.eq_1, ↓D3.part3.eq_1, ↓D3.noPart3.eq_1, ↓D3.ilst3.eq_1, ↓D3.itup3.eq_1, ↓D3.irng1.eq_1, ↓D3.irng2.eq_1, ↓D3.for3.eq_1, fCat, fEq_int, fNe_int, fEq_bl, fNe_bl, fEq_pair, fNe_pair, List.map, List.replicate, List.length_cons, List.length_nil, List.set_cons_zero, List.set_cons_succ, List.getElem?_cons_zero, List.getElem?_cons_succ, List.cons_append, List.nil_append, at_0, at_1, at_2, at_3, at_4, at_5, at_6, ix_0, ix_1, ix_2, put_same, put_put, decide_eq_true_eq, Bool.not_eq_true', decide_eq_false_iff_not, ite_not, ite_true, ite_false, if_true, if_false, Bool.false_eq_true, ↓reduceIte, reduceIte, Nat.reduceAdd, Nat.reduceSub, Int.reduceToNat, Nat.reduceLeDiff, not_false_eq_true, true_and, and_true, ne_eq, Int.reduceEq, Nat.zero_add, Bool.not_true, Bool.not_false, reduceCtorEq, nc0, nc1, nc2, nc3, nc4, nc5, fIx_ref put_same, fLen_ref put_same, ↓D3.lc3.eq_1, fInt, fTuple, fList, fNeS_s, fEqS_s, ↓D3.gstar3.eq_1, fInK_s, fNinK_s, fLenS_s, ↓D3.slcT3.eq_1, fCatT_t, dnew3, beq_self_eq_true]))
              exact q
            · rw [if_neg hlt] at q
              rw [decide_eq_false fun z => hlt ((r_lt p r).mp z)]
              (refine laterP_in ?_; repeat ((first | with_reducible refine laterP_i ?_ | with_reducible refine later_i ?_); try simp -implicitDefEqProofs -dsimp only [↓D3.seq3_stop, ↓D3.ifS3.eq_1, ↓D3.b3.eq_1, ↓D3.op3.eq_1, ↓D3.un3.eq_1, ↓D3.v3.eq_1, ↓D3.c3.eq_1, fIx_tup, fIx_lst, at3_0, at3_1, at3_2, at3_3, at3_4, at3_5, at3_6, start3, fI0_i, fI_i, fLt, fLe, fGt, fGe, fEqI, fNeI, fMin, fMax, ↓D3.asg3.eq_1, ↓D3.name3.eq_1, ↓D3.sub3.eq_1, ↓D3.ret3.eq_1, ↓D3.retN3.eq_1, ↓D3.nx3.eq_1, ↓D3.drop3.eq_1, ↓D3.par3.eq_1, ↓D3.aug3.eq_1, ↓D3.and3.eq_1, ↓D3.or3.eq_1, ↓D3.not3.eq_1, ↓D3.andV3.eq_1, ↓D3.orV3.eq_1, ↓D3.notV3.eq_1, ↓D3.if3.eq_1, ↓D3.nil3.eq_1, ↓D3.cons3.eq_1, ↓D3.tup3.eq_1, ↓D3.lst3.eq_1, ↓D3.lstM3.eq_1, ↓D3.gtup3.eq_1, ↓D3.gcons3.eq_1, ↓D3.gnil3.eq_1, ↓D3.gunl3.eq_1, ↓D3.bits3.eq_1, ↓D3.neg3.eq_1, ↓D3.chain3.eq_1, fIsi_int_int, fIsi_int_bool, fIsi_int_tuple, fIsi_int_str, fIsi_int_list, fIsi_bl_int, fIsi_bl_bool, fIsi_bl_tuple, fIsi_bl_str, fIsi_bl_list, fIsi_non_int, fIsi_non_bool, fIsi_non_tuple, fIsi_non_str, fIsi_non_list, fIsi_str_int, fIsi_str_bool, fIsi_str_tuple, fIsi_str_str, fIsi_str_list, fIsi_tup_int, fIsi_tup_bool, fIsi_tup_tuple, fIsi_tup_str, fIsi_tup_list, fIsi_lst_int, fIsi_lst_bool, fIsi_lst_tuple, fIsi_lst_str, fIsi_lst_list, fLen_lst, fLen_tup, fAbs, ↓D3.call3_k, ↓D3.kont_app, ↓D3.isN3.eq_1, ↓D3.notN3.eq_1, dIsN_non, dIsN_int, dIsN_bl, dIsN_str, dIsN_tup, dIsN_lst, ↓D3.slc3.eq_1, ↓D3.part3.eq_1, ↓D3.noPart3.eq_1, ↓D3.ilst3.eq_1, ↓D3.itup3.eq_1, ↓D3.irng1.eq_1, ↓D3.irng2.eq_1, ↓D3.for3.eq_1, fCat, fEq_int, fNe_int, fEq_bl, fNe_bl, fEq_pair, fNe_pair, List.map, List.replicate, List.length_cons, List.length_nil, List.set_cons_zero, List.set_cons_succ, List.getElem?_cons_zero, List.getElem?_cons_succ, List.cons_append, List.nil_append, at_0, at_1, at_2, at_3, at_4, at_5, at_6, ix_0, ix_1, ix_2, put_same, put_put, decide_eq_true_eq, Bool.not_eq_true', decide_eq_false_iff_not, ite_not, ite_true, ite_false, if_true, if_false, Bool.false_eq_true, ↓reduceIte, reduceIte, Nat.reduceAdd, Nat.reduceSub, Int.reduceToNat, Nat.reduceLeDiff, not_false_eq_true, true_and, and_true, ne_eq, Int.reduceEq, Nat.zero_add, Bool.not_true, Bool.not_false, reduceCtorEq, nc0, nc1, nc2, nc3, nc4, nc5, fIx_ref put_same, fLen_ref put_same, ↓D3.lc3.eq_1, fInt, fTuple, fList, fNeS_s, fEqS_s, ↓D3.gstar3.eq_1, fInK_s, fNinK_s, fLenS_s, ↓D3.slcT3.eq_1, fCatT_t, dnew3, beq_self_eq_true, Bool.false_beq, Bool.beq_true]))
              exact q
          · rw [if_neg hl] at q
            rw [decide_eq_false (show ¬ k = "least" from hl)]
            by_cases hlt : p < r
            · rw [if_pos hlt] at q
              rw [decide_eq_true ((r_lt p r).mpr hlt)]
              (refine laterP_in ?_; repeat ((first | with_reducible refine laterP_i ?_ | with_reducible refine later_i ?_); try simp -implicitDefEqProofs -dsimp only [↓D3.seq3_stop, ↓D3.ifS3.eq_1, ↓D3.b3.eq_1, ↓D3.op3.eq_1, ↓D3.un3.eq_1, ↓D3.v3.eq_1, ↓D3.c3.eq_1, fIx_tup, fIx_lst, at3_0, at3_1, at3_2, at3_3, at3_4, at3_5, at3_6, start3, fI0_i, fI_i, fLt, fLe, fGt, fGe, fEqI, fNeI, fMin, fMax, ↓D3.asg3.eq_1, ↓D3.name3.eq_1, ↓D3.sub3.eq_1, ↓D3.ret3.eq_1, ↓D3.retN3.eq_1, ↓D3.nx3.eq_1, ↓D3.drop3.eq_1, ↓D3.par3.eq_1, ↓D3.aug3.eq_1, ↓D3.and3.eq_1, ↓D3.or3.eq_1, ↓D3.not3.eq_1, ↓D3.andV3.eq_1, ↓D3.orV3.eq_1, ↓D3.notV3.eq_1, ↓D3.if3.eq_1, ↓D3.nil3.eq_1, ↓D3.cons3.eq_1, ↓D3.tup3.eq_1, ↓D3.lst3.eq_1, ↓D3.lstM3.eq_1, ↓D3.gtup3.eq_1, ↓D3.gcons3.eq_1, ↓D3.gnil3.eq_1, ↓D3.gunl3.eq_1, ↓D3.bits3.eq_1, ↓D3.neg3.eq_1, ↓D3.chain3.eq_1, fIsi_int_int, fIsi_int_bool, fIsi_int_tuple, fIsi_int_str, fIsi_int_list, fIsi_bl_int, fIsi_bl_bool, fIsi_bl_tuple, fIsi_bl_str, fIsi_bl_list, fIsi_non_int, fIsi_non_bool, fIsi_non_tuple, fIsi_non_str, fIsi_non_list, fIsi_str_int, fIsi_str_bool, fIsi_str_tuple, fIsi_str_str, fIsi_str_list, fIsi_tup_int, fIsi_tup_bool, fIsi_tup_tuple, fIsi_tup_str, fIsi_tup_list, fIsi_lst_int, fIsi_lst_bool, fIsi_lst_tuple, fIsi_lst_str, fIsi_lst_list, fLen_lst, fLen_tup, fAbs, ↓D3.call3_k, ↓D3.kont_app, ↓D3.isN3.eq_1, ↓D3.notN3.eq_1, dIsN_non, dIsN_int, dIsN_bl, dIsN_str, dIsN_tup, dIsN_lst, ↓D3.slc3.eq_1, ↓D3.part3.eq_1, ↓D3.noPart3.eq_1, ↓D3.ilst3.eq_1, ↓D3.itup3.eq_1, ↓D3.irng1.eq_1, ↓D3.irng2.eq_1, ↓D3.for3.eq_1, fCat, fEq_int, fNe_int, fEq_bl, fNe_bl, fEq_pair, fNe_pair, List.map, List.replicate, List.length_cons, List.length_nil, List.set_cons_zero, List.set_cons_succ, List.getElem?_cons_zero, List.getElem?_cons_succ, List.cons_append, List.nil_append, at_0, at_1, at_2, at_3, at_4, at_5, at_6, ix_0, ix_1, ix_2, put_same, put_put, decide_eq_true_eq, Bool.not_eq_true', decide_eq_false_iff_not, ite_not, ite_true, ite_false, if_true, if_false, Bool.false_eq_true, ↓reduceIte, reduceIte, Nat.reduceAdd, Nat.reduceSub, Int.reduceToNat, Nat.reduceLeDiff, not_false_eq_true, true_and, and_true, ne_eq, Int.reduceEq, Nat.zero_add, Bool.not_true, Bool.not_false, reduceCtorEq, nc0, nc1, nc2, nc3, nc4, nc5, fIx_ref put_same, fLen_ref put_same, ↓D3.lc3.eq_1, fInt, fTuple, fList, fNeS_s, fEqS_s, ↓D3.gstar3.eq_1, fInK_s, fNinK_s, fLenS_s, ↓D3.slcT3.eq_1, fCatT_t, dnew3, Bool.beq_false]))
              exact q
            · rw [if_neg hlt] at q
              rw [decide_eq_false fun z => hlt ((r_lt p r).mp z)]
              (refine laterP_in ?_; repeat ((first | with_reducible refine laterP_i ?_ | with_reducible refine later_i ?_); try simp -implicitDefEqProofs -dsimp only [↓D3.seq3_stop, ↓D3.ifS3.eq_1, ↓D3.b3.eq_1, ↓D3.op3.eq_1, ↓D3.un3.eq_1, ↓D3.v3.eq_1, ↓D3.c3.eq_1, fIx_tup, fIx_lst, at3_0, at3_1, at3_2, at3_3, at3_4, at3_5, at3_6, start3, fI0_i, fI_i, fLt, fLe, fGt, fGe, fEqI, fNeI, fMin, fMax, ↓D3.asg3.eq_1, ↓D3.name3.eq_1, ↓D3.sub3.eq_1, ↓D3.ret3.eq_1, ↓D3.retN3.eq_1, ↓D3.nx3.eq_1, ↓D3.drop3.eq_1, ↓D3.par3.eq_1, ↓D3.aug3.eq_1, ↓D3.and3.eq_1, ↓D3.or3.eq_1, ↓D3.not3.eq_1, ↓D3.andV3.eq_1, ↓D3.orV3.eq_1, ↓D3.notV3.eq_1, ↓D3.if3.eq_1, ↓D3.nil3.eq_1, ↓D3.cons3.eq_1, ↓D3.tup3.eq_1, ↓D3.lst3.eq_1, ↓D3.lstM3.eq_1, ↓D3.gtup3.eq_1, ↓D3.gcons3.eq_1, ↓D3.gnil3.eq_1, ↓D3.gunl3.eq_1, ↓D3.bits3.eq_1, ↓D3.neg3.eq_1, ↓D3.chain3.eq_1, fIsi_int_int, fIsi_int_bool, fIsi_int_tuple, fIsi_int_str, fIsi_int_list, fIsi_bl_int, fIsi_bl_bool, fIsi_bl_tuple, fIsi_bl_str, fIsi_bl_list, fIsi_non_int, fIsi_non_bool, fIsi_non_tuple, fIsi_non_str, fIsi_non_list, fIsi_str_int, fIsi_str_bool, fIsi_str_tuple, fIsi_str_str, fIsi_str_list, fIsi_tup_int, fIsi_tup_bool, fIsi_tup_tuple, fIsi_tup_str, fIsi_tup_list, fIsi_lst_int, fIsi_lst_bool, fIsi_lst_tuple, fIsi_lst_str, fIsi_lst_list, fLen_lst, fLen_tup, fAbs, ↓D3.call3_k, ↓D3.kont_app, ↓D3.isN3.eq_1, ↓D3.notN3.eq_1, dIsN_non, dIsN_int, dIsN_bl, dIsN_str, dIsN_tup, dIsN_lst, ↓D3.slc3.eq_1, ↓D3.part3.eq_1, ↓D3.noPart3.eq_1, ↓D3.ilst3.eq_1, ↓D3.itup3.eq_1, ↓D3.irng1.eq_1, ↓D3.irng2.eq_1, ↓D3.for3.eq_1, fCat, fEq_int, fNe_int, fEq_bl, fNe_bl, fEq_pair, fNe_pair, List.map, List.replicate, List.length_cons, List.length_nil, List.set_cons_zero, List.set_cons_succ, List.getElem?_cons_zero, List.getElem?_cons_succ, List.cons_append, List.nil_append, at_0, at_1, at_2, at_3, at_4, at_5, at_6, ix_0, ix_1, ix_2, put_same, put_put, decide_eq_true_eq, Bool.not_eq_true', decide_eq_false_iff_not, ite_not, ite_true, ite_false, if_true, if_false, Bool.false_eq_true, ↓reduceIte, reduceIte, Nat.reduceAdd, Nat.reduceSub, Int.reduceToNat, Nat.reduceLeDiff, not_false_eq_true, true_and, and_true, ne_eq, Int.reduceEq, Nat.zero_add, Bool.not_true, Bool.not_false, reduceCtorEq, nc0, nc1, nc2, nc3, nc4, nc5, fIx_ref put_same, fLen_ref put_same, ↓D3.lc3.eq_1, fInt, fTuple, fList, fNeS_s, fEqS_s, ↓D3.gstar3.eq_1, fInK_s, fNinK_s, fLenS_s, ↓D3.slcT3.eq_1, fCatT_t, dnew3, beq_self_eq_true]))
              exact q
theorem ok_lvN (T : Tx w K mg fa fd) : ∀ e : Nat, Fn3 P w K mg base (e + 2) (fa 15) (fd 15) ["term", "values"] (sp_lvN e)
  | 0 => fn_never
  | e + 1 => ok_lvS T e (ok_lvN T e)
def sp_lv : Sp3 := fun ds m P => ∃ (d x : D) (v : Option Rat), ds = [d, x] ∧ Wp [] 6 d ∧ Gv 6 d v ∧ P (oQ v) m
theorem ok_law_value (T : Tx w K mg fa fd) : Fn3 P w K mg base 8 (fa 15) (fd 15) ["term", "values"] sp_lv :=
  (ok_lvN T 6).imp fun vs H Q E h => by
    obtain ⟨ds, m, P, h1, h2, ⟨d, x, v, e, hw, hv, k⟩, h4⟩ := h
    exact ⟨ds, m, P, h1, h2, ⟨d, x, v, e, hw, hv, by decide, k⟩, h4⟩
def OthOk (o : D) : Prop := Gv 5 o none ∧ Pl 140 o ∧ dp o ≤ 8
theorem Wp.shape {ns : List Str} {e : Nat} {d : D} (h : Wp ns e d) : ∃ (k : Str) (r : List D), d = .tup (.str k :: r) := by
  cases h <;> exact ⟨_, _, rfl⟩
def sp_putN : Nat → Sp3
  | 0 => fun _ _ _ => False
  | e + 1 => fun ds m P => ∃ (a : Addr) (n : Nat) (d o : D), ds = [.ref a, d, o] ∧ Wp [] (e + 1) d ∧ OthOk o ∧ DeckAt m a (n + 2 * (e + 1)) ∧ ∀ d' m', Gv (e + 6) d' none → Pl 140 d' → dp d' ≤ e + 9 → Off a m m' → DeckAt m' a n → P d' m'
theorem ok_putS (T : Tx w K mg fa fd) (e : Nat) (ih : Fn3 P w K mg base (e + 2) (fa 16) (fd 16) ["deck", "term", "other"] (sp_putN e)) : Fn3 P w K mg base (e + 2 + 1) (fa 16) (fd 16) ["deck", "term", "other"] (sp_putN (e + 1)) := by
  refine fn3 T.d_law_put.F sc_law_put (fun ds m Q h => by obtain ⟨_, _, _, _, rfl, _⟩ := h; rfl) fun cdv A outer s H E ds m Q hr h => ?_
  obtain ⟨a, n, d, o, rfl, hw, ho, hd, q⟩ := h
  refine ⟨_, (ss_cons (s_lcIf (i := 4) (j := 3) rfl sc_law_put.nd (i_range2 rfl T.b_range (a_cons e_int (a_cons (e_len rfl T.b_len (e_v 1)) a_nil))) (blkOk_by (own := [("at", 4)]) (N := ["deck", "term", "other", "inner", "at"]) (sc := defScope s_law_put) (by decide +kernel)) (fun _ _ _ _ _ => (t_w (t_and (t_val (e_isi rfl T.b_isinstance (e_ix (e_v 1) (e_v 4)) (e_type rfl T.b_tuple PyProof.Rows.boot_tuple))) (t_and1 (t_val (e_isi rfl T.b_isinstance (e_ix (e_ix (e_v 1) (e_v 4)) e_int) (e_type rfl T.b_str PyProof.Rows.boot_str))))))) (fun _ _ _ _ _ => (e_v 4)) (sw_true rfl rfl rfl (by decide +kernel)))
      (ss_cons (s_if (t_w (t_or (t_eq hr (e_v 3) (e_lst a_nil)) (t_or1 (t_eqI (e_call T.d_law_pick (ok_law_pick T) (hr.mono (by omega)) rfl (a_cons (e_v 0) (a_cons e_int a_nil))) e_int)))) (ss_one (s_ret (e_v 2))) ss_nil)
      (ss_cons (s_set (i := 4) sc_law_put.nd (e_ix (e_v 3) (e_call T.d_law_pick (ok_law_pick T) (hr.mono (by omega)) rfl (a_cons (e_v 0) (a_cons (e_len rfl T.b_len (e_v 3)) a_nil)))))
      (ss_one (s_ret (e_catT (e_catT (e_sliceT (e_v 1) o_none (o_some (e_v 4))) (e_tup (a_cons (e_call T.d_law_put ih (hr.mono (by omega)) rfl (a_cons (e_v 0) (a_cons (e_ix (e_v 1) (e_v 4)) (a_cons (e_v 2) a_nil)))) a_nil))) (e_sliceT (e_v 1) (o_some (e_add (e_v 4) e_int)) o_none))))))), ?_⟩
  cases hw with
  | name h => cases h
  | @num e q' hs =>
    (refine laterP_in ?_; repeat ((first | with_reducible refine laterP_i ?_ | with_reducible refine later_i ?_); try simp -implicitDefEqProofs -dsimp only [↓D3.seq3_stop, ↓D3.ifS3.eq_1, ↓D3.b3.eq_1, ↓D3.op3.eq_1, ↓D3.un3.eq_1, ↓D3.v3.eq_1, ↓D3.c3.eq_1, fIx_tup, fIx_lst, at3_0, at3_1, at3_2, at3_3, at3_4, at3_5, at3_6, start3, fI0_i, fI_i, fLt, fLe, fGt, fGe, fEqI, fNeI, fMin, fMax, ↓D3.asg3.eq_1, ↓D3.name3.eq_1, ↓D3.sub3.eq_1, ↓D3.ret3.eq_1, ↓D3.retN3.eq_1, ↓D3.nx3.eq_1, ↓D3.drop3.eq_1, ↓D3.par3.eq_1, ↓D3.aug3.eq_1, ↓D3.and3.eq_1, ↓D3.or3.eq_1, ↓D3.not3.eq_1, ↓D3.andV3.eq_1, ↓D3.orV3.eq_1, ↓D3.notV3.eq_1, ↓D3.if3.eq_1, ↓D3.nil3.eq_1, ↓D3.cons3.eq_1, ↓D3.tup3.eq_1, ↓D3.lst3.eq_1, ↓D3.lstM3.eq_1, ↓D3.gtup3.eq_1, ↓D3.gcons3.eq_1, ↓D3.gnil3.eq_1, ↓D3.gunl3.eq_1, ↓D3.bits3.eq_1, ↓D3.neg3.eq_1, ↓D3.chain3.eq_1, fIsi_int_int, fIsi_int_bool, fIsi_int_tuple, fIsi_int_str, fIsi_int_list, fIsi_bl_int, fIsi_bl_bool, fIsi_bl_tuple, fIsi_bl_str, fIsi_bl_list, fIsi_non_int, fIsi_non_bool, fIsi_non_tuple, fIsi_non_str, fIsi_non_list, fIsi_str_int, fIsi_str_bool, fIsi_str_tuple, fIsi_str_str, fIsi_str_list, fIsi_tup_int, fIsi_tup_bool, fIsi_tup_tuple, fIsi_tup_str, fIsi_tup_list, fIsi_lst_int, fIsi_lst_bool, fIsi_lst_tuple, fIsi_lst_str, fIsi_lst_list, fLen_lst, fLen_tup, fAbs, ↓D3.call3_k, ↓D3.kont_app, ↓D3.isN3.eq_1, ↓D3.notN3.eq_1, dIsN_non, dIsN_int, dIsN_bl, dIsN_str, dIsN_tup, dIsN_lst, ↓D3.slc3.eq_1, ↓D3.part3.eq_1, ↓D3.noPart3.eq_1, ↓D3.ilst3.eq_1, ↓D3.itup3.eq_1, ↓D3.irng1.eq_1, ↓D3.irng2.eq_1, ↓D3.for3.eq_1, fCat, fEq_int, fNe_int, fEq_bl, fNe_bl, fEq_pair, fNe_pair, List.map, List.replicate, List.length_cons, List.length_nil, List.set_cons_zero, List.set_cons_succ, List.getElem?_cons_zero, List.getElem?_cons_succ, List.cons_append, List.nil_append, at_0, at_1, at_2, at_3, at_4, at_5, at_6, ix_0, ix_1, ix_2, put_same, put_put, decide_eq_true_eq, Bool.not_eq_true', decide_eq_false_iff_not, ite_not, ite_true, ite_false, if_true, if_false, Bool.false_eq_true, ↓reduceIte, reduceIte, Nat.reduceAdd, Nat.reduceSub, Int.reduceToNat, Nat.reduceLeDiff, not_false_eq_true, true_and, and_true, ne_eq, Int.reduceEq, Nat.zero_add, Bool.not_true, Bool.not_false, reduceCtorEq, nc0, nc1, nc2, nc3, nc4, nc5, fIx_ref put_same, fLen_ref put_same, ↓D3.lc3.eq_1, fInt, fTuple, fList, fNeS_s, fEqS_s, ↓D3.gstar3.eq_1, fInK_s, fNinK_s, fLenS_s, ↓D3.slcT3.eq_1, fCatT_t, dnew3]))
    refine ⟨by decide, fun L hL => ?_⟩
    rw [show rangeD 1 ((2 : Int) - 1).toNat = [.int 1] from rfl]
    refine lcGo_fil (fun _ => false) [.int 1] [] _ put_same (by simp) (fun x hx m' Kt k => ?_) (fun x hx m' Kt k => ?_) ?_
    · simp only [List.mem_cons, List.not_mem_nil, or_false] at hx
      subst hx
      try simp -implicitDefEqProofs -dsimp only [seq3, ↓D3.ifS3.eq_1, ↓D3.b3.eq_1, ↓D3.op3.eq_1, ↓D3.un3.eq_1, ↓D3.v3.eq_1, ↓D3.c3.eq_1, fIx_tup, fIx_lst, at3_0, at3_1, at3_2, at3_3, at3_4, at3_5, at3_6, start3, fI0_i, fI_i, fLt, fLe, fGt, fGe, fEqI, fNeI, fMin, fMax, ↓D3.asg3.eq_1, ↓D3.name3.eq_1, ↓D3.sub3.eq_1, ↓D3.ret3.eq_1, ↓D3.retN3.eq_1, ↓D3.nx3.eq_1, ↓D3.drop3.eq_1, ↓D3.par3.eq_1, ↓D3.aug3.eq_1, ↓D3.and3.eq_1, ↓D3.or3.eq_1, ↓D3.not3.eq_1, ↓D3.andV3.eq_1, ↓D3.orV3.eq_1, ↓D3.notV3.eq_1, ↓D3.if3.eq_1, ↓D3.nil3.eq_1, ↓D3.cons3.eq_1, ↓D3.tup3.eq_1, ↓D3.lst3.eq_1, ↓D3.lstM3.eq_1, ↓D3.gtup3.eq_1, ↓D3.gcons3.eq_1, ↓D3.gnil3.eq_1, ↓D3.gunl3.eq_1, ↓D3.bits3.eq_1, ↓D3.neg3.eq_1, ↓D3.chain3.eq_1, fIsi_int_int, fIsi_int_bool, fIsi_int_tuple, fIsi_int_str, fIsi_int_list, fIsi_bl_int, fIsi_bl_bool, fIsi_bl_tuple, fIsi_bl_str, fIsi_bl_list, fIsi_non_int, fIsi_non_bool, fIsi_non_tuple, fIsi_non_str, fIsi_non_list, fIsi_str_int, fIsi_str_bool, fIsi_str_tuple, fIsi_str_str, fIsi_str_list, fIsi_tup_int, fIsi_tup_bool, fIsi_tup_tuple, fIsi_tup_str, fIsi_tup_list, fIsi_lst_int, fIsi_lst_bool, fIsi_lst_tuple, fIsi_lst_str, fIsi_lst_list, fLen_lst, fLen_tup, fAbs, ↓D3.call3_k, ↓D3.kont_app, ↓D3.isN3.eq_1, ↓D3.notN3.eq_1, dIsN_non, dIsN_int, dIsN_bl, dIsN_str, dIsN_tup, dIsN_lst, ↓D3.slc3.eq_1, ↓D3.part3.eq_1, ↓D3.noPart3.eq_1, ↓D3.ilst3.eq_1, ↓D3.itup3.eq_1, ↓D3.irng1.eq_1, ↓D3.irng2.eq_1, ↓D3.for3.eq_1, fCat, fEq_int, fNe_int, fEq_bl, fNe_bl, fEq_pair, fNe_pair, List.map, List.replicate, List.length_cons, List.length_nil, List.set_cons_zero, List.set_cons_succ, List.getElem?_cons_zero, List.getElem?_cons_succ, List.cons_append, List.nil_append, at_0, at_1, at_2, at_3, at_4, at_5, at_6, ix_0, ix_1, ix_2, put_same, put_put, decide_eq_true_eq, Bool.not_eq_true', decide_eq_false_iff_not, ite_not, ite_true, ite_false, if_true, if_false, Bool.false_eq_true, ↓reduceIte, reduceIte, Nat.reduceAdd, Nat.reduceSub, Int.reduceToNat, Nat.reduceLeDiff, not_false_eq_true, true_and, and_true, ne_eq, Int.reduceEq, Nat.zero_add, Bool.not_true, Bool.not_false, reduceCtorEq, nc0, nc1, nc2, nc3, nc4, nc5, fIx_ref put_same, fLen_ref put_same, ↓D3.lc3.eq_1, fInt, fTuple, fList, fNeS_s, fEqS_s, ↓D3.gstar3.eq_1, fInK_s, fNinK_s, fLenS_s, ↓D3.slcT3.eq_1, fCatT_t, dnew3, qD]
      exact k
    · try simp -implicitDefEqProofs -dsimp only [seq3, ↓D3.ifS3.eq_1, ↓D3.b3.eq_1, ↓D3.op3.eq_1, ↓D3.un3.eq_1, ↓D3.v3.eq_1, ↓D3.c3.eq_1, fIx_tup, fIx_lst, at3_0, at3_1, at3_2, at3_3, at3_4, at3_5, at3_6, start3, fI0_i, fI_i, fLt, fLe, fGt, fGe, fEqI, fNeI, fMin, fMax, ↓D3.asg3.eq_1, ↓D3.name3.eq_1, ↓D3.sub3.eq_1, ↓D3.ret3.eq_1, ↓D3.retN3.eq_1, ↓D3.nx3.eq_1, ↓D3.drop3.eq_1, ↓D3.par3.eq_1, ↓D3.aug3.eq_1, ↓D3.and3.eq_1, ↓D3.or3.eq_1, ↓D3.not3.eq_1, ↓D3.andV3.eq_1, ↓D3.orV3.eq_1, ↓D3.notV3.eq_1, ↓D3.if3.eq_1, ↓D3.nil3.eq_1, ↓D3.cons3.eq_1, ↓D3.tup3.eq_1, ↓D3.lst3.eq_1, ↓D3.lstM3.eq_1, ↓D3.gtup3.eq_1, ↓D3.gcons3.eq_1, ↓D3.gnil3.eq_1, ↓D3.gunl3.eq_1, ↓D3.bits3.eq_1, ↓D3.neg3.eq_1, ↓D3.chain3.eq_1, fIsi_int_int, fIsi_int_bool, fIsi_int_tuple, fIsi_int_str, fIsi_int_list, fIsi_bl_int, fIsi_bl_bool, fIsi_bl_tuple, fIsi_bl_str, fIsi_bl_list, fIsi_non_int, fIsi_non_bool, fIsi_non_tuple, fIsi_non_str, fIsi_non_list, fIsi_str_int, fIsi_str_bool, fIsi_str_tuple, fIsi_str_str, fIsi_str_list, fIsi_tup_int, fIsi_tup_bool, fIsi_tup_tuple, fIsi_tup_str, fIsi_tup_list, fIsi_lst_int, fIsi_lst_bool, fIsi_lst_tuple, fIsi_lst_str, fIsi_lst_list, fLen_lst, fLen_tup, fAbs, ↓D3.call3_k, ↓D3.kont_app, ↓D3.isN3.eq_1, ↓D3.notN3.eq_1, dIsN_non, dIsN_int, dIsN_bl, dIsN_str, dIsN_tup, dIsN_lst, ↓D3.slc3.eq_1, ↓D3.part3.eq_1, ↓D3.noPart3.eq_1, ↓D3.ilst3.eq_1, ↓D3.itup3.eq_1, ↓D3.irng1.eq_1, ↓D3.irng2.eq_1, ↓D3.for3.eq_1, fCat, fEq_int, fNe_int, fEq_bl, fNe_bl, fEq_pair, fNe_pair, List.map, List.replicate, List.length_cons, List.length_nil, List.set_cons_zero, List.set_cons_succ, List.getElem?_cons_zero, List.getElem?_cons_succ, List.cons_append, List.nil_append, at_0, at_1, at_2, at_3, at_4, at_5, at_6, ix_0, ix_1, ix_2, put_same, put_put, decide_eq_true_eq, Bool.not_eq_true', decide_eq_false_iff_not, ite_not, ite_true, ite_false, if_true, if_false, Bool.false_eq_true, ↓reduceIte, reduceIte, Nat.reduceAdd, Nat.reduceSub, Int.reduceToNat, Nat.reduceLeDiff, not_false_eq_true, true_and, and_true, ne_eq, Int.reduceEq, Nat.zero_add, Bool.not_true, Bool.not_false, reduceCtorEq, nc0, nc1, nc2, nc3, nc4, nc5, fIx_ref put_same, fLen_ref put_same, ↓D3.lc3.eq_1, fInt, fTuple, fList, fNeS_s, fEqS_s, ↓D3.gstar3.eq_1, fInK_s, fNinK_s, fLenS_s, ↓D3.slcT3.eq_1, fCatT_t, dnew3]
      exact k
    rw [del_put, del_none hL]
    (refine laterP_in ?_; repeat ((first | with_reducible refine laterP_i ?_ | with_reducible refine later_i ?_); try simp -implicitDefEqProofs -dsimp only [↓D3.seq3_stop, ↓D3.ifS3.eq_1, ↓D3.b3.eq_1, ↓D3.op3.eq_1, ↓D3.un3.eq_1, ↓D3.v3.eq_1, ↓D3.c3.eq_1, fIx_tup, fIx_lst, at3_0, at3_1, at3_2, at3_3, at3_4, at3_5, at3_6, start3, fI0_i, fI_i, fLt, fLe, fGt, fGe, fEqI, fNeI, fMin, fMax, ↓D3.asg3.eq_1, ↓D3.name3.eq_1, ↓D3.sub3.eq_1, ↓D3.ret3.eq_1, ↓D3.retN3.eq_1, ↓D3.nx3.eq_1, ↓D3.drop3.eq_1, ↓D3.par3.eq_1, ↓D3.aug3.eq_1, ↓D3.and3.eq_1, ↓D3.or3.eq_1, ↓D3.not3.eq_1, ↓D3.andV3.eq_1, ↓D3.orV3.eq_1, ↓D3.notV3.eq_1, ↓D3.if3.eq_1, ↓D3.nil3.eq_1, ↓D3.cons3.eq_1, ↓D3.tup3.eq_1, ↓D3.lst3.eq_1, ↓D3.lstM3.eq_1, ↓D3.gtup3.eq_1, ↓D3.gcons3.eq_1, ↓D3.gnil3.eq_1, ↓D3.gunl3.eq_1, ↓D3.bits3.eq_1, ↓D3.neg3.eq_1, ↓D3.chain3.eq_1, fIsi_int_int, fIsi_int_bool, fIsi_int_tuple, fIsi_int_str, fIsi_int_list, fIsi_bl_int, fIsi_bl_bool, fIsi_bl_tuple, fIsi_bl_str, fIsi_bl_list, fIsi_non_int, fIsi_non_bool, fIsi_non_tuple, fIsi_non_str, fIsi_non_list, fIsi_str_int, fIsi_str_bool, fIsi_str_tuple, fIsi_str_str, fIsi_str_list, fIsi_tup_int, fIsi_tup_bool, fIsi_tup_tuple, fIsi_tup_str, fIsi_tup_list, fIsi_lst_int, fIsi_lst_bool, fIsi_lst_tuple, fIsi_lst_str, fIsi_lst_list, fLen_lst, fLen_tup, fAbs, ↓D3.call3_k, ↓D3.kont_app, ↓D3.isN3.eq_1, ↓D3.notN3.eq_1, dIsN_non, dIsN_int, dIsN_bl, dIsN_str, dIsN_tup, dIsN_lst, ↓D3.slc3.eq_1, ↓D3.part3.eq_1, ↓D3.noPart3.eq_1, ↓D3.ilst3.eq_1, ↓D3.itup3.eq_1, ↓D3.irng1.eq_1, ↓D3.irng2.eq_1, ↓D3.for3.eq_1, fCat, fEq_int, fNe_int, fEq_bl, fNe_bl, fEq_pair, fNe_pair, List.map, List.replicate, List.length_cons, List.length_nil, List.set_cons_zero, List.set_cons_succ, List.getElem?_cons_zero, List.getElem?_cons_succ, List.cons_append, List.nil_append, at_0, at_1, at_2, at_3, at_4, at_5, at_6, ix_0, ix_1, ix_2, put_same, put_put, decide_eq_true_eq, Bool.not_eq_true', decide_eq_false_iff_not, ite_not, ite_true, ite_false, if_true, if_false, Bool.false_eq_true, ↓reduceIte, reduceIte, Nat.reduceAdd, Nat.reduceSub, Int.reduceToNat, Nat.reduceLeDiff, not_false_eq_true, true_and, and_true, ne_eq, Int.reduceEq, Nat.zero_add, Bool.not_true, Bool.not_false, reduceCtorEq, nc0, nc1, nc2, nc3, nc4, nc5, fIx_ref put_same, fLen_ref put_same, ↓D3.lc3.eq_1, fInt, fTuple, fList, fNeS_s, fEqS_s, ↓D3.gstar3.eq_1, fInK_s, fNinK_s, fLenS_s, ↓D3.slcT3.eq_1, fCatT_t, dnew3, List.filter_cons, List.filter_nil, Bool.false_eq_true]))
    rw [fEq_nil (n := 140) (show Pls 140 [] from trivial) (by simp [dps])]
    (refine laterP_in ?_; repeat ((first | with_reducible refine laterP_i ?_ | with_reducible refine later_i ?_); try simp -implicitDefEqProofs -dsimp only [↓D3.seq3_stop, ↓D3.ifS3.eq_1, ↓D3.b3.eq_1, ↓D3.op3.eq_1, ↓D3.un3.eq_1, ↓D3.v3.eq_1, ↓D3.c3.eq_1, fIx_tup, fIx_lst, at3_0, at3_1, at3_2, at3_3, at3_4, at3_5, at3_6, start3, fI0_i, fI_i, fLt, fLe, fGt, fGe, fEqI, fNeI, fMin, fMax, ↓D3.asg3.eq_1, ↓D3.name3.eq_1, ↓D3.sub3.eq_1, ↓D3.ret3.eq_1, ↓D3.retN3.eq_1, ↓D3.nx3.eq_1, ↓D3.drop3.eq_1, ↓D3.par3.eq_1, ↓D3.aug3.eq_1, ↓D3.and3.eq_1, ↓D3.or3.eq_1, ↓D3.not3.eq_1, ↓D3.andV3.eq_1, ↓D3.orV3.eq_1, ↓D3.notV3.eq_1, ↓D3.if3.eq_1, ↓D3.nil3.eq_1, ↓D3.cons3.eq_1, ↓D3.tup3.eq_1, ↓D3.lst3.eq_1, ↓D3.lstM3.eq_1, ↓D3.gtup3.eq_1, ↓D3.gcons3.eq_1, ↓D3.gnil3.eq_1, ↓D3.gunl3.eq_1, ↓D3.bits3.eq_1, ↓D3.neg3.eq_1, ↓D3.chain3.eq_1, fIsi_int_int, fIsi_int_bool, fIsi_int_tuple, fIsi_int_str, fIsi_int_list, fIsi_bl_int, fIsi_bl_bool, fIsi_bl_tuple, fIsi_bl_str, fIsi_bl_list, fIsi_non_int, fIsi_non_bool, fIsi_non_tuple, fIsi_non_str, fIsi_non_list, fIsi_str_int, fIsi_str_bool, fIsi_str_tuple, fIsi_str_str, fIsi_str_list, fIsi_tup_int, fIsi_tup_bool, fIsi_tup_tuple, fIsi_tup_str, fIsi_tup_list, fIsi_lst_int, fIsi_lst_bool, fIsi_lst_tuple, fIsi_lst_str, fIsi_lst_list, fLen_lst, fLen_tup, fAbs, ↓D3.call3_k, ↓D3.kont_app, ↓D3.isN3.eq_1, ↓D3.notN3.eq_1, dIsN_non, dIsN_int, dIsN_bl, dIsN_str, dIsN_tup, dIsN_lst, ↓D3.slc3.eq_1, ↓D3.part3.eq_1, ↓D3.noPart3.eq_1, ↓D3.ilst3.eq_1, ↓D3.itup3.eq_1, ↓D3.irng1.eq_1, ↓D3.irng2.eq_1, ↓D3.for3.eq_1, fCat, fEq_int, fNe_int, fEq_bl, fNe_bl, fEq_pair, fNe_pair, List.map, List.replicate, List.length_cons, List.length_nil, List.set_cons_zero, List.set_cons_succ, List.getElem?_cons_zero, List.getElem?_cons_succ, List.cons_append, List.nil_append, at_0, at_1, at_2, at_3, at_4, at_5, at_6, ix_0, ix_1, ix_2, put_same, put_put, decide_eq_true_eq, Bool.not_eq_true', decide_eq_false_iff_not, ite_not, ite_true, ite_false, if_true, if_false, Bool.false_eq_true, ↓reduceIte, reduceIte, Nat.reduceAdd, Nat.reduceSub, Int.reduceToNat, Nat.reduceLeDiff, not_false_eq_true, true_and, and_true, ne_eq, Int.reduceEq, Nat.zero_add, Bool.not_true, Bool.not_false, reduceCtorEq, nc0, nc1, nc2, nc3, nc4, nc5, fIx_ref put_same, fLen_ref put_same, ↓D3.lc3.eq_1, fInt, fTuple, fList, fNeS_s, fEqS_s, ↓D3.gstar3.eq_1, fInK_s, fNinK_s, fLenS_s, ↓D3.slcT3.eq_1, fCatT_t, dnew3, List.isEmpty_nil]))
    exact q _ _ (ho.1.le (by omega)) ho.2.1 (by have := ho.2.2; omega) (Off.refl _ _) (hd.le (by omega))
  | @size e x wx =>
    obtain ⟨e, rfl⟩ : ∃ k, e = k + 1 := by cases wx <;> exact ⟨_, rfl⟩
    obtain ⟨kx, rx, ex⟩ := wx.shape
    (refine laterP_in ?_; repeat ((first | with_reducible refine laterP_i ?_ | with_reducible refine later_i ?_); try simp -implicitDefEqProofs -dsimp only [↓D3.seq3_stop, ↓D3.ifS3.eq_1, ↓D3.b3.eq_1, ↓D3.op3.eq_1, ↓D3.un3.eq_1, ↓D3.v3.eq_1, ↓D3.c3.eq_1, fIx_tup, fIx_lst, at3_0, at3_1, at3_2, at3_3, at3_4, at3_5, at3_6, start3, fI0_i, fI_i, fLt, fLe, fGt, fGe, fEqI, fNeI, fMin, fMax, ↓D3.asg3.eq_1, ↓D3.name3.eq_1, ↓D3.sub3.eq_1, ↓D3.ret3.eq_1, ↓D3.retN3.eq_1, ↓D3.nx3.eq_1, ↓D3.drop3.eq_1, ↓D3.par3.eq_1, ↓D3.aug3.eq_1, ↓D3.and3.eq_1, ↓D3.or3.eq_1, ↓D3.not3.eq_1, ↓D3.andV3.eq_1, ↓D3.orV3.eq_1, ↓D3.notV3.eq_1, ↓D3.if3.eq_1, ↓D3.nil3.eq_1, ↓D3.cons3.eq_1, ↓D3.tup3.eq_1, ↓D3.lst3.eq_1, ↓D3.lstM3.eq_1, ↓D3.gtup3.eq_1, ↓D3.gcons3.eq_1, ↓D3.gnil3.eq_1, ↓D3.gunl3.eq_1, ↓D3.bits3.eq_1, ↓D3.neg3.eq_1, ↓D3.chain3.eq_1, fIsi_int_int, fIsi_int_bool, fIsi_int_tuple, fIsi_int_str, fIsi_int_list, fIsi_bl_int, fIsi_bl_bool, fIsi_bl_tuple, fIsi_bl_str, fIsi_bl_list, fIsi_non_int, fIsi_non_bool, fIsi_non_tuple, fIsi_non_str, fIsi_non_list, fIsi_str_int, fIsi_str_bool, fIsi_str_tuple, fIsi_str_str, fIsi_str_list, fIsi_tup_int, fIsi_tup_bool, fIsi_tup_tuple, fIsi_tup_str, fIsi_tup_list, fIsi_lst_int, fIsi_lst_bool, fIsi_lst_tuple, fIsi_lst_str, fIsi_lst_list, fLen_lst, fLen_tup, fAbs, ↓D3.call3_k, ↓D3.kont_app, ↓D3.isN3.eq_1, ↓D3.notN3.eq_1, dIsN_non, dIsN_int, dIsN_bl, dIsN_str, dIsN_tup, dIsN_lst, ↓D3.slc3.eq_1, ↓D3.part3.eq_1, ↓D3.noPart3.eq_1, ↓D3.ilst3.eq_1, ↓D3.itup3.eq_1, ↓D3.irng1.eq_1, ↓D3.irng2.eq_1, ↓D3.for3.eq_1, fCat, fEq_int, fNe_int, fEq_bl, fNe_bl, fEq_pair, fNe_pair, List.map, List.replicate, List.length_cons, List.length_nil, List.set_cons_zero, List.set_cons_succ, List.getElem?_cons_zero, List.getElem?_cons_succ, List.cons_append, List.nil_append, at_0, at_1, at_2, at_3, at_4, at_5, at_6, ix_0, ix_1, ix_2, put_same, put_put, decide_eq_true_eq, Bool.not_eq_true', decide_eq_false_iff_not, ite_not, ite_true, ite_false, if_true, if_false, Bool.false_eq_true, ↓reduceIte, reduceIte, Nat.reduceAdd, Nat.reduceSub, Int.reduceToNat, Nat.reduceLeDiff, not_false_eq_true, true_and, and_true, ne_eq, Int.reduceEq, Nat.zero_add, Bool.not_true, Bool.not_false, reduceCtorEq, nc0, nc1, nc2, nc3, nc4, nc5, fIx_ref put_same, fLen_ref put_same, ↓D3.lc3.eq_1, fInt, fTuple, fList, fNeS_s, fEqS_s, ↓D3.gstar3.eq_1, fInK_s, fNinK_s, fLenS_s, ↓D3.slcT3.eq_1, fCatT_t, dnew3]))
    refine ⟨by decide, fun L hL => ?_⟩
    rw [show rangeD 1 ((2 : Int) - 1).toNat = [.int 1] from rfl]
    refine lcGo_fil (fun _ => true) [.int 1] [] _ put_same (by simp) (fun z hz m' Kt k => ?_) (fun z hz m' Kt k => ?_) ?_
    · simp only [List.mem_cons, List.not_mem_nil, or_false] at hz
      subst hz ex
      try simp -implicitDefEqProofs -dsimp only [seq3, ↓D3.ifS3.eq_1, ↓D3.b3.eq_1, ↓D3.op3.eq_1, ↓D3.un3.eq_1, ↓D3.v3.eq_1, ↓D3.c3.eq_1, fIx_tup, fIx_lst, at3_0, at3_1, at3_2, at3_3, at3_4, at3_5, at3_6, start3, fI0_i, fI_i, fLt, fLe, fGt, fGe, fEqI, fNeI, fMin, fMax, ↓D3.asg3.eq_1, ↓D3.name3.eq_1, ↓D3.sub3.eq_1, ↓D3.ret3.eq_1, ↓D3.retN3.eq_1, ↓D3.nx3.eq_1, ↓D3.drop3.eq_1, ↓D3.par3.eq_1, ↓D3.aug3.eq_1, ↓D3.and3.eq_1, ↓D3.or3.eq_1, ↓D3.not3.eq_1, ↓D3.andV3.eq_1, ↓D3.orV3.eq_1, ↓D3.notV3.eq_1, ↓D3.if3.eq_1, ↓D3.nil3.eq_1, ↓D3.cons3.eq_1, ↓D3.tup3.eq_1, ↓D3.lst3.eq_1, ↓D3.lstM3.eq_1, ↓D3.gtup3.eq_1, ↓D3.gcons3.eq_1, ↓D3.gnil3.eq_1, ↓D3.gunl3.eq_1, ↓D3.bits3.eq_1, ↓D3.neg3.eq_1, ↓D3.chain3.eq_1, fIsi_int_int, fIsi_int_bool, fIsi_int_tuple, fIsi_int_str, fIsi_int_list, fIsi_bl_int, fIsi_bl_bool, fIsi_bl_tuple, fIsi_bl_str, fIsi_bl_list, fIsi_non_int, fIsi_non_bool, fIsi_non_tuple, fIsi_non_str, fIsi_non_list, fIsi_str_int, fIsi_str_bool, fIsi_str_tuple, fIsi_str_str, fIsi_str_list, fIsi_tup_int, fIsi_tup_bool, fIsi_tup_tuple, fIsi_tup_str, fIsi_tup_list, fIsi_lst_int, fIsi_lst_bool, fIsi_lst_tuple, fIsi_lst_str, fIsi_lst_list, fLen_lst, fLen_tup, fAbs, ↓D3.call3_k, ↓D3.kont_app, ↓D3.isN3.eq_1, ↓D3.notN3.eq_1, dIsN_non, dIsN_int, dIsN_bl, dIsN_str, dIsN_tup, dIsN_lst, ↓D3.slc3.eq_1, ↓D3.part3.eq_1, ↓D3.noPart3.eq_1, ↓D3.ilst3.eq_1, ↓D3.itup3.eq_1, ↓D3.irng1.eq_1, ↓D3.irng2.eq_1, ↓D3.for3.eq_1, fCat, fEq_int, fNe_int, fEq_bl, fNe_bl, fEq_pair, fNe_pair, List.map, List.replicate, List.length_cons, List.length_nil, List.set_cons_zero, List.set_cons_succ, List.getElem?_cons_zero, List.getElem?_cons_succ, List.cons_append, List.nil_append, at_0, at_1, at_2, at_3, at_4, at_5, at_6, ix_0, ix_1, ix_2, put_same, put_put, decide_eq_true_eq, Bool.not_eq_true', decide_eq_false_iff_not, ite_not, ite_true, ite_false, if_true, if_false, Bool.false_eq_true, ↓reduceIte, reduceIte, Nat.reduceAdd, Nat.reduceSub, Int.reduceToNat, Nat.reduceLeDiff, not_false_eq_true, true_and, and_true, ne_eq, Int.reduceEq, Nat.zero_add, Bool.not_true, Bool.not_false, reduceCtorEq, nc0, nc1, nc2, nc3, nc4, nc5, fIx_ref put_same, fLen_ref put_same, ↓D3.lc3.eq_1, fInt, fTuple, fList, fNeS_s, fEqS_s, ↓D3.gstar3.eq_1, fInK_s, fNinK_s, fLenS_s, ↓D3.slcT3.eq_1, fCatT_t, dnew3]
      exact k
    · try simp -implicitDefEqProofs -dsimp only [seq3, ↓D3.ifS3.eq_1, ↓D3.b3.eq_1, ↓D3.op3.eq_1, ↓D3.un3.eq_1, ↓D3.v3.eq_1, ↓D3.c3.eq_1, fIx_tup, fIx_lst, at3_0, at3_1, at3_2, at3_3, at3_4, at3_5, at3_6, start3, fI0_i, fI_i, fLt, fLe, fGt, fGe, fEqI, fNeI, fMin, fMax, ↓D3.asg3.eq_1, ↓D3.name3.eq_1, ↓D3.sub3.eq_1, ↓D3.ret3.eq_1, ↓D3.retN3.eq_1, ↓D3.nx3.eq_1, ↓D3.drop3.eq_1, ↓D3.par3.eq_1, ↓D3.aug3.eq_1, ↓D3.and3.eq_1, ↓D3.or3.eq_1, ↓D3.not3.eq_1, ↓D3.andV3.eq_1, ↓D3.orV3.eq_1, ↓D3.notV3.eq_1, ↓D3.if3.eq_1, ↓D3.nil3.eq_1, ↓D3.cons3.eq_1, ↓D3.tup3.eq_1, ↓D3.lst3.eq_1, ↓D3.lstM3.eq_1, ↓D3.gtup3.eq_1, ↓D3.gcons3.eq_1, ↓D3.gnil3.eq_1, ↓D3.gunl3.eq_1, ↓D3.bits3.eq_1, ↓D3.neg3.eq_1, ↓D3.chain3.eq_1, fIsi_int_int, fIsi_int_bool, fIsi_int_tuple, fIsi_int_str, fIsi_int_list, fIsi_bl_int, fIsi_bl_bool, fIsi_bl_tuple, fIsi_bl_str, fIsi_bl_list, fIsi_non_int, fIsi_non_bool, fIsi_non_tuple, fIsi_non_str, fIsi_non_list, fIsi_str_int, fIsi_str_bool, fIsi_str_tuple, fIsi_str_str, fIsi_str_list, fIsi_tup_int, fIsi_tup_bool, fIsi_tup_tuple, fIsi_tup_str, fIsi_tup_list, fIsi_lst_int, fIsi_lst_bool, fIsi_lst_tuple, fIsi_lst_str, fIsi_lst_list, fLen_lst, fLen_tup, fAbs, ↓D3.call3_k, ↓D3.kont_app, ↓D3.isN3.eq_1, ↓D3.notN3.eq_1, dIsN_non, dIsN_int, dIsN_bl, dIsN_str, dIsN_tup, dIsN_lst, ↓D3.slc3.eq_1, ↓D3.part3.eq_1, ↓D3.noPart3.eq_1, ↓D3.ilst3.eq_1, ↓D3.itup3.eq_1, ↓D3.irng1.eq_1, ↓D3.irng2.eq_1, ↓D3.for3.eq_1, fCat, fEq_int, fNe_int, fEq_bl, fNe_bl, fEq_pair, fNe_pair, List.map, List.replicate, List.length_cons, List.length_nil, List.set_cons_zero, List.set_cons_succ, List.getElem?_cons_zero, List.getElem?_cons_succ, List.cons_append, List.nil_append, at_0, at_1, at_2, at_3, at_4, at_5, at_6, ix_0, ix_1, ix_2, put_same, put_put, decide_eq_true_eq, Bool.not_eq_true', decide_eq_false_iff_not, ite_not, ite_true, ite_false, if_true, if_false, Bool.false_eq_true, ↓reduceIte, reduceIte, Nat.reduceAdd, Nat.reduceSub, Int.reduceToNat, Nat.reduceLeDiff, not_false_eq_true, true_and, and_true, ne_eq, Int.reduceEq, Nat.zero_add, Bool.not_true, Bool.not_false, reduceCtorEq, nc0, nc1, nc2, nc3, nc4, nc5, fIx_ref put_same, fLen_ref put_same, ↓D3.lc3.eq_1, fInt, fTuple, fList, fNeS_s, fEqS_s, ↓D3.gstar3.eq_1, fInK_s, fNinK_s, fLenS_s, ↓D3.slcT3.eq_1, fCatT_t, dnew3]
      exact k
    rw [del_put, del_none hL]
    (refine laterP_in ?_; repeat ((first | with_reducible refine laterP_i ?_ | with_reducible refine later_i ?_); try simp -implicitDefEqProofs -dsimp only [↓D3.seq3_stop, ↓D3.ifS3.eq_1, ↓D3.b3.eq_1, ↓D3.op3.eq_1, ↓D3.un3.eq_1, ↓D3.v3.eq_1, ↓D3.c3.eq_1, fIx_tup, fIx_lst, at3_0, at3_1, at3_2, at3_3, at3_4, at3_5, at3_6, start3, fI0_i, fI_i, fLt, fLe, fGt, fGe, fEqI, fNeI, fMin, fMax, ↓D3.asg3.eq_1, ↓D3.name3.eq_1, ↓D3.sub3.eq_1, ↓D3.ret3.eq_1, ↓D3.retN3.eq_1, ↓D3.nx3.eq_1, ↓D3.drop3.eq_1, ↓D3.par3.eq_1, ↓D3.aug3.eq_1, ↓D3.and3.eq_1, ↓D3.or3.eq_1, ↓D3.not3.eq_1, ↓D3.andV3.eq_1, ↓D3.orV3.eq_1, ↓D3.notV3.eq_1, ↓D3.if3.eq_1, ↓D3.nil3.eq_1, ↓D3.cons3.eq_1, ↓D3.tup3.eq_1, ↓D3.lst3.eq_1, ↓D3.lstM3.eq_1, ↓D3.gtup3.eq_1, ↓D3.gcons3.eq_1, ↓D3.gnil3.eq_1, ↓D3.gunl3.eq_1, ↓D3.bits3.eq_1, ↓D3.neg3.eq_1, ↓D3.chain3.eq_1, fIsi_int_int, fIsi_int_bool, fIsi_int_tuple, fIsi_int_str, fIsi_int_list, fIsi_bl_int, fIsi_bl_bool, fIsi_bl_tuple, fIsi_bl_str, fIsi_bl_list, fIsi_non_int, fIsi_non_bool, fIsi_non_tuple, fIsi_non_str, fIsi_non_list, fIsi_str_int, fIsi_str_bool, fIsi_str_tuple, fIsi_str_str, fIsi_str_list, fIsi_tup_int, fIsi_tup_bool, fIsi_tup_tuple, fIsi_tup_str, fIsi_tup_list, fIsi_lst_int, fIsi_lst_bool, fIsi_lst_tuple, fIsi_lst_str, fIsi_lst_list, fLen_lst, fLen_tup, fAbs, ↓D3.call3_k, ↓D3.kont_app, ↓D3.isN3.eq_1, ↓D3.notN3.eq_1, dIsN_non, dIsN_int, dIsN_bl, dIsN_str, dIsN_tup, dIsN_lst, ↓D3.slc3.eq_1, ↓D3.part3.eq_1, ↓D3.noPart3.eq_1, ↓D3.ilst3.eq_1, ↓D3.itup3.eq_1, ↓D3.irng1.eq_1, ↓D3.irng2.eq_1, ↓D3.for3.eq_1, fCat, fEq_int, fNe_int, fEq_bl, fNe_bl, fEq_pair, fNe_pair, List.map, List.replicate, List.length_cons, List.length_nil, List.set_cons_zero, List.set_cons_succ, List.getElem?_cons_zero, List.getElem?_cons_succ, List.cons_append, List.nil_append, at_0, at_1, at_2, at_3, at_4, at_5, at_6, ix_0, ix_1, ix_2, put_same, put_put, decide_eq_true_eq, Bool.not_eq_true', decide_eq_false_iff_not, ite_not, ite_true, ite_false, if_true, if_false, Bool.false_eq_true, ↓reduceIte, reduceIte, Nat.reduceAdd, Nat.reduceSub, Int.reduceToNat, Nat.reduceLeDiff, not_false_eq_true, true_and, and_true, ne_eq, Int.reduceEq, Nat.zero_add, Bool.not_true, Bool.not_false, reduceCtorEq, nc0, nc1, nc2, nc3, nc4, nc5, fIx_ref put_same, fLen_ref put_same, ↓D3.lc3.eq_1, fInt, fTuple, fList, fNeS_s, fEqS_s, ↓D3.gstar3.eq_1, fInK_s, fNinK_s, fLenS_s, ↓D3.slcT3.eq_1, fCatT_t, dnew3, List.filter_cons, List.filter_nil]))
    rw [fEq_nil (n := 140) (show Pls 140 [.int 1] from ⟨pl_sm (by decide), trivial⟩) (by simp [dps, dp])]
    (refine laterP_in ?_; repeat ((first | with_reducible refine laterP_i ?_ | with_reducible refine later_i ?_); try simp -implicitDefEqProofs -dsimp only [↓D3.seq3_stop, ↓D3.ifS3.eq_1, ↓D3.b3.eq_1, ↓D3.op3.eq_1, ↓D3.un3.eq_1, ↓D3.v3.eq_1, ↓D3.c3.eq_1, fIx_tup, fIx_lst, at3_0, at3_1, at3_2, at3_3, at3_4, at3_5, at3_6, start3, fI0_i, fI_i, fLt, fLe, fGt, fGe, fEqI, fNeI, fMin, fMax, ↓D3.asg3.eq_1, ↓D3.name3.eq_1, ↓D3.sub3.eq_1, ↓D3.ret3.eq_1, ↓D3.retN3.eq_1, ↓D3.nx3.eq_1, ↓D3.drop3.eq_1, ↓D3.par3.eq_1, ↓D3.aug3.eq_1, ↓D3.and3.eq_1, ↓D3.or3.eq_1, ↓D3.not3.eq_1, ↓D3.andV3.eq_1, ↓D3.orV3.eq_1, ↓D3.notV3.eq_1, ↓D3.if3.eq_1, ↓D3.nil3.eq_1, ↓D3.cons3.eq_1, ↓D3.tup3.eq_1, ↓D3.lst3.eq_1, ↓D3.lstM3.eq_1, ↓D3.gtup3.eq_1, ↓D3.gcons3.eq_1, ↓D3.gnil3.eq_1, ↓D3.gunl3.eq_1, ↓D3.bits3.eq_1, ↓D3.neg3.eq_1, ↓D3.chain3.eq_1, fIsi_int_int, fIsi_int_bool, fIsi_int_tuple, fIsi_int_str, fIsi_int_list, fIsi_bl_int, fIsi_bl_bool, fIsi_bl_tuple, fIsi_bl_str, fIsi_bl_list, fIsi_non_int, fIsi_non_bool, fIsi_non_tuple, fIsi_non_str, fIsi_non_list, fIsi_str_int, fIsi_str_bool, fIsi_str_tuple, fIsi_str_str, fIsi_str_list, fIsi_tup_int, fIsi_tup_bool, fIsi_tup_tuple, fIsi_tup_str, fIsi_tup_list, fIsi_lst_int, fIsi_lst_bool, fIsi_lst_tuple, fIsi_lst_str, fIsi_lst_list, fLen_lst, fLen_tup, fAbs, ↓D3.call3_k, ↓D3.kont_app, ↓D3.isN3.eq_1, ↓D3.notN3.eq_1, dIsN_non, dIsN_int, dIsN_bl, dIsN_str, dIsN_tup, dIsN_lst, ↓D3.slc3.eq_1, ↓D3.part3.eq_1, ↓D3.noPart3.eq_1, ↓D3.ilst3.eq_1, ↓D3.itup3.eq_1, ↓D3.irng1.eq_1, ↓D3.irng2.eq_1, ↓D3.for3.eq_1, fCat, fEq_int, fNe_int, fEq_bl, fNe_bl, fEq_pair, fNe_pair, List.map, List.replicate, List.length_cons, List.length_nil, List.set_cons_zero, List.set_cons_succ, List.getElem?_cons_zero, List.getElem?_cons_succ, List.cons_append, List.nil_append, at_0, at_1, at_2, at_3, at_4, at_5, at_6, ix_0, ix_1, ix_2, put_same, put_put, decide_eq_true_eq, Bool.not_eq_true', decide_eq_false_iff_not, ite_not, ite_true, ite_false, if_true, if_false, Bool.false_eq_true, ↓reduceIte, reduceIte, Nat.reduceAdd, Nat.reduceSub, Int.reduceToNat, Nat.reduceLeDiff, not_false_eq_true, true_and, and_true, ne_eq, Int.reduceEq, Nat.zero_add, Bool.not_true, Bool.not_false, reduceCtorEq, nc0, nc1, nc2, nc3, nc4, nc5, fIx_ref put_same, fLen_ref put_same, ↓D3.lc3.eq_1, fInt, fTuple, fList, fNeS_s, fEqS_s, ↓D3.gstar3.eq_1, fInK_s, fNinK_s, fLenS_s, ↓D3.slcT3.eq_1, fCatT_t, dnew3, List.isEmpty_cons]))
    refine sp_pick_i (n + 2 * (e + 1) + 1) (hd.le (by omega)) (by decide) (by decide) fun r m1 r0 r1 o1 d1 => ?_
    (refine laterP_in ?_; repeat ((first | with_reducible refine laterP_i ?_ | with_reducible refine later_i ?_); try simp -implicitDefEqProofs -dsimp only [↓D3.seq3_stop, ↓D3.ifS3.eq_1, ↓D3.b3.eq_1, ↓D3.op3.eq_1, ↓D3.un3.eq_1, ↓D3.v3.eq_1, ↓D3.c3.eq_1, fIx_tup, fIx_lst, at3_0, at3_1, at3_2, at3_3, at3_4, at3_5, at3_6, start3, fI0_i, fI_i, fLt, fLe, fGt, fGe, fEqI, fNeI, fMin, fMax, ↓D3.asg3.eq_1, ↓D3.name3.eq_1, ↓D3.sub3.eq_1, ↓D3.ret3.eq_1, ↓D3.retN3.eq_1, ↓D3.nx3.eq_1, ↓D3.drop3.eq_1, ↓D3.par3.eq_1, ↓D3.aug3.eq_1, ↓D3.and3.eq_1, ↓D3.or3.eq_1, ↓D3.not3.eq_1, ↓D3.andV3.eq_1, ↓D3.orV3.eq_1, ↓D3.notV3.eq_1, ↓D3.if3.eq_1, ↓D3.nil3.eq_1, ↓D3.cons3.eq_1, ↓D3.tup3.eq_1, ↓D3.lst3.eq_1, ↓D3.lstM3.eq_1, ↓D3.gtup3.eq_1, ↓D3.gcons3.eq_1, ↓D3.gnil3.eq_1, ↓D3.gunl3.eq_1, ↓D3.bits3.eq_1, ↓D3.neg3.eq_1, ↓D3.chain3.eq_1, fIsi_int_int, fIsi_int_bool, fIsi_int_tuple, fIsi_int_str, fIsi_int_list, fIsi_bl_int, fIsi_bl_bool, fIsi_bl_tuple, fIsi_bl_str, fIsi_bl_list, fIsi_non_int, fIsi_non_bool, fIsi_non_tuple, fIsi_non_str, fIsi_non_list, fIsi_str_int, fIsi_str_bool, fIsi_str_tuple, fIsi_str_str, fIsi_str_list, fIsi_tup_int, fIsi_tup_bool, fIsi_tup_tuple, fIsi_tup_str, fIsi_tup_list, fIsi_lst_int, fIsi_lst_bool, fIsi_lst_tuple, fIsi_lst_str, fIsi_lst_list, fLen_lst, fLen_tup, fAbs, ↓D3.call3_k, ↓D3.kont_app, ↓D3.isN3.eq_1, ↓D3.notN3.eq_1, dIsN_non, dIsN_int, dIsN_bl, dIsN_str, dIsN_tup, dIsN_lst, ↓D3.slc3.eq_1, ↓D3.part3.eq_1, ↓D3.noPart3.eq_1, ↓D3.ilst3.eq_1, ↓D3.itup3.eq_1, ↓D3.irng1.eq_1, ↓D3.irng2.eq_1, ↓D3.for3.eq_1, fCat, fEq_int, fNe_int, fEq_bl, fNe_bl, fEq_pair, fNe_pair, List.map, List.replicate, List.length_cons, List.length_nil, List.set_cons_zero, List.set_cons_succ, List.getElem?_cons_zero, List.getElem?_cons_succ, List.cons_append, List.nil_append, at_0, at_1, at_2, at_3, at_4, at_5, at_6, ix_0, ix_1, ix_2, put_same, put_put, decide_eq_true_eq, Bool.not_eq_true', decide_eq_false_iff_not, ite_not, ite_true, ite_false, if_true, if_false, Bool.false_eq_true, ↓reduceIte, reduceIte, Nat.reduceAdd, Nat.reduceSub, Int.reduceToNat, Nat.reduceLeDiff, not_false_eq_true, true_and, and_true, ne_eq, Int.reduceEq, Nat.zero_add, Bool.not_true, Bool.not_false, reduceCtorEq, nc0, nc1, nc2, nc3, nc4, nc5, fIx_ref put_same, fLen_ref put_same, ↓D3.lc3.eq_1, fInt, fTuple, fList, fNeS_s, fEqS_s, ↓D3.gstar3.eq_1, fInK_s, fNinK_s, fLenS_s, ↓D3.slcT3.eq_1, fCatT_t, dnew3]))
    refine ite2 (fun _ => q _ _ (ho.1.le (by omega)) ho.2.1 (by have := ho.2.2; omega) o1 (d1.le (by omega))) (fun _ => ?_)
    (refine laterP_in ?_; repeat ((first | with_reducible refine laterP_i ?_ | with_reducible refine later_i ?_); try simp -implicitDefEqProofs -dsimp only [↓D3.seq3_stop, ↓D3.ifS3.eq_1, ↓D3.b3.eq_1, ↓D3.op3.eq_1, ↓D3.un3.eq_1, ↓D3.v3.eq_1, ↓D3.c3.eq_1, fIx_tup, fIx_lst, at3_0, at3_1, at3_2, at3_3, at3_4, at3_5, at3_6, start3, fI0_i, fI_i, fLt, fLe, fGt, fGe, fEqI, fNeI, fMin, fMax, ↓D3.asg3.eq_1, ↓D3.name3.eq_1, ↓D3.sub3.eq_1, ↓D3.ret3.eq_1, ↓D3.retN3.eq_1, ↓D3.nx3.eq_1, ↓D3.drop3.eq_1, ↓D3.par3.eq_1, ↓D3.aug3.eq_1, ↓D3.and3.eq_1, ↓D3.or3.eq_1, ↓D3.not3.eq_1, ↓D3.andV3.eq_1, ↓D3.orV3.eq_1, ↓D3.notV3.eq_1, ↓D3.if3.eq_1, ↓D3.nil3.eq_1, ↓D3.cons3.eq_1, ↓D3.tup3.eq_1, ↓D3.lst3.eq_1, ↓D3.lstM3.eq_1, ↓D3.gtup3.eq_1, ↓D3.gcons3.eq_1, ↓D3.gnil3.eq_1, ↓D3.gunl3.eq_1, ↓D3.bits3.eq_1, ↓D3.neg3.eq_1, ↓D3.chain3.eq_1, fIsi_int_int, fIsi_int_bool, fIsi_int_tuple, fIsi_int_str, fIsi_int_list, fIsi_bl_int, fIsi_bl_bool, fIsi_bl_tuple, fIsi_bl_str, fIsi_bl_list, fIsi_non_int, fIsi_non_bool, fIsi_non_tuple, fIsi_non_str, fIsi_non_list, fIsi_str_int, fIsi_str_bool, fIsi_str_tuple, fIsi_str_str, fIsi_str_list, fIsi_tup_int, fIsi_tup_bool, fIsi_tup_tuple, fIsi_tup_str, fIsi_tup_list, fIsi_lst_int, fIsi_lst_bool, fIsi_lst_tuple, fIsi_lst_str, fIsi_lst_list, fLen_lst, fLen_tup, fAbs, ↓D3.call3_k, ↓D3.kont_app, ↓D3.isN3.eq_1, ↓D3.notN3.eq_1, dIsN_non, dIsN_int, dIsN_bl, dIsN_str, dIsN_tup, dIsN_lst, ↓D3.slc3.eq_1, ↓D3.part3.eq_1, ↓D3.noPart3.eq_1, ↓D3.ilst3.eq_1, ↓D3.itup3.eq_1, ↓D3.irng1.eq_1, ↓D3.irng2.eq_1, ↓D3.for3.eq_1, fCat, fEq_int, fNe_int, fEq_bl, fNe_bl, fEq_pair, fNe_pair, List.map, List.replicate, List.length_cons, List.length_nil, List.set_cons_zero, List.set_cons_succ, List.getElem?_cons_zero, List.getElem?_cons_succ, List.cons_append, List.nil_append, at_0, at_1, at_2, at_3, at_4, at_5, at_6, ix_0, ix_1, ix_2, put_same, put_put, decide_eq_true_eq, Bool.not_eq_true', decide_eq_false_iff_not, ite_not, ite_true, ite_false, if_true, if_false, Bool.false_eq_true, ↓reduceIte, reduceIte, Nat.reduceAdd, Nat.reduceSub, Int.reduceToNat, Nat.reduceLeDiff, not_false_eq_true, true_and, and_true, ne_eq, Int.reduceEq, Nat.zero_add, Bool.not_true, Bool.not_false, reduceCtorEq, nc0, nc1, nc2, nc3, nc4, nc5, fIx_ref put_same, fLen_ref put_same, ↓D3.lc3.eq_1, fInt, fTuple, fList, fNeS_s, fEqS_s, ↓D3.gstar3.eq_1, fInK_s, fNinK_s, fLenS_s, ↓D3.slcT3.eq_1, fCatT_t, dnew3]))
    refine sp_pick_i (n + 2 * (e + 1)) d1 (by decide) (by decide) fun r m2 r0 r1 o2 d2 => ?_
    obtain rfl : r = 0 := by omega
    (refine laterP_in ?_; repeat ((first | with_reducible refine laterP_i ?_ | with_reducible refine later_i ?_); try simp -implicitDefEqProofs -dsimp only [↓D3.seq3_stop, ↓D3.ifS3.eq_1, ↓D3.b3.eq_1, ↓D3.op3.eq_1, ↓D3.un3.eq_1, ↓D3.v3.eq_1, ↓D3.c3.eq_1, fIx_tup, fIx_lst, at3_0, at3_1, at3_2, at3_3, at3_4, at3_5, at3_6, start3, fI0_i, fI_i, fLt, fLe, fGt, fGe, fEqI, fNeI, fMin, fMax, ↓D3.asg3.eq_1, ↓D3.name3.eq_1, ↓D3.sub3.eq_1, ↓D3.ret3.eq_1, ↓D3.retN3.eq_1, ↓D3.nx3.eq_1, ↓D3.drop3.eq_1, ↓D3.par3.eq_1, ↓D3.aug3.eq_1, ↓D3.and3.eq_1, ↓D3.or3.eq_1, ↓D3.not3.eq_1, ↓D3.andV3.eq_1, ↓D3.orV3.eq_1, ↓D3.notV3.eq_1, ↓D3.if3.eq_1, ↓D3.nil3.eq_1, ↓D3.cons3.eq_1, ↓D3.tup3.eq_1, ↓D3.lst3.eq_1, ↓D3.lstM3.eq_1, ↓D3.gtup3.eq_1, ↓D3.gcons3.eq_1, ↓D3.gnil3.eq_1, ↓D3.gunl3.eq_1, ↓D3.bits3.eq_1, ↓D3.neg3.eq_1, ↓D3.chain3.eq_1, fIsi_int_int, fIsi_int_bool, fIsi_int_tuple, fIsi_int_str, fIsi_int_list, fIsi_bl_int, fIsi_bl_bool, fIsi_bl_tuple, fIsi_bl_str, fIsi_bl_list, fIsi_non_int, fIsi_non_bool, fIsi_non_tuple, fIsi_non_str, fIsi_non_list, fIsi_str_int, fIsi_str_bool, fIsi_str_tuple, fIsi_str_str, fIsi_str_list, fIsi_tup_int, fIsi_tup_bool, fIsi_tup_tuple, fIsi_tup_str, fIsi_tup_list, fIsi_lst_int, fIsi_lst_bool, fIsi_lst_tuple, fIsi_lst_str, fIsi_lst_list, fLen_lst, fLen_tup, fAbs, ↓D3.call3_k, ↓D3.kont_app, ↓D3.isN3.eq_1, ↓D3.notN3.eq_1, dIsN_non, dIsN_int, dIsN_bl, dIsN_str, dIsN_tup, dIsN_lst, ↓D3.slc3.eq_1, ↓D3.part3.eq_1, ↓D3.noPart3.eq_1, ↓D3.ilst3.eq_1, ↓D3.itup3.eq_1, ↓D3.irng1.eq_1, ↓D3.irng2.eq_1, ↓D3.for3.eq_1, fCat, fEq_int, fNe_int, fEq_bl, fNe_bl, fEq_pair, fNe_pair, List.map, List.replicate, List.length_cons, List.length_nil, List.set_cons_zero, List.set_cons_succ, List.getElem?_cons_zero, List.getElem?_cons_succ, List.cons_append, List.nil_append, at_0, at_1, at_2, at_3, at_4, at_5, at_6, ix_0, ix_1, ix_2, put_same, put_put, decide_eq_true_eq, Bool.not_eq_true', decide_eq_false_iff_not, ite_not, ite_true, ite_false, if_true, if_false, Bool.false_eq_true, ↓reduceIte, reduceIte, Nat.reduceAdd, Nat.reduceSub, Int.reduceToNat, Nat.reduceLeDiff, not_false_eq_true, true_and, and_true, ne_eq, Int.reduceEq, Nat.zero_add, Bool.not_true, Bool.not_false, reduceCtorEq, nc0, nc1, nc2, nc3, nc4, nc5, fIx_ref put_same, fLen_ref put_same, ↓D3.lc3.eq_1, fInt, fTuple, fList, fNeS_s, fEqS_s, ↓D3.gstar3.eq_1, fInK_s, fNinK_s, fLenS_s, ↓D3.slcT3.eq_1, fCatT_t, dnew3]))
    refine ⟨a, n, x, o, rfl, wx, ho, d2, fun x' m3 g3 p3 l3 o3 d3 => ?_⟩
    (refine laterP_in ?_; repeat ((first | with_reducible refine laterP_i ?_ | with_reducible refine later_i ?_); try simp -implicitDefEqProofs -dsimp only [↓D3.seq3_stop, ↓D3.ifS3.eq_1, ↓D3.b3.eq_1, ↓D3.op3.eq_1, ↓D3.un3.eq_1, ↓D3.v3.eq_1, ↓D3.c3.eq_1, fIx_tup, fIx_lst, at3_0, at3_1, at3_2, at3_3, at3_4, at3_5, at3_6, start3, fI0_i, fI_i, fLt, fLe, fGt, fGe, fEqI, fNeI, fMin, fMax, ↓D3.asg3.eq_1, ↓D3.name3.eq_1, ↓D3.sub3.eq_1, ↓D3.ret3.eq_1, ↓D3.retN3.eq_1, ↓D3.nx3.eq_1, ↓D3.drop3.eq_1, ↓D3.par3.eq_1, ↓D3.aug3.eq_1, ↓D3.and3.eq_1, ↓D3.or3.eq_1, ↓D3.not3.eq_1, ↓D3.andV3.eq_1, ↓D3.orV3.eq_1, ↓D3.notV3.eq_1, ↓D3.if3.eq_1, ↓D3.nil3.eq_1, ↓D3.cons3.eq_1, ↓D3.tup3.eq_1, ↓D3.lst3.eq_1, ↓D3.lstM3.eq_1, ↓D3.gtup3.eq_1, ↓D3.gcons3.eq_1, ↓D3.gnil3.eq_1, ↓D3.gunl3.eq_1, ↓D3.bits3.eq_1, ↓D3.neg3.eq_1, ↓D3.chain3.eq_1, fIsi_int_int, fIsi_int_bool, fIsi_int_tuple, fIsi_int_str, fIsi_int_list, fIsi_bl_int, fIsi_bl_bool, fIsi_bl_tuple, fIsi_bl_str, fIsi_bl_list, fIsi_non_int, fIsi_non_bool, fIsi_non_tuple, fIsi_non_str, fIsi_non_list, fIsi_str_int, fIsi_str_bool, fIsi_str_tuple, fIsi_str_str, fIsi_str_list, fIsi_tup_int, fIsi_tup_bool, fIsi_tup_tuple, fIsi_tup_str, fIsi_tup_list, fIsi_lst_int, fIsi_lst_bool, fIsi_lst_tuple, fIsi_lst_str, fIsi_lst_list, fLen_lst, fLen_tup, fAbs, ↓D3.call3_k, ↓D3.kont_app, ↓D3.isN3.eq_1, ↓D3.notN3.eq_1, dIsN_non, dIsN_int, dIsN_bl, dIsN_str, dIsN_tup, dIsN_lst, ↓D3.slc3.eq_1, ↓D3.part3.eq_1, ↓D3.noPart3.eq_1, ↓D3.ilst3.eq_1, ↓D3.itup3.eq_1, ↓D3.irng1.eq_1, ↓D3.irng2.eq_1, ↓D3.for3.eq_1, fCat, fEq_int, fNe_int, fEq_bl, fNe_bl, fEq_pair, fNe_pair, List.map, List.replicate, List.length_cons, List.length_nil, List.set_cons_zero, List.set_cons_succ, List.getElem?_cons_zero, List.getElem?_cons_succ, List.cons_append, List.nil_append, at_0, at_1, at_2, at_3, at_4, at_5, at_6, ix_0, ix_1, ix_2, put_same, put_put, decide_eq_true_eq, Bool.not_eq_true', decide_eq_false_iff_not, ite_not, ite_true, ite_false, if_true, if_false, Bool.false_eq_true, ↓reduceIte, reduceIte, Nat.reduceAdd, Nat.reduceSub, Int.reduceToNat, Nat.reduceLeDiff, not_false_eq_true, true_and, and_true, ne_eq, Int.reduceEq, Nat.zero_add, Bool.not_true, Bool.not_false, reduceCtorEq, nc0, nc1, nc2, nc3, nc4, nc5, fIx_ref put_same, fLen_ref put_same, ↓D3.lc3.eq_1, fInt, fTuple, fList, fNeS_s, fEqS_s, ↓D3.gstar3.eq_1, fInK_s, fNinK_s, fLenS_s, ↓D3.slcT3.eq_1, fCatT_t, dnew3, cutD_t1, List.take_succ_cons, List.take_zero]))
    refine ⟨lbig (by simp), ?_⟩
    rw [show (1 : Int) + 1 = 2 from rfl, cutD_2]
    (refine laterP_in ?_; repeat ((first | with_reducible refine laterP_i ?_ | with_reducible refine later_i ?_); try simp -implicitDefEqProofs -dsimp only [↓D3.seq3_stop, ↓D3.ifS3.eq_1, ↓D3.b3.eq_1, ↓D3.op3.eq_1, ↓D3.un3.eq_1, ↓D3.v3.eq_1, ↓D3.c3.eq_1, fIx_tup, fIx_lst, at3_0, at3_1, at3_2, at3_3, at3_4, at3_5, at3_6, start3, fI0_i, fI_i, fLt, fLe, fGt, fGe, fEqI, fNeI, fMin, fMax, ↓D3.asg3.eq_1, ↓D3.name3.eq_1, ↓D3.sub3.eq_1, ↓D3.ret3.eq_1, ↓D3.retN3.eq_1, ↓D3.nx3.eq_1, ↓D3.drop3.eq_1, ↓D3.par3.eq_1, ↓D3.aug3.eq_1, ↓D3.and3.eq_1, ↓D3.or3.eq_1, ↓D3.not3.eq_1, ↓D3.andV3.eq_1, ↓D3.orV3.eq_1, ↓D3.notV3.eq_1, ↓D3.if3.eq_1, ↓D3.nil3.eq_1, ↓D3.cons3.eq_1, ↓D3.tup3.eq_1, ↓D3.lst3.eq_1, ↓D3.lstM3.eq_1, ↓D3.gtup3.eq_1, ↓D3.gcons3.eq_1, ↓D3.gnil3.eq_1, ↓D3.gunl3.eq_1, ↓D3.bits3.eq_1, ↓D3.neg3.eq_1, ↓D3.chain3.eq_1, fIsi_int_int, fIsi_int_bool, fIsi_int_tuple, fIsi_int_str, fIsi_int_list, fIsi_bl_int, fIsi_bl_bool, fIsi_bl_tuple, fIsi_bl_str, fIsi_bl_list, fIsi_non_int, fIsi_non_bool, fIsi_non_tuple, fIsi_non_str, fIsi_non_list, fIsi_str_int, fIsi_str_bool, fIsi_str_tuple, fIsi_str_str, fIsi_str_list, fIsi_tup_int, fIsi_tup_bool, fIsi_tup_tuple, fIsi_tup_str, fIsi_tup_list, fIsi_lst_int, fIsi_lst_bool, fIsi_lst_tuple, fIsi_lst_str, fIsi_lst_list, fLen_lst, fLen_tup, fAbs, ↓D3.call3_k, ↓D3.kont_app, ↓D3.isN3.eq_1, ↓D3.notN3.eq_1, dIsN_non, dIsN_int, dIsN_bl, dIsN_str, dIsN_tup, dIsN_lst, ↓D3.slc3.eq_1, ↓D3.part3.eq_1, ↓D3.noPart3.eq_1, ↓D3.ilst3.eq_1, ↓D3.itup3.eq_1, ↓D3.irng1.eq_1, ↓D3.irng2.eq_1, ↓D3.for3.eq_1, fCat, fEq_int, fNe_int, fEq_bl, fNe_bl, fEq_pair, fNe_pair, List.map, List.replicate, List.length_cons, List.length_nil, List.set_cons_zero, List.set_cons_succ, List.getElem?_cons_zero, List.getElem?_cons_succ, List.cons_append, List.nil_append, at_0, at_1, at_2, at_3, at_4, at_5, at_6, ix_0, ix_1, ix_2, put_same, put_put, decide_eq_true_eq, Bool.not_eq_true', decide_eq_false_iff_not, ite_not, ite_true, ite_false, if_true, if_false, Bool.false_eq_true, ↓reduceIte, reduceIte, Nat.reduceAdd, Nat.reduceSub, Int.reduceToNat, Nat.reduceLeDiff, not_false_eq_true, true_and, and_true, ne_eq, Int.reduceEq, Nat.zero_add, Bool.not_true, Bool.not_false, reduceCtorEq, nc0, nc1, nc2, nc3, nc4, nc5, fIx_ref put_same, fLen_ref put_same, ↓D3.lc3.eq_1, fInt, fTuple, fList, fNeS_s, fEqS_s, ↓D3.gstar3.eq_1, fInK_s, fNinK_s, fLenS_s, ↓D3.slcT3.eq_1, fCatT_t, dnew3, List.drop_succ_cons, List.drop_zero, List.drop_nil, List.append_nil]))
    refine ⟨lbig (by simp), ?_⟩
    exact q _ _ (.size g3) ⟨⟨by decide +kernel, by decide +kernel⟩, p3, trivial⟩ (by simp only [dp, dps]; omega) ((o1.trans o2).trans o3) d3
  | @two e k x y hk wx wy =>
    obtain ⟨e, rfl⟩ : ∃ k, e = k + 1 := by cases wx <;> exact ⟨_, rfl⟩
    obtain ⟨kx, rx, ex⟩ := wx.shape
    obtain ⟨ky, ry, ey⟩ := wy.shape
    obtain ⟨vx, gx⟩ := wx.gv
    obtain ⟨vy, gy⟩ := wy.gv
    obtain ⟨lx, dx⟩ := wx.ok (fun _ z => absurd z List.not_mem_nil)
    obtain ⟨ly, dy⟩ := wy.ok (fun _ z => absurd z List.not_mem_nil)
    (refine laterP_in ?_; repeat ((first | with_reducible refine laterP_i ?_ | with_reducible refine later_i ?_); try simp -implicitDefEqProofs -dsimp only [↓D3.seq3_stop, ↓D3.ifS3.eq_1, ↓D3.b3.eq_1, ↓D3.op3.eq_1, ↓D3.un3.eq_1, ↓D3.v3.eq_1, ↓D3.c3.eq_1, fIx_tup, fIx_lst, at3_0, at3_1, at3_2, at3_3, at3_4, at3_5, at3_6, start3, fI0_i, fI_i, fLt, fLe, fGt, fGe, fEqI, fNeI, fMin, fMax, ↓D3.asg3.eq_1, ↓D3.name3.eq_1, ↓D3.sub3.eq_1, ↓D3.ret3.eq_1, ↓D3.retN3.eq_1, ↓D3.nx3.eq_1, ↓D3.drop3.eq_1, ↓D3.par3.eq_1, ↓D3.aug3.eq_1, ↓D3.and3.eq_1, ↓D3.or3.eq_1, ↓D3.not3.eq_1, ↓D3.andV3.eq_1, ↓D3.orV3.eq_1, ↓D3.notV3.eq_1, ↓D3.if3.eq_1, ↓D3.nil3.eq_1, ↓D3.cons3.eq_1, ↓D3.tup3.eq_1, ↓D3.lst3.eq_1, ↓D3.lstM3.eq_1, ↓D3.gtup3.eq_1, ↓D3.gcons3.eq_1, ↓D3.gnil3.eq_1, ↓D3.gunl3.eq_1, ↓D3.bits3.eq_1, ↓D3.neg3.eq_1, ↓D3.chain3.eq_1, fIsi_int_int, fIsi_int_bool, fIsi_int_tuple, fIsi_int_str, fIsi_int_list, fIsi_bl_int, fIsi_bl_bool, fIsi_bl_tuple, fIsi_bl_str, fIsi_bl_list, fIsi_non_int, fIsi_non_bool, fIsi_non_tuple, fIsi_non_str, fIsi_non_list, fIsi_str_int, fIsi_str_bool, fIsi_str_tuple, fIsi_str_str, fIsi_str_list, fIsi_tup_int, fIsi_tup_bool, fIsi_tup_tuple, fIsi_tup_str, fIsi_tup_list, fIsi_lst_int, fIsi_lst_bool, fIsi_lst_tuple, fIsi_lst_str, fIsi_lst_list, fLen_lst, fLen_tup, fAbs, ↓D3.call3_k, ↓D3.kont_app, ↓D3.isN3.eq_1, ↓D3.notN3.eq_1, dIsN_non, dIsN_int, dIsN_bl, dIsN_str, dIsN_tup, dIsN_lst, ↓D3.slc3.eq_1, ↓D3.part3.eq_1, ↓D3.noPart3.eq_1, ↓D3.ilst3.eq_1, ↓D3.itup3.eq_1, ↓D3.irng1.eq_1, ↓D3.irng2.eq_1, ↓D3.for3.eq_1, fCat, fEq_int, fNe_int, fEq_bl, fNe_bl, fEq_pair, fNe_pair, List.map, List.replicate, List.length_cons, List.length_nil, List.set_cons_zero, List.set_cons_succ, List.getElem?_cons_zero, List.getElem?_cons_succ, List.cons_append, List.nil_append, at_0, at_1, at_2, at_3, at_4, at_5, at_6, ix_0, ix_1, ix_2, put_same, put_put, decide_eq_true_eq, Bool.not_eq_true', decide_eq_false_iff_not, ite_not, ite_true, ite_false, if_true, if_false, Bool.false_eq_true, ↓reduceIte, reduceIte, Nat.reduceAdd, Nat.reduceSub, Int.reduceToNat, Nat.reduceLeDiff, not_false_eq_true, true_and, and_true, ne_eq, Int.reduceEq, Nat.zero_add, Bool.not_true, Bool.not_false, reduceCtorEq, nc0, nc1, nc2, nc3, nc4, nc5, fIx_ref put_same, fLen_ref put_same, ↓D3.lc3.eq_1, fInt, fTuple, fList, fNeS_s, fEqS_s, ↓D3.gstar3.eq_1, fInK_s, fNinK_s, fLenS_s, ↓D3.slcT3.eq_1, fCatT_t, dnew3]))
    refine ⟨by decide, fun L hL => ?_⟩
    rw [show rangeD 1 ((3 : Int) - 1).toNat = [.int 1, .int 2] from rfl]
    refine lcGo_fil (fun _ => true) [.int 1, .int 2] [] _ put_same (by simp) (fun z hz m' Kt k => ?_) (fun z hz m' Kt k => ?_) ?_
    · simp only [List.mem_cons, List.not_mem_nil, or_false] at hz
      subst ex ey
      rcases hz with rfl | rfl
      · try simp -implicitDefEqProofs -dsimp only [seq3, ↓D3.ifS3.eq_1, ↓D3.b3.eq_1, ↓D3.op3.eq_1, ↓D3.un3.eq_1, ↓D3.v3.eq_1, ↓D3.c3.eq_1, fIx_tup, fIx_lst, at3_0, at3_1, at3_2, at3_3, at3_4, at3_5, at3_6, start3, fI0_i, fI_i, fLt, fLe, fGt, fGe, fEqI, fNeI, fMin, fMax, ↓D3.asg3.eq_1, ↓D3.name3.eq_1, ↓D3.sub3.eq_1, ↓D3.ret3.eq_1, ↓D3.retN3.eq_1, ↓D3.nx3.eq_1, ↓D3.drop3.eq_1, ↓D3.par3.eq_1, ↓D3.aug3.eq_1, ↓D3.and3.eq_1, ↓D3.or3.eq_1, ↓D3.not3.eq_1, ↓D3.andV3.eq_1, ↓D3.orV3.eq_1, ↓D3.notV3.eq_1, ↓D3.if3.eq_1, ↓D3.nil3.eq_1, ↓D3.cons3.eq_1, ↓D3.tup3.eq_1, ↓D3.lst3.eq_1, ↓D3.lstM3.eq_1, ↓D3.gtup3.eq_1, ↓D3.gcons3.eq_1, ↓D3.gnil3.eq_1, ↓D3.gunl3.eq_1, ↓D3.bits3.eq_1, ↓D3.neg3.eq_1, ↓D3.chain3.eq_1, fIsi_int_int, fIsi_int_bool, fIsi_int_tuple, fIsi_int_str, fIsi_int_list, fIsi_bl_int, fIsi_bl_bool, fIsi_bl_tuple, fIsi_bl_str, fIsi_bl_list, fIsi_non_int, fIsi_non_bool, fIsi_non_tuple, fIsi_non_str, fIsi_non_list, fIsi_str_int, fIsi_str_bool, fIsi_str_tuple, fIsi_str_str, fIsi_str_list, fIsi_tup_int, fIsi_tup_bool, fIsi_tup_tuple, fIsi_tup_str, fIsi_tup_list, fIsi_lst_int, fIsi_lst_bool, fIsi_lst_tuple, fIsi_lst_str, fIsi_lst_list, fLen_lst, fLen_tup, fAbs, ↓D3.call3_k, ↓D3.kont_app, ↓D3.isN3.eq_1, ↓D3.notN3.eq_1, dIsN_non, dIsN_int, dIsN_bl, dIsN_str, dIsN_tup, dIsN_lst, ↓D3.slc3.eq_1, ↓D3.part3.eq_1, ↓D3.noPart3.eq_1, ↓D3.ilst3.eq_1, ↓D3.itup3.eq_1, ↓D3.irng1.eq_1, ↓D3.irng2.eq_1, ↓D3.for3.eq_1, fCat, fEq_int, fNe_int, fEq_bl, fNe_bl, fEq_pair, fNe_pair, List.map, List.replicate, List.length_cons, List.length_nil, List.set_cons_zero, List.set_cons_succ, List.getElem?_cons_zero, List.getElem?_cons_succ, List.cons_append, List.nil_append, at_0, at_1, at_2, at_3, at_4, at_5, at_6, ix_0, ix_1, ix_2, put_same, put_put, decide_eq_true_eq, Bool.not_eq_true', decide_eq_false_iff_not, ite_not, ite_true, ite_false, if_true, if_false, Bool.false_eq_true, ↓reduceIte, reduceIte, Nat.reduceAdd, Nat.reduceSub, Int.reduceToNat, Nat.reduceLeDiff, not_false_eq_true, true_and, and_true, ne_eq, Int.reduceEq, Nat.zero_add, Bool.not_true, Bool.not_false, reduceCtorEq, nc0, nc1, nc2, nc3, nc4, nc5, fIx_ref put_same, fLen_ref put_same, ↓D3.lc3.eq_1, fInt, fTuple, fList, fNeS_s, fEqS_s, ↓D3.gstar3.eq_1, fInK_s, fNinK_s, fLenS_s, ↓D3.slcT3.eq_1, fCatT_t, dnew3]
        exact k
      · try simp -implicitDefEqProofs -dsimp only [seq3, ↓D3.ifS3.eq_1, ↓D3.b3.eq_1, ↓D3.op3.eq_1, ↓D3.un3.eq_1, ↓D3.v3.eq_1, ↓D3.c3.eq_1, fIx_tup, fIx_lst, at3_0, at3_1, at3_2, at3_3, at3_4, at3_5, at3_6, start3, fI0_i, fI_i, fLt, fLe, fGt, fGe, fEqI, fNeI, fMin, fMax, ↓D3.asg3.eq_1, ↓D3.name3.eq_1, ↓D3.sub3.eq_1, ↓D3.ret3.eq_1, ↓D3.retN3.eq_1, ↓D3.nx3.eq_1, ↓D3.drop3.eq_1, ↓D3.par3.eq_1, ↓D3.aug3.eq_1, ↓D3.and3.eq_1, ↓D3.or3.eq_1, ↓D3.not3.eq_1, ↓D3.andV3.eq_1, ↓D3.orV3.eq_1, ↓D3.notV3.eq_1, ↓D3.if3.eq_1, ↓D3.nil3.eq_1, ↓D3.cons3.eq_1, ↓D3.tup3.eq_1, ↓D3.lst3.eq_1, ↓D3.lstM3.eq_1, ↓D3.gtup3.eq_1, ↓D3.gcons3.eq_1, ↓D3.gnil3.eq_1, ↓D3.gunl3.eq_1, ↓D3.bits3.eq_1, ↓D3.neg3.eq_1, ↓D3.chain3.eq_1, fIsi_int_int, fIsi_int_bool, fIsi_int_tuple, fIsi_int_str, fIsi_int_list, fIsi_bl_int, fIsi_bl_bool, fIsi_bl_tuple, fIsi_bl_str, fIsi_bl_list, fIsi_non_int, fIsi_non_bool, fIsi_non_tuple, fIsi_non_str, fIsi_non_list, fIsi_str_int, fIsi_str_bool, fIsi_str_tuple, fIsi_str_str, fIsi_str_list, fIsi_tup_int, fIsi_tup_bool, fIsi_tup_tuple, fIsi_tup_str, fIsi_tup_list, fIsi_lst_int, fIsi_lst_bool, fIsi_lst_tuple, fIsi_lst_str, fIsi_lst_list, fLen_lst, fLen_tup, fAbs, ↓D3.call3_k, ↓D3.kont_app, ↓D3.isN3.eq_1, ↓D3.notN3.eq_1, dIsN_non, dIsN_int, dIsN_bl, dIsN_str, dIsN_tup, dIsN_lst, ↓D3.slc3.eq_1, ↓D3.part3.eq_1, ↓D3.noPart3.eq_1, ↓D3.ilst3.eq_1, ↓D3.itup3.eq_1, ↓D3.irng1.eq_1, ↓D3.irng2.eq_1, ↓D3.for3.eq_1, fCat, fEq_int, fNe_int, fEq_bl, fNe_bl, fEq_pair, fNe_pair, List.map, List.replicate, List.length_cons, List.length_nil, List.set_cons_zero, List.set_cons_succ, List.getElem?_cons_zero, List.getElem?_cons_succ, List.cons_append, List.nil_append, at_0, at_1, at_2, at_3, at_4, at_5, at_6, ix_0, ix_1, ix_2, put_same, put_put, decide_eq_true_eq, Bool.not_eq_true', decide_eq_false_iff_not, ite_not, ite_true, ite_false, if_true, if_false, Bool.false_eq_true, ↓reduceIte, reduceIte, Nat.reduceAdd, Nat.reduceSub, Int.reduceToNat, Nat.reduceLeDiff, not_false_eq_true, true_and, and_true, ne_eq, Int.reduceEq, Nat.zero_add, Bool.not_true, Bool.not_false, reduceCtorEq, nc0, nc1, nc2, nc3, nc4, nc5, fIx_ref put_same, fLen_ref put_same, ↓D3.lc3.eq_1, fInt, fTuple, fList, fNeS_s, fEqS_s, ↓D3.gstar3.eq_1, fInK_s, fNinK_s, fLenS_s, ↓D3.slcT3.eq_1, fCatT_t, dnew3]
        exact k
    · try simp -implicitDefEqProofs -dsimp only [seq3, ↓D3.ifS3.eq_1, ↓D3.b3.eq_1, ↓D3.op3.eq_1, ↓D3.un3.eq_1, ↓D3.v3.eq_1, ↓D3.c3.eq_1, fIx_tup, fIx_lst, at3_0, at3_1, at3_2, at3_3, at3_4, at3_5, at3_6, start3, fI0_i, fI_i, fLt, fLe, fGt, fGe, fEqI, fNeI, fMin, fMax, ↓D3.asg3.eq_1, ↓D3.name3.eq_1, ↓D3.sub3.eq_1, ↓D3.ret3.eq_1, ↓D3.retN3.eq_1, ↓D3.nx3.eq_1, ↓D3.drop3.eq_1, ↓D3.par3.eq_1, ↓D3.aug3.eq_1, ↓D3.and3.eq_1, ↓D3.or3.eq_1, ↓D3.not3.eq_1, ↓D3.andV3.eq_1, ↓D3.orV3.eq_1, ↓D3.notV3.eq_1, ↓D3.if3.eq_1, ↓D3.nil3.eq_1, ↓D3.cons3.eq_1, ↓D3.tup3.eq_1, ↓D3.lst3.eq_1, ↓D3.lstM3.eq_1, ↓D3.gtup3.eq_1, ↓D3.gcons3.eq_1, ↓D3.gnil3.eq_1, ↓D3.gunl3.eq_1, ↓D3.bits3.eq_1, ↓D3.neg3.eq_1, ↓D3.chain3.eq_1, fIsi_int_int, fIsi_int_bool, fIsi_int_tuple, fIsi_int_str, fIsi_int_list, fIsi_bl_int, fIsi_bl_bool, fIsi_bl_tuple, fIsi_bl_str, fIsi_bl_list, fIsi_non_int, fIsi_non_bool, fIsi_non_tuple, fIsi_non_str, fIsi_non_list, fIsi_str_int, fIsi_str_bool, fIsi_str_tuple, fIsi_str_str, fIsi_str_list, fIsi_tup_int, fIsi_tup_bool, fIsi_tup_tuple, fIsi_tup_str, fIsi_tup_list, fIsi_lst_int, fIsi_lst_bool, fIsi_lst_tuple, fIsi_lst_str, fIsi_lst_list, fLen_lst, fLen_tup, fAbs, ↓D3.call3_k, ↓D3.kont_app, ↓D3.isN3.eq_1, ↓D3.notN3.eq_1, dIsN_non, dIsN_int, dIsN_bl, dIsN_str, dIsN_tup, dIsN_lst, ↓D3.slc3.eq_1, ↓D3.part3.eq_1, ↓D3.noPart3.eq_1, ↓D3.ilst3.eq_1, ↓D3.itup3.eq_1, ↓D3.irng1.eq_1, ↓D3.irng2.eq_1, ↓D3.for3.eq_1, fCat, fEq_int, fNe_int, fEq_bl, fNe_bl, fEq_pair, fNe_pair, List.map, List.replicate, List.length_cons, List.length_nil, List.set_cons_zero, List.set_cons_succ, List.getElem?_cons_zero, List.getElem?_cons_succ, List.cons_append, List.nil_append, at_0, at_1, at_2, at_3, at_4, at_5, at_6, ix_0, ix_1, ix_2, put_same, put_put, decide_eq_true_eq, Bool.not_eq_true', decide_eq_false_iff_not, ite_not, ite_true, ite_false, if_true, if_false, Bool.false_eq_true, ↓reduceIte, reduceIte, Nat.reduceAdd, Nat.reduceSub, Int.reduceToNat, Nat.reduceLeDiff, not_false_eq_true, true_and, and_true, ne_eq, Int.reduceEq, Nat.zero_add, Bool.not_true, Bool.not_false, reduceCtorEq, nc0, nc1, nc2, nc3, nc4, nc5, fIx_ref put_same, fLen_ref put_same, ↓D3.lc3.eq_1, fInt, fTuple, fList, fNeS_s, fEqS_s, ↓D3.gstar3.eq_1, fInK_s, fNinK_s, fLenS_s, ↓D3.slcT3.eq_1, fCatT_t, dnew3]
      exact k
    rw [del_put, del_none hL]
    (refine laterP_in ?_; repeat ((first | with_reducible refine laterP_i ?_ | with_reducible refine later_i ?_); try simp -implicitDefEqProofs -dsimp only [↓D3.seq3_stop, ↓D3.ifS3.eq_1, ↓D3.b3.eq_1, ↓D3.op3.eq_1, ↓D3.un3.eq_1, ↓D3.v3.eq_1, ↓D3.c3.eq_1, fIx_tup, fIx_lst, at3_0, at3_1, at3_2, at3_3, at3_4, at3_5, at3_6, start3, fI0_i, fI_i, fLt, fLe, fGt, fGe, fEqI, fNeI, fMin, fMax, ↓D3.asg3.eq_1, ↓D3.name3.eq_1, ↓D3.sub3.eq_1, ↓D3.ret3.eq_1, ↓D3.retN3.eq_1, ↓D3.nx3.eq_1, ↓D3.drop3.eq_1, ↓D3.par3.eq_1, ↓D3.aug3.eq_1, ↓D3.and3.eq_1, ↓D3.or3.eq_1, ↓D3.not3.eq_1, ↓D3.andV3.eq_1, ↓D3.orV3.eq_1, ↓D3.notV3.eq_1, ↓D3.if3.eq_1, ↓D3.nil3.eq_1, ↓D3.cons3.eq_1, ↓D3.tup3.eq_1, ↓D3.lst3.eq_1, ↓D3.lstM3.eq_1, ↓D3.gtup3.eq_1, ↓D3.gcons3.eq_1, ↓D3.gnil3.eq_1, ↓D3.gunl3.eq_1, ↓D3.bits3.eq_1, ↓D3.neg3.eq_1, ↓D3.chain3.eq_1, fIsi_int_int, fIsi_int_bool, fIsi_int_tuple, fIsi_int_str, fIsi_int_list, fIsi_bl_int, fIsi_bl_bool, fIsi_bl_tuple, fIsi_bl_str, fIsi_bl_list, fIsi_non_int, fIsi_non_bool, fIsi_non_tuple, fIsi_non_str, fIsi_non_list, fIsi_str_int, fIsi_str_bool, fIsi_str_tuple, fIsi_str_str, fIsi_str_list, fIsi_tup_int, fIsi_tup_bool, fIsi_tup_tuple, fIsi_tup_str, fIsi_tup_list, fIsi_lst_int, fIsi_lst_bool, fIsi_lst_tuple, fIsi_lst_str, fIsi_lst_list, fLen_lst, fLen_tup, fAbs, ↓D3.call3_k, ↓D3.kont_app, ↓D3.isN3.eq_1, ↓D3.notN3.eq_1, dIsN_non, dIsN_int, dIsN_bl, dIsN_str, dIsN_tup, dIsN_lst, ↓D3.slc3.eq_1, ↓D3.part3.eq_1, ↓D3.noPart3.eq_1, ↓D3.ilst3.eq_1, ↓D3.itup3.eq_1, ↓D3.irng1.eq_1, ↓D3.irng2.eq_1, ↓D3.for3.eq_1, fCat, fEq_int, fNe_int, fEq_bl, fNe_bl, fEq_pair, fNe_pair, List.map, List.replicate, List.length_cons, List.length_nil, List.set_cons_zero, List.set_cons_succ, List.getElem?_cons_zero, List.getElem?_cons_succ, List.cons_append, List.nil_append, at_0, at_1, at_2, at_3, at_4, at_5, at_6, ix_0, ix_1, ix_2, put_same, put_put, decide_eq_true_eq, Bool.not_eq_true', decide_eq_false_iff_not, ite_not, ite_true, ite_false, if_true, if_false, Bool.false_eq_true, ↓reduceIte, reduceIte, Nat.reduceAdd, Nat.reduceSub, Int.reduceToNat, Nat.reduceLeDiff, not_false_eq_true, true_and, and_true, ne_eq, Int.reduceEq, Nat.zero_add, Bool.not_true, Bool.not_false, reduceCtorEq, nc0, nc1, nc2, nc3, nc4, nc5, fIx_ref put_same, fLen_ref put_same, ↓D3.lc3.eq_1, fInt, fTuple, fList, fNeS_s, fEqS_s, ↓D3.gstar3.eq_1, fInK_s, fNinK_s, fLenS_s, ↓D3.slcT3.eq_1, fCatT_t, dnew3, List.filter_cons, List.filter_nil]))
    rw [fEq_nil (n := 140) (show Pls 140 [.int 1, .int 2] from ⟨pl_sm (by decide), pl_sm (by decide), trivial⟩) (by simp [dps, dp])]
    (refine laterP_in ?_; repeat ((first | with_reducible refine laterP_i ?_ | with_reducible refine later_i ?_); try simp -implicitDefEqProofs -dsimp only [↓D3.seq3_stop, ↓D3.ifS3.eq_1, ↓D3.b3.eq_1, ↓D3.op3.eq_1, ↓D3.un3.eq_1, ↓D3.v3.eq_1, ↓D3.c3.eq_1, fIx_tup, fIx_lst, at3_0, at3_1, at3_2, at3_3, at3_4, at3_5, at3_6, start3, fI0_i, fI_i, fLt, fLe, fGt, fGe, fEqI, fNeI, fMin, fMax, ↓D3.asg3.eq_1, ↓D3.name3.eq_1, ↓D3.sub3.eq_1, ↓D3.ret3.eq_1, ↓D3.retN3.eq_1, ↓D3.nx3.eq_1, ↓D3.drop3.eq_1, ↓D3.par3.eq_1, ↓D3.aug3.eq_1, ↓D3.and3.eq_1, ↓D3.or3.eq_1, ↓D3.not3.eq_1, ↓D3.andV3.eq_1, ↓D3.orV3.eq_1, ↓D3.notV3.eq_1, ↓D3.if3.eq_1, ↓D3.nil3.eq_1, ↓D3.cons3.eq_1, ↓D3.tup3.eq_1, ↓D3.lst3.eq_1, ↓D3.lstM3.eq_1, ↓D3.gtup3.eq_1, ↓D3.gcons3.eq_1, ↓D3.gnil3.eq_1, ↓D3.gunl3.eq_1, ↓D3.bits3.eq_1, ↓D3.neg3.eq_1, ↓D3.chain3.eq_1, fIsi_int_int, fIsi_int_bool, fIsi_int_tuple, fIsi_int_str, fIsi_int_list, fIsi_bl_int, fIsi_bl_bool, fIsi_bl_tuple, fIsi_bl_str, fIsi_bl_list, fIsi_non_int, fIsi_non_bool, fIsi_non_tuple, fIsi_non_str, fIsi_non_list, fIsi_str_int, fIsi_str_bool, fIsi_str_tuple, fIsi_str_str, fIsi_str_list, fIsi_tup_int, fIsi_tup_bool, fIsi_tup_tuple, fIsi_tup_str, fIsi_tup_list, fIsi_lst_int, fIsi_lst_bool, fIsi_lst_tuple, fIsi_lst_str, fIsi_lst_list, fLen_lst, fLen_tup, fAbs, ↓D3.call3_k, ↓D3.kont_app, ↓D3.isN3.eq_1, ↓D3.notN3.eq_1, dIsN_non, dIsN_int, dIsN_bl, dIsN_str, dIsN_tup, dIsN_lst, ↓D3.slc3.eq_1, ↓D3.part3.eq_1, ↓D3.noPart3.eq_1, ↓D3.ilst3.eq_1, ↓D3.itup3.eq_1, ↓D3.irng1.eq_1, ↓D3.irng2.eq_1, ↓D3.for3.eq_1, fCat, fEq_int, fNe_int, fEq_bl, fNe_bl, fEq_pair, fNe_pair, List.map, List.replicate, List.length_cons, List.length_nil, List.set_cons_zero, List.set_cons_succ, List.getElem?_cons_zero, List.getElem?_cons_succ, List.cons_append, List.nil_append, at_0, at_1, at_2, at_3, at_4, at_5, at_6, ix_0, ix_1, ix_2, put_same, put_put, decide_eq_true_eq, Bool.not_eq_true', decide_eq_false_iff_not, ite_not, ite_true, ite_false, if_true, if_false, Bool.false_eq_true, ↓reduceIte, reduceIte, Nat.reduceAdd, Nat.reduceSub, Int.reduceToNat, Nat.reduceLeDiff, not_false_eq_true, true_and, and_true, ne_eq, Int.reduceEq, Nat.zero_add, Bool.not_true, Bool.not_false, reduceCtorEq, nc0, nc1, nc2, nc3, nc4, nc5, fIx_ref put_same, fLen_ref put_same, ↓D3.lc3.eq_1, fInt, fTuple, fList, fNeS_s, fEqS_s, ↓D3.gstar3.eq_1, fInK_s, fNinK_s, fLenS_s, ↓D3.slcT3.eq_1, fCatT_t, dnew3, List.isEmpty_cons]))
    refine sp_pick_i (n + 2 * (e + 1) + 1) (hd.le (by omega)) (by decide) (by decide) fun r m1 r0 r1 o1 d1 => ?_
    (refine laterP_in ?_; repeat ((first | with_reducible refine laterP_i ?_ | with_reducible refine later_i ?_); try simp -implicitDefEqProofs -dsimp only [↓D3.seq3_stop, ↓D3.ifS3.eq_1, ↓D3.b3.eq_1, ↓D3.op3.eq_1, ↓D3.un3.eq_1, ↓D3.v3.eq_1, ↓D3.c3.eq_1, fIx_tup, fIx_lst, at3_0, at3_1, at3_2, at3_3, at3_4, at3_5, at3_6, start3, fI0_i, fI_i, fLt, fLe, fGt, fGe, fEqI, fNeI, fMin, fMax, ↓D3.asg3.eq_1, ↓D3.name3.eq_1, ↓D3.sub3.eq_1, ↓D3.ret3.eq_1, ↓D3.retN3.eq_1, ↓D3.nx3.eq_1, ↓D3.drop3.eq_1, ↓D3.par3.eq_1, ↓D3.aug3.eq_1, ↓D3.and3.eq_1, ↓D3.or3.eq_1, ↓D3.not3.eq_1, ↓D3.andV3.eq_1, ↓D3.orV3.eq_1, ↓D3.notV3.eq_1, ↓D3.if3.eq_1, ↓D3.nil3.eq_1, ↓D3.cons3.eq_1, ↓D3.tup3.eq_1, ↓D3.lst3.eq_1, ↓D3.lstM3.eq_1, ↓D3.gtup3.eq_1, ↓D3.gcons3.eq_1, ↓D3.gnil3.eq_1, ↓D3.gunl3.eq_1, ↓D3.bits3.eq_1, ↓D3.neg3.eq_1, ↓D3.chain3.eq_1, fIsi_int_int, fIsi_int_bool, fIsi_int_tuple, fIsi_int_str, fIsi_int_list, fIsi_bl_int, fIsi_bl_bool, fIsi_bl_tuple, fIsi_bl_str, fIsi_bl_list, fIsi_non_int, fIsi_non_bool, fIsi_non_tuple, fIsi_non_str, fIsi_non_list, fIsi_str_int, fIsi_str_bool, fIsi_str_tuple, fIsi_str_str, fIsi_str_list, fIsi_tup_int, fIsi_tup_bool, fIsi_tup_tuple, fIsi_tup_str, fIsi_tup_list, fIsi_lst_int, fIsi_lst_bool, fIsi_lst_tuple, fIsi_lst_str, fIsi_lst_list, fLen_lst, fLen_tup, fAbs, ↓D3.call3_k, ↓D3.kont_app, ↓D3.isN3.eq_1, ↓D3.notN3.eq_1, dIsN_non, dIsN_int, dIsN_bl, dIsN_str, dIsN_tup, dIsN_lst, ↓D3.slc3.eq_1, ↓D3.part3.eq_1, ↓D3.noPart3.eq_1, ↓D3.ilst3.eq_1, ↓D3.itup3.eq_1, ↓D3.irng1.eq_1, ↓D3.irng2.eq_1, ↓D3.for3.eq_1, fCat, fEq_int, fNe_int, fEq_bl, fNe_bl, fEq_pair, fNe_pair, List.map, List.replicate, List.length_cons, List.length_nil, List.set_cons_zero, List.set_cons_succ, List.getElem?_cons_zero, List.getElem?_cons_succ, List.cons_append, List.nil_append, at_0, at_1, at_2, at_3, at_4, at_5, at_6, ix_0, ix_1, ix_2, put_same, put_put, decide_eq_true_eq, Bool.not_eq_true', decide_eq_false_iff_not, ite_not, ite_true, ite_false, if_true, if_false, Bool.false_eq_true, ↓reduceIte, reduceIte, Nat.reduceAdd, Nat.reduceSub, Int.reduceToNat, Nat.reduceLeDiff, not_false_eq_true, true_and, and_true, ne_eq, Int.reduceEq, Nat.zero_add, Bool.not_true, Bool.not_false, reduceCtorEq, nc0, nc1, nc2, nc3, nc4, nc5, fIx_ref put_same, fLen_ref put_same, ↓D3.lc3.eq_1, fInt, fTuple, fList, fNeS_s, fEqS_s, ↓D3.gstar3.eq_1, fInK_s, fNinK_s, fLenS_s, ↓D3.slcT3.eq_1, fCatT_t, dnew3]))
    refine ite2 (fun _ => q _ _ (ho.1.le (by omega)) ho.2.1 (by have := ho.2.2; omega) o1 (d1.le (by omega))) (fun _ => ?_)
    (refine laterP_in ?_; repeat ((first | with_reducible refine laterP_i ?_ | with_reducible refine later_i ?_); try simp -implicitDefEqProofs -dsimp only [↓D3.seq3_stop, ↓D3.ifS3.eq_1, ↓D3.b3.eq_1, ↓D3.op3.eq_1, ↓D3.un3.eq_1, ↓D3.v3.eq_1, ↓D3.c3.eq_1, fIx_tup, fIx_lst, at3_0, at3_1, at3_2, at3_3, at3_4, at3_5, at3_6, start3, fI0_i, fI_i, fLt, fLe, fGt, fGe, fEqI, fNeI, fMin, fMax, ↓D3.asg3.eq_1, ↓D3.name3.eq_1, ↓D3.sub3.eq_1, ↓D3.ret3.eq_1, ↓D3.retN3.eq_1, ↓D3.nx3.eq_1, ↓D3.drop3.eq_1, ↓D3.par3.eq_1, ↓D3.aug3.eq_1, ↓D3.and3.eq_1, ↓D3.or3.eq_1, ↓D3.not3.eq_1, ↓D3.andV3.eq_1, ↓D3.orV3.eq_1, ↓D3.notV3.eq_1, ↓D3.if3.eq_1, ↓D3.nil3.eq_1, ↓D3.cons3.eq_1, ↓D3.tup3.eq_1, ↓D3.lst3.eq_1, ↓D3.lstM3.eq_1, ↓D3.gtup3.eq_1, ↓D3.gcons3.eq_1, ↓D3.gnil3.eq_1, ↓D3.gunl3.eq_1, ↓D3.bits3.eq_1, ↓D3.neg3.eq_1, ↓D3.chain3.eq_1, fIsi_int_int, fIsi_int_bool, fIsi_int_tuple, fIsi_int_str, fIsi_int_list, fIsi_bl_int, fIsi_bl_bool, fIsi_bl_tuple, fIsi_bl_str, fIsi_bl_list, fIsi_non_int, fIsi_non_bool, fIsi_non_tuple, fIsi_non_str, fIsi_non_list, fIsi_str_int, fIsi_str_bool, fIsi_str_tuple, fIsi_str_str, fIsi_str_list, fIsi_tup_int, fIsi_tup_bool, fIsi_tup_tuple, fIsi_tup_str, fIsi_tup_list, fIsi_lst_int, fIsi_lst_bool, fIsi_lst_tuple, fIsi_lst_str, fIsi_lst_list, fLen_lst, fLen_tup, fAbs, ↓D3.call3_k, ↓D3.kont_app, ↓D3.isN3.eq_1, ↓D3.notN3.eq_1, dIsN_non, dIsN_int, dIsN_bl, dIsN_str, dIsN_tup, dIsN_lst, ↓D3.slc3.eq_1, ↓D3.part3.eq_1, ↓D3.noPart3.eq_1, ↓D3.ilst3.eq_1, ↓D3.itup3.eq_1, ↓D3.irng1.eq_1, ↓D3.irng2.eq_1, ↓D3.for3.eq_1, fCat, fEq_int, fNe_int, fEq_bl, fNe_bl, fEq_pair, fNe_pair, List.map, List.replicate, List.length_cons, List.length_nil, List.set_cons_zero, List.set_cons_succ, List.getElem?_cons_zero, List.getElem?_cons_succ, List.cons_append, List.nil_append, at_0, at_1, at_2, at_3, at_4, at_5, at_6, ix_0, ix_1, ix_2, put_same, put_put, decide_eq_true_eq, Bool.not_eq_true', decide_eq_false_iff_not, ite_not, ite_true, ite_false, if_true, if_false, Bool.false_eq_true, ↓reduceIte, reduceIte, Nat.reduceAdd, Nat.reduceSub, Int.reduceToNat, Nat.reduceLeDiff, not_false_eq_true, true_and, and_true, ne_eq, Int.reduceEq, Nat.zero_add, Bool.not_true, Bool.not_false, reduceCtorEq, nc0, nc1, nc2, nc3, nc4, nc5, fIx_ref put_same, fLen_ref put_same, ↓D3.lc3.eq_1, fInt, fTuple, fList, fNeS_s, fEqS_s, ↓D3.gstar3.eq_1, fInK_s, fNinK_s, fLenS_s, ↓D3.slcT3.eq_1, fCatT_t, dnew3]))
    refine sp_pick_i (n + 2 * (e + 1)) d1 (by decide) (by decide) fun r m2 r0 r1 o2 d2 => ?_
    rcases (show r = 0 ∨ r = 1 by omega) with rfl | rfl
    · (refine laterP_in ?_; repeat ((first | with_reducible refine laterP_i ?_ | with_reducible refine later_i ?_); try simp -implicitDefEqProofs -dsimp only [↓D3.seq3_stop, ↓D3.ifS3.eq_1, ↓D3.b3.eq_1, ↓D3.op3.eq_1, ↓D3.un3.eq_1, ↓D3.v3.eq_1, ↓D3.c3.eq_1, fIx_tup, fIx_lst, at3_0, at3_1, at3_2, at3_3, at3_4, at3_5, at3_6, start3, fI0_i, fI_i, fLt, fLe, fGt, fGe, fEqI, fNeI, fMin, fMax, ↓D3.asg3.eq_1, ↓D3.name3.eq_1, ↓D3.sub3.eq_1, ↓D3.ret3.eq_1, ↓D3.retN3.eq_1, ↓D3.nx3.eq_1, ↓D3.drop3.eq_1, ↓D3.par3.eq_1, ↓D3.aug3.eq_1, ↓D3.and3.eq_1, ↓D3.or3.eq_1, ↓D3.not3.eq_1, ↓D3.andV3.eq_1, ↓D3.orV3.eq_1, ↓D3.notV3.eq_1, ↓D3.if3.eq_1, ↓D3.nil3.eq_1, ↓D3.cons3.eq_1, ↓D3.tup3.eq_1, ↓D3.lst3.eq_1, ↓D3.lstM3.eq_1, ↓D3.gtup3.eq_1, ↓D3.gcons3.eq_1, ↓D3.gnil3.eq_1, ↓D3.gunl3.eq_1, ↓D3.bits3.eq_1, ↓D3.neg3.eq_1, ↓D3.chain3.eq_1, fIsi_int_int, fIsi_int_bool, fIsi_int_tuple, fIsi_int_str, fIsi_int_list, fIsi_bl_int, fIsi_bl_bool, fIsi_bl_tuple, fIsi_bl_str, fIsi_bl_list, fIsi_non_int, fIsi_non_bool, fIsi_non_tuple, fIsi_non_str, fIsi_non_list, fIsi_str_int, fIsi_str_bool, fIsi_str_tuple, fIsi_str_str, fIsi_str_list, fIsi_tup_int, fIsi_tup_bool, fIsi_tup_tuple, fIsi_tup_str, fIsi_tup_list, fIsi_lst_int, fIsi_lst_bool, fIsi_lst_tuple, fIsi_lst_str, fIsi_lst_list, fLen_lst, fLen_tup, fAbs, ↓D3.call3_k, ↓D3.kont_app, ↓D3.isN3.eq_1, ↓D3.notN3.eq_1, dIsN_non, dIsN_int, dIsN_bl, dIsN_str, dIsN_tup, dIsN_lst, ↓D3.slc3.eq_1, ↓D3.part3.eq_1, ↓D3.noPart3.eq_1, ↓D3.ilst3.eq_1, ↓D3.itup3.eq_1, ↓D3.irng1.eq_1, ↓D3.irng2.eq_1, ↓D3.for3.eq_1, fCat, fEq_int, fNe_int, fEq_bl, fNe_bl, fEq_pair, fNe_pair, List.map, List.replicate, List.length_cons, List.length_nil, List.set_cons_zero, List.set_cons_succ, List.getElem?_cons_zero, List.getElem?_cons_succ, List.cons_append, List.nil_append, at_0, at_1, at_2, at_3, at_4, at_5, at_6, ix_0, ix_1, ix_2, put_same, put_put, decide_eq_true_eq, Bool.not_eq_true', decide_eq_false_iff_not, ite_not, ite_true, ite_false, if_true, if_false, Bool.false_eq_true, ↓reduceIte, reduceIte, Nat.reduceAdd, Nat.reduceSub, Int.reduceToNat, Nat.reduceLeDiff, not_false_eq_true, true_and, and_true, ne_eq, Int.reduceEq, Nat.zero_add, Bool.not_true, Bool.not_false, reduceCtorEq, nc0, nc1, nc2, nc3, nc4, nc5, fIx_ref put_same, fLen_ref put_same, ↓D3.lc3.eq_1, fInt, fTuple, fList, fNeS_s, fEqS_s, ↓D3.gstar3.eq_1, fInK_s, fNinK_s, fLenS_s, ↓D3.slcT3.eq_1, fCatT_t, dnew3]))
      refine ⟨a, n, x, o, rfl, wx, ho, d2, fun x' m3 g3 p3 l3 o3 d3 => ?_⟩
      (refine laterP_in ?_; repeat ((first | with_reducible refine laterP_i ?_ | with_reducible refine later_i ?_); try simp -implicitDefEqProofs -dsimp only [↓D3.seq3_stop, ↓D3.ifS3.eq_1, ↓D3.b3.eq_1, ↓D3.op3.eq_1, ↓D3.un3.eq_1, ↓D3.v3.eq_1, ↓D3.c3.eq_1, fIx_tup, fIx_lst, at3_0, at3_1, at3_2, at3_3, at3_4, at3_5, at3_6, start3, fI0_i, fI_i, fLt, fLe, fGt, fGe, fEqI, fNeI, fMin, fMax, ↓D3.asg3.eq_1, ↓D3.name3.eq_1, ↓D3.sub3.eq_1, ↓D3.ret3.eq_1, ↓D3.retN3.eq_1, ↓D3.nx3.eq_1, ↓D3.drop3.eq_1, ↓D3.par3.eq_1, ↓D3.aug3.eq_1, ↓D3.and3.eq_1, ↓D3.or3.eq_1, ↓D3.not3.eq_1, ↓D3.andV3.eq_1, ↓D3.orV3.eq_1, ↓D3.notV3.eq_1, ↓D3.if3.eq_1, ↓D3.nil3.eq_1, ↓D3.cons3.eq_1, ↓D3.tup3.eq_1, ↓D3.lst3.eq_1, ↓D3.lstM3.eq_1, ↓D3.gtup3.eq_1, ↓D3.gcons3.eq_1, ↓D3.gnil3.eq_1, ↓D3.gunl3.eq_1, ↓D3.bits3.eq_1, ↓D3.neg3.eq_1, ↓D3.chain3.eq_1, fIsi_int_int, fIsi_int_bool, fIsi_int_tuple, fIsi_int_str, fIsi_int_list, fIsi_bl_int, fIsi_bl_bool, fIsi_bl_tuple, fIsi_bl_str, fIsi_bl_list, fIsi_non_int, fIsi_non_bool, fIsi_non_tuple, fIsi_non_str, fIsi_non_list, fIsi_str_int, fIsi_str_bool, fIsi_str_tuple, fIsi_str_str, fIsi_str_list, fIsi_tup_int, fIsi_tup_bool, fIsi_tup_tuple, fIsi_tup_str, fIsi_tup_list, fIsi_lst_int, fIsi_lst_bool, fIsi_lst_tuple, fIsi_lst_str, fIsi_lst_list, fLen_lst, fLen_tup, fAbs, ↓D3.call3_k, ↓D3.kont_app, ↓D3.isN3.eq_1, ↓D3.notN3.eq_1, dIsN_non, dIsN_int, dIsN_bl, dIsN_str, dIsN_tup, dIsN_lst, ↓D3.slc3.eq_1, ↓D3.part3.eq_1, ↓D3.noPart3.eq_1, ↓D3.ilst3.eq_1, ↓D3.itup3.eq_1, ↓D3.irng1.eq_1, ↓D3.irng2.eq_1, ↓D3.for3.eq_1, fCat, fEq_int, fNe_int, fEq_bl, fNe_bl, fEq_pair, fNe_pair, List.map, List.replicate, List.length_cons, List.length_nil, List.set_cons_zero, List.set_cons_succ, List.getElem?_cons_zero, List.getElem?_cons_succ, List.cons_append, List.nil_append, at_0, at_1, at_2, at_3, at_4, at_5, at_6, ix_0, ix_1, ix_2, put_same, put_put, decide_eq_true_eq, Bool.not_eq_true', decide_eq_false_iff_not, ite_not, ite_true, ite_false, if_true, if_false, Bool.false_eq_true, ↓reduceIte, reduceIte, Nat.reduceAdd, Nat.reduceSub, Int.reduceToNat, Nat.reduceLeDiff, not_false_eq_true, true_and, and_true, ne_eq, Int.reduceEq, Nat.zero_add, Bool.not_true, Bool.not_false, reduceCtorEq, nc0, nc1, nc2, nc3, nc4, nc5, fIx_ref put_same, fLen_ref put_same, ↓D3.lc3.eq_1, fInt, fTuple, fList, fNeS_s, fEqS_s, ↓D3.gstar3.eq_1, fInK_s, fNinK_s, fLenS_s, ↓D3.slcT3.eq_1, fCatT_t, dnew3, cutD_t1, List.take_succ_cons, List.take_zero]))
      refine ⟨lbig (by simp), ?_⟩
      rw [show (1 : Int) + 1 = 2 from rfl, cutD_2]
      (refine laterP_in ?_; repeat ((first | with_reducible refine laterP_i ?_ | with_reducible refine later_i ?_); try simp -implicitDefEqProofs -dsimp only [↓D3.seq3_stop, ↓D3.ifS3.eq_1, ↓D3.b3.eq_1, ↓D3.op3.eq_1, ↓D3.un3.eq_1, ↓D3.v3.eq_1, ↓D3.c3.eq_1, fIx_tup, fIx_lst, at3_0, at3_1, at3_2, at3_3, at3_4, at3_5, at3_6, start3, fI0_i, fI_i, fLt, fLe, fGt, fGe, fEqI, fNeI, fMin, fMax, ↓D3.asg3.eq_1, ↓D3.name3.eq_1, ↓D3.sub3.eq_1, ↓D3.ret3.eq_1, ↓D3.retN3.eq_1, ↓D3.nx3.eq_1, ↓D3.drop3.eq_1, ↓D3.par3.eq_1, ↓D3.aug3.eq_1, ↓D3.and3.eq_1, ↓D3.or3.eq_1, ↓D3.not3.eq_1, ↓D3.andV3.eq_1, ↓D3.orV3.eq_1, ↓D3.notV3.eq_1, ↓D3.if3.eq_1, ↓D3.nil3.eq_1, ↓D3.cons3.eq_1, ↓D3.tup3.eq_1, ↓D3.lst3.eq_1, ↓D3.lstM3.eq_1, ↓D3.gtup3.eq_1, ↓D3.gcons3.eq_1, ↓D3.gnil3.eq_1, ↓D3.gunl3.eq_1, ↓D3.bits3.eq_1, ↓D3.neg3.eq_1, ↓D3.chain3.eq_1, fIsi_int_int, fIsi_int_bool, fIsi_int_tuple, fIsi_int_str, fIsi_int_list, fIsi_bl_int, fIsi_bl_bool, fIsi_bl_tuple, fIsi_bl_str, fIsi_bl_list, fIsi_non_int, fIsi_non_bool, fIsi_non_tuple, fIsi_non_str, fIsi_non_list, fIsi_str_int, fIsi_str_bool, fIsi_str_tuple, fIsi_str_str, fIsi_str_list, fIsi_tup_int, fIsi_tup_bool, fIsi_tup_tuple, fIsi_tup_str, fIsi_tup_list, fIsi_lst_int, fIsi_lst_bool, fIsi_lst_tuple, fIsi_lst_str, fIsi_lst_list, fLen_lst, fLen_tup, fAbs, ↓D3.call3_k, ↓D3.kont_app, ↓D3.isN3.eq_1, ↓D3.notN3.eq_1, dIsN_non, dIsN_int, dIsN_bl, dIsN_str, dIsN_tup, dIsN_lst, ↓D3.slc3.eq_1, ↓D3.part3.eq_1, ↓D3.noPart3.eq_1, ↓D3.ilst3.eq_1, ↓D3.itup3.eq_1, ↓D3.irng1.eq_1, ↓D3.irng2.eq_1, ↓D3.for3.eq_1, fCat, fEq_int, fNe_int, fEq_bl, fNe_bl, fEq_pair, fNe_pair, List.map, List.replicate, List.length_cons, List.length_nil, List.set_cons_zero, List.set_cons_succ, List.getElem?_cons_zero, List.getElem?_cons_succ, List.cons_append, List.nil_append, at_0, at_1, at_2, at_3, at_4, at_5, at_6, ix_0, ix_1, ix_2, put_same, put_put, decide_eq_true_eq, Bool.not_eq_true', decide_eq_false_iff_not, ite_not, ite_true, ite_false, if_true, if_false, Bool.false_eq_true, ↓reduceIte, reduceIte, Nat.reduceAdd, Nat.reduceSub, Int.reduceToNat, Nat.reduceLeDiff, not_false_eq_true, true_and, and_true, ne_eq, Int.reduceEq, Nat.zero_add, Bool.not_true, Bool.not_false, reduceCtorEq, nc0, nc1, nc2, nc3, nc4, nc5, fIx_ref put_same, fLen_ref put_same, ↓D3.lc3.eq_1, fInt, fTuple, fList, fNeS_s, fEqS_s, ↓D3.gstar3.eq_1, fInK_s, fNinK_s, fLenS_s, ↓D3.slcT3.eq_1, fCatT_t, dnew3, List.drop_succ_cons, List.drop_zero, List.drop_nil, List.append_nil]))
      refine ⟨lbig (by simp), ?_⟩
      refine q _ _ ?_ ⟨pl_k (.inl hk), p3, ly, trivial⟩ (by simp only [dp, dps]; omega) ((o1.trans o2).trans o3) d3
      have := Gv.two hk g3 (gy.le (e' := e + 6) (by omega))
      rwa [op2_none_l] at this
    · (refine laterP_in ?_; repeat ((first | with_reducible refine laterP_i ?_ | with_reducible refine later_i ?_); try simp -implicitDefEqProofs -dsimp only [↓D3.seq3_stop, ↓D3.ifS3.eq_1, ↓D3.b3.eq_1, ↓D3.op3.eq_1, ↓D3.un3.eq_1, ↓D3.v3.eq_1, ↓D3.c3.eq_1, fIx_tup, fIx_lst, at3_0, at3_1, at3_2, at3_3, at3_4, at3_5, at3_6, start3, fI0_i, fI_i, fLt, fLe, fGt, fGe, fEqI, fNeI, fMin, fMax, ↓D3.asg3.eq_1, ↓D3.name3.eq_1, ↓D3.sub3.eq_1, ↓D3.ret3.eq_1, ↓D3.retN3.eq_1, ↓D3.nx3.eq_1, ↓D3.drop3.eq_1, ↓D3.par3.eq_1, ↓D3.aug3.eq_1, ↓D3.and3.eq_1, ↓D3.or3.eq_1, ↓D3.not3.eq_1, ↓D3.andV3.eq_1, ↓D3.orV3.eq_1, ↓D3.notV3.eq_1, ↓D3.if3.eq_1, ↓D3.nil3.eq_1, ↓D3.cons3.eq_1, ↓D3.tup3.eq_1, ↓D3.lst3.eq_1, ↓D3.lstM3.eq_1, ↓D3.gtup3.eq_1, ↓D3.gcons3.eq_1, ↓D3.gnil3.eq_1, ↓D3.gunl3.eq_1, ↓D3.bits3.eq_1, ↓D3.neg3.eq_1, ↓D3.chain3.eq_1, fIsi_int_int, fIsi_int_bool, fIsi_int_tuple, fIsi_int_str, fIsi_int_list, fIsi_bl_int, fIsi_bl_bool, fIsi_bl_tuple, fIsi_bl_str, fIsi_bl_list, fIsi_non_int, fIsi_non_bool, fIsi_non_tuple, fIsi_non_str, fIsi_non_list, fIsi_str_int, fIsi_str_bool, fIsi_str_tuple, fIsi_str_str, fIsi_str_list, fIsi_tup_int, fIsi_tup_bool, fIsi_tup_tuple, fIsi_tup_str, fIsi_tup_list, fIsi_lst_int, fIsi_lst_bool, fIsi_lst_tuple, fIsi_lst_str, fIsi_lst_list, fLen_lst, fLen_tup, fAbs, ↓D3.call3_k, ↓D3.kont_app, ↓D3.isN3.eq_1, ↓D3.notN3.eq_1, dIsN_non, dIsN_int, dIsN_bl, dIsN_str, dIsN_tup, dIsN_lst, ↓D3.slc3.eq_1, ↓D3.part3.eq_1, ↓D3.noPart3.eq_1, ↓D3.ilst3.eq_1, ↓D3.itup3.eq_1, ↓D3.irng1.eq_1, ↓D3.irng2.eq_1, ↓D3.for3.eq_1, fCat, fEq_int, fNe_int, fEq_bl, fNe_bl, fEq_pair, fNe_pair, List.map, List.replicate, List.length_cons, List.length_nil, List.set_cons_zero, List.set_cons_succ, List.getElem?_cons_zero, List.getElem?_cons_succ, List.cons_append, List.nil_append, at_0, at_1, at_2, at_3, at_4, at_5, at_6, ix_0, ix_1, ix_2, put_same, put_put, decide_eq_true_eq, Bool.not_eq_true', decide_eq_false_iff_not, ite_not, ite_true, ite_false, if_true, if_false, Bool.false_eq_true, ↓reduceIte, reduceIte, Nat.reduceAdd, Nat.reduceSub, Int.reduceToNat, Nat.reduceLeDiff, not_false_eq_true, true_and, and_true, ne_eq, Int.reduceEq, Nat.zero_add, Bool.not_true, Bool.not_false, reduceCtorEq, nc0, nc1, nc2, nc3, nc4, nc5, fIx_ref put_same, fLen_ref put_same, ↓D3.lc3.eq_1, fInt, fTuple, fList, fNeS_s, fEqS_s, ↓D3.gstar3.eq_1, fInK_s, fNinK_s, fLenS_s, ↓D3.slcT3.eq_1, fCatT_t, dnew3]))
      refine ⟨a, n, y, o, rfl, wy, ho, d2, fun x' m3 g3 p3 l3 o3 d3 => ?_⟩
      rw [show cutD [D.str k, x, y] none (some 2) = [D.str k, x] from cutD_to _ 2]
      (refine laterP_in ?_; repeat ((first | with_reducible refine laterP_i ?_ | with_reducible refine later_i ?_); try simp -implicitDefEqProofs -dsimp only [↓D3.seq3_stop, ↓D3.ifS3.eq_1, ↓D3.b3.eq_1, ↓D3.op3.eq_1, ↓D3.un3.eq_1, ↓D3.v3.eq_1, ↓D3.c3.eq_1, fIx_tup, fIx_lst, at3_0, at3_1, at3_2, at3_3, at3_4, at3_5, at3_6, start3, fI0_i, fI_i, fLt, fLe, fGt, fGe, fEqI, fNeI, fMin, fMax, ↓D3.asg3.eq_1, ↓D3.name3.eq_1, ↓D3.sub3.eq_1, ↓D3.ret3.eq_1, ↓D3.retN3.eq_1, ↓D3.nx3.eq_1, ↓D3.drop3.eq_1, ↓D3.par3.eq_1, ↓D3.aug3.eq_1, ↓D3.and3.eq_1, ↓D3.or3.eq_1, ↓D3.not3.eq_1, ↓D3.andV3.eq_1, ↓D3.orV3.eq_1, ↓D3.notV3.eq_1, ↓D3.if3.eq_1, ↓D3.nil3.eq_1, ↓D3.cons3.eq_1, ↓D3.tup3.eq_1, ↓D3.lst3.eq_1, ↓D3.lstM3.eq_1, ↓D3.gtup3.eq_1, ↓D3.gcons3.eq_1, ↓D3.gnil3.eq_1, ↓D3.gunl3.eq_1, ↓D3.bits3.eq_1, ↓D3.neg3.eq_1, ↓D3.chain3.eq_1, fIsi_int_int, fIsi_int_bool, fIsi_int_tuple, fIsi_int_str, fIsi_int_list, fIsi_bl_int, fIsi_bl_bool, fIsi_bl_tuple, fIsi_bl_str, fIsi_bl_list, fIsi_non_int, fIsi_non_bool, fIsi_non_tuple, fIsi_non_str, fIsi_non_list, fIsi_str_int, fIsi_str_bool, fIsi_str_tuple, fIsi_str_str, fIsi_str_list, fIsi_tup_int, fIsi_tup_bool, fIsi_tup_tuple, fIsi_tup_str, fIsi_tup_list, fIsi_lst_int, fIsi_lst_bool, fIsi_lst_tuple, fIsi_lst_str, fIsi_lst_list, fLen_lst, fLen_tup, fAbs, ↓D3.call3_k, ↓D3.kont_app, ↓D3.isN3.eq_1, ↓D3.notN3.eq_1, dIsN_non, dIsN_int, dIsN_bl, dIsN_str, dIsN_tup, dIsN_lst, ↓D3.slc3.eq_1, ↓D3.part3.eq_1, ↓D3.noPart3.eq_1, ↓D3.ilst3.eq_1, ↓D3.itup3.eq_1, ↓D3.irng1.eq_1, ↓D3.irng2.eq_1, ↓D3.for3.eq_1, fCat, fEq_int, fNe_int, fEq_bl, fNe_bl, fEq_pair, fNe_pair, List.map, List.replicate, List.length_cons, List.length_nil, List.set_cons_zero, List.set_cons_succ, List.getElem?_cons_zero, List.getElem?_cons_succ, List.cons_append, List.nil_append, at_0, at_1, at_2, at_3, at_4, at_5, at_6, ix_0, ix_1, ix_2, put_same, put_put, decide_eq_true_eq, Bool.not_eq_true', decide_eq_false_iff_not, ite_not, ite_true, ite_false, if_true, if_false, Bool.false_eq_true, ↓reduceIte, reduceIte, Nat.reduceAdd, Nat.reduceSub, Int.reduceToNat, Nat.reduceLeDiff, not_false_eq_true, true_and, and_true, ne_eq, Int.reduceEq, Nat.zero_add, Bool.not_true, Bool.not_false, reduceCtorEq, nc0, nc1, nc2, nc3, nc4, nc5, fIx_ref put_same, fLen_ref put_same, ↓D3.lc3.eq_1, fInt, fTuple, fList, fNeS_s, fEqS_s, ↓D3.gstar3.eq_1, fInK_s, fNinK_s, fLenS_s, ↓D3.slcT3.eq_1, fCatT_t, dnew3]))
      refine ⟨lbig (by simp), ?_⟩
      rw [show (2 : Int) + 1 = ((3 : Nat) : Int) from rfl, cutD_nat]
      (refine laterP_in ?_; repeat ((first | with_reducible refine laterP_i ?_ | with_reducible refine later_i ?_); try simp -implicitDefEqProofs -dsimp only [↓D3.seq3_stop, ↓D3.ifS3.eq_1, ↓D3.b3.eq_1, ↓D3.op3.eq_1, ↓D3.un3.eq_1, ↓D3.v3.eq_1, ↓D3.c3.eq_1, fIx_tup, fIx_lst, at3_0, at3_1, at3_2, at3_3, at3_4, at3_5, at3_6, start3, fI0_i, fI_i, fLt, fLe, fGt, fGe, fEqI, fNeI, fMin, fMax, ↓D3.asg3.eq_1, ↓D3.name3.eq_1, ↓D3.sub3.eq_1, ↓D3.ret3.eq_1, ↓D3.retN3.eq_1, ↓D3.nx3.eq_1, ↓D3.drop3.eq_1, ↓D3.par3.eq_1, ↓D3.aug3.eq_1, ↓D3.and3.eq_1, ↓D3.or3.eq_1, ↓D3.not3.eq_1, ↓D3.andV3.eq_1, ↓D3.orV3.eq_1, ↓D3.notV3.eq_1, ↓D3.if3.eq_1, ↓D3.nil3.eq_1, ↓D3.cons3.eq_1, ↓D3.tup3.eq_1, ↓D3.lst3.eq_1, ↓D3.lstM3.eq_1, ↓D3.gtup3.eq_1, ↓D3.gcons3.eq_1, ↓D3.gnil3.eq_1, ↓D3.gunl3.eq_1, ↓D3.bits3.eq_1, ↓D3.neg3.eq_1, ↓D3.chain3.eq_1, fIsi_int_int, fIsi_int_bool, fIsi_int_tuple, fIsi_int_str, fIsi_int_list, fIsi_bl_int, fIsi_bl_bool, fIsi_bl_tuple, fIsi_bl_str, fIsi_bl_list, fIsi_non_int, fIsi_non_bool, fIsi_non_tuple, fIsi_non_str, fIsi_non_list, fIsi_str_int, fIsi_str_bool, fIsi_str_tuple, fIsi_str_str, fIsi_str_list, fIsi_tup_int, fIsi_tup_bool, fIsi_tup_tuple, fIsi_tup_str, fIsi_tup_list, fIsi_lst_int, fIsi_lst_bool, fIsi_lst_tuple, fIsi_lst_str, fIsi_lst_list, fLen_lst, fLen_tup, fAbs, ↓D3.call3_k, ↓D3.kont_app, ↓D3.isN3.eq_1, ↓D3.notN3.eq_1, dIsN_non, dIsN_int, dIsN_bl, dIsN_str, dIsN_tup, dIsN_lst, ↓D3.slc3.eq_1, ↓D3.part3.eq_1, ↓D3.noPart3.eq_1, ↓D3.ilst3.eq_1, ↓D3.itup3.eq_1, ↓D3.irng1.eq_1, ↓D3.irng2.eq_1, ↓D3.for3.eq_1, fCat, fEq_int, fNe_int, fEq_bl, fNe_bl, fEq_pair, fNe_pair, List.map, List.replicate, List.length_cons, List.length_nil, List.set_cons_zero, List.set_cons_succ, List.getElem?_cons_zero, List.getElem?_cons_succ, List.cons_append, List.nil_append, at_0, at_1, at_2, at_3, at_4, at_5, at_6, ix_0, ix_1, ix_2, put_same, put_put, decide_eq_true_eq, Bool.not_eq_true', decide_eq_false_iff_not, ite_not, ite_true, ite_false, if_true, if_false, Bool.false_eq_true, ↓reduceIte, reduceIte, Nat.reduceAdd, Nat.reduceSub, Int.reduceToNat, Nat.reduceLeDiff, not_false_eq_true, true_and, and_true, ne_eq, Int.reduceEq, Nat.zero_add, Bool.not_true, Bool.not_false, reduceCtorEq, nc0, nc1, nc2, nc3, nc4, nc5, fIx_ref put_same, fLen_ref put_same, ↓D3.lc3.eq_1, fInt, fTuple, fList, fNeS_s, fEqS_s, ↓D3.gstar3.eq_1, fInK_s, fNinK_s, fLenS_s, ↓D3.slcT3.eq_1, fCatT_t, dnew3, List.drop_succ_cons, List.drop_zero, List.drop_nil, List.append_nil]))
      refine ⟨lbig (by simp), ?_⟩
      refine q _ _ ?_ ⟨pl_k (.inl hk), lx, p3, trivial⟩ (by simp only [dp, dps]; omega) ((o1.trans o2).trans o3) d3
      have := Gv.two hk (gx.le (e' := e + 6) (by omega)) g3
      rwa [op2_none_r] at this
theorem ok_putN (T : Tx w K mg fa fd) : ∀ e : Nat, Fn3 P w K mg base (e + 2) (fa 16) (fd 16) ["deck", "term", "other"] (sp_putN e)
  | 0 => fn_never
  | e + 1 => ok_putS T e (ok_putN T e)
def sp_put : Sp3 := fun ds m P => ∃ (a : Addr) (n : Nat) (d o : D), ds = [.ref a, d, o] ∧ Wp [] 4 d ∧ OthOk o ∧ DeckAt m a (n + 8) ∧ ∀ d' m', Gv 9 d' none → Pl 140 d' → dp d' ≤ 12 → Off a m m' → DeckAt m' a n → P d' m'
theorem ok_law_put (T : Tx w K mg fa fd) : Fn3 P w K mg base 7 (fa 16) (fd 16) ["deck", "term", "other"] sp_put :=
  ((ok_putN T 4).imp fun vs H Q E h => by
    obtain ⟨ds, m, P, h1, h2, ⟨a, n, d, o, e, hw, ho, hd, k⟩, h4⟩ := h
    exact ⟨ds, m, P, h1, h2, ⟨a, n, d, o, e, hw, ho, hd, k⟩, h4⟩).mono (by decide)
theorem fNe_oQ (v : Option Rat) {m : Mem} {P : DK} : fNe (oQ v) (oQ v) m P = P (.bl false) m := by
  cases v with
  | none =>
    show (true = true ∧ P (.bl (!true)) m) = _
    simp
  | some q =>
    show fNe (.tup [.int q.num, .int ((q.den : Nat) : Int)]) (.tup [.int q.num, .int ((q.den : Nat) : Int)]) m P = _
    rw [fNe_pair]
    simp
theorem ok_law (T : Tx w K mg fa fd) : Fn3 P w K mg base 18 (fa 17) (fd 17) ["script"] sp3Law := by
  refine fn3 T.d_law.F sc_law (fun ds m Q h => by obtain ⟨_, rfl, _⟩ := h; rfl) fun cdv A outer s H E ds m Q hr h => ?_
  obtain ⟨ns, rfl, hl, q⟩ := h
  refine ⟨_, (ss_cons (s_for PassesOwn.never rfl (i_list (e_cat (e_lst (a_cons e_int a_nil)) (e_slice (e_v 0) o_none (o_some e_int)))) (g_name (i := 1) sc_law.nd)
      (ss_cons (s_set (i := 2) sc_law.nd (e_call T.d_law_deck (ok_law_deck T) (hr.mono (by omega)) rfl (a_cons (e_v 1) (a_cons e_int a_nil))))
      (ss_cons (s_set (i := 3) sc_law.nd (e_call T.d_law_plain (ok_law_plain T) (hr.mono (by omega)) rfl (a_cons (e_v 2) (a_cons (e_add e_int (e_call T.d_law_pick (ok_law_pick T) (hr.mono (by omega)) rfl (a_cons (e_v 2) (a_cons e_int a_nil)))) (a_cons (e_lst a_nil) a_nil)))))
      (ss_cons (s_set (i := 4) sc_law.nd (e_call T.d_law_plain (ok_law_plain T) (hr.mono (by omega)) rfl (a_cons (e_v 2) (a_cons (e_add e_int (e_call T.d_law_pick (ok_law_pick T) (hr.mono (by omega)) rfl (a_cons (e_v 2) (a_cons e_int a_nil)))) (a_cons (e_lst a_nil) a_nil)))))
      (ss_cons (s_set (i := 5) sc_law.nd (e_call T.d_law_value (ok_law_value T) (hr.mono (by omega)) rfl (a_cons (e_v 3) (a_cons e_dnew a_nil))))
      (ss_cons (s_if (t_w (t_or (t_ne hr (e_call T.d_value_of (ok_value_of T) (hr.mono (by omega)) rfl (a_cons (e_v 3) a_nil)) (e_v 5)) (t_or (t_ne hr (e_call T.d_value_of (ok_value_of T) (hr.mono (by omega)) rfl (a_cons (e_v 3) a_nil)) (e_v 5)) (t_or1 (t_ne hr (e_call T.d_value_of (ok_value_of T) (hr.mono (by omega)) rfl (a_cons (e_v 4) a_nil)) (e_call T.d_law_value (ok_law_value T) (hr.mono (by omega)) rfl (a_cons (e_v 4) (a_cons e_dnew a_nil)))))))) (ss_one (s_ret e_bl)) ss_nil)
      (ss_cons (s_for PassesOwn.never rfl (i_tup (e_tup (a_cons e_str (a_cons e_str (a_cons e_str (a_cons e_str a_nil)))))) (g_name (i := 6) sc_law.nd)
      (ss_one (s_if (t_ne hr (e_call T.d_value_of (ok_value_of T) (hr.mono (by omega)) rfl (a_cons (e_tup (a_cons (e_v 6) (a_cons (e_v 3) (a_cons (e_v 4) a_nil)))) a_nil)) (e_call T.d_law_value (ok_law_value T) (hr.mono (by omega)) rfl (a_cons (e_tup (a_cons (e_v 6) (a_cons (e_v 3) (a_cons (e_v 4) a_nil)))) (a_cons e_dnew a_nil)))) (ss_one (s_ret e_bl)) ss_nil)))
      (ss_cons (s_set (i := 7) sc_law.nd (e_tup (a_cons e_str (a_cons (e_v 3) (a_cons (e_v 3) a_nil)))))
      (ss_cons (s_if (t_w (t_and (t_val (e_call T.d_is_term (ok_is_term T) (hr.mono (by omega)) rfl (a_cons (e_v 7) a_nil))) (t_and1 (t_ne hr (e_call T.d_value_of (ok_value_of T) (hr.mono (by omega)) rfl (a_cons (e_v 7) a_nil)) (e_if (t_isN (e_v 5)) e_non (e_tup (a_cons e_int (a_cons e_int a_nil)))))))) (ss_one (s_ret e_bl)) ss_nil)
      (ss_cons (s_set (i := 8) sc_law.nd (e_lst (a_cons (e_tup (a_cons e_str (a_cons e_str a_nil))) (a_cons (e_tup (a_cons e_str a_nil)) (a_cons (e_tup (a_cons e_str (a_cons e_int (a_cons (e_tup (a_cons e_str (a_cons (e_tup (a_cons e_int (a_cons e_int a_nil))) a_nil))) a_nil)))) (a_cons (e_tup (a_cons e_str (a_cons e_str (a_cons (e_tup (a_cons e_int (a_cons e_int a_nil))) (a_cons (e_tup (a_cons e_int (a_cons e_int a_nil))) (a_cons (e_v 3) a_nil)))))) a_nil))))))
      (ss_cons (s_set (i := 8) sc_law.nd (e_cat (e_v 8) (e_lst (a_cons (e_tup (a_cons e_str (a_cons (e_tup (a_cons e_str (a_cons (e_tup (a_cons e_int (a_cons e_int a_nil))) a_nil))) a_nil))) (a_cons (e_tup (a_cons e_str (a_cons (e_v 3) a_nil))) (a_cons (e_tup (a_cons e_str (a_cons (e_v 4) (a_cons (e_tup (a_cons e_str (a_cons (e_v 4) (a_cons (e_v 4) a_nil)))) a_nil)))) a_nil))))))
      (ss_cons (s_set (i := 9) sc_law.nd (e_call T.d_law_put (ok_law_put T) (hr.mono (by omega)) rfl (a_cons (e_v 2) (a_cons (e_v 3) (a_cons (e_ix (e_v 8) (e_call T.d_law_pick (ok_law_pick T) (hr.mono (by omega)) rfl (a_cons (e_v 2) (a_cons e_int a_nil)))) a_nil)))))
      (ss_one (s_if (t_w (t_and (t_val (e_call T.d_is_term (ok_is_term T) (hr.mono (by omega)) rfl (a_cons (e_v 9) a_nil))) (t_and1 (t_notN (e_call T.d_value_of (ok_value_of T) (hr.mono (by omega)) rfl (a_cons (e_v 9) a_nil)))))) (ss_one (s_ret e_bl)) ss_nil))))))))))))))
      (ss_one (s_ret e_bl))), ?_⟩
  have nn : Nms [] := fun _ z => absurd z List.not_mem_nil
  (refine laterP_in ?_; repeat ((first | with_reducible refine laterP_i ?_ | with_reducible refine later_i ?_); try simp -implicitDefEqProofs -dsimp only [↓D3.seq3_stop, ↓D3.ifS3.eq_1, ↓D3.b3.eq_1, ↓D3.op3.eq_1, ↓D3.un3.eq_1, ↓D3.v3.eq_1, ↓D3.c3.eq_1, fIx_tup, fIx_lst, at3_0, at3_1, at3_2, at3_3, at3_4, at3_5, at3_6, start3, fI0_i, fI_i, fLt, fLe, fGt, fGe, fEqI, fNeI, fMin, fMax, ↓D3.asg3.eq_1, ↓D3.name3.eq_1, ↓D3.sub3.eq_1, ↓D3.ret3.eq_1, ↓D3.retN3.eq_1, ↓D3.nx3.eq_1, ↓D3.drop3.eq_1, ↓D3.par3.eq_1, ↓D3.aug3.eq_1, ↓D3.and3.eq_1, ↓D3.or3.eq_1, ↓D3.not3.eq_1, ↓D3.andV3.eq_1, ↓D3.orV3.eq_1, ↓D3.notV3.eq_1, ↓D3.if3.eq_1, ↓D3.nil3.eq_1, ↓D3.cons3.eq_1, ↓D3.tup3.eq_1, ↓D3.lst3.eq_1, ↓D3.lstM3.eq_1, ↓D3.gtup3.eq_1, ↓D3.gcons3.eq_1, ↓D3.gnil3.eq_1, ↓D3.gunl3.eq_1, ↓D3.bits3.eq_1, ↓D3.neg3.eq_1, ↓D3.chain3.eq_1, fIsi_int_int, fIsi_int_bool, fIsi_int_tuple, fIsi_int_str, fIsi_int_list, fIsi_bl_int, fIsi_bl_bool, fIsi_bl_tuple, fIsi_bl_str, fIsi_bl_list, fIsi_non_int, fIsi_non_bool, fIsi_non_tuple, fIsi_non_str, fIsi_non_list, fIsi_str_int, fIsi_str_bool, fIsi_str_tuple, fIsi_str_str, fIsi_str_list, fIsi_tup_int, fIsi_tup_bool, fIsi_tup_tuple, fIsi_tup_str, fIsi_tup_list, fIsi_lst_int, fIsi_lst_bool, fIsi_lst_tuple, fIsi_lst_str, fIsi_lst_list, fLen_lst, fLen_tup, fAbs, ↓D3.call3_k, ↓D3.kont_app, ↓D3.isN3.eq_1, ↓D3.notN3.eq_1, dIsN_non, dIsN_int, dIsN_bl, dIsN_str, dIsN_tup, dIsN_lst, ↓D3.slc3.eq_1, ↓D3.part3.eq_1, ↓D3.noPart3.eq_1, ↓D3.ilst3.eq_1, ↓D3.itup3.eq_1, ↓D3.irng1.eq_1, ↓D3.irng2.eq_1, ↓D3.for3.eq_1, fCat, fEq_int, fNe_int, fEq_bl, fNe_bl, fEq_pair, fNe_pair, List.map, List.replicate, List.length_cons, List.length_nil, List.set_cons_zero, List.set_cons_succ, List.getElem?_cons_zero, List.getElem?_cons_succ, List.cons_append, List.nil_append, at_0, at_1, at_2, at_3, at_4, at_5, at_6, ix_0, ix_1, ix_2, put_same, put_put, decide_eq_true_eq, Bool.not_eq_true', decide_eq_false_iff_not, ite_not, ite_true, ite_false, if_true, if_false, Bool.false_eq_true, ↓reduceIte, reduceIte, Nat.reduceAdd, Nat.reduceSub, Int.reduceToNat, Nat.reduceLeDiff, not_false_eq_true, true_and, and_true, ne_eq, Int.reduceEq, Nat.zero_add, Bool.not_true, Bool.not_false, reduceCtorEq, nc0, nc1, nc2, nc3, nc4, nc5, fIx_ref put_same, fLen_ref put_same, ↓D3.lc3.eq_1, fInt, fTuple, fList, fNeS_s, fEqS_s, ↓D3.gstar3.eq_1, fInK_s, fNinK_s, fLenS_s, ↓D3.slcT3.eq_1, fCatT_t, dnew3]))
  refine ⟨by have := cutD_len (List.map D.int ns) none (some 6); rw [List.length_map] at this; omega, ?_⟩
  refine forIn3_ind (fun ds ρ _ => (∀ d ∈ ds, ∃ i : Int, d = .int i) ∧ ∃ r : Env3, ρ = some (D.lst (ns.map D.int)) :: r ∧ r.length = 9) ?_ (fun ρ m' h => ?_) _ _ _ ⟨?_, _, rfl, rfl⟩
  rotate_left
  · ((refine laterP_in ?_; repeat ((first | with_reducible refine laterP_i ?_ | with_reducible refine later_i ?_); try simp -implicitDefEqProofs -dsimp only [↓D3.seq3_stop, ↓D3.ifS3.eq_1, ↓D3.b3.eq_1, ↓D3.op3.eq_1, ↓D3.un3.eq_1, ↓D3.v3.eq_1, ↓D3.c3.eq_1, fIx_tup, fIx_lst, at3_0, at3_1, at3_2, at3_3, at3_4, at3_5, at3_6, start3, fI0_i, fI_i, fLt, fLe, fGt, fGe, fEqI, fNeI, fMin, fMax, ↓D3.asg3.eq_1, ↓D3.name3.eq_1, ↓D3.sub3.eq_1, ↓D3.ret3.eq_1, ↓D3.retN3.eq_1, ↓D3.nx3.eq_1, ↓D3.drop3.eq_1, ↓D3.par3.eq_1, ↓D3.aug3.eq_1, ↓D3.and3.eq_1, ↓D3.or3.eq_1, ↓D3.not3.eq_1, ↓D3.andV3.eq_1, ↓D3.orV3.eq_1, ↓D3.notV3.eq_1, ↓D3.if3.eq_1, ↓D3.nil3.eq_1, ↓D3.cons3.eq_1, ↓D3.tup3.eq_1, ↓D3.lst3.eq_1, ↓D3.lstM3.eq_1, ↓D3.gtup3.eq_1, ↓D3.gcons3.eq_1, ↓D3.gnil3.eq_1, ↓D3.gunl3.eq_1, ↓D3.bits3.eq_1, ↓D3.neg3.eq_1, ↓D3.chain3.eq_1, fIsi_int_int, fIsi_int_bool, fIsi_int_tuple, fIsi_int_str, fIsi_int_list, fIsi_bl_int, fIsi_bl_bool, fIsi_bl_tuple, fIsi_bl_str, fIsi_bl_list, fIsi_non_int, fIsi_non_bool, fIsi_non_tuple, fIsi_non_str, fIsi_non_list, fIsi_str_int, fIsi_str_bool, fIsi_str_tuple, fIsi_str_str, fIsi_str_list, fIsi_tup_int, fIsi_tup_bool, fIsi_tup_tuple, fIsi_tup_str, fIsi_tup_list, fIsi_lst_int, fIsi_lst_bool, fIsi_lst_tuple, fIsi_lst_str, fIsi_lst_list, fLen_lst, fLen_tup, fAbs, ↓D3.call3_k, ↓D3.kont_app, ↓D3.isN3.eq_1, ↓D3.notN3.eq_1, dIsN_non, dIsN_int, dIsN_bl, dIsN_str, dIsN_tup, dIsN_lst, ↓D3.slc3.eq_1, ↓D3.part3.eq_1, ↓D3.noPart3.eq_1, ↓D3.ilst3.eq_1, ↓D3.itup3.eq_1, ↓D3.irng1.eq_1, ↓D3.irng2.eq_1, ↓D3.for3.eq_1, fCat, fEq_int, fNe_int, fEq_bl, fNe_bl, fEq_pair, fNe_pair, List.map, List.replicate, List.length_cons, List.length_nil, List.set_cons_zero, List.set_cons_succ, List.getElem?_cons_zero, List.getElem?_cons_succ, List.cons_append, List.nil_append, at_0, at_1, at_2, at_3, at_4, at_5, at_6, ix_0, ix_1, ix_2, put_same, put_put, decide_eq_true_eq, Bool.not_eq_true', decide_eq_false_iff_not, ite_not, ite_true, ite_false, if_true, if_false, Bool.false_eq_true, ↓reduceIte, reduceIte, Nat.reduceAdd, Nat.reduceSub, Int.reduceToNat, Nat.reduceLeDiff, not_false_eq_true, true_and, and_true, ne_eq, Int.reduceEq, Nat.zero_add, Bool.not_true, Bool.not_false, reduceCtorEq, nc0, nc1, nc2, nc3, nc4, nc5, fIx_ref put_same, fLen_ref put_same, ↓D3.lc3.eq_1, fInt, fTuple, fList, fNeS_s, fEqS_s, ↓D3.gstar3.eq_1, fInK_s, fNinK_s, fLenS_s, ↓D3.slcT3.eq_1, fCatT_t, dnew3])))
    exact q m'
  · intro d hd
    rcases List.mem_cons.mp hd with rfl | hd
    · exact ⟨0, rfl⟩
    · obtain ⟨i, _, rfl⟩ := List.mem_map.mp (cutD_mem hd)
      exact ⟨i, rfl⟩
  rintro d ds ρ m0 nx hnx ⟨hds, r, rfl, hr9⟩
  obtain ⟨cell, rfl⟩ := hds d List.mem_cons_self
  have nxt : ∀ (r : Env3) m', r.length = 9 → nx (some (D.lst (ns.map D.int)) :: r) m' := fun r m' h => hnx _ m' ⟨fun d hd => hds d (List.mem_cons_of_mem _ hd), r, rfl, h⟩
  clear hnx hds
  match r, hr9 with
  | [x1, x2, x3, x4, x5, x6, x7, x8, x9], _ =>
  (refine laterP_in ?_; repeat ((first | with_reducible refine laterP_i ?_ | with_reducible refine later_i ?_); try simp -implicitDefEqProofs -dsimp only [↓D3.seq3_stop, ↓D3.ifS3.eq_1, ↓D3.b3.eq_1, ↓D3.op3.eq_1, ↓D3.un3.eq_1, ↓D3.v3.eq_1, ↓D3.c3.eq_1, fIx_tup, fIx_lst, at3_0, at3_1, at3_2, at3_3, at3_4, at3_5, at3_6, start3, fI0_i, fI_i, fLt, fLe, fGt, fGe, fEqI, fNeI, fMin, fMax, ↓D3.asg3.eq_1, ↓D3.name3.eq_1, ↓D3.sub3.eq_1, ↓D3.ret3.eq_1, ↓D3.retN3.eq_1, ↓D3.nx3.eq_1, ↓D3.drop3.eq_1, ↓D3.par3.eq_1, ↓D3.aug3.eq_1, ↓D3.and3.eq_1, ↓D3.or3.eq_1, ↓D3.not3.eq_1, ↓D3.andV3.eq_1, ↓D3.orV3.eq_1, ↓D3.notV3.eq_1, ↓D3.if3.eq_1, ↓D3.nil3.eq_1, ↓D3.cons3.eq_1, ↓D3.tup3.eq_1, ↓D3.lst3.eq_1, ↓D3.lstM3.eq_1, ↓D3.gtup3.eq_1, ↓D3.gcons3.eq_1, ↓D3.gnil3.eq_1, ↓D3.gunl3.eq_1, ↓D3.bits3.eq_1, ↓D3.neg3.eq_1, ↓D3.chain3.eq_1, fIsi_int_int, fIsi_int_bool, fIsi_int_tuple, fIsi_int_str, fIsi_int_list, fIsi_bl_int, fIsi_bl_bool, fIsi_bl_tuple, fIsi_bl_str, fIsi_bl_list, fIsi_non_int, fIsi_non_bool, fIsi_non_tuple, fIsi_non_str, fIsi_non_list, fIsi_str_int, fIsi_str_bool, fIsi_str_tuple, fIsi_str_str, fIsi_str_list, fIsi_tup_int, fIsi_tup_bool, fIsi_tup_tuple, fIsi_tup_str, fIsi_tup_list, fIsi_lst_int, fIsi_lst_bool, fIsi_lst_tuple, fIsi_lst_str, fIsi_lst_list, fLen_lst, fLen_tup, fAbs, ↓D3.call3_k, ↓D3.kont_app, ↓D3.isN3.eq_1, ↓D3.notN3.eq_1, dIsN_non, dIsN_int, dIsN_bl, dIsN_str, dIsN_tup, dIsN_lst, ↓D3.slc3.eq_1, ↓D3.part3.eq_1, ↓D3.noPart3.eq_1, ↓D3.ilst3.eq_1, ↓D3.itup3.eq_1, ↓D3.irng1.eq_1, ↓D3.irng2.eq_1, ↓D3.for3.eq_1, fCat, fEq_int, fNe_int, fEq_bl, fNe_bl, fEq_pair, fNe_pair, List.map, List.replicate, List.length_cons, List.length_nil, List.set_cons_zero, List.set_cons_succ, List.getElem?_cons_zero, List.getElem?_cons_succ, List.cons_append, List.nil_append, at_0, at_1, at_2, at_3, at_4, at_5, at_6, ix_0, ix_1, ix_2, put_same, put_put, decide_eq_true_eq, Bool.not_eq_true', decide_eq_false_iff_not, ite_not, ite_true, ite_false, if_true, if_false, Bool.false_eq_true, ↓reduceIte, reduceIte, Nat.reduceAdd, Nat.reduceSub, Int.reduceToNat, Nat.reduceLeDiff, not_false_eq_true, true_and, and_true, ne_eq, Int.reduceEq, Nat.zero_add, Bool.not_true, Bool.not_false, reduceCtorEq, nc0, nc1, nc2, nc3, nc4, nc5, fIx_ref put_same, fLen_ref put_same, ↓D3.lc3.eq_1, fInt, fTuple, fList, fNeS_s, fEqS_s, ↓D3.gstar3.eq_1, fInK_s, fNinK_s, fLenS_s, ↓D3.slcT3.eq_1, fCatT_t, dnew3]))
  refine ⟨cell, rfl, fun p m1 _ _ d1 => ?_⟩
  (refine laterP_in ?_; repeat ((first | with_reducible refine laterP_i ?_ | with_reducible refine later_i ?_); try simp -implicitDefEqProofs -dsimp only [↓D3.seq3_stop, ↓D3.ifS3.eq_1, ↓D3.b3.eq_1, ↓D3.op3.eq_1, ↓D3.un3.eq_1, ↓D3.v3.eq_1, ↓D3.c3.eq_1, fIx_tup, fIx_lst, at3_0, at3_1, at3_2, at3_3, at3_4, at3_5, at3_6, start3, fI0_i, fI_i, fLt, fLe, fGt, fGe, fEqI, fNeI, fMin, fMax, ↓D3.asg3.eq_1, ↓D3.name3.eq_1, ↓D3.sub3.eq_1, ↓D3.ret3.eq_1, ↓D3.retN3.eq_1, ↓D3.nx3.eq_1, ↓D3.drop3.eq_1, ↓D3.par3.eq_1, ↓D3.aug3.eq_1, ↓D3.and3.eq_1, ↓D3.or3.eq_1, ↓D3.not3.eq_1, ↓D3.andV3.eq_1, ↓D3.orV3.eq_1, ↓D3.notV3.eq_1, ↓D3.if3.eq_1, ↓D3.nil3.eq_1, ↓D3.cons3.eq_1, ↓D3.tup3.eq_1, ↓D3.lst3.eq_1, ↓D3.lstM3.eq_1, ↓D3.gtup3.eq_1, ↓D3.gcons3.eq_1, ↓D3.gnil3.eq_1, ↓D3.gunl3.eq_1, ↓D3.bits3.eq_1, ↓D3.neg3.eq_1, ↓D3.chain3.eq_1, fIsi_int_int, fIsi_int_bool, fIsi_int_tuple, fIsi_int_str, fIsi_int_list, fIsi_bl_int, fIsi_bl_bool, fIsi_bl_tuple, fIsi_bl_str, fIsi_bl_list, fIsi_non_int, fIsi_non_bool, fIsi_non_tuple, fIsi_non_str, fIsi_non_list, fIsi_str_int, fIsi_str_bool, fIsi_str_tuple, fIsi_str_str, fIsi_str_list, fIsi_tup_int, fIsi_tup_bool, fIsi_tup_tuple, fIsi_tup_str, fIsi_tup_list, fIsi_lst_int, fIsi_lst_bool, fIsi_lst_tuple, fIsi_lst_str, fIsi_lst_list, fLen_lst, fLen_tup, fAbs, ↓D3.call3_k, ↓D3.kont_app, ↓D3.isN3.eq_1, ↓D3.notN3.eq_1, dIsN_non, dIsN_int, dIsN_bl, dIsN_str, dIsN_tup, dIsN_lst, ↓D3.slc3.eq_1, ↓D3.part3.eq_1, ↓D3.noPart3.eq_1, ↓D3.ilst3.eq_1, ↓D3.itup3.eq_1, ↓D3.irng1.eq_1, ↓D3.irng2.eq_1, ↓D3.for3.eq_1, fCat, fEq_int, fNe_int, fEq_bl, fNe_bl, fEq_pair, fNe_pair, List.map, List.replicate, List.length_cons, List.length_nil, List.set_cons_zero, List.set_cons_succ, List.getElem?_cons_zero, List.getElem?_cons_succ, List.cons_append, List.nil_append, at_0, at_1, at_2, at_3, at_4, at_5, at_6, ix_0, ix_1, ix_2, put_same, put_put, decide_eq_true_eq, Bool.not_eq_true', decide_eq_false_iff_not, ite_not, ite_true, ite_false, if_true, if_false, Bool.false_eq_true, ↓reduceIte, reduceIte, Nat.reduceAdd, Nat.reduceSub, Int.reduceToNat, Nat.reduceLeDiff, not_false_eq_true, true_and, and_true, ne_eq, Int.reduceEq, Nat.zero_add, Bool.not_true, Bool.not_false, reduceCtorEq, nc0, nc1, nc2, nc3, nc4, nc5, fIx_ref put_same, fLen_ref put_same, ↓D3.lc3.eq_1, fInt, fTuple, fList, fNeS_s, fEqS_s, ↓D3.gstar3.eq_1, fInK_s, fNinK_s, fLenS_s, ↓D3.slcT3.eq_1, fCatT_t, dnew3]))
  refine sp_pick_i 999999990 (d1.le (by decide)) (by decide) (by decide) fun r m2 r0 r1 o2 d2 => ?_
  (refine laterP_in ?_; repeat ((first | with_reducible refine laterP_i ?_ | with_reducible refine later_i ?_); try simp -implicitDefEqProofs -dsimp only [↓D3.seq3_stop, ↓D3.ifS3.eq_1, ↓D3.b3.eq_1, ↓D3.op3.eq_1, ↓D3.un3.eq_1, ↓D3.v3.eq_1, ↓D3.c3.eq_1, fIx_tup, fIx_lst, at3_0, at3_1, at3_2, at3_3, at3_4, at3_5, at3_6, start3, fI0_i, fI_i, fLt, fLe, fGt, fGe, fEqI, fNeI, fMin, fMax, ↓D3.asg3.eq_1, ↓D3.name3.eq_1, ↓D3.sub3.eq_1, ↓D3.ret3.eq_1, ↓D3.retN3.eq_1, ↓D3.nx3.eq_1, ↓D3.drop3.eq_1, ↓D3.par3.eq_1, ↓D3.aug3.eq_1, ↓D3.and3.eq_1, ↓D3.or3.eq_1, ↓D3.not3.eq_1, ↓D3.andV3.eq_1, ↓D3.orV3.eq_1, ↓D3.notV3.eq_1, ↓D3.if3.eq_1, ↓D3.nil3.eq_1, ↓D3.cons3.eq_1, ↓D3.tup3.eq_1, ↓D3.lst3.eq_1, ↓D3.lstM3.eq_1, ↓D3.gtup3.eq_1, ↓D3.gcons3.eq_1, ↓D3.gnil3.eq_1, ↓D3.gunl3.eq_1, ↓D3.bits3.eq_1, ↓D3.neg3.eq_1, ↓D3.chain3.eq_1, fIsi_int_int, fIsi_int_bool, fIsi_int_tuple, fIsi_int_str, fIsi_int_list, fIsi_bl_int, fIsi_bl_bool, fIsi_bl_tuple, fIsi_bl_str, fIsi_bl_list, fIsi_non_int, fIsi_non_bool, fIsi_non_tuple, fIsi_non_str, fIsi_non_list, fIsi_str_int, fIsi_str_bool, fIsi_str_tuple, fIsi_str_str, fIsi_str_list, fIsi_tup_int, fIsi_tup_bool, fIsi_tup_tuple, fIsi_tup_str, fIsi_tup_list, fIsi_lst_int, fIsi_lst_bool, fIsi_lst_tuple, fIsi_lst_str, fIsi_lst_list, fLen_lst, fLen_tup, fAbs, ↓D3.call3_k, ↓D3.kont_app, ↓D3.isN3.eq_1, ↓D3.notN3.eq_1, dIsN_non, dIsN_int, dIsN_bl, dIsN_str, dIsN_tup, dIsN_lst, ↓D3.slc3.eq_1, ↓D3.part3.eq_1, ↓D3.noPart3.eq_1, ↓D3.ilst3.eq_1, ↓D3.itup3.eq_1, ↓D3.irng1.eq_1, ↓D3.irng2.eq_1, ↓D3.for3.eq_1, fCat, fEq_int, fNe_int, fEq_bl, fNe_bl, fEq_pair, fNe_pair, List.map, List.replicate, List.length_cons, List.length_nil, List.set_cons_zero, List.set_cons_succ, List.getElem?_cons_zero, List.getElem?_cons_succ, List.cons_append, List.nil_append, at_0, at_1, at_2, at_3, at_4, at_5, at_6, ix_0, ix_1, ix_2, put_same, put_put, decide_eq_true_eq, Bool.not_eq_true', decide_eq_false_iff_not, ite_not, ite_true, ite_false, if_true, if_false, Bool.false_eq_true, ↓reduceIte, reduceIte, Nat.reduceAdd, Nat.reduceSub, Int.reduceToNat, Nat.reduceLeDiff, not_false_eq_true, true_and, and_true, ne_eq, Int.reduceEq, Nat.zero_add, Bool.not_true, Bool.not_false, reduceCtorEq, nc0, nc1, nc2, nc3, nc4, nc5, fIx_ref put_same, fLen_ref put_same, ↓D3.lc3.eq_1, fInt, fTuple, fList, fNeS_s, fEqS_s, ↓D3.gstar3.eq_1, fInK_s, fNinK_s, fLenS_s, ↓D3.slcT3.eq_1, fCatT_t, dnew3]))
  obtain ⟨e, rfl⟩ : ∃ e : Nat, r = (e : Int) := ⟨r.toNat, by omega⟩
  refine ⟨p, 999990000, [], e, by rw [show (1 + (e : Int)) = ((e + 1 : Nat) : Int) by omega]; rfl, by omega, nn, by decide, d2.le (by decide), fun one m3 w3 o3 d3 => ?_⟩
  (refine laterP_in ?_; repeat ((first | with_reducible refine laterP_i ?_ | with_reducible refine later_i ?_); try simp -implicitDefEqProofs -dsimp only [↓D3.seq3_stop, ↓D3.ifS3.eq_1, ↓D3.b3.eq_1, ↓D3.op3.eq_1, ↓D3.un3.eq_1, ↓D3.v3.eq_1, ↓D3.c3.eq_1, fIx_tup, fIx_lst, at3_0, at3_1, at3_2, at3_3, at3_4, at3_5, at3_6, start3, fI0_i, fI_i, fLt, fLe, fGt, fGe, fEqI, fNeI, fMin, fMax, ↓D3.asg3.eq_1, ↓D3.name3.eq_1, ↓D3.sub3.eq_1, ↓D3.ret3.eq_1, ↓D3.retN3.eq_1, ↓D3.nx3.eq_1, ↓D3.drop3.eq_1, ↓D3.par3.eq_1, ↓D3.aug3.eq_1, ↓D3.and3.eq_1, ↓D3.or3.eq_1, ↓D3.not3.eq_1, ↓D3.andV3.eq_1, ↓D3.orV3.eq_1, ↓D3.notV3.eq_1, ↓D3.if3.eq_1, ↓D3.nil3.eq_1, ↓D3.cons3.eq_1, ↓D3.tup3.eq_1, ↓D3.lst3.eq_1, ↓D3.lstM3.eq_1, ↓D3.gtup3.eq_1, ↓D3.gcons3.eq_1, ↓D3.gnil3.eq_1, ↓D3.gunl3.eq_1, ↓D3.bits3.eq_1, ↓D3.neg3.eq_1, ↓D3.chain3.eq_1, fIsi_int_int, fIsi_int_bool, fIsi_int_tuple, fIsi_int_str, fIsi_int_list, fIsi_bl_int, fIsi_bl_bool, fIsi_bl_tuple, fIsi_bl_str, fIsi_bl_list, fIsi_non_int, fIsi_non_bool, fIsi_non_tuple, fIsi_non_str, fIsi_non_list, fIsi_str_int, fIsi_str_bool, fIsi_str_tuple, fIsi_str_str, fIsi_str_list, fIsi_tup_int, fIsi_tup_bool, fIsi_tup_tuple, fIsi_tup_str, fIsi_tup_list, fIsi_lst_int, fIsi_lst_bool, fIsi_lst_tuple, fIsi_lst_str, fIsi_lst_list, fLen_lst, fLen_tup, fAbs, ↓D3.call3_k, ↓D3.kont_app, ↓D3.isN3.eq_1, ↓D3.notN3.eq_1, dIsN_non, dIsN_int, dIsN_bl, dIsN_str, dIsN_tup, dIsN_lst, ↓D3.slc3.eq_1, ↓D3.part3.eq_1, ↓D3.noPart3.eq_1, ↓D3.ilst3.eq_1, ↓D3.itup3.eq_1, ↓D3.irng1.eq_1, ↓D3.irng2.eq_1, ↓D3.for3.eq_1, fCat, fEq_int, fNe_int, fEq_bl, fNe_bl, fEq_pair, fNe_pair, List.map, List.replicate, List.length_cons, List.length_nil, List.set_cons_zero, List.set_cons_succ, List.getElem?_cons_zero, List.getElem?_cons_succ, List.cons_append, List.nil_append, at_0, at_1, at_2, at_3, at_4, at_5, at_6, ix_0, ix_1, ix_2, put_same, put_put, decide_eq_true_eq, Bool.not_eq_true', decide_eq_false_iff_not, ite_not, ite_true, ite_false, if_true, if_false, Bool.false_eq_true, ↓reduceIte, reduceIte, Nat.reduceAdd, Nat.reduceSub, Int.reduceToNat, Nat.reduceLeDiff, not_false_eq_true, true_and, and_true, ne_eq, Int.reduceEq, Nat.zero_add, Bool.not_true, Bool.not_false, reduceCtorEq, nc0, nc1, nc2, nc3, nc4, nc5, fIx_ref put_same, fLen_ref put_same, ↓D3.lc3.eq_1, fInt, fTuple, fList, fNeS_s, fEqS_s, ↓D3.gstar3.eq_1, fInK_s, fNinK_s, fLenS_s, ↓D3.slcT3.eq_1, fCatT_t, dnew3]))
  refine sp_pick_i 999980000 (d3.le (by decide)) (by decide) (by decide) fun r m4 r0 r1 o4 d4 => ?_
  (refine laterP_in ?_; repeat ((first | with_reducible refine laterP_i ?_ | with_reducible refine later_i ?_); try simp -implicitDefEqProofs -dsimp only [↓D3.seq3_stop, ↓D3.ifS3.eq_1, ↓D3.b3.eq_1, ↓D3.op3.eq_1, ↓D3.un3.eq_1, ↓D3.v3.eq_1, ↓D3.c3.eq_1, fIx_tup, fIx_lst, at3_0, at3_1, at3_2, at3_3, at3_4, at3_5, at3_6, start3, fI0_i, fI_i, fLt, fLe, fGt, fGe, fEqI, fNeI, fMin, fMax, ↓D3.asg3.eq_1, ↓D3.name3.eq_1, ↓D3.sub3.eq_1, ↓D3.ret3.eq_1, ↓D3.retN3.eq_1, ↓D3.nx3.eq_1, ↓D3.drop3.eq_1, ↓D3.par3.eq_1, ↓D3.aug3.eq_1, ↓D3.and3.eq_1, ↓D3.or3.eq_1, ↓D3.not3.eq_1, ↓D3.andV3.eq_1, ↓D3.orV3.eq_1, ↓D3.notV3.eq_1, ↓D3.if3.eq_1, ↓D3.nil3.eq_1, ↓D3.cons3.eq_1, ↓D3.tup3.eq_1, ↓D3.lst3.eq_1, ↓D3.lstM3.eq_1, ↓D3.gtup3.eq_1, ↓D3.gcons3.eq_1, ↓D3.gnil3.eq_1, ↓D3.gunl3.eq_1, ↓D3.bits3.eq_1, ↓D3.neg3.eq_1, ↓D3.chain3.eq_1, fIsi_int_int, fIsi_int_bool, fIsi_int_tuple, fIsi_int_str, fIsi_int_list, fIsi_bl_int, fIsi_bl_bool, fIsi_bl_tuple, fIsi_bl_str, fIsi_bl_list, fIsi_non_int, fIsi_non_bool, fIsi_non_tuple, fIsi_non_str, fIsi_non_list, fIsi_str_int, fIsi_str_bool, fIsi_str_tuple, fIsi_str_str, fIsi_str_list, fIsi_tup_int, fIsi_tup_bool, fIsi_tup_tuple, fIsi_tup_str, fIsi_tup_list, fIsi_lst_int, fIsi_lst_bool, fIsi_lst_tuple, fIsi_lst_str, fIsi_lst_list, fLen_lst, fLen_tup, fAbs, ↓D3.call3_k, ↓D3.kont_app, ↓D3.isN3.eq_1, ↓D3.notN3.eq_1, dIsN_non, dIsN_int, dIsN_bl, dIsN_str, dIsN_tup, dIsN_lst, ↓D3.slc3.eq_1, ↓D3.part3.eq_1, ↓D3.noPart3.eq_1, ↓D3.ilst3.eq_1, ↓D3.itup3.eq_1, ↓D3.irng1.eq_1, ↓D3.irng2.eq_1, ↓D3.for3.eq_1, fCat, fEq_int, fNe_int, fEq_bl, fNe_bl, fEq_pair, fNe_pair, List.map, List.replicate, List.length_cons, List.length_nil, List.set_cons_zero, List.set_cons_succ, List.getElem?_cons_zero, List.getElem?_cons_succ, List.cons_append, List.nil_append, at_0, at_1, at_2, at_3, at_4, at_5, at_6, ix_0, ix_1, ix_2, put_same, put_put, decide_eq_true_eq, Bool.not_eq_true', decide_eq_false_iff_not, ite_not, ite_true, ite_false, if_true, if_false, Bool.false_eq_true, ↓reduceIte, reduceIte, Nat.reduceAdd, Nat.reduceSub, Int.reduceToNat, Nat.reduceLeDiff, not_false_eq_true, true_and, and_true, ne_eq, Int.reduceEq, Nat.zero_add, Bool.not_true, Bool.not_false, reduceCtorEq, nc0, nc1, nc2, nc3, nc4, nc5, fIx_ref put_same, fLen_ref put_same, ↓D3.lc3.eq_1, fInt, fTuple, fList, fNeS_s, fEqS_s, ↓D3.gstar3.eq_1, fInK_s, fNinK_s, fLenS_s, ↓D3.slcT3.eq_1, fCatT_t, dnew3]))
  obtain ⟨e2, rfl⟩ : ∃ e : Nat, r = (e : Int) := ⟨r.toNat, by omega⟩
  refine ⟨p, 999970000, [], e2, by rw [show (1 + (e2 : Int)) = ((e2 + 1 : Nat) : Int) by omega]; rfl, by omega, nn, by decide, d4.le (by decide), fun other m5 w5 o5 d5 => ?_⟩
  have wo := w3.le (e' := 4) (by omega)
  have wt := w5.le (e' := 3) (by omega)
  obtain ⟨v, gv⟩ := wo.gv
  obtain ⟨u, gu⟩ := wt.gv
  obtain ⟨l1, k1⟩ := wo.ok nn
  obtain ⟨l2, k2⟩ := wt.ok nn
  have l9 : Pl 900 one := Pl.le (by decide) _ l1
  have l8 : Pl 900 other := Pl.le (by decide) _ l2
  clear w3 w5
  (refine laterP_in ?_; repeat ((first | with_reducible refine laterP_i ?_ | with_reducible refine later_i ?_); try simp -implicitDefEqProofs -dsimp only [↓D3.seq3_stop, ↓D3.ifS3.eq_1, ↓D3.b3.eq_1, ↓D3.op3.eq_1, ↓D3.un3.eq_1, ↓D3.v3.eq_1, ↓D3.c3.eq_1, fIx_tup, fIx_lst, at3_0, at3_1, at3_2, at3_3, at3_4, at3_5, at3_6, start3, fI0_i, fI_i, fLt, fLe, fGt, fGe, fEqI, fNeI, fMin, fMax, ↓D3.asg3.eq_1, ↓D3.name3.eq_1, ↓D3.sub3.eq_1, ↓D3.ret3.eq_1, ↓D3.retN3.eq_1, ↓D3.nx3.eq_1, ↓D3.drop3.eq_1, ↓D3.par3.eq_1, ↓D3.aug3.eq_1, ↓D3.and3.eq_1, ↓D3.or3.eq_1, ↓D3.not3.eq_1, ↓D3.andV3.eq_1, ↓D3.orV3.eq_1, ↓D3.notV3.eq_1, ↓D3.if3.eq_1, ↓D3.nil3.eq_1, ↓D3.cons3.eq_1, ↓D3.tup3.eq_1, ↓D3.lst3.eq_1, ↓D3.lstM3.eq_1, ↓D3.gtup3.eq_1, ↓D3.gcons3.eq_1, ↓D3.gnil3.eq_1, ↓D3.gunl3.eq_1, ↓D3.bits3.eq_1, ↓D3.neg3.eq_1, ↓D3.chain3.eq_1, fIsi_int_int, fIsi_int_bool, fIsi_int_tuple, fIsi_int_str, fIsi_int_list, fIsi_bl_int, fIsi_bl_bool, fIsi_bl_tuple, fIsi_bl_str, fIsi_bl_list, fIsi_non_int, fIsi_non_bool, fIsi_non_tuple, fIsi_non_str, fIsi_non_list, fIsi_str_int, fIsi_str_bool, fIsi_str_tuple, fIsi_str_str, fIsi_str_list, fIsi_tup_int, fIsi_tup_bool, fIsi_tup_tuple, fIsi_tup_str, fIsi_tup_list, fIsi_lst_int, fIsi_lst_bool, fIsi_lst_tuple, fIsi_lst_str, fIsi_lst_list, fLen_lst, fLen_tup, fAbs, ↓D3.call3_k, ↓D3.kont_app, ↓D3.isN3.eq_1, ↓D3.notN3.eq_1, dIsN_non, dIsN_int, dIsN_bl, dIsN_str, dIsN_tup, dIsN_lst, ↓D3.slc3.eq_1, ↓D3.part3.eq_1, ↓D3.noPart3.eq_1, ↓D3.ilst3.eq_1, ↓D3.itup3.eq_1, ↓D3.irng1.eq_1, ↓D3.irng2.eq_1, ↓D3.for3.eq_1, fCat, fEq_int, fNe_int, fEq_bl, fNe_bl, fEq_pair, fNe_pair, List.map, List.replicate, List.length_cons, List.length_nil, List.set_cons_zero, List.set_cons_succ, List.getElem?_cons_zero, List.getElem?_cons_succ, List.cons_append, List.nil_append, at_0, at_1, at_2, at_3, at_4, at_5, at_6, ix_0, ix_1, ix_2, put_same, put_put, decide_eq_true_eq, Bool.not_eq_true', decide_eq_false_iff_not, ite_not, ite_true, ite_false, if_true, if_false, Bool.false_eq_true, ↓reduceIte, reduceIte, Nat.reduceAdd, Nat.reduceSub, Int.reduceToNat, Nat.reduceLeDiff, not_false_eq_true, true_and, and_true, ne_eq, Int.reduceEq, Nat.zero_add, Bool.not_true, Bool.not_false, reduceCtorEq, nc0, nc1, nc2, nc3, nc4, nc5, fIx_ref put_same, fLen_ref put_same, ↓D3.lc3.eq_1, fInt, fTuple, fList, fNeS_s, fEqS_s, ↓D3.gstar3.eq_1, fInK_s, fNinK_s, fLenS_s, ↓D3.slcT3.eq_1, fCatT_t, dnew3]))
  intro pa ha
  have na := d5.ne ha
  refine ⟨one, _, v, rfl, wo.le (by decide), gv.le (by decide), ?_⟩
  (refine laterP_in ?_; repeat ((first | with_reducible refine laterP_i ?_ | with_reducible refine later_i ?_); try simp -implicitDefEqProofs -dsimp only [↓D3.seq3_stop, ↓D3.ifS3.eq_1, ↓D3.b3.eq_1, ↓D3.op3.eq_1, ↓D3.un3.eq_1, ↓D3.v3.eq_1, ↓D3.c3.eq_1, fIx_tup, fIx_lst, at3_0, at3_1, at3_2, at3_3, at3_4, at3_5, at3_6, start3, fI0_i, fI_i, fLt, fLe, fGt, fGe, fEqI, fNeI, fMin, fMax, ↓D3.asg3.eq_1, ↓D3.name3.eq_1, ↓D3.sub3.eq_1, ↓D3.ret3.eq_1, ↓D3.retN3.eq_1, ↓D3.nx3.eq_1, ↓D3.drop3.eq_1, ↓D3.par3.eq_1, ↓D3.aug3.eq_1, ↓D3.and3.eq_1, ↓D3.or3.eq_1, ↓D3.not3.eq_1, ↓D3.andV3.eq_1, ↓D3.orV3.eq_1, ↓D3.notV3.eq_1, ↓D3.if3.eq_1, ↓D3.nil3.eq_1, ↓D3.cons3.eq_1, ↓D3.tup3.eq_1, ↓D3.lst3.eq_1, ↓D3.lstM3.eq_1, ↓D3.gtup3.eq_1, ↓D3.gcons3.eq_1, ↓D3.gnil3.eq_1, ↓D3.gunl3.eq_1, ↓D3.bits3.eq_1, ↓D3.neg3.eq_1, ↓D3.chain3.eq_1, fIsi_int_int, fIsi_int_bool, fIsi_int_tuple, fIsi_int_str, fIsi_int_list, fIsi_bl_int, fIsi_bl_bool, fIsi_bl_tuple, fIsi_bl_str, fIsi_bl_list, fIsi_non_int, fIsi_non_bool, fIsi_non_tuple, fIsi_non_str, fIsi_non_list, fIsi_str_int, fIsi_str_bool, fIsi_str_tuple, fIsi_str_str, fIsi_str_list, fIsi_tup_int, fIsi_tup_bool, fIsi_tup_tuple, fIsi_tup_str, fIsi_tup_list, fIsi_lst_int, fIsi_lst_bool, fIsi_lst_tuple, fIsi_lst_str, fIsi_lst_list, fLen_lst, fLen_tup, fAbs, ↓D3.call3_k, ↓D3.kont_app, ↓D3.isN3.eq_1, ↓D3.notN3.eq_1, dIsN_non, dIsN_int, dIsN_bl, dIsN_str, dIsN_tup, dIsN_lst, ↓D3.slc3.eq_1, ↓D3.part3.eq_1, ↓D3.noPart3.eq_1, ↓D3.ilst3.eq_1, ↓D3.itup3.eq_1, ↓D3.irng1.eq_1, ↓D3.irng2.eq_1, ↓D3.for3.eq_1, fCat, fEq_int, fNe_int, fEq_bl, fNe_bl, fEq_pair, fNe_pair, List.map, List.replicate, List.length_cons, List.length_nil, List.set_cons_zero, List.set_cons_succ, List.getElem?_cons_zero, List.getElem?_cons_succ, List.cons_append, List.nil_append, at_0, at_1, at_2, at_3, at_4, at_5, at_6, ix_0, ix_1, ix_2, put_same, put_put, decide_eq_true_eq, Bool.not_eq_true', decide_eq_false_iff_not, ite_not, ite_true, ite_false, if_true, if_false, Bool.false_eq_true, ↓reduceIte, reduceIte, Nat.reduceAdd, Nat.reduceSub, Int.reduceToNat, Nat.reduceLeDiff, not_false_eq_true, true_and, and_true, ne_eq, Int.reduceEq, Nat.zero_add, Bool.not_true, Bool.not_false, reduceCtorEq, nc0, nc1, nc2, nc3, nc4, nc5, fIx_ref put_same, fLen_ref put_same, ↓D3.lc3.eq_1, fInt, fTuple, fList, fNeS_s, fEqS_s, ↓D3.gstar3.eq_1, fInK_s, fNinK_s, fLenS_s, ↓D3.slcT3.eq_1, fCatT_t, dnew3]))
  refine ⟨one, v, rfl, gv.le (by decide), l9, by omega, ?_⟩
  (refine laterP_in ?_; repeat ((first | with_reducible refine laterP_i ?_ | with_reducible refine later_i ?_); try simp -implicitDefEqProofs -dsimp only [↓D3.seq3_stop, ↓D3.ifS3.eq_1, ↓D3.b3.eq_1, ↓D3.op3.eq_1, ↓D3.un3.eq_1, ↓D3.v3.eq_1, ↓D3.c3.eq_1, fIx_tup, fIx_lst, at3_0, at3_1, at3_2, at3_3, at3_4, at3_5, at3_6, start3, fI0_i, fI_i, fLt, fLe, fGt, fGe, fEqI, fNeI, fMin, fMax, ↓D3.asg3.eq_1, ↓D3.name3.eq_1, ↓D3.sub3.eq_1, ↓D3.ret3.eq_1, ↓D3.retN3.eq_1, ↓D3.nx3.eq_1, ↓D3.drop3.eq_1, ↓D3.par3.eq_1, ↓D3.aug3.eq_1, ↓D3.and3.eq_1, ↓D3.or3.eq_1, ↓D3.not3.eq_1, ↓D3.andV3.eq_1, ↓D3.orV3.eq_1, ↓D3.notV3.eq_1, ↓D3.if3.eq_1, ↓D3.nil3.eq_1, ↓D3.cons3.eq_1, ↓D3.tup3.eq_1, ↓D3.lst3.eq_1, ↓D3.lstM3.eq_1, ↓D3.gtup3.eq_1, ↓D3.gcons3.eq_1, ↓D3.gnil3.eq_1, ↓D3.gunl3.eq_1, ↓D3.bits3.eq_1, ↓D3.neg3.eq_1, ↓D3.chain3.eq_1, fIsi_int_int, fIsi_int_bool, fIsi_int_tuple, fIsi_int_str, fIsi_int_list, fIsi_bl_int, fIsi_bl_bool, fIsi_bl_tuple, fIsi_bl_str, fIsi_bl_list, fIsi_non_int, fIsi_non_bool, fIsi_non_tuple, fIsi_non_str, fIsi_non_list, fIsi_str_int, fIsi_str_bool, fIsi_str_tuple, fIsi_str_str, fIsi_str_list, fIsi_tup_int, fIsi_tup_bool, fIsi_tup_tuple, fIsi_tup_str, fIsi_tup_list, fIsi_lst_int, fIsi_lst_bool, fIsi_lst_tuple, fIsi_lst_str, fIsi_lst_list, fLen_lst, fLen_tup, fAbs, ↓D3.call3_k, ↓D3.kont_app, ↓D3.isN3.eq_1, ↓D3.notN3.eq_1, dIsN_non, dIsN_int, dIsN_bl, dIsN_str, dIsN_tup, dIsN_lst, ↓D3.slc3.eq_1, ↓D3.part3.eq_1, ↓D3.noPart3.eq_1, ↓D3.ilst3.eq_1, ↓D3.itup3.eq_1, ↓D3.irng1.eq_1, ↓D3.irng2.eq_1, ↓D3.for3.eq_1, fCat, fEq_int, fNe_int, fEq_bl, fNe_bl, fEq_pair, fNe_pair, List.map, List.replicate, List.length_cons, List.length_nil, List.set_cons_zero, List.set_cons_succ, List.getElem?_cons_zero, List.getElem?_cons_succ, List.cons_append, List.nil_append, at_0, at_1, at_2, at_3, at_4, at_5, at_6, ix_0, ix_1, ix_2, put_same, put_put, decide_eq_true_eq, Bool.not_eq_true', decide_eq_false_iff_not, ite_not, ite_true, ite_false, if_true, if_false, Bool.false_eq_true, ↓reduceIte, reduceIte, Nat.reduceAdd, Nat.reduceSub, Int.reduceToNat, Nat.reduceLeDiff, not_false_eq_true, true_and, and_true, ne_eq, Int.reduceEq, Nat.zero_add, Bool.not_true, Bool.not_false, reduceCtorEq, nc0, nc1, nc2, nc3, nc4, nc5, fIx_ref put_same, fLen_ref put_same, ↓D3.lc3.eq_1, fInt, fTuple, fList, fNeS_s, fEqS_s, ↓D3.gstar3.eq_1, fInK_s, fNinK_s, fLenS_s, ↓D3.slcT3.eq_1, fCatT_t, dnew3]))
  rw [fNe_oQ]
  (refine laterP_in ?_; repeat ((first | with_reducible refine laterP_i ?_ | with_reducible refine later_i ?_); try simp -implicitDefEqProofs -dsimp only [↓D3.seq3_stop, ↓D3.ifS3.eq_1, ↓D3.b3.eq_1, ↓D3.op3.eq_1, ↓D3.un3.eq_1, ↓D3.v3.eq_1, ↓D3.c3.eq_1, fIx_tup, fIx_lst, at3_0, at3_1, at3_2, at3_3, at3_4, at3_5, at3_6, start3, fI0_i, fI_i, fLt, fLe, fGt, fGe, fEqI, fNeI, fMin, fMax, ↓D3.asg3.eq_1, ↓D3.name3.eq_1, ↓D3.sub3.eq_1, ↓D3.ret3.eq_1, ↓D3.retN3.eq_1, ↓D3.nx3.eq_1, ↓D3.drop3.eq_1, ↓D3.par3.eq_1, ↓D3.aug3.eq_1, ↓D3.and3.eq_1, ↓D3.or3.eq_1, ↓D3.not3.eq_1, ↓D3.andV3.eq_1, ↓D3.orV3.eq_1, ↓D3.notV3.eq_1, ↓D3.if3.eq_1, ↓D3.nil3.eq_1, ↓D3.cons3.eq_1, ↓D3.tup3.eq_1, ↓D3.lst3.eq_1, ↓D3.lstM3.eq_1, ↓D3.gtup3.eq_1, ↓D3.gcons3.eq_1, ↓D3.gnil3.eq_1, ↓D3.gunl3.eq_1, ↓D3.bits3.eq_1, ↓D3.neg3.eq_1, ↓D3.chain3.eq_1, fIsi_int_int, fIsi_int_bool, fIsi_int_tuple, fIsi_int_str, fIsi_int_list, fIsi_bl_int, fIsi_bl_bool, fIsi_bl_tuple, fIsi_bl_str, fIsi_bl_list, fIsi_non_int, fIsi_non_bool, fIsi_non_tuple, fIsi_non_str, fIsi_non_list, fIsi_str_int, fIsi_str_bool, fIsi_str_tuple, fIsi_str_str, fIsi_str_list, fIsi_tup_int, fIsi_tup_bool, fIsi_tup_tuple, fIsi_tup_str, fIsi_tup_list, fIsi_lst_int, fIsi_lst_bool, fIsi_lst_tuple, fIsi_lst_str, fIsi_lst_list, fLen_lst, fLen_tup, fAbs, ↓D3.call3_k, ↓D3.kont_app, ↓D3.isN3.eq_1, ↓D3.notN3.eq_1, dIsN_non, dIsN_int, dIsN_bl, dIsN_str, dIsN_tup, dIsN_lst, ↓D3.slc3.eq_1, ↓D3.part3.eq_1, ↓D3.noPart3.eq_1, ↓D3.ilst3.eq_1, ↓D3.itup3.eq_1, ↓D3.irng1.eq_1, ↓D3.irng2.eq_1, ↓D3.for3.eq_1, fCat, fEq_int, fNe_int, fEq_bl, fNe_bl, fEq_pair, fNe_pair, List.map, List.replicate, List.length_cons, List.length_nil, List.set_cons_zero, List.set_cons_succ, List.getElem?_cons_zero, List.getElem?_cons_succ, List.cons_append, List.nil_append, at_0, at_1, at_2, at_3, at_4, at_5, at_6, ix_0, ix_1, ix_2, put_same, put_put, decide_eq_true_eq, Bool.not_eq_true', decide_eq_false_iff_not, ite_not, ite_true, ite_false, if_true, if_false, Bool.false_eq_true, ↓reduceIte, reduceIte, Nat.reduceAdd, Nat.reduceSub, Int.reduceToNat, Nat.reduceLeDiff, not_false_eq_true, true_and, and_true, ne_eq, Int.reduceEq, Nat.zero_add, Bool.not_true, Bool.not_false, reduceCtorEq, nc0, nc1, nc2, nc3, nc4, nc5, fIx_ref put_same, fLen_ref put_same, ↓D3.lc3.eq_1, fInt, fTuple, fList, fNeS_s, fEqS_s, ↓D3.gstar3.eq_1, fInK_s, fNinK_s, fLenS_s, ↓D3.slcT3.eq_1, fCatT_t, dnew3]))
  refine ⟨one, v, rfl, gv.le (by decide), l9, by omega, ?_⟩
  (refine laterP_in ?_; repeat ((first | with_reducible refine laterP_i ?_ | with_reducible refine later_i ?_); try simp -implicitDefEqProofs -dsimp only [↓D3.seq3_stop, ↓D3.ifS3.eq_1, ↓D3.b3.eq_1, ↓D3.op3.eq_1, ↓D3.un3.eq_1, ↓D3.v3.eq_1, ↓D3.c3.eq_1, fIx_tup, fIx_lst, at3_0, at3_1, at3_2, at3_3, at3_4, at3_5, at3_6, start3, fI0_i, fI_i, fLt, fLe, fGt, fGe, fEqI, fNeI, fMin, fMax, ↓D3.asg3.eq_1, ↓D3.name3.eq_1, ↓D3.sub3.eq_1, ↓D3.ret3.eq_1, ↓D3.retN3.eq_1, ↓D3.nx3.eq_1, ↓D3.drop3.eq_1, ↓D3.par3.eq_1, ↓D3.aug3.eq_1, ↓D3.and3.eq_1, ↓D3.or3.eq_1, ↓D3.not3.eq_1, ↓D3.andV3.eq_1, ↓D3.orV3.eq_1, ↓D3.notV3.eq_1, ↓D3.if3.eq_1, ↓D3.nil3.eq_1, ↓D3.cons3.eq_1, ↓D3.tup3.eq_1, ↓D3.lst3.eq_1, ↓D3.lstM3.eq_1, ↓D3.gtup3.eq_1, ↓D3.gcons3.eq_1, ↓D3.gnil3.eq_1, ↓D3.gunl3.eq_1, ↓D3.bits3.eq_1, ↓D3.neg3.eq_1, ↓D3.chain3.eq_1, fIsi_int_int, fIsi_int_bool, fIsi_int_tuple, fIsi_int_str, fIsi_int_list, fIsi_bl_int, fIsi_bl_bool, fIsi_bl_tuple, fIsi_bl_str, fIsi_bl_list, fIsi_non_int, fIsi_non_bool, fIsi_non_tuple, fIsi_non_str, fIsi_non_list, fIsi_str_int, fIsi_str_bool, fIsi_str_tuple, fIsi_str_str, fIsi_str_list, fIsi_tup_int, fIsi_tup_bool, fIsi_tup_tuple, fIsi_tup_str, fIsi_tup_list, fIsi_lst_int, fIsi_lst_bool, fIsi_lst_tuple, fIsi_lst_str, fIsi_lst_list, fLen_lst, fLen_tup, fAbs, ↓D3.call3_k, ↓D3.kont_app, ↓D3.isN3.eq_1, ↓D3.notN3.eq_1, dIsN_non, dIsN_int, dIsN_bl, dIsN_str, dIsN_tup, dIsN_lst, ↓D3.slc3.eq_1, ↓D3.part3.eq_1, ↓D3.noPart3.eq_1, ↓D3.ilst3.eq_1, ↓D3.itup3.eq_1, ↓D3.irng1.eq_1, ↓D3.irng2.eq_1, ↓D3.for3.eq_1, fCat, fEq_int, fNe_int, fEq_bl, fNe_bl, fEq_pair, fNe_pair, List.map, List.replicate, List.length_cons, List.length_nil, List.set_cons_zero, List.set_cons_succ, List.getElem?_cons_zero, List.getElem?_cons_succ, List.cons_append, List.nil_append, at_0, at_1, at_2, at_3, at_4, at_5, at_6, ix_0, ix_1, ix_2, put_same, put_put, decide_eq_true_eq, Bool.not_eq_true', decide_eq_false_iff_not, ite_not, ite_true, ite_false, if_true, if_false, Bool.false_eq_true, ↓reduceIte, reduceIte, Nat.reduceAdd, Nat.reduceSub, Int.reduceToNat, Nat.reduceLeDiff, not_false_eq_true, true_and, and_true, ne_eq, Int.reduceEq, Nat.zero_add, Bool.not_true, Bool.not_false, reduceCtorEq, nc0, nc1, nc2, nc3, nc4, nc5, fIx_ref put_same, fLen_ref put_same, ↓D3.lc3.eq_1, fInt, fTuple, fList, fNeS_s, fEqS_s, ↓D3.gstar3.eq_1, fInK_s, fNinK_s, fLenS_s, ↓D3.slcT3.eq_1, fCatT_t, dnew3]))
  rw [fNe_oQ]
  (refine laterP_in ?_; repeat ((first | with_reducible refine laterP_i ?_ | with_reducible refine later_i ?_); try simp -implicitDefEqProofs -dsimp only [↓D3.seq3_stop, ↓D3.ifS3.eq_1, ↓D3.b3.eq_1, ↓D3.op3.eq_1, ↓D3.un3.eq_1, ↓D3.v3.eq_1, ↓D3.c3.eq_1, fIx_tup, fIx_lst, at3_0, at3_1, at3_2, at3_3, at3_4, at3_5, at3_6, start3, fI0_i, fI_i, fLt, fLe, fGt, fGe, fEqI, fNeI, fMin, fMax, ↓D3.asg3.eq_1, ↓D3.name3.eq_1, ↓D3.sub3.eq_1, ↓D3.ret3.eq_1, ↓D3.retN3.eq_1, ↓D3.nx3.eq_1, ↓D3.drop3.eq_1, ↓D3.par3.eq_1, ↓D3.aug3.eq_1, ↓D3.and3.eq_1, ↓D3.or3.eq_1, ↓D3.not3.eq_1, ↓D3.andV3.eq_1, ↓D3.orV3.eq_1, ↓D3.notV3.eq_1, ↓D3.if3.eq_1, ↓D3.nil3.eq_1, ↓D3.cons3.eq_1, ↓D3.tup3.eq_1, ↓D3.lst3.eq_1, ↓D3.lstM3.eq_1, ↓D3.gtup3.eq_1, ↓D3.gcons3.eq_1, ↓D3.gnil3.eq_1, ↓D3.gunl3.eq_1, ↓D3.bits3.eq_1, ↓D3.neg3.eq_1, ↓D3.chain3.eq_1, fIsi_int_int, fIsi_int_bool, fIsi_int_tuple, fIsi_int_str, fIsi_int_list, fIsi_bl_int, fIsi_bl_bool, fIsi_bl_tuple, fIsi_bl_str, fIsi_bl_list, fIsi_non_int, fIsi_non_bool, fIsi_non_tuple, fIsi_non_str, fIsi_non_list, fIsi_str_int, fIsi_str_bool, fIsi_str_tuple, fIsi_str_str, fIsi_str_list, fIsi_tup_int, fIsi_tup_bool, fIsi_tup_tuple, fIsi_tup_str, fIsi_tup_list, fIsi_lst_int, fIsi_lst_bool, fIsi_lst_tuple, fIsi_lst_str, fIsi_lst_list, fLen_lst, fLen_tup, fAbs, ↓D3.call3_k, ↓D3.kont_app, ↓D3.isN3.eq_1, ↓D3.notN3.eq_1, dIsN_non, dIsN_int, dIsN_bl, dIsN_str, dIsN_tup, dIsN_lst, ↓D3.slc3.eq_1, ↓D3.part3.eq_1, ↓D3.noPart3.eq_1, ↓D3.ilst3.eq_1, ↓D3.itup3.eq_1, ↓D3.irng1.eq_1, ↓D3.irng2.eq_1, ↓D3.for3.eq_1, fCat, fEq_int, fNe_int, fEq_bl, fNe_bl, fEq_pair, fNe_pair, List.map, List.replicate, List.length_cons, List.length_nil, List.set_cons_zero, List.set_cons_succ, List.getElem?_cons_zero, List.getElem?_cons_succ, List.cons_append, List.nil_append, at_0, at_1, at_2, at_3, at_4, at_5, at_6, ix_0, ix_1, ix_2, put_same, put_put, decide_eq_true_eq, Bool.not_eq_true', decide_eq_false_iff_not, ite_not, ite_true, ite_false, if_true, if_false, Bool.false_eq_true, ↓reduceIte, reduceIte, Nat.reduceAdd, Nat.reduceSub, Int.reduceToNat, Nat.reduceLeDiff, not_false_eq_true, true_and, and_true, ne_eq, Int.reduceEq, Nat.zero_add, Bool.not_true, Bool.not_false, reduceCtorEq, nc0, nc1, nc2, nc3, nc4, nc5, fIx_ref put_same, fLen_ref put_same, ↓D3.lc3.eq_1, fInt, fTuple, fList, fNeS_s, fEqS_s, ↓D3.gstar3.eq_1, fInK_s, fNinK_s, fLenS_s, ↓D3.slcT3.eq_1, fCatT_t, dnew3]))
  refine ⟨other, u, rfl, gu.le (by decide), l8, by omega, ?_⟩
  (refine laterP_in ?_; repeat ((first | with_reducible refine laterP_i ?_ | with_reducible refine later_i ?_); try simp -implicitDefEqProofs -dsimp only [↓D3.seq3_stop, ↓D3.ifS3.eq_1, ↓D3.b3.eq_1, ↓D3.op3.eq_1, ↓D3.un3.eq_1, ↓D3.v3.eq_1, ↓D3.c3.eq_1, fIx_tup, fIx_lst, at3_0, at3_1, at3_2, at3_3, at3_4, at3_5, at3_6, start3, fI0_i, fI_i, fLt, fLe, fGt, fGe, fEqI, fNeI, fMin, fMax, ↓D3.asg3.eq_1, ↓D3.name3.eq_1, ↓D3.sub3.eq_1, ↓D3.ret3.eq_1, ↓D3.retN3.eq_1, ↓D3.nx3.eq_1, ↓D3.drop3.eq_1, ↓D3.par3.eq_1, ↓D3.aug3.eq_1, ↓D3.and3.eq_1, ↓D3.or3.eq_1, ↓D3.not3.eq_1, ↓D3.andV3.eq_1, ↓D3.orV3.eq_1, ↓D3.notV3.eq_1, ↓D3.if3.eq_1, ↓D3.nil3.eq_1, ↓D3.cons3.eq_1, ↓D3.tup3.eq_1, ↓D3.lst3.eq_1, ↓D3.lstM3.eq_1, ↓D3.gtup3.eq_1, ↓D3.gcons3.eq_1, ↓D3.gnil3.eq_1, ↓D3.gunl3.eq_1, ↓D3.bits3.eq_1, ↓D3.neg3.eq_1, ↓D3.chain3.eq_1, fIsi_int_int, fIsi_int_bool, fIsi_int_tuple, fIsi_int_str, fIsi_int_list, fIsi_bl_int, fIsi_bl_bool, fIsi_bl_tuple, fIsi_bl_str, fIsi_bl_list, fIsi_non_int, fIsi_non_bool, fIsi_non_tuple, fIsi_non_str, fIsi_non_list, fIsi_str_int, fIsi_str_bool, fIsi_str_tuple, fIsi_str_str, fIsi_str_list, fIsi_tup_int, fIsi_tup_bool, fIsi_tup_tuple, fIsi_tup_str, fIsi_tup_list, fIsi_lst_int, fIsi_lst_bool, fIsi_lst_tuple, fIsi_lst_str, fIsi_lst_list, fLen_lst, fLen_tup, fAbs, ↓D3.call3_k, ↓D3.kont_app, ↓D3.isN3.eq_1, ↓D3.notN3.eq_1, dIsN_non, dIsN_int, dIsN_bl, dIsN_str, dIsN_tup, dIsN_lst, ↓D3.slc3.eq_1, ↓D3.part3.eq_1, ↓D3.noPart3.eq_1, ↓D3.ilst3.eq_1, ↓D3.itup3.eq_1, ↓D3.irng1.eq_1, ↓D3.irng2.eq_1, ↓D3.for3.eq_1, fCat, fEq_int, fNe_int, fEq_bl, fNe_bl, fEq_pair, fNe_pair, List.map, List.replicate, List.length_cons, List.length_nil, List.set_cons_zero, List.set_cons_succ, List.getElem?_cons_zero, List.getElem?_cons_succ, List.cons_append, List.nil_append, at_0, at_1, at_2, at_3, at_4, at_5, at_6, ix_0, ix_1, ix_2, put_same, put_put, decide_eq_true_eq, Bool.not_eq_true', decide_eq_false_iff_not, ite_not, ite_true, ite_false, if_true, if_false, Bool.false_eq_true, ↓reduceIte, reduceIte, Nat.reduceAdd, Nat.reduceSub, Int.reduceToNat, Nat.reduceLeDiff, not_false_eq_true, true_and, and_true, ne_eq, Int.reduceEq, Nat.zero_add, Bool.not_true, Bool.not_false, reduceCtorEq, nc0, nc1, nc2, nc3, nc4, nc5, fIx_ref put_same, fLen_ref put_same, ↓D3.lc3.eq_1, fInt, fTuple, fList, fNeS_s, fEqS_s, ↓D3.gstar3.eq_1, fInK_s, fNinK_s, fLenS_s, ↓D3.slcT3.eq_1, fCatT_t, dnew3]))
  intro pb hb
  have nb := (d5.put (o := .dct []) na).ne hb
  refine ⟨other, _, u, rfl, wt.le (by decide), gu.le (by decide), ?_⟩
  (refine laterP_in ?_; repeat ((first | with_reducible refine laterP_i ?_ | with_reducible refine later_i ?_); try simp -implicitDefEqProofs -dsimp only [↓D3.seq3_stop, ↓D3.ifS3.eq_1, ↓D3.b3.eq_1, ↓D3.op3.eq_1, ↓D3.un3.eq_1, ↓D3.v3.eq_1, ↓D3.c3.eq_1, fIx_tup, fIx_lst, at3_0, at3_1, at3_2, at3_3, at3_4, at3_5, at3_6, start3, fI0_i, fI_i, fLt, fLe, fGt, fGe, fEqI, fNeI, fMin, fMax, ↓D3.asg3.eq_1, ↓D3.name3.eq_1, ↓D3.sub3.eq_1, ↓D3.ret3.eq_1, ↓D3.retN3.eq_1, ↓D3.nx3.eq_1, ↓D3.drop3.eq_1, ↓D3.par3.eq_1, ↓D3.aug3.eq_1, ↓D3.and3.eq_1, ↓D3.or3.eq_1, ↓D3.not3.eq_1, ↓D3.andV3.eq_1, ↓D3.orV3.eq_1, ↓D3.notV3.eq_1, ↓D3.if3.eq_1, ↓D3.nil3.eq_1, ↓D3.cons3.eq_1, ↓D3.tup3.eq_1, ↓D3.lst3.eq_1, ↓D3.lstM3.eq_1, ↓D3.gtup3.eq_1, ↓D3.gcons3.eq_1, ↓D3.gnil3.eq_1, ↓D3.gunl3.eq_1, ↓D3.bits3.eq_1, ↓D3.neg3.eq_1, ↓D3.chain3.eq_1, fIsi_int_int, fIsi_int_bool, fIsi_int_tuple, fIsi_int_str, fIsi_int_list, fIsi_bl_int, fIsi_bl_bool, fIsi_bl_tuple, fIsi_bl_str, fIsi_bl_list, fIsi_non_int, fIsi_non_bool, fIsi_non_tuple, fIsi_non_str, fIsi_non_list, fIsi_str_int, fIsi_str_bool, fIsi_str_tuple, fIsi_str_str, fIsi_str_list, fIsi_tup_int, fIsi_tup_bool, fIsi_tup_tuple, fIsi_tup_str, fIsi_tup_list, fIsi_lst_int, fIsi_lst_bool, fIsi_lst_tuple, fIsi_lst_str, fIsi_lst_list, fLen_lst, fLen_tup, fAbs, ↓D3.call3_k, ↓D3.kont_app, ↓D3.isN3.eq_1, ↓D3.notN3.eq_1, dIsN_non, dIsN_int, dIsN_bl, dIsN_str, dIsN_tup, dIsN_lst, ↓D3.slc3.eq_1, ↓D3.part3.eq_1, ↓D3.noPart3.eq_1, ↓D3.ilst3.eq_1, ↓D3.itup3.eq_1, ↓D3.irng1.eq_1, ↓D3.irng2.eq_1, ↓D3.for3.eq_1, fCat, fEq_int, fNe_int, fEq_bl, fNe_bl, fEq_pair, fNe_pair, List.map, List.replicate, List.length_cons, List.length_nil, List.set_cons_zero, List.set_cons_succ, List.getElem?_cons_zero, List.getElem?_cons_succ, List.cons_append, List.nil_append, at_0, at_1, at_2, at_3, at_4, at_5, at_6, ix_0, ix_1, ix_2, put_same, put_put, decide_eq_true_eq, Bool.not_eq_true', decide_eq_false_iff_not, ite_not, ite_true, ite_false, if_true, if_false, Bool.false_eq_true, ↓reduceIte, reduceIte, Nat.reduceAdd, Nat.reduceSub, Int.reduceToNat, Nat.reduceLeDiff, not_false_eq_true, true_and, and_true, ne_eq, Int.reduceEq, Nat.zero_add, Bool.not_true, Bool.not_false, reduceCtorEq, nc0, nc1, nc2, nc3, nc4, nc5, fIx_ref put_same, fLen_ref put_same, ↓D3.lc3.eq_1, fInt, fTuple, fList, fNeS_s, fEqS_s, ↓D3.gstar3.eq_1, fInK_s, fNinK_s, fLenS_s, ↓D3.slcT3.eq_1, fCatT_t, dnew3]))
  rw [fNe_oQ]
  have d6 := (d5.put (o := .dct []) na).put (o := .dct []) nb
  (refine laterP_in ?_; repeat ((first | with_reducible refine laterP_i ?_ | with_reducible refine later_i ?_); try simp -implicitDefEqProofs -dsimp only [↓D3.seq3_stop, ↓D3.ifS3.eq_1, ↓D3.b3.eq_1, ↓D3.op3.eq_1, ↓D3.un3.eq_1, ↓D3.v3.eq_1, ↓D3.c3.eq_1, fIx_tup, fIx_lst, at3_0, at3_1, at3_2, at3_3, at3_4, at3_5, at3_6, start3, fI0_i, fI_i, fLt, fLe, fGt, fGe, fEqI, fNeI, fMin, fMax, ↓D3.asg3.eq_1, ↓D3.name3.eq_1, ↓D3.sub3.eq_1, ↓D3.ret3.eq_1, ↓D3.retN3.eq_1, ↓D3.nx3.eq_1, ↓D3.drop3.eq_1, ↓D3.par3.eq_1, ↓D3.aug3.eq_1, ↓D3.and3.eq_1, ↓D3.or3.eq_1, ↓D3.not3.eq_1, ↓D3.andV3.eq_1, ↓D3.orV3.eq_1, ↓D3.notV3.eq_1, ↓D3.if3.eq_1, ↓D3.nil3.eq_1, ↓D3.cons3.eq_1, ↓D3.tup3.eq_1, ↓D3.lst3.eq_1, ↓D3.lstM3.eq_1, ↓D3.gtup3.eq_1, ↓D3.gcons3.eq_1, ↓D3.gnil3.eq_1, ↓D3.gunl3.eq_1, ↓D3.bits3.eq_1, ↓D3.neg3.eq_1, ↓D3.chain3.eq_1, fIsi_int_int, fIsi_int_bool, fIsi_int_tuple, fIsi_int_str, fIsi_int_list, fIsi_bl_int, fIsi_bl_bool, fIsi_bl_tuple, fIsi_bl_str, fIsi_bl_list, fIsi_non_int, fIsi_non_bool, fIsi_non_tuple, fIsi_non_str, fIsi_non_list, fIsi_str_int, fIsi_str_bool, fIsi_str_tuple, fIsi_str_str, fIsi_str_list, fIsi_tup_int, fIsi_tup_bool, fIsi_tup_tuple, fIsi_tup_str, fIsi_tup_list, fIsi_lst_int, fIsi_lst_bool, fIsi_lst_tuple, fIsi_lst_str, fIsi_lst_list, fLen_lst, fLen_tup, fAbs, ↓D3.call3_k, ↓D3.kont_app, ↓D3.isN3.eq_1, ↓D3.notN3.eq_1, dIsN_non, dIsN_int, dIsN_bl, dIsN_str, dIsN_tup, dIsN_lst, ↓D3.slc3.eq_1, ↓D3.part3.eq_1, ↓D3.noPart3.eq_1, ↓D3.ilst3.eq_1, ↓D3.itup3.eq_1, ↓D3.irng1.eq_1, ↓D3.irng2.eq_1, ↓D3.for3.eq_1, fCat, fEq_int, fNe_int, fEq_bl, fNe_bl, fEq_pair, fNe_pair, List.map, List.replicate, List.length_cons, List.length_nil, List.set_cons_zero, List.set_cons_succ, List.getElem?_cons_zero, List.getElem?_cons_succ, List.cons_append, List.nil_append, at_0, at_1, at_2, at_3, at_4, at_5, at_6, ix_0, ix_1, ix_2, put_same, put_put, decide_eq_true_eq, Bool.not_eq_true', decide_eq_false_iff_not, ite_not, ite_true, ite_false, if_true, if_false, Bool.false_eq_true, ↓reduceIte, reduceIte, Nat.reduceAdd, Nat.reduceSub, Int.reduceToNat, Nat.reduceLeDiff, not_false_eq_true, true_and, and_true, ne_eq, Int.reduceEq, Nat.zero_add, Bool.not_true, Bool.not_false, reduceCtorEq, nc0, nc1, nc2, nc3, nc4, nc5, fIx_ref put_same, fLen_ref put_same, ↓D3.lc3.eq_1, fInt, fTuple, fList, fNeS_s, fEqS_s, ↓D3.gstar3.eq_1, fInK_s, fNinK_s, fLenS_s, ↓D3.slcT3.eq_1, fCatT_t, dnew3]))
  generalize put (put m5 pa (.dct [])) pb (.dct []) = m6 at d6 ⊢
  refine forIn3_ind (fun ds ρ m' => (∀ d ∈ ds, ∃ k : Str, d = .str k ∧ k ∈ K2) ∧ ∃ x6 x7 x8 x9 : Option D, ρ = [some (D.lst (ns.map D.int)), some (.int cell), some (.ref p), some one, some other, some (oQ v), x6, x7, x8, x9] ∧ DeckAt m' p 999970000) ?_ ?_ _ _ _ ⟨?_, _, _, _, _, rfl, d6⟩
  rotate_right
  · intro d hd
    simp only [List.mem_cons, List.not_mem_nil, or_false] at hd
    rcases hd with rfl | rfl | rfl | rfl <;> exact ⟨_, rfl, by simp [K2]⟩
  · rintro d ds ρ m7 nx' hnx' ⟨hds, x6, x7, x8, x9, rfl, d7⟩
    obtain ⟨k, rfl, hk⟩ := hds d List.mem_cons_self
    have g2 := Gv.two hk gv (gu.le (e' := 4) (by decide))
    have w2 := Wp.two hk wo (wt.le (e' := 4) (by decide))
    (refine laterP_in ?_; repeat ((first | with_reducible refine laterP_i ?_ | with_reducible refine later_i ?_); try simp -implicitDefEqProofs -dsimp only [↓D3.seq3_stop, ↓D3.ifS3.eq_1, ↓D3.b3.eq_1, ↓D3.op3.eq_1, ↓D3.un3.eq_1, ↓D3.v3.eq_1, ↓D3.c3.eq_1, fIx_tup, fIx_lst, at3_0, at3_1, at3_2, at3_3, at3_4, at3_5, at3_6, start3, fI0_i, fI_i, fLt, fLe, fGt, fGe, fEqI, fNeI, fMin, fMax, ↓D3.asg3.eq_1, ↓D3.name3.eq_1, ↓D3.sub3.eq_1, ↓D3.ret3.eq_1, ↓D3.retN3.eq_1, ↓D3.nx3.eq_1, ↓D3.drop3.eq_1, ↓D3.par3.eq_1, ↓D3.aug3.eq_1, ↓D3.and3.eq_1, ↓D3.or3.eq_1, ↓D3.not3.eq_1, ↓D3.andV3.eq_1, ↓D3.orV3.eq_1, ↓D3.notV3.eq_1, ↓D3.if3.eq_1, ↓D3.nil3.eq_1, ↓D3.cons3.eq_1, ↓D3.tup3.eq_1, ↓D3.lst3.eq_1, ↓D3.lstM3.eq_1, ↓D3.gtup3.eq_1, ↓D3.gcons3.eq_1, ↓D3.gnil3.eq_1, ↓D3.gunl3.eq_1, ↓D3.bits3.eq_1, ↓D3.neg3.eq_1, ↓D3.chain3.eq_1, fIsi_int_int, fIsi_int_bool, fIsi_int_tuple, fIsi_int_str, fIsi_int_list, fIsi_bl_int, fIsi_bl_bool, fIsi_bl_tuple, fIsi_bl_str, fIsi_bl_list, fIsi_non_int, fIsi_non_bool, fIsi_non_tuple, fIsi_non_str, fIsi_non_list, fIsi_str_int, fIsi_str_bool, fIsi_str_tuple, fIsi_str_str, fIsi_str_list, fIsi_tup_int, fIsi_tup_bool, fIsi_tup_tuple, fIsi_tup_str, fIsi_tup_list, fIsi_lst_int, fIsi_lst_bool, fIsi_lst_tuple, fIsi_lst_str, fIsi_lst_list, fLen_lst, fLen_tup, fAbs, ↓D3.call3_k, ↓D3.kont_app, ↓D3.isN3.eq_1, ↓D3.notN3.eq_1, dIsN_non, dIsN_int, dIsN_bl, dIsN_str, dIsN_tup, dIsN_lst, ↓D3.slc3.eq_1, ↓D3.part3.eq_1, ↓D3.noPart3.eq_1, ↓D3.ilst3.eq_1, ↓D3.itup3.eq_1, ↓D3.irng1.eq_1, ↓D3.irng2.eq_1, ↓D3.for3.eq_1, fCat, fEq_int, fNe_int, fEq_bl, fNe_bl, fEq_pair, fNe_pair, List.map, List.replicate, List.length_cons, List.length_nil, List.set_cons_zero, List.set_cons_succ, List.getElem?_cons_zero, List.getElem?_cons_succ, List.cons_append, List.nil_append, at_0, at_1, at_2, at_3, at_4, at_5, at_6, ix_0, ix_1, ix_2, put_same, put_put, decide_eq_true_eq, Bool.not_eq_true', decide_eq_false_iff_not, ite_not, ite_true, ite_false, if_true, if_false, Bool.false_eq_true, ↓reduceIte, reduceIte, Nat.reduceAdd, Nat.reduceSub, Int.reduceToNat, Nat.reduceLeDiff, not_false_eq_true, true_and, and_true, ne_eq, Int.reduceEq, Nat.zero_add, Bool.not_true, Bool.not_false, reduceCtorEq, nc0, nc1, nc2, nc3, nc4, nc5, fIx_ref put_same, fLen_ref put_same, ↓D3.lc3.eq_1, fInt, fTuple, fList, fNeS_s, fEqS_s, ↓D3.gstar3.eq_1, fInK_s, fNinK_s, fLenS_s, ↓D3.slcT3.eq_1, fCatT_t, dnew3]))
    refine ⟨_, _, rfl, g2.le (by decide), ⟨Pl.le (by decide) _ (pl_k (.inl hk)), l9, l8, trivial⟩, by simp only [dp, dps]; omega, ?_⟩
    (refine laterP_in ?_; repeat ((first | with_reducible refine laterP_i ?_ | with_reducible refine later_i ?_); try simp -implicitDefEqProofs -dsimp only [↓D3.seq3_stop, ↓D3.ifS3.eq_1, ↓D3.b3.eq_1, ↓D3.op3.eq_1, ↓D3.un3.eq_1, ↓D3.v3.eq_1, ↓D3.c3.eq_1, fIx_tup, fIx_lst, at3_0, at3_1, at3_2, at3_3, at3_4, at3_5, at3_6, start3, fI0_i, fI_i, fLt, fLe, fGt, fGe, fEqI, fNeI, fMin, fMax, ↓D3.asg3.eq_1, ↓D3.name3.eq_1, ↓D3.sub3.eq_1, ↓D3.ret3.eq_1, ↓D3.retN3.eq_1, ↓D3.nx3.eq_1, ↓D3.drop3.eq_1, ↓D3.par3.eq_1, ↓D3.aug3.eq_1, ↓D3.and3.eq_1, ↓D3.or3.eq_1, ↓D3.not3.eq_1, ↓D3.andV3.eq_1, ↓D3.orV3.eq_1, ↓D3.notV3.eq_1, ↓D3.if3.eq_1, ↓D3.nil3.eq_1, ↓D3.cons3.eq_1, ↓D3.tup3.eq_1, ↓D3.lst3.eq_1, ↓D3.lstM3.eq_1, ↓D3.gtup3.eq_1, ↓D3.gcons3.eq_1, ↓D3.gnil3.eq_1, ↓D3.gunl3.eq_1, ↓D3.bits3.eq_1, ↓D3.neg3.eq_1, ↓D3.chain3.eq_1, fIsi_int_int, fIsi_int_bool, fIsi_int_tuple, fIsi_int_str, fIsi_int_list, fIsi_bl_int, fIsi_bl_bool, fIsi_bl_tuple, fIsi_bl_str, fIsi_bl_list, fIsi_non_int, fIsi_non_bool, fIsi_non_tuple, fIsi_non_str, fIsi_non_list, fIsi_str_int, fIsi_str_bool, fIsi_str_tuple, fIsi_str_str, fIsi_str_list, fIsi_tup_int, fIsi_tup_bool, fIsi_tup_tuple, fIsi_tup_str, fIsi_tup_list, fIsi_lst_int, fIsi_lst_bool, fIsi_lst_tuple, fIsi_lst_str, fIsi_lst_list, fLen_lst, fLen_tup, fAbs, ↓D3.call3_k, ↓D3.kont_app, ↓D3.isN3.eq_1, ↓D3.notN3.eq_1, dIsN_non, dIsN_int, dIsN_bl, dIsN_str, dIsN_tup, dIsN_lst, ↓D3.slc3.eq_1, ↓D3.part3.eq_1, ↓D3.noPart3.eq_1, ↓D3.ilst3.eq_1, ↓D3.itup3.eq_1, ↓D3.irng1.eq_1, ↓D3.irng2.eq_1, ↓D3.for3.eq_1, fCat, fEq_int, fNe_int, fEq_bl, fNe_bl, fEq_pair, fNe_pair, List.map, List.replicate, List.length_cons, List.length_nil, List.set_cons_zero, List.set_cons_succ, List.getElem?_cons_zero, List.getElem?_cons_succ, List.cons_append, List.nil_append, at_0, at_1, at_2, at_3, at_4, at_5, at_6, ix_0, ix_1, ix_2, put_same, put_put, decide_eq_true_eq, Bool.not_eq_true', decide_eq_false_iff_not, ite_not, ite_true, ite_false, if_true, if_false, Bool.false_eq_true, ↓reduceIte, reduceIte, Nat.reduceAdd, Nat.reduceSub, Int.reduceToNat, Nat.reduceLeDiff, not_false_eq_true, true_and, and_true, ne_eq, Int.reduceEq, Nat.zero_add, Bool.not_true, Bool.not_false, reduceCtorEq, nc0, nc1, nc2, nc3, nc4, nc5, fIx_ref put_same, fLen_ref put_same, ↓D3.lc3.eq_1, fInt, fTuple, fList, fNeS_s, fEqS_s, ↓D3.gstar3.eq_1, fInK_s, fNinK_s, fLenS_s, ↓D3.slcT3.eq_1, fCatT_t, dnew3]))
    intro pc hc
    have nc := d7.ne hc
    refine ⟨_, _, _, rfl, w2.le (by decide), g2.le (by decide), ?_⟩
    (refine laterP_in ?_; repeat ((first | with_reducible refine laterP_i ?_ | with_reducible refine later_i ?_); try simp -implicitDefEqProofs -dsimp only [↓D3.seq3_stop, ↓D3.ifS3.eq_1, ↓D3.b3.eq_1, ↓D3.op3.eq_1, ↓D3.un3.eq_1, ↓D3.v3.eq_1, ↓D3.c3.eq_1, fIx_tup, fIx_lst, at3_0, at3_1, at3_2, at3_3, at3_4, at3_5, at3_6, start3, fI0_i, fI_i, fLt, fLe, fGt, fGe, fEqI, fNeI, fMin, fMax, ↓D3.asg3.eq_1, ↓D3.name3.eq_1, ↓D3.sub3.eq_1, ↓D3.ret3.eq_1, ↓D3.retN3.eq_1, ↓D3.nx3.eq_1, ↓D3.drop3.eq_1, ↓D3.par3.eq_1, ↓D3.aug3.eq_1, ↓D3.and3.eq_1, ↓D3.or3.eq_1, ↓D3.not3.eq_1, ↓D3.andV3.eq_1, ↓D3.orV3.eq_1, ↓D3.notV3.eq_1, ↓D3.if3.eq_1, ↓D3.nil3.eq_1, ↓D3.cons3.eq_1, ↓D3.tup3.eq_1, ↓D3.lst3.eq_1, ↓D3.lstM3.eq_1, ↓D3.gtup3.eq_1, ↓D3.gcons3.eq_1, ↓D3.gnil3.eq_1, ↓D3.gunl3.eq_1, ↓D3.bits3.eq_1, ↓D3.neg3.eq_1, ↓D3.chain3.eq_1, fIsi_int_int, fIsi_int_bool, fIsi_int_tuple, fIsi_int_str, fIsi_int_list, fIsi_bl_int, fIsi_bl_bool, fIsi_bl_tuple, fIsi_bl_str, fIsi_bl_list, fIsi_non_int, fIsi_non_bool, fIsi_non_tuple, fIsi_non_str, fIsi_non_list, fIsi_str_int, fIsi_str_bool, fIsi_str_tuple, fIsi_str_str, fIsi_str_list, fIsi_tup_int, fIsi_tup_bool, fIsi_tup_tuple, fIsi_tup_str, fIsi_tup_list, fIsi_lst_int, fIsi_lst_bool, fIsi_lst_tuple, fIsi_lst_str, fIsi_lst_list, fLen_lst, fLen_tup, fAbs, ↓D3.call3_k, ↓D3.kont_app, ↓D3.isN3.eq_1, ↓D3.notN3.eq_1, dIsN_non, dIsN_int, dIsN_bl, dIsN_str, dIsN_tup, dIsN_lst, ↓D3.slc3.eq_1, ↓D3.part3.eq_1, ↓D3.noPart3.eq_1, ↓D3.ilst3.eq_1, ↓D3.itup3.eq_1, ↓D3.irng1.eq_1, ↓D3.irng2.eq_1, ↓D3.for3.eq_1, fCat, fEq_int, fNe_int, fEq_bl, fNe_bl, fEq_pair, fNe_pair, List.map, List.replicate, List.length_cons, List.length_nil, List.set_cons_zero, List.set_cons_succ, List.getElem?_cons_zero, List.getElem?_cons_succ, List.cons_append, List.nil_append, at_0, at_1, at_2, at_3, at_4, at_5, at_6, ix_0, ix_1, ix_2, put_same, put_put, decide_eq_true_eq, Bool.not_eq_true', decide_eq_false_iff_not, ite_not, ite_true, ite_false, if_true, if_false, Bool.false_eq_true, ↓reduceIte, reduceIte, Nat.reduceAdd, Nat.reduceSub, Int.reduceToNat, Nat.reduceLeDiff, not_false_eq_true, true_and, and_true, ne_eq, Int.reduceEq, Nat.zero_add, Bool.not_true, Bool.not_false, reduceCtorEq, nc0, nc1, nc2, nc3, nc4, nc5, fIx_ref put_same, fLen_ref put_same, ↓D3.lc3.eq_1, fInt, fTuple, fList, fNeS_s, fEqS_s, ↓D3.gstar3.eq_1, fInK_s, fNinK_s, fLenS_s, ↓D3.slcT3.eq_1, fCatT_t, dnew3]))
    rw [fNe_oQ]
    (refine laterP_in ?_; repeat ((first | with_reducible refine laterP_i ?_ | with_reducible refine later_i ?_); try simp -implicitDefEqProofs -dsimp only [↓D3.seq3_stop, ↓D3.ifS3.eq_1, ↓D3.b3.eq_1, ↓D3.op3.eq_1, ↓D3.un3.eq_1, ↓D3.v3.eq_1, ↓D3.c3.eq_1, fIx_tup, fIx_lst, at3_0, at3_1, at3_2, at3_3, at3_4, at3_5, at3_6, start3, fI0_i, fI_i, fLt, fLe, fGt, fGe, fEqI, fNeI, fMin, fMax, ↓D3.asg3.eq_1, ↓D3.name3.eq_1, ↓D3.sub3.eq_1, ↓D3.ret3.eq_1, ↓D3.retN3.eq_1, ↓D3.nx3.eq_1, ↓D3.drop3.eq_1, ↓D3.par3.eq_1, ↓D3.aug3.eq_1, ↓D3.and3.eq_1, ↓D3.or3.eq_1, ↓D3.not3.eq_1, ↓D3.andV3.eq_1, ↓D3.orV3.eq_1, ↓D3.notV3.eq_1, ↓D3.if3.eq_1, ↓D3.nil3.eq_1, ↓D3.cons3.eq_1, ↓D3.tup3.eq_1, ↓D3.lst3.eq_1, ↓D3.lstM3.eq_1, ↓D3.gtup3.eq_1, ↓D3.gcons3.eq_1, ↓D3.gnil3.eq_1, ↓D3.gunl3.eq_1, ↓D3.bits3.eq_1, ↓D3.neg3.eq_1, ↓D3.chain3.eq_1, fIsi_int_int, fIsi_int_bool, fIsi_int_tuple, fIsi_int_str, fIsi_int_list, fIsi_bl_int, fIsi_bl_bool, fIsi_bl_tuple, fIsi_bl_str, fIsi_bl_list, fIsi_non_int, fIsi_non_bool, fIsi_non_tuple, fIsi_non_str, fIsi_non_list, fIsi_str_int, fIsi_str_bool, fIsi_str_tuple, fIsi_str_str, fIsi_str_list, fIsi_tup_int, fIsi_tup_bool, fIsi_tup_tuple, fIsi_tup_str, fIsi_tup_list, fIsi_lst_int, fIsi_lst_bool, fIsi_lst_tuple, fIsi_lst_str, fIsi_lst_list, fLen_lst, fLen_tup, fAbs, ↓D3.call3_k, ↓D3.kont_app, ↓D3.isN3.eq_1, ↓D3.notN3.eq_1, dIsN_non, dIsN_int, dIsN_bl, dIsN_str, dIsN_tup, dIsN_lst, ↓D3.slc3.eq_1, ↓D3.part3.eq_1, ↓D3.noPart3.eq_1, ↓D3.ilst3.eq_1, ↓D3.itup3.eq_1, ↓D3.irng1.eq_1, ↓D3.irng2.eq_1, ↓D3.for3.eq_1, fCat, fEq_int, fNe_int, fEq_bl, fNe_bl, fEq_pair, fNe_pair, List.map, List.replicate, List.length_cons, List.length_nil, List.set_cons_zero, List.set_cons_succ, List.getElem?_cons_zero, List.getElem?_cons_succ, List.cons_append, List.nil_append, at_0, at_1, at_2, at_3, at_4, at_5, at_6, ix_0, ix_1, ix_2, put_same, put_put, decide_eq_true_eq, Bool.not_eq_true', decide_eq_false_iff_not, ite_not, ite_true, ite_false, if_true, if_false, Bool.false_eq_true, ↓reduceIte, reduceIte, Nat.reduceAdd, Nat.reduceSub, Int.reduceToNat, Nat.reduceLeDiff, not_false_eq_true, true_and, and_true, ne_eq, Int.reduceEq, Nat.zero_add, Bool.not_true, Bool.not_false, reduceCtorEq, nc0, nc1, nc2, nc3, nc4, nc5, fIx_ref put_same, fLen_ref put_same, ↓D3.lc3.eq_1, fInt, fTuple, fList, fNeS_s, fEqS_s, ↓D3.gstar3.eq_1, fInK_s, fNinK_s, fLenS_s, ↓D3.slcT3.eq_1, fCatT_t, dnew3]))
    exact hnx' _ _ ⟨fun d hd => hds d (List.mem_cons_of_mem _ hd), _, _, _, _, rfl, d7.put nc⟩
  · rintro ρ m7 ⟨_, x6, x7, x8, x9, rfl, d7⟩
    try simp -implicitDefEqProofs -dsimp only [↓D3.seq3_stop, ↓D3.ifS3.eq_1, ↓D3.b3.eq_1, ↓D3.op3.eq_1, ↓D3.un3.eq_1, ↓D3.v3.eq_1, ↓D3.c3.eq_1, fIx_tup, fIx_lst, at3_0, at3_1, at3_2, at3_3, at3_4, at3_5, at3_6, start3, fI0_i, fI_i, fLt, fLe, fGt, fGe, fEqI, fNeI, fMin, fMax, ↓D3.asg3.eq_1, ↓D3.name3.eq_1, ↓D3.sub3.eq_1, ↓D3.ret3.eq_1, ↓D3.retN3.eq_1, ↓D3.nx3.eq_1, ↓D3.drop3.eq_1, ↓D3.par3.eq_1, ↓D3.aug3.eq_1, ↓D3.and3.eq_1, ↓D3.or3.eq_1, ↓D3.not3.eq_1, ↓D3.andV3.eq_1, ↓D3.orV3.eq_1, ↓D3.notV3.eq_1, ↓D3.if3.eq_1, ↓D3.nil3.eq_1, ↓D3.cons3.eq_1, ↓D3.tup3.eq_1, ↓D3.lst3.eq_1, ↓D3.lstM3.eq_1, ↓D3.gtup3.eq_1, ↓D3.gcons3.eq_1, ↓D3.gnil3.eq_1, ↓D3.gunl3.eq_1, ↓D3.bits3.eq_1, ↓D3.neg3.eq_1, ↓D3.chain3.eq_1, fIsi_int_int, fIsi_int_bool, fIsi_int_tuple, fIsi_int_str, fIsi_int_list, fIsi_bl_int, fIsi_bl_bool, fIsi_bl_tuple, fIsi_bl_str, fIsi_bl_list, fIsi_non_int, fIsi_non_bool, fIsi_non_tuple, fIsi_non_str, fIsi_non_list, fIsi_str_int, fIsi_str_bool, fIsi_str_tuple, fIsi_str_str, fIsi_str_list, fIsi_tup_int, fIsi_tup_bool, fIsi_tup_tuple, fIsi_tup_str, fIsi_tup_list, fIsi_lst_int, fIsi_lst_bool, fIsi_lst_tuple, fIsi_lst_str, fIsi_lst_list, fLen_lst, fLen_tup, fAbs, ↓D3.call3_k, ↓D3.kont_app, ↓D3.isN3.eq_1, ↓D3.notN3.eq_1, dIsN_non, dIsN_int, dIsN_bl, dIsN_str, dIsN_tup, dIsN_lst, ↓D3.slc3.eq_1, ↓D3.part3.eq_1, ↓D3.noPart3.eq_1, ↓D3.ilst3.eq_1, ↓D3.itup3.eq_1, ↓D3.irng1.eq_1, ↓D3.irng2.eq_1, ↓D3.for3.eq_1, fCat, fEq_int, fNe_int, fEq_bl, fNe_bl, fEq_pair, fNe_pair, List.map, List.replicate, List.length_cons, List.length_nil, List.set_cons_zero, List.set_cons_succ, List.getElem?_cons_zero, List.getElem?_cons_succ, List.cons_append, List.nil_append, at_0, at_1, at_2, at_3, at_4, at_5, at_6, ix_0, ix_1, ix_2, put_same, put_put, decide_eq_true_eq, Bool.not_eq_true', decide_eq_false_iff_not, ite_not, ite_true, ite_false, if_true, if_false, Bool.false_eq_true, ↓reduceIte, reduceIte, Nat.reduceAdd, Nat.reduceSub, Int.reduceToNat, Nat.reduceLeDiff, not_false_eq_true, true_and, and_true, ne_eq, Int.reduceEq, Nat.zero_add, Bool.not_true, Bool.not_false, reduceCtorEq, nc0, nc1, nc2, nc3, nc4, nc5, fIx_ref put_same, fLen_ref put_same, ↓D3.lc3.eq_1, fInt, fTuple, fList, fNeS_s, fEqS_s, ↓D3.gstar3.eq_1, fInK_s, fNinK_s, fLenS_s, ↓D3.slcT3.eq_1, fCatT_t, dnew3]
    refine later_i ?_
    try simp -implicitDefEqProofs -dsimp only [↓D3.seq3_stop, ↓D3.ifS3.eq_1, ↓D3.b3.eq_1, ↓D3.op3.eq_1, ↓D3.un3.eq_1, ↓D3.v3.eq_1, ↓D3.c3.eq_1, fIx_tup, fIx_lst, at3_0, at3_1, at3_2, at3_3, at3_4, at3_5, at3_6, start3, fI0_i, fI_i, fLt, fLe, fGt, fGe, fEqI, fNeI, fMin, fMax, ↓D3.asg3.eq_1, ↓D3.name3.eq_1, ↓D3.sub3.eq_1, ↓D3.ret3.eq_1, ↓D3.retN3.eq_1, ↓D3.nx3.eq_1, ↓D3.drop3.eq_1, ↓D3.par3.eq_1, ↓D3.aug3.eq_1, ↓D3.and3.eq_1, ↓D3.or3.eq_1, ↓D3.not3.eq_1, ↓D3.andV3.eq_1, ↓D3.orV3.eq_1, ↓D3.notV3.eq_1, ↓D3.if3.eq_1, ↓D3.nil3.eq_1, ↓D3.cons3.eq_1, ↓D3.tup3.eq_1, ↓D3.lst3.eq_1, ↓D3.lstM3.eq_1, ↓D3.gtup3.eq_1, ↓D3.gcons3.eq_1, ↓D3.gnil3.eq_1, ↓D3.gunl3.eq_1, ↓D3.bits3.eq_1, ↓D3.neg3.eq_1, ↓D3.chain3.eq_1, fIsi_int_int, fIsi_int_bool, fIsi_int_tuple, fIsi_int_str, fIsi_int_list, fIsi_bl_int, fIsi_bl_bool, fIsi_bl_tuple, fIsi_bl_str, fIsi_bl_list, fIsi_non_int, fIsi_non_bool, fIsi_non_tuple, fIsi_non_str, fIsi_non_list, fIsi_str_int, fIsi_str_bool, fIsi_str_tuple, fIsi_str_str, fIsi_str_list, fIsi_tup_int, fIsi_tup_bool, fIsi_tup_tuple, fIsi_tup_str, fIsi_tup_list, fIsi_lst_int, fIsi_lst_bool, fIsi_lst_tuple, fIsi_lst_str, fIsi_lst_list, fLen_lst, fLen_tup, fAbs, ↓D3.call3_k, ↓D3.kont_app, ↓D3.isN3.eq_1, ↓D3.notN3.eq_1, dIsN_non, dIsN_int, dIsN_bl, dIsN_str, dIsN_tup, dIsN_lst, ↓D3.slc3.eq_1, ↓D3.part3.eq_1, ↓D3.noPart3.eq_1, ↓D3.ilst3.eq_1, ↓D3.itup3.eq_1, ↓D3.irng1.eq_1, ↓D3.irng2.eq_1, ↓D3.for3.eq_1, fCat, fEq_int, fNe_int, fEq_bl, fNe_bl, fEq_pair, fNe_pair, List.map, List.replicate, List.length_cons, List.length_nil, List.set_cons_zero, List.set_cons_succ, List.getElem?_cons_zero, List.getElem?_cons_succ, List.cons_append, List.nil_append, at_0, at_1, at_2, at_3, at_4, at_5, at_6, ix_0, ix_1, ix_2, put_same, put_put, decide_eq_true_eq, Bool.not_eq_true', decide_eq_false_iff_not, ite_not, ite_true, ite_false, if_true, if_false, Bool.false_eq_true, ↓reduceIte, reduceIte, Nat.reduceAdd, Nat.reduceSub, Int.reduceToNat, Nat.reduceLeDiff, not_false_eq_true, true_and, and_true, ne_eq, Int.reduceEq, Nat.zero_add, Bool.not_true, Bool.not_false, reduceCtorEq, nc0, nc1, nc2, nc3, nc4, nc5, fIx_ref put_same, fLen_ref put_same, ↓D3.lc3.eq_1, fInt, fTuple, fList, fNeS_s, fEqS_s, ↓D3.gstar3.eq_1, fInK_s, fNinK_s, fLenS_s, ↓D3.slcT3.eq_1, fCatT_t, dnew3]
    have pmi : Pl 140 (.str "minus") := ⟨by decide +kernel, by decide +kernel⟩
    have kmi : (Str.ofString "minus") ∈ K2 := by simp [K2]
    refine seq3_if (fun _ => False) (fun m' => m' = m7) (fun P h1 h2 => ?_) (fun m' h => h.elim) (fun m8 e8 => ?_)
    · try simp -implicitDefEqProofs -dsimp only [seq3, ↓D3.ifS3.eq_1, ↓D3.b3.eq_1, ↓D3.op3.eq_1, ↓D3.un3.eq_1, ↓D3.v3.eq_1, ↓D3.c3.eq_1, fIx_tup, fIx_lst, at3_0, at3_1, at3_2, at3_3, at3_4, at3_5, at3_6, start3, fI0_i, fI_i, fLt, fLe, fGt, fGe, fEqI, fNeI, fMin, fMax, ↓D3.asg3.eq_1, ↓D3.name3.eq_1, ↓D3.sub3.eq_1, ↓D3.ret3.eq_1, ↓D3.retN3.eq_1, ↓D3.nx3.eq_1, ↓D3.drop3.eq_1, ↓D3.par3.eq_1, ↓D3.aug3.eq_1, ↓D3.and3.eq_1, ↓D3.or3.eq_1, ↓D3.not3.eq_1, ↓D3.andV3.eq_1, ↓D3.orV3.eq_1, ↓D3.notV3.eq_1, ↓D3.if3.eq_1, ↓D3.nil3.eq_1, ↓D3.cons3.eq_1, ↓D3.tup3.eq_1, ↓D3.lst3.eq_1, ↓D3.lstM3.eq_1, ↓D3.gtup3.eq_1, ↓D3.gcons3.eq_1, ↓D3.gnil3.eq_1, ↓D3.gunl3.eq_1, ↓D3.bits3.eq_1, ↓D3.neg3.eq_1, ↓D3.chain3.eq_1, fIsi_int_int, fIsi_int_bool, fIsi_int_tuple, fIsi_int_str, fIsi_int_list, fIsi_bl_int, fIsi_bl_bool, fIsi_bl_tuple, fIsi_bl_str, fIsi_bl_list, fIsi_non_int, fIsi_non_bool, fIsi_non_tuple, fIsi_non_str, fIsi_non_list, fIsi_str_int, fIsi_str_bool, fIsi_str_tuple, fIsi_str_str, fIsi_str_list, fIsi_tup_int, fIsi_tup_bool, fIsi_tup_tuple, fIsi_tup_str, fIsi_tup_list, fIsi_lst_int, fIsi_lst_bool, fIsi_lst_tuple, fIsi_lst_str, fIsi_lst_list, fLen_lst, fLen_tup, fAbs, ↓D3.call3_k, ↓D3.kont_app, ↓D3.isN3.eq_1, ↓D3.notN3.eq_1, dIsN_non, dIsN_int, dIsN_bl, dIsN_str, dIsN_tup, dIsN_lst, ↓D3.slc3.eq_1, ↓D3.part3.eq_1, ↓D3.noPart3.eq_1, ↓D3.ilst3.eq_1, ↓D3.itup3.eq_1, ↓D3.irng1.eq_1, ↓D3.irng2.eq_1, ↓D3.for3.eq_1, fCat, fEq_int, fNe_int, fEq_bl, fNe_bl, fEq_pair, fNe_pair, List.map, List.replicate, List.length_cons, List.length_nil, List.set_cons_zero, List.set_cons_succ, List.getElem?_cons_zero, List.getElem?_cons_succ, List.cons_append, List.nil_append, at_0, at_1, at_2, at_3, at_4, at_5, at_6, ix_0, ix_1, ix_2, put_same, put_put, decide_eq_true_eq, Bool.not_eq_true', decide_eq_false_iff_not, ite_not, ite_true, ite_false, if_true, if_false, Bool.false_eq_true, ↓reduceIte, reduceIte, Nat.reduceAdd, Nat.reduceSub, Int.reduceToNat, Nat.reduceLeDiff, not_false_eq_true, true_and, and_true, ne_eq, Int.reduceEq, Nat.zero_add, Bool.not_true, Bool.not_false, reduceCtorEq, nc0, nc1, nc2, nc3, nc4, nc5, fIx_ref put_same, fLen_ref put_same, ↓D3.lc3.eq_1, fInt, fTuple, fList, fNeS_s, fEqS_s, ↓D3.gstar3.eq_1, fInK_s, fNinK_s, fLenS_s, ↓D3.slcT3.eq_1, fCatT_t, dnew3]
      refine ⟨_, rfl, ⟨Pl.le (by decide) _ pmi, l9, l9, trivial⟩, by simp only [dp, dps]; omega, ?_⟩
      try simp -implicitDefEqProofs -dsimp only [seq3, ↓D3.ifS3.eq_1, ↓D3.b3.eq_1, ↓D3.op3.eq_1, ↓D3.un3.eq_1, ↓D3.v3.eq_1, ↓D3.c3.eq_1, fIx_tup, fIx_lst, at3_0, at3_1, at3_2, at3_3, at3_4, at3_5, at3_6, start3, fI0_i, fI_i, fLt, fLe, fGt, fGe, fEqI, fNeI, fMin, fMax, ↓D3.asg3.eq_1, ↓D3.name3.eq_1, ↓D3.sub3.eq_1, ↓D3.ret3.eq_1, ↓D3.retN3.eq_1, ↓D3.nx3.eq_1, ↓D3.drop3.eq_1, ↓D3.par3.eq_1, ↓D3.aug3.eq_1, ↓D3.and3.eq_1, ↓D3.or3.eq_1, ↓D3.not3.eq_1, ↓D3.andV3.eq_1, ↓D3.orV3.eq_1, ↓D3.notV3.eq_1, ↓D3.if3.eq_1, ↓D3.nil3.eq_1, ↓D3.cons3.eq_1, ↓D3.tup3.eq_1, ↓D3.lst3.eq_1, ↓D3.lstM3.eq_1, ↓D3.gtup3.eq_1, ↓D3.gcons3.eq_1, ↓D3.gnil3.eq_1, ↓D3.gunl3.eq_1, ↓D3.bits3.eq_1, ↓D3.neg3.eq_1, ↓D3.chain3.eq_1, fIsi_int_int, fIsi_int_bool, fIsi_int_tuple, fIsi_int_str, fIsi_int_list, fIsi_bl_int, fIsi_bl_bool, fIsi_bl_tuple, fIsi_bl_str, fIsi_bl_list, fIsi_non_int, fIsi_non_bool, fIsi_non_tuple, fIsi_non_str, fIsi_non_list, fIsi_str_int, fIsi_str_bool, fIsi_str_tuple, fIsi_str_str, fIsi_str_list, fIsi_tup_int, fIsi_tup_bool, fIsi_tup_tuple, fIsi_tup_str, fIsi_tup_list, fIsi_lst_int, fIsi_lst_bool, fIsi_lst_tuple, fIsi_lst_str, fIsi_lst_list, fLen_lst, fLen_tup, fAbs, ↓D3.call3_k, ↓D3.kont_app, ↓D3.isN3.eq_1, ↓D3.notN3.eq_1, dIsN_non, dIsN_int, dIsN_bl, dIsN_str, dIsN_tup, dIsN_lst, ↓D3.slc3.eq_1, ↓D3.part3.eq_1, ↓D3.noPart3.eq_1, ↓D3.ilst3.eq_1, ↓D3.itup3.eq_1, ↓D3.irng1.eq_1, ↓D3.irng2.eq_1, ↓D3.for3.eq_1, fCat, fEq_int, fNe_int, fEq_bl, fNe_bl, fEq_pair, fNe_pair, List.map, List.replicate, List.length_cons, List.length_nil, List.set_cons_zero, List.set_cons_succ, List.getElem?_cons_zero, List.getElem?_cons_succ, List.cons_append, List.nil_append, at_0, at_1, at_2, at_3, at_4, at_5, at_6, ix_0, ix_1, ix_2, put_same, put_put, decide_eq_true_eq, Bool.not_eq_true', decide_eq_false_iff_not, ite_not, ite_true, ite_false, if_true, if_false, Bool.false_eq_true, ↓reduceIte, reduceIte, Nat.reduceAdd, Nat.reduceSub, Int.reduceToNat, Nat.reduceLeDiff, not_false_eq_true, true_and, and_true, ne_eq, Int.reduceEq, Nat.zero_add, Bool.not_true, Bool.not_false, reduceCtorEq, nc0, nc1, nc2, nc3, nc4, nc5, fIx_ref put_same, fLen_ref put_same, ↓D3.lc3.eq_1, fInt, fTuple, fList, fNeS_s, fEqS_s, ↓D3.gstar3.eq_1, fInK_s, fNinK_s, fLenS_s, ↓D3.slcT3.eq_1, fCatT_t, dnew3]
      refine iteB (fun _ => ?_) (fun _ => h2 _ rfl)
      refine ⟨_, op2 "minus" v v, rfl, (Gv.two kmi gv gv).le (by decide), ⟨Pl.le (by decide) _ pmi, l9, l9, trivial⟩, by simp only [dp, dps]; omega, ?_⟩
      cases v with
      | none =>
        rw [op2_none_l]
        try simp -implicitDefEqProofs -dsimp only [seq3, ↓D3.ifS3.eq_1, ↓D3.b3.eq_1, ↓D3.op3.eq_1, ↓D3.un3.eq_1, ↓D3.v3.eq_1, ↓D3.c3.eq_1, fIx_tup, fIx_lst, at3_0, at3_1, at3_2, at3_3, at3_4, at3_5, at3_6, start3, fI0_i, fI_i, fLt, fLe, fGt, fGe, fEqI, fNeI, fMin, fMax, ↓D3.asg3.eq_1, ↓D3.name3.eq_1, ↓D3.sub3.eq_1, ↓D3.ret3.eq_1, ↓D3.retN3.eq_1, ↓D3.nx3.eq_1, ↓D3.drop3.eq_1, ↓D3.par3.eq_1, ↓D3.aug3.eq_1, ↓D3.and3.eq_1, ↓D3.or3.eq_1, ↓D3.not3.eq_1, ↓D3.andV3.eq_1, ↓D3.orV3.eq_1, ↓D3.notV3.eq_1, ↓D3.if3.eq_1, ↓D3.nil3.eq_1, ↓D3.cons3.eq_1, ↓D3.tup3.eq_1, ↓D3.lst3.eq_1, ↓D3.lstM3.eq_1, ↓D3.gtup3.eq_1, ↓D3.gcons3.eq_1, ↓D3.gnil3.eq_1, ↓D3.gunl3.eq_1, ↓D3.bits3.eq_1, ↓D3.neg3.eq_1, ↓D3.chain3.eq_1, fIsi_int_int, fIsi_int_bool, fIsi_int_tuple, fIsi_int_str, fIsi_int_list, fIsi_bl_int, fIsi_bl_bool, fIsi_bl_tuple, fIsi_bl_str, fIsi_bl_list, fIsi_non_int, fIsi_non_bool, fIsi_non_tuple, fIsi_non_str, fIsi_non_list, fIsi_str_int, fIsi_str_bool, fIsi_str_tuple, fIsi_str_str, fIsi_str_list, fIsi_tup_int, fIsi_tup_bool, fIsi_tup_tuple, fIsi_tup_str, fIsi_tup_list, fIsi_lst_int, fIsi_lst_bool, fIsi_lst_tuple, fIsi_lst_str, fIsi_lst_list, fLen_lst, fLen_tup, fAbs, ↓D3.call3_k, ↓D3.kont_app, ↓D3.isN3.eq_1, ↓D3.notN3.eq_1, dIsN_non, dIsN_int, dIsN_bl, dIsN_str, dIsN_tup, dIsN_lst, ↓D3.slc3.eq_1, ↓D3.part3.eq_1, ↓D3.noPart3.eq_1, ↓D3.ilst3.eq_1, ↓D3.itup3.eq_1, ↓D3.irng1.eq_1, ↓D3.irng2.eq_1, ↓D3.for3.eq_1, fCat, fEq_int, fNe_int, fEq_bl, fNe_bl, fEq_pair, fNe_pair, List.map, List.replicate, List.length_cons, List.length_nil, List.set_cons_zero, List.set_cons_succ, List.getElem?_cons_zero, List.getElem?_cons_succ, List.cons_append, List.nil_append, at_0, at_1, at_2, at_3, at_4, at_5, at_6, ix_0, ix_1, ix_2, put_same, put_put, decide_eq_true_eq, Bool.not_eq_true', decide_eq_false_iff_not, ite_not, ite_true, ite_false, if_true, if_false, Bool.false_eq_true, ↓reduceIte, reduceIte, Nat.reduceAdd, Nat.reduceSub, Int.reduceToNat, Nat.reduceLeDiff, not_false_eq_true, true_and, and_true, ne_eq, Int.reduceEq, Nat.zero_add, Bool.not_true, Bool.not_false, reduceCtorEq, nc0, nc1, nc2, nc3, nc4, nc5, fIx_ref put_same, fLen_ref put_same, ↓D3.lc3.eq_1, fInt, fTuple, fList, fNeS_s, fEqS_s, ↓D3.gstar3.eq_1, fInK_s, fNinK_s, fLenS_s, ↓D3.slcT3.eq_1, fCatT_t, dnew3, oQ]
        rw [show fNe .non .non m7 = fNe (oQ none) (oQ none) m7 from rfl, fNe_oQ]
        exact h2 _ rfl
      | some r =>
        have e0 : op2 "minus" (some r) (some r) = some 0 := by
          unfold op2
          simp only
          rw [if_neg (by decide +kernel)]
          first | rw [if_pos rfl] | rw [if_pos trivial]
          rw [Rat.sub_self]
        rw [e0]
        have ez : D.tup [.int 0, .int 1] = oQ (some 0) := rfl
        rw [show oQ (some r) = .tup [.int r.num, .int ((r.den : Nat) : Int)] from rfl]
        try simp -implicitDefEqProofs -dsimp only [seq3, ↓D3.ifS3.eq_1, ↓D3.b3.eq_1, ↓D3.op3.eq_1, ↓D3.un3.eq_1, ↓D3.v3.eq_1, ↓D3.c3.eq_1, fIx_tup, fIx_lst, at3_0, at3_1, at3_2, at3_3, at3_4, at3_5, at3_6, start3, fI0_i, fI_i, fLt, fLe, fGt, fGe, fEqI, fNeI, fMin, fMax, ↓D3.asg3.eq_1, ↓D3.name3.eq_1, ↓D3.sub3.eq_1, ↓D3.ret3.eq_1, ↓D3.retN3.eq_1, ↓D3.nx3.eq_1, ↓D3.drop3.eq_1, ↓D3.par3.eq_1, ↓D3.aug3.eq_1, ↓D3.and3.eq_1, ↓D3.or3.eq_1, ↓D3.not3.eq_1, ↓D3.andV3.eq_1, ↓D3.orV3.eq_1, ↓D3.notV3.eq_1, ↓D3.if3.eq_1, ↓D3.nil3.eq_1, ↓D3.cons3.eq_1, ↓D3.tup3.eq_1, ↓D3.lst3.eq_1, ↓D3.lstM3.eq_1, ↓D3.gtup3.eq_1, ↓D3.gcons3.eq_1, ↓D3.gnil3.eq_1, ↓D3.gunl3.eq_1, ↓D3.bits3.eq_1, ↓D3.neg3.eq_1, ↓D3.chain3.eq_1, fIsi_int_int, fIsi_int_bool, fIsi_int_tuple, fIsi_int_str, fIsi_int_list, fIsi_bl_int, fIsi_bl_bool, fIsi_bl_tuple, fIsi_bl_str, fIsi_bl_list, fIsi_non_int, fIsi_non_bool, fIsi_non_tuple, fIsi_non_str, fIsi_non_list, fIsi_str_int, fIsi_str_bool, fIsi_str_tuple, fIsi_str_str, fIsi_str_list, fIsi_tup_int, fIsi_tup_bool, fIsi_tup_tuple, fIsi_tup_str, fIsi_tup_list, fIsi_lst_int, fIsi_lst_bool, fIsi_lst_tuple, fIsi_lst_str, fIsi_lst_list, fLen_lst, fLen_tup, fAbs, ↓D3.call3_k, ↓D3.kont_app, ↓D3.isN3.eq_1, ↓D3.notN3.eq_1, dIsN_non, dIsN_int, dIsN_bl, dIsN_str, dIsN_tup, dIsN_lst, ↓D3.slc3.eq_1, ↓D3.part3.eq_1, ↓D3.noPart3.eq_1, ↓D3.ilst3.eq_1, ↓D3.itup3.eq_1, ↓D3.irng1.eq_1, ↓D3.irng2.eq_1, ↓D3.for3.eq_1, fCat, fEq_int, fNe_int, fEq_bl, fNe_bl, fEq_pair, fNe_pair, List.map, List.replicate, List.length_cons, List.length_nil, List.set_cons_zero, List.set_cons_succ, List.getElem?_cons_zero, List.getElem?_cons_succ, List.cons_append, List.nil_append, at_0, at_1, at_2, at_3, at_4, at_5, at_6, ix_0, ix_1, ix_2, put_same, put_put, decide_eq_true_eq, Bool.not_eq_true', decide_eq_false_iff_not, ite_not, ite_true, ite_false, if_true, if_false, Bool.false_eq_true, ↓reduceIte, reduceIte, Nat.reduceAdd, Nat.reduceSub, Int.reduceToNat, Nat.reduceLeDiff, not_false_eq_true, true_and, and_true, ne_eq, Int.reduceEq, Nat.zero_add, Bool.not_true, Bool.not_false, reduceCtorEq, nc0, nc1, nc2, nc3, nc4, nc5, fIx_ref put_same, fLen_ref put_same, ↓D3.lc3.eq_1, fInt, fTuple, fList, fNeS_s, fEqS_s, ↓D3.gstar3.eq_1, fInK_s, fNinK_s, fLenS_s, ↓D3.slcT3.eq_1, fCatT_t, dnew3]
        rw [ez, fNe_oQ]
        exact h2 _ rfl
    · subst e8
      (refine laterP_in ?_; repeat ((first | with_reducible refine laterP_i ?_ | with_reducible refine later_i ?_); try simp -implicitDefEqProofs -dsimp only [↓D3.seq3_stop, ↓D3.ifS3.eq_1, ↓D3.b3.eq_1, ↓D3.op3.eq_1, ↓D3.un3.eq_1, ↓D3.v3.eq_1, ↓D3.c3.eq_1, fIx_tup, fIx_lst, at3_0, at3_1, at3_2, at3_3, at3_4, at3_5, at3_6, start3, fI0_i, fI_i, fLt, fLe, fGt, fGe, fEqI, fNeI, fMin, fMax, ↓D3.asg3.eq_1, ↓D3.name3.eq_1, ↓D3.sub3.eq_1, ↓D3.ret3.eq_1, ↓D3.retN3.eq_1, ↓D3.nx3.eq_1, ↓D3.drop3.eq_1, ↓D3.par3.eq_1, ↓D3.aug3.eq_1, ↓D3.and3.eq_1, ↓D3.or3.eq_1, ↓D3.not3.eq_1, ↓D3.andV3.eq_1, ↓D3.orV3.eq_1, ↓D3.notV3.eq_1, ↓D3.if3.eq_1, ↓D3.nil3.eq_1, ↓D3.cons3.eq_1, ↓D3.tup3.eq_1, ↓D3.lst3.eq_1, ↓D3.lstM3.eq_1, ↓D3.gtup3.eq_1, ↓D3.gcons3.eq_1, ↓D3.gnil3.eq_1, ↓D3.gunl3.eq_1, ↓D3.bits3.eq_1, ↓D3.neg3.eq_1, ↓D3.chain3.eq_1, fIsi_int_int, fIsi_int_bool, fIsi_int_tuple, fIsi_int_str, fIsi_int_list, fIsi_bl_int, fIsi_bl_bool, fIsi_bl_tuple, fIsi_bl_str, fIsi_bl_list, fIsi_non_int, fIsi_non_bool, fIsi_non_tuple, fIsi_non_str, fIsi_non_list, fIsi_str_int, fIsi_str_bool, fIsi_str_tuple, fIsi_str_str, fIsi_str_list, fIsi_tup_int, fIsi_tup_bool, fIsi_tup_tuple, fIsi_tup_str, fIsi_tup_list, fIsi_lst_int, fIsi_lst_bool, fIsi_lst_tuple, fIsi_lst_str, fIsi_lst_list, fLen_lst, fLen_tup, fAbs, ↓D3.call3_k, ↓D3.kont_app, ↓D3.isN3.eq_1, ↓D3.notN3.eq_1, dIsN_non, dIsN_int, dIsN_bl, dIsN_str, dIsN_tup, dIsN_lst, ↓D3.slc3.eq_1, ↓D3.part3.eq_1, ↓D3.noPart3.eq_1, ↓D3.ilst3.eq_1, ↓D3.itup3.eq_1, ↓D3.irng1.eq_1, ↓D3.irng2.eq_1, ↓D3.for3.eq_1, fCat, fEq_int, fNe_int, fEq_bl, fNe_bl, fEq_pair, fNe_pair, List.map, List.replicate, List.length_cons, List.length_nil, List.set_cons_zero, List.set_cons_succ, List.getElem?_cons_zero, List.getElem?_cons_succ, List.cons_append, List.nil_append, at_0, at_1, at_2, at_3, at_4, at_5, at_6, ix_0, ix_1, ix_2, put_same, put_put, decide_eq_true_eq, Bool.not_eq_true', decide_eq_false_iff_not, ite_not, ite_true, ite_false, if_true, if_false, Bool.false_eq_true, ↓reduceIte, reduceIte, Nat.reduceAdd, Nat.reduceSub, Int.reduceToNat, Nat.reduceLeDiff, not_false_eq_true, true_and, and_true, ne_eq, Int.reduceEq, Nat.zero_add, Bool.not_true, Bool.not_false, reduceCtorEq, nc0, nc1, nc2, nc3, nc4, nc5, fIx_ref put_same, fLen_ref put_same, ↓D3.lc3.eq_1, fInt, fTuple, fList, fNeS_s, fEqS_s, ↓D3.gstar3.eq_1, fInK_s, fNinK_s, fLenS_s, ↓D3.slcT3.eq_1, fCatT_t, dnew3]))
      have pnm : Pl 140 (.str "name") := ⟨by decide +kernel, by decide +kernel⟩
      have px : Pl 140 (.str "x") := ⟨by decide +kernel, by decide +kernel⟩
      have ppi : Pl 140 (.str "pi") := ⟨by decide +kernel, by decide +kernel⟩
      have prt : Pl 140 (.str "root") := ⟨by decide +kernel, by decide +kernel⟩
      have pnu : Pl 140 (.str "number") := ⟨by decide +kernel, by decide +kernel⟩
      have plm : Pl 140 (.str "limit") := ⟨by decide +kernel, by decide +kernel⟩
      have pe : Pl 140 (.str "e") := ⟨by decide +kernel, by decide +kernel⟩
      have pco : Pl 140 (.str "cosine") := ⟨by decide +kernel, by decide +kernel⟩
      have pov : Pl 140 (.str "over") := ⟨by decide +kernel, by decide +kernel⟩
      have i0 : Pl 140 (.int 0) := pl_sm (by decide)
      have i1 : Pl 140 (.int 1) := pl_sm (by decide)
      have i2 : Pl 140 (.int 2) := pl_sm (by decide)
      have i4 : Pl 140 (.int 4) := pl_sm (by decide)
      refine sp_pick_i 999960000 (d7.le (by decide)) (by decide) (by decide) fun r m9 r0 r1 o9 d9 => ?_
      (refine laterP_in ?_; repeat ((first | with_reducible refine laterP_i ?_ | with_reducible refine later_i ?_); try simp -implicitDefEqProofs -dsimp only [↓D3.seq3_stop, ↓D3.ifS3.eq_1, ↓D3.b3.eq_1, ↓D3.op3.eq_1, ↓D3.un3.eq_1, ↓D3.v3.eq_1, ↓D3.c3.eq_1, fIx_tup, fIx_lst, at3_0, at3_1, at3_2, at3_3, at3_4, at3_5, at3_6, start3, fI0_i, fI_i, fLt, fLe, fGt, fGe, fEqI, fNeI, fMin, fMax, ↓D3.asg3.eq_1, ↓D3.name3.eq_1, ↓D3.sub3.eq_1, ↓D3.ret3.eq_1, ↓D3.retN3.eq_1, ↓D3.nx3.eq_1, ↓D3.drop3.eq_1, ↓D3.par3.eq_1, ↓D3.aug3.eq_1, ↓D3.and3.eq_1, ↓D3.or3.eq_1, ↓D3.not3.eq_1, ↓D3.andV3.eq_1, ↓D3.orV3.eq_1, ↓D3.notV3.eq_1, ↓D3.if3.eq_1, ↓D3.nil3.eq_1, ↓D3.cons3.eq_1, ↓D3.tup3.eq_1, ↓D3.lst3.eq_1, ↓D3.lstM3.eq_1, ↓D3.gtup3.eq_1, ↓D3.gcons3.eq_1, ↓D3.gnil3.eq_1, ↓D3.gunl3.eq_1, ↓D3.bits3.eq_1, ↓D3.neg3.eq_1, ↓D3.chain3.eq_1, fIsi_int_int, fIsi_int_bool, fIsi_int_tuple, fIsi_int_str, fIsi_int_list, fIsi_bl_int, fIsi_bl_bool, fIsi_bl_tuple, fIsi_bl_str, fIsi_bl_list, fIsi_non_int, fIsi_non_bool, fIsi_non_tuple, fIsi_non_str, fIsi_non_list, fIsi_str_int, fIsi_str_bool, fIsi_str_tuple, fIsi_str_str, fIsi_str_list, fIsi_tup_int, fIsi_tup_bool, fIsi_tup_tuple, fIsi_tup_str, fIsi_tup_list, fIsi_lst_int, fIsi_lst_bool, fIsi_lst_tuple, fIsi_lst_str, fIsi_lst_list, fLen_lst, fLen_tup, fAbs, ↓D3.call3_k, ↓D3.kont_app, ↓D3.isN3.eq_1, ↓D3.notN3.eq_1, dIsN_non, dIsN_int, dIsN_bl, dIsN_str, dIsN_tup, dIsN_lst, ↓D3.slc3.eq_1, ↓D3.part3.eq_1, ↓D3.noPart3.eq_1, ↓D3.ilst3.eq_1, ↓D3.itup3.eq_1, ↓D3.irng1.eq_1, ↓D3.irng2.eq_1, ↓D3.for3.eq_1, fCat, fEq_int, fNe_int, fEq_bl, fNe_bl, fEq_pair, fNe_pair, List.map, List.replicate, List.length_cons, List.length_nil, List.set_cons_zero, List.set_cons_succ, List.getElem?_cons_zero, List.getElem?_cons_succ, List.cons_append, List.nil_append, at_0, at_1, at_2, at_3, at_4, at_5, at_6, ix_0, ix_1, ix_2, put_same, put_put, decide_eq_true_eq, Bool.not_eq_true', decide_eq_false_iff_not, ite_not, ite_true, ite_false, if_true, if_false, Bool.false_eq_true, ↓reduceIte, reduceIte, Nat.reduceAdd, Nat.reduceSub, Int.reduceToNat, Nat.reduceLeDiff, not_false_eq_true, true_and, and_true, ne_eq, Int.reduceEq, Nat.zero_add, Bool.not_true, Bool.not_false, reduceCtorEq, nc0, nc1, nc2, nc3, nc4, nc5, fIx_ref put_same, fLen_ref put_same, ↓D3.lc3.eq_1, fInt, fTuple, fList, fNeS_s, fEqS_s, ↓D3.gstar3.eq_1, fInK_s, fNinK_s, fLenS_s, ↓D3.slcT3.eq_1, fCatT_t, dnew3]))
      refine at3_all r0 (by simpa using r1) fun z hz => ?_
      have oz : OthOk z := by
        simp only [List.mem_cons, List.not_mem_nil, or_false] at hz
        rcases hz with rfl | rfl | rfl | rfl | rfl | rfl | rfl
        · exact ⟨.other (by decide +kernel) (by decide +kernel) (by decide +kernel), ⟨pnm, px, trivial⟩, by simp [dp, dps]⟩
        · exact ⟨.other (by decide +kernel) (by decide +kernel) (by decide +kernel), ⟨ppi, trivial⟩, by simp [dp, dps]⟩
        · exact ⟨.other (by decide +kernel) (by decide +kernel) (by decide +kernel), ⟨prt, i2, ⟨pnu, ⟨i4, i1, trivial⟩, trivial⟩, trivial⟩, by simp [dp, dps]⟩
        · exact ⟨.other (by decide +kernel) (by decide +kernel) (by decide +kernel), ⟨plm, px, ⟨i0, i1, trivial⟩, ⟨i1, i1, trivial⟩, l1, trivial⟩, by simp only [dp, dps]; omega⟩
        · exact ⟨.other (by decide +kernel) (by decide +kernel) (by decide +kernel), ⟨pe, ⟨pnu, ⟨i0, i1, trivial⟩, trivial⟩, trivial⟩, by simp [dp, dps]⟩
        · exact ⟨.other (by decide +kernel) (by decide +kernel) (by decide +kernel), ⟨pco, l1, trivial⟩, by simp only [dp, dps]; omega⟩
        · refine ⟨?_, ⟨pov, l2, ⟨pmi, l2, l2, trivial⟩, trivial⟩, by simp only [dp, dps]; omega⟩
          have g := Gv.two (k := "over") (by simp [K2]) (gu.le (e' := 4) (by decide)) (Gv.two kmi gu gu)
          have e0 : op2 "over" u (op2 "minus" u u) = none := by
            cases u with
            | none => rfl
            | some r =>
              unfold op2
              simp only
              rw [if_neg (by decide +kernel)]
              first | rw [if_pos rfl] | rw [if_pos trivial]
              simp only
              rw [if_neg (by decide +kernel), if_neg (by decide +kernel), if_neg (by decide +kernel)]
              first | rw [if_pos rfl] | rw [if_pos trivial]
              rw [Rat.sub_self]
              rfl
          rw [e0] at g
          exact g
      clear hz
      (refine laterP_in ?_; repeat ((first | with_reducible refine laterP_i ?_ | with_reducible refine later_i ?_); try simp -implicitDefEqProofs -dsimp only [↓D3.seq3_stop, ↓D3.ifS3.eq_1, ↓D3.b3.eq_1, ↓D3.op3.eq_1, ↓D3.un3.eq_1, ↓D3.v3.eq_1, ↓D3.c3.eq_1, fIx_tup, fIx_lst, at3_0, at3_1, at3_2, at3_3, at3_4, at3_5, at3_6, start3, fI0_i, fI_i, fLt, fLe, fGt, fGe, fEqI, fNeI, fMin, fMax, ↓D3.asg3.eq_1, ↓D3.name3.eq_1, ↓D3.sub3.eq_1, ↓D3.ret3.eq_1, ↓D3.retN3.eq_1, ↓D3.nx3.eq_1, ↓D3.drop3.eq_1, ↓D3.par3.eq_1, ↓D3.aug3.eq_1, ↓D3.and3.eq_1, ↓D3.or3.eq_1, ↓D3.not3.eq_1, ↓D3.andV3.eq_1, ↓D3.orV3.eq_1, ↓D3.notV3.eq_1, ↓D3.if3.eq_1, ↓D3.nil3.eq_1, ↓D3.cons3.eq_1, ↓D3.tup3.eq_1, ↓D3.lst3.eq_1, ↓D3.lstM3.eq_1, ↓D3.gtup3.eq_1, ↓D3.gcons3.eq_1, ↓D3.gnil3.eq_1, ↓D3.gunl3.eq_1, ↓D3.bits3.eq_1, ↓D3.neg3.eq_1, ↓D3.chain3.eq_1, fIsi_int_int, fIsi_int_bool, fIsi_int_tuple, fIsi_int_str, fIsi_int_list, fIsi_bl_int, fIsi_bl_bool, fIsi_bl_tuple, fIsi_bl_str, fIsi_bl_list, fIsi_non_int, fIsi_non_bool, fIsi_non_tuple, fIsi_non_str, fIsi_non_list, fIsi_str_int, fIsi_str_bool, fIsi_str_tuple, fIsi_str_str, fIsi_str_list, fIsi_tup_int, fIsi_tup_bool, fIsi_tup_tuple, fIsi_tup_str, fIsi_tup_list, fIsi_lst_int, fIsi_lst_bool, fIsi_lst_tuple, fIsi_lst_str, fIsi_lst_list, fLen_lst, fLen_tup, fAbs, ↓D3.call3_k, ↓D3.kont_app, ↓D3.isN3.eq_1, ↓D3.notN3.eq_1, dIsN_non, dIsN_int, dIsN_bl, dIsN_str, dIsN_tup, dIsN_lst, ↓D3.slc3.eq_1, ↓D3.part3.eq_1, ↓D3.noPart3.eq_1, ↓D3.ilst3.eq_1, ↓D3.itup3.eq_1, ↓D3.irng1.eq_1, ↓D3.irng2.eq_1, ↓D3.for3.eq_1, fCat, fEq_int, fNe_int, fEq_bl, fNe_bl, fEq_pair, fNe_pair, List.map, List.replicate, List.length_cons, List.length_nil, List.set_cons_zero, List.set_cons_succ, List.getElem?_cons_zero, List.getElem?_cons_succ, List.cons_append, List.nil_append, at_0, at_1, at_2, at_3, at_4, at_5, at_6, ix_0, ix_1, ix_2, put_same, put_put, decide_eq_true_eq, Bool.not_eq_true', decide_eq_false_iff_not, ite_not, ite_true, ite_false, if_true, if_false, Bool.false_eq_true, ↓reduceIte, reduceIte, Nat.reduceAdd, Nat.reduceSub, Int.reduceToNat, Nat.reduceLeDiff, not_false_eq_true, true_and, and_true, ne_eq, Int.reduceEq, Nat.zero_add, Bool.not_true, Bool.not_false, reduceCtorEq, nc0, nc1, nc2, nc3, nc4, nc5, fIx_ref put_same, fLen_ref put_same, ↓D3.lc3.eq_1, fInt, fTuple, fList, fNeS_s, fEqS_s, ↓D3.gstar3.eq_1, fInK_s, fNinK_s, fLenS_s, ↓D3.slcT3.eq_1, fCatT_t, dnew3]))
      refine ⟨p, 999950000, one, z, rfl, wo, oz, d9.le (by decide), fun sp m10 g10 p10 l10 o10 d10 => ?_⟩
      have p9 : Pl 900 sp := Pl.le (by decide) _ p10
      (refine laterP_in ?_; repeat ((first | with_reducible refine laterP_i ?_ | with_reducible refine later_i ?_); try simp -implicitDefEqProofs -dsimp only [↓D3.seq3_stop, ↓D3.ifS3.eq_1, ↓D3.b3.eq_1, ↓D3.op3.eq_1, ↓D3.un3.eq_1, ↓D3.v3.eq_1, ↓D3.c3.eq_1, fIx_tup, fIx_lst, at3_0, at3_1, at3_2, at3_3, at3_4, at3_5, at3_6, start3, fI0_i, fI_i, fLt, fLe, fGt, fGe, fEqI, fNeI, fMin, fMax, ↓D3.asg3.eq_1, ↓D3.name3.eq_1, ↓D3.sub3.eq_1, ↓D3.ret3.eq_1, ↓D3.retN3.eq_1, ↓D3.nx3.eq_1, ↓D3.drop3.eq_1, ↓D3.par3.eq_1, ↓D3.aug3.eq_1, ↓D3.and3.eq_1, ↓D3.or3.eq_1, ↓D3.not3.eq_1, ↓D3.andV3.eq_1, ↓D3.orV3.eq_1, ↓D3.notV3.eq_1, ↓D3.if3.eq_1, ↓D3.nil3.eq_1, ↓D3.cons3.eq_1, ↓D3.tup3.eq_1, ↓D3.lst3.eq_1, ↓D3.lstM3.eq_1, ↓D3.gtup3.eq_1, ↓D3.gcons3.eq_1, ↓D3.gnil3.eq_1, ↓D3.gunl3.eq_1, ↓D3.bits3.eq_1, ↓D3.neg3.eq_1, ↓D3.chain3.eq_1, fIsi_int_int, fIsi_int_bool, fIsi_int_tuple, fIsi_int_str, fIsi_int_list, fIsi_bl_int, fIsi_bl_bool, fIsi_bl_tuple, fIsi_bl_str, fIsi_bl_list, fIsi_non_int, fIsi_non_bool, fIsi_non_tuple, fIsi_non_str, fIsi_non_list, fIsi_str_int, fIsi_str_bool, fIsi_str_tuple, fIsi_str_str, fIsi_str_list, fIsi_tup_int, fIsi_tup_bool, fIsi_tup_tuple, fIsi_tup_str, fIsi_tup_list, fIsi_lst_int, fIsi_lst_bool, fIsi_lst_tuple, fIsi_lst_str, fIsi_lst_list, fLen_lst, fLen_tup, fAbs, ↓D3.call3_k, ↓D3.kont_app, ↓D3.isN3.eq_1, ↓D3.notN3.eq_1, dIsN_non, dIsN_int, dIsN_bl, dIsN_str, dIsN_tup, dIsN_lst, ↓D3.slc3.eq_1, ↓D3.part3.eq_1, ↓D3.noPart3.eq_1, ↓D3.ilst3.eq_1, ↓D3.itup3.eq_1, ↓D3.irng1.eq_1, ↓D3.irng2.eq_1, ↓D3.for3.eq_1, fCat, fEq_int, fNe_int, fEq_bl, fNe_bl, fEq_pair, fNe_pair, List.map, List.replicate, List.length_cons, List.length_nil, List.set_cons_zero, List.set_cons_succ, List.getElem?_cons_zero, List.getElem?_cons_succ, List.cons_append, List.nil_append, at_0, at_1, at_2, at_3, at_4, at_5, at_6, ix_0, ix_1, ix_2, put_same, put_put, decide_eq_true_eq, Bool.not_eq_true', decide_eq_false_iff_not, ite_not, ite_true, ite_false, if_true, if_false, Bool.false_eq_true, ↓reduceIte, reduceIte, Nat.reduceAdd, Nat.reduceSub, Int.reduceToNat, Nat.reduceLeDiff, not_false_eq_true, true_and, and_true, ne_eq, Int.reduceEq, Nat.zero_add, Bool.not_true, Bool.not_false, reduceCtorEq, nc0, nc1, nc2, nc3, nc4, nc5, fIx_ref put_same, fLen_ref put_same, ↓D3.lc3.eq_1, fInt, fTuple, fList, fNeS_s, fEqS_s, ↓D3.gstar3.eq_1, fInK_s, fNinK_s, fLenS_s, ↓D3.slcT3.eq_1, fCatT_t, dnew3]))
      refine ⟨sp, rfl, p9, by omega, ?_⟩
      (refine laterP_in ?_; repeat ((first | with_reducible refine laterP_i ?_ | with_reducible refine later_i ?_); try simp -implicitDefEqProofs -dsimp only [↓D3.seq3_stop, ↓D3.ifS3.eq_1, ↓D3.b3.eq_1, ↓D3.op3.eq_1, ↓D3.un3.eq_1, ↓D3.v3.eq_1, ↓D3.c3.eq_1, fIx_tup, fIx_lst, at3_0, at3_1, at3_2, at3_3, at3_4, at3_5, at3_6, start3, fI0_i, fI_i, fLt, fLe, fGt, fGe, fEqI, fNeI, fMin, fMax, ↓D3.asg3.eq_1, ↓D3.name3.eq_1, ↓D3.sub3.eq_1, ↓D3.ret3.eq_1, ↓D3.retN3.eq_1, ↓D3.nx3.eq_1, ↓D3.drop3.eq_1, ↓D3.par3.eq_1, ↓D3.aug3.eq_1, ↓D3.and3.eq_1, ↓D3.or3.eq_1, ↓D3.not3.eq_1, ↓D3.andV3.eq_1, ↓D3.orV3.eq_1, ↓D3.notV3.eq_1, ↓D3.if3.eq_1, ↓D3.nil3.eq_1, ↓D3.cons3.eq_1, ↓D3.tup3.eq_1, ↓D3.lst3.eq_1, ↓D3.lstM3.eq_1, ↓D3.gtup3.eq_1, ↓D3.gcons3.eq_1, ↓D3.gnil3.eq_1, ↓D3.gunl3.eq_1, ↓D3.bits3.eq_1, ↓D3.neg3.eq_1, ↓D3.chain3.eq_1, fIsi_int_int, fIsi_int_bool, fIsi_int_tuple, fIsi_int_str, fIsi_int_list, fIsi_bl_int, fIsi_bl_bool, fIsi_bl_tuple, fIsi_bl_str, fIsi_bl_list, fIsi_non_int, fIsi_non_bool, fIsi_non_tuple, fIsi_non_str, fIsi_non_list, fIsi_str_int, fIsi_str_bool, fIsi_str_tuple, fIsi_str_str, fIsi_str_list, fIsi_tup_int, fIsi_tup_bool, fIsi_tup_tuple, fIsi_tup_str, fIsi_tup_list, fIsi_lst_int, fIsi_lst_bool, fIsi_lst_tuple, fIsi_lst_str, fIsi_lst_list, fLen_lst, fLen_tup, fAbs, ↓D3.call3_k, ↓D3.kont_app, ↓D3.isN3.eq_1, ↓D3.notN3.eq_1, dIsN_non, dIsN_int, dIsN_bl, dIsN_str, dIsN_tup, dIsN_lst, ↓D3.slc3.eq_1, ↓D3.part3.eq_1, ↓D3.noPart3.eq_1, ↓D3.ilst3.eq_1, ↓D3.itup3.eq_1, ↓D3.irng1.eq_1, ↓D3.irng2.eq_1, ↓D3.for3.eq_1, fCat, fEq_int, fNe_int, fEq_bl, fNe_bl, fEq_pair, fNe_pair, List.map, List.replicate, List.length_cons, List.length_nil, List.set_cons_zero, List.set_cons_succ, List.getElem?_cons_zero, List.getElem?_cons_succ, List.cons_append, List.nil_append, at_0, at_1, at_2, at_3, at_4, at_5, at_6, ix_0, ix_1, ix_2, put_same, put_put, decide_eq_true_eq, Bool.not_eq_true', decide_eq_false_iff_not, ite_not, ite_true, ite_false, if_true, if_false, Bool.false_eq_true, ↓reduceIte, reduceIte, Nat.reduceAdd, Nat.reduceSub, Int.reduceToNat, Nat.reduceLeDiff, not_false_eq_true, true_and, and_true, ne_eq, Int.reduceEq, Nat.zero_add, Bool.not_true, Bool.not_false, reduceCtorEq, nc0, nc1, nc2, nc3, nc4, nc5, fIx_ref put_same, fLen_ref put_same, ↓D3.lc3.eq_1, fInt, fTuple, fList, fNeS_s, fEqS_s, ↓D3.gstar3.eq_1, fInK_s, fNinK_s, fLenS_s, ↓D3.slcT3.eq_1, fCatT_t, dnew3]))
      refine iteB (fun _ => ?_) (fun _ => nxt _ _ rfl)
      refine ⟨sp, none, rfl, g10, p9, by omega, ?_⟩
      (refine laterP_in ?_; repeat ((first | with_reducible refine laterP_i ?_ | with_reducible refine later_i ?_); try simp -implicitDefEqProofs -dsimp only [↓D3.seq3_stop, ↓D3.ifS3.eq_1, ↓D3.b3.eq_1, ↓D3.op3.eq_1, ↓D3.un3.eq_1, ↓D3.v3.eq_1, ↓D3.c3.eq_1, fIx_tup, fIx_lst, at3_0, at3_1, at3_2, at3_3, at3_4, at3_5, at3_6, start3, fI0_i, fI_i, fLt, fLe, fGt, fGe, fEqI, fNeI, fMin, fMax, ↓D3.asg3.eq_1, ↓D3.name3.eq_1, ↓D3.sub3.eq_1, ↓D3.ret3.eq_1, ↓D3.retN3.eq_1, ↓D3.nx3.eq_1, ↓D3.drop3.eq_1, ↓D3.par3.eq_1, ↓D3.aug3.eq_1, ↓D3.and3.eq_1, ↓D3.or3.eq_1, ↓D3.not3.eq_1, ↓D3.andV3.eq_1, ↓D3.orV3.eq_1, ↓D3.notV3.eq_1, ↓D3.if3.eq_1, ↓D3.nil3.eq_1, ↓D3.cons3.eq_1, ↓D3.tup3.eq_1, ↓D3.lst3.eq_1, ↓D3.lstM3.eq_1, ↓D3.gtup3.eq_1, ↓D3.gcons3.eq_1, ↓D3.gnil3.eq_1, ↓D3.gunl3.eq_1, ↓D3.bits3.eq_1, ↓D3.neg3.eq_1, ↓D3.chain3.eq_1, fIsi_int_int, fIsi_int_bool, fIsi_int_tuple, fIsi_int_str, fIsi_int_list, fIsi_bl_int, fIsi_bl_bool, fIsi_bl_tuple, fIsi_bl_str, fIsi_bl_list, fIsi_non_int, fIsi_non_bool, fIsi_non_tuple, fIsi_non_str, fIsi_non_list, fIsi_str_int, fIsi_str_bool, fIsi_str_tuple, fIsi_str_str, fIsi_str_list, fIsi_tup_int, fIsi_tup_bool, fIsi_tup_tuple, fIsi_tup_str, fIsi_tup_list, fIsi_lst_int, fIsi_lst_bool, fIsi_lst_tuple, fIsi_lst_str, fIsi_lst_list, fLen_lst, fLen_tup, fAbs, ↓D3.call3_k, ↓D3.kont_app, ↓D3.isN3.eq_1, ↓D3.notN3.eq_1, dIsN_non, dIsN_int, dIsN_bl, dIsN_str, dIsN_tup, dIsN_lst, ↓D3.slc3.eq_1, ↓D3.part3.eq_1, ↓D3.noPart3.eq_1, ↓D3.ilst3.eq_1, ↓D3.itup3.eq_1, ↓D3.irng1.eq_1, ↓D3.irng2.eq_1, ↓D3.for3.eq_1, fCat, fEq_int, fNe_int, fEq_bl, fNe_bl, fEq_pair, fNe_pair, List.map, List.replicate, List.length_cons, List.length_nil, List.set_cons_zero, List.set_cons_succ, List.getElem?_cons_zero, List.getElem?_cons_succ, List.cons_append, List.nil_append, at_0, at_1, at_2, at_3, at_4, at_5, at_6, ix_0, ix_1, ix_2, put_same, put_put, decide_eq_true_eq, Bool.not_eq_true', decide_eq_false_iff_not, ite_not, ite_true, ite_false, if_true, if_false, Bool.false_eq_true, ↓reduceIte, reduceIte, Nat.reduceAdd, Nat.reduceSub, Int.reduceToNat, Nat.reduceLeDiff, not_false_eq_true, true_and, and_true, ne_eq, Int.reduceEq, Nat.zero_add, Bool.not_true, Bool.not_false, reduceCtorEq, nc0, nc1, nc2, nc3, nc4, nc5, fIx_ref put_same, fLen_ref put_same, ↓D3.lc3.eq_1, fInt, fTuple, fList, fNeS_s, fEqS_s, ↓D3.gstar3.eq_1, fInK_s, fNinK_s, fLenS_s, ↓D3.slcT3.eq_1, fCatT_t, dnew3, oQ]))
      exact nxt _ _ rfl
end
/-! ### what the top has written; the law's end -/
theorem all_mk {l : PySem.W.OpenLaw} {w : World} {K : PySem.W.Frag} {h : Heap} {mg : Str → Option Value} {fa : Addr} (X : K.In h) (G : h.Ns mainGlobals mg) (hfa : mg "law" = some (.ref fa))
    {f0 f1 f2 f3 f4 f5 f6 f7 f8 f9 f10 f11 f12 f13 f14 f15 f16 f17 : Addr} {od0 an0 od1 an1 od2 an2 od3 an3 od4 an4 od5 an5 od6 an6 od7 an7 od8 an8 od9 an9 od10 an10 od11 an11 od12 an12 od13 an13 od14 an14 od15 an15 od16 an16 od17 an17 : Option Addr} {sl0 sl1 sl2 sl3 sl4 sl5 sl6 sl7 sl8 sl9 sl10 sl11 sl12 sl13 sl14 sl15 sl16 sl17 : Array (Option Value)} {oc0 kV0 dc0 pm0 cd0 ct0 oc1 kV1 dc1 pm1 cd1 ct1 oc2 kV2 dc2 pm2 cd2 ct2 oc3 kV3 dc3 pm3 cd3 ct3 oc4 kV4 dc4 pm4 cd4 ct4 oc5 kV5 dc5 pm5 cd5 ct5 oc6 kV6 dc6 pm6 cd6 ct6 oc7 kV7 dc7 pm7 cd7 ct7 oc8 kV8 dc8 pm8 cd8 ct8 oc9 kV9 dc9 pm9 cd9 ct9 oc10 kV10 dc10 pm10 cd10 ct10 oc11 kV11 dc11 pm11 cd11 ct11 oc12 kV12 dc12 pm12 cd12 ct12 oc13 kV13 dc13 pm13 cd13 ct13 oc14 kV14 dc14 pm14 cd14 ct14 oc15 kV15 dc15 pm15 cd15 ct15 oc16 kV16 dc16 pm16 cd16 ct16 oc17 kV17 dc17 pm17 cd17 ct17 : Value}
    (a0 : PySem.W.nsIn K mainGlobals "is_whole" = some (some (.ref f0))) (l0 : K.lookup f0 = some ⟨oc0, od0, .func (PySem.W.fnOf "is_whole" "is_whole" (defArgs s_is_whole) (defBody s_is_whole) (defScope s_is_whole) .none kV0 dc0 pm0 an0 cd0 ct0), sl0⟩) (c0 : PySem.W.codeIn K cd0 "is_whole" = true) (k0 : PySem.W.keepIn K (.ref f0) = true)
    (a1 : PySem.W.nsIn K mainGlobals "divisor" = some (some (.ref f1))) (l1 : K.lookup f1 = some ⟨oc1, od1, .func (PySem.W.fnOf "divisor" "divisor" (defArgs s_divisor) (defBody s_divisor) (defScope s_divisor) .none kV1 dc1 pm1 an1 cd1 ct1), sl1⟩) (c1 : PySem.W.codeIn K cd1 "divisor" = true) (k1 : PySem.W.keepIn K (.ref f1) = true)
    (a2 : PySem.W.nsIn K mainGlobals "fraction" = some (some (.ref f2))) (l2 : K.lookup f2 = some ⟨oc2, od2, .func (PySem.W.fnOf "fraction" "fraction" (defArgs s_fraction) (defBody s_fraction) (defScope s_fraction) .none kV2 dc2 pm2 an2 cd2 ct2), sl2⟩) (c2 : PySem.W.codeIn K cd2 "fraction" = true) (k2 : PySem.W.keepIn K (.ref f2) = true)
    (a3 : PySem.W.nsIn K mainGlobals "is_fraction" = some (some (.ref f3))) (l3 : K.lookup f3 = some ⟨oc3, od3, .func (PySem.W.fnOf "is_fraction" "is_fraction" (defArgs s_is_fraction) (defBody s_is_fraction) (defScope s_is_fraction) .none kV3 dc3 pm3 an3 cd3 ct3), sl3⟩) (c3 : PySem.W.codeIn K cd3 "is_fraction" = true) (k3 : PySem.W.keepIn K (.ref f3) = true)
    (a4 : PySem.W.nsIn K mainGlobals "is_less_fraction" = some (some (.ref f4))) (l4 : K.lookup f4 = some ⟨oc4, od4, .func (PySem.W.fnOf "is_less_fraction" "is_less_fraction" (defArgs s_is_less_fraction) (defBody s_is_less_fraction) (defScope s_is_less_fraction) .none kV4 dc4 pm4 an4 cd4 ct4), sl4⟩) (c4 : PySem.W.codeIn K cd4 "is_less_fraction" = true) (k4 : PySem.W.keepIn K (.ref f4) = true)
    (a5 : PySem.W.nsIn K mainGlobals "is_name" = some (some (.ref f5))) (l5 : K.lookup f5 = some ⟨oc5, od5, .func (PySem.W.fnOf "is_name" "is_name" (defArgs s_is_name) (defBody s_is_name) (defScope s_is_name) .none kV5 dc5 pm5 an5 cd5 ct5), sl5⟩) (c5 : PySem.W.codeIn K cd5 "is_name" = true) (k5 : PySem.W.keepIn K (.ref f5) = true)
    (a6 : PySem.W.nsIn K mainGlobals "parts_within" = some (some (.ref f6))) (l6 : K.lookup f6 = some ⟨oc6, od6, .func (PySem.W.fnOf "parts_within" "parts_within" (defArgs s_parts_within) (defBody s_parts_within) (defScope s_parts_within) .none kV6 dc6 pm6 an6 cd6 ct6), sl6⟩) (c6 : PySem.W.codeIn K cd6 "parts_within" = true) (k6 : PySem.W.keepIn K (.ref f6) = true)
    (a7 : PySem.W.nsIn K mainGlobals "counted" = some (some (.ref f7))) (l7 : K.lookup f7 = some ⟨oc7, od7, .func (PySem.W.fnOf "counted" "counted" (defArgs s_counted) (defBody s_counted) (defScope s_counted) .none kV7 dc7 pm7 an7 cd7 ct7), sl7⟩) (c7 : PySem.W.codeIn K cd7 "counted" = true) (k7 : PySem.W.keepIn K (.ref f7) = true)
    (a8 : PySem.W.nsIn K mainGlobals "is_term" = some (some (.ref f8))) (l8 : K.lookup f8 = some ⟨oc8, od8, .func (PySem.W.fnOf "is_term" "is_term" (defArgs s_is_term) (defBody s_is_term) (defScope s_is_term) .none kV8 dc8 pm8 an8 cd8 ct8), sl8⟩) (c8 : PySem.W.codeIn K cd8 "is_term" = true) (k8 : PySem.W.keepIn K (.ref f8) = true)
    (a9 : PySem.W.nsIn K mainGlobals "plain_of_two" = some (some (.ref f9))) (l9 : K.lookup f9 = some ⟨oc9, od9, .func (PySem.W.fnOf "plain_of_two" "plain_of_two" (defArgs s_plain_of_two) (defBody s_plain_of_two) (defScope s_plain_of_two) .none kV9 dc9 pm9 an9 cd9 ct9), sl9⟩) (c9 : PySem.W.codeIn K cd9 "plain_of_two" = true) (k9 : PySem.W.keepIn K (.ref f9) = true)
    (a10 : PySem.W.nsIn K mainGlobals "value_of" = some (some (.ref f10))) (l10 : K.lookup f10 = some ⟨oc10, od10, .func (PySem.W.fnOf "value_of" "value_of" (defArgs s_value_of) (defBody s_value_of) (defScope s_value_of) .none kV10 dc10 pm10 an10 cd10 ct10), sl10⟩) (c10 : PySem.W.codeIn K cd10 "value_of" = true) (k10 : PySem.W.keepIn K (.ref f10) = true)
    (a11 : PySem.W.nsIn K mainGlobals "_law_deck" = some (some (.ref f11))) (l11 : K.lookup f11 = some ⟨oc11, od11, .func (PySem.W.fnOf "_law_deck" "_law_deck" (defArgs s_law_deck) (defBody s_law_deck) (defScope s_law_deck) .none kV11 dc11 pm11 an11 cd11 ct11), sl11⟩) (c11 : PySem.W.codeIn K cd11 "_law_deck" = true) (k11 : PySem.W.keepIn K (.ref f11) = true)
    (a12 : PySem.W.nsIn K mainGlobals "_law_pick" = some (some (.ref f12))) (l12 : K.lookup f12 = some ⟨oc12, od12, .func (PySem.W.fnOf "_law_pick" "_law_pick" (defArgs s_law_pick) (defBody s_law_pick) (defScope s_law_pick) .none kV12 dc12 pm12 an12 cd12 ct12), sl12⟩) (c12 : PySem.W.codeIn K cd12 "_law_pick" = true) (k12 : PySem.W.keepIn K (.ref f12) = true)
    (a13 : PySem.W.nsIn K mainGlobals "_law_fraction" = some (some (.ref f13))) (l13 : K.lookup f13 = some ⟨oc13, od13, .func (PySem.W.fnOf "_law_fraction" "_law_fraction" (defArgs s_law_fraction) (defBody s_law_fraction) (defScope s_law_fraction) .none kV13 dc13 pm13 an13 cd13 ct13), sl13⟩) (c13 : PySem.W.codeIn K cd13 "_law_fraction" = true) (k13 : PySem.W.keepIn K (.ref f13) = true)
    (a14 : PySem.W.nsIn K mainGlobals "_law_plain" = some (some (.ref f14))) (l14 : K.lookup f14 = some ⟨oc14, od14, .func (PySem.W.fnOf "_law_plain" "_law_plain" (defArgs s_law_plain) (defBody s_law_plain) (defScope s_law_plain) .none kV14 dc14 pm14 an14 cd14 ct14), sl14⟩) (c14 : PySem.W.codeIn K cd14 "_law_plain" = true) (k14 : PySem.W.keepIn K (.ref f14) = true)
    (a15 : PySem.W.nsIn K mainGlobals "_law_value" = some (some (.ref f15))) (l15 : K.lookup f15 = some ⟨oc15, od15, .func (PySem.W.fnOf "_law_value" "_law_value" (defArgs s_law_value) (defBody s_law_value) (defScope s_law_value) .none kV15 dc15 pm15 an15 cd15 ct15), sl15⟩) (c15 : PySem.W.codeIn K cd15 "_law_value" = true) (k15 : PySem.W.keepIn K (.ref f15) = true)
    (a16 : PySem.W.nsIn K mainGlobals "_law_put" = some (some (.ref f16))) (l16 : K.lookup f16 = some ⟨oc16, od16, .func (PySem.W.fnOf "_law_put" "_law_put" (defArgs s_law_put) (defBody s_law_put) (defScope s_law_put) .none kV16 dc16 pm16 an16 cd16 ct16), sl16⟩) (c16 : PySem.W.codeIn K cd16 "_law_put" = true) (k16 : PySem.W.keepIn K (.ref f16) = true)
    (a17 : PySem.W.nsIn K mainGlobals "law" = some (some (.ref f17))) (l17 : K.lookup f17 = some ⟨oc17, od17, .func (PySem.W.fnOf "law" "law" (defArgs s_law) (defBody s_law) (defScope s_law) .none kV17 dc17 pm17 an17 cd17 ct17), sl17⟩) (c17 : PySem.W.codeIn K cd17 "law" = true) (k17 : PySem.W.keepIn K (.ref f17) = true)
    (z_abs : PySem.W.nsIn K mainGlobals "abs" = some none)
    (z_all : PySem.W.nsIn K mainGlobals "all" = some none)
    (z_bool : PySem.W.nsIn K mainGlobals "bool" = some none)
    (z_int : PySem.W.nsIn K mainGlobals "int" = some none)
    (z_isinstance : PySem.W.nsIn K mainGlobals "isinstance" = some none)
    (z_len : PySem.W.nsIn K mainGlobals "len" = some none)
    (z_range : PySem.W.nsIn K mainGlobals "range" = some none)
    (z_str : PySem.W.nsIn K mainGlobals "str" = some none)
    (z_tuple : PySem.W.nsIn K mainGlobals "tuple" = some none)
    {t_LONGEST_NAME : Tok} (g_LONGEST_NAME : PySem.W.nsIn K mainGlobals "LONGEST_NAME" = some (some (.int 8 t_LONGEST_NAME)))
    {t_MOST_DEEP : Tok} (g_MOST_DEEP : PySem.W.nsIn K mainGlobals "MOST_DEEP" = some (some (.int 12 t_MOST_DEEP)))
    {t_MOST_PARTS : Tok} (g_MOST_PARTS : PySem.W.nsIn K mainGlobals "MOST_PARTS" = some (some (.int 30 t_MOST_PARTS)))
    {t_LETTERS : Tok} (u_LETTERS : PySem.W.nsIn K mainGlobals "LETTERS" = some (some (.str "abcdefghijklmnopqrstuvwxyz" t_LETTERS)))
    {d_KINDS_OF_ONE : Addr} (v_KINDS_OF_ONE : PySem.W.nsIn K mainGlobals "KINDS_OF_ONE" = some (some (.ref d_KINDS_OF_ONE))) (w_KINDS_OF_ONE : He.dicW K d_KINDS_OF_ONE = some (He.keysIn w.params ["size", "e", "log", "arc", "sine", "cosine"]))
    {d_KINDS_OF_TWO : Addr} (v_KINDS_OF_TWO : PySem.W.nsIn K mainGlobals "KINDS_OF_TWO" = some (some (.ref d_KINDS_OF_TWO))) (w_KINDS_OF_TWO : He.dicW K d_KINDS_OF_TWO = some (He.keysIn w.params ["plus", "minus", "times", "over", "least", "most"]))
    : ∃ fd : FuncData, (∀ (s : Shared) (v : Value), BindsTo s fd ⟨[v], []⟩ [("script", v)]) ∧ ∀ base : Heap, K.In base → base.Ns mainGlobals mg → FnOk l.prog w K mg base CX0 18 fa fd ["script"] (spLaw K) := by
  have e := hfa.symm.trans (PySem.W.mg_of X G a17)
  cases e
  have F0 := fun_mk (st := s_is_whole) l0 c0 k0
  have b0 := F0.binds (ps := ["thing"]) fun _ _ _ _ _ _ us hl => match us, hl with | [_], _ => rfl
  have F1 := fun_mk (st := s_divisor) l1 c1 k1
  have b1 := F1.binds (ps := ["one", "other"]) fun _ _ _ _ _ _ us hl => match us, hl with | [_, _], _ => rfl
  have F2 := fun_mk (st := s_fraction) l2 c2 k2
  have b2 := F2.binds (ps := ["top", "bottom"]) fun _ _ _ _ _ _ us hl => match us, hl with | [_, _], _ => rfl
  have F3 := fun_mk (st := s_is_fraction) l3 c3 k3
  have b3 := F3.binds (ps := ["thing"]) fun _ _ _ _ _ _ us hl => match us, hl with | [_], _ => rfl
  have F4 := fun_mk (st := s_is_less_fraction) l4 c4 k4
  have b4 := F4.binds (ps := ["one", "other"]) fun _ _ _ _ _ _ us hl => match us, hl with | [_, _], _ => rfl
  have F5 := fun_mk (st := s_is_name) l5 c5 k5
  have b5 := F5.binds (ps := ["thing"]) fun _ _ _ _ _ _ us hl => match us, hl with | [_], _ => rfl
  have F6 := fun_mk (st := s_parts_within) l6 c6 k6
  have b6 := F6.binds (ps := ["thing"]) fun _ _ _ _ _ _ us hl => match us, hl with | [_], _ => rfl
  have F7 := fun_mk (st := s_counted) l7 c7 k7
  have b7 := F7.binds (ps := ["thing", "deep", "inside"]) fun _ _ _ _ _ _ us hl => match us, hl with | [_, _, _], _ => rfl
  have F8 := fun_mk (st := s_is_term) l8 c8 k8
  have b8 := F8.binds (ps := ["thing"]) fun _ _ _ _ _ _ us hl => match us, hl with | [_], _ => rfl
  have F9 := fun_mk (st := s_plain_of_two) l9 c9 k9
  have b9 := F9.binds (ps := ["kind", "one", "other"]) fun _ _ _ _ _ _ us hl => match us, hl with | [_, _, _], _ => rfl
  have F10 := fun_mk (st := s_value_of) l10 c10 k10
  have b10 := F10.binds (ps := ["term"]) fun _ _ _ _ _ _ us hl => match us, hl with | [_], _ => rfl
  have F11 := fun_mk (st := s_law_deck) l11 c11 k11
  have b11 := F11.binds (ps := ["cell", "turn"]) fun _ _ _ _ _ _ us hl => match us, hl with | [_, _], _ => rfl
  have F12 := fun_mk (st := s_law_pick) l12 c12 k12
  have b12 := F12.binds (ps := ["deck", "many"]) fun _ _ _ _ _ _ us hl => match us, hl with | [_, _], _ => rfl
  have F13 := fun_mk (st := s_law_fraction) l13 c13 k13
  have b13 := F13.binds (ps := ["top", "bottom"]) fun _ _ _ _ _ _ us hl => match us, hl with | [_, _], _ => rfl
  have F14 := fun_mk (st := s_law_plain) l14 c14 k14
  have b14 := F14.binds (ps := ["deck", "deep", "names"]) fun _ _ _ _ _ _ us hl => match us, hl with | [_, _, _], _ => rfl
  have F15 := fun_mk (st := s_law_value) l15 c15 k15
  have b15 := F15.binds (ps := ["term", "values"]) fun _ _ _ _ _ _ us hl => match us, hl with | [_, _], _ => rfl
  have F16 := fun_mk (st := s_law_put) l16 c16 k16
  have b16 := F16.binds (ps := ["deck", "term", "other"]) fun _ _ _ _ _ _ us hl => match us, hl with | [_, _, _], _ => rfl
  have F17 := fun_mk (st := s_law) l17 c17 k17
  have b17 := F17.binds (ps := ["script"]) fun _ _ _ _ _ _ us hl => match us, hl with | [_], _ => rfl
  have T : Tx w K mg (fun i => match i with | 0 => f0 | 1 => f1 | 2 => f2 | 3 => f3 | 4 => f4 | 5 => f5 | 6 => f6 | 7 => f7 | 8 => f8 | 9 => f9 | 10 => f10 | 11 => f11 | 12 => f12 | 13 => f13 | 14 => f14 | 15 => f15 | 16 => f16 | 17 => fa | _ => 0) (fun i => match i with | 0 => PySem.W.fnOf "is_whole" "is_whole" (defArgs s_is_whole) (defBody s_is_whole) (defScope s_is_whole) .none kV0 dc0 pm0 an0 cd0 ct0 | 1 => PySem.W.fnOf "divisor" "divisor" (defArgs s_divisor) (defBody s_divisor) (defScope s_divisor) .none kV1 dc1 pm1 an1 cd1 ct1 | 2 => PySem.W.fnOf "fraction" "fraction" (defArgs s_fraction) (defBody s_fraction) (defScope s_fraction) .none kV2 dc2 pm2 an2 cd2 ct2 | 3 => PySem.W.fnOf "is_fraction" "is_fraction" (defArgs s_is_fraction) (defBody s_is_fraction) (defScope s_is_fraction) .none kV3 dc3 pm3 an3 cd3 ct3 | 4 => PySem.W.fnOf "is_less_fraction" "is_less_fraction" (defArgs s_is_less_fraction) (defBody s_is_less_fraction) (defScope s_is_less_fraction) .none kV4 dc4 pm4 an4 cd4 ct4 | 5 => PySem.W.fnOf "is_name" "is_name" (defArgs s_is_name) (defBody s_is_name) (defScope s_is_name) .none kV5 dc5 pm5 an5 cd5 ct5 | 6 => PySem.W.fnOf "parts_within" "parts_within" (defArgs s_parts_within) (defBody s_parts_within) (defScope s_parts_within) .none kV6 dc6 pm6 an6 cd6 ct6 | 7 => PySem.W.fnOf "counted" "counted" (defArgs s_counted) (defBody s_counted) (defScope s_counted) .none kV7 dc7 pm7 an7 cd7 ct7 | 8 => PySem.W.fnOf "is_term" "is_term" (defArgs s_is_term) (defBody s_is_term) (defScope s_is_term) .none kV8 dc8 pm8 an8 cd8 ct8 | 9 => PySem.W.fnOf "plain_of_two" "plain_of_two" (defArgs s_plain_of_two) (defBody s_plain_of_two) (defScope s_plain_of_two) .none kV9 dc9 pm9 an9 cd9 ct9 | 10 => PySem.W.fnOf "value_of" "value_of" (defArgs s_value_of) (defBody s_value_of) (defScope s_value_of) .none kV10 dc10 pm10 an10 cd10 ct10 | 11 => PySem.W.fnOf "_law_deck" "_law_deck" (defArgs s_law_deck) (defBody s_law_deck) (defScope s_law_deck) .none kV11 dc11 pm11 an11 cd11 ct11 | 12 => PySem.W.fnOf "_law_pick" "_law_pick" (defArgs s_law_pick) (defBody s_law_pick) (defScope s_law_pick) .none kV12 dc12 pm12 an12 cd12 ct12 | 13 => PySem.W.fnOf "_law_fraction" "_law_fraction" (defArgs s_law_fraction) (defBody s_law_fraction) (defScope s_law_fraction) .none kV13 dc13 pm13 an13 cd13 ct13 | 14 => PySem.W.fnOf "_law_plain" "_law_plain" (defArgs s_law_plain) (defBody s_law_plain) (defScope s_law_plain) .none kV14 dc14 pm14 an14 cd14 ct14 | 15 => PySem.W.fnOf "_law_value" "_law_value" (defArgs s_law_value) (defBody s_law_value) (defScope s_law_value) .none kV15 dc15 pm15 an15 cd15 ct15 | 16 => PySem.W.fnOf "_law_put" "_law_put" (defArgs s_law_put) (defBody s_law_put) (defScope s_law_put) .none kV16 dc16 pm16 an16 cd16 ct16 | 17 => PySem.W.fnOf "law" "law" (defArgs s_law) (defBody s_law) (defScope s_law) .none kV17 dc17 pm17 an17 cd17 ct17 | _ => PySem.W.fnOf "law" "law" (defArgs s_law) (defBody s_law) (defScope s_law) .none kV17 dc17 pm17 an17 cd17 ct17) := ⟨⟨F0, b0, PySem.W.mg_of X G a0⟩, ⟨F1, b1, PySem.W.mg_of X G a1⟩, ⟨F2, b2, PySem.W.mg_of X G a2⟩, ⟨F3, b3, PySem.W.mg_of X G a3⟩, ⟨F4, b4, PySem.W.mg_of X G a4⟩, ⟨F5, b5, PySem.W.mg_of X G a5⟩, ⟨F6, b6, PySem.W.mg_of X G a6⟩, ⟨F7, b7, PySem.W.mg_of X G a7⟩, ⟨F8, b8, PySem.W.mg_of X G a8⟩, ⟨F9, b9, PySem.W.mg_of X G a9⟩, ⟨F10, b10, PySem.W.mg_of X G a10⟩, ⟨F11, b11, PySem.W.mg_of X G a11⟩, ⟨F12, b12, PySem.W.mg_of X G a12⟩, ⟨F13, b13, PySem.W.mg_of X G a13⟩, ⟨F14, b14, PySem.W.mg_of X G a14⟩, ⟨F15, b15, PySem.W.mg_of X G a15⟩, ⟨F16, b16, PySem.W.mg_of X G a16⟩, ⟨F17, b17, PySem.W.mg_of X G a17⟩, PySem.W.mg_none_of X G z_abs, PySem.W.mg_none_of X G z_all, PySem.W.mg_none_of X G z_bool, PySem.W.mg_none_of X G z_int, PySem.W.mg_none_of X G z_isinstance, PySem.W.mg_none_of X G z_len, PySem.W.mg_none_of X G z_range, PySem.W.mg_none_of X G z_str, PySem.W.mg_none_of X G z_tuple, ⟨_, PySem.W.mg_of X G g_LONGEST_NAME⟩, ⟨_, PySem.W.mg_of X G g_MOST_DEEP⟩, ⟨_, PySem.W.mg_of X G g_MOST_PARTS⟩, ⟨_, PySem.W.mg_of X G u_LETTERS⟩, ⟨_, PySem.W.mg_of X G v_KINDS_OF_ONE, w_KINDS_OF_ONE⟩, ⟨_, PySem.W.mg_of X G v_KINDS_OF_TWO, w_KINDS_OF_TWO⟩⟩
  exact ⟨PySem.W.fnOf "law" "law" (defArgs s_law) (defBody s_law) (defScope s_law) .none kV17 dc17 pm17 an17 cd17 ct17, fun s v => .of_eq rfl, fun base _ _ => law_end (ok_law T)⟩
end LK
open PySem PySem.W PyProof.Rows
set_option maxRecDepth 100000 in
set_option maxHeartbeats 0 in
theorem PySem.Challenge.cw_lazyreal_k23_whole_plain_values_holds : PySem.Challenge.rw_lazyreal_k23_whole_plain_values.Holds := by
  w_on; o_law; k_head; (case hw => w_witness2)
  k_fill
  refine L2.walk_of (l := PySem.Challenge.rw_lazyreal_k23_whole_plain_values) (n := 63) (k := 18) (x := "script") (CX := fun _ => L2.CX0) (sp := fun w => D3.spLaw _) rfl (by decide) rfl ⟨rfl, by decide, by decide⟩ (fun w h Y => PySem.W.km_in_of Y) ?F (fun _ _ a ns hl _ hS => ⟨a, ns, rfl, hS, hl, fun _ => rfl⟩) (fun _ _ _ _ _ h => h)
  case F =>
    intro w mg fa h KX G hmg
    refine' LK.all_mk KX G hmg ?a0 ?l0 ?c0 ?k0 ?a1 ?l1 ?c1 ?k1 ?a2 ?l2 ?c2 ?k2 ?a3 ?l3 ?c3 ?k3 ?a4 ?l4 ?c4 ?k4 ?a5 ?l5 ?c5 ?k5 ?a6 ?l6 ?c6 ?k6 ?a7 ?l7 ?c7 ?k7 ?a8 ?l8 ?c8 ?k8 ?a9 ?l9 ?c9 ?k9 ?a10 ?l10 ?c10 ?k10 ?a11 ?l11 ?c11 ?k11 ?a12 ?l12 ?c12 ?k12 ?a13 ?l13 ?c13 ?k13 ?a14 ?l14 ?c14 ?k14 ?a15 ?l15 ?c15 ?k15 ?a16 ?l16 ?c16 ?k16 ?a17 ?l17 ?c17 ?k17 ?z_abs ?z_all ?z_bool ?z_int ?z_isinstance ?z_len ?z_range ?z_str ?z_tuple ?g_LONGEST_NAME ?g_MOST_DEEP ?g_MOST_PARTS ?u_LETTERS ?v_KINDS_OF_ONE ?w_KINDS_OF_ONE ?v_KINDS_OF_TWO ?w_KINDS_OF_TWO
    (case a0 => k_is); (case l0 => k_is); (case c0 => k_is); (case k0 => k_is); (case a1 => k_is); (case l1 => k_is); (case c1 => k_is); (case k1 => k_is); (case a2 => k_is); (case l2 => k_is); (case c2 => k_is); (case k2 => k_is); (case a3 => k_is); (case l3 => k_is); (case c3 => k_is); (case k3 => k_is); (case a4 => k_is); (case l4 => k_is); (case c4 => k_is); (case k4 => k_is); (case a5 => k_is); (case l5 => k_is); (case c5 => k_is); (case k5 => k_is); (case a6 => k_is); (case l6 => k_is); (case c6 => k_is); (case k6 => k_is); (case a7 => k_is); (case l7 => k_is); (case c7 => k_is); (case k7 => k_is); (case a8 => k_is); (case l8 => k_is); (case c8 => k_is); (case k8 => k_is); (case a9 => k_is); (case l9 => k_is); (case c9 => k_is); (case k9 => k_is); (case a10 => k_is); (case l10 => k_is); (case c10 => k_is); (case k10 => k_is); (case a11 => k_is); (case l11 => k_is); (case c11 => k_is); (case k11 => k_is); (case a12 => k_is); (case l12 => k_is); (case c12 => k_is); (case k12 => k_is); (case a13 => k_is); (case l13 => k_is); (case c13 => k_is); (case k13 => k_is); (case a14 => k_is); (case l14 => k_is); (case c14 => k_is); (case k14 => k_is); (case a15 => k_is); (case l15 => k_is); (case c15 => k_is); (case k15 => k_is); (case a16 => k_is); (case l16 => k_is); (case c16 => k_is); (case k16 => k_is); (case a17 => k_is); (case l17 => k_is); (case c17 => k_is); (case k17 => k_is); (case z_abs => k_is); (case z_all => k_is); (case z_bool => k_is); (case z_int => k_is); (case z_isinstance => k_is); (case z_len => k_is); (case z_range => k_is); (case z_str => k_is); (case z_tuple => k_is); (case g_LONGEST_NAME => k_is); (case g_MOST_DEEP => k_is); (case g_MOST_PARTS => k_is); (case u_LETTERS => k_is); (case v_KINDS_OF_ONE => k_is); (case w_KINDS_OF_ONE => rfl); (case v_KINDS_OF_TWO => k_is); (case w_KINDS_OF_TWO => rfl)
