import PyProof.Rows.All
import Wide.All
import OpenK.AllK
import Wide.FinOn
import HandS.ForMost
import HandS.IsInst
import HandS.WideBits
import HandS.Wide
import HandS.Zip
import HandS.NoneIn
import HandS.HeadHook3
import HandS.Text
import HandS.TupAny
import HandS.Iter
import KE.KUnpackStar
import HandS.Deep
import HandS.Dict
import HandS.DictComp
import HandS.More
import HandS.Style
import HandS.Strs
import HandS.SetFor
import HandS.SetIn
import PySem.Challenge.RW_lazyreal_k22_whole_parts_and_names
set_option Elab.async false
set_option linter.all false
set_option maxRecDepth 100000
set_option maxHeartbeats 4000000
/-! D3: a layer over the hand layer in which tuples (and lists that no longer change) are plain values: data instead of addresses. -/
namespace D3
open PySem L2

/-- data: what a Python value is, without addresses but for what may change -/
inductive D where
  | non | bl (b : Bool) | int (i : Int) | str (x : Str) | tup (xs : List D) | lst (xs : List D) | ref (a : Addr) | ty (n : String)

/-- what may change: a list, a dict, an instance, by data -/
inductive MO where
  | lst (xs : List D)
  | dct (kvs : List (Key × D))
  | ins (C dx : Addr) (fs : List (Str × D))
abbrev Mem := Addr → Option MO
def put (m : Mem) (a : Addr) (o : MO) : Mem := fun b => if b = a then some o else m b
def del (m : Mem) (a : Addr) : Mem := fun b => if b = a then none else m b
theorem put_same {m : Mem} {a : Addr} {o : MO} : put m a o a = some o := by unfold put; rw [if_pos rfl]
theorem put_ne {m : Mem} {a b : Addr} {o : MO} (h : b ≠ a) : put m a o b = m b := by unfold put; rw [if_neg h]
theorem put_put {m : Mem} {a : Addr} {o u : MO} : put (put m a o) a u = put m a u := by
  funext b; unfold put; split <;> rfl
theorem put_self {m : Mem} {a : Addr} {o : MO} (h : m a = some o) : put m a o = m := by
  funext b; unfold put; split
  · rename_i e; rw [e, h]
  · rfl

/-- what is tracked and does not change -/
def RdS (H : Hp) (m : Mem) (a : Addr) (u : HO) : Prop := Rd H a u ∧ m a = none
def TupAt (K : PySem.W.Frag) (H : Hp) (m : Mem) (a : Addr) (xs : List V) : Prop :=
  RdS H m a (.tup xs) ∨ ∃ (o : Obj) (its : Array Value) (n : Nat), K.lookup a = some o ∧ o.cls = .type "tuple" ∧ o.data = .seq its n ∧ its.size ≤ sizeLine ∧ Vals xs its.toList
def LstAt (K : PySem.W.Frag) (H : Hp) (m : Mem) (a : Addr) (xs : List V) : Prop :=
  RdS H m a (.lst xs) ∨ ∃ (o : Obj) (its : Array Value) (n : Nat), K.lookup a = some o ∧ o.cls = .type "list" ∧ o.dict = none ∧ o.data = .seq its n ∧ its.size ≤ sizeLine ∧ Vals xs its.toList
theorem TupAt.sq {K : PySem.W.Frag} {H : Hp} {m : Mem} {a : Addr} {xs : List V} (h : TupAt K H m a xs) : SqT K H a xs := by
  rcases h with h | h
  · exact .inl h.1
  · exact .inr h
theorem LstAt.sq {K : PySem.W.Frag} {H : Hp} {m : Mem} {a : Addr} {xs : List V} (h : LstAt K H m a xs) : SqL K H a xs := by
  rcases h with h | h
  · exact .inl h.1
  · exact .inr h

mutual
inductive Rep (K : PySem.W.Frag) (H : Hp) (m : Mem) : V → D → Prop
  | non : Rep K H m .non .non
  | bl (b : Bool) : Rep K H m (.bl b) (.bl b)
  | int (i : Int) : Rep K H m (.int i) (.int i)
  | str (x : Str) : Rep K H m (.str x) (.str x)
  | ref (a : Addr) : Rep K H m (.ref a) (.ref a)
  | ty (n : String) : Rep K H m (.ty n) (.ty n)
  | tup {a : Addr} {xs : List V} {ds : List D} : TupAt K H m a xs → Reps K H m xs ds → Rep K H m (.ref a) (.tup ds)
  | lst {a : Addr} {xs : List V} {ds : List D} : LstAt K H m a xs → Reps K H m xs ds → Rep K H m (.ref a) (.lst ds)
inductive Reps (K : PySem.W.Frag) (H : Hp) (m : Mem) : List V → List D → Prop
  | nil : Reps K H m [] []
  | cons {v : V} {vs : List V} {d : D} {ds : List D} : Rep K H m v d → Reps K H m vs ds → Reps K H m (v :: vs) (d :: ds)
end

/-- from one state to a later one: what is tracked and does not change stands -/
def Step (H : Hp) (m : Mem) (H' : Hp) (m' : Mem) : Prop := ∀ a o, H a = some o → m a = none → H' a = some o ∧ m' a = none
theorem Step.refl (H : Hp) (m : Mem) : Step H m H m := fun _ _ h n => ⟨h, n⟩
theorem Step.trans {H H1 H2 : Hp} {m m1 m2 : Mem} (a : Step H m H1 m1) (b : Step H1 m1 H2 m2) : Step H m H2 m2 := fun c o h n =>
  b c o (a c o h n).1 (a c o h n).2
theorem RdS.step {H H' : Hp} {m m' : Mem} {a : Addr} {u : HO} (s : Step H m H' m') (h : RdS H m a u) : RdS H' m' a u := by
  obtain ⟨h | ⟨o, h⟩, n⟩ := h
  · exact ⟨.inl (s _ _ h n).1, (s _ _ h n).2⟩
  · exact ⟨.inr ⟨o, (s _ _ h n).1⟩, (s _ _ h n).2⟩
theorem TupAt.step {K : PySem.W.Frag} {H H' : Hp} {m m' : Mem} {a : Addr} {xs : List V} (s : Step H m H' m') (h : TupAt K H m a xs) : TupAt K H' m' a xs := by
  rcases h with h | h
  · exact .inl (h.step s)
  · exact .inr h
theorem LstAt.step {K : PySem.W.Frag} {H H' : Hp} {m m' : Mem} {a : Addr} {xs : List V} (s : Step H m H' m') (h : LstAt K H m a xs) : LstAt K H' m' a xs := by
  rcases h with h | h
  · exact .inl (h.step s)
  · exact .inr h
mutual
theorem Rep.step {K : PySem.W.Frag} {H H' : Hp} {m m' : Mem} (s : Step H m H' m') : ∀ (d : D) (v : V), Rep K H m v d → Rep K H' m' v d
  | .non, _, h => by cases h; exact .non
  | .bl b, _, h => by cases h; exact .bl b
  | .int i, _, h => by cases h; exact .int i
  | .str x, _, h => by cases h; exact .str x
  | .ref a, _, h => by cases h; exact .ref a
  | .ty n, _, h => by cases h; exact .ty n
  | .tup ds, _, h => by
    cases h with
    | tup t r => exact .tup (t.step s) (Reps.step s ds _ r)
  | .lst ds, _, h => by
    cases h with
    | lst t r => exact .lst (t.step s) (Reps.step s ds _ r)
theorem Reps.step {K : PySem.W.Frag} {H H' : Hp} {m m' : Mem} (s : Step H m H' m') : ∀ (ds : List D) (vs : List V), Reps K H m vs ds → Reps K H' m' vs ds
  | [], _, h => by cases h; exact .nil
  | d :: ds, _, h => by
    cases h with
    | cons r rr => exact .cons (Rep.step s d _ r) (Reps.step s ds _ rr)
end
theorem Rep.mv {K : PySem.W.Frag} {H H' : Hp} {m m' : Mem} {v : V} {d : D} (s : Step H m H' m') (h : Rep K H m v d) : Rep K H' m' v d := Rep.step s d v h
theorem Reps.mv {K : PySem.W.Frag} {H H' : Hp} {m m' : Mem} {vs : List V} {ds : List D} (s : Step H m H' m') (h : Reps K H m vs ds) : Reps K H' m' vs ds := Reps.step s ds vs h
section
variable {K : PySem.W.Frag} {H H' : Hp} {m m' : Mem}
theorem Reps.length : ∀ {vs : List V} {ds : List D}, Reps K H m vs ds → vs.length = ds.length
  | _, _, .nil => rfl
  | _, _, .cons _ t => by rw [List.length_cons, List.length_cons, Reps.length t]
theorem Reps.get : ∀ {vs : List V} {ds : List D} {i : Nat} {d : D}, Reps K H m vs ds → ds[i]? = some d → ∃ v, vs[i]? = some v ∧ Rep K H m v d
  | _, _, _, _, .nil, e => by simp at e
  | _, _, 0, _, .cons r _, e => by simp at e; subst e; exact ⟨_, rfl, r⟩
  | _, _, i + 1, x, .cons _ t, e => by
    obtain ⟨u, h1, h2⟩ := Reps.get (i := i) (d := x) t (by simpa using e)
    exact ⟨u, by simpa using h1, h2⟩
theorem Reps.get' : ∀ {vs : List V} {ds : List D} {i : Nat} {v : V}, Reps K H m vs ds → vs[i]? = some v → ∃ d, ds[i]? = some d ∧ Rep K H m v d
  | _, _, _, _, .nil, e => by simp at e
  | _, _, 0, _, .cons r _, e => by simp at e; subst e; exact ⟨_, rfl, r⟩
  | _, _, i + 1, x, .cons _ t, e => by
    obtain ⟨u, h1, h2⟩ := Reps.get' (i := i) (v := x) t (by simpa using e)
    exact ⟨u, by simpa using h1, h2⟩
theorem Reps.append : ∀ {xs ys : List V} {us ws : List D}, Reps K H m xs us → Reps K H m ys ws → Reps K H m (xs ++ ys) (us ++ ws)
  | _, _, _, _, .nil, s => s
  | _, _, _, _, .cons r t, s => .cons r (Reps.append t s)
theorem Reps.take : ∀ {xs : List V} {us : List D} (n : Nat), Reps K H m xs us → Reps K H m (xs.take n) (us.take n)
  | _, _, 0, _ => .nil
  | _, _, _ + 1, .nil => .nil
  | _, _, n + 1, .cons r t => .cons r (Reps.take n t)
theorem Reps.drop : ∀ {xs : List V} {us : List D} (n : Nat), Reps K H m xs us → Reps K H m (xs.drop n) (us.drop n)
  | _, _, 0, r => r
  | _, _, _ + 1, .nil => .nil
  | _, _, n + 1, .cons _ t => Reps.drop n t
theorem Reps.set {x : V} {u : D} (r : Rep K H m x u) : ∀ {xs : List V} {us : List D} (i : Nat), Reps K H m xs us → Reps K H m (xs.set i x) (us.set i u)
  | _, _, _, .nil => .nil
  | _, _, 0, .cons _ t => .cons r t
  | _, _, i + 1, .cons q t => .cons q (Reps.set r i t)
theorem Reps.dropLast : ∀ {xs : List V} {us : List D}, Reps K H m xs us → Reps K H m xs.dropLast us.dropLast
  | _, _, .nil => .nil
  | _, _, .cons _ .nil => .nil
  | _, _, .cons r (.cons r2 t) => .cons r (Reps.dropLast (.cons r2 t))
theorem Reps.ints : ∀ (ns : List Int), Reps K H m (ns.map V.int) (ns.map D.int)
  | [] => .nil
  | n :: ns => .cons (.int n) (Reps.ints ns)
theorem Reps.ints' : ∀ {ns : List Int} {vs : List V}, Reps K H m vs (ns.map D.int) → vs = ns.map V.int
  | [], _, h => by cases h; rfl
  | n :: ns, _, h => by
    cases h with
    | cons r t => cases r; rw [Reps.ints' t]; rfl
end

/-- keys and values -/
def RepK (K : PySem.W.Frag) (H : Hp) (m : Mem) {κ : Type} : List (κ × V) → List (κ × D) → Prop := Paired fun p q => p.1 = q.1 ∧ Rep K H m p.2 q.2
theorem RepK.mv {K : PySem.W.Frag} {H H' : Hp} {m m' : Mem} {κ : Type} (s : Step H m H' m') : ∀ {a : List (κ × V)} {b : List (κ × D)}, RepK K H m a b → RepK K H' m' a b
  | _, _, .nil => .nil
  | _, _, .cons r t => .cons ⟨r.1, r.2.mv s⟩ (RepK.mv s t)
def RepO (K : PySem.W.Frag) (H : Hp) (m : Mem) : HO → MO → Prop
  | .lst xs, .lst ds => Reps K H m xs ds
  | .dK kvs, .dct kds => RepK K H m kvs kds
  | .ins C dx fs, .ins C' dx' gs => C = C' ∧ dx = dx' ∧ RepK K H m fs gs
  | _, _ => False
theorem RepO.mv {K : PySem.W.Frag} {H H' : Hp} {m m' : Mem} {o : HO} {u : MO} (s : Step H m H' m') (h : RepO K H m o u) : RepO K H' m' o u := by
  cases o <;> cases u <;> first
    | exact Reps.mv s h
    | exact RepK.mv s h
    | exact ⟨h.1, h.2.1, RepK.mv s h.2.2⟩
    | exact (h : False).elim
/-- the memory of what may change is held -/
def HR (K : PySem.W.Frag) (H : Hp) (m : Mem) : Prop := ∀ a u, m a = some u → ∃ o, H a = some o ∧ RepO K H m o u
theorem HR.none {K : PySem.W.Frag} {H : Hp} {m : Mem} (h : HR K H m) {a : Addr} (n : H a = none) : m a = none := by
  cases e : m a with
  | none => rfl
  | some u =>
    obtain ⟨o, e2, _⟩ := h a u e
    rw [n] at e2
    cases e2
theorem HR.lst {K : PySem.W.Frag} {H : Hp} {m : Mem} (h : HR K H m) {a : Addr} {ds : List D} (e : m a = some (.lst ds)) : ∃ xs, H a = some (.lst xs) ∧ Reps K H m xs ds := by
  obtain ⟨o, e1, r⟩ := h a _ e
  cases o with
  | lst xs => exact ⟨xs, e1, r⟩
  | _ => exact (r : False).elim
section
variable {K : PySem.W.Frag} {H : Hp} {m : Mem} {p : Addr}
/-- a new object that will not change -/
theorem step_new {o : HO} (n : H p = none) : Step H m (upd H p o) m := fun a u e z => ⟨by rw [upd_ne (ne_of_none e n)]; exact e, z⟩
theorem hr_new {o : HO} (h : HR K H m) (n : H p = none) : HR K (upd H p o) m := fun a u e => by
  obtain ⟨q, e1, r⟩ := h a u e
  exact ⟨q, by rw [upd_ne (ne_of_none e1 n)]; exact e1, r.mv (step_new n)⟩
/-- a new object that may change -/
theorem step_newM {o : HO} {u : MO} (n : H p = none) : Step H m (upd H p o) (put m p u) := fun a q e z => by
  have ne := ne_of_none e n
  exact ⟨by rw [upd_ne ne]; exact e, by rw [put_ne ne]; exact z⟩
theorem hr_newM {o : HO} {u : MO} (h : HR K H m) (n : H p = none) (r : RepO K H m o u) : HR K (upd H p o) (put m p u) := fun a q e => by
  by_cases ea : a = p
  · subst ea
    rw [put_same] at e
    cases e
    exact ⟨o, upd_same, r.mv (step_newM n)⟩
  · rw [put_ne ea] at e
    obtain ⟨q', e1, r1⟩ := h a q e
    exact ⟨q', by rw [upd_ne ea]; exact e1, r1.mv (step_newM n)⟩
/-- an object that may change is written -/
theorem step_set {o : HO} {u w : MO} (e : m p = some w) : Step H m (upd H p o) (put m p u) := fun a q e1 z => by
  have ne : a ≠ p := fun x => by subst x; rw [e] at z; cases z
  exact ⟨by rw [upd_ne ne]; exact e1, by rw [put_ne ne]; exact z⟩
theorem hr_set {o : HO} {u w : MO} (h : HR K H m) (e : m p = some w) (r : RepO K H m o u) : HR K (upd H p o) (put m p u) := fun a q e1 => by
  by_cases ea : a = p
  · subst ea
    rw [put_same] at e1
    cases e1
    exact ⟨o, upd_same, r.mv (step_set e)⟩
  · rw [put_ne ea] at e1
    obtain ⟨q', e2, r2⟩ := h a q e1
    exact ⟨q', by rw [upd_ne ea]; exact e2, r2.mv (step_set e)⟩
/-- what may change is forgotten -/
theorem step_del {p : Addr} : Step H m H (del m p) := fun a q e1 z => ⟨e1, by unfold del; split; rfl; exact z⟩
theorem hr_del (h : HR K H m) : HR K H (del m p) := fun a q e1 => by
  by_cases ea : a = p
  · subst ea
    unfold del at e1
    rw [if_pos rfl] at e1
    cases e1
  · have e2 : m a = some q := by
      unfold del at e1
      rw [if_neg ea] at e1
      exact e1
    obtain ⟨q', e3, r3⟩ := h a q e2
    exact ⟨q', e3, r3.mv step_del⟩
end

/-! ### the frame -/
abbrev Env3 := List (Option D)
def EnvR (K : PySem.W.Frag) (H : Hp) (m : Mem) (σ : L2.St) (ρ : Env3) : Prop := σ.length = ρ.length ∧ ∀ (i : Nat) (d : D), ρ[i]? = some (some d) → ∃ v, σ[i]? = some (some v) ∧ Rep K H m v d
structure Ok (K : PySem.W.Frag) (σ : L2.St) (H : Hp) (ρ : Env3) (m : Mem) : Prop where
  env : EnvR K H m σ ρ
  hr : HR K H m
theorem Ok.mv {K : PySem.W.Frag} {σ : L2.St} {H H' : Hp} {ρ : Env3} {m m' : Mem} (o : Ok K σ H ρ m) (s : Step H m H' m') (h : HR K H' m') : Ok K σ H' ρ m' :=
  ⟨⟨o.env.1, fun i d e => let ⟨v, a, r⟩ := o.env.2 i d e; ⟨v, a, r.mv s⟩⟩, h⟩
theorem Ok.set {K : PySem.W.Frag} {σ : L2.St} {H : Hp} {ρ : Env3} {m : Mem} {v : V} {d : D} (o : Ok K σ H ρ m) (i : Nat) (r : Rep K H m v d) : Ok K (σ.set i (some v)) H (ρ.set i (some d)) m := by
  refine ⟨⟨by rw [List.length_set, List.length_set]; exact o.env.1, fun j e h => ?_⟩, o.hr⟩
  by_cases ij : i = j
  · subst ij
    have hl : i < ρ.length := by
      have := (List.getElem?_eq_some_iff.mp h).1
      rw [List.length_set] at this
      exact this
    rw [List.getElem?_set_self hl] at h
    cases h
    exact ⟨v, List.getElem?_set_self (by rw [o.env.1]; exact hl), r⟩
  · rw [List.getElem?_set_ne ij] at h
    obtain ⟨v', a, r'⟩ := o.env.2 j e h
    exact ⟨v', by rw [List.getElem?_set_ne ij]; exact a, r'⟩
theorem Ok.weak {K : PySem.W.Frag} {σ : L2.St} {H : Hp} {ρ ρ' : Env3} {m : Mem} (o : Ok K σ H ρ m) (hl : ρ'.length = ρ.length) (h : ∀ (i : Nat) d, ρ'[i]? = some (some d) → ρ[i]? = some (some d)) : Ok K σ H ρ' m :=
  ⟨⟨o.env.1.trans hl.symm, fun i d e => o.env.2 i d (h i d e)⟩, o.hr⟩

/-! ### the readings by data -/
abbrev DK := D → Mem → Prop
abbrev TE3 := Env3 → Mem → DK → Prop
abbrev TT3 := Env3 → Mem → (Bool → Mem → Prop) → Prop
abbrev TA3 := Env3 → Mem → (List D → Mem → Prop) → Prop
structure Ends3 where
  nx : Env3 → Mem → Prop
  rt : DK
  bk : Env3 → Mem → Prop := fun _ _ => False
  ct : Env3 → Mem → Prop := fun _ _ => False
abbrev TS3 := Ends3 → Env3 → Mem → Prop
def EK (K : PySem.W.Frag) (H : Hp) (m : Mem) (P : DK) (Q : VK) : Prop := ∀ v H' d m', P d m' → Step H m H' m' → HR K H' m' → Rep K H' m' v d → Q v H'
def TK (K : PySem.W.Frag) (H : Hp) (m : Mem) (P : Bool → Mem → Prop) (Q : Bool → Hp → Prop) : Prop := ∀ b H' m', P b m' → Step H m H' m' → HR K H' m' → Q b H'
def AK (K : PySem.W.Frag) (H : Hp) (m : Mem) (P : List D → Mem → Prop) (Q : List V → Hp → Prop) : Prop := ∀ vs H' ds m', P ds m' → Step H m H' m' → HR K H' m' → Reps K H' m' vs ds → Q vs H'
def EL (K : PySem.W.Frag) (t : TE) (t3 : TE3) : Prop := ∀ σ H ρ m P Q, Ok K σ H ρ m → t3 ρ m P → EK K H m P Q → t σ H Q
def TL (K : PySem.W.Frag) (t : TT) (t3 : TT3) : Prop := ∀ σ H ρ m P Q, Ok K σ H ρ m → t3 ρ m P → TK K H m P Q → t σ H Q
def AL (K : PySem.W.Frag) (t : TA) (t3 : TA3) : Prop := ∀ σ H ρ m P Q, Ok K σ H ρ m → t3 ρ m P → AK K H m P Q → t σ H Q
structure Link (K : PySem.W.Frag) (H : Hp) (m : Mem) (D3 : Ends3) (E : Ends) : Prop where
  nx : ∀ σ' H' ρ' m', D3.nx ρ' m' → Step H m H' m' → Ok K σ' H' ρ' m' → E.nx σ' H'
  rt : EK K H m D3.rt E.rt
  bk : ∀ σ' H' ρ' m', D3.bk ρ' m' → Step H m H' m' → Ok K σ' H' ρ' m' → E.bk σ' H'
  ct : ∀ σ' H' ρ' m', D3.ct ρ' m' → Step H m H' m' → Ok K σ' H' ρ' m' → E.ct σ' H'
theorem Link.mv {K : PySem.W.Frag} {H H' : Hp} {m m' : Mem} {D3 : Ends3} {E : Ends} (l : Link K H m D3 E) (s : Step H m H' m') : Link K H' m' D3 E :=
  ⟨fun σ' H2 ρ' m2 h s2 o => l.nx σ' H2 ρ' m2 h (s.trans s2) o, fun v H2 d m2 p s2 h r => l.rt v H2 d m2 p (s.trans s2) h r,
   fun σ' H2 ρ' m2 h s2 o => l.bk σ' H2 ρ' m2 h (s.trans s2) o, fun σ' H2 ρ' m2 h s2 o => l.ct σ' H2 ρ' m2 h (s.trans s2) o⟩
def SL (K : PySem.W.Frag) (t : TS) (t3 : TS3) : Prop := ∀ σ H ρ m D3 E, Ok K σ H ρ m → t3 D3 ρ m → Link K H m D3 E → t E σ H
def PE3 (X : Cx) (e : Expr) (t3 : TE3) : Prop := ∃ t, PE X e t ∧ EL X.K t t3
def PT3 (X : Cx) (e : Expr) (t3 : TT3) : Prop := ∃ t, PT X e t ∧ TL X.K t t3
def PW3 (X : Cx) (e : Expr) (t3 : TT3) : Prop := ∃ t, PW X e t ∧ TL X.K t t3
def PA3 (X : Cx) (es : List Expr) (t3 : TA3) : Prop := ∃ t, PA X es t ∧ AL X.K t t3
def PS3 (X : Cx) (st : Stmt) (t3 : TS3) : Prop := ∃ t, PS X st t ∧ SL X.K t t3
def PSs3 (X : Cx) (st : List Stmt) (t3 : TS3) : Prop := ∃ t, PSs X st t ∧ SL X.K t t3
theorem EK.mv {K : PySem.W.Frag} {H H' : Hp} {m m' : Mem} {P : DK} {Q : VK} (k : EK K H m P Q) (s : Step H m H' m') : EK K H' m' P Q := fun v H2 d m2 p s2 h r => k v H2 d m2 p (s.trans s2) h r
theorem TK.mv {K : PySem.W.Frag} {H H' : Hp} {m m' : Mem} {P : Bool → Mem → Prop} {Q : Bool → Hp → Prop} (k : TK K H m P Q) (s : Step H m H' m') : TK K H' m' P Q := fun v H2 m2 p s2 h => k v H2 m2 p (s.trans s2) h
theorem AK.mv {K : PySem.W.Frag} {H H' : Hp} {m m' : Mem} {P : List D → Mem → Prop} {Q : List V → Hp → Prop} (k : AK K H m P Q) (s : Step H m H' m') : AK K H' m' P Q := fun v H2 d m2 p s2 h r => k v H2 d m2 p (s.trans s2) h r
theorem EK.now {K : PySem.W.Frag} {H : Hp} {m : Mem} {P : DK} {Q : VK} {v : V} {d : D} (k : EK K H m P Q) (h : HR K H m) (p : P d m) (r : Rep K H m v d) : Q v H := k v H d m p (Step.refl _ _) h r

/-! ### names, constants -/
def v3 (i : Nat) : TE3 := fun ρ m P => match ρ[i]? with
  | some (some d) => P d m
  | _ => False
def c3 (d : D) : TE3 := fun _ m P => P d m
section
variable {X : Cx} {pos : Pos} {e a b c : Expr} {ta tb tc : TE3} {t u : TT3}
theorem el_var {K : PySem.W.Frag} {i : Nat} : EL K (tVar i) (v3 i) := by
  intro σ H ρ m P Q o h k
  unfold v3 at h
  split at h
  · rename_i d e
    obtain ⟨v, e1, r⟩ := o.env.2 i d e
    exact ⟨v, e1, k.now o.hr h r⟩
  · exact h.elim
theorem e_v (i : Nat) {x : Str} {pos : Pos} (hN : X.N[i]? = some x := by rfl) (hv : Vis X.env.scope x := by first | exact Or.inl rfl | exact Or.inr (Or.inl rfl) | exact Or.inr (Or.inr rfl)) (hd : (x == ("__debug__" : Str)) = false := by decide)
    (hcd : (x == ("__classdict__" : Str)) = false := by decide) : PE3 X (.Name x pos) (v3 i) := ⟨_, pe_var hN hv hd hcd, el_var⟩
theorem el_c {K : PySem.W.Frag} {v : V} {d : D} (r : ∀ H m, Rep K H m v d) : EL K (tC v) (c3 d) := fun σ H ρ m P Q o h k => k.now o.hr h (r H m)
theorem e_int {i j pos} : PE3 X (.Constant (.int i) j pos) (c3 (.int i)) := ⟨_, pe_int, el_c fun _ _ => .int i⟩
theorem e_bl {b j pos} : PE3 X (.Constant (.bool b) j pos) (c3 (.bl b)) := ⟨_, pe_bl, el_c fun _ _ => .bl b⟩
theorem e_non {j pos} : PE3 X (.Constant .none j pos) (c3 .non) := ⟨_, pe_non, el_c fun _ _ => .non⟩
theorem e_str {x j pos} : PE3 X (.Constant (.str x) j pos) (c3 (.str x)) := ⟨_, pe_str, el_c fun _ _ => .str x⟩
/-- a module's constant -/
theorem e_glob {x : Str} {v : V} {d : D} {u : Value} {pos : Pos} (hg : Gl X x) (hm : X.mg x = some u) (r : RelV v u) (rd : ∀ H m, Rep X.K H m v d) (hd : (x == ("__debug__" : Str)) = false := by decide) : PE3 X (.Name x pos) (c3 d) := ⟨_, pe_glob hg hm r hd, el_c rd⟩
theorem e_type {x : Str} {n : String} {pos : Pos} (hg : Gl X x) (hm : X.mg x = none) (hv : bootBuiltins x = some (.type n)) (hn : x ≠ "__name__" := by decide) (hd : (x == ("__debug__" : Str)) = false := by decide) : PE3 X (.Name x pos) (c3 (.ty n)) :=
  ⟨_, pe_bltn (v := .ty n) hg hm hv rfl hn hd, el_c fun _ _ => .ty n⟩

/-! ### operators -/
abbrev F2 := D → D → Mem → DK → Prop
def op3 (f : F2) (ta tb : TE3) : TE3 := fun ρ m P => ta ρ m fun x m1 => tb ρ m1 fun y m2 => f x y m2 P
def RL (K : PySem.W.Frag) (r : R2) (f : F2) : Prop := ∀ x y d e H m P Q, HR K H m → Rep K H m x d → Rep K H m y e → f d e m P → EK K H m P Q → r x y H Q
theorem el_op {K : PySem.W.Frag} {t u : TE} {r : R2} {f : F2} (ha : EL K t ta) (hb : EL K u tb) (hr : RL K r f) : EL K (tOp r t u) (op3 f ta tb) := by
  intro σ H ρ m P Q o h k
  refine ha σ H ρ m _ _ o h fun x H1 d m1 p1 s1 h1 r1 => ?_
  refine hb σ H1 ρ m1 _ _ (o.mv s1 h1) p1 fun y H2 e m2 p2 s2 h2 r2 => ?_
  exact hr x y d e H2 m2 P Q h2 (r1.mv s2) r2 p2 (k.mv (s1.trans s2))
def fI (C : Int → Int → Prop) (g : Int → Int → D) : F2 := fun x y m P => match x, y with
  | .int i, .int j => C i j ∧ P (g i j) m
  | _, _ => False
def fI0 (g : Int → Int → D) : F2 := fun x y m P => match x, y with
  | .int i, .int j => P (g i j) m
  | _, _ => False
theorem rl_I {K : PySem.W.Frag} {C : Int → Int → Prop} {g : Int → Int → V} {g' : Int → Int → D} (hg : ∀ i j H m, Rep K H m (g i j) (g' i j)) : RL K (rI C g) (fI C g') := by
  intro x y d e H m P Q h r1 r2 f k
  unfold fI at f
  split at f
  · cases r1
    cases r2
    exact ⟨_, _, rfl, rfl, f.1, k.now h f.2 (hg _ _ _ _)⟩
  · exact f.elim
theorem rl_I0 {K : PySem.W.Frag} {g : Int → Int → V} {g' : Int → Int → D} (hg : ∀ i j H m, Rep K H m (g i j) (g' i j)) : RL K (rI0 g) (fI0 g') := by
  intro x y d e H m P Q h r1 r2 f k
  unfold fI0 at f
  split at f
  · cases r1
    cases r2
    exact ⟨_, _, rfl, rfl, k.now h f (hg _ _ _ _)⟩
  · exact f.elim
theorem e_op {op : Operator} {r : R2} {f : F2} (ho : OpR X (binaryOp op) r) (hr : RL X.K r f) (ha : PE3 X a ta) (hb : PE3 X b tb) : PE3 X (.BinOp a op b pos) (op3 f ta tb) :=
  let ⟨_, p, q⟩ := ha
  let ⟨_, p', q'⟩ := hb
  ⟨_, pe_op ho p p', el_op q q' hr⟩
theorem e_add (ha : PE3 X a ta) (hb : PE3 X b tb) : PE3 X (.BinOp a .Add b pos) (op3 (fI0 fun i j => .int (i + j)) ta tb) := e_op op_add (rl_I0 fun _ _ _ _ => .int _) ha hb
theorem e_sub (ha : PE3 X a ta) (hb : PE3 X b tb) : PE3 X (.BinOp a .Sub b pos) (op3 (fI0 fun i j => .int (i - j)) ta tb) := e_op op_sub (rl_I0 fun _ _ _ _ => .int _) ha hb
/-- a product of together at most 2 ^ 27 bits -/
theorem e_mul (ha : PE3 X a ta) (hb : PE3 X b tb) : PE3 X (.BinOp a .Mult b pos) (op3 (fI CMulX fun i j => .int (i * j)) ta tb) := e_op op_mulX (rl_I fun _ _ _ _ => .int _) ha hb
/-- // by a divisor that isn't 0, without the long way -/
def CFdiv (i j : Int) : Prop := j ≠ 0 ∧ Builtin.divisionGoesByPylong i j = false
theorem op_fdivG : OpR X (binaryOp .FloorDiv) (rI CFdiv fun i j => .int (i.fdiv j)) := opI fun _ _ _ _ _ _ _ hc q => PyProof.Rows.floordiv_int hc.1 q (.inl hc.2)
theorem e_fdiv (ha : PE3 X a ta) (hb : PE3 X b tb) : PE3 X (.BinOp a .FloorDiv b pos) (op3 (fI CFdiv fun i j => .int (i.fdiv j)) ta tb) := e_op op_fdivG (rl_I fun _ _ _ _ => .int _) ha hb
theorem e_mod (ha : PE3 X a ta) (hb : PE3 X b tb) : PE3 X (.BinOp a .Mod b pos) (op3 (fI (fun _ j => j ≠ 0) fun i j => .int (i.fmod j)) ta tb) := e_op op_modN (rl_I fun _ _ _ _ => .int _) ha hb
theorem e_pow (ha : PE3 X a ta) (hb : PE3 X b tb) : PE3 X (.BinOp a .Pow b pos) (op3 (fI CPow fun i j => .int (i ^ j.toNat)) ta tb) := e_op op_pow (rl_I fun _ _ _ _ => .int _) ha hb
theorem e_shl (ha : PE3 X a ta) (hb : PE3 X b tb) : PE3 X (.BinOp a .LShift b pos) (op3 (fI CShl fun i j => .int (i * 2 ^ j.toNat)) ta tb) := e_op op_shlW (rl_I fun _ _ _ _ => .int _) ha hb
theorem e_shr (ha : PE3 X a ta) (hb : PE3 X b tb) : PE3 X (.BinOp a .RShift b pos) (op3 (fI (fun _ j => 0 ≤ j) fun i j => .int (i / 2 ^ j.toNat)) ta tb) := e_op op_shr (rl_I fun _ _ _ _ => .int _) ha hb
theorem e_bitand (ha : PE3 X a ta) (hb : PE3 X b tb) : PE3 X (.BinOp a .BitAnd b pos) (op3 (fI0 fun i j => .int (Builtin.bitAnd i j)) ta tb) := e_op op_and (rl_I0 fun _ _ _ _ => .int _) ha hb
def neg3 (ta : TE3) : TE3 := fun ρ m P => ta ρ m fun x m1 => match x with
  | .int i => P (.int (-i)) m1
  | _ => False
theorem e_neg (ha : PE3 X a ta) : PE3 X (.UnaryOp .USub a pos) (neg3 ta) := by
  obtain ⟨t, p, q⟩ := ha
  refine ⟨_, pe_un un_neg p, fun σ H ρ m P Q o h k => ?_⟩
  refine q σ H ρ m _ _ o h fun x H1 d m1 p1 s1 h1 r1 => ?_
  cases d with
  | int i =>
    cases r1
    exact ⟨i, rfl, (k.mv s1).now h1 p1 (.int _)⟩
  | _ => exact (p1 : False).elim
/-- x.bit_length() -/
def bits3 (ta : TE3) : TE3 := fun ρ m P => ta ρ m fun x m1 => match x with
  | .int i => P (.int (Builtin.Int.intBits i : Nat)) m1
  | _ => False
theorem e_bits {apos : Pos} (ha : PE3 X a ta) (hbase : attributeBase a "bit_length" X.env (eval a X.env) = eval a X.env := by rfl) (hline : (apos.endLine == pos.line) = true := by rfl) : PE3 X (.Call (.Attribute a "bit_length" apos) [] [] pos) (bits3 ta) := by
  obtain ⟨t, p, q⟩ := ha
  refine ⟨_, pe_bits p hbase hline, fun σ H ρ m P Q o h k => ?_⟩
  refine q σ H ρ m _ _ o h fun x H1 d m1 p1 s1 h1 r1 => ?_
  cases d with
  | int i =>
    cases r1
    exact ⟨i, rfl, (k.mv s1).now h1 p1 (.int _)⟩
  | _ => exact (p1 : False).elim

/-! ### comparisons -/
theorem e_cmpR {op : CmpOp} {r : R2} {f : F2} (ho : OpR X (compareOp op) r) (hr : RL X.K r f) (ha : PE3 X a ta) (hb : PE3 X b tb) (hm : behindInMarks op b = false) : PE3 X (.Compare a [op] [b] pos) (op3 f ta tb) :=
  let ⟨_, p, q⟩ := ha
  let ⟨_, p', q'⟩ := hb
  ⟨_, pe_cmpR ho p p' hm, el_op q q' hr⟩
abbrev fLt : F2 := fI0 fun i j => .bl (decide (i < j))
abbrev fLe : F2 := fI0 fun i j => .bl (decide (i ≤ j))
abbrev fGt : F2 := fI0 fun i j => .bl (decide (j < i))
abbrev fGe : F2 := fI0 fun i j => .bl (decide (j ≤ i))
theorem rl_lt {K : PySem.W.Frag} : RL K (rI0 fun i j => .bl (decide (i < j))) fLt := rl_I0 fun _ _ _ _ => .bl _
theorem rl_le {K : PySem.W.Frag} : RL K (rI0 fun i j => .bl (decide (i ≤ j))) fLe := rl_I0 fun _ _ _ _ => .bl _
theorem rl_gt {K : PySem.W.Frag} : RL K (rI0 fun i j => .bl (decide (j < i))) fGt := rl_I0 fun _ _ _ _ => .bl _
theorem rl_ge {K : PySem.W.Frag} : RL K (rI0 fun i j => .bl (decide (j ≤ i))) fGe := rl_I0 fun _ _ _ _ => .bl _
theorem e_lt (ha : PE3 X a ta) (hb : PE3 X b tb) : PE3 X (.Compare a [.Lt] [b] pos) (op3 fLt ta tb) := e_cmpR op_lt rl_lt ha hb (nomark _)
theorem e_le (ha : PE3 X a ta) (hb : PE3 X b tb) : PE3 X (.Compare a [.LtE] [b] pos) (op3 fLe ta tb) := e_cmpR op_le rl_le ha hb (nomark _)
theorem e_gt (ha : PE3 X a ta) (hb : PE3 X b tb) : PE3 X (.Compare a [.Gt] [b] pos) (op3 fGt ta tb) := e_cmpR op_gt rl_gt ha hb (nomark _)
theorem e_ge (ha : PE3 X a ta) (hb : PE3 X b tb) : PE3 X (.Compare a [.GtE] [b] pos) (op3 fGe ta tb) := e_cmpR op_ge rl_ge ha hb (nomark _)
end
mutual
def toPy : D → Option PyData
  | .non => some .none
  | .bl b => some (.bool b)
  | .int i => some (.int i)
  | .str x => some (.str x)
  | .tup ds => (toPys ds).map .tuple
  | .lst ds => (toPys ds).map .list
  | .ref _ => none
  | .ty _ => none
def toPys : List D → Option (List PyData)
  | [] => some []
  | d :: ds => match toPy d, toPys ds with
    | some p, some ps => some (p :: ps)
    | _, _ => none
end
mutual
theorem Rep.dp {K : PySem.W.Frag} {H : Hp} {m : Mem} : ∀ (d : D) (v : V) (p : PyData), Rep K H m v d → toPy d = some p → Dp K H v p
  | .non, _, _, h, e => by cases h; rw [toPy] at e; cases e; exact .non
  | .bl b, _, _, h, e => by cases h; rw [toPy] at e; cases e; exact .bl b
  | .int i, _, _, h, e => by cases h; rw [toPy] at e; cases e; exact .int i
  | .str x, _, _, h, e => by cases h; rw [toPy] at e; cases e; exact .str x
  | .ref a, _, _, h, e => by rw [toPy] at e; cases e
  | .ty n, _, _, h, e => by rw [toPy] at e; cases e
  | .tup ds, _, _, h, e => by
    rw [toPy, Option.map_eq_some_iff] at e
    obtain ⟨ps, e1, e2⟩ := e
    subst e2
    cases h with
    | tup t r => exact .tup t.sq (Reps.dp ds _ ps r e1)
  | .lst ds, _, _, h, e => by
    rw [toPy, Option.map_eq_some_iff] at e
    obtain ⟨ps, e1, e2⟩ := e
    subst e2
    cases h with
    | lst t r => exact .lst t.sq (Reps.dp ds _ ps r e1)
theorem Reps.dp {K : PySem.W.Frag} {H : Hp} {m : Mem} : ∀ (ds : List D) (vs : List V) (ps : List PyData), Reps K H m vs ds → toPys ds = some ps → DpAll K H vs ps
  | [], _, _, h, e => by cases h; rw [toPys] at e; cases e; exact .nil
  | d :: ds, _, _, h, e => by
    cases h with
    | cons r rr =>
      rw [toPys] at e
      split at e
      · rename_i p ps e1 e2
        cases e
        exact .cons (Rep.dp d _ p r e1) (Reps.dp ds _ ps rr e2)
      · cases e
end
section
variable {X : Cx} {pos : Pos} {e a b c : Expr} {ta tb tc : TE3} {t u : TT3}
def deq (d e : D) : Bool := match toPy d, toPy e with
  | some p, some q => PyData.eqv p q
  | _, _ => false
def deqOk (d e : D) : Bool := match toPy d, toPy e with
  | some p, some q => SeqAt.shaped p && SeqAt.shaped q
  | _, _ => false
def fEq : F2 := fun x y m P => deqOk x y = true ∧ P (.bl (deq x y)) m
def fNe : F2 := fun x y m P => deqOk x y = true ∧ P (.bl (!deq x y)) m
theorem deqOk_some {d e : D} (h : deqOk d e = true) : ∃ p q, toPy d = some p ∧ toPy e = some q ∧ SeqAt.shaped p = true ∧ SeqAt.shaped q = true ∧ deq d e = PyData.eqv p q := by
  unfold deqOk at h
  unfold deq
  split at h
  · rename_i p q e1 e2
    rw [Bool.and_eq_true] at h
    exact ⟨p, q, e1, e2, h.1, h.2, rfl⟩
  · cases h
theorem rl_eq {K : PySem.W.Frag} : RL K (rEqD K) fEq := by
  intro x y d e H m P Q h r1 r2 f k
  obtain ⟨f1, f2⟩ := f
  obtain ⟨p, q, e1, e2, s1, s2, e3⟩ := deqOk_some f1
  rw [e3] at f2
  exact ⟨p, q, r1.dp _ _ _ e1, r2.dp _ _ _ e2, s1, s2, k.now h f2 (.bl _)⟩
theorem rl_ne {K : PySem.W.Frag} : RL K (rNeD K) fNe := by
  intro x y d e H m P Q h r1 r2 f k
  obtain ⟨f1, f2⟩ := f
  obtain ⟨p, q, e1, e2, s1, s2, e3⟩ := deqOk_some f1
  rw [e3] at f2
  exact ⟨p, q, r1.dp _ _ _ e1, r2.dp _ _ _ e2, s1, s2, k.now h f2 (.bl _)⟩
theorem e_eq {k : Nat} (hr : Room k X.A) (ha : PE3 X a ta) (hb : PE3 X b tb) : PE3 X (.Compare a [.Eq] [b] pos) (op3 fEq ta tb) := e_cmpR (op_eqD hr.units) rl_eq ha hb (nomark _)
theorem e_ne {k : Nat} (hr : Room k X.A) (ha : PE3 X a ta) (hb : PE3 X b tb) : PE3 X (.Compare a [.NotEq] [b] pos) (op3 fNe ta tb) := e_cmpR (op_neD hr.units) rl_ne ha hb (nomark _)
/-- == of two ints -/
abbrev fEqI : F2 := fI0 fun i j => .bl (decide (i = j))
abbrev fNeI : F2 := fI0 fun i j => .bl (!decide (i = j))
theorem op_eqI : OpR X (compareOp .Eq) (rI0 fun i j => .bl (decide (i = j))) := opB0 fun _ _ _ _ _ _ _ q => PyProof.Rows.eq_int (by rw [Bool.beq_eq_decide_eq]; exact q)
theorem op_neI : OpR X (compareOp .NotEq) (rI0 fun i j => .bl (!decide (i = j))) := opB0 fun _ _ _ _ _ _ _ q => PyProof.Rows.ne_int (by rw [bne, Bool.beq_eq_decide_eq]; exact q)
theorem rl_eqI {K : PySem.W.Frag} : RL K (rI0 fun i j => .bl (decide (i = j))) fEqI := rl_I0 fun _ _ _ _ => .bl _
theorem rl_neI {K : PySem.W.Frag} : RL K (rI0 fun i j => .bl (!decide (i = j))) fNeI := rl_I0 fun _ _ _ _ => .bl _
theorem e_eqI (ha : PE3 X a ta) (hb : PE3 X b tb) : PE3 X (.Compare a [.Eq] [b] pos) (op3 fEqI ta tb) := e_cmpR op_eqI rl_eqI ha hb (nomark _)
theorem e_neI (ha : PE3 X a ta) (hb : PE3 X b tb) : PE3 X (.Compare a [.NotEq] [b] pos) (op3 fNeI ta tb) := e_cmpR op_neI rl_neI ha hb (nomark _)
def dIsN : D → Bool
  | .non => true
  | _ => false
def isN3 (ta : TE3) : TE3 := fun ρ m P => ta ρ m fun x m1 => P (.bl (dIsN x)) m1
def notN3 (ta : TE3) : TE3 := fun ρ m P => ta ρ m fun x m1 => P (.bl (!dIsN x)) m1
theorem isN_eq {K : PySem.W.Frag} {H : Hp} {m : Mem} {v : V} {d : D} (r : Rep K H m v d) : decide (v = V.non) = dIsN d := by
  cases r <;> rfl
theorem e_isN {j pos'} (ha : PE3 X a ta) : PE3 X (.Compare a [.Is] [.Constant .none j pos'] pos) (isN3 ta) := by
  obtain ⟨t, p, q⟩ := ha
  refine ⟨_, pe_cmp (pc_isN p), fun σ H ρ m P Q o h k => ?_⟩
  refine q σ H ρ m _ _ o h fun x H1 d m1 p1 s1 h1 r1 => ?_
  show Q (.bl (decide (x = .non))) H1
  rw [isN_eq r1]
  exact (k.mv s1).now h1 p1 (.bl _)
theorem e_notN {j pos'} (ha : PE3 X a ta) : PE3 X (.Compare a [.IsNot] [.Constant .none j pos'] pos) (notN3 ta) := by
  obtain ⟨t, p, q⟩ := ha
  refine ⟨_, pe_cmp (pc_notN p), fun σ H ρ m P Q o h k => ?_⟩
  refine q σ H ρ m _ _ o h fun x H1 d m1 p1 s1 h1 r1 => ?_
  show Q (.bl (!decide (x = .non))) H1
  rw [isN_eq r1]
  exact (k.mv s1).now h1 p1 (.bl _)
/-- a op b op' c -/
def chain3 (f f' : F2) (ta tb tc : TE3) : TE3 := fun ρ m P => ta ρ m fun x m1 => tb ρ m1 fun y m2 => f x y m2 fun z m3 => match z with
  | .bl k => if k = true then tc ρ m3 fun w m4 => f' y w m4 P else P (.bl false) m3
  | _ => False
theorem e_chain {op op' : CmpOp} {r r' : R2} {f f' : F2} (ho : OpR X (compareOp op) r) (hr : RL X.K r f) (ho' : OpR X (compareOp op') r') (hr' : RL X.K r' f') (ha : PE3 X a ta) (hb : PE3 X b tb) (hc : PE3 X c tc)
    (hm : lastMarks [op, op'] [b, c] = false := by with_unfolding_all rfl) : PE3 X (.Compare a [op, op'] [b, c] pos) (chain3 f f' ta tb tc) := by
  obtain ⟨_, p1, q1⟩ := ha
  obtain ⟨_, p2, q2⟩ := hb
  obtain ⟨_, p3, q3⟩ := hc
  refine ⟨_, pe_chain ho ho' p1 p2 p3 hm, fun σ H ρ m P Q o h k => ?_⟩
  refine q1 σ H ρ m _ _ o h fun x H1 d m1 p1 s1 h1 r1 => ?_
  refine q2 σ H1 ρ m1 _ _ (o.mv s1 h1) p1 fun y H2 e m2 p2 s2 h2 r2 => ?_
  refine hr x y d e H2 m2 _ _ h2 (r1.mv s2) r2 p2 fun z H3 g m3 p3 s3 h3 r3 => ?_
  cases g with
  | bl b =>
    cases r3
    refine ⟨b, rfl, ?_⟩
    cases b with
    | true =>
      have p3 : tc ρ m3 fun w m4 => f' e w m4 P := p3
      rw [if_pos rfl]
      refine q3 σ H3 ρ m3 _ _ (o.mv (s1.trans (s2.trans s3)) h3) p3 fun w H4 g m4 p4 s4 h4 r4 => ?_
      exact hr' y w e g H4 m4 P Q h4 (r2.mv (s3.trans s4)) r4 p4 (k.mv (s1.trans (s2.trans (s3.trans s4))))
    | false =>
      rw [if_neg Bool.false_ne_true]
      exact (k.mv (s1.trans (s2.trans s3))).now h3 p3 (.bl _)
  | _ => exact (p3 : False).elim

/-! ### tests -/
def b3 (ta : TE3) : TT3 := fun ρ m P => ta ρ m fun x m1 => match x with
  | .bl k => P k m1
  | _ => False
theorem t_val (ha : PE3 X e ta) (he : ∀ whole, isTrue e X.env whole = (do let v ← whole; standAt e.pos; holding [v] (truthy v)) := by intro _; rfl) : PT3 X e (b3 ta) := by
  obtain ⟨t, p, q⟩ := ha
  refine ⟨_, pt_val p he, fun σ H ρ m P Q o h k => ?_⟩
  refine q σ H ρ m _ _ o h fun x H1 d m1 p1 s1 h1 r1 => ?_
  cases d with
  | bl b =>
    cases r1
    exact ⟨b, rfl, k b H1 m1 p1 s1 h1⟩
  | _ => exact (p1 : False).elim
theorem t_cmpR {op : CmpOp} {r : R2} {f : F2} (ho : OpR X (compareOp op) r) (hr : RL X.K r f) (ha : PE3 X a ta) (hb : PE3 X b tb) (hm : behindInMarks op b = false) : PT3 X (.Compare a [op] [b] pos) (b3 (op3 f ta tb)) := by
  obtain ⟨_, p, q⟩ := ha
  obtain ⟨_, p', q'⟩ := hb
  refine ⟨_, pt_cmpR ho p p' hm, fun σ H ρ m P Q o h k => ?_⟩
  refine el_op q q' hr σ H ρ m _ _ o h fun x H1 d m1 p1 s1 h1 r1 => ?_
  cases d with
  | bl b =>
    cases r1
    exact ⟨b, rfl, k b H1 m1 p1 s1 h1⟩
  | _ => exact (p1 : False).elim
theorem t_lt (ha : PE3 X a ta) (hb : PE3 X b tb) : PT3 X (.Compare a [.Lt] [b] pos) (b3 (op3 fLt ta tb)) := t_cmpR op_lt rl_lt ha hb (nomark _)
theorem t_le (ha : PE3 X a ta) (hb : PE3 X b tb) : PT3 X (.Compare a [.LtE] [b] pos) (b3 (op3 fLe ta tb)) := t_cmpR op_le rl_le ha hb (nomark _)
theorem t_gt (ha : PE3 X a ta) (hb : PE3 X b tb) : PT3 X (.Compare a [.Gt] [b] pos) (b3 (op3 fGt ta tb)) := t_cmpR op_gt rl_gt ha hb (nomark _)
theorem t_ge (ha : PE3 X a ta) (hb : PE3 X b tb) : PT3 X (.Compare a [.GtE] [b] pos) (b3 (op3 fGe ta tb)) := t_cmpR op_ge rl_ge ha hb (nomark _)
theorem t_eqI (ha : PE3 X a ta) (hb : PE3 X b tb) : PT3 X (.Compare a [.Eq] [b] pos) (b3 (op3 fEqI ta tb)) := t_cmpR op_eqI rl_eqI ha hb (nomark _)
theorem t_neI (ha : PE3 X a ta) (hb : PE3 X b tb) : PT3 X (.Compare a [.NotEq] [b] pos) (b3 (op3 fNeI ta tb)) := t_cmpR op_neI rl_neI ha hb (nomark _)
theorem t_eq {k : Nat} (hr : Room k X.A) (ha : PE3 X a ta) (hb : PE3 X b tb) : PT3 X (.Compare a [.Eq] [b] pos) (b3 (op3 fEq ta tb)) := t_cmpR (op_eqD hr.units) rl_eq ha hb (nomark _)
theorem t_ne {k : Nat} (hr : Room k X.A) (ha : PE3 X a ta) (hb : PE3 X b tb) : PT3 X (.Compare a [.NotEq] [b] pos) (b3 (op3 fNe ta tb)) := t_cmpR (op_neD hr.units) rl_ne ha hb (nomark _)
theorem t_isN {j pos'} (ha : PE3 X a ta) : PT3 X (.Compare a [.Is] [.Constant .none j pos'] pos) (b3 (isN3 ta)) := by
  obtain ⟨t, p, q⟩ := ha
  refine ⟨_, pt_cmp (pc_isN p), fun σ H ρ m P Q o h k => ?_⟩
  refine q σ H ρ m _ _ o h fun x H1 d m1 p1 s1 h1 r1 => ?_
  exact ⟨_, rfl, by rw [isN_eq r1]; exact k _ H1 m1 p1 s1 h1⟩
theorem t_notN {j pos'} (ha : PE3 X a ta) : PT3 X (.Compare a [.IsNot] [.Constant .none j pos'] pos) (b3 (notN3 ta)) := by
  obtain ⟨t, p, q⟩ := ha
  refine ⟨_, pt_cmp (pc_notN p), fun σ H ρ m P Q o h k => ?_⟩
  refine q σ H ρ m _ _ o h fun x H1 d m1 p1 s1 h1 r1 => ?_
  exact ⟨_, rfl, by rw [isN_eq r1]; exact k _ H1 m1 p1 s1 h1⟩
theorem t_chain {op op' : CmpOp} {r r' : R2} {f f' : F2} (ho : OpR X (compareOp op) r) (hr : RL X.K r f) (ho' : OpR X (compareOp op') r') (hr' : RL X.K r' f') (ha : PE3 X a ta) (hb : PE3 X b tb) (hc : PE3 X c tc)
    (hm : lastMarks [op, op'] [b, c] = false := by with_unfolding_all rfl) : PT3 X (.Compare a [op, op'] [b, c] pos) (b3 (chain3 f f' ta tb tc)) := by
  obtain ⟨_, p1, q1⟩ := ha
  obtain ⟨_, p2, q2⟩ := hb
  obtain ⟨_, p3, q3⟩ := hc
  refine ⟨_, pt_chain ho ho' p1 p2 p3 hm, fun σ H ρ m P Q o h k => ?_⟩
  refine q1 σ H ρ m _ _ o h fun x H1 d m1 p1 s1 h1 r1 => ?_
  refine q2 σ H1 ρ m1 _ _ (o.mv s1 h1) p1 fun y H2 e m2 p2 s2 h2 r2 => ?_
  refine hr x y d e H2 m2 _ _ h2 (r1.mv s2) r2 p2 fun z H3 g m3 p3 s3 h3 r3 => ?_
  cases g with
  | bl b =>
    cases r3
    refine ⟨b, rfl, ?_⟩
    cases b with
    | true =>
      have p3 : tc ρ m3 fun w m4 => f' e w m4 _ := p3
      rw [if_pos rfl]
      refine q3 σ H3 ρ m3 _ _ (o.mv (s1.trans (s2.trans s3)) h3) p3 fun w H4 g m4 p4 s4 h4 r4 => ?_
      refine hr' y w e g H4 m4 _ _ h4 (r2.mv (s3.trans s4)) r4 p4 fun u H5 g5 m5 p5 s5 h5 r5 => ?_
      cases g5 with
      | bl b5 =>
        cases r5
        exact ⟨b5, rfl, k b5 H5 m5 p5 (s1.trans (s2.trans (s3.trans (s4.trans s5)))) h5⟩
      | _ => exact (p5 : False).elim
    | false =>
      rw [if_neg Bool.false_ne_true]
      exact ⟨false, rfl, k false H3 m3 p3 (s1.trans (s2.trans s3)) h3⟩
  | _ => exact (p3 : False).elim
def and3 (t u : TT3) : TT3 := fun ρ m P => t ρ m fun c m1 => if c = true then u ρ m1 P else P false m1
def or3 (t u : TT3) : TT3 := fun ρ m P => t ρ m fun c m1 => if c = true then P true m1 else u ρ m1 P
def not3 (t : TT3) : TT3 := fun ρ m P => t ρ m fun c m1 => P (!c) m1
variable {rest : List Expr}
theorem t_and1 (ha : PT3 X a t) : PW3 X (.BoolOp .And [a] pos) t := let ⟨_, p, q⟩ := ha; ⟨_, pw_and1 p, q⟩
theorem t_or1 (ha : PT3 X a t) : PW3 X (.BoolOp .Or [a] pos) t := let ⟨_, p, q⟩ := ha; ⟨_, pw_or1 p, q⟩
theorem t_and (ha : PT3 X a t) (hb : PW3 X (.BoolOp .And (b :: rest) pos) u) : PW3 X (.BoolOp .And (a :: b :: rest) pos) (and3 t u) := by
  obtain ⟨_, p, q⟩ := ha
  obtain ⟨_, p', q'⟩ := hb
  refine ⟨_, pw_and p p', fun σ H ρ m P Q o h k => ?_⟩
  refine q σ H ρ m _ _ o h fun c H1 m1 p1 s1 h1 => ?_
  cases c with
  | true =>
    rw [if_pos rfl] at p1 ⊢
    exact q' σ H1 ρ m1 _ _ (o.mv s1 h1) p1 (k.mv s1)
  | false =>
    rw [if_neg Bool.false_ne_true] at p1 ⊢
    exact k false H1 m1 p1 s1 h1
theorem t_or (ha : PT3 X a t) (hb : PW3 X (.BoolOp .Or (b :: rest) pos) u) : PW3 X (.BoolOp .Or (a :: b :: rest) pos) (or3 t u) := by
  obtain ⟨_, p, q⟩ := ha
  obtain ⟨_, p', q'⟩ := hb
  refine ⟨_, pw_or p p', fun σ H ρ m P Q o h k => ?_⟩
  refine q σ H ρ m _ _ o h fun c H1 m1 p1 s1 h1 => ?_
  cases c with
  | true =>
    rw [if_pos rfl] at p1 ⊢
    exact k true H1 m1 p1 s1 h1
  | false =>
    rw [if_neg Bool.false_ne_true] at p1 ⊢
    exact q' σ H1 ρ m1 _ _ (o.mv s1 h1) p1 (k.mv s1)
theorem t_w (h : PW3 X e t) : PT3 X e t := let ⟨_, p, q⟩ := h; ⟨_, p.pt, q⟩
theorem t_not (ha : PT3 X a t) : PT3 X (.UnaryOp .Not a pos) (not3 t) := by
  obtain ⟨_, p, q⟩ := ha
  refine ⟨_, pt_not p, fun σ H ρ m P Q o h k => ?_⟩
  exact q σ H ρ m _ _ o h fun c H1 m1 p1 s1 h1 => k _ H1 m1 p1 s1 h1
/-- as values -/
def andV3 (ta tb : TE3) : TE3 := fun ρ m P => ta ρ m fun x m1 => match x with
  | .bl c => if c = true then tb ρ m1 P else P (.bl false) m1
  | _ => False
def orV3 (ta tb : TE3) : TE3 := fun ρ m P => ta ρ m fun x m1 => match x with
  | .bl c => if c = true then P (.bl true) m1 else tb ρ m1 P
  | _ => False
def notV3 (ta : TE3) : TE3 := fun ρ m P => ta ρ m fun x m1 => match x with
  | .bl c => P (.bl (!c)) m1
  | _ => False
theorem e_one {op} (h : PE3 X a ta) : PE3 X (.BoolOp op [a] pos) ta := let ⟨_, p, q⟩ := h; ⟨_, pe_one p, q⟩
theorem e_and (ha : PE3 X a ta) (hb : PE3 X (.BoolOp .And (b :: rest) pos) tb) : PE3 X (.BoolOp .And (a :: b :: rest) pos) (andV3 ta tb) := by
  obtain ⟨_, p, q⟩ := ha
  obtain ⟨_, p', q'⟩ := hb
  refine ⟨_, pe_and p p', fun σ H ρ m P Q o h k => ?_⟩
  refine q σ H ρ m _ _ o h fun x H1 d m1 p1 s1 h1 r1 => ?_
  cases d with
  | bl c =>
    cases r1
    refine ⟨c, rfl, ?_⟩
    cases c with
    | true =>
      have p2 : tb ρ m1 P := p1
      rw [if_pos rfl]
      exact q' σ H1 ρ m1 _ _ (o.mv s1 h1) p2 (k.mv s1)
    | false =>
      rw [if_neg Bool.false_ne_true]
      exact (k.mv s1).now h1 p1 (.bl _)
  | _ => exact (p1 : False).elim
theorem e_or (ha : PE3 X a ta) (hb : PE3 X (.BoolOp .Or (b :: rest) pos) tb) : PE3 X (.BoolOp .Or (a :: b :: rest) pos) (orV3 ta tb) := by
  obtain ⟨_, p, q⟩ := ha
  obtain ⟨_, p', q'⟩ := hb
  refine ⟨_, pe_or p p', fun σ H ρ m P Q o h k => ?_⟩
  refine q σ H ρ m _ _ o h fun x H1 d m1 p1 s1 h1 r1 => ?_
  cases d with
  | bl c =>
    cases r1
    refine ⟨c, rfl, ?_⟩
    cases c with
    | true =>
      rw [if_pos rfl]
      exact (k.mv s1).now h1 p1 (.bl _)
    | false =>
      have p2 : tb ρ m1 P := p1
      rw [if_neg Bool.false_ne_true]
      exact q' σ H1 ρ m1 _ _ (o.mv s1 h1) p2 (k.mv s1)
  | _ => exact (p1 : False).elim
theorem e_not (ha : PE3 X a ta) : PE3 X (.UnaryOp .Not a pos) (notV3 ta) := by
  obtain ⟨_, p, q⟩ := ha
  refine ⟨_, pe_not p, fun σ H ρ m P Q o h k => ?_⟩
  refine q σ H ρ m _ _ o h fun x H1 d m1 p1 s1 h1 r1 => ?_
  cases d with
  | bl c =>
    cases r1
    exact ⟨c, rfl, (k.mv s1).now h1 p1 (.bl _)⟩
  | _ => exact (p1 : False).elim
def if3 (t : TT3) (ta tb : TE3) : TE3 := fun ρ m P => t ρ m fun c m1 => if c = true then ta ρ m1 P else tb ρ m1 P
theorem e_if (hc : PT3 X c t) (ha : PE3 X a ta) (hb : PE3 X b tb) : PE3 X (.IfExp c a b pos) (if3 t ta tb) := by
  obtain ⟨_, p0, q0⟩ := hc
  obtain ⟨_, p, q⟩ := ha
  obtain ⟨_, p', q'⟩ := hb
  refine ⟨_, pe_ifExp p0 p p', fun σ H ρ m P Q o h k => ?_⟩
  refine q0 σ H ρ m _ _ o h fun c H1 m1 p1 s1 h1 => ?_
  cases c with
  | true =>
    rw [if_pos rfl] at p1 ⊢
    exact q σ H1 ρ m1 _ _ (o.mv s1 h1) p1 (k.mv s1)
  | false =>
    rw [if_neg Bool.false_ne_true] at p1 ⊢
    exact q' σ H1 ρ m1 _ _ (o.mv s1 h1) p1 (k.mv s1)

/-! ### argument lists, tuples, lists -/
variable {es : List Expr} {tr : TA3}
def nil3 : TA3 := fun _ m P => P [] m
def cons3 (ta : TE3) (tr : TA3) : TA3 := fun ρ m P => ta ρ m fun x m1 => tr ρ m1 fun xs m2 => P (x :: xs) m2
theorem a_nil : PA3 X [] nil3 := ⟨_, pa_nil, fun σ H ρ m P Q o h k => k [] H [] m h (Step.refl _ _) o.hr .nil⟩
theorem a_cons (ha : PE3 X e ta) (hr : PA3 X es tr) (hs : starEach (e :: es) X.env = (false, eval e X.env) :: starEach es X.env := by rfl) : PA3 X (e :: es) (cons3 ta tr) := by
  obtain ⟨_, p, q⟩ := ha
  obtain ⟨_, p', q'⟩ := hr
  refine ⟨_, pa_cons p p' hs, fun σ H ρ m P Q o h k => ?_⟩
  refine q σ H ρ m _ _ o h fun x H1 d m1 p1 s1 h1 r1 => ?_
  refine q' σ H1 ρ m1 _ _ (o.mv s1 h1) p1 fun xs H2 ds m2 p2 s2 h2 r2 => ?_
  exact k (x :: xs) H2 (d :: ds) m2 p2 (s1.trans s2) h2 (.cons (r1.mv s2) r2)
/-- a short display -/
def Short (n : Nat) : Prop := n ≤ 16000
theorem Short.line {n : Nat} (h : Short n) : n ≤ sizeLine := Nat.le_trans h (by decide)
def tup3 (tr : TA3) : TE3 := fun ρ m P => tr ρ m fun xs m1 => xs.length ≤ 16000 ∧ P (.tup xs) m1
def lst3 (tr : TA3) : TE3 := fun ρ m P => tr ρ m fun xs m1 => xs.length ≤ 16000 ∧ P (.lst xs) m1
/-- a list that will change -/
def lstM3 (tr : TA3) : TE3 := fun ρ m P => tr ρ m fun xs m1 => xs.length ≤ 16000 ∧ ∀ p, m1 p = none → P (.ref p) (put m1 p (.lst xs))
theorem e_tup {x1} (h : PA3 X es tr) : PE3 X (.Tuple es x1 pos) (tup3 tr) := by
  obtain ⟨_, p, q⟩ := h
  refine ⟨_, pe_tup p, fun σ H ρ m P Q o h k => ?_⟩
  refine q σ H ρ m _ _ o h fun xs H1 ds m1 p1 s1 h1 r1 => ⟨by rw [r1.length]; exact Short.line p1.1, fun p hp => ?_⟩
  exact k _ _ _ _ p1.2 (s1.trans (step_new hp)) (hr_new h1 hp) (.tup (.inl ⟨.inl upd_same, h1.none hp⟩) (r1.mv (step_new hp)))
theorem e_lst (h : PA3 X es tr) : PE3 X (.List es pos) (lst3 tr) := by
  obtain ⟨_, p, q⟩ := h
  refine ⟨_, pe_lst p, fun σ H ρ m P Q o h k => ?_⟩
  refine q σ H ρ m _ _ o h fun xs H1 ds m1 p1 s1 h1 r1 => ⟨by rw [r1.length]; exact Short.line p1.1, fun p hp => ?_⟩
  exact k _ _ _ _ p1.2 (s1.trans (step_new hp)) (hr_new h1 hp) (.lst (.inl ⟨.inl upd_same, h1.none hp⟩) (r1.mv (step_new hp)))
theorem e_lstM (h : PA3 X es tr) : PE3 X (.List es pos) (lstM3 tr) := by
  obtain ⟨_, p, q⟩ := h
  refine ⟨_, pe_lst p, fun σ H ρ m P Q o h k => ?_⟩
  refine q σ H ρ m _ _ o h fun xs H1 ds m1 p1 s1 h1 r1 => ⟨by rw [r1.length]; exact Short.line p1.1, fun p hp => ?_⟩
  exact k _ _ _ _ (p1.2 p (h1.none hp)) (s1.trans (step_newM hp)) (hr_newM h1 hp r1) (.ref p)

/-! ### subscripts -/
theorem atI_map {α β : Type} {xs : List α} {ys : List β} {R : α → β → Prop} (hl : xs.length = ys.length) (hg : ∀ (i : Nat) y, ys[i]? = some y → ∃ x, xs[i]? = some x ∧ R x y) {i : Int} {y : β} (h : atI ys i = some y) : ∃ x, atI xs i = some x ∧ R x y := by
  unfold atI at h ⊢
  rw [hl]
  cases e : ixN ys.length i with
  | none => rw [e] at h; cases h
  | some j =>
    rw [e] at h
    exact hg j y h
theorem Reps.atI {K : PySem.W.Frag} {H : Hp} {m : Mem} {vs : List V} {ds : List D} (r : Reps K H m vs ds) {i : Int} {d : D} (h : L2.atI ds i = some d) : ∃ v, L2.atI vs i = some v ∧ Rep K H m v d :=
  atI_map r.length (fun j y e => r.get e) h
/-- the item at a place -/
def at3 (ds : List D) (i : Int) (m : Mem) (P : DK) : Prop := match L2.atI ds i with
  | some v => P v m
  | none => False
theorem at3_some {ds : List D} {i : Int} {m : Mem} {P : DK} (h : at3 ds i m P) : ∃ v, L2.atI ds i = some v ∧ P v m := by
  unfold at3 at h
  split at h
  · rename_i v e
    exact ⟨v, e, h⟩
  · exact h.elim
def fIx : F2 := fun x y m P => match x, y with
  | .tup ds, .int i => at3 ds i m P
  | .lst ds, .int i => at3 ds i m P
  | .ref a, .int i => match m a with
    | some (.lst ds) => at3 ds i m P
    | _ => False
  | .str z, .int i => ∃ c, z.length ≤ 16000 ∧ L2.atI z.cps.toList i = some c ∧ P (.str ⟨#[c]⟩) m
  | _, _ => False
theorem rl_ix {K : PySem.W.Frag} : RL K (rIx K) fIx := by
  intro x y d e H m P Q h r1 r2 f k
  unfold fIx at f
  split at f
  · obtain ⟨v, e1, p1⟩ := at3_some f
    cases r2
    cases r1 with
    | tup t r =>
      obtain ⟨w, e2, rw2⟩ := r.atI e1
      exact .inr (.inl ⟨_, _, _, _, rfl, rfl, t.sq, e2, k.now h p1 rw2⟩)
  · obtain ⟨v, e1, p1⟩ := at3_some f
    cases r2
    cases r1 with
    | lst t r =>
      obtain ⟨w, e2, rw2⟩ := r.atI e1
      exact .inl ⟨_, _, _, _, rfl, rfl, t.sq, e2, k.now h p1 rw2⟩
  · split at f
    · rename_i ds em
      obtain ⟨v, e1, p1⟩ := at3_some f
      cases r2
      cases r1
      obtain ⟨xs, ex, r⟩ := h.lst em
      obtain ⟨w, e2, rw2⟩ := r.atI e1
      exact .inl ⟨_, _, _, _, rfl, rfl, SqL.of ex, e2, k.now h p1 rw2⟩
    · exact f.elim
  · obtain ⟨c, hz, e1, p1⟩ := f
    cases r2
    cases r1
    exact .inr (.inr ⟨_, _, c, rfl, rfl, Nat.le_trans hz (by decide), e1, k.now h p1 (.str _)⟩)
  · exact f.elim
theorem e_ix (ha : PE3 X a ta) (hb : PE3 X b tb) (hs : PlainIx b := by exact fun _ _ => rfl) : PE3 X (.Subscript a b pos) (op3 fIx ta tb) :=
  let ⟨_, p, q⟩ := ha
  let ⟨_, p', q'⟩ := hb
  ⟨_, pe_ix ix_seq p p' hs, el_op q q' rl_ix⟩

/-! ### slices of lists: a new list -/
abbrev TO3 := Env3 → Mem → (Option Int → Mem → Prop) → Prop
def OK3 (K : PySem.W.Frag) (H : Hp) (m : Mem) (P : Option Int → Mem → Prop) (Q : Option Int → Hp → Prop) : Prop := ∀ i H' m', P i m' → Step H m H' m' → HR K H' m' → Q i H'
def PO3 (X : Cx) (e : Option Expr) (t3 : TO3) : Prop := ∃ t, PO X e t ∧ ∀ σ H ρ m P Q, Ok X.K σ H ρ m → t3 ρ m P → OK3 X.K H m P Q → t σ H Q
def noPart3 : TO3 := fun _ m P => P none m
def part3 (ta : TE3) : TO3 := fun ρ m P => ta ρ m fun x m1 => match x with
  | .int i => P (some i) m1
  | _ => False
theorem o_none : PO3 X none noPart3 := ⟨_, po_none, fun σ H ρ m P Q o h k => k none H m h (Step.refl _ _) o.hr⟩
theorem o_some (ha : PE3 X a ta) : PO3 X (some a) (part3 ta) := by
  obtain ⟨_, p, q⟩ := ha
  refine ⟨_, po_some p, fun σ H ρ m P Q o h k => ?_⟩
  refine q σ H ρ m _ _ o h fun x H1 d m1 p1 s1 h1 r1 => ?_
  cases d with
  | int i =>
    cases r1
    exact ⟨i, rfl, k (some i) H1 m1 p1 s1 h1⟩
  | _ => exact (p1 : False).elim
def cutD (ds : List D) (lo hi : Option Int) : List D := (ds.drop (HT.sIx ds.length 0 lo)).take (HT.sIx ds.length ds.length hi - HT.sIx ds.length 0 lo)

/-! ### blocks -/
def nx3 : TS3 := fun D ρ m => D.nx ρ m
def seq3 (t u : TS3) : TS3 := fun D ρ m => t { D with nx := u D } ρ m
variable {st : Stmt} {sts : List Stmt} {ts us : TS3}
theorem ss_nil : PSs3 X [] nx3 := ⟨_, pss_nil, fun σ H ρ m D3 E o h l => l.nx σ H ρ m h (Step.refl _ _) o⟩
theorem ss_cons (h1 : PS3 X st ts) (h2 : PSs3 X sts us) : PSs3 X (st :: sts) (seq3 ts us) := by
  obtain ⟨_, p, q⟩ := h1
  obtain ⟨_, p', q'⟩ := h2
  refine ⟨_, pss_cons p p', fun σ H ρ m D3 E o h l => ?_⟩
  refine q σ H ρ m _ _ o h ⟨fun σ' H' ρ' m' h' s' o' => ?_, l.rt, l.bk, l.ct⟩
  exact q' σ' H' ρ' m' D3 E o' h' (l.mv s')
theorem ss_one (h1 : PS3 X st ts) : PSs3 X [st] ts := let ⟨_, p, q⟩ := h1; ⟨_, pss_one p, q⟩
def brk3 : TS3 := fun D ρ m => D.bk ρ m
def cont3 : TS3 := fun D ρ m => D.ct ρ m
theorem s_pass : PS3 X (.Pass pos) nx3 := ⟨_, ps_pass, fun σ H ρ m D3 E o h l => l.nx σ H ρ m h (Step.refl _ _) o⟩
theorem s_break : PS3 X (.Break pos) brk3 := ⟨_, ps_break, fun σ H ρ m D3 E o h l => l.bk σ H ρ m h (Step.refl _ _) o⟩
theorem s_continue : PS3 X (.Continue pos) cont3 := ⟨_, ps_continue, fun σ H ρ m D3 E o h l => l.ct σ H ρ m h (Step.refl _ _) o⟩
def drop3 (ta : TE3) : TS3 := fun D ρ m => ta ρ m fun _ m1 => D.nx ρ m1
theorem s_expr (ha : PE3 X e ta) (hs : swapsWith e none pos.line X.env = pure false := by rfl) : PS3 X (.Expr e pos) (drop3 ta) := by
  obtain ⟨_, p, q⟩ := ha
  refine ⟨_, ps_expr p hs, fun σ H ρ m D3 E o h l => ?_⟩
  exact q σ H ρ m _ _ o h fun x H1 d m1 p1 s1 h1 r1 => l.nx σ H1 ρ m1 p1 s1 (o.mv s1 h1)
def ret3 (ta : TE3) : TS3 := fun D ρ m => ta ρ m D.rt
theorem s_ret (ha : PE3 X e ta) : PS3 X (.Return (some e) pos) (ret3 ta) := by
  obtain ⟨_, p, q⟩ := ha
  exact ⟨_, ps_ret p, fun σ H ρ m D3 E o h l => q σ H ρ m _ _ o h l.rt⟩
def retN3 : TS3 := fun D _ m => D.rt .non m
theorem s_retN : PS3 X (.Return none pos) retN3 := ⟨_, ps_retN, fun σ H ρ m D3 E o h l => l.rt.now o.hr h .non⟩
def ifS3 (c : TT3) (t u : TS3) : TS3 := fun D ρ m => c ρ m fun b m1 => if b = true then t D ρ m1 else u D ρ m1
theorem s_if {sa sb : List Stmt} (hc : PT3 X c t) (ha : PSs3 X sa ts) (hb : PSs3 X sb us) : PS3 X (.If c sa sb pos) (ifS3 t ts us) := by
  obtain ⟨_, p0, q0⟩ := hc
  obtain ⟨_, p, q⟩ := ha
  obtain ⟨_, p', q'⟩ := hb
  refine ⟨_, ps_if p0 p p', fun σ H ρ m D3 E o h l => ?_⟩
  refine q0 σ H ρ m _ _ o h fun c H1 m1 p1 s1 h1 => ?_
  cases c with
  | true =>
    rw [if_pos rfl] at p1 ⊢
    exact q σ H1 ρ m1 _ _ (o.mv s1 h1) p1 (l.mv s1)
  | false =>
    rw [if_neg Bool.false_ne_true] at p1 ⊢
    exact q' σ H1 ρ m1 _ _ (o.mv s1 h1) p1 (l.mv s1)
/-- what is never come to -/
def never3 : TS3 := fun _ _ _ => False
theorem s_never : PS3 X st never3 := ⟨_, ps_never, fun _ _ _ _ _ _ _ h _ => h.elim⟩
theorem ss_never : PSs3 X sts never3 := ⟨_, pss_never, fun _ _ _ _ _ _ _ h _ => h.elim⟩

/-! ### targets -/
abbrev NK := Env3 → Mem → Prop
abbrev TG3 := D → Env3 → Mem → NK → Prop
abbrev TGs3 := List D → Env3 → Mem → NK → Prop
def GK (K : PySem.W.Frag) (H : Hp) (m : Mem) (P : NK) (Q : L2.St → Hp → Prop) : Prop := ∀ σ' H' ρ' m', P ρ' m' → Step H m H' m' → Ok K σ' H' ρ' m' → Q σ' H'
theorem GK.mv {K : PySem.W.Frag} {H H' : Hp} {m m' : Mem} {P : NK} {Q : L2.St → Hp → Prop} (k : GK K H m P Q) (s : Step H m H' m') : GK K H' m' P Q := fun v H2 d m2 p s2 h => k v H2 d m2 p (s.trans s2) h
def PG3 (X : Cx) (tg : Expr) (g3 : TG3) : Prop := ∃ g, PG X tg g ∧ ∀ v d σ H ρ m P Q, Ok X.K σ H ρ m → Rep X.K H m v d → g3 d ρ m P → GK X.K H m P Q → g v σ H Q
def PGs3 (X : Cx) (tg : List Expr) (g3 : TGs3) : Prop := ∃ g, PGs X tg g ∧ ∀ v d σ H ρ m P Q, Ok X.K σ H ρ m → Reps X.K H m v d → g3 d ρ m P → GK X.K H m P Q → g v σ H Q
def name3 (i : Nat) : TG3 := fun d ρ m P => P (ρ.set i (some d)) m
theorem g_name {i : Nat} {x : Str} (hN : X.N.Nodup) (hi : X.N[i]? = some x := by rfl) (hx : Loc X.env.scope x := by first | exact Or.inl rfl | exact Or.inr rfl) (hf : X.fn x = true ∨ X.env.scope.names.lookup x = some .local := by first | exact .inl rfl | exact .inr rfl | assumption) : PG3 X (.Name x pos) (name3 i) :=
  ⟨_, pg_name hN hi hx hf, fun v d σ H ρ m P Q o r h k => k _ H _ m h (Step.refl _ _) (o.set i r)⟩
def gnil3 : TGs3 := fun ds ρ m P => match ds with
  | [] => P ρ m
  | _ => False
def gcons3 (g : TG3) (gs : TGs3) : TGs3 := fun ds ρ m P => match ds with
  | d :: r => g d ρ m fun ρ' m' => gs r ρ' m' P
  | _ => False
variable {tg : Expr} {tgs : List Expr} {g : TG3} {gs : TGs3}
theorem gs_nil : PGs3 X [] gnil3 := ⟨_, pgs_nil, fun v d σ H ρ m P Q o r h k => by
  cases r with
  | nil => exact ⟨rfl, k σ H ρ m h (Step.refl _ _) o⟩
  | cons _ _ => exact (h : False).elim⟩
theorem gs_cons (h1 : PG3 X tg g) (h2 : PGs3 X tgs gs) (hs : (assignEach (tg :: tgs) X.env).map (·.2) = assign tg X.env :: (assignEach tgs X.env).map (·.2) := by rfl) : PGs3 X (tg :: tgs) (gcons3 g gs) := by
  obtain ⟨_, p, q⟩ := h1
  obtain ⟨_, p', q'⟩ := h2
  refine ⟨_, pgs_cons p p' hs, fun v d σ H ρ m P Q o r h k => ?_⟩
  cases r with
  | nil => exact (h : False).elim
  | cons r rr =>
    exact ⟨_, _, rfl, q _ _ σ H ρ m _ _ o r h fun σ' H' ρ' m' h' s' o' => q' _ _ σ' H' ρ' m' _ _ o' (rr.mv s') h' (k.mv s')⟩
def gtup3 (gs : TGs3) : TG3 := fun d ρ m P => match d with
  | .tup ds => gs ds ρ m P
  | _ => False
theorem g_tup {k : Nat} {n : Nat} (hc : X.calm = true) (h : PGs3 X tgs gs) (hlen : ∀ ds ρ m P, gs ds ρ m P → ds.length = n)
    (hn : (assignEach tgs X.env).length = n := by rfl) (hst : (assignEach tgs X.env).findIdx? (·.1) = none := by rfl) : PG3 X (.Tuple tgs k pos) (gtup3 gs) := by
  obtain ⟨_, p, q⟩ := h
  refine ⟨_, pg_tup hc p hn hst, fun v d σ H ρ m P Q o r h k => ?_⟩
  cases d with
  | tup ds =>
    cases r with
    | tup t r => exact ⟨_, _, rfl, t.sq, by rw [r.length]; exact hlen _ _ _ _ h, q _ _ σ H ρ m _ _ o r h k⟩
  | _ => exact (h : False).elim
theorem gl_nil : ∀ ds ρ m P, gnil3 ds ρ m P → ds.length = 0 := fun ds ρ m P h => by
  cases ds with
  | nil => rfl
  | cons _ _ => exact (h : False).elim
theorem gl_cons {i n : Nat} (hl : ∀ ds ρ m P, gs ds ρ m P → ds.length = n) : ∀ ds ρ m P, gcons3 (name3 i) gs ds ρ m P → ds.length = n + 1 := fun ds ρ m P h => by
  cases ds with
  | nil => exact (h : False).elim
  | cons d r => rw [List.length_cons, hl r _ _ _ h]
def asg3 (ta : TE3) (g : TG3) : TS3 := fun D ρ m => ta ρ m fun x m1 => g x ρ m1 D.nx
theorem s_asg (ha : PE3 X e ta) (hg : PG3 X tg g) (hs : swapsWithSole [tg] e pos.line X.env = pure false := by rfl) (hw : swappedStores [tg] e X.env = pure none := by rfl)
    (h1 : (assignEach [tg] X.env).map (·.2) = [assign tg X.env] := by rfl) : PS3 X (.Assign [tg] e pos) (asg3 ta g) := by
  obtain ⟨_, p, q⟩ := ha
  obtain ⟨_, p', q'⟩ := hg
  refine ⟨_, ps_asg p p' hs hw h1, fun σ H ρ m D3 E o h l => ?_⟩
  refine q σ H ρ m _ _ o h fun x H1 d m1 p1 s1 h1 r1 => ?_
  exact q' x d σ H1 ρ m1 _ _ (o.mv s1 h1) r1 p1 fun σ' H' ρ' m' h' s' o' => l.nx σ' H' ρ' m' h' (s1.trans s') o'
theorem s_set {i : Nat} {x : Str} {pos' : Pos} (hN : X.N.Nodup) (ha : PE3 X e ta) (hi : X.N[i]? = some x := by rfl) (hx : Loc X.env.scope x := by first | exact Or.inl rfl | exact Or.inr rfl) (hs : swapsWith e (some (.Name x pos')) pos.line X.env = pure false := by rfl) (hf : X.fn x = true ∨ X.env.scope.names.lookup x = some .local := by first | exact .inl rfl | exact .inr rfl | assumption) :
    PS3 X (.Assign [.Name x pos'] e pos) (asg3 ta (name3 i)) := by
  obtain ⟨_, p, q⟩ := ha
  refine ⟨_, ps_set hN hi hx p hs hf, fun σ H ρ m D3 E o h l => ?_⟩
  refine q σ H ρ m _ _ o h fun x H1 d m1 p1 s1 h1 r1 => ?_
  exact l.nx _ H1 _ m1 p1 s1 ((o.mv s1 h1).set i r1)
def par3 (i j : Nat) (tr : TA3) : TS3 := fun D ρ m => tr ρ m fun ds m1 => match ds with
  | [v, w] => D.nx ((ρ.set i (some v)).set j (some w)) m1
  | _ => False
theorem s_par {i j : Nat} {x y : Str} {px py pt : Pos} {kt k2 pt2} (hc : X.calm = true) (hN : X.N.Nodup) (hi : X.N[i]? = some x) (hj : X.N[j]? = some y) (hij : i ≠ j)
    (hx : X.env.scope.names.lookup x = some .local) (hy : X.env.scope.names.lookup y = some .local) (ha : PA3 X [a, b] tr)
    (hw : swappedStores [.Tuple [.Name x px, .Name y py] kt pt] (.Tuple [a, b] k2 pt2) X.env = pure (some [x, y]))
    (hs : swapsWithSole [.Tuple [.Name x px, .Name y py] kt pt] (.Tuple [a, b] k2 pt2) pos.line X.env = pure false := by rfl) :
    PS3 X (.Assign [.Tuple [.Name x px, .Name y py] kt pt] (.Tuple [a, b] k2 pt2) pos) (par3 i j tr) := by
  obtain ⟨_, p, q⟩ := ha
  refine ⟨_, ps_par hc hN hi hj hij hx hy p hw hs, fun σ H ρ m D3 E o h l => ?_⟩
  refine q σ H ρ m _ _ o h fun vs H1 ds m1 p1 s1 h1 r1 => ?_
  match ds, r1, p1 with
  | [v, w], .cons ra (.cons rb .nil), p1 => exact ⟨_, _, rfl, l.nx _ H1 _ m1 p1 s1 (((o.mv s1 h1).set i ra).set j rb)⟩
def aug3 (i : Nat) (ta : TE3) (f : F2) : TS3 := fun D ρ m => match ρ[i]? with
  | some (some x) => ta ρ m fun y m1 => f x y m1 fun z m2 => D.nx (ρ.set i (some z)) m2
  | _ => False
theorem s_aug {i : Nat} {x : Str} {op : Operator} {r : R2} {f : F2} {pos' : Pos} (hN : X.N.Nodup) (ho : OpR X (inplaceOp op) r) (hr : RL X.K r f) (ha : PE3 X e ta) (hi : X.N[i]? = some x := by rfl) (hx : Loc X.env.scope x := by first | exact Or.inl rfl | exact Or.inr rfl) (hf : X.fn x = true ∨ X.env.scope.names.lookup x = some .local := by first | exact .inl rfl | exact .inr rfl | assumption) :
    PS3 X (.AugAssign (.Name x pos') op e pos) (aug3 i ta f) := by
  obtain ⟨_, p, q⟩ := ha
  refine ⟨_, ps_aug hN hi hx p ho hf, fun σ H ρ m D3 E o h l => ?_⟩
  unfold aug3 at h
  split at h
  · rename_i d ed
    obtain ⟨v, ev, rv⟩ := o.env.2 i d ed
    refine ⟨v, ev, q σ H ρ m _ _ o h fun y H1 d2 m1 p1 s1 h1 r1 => ?_⟩
    refine hr v y d d2 H1 m1 _ _ h1 (rv.mv s1) r1 p1 fun z H2 dz m2 p2 s2 h2 r2 => ?_
    exact l.nx _ H2 _ m2 p2 (s1.trans s2) ((o.mv (s1.trans s2) h2).set i r2)
  · exact h.elim
/-- xs[i] = v of a list that may change -/
def sub3 (to ti : TE3) : TG3 := fun d ρ m P => to ρ m fun o m1 => ti ρ m1 fun i m2 => match o, i with
  | .ref p, .int k => match m2 p with
    | some (.lst ds) => match ixN ds.length k with
      | some j => P ρ (put m2 p (.lst (ds.set j d)))
      | none => False
    | _ => False
  | _, _ => False
theorem g_sub (ha : PE3 X a ta) (hb : PE3 X b tb)
    (hs : ∀ v, assign (.Subscript a b pos) X.env v = (do
      let ov ← holding [v] (eval a X.env)
      let iv ← holding [v, ov] (eval b X.env)
      standAt pos
      holding [v, ov, iv] (setItem ov iv v)
      release [v, ov, iv] []) := by intro _; rfl) : PG3 X (.Subscript a b pos) (sub3 ta tb) := by
  obtain ⟨_, p, q⟩ := ha
  obtain ⟨_, p', q'⟩ := hb
  refine ⟨_, pg_sub p p' set_list hs, fun v d σ H ρ m P Q o r h k => ?_⟩
  refine q σ H ρ m _ _ o h fun ov H1 od m1 p1 s1 h1 r1 => ?_
  refine q' σ H1 ρ m1 _ _ (o.mv s1 h1) p1 fun iv H2 idd m2 p2 s2 h2 r2 => ?_
  cases od with
  | ref pp =>
    cases idd with
    | int kk =>
      cases r1
      cases r2
      simp only at p2
      split at p2
      · rename_i ds em
        split at p2
        · rename_i j ej
          obtain ⟨xs, ex, rx⟩ := h2.lst em
          have rd : Reps X.K H2 m2 (xs.set j v) (ds.set j d) := rx.set (r.mv (s1.trans s2)) j
          refine ⟨pp, xs, kk, j, rfl, rfl, ex, by rw [rx.length]; exact ej, ?_⟩
          exact k σ _ ρ _ p2 ((s1.trans s2).trans (step_set em)) (o.mv ((s1.trans s2).trans (step_set em)) (hr_set (u := .lst (ds.set j d)) h2 em rd))
        · exact p2.elim
      · exact p2.elim
    | _ => exact (p2 : False).elim
  | _ => exact (p2 : False).elim

/-! ### while -/
def while3 (c : TT3) (tb : TS3) : TS3 := fun D ρ m => ∃ W : Nat → Env3 → Mem → Prop, (∃ n, W n ρ m) ∧ ∀ n ρ m, W n ρ m →
  c ρ m fun b m1 => if b = true then tb { D with nx := fun ρ' m' => ∃ n', n' < n ∧ W n' ρ' m', ct := fun ρ' m' => ∃ n', n' < n ∧ W n' ρ' m', bk := D.nx } ρ m1 else D.nx ρ m1
theorem s_while (hp : PassesOwn (model X.prog X.w) X.A X.env X.xe) (hc : PT3 X c t) (hb : PSs3 X sts ts) : PS3 X (.While c sts [] pos) (while3 t ts) := by
  obtain ⟨_, p, q⟩ := hc
  obtain ⟨_, p', q'⟩ := hb
  refine ⟨_, ps_while hp p p', fun σ H ρ m D3 E o h l => ?_⟩
  obtain ⟨W, ⟨n0, w0⟩, turn⟩ := h
  refine ⟨fun n σ1 H1 => ∃ ρ1 m1, Ok X.K σ1 H1 ρ1 m1 ∧ Step H m H1 m1 ∧ W n ρ1 m1, ⟨n0, ρ, m, o, Step.refl _ _, w0⟩, ?_⟩
  rintro n σ1 H1 ⟨ρ1, m1, o1, s1, w1⟩
  refine q σ1 H1 ρ1 m1 _ _ o1 (turn n ρ1 m1 w1) fun b H2 m2 p2 s2 h2 => ?_
  cases b with
  | true =>
    rw [if_pos rfl] at p2 ⊢
    refine ⟨fun σ' H' => ∃ n', n' < n ∧ ∃ ρ' m', Ok X.K σ' H' ρ' m' ∧ Step H m H' m' ∧ W n' ρ' m', fun σ' H' z => z, ?_⟩
    refine q' σ1 H2 ρ1 m2 _ _ (o1.mv s2 h2) p2 ⟨fun σ' H' ρ' m' h' s' o' => ?_, fun v H' d m' h' s' hh rr => l.rt v H' d m' h' (s1.trans (s2.trans s')) hh rr, fun σ' H' ρ' m' h' s' o' => l.nx σ' H' ρ' m' h' (s1.trans (s2.trans s')) o', fun σ' H' ρ' m' h' s' o' => ?_⟩
    · obtain ⟨n', hn, w'⟩ := h'
      exact ⟨n', hn, ρ', m', o', s1.trans (s2.trans s'), w'⟩
    · obtain ⟨n', hn, w'⟩ := h'
      exact ⟨n', hn, ρ', m', o', s1.trans (s2.trans s'), w'⟩
  | false =>
    rw [if_neg Bool.false_ne_true] at p2 ⊢
    exact l.nx σ1 H2 ρ1 m2 p2 (s1.trans s2) (o1.mv s2 h2)

/-! ### what is walked -/
abbrev TI3 := Env3 → Mem → (List D → Mem → Prop) → Prop
/-- an iterator that gives the items ds, while what does not change stands -/
def Wlk (K : PySem.W.Frag) (J : It) (ds : List D) (H : Hp) (m : Mem) : Prop := ∀ (i : Nat) H2 m2, Step H m H2 m2 → HR K H2 m2 →
  (ds.length ≤ i → J.stop i H2) ∧ ∀ d, ds[i]? = some d → J.go i H2 ∧ ∀ x H', J.yld i H2 x H' → Step H2 m2 H' m2 ∧ HR K H' m2 ∧ Rep K H' m2 x d
def PI3 (X : Cx) (tg iter : Expr) (w3 : TI3) : Prop := ∃ wi, PI X tg iter wi ∧ ∀ σ H ρ m P R, Ok X.K σ H ρ m → w3 ρ m P →
  (∀ J H1 ds m1, P ds m1 → Step H m H1 m1 → HR X.K H1 m1 → Wlk X.K J ds H1 m1 → R J H1) → wi σ H R
def seq_items : D → Option (List D)
  | .tup ds => some ds
  | .lst ds => some ds
  | _ => none
/-- a list of data -/
def ilst3 (ta : TE3) : TI3 := fun ρ m P => ta ρ m fun x m1 => match x with
  | .lst ds => P ds m1
  | _ => False
def itup3 (ta : TE3) : TI3 := fun ρ m P => ta ρ m fun x m1 => match x with
  | .tup ds => P ds m1
  | _ => False
theorem wlk_list {K : PySem.W.Frag} {H : Hp} {m : Mem} {a : Addr} {xs : List V} {ds : List D} (t : LstAt K H m a xs) (r : Reps K H m xs ds) : Wlk K (Itl K a) ds H m := by
  intro i H2 m2 s2 h2
  have t2 := (t.step s2).sq
  have r2 := r.mv s2
  refine ⟨fun hi => ⟨xs, t2, by rw [r.length]; exact hi⟩, fun d hd => ?_⟩
  obtain ⟨v, hv, rv⟩ := r2.get hd
  refine ⟨⟨xs, v, t2, hv⟩, fun x H' y => ?_⟩
  obtain ⟨e, y⟩ := y
  subst e
  have ev : x = v := Option.some.inj ((y xs t2).symm.trans hv)
  subst ev
  exact ⟨Step.refl _ _, h2, rv⟩
theorem wlk_tup {K : PySem.W.Frag} {H : Hp} {m : Mem} {a : Addr} {xs : List V} {ds : List D} (t : TupAt K H m a xs) (r : Reps K H m xs ds) : Wlk K (Itt K a) ds H m := by
  intro i H2 m2 s2 h2
  have t2 := (t.step s2).sq
  have r2 := r.mv s2
  refine ⟨fun hi => ⟨xs, t2, by rw [r.length]; exact hi⟩, fun d hd => ?_⟩
  obtain ⟨v, hv, rv⟩ := r2.get hd
  refine ⟨⟨xs, v, t2, hv⟩, fun x H' y => ?_⟩
  obtain ⟨e, y⟩ := y
  subst e
  have ev : x = v := Option.some.inj ((y xs t2).symm.trans hv)
  subst ev
  exact ⟨Step.refl _ _, h2, rv⟩
theorem i_list (ha : PE3 X a ta) : PI3 X tg a (ilst3 ta) := by
  obtain ⟨_, p, q⟩ := ha
  refine ⟨_, pi_list p, fun σ H ρ m P R o h k => ?_⟩
  refine q σ H ρ m _ _ o h fun x H1 d m1 p1 s1 h1 r1 => ?_
  cases d with
  | lst ds =>
    cases r1 with
    | lst t r => exact ⟨_, rfl, ⟨_, t.sq⟩, k _ H1 ds m1 p1 s1 h1 (wlk_list t r)⟩
  | _ => exact (p1 : False).elim
theorem i_tup (ha : PE3 X a ta) : PI3 X tg a (itup3 ta) := by
  obtain ⟨_, p, q⟩ := ha
  refine ⟨_, pi_tup p, fun σ H ρ m P R o h k => ?_⟩
  refine q σ H ρ m _ _ o h fun x H1 d m1 p1 s1 h1 r1 => ?_
  cases d with
  | tup ds =>
    cases r1 with
    | tup t r => exact ⟨_, rfl, ⟨_, t.sq⟩, k _ H1 ds m1 p1 s1 h1 (wlk_tup t r)⟩
  | _ => exact (p1 : False).elim
def rangeD (lo : Int) (n : Nat) : List D := (List.range n).map fun k => D.int (lo + (k : Nat))
theorem wlk_range {K : PySem.W.Frag} {H : Hp} {m : Mem} {lo : Int} {n : Nat} : Wlk K (Itr lo n) (rangeD lo n) H m := by
  intro i H2 m2 s2 h2
  refine ⟨fun hi => ?_, fun d hd => ?_⟩
  · unfold rangeD at hi
    rw [List.length_map, List.length_range] at hi
    exact hi
  · unfold rangeD at hd
    rw [List.getElem?_map] at hd
    cases e : (List.range n)[i]? with
    | none => rw [e] at hd; cases hd
    | some j =>
      rw [e] at hd
      obtain ⟨hl, ej⟩ := List.getElem?_eq_some_iff.mp e
      rw [List.length_range] at hl
      rw [List.getElem_range] at ej
      subst ej
      have ed : D.int (lo + (i : Nat)) = d := Option.some.inj hd
      subst ed
      refine ⟨hl, fun x H' y => ?_⟩
      obtain ⟨e1, e2⟩ := y
      subst e1 e2
      exact ⟨Step.refl _ _, h2, .int _⟩
def irng1 (tr : TA3) : TI3 := fun ρ m P => tr ρ m fun ds m1 => match ds with
  | [.int j] => (-(2 ^ 62) ≤ j ∧ j < 2 ^ 62) ∧ P (rangeD 0 j.toNat) m1
  | _ => False
def irng2 (tr : TA3) : TI3 := fun ρ m P => tr ρ m fun ds m1 => match ds with
  | [.int i, .int j] => (-(2 ^ 62) ≤ i ∧ i < 2 ^ 62 ∧ -(2 ^ 62) ≤ j ∧ j < 2 ^ 62) ∧ P (rangeD i (j - i).toNat) m1
  | _ => False
theorem i_range1 {p pos : Pos} (hg : Gl X "range") (hm : X.mg "range" = none) (ha : PA3 X [a] tr) (hs : starEach [a] X.env = [(false, eval a X.env)] := by rfl) : PI3 X tg (.Call (.Name "range" p) [a] [] pos) (irng1 tr) := by
  obtain ⟨_, p, q⟩ := ha
  refine ⟨_, pi_range1 hg hm p hs, fun σ H ρ m P R o h k => ?_⟩
  refine q σ H ρ m _ _ o h fun vs H1 ds m1 p1 s1 h1 r1 => ?_
  match ds, r1, p1 with
  | [.int j], .cons (.int _) .nil, p1 => exact ⟨j, rfl, p1.1.1, p1.1.2, k _ H1 _ m1 p1.2 s1 h1 wlk_range⟩
theorem i_range2 {p pos : Pos} (hg : Gl X "range") (hm : X.mg "range" = none) (ha : PA3 X [a, b] tr) (hs : starEach [a, b] X.env = [(false, eval a X.env), (false, eval b X.env)] := by rfl) (hs2 : starEach [b] X.env = [(false, eval b X.env)] := by rfl) :
    PI3 X tg (.Call (.Name "range" p) [a, b] [] pos) (irng2 tr) := by
  obtain ⟨_, p, q⟩ := ha
  refine ⟨_, pi_range2 hg hm p hs hs2, fun σ H ρ m P R o h k => ?_⟩
  refine q σ H ρ m _ _ o h fun vs H1 ds m1 p1 s1 h1 r1 => ?_
  match ds, r1, p1 with
  | [.int i, .int j], .cons (.int _) (.cons (.int _) .nil), p1 => exact ⟨i, j, rfl, p1.1, k _ H1 _ m1 p1.2 s1 h1 wlk_range⟩

/-! ### for -/
def forIn3 (g : TG3) (tb : TS3) (D3 : Ends3) : List D → Env3 → Mem → Prop
  | [], ρ, m => D3.nx ρ m
  | d :: ds, ρ, m => g d ρ m fun ρ1 m1 => tb { D3 with nx := forIn3 g tb D3 ds, ct := forIn3 g tb D3 ds, bk := D3.nx } ρ1 m1
def for3 (w : TI3) (g : TG3) (tb : TS3) : TS3 := fun D3 ρ m => w ρ m fun ds m1 => forIn3 g tb D3 ds ρ m1
theorem s_for {iter : Expr} {w : TI3} (hp : PassesOwn (model X.prog X.w) X.A X.env X.xe) (hc : X.calm = true) (hi : PI3 X tg iter w) (hg : PG3 X tg g) (hb : PSs3 X sts ts)
    (hs : ∀ x, foldedSetIterable iter X.env x = pure x := by intro _; rfl) : PS3 X (.For tg iter sts [] pos) (for3 w g ts) := by
  obtain ⟨_, pi, qi⟩ := hi
  obtain ⟨_, pg, qg⟩ := hg
  obtain ⟨_, pb, qb⟩ := hb
  refine ⟨_, ps_for hp hc pi pg pb hs, fun σ H ρ m D3 E o h l => ?_⟩
  refine qi σ H ρ m _ _ o h fun J H1 ds m1 p1 s1 h1 wk => ?_
  refine ⟨fun i n σ2 H2 => ∃ ρ2 m2, Ok X.K σ2 H2 ρ2 m2 ∧ Step H1 m1 H2 m2 ∧ forIn3 g ts D3 (ds.drop i) ρ2 m2 ∧ n = ds.length - i ∧ i ≤ ds.length, ⟨ds.length, ρ, m1, o.mv s1 h1, Step.refl _ _, p1, rfl, Nat.zero_le _⟩, ?_⟩
  rintro i n σ2 H2 ⟨ρ2, m2, o2, s2, f2, rfl, hi⟩
  obtain ⟨wstop, wgo⟩ := wk i H2 m2 s2 o2.hr
  by_cases hlt : i < ds.length
  · obtain ⟨go, yl⟩ := wgo ds[i] (List.getElem?_eq_getElem hlt)
    refine .inr ⟨go, fun σ' H' => ∃ ρ' m', Ok X.K σ' H' ρ' m' ∧ Step H1 m1 H' m' ∧ forIn3 g ts D3 (ds.drop (i + 1)) ρ' m', fun σ' H' ⟨ρ', m', o', s', f'⟩ => ⟨ds.length - (i + 1), by omega, ρ', m', o', s', f', rfl, hlt⟩, fun x H' y => ?_⟩
    obtain ⟨s3, h3, r3⟩ := yl x H' y
    rw [List.drop_eq_getElem_cons hlt] at f2
    refine qg x ds[i] σ2 H' ρ2 m2 _ _ (o2.mv s3 h3) r3 f2 fun σ4 H4 ρ4 m4 h4 s4 o4 => ?_
    have st : Step H1 m1 H4 m4 := s2.trans (s3.trans s4)
    refine qb σ4 H4 ρ4 m4 _ _ o4 h4 ⟨fun σ' H' ρ' m' h' s' o' => ⟨ρ', m', o', st.trans s', h'⟩, fun v H' d m' h' s' hh rr => l.rt v H' d m' h' (s1.trans (st.trans s')) hh rr, fun σ' H' ρ' m' h' s' o' => l.nx σ' H' ρ' m' h' (s1.trans (st.trans s')) o', fun σ' H' ρ' m' h' s' o' => ⟨ρ', m', o', st.trans s', h'⟩⟩
  · have e : ds.drop i = [] := List.drop_eq_nil_of_le (by omega)
    rw [e] at f2
    exact .inl ⟨wstop (by omega), l.nx σ2 H2 ρ2 m2 f2 (s1.trans s2) o2⟩

/-! ### defs: promises by data -/
abbrev Sp3 := List D → Mem → DK → Prop
def spOf (K : PySem.W.Frag) (sp : Sp3) : Sp := fun vs H Q _ => ∃ ds m P, HR K H m ∧ Reps K H m vs ds ∧ sp ds m P ∧ EK K H m P Q
def call3 (sp : Sp3) (tr : TA3) : TE3 := fun ρ m P => tr ρ m fun ds m1 => sp ds m1 P
/-- what follows a call: not looked into -/
structure Tg (P : DK) : Type where
  n : Nat
def Kont (P : DK) (_ : Tg P) : DK := P
theorem call3_k {sp : Sp3} {tr : TA3} {ρ : Env3} {m : Mem} {P : DK} : call3 sp tr ρ m P = tr ρ m fun ds m1 => sp ds m1 (Kont P ⟨0⟩) := rfl
theorem kont_app {P : DK} {h : Tg P} {d : D} {m : Mem} : Kont P h d m = P d m := rfl
end
/-- a def of the text: where it stands -/
structure Def (K : PySem.W.Frag) (mg : Str → Option Value) (x : Str) (st : Stmt) (ps : List Str) (f : Addr) (fd : FuncData) : Prop where
  F : Fun K x x st f fd
  b : Binds K fd ps []
  g : mg x = some (.ref f)
abbrev Fn3 (P : Program) (w : World) (K : PySem.W.Frag) (mg : Str → Option Value) (base : Heap) (k : Nat) (f : Addr) (fd : FuncData) (ps : List Str) (sp : Sp3) : Prop := FnOk P w K mg base CX0 k f fd ps (spOf K sp)
section
variable {X : Cx} {pos p : Pos} {e : Expr} {es : List Expr} {tr : TA3} {k : Nat} {x : Str} {st : Stmt} {ps : List Str} {f : Addr} {fd : FuncData} {sp : Sp3}
theorem e_call (d : Def X.K X.mg x st ps f fd) (G : Fn3 X.prog X.w X.K X.mg X.base k f fd ps sp) (hr : Room k X.A) (hg : Gl X x) (ha : PA3 X (e :: es) tr) (hdb : (x == ("__debug__" : Str)) = false := by decide) (he : starEach (e :: es) X.env = (false, eval e X.env) :: starEach es X.env := by rfl) (hpl : (backTo pos (starEach es X.env)).any (·.1) = false := by rfl) :
    PE3 X (.Call (.Name x p) (e :: es) [] pos) (call3 sp tr) := by
  obtain ⟨_, p, q⟩ := ha
  refine ⟨_, pe_call G hr hg d.g d.F.kp d.b .nil pass0 p hdb he hpl, fun σ H ρ m P Q o h k => ?_⟩
  refine q σ H ρ m _ _ o h fun vs H1 ds m1 p1 s1 h1 r1 => ?_
  rw [List.append_nil]
  exact ⟨ds, m1, P, h1, r1, p1, k.mv s1⟩
end
def start3 (N : List Str) (ds : List D) : Env3 := ds.map some ++ List.replicate (N.length - ds.length) none
theorem ok_start {K : PySem.W.Frag} {H : Hp} {m : Mem} {N : List Str} {vs : List V} {ds : List D} (h : HR K H m) (r : Reps K H m vs ds) : Ok K (L2.start N vs) H (start3 N ds) m := by
  refine ⟨⟨?_, fun i d e => ?_⟩, h⟩
  · unfold L2.start start3
    rw [List.length_append, List.length_append, List.length_map, List.length_map, List.length_replicate, List.length_replicate, r.length]
  · unfold start3 at e
    by_cases hi : i < ds.length
    · rw [List.getElem?_append_left (by rw [List.length_map]; exact hi), List.getElem?_map, List.getElem?_eq_getElem hi] at e
      have ed : ds[i] = d := by simpa using e
      obtain ⟨v, hv, rv⟩ := r.get (List.getElem?_eq_getElem hi)
      rw [ed] at rv
      refine ⟨v, ?_, rv⟩
      unfold L2.start
      rw [List.getElem?_append_left (by rw [List.length_map, r.length]; exact hi), List.getElem?_map, hv]
      rfl
    · rw [List.getElem?_append_right (by rw [List.length_map]; omega), List.getElem?_replicate] at e
      split at e
      · cases e
      · cases e
/-- THE RULE for a def -/
theorem fn3 {P : Program} {w : World} {K : PySem.W.Frag} {mg : Str → Option Value} {base : Heap} {x : Str} {st : Stmt} {f : Addr} {fd : FuncData} {N ps : List Str} {k : Nat} {sp : Sp3} (F : Fun K x x st f fd) (S : FnScope N ps (defScope st)) (len : ∀ ds m Q, sp ds m Q → ds.length = ps.length)
    (hbody : ∀ (cdv : Value) (A : Around) (outer : List Env) (s : Shared) (H : Hp) (E : XK) (ds : List D) (m : Mem) (Q : DK), Room k (A.deeper (PyProof.Rows.envOfC x (defScope st) s.heap.objs.size f cdv)) → sp ds m Q →
      ∃ t, PSs3 (cxOf CX0 P w K mg base N x (defScope st) f cdv A outer s H E).nox (defBody st) t ∧ t { nx := fun _ m' => Q .non m', rt := Q } (start3 N ds) m) : Fn3 P w K mg base (k + 1) f fd ps sp := by
  refine F.ok S (fun vs H Q E h => ?_) (fun cdv A outer s H vs Q E hr h => ?_)
  · obtain ⟨ds, m, P', h1, r1, h2, _⟩ := h
    rw [r1.length]
    exact len ds m P' h2
  · obtain ⟨ds, m, P', h1, r1, h2, ek⟩ := h
    obtain ⟨t3, ⟨t, p, q⟩, h3⟩ := hbody cdv A outer s H E ds m P' hr h2
    refine ⟨t, p, q _ H _ m _ _ (ok_start h1 r1) h3 ⟨fun σ' H' ρ' m' h' s' o' => ek .non H' .non m' h' s' o'.hr .non, ek, fun _ _ _ _ h _ _ => h.elim, fun _ _ _ _ h _ _ => h.elim⟩⟩
end D3

set_option Elab.async false
set_option linter.all false
set_option maxRecDepth 100000
set_option maxHeartbeats 4000000
/-! D3b: built-ins, slices, joined lists, the law's own end. -/
namespace D3
open PySem L2
section
variable {X : Cx} {pos p : Pos} {e a b c : Expr} {es : List Expr} {ta tb tc : TE3} {tr : TA3} {x : Str}

/-! ### lists joined, cut -/
def rCatS (K : PySem.W.Frag) : R2 := fun x y H Q => ∃ l b xs zs, x = .ref l ∧ y = .ref b ∧ SqL K H l xs ∧ SqL K H b zs ∧ xs.length + zs.length ≤ sizeLine ∧ ∀ p, H p = none → Q (.ref p) (upd H p (.lst (xs ++ zs)))
theorem op_catS : OpR X (binaryOp .Add) (rCatS X.K) := by
  intro pins s σ H x y v u Q I rx ry h
  obtain ⟨l, b, xs, zs, rfl, rfl, hH, hB, hz, q⟩ := h
  cases rx
  cases ry
  obtain ⟨its, r, ⟨⟨cls, dd, data, sl⟩, n, ho, hc, _, hd⟩, z⟩ := I.list hH
  obtain ⟨its2, r2, ⟨⟨cls2, dd2, data2, sl2⟩, n2, ho2, hc2, _, hd2⟩, z2⟩ := I.list hB
  simp only at hc hd hc2 hd2
  subst hc hd hc2 hd2
  have hl := r.length
  have hl2 := r2.length
  have ea : its.toArray ++ its2.toArray = (its ++ its2).toArray := by simp
  refine PySem.concat_meets ⟨_, ho, rfl⟩ ⟨_, ho2, rfl⟩ noFill_list_add seq_list_add PySem.F.slot_list_add PySem.F.entry_list_add (PySem.F.args_list_add_2 _ _) (PyProof.Rows.list_addW l b its.toArray its2.toArray n n2 dd dd2 sl sl2 (by rw [List.size_toArray, List.size_toArray]; omega)) ⟨ho, ho2, ?_⟩
  rw [ea]
  exact ⟨.ref _, _, I.lnew (t' := s.toks) (r.append r2) (by rw [List.length_append]; omega), rfl, q _ I.fresh⟩
def fCat : F2 := fun x y m P => match x, y with
  | .lst ds, .lst es => ds.length + es.length ≤ 16000 ∧ P (.lst (ds ++ es)) m
  | _, _ => False
theorem rl_cat {K : PySem.W.Frag} : RL K (rCatS K) fCat := by
  intro x y d e H m P Q h r1 r2 f k
  unfold fCat at f
  split at f
  · cases r1 with
    | lst t r =>
      cases r2 with
      | lst t2 r2 =>
        refine ⟨_, _, _, _, rfl, rfl, t.sq, t2.sq, by rw [r.length, r2.length]; exact Short.line f.1, fun p hp => ?_⟩
        exact k _ _ _ _ f.2 (step_new hp) (hr_new h hp) (.lst (.inl ⟨.inl upd_same, h.none hp⟩) ((r.append r2).mv (step_new hp)))
  · exact f.elim
theorem e_cat (ha : PE3 X a ta) (hb : PE3 X b tb) : PE3 X (.BinOp a .Add b pos) (op3 fCat ta tb) := e_op op_catS rl_cat ha hb
def slc3 (ta : TE3) (tl th : TO3) : TE3 := fun ρ m P => ta ρ m fun x m1 => tl ρ m1 fun lo m2 => th ρ m2 fun hi m3 => match x with
  | .lst ds => P (.lst (cutD ds lo hi)) m3
  | _ => False
theorem Reps.cut {K : PySem.W.Frag} {H : Hp} {m : Mem} {vs : List V} {ds : List D} (r : Reps K H m vs ds) (lo hi : Option Int) : Reps K H m (cutV vs lo hi) (cutD ds lo hi) := by
  unfold cutV cutD
  rw [r.length]
  exact (r.drop _).take _
theorem e_slice {lo hi : Option Expr} {tl th : TO3} {p2 : Pos} (ha : PE3 X a ta) (hl : PO3 X lo tl) (hh : PO3 X hi th) : PE3 X (.Subscript a (.Slice lo hi none p2) pos) (slc3 ta tl th) := by
  obtain ⟨_, p, q⟩ := ha
  obtain ⟨_, p1, q1⟩ := hl
  obtain ⟨_, p2, q2⟩ := hh
  refine ⟨_, pe_slice sl_list p p1 p2, fun σ H ρ m P Q o h k => ?_⟩
  refine q σ H ρ m _ _ o h fun x H1 d m1 p1 s1 h1 r1 => ?_
  refine q1 σ H1 ρ m1 _ _ (o.mv s1 h1) p1 fun lo H2 m2 p2 s2 h2 => ?_
  refine q2 σ H2 ρ m2 _ _ (o.mv (s1.trans s2) h2) p2 fun hi H3 m3 p3 s3 h3 => ?_
  cases d with
  | lst ds =>
    have r3 := r1.mv (s2.trans s3)
    cases r3 with
    | lst t r =>
      refine ⟨_, _, rfl, t.sq, fun p hp => ?_⟩
      exact k _ _ _ _ p3 ((s1.trans (s2.trans s3)).trans (step_new hp)) (hr_new h3 hp) (.lst (.inl ⟨.inl upd_same, h3.none hp⟩) ((r.cut lo hi).mv (step_new hp)))
  | _ => exact (p3 : False).elim

/-! ### built-ins -/
abbrev F1 := D → Mem → DK → Prop
def un3 (f : F1) (ta : TE3) : TE3 := fun ρ m P => ta ρ m fun x m1 => f x m1 P
def RC1 (K : PySem.W.Frag) (r : List V → Hp → VK → Prop) (f : F1) : Prop := ∀ x d H m P Q, HR K H m → Rep K H m x d → f d m P → EK K H m P Q → r [x] H Q
def RC2 (K : PySem.W.Frag) (r : List V → Hp → VK → Prop) (f : F2) : Prop := ∀ x y d e H m P Q, HR K H m → Rep K H m x d → Rep K H m y e → f d e m P → EK K H m P Q → r [x, y] H Q
theorem e_b1 {id : String} {r : List V → Hp → VK → Prop} {f : F1} (hc : CallR X (.builtin id) r) (hr : RC1 X.K r f) (hg : Gl X x) (hm : X.mg x = none) (hv : bootBuiltins x = some (.builtin id)) (ha : PE3 X a ta) (hn : x ≠ "__name__" := by decide) (hdb : (x == ("__debug__" : Str)) = false := by decide)
    (he : starEach [a] X.env = (false, eval a X.env) :: starEach [] X.env := by rfl) (hpl : (backTo pos (starEach [] X.env)).any (·.1) = false := by rfl) : PE3 X (.Call (.Name x p) [a] [] pos) (un3 f ta) := by
  obtain ⟨_, p, q⟩ := ha
  refine ⟨_, pe_callB hc hg hm hv (pa_cons p pa_nil he) hn hdb he hpl, fun σ H ρ m P Q o h k => ?_⟩
  refine q σ H ρ m _ _ o h fun x H1 d m1 p1 s1 h1 r1 => ?_
  exact hr x d H1 m1 P Q h1 r1 p1 (k.mv s1)
theorem e_b2 {id : String} {r : List V → Hp → VK → Prop} {f : F2} (hc : CallR X (.builtin id) r) (hr : RC2 X.K r f) (hg : Gl X x) (hm : X.mg x = none) (hv : bootBuiltins x = some (.builtin id)) (ha : PE3 X a ta) (hb : PE3 X b tb) (hn : x ≠ "__name__" := by decide) (hdb : (x == ("__debug__" : Str)) = false := by decide)
    (he : starEach [a, b] X.env = (false, eval a X.env) :: starEach [b] X.env := by rfl) (he2 : starEach [b] X.env = (false, eval b X.env) :: starEach [] X.env := by rfl) (hpl : (backTo pos (starEach [b] X.env)).any (·.1) = false := by rfl) : PE3 X (.Call (.Name x p) [a, b] [] pos) (op3 f ta tb) := by
  obtain ⟨_, p, q⟩ := ha
  obtain ⟨_, p', q'⟩ := hb
  refine ⟨_, pe_callB hc hg hm hv (pa_cons p (pa_cons p' pa_nil he2) he) hn hdb he hpl, fun σ H ρ m P Q o h k => ?_⟩
  refine q σ H ρ m _ _ o h fun x H1 d m1 p1 s1 h1 r1 => ?_
  refine q' σ H1 ρ m1 _ _ (o.mv s1 h1) p1 fun y H2 e m2 p2 s2 h2 r2 => ?_
  exact hr x y d e H2 m2 P Q h2 (r1.mv s2) r2 p2 (k.mv (s1.trans s2))
def fAbs : F1 := fun x m P => match x with
  | .int i => P (.int (if i < 0 then -i else i)) m
  | _ => False
theorem e_abs (hg : Gl X "abs") (hm : X.mg "abs" = none) (ha : PE3 X a ta) (he : starEach [a] X.env = (false, eval a X.env) :: starEach [] X.env := by rfl) (hpl : (backTo pos (starEach [] X.env)).any (·.1) = false := by rfl) : PE3 X (.Call (.Name "abs" p) [a] [] pos) (un3 fAbs ta) :=
  e_b1 (f := fAbs) call_abs (fun x d H m P Q h r f k => by
    unfold fAbs at f
    split at f
    · cases r
      exact ⟨_, rfl, k.now h f (.int _)⟩
    · exact f.elim) hg hm PyProof.Rows.boot_abs ha (by decide) (by decide) he hpl
def fMin : F2 := fI0 fun i j => .int (if j < i then j else i)
def fMax : F2 := fI0 fun i j => .int (if j > i then j else i)
theorem e_min2 (hg : Gl X "min") (hm : X.mg "min" = none) (ha : PE3 X a ta) (hb : PE3 X b tb) (hc : X.calm = true := by rfl) (he : starEach [a, b] X.env = (false, eval a X.env) :: starEach [b] X.env := by rfl) (he2 : starEach [b] X.env = (false, eval b X.env) :: starEach [] X.env := by rfl) (hpl : (backTo pos (starEach [b] X.env)).any (·.1) = false := by rfl) : PE3 X (.Call (.Name "min" p) [a, b] [] pos) (op3 fMin ta tb) :=
  e_b2 (f := fMin) (call_min2 hc) (fun x y d e H m P Q h r1 r2 f k => by
    unfold fMin fI0 at f
    split at f
    · cases r1
      cases r2
      exact ⟨_, _, rfl, k.now h f (.int _)⟩
    · exact f.elim) hg hm PyProof.Rows.boot_min ha hb (by decide) (by decide) he he2 hpl
theorem e_max2 (hg : Gl X "max") (hm : X.mg "max" = none) (ha : PE3 X a ta) (hb : PE3 X b tb) (hc : X.calm = true := by rfl) (he : starEach [a, b] X.env = (false, eval a X.env) :: starEach [b] X.env := by rfl) (he2 : starEach [b] X.env = (false, eval b X.env) :: starEach [] X.env := by rfl) (hpl : (backTo pos (starEach [b] X.env)).any (·.1) = false := by rfl) : PE3 X (.Call (.Name "max" p) [a, b] [] pos) (op3 fMax ta tb) :=
  e_b2 (f := fMax) (call_max2 hc) (fun x y d e H m P Q h r1 r2 f k => by
    unfold fMax fI0 at f
    split at f
    · cases r1
      cases r2
      exact ⟨_, _, rfl, k.now h f (.int _)⟩
    · exact f.elim) hg hm PyProof.Rows.boot_max ha hb (by decide) (by decide) he he2 hpl
def fLen : F1 := fun x m P => match x with
  | .lst ds => P (.int ds.length) m
  | .tup ds => P (.int ds.length) m
  | .ref a => match m a with
    | some (.lst ds) => P (.int ds.length) m
    | _ => False
  | _ => False
theorem e_len (hg : Gl X "len") (hm : X.mg "len" = none) (ha : PE3 X a ta) (he : starEach [a] X.env = (false, eval a X.env) :: starEach [] X.env := by rfl) (hpl : (backTo pos (starEach [] X.env)).any (·.1) = false := by rfl) : PE3 X (.Call (.Name "len" p) [a] [] pos) (un3 fLen ta) :=
  e_b1 (f := fLen) call_len_seq (fun x d H m P Q h r f k => by
    unfold fLen at f
    split at f
    · cases r with
      | lst t r => exact ⟨_, _, rfl, .inl t.sq, k.now h f (by rw [r.length]; exact .int _)⟩
    · cases r with
      | tup t r => exact ⟨_, _, rfl, .inr t.sq, k.now h f (by rw [r.length]; exact .int _)⟩
    · split at f
      · rename_i ds em
        obtain ⟨xs, ex, rx⟩ := h.lst em
        cases r
        exact ⟨_, _, rfl, .inl (SqL.of ex), k.now h f (by rw [rx.length]; exact .int _)⟩
      · exact f.elim
    · exact f.elim) hg hm PySem.boot_len ha (by decide) (by decide) he hpl

/-! ### isinstance -/
/-- the built-in class of data, by name -/
def dTy : D → Option String
  | .non => some "NoneType"
  | .bl _ => some "bool"
  | .int _ => some "int"
  | .str _ => some "str"
  | .tup _ => some "tuple"
  | .lst _ => some "list"
  | _ => none
theorem dTy_ty {K : PySem.W.Frag} {H : Hp} {m : Mem} {v : V} {d : D} {n : String} (r : Rep K H m v d) (h : dTy d = some n) : TyX K H v (.type n) := by
  cases r with
  | non => cases h; exact .base .non
  | bl b => cases h; exact .base (.bl b)
  | int i => cases h; exact .base (.int i)
  | str i => cases h; exact .base (.str i)
  | ref a => cases h
  | ty a => cases h
  | tup t _ =>
    cases h
    rcases t with ⟨t | ⟨o, t⟩, _⟩ | ⟨o, its, n, t, tc, _⟩
    · exact .base (.tup t)
    · exact .fTuple t
    · exact .kTuple t tc
  | lst t _ =>
    cases h
    rcases t with ⟨t | ⟨o, t⟩, _⟩ | ⟨o, its, n, t, tc, _⟩
    · exact .base (.lst t)
    · exact .base (.frz t)
    · exact .kList t tc
/-- isinstance of built-in classes: what it says -/
def isiD (d : D) (n : String) : Option Bool := match d, n with
  | .int _, "int" => some true
  | .bl _, "int" => some true
  | .bl _, "bool" => some true
  | .int _, "bool" => some false
  | .non, "int" => some false
  | .str _, "int" => some false
  | .tup _, "int" => some false
  | .lst _, "int" => some false
  | .non, "bool" => some false
  | .str _, "bool" => some false
  | .tup _, "bool" => some false
  | .lst _, "bool" => some false
  | .tup _, "tuple" => some true
  | .int _, "tuple" => some false
  | .bl _, "tuple" => some false
  | .non, "tuple" => some false
  | .str _, "tuple" => some false
  | .lst _, "tuple" => some false
  | .str _, "str" => some true
  | .int _, "str" => some false
  | .bl _, "str" => some false
  | .non, "str" => some false
  | .tup _, "str" => some false
  | .lst _, "str" => some false
  | .lst _, "list" => some true
  | .int _, "list" => some false
  | .bl _, "list" => some false
  | .non, "list" => some false
  | .tup _, "list" => some false
  | .str _, "list" => some false
  | _, _ => none
def fIsi : F2 := fun x y m P => match y with
  | .ty n => match isiD x n with
    | some b => P (.bl b) m
    | none => False
  | _ => False
theorem isiD_kit {d : D} {n : String} {b : Bool} (h : isiD d n = some b) : ∃ t, dTy d = some t ∧ kitB t n = some b := by
  unfold isiD at h
  split at h <;> first
    | (cases h; exact ⟨_, rfl, by decide +kernel⟩)
    | cases h
theorem e_isi (hg : Gl X "isinstance") (hm : X.mg "isinstance" = none) (ha : PE3 X a ta) (hb : PE3 X b tb) (he : starEach [a, b] X.env = (false, eval a X.env) :: starEach [b] X.env := by rfl) (he2 : starEach [b] X.env = (false, eval b X.env) :: starEach [] X.env := by rfl) (hpl : (backTo pos (starEach [b] X.env)).any (·.1) = false := by rfl) : PE3 X (.Call (.Name "isinstance" p) [a, b] [] pos) (op3 fIsi ta tb) :=
  e_b2 (f := fIsi) call_isi (fun x y d e H m P Q h r1 r2 f k => by
    unfold fIsi at f
    split at f
    · split at f
      · rename_i n b eb
        obtain ⟨t, e1, e2⟩ := isiD_kit eb
        cases r2
        exact ⟨_, _, _, _, b, rfl, .ty _, dTy_ty r1 e1, kit_ty e2, k.now h f (.bl _)⟩
      · exact f.elim
    · exact f.elim) hg hm PyProof.Rows.boot_isinstance ha hb (by decide) (by decide) he he2 hpl

theorem iop_mulX : OpR X (inplaceOp .Mult) (rI CMulX fun i j => .int (i * j)) := opI fun _ _ _ _ _ _ _ hc q => PyProof.Rows.imul_int q hc.ok

/-! ### a list unpacked -/
variable {tgs : List Expr} {gs : TGs3}
def gunl3 (gs : TGs3) : TG3 := fun d ρ m P => match d with
  | .lst ds => gs ds ρ m P
  | .ref a => match m a with
    | some (.lst ds) => gs ds ρ m P
    | _ => False
  | _ => False
theorem g_unl {k : Nat} {n : Nat} (hc : X.calm = true) (h : PGs3 X tgs gs) (hlen : ∀ ds ρ m P, gs ds ρ m P → ds.length = n)
    (hn : (assignEach tgs X.env).length = n := by rfl) (hst : (assignEach tgs X.env).findIdx? (·.1) = none := by rfl) : PG3 X (.Tuple tgs k pos) (gunl3 gs) := by
  obtain ⟨_, p, q⟩ := h
  refine ⟨_, pg_unl hc p hn hst, fun v d σ H ρ m P Q o r h k => ?_⟩
  unfold gunl3 at h
  split at h
  · cases r with
    | lst t r => exact ⟨_, _, rfl, t.sq, by rw [r.length]; exact hlen _ _ _ _ h, q _ _ σ H ρ m _ _ o r h k⟩
  · split at h
    · rename_i ds em
      cases r
      obtain ⟨xs, ex, rx⟩ := o.hr.lst em
      exact ⟨_, _, rfl, SqL.of ex, by rw [rx.length]; exact hlen _ _ _ _ h, q _ _ σ H ρ m _ _ o rx h k⟩
    · exact h.elim
  · exact h.elim
end

/-! ### a list that will not change any more -/
def frz3 (i : Nat) (ts : TS3) : TS3 := fun D ρ m => match ρ[i]? with
  | some (some (.ref a)) => match m a with
    | some (.lst ds) => ts D (ρ.set i (some (.lst ds))) (del m a)
    | _ => False
  | _ => False
theorem ss_frz {X : Cx} {i : Nat} {sts : List Stmt} {ts : TS3} (h : PSs3 X sts ts) : PSs3 X sts (frz3 i ts) := by
  obtain ⟨_, p, q⟩ := h
  refine ⟨_, p, fun σ H ρ m D3 E o h l => ?_⟩
  unfold frz3 at h
  split at h
  · rename_i a ea
    split at h
    · rename_i ds em
      obtain ⟨xs, ex, rx⟩ := o.hr.lst em
      obtain ⟨v, ev, rv⟩ := o.env.2 i _ ea
      cases rv
      have da : del m a a = none := by unfold del; rw [if_pos rfl]
      have rl : Rep X.K H (del m a) (.ref a) (.lst ds) := .lst (.inl ⟨.inl ex, da⟩) (rx.mv step_del)
      have o2 := (o.mv step_del (hr_del o.hr)).set i rl
      have es : σ.set i (some (V.ref a)) = σ := by
        obtain ⟨hl, e⟩ := List.getElem?_eq_some_iff.mp ev
        rw [← e, List.set_getElem_self]
      rw [es] at o2
      exact q σ H _ _ D3 E o2 h (l.mv step_del)
    · exact h.elim
  · exact h.elim

/-! ### the law -/
def spLaw (K : PySem.W.Frag) : Sp := fun vs H Q _ => ∃ (a : Addr) (ns : List Int), vs = [.ref a] ∧ SqL K H a (ns.map V.int) ∧ ns.length ≤ 63 ∧ ∀ H', Q (.bl true) H'
def sp3Law : Sp3 := fun ds m P => ∃ ns : List Int, ds = [.lst (ns.map D.int)] ∧ ns.length ≤ 63 ∧ ∀ m', P (.bl true) m'
theorem law_end {P : Program} {w : World} {K : PySem.W.Frag} {mg : Str → Option Value} {base : Heap} {k : Nat} {f : Addr} {fd : FuncData} (F : Fn3 P w K mg base k f fd ["script"] sp3Law) : FnOk P w K mg base CX0 k f fd ["script"] (spLaw K) := by
  refine F.imp fun vs H Q E h => ?_
  obtain ⟨a, ns, rfl, hS, hl, q⟩ := h
  refine ⟨[.lst (ns.map D.int)], fun _ => none, fun d _ => d = .bl true, fun a u e => (nomatch e), .cons (.lst (xs := ns.map V.int) ?_ (Reps.ints ns)) .nil, ⟨ns, rfl, hl, fun _ => rfl⟩, fun v H' d m' p _ _ r => ?_⟩
  · rcases hS with h | h
    · exact .inl ⟨h, rfl⟩
    · exact .inr h
  · subst p
    cases r
    exact q H'

/-! ### tests -/
theorem iteD {p A B : Prop} [Decidable p] (h1 : p → A) (h2 : ¬ p → B) : if decide p = true then A else B := by
  by_cases h : p
  · rw [decide_eq_true h]; exact h1 h
  · rw [decide_eq_false h]; exact h2 h
theorem iteDn {p A B : Prop} [Decidable p] (h1 : ¬ p → A) (h2 : p → B) : if (!decide p) = true then A else B := by
  by_cases h : p
  · rw [decide_eq_true h]; exact h2 h
  · rw [decide_eq_false h]; exact h1 h
theorem iteB {b : Bool} {A B : Prop} (h1 : b = true → A) (h2 : b = false → B) : if b = true then A else B := by
  cases b
  · exact h2 rfl
  · exact h1 rfl
theorem at_0 {x : D} {xs : List D} : L2.atI (x :: xs) 0 = some x := by
  unfold L2.atI ixN
  rw [if_pos (by decide), if_pos (by rw [List.length_cons]; omega)]
  rfl
theorem at_s {x : D} {xs : List D} {i : Int} (h : 0 ≤ i) : L2.atI (x :: xs) (i + 1) = L2.atI xs i := by
  unfold L2.atI ixN
  rw [if_pos (by omega), if_pos h, List.length_cons]
  by_cases c : i < (xs.length : Int)
  · rw [if_pos (by omega), if_pos c, show (i + 1).toNat = i.toNat + 1 by omega]
    rfl
  · rw [if_neg (by omega), if_neg c]
    rfl
theorem at_1 {x y : D} {xs : List D} : L2.atI (x :: y :: xs) 1 = some y := (at_s (i := 0) (by decide)).trans at_0
theorem at_2 {x y z : D} {xs : List D} : L2.atI (x :: y :: z :: xs) 2 = some z := (at_s (i := 1) (by decide)).trans at_1
theorem at_3 {x y z u : D} {xs : List D} : L2.atI (x :: y :: z :: u :: xs) 3 = some u := (at_s (i := 2) (by decide)).trans at_2
theorem at_4 {x y z u v : D} {xs : List D} : L2.atI (x :: y :: z :: u :: v :: xs) 4 = some v := (at_s (i := 3) (by decide)).trans at_3
theorem at_5 {x y z u v w : D} {xs : List D} : L2.atI (x :: y :: z :: u :: v :: w :: xs) 5 = some w := (at_s (i := 4) (by decide)).trans at_4
theorem at_6 {x y z u v w s : D} {xs : List D} : L2.atI (x :: y :: z :: u :: v :: w :: s :: xs) 6 = some s := (at_s (i := 5) (by decide)).trans at_5
theorem ix_0 {n : Nat} : ixN (n + 1) 0 = some 0 := by
  unfold ixN
  rw [if_pos (by decide), if_pos (by omega)]
  rfl
theorem ix_1 {n : Nat} : ixN (n + 1 + 1) 1 = some 1 := by
  unfold ixN
  rw [if_pos (by decide), if_pos (by omega)]
  rfl
theorem ix_2 {n : Nat} : ixN (n + 1 + 1 + 1) 2 = some 2 := by
  unfold ixN
  rw [if_pos (by decide), if_pos (by omega)]
  rfl
theorem fIx_tup {ds : List D} {i : Int} {m : Mem} {P : DK} : fIx (.tup ds) (.int i) m P = at3 ds i m P := rfl
theorem fIx_lst {ds : List D} {i : Int} {m : Mem} {P : DK} : fIx (.lst ds) (.int i) m P = at3 ds i m P := rfl
theorem fIx_ref {ds : List D} {a : Addr} {i : Int} {m : Mem} {P : DK} (h : m a = some (.lst ds)) : fIx (.ref a) (.int i) m P = at3 ds i m P := by
  unfold fIx
  simp only [h]
theorem fLen_tup {ds : List D} {m : Mem} {P : DK} : fLen (.tup ds) m P = P (.int ds.length) m := rfl
theorem fLen_lst {ds : List D} {m : Mem} {P : DK} : fLen (.lst ds) m P = P (.int ds.length) m := rfl
theorem fLen_ref {ds : List D} {a : Addr} {m : Mem} {P : DK} (h : m a = some (.lst ds)) : fLen (.ref a) m P = P (.int ds.length) m := by
  unfold fLen
  simp only [h]
theorem fI0_i {g : Int → Int → D} {i j : Int} {m : Mem} {P : DK} : fI0 g (.int i) (.int j) m P = P (g i j) m := rfl
theorem fI_i {C : Int → Int → Prop} {g : Int → Int → D} {i j : Int} {m : Mem} {P : DK} : fI C g (.int i) (.int j) m P = (C i j ∧ P (g i j) m) := rfl
theorem at3_0 {x : D} {xs : List D} {m : Mem} {P : DK} : at3 (x :: xs) 0 m P = P x m := by unfold at3; rw [at_0]
theorem at3_1 {x y : D} {xs : List D} {m : Mem} {P : DK} : at3 (x :: y :: xs) 1 m P = P y m := by unfold at3; rw [at_1]
theorem at3_2 {x y z : D} {xs : List D} {m : Mem} {P : DK} : at3 (x :: y :: z :: xs) 2 m P = P z m := by unfold at3; rw [at_2]
theorem at3_3 {x y z u : D} {xs : List D} {m : Mem} {P : DK} : at3 (x :: y :: z :: u :: xs) 3 m P = P u m := by unfold at3; rw [at_3]
theorem at3_4 {x y z u v : D} {xs : List D} {m : Mem} {P : DK} : at3 (x :: y :: z :: u :: v :: xs) 4 m P = P v m := by unfold at3; rw [at_4]
theorem at3_5 {x y z u v w : D} {xs : List D} {m : Mem} {P : DK} : at3 (x :: y :: z :: u :: v :: w :: xs) 5 m P = P w m := by unfold at3; rw [at_5]
theorem at3_6 {x y z u v w s : D} {xs : List D} {m : Mem} {P : DK} : at3 (x :: y :: z :: u :: v :: w :: s :: xs) 6 m P = P s m := by unfold at3; rw [at_6]
/-- an item at a place that is drawn -/
theorem at3_all {m : Mem} {P : DK} : ∀ {ds : List D} {i : Int}, 0 ≤ i → i < ds.length → (∀ d ∈ ds, P d m) → at3 ds i m P
  | [], i, h0, h1, _ => by exfalso; rw [List.length_nil] at h1; omega
  | d :: ds, i, h0, h1, h => by
    rw [List.length_cons] at h1
    by_cases e : i = 0
    · subst e
      rw [at3_0]
      exact h d List.mem_cons_self
    · have e2 : at3 (d :: ds) i m P = at3 ds (i - 1) m P := by
        unfold at3
        rw [show L2.atI (d :: ds) i = L2.atI ds (i - 1) from by
          conv => lhs; rw [show i = (i - 1) + 1 by omega]
          exact at_s (by omega)]
      rw [e2]
      exact at3_all (by omega) (by omega) fun x hx => h x (List.mem_cons_of_mem _ hx)
/-! ### == by kinds -/
theorem fEq_int {x y : Int} {m : Mem} {P : DK} : fEq (.int x) (.int y) m P = P (.bl (decide (x = y))) m := by
  have e : (x == y) = decide (x = y) := by rw [Bool.beq_eq_decide_eq]
  show (true = true ∧ P (.bl (x == y)) m) = _
  rw [e, eq_self, true_and]
theorem fNe_int {x y : Int} {m : Mem} {P : DK} : fNe (.int x) (.int y) m P = P (.bl (!decide (x = y))) m := by
  have e : (x == y) = decide (x = y) := by rw [Bool.beq_eq_decide_eq]
  show (true = true ∧ P (.bl (!(x == y))) m) = _
  rw [e, eq_self, true_and]
theorem fEq_bl {x y : Bool} {m : Mem} {P : DK} : fEq (.bl x) (.bl y) m P = P (.bl (x == y)) m := by
  show (true = true ∧ P (.bl (x == y)) m) = _
  rw [eq_self, true_and]
theorem fNe_bl {x y : Bool} {m : Mem} {P : DK} : fNe (.bl x) (.bl y) m P = P (.bl (!(x == y))) m := by
  show (true = true ∧ P (.bl (!(x == y))) m) = _
  rw [eq_self, true_and]
theorem fEq_pair {x y z w : Int} {m : Mem} {P : DK} : fEq (.tup [.int x, .int y]) (.tup [.int z, .int w]) m P = P (.bl (decide (x = z) && decide (y = w))) m := by
  have e1 : (x == z) = decide (x = z) := by rw [Bool.beq_eq_decide_eq]
  have e2 : (y == w) = decide (y = w) := by rw [Bool.beq_eq_decide_eq]
  show (true = true ∧ P (.bl ((x == z) && ((y == w) && true))) m) = _
  rw [e1, e2, Bool.and_true, eq_self, true_and]
theorem fNe_pair {x y z w : Int} {m : Mem} {P : DK} : fNe (.tup [.int x, .int y]) (.tup [.int z, .int w]) m P = P (.bl (!(decide (x = z) && decide (y = w)))) m := by
  have e1 : (x == z) = decide (x = z) := by rw [Bool.beq_eq_decide_eq]
  have e2 : (y == w) = decide (y = w) := by rw [Bool.beq_eq_decide_eq]
  show (true = true ∧ P (.bl (!((x == z) && ((y == w) && true)))) m) = _
  rw [e1, e2, Bool.and_true, eq_self, true_and]
/-! ### for, by what holds -/
theorem forIn3_ind {g : TG3} {tb : TS3} {D3 : Ends3} (I : List D → Env3 → Mem → Prop)
    (hs : ∀ d ds ρ m (nx : Env3 → Mem → Prop), (∀ ρ m, I ds ρ m → nx ρ m) → I (d :: ds) ρ m → g d ρ m fun ρ1 m1 => tb { D3 with nx := nx, ct := nx, bk := D3.nx } ρ1 m1)
    (hd : ∀ ρ m, I [] ρ m → D3.nx ρ m) : ∀ (ds : List D) (ρ : Env3) (m : Mem), I ds ρ m → forIn3 g tb D3 ds ρ m
  | [], ρ, m, h => hd ρ m h
  | d :: ds, ρ, m, h => hs d ds ρ m _ (fun ρ m h => forIn3_ind I hs hd ds ρ m h) h
theorem cutD_mem {ds : List D} {lo hi : Option Int} {d : D} (h : d ∈ cutD ds lo hi) : d ∈ ds := List.mem_of_mem_drop (List.mem_of_mem_take h)
theorem cutD_len (ds : List D) (lo hi : Option Int) : (cutD ds lo hi).length ≤ ds.length := by
  unfold cutD
  rw [List.length_take, List.length_drop]
  omega
theorem dIsN_non : dIsN .non = true := rfl
theorem dIsN_int {i : Int} : dIsN (.int i) = false := rfl
theorem dIsN_bl {i : Bool} : dIsN (.bl i) = false := rfl
theorem dIsN_str {i : Str} : dIsN (.str i) = false := rfl
theorem dIsN_tup {i : List D} : dIsN (.tup i) = false := rfl
theorem dIsN_lst {i : List D} : dIsN (.lst i) = false := rfl
/-- what comes later: not looked at yet -/
def Later (t : TS3) : TS3 := t
theorem seq3_stop {t u : TS3} {D : Ends3} {ρ : Env3} {m : Mem} : seq3 t u D ρ m = t { D with nx := Later u D } ρ m := rfl
theorem later_i {t : TS3} {D : Ends3} {ρ : Env3} {m : Mem} (h : t D ρ m) : Later t D ρ m := h
/-- a goal that is looked at -/
def LaterP (A : Prop) : Prop := A
theorem laterP_in {A : Prop} (h : LaterP A) : A := h
theorem laterP_i {A : Prop} (h : A) : LaterP A := h
theorem later_eq {t : TS3} {D : Ends3} {ρ : Env3} {m : Mem} : Later t D ρ m = t D ρ m := rfl
/-! ### ways that meet again -/
theorem andV3_j {ta tb : TE3} {ρ : Env3} {m : Mem} {P : DK} {b1 b2 : Bool} (h1 : ∀ P : DK, P (.bl b1) m → ta ρ m P) (h2 : b1 = true → ∀ P : DK, P (.bl b2) m → tb ρ m P) (k : P (.bl (b1 && b2)) m) : andV3 ta tb ρ m P := by
  refine h1 _ ?_
  cases b1 with
  | true => exact h2 rfl P k
  | false => exact k
theorem orV3_j {ta tb : TE3} {ρ : Env3} {m : Mem} {P : DK} {b1 b2 : Bool} (h1 : ∀ P : DK, P (.bl b1) m → ta ρ m P) (h2 : b1 = false → ∀ P : DK, P (.bl b2) m → tb ρ m P) (k : P (.bl (b1 || b2)) m) : orV3 ta tb ρ m P := by
  refine h1 _ ?_
  cases b1 with
  | true => exact k
  | false => exact h2 rfl P k
theorem and3_j {t u : TT3} {ρ : Env3} {m : Mem} {P : Bool → Mem → Prop} {b1 b2 : Bool} (h1 : ∀ P : Bool → Mem → Prop, P b1 m → t ρ m P) (h2 : b1 = true → ∀ P : Bool → Mem → Prop, P b2 m → u ρ m P) (k : P (b1 && b2) m) : and3 t u ρ m P := by
  refine h1 _ ?_
  cases b1 with
  | true => exact h2 rfl P k
  | false => exact k
theorem or3_j {t u : TT3} {ρ : Env3} {m : Mem} {P : Bool → Mem → Prop} {b1 b2 : Bool} (h1 : ∀ P : Bool → Mem → Prop, P b1 m → t ρ m P) (h2 : b1 = false → ∀ P : Bool → Mem → Prop, P b2 m → u ρ m P) (k : P (b1 || b2) m) : or3 t u ρ m P := by
  refine h1 _ ?_
  cases b1 with
  | true => exact k
  | false => exact h2 rfl P k
theorem nc0 : ((0 : Nat) : Int) = 0 := rfl
theorem nc1 : ((1 : Nat) : Int) = 1 := rfl
theorem nc2 : ((2 : Nat) : Int) = 2 := rfl
theorem nc3 : ((3 : Nat) : Int) = 3 := rfl
theorem nc4 : ((4 : Nat) : Int) = 4 := rfl
theorem nc5 : ((5 : Nat) : Int) = 5 := rfl
theorem sh {n : Nat} (h : Nat.ble n 16000 = true := by rfl) : n ≤ 16000 := Nat.le_of_ble_eq_true h
/-! isinstance, kind by kind -/
theorem fIsi_int_int {i : Int} {m : Mem} {P : DK} : fIsi (.int i) (.ty "int") m P = P (.bl true) m := rfl
theorem fIsi_int_bool {i : Int} {m : Mem} {P : DK} : fIsi (.int i) (.ty "bool") m P = P (.bl false) m := rfl
theorem fIsi_int_tuple {i : Int} {m : Mem} {P : DK} : fIsi (.int i) (.ty "tuple") m P = P (.bl false) m := rfl
theorem fIsi_int_str {i : Int} {m : Mem} {P : DK} : fIsi (.int i) (.ty "str") m P = P (.bl false) m := rfl
theorem fIsi_int_list {i : Int} {m : Mem} {P : DK} : fIsi (.int i) (.ty "list") m P = P (.bl false) m := rfl
theorem fIsi_bl_int {i : Bool} {m : Mem} {P : DK} : fIsi (.bl i) (.ty "int") m P = P (.bl true) m := rfl
theorem fIsi_bl_bool {i : Bool} {m : Mem} {P : DK} : fIsi (.bl i) (.ty "bool") m P = P (.bl true) m := rfl
theorem fIsi_bl_tuple {i : Bool} {m : Mem} {P : DK} : fIsi (.bl i) (.ty "tuple") m P = P (.bl false) m := rfl
theorem fIsi_bl_str {i : Bool} {m : Mem} {P : DK} : fIsi (.bl i) (.ty "str") m P = P (.bl false) m := rfl
theorem fIsi_bl_list {i : Bool} {m : Mem} {P : DK} : fIsi (.bl i) (.ty "list") m P = P (.bl false) m := rfl
theorem fIsi_non_int  {m : Mem} {P : DK} : fIsi D.non (.ty "int") m P = P (.bl false) m := rfl
theorem fIsi_non_bool  {m : Mem} {P : DK} : fIsi D.non (.ty "bool") m P = P (.bl false) m := rfl
theorem fIsi_non_tuple  {m : Mem} {P : DK} : fIsi D.non (.ty "tuple") m P = P (.bl false) m := rfl
theorem fIsi_non_str  {m : Mem} {P : DK} : fIsi D.non (.ty "str") m P = P (.bl false) m := rfl
theorem fIsi_non_list  {m : Mem} {P : DK} : fIsi D.non (.ty "list") m P = P (.bl false) m := rfl
theorem fIsi_str_int {i : Str} {m : Mem} {P : DK} : fIsi (.str i) (.ty "int") m P = P (.bl false) m := rfl
theorem fIsi_str_bool {i : Str} {m : Mem} {P : DK} : fIsi (.str i) (.ty "bool") m P = P (.bl false) m := rfl
theorem fIsi_str_tuple {i : Str} {m : Mem} {P : DK} : fIsi (.str i) (.ty "tuple") m P = P (.bl false) m := rfl
theorem fIsi_str_str {i : Str} {m : Mem} {P : DK} : fIsi (.str i) (.ty "str") m P = P (.bl true) m := rfl
theorem fIsi_str_list {i : Str} {m : Mem} {P : DK} : fIsi (.str i) (.ty "list") m P = P (.bl false) m := rfl
theorem fIsi_tup_int {i : List D} {m : Mem} {P : DK} : fIsi (.tup i) (.ty "int") m P = P (.bl false) m := rfl
theorem fIsi_tup_bool {i : List D} {m : Mem} {P : DK} : fIsi (.tup i) (.ty "bool") m P = P (.bl false) m := rfl
theorem fIsi_tup_tuple {i : List D} {m : Mem} {P : DK} : fIsi (.tup i) (.ty "tuple") m P = P (.bl true) m := rfl
theorem fIsi_tup_str {i : List D} {m : Mem} {P : DK} : fIsi (.tup i) (.ty "str") m P = P (.bl false) m := rfl
theorem fIsi_tup_list {i : List D} {m : Mem} {P : DK} : fIsi (.tup i) (.ty "list") m P = P (.bl false) m := rfl
theorem fIsi_lst_int {i : List D} {m : Mem} {P : DK} : fIsi (.lst i) (.ty "int") m P = P (.bl false) m := rfl
theorem fIsi_lst_bool {i : List D} {m : Mem} {P : DK} : fIsi (.lst i) (.ty "bool") m P = P (.bl false) m := rfl
theorem fIsi_lst_tuple {i : List D} {m : Mem} {P : DK} : fIsi (.lst i) (.ty "tuple") m P = P (.bl false) m := rfl
theorem fIsi_lst_str {i : List D} {m : Mem} {P : DK} : fIsi (.lst i) (.ty "str") m P = P (.bl false) m := rfl
theorem fIsi_lst_list {i : List D} {m : Mem} {P : DK} : fIsi (.lst i) (.ty "list") m P = P (.bl true) m := rfl
theorem iteTrue {A B : Prop} (h : A) : if true = true then A else B := h
theorem iteFalse {A B : Prop} (h : B) : if false = true then A else B := h
end D3

set_option Elab.async false
set_option linter.all false
set_option maxRecDepth 100000
set_option maxHeartbeats 4000000
/-! Gd: str of nested data (the guards of the showing are known to be none), list comprehensions, tuple(..), int(truth). -/
namespace D3
open PySem L2

/-! ### sizes of data -/
mutual
def Pl (b : Nat) : D → Prop
  | .non => True
  | .bl _ => True
  | .int i => i.natAbs < 2 ^ b
  | .str x => x.length ≤ b ∧ ∀ c ∈ x.cps.toList, c < 0x110000
  | .tup ds => Pls b ds
  | .lst ds => Pls b ds
  | .ref _ => False
  | .ty _ => False
def Pls (b : Nat) : List D → Prop
  | [] => True
  | d :: ds => Pl b d ∧ Pls b ds
end
mutual
theorem Pl.le {b c : Nat} (h : b ≤ c) : ∀ d : D, Pl b d → Pl c d
  | .non, _ => trivial
  | .bl _, _ => trivial
  | .int i, z => Nat.lt_of_lt_of_le (show i.natAbs < 2 ^ b from z) (Nat.pow_le_pow_right (by decide) h)
  | .str x, z => ⟨Nat.le_trans z.1 h, z.2⟩
  | .tup ds, z => Pls.le h ds z
  | .lst ds, z => Pls.le h ds z
  | .ref _, z => (z : False).elim
  | .ty _, z => (z : False).elim
theorem Pls.le {b c : Nat} (h : b ≤ c) : ∀ ds : List D, Pls b ds → Pls c ds
  | [], _ => trivial
  | d :: ds, z => ⟨Pl.le h d z.1, Pls.le h ds z.2⟩
end
theorem Pls.app {b : Nat} : ∀ {xs ys : List D}, Pls b xs → Pls b ys → Pls b (xs ++ ys)
  | [], _, _, h => h
  | _ :: _, _, h, h' => ⟨h.1, Pls.app h.2 h'⟩
mutual
def sz : D → Nat
  | .tup ds => szs ds + 1
  | .lst ds => szs ds + 1
  | _ => 1
def szs : List D → Nat
  | [] => 0
  | d :: ds => sz d + szs ds
end
mutual
def dp : D → Nat
  | .tup ds => dps ds + 1
  | .lst ds => dps ds + 1
  | _ => 0
def dps : List D → Nat
  | [] => 0
  | d :: ds => max (dp d) (dps ds)
end
mutual
def pyOf : D → PyData
  | .non => .none
  | .bl b => .bool b
  | .int i => .int i
  | .str x => .str x
  | .tup ds => .tuple (pysOf ds)
  | .lst ds => .list (pysOf ds)
  | .ref _ => .none
  | .ty _ => .none
def pysOf : List D → List PyData
  | [] => []
  | d :: ds => pyOf d :: pysOf ds
end
theorem log2_lt {n k : Nat} (hk : 0 < k) (h : n < 2 ^ k) : n.log2 < k := by
  by_cases h0 : n = 0
  · subst h0; rw [Nat.log2_zero]; exact hk
  · exact (Nat.log2_lt h0).mpr h
mutual
theorem py_facts {n : Nat} (h18 : 18 ≤ n) (h19 : n ≤ 1900) : ∀ d : D, Pl n d → toPy d = some (pyOf d) ∧ (pyOf d).showable = true ∧ (pyOf d).hasDict = false ∧ (pyOf d).leavesShort (n / 3 + 2) = true ∧ (pyOf d).weight + 1 ≤ (n + 1) * sz d ∧ (pyOf d).depth ≤ dp d
  | .non, _ => ⟨by rw [toPy, pyOf], rfl, rfl, rfl, by simp [pyOf, PyData.weight, sz], Nat.le_refl _⟩
  | .bl b, _ => ⟨by rw [toPy, pyOf], rfl, rfl, rfl, by simp [pyOf, PyData.weight, sz], Nat.le_refl _⟩
  | .int i, h => by
    have h : i.natAbs < 2 ^ n := h
    have h10 : i.natAbs < 10 ^ (n / 3 + 1) := by
      have e1 : 2 ^ n ≤ 2 ^ (3 * (n / 3 + 1)) := Nat.pow_le_pow_right (by decide) (by omega)
      have e2 : 2 ^ (3 * (n / 3 + 1)) = 8 ^ (n / 3 + 1) := by rw [Nat.pow_mul]
      have e3 : 8 ^ (n / 3 + 1) ≤ 10 ^ (n / 3 + 1) := Nat.pow_le_pow_left (by decide) _
      omega
    have hl : i.natAbs.log2 < n := log2_lt (by omega) h
    refine ⟨by rw [toPy, pyOf], ?_, rfl, ?_, ?_, Nat.le_refl _⟩
    · simp only [pyOf, PyData.showable, decide_eq_true_eq]; omega
    · simp only [pyOf, PyData.leavesShort, decide_eq_true_eq]
      have e := int_text_length_le10 (k := n / 3 + 1) (by omega) h10
      show (Str.ofString (toString i)).length ≤ n / 3 + 2
      rw [ofString_length]; exact e
    · simp only [pyOf, PyData.weight, sz, Nat.mul_one]
      split <;> omega
  | .str x, h => by
    have h : x.length ≤ n ∧ ∀ c ∈ x.cps.toList, c < 0x110000 := h
    have h1 : x.cps.size ≤ n := h.1
    refine ⟨by rw [toPy, pyOf], rfl, rfl, ?_, ?_, Nat.le_refl _⟩
    · simp only [pyOf, PyData.leavesShort, List.all_eq_true, decide_eq_true_eq]
      exact fun c hc => Nat.lt_trans (h.2 c hc) (by decide)
    · simp only [pyOf, PyData.weight, sz, Nat.mul_one]; omega
  | .tup ds, h => by
    obtain ⟨a, b, c, e, f, g⟩ := pys_facts h18 h19 ds h
    refine ⟨by rw [toPy, a, pyOf]; rfl, ?_, ?_, ?_, ?_, ?_⟩
    · simpa only [pyOf, PyData.showable] using b
    · simpa only [pyOf, PyData.hasDict] using c
    · simpa only [pyOf, PyData.leavesShort] using e
    · simp only [pyOf, PyData.weight, sz, Nat.mul_add, Nat.mul_one]; omega
    · simp only [pyOf, PyData.depth, dp]; omega
  | .lst ds, h => by
    obtain ⟨a, b, c, e, f, g⟩ := pys_facts h18 h19 ds h
    refine ⟨by rw [toPy, a, pyOf]; rfl, ?_, ?_, ?_, ?_, ?_⟩
    · simpa only [pyOf, PyData.showable] using b
    · simpa only [pyOf, PyData.hasDict] using c
    · simpa only [pyOf, PyData.leavesShort] using e
    · simp only [pyOf, PyData.weight, sz, Nat.mul_add, Nat.mul_one]; omega
    · simp only [pyOf, PyData.depth, dp]; omega
  | .ref _, h => (h : False).elim
  | .ty _, h => (h : False).elim
theorem pys_facts {n : Nat} (h18 : 18 ≤ n) (h19 : n ≤ 1900) : ∀ ds : List D, Pls n ds → toPys ds = some (pysOf ds) ∧ PyData.showableAll (pysOf ds) = true ∧ PyData.hasDictAll (pysOf ds) = false ∧ PyData.leavesShortAll (n / 3 + 2) (pysOf ds) = true ∧ PyData.weightAll (pysOf ds) ≤ (n + 1) * szs ds ∧ PyData.depthAll (pysOf ds) ≤ dps ds
  | [], _ => ⟨by rw [toPys, pysOf], rfl, rfl, rfl, Nat.zero_le _, Nat.le_refl _⟩
  | d :: ds, h => by
    obtain ⟨a, b, c, e, f, g⟩ := py_facts h18 h19 d h.1
    obtain ⟨a', b', c', e', f', g'⟩ := pys_facts h18 h19 ds h.2
    refine ⟨by rw [toPys, a, a', pysOf], ?_, ?_, ?_, ?_, ?_⟩
    · simp only [pysOf, PyData.showableAll, b, b', Bool.and_self]
    · simp only [pysOf, PyData.hasDictAll, c, c', Bool.or_self]
    · simp only [pysOf, PyData.leavesShortAll, e, e', Bool.and_self]
    · simp only [pysOf, PyData.weightAll, szs, Nat.mul_add]; omega
    · simp only [pysOf, PyData.depthAll, dps]; omega
end
/-- what str tells -/
def strD : D → Str
  | .str x => x
  | d => (pyOf d).shown
/-- b bounds the leaves, k the number of parts -/
def Shw (d : D) : Prop := ∃ b k : Nat, 18 ≤ b ∧ b ≤ 1900 ∧ Pl b d ∧ sz d ≤ k ∧ (b / 3 + 4) * ((b + 1) * k) + (b / 3 + 2) ≤ 16777216 ∧ dp d ≤ 50
def fStr : F1 := fun d m P => Shw d ∧ P (.str (strD d)) m
theorem ofString_c (s : String) : ∀ c ∈ (Str.ofString s).cps.toList, c < 0x110000 := by
  intro c hc
  rw [Str.ofString_eq_toList] at hc
  simp only [List.mem_map] at hc
  obtain ⟨x, _, rfl⟩ := hc
  show x.val.toNat < 0x110000
  rcases x.valid with h | h
  · exact Nat.lt_trans h (by decide)
  · exact h.2
/-- the text of a whole number -/
theorem pl_digits {i : Int} (h : i.natAbs < 10 ^ 20) {b : Nat} (hb : 21 ≤ b) : Pl b (.str (toString i)) := by
  refine ⟨?_, ofString_c _⟩
  rw [ofString_length]
  exact Nat.le_trans (int_text_length_le10 (k := 20) (by decide) h) hb
mutual
theorem can_of {n : Nat} : ∀ d : D, Pl n d → (pyOf d).canLay0 = true
  | .non, _ => rfl
  | .bl _, _ => rfl
  | .int _, _ => rfl
  | .str x, h => by
    have h : x.length ≤ n ∧ ∀ c ∈ x.cps.toList, c < 0x110000 := h
    show x.cps.all (· < 0x110000) = true
    rw [← Array.all_toList, List.all_eq_true]
    exact fun c hc => decide_eq_true (h.2 c hc)
  | .tup ds, h => by simpa only [pyOf, PyData.canLay0] using cans_of ds h
  | .lst ds, h => by simpa only [pyOf, PyData.canLay0] using cans_of ds h
  | .ref _, h => (h : False).elim
  | .ty _, h => (h : False).elim
theorem cans_of {n : Nat} : ∀ ds : List D, Pls n ds → PyData.canLayAll0 (pysOf ds) = true
  | [], _ => rfl
  | d :: ds, h => by simp only [pysOf, PyData.canLayAll0, can_of d h.1, cans_of ds h.2, Bool.and_self]
end
mutual
theorem toPy_of {n : Nat} : ∀ d : D, Pl n d → toPy d = some (pyOf d) ∧ (pyOf d).depth ≤ dp d
  | .non, _ => ⟨by rw [toPy, pyOf], Nat.le_refl _⟩
  | .bl _, _ => ⟨by rw [toPy, pyOf], Nat.le_refl _⟩
  | .int _, _ => ⟨by rw [toPy, pyOf], Nat.le_refl _⟩
  | .str _, _ => ⟨by rw [toPy, pyOf], Nat.le_refl _⟩
  | .tup ds, h => ⟨by rw [toPy, (toPys_of ds h).1, pyOf]; rfl, by have := (toPys_of ds h).2; simp only [pyOf, PyData.depth, dp]; omega⟩
  | .lst ds, h => ⟨by rw [toPy, (toPys_of ds h).1, pyOf]; rfl, by have := (toPys_of ds h).2; simp only [pyOf, PyData.depth, dp]; omega⟩
  | .ref _, h => (h : False).elim
  | .ty _, h => (h : False).elim
theorem toPys_of {n : Nat} : ∀ ds : List D, Pls n ds → toPys ds = some (pysOf ds) ∧ PyData.depthAll (pysOf ds) ≤ dps ds
  | [], _ => ⟨by rw [toPys, pysOf], Nat.le_refl _⟩
  | d :: ds, h => by
    obtain ⟨a, b⟩ := toPy_of d h.1
    obtain ⟨c, e⟩ := toPys_of ds h.2
    exact ⟨by rw [toPys, a, c, pysOf], by simp only [pysOf, PyData.depthAll, dps]; omega⟩
end
/-- == of any two data of small depth -/
theorem fEq_pl {d e : D} {n k : Nat} {m : Mem} {P : DK} (hd : Pl n d) (he : Pl k e) (h1 : dp d ≤ 64) (h2 : dp e ≤ 64) : fEq d e m P = P (.bl (PyData.eqv (pyOf d) (pyOf e))) m := by
  obtain ⟨a, b⟩ := toPy_of d hd
  obtain ⟨c, f⟩ := toPy_of e he
  unfold fEq deqOk deq
  rw [a, c]
  have s1 : SeqAt.shaped (pyOf d) = true := by unfold SeqAt.shaped; rw [can_of d hd, Bool.true_and]; exact decide_eq_true (by omega)
  have s2 : SeqAt.shaped (pyOf e) = true := by unfold SeqAt.shaped; rw [can_of e he, Bool.true_and]; exact decide_eq_true (by omega)
  simp only [s1, s2, Bool.and_self, true_and]
theorem fNe_pl {d e : D} {n k : Nat} {m : Mem} {P : DK} (hd : Pl n d) (he : Pl k e) (h1 : dp d ≤ 64) (h2 : dp e ≤ 64) : fNe d e m P = P (.bl (!PyData.eqv (pyOf d) (pyOf e))) m := by
  obtain ⟨a, b⟩ := toPy_of d hd
  obtain ⟨c, f⟩ := toPy_of e he
  unfold fNe deqOk deq
  rw [a, c]
  have s1 : SeqAt.shaped (pyOf d) = true := by unfold SeqAt.shaped; rw [can_of d hd, Bool.true_and]; exact decide_eq_true (by omega)
  have s2 : SeqAt.shaped (pyOf e) = true := by unfold SeqAt.shaped; rw [can_of e he, Bool.true_and]; exact decide_eq_true (by omega)
  simp only [s1, s2, Bool.and_self, true_and]
/-- scalars by == and != -/
def fEqS : F2 := fun x y m P => match x, y with
  | .str a, .str b => P (.bl (decide (a = b))) m
  | .int a, .str _ => P (.bl false) m
  | .str _, .int _ => P (.bl false) m
  | .str _, .non => P (.bl false) m
  | .non, .str _ => P (.bl false) m
  | .bl _, .str _ => P (.bl false) m
  | .str _, .bl _ => P (.bl false) m
  | _, _ => False
def fNeS : F2 := fun x y m P => match x, y with
  | .str a, .str b => P (.bl (!decide (a = b))) m
  | .int a, .str _ => P (.bl true) m
  | .str _, .int _ => P (.bl true) m
  | .str _, .non => P (.bl true) m
  | .non, .str _ => P (.bl true) m
  | .bl _, .str _ => P (.bl true) m
  | .str _, .bl _ => P (.bl true) m
  | _, _ => False
theorem fEqS_s {a b : Str} {m : Mem} {P : DK} : fEqS (.str a) (.str b) m P = P (.bl (decide (a = b))) m := rfl
theorem fNeS_s {a b : Str} {m : Mem} {P : DK} : fNeS (.str a) (.str b) m P = P (.bl (!decide (a = b))) m := rfl
theorem rl_eqS {K : PySem.W.Frag} : RL K rEq fEqS := by
  intro x y d e H m P Q h r1 r2 f k
  unfold fEqS at f
  split at f <;> first | exact f.elim | (cases r1; cases r2; first | exact ⟨rfl, k.now h f (by simp; exact .bl _)⟩ | exact ⟨rfl, k.now h f (by simpa using Rep.bl _)⟩)
theorem rl_neS {K : PySem.W.Frag} : RL K rNe fNeS := by
  intro x y d e H m P Q h r1 r2 f k
  unfold fNeS at f
  split at f <;> first | exact f.elim | (cases r1; cases r2; first | exact ⟨rfl, k.now h f (by simp; exact .bl _)⟩ | exact ⟨rfl, k.now h f (by simpa using Rep.bl _)⟩)
section
variable {X : Cx} {pos p : Pos} {e a b c : Expr} {ta tb tc : TE3} {x : Str} {k : Nat}
theorem e_eqS (ha : PE3 X a ta) (hb : PE3 X b tb) : PE3 X (.Compare a [.Eq] [b] pos) (op3 fEqS ta tb) := e_cmpR op_eq rl_eqS ha hb (nomark _)
theorem e_neS (ha : PE3 X a ta) (hb : PE3 X b tb) : PE3 X (.Compare a [.NotEq] [b] pos) (op3 fNeS ta tb) := e_cmpR op_ne rl_neS ha hb (nomark _)
theorem t_eqS (ha : PE3 X a ta) (hb : PE3 X b tb) : PT3 X (.Compare a [.Eq] [b] pos) (b3 (op3 fEqS ta tb)) := t_cmpR op_eq rl_eqS ha hb (nomark _)
theorem t_neS (ha : PE3 X a ta) (hb : PE3 X b tb) : PT3 X (.Compare a [.NotEq] [b] pos) (b3 (op3 fNeS ta tb)) := t_cmpR op_ne rl_neS ha hb (nomark _)
def rStrD (K : PySem.W.Frag) : List V → Hp → VK → Prop := fun xs H Q => ∃ v d m, xs = [v] ∧ Rep K H m v d ∧ Shw d ∧ Q (.str (strD d)) H
theorem call_strD (hgd : X.A.guards = some []) (hr : Room k X.A) : CallR X (.type "str") (rStrD X.K) := by
  intro pins s σ H xs us Q I r h
  obtain ⟨v, d, m, rfl, rp, ⟨b, kk, hb1, hb2, hp, hk, hz, hd⟩, q⟩ := h
  obtain ⟨u, rfl, ru⟩ := vals1 r
  obtain ⟨f1, f2, f3, f4, f5, f6⟩ := py_facts hb1 hb2 d hp
  have hu := hr.units
  have hlen : (pyOf d).shown.length ≤ sizeLine := by
    have h1 := PyData.shown_le (b / 3 + 2) (by omega) (pyOf d) f4
    have h2 : (b / 3 + 2 + 2) * (pyOf d).weight ≤ (b / 3 + 4) * ((b + 1) * kk) := Nat.mul_le_mul (by omega) (Nat.le_trans (by omega) (Nat.mul_le_mul_left (b + 1) hk))
    rw [sizeLine_eq]
    omega
  have big : ∀ a : Addr, v = .ref a → strD d = (pyOf d).shown → wpAny (model X.prog X.w) X.A (call (.type "str") [u]) (EP X pins σ Q) X.xe s := by
    intro a ev es
    subst ev
    obtain rfl : u = .ref a := ru
    obtain ⟨as, rd⟩ := Dp.reads I (pyOf d) (.ref a) (.ref a) (Rep.dp d _ _ rp f1) rfl
    refine str_of_reads rd f2 (PyData.noDict_hsm f3) hgd (by omega) (fun _ _ e => e) (fun h' t tk hk => ?_) hlen
    exact ⟨.str (strD d), H, I.kept hk, ⟨t, by rw [es]⟩, q⟩
  cases rp with
  | non =>
    cases ru
    exact PySem.P.str_of_none ⟨.str _, H, I.tok _, ⟨_, rfl⟩, q⟩
  | bl _ =>
    cases ru
    exact PySem.P.str_of_bool ⟨.str _, H, I.tok _, ⟨_, rfl⟩, q⟩
  | int i =>
    obtain ⟨t, rfl⟩ := ru
    have hi : i.natAbs.log2 < 1920 := by simpa only [pyOf, PyData.showable, decide_eq_true_eq] using f2
    exact PySem.P.str_of_int hi ⟨.str _, H, I.tok _, ⟨_, rfl⟩, q⟩
  | str y =>
    obtain ⟨t, rfl⟩ := ru
    exact PySem.P.str_of_str ⟨.str _, H, I, ⟨_, rfl⟩, q⟩
  | ref a => exact (hp : False).elim
  | ty n => exact (hp : False).elim
  | tup t r' => exact big _ rfl rfl
  | lst t r' => exact big _ rfl rfl
theorem e_ty1 {T : String} {r : List V → Hp → VK → Prop} {f : F1} (hc : CallR X (.type T) r) (hr : RC1 X.K r f) (hg : Gl X x) (hm : X.mg x = none) (hv : bootBuiltins x = some (.type T)) (ha : PE3 X a ta) (hn : x ≠ "__name__" := by decide) (hdb : (x == ("__debug__" : Str)) = false := by decide)
    (he : starEach [a] X.env = (false, eval a X.env) :: starEach [] X.env := by rfl) (hpl : (backTo pos (starEach [] X.env)).any (·.1) = false := by rfl) : PE3 X (.Call (.Name x p) [a] [] pos) (un3 f ta) := by
  obtain ⟨_, p, q⟩ := ha
  refine ⟨_, pe_callTy hc hg hm hv (pa_cons p pa_nil he) hn hdb he hpl, fun σ H ρ m P Q o h k => ?_⟩
  refine q σ H ρ m _ _ o h fun x H1 d m1 p1 s1 h1 r1 => ?_
  exact hr x d H1 m1 P Q h1 r1 p1 (k.mv s1)
theorem e_strD (hgd : X.A.guards = some []) (hr : Room k X.A) (hg : Gl X "str") (hm : X.mg "str" = none) (ha : PE3 X a ta) (he : starEach [a] X.env = (false, eval a X.env) :: starEach [] X.env := by rfl) (hpl : (backTo pos (starEach [] X.env)).any (·.1) = false := by rfl) :
    PE3 X (.Call (.Name "str" p) [a] [] pos) (un3 fStr ta) :=
  e_ty1 (call_strD hgd hr) (fun x d H m P Q h r f k => ⟨x, d, m, rfl, r, f.1, k.now h f.2 (.str _)⟩) hg hm PyProof.Rows.boot_str ha (by decide) (by decide) he hpl
/-- str of a whole number -/
def fStrI : F1 := fun d m P => match d with
  | .int i => i.natAbs.log2 < 1920 ∧ P (.str (toString i)) m
  | _ => False
theorem e_strI (hg : Gl X "str") (hm : X.mg "str" = none) (ha : PE3 X a ta) (he : starEach [a] X.env = (false, eval a X.env) :: starEach [] X.env := by rfl) (hpl : (backTo pos (starEach [] X.env)).any (·.1) = false := by rfl) :
    PE3 X (.Call (.Name "str" p) [a] [] pos) (un3 fStrI ta) :=
  e_ty1 call_str_int (fun x d H m P Q h r f k => by
    cases d with
    | int i => cases r; exact ⟨i, rfl, f.1, k.now h f.2 (.str _)⟩
    | _ => exact (f : False).elim) hg hm PyProof.Rows.boot_str ha (by decide) (by decide) he hpl
/-- a module's whole number -/
theorem e_globI {x : Str} {i : Int} {pos : Pos} (hg : Gl X x) (h : ∃ t, X.mg x = some (.int i t)) (hd : (x == ("__debug__" : Str)) = false := by decide) : PE3 X (.Name x pos) (c3 (.int i)) := by
  obtain ⟨t, h⟩ := h
  exact e_glob (v := .int i) hg h ⟨t, rfl⟩ (fun _ _ => .int i) hd
/-- int of a whole number or a truth -/
def fInt : F1 := fun d m P => match d with
  | .int i => P (.int i) m
  | .bl b => P (.int (if b then 1 else 0)) m
  | _ => False
theorem boot_int : bootBuiltins "int" = some (.type "int") := by decide +kernel
theorem boot_tuple : bootBuiltins "tuple" = some (.type "tuple") := by decide +kernel
theorem boot_list : bootBuiltins "list" = some (.type "list") := by decide +kernel
theorem e_intO (hg : Gl X "int") (hm : X.mg "int" = none) (ha : PE3 X a ta) (he : starEach [a] X.env = (false, eval a X.env) :: starEach [] X.env := by rfl) (hpl : (backTo pos (starEach [] X.env)).any (·.1) = false := by rfl) :
    PE3 X (.Call (.Name "int" p) [a] [] pos) (un3 fInt ta) :=
  e_ty1 call_int1 (fun x d H m P Q h r f k => by
    cases d with
    | int i => cases r; exact .inl ⟨i, rfl, k.now h f (.int _)⟩
    | bl b => cases r; exact .inr ⟨b, rfl, k.now h f (.int _)⟩
    | _ => exact (f : False).elim) hg hm boot_int ha (by decide) (by decide) he hpl
/-- tuple of a list or a tuple -/
def fTuple : F1 := fun d m P => match d with
  | .lst ds => P (.tup ds) m
  | .tup ds => P (.tup ds) m
  | _ => False
theorem e_tuple (hg : Gl X "tuple") (hm : X.mg "tuple" = none) (ha : PE3 X a ta) (he : starEach [a] X.env = (false, eval a X.env) :: starEach [] X.env := by rfl) (hpl : (backTo pos (starEach [] X.env)).any (·.1) = false := by rfl) :
    PE3 X (.Call (.Name "tuple" p) [a] [] pos) (un3 fTuple ta) :=
  e_ty1 call_tuple_of (fun x d H m P Q h r f k => by
    cases d with
    | lst ds =>
      cases r with
      | lst t r => exact ⟨_, _, rfl, .inl ⟨t.sq, fun l hl => k _ _ _ _ f (step_new hl) (hr_new h hl) (.tup (.inl ⟨.inl upd_same, h.none hl⟩) (r.mv (step_new hl)))⟩⟩
    | tup ds =>
      cases r with
      | tup t r => exact ⟨_, _, rfl, .inr ⟨t.sq, k.now h f (.tup t r)⟩⟩
    | _ => exact (f : False).elim) hg hm boot_tuple ha (by decide) (by decide) he hpl
/-- list of a list or a tuple: a new one that does not change -/
def fList : F1 := fun d m P => match d with
  | .lst ds => P (.lst ds) m
  | .tup ds => P (.lst ds) m
  | _ => False
theorem e_list (hg : Gl X "list") (hm : X.mg "list" = none) (ha : PE3 X a ta) (he : starEach [a] X.env = (false, eval a X.env) :: starEach [] X.env := by rfl) (hpl : (backTo pos (starEach [] X.env)).any (·.1) = false := by rfl) :
    PE3 X (.Call (.Name "list" p) [a] [] pos) (un3 fList ta) :=
  e_ty1 call_list_of (fun x d H m P Q h r f k => by
    cases d with
    | lst ds =>
      cases r with
      | lst t r => exact ⟨_, _, rfl, .inl t.sq, fun l hl => k _ _ _ _ f (step_new hl) (hr_new h hl) (.lst (.inl ⟨.inl upd_same, h.none hl⟩) (r.mv (step_new hl)))⟩
    | tup ds =>
      cases r with
      | tup t r => exact ⟨_, _, rfl, .inr t.sq, fun l hl => k _ _ _ _ f (step_new hl) (hr_new h hl) (.lst (.inl ⟨.inl upd_same, h.none hl⟩) (r.mv (step_new hl)))⟩
    | _ => exact (f : False).elim) hg hm boot_list ha (by decide) (by decide) he hpl
end

/-! ### list comprehensions of one walk, one name -/
/-- the one reading for all frames -/
def cE (K : PySem.W.Frag) (t3 : TE3) : TE := fun σ H Q => ∃ ρ m P, Ok K σ H ρ m ∧ t3 ρ m P ∧ EK K H m P Q
theorem pe_cE {X : Cx} {e : Expr} {t3 : TE3} (h : PE3 X e t3) : PE X e (cE X.K t3) := by
  obtain ⟨t, p, q⟩ := h
  refine ⟨fun pins s σ H Q I z => ?_⟩
  obtain ⟨ρ, m, P, o, h3, k⟩ := z
  exact p.run pins s σ H Q I (q σ H ρ m P Q o h3 k)
def cT (K : PySem.W.Frag) (t3 : TT3) : TT := fun σ H Q => ∃ ρ m P, Ok K σ H ρ m ∧ t3 ρ m P ∧ TK K H m P Q
theorem pt_cT {X : Cx} {e : Expr} {t3 : TT3} (h : PT3 X e t3) : PT X e (cT X.K t3) := by
  obtain ⟨t, p, q⟩ := h
  refine ⟨fun pins s σ H Q I z => ?_⟩
  obtain ⟨ρ, m, P, o, h3, k⟩ := z
  exact p.run pins s σ H Q I (q σ H ρ m P Q o h3 k)
theorem Ok.forget {K : PySem.W.Frag} {σ : L2.St} {H : Hp} {ρ : Env3} {m : Mem} (o : Ok K σ H ρ m) (i : Nat) : Ok K (wipe σ [i]) H (ρ.set i none) m := by
  refine ⟨⟨?_, fun j d h => ?_⟩, o.hr⟩
  · rw [wipe_length, List.length_set]; exact o.env.1
  · by_cases ij : i = j
    · subst ij
      rw [List.getElem?_set] at h
      simp only [if_true] at h
      split at h <;> cases h
    · rw [List.getElem?_set_ne ij] at h
      obtain ⟨v, e, r⟩ := o.env.2 j d h
      exact ⟨v, by show ((wipe σ []).set i none)[j]? = _; rw [List.getElem?_set_ne ij]; exact e, r⟩
def lcGo (i : Nat) (tt : TT3) (te : TE3) (L : Addr) (ρ : Env3) (P : DK) : List D → Mem → Prop
  | [], m => ∃ acc, m L = some (.lst acc) ∧ P (.lst acc) (del m L)
  | x :: xs, m => ∃ acc, m L = some (.lst acc) ∧ tt (ρ.set i (some x)) m fun b m3 => m3 L = some (.lst acc) ∧
      if b = true then te (ρ.set i (some x)) m3 fun y m4 => m4 L = some (.lst acc) ∧ acc.length < 16000 ∧ lcGo i tt te L ρ P xs (put m4 L (.lst (acc ++ [y]))) else lcGo i tt te L ρ P xs m3
def lc3 (w : TI3) (i : Nat) (tt : TT3) (te : TE3) : TE3 := fun ρ m P => w ρ m fun ds m1 => ∀ L, m1 L = none → lcGo i tt te L ρ P ds (put m1 L (.lst []))
def yes3 : TT3 := fun _ m P => P true m
theorem lcGo_ind {i : Nat} {te : TE3} {L : Addr} {ρ : Env3} {P : DK} (I : Nat → List D → Mem → Prop)
    (step : ∀ n x acc m (Kt : DK), m L = some (.lst acc) → I (n + 1) acc m → (∀ y m4, m4 L = some (.lst acc) → acc.length < 16000 → I n (acc ++ [y]) (put m4 L (.lst (acc ++ [y]))) → Kt y m4) → te (ρ.set i (some x)) m Kt)
    (done : ∀ acc m, m L = some (.lst acc) → I 0 acc m → P (.lst acc) (del m L)) : ∀ (xs acc : List D) (m : Mem), m L = some (.lst acc) → I xs.length acc m → lcGo i yes3 te L ρ P xs m
  | [], acc, m, e, h => ⟨acc, e, done acc m e h⟩
  | x :: xs, acc, m, e, h => ⟨acc, e, e, by
    rw [if_pos rfl]
    exact step xs.length x acc m _ e h fun y m4 e4 hl h4 => ⟨e4, hl, lcGo_ind I step done xs (acc ++ [y]) _ put_same h4⟩⟩
section
variable {X : Cx} {pos : Pos} {elt iter : Expr} {ifs : List Expr} {scope : Scope} {x : Str} {i : Nat} {p : Pos} {w : TI3} {tt : TT3} {te : TE3}
theorem lc_el {K : PySem.W.Frag} {wi : TI} {tT : TT} (qi : ∀ σ H ρ m P R, Ok K σ H ρ m → w ρ m P → (∀ J H1 ds m1, P ds m1 → Step H m H1 m1 → HR K H1 m1 → Wlk K J ds H1 m1 → R J H1) → wi σ H R) (htt : TL K tT tt) :
    EL K (tLc wi (gName i) tT (cE K te) [i]) (lc3 w i tt te) := by
  intro σ H ρ m P Q o h k
  refine qi σ H ρ m _ _ o h fun J H1 ds m1 p1 s1 h1 wk => ?_
  intro L hL
  have mL : m1 L = none := h1.none hL
  have p2 := p1 L mL
  have sA : Step H1 m1 (upd H1 L (.lst [])) (put m1 L (.lst [])) := step_newM hL
  have hA : HR K (upd H1 L (.lst [])) (put m1 L (.lst [])) := hr_newM h1 hL (show Reps _ _ _ [] [] from .nil)
  refine ⟨fun j n H2 => ∃ m2, HR K H2 m2 ∧ Step H1 m1 H2 m2 ∧ lcGo i tt te L ρ P (ds.drop j) m2 ∧ n = ds.length - j ∧ j ≤ ds.length, ⟨ds.length, _, hA, sA, p2, rfl, Nat.zero_le _⟩, ?_⟩
  rintro j n H2 ⟨m2, h2, s2, f2, rfl, hj⟩
  obtain ⟨wstop, wgo⟩ := wk j H2 m2 s2 h2
  by_cases hlt : j < ds.length
  · obtain ⟨go, yl⟩ := wgo ds[j] (List.getElem?_eq_getElem hlt)
    refine .inr ⟨go, fun H5 => ∃ m5, HR K H5 m5 ∧ Step H1 m1 H5 m5 ∧ lcGo i tt te L ρ P (ds.drop (j + 1)) m5, fun H5 ⟨m5, a5, b5, c5⟩ => ⟨ds.length - (j + 1), by omega, m5, a5, b5, c5, rfl, hlt⟩, fun v H' y => ?_⟩
    obtain ⟨s3, h3, r3⟩ := yl v H' y
    rw [List.drop_eq_getElem_cons hlt] at f2
    obtain ⟨acc, eL, f3⟩ := f2
    have oB : Ok K ((wipe σ [i]).set i (some v)) H' (ρ.set i (some ds[j])) m2 := by
      have := ((o.mv (s1.trans (s2.trans s3)) h3).forget i).set i r3
      rwa [List.set_set] at this
    refine ⟨?_, ?_⟩
    · show ((σ.set i none).set i (some v)).set i none = σ.set i none
      rw [List.set_set, List.set_set]
    · refine htt _ H' _ m2 _ _ oB f3 fun b H3 m3 p3 s4 h4 => ?_
      obtain ⟨eL3, p3⟩ := p3
      have st3 : Step H1 m1 H3 m3 := s2.trans (s3.trans s4)
      cases b with
      | false => exact ⟨m3, h4, st3, p3⟩
      | true =>
        rw [if_pos rfl] at p3 ⊢
        refine ⟨_, m3, _, oB.mv s4 h4, p3, fun y H4 d m4 p4 s5 h5 r5 => ?_⟩
        obtain ⟨eL4, hlen, p4⟩ := p4
        obtain ⟨xs, e1, rr⟩ := h5.lst eL4
        refine ⟨xs, e1, by rw [rr.length, sizeLine_eq]; omega, put m4 L (.lst (acc ++ [d])), ?_, ?_, p4⟩
        · exact hr_set h5 eL4 (show Reps _ _ _ (xs ++ [y]) (acc ++ [d]) from rr.append (.cons r5 .nil))
        · exact st3.trans (s5.trans (step_set eL4))
  · have e : ds.drop j = [] := List.drop_eq_nil_of_le (by omega)
    rw [e] at f2
    obtain ⟨acc, eL, f3⟩ := f2
    obtain ⟨xs, e1, rr⟩ := h2.lst eL
    refine .inl ⟨wstop (by omega), k _ _ _ _ f3 (s1.trans (s2.trans step_del)) (hr_del h2) (.lst (.inl ⟨.inl e1, ?_⟩) (rr.mv step_del))⟩
    unfold del
    rw [if_pos rfl]
theorem lc_mk {tT : TT} (hc : X.calm = true) (hN : X.N.Nodup) (hi : PI3 X (.Name x p) iter w) (ok : BlkOk X.N X.env.scope scope [(x, i)])
    (hg : ∀ (s : Shared) (H : Hp) (C : Addr) (cl : List (Str × Addr)) (fp : List Addr), PG (X.blk s H scope (compEnvC scope cl C X.env) fp) (.Name x p) (gName i))
    (ht : ∀ (s : Shared) (H : Hp) (C : Addr) (cl : List (Str × Addr)) (fp : List Addr), PTs (X.blk s H scope (compEnvC scope cl C X.env) fp) ifs tT) (htt : TL X.K tT tt)
    (he : ∀ (s : Shared) (H : Hp) (C : Addr) (cl : List (Str × Addr)) (fp : List Addr), PE3 (X.blk s H scope (compEnvC scope cl C X.env) fp) elt te)
    (hs : ∀ z, foldedSetIterable iter X.env z = pure z) : PE3 X (.ListComp elt [⟨.Name x p, iter, ifs, 0⟩] scope pos) (lc3 w i tt te) := by
  obtain ⟨wi, pi, qi⟩ := hi
  exact ⟨_, pe_lc hc hN pi ok hg ht (te := cE X.K te) (fun s H C cl fp => pe_cE (he s H C cl fp)) hs, lc_el qi htt⟩
/-- y = [elt for x in iter] -/
theorem lcS_mk {tT : TT} {j : Nat} {y : Str} {py spos : Pos} (hc : X.calm = true) (hN : X.N.Nodup) (hi : PI3 X (.Name x p) iter w) (ok : BlkOk X.N X.env.scope scope [(x, i)])
    (hg : ∀ (s : Shared) (H : Hp) (C : Addr) (cl : List (Str × Addr)) (fp : List Addr), PG (X.blk s H scope (compEnvC scope cl C X.env) fp) (.Name x p) (gName i))
    (ht : ∀ (s : Shared) (H : Hp) (C : Addr) (cl : List (Str × Addr)) (fp : List Addr), PTs (X.blk s H scope (compEnvC scope cl C X.env) fp) ifs tT) (htt : TL X.K tT tt)
    (he : ∀ (s : Shared) (H : Hp) (C : Addr) (cl : List (Str × Addr)) (fp : List Addr), PE3 (X.blk s H scope (compEnvC scope cl C X.env) fp) elt te)
    (hs : ∀ z, foldedSetIterable iter X.env z = pure z) (hy : X.N[j]? = some y) (hyl : X.env.scope.names.lookup y = some .local) (hsw : swapsWith (.ListComp elt [⟨.Name x p, iter, ifs, 0⟩] scope pos) (some (.Name y py)) spos.line X.env = pure true) :
    PS3 X (.Assign [.Name y py] (.ListComp elt [⟨.Name x p, iter, ifs, 0⟩] scope pos) spos) (asg3 (lc3 w i tt te) (name3 j)) := by
  obtain ⟨wi, pi, qi⟩ := hi
  refine ⟨_, ps_setLc hc hN hy hyl hsw pi ok hg ht (te := cE X.K te) (fun s H C cl fp => pe_cE (he s H C cl fp)) hs, fun σ H ρ m D3 E o h l => ?_⟩
  refine lc_el qi htt σ H ρ m _ _ o h fun x H1 d m1 p1 s1 h1 r1 => ?_
  exact l.nx _ H1 _ m1 p1 s1 ((o.mv s1 h1).set j r1)
/-- [elt for x in iter] -/
theorem e_lc (hc : X.calm = true) (hN : X.N.Nodup) (hi : PI3 X (.Name x p) iter w) (ok : BlkOk X.N X.env.scope scope [(x, i)])
    (he : ∀ (s : Shared) (H : Hp) (C : Addr) (cl : List (Str × Addr)) (fp : List Addr), PE3 (X.blk s H scope (compEnvC scope cl C X.env) fp) elt te)
    (hx : X.N[i]? = some x := by rfl) (hl : (relabel scope X.env).names.lookup x = some .local := by rfl) (hs : ∀ z, foldedSetIterable iter X.env z = pure z := by intro _; rfl) : PE3 X (.ListComp elt [⟨.Name x p, iter, [], 0⟩] scope pos) (lc3 w i yes3 te) :=
  lc_mk hc hN hi ok (fun _ _ _ _ _ => pg_name hN hx (.inl hl) (.inr hl)) (fun _ _ _ _ _ => pts_nil) (fun σ H ρ m P Q o h k => k true H m h (Step.refl _ _) o.hr) he hs
theorem e_lcIf {c : Expr} (hc : X.calm = true) (hN : X.N.Nodup) (hi : PI3 X (.Name x p) iter w) (ok : BlkOk X.N X.env.scope scope [(x, i)])
    (ht : ∀ (s : Shared) (H : Hp) (C : Addr) (cl : List (Str × Addr)) (fp : List Addr), PT3 (X.blk s H scope (compEnvC scope cl C X.env) fp) c tt)
    (he : ∀ (s : Shared) (H : Hp) (C : Addr) (cl : List (Str × Addr)) (fp : List Addr), PE3 (X.blk s H scope (compEnvC scope cl C X.env) fp) elt te)
    (hx : X.N[i]? = some x := by rfl) (hl : (relabel scope X.env).names.lookup x = some .local := by rfl) (hs : ∀ z, foldedSetIterable iter X.env z = pure z := by intro _; rfl) : PE3 X (.ListComp elt [⟨.Name x p, iter, [c], 0⟩] scope pos) (lc3 w i tt te) :=
  lc_mk (tT := cT X.K tt) hc hN hi ok (fun _ _ _ _ _ => pg_name hN hx (.inl hl) (.inr hl)) (fun s H C cl fp => pts_one (pt_cT (ht s H C cl fp))) (fun σ H ρ m P Q o h k => ⟨ρ, m, P, o, h, k⟩) he hs
theorem s_lc {j : Nat} {y : Str} {py spos : Pos} (hc : X.calm = true) (hN : X.N.Nodup) (hi : PI3 X (.Name x p) iter w) (ok : BlkOk X.N X.env.scope scope [(x, i)])
    (he : ∀ (s : Shared) (H : Hp) (C : Addr) (cl : List (Str × Addr)) (fp : List Addr), PE3 (X.blk s H scope (compEnvC scope cl C X.env) fp) elt te)
    (hsw : swapsWith (.ListComp elt [⟨.Name x p, iter, [], 0⟩] scope pos) (some (.Name y py)) spos.line X.env = pure true) (hy : X.N[j]? = some y := by rfl) (hyl : X.env.scope.names.lookup y = some .local := by rfl)
    (hx : X.N[i]? = some x := by rfl) (hl : (relabel scope X.env).names.lookup x = some .local := by rfl) (hs : ∀ z, foldedSetIterable iter X.env z = pure z := by intro _; rfl) :
    PS3 X (.Assign [.Name y py] (.ListComp elt [⟨.Name x p, iter, [], 0⟩] scope pos) spos) (asg3 (lc3 w i yes3 te) (name3 j)) :=
  lcS_mk hc hN hi ok (fun _ _ _ _ _ => pg_name hN hx (.inl hl) (.inr hl)) (fun _ _ _ _ _ => pts_nil) (fun σ H ρ m P Q o h k => k true H m h (Step.refl _ _) o.hr) he hs hy hyl hsw
theorem s_lcIf {c : Expr} {j : Nat} {y : Str} {py spos : Pos} (hc : X.calm = true) (hN : X.N.Nodup) (hi : PI3 X (.Name x p) iter w) (ok : BlkOk X.N X.env.scope scope [(x, i)])
    (ht : ∀ (s : Shared) (H : Hp) (C : Addr) (cl : List (Str × Addr)) (fp : List Addr), PT3 (X.blk s H scope (compEnvC scope cl C X.env) fp) c tt)
    (he : ∀ (s : Shared) (H : Hp) (C : Addr) (cl : List (Str × Addr)) (fp : List Addr), PE3 (X.blk s H scope (compEnvC scope cl C X.env) fp) elt te)
    (hsw : swapsWith (.ListComp elt [⟨.Name x p, iter, [c], 0⟩] scope pos) (some (.Name y py)) spos.line X.env = pure true) (hy : X.N[j]? = some y := by rfl) (hyl : X.env.scope.names.lookup y = some .local := by rfl)
    (hx : X.N[i]? = some x := by rfl) (hl : (relabel scope X.env).names.lookup x = some .local := by rfl) (hs : ∀ z, foldedSetIterable iter X.env z = pure z := by intro _; rfl) :
    PS3 X (.Assign [.Name y py] (.ListComp elt [⟨.Name x p, iter, [c], 0⟩] scope pos) spos) (asg3 (lc3 w i tt te) (name3 j)) :=
  lcS_mk (tT := cT X.K tt) hc hN hi ok (fun _ _ _ _ _ => pg_name hN hx (.inl hl) (.inr hl)) (fun s H C cl fp => pts_one (pt_cT (ht s H C cl fp))) (fun σ H ρ m P Q o h k => ⟨ρ, m, P, o, h, k⟩) he hs hy hyl hsw
end
end D3

set_option Elab.async false
set_option linter.all false
set_option maxRecDepth 100000
set_option maxHeartbeats 4000000
/-! Gs: more rules by data: a, *b = a tuple. -/
namespace D3
open PySem L2 PyProof.Rows
section
variable {prog : Program} {w : World} {A : Around} {E : Value → Shared → Prop} {s : Shared}
/-- what a, *b = a tuple of one or more takes -/
theorem take_star {t : Addr} {x : Value} {xs : List Value} {Q : List Value → Shared → Prop} (hh : A.handled = none) (ht : IsTup s.heap t (x :: xs).toArray) (hz : xs.length + 1 ≤ sizeLine)
    (hQ : ∀ (h' : Heap) (tk : Nat), (∀ b o, s.heap.get? b = some o → h'.get? b = some o) → Q [x, .ref h'.objs.size] { s with heap := h'.push { cls := .type "list", data := .seq xs.toArray }, toks := tk }) : wpAny (model prog w) A (unpackItems (.ref t) 2 (some 1)) Q E s := by
  have tlt : t < s.heap.objs.size := by obtain ⟨o, ho, _⟩ := ht; exact Heap.lt_size ho
  have tne : t ≠ s.heap.objs.size := Nat.ne_of_lt tlt
  have sz : (x :: xs).toArray.size = xs.length + 1 := by simp
  unfold unpackItems notIterableAtAll
  refine wpAny_bind (wpAny_bind (wpAny_specialOf ht.typeIs slot_tuple_iter.lookup (wpAny_pure ?_)))
  simp only [Bool.false_eq_true, if_false]
  refine wpAny_bind (wpAny_holding (iter_tuple ht (wpAny_bind (wpAny_holding (draw_tuple tne 1 0 _ _ ⟨_, Heap.get?_push_size _ rfl, rfl, rfl⟩ (ht.push _) (by rw [sz]; omega) fun h1 hi1 hs1 => ?_)))))
  have ht1 : IsTup h1 t (x :: xs).toArray := (ht.push _).extBut hs1.extBut tne
  rw [show List.take 1 (List.drop 0 (x :: xs).toArray.toList) = [x] by simp, if_neg (by simp)]
  have li : s.heap.objs.size < h1.objs.size := by obtain ⟨o, ho, _⟩ := hi1; exact Heap.lt_size ho
  have lt1 : t < h1.objs.size := by obtain ⟨o, ho, _⟩ := ht1; exact Heap.lt_size ho
  refine wpAny_bind (wpAny_holding (PySem.W.kun_collect (s := { s with heap := h1 }) (T := "tuple_iterator") (.inr (.inr (.inr rfl))) (Walks.tuple (A := A.in1) hh s.heap.objs.size t tne _) (fun _ _ st => st.1.typeIs) (k := 1) (by rw [sz]; omega) ⟨hi1, ht1⟩ li lt1 (fun h2 tk hk => ?_) (by rw [sz]; exact hz)))
  rw [show List.drop 1 (x :: xs).toArray.toList = xs by simp]
  show wpAny _ _ (if xs.length < 2 - 1 - 1 then _ else _) _ _ _
  rw [if_neg (by omega)]
  show wpAny _ _ (newList (xs.take (xs.length - (2 - 1 - 1))) >>= fun d => pure ([x] ++ [d] ++ xs.drop (xs.length - (2 - 1 - 1)))) _ _ _
  rw [show xs.length - (2 - 1 - 1) = xs.length by omega, List.take_length, List.drop_length]
  refine wpAny_bind (wpAny_newObj_type (wpAny_pure ?_) (by simp only [PySem.sizeOk, List.size_toArray]; omega))
  exact hQ h2 tk fun b o e => hk b o (Nat.ne_of_lt (Heap.lt_size e)) (hs1.extBut b o (Nat.ne_of_lt (Heap.lt_size e)) (Heap.get?_push_of_some _ e))
end
section
variable {X : Cx} {pos sp : Pos} {e1 e2 : Expr} {t1 t2 : TG} {g1 g2 : TG3} {k : Nat}
def gStar (K : PySem.W.Frag) (t1 t2 : TG) : TG := fun v σ H Q => ∃ a x xs, v = .ref a ∧ SqT K H a (x :: xs) ∧ ∀ l, H l = none → t1 x σ (upd H l (.lst xs)) fun σ' H' => t2 (.ref l) σ' H' Q
theorem pg_star (hc : X.calm = true) (h1 : PG X e1 t1) (h2 : PG X e2 t2) (hs : assignEach [e1, .Starred e2 sp] X.env = [(false, assign e1 X.env), (true, assign e2 X.env)] := by rfl) : PG X (.Tuple [e1, .Starred e2 sp] k pos) (gStar X.K t1 t2) := by
  refine ⟨fun pins s σ H v u Q I r hw => ?_⟩
  obtain ⟨a, x, xs, ev, hq, hw⟩ := hw
  subst ev
  cases r
  obtain ⟨its, rv, ht, hz⟩ := I.tuple hq
  rw [assign_Tuple]
  refine wpAny_bind (wpAny_standAt ?_)
  unfold unpack
  rw [hs]
  cases rv with
  | cons rx rr =>
    have hl := rr.length
    have hz1 : xs.length + 1 ≤ sizeLine := hz
    refine wpAny_bind (wpAny_holding (take_star (I.ok.hd hc) ht (by rw [← hl]; exact hz1) fun h' tk hk => ?_))
    have I1 : Inv X pins σ H { s with heap := h', toks := tk } := I.kept hk
    have hf : H h'.objs.size = none := I1.hok.fresh (Nat.le_refl _)
    have I2 : Inv X pins σ (upd H h'.objs.size (.lst xs)) _ := I1.laid (t' := tk) (fun b o e => Heap.get?_push_of_some _ e) (Nat.le_refl _) ⟨Nat.le_trans (Nat.le_succ _) hz1, _, 0, rr, Heap.get?_push_size _ rfl⟩
    refine assignInOrder_cons (thn (h1.run pins _ σ _ _ _ _ I2 rx (hw _ hf)) fun _ s1 z => ?_)
    obtain ⟨σ1, H1, I3, q1⟩ := z
    refine assignInOrder_cons (thn (h2.run pins s1 σ1 H1 (.ref h'.objs.size) _ _ I3 rfl q1) fun _ s2 z => ?_)
    exact assignInOrder_nil z
def gstar3 (g1 g2 : TG3) : TG3 := fun d ρ m P => match d with
  | .tup (x :: xs) => g1 x ρ m fun ρ1 m1 => g2 (.lst xs) ρ1 m1 P
  | _ => False
theorem g_star (hc : X.calm = true) (h1 : PG3 X e1 g1) (h2 : PG3 X e2 g2) (hs : assignEach [e1, .Starred e2 sp] X.env = [(false, assign e1 X.env), (true, assign e2 X.env)] := by rfl) : PG3 X (.Tuple [e1, .Starred e2 sp] k pos) (gstar3 g1 g2) := by
  obtain ⟨t1, p1, q1⟩ := h1
  obtain ⟨t2, p2, q2⟩ := h2
  refine ⟨_, pg_star hc p1 p2 hs, fun v d σ H ρ m P Q o r h kk => ?_⟩
  cases d with
  | tup ds =>
    cases ds with
    | nil => exact (h : False).elim
    | cons x xs =>
      cases r with
      | tup t r =>
        cases r with
        | @cons v vs _ _ r1 rr =>
          refine ⟨_, _, _, rfl, t.sq, fun l hl => ?_⟩
          have st : Step H m (upd H l (.lst vs)) m := step_new hl
          refine q1 _ x σ _ ρ m _ _ (o.mv st (hr_new o.hr hl)) (r1.mv st) h fun σ1 H1 ρ1 m1 hh s1 o1 => ?_
          exact q2 _ (.lst xs) σ1 H1 ρ1 m1 P Q o1 ((Rep.lst (.inl ⟨.inl upd_same, o.hr.none hl⟩) (rr.mv st)).mv s1) hh (kk.mv (st.trans s1))
  | _ => exact (h : False).elim
end
end D3

set_option Elab.async false
set_option linter.all false
set_option maxRecDepth 100000
set_option maxHeartbeats 4000000
/-! Gk: a table of the module with text keys: in. -/
namespace D3
open PySem L2 PyProof.Rows
theorem dic_es {K : PySem.W.Frag} {a : Addr} {l : List (Option (Str × Int))} (h : He.dicW K a = some l) : ∃ (es : Array DictEntry) (n : Nat) (c : String) (sl : Array (Option Value)), K.lookup a = some ⟨.type c, none, .dict es n, sl⟩ ∧ es.toList.map He.keyOf = l := by
  unfold He.dicW at h
  split at h
  · rename_i c es n sl q
    split at h
    · exact ⟨es, n, c, sl, q, Option.some.inj h⟩
    · cases h
  · cases h
theorem find_key {P : Params} {z : Str} : ∀ {l : List DictEntry} {ks : List Str}, l.map He.keyOf = He.keysIn P ks → (l.find? (·.key.isStr z)).isSome = decide (z ∈ ks) ∧ l.any (·.refKey) = false
  | [], [], _ => ⟨by simp, rfl⟩
  | [], k :: ks, h => by cases h
  | e :: l, [], h => by cases h
  | e :: l, k :: ks, h => by
    have h1 : He.keyOf e :: l.map He.keyOf = some (k, PyData.keyHash P k) :: He.keysIn P ks := h
    injection h1 with h2 h3
    obtain ⟨i1, i2⟩ := find_key (z := z) h3
    unfold He.keyOf at h2
    split at h2
    · rename_i x t q
      have h4 := (Prod.mk.inj (Option.some.inj h2)).1
      subst h4
      refine ⟨?_, ?_⟩
      · rw [List.find?_cons, q]
        show (match x == z with
          | true => some e
          | false => l.find? (·.key.isStr z)).isSome = _
        by_cases e : x = z
        · subst e; simp
        · rw [show (x == z) = false from beq_eq_false_iff_ne.mpr e]
          show (l.find? (·.key.isStr z)).isSome = _
          rw [i1]
          simp [Ne.symm e]
      · rw [List.any_cons, i2, Bool.or_false]
        simp [DictEntry.refKey, q]
    · cases h2
theorem ns_key {K : PySem.W.Frag} {w : World} {a : Addr} {ks : List Str} (h : He.dicW K a = some (He.keysIn w.params ks)) (z : Str) : ∃ r, PySem.W.nsIn K a z = some r ∧ r.isSome = decide (z ∈ ks) := by
  obtain ⟨es, n, c, sl, q, e⟩ := dic_es h
  obtain ⟨i1, i2⟩ := find_key (z := z) e
  unfold PySem.W.nsIn
  rw [q]
  cases f : es.toList.find? (·.key.isStr z) with
  | some y => exact ⟨some y.val, by simp only [f], by rw [f] at i1; exact i1⟩
  | none => exact ⟨none, by simp only [f, i2, Bool.false_eq_true, if_false], by rw [f] at i1; exact i1⟩
section
variable {X : Cx} {pos p : Pos} {a : Expr} {ta : TE3} {x : Str} {ks : List Str}
def fInK (ks : List Str) : F1 := fun d m P => match d with
  | .str z => P (.bl (decide (z ∈ ks))) m
  | _ => False
def fNinK (ks : List Str) : F1 := fun d m P => match d with
  | .str z => P (.bl (!decide (z ∈ ks))) m
  | _ => False
theorem fInK_s {z : Str} {m : Mem} {P : DK} : fInK ks (.str z) m P = P (.bl (decide (z ∈ ks))) m := rfl
theorem fNinK_s {z : Str} {m : Mem} {P : DK} : fNinK ks (.str z) m P = P (.bl (!decide (z ∈ ks))) m := rfl
/-- a text in a table of the module -/
theorem e_inK (hg : Gl X x) (hm : ∃ d, X.mg x = some (.ref d) ∧ He.dicW X.K d = some (He.keysIn X.w.params ks)) (ha : PE3 X a ta) (hd : (x == ("__debug__" : Str)) = false := by decide) (hb : behindInMarks .In (.Name x p) = false := by rfl) : PE3 X (.Compare a [.In] [.Name x p] pos) (un3 (fInK ks) ta) := by
  obtain ⟨d, h1, h2⟩ := hm
  obtain ⟨t, pa, qa⟩ := ha
  obtain ⟨es, n, D⟩ := He.dicW_ok h2
  refine ⟨_, pe_cmpR (op_in_kd D) pa (pe_glob (v := .ref d) hg h1 rfl hd) hb, fun σ H ρ m P Q o h k => ?_⟩
  refine qa σ H ρ m _ _ o h fun v H1 y m1 p1 s1 h1' r1 => ?_
  cases y with
  | str z =>
    cases r1
    obtain ⟨r, e1, e2⟩ := ns_key h2 z
    exact ⟨z, r, rfl, rfl, e1, (k.mv s1).now h1' p1 (by rw [e2]; exact .bl _)⟩
  | _ => exact (p1 : False).elim
theorem e_ninK (hg : Gl X x) (hm : ∃ d, X.mg x = some (.ref d) ∧ He.dicW X.K d = some (He.keysIn X.w.params ks)) (ha : PE3 X a ta) (hd : (x == ("__debug__" : Str)) = false := by decide) (hb : behindInMarks .NotIn (.Name x p) = false := by rfl) : PE3 X (.Compare a [.NotIn] [.Name x p] pos) (un3 (fNinK ks) ta) := by
  obtain ⟨d, h1, h2⟩ := hm
  obtain ⟨t, pa, qa⟩ := ha
  obtain ⟨es, n, D⟩ := He.dicW_ok h2
  refine ⟨_, pe_cmpR (op_notIn_kd D) pa (pe_glob (v := .ref d) hg h1 rfl hd) hb, fun σ H ρ m P Q o h k => ?_⟩
  refine qa σ H ρ m _ _ o h fun v H1 y m1 p1 s1 h1' r1 => ?_
  cases y with
  | str z =>
    cases r1
    obtain ⟨r, e1, e2⟩ := ns_key h2 z
    exact ⟨z, r, rfl, rfl, e1, (k.mv s1).now h1' p1 (by rw [e2]; exact .bl _)⟩
  | _ => exact (p1 : False).elim
theorem t_inK (hg : Gl X x) (hm : ∃ d, X.mg x = some (.ref d) ∧ He.dicW X.K d = some (He.keysIn X.w.params ks)) (ha : PE3 X a ta) (hd : (x == ("__debug__" : Str)) = false := by decide) (hb : behindInMarks .In (.Name x p) = false := by rfl) : PT3 X (.Compare a [.In] [.Name x p] pos) (b3 (un3 (fInK ks) ta)) := by
  obtain ⟨d, h1, h2⟩ := hm
  obtain ⟨t, pa, qa⟩ := ha
  obtain ⟨es, n, D⟩ := He.dicW_ok h2
  refine ⟨_, pt_cmpR (op_in_kd D) pa (pe_glob (v := .ref d) hg h1 rfl hd) hb, fun σ H ρ m P Q o h k => ?_⟩
  refine qa σ H ρ m _ _ o h fun v H1 y m1 p1 s1 h1' r1 => ?_
  cases y with
  | str z =>
    cases r1
    obtain ⟨r, e1, e2⟩ := ns_key h2 z
    exact ⟨z, r, rfl, rfl, e1, _, rfl, by rw [e2]; exact k _ _ _ p1 s1 h1'⟩
  | _ => exact (p1 : False).elim
theorem t_ninK (hg : Gl X x) (hm : ∃ d, X.mg x = some (.ref d) ∧ He.dicW X.K d = some (He.keysIn X.w.params ks)) (ha : PE3 X a ta) (hd : (x == ("__debug__" : Str)) = false := by decide) (hb : behindInMarks .NotIn (.Name x p) = false := by rfl) : PT3 X (.Compare a [.NotIn] [.Name x p] pos) (b3 (un3 (fNinK ks) ta)) := by
  obtain ⟨d, h1, h2⟩ := hm
  obtain ⟨t, pa, qa⟩ := ha
  obtain ⟨es, n, D⟩ := He.dicW_ok h2
  refine ⟨_, pt_cmpR (op_notIn_kd D) pa (pe_glob (v := .ref d) hg h1 rfl hd) hb, fun σ H ρ m P Q o h k => ?_⟩
  refine qa σ H ρ m _ _ o h fun v H1 y m1 p1 s1 h1' r1 => ?_
  cases y with
  | str z =>
    cases r1
    obtain ⟨r, e1, e2⟩ := ns_key h2 z
    exact ⟨z, r, rfl, rfl, e1, _, rfl, by rw [e2]; exact k _ _ _ p1 s1 h1'⟩
  | _ => exact (p1 : False).elim
end
end D3

set_option Elab.async false
set_option linter.all false
set_option maxRecDepth 100000
set_option maxHeartbeats 4000000
/-! Gt: texts, tuples: len, walk, order, sums, slices, in; all. -/
namespace D3
open PySem L2 PyProof.Rows
def bigN : Nat := 1000000
theorem bigN_line : bigN ≤ sizeLine := by rw [sizeLine_eq]; decide
theorem lbig {n : Nat} (h : n ≤ 100000) : n ≤ bigN := Nat.le_trans h (by decide)
theorem del_put {m : Mem} {L : Addr} {o : MO} : del (put m L o) L = del m L := by
  funext q
  unfold del put
  split <;> rfl
theorem del_none {m : Mem} {L : Addr} (h : m L = none) : del m L = m := by
  funext q
  unfold del
  split
  · rename_i e; rw [e, h]
  · rfl
/-- a comprehension that changes nothing -/
theorem lcGo_map {i : Nat} {te : TE3} {L : Addr} {ρ : Env3} {P : DK} (f : D → D) : ∀ (xs acc : List D) (m : Mem), m L = some (.lst acc) → acc.length + xs.length ≤ 16000 →
    (∀ x ∈ xs, ∀ m' (Kt : DK), Kt (f x) m' → te (ρ.set i (some x)) m' Kt) → P (.lst (acc ++ xs.map f)) (del m L) → lcGo i yes3 te L ρ P xs m
  | [], acc, m, e, _, _, h => ⟨acc, e, by simpa using h⟩
  | x :: xs, acc, m, e, hl, hs, h => ⟨acc, e, e, by
    rw [if_pos rfl]
    refine hs x List.mem_cons_self m _ ⟨e, by simp only [List.length_cons] at hl; omega, lcGo_map f xs (acc ++ [f x]) _ put_same (by simp only [List.length_append, List.length_cons, List.length_nil] at hl ⊢; omega) (fun y hy => hs y (List.mem_cons_of_mem _ hy)) ?_⟩
    rw [del_put]
    simpa using h⟩
section
variable {X : Cx} {pos p : Pos} {a b c tg : Expr} {ta tb tc : TE3} {x : Str}
/-! ### texts -/
theorem e_globS {y : Str} {pos : Pos} (hg : Gl X x) (h : ∃ t, X.mg x = some (.str y t)) (hd : (x == ("__debug__" : Str)) = false := by decide) : PE3 X (.Name x pos) (c3 (.str y)) := by
  obtain ⟨t, h⟩ := h
  exact e_glob (v := .str y) hg h ⟨t, rfl⟩ (fun _ _ => .str y) hd
def fLenS : F1 := fun x m P => match x with
  | .str y => y.length ≤ bigN ∧ P (.int y.length) m
  | _ => False
theorem fLenS_s {y : Str} {m : Mem} {P : DK} : fLenS (.str y) m P = (y.length ≤ bigN ∧ P (.int y.length) m) := rfl
theorem e_lenS (hg : Gl X "len") (hm : X.mg "len" = none) (ha : PE3 X a ta) (he : starEach [a] X.env = (false, eval a X.env) :: starEach [] X.env := by rfl) (hpl : (backTo pos (starEach [] X.env)).any (·.1) = false := by rfl) : PE3 X (.Call (.Name "len" p) [a] [] pos) (un3 fLenS ta) :=
  e_b1 (f := fLenS) call_len (fun x d H m P Q h r f k => by
    cases d with
    | str y => cases r; exact ⟨_, y.length, rfl, ⟨Nat.le_trans f.1 bigN_line, rfl⟩, k.now h f.2 (.int _)⟩
    | _ => exact (f : False).elim) hg hm boot_len ha (by decide) (by decide) he hpl
def signs (y : Str) : List D := y.cps.toList.map fun c => D.str ⟨#[c]⟩
def istr3 (ta : TE3) : TI3 := fun ρ m P => ta ρ m fun x m1 => match x with
  | .str y => P (signs y) m1
  | _ => False
theorem wlk_str {K : PySem.W.Frag} {H : Hp} {m : Mem} {y : Str} : Wlk K (Its y) (signs y) H m := by
  intro i H2 m2 s2 h2
  refine ⟨fun hi => ?_, fun d hd => ?_⟩
  · unfold signs at hi
    rw [List.length_map, Array.length_toList] at hi
    exact hi
  · unfold signs at hd
    rw [List.getElem?_map] at hd
    cases e : y.cps.toList[i]? with
    | none => rw [e] at hd; cases hd
    | some c =>
      rw [e] at hd
      have ed : D.str ⟨#[c]⟩ = d := Option.some.inj hd
      subst ed
      have e' : y.cps[i]? = some c := by rw [← Array.getElem?_toList]; exact e
      refine ⟨(Array.getElem?_eq_some_iff.mp e').1, fun v H' z => ?_⟩
      obtain ⟨e1, c', e2, e3⟩ := z
      subst e1 e3
      rw [e'] at e2
      cases e2
      exact ⟨Step.refl _ _, h2, .str _⟩
theorem i_str (ha : PE3 X a ta) : PI3 X tg a (istr3 ta) := by
  obtain ⟨_, p, q⟩ := ha
  refine ⟨_, pi_str p, fun σ H ρ m P R o h k => ?_⟩
  refine q σ H ρ m _ _ o h fun x H1 d m1 p1 s1 h1 r1 => ?_
  cases d with
  | str y =>
    cases r1
    exact ⟨_, rfl, k _ H1 _ m1 p1 s1 h1 wlk_str⟩
  | _ => exact (p1 : False).elim
/-- a sign in a text -/
def fInS : F2 := fun x y m P => match x, y with
  | .str s, .str z => ∃ c : Nat, s = ⟨#[c]⟩ ∧ P (.bl (decide (c ∈ z.cps.toList))) m
  | _, _ => False
theorem rl_inS {K : PySem.W.Frag} : RL K (fun x y H Q => ∃ (c : Nat) (z : Str), x = .str ⟨#[c]⟩ ∧ y = .str z ∧ Q (.bl (decide (c ∈ z.cps.toList))) H) fInS := by
  intro x y d e H m P Q h r1 r2 f k
  cases d with
  | str s =>
    cases e with
    | str z =>
      obtain ⟨c, es, f⟩ := f
      subst es
      cases r1
      cases r2
      exact ⟨c, z, rfl, rfl, k.now h f (.bl _)⟩
    | _ => exact (f : False).elim
  | _ => exact (f : False).elim
theorem e_inS (ha : PE3 X a ta) (hb : PE3 X b tb) (hm : behindInMarks .In b = false := by rfl) : PE3 X (.Compare a [.In] [b] pos) (op3 fInS ta tb) := e_cmpR op_in_sign rl_inS ha hb hm
theorem t_inS (ha : PE3 X a ta) (hb : PE3 X b tb) (hm : behindInMarks .In b = false := by rfl) : PT3 X (.Compare a [.In] [b] pos) (b3 (op3 fInS ta tb)) := t_cmpR op_in_sign rl_inS ha hb hm
def fLeS : F2 := fun x y m P => match x, y with
  | .str i, .str j => P (.bl (!decide (j.cps.toList < i.cps.toList))) m
  | _, _ => False
theorem rl_leS {K : PySem.W.Frag} : RL K (fun x y H Q => ∃ i j, x = .str i ∧ y = .str j ∧ Q (.bl (!decide (j.cps.toList < i.cps.toList))) H) fLeS := by
  intro x y d e H m P Q h r1 r2 f k
  cases d with
  | str s =>
    cases e with
    | str z =>
      cases r1
      cases r2
      exact ⟨s, z, rfl, rfl, k.now h f (.bl _)⟩
    | _ => exact (f : False).elim
  | _ => exact (f : False).elim
def fAddS : F2 := fun x y m P => match x, y with
  | .str i, .str j => i.length + j.length ≤ bigN ∧ P (.str (i ++ j)) m
  | _, _ => False
theorem fAddS_s {i j : Str} {m : Mem} {P : DK} : fAddS (.str i) (.str j) m P = (i.length + j.length ≤ bigN ∧ P (.str (i ++ j)) m) := rfl
theorem rl_addS {K : PySem.W.Frag} : RL K (fun x y H Q => ∃ i j, x = .str i ∧ y = .str j ∧ i.length + j.length ≤ sizeLine ∧ Q (.str (i ++ j)) H) fAddS := by
  intro x y d e H m P Q h r1 r2 f k
  cases d with
  | str s =>
    cases e with
    | str z =>
      cases r1
      cases r2
      exact ⟨s, z, rfl, rfl, Nat.le_trans f.1 bigN_line, k.now h f.2 (.str _)⟩
    | _ => exact (f : False).elim
  | _ => exact (f : False).elim
theorem e_addS (ha : PE3 X a ta) (hb : PE3 X b tb) : PE3 X (.BinOp a .Add b pos) (op3 fAddS ta tb) := e_op op_add_str rl_addS ha hb
/-! ### tuples -/
def fCatT : F2 := fun x y m P => match x, y with
  | .tup xs, .tup ys => xs.length + ys.length ≤ bigN ∧ P (.tup (xs ++ ys)) m
  | _, _ => False
theorem fCatT_t {i j : List D} {m : Mem} {P : DK} : fCatT (.tup i) (.tup j) m P = (i.length + j.length ≤ bigN ∧ P (.tup (i ++ j)) m) := rfl
theorem rl_catT {K : PySem.W.Frag} : RL K (rCatA K) fCatT := by
  intro x y d e H m P Q h r1 r2 f k
  cases d with
  | tup xs =>
    cases e with
    | tup ys =>
      cases r1 with
      | tup t1 q1 =>
        cases r2 with
        | tup t2 q2 =>
          obtain ⟨f1, f2⟩ := f
          refine ⟨_, _, _, _, rfl, rfl, t1.sq, t2.sq, by rw [q1.length, q2.length]; exact Nat.le_trans f1 bigN_line, fun e => ?_, fun _ e => ?_, fun _ _ l hl => ?_⟩
          · subst e
            cases q1
            exact k.now h f2 (.tup t2 q2)
          · subst e
            cases q2
            rw [List.append_nil] at f2
            exact k.now h f2 (.tup t1 q1)
          · exact k _ _ _ _ f2 (step_new hl) (hr_new h hl) (.tup (.inl ⟨.inl upd_same, h.none hl⟩) ((q1.append q2).mv (step_new hl)))
    | _ => exact (f : False).elim
  | _ => exact (f : False).elim
theorem e_catT (ha : PE3 X a ta) (hb : PE3 X b tb) : PE3 X (.BinOp a .Add b pos) (op3 fCatT ta tb) := e_op op_catA rl_catT ha hb
def slcT3 (ta : TE3) (tl th : TO3) : TE3 := fun ρ m P => ta ρ m fun x m1 => tl ρ m1 fun lo m2 => th ρ m2 fun hi m3 => match x with
  | .tup ds => P (.tup (cutD ds lo hi)) m3
  | _ => False
theorem e_sliceT {lo hi : Option Expr} {tl th : TO3} {p2 : Pos} (ha : PE3 X a ta) (hl : PO3 X lo tl) (hh : PO3 X hi th) : PE3 X (.Subscript a (.Slice lo hi none p2) pos) (slcT3 ta tl th) := by
  obtain ⟨_, p, q⟩ := ha
  obtain ⟨_, p1, q1⟩ := hl
  obtain ⟨_, p2, q2⟩ := hh
  refine ⟨_, pe_slice sl_tupA p p1 p2, fun σ H ρ m P Q o h k => ?_⟩
  refine q σ H ρ m _ _ o h fun x H1 d m1 p1 s1 h1 r1 => ?_
  refine q1 σ H1 ρ m1 _ _ (o.mv s1 h1) p1 fun lo H2 m2 p2 s2 h2 => ?_
  refine q2 σ H2 ρ m2 _ _ (o.mv (s1.trans s2) h2) p2 fun hi H3 m3 p3 s3 h3 => ?_
  cases d with
  | tup ds =>
    have r3 := r1.mv (s2.trans s3)
    cases r3 with
    | tup t r =>
      refine ⟨_, _, rfl, t.sq, fun hw => ?_, fun _ l hl => ?_⟩
      · rw [r.length] at hw
        have e : cutD ds lo hi = ds := by
          unfold cutD
          rw [hw.1, hw.2, List.drop_zero, Nat.sub_zero, List.take_length]
        have p4 : P (.tup (cutD ds lo hi)) m3 := p3
        rw [e] at p4
        exact k _ _ _ _ p4 (s1.trans (s2.trans s3)) h3 (.tup t r)
      · exact k _ _ _ _ p3 ((s1.trans (s2.trans s3)).trans (step_new hl)) (hr_new h3 hl) (.tup (.inl ⟨.inl upd_same, h3.none hl⟩) ((r.cut lo hi).mv (step_new hl)))
  | _ => exact (p3 : False).elim
/-! ### in a written tuple of texts, of whole numbers -/
theorem Reps.strs : ∀ {K : PySem.W.Frag} {H : Hp} {m : Mem} {vs : List V} {ks : List Str}, Reps K H m vs (ks.map D.str) → vs = ks.map V.str
  | _, _, _, _, [], h => by cases h; rfl
  | _, _, _, _, k :: ks, h => by
    cases h with
    | cons r rr => cases r; rw [Reps.strs rr]; rfl
theorem inV_str (z : Str) : ∀ ks : List Str, inV (.str z) (ks.map V.str) = decide (z ∈ ks)
  | [] => rfl
  | k :: ks => by
    show (eqV (.str k) (.str z) || inV (.str z) (ks.map V.str)) = _
    rw [inV_str z ks]
    show ((k == z) || decide (z ∈ ks)) = _
    by_cases e : k = z
    · subst e; simp
    · simp [e, Ne.symm e]
theorem inV_int (z : Int) : ∀ ks : List Int, inV (.int z) (ks.map V.int) = decide (z ∈ ks)
  | [] => rfl
  | k :: ks => by
    show (eqV (.int k) (.int z) || inV (.int z) (ks.map V.int)) = _
    rw [inV_int z ks]
    show ((k == z) || decide (z ∈ ks)) = _
    by_cases e : k = z
    · subst e; simp
    · simp [e, Ne.symm e]
def fInT : F2 := fun x y m P => match x, y with
  | .str z, .tup ds => ∃ ks : List Str, ds = ks.map D.str ∧ P (.bl (decide (z ∈ ks))) m
  | .int z, .tup ds => ∃ ks : List Int, ds = ks.map D.int ∧ P (.bl (decide (z ∈ ks))) m
  | _, _ => False
theorem rl_inT {K : PySem.W.Frag} : RL K (rIn K false) fInT := by
  intro x y d e H m P Q h r1 r2 f k
  cases e with
  | tup ds =>
    cases d with
    | str z =>
      obtain ⟨ks, rfl, f⟩ := f
      cases r1
      cases r2 with
      | tup t r =>
        have ev := Reps.strs r
        subst ev
        exact ⟨_, _, rfl, .inr t.sq, rfl, by simp [flatV], k.now h f (by show Rep K H m (.bl (inV (.str z) (ks.map V.str))) _; rw [inV_str]; exact .bl _)⟩
    | int z =>
      obtain ⟨ks, rfl, f⟩ := f
      cases r1
      cases r2 with
      | tup t r =>
        have ev := Reps.ints' r
        subst ev
        exact ⟨_, _, rfl, .inr t.sq, rfl, by simp [flatV], k.now h f (by show Rep K H m (.bl (inV (.int z) (ks.map V.int))) _; rw [inV_int]; exact .bl _)⟩
    | _ => exact (f : False).elim
  | _ => cases d <;> exact (f : False).elim
theorem e_inT (ha : PE3 X a ta) (hb : PE3 X b tb) (hm : behindInMarks .In b = false := by rfl) : PE3 X (.Compare a [.In] [b] pos) (op3 fInT ta tb) := e_cmpR op_in_seq rl_inT ha hb hm
theorem t_inT (ha : PE3 X a ta) (hb : PE3 X b tb) (hm : behindInMarks .In b = false := by rfl) : PT3 X (.Compare a [.In] [b] pos) (b3 (op3 fInT ta tb)) := t_cmpR op_in_seq rl_inT ha hb hm
/-! ### all of a list of truths -/
theorem Reps.bls : ∀ {K : PySem.W.Frag} {H : Hp} {m : Mem} {vs : List V} {ks : List Bool}, Reps K H m vs (ks.map D.bl) → vs = ks.map V.bl
  | _, _, _, _, [], h => by cases h; rfl
  | _, _, _, _, k :: ks, h => by
    cases h with
    | cons r rr => cases r; rw [Reps.bls rr]; rfl
def fAll : F1 := fun x m P => match x with
  | .lst ds => ∃ ks : List Bool, ds = ks.map D.bl ∧ P (.bl (ks.all id)) m
  | _ => False
theorem e_all (hg : Gl X "all") (hm : X.mg "all" = none) (ha : PE3 X a ta) (hc : X.calm = true := by rfl) (he : starEach [a] X.env = (false, eval a X.env) :: starEach [] X.env := by rfl) (hpl : (backTo pos (starEach [] X.env)).any (·.1) = false := by rfl) : PE3 X (.Call (.Name "all" p) [a] [] pos) (un3 fAll ta) :=
  e_b1 (f := fAll) (cr_all hc) (fun x d H m P Q h r f k => by
    cases d with
    | lst ds =>
      obtain ⟨ks, rfl, f⟩ := f
      cases r with
      | lst t r =>
        have ev := Reps.bls r
        subst ev
        exact ⟨_, ks, rfl, t.sq, k.now h f (.bl _)⟩
    | _ => exact (f : False).elim) hg hm (by decide +kernel) ha (by decide) (by decide) he hpl
end
end D3

set_option Elab.async false
set_option linter.all false
set_option maxRecDepth 100000
set_option maxHeartbeats 4000000
/-! Gm: lists that change: append, extend, pop at a place; a comprehension's list that may change; [x] * n. -/
namespace D3
open PySem L2 PyProof.Rows
section
variable {X : Cx} {pos p apos cpos : Pos} {a b c o e tg : Expr} {ta tb tc : TE3} {x : Str}
def app3 (ta tb : TE3) : TE3 := fun ρ m P => ta ρ m fun x m1 => match x with
  | .ref l => (∃ ds, m1 l = some (.lst ds)) ∧ tb ρ m1 fun y m2 => ∃ ds, m2 l = some (.lst ds) ∧ ds.length ≤ 16000 ∧ P .non (put m2 l (.lst (ds ++ [y])))
  | _ => False
theorem e_append (ho : PE3 X o ta) (hb : PE3 X e tb) (hbase : attributeBase o "append" X.env (eval o X.env) = eval o X.env := by rfl)
    (hfew : ((backTo cpos (starEach [e] X.env)).all (fun x => !x.1) && (backToKw cpos (keywordEach [] X.env)).all (fun x => x.1.isSome)
      && decide ([e].length + ([] : List Keyword).length + (if ([] : List Keyword).isEmpty then 0 else 1) < 30)) = true := by rfl)
    (hline : (apos.endLine == cpos.line) = true := by rfl) (hs : starEach [e] X.env = (false, eval e X.env) :: starEach [] X.env := by rfl) (hplain : (backTo cpos (starEach [] X.env)).any (·.1) = false := by rfl) :
    PE3 X (.Call (.Attribute o "append" apos) [e] [] cpos) (app3 ta tb) := by
  obtain ⟨t1, p1, q1⟩ := ho
  obtain ⟨t2, p2, q2⟩ := hb
  refine ⟨_, pe_bm PySem.F.plainAttrs_list PySem.F.slot_list_append PySem.F.type_list_append mt_append p1 (pa_cons p2 pa_nil hs) hbase hfew hline hs hplain, fun σ H ρ m P Q ok h k => ?_⟩
  refine q1 σ H ρ m _ _ ok h fun v H1 d m1 z1 s1 h1 r1 => ?_
  cases d with
  | ref l =>
    cases r1
    obtain ⟨⟨ds, e1⟩, z2⟩ := z1
    obtain ⟨xs, ex, rx⟩ := h1.lst e1
    refine ⟨.inl ⟨rfl, _, SqL.of ex⟩, ?_⟩
    refine q2 σ H1 ρ m1 _ _ (ok.mv s1 h1) z2 fun w H2 y m2 z3 s2 h2 r2 => ?_
    obtain ⟨ds2, e2, hl, z4⟩ := z3
    obtain ⟨ys, ey, ry⟩ := h2.lst e2
    refine ⟨l, ys, w, rfl, rfl, ey, by rw [ry.length, sizeLine_eq]; omega, ?_⟩
    exact k _ _ _ _ z4 ((s1.trans s2).trans (step_set e2)) (hr_set h2 e2 (show Reps _ _ _ (ys ++ [w]) (ds2 ++ [y]) from ry.append (.cons r2 .nil))) .non
  | _ => exact (z1 : False).elim
/-- l.extend(a list that may change) -/
def ext3 (ta tb : TE3) : TE3 := fun ρ m P => ta ρ m fun x m1 => match x with
  | .ref l => (∃ ds, m1 l = some (.lst ds)) ∧ tb ρ m1 fun y m2 => match y with
    | .ref b => ∃ ds es, m2 l = some (.lst ds) ∧ m2 b = some (.lst es) ∧ ds.length + es.length ≤ 16000 ∧ P .non (put m2 l (.lst (ds ++ es)))
    | _ => False
  | _ => False
theorem e_extend (ho : PE3 X o ta) (hb : PE3 X e tb) (hbase : attributeBase o "extend" X.env (eval o X.env) = eval o X.env := by rfl)
    (hfew : ((backTo cpos (starEach [e] X.env)).all (fun x => !x.1) && (backToKw cpos (keywordEach [] X.env)).all (fun x => x.1.isSome)
      && decide ([e].length + ([] : List Keyword).length + (if ([] : List Keyword).isEmpty then 0 else 1) < 30)) = true := by rfl)
    (hline : (apos.endLine == cpos.line) = true := by rfl) (hs : starEach [e] X.env = (false, eval e X.env) :: starEach [] X.env := by rfl) (hplain : (backTo cpos (starEach [] X.env)).any (·.1) = false := by rfl) :
    PE3 X (.Call (.Attribute o "extend" apos) [e] [] cpos) (ext3 ta tb) := by
  obtain ⟨t1, p1, q1⟩ := ho
  obtain ⟨t2, p2, q2⟩ := hb
  refine ⟨_, pe_bm PySem.F.plainAttrs_list PySem.F.slot_list_extend PySem.F.type_list_extend mt_extend p1 (pa_cons p2 pa_nil hs) hbase hfew hline hs hplain, fun σ H ρ m P Q ok h k => ?_⟩
  refine q1 σ H ρ m _ _ ok h fun v H1 d m1 z1 s1 h1 r1 => ?_
  cases d with
  | ref l =>
    cases r1
    obtain ⟨⟨ds, e1⟩, z2⟩ := z1
    obtain ⟨xs, ex, rx⟩ := h1.lst e1
    refine ⟨.inl ⟨rfl, _, SqL.of ex⟩, ?_⟩
    refine q2 σ H1 ρ m1 _ _ (ok.mv s1 h1) z2 fun w H2 y m2 z3 s2 h2 r2 => ?_
    cases y with
    | ref b =>
      cases r2
      obtain ⟨ds2, es, e2, e3, hl, z4⟩ := z3
      obtain ⟨ys, ey, ry⟩ := h2.lst e2
      obtain ⟨zs, ez, rz⟩ := h2.lst e3
      refine ⟨l, b, ys, zs, rfl, rfl, ey, ez, by rw [ry.length, rz.length, sizeLine_eq]; omega, ?_⟩
      exact k _ _ _ _ z4 ((s1.trans s2).trans (step_set e2)) (hr_set h2 e2 (show Reps _ _ _ (ys ++ zs) (ds2 ++ es) from ry.append rz)) .non
    | _ => exact (z3 : False).elim
  | _ => exact (z1 : False).elim
/-- a list that may change, taken so often: one that may change -/
def rep3 : F2 := fun x y m P => match x, y with
  | .ref l, .int k => ∃ ds, m l = some (.lst ds) ∧ 0 ≤ k ∧ k ≤ 16000 ∧ ds.length * k.toNat ≤ 16000 ∧ ∀ p, m p = none → P (.ref p) (put m p (.lst (List.replicate k.toNat ds).flatten))
  | _, _ => False
theorem Reps.rep {K : PySem.W.Frag} {H : Hp} {m : Mem} {vs : List V} {ds : List D} (r : Reps K H m vs ds) : ∀ n, Reps K H m (List.replicate n vs).flatten (List.replicate n ds).flatten
  | 0 => .nil
  | n + 1 => by
    rw [List.replicate_succ, List.replicate_succ, List.flatten_cons, List.flatten_cons]
    exact r.append (Reps.rep r n)
theorem rl_rep {K : PySem.W.Frag} : RL K rRep rep3 := by
  intro x y d e H m P Q h r1 r2 f k
  cases d with
  | ref l =>
    cases e with
    | int n =>
      obtain ⟨ds, e1, n0, n1, hl, f⟩ := f
      cases r1
      cases r2
      obtain ⟨xs, ex, rx⟩ := h.lst e1
      refine ⟨l, n, xs, rfl, rfl, ex, by omega, by omega, by rw [rx.length, sizeLine_eq]; omega, fun p hp => ?_⟩
      have np : m p = none := h.none hp
      exact k _ _ _ _ (f p np) (step_newM hp) (hr_newM h hp (show Reps _ _ _ _ _ from rx.rep _)) (.ref p)
    | _ => exact (f : False).elim
  | _ => exact (f : False).elim
theorem e_rep (ha : PE3 X a ta) (hb : PE3 X b tb) : PE3 X (.BinOp a .Mult b pos) (op3 rep3 ta tb) := e_op op_rep rl_rep ha hb
end
def lcGoM (i : Nat) (tt : TT3) (te : TE3) (L : Addr) (ρ : Env3) (P : DK) : List D → Mem → Prop
  | [], m => ∃ acc, m L = some (.lst acc) ∧ P (.ref L) m
  | x :: xs, m => ∃ acc, m L = some (.lst acc) ∧ tt (ρ.set i (some x)) m fun b m3 => m3 L = some (.lst acc) ∧
      if b = true then te (ρ.set i (some x)) m3 fun y m4 => m4 L = some (.lst acc) ∧ acc.length < 16000 ∧ lcGoM i tt te L ρ P xs (put m4 L (.lst (acc ++ [y]))) else lcGoM i tt te L ρ P xs m3
def lcM3 (w : TI3) (i : Nat) (tt : TT3) (te : TE3) : TE3 := fun ρ m P => w ρ m fun ds m1 => ∀ L, m1 L = none → lcGoM i tt te L ρ P ds (put m1 L (.lst []))
theorem lcGoM_ind {i : Nat} {te : TE3} {L : Addr} {ρ : Env3} {P : DK} (I : Nat → List D → Mem → Prop)
    (step : ∀ n x acc m (Kt : DK), m L = some (.lst acc) → I (n + 1) acc m → (∀ y m4, m4 L = some (.lst acc) → acc.length < 16000 → I n (acc ++ [y]) (put m4 L (.lst (acc ++ [y]))) → Kt y m4) → te (ρ.set i (some x)) m Kt)
    (done : ∀ acc m, m L = some (.lst acc) → I 0 acc m → P (.ref L) m) : ∀ (xs acc : List D) (m : Mem), m L = some (.lst acc) → I xs.length acc m → lcGoM i yes3 te L ρ P xs m
  | [], acc, m, e, h => ⟨acc, e, done acc m e h⟩
  | x :: xs, acc, m, e, h => ⟨acc, e, e, by
    rw [if_pos rfl]
    exact step xs.length x acc m _ e h fun y m4 e4 hl h4 => ⟨e4, hl, lcGoM_ind I step done xs (acc ++ [y]) _ put_same h4⟩⟩
section
variable {X : Cx} {pos : Pos} {elt iter : Expr} {ifs : List Expr} {scope : Scope} {x : Str} {i : Nat} {p : Pos} {w : TI3} {tt : TT3} {te : TE3}
theorem lcM_el {K : PySem.W.Frag} {wi : TI} {tT : TT} (qi : ∀ σ H ρ m P R, Ok K σ H ρ m → w ρ m P → (∀ J H1 ds m1, P ds m1 → Step H m H1 m1 → HR K H1 m1 → Wlk K J ds H1 m1 → R J H1) → wi σ H R) (htt : TL K tT tt) :
    EL K (tLc wi (gName i) tT (cE K te) [i]) (lcM3 w i tt te) := by
  intro σ H ρ m P Q o h k
  refine qi σ H ρ m _ _ o h fun J H1 ds m1 p1 s1 h1 wk => ?_
  intro L hL
  have mL : m1 L = none := h1.none hL
  have p2 := p1 L mL
  have sA : Step H1 m1 (upd H1 L (.lst [])) (put m1 L (.lst [])) := step_newM hL
  have hA : HR K (upd H1 L (.lst [])) (put m1 L (.lst [])) := hr_newM h1 hL (show Reps _ _ _ [] [] from .nil)
  refine ⟨fun j n H2 => ∃ m2, HR K H2 m2 ∧ Step H1 m1 H2 m2 ∧ lcGoM i tt te L ρ P (ds.drop j) m2 ∧ n = ds.length - j ∧ j ≤ ds.length, ⟨ds.length, _, hA, sA, p2, rfl, Nat.zero_le _⟩, ?_⟩
  rintro j n H2 ⟨m2, h2, s2, f2, rfl, hj⟩
  obtain ⟨wstop, wgo⟩ := wk j H2 m2 s2 h2
  by_cases hlt : j < ds.length
  · obtain ⟨go, yl⟩ := wgo ds[j] (List.getElem?_eq_getElem hlt)
    refine .inr ⟨go, fun H5 => ∃ m5, HR K H5 m5 ∧ Step H1 m1 H5 m5 ∧ lcGoM i tt te L ρ P (ds.drop (j + 1)) m5, fun H5 ⟨m5, a5, b5, c5⟩ => ⟨ds.length - (j + 1), by omega, m5, a5, b5, c5, rfl, hlt⟩, fun v H' y => ?_⟩
    obtain ⟨s3, h3, r3⟩ := yl v H' y
    rw [List.drop_eq_getElem_cons hlt] at f2
    obtain ⟨acc, eL, f3⟩ := f2
    have oB : Ok K ((wipe σ [i]).set i (some v)) H' (ρ.set i (some ds[j])) m2 := by
      have := ((o.mv (s1.trans (s2.trans s3)) h3).forget i).set i r3
      rwa [List.set_set] at this
    refine ⟨?_, ?_⟩
    · show ((σ.set i none).set i (some v)).set i none = σ.set i none
      rw [List.set_set, List.set_set]
    · refine htt _ H' _ m2 _ _ oB f3 fun b H3 m3 p3 s4 h4 => ?_
      obtain ⟨eL3, p3⟩ := p3
      have st3 : Step H1 m1 H3 m3 := s2.trans (s3.trans s4)
      cases b with
      | false => exact ⟨m3, h4, st3, p3⟩
      | true =>
        rw [if_pos rfl] at p3 ⊢
        refine ⟨_, m3, _, oB.mv s4 h4, p3, fun y H4 d m4 p4 s5 h5 r5 => ?_⟩
        obtain ⟨eL4, hlen, p4⟩ := p4
        obtain ⟨xs, e1, rr⟩ := h5.lst eL4
        refine ⟨xs, e1, by rw [rr.length, sizeLine_eq]; omega, put m4 L (.lst (acc ++ [d])), ?_, ?_, p4⟩
        · exact hr_set h5 eL4 (show Reps _ _ _ (xs ++ [y]) (acc ++ [d]) from rr.append (.cons r5 .nil))
        · exact st3.trans (s5.trans (step_set eL4))
  · have e : ds.drop j = [] := List.drop_eq_nil_of_le (by omega)
    rw [e] at f2
    obtain ⟨acc, eL, f3⟩ := f2
    obtain ⟨xs, e1, rr⟩ := h2.lst eL
    exact .inl ⟨wstop (by omega), k _ _ _ _ f3 (s1.trans s2) h2 (.ref L)⟩
theorem lcM_mk {tT : TT} (hc : X.calm = true) (hN : X.N.Nodup) (hi : PI3 X (.Name x p) iter w) (ok : BlkOk X.N X.env.scope scope [(x, i)])
    (hg : ∀ (s : Shared) (H : Hp) (C : Addr) (cl : List (Str × Addr)) (fp : List Addr), PG (X.blk s H scope (compEnvC scope cl C X.env) fp) (.Name x p) (gName i))
    (ht : ∀ (s : Shared) (H : Hp) (C : Addr) (cl : List (Str × Addr)) (fp : List Addr), PTs (X.blk s H scope (compEnvC scope cl C X.env) fp) ifs tT) (htt : TL X.K tT tt)
    (he : ∀ (s : Shared) (H : Hp) (C : Addr) (cl : List (Str × Addr)) (fp : List Addr), PE3 (X.blk s H scope (compEnvC scope cl C X.env) fp) elt te)
    (hs : ∀ z, foldedSetIterable iter X.env z = pure z) : PE3 X (.ListComp elt [⟨.Name x p, iter, ifs, 0⟩] scope pos) (lcM3 w i tt te) := by
  obtain ⟨wi, pi, qi⟩ := hi
  exact ⟨_, pe_lc hc hN pi ok hg ht (te := cE X.K te) (fun s H C cl fp => pe_cE (he s H C cl fp)) hs, lcM_el qi htt⟩
/-- y = [elt for x in iter] -/
theorem lcMS_mk {tT : TT} {j : Nat} {y : Str} {py spos : Pos} (hc : X.calm = true) (hN : X.N.Nodup) (hi : PI3 X (.Name x p) iter w) (ok : BlkOk X.N X.env.scope scope [(x, i)])
    (hg : ∀ (s : Shared) (H : Hp) (C : Addr) (cl : List (Str × Addr)) (fp : List Addr), PG (X.blk s H scope (compEnvC scope cl C X.env) fp) (.Name x p) (gName i))
    (ht : ∀ (s : Shared) (H : Hp) (C : Addr) (cl : List (Str × Addr)) (fp : List Addr), PTs (X.blk s H scope (compEnvC scope cl C X.env) fp) ifs tT) (htt : TL X.K tT tt)
    (he : ∀ (s : Shared) (H : Hp) (C : Addr) (cl : List (Str × Addr)) (fp : List Addr), PE3 (X.blk s H scope (compEnvC scope cl C X.env) fp) elt te)
    (hs : ∀ z, foldedSetIterable iter X.env z = pure z) (hy : X.N[j]? = some y) (hyl : X.env.scope.names.lookup y = some .local) (hsw : swapsWith (.ListComp elt [⟨.Name x p, iter, ifs, 0⟩] scope pos) (some (.Name y py)) spos.line X.env = pure true) :
    PS3 X (.Assign [.Name y py] (.ListComp elt [⟨.Name x p, iter, ifs, 0⟩] scope pos) spos) (asg3 (lcM3 w i tt te) (name3 j)) := by
  obtain ⟨wi, pi, qi⟩ := hi
  refine ⟨_, ps_setLc hc hN hy hyl hsw pi ok hg ht (te := cE X.K te) (fun s H C cl fp => pe_cE (he s H C cl fp)) hs, fun σ H ρ m D3 E o h l => ?_⟩
  refine lcM_el qi htt σ H ρ m _ _ o h fun x H1 d m1 p1 s1 h1 r1 => ?_
  exact l.nx _ H1 _ m1 p1 s1 ((o.mv s1 h1).set j r1)
/-- [elt for x in iter] -/
theorem e_lcM (hc : X.calm = true) (hN : X.N.Nodup) (hi : PI3 X (.Name x p) iter w) (ok : BlkOk X.N X.env.scope scope [(x, i)])
    (he : ∀ (s : Shared) (H : Hp) (C : Addr) (cl : List (Str × Addr)) (fp : List Addr), PE3 (X.blk s H scope (compEnvC scope cl C X.env) fp) elt te)
    (hx : X.N[i]? = some x := by rfl) (hl : (relabel scope X.env).names.lookup x = some .local := by rfl) (hs : ∀ z, foldedSetIterable iter X.env z = pure z := by intro _; rfl) : PE3 X (.ListComp elt [⟨.Name x p, iter, [], 0⟩] scope pos) (lcM3 w i yes3 te) :=
  lcM_mk hc hN hi ok (fun _ _ _ _ _ => pg_name hN hx (.inl hl) (.inr hl)) (fun _ _ _ _ _ => pts_nil) (fun σ H ρ m P Q o h k => k true H m h (Step.refl _ _) o.hr) he hs
theorem e_lcMIf {c : Expr} (hc : X.calm = true) (hN : X.N.Nodup) (hi : PI3 X (.Name x p) iter w) (ok : BlkOk X.N X.env.scope scope [(x, i)])
    (ht : ∀ (s : Shared) (H : Hp) (C : Addr) (cl : List (Str × Addr)) (fp : List Addr), PT3 (X.blk s H scope (compEnvC scope cl C X.env) fp) c tt)
    (he : ∀ (s : Shared) (H : Hp) (C : Addr) (cl : List (Str × Addr)) (fp : List Addr), PE3 (X.blk s H scope (compEnvC scope cl C X.env) fp) elt te)
    (hx : X.N[i]? = some x := by rfl) (hl : (relabel scope X.env).names.lookup x = some .local := by rfl) (hs : ∀ z, foldedSetIterable iter X.env z = pure z := by intro _; rfl) : PE3 X (.ListComp elt [⟨.Name x p, iter, [c], 0⟩] scope pos) (lcM3 w i tt te) :=
  lcM_mk (tT := cT X.K tt) hc hN hi ok (fun _ _ _ _ _ => pg_name hN hx (.inl hl) (.inr hl)) (fun s H C cl fp => pts_one (pt_cT (ht s H C cl fp))) (fun σ H ρ m P Q o h k => ⟨ρ, m, P, o, h, k⟩) he hs
theorem s_lcM {j : Nat} {y : Str} {py spos : Pos} (hc : X.calm = true) (hN : X.N.Nodup) (hi : PI3 X (.Name x p) iter w) (ok : BlkOk X.N X.env.scope scope [(x, i)])
    (he : ∀ (s : Shared) (H : Hp) (C : Addr) (cl : List (Str × Addr)) (fp : List Addr), PE3 (X.blk s H scope (compEnvC scope cl C X.env) fp) elt te)
    (hsw : swapsWith (.ListComp elt [⟨.Name x p, iter, [], 0⟩] scope pos) (some (.Name y py)) spos.line X.env = pure true) (hy : X.N[j]? = some y := by rfl) (hyl : X.env.scope.names.lookup y = some .local := by rfl)
    (hx : X.N[i]? = some x := by rfl) (hl : (relabel scope X.env).names.lookup x = some .local := by rfl) (hs : ∀ z, foldedSetIterable iter X.env z = pure z := by intro _; rfl) :
    PS3 X (.Assign [.Name y py] (.ListComp elt [⟨.Name x p, iter, [], 0⟩] scope pos) spos) (asg3 (lcM3 w i yes3 te) (name3 j)) :=
  lcMS_mk hc hN hi ok (fun _ _ _ _ _ => pg_name hN hx (.inl hl) (.inr hl)) (fun _ _ _ _ _ => pts_nil) (fun σ H ρ m P Q o h k => k true H m h (Step.refl _ _) o.hr) he hs hy hyl hsw
theorem s_lcMIf {c : Expr} {j : Nat} {y : Str} {py spos : Pos} (hc : X.calm = true) (hN : X.N.Nodup) (hi : PI3 X (.Name x p) iter w) (ok : BlkOk X.N X.env.scope scope [(x, i)])
    (ht : ∀ (s : Shared) (H : Hp) (C : Addr) (cl : List (Str × Addr)) (fp : List Addr), PT3 (X.blk s H scope (compEnvC scope cl C X.env) fp) c tt)
    (he : ∀ (s : Shared) (H : Hp) (C : Addr) (cl : List (Str × Addr)) (fp : List Addr), PE3 (X.blk s H scope (compEnvC scope cl C X.env) fp) elt te)
    (hsw : swapsWith (.ListComp elt [⟨.Name x p, iter, [c], 0⟩] scope pos) (some (.Name y py)) spos.line X.env = pure true) (hy : X.N[j]? = some y := by rfl) (hyl : X.env.scope.names.lookup y = some .local := by rfl)
    (hx : X.N[i]? = some x := by rfl) (hl : (relabel scope X.env).names.lookup x = some .local := by rfl) (hs : ∀ z, foldedSetIterable iter X.env z = pure z := by intro _; rfl) :
    PS3 X (.Assign [.Name y py] (.ListComp elt [⟨.Name x p, iter, [c], 0⟩] scope pos) spos) (asg3 (lcM3 w i tt te) (name3 j)) :=
  lcMS_mk (tT := cT X.K tt) hc hN hi ok (fun _ _ _ _ _ => pg_name hN hx (.inl hl) (.inr hl)) (fun s H C cl fp => pts_one (pt_cT (ht s H C cl fp))) (fun σ H ρ m P Q o h k => ⟨ρ, m, P, o, h, k⟩) he hs hy hyl hsw
end
end D3

set_option Elab.async false
set_option linter.all false
/-! DyM: whole numbers halved so often: plain mathematics. -/
namespace DyM
open PySem

theorem pow_pos' (k : Nat) : (0 : Int) < 2 ^ k := PySem.W.kbt_pos k
theorem pow_succ' (k : Nat) : (2 : Int) ^ (k + 1) = 2 * 2 ^ k := by rw [Int.pow_succ, Int.mul_comm]
theorem pow_add' (a b : Nat) : (2 : Int) ^ (a + b) = 2 ^ a * 2 ^ b := Int.pow_add 2 a b

/-- the one form of t halved n times -/
def nrm : Nat → Int → Int × Nat
  | 0, t => (t, 0)
  | n + 1, t => if t % 2 = 0 then nrm n (t / 2) else (t, n + 1)
/-- the form -/
def Frm (p : Int × Nat) : Prop := p.2 = 0 ∨ p.1 % 2 = 1
theorem nrm_le : ∀ (n : Nat) (t : Int), (nrm n t).2 ≤ n
  | 0, t => Nat.le_refl 0
  | n + 1, t => by
    unfold nrm
    split
    · exact Nat.le_succ_of_le (nrm_le n _)
    · exact Nat.le_refl _
theorem nrm_frm : ∀ (n : Nat) (t : Int), Frm (nrm n t)
  | 0, t => .inl rfl
  | n + 1, t => by
    unfold nrm
    split
    · exact nrm_frm n _
    · refine .inr ?_
      show t % 2 = 1
      omega
theorem nrm_val : ∀ (n : Nat) (t : Int), (nrm n t).1 * 2 ^ (n - (nrm n t).2) = t
  | 0, t => by
    show t * 2 ^ (0 - 0) = t
    simp
  | n + 1, t => by
    unfold nrm
    split
    · rename_i h
      have ih := nrm_val n (t / 2)
      have hl := nrm_le n (t / 2)
      rw [show n + 1 - (nrm n (t / 2)).2 = (n - (nrm n (t / 2)).2) + 1 by omega, pow_succ', Int.mul_left_comm, ih]
      omega
    · show t * 2 ^ (n + 1 - (n + 1)) = t
      simp
theorem nrm_uniq : ∀ (n : Nat) (t a : Int) (d : Nat), d ≤ n → a * 2 ^ (n - d) = t → (d = 0 ∨ a % 2 = 1) → nrm n t = (a, d)
  | 0, t, a, d, hd, h, hf => by
    have e : d = 0 := by omega
    subst e
    have h' : a = t := by simpa using h
    rw [h']
    rfl
  | n + 1, t, a, d, hd, h, hf => by
    unfold nrm
    by_cases e : d = n + 1
    · subst e
      have h' : a = t := by simpa using h
      subst h'
      have h2 : a % 2 = 1 := by
        rcases hf with z | z
        · omega
        · exact z
      rw [if_neg (by omega)]
    · have hd' : d ≤ n := by omega
      have e1 : t = 2 * (a * 2 ^ (n - d)) := by
        rw [← h, show n + 1 - d = (n - d) + 1 by omega, pow_succ', Int.mul_left_comm]
      rw [if_pos (by omega)]
      exact nrm_uniq n (t / 2) a d hd' (by omega) hf
theorem nrm_zero (n : Nat) : nrm n 0 = (0, 0) := nrm_uniq n 0 0 0 (Nat.zero_le _) (by simp) (.inl rfl)
theorem nrm_id {p : Int × Nat} (h : Frm p) : nrm p.2 p.1 = p := nrm_uniq p.2 p.1 p.1 p.2 (Nat.le_refl _) (by simp) h
/-- t halved n times and t 2 ^ k halved n + k times are one -/
theorem nrm_shift (n k : Nat) (t : Int) : nrm (n + k) (t * 2 ^ k) = nrm n t := by
  have h1 := nrm_val n t
  have h2 := nrm_le n t
  refine nrm_uniq (n + k) _ _ _ (by omega) ?_ (nrm_frm n t)
  rw [show n + k - (nrm n t).2 = (n - (nrm n t).2) + k by omega, pow_add', ← Int.mul_assoc, h1]
theorem nrm_neg (n : Nat) (t : Int) : nrm n (-t) = (-(nrm n t).1, (nrm n t).2) := by
  refine nrm_uniq n _ _ _ (nrm_le n t) ?_ ?_
  · rw [Int.neg_mul, nrm_val]
  · rcases nrm_frm n t with h | h
    · exact .inl h
    · exact .inr (by show -(nrm n t).1 % 2 = 1; omega)
/-- two are one just where the crosswise products are -/
theorem frm_eq {p q : Int × Nat} (hp : Frm p) (hq : Frm q) (h : p.1 * 2 ^ q.2 = q.1 * 2 ^ p.2) : p = q := by
  have a : nrm (p.2 + q.2) (p.1 * 2 ^ q.2) = p := by rw [nrm_shift, nrm_id hp]
  have b : nrm (q.2 + p.2) (q.1 * 2 ^ p.2) = q := by rw [nrm_shift, nrm_id hq]
  have c : nrm (p.2 + q.2) (p.1 * 2 ^ q.2) = nrm (q.2 + p.2) (q.1 * 2 ^ p.2) := by rw [h, Nat.add_comm]
  exact a.symm.trans (c.trans b)
theorem nrm_eq {n k : Nat} {t u : Int} (h : t * 2 ^ k = u * 2 ^ n) : nrm n t = nrm k u := by
  rw [← nrm_shift n k t, ← nrm_shift k n u, h, Nat.add_comm]

/-! ### the lowest bit -/
theorem low_ex : ∀ (k : Nat) (t : Int), t.natAbs ≤ k → t ≠ 0 → ∃ (v : Nat) (a : Int), t = 2 ^ v * (2 * a + 1)
  | 0, t, h, h0 => absurd (Int.natAbs_eq_zero.mp (by omega)) h0
  | k + 1, t, h, h0 => by
    by_cases e : t % 2 = 0
    · obtain ⟨v, a, e1⟩ := low_ex k (t / 2) (by omega) (by omega)
      refine ⟨v + 1, a, ?_⟩
      rw [pow_succ', Int.mul_assoc, ← e1]
      omega
    · refine ⟨0, t / 2, ?_⟩
      rw [Int.pow_zero, Int.one_mul]
      omega
theorem bits_pow (v : Nat) : Builtin.Int.intBits ((2 : Int) ^ v) = v + 1 := by
  unfold Builtin.Int.intBits
  have hp := pow_pos' v
  rw [if_neg (by simpa using (show (2 : Int) ^ v ≠ 0 by omega))]
  have e : ((2 : Int) ^ v).natAbs = 2 ^ v := by
    rw [← PySem.W.kbt_cast v, Int.natAbs_natCast]
  rw [e, Nat.log2_two_pow]
/-- what the program's dyadic reckons -/
theorem dy_eq {top down : Int} (h0 : top ≠ 0) (hd : 0 ≤ down) {h : Int}
    (hh : h = if (Builtin.Int.intBits (Builtin.bitAnd top (0 - top)) : Int) - 1 < down then (Builtin.Int.intBits (Builtin.bitAnd top (0 - top)) : Int) - 1 else down) :
    0 ≤ h ∧ top / 2 ^ h.toNat = (nrm down.toNat top).1 ∧ down - h = ((nrm down.toNat top).2 : Int) := by
  obtain ⟨v, a, e⟩ := low_ex top.natAbs top (Nat.le_refl _) h0
  have eb : Builtin.bitAnd top (0 - top) = 2 ^ v := by
    rw [e, Int.zero_sub]
    exact PySem.W.kbt_low v a
  rw [eb, bits_pow] at hh
  have hv : ((v + 1 : Nat) : Int) - 1 = (v : Int) := by omega
  rw [hv] at hh
  by_cases c : (v : Int) < down
  · rw [if_pos c] at hh
    subst hh
    have en : nrm down.toNat top = (2 * a + 1, down.toNat - v) := by
      refine nrm_uniq _ _ _ _ (by omega) ?_ (.inr (by omega))
      rw [show down.toNat - (down.toNat - v) = v by omega, e, Int.mul_comm]
    rw [en, Int.toNat_natCast]
    refine ⟨by omega, ?_, by show down - (v : Int) = ((down.toNat - v : Nat) : Int); omega⟩
    show top / 2 ^ v = 2 * a + 1
    rw [e]
    exact Int.mul_ediv_cancel_left _ (by have := pow_pos' v; omega)
  · rw [if_neg c] at hh
    subst hh
    have e2 : top = (2 ^ (v - h.toNat) * (2 * a + 1)) * 2 ^ h.toNat := by
      rw [e, Int.mul_right_comm, ← pow_add', show v - h.toNat + h.toNat = v by omega]
    have en : nrm h.toNat top = (2 ^ (v - h.toNat) * (2 * a + 1), 0) := by
      refine nrm_uniq _ _ _ _ (Nat.zero_le _) ?_ (.inl rfl)
      rw [Nat.sub_zero]
      exact e2.symm
    rw [en]
    refine ⟨hd, ?_, by show h - h = ((0 : Nat) : Int); omega⟩
    show top / 2 ^ h.toNat = 2 ^ (v - h.toNat) * (2 * a + 1)
    conv => lhs; rw [e2]
    exact Int.mul_ediv_cancel _ (by have := pow_pos' h.toNat; omega)

/-! ### sizes -/
theorem shl_c {i j : Int} {n : Nat} (h : i.natAbs < 2 ^ n) (h0 : 0 ≤ j) (hn : (n : Int) + j ≤ 134217728) : L2.CShl i j := by
  obtain ⟨k, rfl⟩ := Int.eq_ofNat_of_zero_le h0
  exact L2.shl_ok h (by omega)
theorem mul_c {i j : Int} {a b : Nat} (ha : i.natAbs < 2 ^ a) (hb : j.natAbs < 2 ^ b) (h : a + b ≤ 134217728) : L2.CMulX i j := L2.mulx_ok ha hb h
theorem noPy {i j : Int} {b : Nat} (hb : j.natAbs < 2 ^ b) (h0 : 0 < b) (h9 : b ≤ 9000) : Builtin.divisionGoesByPylong i j = false :=
  PyProof.noPylong_of_log2 (Nat.lt_of_lt_of_le (PySem.Flt.log2_lt_of h0 hb) h9)
theorem abs_mul_lt {i j : Int} {a b : Nat} (ha : i.natAbs < 2 ^ a) (hb : j.natAbs < 2 ^ b) : (i * j).natAbs < 2 ^ (a + b) := L2.wide_lt ha hb
theorem abs_shl_lt {i : Int} {a k : Nat} (ha : i.natAbs < 2 ^ a) : (i * 2 ^ k).natAbs < 2 ^ (a + k) := by
  rw [Int.natAbs_mul, Int.natAbs_pow, Nat.pow_add]
  exact Nat.mul_lt_mul_of_pos_right ha (Nat.two_pow_pos k)
theorem pow_mono {a b : Nat} (h : a ≤ b) : 2 ^ a ≤ 2 ^ b := Nat.pow_le_pow_right (by decide) h
theorem lt_pow {x a b : Nat} (h : x < 2 ^ a) (hab : a ≤ b) : x < 2 ^ b := Nat.lt_of_lt_of_le h (pow_mono hab)
theorem nrm_abs (n : Nat) (t : Int) : (nrm n t).1.natAbs ≤ t.natAbs := by
  have h := nrm_val n t
  have hp := Nat.two_pow_pos (n - (nrm n t).2)
  have e : t.natAbs = (nrm n t).1.natAbs * 2 ^ (n - (nrm n t).2) := by
    conv => lhs; rw [← h]
    rw [Int.natAbs_mul, Int.natAbs_pow]
    rfl
  rw [e]
  exact Nat.le_mul_of_pos_right _ hp
/-! ### the greatest divisor -/
theorem gcd_step {x y : Int} (hx : 0 ≤ x) (hy : 0 < y) : Int.gcd y (x % y) = Int.gcd x y := by
  obtain ⟨a, rfl⟩ := Int.eq_ofNat_of_zero_le hx
  obtain ⟨b, rfl⟩ := Int.eq_ofNat_of_zero_le (show 0 ≤ y by omega)
  rw [← Int.natCast_emod]
  show Nat.gcd b (a % b) = Nat.gcd a b
  rw [Nat.gcd_comm b, ← Nat.gcd_rec, Nat.gcd_comm]
theorem gcd_abs (a b : Int) : Int.gcd (if a < 0 then -a else a) (if b < 0 then -b else b) = Int.gcd a b := by
  split <;> split <;> simp [Int.gcd_neg, Int.neg_gcd]
/-- a / g, b / g -/
theorem frac_div {a b g : Int} (hb : b ≠ 0) (hg : g = (Int.gcd a b : Nat)) : 0 < g ∧ a / g * g = a ∧ b / g * g = b ∧ Int.gcd (a / g) (b / g) = 1 ∧ (a / g).natAbs ≤ a.natAbs ∧ (b / g).natAbs ≤ b.natAbs := by
  have h0 : 0 < Int.gcd a b := Int.gcd_pos_of_ne_zero_right a hb
  have d1 : g ∣ a := by rw [hg]; exact Int.gcd_dvd_left a b
  have d2 : g ∣ b := by rw [hg]; exact Int.gcd_dvd_right a b
  have e1 := Int.ediv_mul_cancel d1
  have e2 := Int.ediv_mul_cancel d2
  have hgp : 0 < g := by omega
  refine ⟨hgp, e1, e2, ?_, ?_, ?_⟩
  · rw [hg]
    exact Int.gcd_ediv_gcd_ediv_gcd h0
  · conv => rhs; rw [← e1]
    rw [Int.natAbs_mul]
    exact Nat.le_mul_of_pos_right _ (by omega)
  · conv => rhs; rw [← e2]
    rw [Int.natAbs_mul]
    exact Nat.le_mul_of_pos_right _ (by omega)
theorem floor_facts {X b : Int} (hb : 0 < b) : X / b * b ≤ X ∧ X < (X / b + 1) * b := by
  have h1 := Int.ediv_mul_le X (show b ≠ 0 by omega)
  have h2 := Int.lt_ediv_add_one_mul_self X hb
  exact ⟨h1, h2⟩
theorem ceil_facts {X b : Int} (hb : 0 < b) : X ≤ (0 - (0 - X) / b) * b ∧ (0 - (0 - X) / b - 1) * b < X := by
  obtain ⟨h1, h2⟩ := floor_facts (X := 0 - X) hb
  generalize (0 - X) / b = q at h1 h2
  constructor <;> grind
theorem floor_ceil {X b : Int} (hb : 0 < b) : (X / b = 0 - (0 - X) / b) ↔ X % b = 0 := by
  obtain ⟨h1, h2⟩ := floor_facts (X := X) hb
  obtain ⟨h3, h4⟩ := ceil_facts (X := X) hb
  have e := Int.emod_add_mul_ediv X b
  generalize 0 - (0 - X) / b = c at h3 h4 ⊢
  constructor
  · intro z
    rw [← z, Int.mul_comm] at h3
    have := Int.emod_nonneg X (show b ≠ 0 by omega)
    omega
  · intro z
    have e2 : X = X / b * b := by rw [Int.mul_comm]; omega
    have h5 : (c - 1) * b < X / b * b := by omega
    have h6 : X / b * b ≤ c * b := by omega
    have h7 := Int.lt_of_mul_lt_mul_right h5 (by omega)
    have h8 := Int.le_of_mul_le_mul_right h6 hb
    omega
theorem nrm_inj {n : Nat} {t u : Int} (h : nrm n t = nrm n u) : t = u := by
  rw [← nrm_val n t, ← nrm_val n u, h]
theorem fmod_b (a : Int) {b : Int} (h : 0 < b) : 0 ≤ a.fmod b ∧ a.fmod b < b := by
  rw [Int.fmod_eq_emod_of_nonneg a (by omega)]
  exact ⟨Int.emod_nonneg a (by omega), Int.emod_lt_of_pos a h⟩
theorem fmod_e (a : Int) {b : Int} (h : 0 < b) : a.fmod b = a % b := Int.fmod_eq_emod_of_nonneg a (by omega)
theorem fdiv_e (a : Int) {b : Int} (h : 0 < b) : a.fdiv b = a / b := Int.fdiv_eq_ediv_of_nonneg a (by omega)
theorem c_fdiv {i j : Int} {b : Nat} (h : 0 < j) (hb : j.natAbs < 2 ^ b) (h0 : 0 < b) (h9 : b ≤ 9000) : D3.CFdiv i j := ⟨by omega, noPy hb h0 h9⟩
theorem c_mul64 {i j : Int} (ha : i.natAbs < 2 ^ 64) (hb : j.natAbs < 2 ^ 64) : L2.CMulX i j := mul_c ha hb (by decide)
theorem c_pow {i j : Int} (h0 : 0 ≤ j) (h1 : j ≤ 1000000) (h : i.natAbs < 2 ^ 64) : L2.CPow i j := ⟨h0, h1, h⟩
end DyM

set_option Elab.async false
set_option linter.all false
set_option maxHeartbeats 4000000
/-! Deck: what the laws draw by. -/
namespace LK
open PySem L2 D3 DyM
/-- a deck with room for n more draws -/
def DeckAt (m : Mem) (p : Addr) (n : Nat) : Prop := ∃ a b c : Int, m p = some (.lst [.int a, .int b, .int c]) ∧ 0 ≤ b ∧ b < 2147483648 ∧ 0 ≤ c ∧ c + n ≤ 1000000000
theorem DeckAt.le {m : Mem} {p : Addr} {n k : Nat} (h : DeckAt m p n) (hk : k ≤ n) : DeckAt m p k := by
  obtain ⟨a, b, c, h1, h2, h3, h4, h5⟩ := h
  exact ⟨a, b, c, h1, h2, h3, h4, by omega⟩
/-- nothing but p has changed -/
def Off (p : Addr) (m m' : Mem) : Prop := ∀ q, q ≠ p → m' q = m q
theorem Off.refl (p : Addr) (m : Mem) : Off p m m := fun _ _ => rfl
theorem Off.trans {p : Addr} {m m1 m2 : Mem} (a : Off p m m1) (b : Off p m1 m2) : Off p m m2 := fun q h => (b q h).trans (a q h)
theorem Off.put {p : Addr} {m : Mem} {o : MO} : Off p m (put m p o) := fun _ h => put_ne h
def sp_deck : Sp3 := fun ds m P => ∃ cell : Int, ds = [.int cell, .int 0] ∧ ∀ p m', m p = none → Off p m m' → DeckAt m' p 1000000000 → P (.ref p) m'
def sp_pick : Sp3 := fun ds m P => ∃ (p : Addr) (many : Int) (n : Nat), ds = [.ref p, .int many] ∧ DeckAt m p (n + 1) ∧ 0 < many ∧ many.natAbs < 2 ^ 9000 ∧ ∀ r m', 0 ≤ r → r < many → Off p m m' → DeckAt m' p n → P (.int r) m'
theorem sp_pick_i {m : Mem} {P : DK} {p : Addr} {many : Int} (n : Nat) (h : DeckAt m p (n + 1)) (h0 : 0 < many) (hl : many < 2 ^ 100) (k : ∀ r m', 0 ≤ r → r < many → Off p m m' → DeckAt m' p n → P (.int r) m') : sp_pick [.ref p, .int many] m P :=
  ⟨p, many, n, rfl, h, h0, Nat.lt_of_lt_of_le (show many.natAbs < 2 ^ 100 by omega) (pow_mono (by decide)), k⟩
theorem DeckAt.ne {m : Mem} {p s : Addr} {n : Nat} (h : DeckAt m p n) (hs : m s = none) : p ≠ s := fun e => by
  obtain ⟨a, b, c, h1, _⟩ := h
  rw [e, hs] at h1
  cases h1
theorem DeckAt.put {m : Mem} {p s : Addr} {n : Nat} {o : MO} (h : DeckAt m p n) (hs : p ≠ s) : DeckAt (put m s o) p n := by
  obtain ⟨a, b, c, h1, h2⟩ := h
  exact ⟨a, b, c, by rw [put_ne hs]; exact h1, h2⟩
theorem DeckAt.del {m : Mem} {p s : Addr} {n : Nat} (h : DeckAt m p n) (hs : p ≠ s) : DeckAt (del m s) p n := by
  obtain ⟨a, b, c, h1, h2⟩ := h
  exact ⟨a, b, c, by unfold D3.del; rw [if_neg hs]; exact h1, h2⟩
theorem DeckAt.off {m m' : Mem} {p s : Addr} {n : Nat} (h : DeckAt m p n) (o : Off s m m') (hs : p ≠ s) : DeckAt m' p n := by
  obtain ⟨a, b, c, h1, h2⟩ := h
  exact ⟨a, b, c, by rw [o p hs]; exact h1, h2⟩
end LK

set_option Elab.async false
set_option linter.all false
set_option maxRecDepth 100000
set_option maxHeartbeats 4000000
/-! Tm: terms as data, in plain mathematics. -/
namespace LK
open PySem L2 D3 DyM
def K2 : List Str := ["plus", "minus", "times", "over", "least", "most"]
def K1 : List Str := ["size", "e", "log", "arc", "sine", "cosine"]
def isFr : D → Bool
  | .tup [.int a, .int b] => decide (0 < b ∧ Int.gcd a b = 1)
  | _ => false
def isNm : D → Bool
  | .str s => decide (1 ≤ s.length ∧ s.length ≤ 8 ∧ s ≠ "pi") && s.cps.toList.all fun c => decide (97 ≤ c ∧ c ≤ 122)
  | _ => false
def frLt : D → D → Bool
  | .tup [.int a, .int b], .tup [.int c, .int d] => decide (a * d < c * b)
  | _, _ => false
/-- what has to be terms within a thing -/
def inn2 (h : Str) (r : List D) : Option (List D) :=
  if h ∈ K2 then (if r.length = 2 then some r else none)
  else if h ∈ K1 then (if r.length = 1 then some r else none)
  else if h = "pi" then (if r.length = 0 then some [] else none)
  else if h = "number" then (match r with
    | [q] => if isFr q = true then some [] else none
    | _ => none)
  else if h = "name" then (match r with
    | [q] => if isNm q = true then some [] else none
    | _ => none)
  else if h = "root" then (match r with
    | [.int k, t] => if 2 ≤ k ∧ k ≤ 5 then some [t] else none
    | _ => none)
  else if h = "limit" then (match r with
    | [n, a, b, t] => if isNm n && (isFr a && (isFr b && frLt a b)) = true then some [t] else none
    | _ => none)
  else none
def inn : D → Option (List D)
  | .tup (.str h :: r) => inn2 h r
  | _ => none
def isLim : D → Bool
  | .tup (.str h :: _) => decide (h = "limit")
  | _ => false
def sumO {α : Type} (f : α → Option Nat) : List α → Option Nat
  | [] => some 0
  | d :: ds => match f d, sumO f ds with
    | some a, some b => some (a + b)
    | _, _ => none
/-- how many parts, in so many floors -/
def tree : Nat → Bool → D → Option Nat
  | 0, _, _ => none
  | k + 1, ins, d => match inn d with
    | none => none
    | some ps => if (ins && isLim d) = true then none else (sumO (tree k (ins || isLim d)) ps).map (1 + ·)
def lim (o : Option Nat) : Option Nat := o.bind fun n => if n ≤ 30 then some n else none
def termD (d : D) : Bool := (lim (tree 12 false d)).isSome
/-- the program's sum over the parts -/
def addUp (f : D → Option Nat) : Nat → List D → Option Nat
  | t, [] => some t
  | t, d :: ds => match lim (f d) with
    | none => none
    | some n => if t + n > 30 then none else addUp f (t + n) ds
theorem addUp_eq (f : D → Option Nat) : ∀ (ds : List D) (t : Nat), t ≤ 30 → addUp f t ds = lim ((sumO f ds).map (t + ·))
  | [], t, h => by simp [addUp, sumO, lim, h]
  | d :: ds, t, h => by
    cases e : f d with
    | none => simp [addUp, sumO, lim, e]
    | some n =>
      simp only [addUp, e]
      by_cases hn : n ≤ 30
      · have e1 : lim (some n) = some n := by simp [lim, hn]
        rw [e1]
        simp only
        by_cases ht : t + n > 30
        · rw [if_pos ht]
          cases e2 : sumO f ds with
          | none => simp [sumO, e, e2, lim]
          | some k =>
            simp only [sumO, e, e2, lim, Option.map_some, Option.bind_some]
            rw [if_neg (by omega)]
        · rw [if_neg ht, addUp_eq f ds (t + n) (by omega)]
          cases e2 : sumO f ds with
          | none => simp [sumO, e, e2, lim]
          | some k => simp only [sumO, e, e2, Option.map_some, Nat.add_assoc]
      · have e1 : lim (some n) = none := by simp [lim, hn]
        rw [e1]
        cases e2 : sumO f ds with
        | none => simp [sumO, e, e2, lim]
        | some k =>
          simp only [sumO, e, e2, lim, Option.map_some, Option.bind_some]
          rw [if_neg (by omega)]
theorem sumO_app {α : Type} (f : α → Option Nat) : ∀ xs ys : List α, sumO f (xs ++ ys) = match sumO f xs, sumO f ys with
    | some a, some b => some (a + b)
    | _, _ => none
  | [], ys => by
    show sumO f ys = _
    simp only [sumO]
    cases sumO f ys <;> simp
  | x :: xs, ys => by
    show sumO f (x :: (xs ++ ys)) = _
    simp only [sumO]
    rw [sumO_app f xs ys]
    cases f x <;> cases sumO f xs <;> cases sumO f ys <;> simp [Nat.add_assoc]
theorem tree_pos : ∀ {k : Nat} {i : Bool} {d : D} {n : Nat}, tree k i d = some n → 1 ≤ n
  | 0, _, _, _, h => by cases h
  | k + 1, i, d, n, h => by
    unfold tree at h
    split at h
    · cases h
    · split at h
      · cases h
      · rw [Option.map_eq_some_iff] at h
        obtain ⟨a, _, rfl⟩ := h
        omega
/-- the law's worklist: each thing with its floor and whether it stands in a limit -/
abbrev Job := D × Nat × Bool
def jobT (j : Job) : Option Nat := tree (13 - j.2.1) j.2.2 j.1
def kids (j : Job) (ps : List D) : List Job := ps.map fun p => (p, j.2.1 + 1, j.2.2 || isLim j.1)
theorem sum_kids (j : Job) (k : Nat) (hk : 13 - (j.2.1 + 1) = k) : ∀ ps : List D, sumO jobT (kids j ps) = sumO (tree k (j.2.2 || isLim j.1)) ps
  | [] => rfl
  | p :: ps => by
    show sumO jobT ((p, j.2.1 + 1, j.2.2 || isLim j.1) :: kids j ps) = _
    simp only [sumO]
    rw [sum_kids j k hk ps]
    have e : jobT (p, j.2.1 + 1, j.2.2 || isLim j.1) = tree k (j.2.2 || isLim j.1) p := by
      show tree (13 - (j.2.1 + 1)) _ _ = _
      rw [hk]
    rw [e]
/-- what the worklist comes to -/
def comes (at_ : Nat) (js : List Job) : Bool := match sumO jobT js with
  | some n => decide (at_ + n ≤ 30)
  | none => false
theorem comes_stop (n : Nat) : comes n [] = decide (n ≤ 30) := rfl
theorem sum_ge : ∀ {js : List Job} {n : Nat}, sumO jobT js = some n → js.length ≤ n
  | [], _, _ => Nat.zero_le _
  | j :: js, n, h => by
    simp only [sumO] at h
    split at h
    · rename_i a b e1 e2
      cases h
      have := tree_pos e1
      have := sum_ge e2
      simp only [List.length_cons]
      omega
    · cases h
theorem comes_long {at_ : Nat} {js : List Job} (h : 30 < at_ + js.length) : comes at_ js = false := by
  unfold comes
  split
  · rename_i n e
    have := sum_ge e
    exact decide_eq_false (by omega)
  · rfl
theorem comes_bad {at_ : Nat} {j : Job} {js : List Job} (h : inn j.1 = none ∨ 12 < j.2.1 ∨ (j.2.2 && isLim j.1) = true) : comes at_ (j :: js) = false := by
  have e : jobT j = none := by
    unfold jobT
    rcases h with h | h | h
    · cases 13 - j.2.1 with
      | zero => rfl
      | succ k => unfold tree; rw [h]
    · rw [show 13 - j.2.1 = 0 by omega]; rfl
    · cases 13 - j.2.1 with
      | zero => rfl
      | succ k =>
        unfold tree
        split
        · rfl
        · rw [if_pos h]
  unfold comes
  simp only [sumO, e]
theorem comes_go {at_ : Nat} {j : Job} {js : List Job} {ps : List D} (h1 : inn j.1 = some ps) (h2 : j.2.1 ≤ 12) (h3 : (j.2.2 && isLim j.1) = false) : comes at_ (j :: js) = comes (at_ + 1) (js ++ kids j ps) := by
  have e : jobT j = (sumO jobT (kids j ps)).map (1 + ·) := by
    show tree (13 - j.2.1) j.2.2 j.1 = _
    obtain ⟨k, hk⟩ : ∃ k, 13 - j.2.1 = k + 1 := ⟨12 - j.2.1, by omega⟩
    rw [sum_kids j k (by omega) ps, hk]
    unfold tree
    rw [h1]
    simp only
    rw [if_neg (by rw [h3]; exact Bool.false_ne_true)]
  unfold comes
  rw [sumO_app]
  simp only [sumO, e]
  cases sumO jobT (kids j ps) with
  | none => cases sumO jobT js <;> simp
  | some a =>
    cases sumO jobT js with
    | none => simp
    | some b =>
      simp only [Option.map_some]
      congr 1
      apply propext
      constructor <;> intro <;> omega
theorem comes_all (d : D) : comes 0 [(d, 1, false)] = termD d := by
  unfold comes termD lim
  simp only [sumO]
  show (match (match tree 12 false d, some 0 with | some a, some b => some (a + b) | _, _ => none) with | some n => decide (0 + n ≤ 30) | none => false) = _
  cases tree 12 false d with
  | none => rfl
  | some n =>
    simp only [Nat.add_zero, Nat.zero_add, Option.bind_some]
    by_cases h : n ≤ 30 <;> simp [h]
end LK

set_option Elab.async false
set_option linter.all false
set_option maxRecDepth 100000
set_option maxHeartbeats 4000000
/-! Gn: whole numbers and truths reckoned together; comprehensions that keep some; promises joined. -/
namespace D3
open PySem L2 PyProof.Rows
def b2 (b : Bool) : Int := if b = true then 1 else 0
section
variable {X : Cx} {pos p : Pos} {a b : Expr} {ta tb : TE3}
/-- a number or truth on the left -/
def rNL (C : Int → Int → Prop) (g : Int → Int → Int) : R2 := fun x y H Q => ∃ j, y = .int j ∧ ((∃ i, x = .int i ∧ C i j ∧ Q (.int (g i j)) H) ∨ (∃ b, x = .bl b ∧ Q (.int (g (b2 b) j)) H))
/-- on the right -/
def rNR (C : Int → Int → Prop) (g : Int → Int → Int) : R2 := fun x y H Q => ∃ i, x = .int i ∧ ((∃ j, y = .int j ∧ C i j ∧ Q (.int (g i j)) H) ∨ (∃ b, y = .bl b ∧ Q (.int (g i (b2 b))) H))
def fNL (C : Int → Int → Prop) (g : Int → Int → Int) : F2 := fun x y m P => match x, y with
  | .int i, .int j => C i j ∧ P (.int (g i j)) m
  | .bl b, .int j => P (.int (g (b2 b) j)) m
  | _, _ => False
def fNR (C : Int → Int → Prop) (g : Int → Int → Int) : F2 := fun x y m P => match x, y with
  | .int i, .int j => C i j ∧ P (.int (g i j)) m
  | .int i, .bl b => P (.int (g i (b2 b))) m
  | _, _ => False
theorem fNL_i {C : Int → Int → Prop} {g : Int → Int → Int} {i j : Int} {m : Mem} {P : DK} : fNL C g (.int i) (.int j) m P = (C i j ∧ P (.int (g i j)) m) := rfl
theorem fNL_b {C : Int → Int → Prop} {g : Int → Int → Int} {i : Bool} {j : Int} {m : Mem} {P : DK} : fNL C g (.bl i) (.int j) m P = P (.int (g (b2 i) j)) m := rfl
theorem fNR_i {C : Int → Int → Prop} {g : Int → Int → Int} {i j : Int} {m : Mem} {P : DK} : fNR C g (.int i) (.int j) m P = (C i j ∧ P (.int (g i j)) m) := rfl
theorem fNR_b {C : Int → Int → Prop} {g : Int → Int → Int} {i : Int} {j : Bool} {m : Mem} {P : DK} : fNR C g (.int i) (.bl j) m P = P (.int (g i (b2 j))) m := rfl
theorem rl_NL {K : PySem.W.Frag} {C : Int → Int → Prop} {g : Int → Int → Int} : RL K (rNL C g) (fNL C g) := by
  intro x y d e H m P Q h r1 r2 f k
  unfold fNL at f
  split at f
  · cases r1; cases r2
    exact ⟨_, rfl, .inl ⟨_, rfl, f.1, k.now h f.2 (.int _)⟩⟩
  · cases r1; cases r2
    exact ⟨_, rfl, .inr ⟨_, rfl, k.now h f (.int _)⟩⟩
  · exact f.elim
theorem rl_NR {K : PySem.W.Frag} {C : Int → Int → Prop} {g : Int → Int → Int} : RL K (rNR C g) (fNR C g) := by
  intro x y d e H m P Q h r1 r2 f k
  unfold fNR at f
  split at f
  · cases r1; cases r2
    exact ⟨_, rfl, .inl ⟨_, rfl, f.1, k.now h f.2 (.int _)⟩⟩
  · cases r1; cases r2
    exact ⟨_, rfl, .inr ⟨_, rfl, k.now h f (.int _)⟩⟩
  · exact f.elim
def CYes (_ _ : Int) : Prop := True
theorem op_addNL : OpR X (binaryOp .Add) (rNL CYes fun i j => i + j) := by
  intro pins s σ H x y v u Q I rx ry h
  obtain ⟨j, rfl, ⟨i, rfl, _, q⟩ | ⟨b, rfl, q⟩⟩ := h
  · obtain ⟨t, rfl⟩ := rx
    obtain ⟨t', rfl⟩ := ry
    exact PyProof.Rows.add_int ⟨.int _, H, I.tok _, ⟨_, rfl⟩, q⟩
  · cases rx
    obtain ⟨t', rfl⟩ := ry
    exact IntBool.add_bool_int ⟨.int _, H, I.tok _, ⟨_, rfl⟩, q⟩
theorem op_subNL : OpR X (binaryOp .Sub) (rNL CYes fun i j => i - j) := by
  intro pins s σ H x y v u Q I rx ry h
  obtain ⟨j, rfl, ⟨i, rfl, _, q⟩ | ⟨b, rfl, q⟩⟩ := h
  · obtain ⟨t, rfl⟩ := rx
    obtain ⟨t', rfl⟩ := ry
    exact PyProof.Rows.sub_int ⟨.int _, H, I.tok _, ⟨_, rfl⟩, q⟩
  · cases rx
    obtain ⟨t', rfl⟩ := ry
    exact IntBool.sub_bool_int ⟨.int _, H, I.tok _, ⟨_, rfl⟩, q⟩
theorem op_subNR : OpR X (binaryOp .Sub) (rNR CYes fun i j => i - j) := by
  intro pins s σ H x y v u Q I rx ry h
  obtain ⟨j, rfl, ⟨i, rfl, _, q⟩ | ⟨b, rfl, q⟩⟩ := h
  · obtain ⟨t, rfl⟩ := rx
    obtain ⟨t', rfl⟩ := ry
    exact PyProof.Rows.sub_int ⟨.int _, H, I.tok _, ⟨_, rfl⟩, q⟩
  · cases ry
    obtain ⟨t', rfl⟩ := rx
    exact IntBool.sub_int_bool ⟨.int _, H, I.tok _, ⟨_, rfl⟩, q⟩
theorem op_mulNR : OpR X (binaryOp .Mult) (rNR CMulX fun i j => i * j) := by
  intro pins s σ H x y v u Q I rx ry h
  obtain ⟨j, rfl, ⟨i, rfl, hc, q⟩ | ⟨b, rfl, q⟩⟩ := h
  · exact op_mulX pins s σ H _ _ v u Q I rx ry ⟨_, _, rfl, rfl, hc, q⟩
  · cases ry
    obtain ⟨t', rfl⟩ := rx
    exact IntBool.mul_int_bool ⟨.int _, H, I.tok _, ⟨_, rfl⟩, q⟩
theorem e_addNL (ha : PE3 X a ta) (hb : PE3 X b tb) : PE3 X (.BinOp a .Add b pos) (op3 (fNL CYes fun i j => i + j) ta tb) := e_op op_addNL rl_NL ha hb
theorem e_subNL (ha : PE3 X a ta) (hb : PE3 X b tb) : PE3 X (.BinOp a .Sub b pos) (op3 (fNL CYes fun i j => i - j) ta tb) := e_op op_subNL rl_NL ha hb
theorem e_subNR (ha : PE3 X a ta) (hb : PE3 X b tb) : PE3 X (.BinOp a .Sub b pos) (op3 (fNR CYes fun i j => i - j) ta tb) := e_op op_subNR rl_NR ha hb
theorem e_mulNR (ha : PE3 X a ta) (hb : PE3 X b tb) : PE3 X (.BinOp a .Mult b pos) (op3 (fNR CMulX fun i j => i * j) ta tb) := e_op op_mulNR rl_NR ha hb
end
/-- str of a whole number or a truth -/
def bstr (b : Bool) : Str := (PyData.bool b).shown
def rStrN : List V → Hp → VK → Prop := fun xs H Q => (∃ i, xs = [.int i] ∧ i.natAbs.log2 < 1920 ∧ Q (.str (toString i)) H) ∨ (∃ b, xs = [.bl b] ∧ Q (.str (bstr b)) H)
def fStrN : F1 := fun d m P => match d with
  | .int i => i.natAbs.log2 < 1920 ∧ P (.str (toString i)) m
  | .bl b => P (.str (bstr b)) m
  | _ => False
theorem fStrN_i {i : Int} {m : Mem} {P : DK} : fStrN (.int i) m P = (i.natAbs.log2 < 1920 ∧ P (.str (toString i)) m) := rfl
theorem fStrN_b {i : Bool} {m : Mem} {P : DK} : fStrN (.bl i) m P = P (.str (bstr i)) m := rfl
section
variable {X : Cx} {pos p : Pos} {a b : Expr} {ta tb : TE3}
theorem call_strN : CallR X (.type "str") rStrN := by
  intro pins s σ H xs us Q I r h
  rcases h with ⟨i, rfl, hi, q⟩ | ⟨b, rfl, q⟩
  · obtain ⟨u, rfl, ru⟩ := vals1 r
    obtain ⟨t, rfl⟩ := ru
    exact PySem.P.str_of_int hi ⟨.str _, H, I.tok _, ⟨_, rfl⟩, q⟩
  · obtain ⟨u, rfl, ru⟩ := vals1 r
    cases ru
    exact PySem.P.str_of_bool ⟨.str _, H, I.tok _, ⟨_, rfl⟩, q⟩
theorem e_strN (hg : Gl X "str") (hm : X.mg "str" = none) (ha : PE3 X a ta) (he : starEach [a] X.env = (false, eval a X.env) :: starEach [] X.env := by rfl) (hpl : (backTo pos (starEach [] X.env)).any (·.1) = false := by rfl) :
    PE3 X (.Call (.Name "str" p) [a] [] pos) (un3 fStrN ta) :=
  e_ty1 call_strN (fun x d H m P Q h r f k => by
    cases d with
    | int i => cases r; exact .inl ⟨i, rfl, f.1, k.now h f.2 (.str _)⟩
    | bl b => cases r; exact .inr ⟨b, rfl, k.now h f (.str _)⟩
    | _ => exact (f : False).elim) hg hm PyProof.Rows.boot_str ha (by decide) (by decide) he hpl
end
theorem pl_bstr (c : Bool) {b : Nat} (hb : 5 ≤ b) : Pl b (.str (bstr c)) := by
  refine Pl.le hb _ (?_ : Pl 5 _)
  cases c <;> exact ⟨by decide +kernel, by decide +kernel⟩
theorem pl_tos {i : Int} {b : Nat} (h1 : 18 ≤ b) (h2 : b ≤ 1900) (h : Pl b (.int i)) : Pl (b + 1) (.str (toString i)) := by
  have f := (py_facts h1 h2 (.int i) h).2.2.2.1
  simp only [pyOf, PyData.leavesShort, decide_eq_true_eq] at f
  have f2 : (Str.ofString (toString i)).length ≤ b / 3 + 2 := f
  exact ⟨by show (Str.ofString (toString i)).length ≤ b + 1; omega, ofString_c _⟩
/-- a comprehension that keeps some -/
theorem lcGo_fil {i : Nat} {tt : TT3} {te : TE3} {L : Addr} {ρ : Env3} {P : DK} (b : D → Bool) : ∀ (xs acc : List D) (m : Mem), m L = some (.lst acc) → acc.length + xs.length ≤ 16000 →
    (∀ x ∈ xs, ∀ m' (Kt : Bool → Mem → Prop), Kt (b x) m' → tt (ρ.set i (some x)) m' Kt) → (∀ x ∈ xs, ∀ m' (Kt : DK), Kt x m' → te (ρ.set i (some x)) m' Kt) → P (.lst (acc ++ xs.filter b)) (del m L) → lcGo i tt te L ρ P xs m
  | [], acc, m, e, _, _, _, h => ⟨acc, e, by simpa using h⟩
  | x :: xs, acc, m, e, hl, ht, hs, h => ⟨acc, e, ht x List.mem_cons_self m _ ⟨e, by
    simp only [List.length_cons] at hl
    cases hb : b x with
    | true =>
      rw [if_pos rfl]
      refine hs x List.mem_cons_self m _ ⟨e, by omega, lcGo_fil b xs (acc ++ [x]) _ put_same (by simp only [List.length_append, List.length_cons, List.length_nil]; omega) (fun y hy => ht y (List.mem_cons_of_mem _ hy)) (fun y hy => hs y (List.mem_cons_of_mem _ hy)) ?_⟩
      rw [del_put]
      rw [List.filter_cons, hb, if_pos rfl] at h
      simpa using h
    | false =>
      rw [if_neg Bool.false_ne_true]
      refine lcGo_fil b xs acc m e (by omega) (fun y hy => ht y (List.mem_cons_of_mem _ hy)) (fun y hy => hs y (List.mem_cons_of_mem _ hy)) ?_
      rw [List.filter_cons, hb, if_neg Bool.false_ne_true] at h
      exact h⟩⟩
/-- one whose list may change -/
theorem lcGoM_map {i : Nat} {te : TE3} {L : Addr} {ρ : Env3} {P : DK} (f : D → D) : ∀ (xs acc : List D) (m : Mem), m L = some (.lst acc) → acc.length + xs.length ≤ 16000 →
    (∀ x ∈ xs, ∀ m' (Kt : DK), Kt (f x) m' → te (ρ.set i (some x)) m' Kt) → P (.ref L) (put m L (.lst (acc ++ xs.map f))) → lcGoM i yes3 te L ρ P xs m
  | [], acc, m, e, _, _, h => ⟨acc, e, by
    rw [List.map_nil, List.append_nil, put_self e] at h
    exact h⟩
  | x :: xs, acc, m, e, hl, hs, h => ⟨acc, e, e, by
    rw [if_pos rfl]
    refine hs x List.mem_cons_self m _ ⟨e, by simp only [List.length_cons] at hl; omega, lcGoM_map f xs (acc ++ [f x]) _ put_same (by simp only [List.length_append, List.length_cons, List.length_nil] at hl ⊢; omega) (fun y hy => hs y (List.mem_cons_of_mem _ hy)) ?_⟩
    rw [put_put]
    simpa using h⟩
theorem iteFf {b : Bool} {A B : Prop} (h1 : b = false → A) (h2 : b = true → B) : if b = false then A else B := by
  cases b
  · exact h1 rfl
  · exact h2 rfl
theorem at3_nat {ds : List D} {k : Nat} {x : D} {m : Mem} {P : DK} (h : ds[k]? = some x) : at3 ds (k : Int) m P = P x m := by
  have hk : k < ds.length := (List.getElem?_eq_some_iff.mp h).1
  have e : L2.atI ds (k : Int) = some x := by
    unfold L2.atI ixN
    rw [if_pos (by omega), if_pos (by omega), Int.toNat_natCast]
    exact h
  unfold at3
  rw [e]
/-- what holds between two statements -/
theorem seq3_cut {t u : TS3} {D : Ends3} {ρ : Env3} {m : Mem} (I : Env3 → Mem → Prop) (h2 : ∀ ρ' m', I ρ' m' → u D ρ' m') (h1 : ∀ nx : Env3 → Mem → Prop, (∀ ρ' m', I ρ' m' → nx ρ' m') → t { D with nx := nx } ρ m) : seq3 t u D ρ m := h1 _ h2
theorem pDec {c : Prop} [Decidable c] {P : Bool → Mem → Prop} {m : Mem} (h1 : c → P true m) (h2 : ¬ c → P false m) : P (decide c) m := by
  by_cases h : c
  · rw [decide_eq_true h]; exact h1 h
  · rw [decide_eq_false h]; exact h2 h
theorem ite_and2 {c d A B : Prop} [Decidable c] [Decidable d] (h1 : c ∧ d → A) (h2 : ¬ (c ∧ d) → B) : if c then (if d then A else B) else B := by
  by_cases h : c
  · rw [if_pos h]
    by_cases h' : d
    · rw [if_pos h']; exact h1 ⟨h, h'⟩
    · rw [if_neg h']; exact h2 fun z => h' z.2
  · rw [if_neg h]; exact h2 fun z => h z.1
/-- an if whose test changes what may change -/
theorem seq3_if {c : TT3} {t u rest : TS3} {D : Ends3} {ρ : Env3} {m : Mem} (I J : Mem → Prop) (hc : ∀ P : Bool → Mem → Prop, (∀ m', I m' → P true m') → (∀ m', J m' → P false m') → c ρ m P) (ht : ∀ m', I m' → t { D with nx := Later rest D } ρ m') (hu : ∀ m', J m' → u { D with nx := Later rest D } ρ m') : seq3 (ifS3 c t u) rest D ρ m := by
  refine hc _ (fun m' h => ?_) (fun m' h => ?_)
  · rw [if_pos rfl]; exact ht m' h
  · rw [if_neg Bool.false_ne_true]; exact hu m' h
/-- promises for each i, joined -/
theorem fn_ex {P : Program} {w : World} {K : PySem.W.Frag} {mg : Str → Option Value} {base : Heap} {kk : Nat} {f : Addr} {fd : FuncData} {ps : List Str} {ι : Type} {sp : ι → Sp3} {k : ι → Nat}
    (h : ∀ i, Fn3 P w K mg base (k i) f fd ps (sp i)) (sp' : Sp3) (hs : ∀ ds m Q, sp' ds m Q → ∃ i, k i ≤ kk ∧ sp i ds m Q) : Fn3 P w K mg base kk f fd ps sp' := by
  refine ⟨fun vs H Q E q => ?_, fun A outer s H args us vs Q E hr he hb hv q => ?_⟩
  · obtain ⟨ds, m, P', h1, r1, h2, ek⟩ := q
    obtain ⟨i, _, z⟩ := hs ds m P' h2
    exact (h i).len vs H Q E ⟨ds, m, P', h1, r1, z, ek⟩
  · obtain ⟨ds, m, P', h1, r1, h2, ek⟩ := q
    obtain ⟨i, hk, z⟩ := hs ds m P' h2
    exact (h i).run A outer s H args us vs Q E (hr.mono hk) he hb hv ⟨ds, m, P', h1, r1, z, ek⟩
theorem fn_never {P : Program} {w : World} {K : PySem.W.Frag} {mg : Str → Option Value} {base : Heap} {k : Nat} {f : Addr} {fd : FuncData} {ps : List Str} : Fn3 P w K mg base k f fd ps (fun _ _ _ => False) :=
  ⟨fun _ _ _ _ ⟨_, _, _, _, _, h, _⟩ => (h : False).elim, fun _ _ _ _ _ _ _ _ _ _ _ _ _ ⟨_, _, _, _, _, h, _⟩ => (h : False).elim⟩
end D3

set_option Elab.async false
set_option linter.all false
set_option maxRecDepth 100000
set_option maxHeartbeats 4000000
/-! Tw: drawn terms: what is known of them. -/
namespace LK
open PySem L2 D3 DyM
theorem Pls_mem {b : Nat} {d : D} : ∀ {ds : List D}, Pls b ds → d ∈ ds → Pl b d
  | [], _, h => nomatch h
  | x :: xs, h, hm => by
    rcases List.mem_cons.mp hm with rfl | hm
    · exact h.1
    · exact Pls_mem h.2 hm
theorem Pls_of {b : Nat} : ∀ {ds : List D}, (∀ d ∈ ds, Pl b d) → Pls b ds
  | [], _ => trivial
  | x :: xs, h => ⟨h x List.mem_cons_self, Pls_of fun d hd => h d (List.mem_cons_of_mem _ hd)⟩
theorem dps_mem {d : D} : ∀ {ds : List D}, d ∈ ds → dp d ≤ dps ds
  | [], h => nomatch h
  | x :: xs, hm => by
    rw [dps]
    rcases List.mem_cons.mp hm with rfl | hm
    · omega
    · have := dps_mem hm; omega
theorem dps_of {n : Nat} : ∀ {ds : List D}, (∀ d ∈ ds, dp d ≤ n) → dps ds ≤ n
  | [], _ => Nat.zero_le _
  | x :: xs, h => by
    rw [dps]
    have := h x List.mem_cons_self
    have := dps_of fun d hd => h d (List.mem_cons_of_mem x hd)
    omega
theorem szs_mem {d : D} : ∀ {ds : List D}, d ∈ ds → sz d ≤ szs ds
  | [], h => nomatch h
  | x :: xs, hm => by
    rw [szs]
    rcases List.mem_cons.mp hm with rfl | hm
    · omega
    · have := szs_mem hm; omega
theorem inn_mem {d : D} {ps : List D} (h : inn d = some ps) : ∃ k r, d = .tup (.str k :: r) ∧ (∀ p ∈ ps, p ∈ r) ∧ ps.length ≤ 2 := by
  cases d with
  | tup ds =>
    cases ds with
    | nil => cases h
    | cons x r =>
      cases x with
      | str k =>
        refine ⟨k, r, rfl, ?_⟩
        change inn2 k r = some ps at h
        unfold inn2 at h
        have two : ∀ (n : Nat), n ≤ 2 → (if r.length = n then some r else none) = some ps → (∀ p ∈ ps, p ∈ r) ∧ ps.length ≤ 2 := by
          intro n hn h
          split at h
          · cases h; exact ⟨fun _ z => z, by omega⟩
          · cases h
        have nil : ∀ (c : Prop) [Decidable c], (if c then some ([] : List D) else none) = some ps → (∀ p ∈ ps, p ∈ r) ∧ ps.length ≤ 2 := by
          intro c _ h
          split at h
          · cases h; exact ⟨fun _ z => (nomatch z), by decide⟩
          · cases h
        split at h
        · exact two 2 (by decide) h
        split at h
        · exact two 1 (by decide) h
        split at h
        · exact nil _ h
        split at h
        · split at h
          · exact nil _ h
          · cases h
        split at h
        · split at h
          · exact nil _ h
          · cases h
        split at h
        · split at h
          · split at h
            · cases h; exact ⟨fun p z => by simp at z; simp [z], by simp⟩
            · cases h
          · cases h
        split at h
        · split at h
          · split at h
            · cases h; exact ⟨fun p z => by simp at z; simp [z], by simp⟩
            · cases h
          · cases h
        · cases h
      | _ => cases h
  | _ => cases h
theorem inn_ok {d : D} {ps : List D} {b n : Nat} (h : inn d = some ps) (hp : Pl b d) (hd : dp d ≤ n + 1) : ∀ p ∈ ps, Pl b p ∧ dp p ≤ n := by
  obtain ⟨k, r, rfl, hm, _⟩ := inn_mem h
  intro p hpm
  have h1 : Pls b r := hp.2
  refine ⟨Pls_mem h1 (hm p hpm), ?_⟩
  have := dps_mem (hm p hpm)
  simp only [dp, dps] at hd
  omega
theorem isFr_ex {d : D} (h : isFr d = true) : ∃ a b : Int, d = .tup [.int a, .int b] ∧ 0 < b ∧ Int.gcd a b = 1 := by
  unfold isFr at h
  split at h
  · exact ⟨_, _, rfl, (of_decide_eq_true h).1, (of_decide_eq_true h).2⟩
  · cases h
theorem dvd_cop {u t b : Int} (h : u ∣ t * b) (g : Int.gcd u t = 1) : u ∣ b := by
  have e := Int.gcd_mul_right_right_of_gcd_eq_one (k := b) g
  have h1 : u ∣ (Int.gcd u (t * b) : Int) := Int.dvd_coe_gcd (Int.dvd_refl u) h
  rw [e] at h1
  exact Int.dvd_trans h1 (Int.gcd_dvd_right ..)
/-- two fractions that are one -/
theorem frac_uniq {a b t u : Int} (hb : 0 < b) (hu : 0 < u) (h : t * b = a * u) (hg : Int.gcd t u = 1) : (t = a ∧ u = b) ↔ Int.gcd a b = 1 := by
  constructor
  · rintro ⟨rfl, rfl⟩; exact hg
  · intro g
    have h1 : u ∣ b := by
      have : u ∣ t * b := ⟨a, by rw [h, Int.mul_comm]⟩
      exact dvd_cop this (by rw [Int.gcd_comm]; exact hg)
    have h2 : b ∣ u := by
      have : b ∣ a * u := ⟨t, by rw [← h, Int.mul_comm]⟩
      exact dvd_cop this (by rw [Int.gcd_comm]; exact g)
    have e : u = b := Int.dvd_antisymm (by omega) (by omega) h1 h2
    subst e
    exact ⟨Int.eq_of_mul_eq_mul_right (by omega) h, rfl⟩
/-- a drawn term, so many within one another, with these names -/
inductive Wt (ns : List Str) : Nat → D → Prop
  | num {e : Nat} {a b : Int} : 0 < b → Int.gcd a b = 1 → a.natAbs < 1024 → b.natAbs < 1024 → Wt ns (e + 1) (.tup [.str "number", .tup [.int a, .int b]])
  | name {e : Nat} {x : Str} : x ∈ ns → Wt ns (e + 1) (.tup [.str "name", .str x])
  | pi {e : Nat} : Wt ns (e + 1) (.tup [.str "pi"])
  | two {e : Nat} {k : Str} {a b : D} : k ∈ K2 → Wt ns e a → Wt ns e b → Wt ns (e + 1) (.tup [.str k, a, b])
  | one {e : Nat} {k : Str} {a : D} : k ∈ K1 → Wt ns e a → Wt ns (e + 1) (.tup [.str k, a])
  | root {e : Nat} {k : Int} {a : D} : 2 ≤ k → k ≤ 5 → Wt ns e a → Wt ns (e + 1) (.tup [.str "root", .int k, a])
def Nms (ns : List Str) : Prop := ∀ x ∈ ns, Pl 140 (.str x)
theorem pl_k {k : Str} (h : k ∈ K2 ∨ k ∈ K1) : Pl 140 (.str k) := by
  rcases h with h | h
  · simp only [K2, List.mem_cons, List.not_mem_nil, or_false] at h
    rcases h with rfl | rfl | rfl | rfl | rfl | rfl <;> exact ⟨by decide +kernel, by decide +kernel⟩
  · simp only [K1, List.mem_cons, List.not_mem_nil, or_false] at h
    rcases h with rfl | rfl | rfl | rfl | rfl | rfl <;> exact ⟨by decide +kernel, by decide +kernel⟩
theorem pl_sm {i : Int} (h : i.natAbs < 1024) : Pl 140 (.int i) := lt_pow (a := 10) (by omega) (by decide)
theorem Wt.up {ns : List Str} {e : Nat} {d : D} (h : Wt ns e d) : Wt ns (e + 1) d := by
  induction h with
  | num a b c d => exact .num a b c d
  | name a => exact .name a
  | pi => exact .pi
  | two a _ _ i1 i2 => exact .two a i1 i2
  | one a _ i => exact .one a i
  | root a b _ i => exact .root a b i
theorem Wt.le {ns : List Str} {e e' : Nat} {d : D} (h : Wt ns e d) (he : e ≤ e') : Wt ns e' d := by
  obtain ⟨k, rfl⟩ := Nat.le.dest he
  clear he
  induction k with
  | zero => exact h
  | succ k ih => exact ih.up
theorem Wt.more {ns ns' : List Str} (hs : ∀ x ∈ ns, x ∈ ns') {e : Nat} {d : D} (h : Wt ns e d) : Wt ns' e d := by
  induction h with
  | num a b c d => exact .num a b c d
  | name a => exact .name (hs _ a)
  | pi => exact .pi
  | two a _ _ i1 i2 => exact .two a i1 i2
  | one a _ i => exact .one a i
  | root a b _ i => exact .root a b i
theorem Wt.ok {ns : List Str} (hn : Nms ns) {e : Nat} {d : D} (h : Wt ns e d) : Pl 140 d ∧ 2 * sz d + 4 ≤ 7 * 2 ^ e ∧ dp d ≤ e + 1 := by
  induction h with
  | @num e a b _ _ c d =>
    have : 1 ≤ 2 ^ e := Nat.one_le_two_pow
    exact ⟨⟨⟨by decide +kernel, by decide +kernel⟩, ⟨pl_sm c, pl_sm d, trivial⟩, trivial⟩, by simp only [sz, szs, Nat.pow_succ]; omega, by simp only [dp, dps]; omega⟩
  | @name e x a =>
    have : 1 ≤ 2 ^ e := Nat.one_le_two_pow
    exact ⟨⟨⟨by decide +kernel, by decide +kernel⟩, hn _ a, trivial⟩, by simp only [sz, szs, Nat.pow_succ]; omega, by simp only [dp, dps]; omega⟩
  | @pi e =>
    have : 1 ≤ 2 ^ e := Nat.one_le_two_pow
    exact ⟨⟨⟨by decide +kernel, by decide +kernel⟩, trivial⟩, by simp only [sz, szs, Nat.pow_succ]; omega, by simp only [dp, dps]; omega⟩
  | two a _ _ i1 i2 =>
    refine ⟨⟨pl_k (.inl a), i1.1, i2.1, trivial⟩, ?_, ?_⟩
    · have := i1.2.1; have := i2.2.1; simp only [sz, szs, Nat.pow_succ]; omega
    · have := i1.2.2; have := i2.2.2; simp only [dp, dps]; omega
  | one a _ i1 =>
    refine ⟨⟨pl_k (.inr a), i1.1, trivial⟩, ?_, ?_⟩
    · have := i1.2.1; simp only [sz, szs, Nat.pow_succ]; omega
    · have := i1.2.2; simp only [dp, dps]; omega
  | root a b _ i1 =>
    refine ⟨⟨⟨by decide +kernel, by decide +kernel⟩, pl_sm (by omega), i1.1, trivial⟩, ?_, ?_⟩
    · have := i1.2.1; simp only [sz, szs, Nat.pow_succ]; omega
    · have := i1.2.2; simp only [dp, dps]; omega
structure SmFr (a b : Int) : Prop where
  pos : 0 < b
  g : Int.gcd a b = 1
  la : a.natAbs < 1024
  lb : b.natAbs < 1024
theorem SmFr.wt {a b : Int} (h : SmFr a b) {ns : List Str} {e : Nat} : Wt ns (e + 1) (.tup [.str "number", .tup [.int a, .int b]]) := .num h.pos h.g h.la h.lb
/-- a drawn limit -/
def WLim (nm : Str) (ns : List Str) (d : D) : Prop := ∃ (a b c e : Int) (body : D), d = .tup [.str "limit", .str nm, .tup [.int a, .int b], .tup [.int c, .int e], body] ∧ SmFr a b ∧ SmFr c e ∧ a * e < c * b ∧ Wt (nm :: ns) 4 body
theorem WLim.ok {nm : Str} {ns : List Str} (hn : Nms (nm :: ns)) {d : D} (h : WLim nm ns d) : Pl 140 d ∧ sz d ≤ 64 ∧ dp d ≤ 6 := by
  obtain ⟨a, b, c, e, body, rfl, h1, h2, _, h3⟩ := h
  obtain ⟨k1, k2, k3⟩ := h3.ok hn
  refine ⟨⟨⟨by decide +kernel, by decide +kernel⟩, hn _ List.mem_cons_self, ⟨pl_sm h1.la, pl_sm h1.lb, trivial⟩, ⟨pl_sm h2.la, pl_sm h2.lb, trivial⟩, k1, trivial⟩, ?_, ?_⟩
  · simp only [sz, szs]; omega
  · simp only [dp, dps]; omega
end LK

set_option Elab.async false
set_option linter.all false
set_option maxRecDepth 100000
set_option maxHeartbeats 4000000
/-! Ti: what has to be terms within, kind by kind; empty lists; cuts. -/
namespace LK
open PySem L2 D3 DyM
theorem nil_eqv_l (ds : List D) : PyData.eqv (pyOf (.lst ds)) (pyOf (.lst [])) = ds.isEmpty := by
  cases ds with
  | nil => rfl
  | cons x ds => simp [pyOf, pysOf, PyData.eqv, PyData.eqvAll]
theorem nil_eqv_t (ds : List D) : PyData.eqv (pyOf (.tup ds)) (pyOf (.tup [])) = ds.isEmpty := by
  cases ds with
  | nil => rfl
  | cons x ds => simp [pyOf, pysOf, PyData.eqv, PyData.eqvAll]
theorem fEq_nil {ds : List D} {n : Nat} {m : Mem} {P : DK} (h : Pls n ds) (hd : dps ds ≤ 60) : fEq (.lst ds) (.lst []) m P = P (.bl ds.isEmpty) m := by
  rw [fEq_pl (n := n) (k := n) (show Pl n (.lst ds) from h) (show Pl n (.lst []) from trivial) (by simp only [dp]; omega) (by simp [dp, dps]), nil_eqv_l]
theorem fNe_nil {ds : List D} {n : Nat} {m : Mem} {P : DK} (h : Pls n ds) (hd : dps ds ≤ 60) : fNe (.lst ds) (.lst []) m P = P (.bl (!ds.isEmpty)) m := by
  rw [fNe_pl (n := n) (k := n) (show Pl n (.lst ds) from h) (show Pl n (.lst []) from trivial) (by simp only [dp]; omega) (by simp [dp, dps]), nil_eqv_l]
theorem fEq_tnil {ds : List D} {n : Nat} {m : Mem} {P : DK} (h : Pls n ds) (hd : dps ds ≤ 60) : fEq (.tup ds) (.tup []) m P = P (.bl ds.isEmpty) m := by
  rw [fEq_pl (n := n) (k := n) (show Pl n (.tup ds) from h) (show Pl n (.tup []) from trivial) (by simp only [dp]; omega) (by simp [dp, dps]), nil_eqv_t]
theorem fNe_tnil {ds : List D} {n : Nat} {m : Mem} {P : DK} (h : Pls n ds) (hd : dps ds ≤ 60) : fNe (.tup ds) (.tup []) m P = P (.bl (!ds.isEmpty)) m := by
  rw [fNe_pl (n := n) (k := n) (show Pl n (.tup ds) from h) (show Pl n (.tup []) from trivial) (by simp only [dp]; omega) (by simp [dp, dps]), nil_eqv_t]
theorem cutD_nat (ds : List D) (k : Nat) : cutD ds (some (k : Int)) none = ds.drop k := by
  unfold cutD
  rw [HT.sIx_nat, HT.sIx_none]
  by_cases h : k ≤ ds.length
  · rw [show min k ds.length = k by omega, List.take_of_length_le (by rw [List.length_drop]; omega)]
  · rw [show min k ds.length = ds.length by omega, List.drop_eq_nil_of_le (Nat.le_refl _), List.drop_eq_nil_of_le (by omega), List.take_nil]
theorem cutD_to (ds : List D) (k : Nat) : cutD ds none (some (k : Int)) = ds.take k := by
  unfold cutD
  rw [HT.sIx_nat, HT.sIx_none, List.drop_zero, Nat.sub_zero]
  by_cases h : k ≤ ds.length
  · rw [show min k ds.length = k by omega]
  · rw [show min k ds.length = ds.length by omega, List.take_length, List.take_of_length_le (by omega)]
theorem cutD_1 (ds : List D) : cutD ds (some 1) none = ds.drop 1 := cutD_nat ds 1
theorem cutD_2 (ds : List D) : cutD ds (some 2) none = ds.drop 2 := cutD_nat ds 2
theorem cutD_t1 (ds : List D) : cutD ds none (some 1) = ds.take 1 := cutD_to ds 1
theorem sz_pos (d : D) : 1 ≤ sz d := by cases d <;> simp [sz]
theorem len_szs : ∀ ds : List D, ds.length ≤ szs ds
  | [] => Nat.le_refl _
  | d :: ds => by rw [szs, List.length_cons]; have := sz_pos d; have := len_szs ds; omega
theorem szs_ap : ∀ (xs ys : List D), szs (xs ++ ys) = szs xs + szs ys
  | [], ys => by show szs ys = szs [] + szs ys; rw [szs, Nat.zero_add]
  | x :: xs, ys => by show szs (x :: (xs ++ ys)) = _; rw [szs, szs, szs_ap xs ys, Nat.add_assoc]
theorem dps_ap : ∀ (xs ys : List D), dps (xs ++ ys) = max (dps xs) (dps ys)
  | [], ys => by show dps ys = max (dps []) (dps ys); rw [dps]; omega
  | x :: xs, ys => by show dps (x :: (xs ++ ys)) = _; rw [dps, dps, dps_ap xs ys]; omega
theorem cut_facts (ds : List D) (k : Nat) : szs (ds.take k) + szs (ds.drop k) = szs ds ∧ dps (ds.take k) ≤ dps ds ∧ dps (ds.drop k) ≤ dps ds := by
  have e : ds.take k ++ ds.drop k = ds := List.take_append_drop k ds
  refine ⟨by rw [← szs_ap, e], ?_, ?_⟩
  · conv => rhs; rw [← e, dps_ap]
    omega
  · conv => rhs; rw [← e, dps_ap]
    omega
theorem pls_take {b : Nat} {ds : List D} (h : Pls b ds) (k : Nat) : Pls b (ds.take k) := Pls_of fun d hd => Pls_mem h (List.mem_of_mem_take hd)
theorem pls_drop {b : Nat} {ds : List D} (h : Pls b ds) (k : Nat) : Pls b (ds.drop k) := Pls_of fun d hd => Pls_mem h (List.mem_of_mem_drop hd)
theorem k1_perm (h : Str) : decide (h ∈ (["size", "e", "log", "sine", "cosine", "arc"] : List Str)) = decide (h ∈ K1) := by
  congr 1
  apply propext
  simp only [K1, List.mem_cons, List.not_mem_nil, or_false]
  constructor <;> (rintro (h | h | h | h | h | h) <;> simp [h])
theorem inn2_K2 {h : Str} {r : List D} (z : h ∈ K2) : inn2 h r = if r.length = 2 then some r else none := by
  unfold inn2; rw [if_pos z]
theorem K1_K2 {h : Str} (z : h ∈ K1) : h ∉ K2 := by
  simp only [K1, List.mem_cons, List.not_mem_nil, or_false] at z
  rcases z with rfl | rfl | rfl | rfl | rfl | rfl <;> decide +kernel
theorem inn2_K1 {h : Str} {r : List D} (z : h ∈ K1) : inn2 h r = if r.length = 1 then some r else none := by
  unfold inn2; rw [if_neg (K1_K2 z), if_pos z]
theorem inn2_pi {r : List D} : inn2 "pi" r = if r.length = 0 then some [] else none := by
  unfold inn2; rw [if_neg (by decide +kernel), if_neg (by decide +kernel), if_pos rfl]
theorem inn2_number {r : List D} : inn2 "number" r = (match r with
    | [q] => if isFr q = true then some [] else none
    | _ => none) := by
  unfold inn2; rw [if_neg (by decide +kernel), if_neg (by decide +kernel), if_neg (by decide +kernel), if_pos rfl]; try rfl
theorem inn2_name {r : List D} : inn2 "name" r = (match r with
    | [q] => if isNm q = true then some [] else none
    | _ => none) := by
  unfold inn2; rw [if_neg (by decide +kernel), if_neg (by decide +kernel), if_neg (by decide +kernel), if_neg (by decide +kernel), if_pos rfl]; try rfl
theorem inn2_root {r : List D} : inn2 "root" r = (match r with
    | [.int k, t] => if 2 ≤ k ∧ k ≤ 5 then some [t] else none
    | _ => none) := by
  unfold inn2; rw [if_neg (by decide +kernel), if_neg (by decide +kernel), if_neg (by decide +kernel), if_neg (by decide +kernel), if_neg (by decide +kernel), if_pos rfl]; try rfl
theorem inn2_limit {r : List D} : inn2 "limit" r = (match r with
    | [n, a, b, t] => if isNm n && (isFr a && (isFr b && frLt a b)) = true then some [t] else none
    | _ => none) := by
  unfold inn2; rw [if_neg (by decide +kernel), if_neg (by decide +kernel), if_neg (by decide +kernel), if_neg (by decide +kernel), if_neg (by decide +kernel), if_neg (by decide +kernel), if_pos rfl]; try rfl
theorem inn2_else {h : Str} {r : List D} (h1 : h ∉ K2) (h2 : h ∉ K1) (h3 : h ≠ "pi") (h4 : h ≠ "number") (h5 : h ≠ "name") (h6 : h ≠ "root") (h7 : h ≠ "limit") : inn2 h r = none := by
  unfold inn2; rw [if_neg h1, if_neg h2, if_neg h3, if_neg h4, if_neg h5, if_neg h6, if_neg h7]
end LK

set_option Elab.async false
set_option linter.all false
set_option maxRecDepth 100000
set_option maxHeartbeats 4000000
/-! Gi: in a list of any data; new dicts; comprehensions by pairs. -/
namespace D3
open PySem L2 PyProof.Rows
section
variable {X : Cx} {pos p : Pos} {a b : Expr} {ta tb : TE3}
def fInD : F2 := fun x y m P => ∃ d ds, toPy x = some d ∧ toPy y = some (.list ds) ∧ SeqAt.shaped d = true ∧ SeqAt.shaped (.list ds) = true ∧ P (.bl (ds.any fun z => PyData.eqv z d)) m
def fNinD : F2 := fun x y m P => ∃ d ds, toPy x = some d ∧ toPy y = some (.list ds) ∧ SeqAt.shaped d = true ∧ SeqAt.shaped (.list ds) = true ∧ P (.bl (!ds.any fun z => PyData.eqv z d)) m
theorem rl_inD {K : PySem.W.Frag} : RL K (rInD K) fInD := by
  intro x y d e H m P Q h r1 r2 f k
  obtain ⟨u, us, e1, e2, s1, s2, q⟩ := f
  exact ⟨u, us, r1.dp _ _ _ e1, r2.dp _ _ _ e2, s1, s2, k.now h q (.bl _)⟩
theorem rl_ninD {K : PySem.W.Frag} : RL K (rNotInD K) fNinD := by
  intro x y d e H m P Q h r1 r2 f k
  obtain ⟨u, us, e1, e2, s1, s2, q⟩ := f
  exact ⟨u, us, r1.dp _ _ _ e1, r2.dp _ _ _ e2, s1, s2, k.now h q (.bl _)⟩
theorem e_inD {k : Nat} (hr : Room k X.A) (ha : PE3 X a ta) (hb : PE3 X b tb) (hm : behindInMarks .In b = false := by rfl) : PE3 X (.Compare a [.In] [b] pos) (op3 fInD ta tb) := e_cmpR (op_inD (by have := hr.un; omega)) rl_inD ha hb hm
theorem e_ninD {k : Nat} (hr : Room k X.A) (ha : PE3 X a ta) (hb : PE3 X b tb) (hm : behindInMarks .NotIn b = false := by rfl) : PE3 X (.Compare a [.NotIn] [b] pos) (op3 fNinD ta tb) := e_cmpR (op_notInD (by have := hr.un; omega)) rl_ninD ha hb hm
theorem t_inD {k : Nat} (hr : Room k X.A) (ha : PE3 X a ta) (hb : PE3 X b tb) (hm : behindInMarks .In b = false := by rfl) : PT3 X (.Compare a [.In] [b] pos) (b3 (op3 fInD ta tb)) := t_cmpR (op_inD (by have := hr.un; omega)) rl_inD ha hb hm
theorem t_ninD {k : Nat} (hr : Room k X.A) (ha : PE3 X a ta) (hb : PE3 X b tb) (hm : behindInMarks .NotIn b = false := by rfl) : PT3 X (.Compare a [.NotIn] [b] pos) (b3 (op3 fNinD ta tb)) := t_cmpR (op_notInD (by have := hr.un; omega)) rl_ninD ha hb hm
theorem fInD_pl {x : D} {ds : List D} {n k : Nat} {m : Mem} {P : DK} (hx : Pl n x) (hd : Pls k ds) (h1 : dp x ≤ 60) (h2 : dps ds ≤ 60) (q : P (.bl ((pysOf ds).any fun z => PyData.eqv z (pyOf x))) m) : fInD x (.lst ds) m P := by
  obtain ⟨a, b⟩ := toPy_of x hx
  obtain ⟨c, e⟩ := toPy_of (.lst ds) hd
  refine ⟨pyOf x, pysOf ds, a, by rw [c, pyOf], ?_, ?_, q⟩
  · unfold SeqAt.shaped; rw [can_of x hx, Bool.true_and]; exact decide_eq_true (by omega)
  · have hc := can_of (.lst ds) hd
    rw [pyOf] at hc e
    unfold SeqAt.shaped; rw [hc, Bool.true_and]; exact decide_eq_true (by simp only [dp] at e; omega)
theorem fNinD_pl {x : D} {ds : List D} {n k : Nat} {m : Mem} {P : DK} (hx : Pl n x) (hd : Pls k ds) (h1 : dp x ≤ 60) (h2 : dps ds ≤ 60) (q : P (.bl (!(pysOf ds).any fun z => PyData.eqv z (pyOf x))) m) : fNinD x (.lst ds) m P := by
  obtain ⟨a, b⟩ := toPy_of x hx
  obtain ⟨c, e⟩ := toPy_of (.lst ds) hd
  refine ⟨pyOf x, pysOf ds, a, by rw [c, pyOf], ?_, ?_, q⟩
  · unfold SeqAt.shaped; rw [can_of x hx, Bool.true_and]; exact decide_eq_true (by omega)
  · have hc := can_of (.lst ds) hd
    rw [pyOf] at hc e
    unfold SeqAt.shaped; rw [hc, Bool.true_and]; exact decide_eq_true (by simp only [dp] at e; omega)
/-- a new dict -/
def dnew3 : TE3 := fun _ m P => ∀ p, m p = none → P (.ref p) (put m p (.dct []))
theorem e_dnew : PE3 X (.Dict [] [] pos) dnew3 := by
  refine ⟨_, pe_dnewK, fun σ H ρ m P Q o h k => ?_⟩
  intro p hp
  exact k _ _ _ _ (h p (o.hr.none hp)) (step_newM hp) (hr_newM o.hr hp (show RepO _ _ _ (.dK []) (.dct []) from .nil)) (.ref p)
end
/-- a comprehension, by what is made of each -/
theorem lcGo_pairs {i : Nat} {te : TE3} {L : Addr} {ρ : Env3} {P : DK} : ∀ (zs : List (D × D)) (acc : List D) (m : Mem), m L = some (.lst acc) → acc.length + zs.length ≤ 16000 →
    (∀ z ∈ zs, ∀ m' (Kt : DK), Kt z.2 m' → te (ρ.set i (some z.1)) m' Kt) → P (.lst (acc ++ zs.map (·.2))) (del m L) → lcGo i yes3 te L ρ P (zs.map (·.1)) m
  | [], acc, m, e, _, _, h => ⟨acc, e, by simpa using h⟩
  | z :: zs, acc, m, e, hl, hs, h => ⟨acc, e, e, by
    rw [if_pos rfl]
    refine hs z List.mem_cons_self m _ ⟨e, by simp only [List.length_cons] at hl; omega, lcGo_pairs zs (acc ++ [z.2]) _ put_same (by simp only [List.length_append, List.length_cons, List.length_nil] at hl ⊢; omega) (fun y hy => hs y (List.mem_cons_of_mem _ hy)) ?_⟩
    rw [del_put]
    simpa using h⟩
end D3

set_option Elab.async false
set_option linter.all false
set_option maxRecDepth 100000
set_option maxHeartbeats 4000000
/-! Gc: {k: v for a in A for b in B}: a dict by two walks. -/
namespace D3
open PySem PySem.Spec L2 PyProof.Rows
/-- the comprehension -/
abbrev dc2E (ke ve ta ia tb ib : Expr) (sc : Scope) (po : Pos) : Expr := .DictComp ke ve [⟨ta, ia, [], 0⟩, ⟨tb, ib, [], 0⟩] sc po
abbrev NoE : Value → Shared → Prop := fun _ _ => False
theorem dc2_turn0 (ke ve ta ia tb ib : Expr) (sc : Scope) (po : Pos) (it : Value) (d : Addr) (ev : Env) : compTurn (dc2E ke ve ta ia tb ib sc po) 0 it (.ref d) ev = (do
      standAt ia.pos
      match ← pyNext it with
      | none => pure (.done .next)
      | some u =>
        letOwnedTupleGo ta it u
        assign ta ev u
        let y ← eval ib ev
        standAt ib.pos
        let y ← foldedSetIterable ib ev y
        let _ ← runOwn (.compStart (dc2E ke ve ta ia tb ib sc po) 1 (← holding [y] (pyIter y)) (.ref d) ev) ev
        again (.compLoop (dc2E ke ve ta ia tb ib sc po) 0 it (.ref d) ev)) := by rfl
theorem dc2_turn1 (ke ve ta ia tb ib : Expr) (sc : Scope) (po : Pos) (it : Value) (d : Addr) (ev : Env) : compTurn (dc2E ke ve ta ia tb ib sc po) 1 it (.ref d) ev = (do
      standAt ib.pos
      match ← pyNext it with
      | none => pure (.done .next)
      | some u =>
        letOwnedTupleGo tb it u
        assign tb ev u
        (do
          let kv ← eval ke ev
          let vv ← holding [kv] (eval ve ev)
          standAt { ke.pos with endLine := ve.pos.endLine, endCol := ve.pos.endCol }
          holding [kv, vv] (dictSet d kv vv))
        again (.compLoop (dc2E ke ve ta ia tb ib sc po) 1 it (.ref d) ev)) := by rfl
section
variable {P : Program} {w : World} {A : Around} {R : Result → Shared → Prop} {ke ve ta ia tb ib : Expr} {sc : Scope} {po : Pos} {it : Value} {d : Addr} {ev : Env} {s : Shared} {n : Nat}
theorem dc2_loop0 (hf : ∀ x, foldedSetIterable ib ev x = pure x) (J : Nat → Shared → Prop)
    (go : ∀ n t, J n t → wpAny (model P w) A (pyNext it) (fun r t1 => match r with
      | none => R (.ok .next) t1
      | some v => wpAny (model P w) A (letOwnedTupleGo ta it v) (fun _ t2 => wpAny (model P w) A (assign ta ev v) (fun _ t3 =>
          wpAny (model P w) A (eval ib ev) (fun x t4 => wpAny (model P w) A (pyIter x) (fun jt t5 =>
            codeAny (model P w) A (.compStart (dc2E ke ve ta ia tb ib sc po) 1 jt (.ref d) ev) (fun q t6 => (∃ f, q = .ok f) ∧ ∃ m, m < n ∧ J m t6) t5) NoE t4) NoE t3) NoE t2) NoE t1) NoE t)
    (h : J n s) : codeAny (model P w) A (.compLoop (dc2E ke ve ta ia tb ib sc po) 0 it (.ref d) ev) R s := by
  refine codeAny_loop rfl J (fun k t hk => ?_) n h
  show wpAny _ A ((compTurn (dc2E ke ve ta ia tb ib sc po) 0 it (.ref d) ev).onRaise (fun e => do noteFrame e ev; theTreesLotGoes e)) _ _ t
  refine wpAny_noted ?_
  rw [dc2_turn0]
  refine wpAny_bind (wpAny_standAt (wpAny_bind (thnF (go k t hk) fun r t1 h1 => ?_)))
  cases r with
  | none => exact wpAny_pure h1
  | some v =>
    refine wpAny_bind (thnF h1 fun _ t2 h2 => wpAny_bind (thnF h2 fun _ t3 h3 => wpAny_bind (thnF h3 fun x t4 h4 => ?_)))
    refine wpAny_bind (wpAny_standAt (wpAny_bind (wpAny_of_eq (hf x) (wpAny_bind (wpAny_holding (thnF h4 fun jt t5 h5 => ?_))))))
    refine wpAny_bind (wpAny_runOwn ?_); rw [Around.mark_none]
    refine codeAny_mono h5 fun q t6 ⟨⟨f, e⟩, hq⟩ => ?_
    subst e
    first
      | exact wpAny_pure ⟨rfl, hq⟩
      | exact wpAny_bind (wpAny_pure (wpAny_pure ⟨rfl, hq⟩))
theorem dc2_loop1 (J : Nat → Shared → Prop)
    (go : ∀ n t, J n t → wpAny (model P w) A (pyNext it) (fun r t1 => match r with
      | none => R (.ok .next) t1
      | some v => wpAny (model P w) A (letOwnedTupleGo tb it v) (fun _ t2 => wpAny (model P w) A (assign tb ev v) (fun _ t3 =>
          wpAny (model P w) A (eval ke ev) (fun x t4 => wpAny (model P w) A (eval ve ev) (fun y t5 =>
            wpAny (model P w) A (dictSet d x y) (fun _ t6 => ∃ m, m < n ∧ J m t6) NoE t5) NoE t4) NoE t3) NoE t2) NoE t1) NoE t)
    (h : J n s) : codeAny (model P w) A (.compLoop (dc2E ke ve ta ia tb ib sc po) 1 it (.ref d) ev) R s := by
  refine codeAny_loop rfl J (fun k t hk => ?_) n h
  show wpAny _ A ((compTurn (dc2E ke ve ta ia tb ib sc po) 1 it (.ref d) ev).onRaise (fun e => do noteFrame e ev; theTreesLotGoes e)) _ _ t
  refine wpAny_noted ?_
  rw [dc2_turn1]
  refine wpAny_bind (wpAny_standAt (wpAny_bind (thnF (go k t hk) fun r t1 h1 => ?_)))
  cases r with
  | none => exact wpAny_pure h1
  | some v =>
    refine wpAny_bind (thnF h1 fun _ t2 h2 => wpAny_bind (thnF h2 fun _ t3 h3 => wpAny_bind (wpAny_bind (thnF h3 fun x t4 h4 => ?_))))
    exact wpAny_bind (wpAny_holding (thnF h4 fun y t5 h5 => wpAny_bind (wpAny_standAt (wpAny_holding (thnF h5 fun _ t6 h6 => wpAny_pure ⟨rfl, h6⟩)))))
theorem dc2_start1 (h0 : codeAny (model P w) A (.compLoop (dc2E ke ve ta ia tb ib sc po) 1 it (.ref d) ev) R s)
    (h : wpAny (model P w) A (pyIter it) (fun jt t => codeAny (model P w) A (.compLoop (dc2E ke ve ta ia tb ib sc po) 1 jt (.ref d) ev) R t) NoE s) :
    codeAny (model P w) A (.compStart (dc2E ke ve ta ia tb ib sc po) 1 it (.ref d) ev) R s := by
  refine codeAny_of_tree ?_
  show wpAny _ _ ((compStart (dc2E ke ve ta ia tb ib sc po) 1 it (.ref d) ev).onRaise (fun e => do noteFrame e ev; standAt theWindowsPlace)) _ _ s
  refine wpAny_notedAt ?_
  unfold compStart
  show wpAny _ _ (ask >>= _) _ _ s; refine wpAny_bind (wpAny_askSetting (wpAny_ite ?_))
  split
  · first
      | exact wpAny_bind (wpAny_pure (wpAny_pure ⟨rfl, h0⟩))
      | exact wpAny_pure ⟨rfl, h0⟩
  · first
      | exact wpAny_bind (wpAny_rule (wpAny_bind (wpAny_standAt (wpAny_bind (thnF h fun jt t hj => wpAny_pure ⟨rfl, hj⟩)))))
      | (refine wpAny_bind (wpAny_rule ?_); show wpAny _ _ (standAt ib.pos >>= _) _ _ s; exact wpAny_bind (wpAny_standAt (wpAny_bind (thnF h fun jt t hj => wpAny_pure ⟨rfl, hj⟩))))
end
section
variable {Y : Cx} {pins : List (Addr × Obj)} {σ : L2.St} {H : Hp} {s : Shared} {tg : Expr} {J : It} {fp : List Addr} {it : Addr} {tn : Nat → Heap → Prop} {i : Nat}
/-- what a turn leaves, its walk's own objects pinned meanwhile -/
def Back (Y : Cx) (pins : List (Addr × Obj)) (fp : List Addr) (tn : Nat → Heap → Prop) (i : Nat) (t : Shared) : Prop :=
  ∀ σ9 H9 s9, L2.Inv Y (pins ++ pinsAt fp t.heap) σ9 H9 s9 → L2.Inv Y pins σ9 H9 s9 ∧ tn i s9.heap ∧ ∀ b ∈ fp, H9 b = none
theorem turn_go (T : Turn Y.prog Y.w Y.K tg J fp it tn) (hc : Y.calm = true) (I : L2.Inv Y pins σ H s) (hf : ∀ b ∈ fp, FpOk Y pins H b) (st : tn i s.heap) (go : J.go i H) {Q : Value → Shared → Prop}
    (k : ∀ x H' u t, J.yld i H x H' → RelV x u → L2.Inv Y (pins ++ pinsAt fp t.heap) σ H' t → Back Y pins fp tn (i + 1) t → Q u t) :
    wpAny (model Y.prog Y.w) Y.A (pyNext (.ref it)) (fun r t1 => ∃ u, r = some u ∧ wpAny (model Y.prog Y.w) Y.A (letOwnedTupleGo tg (.ref it) u) (fun _ t2 => Q u t2) NoE t1) NoE s := by
  refine thn (T.item Y rfl rfl rfl hc i pins s σ H NoE I hf st go) fun r t1 ⟨u, hr, h1⟩ => ⟨u, hr, thn h1 fun _ t2 ⟨x, H', I2, rx, y, st2, n2⟩ => ?_⟩
  have I3 := I2.pinned (fun b hb => ⟨n2 b hb, (hf b hb).2⟩) (T.obj _ _ st2)
  refine k x H' u t2 y rx I3 fun σ9 H9 s9 I9 => ?_
  have key : ∀ b ∈ fp, ∀ o, t2.heap.get? b = some o → s9.heap.get? b = some o ∧ H9 b = none := fun b hb o e =>
    let z := I9.pin (b, o) (List.mem_append_right _ (List.mem_append_right _ (mem_pinsAt hb e)))
    ⟨z.1, z.2.1⟩
  refine ⟨I9.unpinned, T.keep _ _ _ st2 fun b hb o e => (key b hb o e).1, fun b hb => ?_⟩
  obtain ⟨o, e, _⟩ := T.obj _ _ st2 b hb; exact (key b hb o e).2
end
section
variable {Y : Cx} {pins : List (Addr × Obj)} {σ : L2.St} {H : Hp} {s : Shared}
theorem thx {α : Type} {c : Sem α} {Q Q' : α → Shared → Prop} {M : Model} {A : Around} {E : Value → Shared → Prop} (hx : ∀ e t, ¬ Y.xe e t) (h : wpAny M A c Q Y.xe s) (k : ∀ a t, Q a t → Q' a t) : wpAny M A c Q' E s := wpAny_mono h k fun e t z => (hx e t z).elim
/-- the walk of the second clause -/
theorem dc2_inner {ke ve ta ia tb ib : Expr} {sc : Scope} {po : Pos} {d jt : Addr} {L : It} {fp : List Addr} {tn : Nat → Heap → Prop} {gb : TG} {tk tv : TE} {us1 : List Nat} {V : Nat → Nat → Hp → Prop} {Nx : Hp → Prop} {n : Nat} {R : Shared → Prop}
    (hx : ∀ e t, ¬ Y.xe e t) (hc : Y.calm = true) (I : L2.Inv Y pins σ H s) (T : Turn Y.prog Y.w Y.K tb L fp jt tn) (st : tn 0 s.heap) (hf : ∀ b ∈ fp, FpOk Y pins H b) (pg : PG Y tb gb) (pk : PE Y ke tk) (pv : PE Y ve tv) (v0 : V 0 n H)
    (turn : ∀ j k H5, V j k H5 → (L.stop j H5 ∧ Nx H5) ∨ (L.go j H5 ∧ ∃ Ny : Hp → Prop, (∀ H', Ny H' → ∃ k', k' < k ∧ V (j + 1) k' H') ∧ ∀ y H', L.yld j H5 y H' → gb y (wipe σ us1) H' fun σ3 H6 => wipe σ3 us1 = wipe σ us1 ∧
      tk σ3 H6 fun a H7 => tv σ3 H7 fun b H8 => ∃ kvs key, a = kV key ∧ H8 d = some (.dK kvs) ∧ kvs.length < sizeLine ∧ Ny (upd H8 d (.dK (putK kvs key b)))))
    (fin : ∀ H' t, L2.Inv Y pins (wipe σ us1) H' t → Nx H' → R t) :
    codeAny (model Y.prog Y.w) Y.A (.compStart (dc2E ke ve ta ia tb ib sc po) 1 (.ref jt) (.ref d) Y.env) (fun q t => (∃ f, q = .ok f) ∧ R t) s := by
  have loop : codeAny (model Y.prog Y.w) Y.A (.compLoop (dc2E ke ve ta ia tb ib sc po) 1 (.ref jt) (.ref d) Y.env) (fun q t => (∃ f, q = .ok f) ∧ R t) s := by
    refine dc2_loop1 (n := n) (fun k t => ∃ j H', L2.Inv Y pins (wipe σ us1) H' t ∧ tn j t.heap ∧ (∀ b ∈ fp, H' b = none) ∧ V j k H') ?_ ⟨0, H, I.weak (wipe_length _ _) (fun j v e => (wipe_some e).1), st, fun b hb => (hf b hb).1, v0⟩
    rintro k t ⟨j, H5, I5, st5, n5, w5⟩
    have hf5 : ∀ b ∈ fp, FpOk Y pins H5 b := fun b hb => ⟨n5 b hb, (hf b hb).2⟩
    rcases turn j k H5 w5 with ⟨stop, nx⟩ | ⟨go, Ny, hNy, stp⟩
    · refine thnF (T.done Y rfl rfl rfl hc j pins t _ H5 NoE I5 hf5 st5 stop) fun r t1 ⟨hr, I6⟩ => ?_
      subst hr
      exact ⟨⟨_, rfl⟩, fin H5 t1 I6 nx⟩
    · refine thnF (turn_go (Q := fun u t2 => wpAny (model Y.prog Y.w) Y.A (assign tb Y.env u) (fun _ t3 => wpAny (model Y.prog Y.w) Y.A (eval ke Y.env) (fun x t4 => wpAny (model Y.prog Y.w) Y.A (eval ve Y.env) (fun y t5 =>
          wpAny (model Y.prog Y.w) Y.A (dictSet d x y) (fun _ t6 => ∃ m, m < k ∧ ∃ j H', L2.Inv Y pins (wipe σ us1) H' t6 ∧ tn j t6.heap ∧ (∀ b ∈ fp, H' b = none) ∧ V j m H') NoE t5) NoE t4) NoE t3) NoE t2) T hc I5 hf5 st5 go ?_) fun r t1 ⟨u, hr, h1⟩ => by subst hr; exact h1
      intro x H' u t2 y rx I2 bk
      refine thx hx (pg.run _ t2 _ H' x u _ I2 rx (stp x H' y)) fun _ t3 ⟨σ3, H6, I3, hw, q3⟩ => ?_
      refine thx hx (pk.run _ t3 σ3 H6 _ I3 q3) fun z t4 ⟨a, H7, I4, r4, q4⟩ => ?_
      refine thx hx (pv.run _ t4 σ3 H7 _ I4 q4) fun z2 t5 ⟨b, H8, I8, r8, kvs, key, ek, hd, hz, ny⟩ => ?_
      subst ek
      refine d_dictSet (X := Y) I8 hd hz r4 r8 fun t6 I6 => ?_
      obtain ⟨I7, st7, n7⟩ := bk _ _ _ I6
      obtain ⟨k', hk, w'⟩ := hNy _ ny
      exact ⟨k', hk, j + 1, _, I7.weak (by rw [← hw, wipe_length]) (fun j v e => by rw [← hw] at e; exact (wipe_some e).1), st7, n7, w'⟩
  exact dc2_start1 loop (T.self Y.A 0 _ _ _ st loop)
end
section
variable {X : Cx}
/-- the reading: us the block's names, us1 those of the second target -/
def tDc2 (wi : TI) (ga : TG) (wj : TI) (gb : TG) (tk tv : TE) (us us1 : List Nat) : TE := fun σ H Q => wi σ H fun J H1 => ∀ d, H1 d = none → ∃ W : Nat → Nat → Hp → Prop, (∃ n, W 0 n (upd H1 d (.dK []))) ∧ ∀ i n H2, W i n H2 →
  (J.stop i H2 ∧ Q (.ref d) H2) ∨ (J.go i H2 ∧ ∃ Nx : Hp → Prop, (∀ H', Nx H' → ∃ k, k < n ∧ W (i + 1) k H') ∧ ∀ x H', J.yld i H2 x H' → ga x (wipe σ us) H' fun σ2 H3 => wipe σ2 us = wipe σ us ∧
    wj σ2 H3 fun L H4 => ∃ V : Nat → Nat → Hp → Prop, (∃ n, V 0 n H4) ∧ ∀ j k H5, V j k H5 →
      (L.stop j H5 ∧ Nx H5) ∨ (L.go j H5 ∧ ∃ Ny : Hp → Prop, (∀ H', Ny H' → ∃ k', k' < k ∧ V (j + 1) k' H') ∧ ∀ y H', L.yld j H5 y H' → gb y (wipe σ2 us1) H' fun σ3 H6 => wipe σ3 us1 = wipe σ2 us1 ∧
        tk σ3 H6 fun a H7 => tv σ3 H7 fun b H8 => ∃ kvs key, a = kV key ∧ H8 d = some (.dK kvs) ∧ kvs.length < sizeLine ∧ Ny (upd H8 d (.dK (putK kvs key b)))))
/-- in the block of a comprehension, wherever it starts -/
abbrev InB (X : Cx) (sc : Scope) (F : Cx → Prop) : Prop := ∀ (s : Shared) (H : Hp) (C : Addr) (cl : List (Str × Addr)) (fp : List Addr), F (X.blk s H sc (compEnvC sc cl C X.env) fp)
theorem dc2_core {pins : List (Addr × Obj)} {s : Shared} {σ : L2.St} {H : Hp} {Q : VK} {ke ve ta ia tb ib : Expr} {sc : Scope} {own : List (Str × Nat)} {us1 : List Nat} {po po' : Pos} {wi wj : TI} {ga gb : TG} {tk tv : TE} {use : Option (Value → Sem Unit)} {Qf : Value → Shared → Prop}
    (hc : X.calm = true) (hN : X.N.Nodup) (I : L2.Inv X pins σ H s) (hi : PI X ta ia wi) (ok : BlkOk X.N X.env.scope sc own) (hv : ∀ i ∈ us1, i ∈ own.map (·.2))
    (hga : InB X sc fun Y => PG Y ta ga) (hj : InB X sc fun Y => PI Y tb ib wj) (hgb : InB X sc fun Y => PG Y tb gb) (hk : InB X sc fun Y => PE Y ke tk) (hve : InB X sc fun Y => PE Y ve tv)
    (fa : ∀ x, foldedSetIterable ia X.env x = pure x) (fb : ∀ env x, foldedSetIterable ib env x = pure x) (h : tDc2 wi ga wj gb tk tv (own.map (·.2)) us1 σ H Q)
    (fin : ∀ d C t m H', L2.Inv X pins σ H' t → Q (.ref d) H' → t.heap.Ns C m → FpOk X pins H' C → compPost (model X.prog X.w) X.A X.xe use Qf (.ref d) C (.ok .next) t) :
    wpAny (model X.prog X.w) X.A (comprehension (dc2E ke ve ta ia tb ib sc po) sc X.env po' newDict false (eval ia X.env) use) Qf X.xe s := by
  have fr : ∀ y ∈ sc.names, y.2 = .free → ∃ c, X.env.cells.lookup y.1 = some c := fun y hy e => (ok.free y hy e).elim (fun k => I.ok.has _ (.inl k)) fun k => I.ok.has _ (.inr k)
  refine wpAny_comprehension_free (use := use) rfl fa (closure_ok fr) ok.kind (fun y hy e => by rw [ok.uniq y hy, e]) (thn (hi.run pins s σ H _ I h) fun xv t1 hx => thn hx fun itv t2 h2 => ?_)
  obtain ⟨it, fp, tn, J, H2, e, I2, T, st2, f2, q⟩ := h2; subst e
  refine wpAny_newObj_type (newEnv_comp ?_); generalize hd : t2.heap.objs.size = d
  obtain ⟨W, ⟨n0, w0⟩, turn⟩ := q d (I2.hok.fresh (Nat.le_of_eq hd))
  generalize e3 : ({ t2 with heap := t2.heap.push { cls := .type "dict", data := .dict #[] } } : Shared) = t3
  have he3 : t3.heap = t2.heap.push { cls := .type "dict", data := .dict #[] } := by rw [← e3]
  have I3 : L2.Inv X pins σ (upd H2 d (.dK [])) t3 := by
    rw [← e3]
    refine I2.laid (t' := t2.toks) (fun _ _ z => Heap.get?_push_of_some _ z) (Nat.le_of_eq hd) ?_
    rw [← hd]
    exact dk_empty t2.heap I2.big
  have f3 : ∀ b ∈ fp, FpOk X pins (upd H2 d (.dK [])) b ∧ b < t3.heap.objs.size := fun b hb => by
    obtain ⟨o, eo, _⟩ := T.obj _ _ st2 b hb
    have lt := Heap.lt_size eo
    refine ⟨⟨?_, (f2 b hb).2⟩, by rw [he3, Heap.size_push]; exact Nat.lt_succ_of_lt lt⟩
    rw [upd_ne (by rw [← hd]; exact Nat.ne_of_lt lt)]
    exact (f2 b hb).1
  have st3 : tn 0 t3.heap := T.keep _ _ _ st2 fun b _ o z => by rw [he3]; exact Heap.get?_push_of_some _ z
  have I4 := block_start (scope := sc) I3 ok hN f3
  generalize ecl : cellsFrom (t3.heap.objs.size + 1) sc.names (cloFrom X.env.cells sc.names []) = cl at I4 ⊢
  have pa := hga t3 (upd H2 d (.dK [])) t3.heap.objs.size cl fp
  have pj := hj t3 (upd H2 d (.dK [])) t3.heap.objs.size cl fp
  have pb := hgb t3 (upd H2 d (.dK [])) t3.heap.objs.size cl fp
  have pk := hk t3 (upd H2 d (.dK [])) t3.heap.objs.size cl fp
  have pv := hve t3 (upd H2 d (.dK [])) t3.heap.objs.size cl fp
  show codeAny _ _ (.compStart (dc2E ke ve ta ia tb ib sc po) 0 (.ref it) (.ref d) (compEnvC sc cl t3.heap.objs.size X.env)) (compPost (model X.prog X.w) X.A X.xe use Qf (.ref d) t3.heap.objs.size) { t3 with heap := pushCells (t3.heap.push { cls := .type "dict", data := .dict #[] }) sc.names }
  generalize ee : compEnvC sc cl t3.heap.objs.size X.env = ev at I4 pa pj pb pk pv ⊢
  have eL : ev.locals = t3.heap.objs.size := by rw [← ee]; rfl
  generalize eH : upd H2 d (.dK []) = H3 at I3 I4 pa pj pb pk pv w0 f3
  generalize e4 : ({ t3 with heap := pushCells (t3.heap.push { cls := .type "dict", data := .dict #[] }) sc.names } : Shared) = t4 at I4 ⊢
  have st4 : tn 0 t4.heap := T.keep _ _ _ st3 fun b _ o z => by rw [← e4]; exact pushCells_keeps _ _ _ _ (Heap.get?_push_of_some _ z)
  generalize eY : X.blk t3 H3 sc ev fp = Y at I4 pa pj pb pk pv
  have yx : ∀ e t, ¬ Y.xe e t := fun e t z => by subst eY; exact z
  have yc : Y.calm = true := by subst eY; exact hc
  have yp : Y.prog = X.prog := by subst eY; rfl
  have yw : Y.w = X.w := by subst eY; rfl
  have yA : Y.A = X.A := by subst eY; rfl
  have yK : Y.K = X.K := by subst eY; rfl
  have ye : Y.env = ev := by subst eY; rfl
  have T' : Turn Y.prog Y.w Y.K ta J fp it tn := by rw [yp, yw, yK]; exact T
  have okf : ∀ {σ' : L2.St} {H' : Hp} {t' : Shared}, L2.Inv Y [] σ' H' t' → (∀ b ∈ fp, H' b = none) → ∀ b ∈ fp, FpOk Y [] H' b := fun {σ' H' t'} I' hn b hb => by
    subst eY
    exact ⟨hn b hb, (I'.ok.exf b hb).1, I'.ok.exfs b hb, .inl hb, fun x c z => (I'.ok.exf b hb).2 x c z, fun p hp => absurd (show p ∈ ([] : List (Addr × Obj)) ++ [] from hp) (by simp)⟩
  have loop : codeAny (model Y.prog Y.w) Y.A (.compLoop (dc2E ke ve ta ia tb ib sc po) 0 (.ref it) (.ref d) Y.env) (compPost (model X.prog X.w) X.A X.xe use Qf (.ref d) t3.heap.objs.size) t4 := by
    refine dc2_loop0 (n := n0) (fb _) (fun n t => ∃ i H', L2.Inv Y [] (wipe σ (own.map (·.2))) H' t ∧ tn i t.heap ∧ (∀ b ∈ fp, H' b = none) ∧ W i n H') ?_ ⟨0, H3, I4, st4, fun b hb => (f3 b hb).1.1, w0⟩
    rintro n t5 ⟨i, H5, I5, st5, n5, w5⟩
    rcases turn i n H5 w5 with ⟨stop, qq⟩ | ⟨go, Nx, hNx, stp⟩
    · refine thnF (T'.done Y rfl rfl rfl yc i [] t5 _ H5 NoE I5 (okf I5 n5) st5 stop) fun r t6 ⟨hr, I6⟩ => ?_
      subst hr
      have I7 : L2.Inv X pins σ H5 t6 := by
        subst eY
        exact I3.call' (ch := fp) I6.os I6.base I6.hok I6.bare fun b hb => ⟨(f3 b hb).1.2.2.2.1, (f3 b hb).1.2.1, (f3 b hb).1.2.2.2.2.1, (f3 b hb).1.2.2.2.2.2⟩
      have nC : H5 t3.heap.objs.size = none := by
        have z : H5 Y.env.locals = none := I6.free
        rw [ye, eL] at z
        exact z
      obtain ⟨m, hn, _⟩ := I6.loc
      have hn : t6.heap.Ns Y.env.locals m := hn
      rw [ye, eL] at hn
      exact fin d t3.heap.objs.size t6 m H5 I7 qq hn (I3.fpOk (Nat.le_refl _) nC)
    · refine thnF (turn_go (Q := fun u t2 => wpAny (model Y.prog Y.w) Y.A (assign ta Y.env u) (fun _ t3 => wpAny (model Y.prog Y.w) Y.A (eval ib Y.env) (fun x t4 => wpAny (model Y.prog Y.w) Y.A (pyIter x) (fun jt t5 =>
          codeAny (model Y.prog Y.w) Y.A (.compStart (dc2E ke ve ta ia tb ib sc po) 1 jt (.ref d) Y.env) (fun q t6 => (∃ f, q = .ok f) ∧ ∃ m, m < n ∧ ∃ i H', L2.Inv Y [] (wipe σ (own.map (·.2))) H' t6 ∧ tn i t6.heap ∧ (∀ b ∈ fp, H' b = none) ∧ W i m H') t5) NoE t4) NoE t3) NoE t2) T' yc I5 (okf I5 n5) st5 go ?_) fun r t1 ⟨u, hr, h1⟩ => by subst hr; exact h1
      intro x H' u t7 y rx I7 bk
      refine thx yx (pa.run _ t7 _ H' x u _ I7 rx (stp x H' y)) fun _ t8 ⟨σ8, H8, I8, hw8, q8⟩ => ?_
      refine thx yx (pj.run _ t8 σ8 H8 _ I8 q8) fun xv t9 hx9 => thx yx hx9 fun jv t10 h10 => ?_
      obtain ⟨jt, fq, tm, L, H10, ej, I10, T10, st10, f10, V, ⟨m1, v1⟩, turn1⟩ := h10
      subst ej
      refine dc2_inner yx yc I10 T10 st10 f10 pb pk pv v1 turn1 fun H11 t11 I11 nx => ?_
      obtain ⟨k', hk', w'⟩ := hNx H11 nx
      obtain ⟨I12, st12, n12⟩ := bk _ _ _ I11
      refine ⟨k', hk', i + 1, H11, I12.weak ?_ (fun j v z => ?_), st12, n12, w'⟩
      · rw [← hw8, wipe_length, wipe_length]
      · rw [← hw8] at z
        obtain ⟨z1, z2⟩ := wipe_some z
        rw [wipe_out fun zz => z2 (hv j zz)]
        exact z1
  rw [yp, yw, yA, ye] at loop
  exact codeAny_compStart_dict (loop) (T.self X.A 0 _ _ _ st4 loop)
/-- y = {k: v for a in A for b in B} -/
theorem ps_setDc2 {i : Nat} {y : Str} {py : Pos} {ke ve ta ia tb ib : Expr} {sc : Scope} {own : List (Str × Nat)} {us1 : List Nat} {po spos : Pos} {wi wj : TI} {ga gb : TG} {tk tv : TE} (hc : X.calm = true) (hN : X.N.Nodup) (hy : X.N[i]? = some y) (hyl : X.env.scope.names.lookup y = some .local)
    (hsw : swapsWith (dc2E ke ve ta ia tb ib sc po) (some (.Name y py)) spos.line X.env = pure true) (hi : PI X ta ia wi) (ok : BlkOk X.N X.env.scope sc own) (hv : ∀ i ∈ us1, i ∈ own.map (·.2))
    (hga : InB X sc fun Y => PG Y ta ga) (hj : InB X sc fun Y => PI Y tb ib wj) (hgb : InB X sc fun Y => PG Y tb gb) (hk : InB X sc fun Y => PE Y ke tk) (hve : InB X sc fun Y => PE Y ve tv)
    (fa : ∀ x, foldedSetIterable ia X.env x = pure x := by intro _; rfl) (fb : ∀ env x, foldedSetIterable ib env x = pure x := by intro _ _; rfl) :
    PS X (.Assign [.Name y py] (dc2E ke ve ta ia tb ib sc po) spos) (tAsg (tDc2 wi ga wj gb tk tv (own.map (·.2)) us1) (gName i)) := by
  refine ⟨fun pins s σ H D I h => ?_⟩; rw [exec_Assign_Name_used _ _ _ _ hsw]
  refine wpAny_bind (wpAny_standAt (wpAny_bind ?_)); show wpAny _ X.A (do let _ ← comprehension (dc2E ke ve ta ia tb ib sc po) sc X.env (firstIterPos [⟨ta, ia, [], 0⟩, ⟨tb, ib, [], 0⟩] po) newDict false (eval ia X.env) (some (assign (.Name y py) X.env))) _ _ s
  have h : tDc2 wi ga wj gb tk tv (own.map (·.2)) us1 σ H (fun x H1 => gName i x σ H1 D.nx) := h
  refine wpAny_bind (thn (dc2_core (Qf := fun _ t => SP X pins D .next t) hc hN I hi ok hv hga hj hgb hk hve fa fb h fun d C t m H' I' q hn f => ?_) fun _ t hq => wpAny_pure (wpAny_pure hq))
  show wpAny _ _ (assign (.Name y py) X.env (.ref d)) _ _ _
  obtain ⟨f0, f1, f2, f3, f4, f5⟩ := f; refine wpAny_assign_Name (store_ok2 (v := V.ref d) I' hN hy (.inl hyl) rfl (fun t2 I2 ⟨a, sb, ha⟩ => ?_) (.inr hyl))
  have ne : C ≠ a := by
    rcases ha with z | z
    · rw [z]; exact f1
    · exact fun e => (f4 y a z) e.symm
  exact ⟨m, hn.sameBut sb ne, fun h3 sb3 => ⟨_, H', I2.turned (t' := t2.toks) (fun b o hb e => (sb3.2 b hb).trans e) f0 f1 f3 f4 f5, q⟩⟩
end
end D3

set_option Elab.async false
set_option linter.all false
set_option maxRecDepth 100000
set_option maxHeartbeats 4000000
/-! Ge: dicts by data: made by a comprehension of two clauses, walked, sorted. -/
namespace D3
open PySem L2
def putD (kds : List (Key × D)) (k : Key) (d : D) : List (Key × D) := if (kds.any fun p => decide (p.1 = k)) = true then kds.map (fun p => if p.1 = k then (p.1, d) else p) else kds ++ [(k, d)]
section
variable {K : PySem.W.Frag} {H : Hp} {m : Mem}
theorem RepK.any {kvs : List (Key × V)} {kds : List (Key × D)} (r : RepK K H m kvs kds) (k : Key) : (kvs.any fun p => decide (p.1 = k)) = (kds.any fun p => decide (p.1 = k)) := by
  induction r with
  | nil => rfl
  | cons h _ ih => rw [List.any_cons, List.any_cons, ih, h.1]
theorem RepK.len {kvs : List (Key × V)} {kds : List (Key × D)} (r : RepK K H m kvs kds) : kvs.length = kds.length := by
  induction r with
  | nil => rfl
  | cons h _ ih => rw [List.length_cons, List.length_cons, ih]
theorem RepK.keys {kvs : List (Key × V)} {kds : List (Key × D)} (r : RepK K H m kvs kds) : kvs.map (·.1) = kds.map (·.1) := by
  induction r with
  | nil => rfl
  | cons h _ ih => rw [List.map_cons, List.map_cons, ih, h.1]
theorem RepK.app {kvs kvs' : List (Key × V)} {kds kds' : List (Key × D)} (r : RepK K H m kvs kds) (r' : RepK K H m kvs' kds') : RepK K H m (kvs ++ kvs') (kds ++ kds') := by
  induction r with
  | nil => exact r'
  | cons h _ ih => exact .cons h ih
theorem RepK.mp {kvs : List (Key × V)} {kds : List (Key × D)} (r : RepK K H m kvs kds) (k : Key) {v : V} {d : D} (rv : Rep K H m v d) : RepK K H m (kvs.map fun p => if p.1 = k then (p.1, v) else p) (kds.map fun p => if p.1 = k then (p.1, d) else p) := by
  induction r with
  | nil => exact .nil
  | @cons a b _ _ h _ ih =>
    refine .cons ?_ ih
    obtain ⟨h1, h2⟩ := h
    by_cases e : b.1 = k
    · simp only [h1, e, if_true]
      exact ⟨trivial, rv⟩
    · simp only [h1, e, if_false]
      exact ⟨trivial, h2⟩
theorem RepK.put {kvs : List (Key × V)} {kds : List (Key × D)} (r : RepK K H m kvs kds) (k : Key) {v : V} {d : D} (rv : Rep K H m v d) : RepK K H m (putK kvs k v) (putD kds k d) := by
  unfold putK putD
  rw [r.any k]
  split
  · exact r.mp k rv
  · exact r.app (.cons ⟨rfl, rv⟩ .nil)
theorem HR.dct (h : HR K H m) {a : Addr} {kds : List (Key × D)} (e : m a = some (.dct kds)) : ∃ kvs, H a = some (.dK kvs) ∧ RepK K H m kvs kds := by
  obtain ⟨o, e1, r⟩ := h a _ e
  cases o with
  | dK kvs => exact ⟨kvs, e1, r⟩
  | _ => exact (r : False).elim
end
def keyD : D → Option Key
  | .int i => some (.inl i)
  | .str x => some (.inr x)
  | _ => none
theorem keyD_v {K : PySem.W.Frag} {H : Hp} {m : Mem} {v : V} {d : D} {k : Key} (r : Rep K H m v d) (h : keyD d = some k) : v = kV k := by
  cases d <;> cases h <;> cases r <;> rfl
def dcIn (j : Nat) (tk tv : TE3) (d : Addr) (ρ : Env3) (Nx : Mem → Prop) : List D → Mem → Prop
  | [], m => Nx m
  | y :: ys, m => tk (ρ.set j (some y)) m fun a m2 => tv (ρ.set j (some y)) m2 fun b m3 => ∃ kds key, keyD a = some key ∧ m3 d = some (.dct kds) ∧ kds.length < 16000 ∧ dcIn j tk tv d ρ Nx ys (put m3 d (.dct (putD kds key b)))
def dcOut (i : Nat) (wj : TI3) (j : Nat) (tk tv : TE3) (d : Addr) (ρ : Env3) (P : DK) : List D → Mem → Prop
  | [], m => P (.ref d) m
  | x :: xs, m => wj ((ρ.set j none).set i (some x)) m fun ys m2 => dcIn j tk tv d ((ρ.set j none).set i (some x)) (dcOut i wj j tk tv d ρ P xs) ys m2
def dc23 (w : TI3) (i : Nat) (wj : TI3) (j : Nat) (tk tv : TE3) : TE3 := fun ρ m P => w ρ m fun ds m1 => ∀ d, m1 d = none → dcOut i wj j tk tv d ρ P ds (put m1 d (.dct []))
/-- a walk's reading at the layer below -/
def cI (K : PySem.W.Frag) (w3 : TI3) : TI := fun σ H R => ∃ ρ m P, Ok K σ H ρ m ∧ w3 ρ m P ∧ ∀ J H1 ds m1, P ds m1 → Step H m H1 m1 → HR K H1 m1 → Wlk K J ds H1 m1 → R J H1
theorem pi_cI {X : Cx} {tg e : Expr} {w3 : TI3} (h : PI3 X tg e w3) : PI X tg e (cI X.K w3) := by
  obtain ⟨t, p, q⟩ := h
  refine ⟨fun pins s σ H R I z => ?_⟩
  obtain ⟨ρ, m, P, o, h3, k⟩ := z
  exact p.run pins s σ H R I (q σ H ρ m P R o h3 k)
section
variable {w wj : TI3} {i j : Nat} {tk tv : TE3}
theorem dc2_el {K : PySem.W.Frag} {wi : TI} (ij : i ≠ j) (qi : ∀ σ H ρ m P R, Ok K σ H ρ m → w ρ m P → (∀ J H1 ds m1, P ds m1 → Step H m H1 m1 → HR K H1 m1 → Wlk K J ds H1 m1 → R J H1) → wi σ H R) :
    EL K (tDc2 wi (gName i) (cI K wj) (gName j) (cE K tk) (cE K tv) [i, j] [j]) (dc23 w i wj j tk tv) := by
  intro σ H ρ m P Q o h k
  refine qi σ H ρ m _ _ o h fun J H1 ds m1 p1 s1 h1 wk => ?_
  intro d hd
  have p2 := p1 d (h1.none hd)
  have sA : Step H1 m1 (upd H1 d (.dK [])) (put m1 d (.dct [])) := step_newM hd
  have hA : HR K (upd H1 d (.dK [])) (put m1 d (.dct [])) := hr_newM h1 hd (show RepK K H1 m1 [] [] from .nil)
  refine ⟨fun a n H2 => ∃ m2, HR K H2 m2 ∧ Step H1 m1 H2 m2 ∧ dcOut i wj j tk tv d ρ P (ds.drop a) m2 ∧ n = ds.length - a ∧ a ≤ ds.length, ⟨ds.length, _, hA, sA, p2, rfl, Nat.zero_le _⟩, ?_⟩
  rintro a n H2 ⟨m2, h2, s2, f2, rfl, ha⟩
  obtain ⟨wstop, wgo⟩ := wk a H2 m2 s2 h2
  by_cases hlt : a < ds.length
  · obtain ⟨go, yl⟩ := wgo ds[a] (List.getElem?_eq_getElem hlt)
    refine .inr ⟨go, fun H5 => ∃ m5, HR K H5 m5 ∧ Step H1 m1 H5 m5 ∧ dcOut i wj j tk tv d ρ P (ds.drop (a + 1)) m5, fun H5 ⟨m5, a5, b5, c5⟩ => ⟨ds.length - (a + 1), by omega, m5, a5, b5, c5, rfl, hlt⟩, fun v H' y => ?_⟩
    obtain ⟨s3, h3, r3⟩ := yl v H' y
    rw [List.drop_eq_getElem_cons hlt] at f2
    have oB : Ok K ((wipe σ [i, j]).set i (some v)) H' ((ρ.set j none).set i (some ds[a])) m2 := by
      have z := (((o.mv (s1.trans (s2.trans s3)) h3).forget j).forget i).set i r3
      rw [List.set_set (a := none)] at z
      exact z
    have eW : (wipe σ [i, j]).set i (some v) = (σ.set j none).set i (some v) := by
      show ((σ.set j none).set i none).set i (some v) = _
      rw [List.set_set]
    refine ⟨?_, ?_⟩
    · rw [eW]
      show (((σ.set j none).set i (some v)).set j none).set i none = (σ.set j none).set i none
      rw [List.set_comm _ _ ij, List.set_set, List.set_set]
    · refine ⟨_, m2, _, oB, f2, fun L H4 ys m4 p4 s4 h4 wk4 => ?_⟩
      have st4 : Step H1 m1 H4 m4 := s2.trans (s3.trans s4)
      refine ⟨fun b n H5 => ∃ m5, HR K H5 m5 ∧ Step H4 m4 H5 m5 ∧ dcIn j tk tv d ((ρ.set j none).set i (some ds[a])) (dcOut i wj j tk tv d ρ P (ds.drop (a + 1))) (ys.drop b) m5 ∧ n = ys.length - b ∧ b ≤ ys.length, ⟨ys.length, m4, h4, Step.refl _ _, p4, rfl, Nat.zero_le _⟩, ?_⟩
      rintro b n H5 ⟨m5, h5, s5, f5, rfl, hb⟩
      obtain ⟨vstop, vgo⟩ := wk4 b H5 m5 s5 h5
      by_cases hlb : b < ys.length
      · obtain ⟨go5, yl5⟩ := vgo ys[b] (List.getElem?_eq_getElem hlb)
        refine .inr ⟨go5, fun H6 => ∃ m6, HR K H6 m6 ∧ Step H4 m4 H6 m6 ∧ dcIn j tk tv d ((ρ.set j none).set i (some ds[a])) (dcOut i wj j tk tv d ρ P (ds.drop (a + 1))) (ys.drop (b + 1)) m6, fun H6 ⟨m6, a6, b6, c6⟩ => ⟨ys.length - (b + 1), by omega, m6, a6, b6, c6, rfl, hlb⟩, fun u H6 z => ?_⟩
        obtain ⟨s6, h6, r6⟩ := yl5 u H6 z
        rw [List.drop_eq_getElem_cons hlb] at f5
        have oC : Ok K (((wipe σ [i, j]).set i (some v)).set j (some u)) H6 (((ρ.set j none).set i (some ds[a])).set j (some ys[b])) m5 := (oB.mv (s4.trans (s5.trans s6)) h6).set j r6
        have eV : (wipe ((wipe σ [i, j]).set i (some v)) [j]).set j (some u) = ((wipe σ [i, j]).set i (some v)).set j (some u) := by
          show (((wipe σ [i, j]).set i (some v)).set j none).set j (some u) = _
          rw [List.set_set]
        refine ⟨?_, ?_⟩
        · rw [eV]
          show (((wipe σ [i, j]).set i (some v)).set j (some u)).set j none = ((wipe σ [i, j]).set i (some v)).set j none
          rw [List.set_set]
        · show cE K tk ((wipe ((wipe σ [i, j]).set i (some v)) [j]).set j (some u)) H6 _
          rw [eV]
          refine ⟨_, m5, _, oC, f5, fun ka H7 kd m7 p7 s7 h7 r7 => ?_⟩
          refine ⟨_, m7, _, oC.mv s7 h7, p7, fun vb H8 vd m8 p8 s8 h8 r8 => ?_⟩
          obtain ⟨kds, key, ek, em, hl, f8⟩ := p8
          obtain ⟨kvs, eH, rk⟩ := h8.dct em
          refine ⟨kvs, key, keyD_v r7 ek, eH, by rw [rk.len, sizeLine_eq]; omega, put m8 d (.dct (putD kds key vd)), ?_, ?_, f8⟩
          · exact hr_set h8 em (show RepK K H8 m8 _ _ from rk.put key r8)
          · exact s5.trans (s6.trans (s7.trans (s8.trans (step_set em))))
      · have e : ys.drop b = [] := List.drop_eq_nil_of_le (by omega)
        rw [e] at f5
        exact .inl ⟨vstop (by omega), m5, h5, st4.trans s5, f5⟩
  · have e : ds.drop a = [] := List.drop_eq_nil_of_le (by omega)
    rw [e] at f2
    exact .inl ⟨wstop (by omega), k _ _ _ _ f2 (s1.trans s2) h2 (.ref d)⟩
theorem sw_dc {ke ve : Expr} {gs : List Comprehension} {scope : Scope} {pos py : Pos} {y : Str} {l : Nat} {env : Env} (hk : env.scope.kind = .function) (hy : env.scope.names.lookup y = some .local) (hl : (py.line == pos.line) = true)
    (ha : (scope.names.any fun (n, k) => n == y && (k == .local || k == .cell)) = false) : swapsWith (.DictComp ke ve gs scope pos) (some (.Name y py)) l env = pure true := by
  have z1 : env.kindOf y = some .local := hy
  have z2 : env.blockKind = .function := by unfold Env.blockKind; rw [hk]; rfl
  unfold swapsWith
  simp only [z2, z1, ha, Expr.pos, hl]
  rfl
theorem s_dc2 {X : Cx} {l : Nat} {y a b : Str} {py pa pb spos po : Pos} {ke ve ia ib : Expr} {sc : Scope} (hc : X.calm = true) (hN : X.N.Nodup) (ij : i ≠ j) (hi : PI3 X (.Name a pa) ia w) (ok : BlkOk X.N X.env.scope sc [(a, i), (b, j)])
    (hj : InB X sc fun Y => PI3 Y (.Name b pb) ib wj) (hk : InB X sc fun Y => PE3 Y ke tk) (hv : InB X sc fun Y => PE3 Y ve tv)
    (hsw : swapsWith (dc2E ke ve (.Name a pa) ia (.Name b pb) ib sc po) (some (.Name y py)) spos.line X.env = pure true) (hy : X.N[l]? = some y := by rfl) (hyl : X.env.scope.names.lookup y = some .local := by rfl)
    (ha : X.N[i]? = some a := by rfl) (hal : (relabel sc X.env).names.lookup a = some .local := by rfl) (hb : X.N[j]? = some b := by rfl) (hbl : (relabel sc X.env).names.lookup b = some .local := by rfl)
    (fa : ∀ x, foldedSetIterable ia X.env x = pure x := by intro _; rfl) (fb : ∀ env x, foldedSetIterable ib env x = pure x := by intro _ _; rfl) :
    PS3 X (.Assign [.Name y py] (.DictComp ke ve [⟨.Name a pa, ia, [], 0⟩, ⟨.Name b pb, ib, [], 0⟩] sc po) spos) (asg3 (dc23 w i wj j tk tv) (name3 l)) := by
  obtain ⟨wi, pi, qi⟩ := hi
  refine ⟨_, ps_setDc2 hc hN hy hyl hsw pi ok (us1 := [j]) (by intro z hz; simp at hz; subst hz; simp) (fun _ _ _ _ _ => pg_name hN ha (.inl hal) (.inr hal)) (wj := cI X.K wj) (fun s H C cl fp => pi_cI (hj s H C cl fp)) (fun _ _ _ _ _ => pg_name hN hb (.inl hbl) (.inr hbl)) (tk := cE X.K tk) (fun s H C cl fp => pe_cE (hk s H C cl fp)) (tv := cE X.K tv) (fun s H C cl fp => pe_cE (hv s H C cl fp)) fa fb, fun σ H ρ m D3 E o h l' => ?_⟩
  refine dc2_el ij qi σ H ρ m _ _ o h fun x H1 d m1 p1 s1 h1 r1 => ?_
  exact l'.nx _ H1 _ m1 p1 s1 ((o.mv s1 h1).set l r1)
end
end D3

set_option Elab.async false
set_option linter.all false
set_option maxRecDepth 100000
set_option maxHeartbeats 4000000
/-! Gx: sorted of a dict, enumerate, comprehensions with two names, [::-1], dicts read, [..] * n. -/
namespace D3
open PySem L2
section
variable {X : Cx} {pos p : Pos} {a b : Expr} {ta tb : TE3}
def kT (z : Str) : Key × D := (.inr z, .bl true)
theorem Reps.strs' {K : PySem.W.Frag} {H : Hp} {m : Mem} : ∀ ks : List Str, Reps K H m (ks.map V.str) (ks.map D.str)
  | [] => .nil
  | k :: ks => .cons (.str k) (Reps.strs' ks)
/-- sorted(d) of a dict with texts for keys -/
def fSortD : F1 := fun x m P => ∃ (d : Addr) (us : List Str), x = .ref d ∧ m d = some (.dct (us.map kT)) ∧ us.length < 64 ∧ ∀ ys : List Str, ys.Perm us → PyProof.Rows.sortedS ys = true → P (.lst (ys.map D.str)) (del m d)
def fSortDM : F1 := fun x m P => ∃ (d : Addr) (us : List Str), x = .ref d ∧ m d = some (.dct (us.map kT)) ∧ us.length < 64 ∧ ∀ (ys : List Str) (p : Addr), ys.Perm us → PyProof.Rows.sortedS ys = true → m p = none → P (.ref p) (put (del m d) p (.lst (ys.map D.str)))
theorem e_sortedD (hg : Gl X "sorted") (hm : X.mg "sorted" = none) (ha : PE3 X a ta) (hc : X.calm = true := by rfl) (he : starEach [a] X.env = (false, eval a X.env) :: starEach [] X.env := by rfl) (hpl : (backTo pos (starEach [] X.env)).any (·.1) = false := by rfl) : PE3 X (.Call (.Name "sorted" p) [a] [] pos) (un3 fSortD ta) :=
  e_b1 (f := fSortD) (call_sortedD hc) (fun x d H m P Q h r f k => by
    obtain ⟨dd, us, rfl, em, hl, f⟩ := f
    cases r
    obtain ⟨kvs, eH, rk⟩ := h.dct em
    refine ⟨dd, kvs, us, rfl, .inl eH, by rw [rk.keys, List.map_map]; rfl, hl, fun ys p hp hs hn => ?_⟩
    exact k _ _ _ _ (f ys hp hs) (step_del.trans (step_new hn)) (hr_new (hr_del h) hn) (.lst (.inl ⟨.inl upd_same, (hr_del h).none hn⟩) (Reps.strs' ys))) hg hm (by decide +kernel) ha (by decide) (by decide) he hpl
theorem e_sortedDM (hg : Gl X "sorted") (hm : X.mg "sorted" = none) (ha : PE3 X a ta) (hc : X.calm = true := by rfl) (he : starEach [a] X.env = (false, eval a X.env) :: starEach [] X.env := by rfl) (hpl : (backTo pos (starEach [] X.env)).any (·.1) = false := by rfl) : PE3 X (.Call (.Name "sorted" p) [a] [] pos) (un3 fSortDM ta) :=
  e_b1 (f := fSortDM) (call_sortedD hc) (fun x d H m P Q h r f k => by
    obtain ⟨dd, us, rfl, em, hl, f⟩ := f
    cases r
    obtain ⟨kvs, eH, rk⟩ := h.dct em
    refine ⟨dd, kvs, us, rfl, .inl eH, by rw [rk.keys, List.map_map]; rfl, hl, fun ys p hp hs hn => ?_⟩
    exact k _ _ _ _ (f ys p hp hs (h.none hn)) (step_del.trans (step_newM hn)) (hr_newM (hr_del h) hn (show Reps _ _ _ _ _ from Reps.strs' ys)) (.ref p)) hg hm (by decide +kernel) ha (by decide) (by decide) he hpl
/-- a tuple of the module -/
def GTup (K : PySem.W.Frag) (mg : Str → Option Value) (x : Str) (d : D) : Prop := ∃ u v, mg x = some u ∧ RelV v u ∧ ∀ H m, Rep K H m v d
theorem e_globT {x : Str} {d : D} (hg : Gl X x) (h : GTup X.K X.mg x d) (hd : (x == ("__debug__" : Str)) = false := by decide) : PE3 X (.Name x pos) (c3 d) := by
  obtain ⟨u, v, h1, h2, h3⟩ := h
  exact e_glob hg h1 h2 h3 hd
theorem gt_num {K : PySem.W.Frag} {mg : Str → Option Value} {x s : Str} {i j : Int} {p q : Addr} {o1 o2 : Option Addr} {n1 n2 : Nat} {s1 s2 : Array (Option Value)} {t1 t2 t3 : Tok} (h : mg x = some (.ref p))
    (l1 : K.lookup p = some ⟨.type "tuple", o1, .seq #[.str s t1, .ref q] n1, s1⟩) (l2 : K.lookup q = some ⟨.type "tuple", o2, .seq #[.int i t2, .int j t3] n2, s2⟩) : GTup K mg x (.tup [.str s, .tup [.int i, .int j]]) :=
  ⟨_, .ref p, h, rfl, fun H m => .tup (xs := [.str s, .ref q]) (.inr ⟨_, _, _, l1, rfl, rfl, by show 2 ≤ sizeLine; decide, .cons ⟨_, rfl⟩ (.cons rfl .nil)⟩) (.cons (.str s) (.cons (.tup (xs := [.int i, .int j]) (.inr ⟨_, _, _, l2, rfl, rfl, by show 2 ≤ sizeLine; decide, .cons ⟨_, rfl⟩ (.cons ⟨_, rfl⟩ .nil)⟩) (.cons (.int i) (.cons (.int j) .nil))) .nil))⟩
/-- enumerate(list) -/
def enumD (ds : List D) : List D := (List.range ds.length).map fun k => D.tup [.int (k : Nat), ds.getD k .non]
def ienum3 (ta : TA3) : TI3 := fun ρ m P => ta ρ m fun xs m1 => match xs with
  | [.lst ds] => P (enumD ds) m1
  | _ => False
theorem enumD_get (ds : List D) (i : Nat) : (enumD ds)[i]? = (ds[i]?).map fun x => D.tup [.int (i : Nat), x] := by
  unfold enumD
  rw [List.getElem?_map]
  by_cases h : i < ds.length
  · rw [List.getElem?_range h, List.getElem?_eq_getElem h]
    simp [List.getD, h]
  · rw [List.getElem?_eq_none (by simpa using h), List.getElem?_eq_none (by simpa using h)]
    rfl
theorem enumD_len (ds : List D) : (enumD ds).length = ds.length := by unfold enumD; rw [List.length_map, List.length_range]
theorem wlk_enum {K : PySem.W.Frag} {H : Hp} {m : Mem} {a : Addr} {xs : List V} {ds : List D} (t : LstAt K H m a xs) (r : Reps K H m xs ds) : Wlk K (Ite K a) (enumD ds) H m := by
  intro i H2 m2 s2 h2
  have t2 := (t.step s2).sq
  have r2 := r.mv s2
  refine ⟨fun hi => ⟨xs, t2, by rw [r.length]; rw [enumD_len] at hi; exact hi⟩, fun d hd => ?_⟩
  rw [enumD_get] at hd
  cases e : ds[i]? with
  | none => rw [e] at hd; cases hd
  | some x =>
    rw [e] at hd
    have hd : D.tup [.int (i : Nat), x] = d := Option.some.inj hd
    subst hd
    obtain ⟨v, hv, rv⟩ := r2.get e
    refine ⟨⟨xs, v, t2, hv⟩, fun z H' y => ?_⟩
    obtain ⟨T, u, ez, hT, eH, hu⟩ := y
    subst ez eH
    have eu : u = v := Option.some.inj ((hu xs t2).symm.trans hv)
    subst eu
    exact ⟨step_new hT, hr_new h2 hT, .tup (.inl ⟨.inl upd_same, h2.none hT⟩) (.cons (.int _) (.cons (rv.mv (step_new hT)) .nil))⟩
theorem i_enum {elts : List Expr} {kk : Nat} {tpos : Pos} {tr : TA3} (hg : Gl X "enumerate") (hm : X.mg "enumerate" = none) (ha : PA3 X [a] tr) (hs : starEach [a] X.env = [(false, eval a X.env)] := by rfl) : PI3 X (.Tuple elts kk tpos) (.Call (.Name "enumerate" p) [a] [] pos) (ienum3 tr) := by
  obtain ⟨_, pp, q⟩ := ha
  refine ⟨_, pi_enum hg hm pp hs, fun σ H ρ m P R o h k => ?_⟩
  refine q σ H ρ m _ _ o h fun vs H1 ds m1 p1 s1 h1 r1 => ?_
  match ds, r1, p1 with
  | [.lst ds], .cons (.lst t r) .nil, p1 => exact ⟨_, _, rfl, t.sq, k _ H1 _ m1 p1 s1 h1 (wlk_enum t r)⟩
/-- xs[::-1] -/
def rev3 (ta : TE3) : TE3 := fun ρ m P => ta ρ m fun x m1 => match x with
  | .lst ds => P (.lst ds.reverse) m1
  | _ => False
theorem Reps.rev {K : PySem.W.Frag} {H : Hp} {m : Mem} : ∀ {vs : List V} {ds : List D}, Reps K H m vs ds → Reps K H m vs.reverse ds.reverse
  | _, _, .nil => .nil
  | _, _, .cons r t => by rw [List.reverse_cons, List.reverse_cons]; exact (Reps.rev t).append (.cons r .nil)
theorem e_rev {k : Nat} {p1 p2 p3 : Pos} (ha : PE3 X a ta) : PE3 X (.Subscript a (.Slice none none (some (.UnaryOp .USub (.Constant (.int 1) k p1) p2)) p3) pos) (rev3 ta) := by
  obtain ⟨_, pp, q⟩ := ha
  refine ⟨_, pe_revL pp, fun σ H ρ m P Q o h k => ?_⟩
  refine q σ H ρ m _ _ o h fun x H1 d m1 p1 s1 h1 r1 => ?_
  cases d with
  | lst ds =>
    cases r1 with
    | lst t r =>
      refine ⟨_, _, rfl, t.sq, fun p hp => ?_⟩
      exact k _ _ _ _ p1 (s1.trans (step_new hp)) (hr_new h1 hp) (.lst (.inl ⟨.inl upd_same, h1.none hp⟩) (r.rev.mv (step_new hp)))
  | _ => exact (p1 : False).elim
/-- d[k] of a dict that has it -/
def dget3 (ta tb : TE3) : TE3 := fun ρ m P => ta ρ m fun x m1 => tb ρ m1 fun y m2 => ∃ (d : Addr) (kds : List (Key × D)) (k : Key) (v : D), x = .ref d ∧ keyD y = some k ∧ m2 d = some (.dct kds) ∧ (kds.find? fun q => decide (q.1 = k)) = some (k, v) ∧ P v m2
theorem RepK.find {K : PySem.W.Frag} {H : Hp} {m : Mem} {kvs : List (Key × V)} {kds : List (Key × D)} (r : RepK K H m kvs kds) {k : Key} {v : D} (h : (kds.find? fun q => decide (q.1 = k)) = some (k, v)) : ∃ u, valV kvs k = some u ∧ Rep K H m u v := by
  induction r with
  | nil => cases h
  | @cons x y _ _ hxy _ ih =>
    by_cases e : y.1 = k
    · rw [List.find?_cons_of_pos (by simpa using e)] at h
      cases h
      exact ⟨x.2, valV_pos hxy.1, hxy.2⟩
    · rw [List.find?_cons_of_neg (by simpa using e)] at h
      obtain ⟨u, h1, h2⟩ := ih h
      exact ⟨u, by rw [valV_neg (by rw [hxy.1]; exact e)]; exact h1, h2⟩
theorem e_dget {k : Nat} (hr : Room k X.A) (ha : PE3 X a ta) (hb : PE3 X b tb) (hs : NoSl b := by intro _ _; rfl) : PE3 X (.Subscript a b pos) (dget3 ta tb) := by
  obtain ⟨_, p1, q1⟩ := ha
  obtain ⟨_, p2, q2⟩ := hb
  refine ⟨_, pe_dget (by have := hr.un; omega) p1 p2 hs, fun σ H ρ m P Q o h k => ?_⟩
  refine q1 σ H ρ m _ _ o h fun x H1 d m1 z1 s1 h1 r1 => ?_
  refine q2 σ H1 ρ m1 _ _ (o.mv s1 h1) z1 fun y H2 e m2 z2 s2 h2 r2 => ?_
  obtain ⟨dd, kds, key, v, rfl, ek, em, ef, z3⟩ := z2
  cases r1
  obtain ⟨kvs, eH, rk⟩ := h2.dct em
  obtain ⟨u, hu, ru⟩ := rk.find ef
  refine ⟨dd, u, rfl, ?_, k _ _ _ _ z3 (s1.trans s2) h2 ru⟩
  rw [keyD_v r2 ek, ← hu]
  exact .k eH
/-- [x, ..] * n, to be changed, or not -/
def litRepM3 (tr : TA3) (tb : TE3) : TE3 := fun ρ m P => tr ρ m fun xs m1 => xs.length ≤ 16000 ∧ tb ρ m1 fun y m2 => match y with
  | .int k => 0 ≤ k ∧ k ≤ 16000 ∧ xs.length * k.toNat ≤ 16000 ∧ ∀ p, m2 p = none → P (.ref p) (put m2 p (.lst (List.replicate k.toNat xs).flatten))
  | _ => False
def litRep3 (tr : TA3) (tb : TE3) : TE3 := fun ρ m P => tr ρ m fun xs m1 => xs.length ≤ 16000 ∧ tb ρ m1 fun y m2 => match y with
  | .int k => 0 ≤ k ∧ k ≤ 16000 ∧ xs.length * k.toNat ≤ 16000 ∧ P (.lst (List.replicate k.toNat xs).flatten) m2
  | _ => False
theorem e_litRepM {es : List Expr} {lp : Pos} {tr : TA3} (ha : PA3 X es tr) (hb : PE3 X b tb) : PE3 X (.BinOp (.List es lp) .Mult b pos) (litRepM3 tr tb) := by
  obtain ⟨_, p1, q1⟩ := ha
  obtain ⟨_, p2, q2⟩ := hb
  refine ⟨_, pe_op op_rep (pe_lst p1) p2, fun σ H ρ m P Q o h k => ?_⟩
  refine q1 σ H ρ m _ _ o h fun xs H1 ds m1 z1 s1 h1 r1 => ⟨by rw [r1.length]; exact Short.line z1.1, fun l hl => ?_⟩
  have ml := h1.none hl
  have s2 := s1.trans (step_new (m := m1) (o := .lst xs) hl)
  refine q2 σ _ ρ m1 _ _ (o.mv s2 (hr_new h1 hl)) z1.2 fun y H2 e m2 z2 s3 h2 r2 => ?_
  cases e with
  | int n =>
    cases r2
    obtain ⟨n0, n1, hn, z3⟩ := z2
    have el := (s3 l _ upd_same ml).1
    refine ⟨l, n, xs, rfl, rfl, el, by omega, by omega, by rw [r1.length, sizeLine_eq]; omega, fun p hp => ?_⟩
    exact k _ _ _ _ (z3 p (h2.none hp)) ((s2.trans s3).trans (step_newM hp)) (hr_newM h2 hp (show Reps _ _ _ _ _ from ((r1.mv (step_new hl)).mv s3).rep _)) (.ref p)
  | _ => exact (z2 : False).elim
theorem e_litRep {es : List Expr} {lp : Pos} {tr : TA3} (ha : PA3 X es tr) (hb : PE3 X b tb) : PE3 X (.BinOp (.List es lp) .Mult b pos) (litRep3 tr tb) := by
  obtain ⟨_, p1, q1⟩ := ha
  obtain ⟨_, p2, q2⟩ := hb
  refine ⟨_, pe_op op_rep (pe_lst p1) p2, fun σ H ρ m P Q o h k => ?_⟩
  refine q1 σ H ρ m _ _ o h fun xs H1 ds m1 z1 s1 h1 r1 => ⟨by rw [r1.length]; exact Short.line z1.1, fun l hl => ?_⟩
  have ml := h1.none hl
  have s2 := s1.trans (step_new (m := m1) (o := .lst xs) hl)
  refine q2 σ _ ρ m1 _ _ (o.mv s2 (hr_new h1 hl)) z1.2 fun y H2 e m2 z2 s3 h2 r2 => ?_
  cases e with
  | int n =>
    cases r2
    obtain ⟨n0, n1, hn, z3⟩ := z2
    have el := (s3 l _ upd_same ml).1
    refine ⟨l, n, xs, rfl, rfl, el, by omega, by omega, by rw [r1.length, sizeLine_eq]; omega, fun p hp => ?_⟩
    exact k _ _ _ _ z3 ((s2.trans s3).trans (step_new hp)) (hr_new h2 hp) (.lst (.inl ⟨.inl upd_same, h2.none hp⟩) ((((r1.mv (step_new hl)).mv s3).rep _).mv (step_new hp)))
  | _ => exact (z2 : False).elim
end
end D3

set_option Elab.async false
set_option linter.all false
set_option maxRecDepth 100000
set_option maxHeartbeats 4000000
/-! Gy: comprehensions with two names, {k: v}. -/
namespace D3
open PySem L2
def lcGoT (i j : Nat) (tt : TT3) (te : TE3) (L : Addr) (ρ : Env3) (P : DK) : List D → Mem → Prop
  | [], m => ∃ acc, m L = some (.lst acc) ∧ P (.lst acc) (del m L)
  | x :: xs, m => ∃ a b acc, x = .tup [a, b] ∧ m L = some (.lst acc) ∧ tt ((ρ.set i (some a)).set j (some b)) m fun c m3 => m3 L = some (.lst acc) ∧
      if c = true then te ((ρ.set i (some a)).set j (some b)) m3 fun y m4 => m4 L = some (.lst acc) ∧ acc.length < 16000 ∧ lcGoT i j tt te L ρ P xs (put m4 L (.lst (acc ++ [y]))) else lcGoT i j tt te L ρ P xs m3
def lcT3 (w : TI3) (i j : Nat) (tt : TT3) (te : TE3) : TE3 := fun ρ m P => w ρ m fun ds m1 => ∀ L, m1 L = none → lcGoT i j tt te L ρ P ds (put m1 L (.lst []))
abbrev gT2 (K : PySem.W.Frag) (i j : Nat) : TG := gTup K 2 (gCons (gName i) (gCons (gName j) gNil))
section
variable {w : TI3} {i j : Nat} {tt : TT3} {te : TE3}
theorem lcT_el {K : PySem.W.Frag} {wi : TI} {tT : TT} (ij : i ≠ j) (qi : ∀ σ H ρ m P R, Ok K σ H ρ m → w ρ m P → (∀ J H1 ds m1, P ds m1 → Step H m H1 m1 → HR K H1 m1 → Wlk K J ds H1 m1 → R J H1) → wi σ H R) (htt : TL K tT tt) :
    EL K (tLc wi (gT2 K i j) tT (cE K te) [i, j]) (lcT3 w i j tt te) := by
  intro σ H ρ m P Q o h k
  refine qi σ H ρ m _ _ o h fun J H1 ds m1 p1 s1 h1 wk => ?_
  intro L hL
  have p2 := p1 L (h1.none hL)
  have sA : Step H1 m1 (upd H1 L (.lst [])) (put m1 L (.lst [])) := step_newM hL
  have hA : HR K (upd H1 L (.lst [])) (put m1 L (.lst [])) := hr_newM h1 hL (show Reps _ _ _ [] [] from .nil)
  refine ⟨fun a n H2 => ∃ m2, HR K H2 m2 ∧ Step H1 m1 H2 m2 ∧ lcGoT i j tt te L ρ P (ds.drop a) m2 ∧ n = ds.length - a ∧ a ≤ ds.length, ⟨ds.length, _, hA, sA, p2, rfl, Nat.zero_le _⟩, ?_⟩
  rintro a n H2 ⟨m2, h2, s2, f2, rfl, ha⟩
  obtain ⟨wstop, wgo⟩ := wk a H2 m2 s2 h2
  by_cases hlt : a < ds.length
  · obtain ⟨go, yl⟩ := wgo ds[a] (List.getElem?_eq_getElem hlt)
    refine .inr ⟨go, fun H5 => ∃ m5, HR K H5 m5 ∧ Step H1 m1 H5 m5 ∧ lcGoT i j tt te L ρ P (ds.drop (a + 1)) m5, fun H5 ⟨m5, a5, b5, c5⟩ => ⟨ds.length - (a + 1), by omega, m5, a5, b5, c5, rfl, hlt⟩, fun v H' y => ?_⟩
    obtain ⟨s3, h3, r3⟩ := yl v H' y
    rw [List.drop_eq_getElem_cons hlt] at f2
    obtain ⟨da, db, acc, ed, eL, f3⟩ := f2
    rw [ed] at r3
    cases r3 with
    | tup tt' rr =>
      cases rr with
      | cons ra rr =>
        cases rr with
        | cons rb rr =>
          cases rr
          rename_i ad va vb
          have oB : Ok K (((wipe σ [i, j]).set i (some va)).set j (some vb)) H' ((ρ.set i (some da)).set j (some db)) m2 := by
            have z := ((((o.mv (s1.trans (s2.trans s3)) h3).forget j).forget i).set i ra).set j rb
            rw [List.set_set, List.set_comm _ _ ij.symm, List.set_set] at z
            exact z
          refine ⟨_, _, rfl, tt'.sq, rfl, va, _, rfl, vb, _, rfl, rfl, ?_, ?_⟩
          · show (((((σ.set j none).set i none).set i (some va)).set j (some vb)).set j none).set i none = (σ.set j none).set i none
            rw [List.set_set, List.set_set, List.set_comm _ _ ij, List.set_set, List.set_set]
          · refine htt _ H' _ m2 _ _ oB f3 fun c H3 m3 p3 s4 h4 => ?_
            obtain ⟨eL3, p3⟩ := p3
            have st3 : Step H1 m1 H3 m3 := s2.trans (s3.trans s4)
            cases c with
            | false => exact ⟨m3, h4, st3, p3⟩
            | true =>
              rw [if_pos rfl] at p3 ⊢
              refine ⟨_, m3, _, oB.mv s4 h4, p3, fun y H4 d m4 p4 s5 h5 r5 => ?_⟩
              obtain ⟨eL4, hlen, p4⟩ := p4
              obtain ⟨xs, e1, rx⟩ := h5.lst eL4
              refine ⟨xs, e1, by rw [rx.length, sizeLine_eq]; omega, put m4 L (.lst (acc ++ [d])), ?_, ?_, p4⟩
              · exact hr_set h5 eL4 (show Reps _ _ _ (xs ++ [y]) (acc ++ [d]) from rx.append (.cons r5 .nil))
              · exact st3.trans (s5.trans (step_set eL4))
  · have e : ds.drop a = [] := List.drop_eq_nil_of_le (by omega)
    rw [e] at f2
    obtain ⟨acc, eL, f3⟩ := f2
    obtain ⟨xs, e1, rr⟩ := h2.lst eL
    refine .inl ⟨wstop (by omega), k _ _ _ _ f3 (s1.trans (s2.trans step_del)) (hr_del h2) (.lst (.inl ⟨.inl e1, ?_⟩) (rr.mv step_del))⟩
    unfold del
    rw [if_pos rfl]
variable {X : Cx} {pos : Pos} {elt iter : Expr} {sc : Scope} {x y : Str} {px py tp : Pos} {kk : Nat}
theorem e_lcT (hc : X.calm = true) (hN : X.N.Nodup) (ij : i ≠ j) (hi : PI3 X (.Tuple [.Name x px, .Name y py] kk tp) iter w) (ok : BlkOk X.N X.env.scope sc [(x, i), (y, j)]) (he : InB X sc fun Y => PE3 Y elt te)
    (hx : X.N[i]? = some x := by rfl) (hxl : (relabel sc X.env).names.lookup x = some .local := by rfl) (hy : X.N[j]? = some y := by rfl) (hyl : (relabel sc X.env).names.lookup y = some .local := by rfl) (hs : ∀ z, foldedSetIterable iter X.env z = pure z := by intro _; rfl) :
    PE3 X (.ListComp elt [⟨.Tuple [.Name x px, .Name y py] kk tp, iter, [], 0⟩] sc pos) (lcT3 w i j yes3 te) := by
  obtain ⟨wi, pi, qi⟩ := hi
  exact ⟨_, pe_lc hc hN pi ok (fun s H C cl fp => pg_tup (X := X.blk s H sc (compEnvC sc cl C X.env) fp) hc (pgs_cons (pg_name hN hx (.inl hxl) (.inr hxl)) (pgs_cons (pg_name hN hy (.inl hyl) (.inr hyl)) pgs_nil))) (fun _ _ _ _ _ => pts_nil) (te := cE X.K te) (fun s H C cl fp => pe_cE (he s H C cl fp)) hs, lcT_el ij qi (fun σ H ρ m P Q o h k => k true H m h (Step.refl _ _) o.hr)⟩
theorem e_lcTIf {c : Expr} (hc : X.calm = true) (hN : X.N.Nodup) (ij : i ≠ j) (hi : PI3 X (.Tuple [.Name x px, .Name y py] kk tp) iter w) (ok : BlkOk X.N X.env.scope sc [(x, i), (y, j)]) (ht : InB X sc fun Y => PT3 Y c tt) (he : InB X sc fun Y => PE3 Y elt te)
    (hx : X.N[i]? = some x := by rfl) (hxl : (relabel sc X.env).names.lookup x = some .local := by rfl) (hy : X.N[j]? = some y := by rfl) (hyl : (relabel sc X.env).names.lookup y = some .local := by rfl) (hs : ∀ z, foldedSetIterable iter X.env z = pure z := by intro _; rfl) :
    PE3 X (.ListComp elt [⟨.Tuple [.Name x px, .Name y py] kk tp, iter, [c], 0⟩] sc pos) (lcT3 w i j tt te) := by
  obtain ⟨wi, pi, qi⟩ := hi
  exact ⟨_, pe_lc hc hN pi ok (fun s H C cl fp => pg_tup (X := X.blk s H sc (compEnvC sc cl C X.env) fp) hc (pgs_cons (pg_name hN hx (.inl hxl) (.inr hxl)) (pgs_cons (pg_name hN hy (.inl hyl) (.inr hyl)) pgs_nil))) (tt := cT X.K tt) (fun s H C cl fp => pts_one (pt_cT (ht s H C cl fp))) (te := cE X.K te) (fun s H C cl fp => pe_cE (he s H C cl fp)) hs, lcT_el ij qi (fun σ H ρ m P Q o h k => ⟨ρ, m, P, o, h, k⟩)⟩
/-- {k: v} -/
def disp3 (tk tv : TE3) : TE3 := fun ρ m P => ∀ p, m p = none → tk ρ (put m p (.dct [])) fun a m1 => tv ρ m1 fun b m2 => ∃ key, keyD a = some key ∧ m2 p = some (.dct []) ∧ P (.ref p) (put m2 p (.dct [(key, b)]))
theorem e_disp {a b : Expr} {tk tv : TE3} (ha : PE3 X a tk) (hb : PE3 X b tv) : PE3 X (.Dict [some a] [b] pos) (disp3 tk tv) := by
  obtain ⟨_, p1, q1⟩ := ha
  obtain ⟨_, p2, q2⟩ := hb
  refine ⟨_, pe_disp (pps_cons p1 p2 pps_nil) rfl rfl (by simp) (by simp), fun σ H ρ m P Q o h k => ?_⟩
  intro p hp
  have z := h p (o.hr.none hp)
  have s0 : Step H m (upd H p (.dK [])) (put m p (.dct [])) := step_newM hp
  have h0 : HR X.K (upd H p (.dK [])) (put m p (.dct [])) := hr_newM o.hr hp (show RepK X.K H m [] [] from .nil)
  refine q1 σ _ ρ _ _ _ (o.mv s0 h0) z fun ka H1 kd m1 z1 s1 h1 r1 => ?_
  refine q2 σ H1 ρ m1 _ _ (o.mv (s0.trans s1) h1) z1 fun vb H2 vd m2 z2 s2 h2 r2 => ?_
  obtain ⟨key, ek, em, z3⟩ := z2
  obtain ⟨kvs, eH, rk⟩ := h2.dct em
  cases rk
  have ekv := keyD_v (r1.mv s2) ek
  subst ekv
  refine ⟨eH, [(key, vb)], rfl, by simp, ?_⟩
  exact k _ _ _ _ z3 ((s0.trans s1).trans (s2.trans (step_set em))) (hr_set h2 em (show RepK X.K H2 m2 _ [(key, vd)] from .cons ⟨rfl, r2⟩ .nil)) (.ref p)
end
/-- a text more -/
def insU (us : List Str) (z : Str) : List Str := if z ∈ us then us else us ++ [z]
theorem apply_ite_self {c : Prop} [Decidable c] {α : Type} (a b : α) (h : a = b := by rfl) : (if c then a else b) = b := by subst h; split <;> rfl
theorem putD_T (us : List Str) (z : Str) : putD (us.map kT) (.inr z) (.bl true) = (insU us z).map kT := by
  have e : ((us.map kT).any fun p => decide (p.1 = Sum.inr z)) = decide (z ∈ us) := by
    induction us with
    | nil => rfl
    | cons u us ih =>
      rw [List.map_cons, List.any_cons, ih]
      by_cases h : u = z
      · subst h; simp [kT]
      · have h2 : ¬ z = u := fun x => h x.symm
        simp [kT, h, h2]
  unfold putD insU
  rw [e]
  by_cases h : z ∈ us
  · rw [if_pos (by simpa using h), if_pos h, List.map_map]
    refine List.map_congr_left fun u _ => ?_
    show (if (kT u).1 = Sum.inr z then ((kT u).1, D.bl true) else kT u) = kT u
    exact apply_ite_self _ _
  · rw [if_neg (by simpa using h), if_neg h, List.map_append]
    rfl
theorem insU_mem {us : List Str} {z y : Str} : y ∈ insU us z ↔ y ∈ us ∨ y = z := by
  unfold insU
  split
  · rename_i h
    exact ⟨.inl, fun h2 => h2.elim id fun e => e ▸ h⟩
  · rw [List.mem_append, List.mem_singleton]
theorem insU_nd {us : List Str} {z : Str} (h : us.Nodup) : (insU us z).Nodup := by
  unfold insU
  split
  · exact h
  · rename_i hz
    rw [List.nodup_append]
    exact ⟨h, by simp, fun a ha b hb => by simp at hb; subst hb; exact fun e => hz (e ▸ ha)⟩
theorem insU_len {us : List Str} {z : Str} : (insU us z).length ≤ us.length + 1 := by
  unfold insU
  split
  · omega
  · simp
theorem dcIn_str {j : Nat} {d : Addr} {ρ : Env3} {Nx : Mem → Prop} (hj : j < ρ.length) : ∀ (ys us : List Str) (m : Mem), m d = some (.dct (us.map kT)) → us.Nodup → us.length + ys.length ≤ 15000 →
    (∀ us' : List Str, us'.Nodup → us'.length ≤ us.length + ys.length → (∀ z, z ∈ us' ↔ z ∈ us ∨ z ∈ ys) → Nx (put m d (.dct (us'.map kT)))) → dcIn j (v3 j) (c3 (.bl true)) d ρ Nx (ys.map D.str) m
  | [], us, m, em, hn, hl, k => by
    have := k us hn (by simp) (by simp)
    rw [put_self em] at this
    exact this
  | y :: ys, us, m, em, hn, hl, k => by
    show v3 j (ρ.set j (some (.str y))) m _
    unfold v3
    rw [List.getElem?_set_self hj]
    refine ⟨us.map kT, .inr y, rfl, em, by simp at hl ⊢; omega, ?_⟩
    rw [putD_T]
    have := insU_len (us := us) (z := y)
    refine dcIn_str hj ys (insU us y) _ put_same (insU_nd hn) (by simp at hl; omega) fun us' h1 h2 h3 => ?_
    rw [put_put]
    refine k us' h1 (by simp only [List.length_cons]; omega) fun z => ?_
    rw [h3, insU_mem, List.mem_cons]
    constructor
    · rintro ((h | h) | h)
      · exact .inl h
      · exact .inr (.inl h)
      · exact .inr (.inr h)
    · rintro (h | h | h)
      · exact .inl (.inl h)
      · exact .inl (.inr h)
      · exact .inr h
theorem dcOut_str {α : Type} (f : α → D) {i j : Nat} {wj : TI3} {d : Addr} {ρ : Env3} {P : DK} {F : α → Str → Prop} {B : Nat} (hj : j < ρ.length) : ∀ (xs : List α) (us : List Str) (m : Mem), m d = some (.dct (us.map kT)) → us.Nodup → us.length + xs.length * B ≤ 15000 →
    (∀ x ∈ xs, ∀ (m' : Mem) (Q : List D → Mem → Prop), (∀ q, q ≠ d → m' q = m q) → (∀ ys : List Str, ys.length ≤ B → (∀ z, z ∈ ys ↔ F x z) → Q (ys.map D.str) m') → wj ((ρ.set j none).set i (some (f x))) m' Q) →
    (∀ us' : List Str, us'.Nodup → us'.length ≤ us.length + xs.length * B → (∀ z, z ∈ us' ↔ z ∈ us ∨ ∃ x ∈ xs, F x z) → P (.ref d) (put m d (.dct (us'.map kT)))) → dcOut i wj j (v3 j) (c3 (.bl true)) d ρ P (xs.map f) m
  | [], us, m, em, hn, hl, hw, k => by
    have := k us hn (by simp) (by simp)
    rw [put_self em] at this
    exact this
  | x :: xs, us, m, em, hn, hl, hw, k => by
    rw [List.length_cons, Nat.add_mul, Nat.one_mul] at hl
    refine hw x List.mem_cons_self m _ (fun _ _ => rfl) fun ys hy hF => ?_
    refine dcIn_str (by rw [List.length_set, List.length_set]; exact hj) ys us m em hn (by omega) fun us1 n1 l1 h1 => ?_
    refine dcOut_str f (F := F) (B := B) hj xs us1 _ put_same n1 (by omega) (fun x' hx' m' Q ho => hw x' (List.mem_cons_of_mem _ hx') m' Q fun q hq => by rw [ho q hq, put_ne hq]) fun us2 n2 l2 h2 => ?_
    rw [put_put]
    refine k us2 n2 (by rw [List.length_cons, Nat.add_mul, Nat.one_mul]; omega) fun z => ?_
    rw [h2, h1, hF]
    constructor
    · rintro ((h | h) | ⟨x', hx', h⟩)
      · exact .inl h
      · exact .inr ⟨x, List.mem_cons_self, h⟩
      · exact .inr ⟨x', List.mem_cons_of_mem _ hx', h⟩
    · rintro (h | ⟨x', hx', h⟩)
      · exact .inl (.inl h)
      · rcases List.mem_cons.mp hx' with rfl | hx'
        · exact .inl (.inr h)
        · exact .inr ⟨x', hx', h⟩
/-- a comprehension over pairs, by what is made of each -/
theorem lcGoT_map {α : Type} {i j : Nat} {te : TE3} {L : Addr} {ρ : Env3} {P : DK} (u v g : α → D) : ∀ (xs : List α) (acc : List D) (m : Mem), m L = some (.lst acc) → acc.length + xs.length ≤ 16000 →
    (∀ x ∈ xs, ∀ (m' : Mem) (Q : DK), (∀ q, q ≠ L → m' q = m q) → Q (g x) m' → te ((ρ.set i (some (u x))).set j (some (v x))) m' Q) → P (.lst (acc ++ xs.map g)) (del m L) → lcGoT i j yes3 te L ρ P (xs.map fun x => .tup [u x, v x]) m
  | [], acc, m, e, hl, hs, q => ⟨acc, e, by rw [List.map_nil, List.append_nil] at q; exact q⟩
  | x :: xs, acc, m, e, hl, hs, q => ⟨u x, v x, acc, rfl, e, e, by
    rw [if_pos rfl]
    refine hs x List.mem_cons_self m _ (fun _ _ => rfl) ⟨e, by simp at hl; omega, ?_⟩
    refine lcGoT_map u v g xs (acc ++ [g x]) _ put_same (by simp at hl ⊢; omega) (fun x' hx' m' Q ho => hs x' (List.mem_cons_of_mem _ hx') m' Q fun q hq => by rw [ho q hq, put_ne hq]) ?_
    rw [del_put, List.append_assoc]
    exact q⟩
theorem lcGoT_fil {α : Type} {i j : Nat} {tt : TT3} {te : TE3} {L : Addr} {ρ : Env3} {P : DK} (u v g : α → D) (b : α → Bool) : ∀ (xs : List α) (acc : List D) (m : Mem), m L = some (.lst acc) → acc.length + xs.length ≤ 16000 →
    (∀ x ∈ xs, ∀ (m' : Mem) (Kt : Bool → Mem → Prop), Kt (b x) m' → tt ((ρ.set i (some (u x))).set j (some (v x))) m' Kt) → (∀ x ∈ xs, b x = true → ∀ (m' : Mem) (Q : DK), Q (g x) m' → te ((ρ.set i (some (u x))).set j (some (v x))) m' Q) →
    P (.lst (acc ++ (xs.filter b).map g)) (del m L) → lcGoT i j tt te L ρ P (xs.map fun x => .tup [u x, v x]) m
  | [], acc, m, e, hl, ht, hs, q => ⟨acc, e, by simpa using q⟩
  | x :: xs, acc, m, e, hl, ht, hs, q => ⟨u x, v x, acc, rfl, e, ht x List.mem_cons_self m _ ⟨e, by
    rw [List.length_cons] at hl
    cases hb : b x with
    | true =>
      rw [if_pos rfl]
      refine hs x List.mem_cons_self hb m _ ⟨e, by omega, ?_⟩
      refine lcGoT_fil u v g b xs (acc ++ [g x]) _ put_same (by simp; omega) (fun y hy => ht y (List.mem_cons_of_mem _ hy)) (fun y hy => hs y (List.mem_cons_of_mem _ hy)) ?_
      rw [List.filter_cons_of_pos hb, List.map_cons] at q
      rw [del_put, List.append_assoc]
      exact q
    | false =>
      rw [if_neg Bool.false_ne_true]; rw [List.filter_cons_of_neg (by rw [hb]; exact Bool.false_ne_true)] at q
      exact lcGoT_fil u v g b xs acc m e (by omega) (fun y hy => ht y (List.mem_cons_of_mem _ hy)) (fun y hy => hs y (List.mem_cons_of_mem _ hy)) q⟩⟩
end D3

set_option Elab.async false
set_option linter.all false
set_option maxRecDepth 100000
set_option maxHeartbeats 4000000
/-! Gz: a dict walked in a comprehension, sorted lists of texts, a def's new list as one that stays. -/
namespace D3
open PySem L2
/-- what is read as a list or a tuple stands -/
def Stp (H : Hp) (m : Mem) (H' : Hp) (m' : Mem) : Prop := ∀ a u, (∃ xs : List V, u = .tup xs ∨ u = .lst xs) → RdS H m a u → RdS H' m' a u
mutual
theorem Rep.stp {K : PySem.W.Frag} {H H' : Hp} {m m' : Mem} (s : Stp H m H' m') : ∀ (d : D) (v : V), Rep K H m v d → Rep K H' m' v d
  | .non, _, h => by cases h; exact .non
  | .bl b, _, h => by cases h; exact .bl b
  | .int i, _, h => by cases h; exact .int i
  | .str x, _, h => by cases h; exact .str x
  | .ref a, _, h => by cases h; exact .ref a
  | .ty n, _, h => by cases h; exact .ty n
  | .tup ds, _, h => by
    cases h with
    | tup t r => exact .tup (t.imp (s _ _ ⟨_, .inl rfl⟩) id) (Reps.stp s ds _ r)
  | .lst ds, _, h => by
    cases h with
    | lst t r => exact .lst (t.imp (s _ _ ⟨_, .inr rfl⟩) id) (Reps.stp s ds _ r)
theorem Reps.stp {K : PySem.W.Frag} {H H' : Hp} {m m' : Mem} (s : Stp H m H' m') : ∀ (ds : List D) (vs : List V), Reps K H m vs ds → Reps K H' m' vs ds
  | [], _, h => by cases h; exact .nil
  | d :: ds, _, h => by
    cases h with
    | cons r rr => exact .cons (Rep.stp s d _ r) (Reps.stp s ds _ rr)
end
theorem RepK.stp {K : PySem.W.Frag} {H H' : Hp} {m m' : Mem} {κ : Type} (s : Stp H m H' m') : ∀ {a : List (κ × V)} {b : List (κ × D)}, RepK K H m a b → RepK K H' m' a b
  | _, _, .nil => .nil
  | _, _, .cons r t => .cons ⟨r.1, Rep.stp s _ _ r.2⟩ (RepK.stp s t)
theorem RepO.stp {K : PySem.W.Frag} {H H' : Hp} {m m' : Mem} {o : HO} {u : MO} (s : Stp H m H' m') (h : RepO K H m o u) : RepO K H' m' o u := by
  cases o <;> cases u <;> first
    | exact Reps.stp s _ _ h
    | exact RepK.stp s h
    | exact ⟨h.1, h.2.1, RepK.stp s h.2.2⟩
    | exact (h : False).elim
section
variable {K : PySem.W.Frag} {w : TI3} {i : Nat} {tt : TT3} {te : TE3}
/-- a comprehension's reading, its walk told here and now -/
theorem lc_at {wi : TI} {tT : TT} {σ : L2.St} {H : Hp} {ρ : Env3} {m : Mem} {P : DK} {Q : VK} {ds : List D} (o : Ok K σ H ρ m) (qi : ∀ R : It → Hp → Prop, (∀ J, Wlk K J ds H m → R J H) → wi σ H R) (htt : TL K tT tt)
    (h : ∀ L, m L = none → lcGo i tt te L ρ P ds (put m L (.lst []))) (k : EK K H m P Q) : tLc wi (gName i) tT (cE K te) [i] σ H Q := by
  have e := lc_el (K := K) (w := fun ρ' m' P' => ρ' = ρ ∧ m' = m ∧ P' ds m) (i := i) (tt := tt) (te := te) (tT := tT) (wi := fun σ' H' R => σ' = σ ∧ H' = H → wi σ H R) ?_ htt
  · have z := e σ H ρ m P Q o ⟨rfl, rfl, h⟩ k
    exact z ⟨rfl, rfl⟩
  · rintro σ' H' ρ' m' P' R o' ⟨rfl, rfl, hp⟩ kk ⟨rfl, rfl⟩
    exact qi R fun J wk => kk J _ ds _ hp (Step.refl _ _) o'.hr wk
theorem wlk_keys {H : Hp} {m : Mem} {d : Addr} {od : Obj} {kvs : List (Key × V)} {us : List Str} (hd : H d = some (.frz od (.dK kvs))) (hm : m d = none) (hk : kvs.map (·.1) = us.map Sum.inr) : Wlk K (Itk d od kvs) (us.map D.str) H m := by
  have hl : kvs.length = us.length := by have := congrArg List.length hk; simpa using this
  intro j H2 m2 s2 h2
  have hd2 := (s2 d _ hd hm).1
  refine ⟨fun hj => ⟨hd2, by rw [hl]; simpa using hj⟩, fun x hx => ?_⟩
  rw [List.getElem?_map] at hx
  cases e : us[j]? with
  | none => rw [e] at hx; cases hx
  | some u =>
    rw [e] at hx
    have hx : D.str u = x := Option.some.inj hx
    subst hx
    have hj : j < kvs.length := by rw [hl]; exact (List.getElem?_eq_some_iff.mp e).1
    refine ⟨⟨hd2, hj⟩, fun v H' y => ?_⟩
    obtain ⟨rfl, kk, vv, ek, rfl⟩ := y
    have e2 : (kvs.map (·.1))[j]? = some kk := by rw [List.getElem?_map, ek]; rfl
    rw [hk, List.getElem?_map, e] at e2
    have e3 : Sum.inr u = kk := Option.some.inj e2
    subst e3
    exact ⟨Step.refl _ _, h2, .str u⟩
/-- [elt for x in d if c], d a dict with texts for keys that is not asked again -/
def lcK3 (l i : Nat) (tt : TT3) (te : TE3) : TE3 := fun ρ m P => ∃ (d : Addr) (us : List Str), ρ[l]? = some (some (.ref d)) ∧ m d = some (.dct (us.map kT)) ∧ ∀ L, del m d L = none → lcGo i tt te L ρ P (us.map D.str) (put (del m d) L (.lst []))
theorem stp_lock {H : Hp} {m : Mem} {d : Addr} {u v : HO} (h : H d = some u) (hu : ∀ xs : List V, ¬ Rd H d (.tup xs) ∧ ¬ Rd H d (.lst xs)) : Stp H m (upd H d v) m := by
  rintro a x ⟨xs, hx⟩ ⟨r, n⟩
  have ne : a ≠ d := fun e => by
    subst e
    rcases hx with rfl | rfl
    · exact (hu xs).1 r
    · exact (hu xs).2 r
  refine ⟨?_, n⟩
  rcases r with r | ⟨o, r⟩
  · exact .inl (by rw [upd_ne ne]; exact r)
  · exact .inr ⟨o, by rw [upd_ne ne]; exact r⟩
theorem lcK_el {l : Nat} {tT : TT} (htt : TL K tT tt) : EL K (tLockE (tLc (iKeys (tVar l)) (gName i) tT (cE K te) [i])) (lcK3 l i tt te) := by
  intro σ H ρ m P Q o h k
  obtain ⟨d, us, el, em, h⟩ := h
  obtain ⟨kvs, eH, rk⟩ := o.hr.dct em
  obtain ⟨v, ev, rv⟩ := o.env.2 l _ el
  cases rv
  have hk : kvs.map (·.1) = us.map Sum.inr := by rw [rk.keys, List.map_map]; rfl
  refine ⟨d, .dK kvs, eH, True.intro, fun od => ?_⟩
  have s1 : Step H m (upd H d (.frz od (.dK kvs))) (del m d) := fun a x e z => by
    have ne : a ≠ d := fun q => by subst q; rw [em] at z; cases z
    exact ⟨by rw [upd_ne ne]; exact e, by unfold del; rw [if_neg ne]; exact z⟩
  have h1 : HR K (upd H d (.frz od (.dK kvs))) (del m d) := fun a x e => by
    have ne : a ≠ d := fun q => by subst q; unfold del at e; rw [if_pos rfl] at e; cases e
    have e' : m a = some x := by unfold del at e; rw [if_neg ne] at e; exact e
    obtain ⟨y, e1, r1⟩ := o.hr a x e'
    exact ⟨y, by rw [upd_ne ne]; exact e1, r1.mv s1⟩
  have dn : del m d d = none := by unfold del; rw [if_pos rfl]
  refine lc_at (ds := us.map D.str) (P := P) (o.mv s1 h1) (fun R hR => ?_) htt h fun v H2 dd m2 p2 s2 h2 r2 => ?_
  · exact ⟨.ref d, ev, d, od, rfl, .inl ⟨kvs, upd_same, hR _ (wlk_keys upd_same dn hk)⟩⟩
  · obtain ⟨e2, n2⟩ := s2 d _ upd_same dn
    refine ⟨e2, ?_⟩
    have no : ∀ xs : List V, ¬ Rd H2 d (.tup xs) ∧ ¬ Rd H2 d (.lst xs) := fun xs => by
      constructor <;> (rintro (z | ⟨y, z⟩) <;> (rw [e2] at z; cases z))
    have st : Stp H2 m2 (upd H2 d (.dK kvs)) m2 := stp_lock e2 no
    refine k v (upd H2 d (.dK kvs)) dd m2 p2 (fun a x e z => ?_) (fun a x e => ?_) (Rep.stp st _ _ r2)
    · have ne : a ≠ d := fun q => by subst q; rw [em] at z; cases z
      obtain ⟨w1, w2⟩ := s1 a x e z
      obtain ⟨w3, w4⟩ := s2 a x w1 w2
      exact ⟨by rw [upd_ne ne]; exact w3, w4⟩
    · have ne : a ≠ d := fun q => by subst q; rw [n2] at e; cases e
      obtain ⟨y, e1, r1⟩ := h2 a x e
      exact ⟨y, by rw [upd_ne ne]; exact e1, r1.stp st⟩
variable {X : Cx} {pos : Pos} {elt c : Expr} {sc : Scope} {x y : Str} {px py : Pos}
theorem e_lcKIf {l : Nat} (hc : X.calm = true) (hN : X.N.Nodup) (ok : BlkOk X.N X.env.scope sc [(x, i)]) (ht : InB X sc fun Y => PT3 Y c tt) (he : InB X sc fun Y => PE3 Y elt te)
    (hx : X.N[i]? = some x := by rfl) (hl : (relabel sc X.env).names.lookup x = some .local := by rfl) (hy : X.N[l]? = some y := by rfl) (hv : Vis X.env.scope y := by first | exact Or.inl rfl | exact Or.inr (Or.inl rfl) | exact Or.inr (Or.inr rfl)) (hd : (y == ("__debug__" : Str)) = false := by decide) (hcd : (y == ("__classdict__" : Str)) = false := by decide) (hs : ∀ z, foldedSetIterable (.Name y py) X.env z = pure z := by intro _; rfl) :
    PE3 X (.ListComp elt [⟨.Name x px, .Name y py, [c], 0⟩] sc pos) (lcK3 l i tt te) :=
  ⟨_, pe_lock (pe_lc hc hN (pi_keys (pe_var hy hv hd hcd)) ok (fun _ _ _ _ _ => pg_name hN hx (.inl hl) (.inr hl)) (tt := cT X.K tt) (fun s H C cl fp => pts_one (pt_cT (ht s H C cl fp))) (te := cE X.K te) (fun s H C cl fp => pe_cE (he s H C cl fp)) hs), lcK_el (fun σ H ρ m P Q o h k => ⟨ρ, m, P, o, h, k⟩)⟩
end
section
variable {X : Cx} {pos p : Pos} {a : Expr} {ta : TE3}
/-- sorted(list of texts) -/
def fSortS : F1 := fun x m P => ∃ us : List Str, x = .lst (us.map D.str) ∧ us.length < 64 ∧ ∀ ys : List Str, ys.Perm us → PyProof.Rows.sortedS ys = true → P (.lst (ys.map D.str)) m
def fSortSM : F1 := fun x m P => ∃ us : List Str, x = .lst (us.map D.str) ∧ us.length < 64 ∧ ∀ (ys : List Str) (p : Addr), ys.Perm us → PyProof.Rows.sortedS ys = true → m p = none → P (.ref p) (put m p (.lst (ys.map D.str)))
theorem e_sortedS (hg : Gl X "sorted") (hm : X.mg "sorted" = none) (ha : PE3 X a ta) (he : starEach [a] X.env = (false, eval a X.env) :: starEach [] X.env := by rfl) (hpl : (backTo pos (starEach [] X.env)).any (·.1) = false := by rfl) : PE3 X (.Call (.Name "sorted" p) [a] [] pos) (un3 fSortS ta) :=
  e_b1 (f := fSortS) cr_sortedS (fun x d H m P Q h r f k => by
    obtain ⟨us, rfl, hl, f⟩ := f
    cases r with
    | lst t r =>
      have ev := Reps.strs r
      subst ev
      refine ⟨_, us, rfl, t.sq, hl, fun ys p hp hs hn => ?_⟩
      exact k _ _ _ _ (f ys hp hs) (step_new hn) (hr_new h hn) (.lst (.inl ⟨.inl upd_same, h.none hn⟩) (Reps.strs' ys))) hg hm (by decide +kernel) ha (by decide) (by decide) he hpl
theorem e_sortedSM (hg : Gl X "sorted") (hm : X.mg "sorted" = none) (ha : PE3 X a ta) (he : starEach [a] X.env = (false, eval a X.env) :: starEach [] X.env := by rfl) (hpl : (backTo pos (starEach [] X.env)).any (·.1) = false := by rfl) : PE3 X (.Call (.Name "sorted" p) [a] [] pos) (un3 fSortSM ta) :=
  e_b1 (f := fSortSM) cr_sortedS (fun x d H m P Q h r f k => by
    obtain ⟨us, rfl, hl, f⟩ := f
    cases r with
    | lst t r =>
      have ev := Reps.strs r
      subst ev
      refine ⟨_, us, rfl, t.sq, hl, fun ys p hp hs hn => ?_⟩
      exact k _ _ _ _ (f ys p hp hs (h.none hn)) (step_newM hn) (hr_newM h hn (show Reps _ _ _ _ _ from Reps.strs' ys)) (.ref p)) hg hm (by decide +kernel) ha (by decide) (by decide) he hpl
end
/-- a def that gives a new list, as one that gives a list that stays -/
theorem fn_fz {P : Program} {w : World} {K : PySem.W.Frag} {mg : Str → Option Value} {base : Heap} {k : Nat} {f : Addr} {fd : FuncData} {ps : List Str} {sp spF : Sp3} (F : Fn3 P w K mg base k f fd ps sp)
    (h : ∀ ds m Q, spF ds m Q → ∃ C : List D → Prop, (∀ xs, C xs → Q (.lst xs) m) ∧ sp ds m (fun d m' => ∃ xs a, C xs ∧ m a = none ∧ d = .ref a ∧ m' = put m a (.lst xs))) : Fn3 P w K mg base k f fd ps spF :=
  F.imp fun vs H Q E hh => by
    obtain ⟨ds, m, P', h1, r1, hs, ek⟩ := hh
    obtain ⟨C, hC, hsp⟩ := h ds m P' hs
    refine ⟨ds, m, _, h1, r1, hsp, fun v H' d m' p s' hr' rp => ?_⟩
    obtain ⟨xs, a, hc, ma, rfl, rfl⟩ := p
    cases rp
    obtain ⟨ys, eH, ry⟩ := hr'.lst put_same
    have sd : Step H' (put m a (.lst xs)) H' m := fun b o e z => ⟨e, by
      have ne : b ≠ a := fun q => by subst q; rw [put_same] at z; cases z
      rw [put_ne ne] at z
      exact z⟩
    refine ek (.ref a) H' (.lst xs) m (hC xs hc) (s'.trans sd) (fun b u e => ?_) (.lst (.inl ⟨.inl eH, ma⟩) (ry.mv sd))
    have ne : b ≠ a := fun q => by subst q; rw [ma] at e; cases e
    obtain ⟨o, e1, r⟩ := hr' b u (by rw [put_ne ne]; exact e)
    exact ⟨o, e1, r.mv sd⟩
end D3

set_option Elab.async false
set_option linter.all false
set_option maxRecDepth 100000
set_option maxHeartbeats 4000000
/-! Gq: sets of texts: set(list), sorted(set(list)). -/
namespace GS
open PySem PySem.Spec PyProof.Rows L2
/-- a set with nothing in it -/
abbrev eSet (w : World) : Obj := { cls := .type "set", dict := none, data := .set #[] 0 (.fresh 0 0 (!w.params.followText "set-order")) }
abbrev HRow := Int × Value
def keyS (e : HRow) : Str := match e.2 with | .str x _ => x | _ => Str.empty
def GoodS (P : Program) (w : World) (e : HRow) : Prop := ∃ x tk, e.2 = Value.str x tk ∧ e.1 = (strKind P w).hash x
/-- the set of texts at a: T its members, c their number -/
def SetS (P : Program) (w : World) (h : Heap) (a : Addr) (T : Str → Bool) (c : Nat) : Prop :=
  ∃ ob es ep t, h.get? a = some ob ∧ ob.ExactSet ∧ ob.data = .set es ep t ∧ (∀ e ∈ es.toList, GoodS P w e) ∧ (es.toList.map keyS).Nodup ∧ (∀ z, T z = true ↔ z ∈ es.toList.map keyS) ∧
    es.size < scanBound ∧ t.fits es.size = true ∧ es.size = c ∧ L2.Ris t.place.toList ∧ (w.params.followText "set-order" = true ∨ t.led = true)
section
variable {P : Program} {w : World} {h h' : Heap} {a : Addr} {T : Str → Bool} {c : Nat}
theorem SetS.keep (R : SetS P w h a T c) (k : ∀ ob, h.get? a = some ob → h'.get? a = some ob) : SetS P w h' a T c := let ⟨ob, es, ep, t, e1, r⟩ := R; ⟨ob, es, ep, t, k ob e1, r⟩
theorem SetS.eqv {T' : Str → Bool} (R : SetS P w h a T c) (e : ∀ z, T' z = T z) : SetS P w h a T' c := by rw [show T' = T from funext e]; exact R
theorem gs_elems {l : List HRow} (g : ∀ e ∈ l, GoodS P w e) : ElemsOf (strKind P w) l := fun e he => by
  obtain ⟨x, tk, e1, e2⟩ := g e he
  exact ⟨⟨x, by rw [e1]; exact strKind_is P w x tk, e2⟩, by rw [e1] <;> rfl⟩
theorem gs_is {e : HRow} (g : GoodS P w e) (z : Str) : (strKind P w).is z e.2 = true ↔ keyS e = z := by
  obtain ⟨x, tk, e1, _⟩ := g
  unfold keyS
  rw [e1]
  constructor
  · intro q
    obtain ⟨t, et⟩ := Value.isStrOf_shape (x := z) (v := .str x tk) q
    cases et
    rfl
  · rintro rfl
    exact strKind_is P w x tk
theorem gs_mem {l : List HRow} (g : ∀ e ∈ l, GoodS P w e) (z : Str) : z ∈ l.map keyS ↔ ∃ e ∈ l, (strKind P w).is z e.2 = true := by
  rw [List.mem_map]
  exact ⟨fun ⟨e, he, q⟩ => ⟨e, he, (gs_is (g e he) z).2 q⟩, fun ⟨e, he, q⟩ => ⟨e, he, (gs_is (g e he) z).1 q⟩⟩
theorem gs_new {a : Addr} (e : h.get? a = some (eSet w)) : SetS P w h a (fun _ => false) 0 :=
  ⟨_, #[], 0, _, e, ⟨rfl, rfl, rfl⟩, rfl, (fun e he => by simp at he), (by simp), (fun z => by simp), (by decide), (by rfl), rfl, List.Pairwise.nil, by
    show (_ : Prop) ∨ (!w.params.followText "set-order") = true
    cases w.params.followText "set-order" <;> simp⟩
end
section
variable {P : Program} {w : World} {A : Around} {E : Value → Shared → Prop} {s : Shared} {a : Addr} {T : Str → Bool} {c : Nat}
theorem gs_tail {g : Bool → Sem Unit} (hg : ∀ (b : Bool) (t₁ : Shared) (Q' : Unit → Shared → Prop), Q' () t₁ → wpAny (model P w) A (g b) Q' E t₁)
    {ob : Obj} {es : Array HRow} {ep : Nat} {t : SetTable} (e0 : s.heap.get? a = some ob) (hex : ob.ExactSet) (hd : ob.data = .set es ep t)
    {es1 : Array HRow} {t2 : SetTable} {T' : Str → Bool} (g1 : ∀ e ∈ es1.toList, GoodS P w e) (n1 : (es1.toList.map keyS).Nodup) (m1 : ∀ z, T' z = true ↔ z ∈ es1.toList.map keyS)
    (b1 : es1.size < scanBound) (f2 : t2.fits es1.size = true) (r2 : L2.Ris t2.place.toList) (l2 : w.params.followText "set-order" = true ∨ t2.led = true) {dm : Bool} {R : Option Bool → Shared → Prop}
    (hR : ∀ h', Heap.SameBut a s.heap h' → SetS P w h' a T' es1.size → R (some true) { s with heap := h' }) :
    wpAny (model P w) A (do
        storeSet a es1 t2
        if (!dm && t2.tooFull) = true then do
            g (relayAll t2 es1 (SetTable.grown es1.size)).2.2; storeSet a (relayAll t2 es1 (SetTable.grown es1.size)).1 (relayAll t2 es1 (SetTable.grown es1.size)).2.1; pure (some true)
          else (pure (some true))) R E s := by
  refine wpAny_bind (wpAny_storeSet_of e0 hd ?_ (fits_of_scanBound b1))
  have e1 := store_at (es' := es1) (t' := t2) e0 hd
  have sb := Heap.SameBut.update s.heap a (Obj.putSet es1 t2)
  split
  · obtain ⟨pm, f3, r3, l3⟩ := And.intro (relayAll_perm t2 es1 (SetTable.grown es1.size)) (And.intro (relayAll_fits t2 es1 (SetTable.grown es1.size)) (And.intro (relayAll_ris t2 es1 (SetTable.grown es1.size)) (relayAll_led t2 es1 (SetTable.grown es1.size))))
    generalize relayAll t2 es1 (SetTable.grown es1.size) = Z at pm f3 r3 l3 ⊢
    obtain ⟨es2, t3, gv⟩ := Z
    dsimp only at pm f3 r3 l3 ⊢
    have z2 : es2.size = es1.size := by rw [← Array.length_toList, pm.length_eq, Array.length_toList]
    have b2 : es2.size < scanBound := z2 ▸ b1
    refine wpAny_bind (hg _ _ _ (wpAny_bind (wpAny_storeSet_of e1 rfl ?_ (fits_of_scanBound b2))))
    have e2 := store_at (es' := es2) (t' := t3) e1 rfl
    refine wpAny_pure (hR _ (sb.trans (Heap.SameBut.update _ a _)) ⟨_, es2, _, t3, e2, hex, rfl, fun e he => g1 e (pm.mem_iff.mp he), (pm.map keyS).nodup_iff.mpr n1, fun z => (m1 z).trans (pm.map keyS).mem_iff.symm, b2, f3, z2, r3, l2.imp id fun q => by rw [l3]; exact q⟩)
  · exact wpAny_pure (hR _ sb ⟨_, es1, _, t2, e1, hex, rfl, g1, n1, m1, b1, f2, rfl, r2, l2⟩)
theorem gs_add {x : Str} {tk : Tok} {Q : Bool → Shared → Prop} (R : SetS P w s.heap a T c) (room : c + 1 < scanBound)
    (hQ : ∀ h', Heap.SameBut a s.heap h' → SetS P w h' a (fun z => T z || decide (z = x)) (if T x = true then c else c + 1) → Q (!T x) { s with heap := h' }) :
    wpAny (model P w) A (setAddHashed a (.str x tk) ((strKind P w).hash x)) Q E s := by
  obtain ⟨ob, es, ep, t, e0, hex, hd, g, nd, hm, hb, hf, hn, hr, hl⟩ := R
  have ky : (strKind P w).is x (.str x tk) = true := strKind_is P w x tk
  have scn : (Value.str x tk).scannable = true := rfl
  have hel : ElemsOf (strKind P w) es.toList := gs_elems g
  unfold setAddHashed setAddHashedIn; refine wpAny_holding (wpAny_bind (wpAny_setState_of e0 hd hf ?_))
  dsimp only
  rw [byScan_of scn hb hel]
  simp only [↓reduceIte]
  unfold setAddByScan
  refine wpAny_bind (wpAny_bind (wpAny_rule (wpAny_bind (wpAny_setScan_of ky e0 hd hf hel ?_))))
  cases fi : List.findIdx? (fun e => (strKind P w).is x e.2) es.toList with
  | some j =>
    dsimp only
    obtain ⟨hj, pj, _⟩ := List.findIdx?_eq_some_iff_getElem.mp fi
    have tx : T x = true := (hm x).2 ((gs_mem g x).2 ⟨es.toList[j], List.getElem_mem hj, pj⟩)
    refine (wpAny_pure (wpAny_pure ?_))
    have q := hQ s.heap (Heap.SameBut.refl a s.heap) ⟨ob, es, ep, t, e0, hex, hd, g, nd, fun z => by
      rw [Bool.or_eq_true, decide_eq_true_eq, ← hm z]
      exact ⟨fun q => q.elim id (fun e => e ▸ tx), .inl⟩, hb, hf, by rw [if_pos tx]; exact hn, hr, hl⟩
    rw [tx] at q
    exact q
  | none =>
    dsimp only
    have nx : x ∉ es.toList.map keyS := fun z => by
      obtain ⟨e, he, q⟩ := (gs_mem g x).1 z
      have q2 := List.findIdx?_eq_none_iff.mp fi e he
      rw [q] at q2
      cases q2
    have tx : T x = false := by
      cases q : T x with
      | false => rfl
      | true => exact absurd ((hm x).1 q) nx
    have gw : ∀ (b : Bool) {t₁ : Shared} {Q' : Unit → Shared → Prop}, Q' () t₁ → wpAny (model P w) A (match b with | true => rule "set.scan.the-table-gave-way" | false => pure ()) Q' E t₁ := fun b t₁ Q' q => by cases b <;> first | exact wpAny_pure q | exact wpAny_rule q
    obtain ⟨pm, f1, r1, l1⟩ := And.intro (layNew_perm t es ((strKind P w).hash x) (.str x tk)) (And.intro (layNew_fits t es ((strKind P w).hash x) (.str x tk)) (And.intro (layNew_ris t es ((strKind P w).hash x) (.str x tk) hr) (layNew_led t es ((strKind P w).hash x) (.str x tk))))
    generalize layNew t es ((strKind P w).hash x) (.str x tk) = Z at pm f1 r1 l1 ⊢
    obtain ⟨es1, t1, dm, gv⟩ := Z
    dsimp only at pm f1 r1 l1 ⊢
    rw [Array.toList_push] at pm
    have pc : es1.toList.Perm (((strKind P w).hash x, Value.str x tk) :: es.toList) := pm.trans (List.perm_append_singleton _ _)
    have pk : (es1.toList.map keyS).Perm (x :: es.toList.map keyS) := pc.map keyS
    have g1 : ∀ e ∈ es1.toList, GoodS P w e := fun e he => (List.mem_cons.mp (pc.mem_iff.mp he)).elim (fun z => by rw [z]; exact ⟨x, tk, rfl, rfl⟩) (g e)
    have n1 : (es1.toList.map keyS).Nodup := pk.nodup_iff.mpr (List.nodup_cons.mpr ⟨nx, nd⟩)
    have m1 : ∀ z, (T z || decide (z = x)) = true ↔ z ∈ es1.toList.map keyS := fun z => by
      rw [Bool.or_eq_true, decide_eq_true_eq, hm z, pk.mem_iff, List.mem_cons]
      exact Or.comm
    have z1 : es1.size = c + 1 := by rw [← Array.length_toList, pc.length_eq, List.length_cons, Array.length_toList, hn]
    have b1 : es1.size < scanBound := z1 ▸ room
    have ld : w.params.followText "set-order" = true ∨ t1.led = true := hl.imp id fun z => by rw [l1]; exact z
    have fin : ∀ h', Heap.SameBut a s.heap h' → SetS P w h' a (fun z => T z || decide (z = x)) es1.size → Q true { s with heap := h' } := fun h' sb r => by
      have q := hQ h' sb
      rw [tx] at q
      exact q (z1 ▸ r)
    refine wpAny_bind (gw _ ?_)
    split
    · refine wpAny_bind ?_
      rw [hashByValue_scannable 8 scn]
      refine wpAny_pure (gs_tail ?_ e0 hex hd g1 n1 m1 b1 ?_ ?_ ?_ ?_)
      · intro b t₁ Q' q; cases b <;> first | exact wpAny_pure q | exact wpAny_rule q
      · first | (split <;> first | exact f1 | exact SetTable.fits_plain_off f1) | exact f1
      · first | (split <;> exact r1) | exact r1
      · first | (split <;> exact ld) | exact ld
      · exact fun h' sb r => (by dsimp only; exact wpAny_pure (fin h' sb r))
    · refine wpAny_bind (wpAny_pure ?_); simp only [↓reduceIte]
      refine gs_tail ?_ e0 hex hd g1 n1 m1 b1 f1 r1 ld ?_
      · intro b t₁ Q' q; cases b <;> first | exact wpAny_pure q | exact wpAny_rule q
      · exact fun h' sb r => (by dsimp only; exact wpAny_pure (fin h' sb r))
end
section
variable {P : Program} {w : World} {s : Shared} {A : Around} {E : Value → Shared → Prop}
/-- the texts of a list put into a set -/
theorem gs_fill {I : Addr} {fp wr : List Addr} {G : Array GenState → Array GenState → Prop} {n : Nat} {Pv : Nat → Value → Prop} {St : Nat → Shared → Prop} {R : Result → Shared → Prop}
    (W : WalksS P w A.in1 I fp wr G n Pv St) (D : Addr) (hf : D ∉ fp) (xs : List Str) (hn : n = xs.length) (hb : xs.length + 1 < scanBound) (hval : ∀ i v, Pv i v → ∃ x t, xs[i]? = some x ∧ v = .str x t) :
    ∀ (k i : Nat) (t : Shared), n - i = k → i ≤ n → St i t → (∃ c, c ≤ i ∧ SetS P w t.heap D (fun z => decide (z ∈ xs.take i)) c) →
      (∀ t' c, Moved (D :: wr) G t t' → c ≤ n → SetS P w t'.heap D (fun z => decide (z ∈ xs)) c → R (.ok (.ret .none)) t') → codeAny (model P w) A (.builtin "set.update.loop" ⟨[.ref D, .ref I], []⟩) R t := by
  have nw : D ∉ wr := fun z => hf (W.sub _ z)
  have sub : ∀ b ∈ wr, b ∈ D :: wr := fun b hb => List.mem_cons_of_mem _ hb
  intro k
  induction k with
  | zero =>
    rintro i t hk hi st ⟨c, hc, hS⟩ hR
    obtain rfl : i = n := by omega
    refine codeAny_builtin F.entry_set_update_loop ?_; rw [Around.under_plainId F.plain_set_update_loop _]
    show wpAny _ A.in1 (pyNext (.ref I) >>= _) _ _ t
    refine wpAny_bind (W.done t _ _ st fun t' mv => ?_)
    show wpAny _ A.in1 (ret Value.none) _ _ t'
    rw [List.take_of_length_le (show xs.length ≤ i by omega)] at hS
    exact wpAny_pure (hR t' c (mv.mono sub) hc (hS.keep fun ob e => mv.heap D ob nw e))
  | succ k ih =>
    rintro i t hk hi st ⟨c, hc, hS⟩ hR
    have lt : i < n := by omega
    refine codeAny_builtin F.entry_set_update_loop ?_; rw [Around.under_plainId F.plain_set_update_loop _]
    show wpAny _ A.in1 (pyNext (.ref I) >>= _) _ _ t
    refine wpAny_bind (W.item i t _ _ lt st fun v t' hP st' mv => ?_)
    obtain ⟨x, tk, hx, rfl⟩ := hval i v hP
    have hS1 : SetS P w t'.heap D (fun z => decide (z ∈ xs.take i)) c := hS.keep fun ob e => mv.heap D ob nw e
    show wpAny _ A.in1 (holding [Value.str x tk] (setAdd D (.str x tk)) >>= _) _ _ t'
    refine wpAny_bind (wpAny_holding ?_); unfold setAdd
    refine wpAny_holding (wpAny_bind ((strKind P w).pyHash (k := x) (strKind_is _ _ _ _) ?_))
    refine gs_add (s := { t' with toks := t'.toks + 1 }) hS1 (by omega) fun h' sb hS2 => ?_
    have hS3 : SetS P w h' D (fun z => decide (z ∈ xs.take (i + 1))) (if decide (x ∈ xs.take i) = true then c else c + 1) := hS2.eqv fun z => by rw [List.take_add_one, hx]; simp [List.mem_append]
    have c3 : (if decide (x ∈ xs.take i) = true then c else c + 1) ≤ i + 1 := by split <;> omega
    refine wpAny_pure ⟨plainId_quiet F.plain_set_update_loop _, ih (i + 1) _ (by omega) lt (W.frame _ t' _ _ st' (Nat.le_succ _) fun b hb o e => ?_) ⟨_, c3, hS3⟩ fun t2 c2 m2 k2 s2 => ?_⟩
    · exact (sb.2 b (fun z : b = D => hf (z ▸ hb))).trans e
    · refine hR t2 c2 (Moved.trans W.gtrans ((mv.mono sub).then_heap (Nat.le_succ _) fun b o hb e => ?_) m2) k2 s2
      exact (sb.2 b (fun z : b = D => hb (z ▸ List.mem_cons_self))).trans e
/-- set(list of texts) -/
theorem gs_call {l : Addr} {its : Array Value} (xs : List Str) {Q : Value → Shared → Prop} (hh : A.handled = none) (hl : s.heap.IsList l its) (hit : StrsAre its.toList xs) (hb : xs.length + 1 < scanBound)
    (h : ∀ (h' : Heap) (tk c : Nat), SetS P w h' s.heap.objs.size (fun z => decide (z ∈ xs)) c → c ≤ xs.length → (∀ b o, s.heap.get? b = some o → h'.get? b = some o) → Q (.ref s.heap.objs.size) { s with heap := h', toks := tk }) :
    wpAny (model P w) A (call (.type "set") [Value.ref l]) Q E s := by
  have sz : its.size = xs.length := by rw [← StrsAre.len_eq hit, Array.length_toList]
  obtain ⟨cc, tl, mr⟩ := F.called_set.mro
  have q1 := F.called_set.made
  have q2 := F.called_set.sub
  refine wpAny_call (codeAny_of_tree ?_); show wpAny _ _ (callAny (.type "set") _) _ _ _
  refine wpAny_pure ⟨Code.quiet_builtin _ (by decide +kernel), codeAny_builtin F.entry_type_call ?_⟩; rw [Around.under_plain (weight_type_call_type "set" [.ref l] []) rfl]
  have q3 := F.called_set.notType
  have q4 := F.called_set.canCreate
  have q5 := F.typeCall_set_1 (.ref l)
  (repeat (any_goals (first | assumption | wp_step))); refine codeAny_mono (code_set_led1 (.ref l) (E := E) (Q₁ := fun ob s₁ => ob = .ref s.heap.objs.size ∧ s₁ = { s with heap := s.heap.push (eSet w) }) ⟨rfl, rfl⟩) fun r s₁ hr => ?_
  cases r with
  | error e => exact hr
  | ok fl =>
    cases fl with
    | ret ob =>
      obtain ⟨rfl, rfl⟩ := hr
      have hS : (s.heap.push (eSet w)).get? s.heap.objs.size = some (eSet w) := Heap.get?_push_size _ rfl
      have hT : Shared.TypeIs { s with heap := s.heap.push (eSet w) } (.ref s.heap.objs.size) "set" := ⟨_, hS, rfl⟩
      have q6 := F.called_set.init.lookup
      have q7 := F.called_set.init.bind (.ref s.heap.objs.size)
      (repeat (any_goals (first | assumption | wp_step))); refine codeAny_mono (codeAny_call_builtin (R := wants (fun r s₂ => r = .none ∧ ∃ h' tk c, s₂ = { s with heap := h', toks := tk } ∧ SetS P w h' s.heap.objs.size (fun z => decide (z ∈ xs)) c ∧ c ≤ xs.length ∧
          (∀ b u, s.heap.get? b = some u → h'.get? b = some u)) E) F.called_set.init.plain F.entry_set_init (check_set_init_1 hT ?_)) fun r₂ s₂ hr₂ => ?_
      · obtain ⟨⟨o1, o2, o3, o4⟩, hol, hcl, nl, hdl⟩ := hl
        simp only at hcl hdl
        subst hcl hdl
        have hol' : (s.heap.push (eSet w)).get? l = some { cls := .type "list", dict := o2, data := .seq its nl, slots := o4 } := Heap.get?_push_of_some _ hol
        have q8 := F.sub_list_set
        have q9 := F.sub_list_frozenset
        have q10 : (Value.type "list" == Value.type "dict") = false := by decide
        have hl1 : (s.heap.push (eSet w)).IsList l its := ⟨_, hol', rfl, nl, rfl⟩
        unfold Builtin.«set.__init__» noKeywords Builtin.Frozenset.updateFrom; generalize ePI : pyIter = PI
        wp_walk
        subst ePI
        refine wpAny_pyIter_list hl1 (wpAny_bind (wpAny_runValue ?_))
        have lS : l < s.heap.objs.size := Heap.lt_size hol
        have h3 : A.in1.in1.in1.handled = none := by simp [hh]
        have nI : l ≠ (s.heap.push (eSet w)).objs.size := by rw [Heap.size_push]; exact Nat.ne_of_lt (Nat.lt_succ_of_lt lS)
        have nf : s.heap.objs.size ∉ [(s.heap.push (eSet w)).objs.size, l] := by
          rw [Heap.size_push]
          simp only [List.mem_cons, List.mem_singleton, List.not_mem_nil, or_false, not_or]
          exact ⟨Nat.ne_of_lt (Nat.lt_succ_self _), Nat.ne_of_gt lS⟩
        have hval : ∀ (i : Nat) (v : Value), its[i]? = some v → ∃ x t, xs[i]? = some x ∧ v = .str x t := fun i v hv => by
          have hi : i < xs.length := by rw [← sz]; exact (Array.getElem?_eq_some_iff.mp hv).1
          obtain ⟨t, e⟩ := SS.strs_at hit i v (by rw [Array.getElem?_toList]; exact hv)
          refine ⟨xs[i], t, List.getElem?_eq_getElem hi, ?_⟩
          (rw [e, List.getD_eq_getElem?_getD, List.getElem?_eq_getElem hi] <;> rfl)
        refine gs_fill ((Walks.list h3 _ l nI its).toS) s.heap.objs.size nf xs sz hb hval (its.size - 0) 0 _ (by omega) (Nat.zero_le _) ⟨⟨_, Heap.get?_push_size _ rfl, rfl, rfl⟩, (hl1.push _)⟩ ?hS0 ?hR
        case hS0 => exact ⟨0, Nat.le_refl 0, (gs_new (Heap.get?_push_of_some _ hS)).eqv fun z => by simp⟩
        case hR =>
          rintro ⟨h', g2, d', tk', os'⟩ c' mv hc' hS'
          obtain ⟨eg, ed, eo⟩ : g2 = s.gens ∧ d' = s.drawn ∧ os' = s.os := ⟨mv.gens, mv.drawn, mv.os⟩
          subst eg ed eo
          show wpAny _ _ _ _ _ _
          refine wpAny_pure ?_
          show wpAny _ _ (ret Value.none) _ _ _; refine wpAny_pure ⟨rfl, h', tk', c', rfl, hS', by omega, fun b o e => ?_⟩
          have b0 : b < s.heap.objs.size := Heap.lt_size e
          have b2 : b ≠ (s.heap.push (eSet w)).objs.size := by rw [Heap.size_push]; exact Nat.ne_of_lt (Nat.lt_succ_of_lt b0)
          exact mv.heap b o (by simp only [List.mem_cons, List.mem_singleton, List.not_mem_nil, or_false, not_or]; exact ⟨Nat.ne_of_lt b0, b2⟩) (Heap.get?_push_of_some _ (Heap.get?_push_of_some _ e))
      · cases r₂ with
        | error e => exact hr₂
        | ok fl₂ =>
          cases fl₂ with
          | ret r =>
            obtain ⟨rfl, h', tk, c', rfl, hS', hc', hk'⟩ := hr₂; repeat (any_goals (first | assumption | wp_step))
            exact h _ _ _ hS' hc' hk'
          | _ => exact hr₂.elim
    | _ => exact hr.elim
end
section
variable {P : Program} {w : World} {A : Around} {E : Value → Shared → Prop} {s : Shared} {a : Addr} {T : Str → Bool} {c : Nat}
theorem strs_of : ∀ (l : List Value), (∀ v ∈ l, ∃ x tk, v = Value.str x tk) → ∃ xs, StrsAre l xs ∧ xs = l.map fun v => keyS (0, v)
  | [], _ => ⟨[], .nil, rfl⟩
  | v :: l, h => by
    obtain ⟨x, tk, rfl⟩ := h v List.mem_cons_self
    obtain ⟨xs, e1, e2⟩ := strs_of l fun u hu => h u (List.mem_cons_of_mem _ hu)
    exact ⟨x :: xs, .cons x tk e1, by rw [e2]; rfl⟩
/-- sorted(set of texts) -/
theorem gs_sorted {Q : Value → Shared → Prop} (R : SetS P w s.heap a T c) (hh : A.handled = none) (h64 : c < 64)
    (hQ : ∀ s' p (out : Array Value) (ct : Nat) (ys : List Str), (∀ b o, s.heap.get? b = some o → s'.heap.get? b = some o) → s'.gens = s.gens → s'.os = s.os → s.heap.objs.size ≤ p →
      s'.heap.get? p = some (seqObj "list" out ct) → StrsAre out.toList ys → ys.Nodup → sortedS ys = true → (∀ z, z ∈ ys ↔ T z = true) → ys.length = c → Q (.ref p) s') :
    wpAny (model P w) A (call (.builtin "sorted") [Value.ref a]) Q E s := by
  obtain ⟨ob, es, ep, t, e0, hex, hd, g, nd, hm, hb, hf, hn, hr, hl⟩ := R
  refine Calls.call_function_entry kind_sorted plain_sorted entry_sorted (args_sorted1 _) ?_; unfold Builtin.«sorted»
  refine wpAny_bind (m := checkCount "sorted" 1 1 _) (wpAny_pure (wpAny_bind (collect_set (A := A.in1) hh ⟨ob, e0, hex.1, hd⟩ hf hb hr hl fun s1 vs k1 hz g1 o1 pm => ?_)))
  have vl : vs.length = c := by rw [pm.length_eq, List.length_map, Array.length_toList]; exact hn
  obtain ⟨xs, hI, ex⟩ := strs_of vs fun v hv => by
    obtain ⟨e, he, q⟩ := List.mem_map.mp (pm.mem_iff.mp hv); obtain ⟨x, tk, h1, _⟩ := g e he
    exact ⟨x, tk, by rw [← q]; exact h1⟩
  have pk : xs.Perm (es.toList.map keyS) := by
    have q := pm.map fun v => keyS (0, v)
    rw [List.map_map] at q
    rw [ex]
    exact q
  refine wpAny_bind (wpAny_newList ?_ (by rw [vl, sizeLine_eq]; omega))
  have eL : (s1.heap.push (seqObj "list" vs.toArray 0)).get? s1.heap.objs.size = some (seqObj "list" vs.toArray 0) := Heap.get?_push_size _ rfl
  refine wpAny_bind (wpAny_holding (wpAny_call_entry slot_list_sort ⟨_, eL, rfl⟩ entry_list_sort (list_sort_treeK strKind_oneLt eL hI.keysOf (fun v₁ v₂ rest e => keyKind_strs (by rw [← e]; exact hI)) (by rw [vl]; exact h64) fun st' hp hs => ⟨_, rfl, ?_⟩) (args_list_sort _)))
  obtain ⟨ys, a1, a2, a3⟩ := sorted_out_str hI hp hs
  generalize (arrOf st').map (·.2) = out at a1 ⊢
  obtain ⟨ct, hct⟩ := sortedHeap_at (vs := vs) (out := out) eL
  have pn : ys.Perm (es.toList.map keyS) := a2.trans pk
  refine wpAny_pure ⟨_, rfl, hQ _ s1.heap.objs.size out ct ys (fun b u e => ?_) g1 o1 hz hct a1 (pn.nodup_iff.mpr nd) a3 (fun z => by rw [pn.mem_iff, ← hm z]) ?_⟩
  · have q := k1 b u e
    have lt := Heap.lt_size q
    show (sortedHeap (s1.heap.push (seqObj "list" vs.toArray 0)) s1.heap.objs.size vs out).get? b = (some u)
    rw [sortedHeap_old (Nat.ne_of_lt lt) (by rw [size_push']; exact Nat.lt_succ_of_lt lt)]
    exact (Heap.get?_push_of_some _ q)
  · rw [pn.length_eq, List.length_map]; rw [Array.length_toList]; exact hn
end
end GS

set_option Elab.async false
set_option linter.all false
set_option maxRecDepth 100000
set_option maxHeartbeats 4000000
/-! Gr: sorted(set(list of texts)) as a rule. -/
namespace D3
open PySem L2
def tSSet (K : PySem.W.Frag) (ta : TE) : TE := fun σ H Q => ta σ H fun x H1 => ∃ (l : Addr) (xs : List Str), x = .ref l ∧ SqL K H1 l (xs.map V.str) ∧ xs.length < 64 ∧
  ∀ (ys : List Str) (p : Addr), ys.Nodup → PyProof.Rows.sortedS ys = true → (∀ z, z ∈ ys ↔ z ∈ xs) → H1 p = none → Q (.ref p) (upd H1 p (.lst (ys.map V.str)))
section
variable {X : Cx} {a : Expr} {p p2 q pos : Pos}
theorem pe_sset {ta : TE} (hc : X.calm = true) (hg : Gl X "sorted") (hm : X.mg "sorted" = none) (hg2 : Gl X "set") (hm2 : X.mg "set" = none) (ha : PE X a ta) (na : starEach [a] X.env = (false, eval a X.env) :: starEach [] X.env := by rfl) :
    PE X (.Call (.Name "sorted" p) [.Call (.Name "set" p2) [a] [] q] [] pos) (tSSet X.K ta) := by
  refine ⟨fun pins s σ H Q I h => ?_⟩; refine PyProof.Rows.Call_ (ld_blt I hg hm PyProof.Rows.boot_sorted (PyProof.Rows.callWith_builtin1 (PyProof.Rows.args_cons ?_ rfl) rfl rfl))
  refine PyProof.Rows.Call_ (ld_blt I hg2 hm2 PyProof.Rows.boot_set (PyProof.Rows.callWith_type1 (PyProof.Rows.args_cons (thn (ha.run pins s σ H _ I h) fun v s1 ⟨x, H1, I1, r1, q1⟩ => PyProof.Rows.args_nil ?_) na) na rfl))
  obtain ⟨l, xs, rfl, hq, h64, q1⟩ := q1
  cases r1
  obtain ⟨its, r, pl, hz⟩ := I1.list hq; refine GS.gs_call xs (I1.ok.hd hc) pl.isList (by simpa using strsAre_of r) (by unfold PySem.scanBound; omega) fun h' tk c hS hcl hk => ?_
  refine (PyProof.Rows.args_nil ?_)
  have I2 : Inv X pins σ H1 { s1 with heap := h', toks := tk } := I1.kept fun b o e => hk b o e
  refine GS.gs_sorted (s := { s1 with heap := h', toks := tk }) hS (I1.ok.hd hc) (by omega) fun s' pp out ct ys k2 g2 o2 hp hg' hi nd so hm' hl' => ?_
  have hlen : (ys.map V.str).length ≤ sizeLine := by rw [List.length_map, hl', sizeLine_eq]; omega
  have hn : H1 pp = none := I2.hok.fresh hp
  have J : Inv X pins σ (upd H1 pp (.lst (ys.map V.str))) { ({ s1 with heap := h', toks := tk } : Shared) with heap := s'.heap, gens := s'.gens, drawn := s'.drawn, toks := s'.toks } :=
    I2.call (ch := []) (Un.laid k2 hp hn) (I2.hok.laid k2 hp ⟨hlen, out.toList, ct, vals_of_strs hi, hg'⟩) (by rw [g2]; exact I2.bare) (fun _ z => nomatch z)
  have e : s' = { ({ s1 with heap := h', toks := tk } : Shared) with heap := s'.heap, gens := s'.gens, drawn := s'.drawn, toks := s'.toks } := by
    cases s'
    cases s1
    cases o2
    rfl
  rw [e]
  exact ⟨.ref pp, _, J, rfl, q1 ys pp nd so (fun z => by rw [hm' z]; simp) hn⟩
/-- sorted(set(list of texts)) -/
def sset3 (ta : TE3) : TE3 := fun ρ m P => ta ρ m fun x m1 => ∃ us : List Str, x = .lst (us.map D.str) ∧ us.length < 64 ∧ ∀ ys : List Str, ys.Nodup → PyProof.Rows.sortedS ys = true → (∀ z, z ∈ ys ↔ z ∈ us) → P (.lst (ys.map D.str)) m1
theorem e_sset {ta : TE3} (hg : Gl X "sorted") (hm : X.mg "sorted" = none) (hg2 : Gl X "set") (hm2 : X.mg "set" = none) (ha : PE3 X a ta) (hc : X.calm = true := by rfl) (na : starEach [a] X.env = (false, eval a X.env) :: starEach [] X.env := by rfl) :
    PE3 X (.Call (.Name "sorted" p) [.Call (.Name "set" p2) [a] [] q] [] pos) (sset3 ta) := by
  obtain ⟨_, pp, qq⟩ := ha
  refine ⟨_, pe_sset hc hg hm hg2 hm2 pp na, fun σ H ρ m P Q o h k => ?_⟩
  refine qq σ H ρ m _ _ o h fun x H1 d m1 p1 s1 h1 r1 => ?_
  obtain ⟨us, rfl, hl, p1⟩ := p1
  cases r1 with
  | lst t r =>
    have ev := Reps.strs r
    subst ev
    refine ⟨_, us, rfl, t.sq, hl, fun ys p nd so hz hn => ?_⟩
    exact k _ _ _ _ (p1 ys nd so hz) (s1.trans (step_new hn)) (hr_new h1 hn) (.lst (.inl ⟨.inl upd_same, h1.none hn⟩) (Reps.strs' ys))
end
section
variable {X : Cx} {a b o e : Expr} {ta tb : TE3} {pos p apos cpos : Pos}
/-- a list that may change, != something -/
def fNeM : F2 := fun x y m P => ∃ (l : Addr) (ds : List D), x = .ref l ∧ m l = some (.lst ds) ∧ fNe (.lst ds) y m P
theorem rl_neM {K : PySem.W.Frag} : RL K (rNeD K) fNeM := by
  intro x y d e H m P Q h r1 r2 f k
  obtain ⟨l, ds, rfl, em, f1, f2⟩ := f
  cases r1
  obtain ⟨xs, ex, rx⟩ := h.lst em
  obtain ⟨p, q, e1, e2, s1, s2, e3⟩ := deqOk_some f1
  rw [e3] at f2
  have dn : del m l l = none := by unfold del; rw [if_pos rfl]
  have rl : Rep K H (del m l) (.ref l) (.lst ds) := .lst (.inl ⟨.inl ex, dn⟩) (rx.mv step_del)
  exact ⟨p, q, rl.dp _ _ _ e1, r2.dp _ _ _ e2, s1, s2, k.now h f2 (.bl _)⟩
theorem e_neM {k : Nat} (hr : Room k X.A) (ha : PE3 X a ta) (hb : PE3 X b tb) : PE3 X (.Compare a [.NotEq] [b] pos) (op3 fNeM ta tb) := e_cmpR (op_neD hr.units) rl_neM ha hb (nomark _)
theorem t_neM {k : Nat} (hr : Room k X.A) (ha : PE3 X a ta) (hb : PE3 X b tb) : PT3 X (.Compare a [.NotEq] [b] pos) (b3 (op3 fNeM ta tb)) := t_cmpR (op_neD hr.units) rl_neM ha hb (nomark _)
/-- isinstance(a list that may change, list) -/
def fIsiM : F2 := fun x y m P => ∃ (l : Addr) (ds : List D), x = .ref l ∧ m l = some (.lst ds) ∧ y = .ty "list" ∧ P (.bl true) m
theorem e_isiM (hg : Gl X "isinstance") (hm : X.mg "isinstance" = none) (ha : PE3 X a ta) (hb : PE3 X b tb) (he : starEach [a, b] X.env = (false, eval a X.env) :: starEach [b] X.env := by rfl) (he2 : starEach [b] X.env = (false, eval b X.env) :: starEach [] X.env := by rfl) (hpl : (backTo pos (starEach [b] X.env)).any (·.1) = false := by rfl) : PE3 X (.Call (.Name "isinstance" p) [a, b] [] pos) (op3 fIsiM ta tb) :=
  e_b2 (f := fIsiM) call_isi (fun x y d e H m P Q h r1 r2 f k => by
    obtain ⟨l, ds, rfl, em, rfl, f⟩ := f
    cases r1
    cases r2
    obtain ⟨xs, ex, rx⟩ := h.lst em
    exact ⟨_, _, _, _, true, rfl, .ty _, .base (.lst ex), kit_ty (show kitB "list" "list" = some true by decide +kernel), k.now h f (.bl _)⟩) hg hm PyProof.Rows.boot_isinstance ha hb (by decide) (by decide) he he2 hpl
/-- l.pop(k) -/
def pop3 (ta tb : TE3) : TE3 := fun ρ m P => ta ρ m fun x m1 => match x with
  | .ref l => (∃ ds, m1 l = some (.lst ds)) ∧ tb ρ m1 fun y m2 => ∃ (ds : List D) (k : Nat) (z : D), y = .int (k : Nat) ∧ m2 l = some (.lst ds) ∧ ds.length ≤ 16000 ∧ ds[k]? = some z ∧ P z (put m2 l (.lst (ds.eraseIdx k)))
  | _ => False
theorem Reps.erase {K : PySem.W.Frag} {H : Hp} {m : Mem} : ∀ {vs : List V} {ds : List D} (k : Nat), Reps K H m vs ds → Reps K H m (vs.eraseIdx k) (ds.eraseIdx k)
  | _, _, _, .nil => .nil
  | _, _, 0, .cons _ t => t
  | _, _, k + 1, .cons r t => .cons r (Reps.erase k t)
theorem e_pop (ho : PE3 X o ta) (hb : PE3 X e tb) (hbase : attributeBase o "pop" X.env (eval o X.env) = eval o X.env := by rfl)
    (hfew : ((backTo cpos (starEach [e] X.env)).all (fun x => !x.1) && (backToKw cpos (keywordEach [] X.env)).all (fun x => x.1.isSome)
      && decide ([e].length + ([] : List Keyword).length + (if ([] : List Keyword).isEmpty then 0 else 1) < 30)) = true := by rfl)
    (hline : (apos.endLine == cpos.line) = true := by rfl) (hs : starEach [e] X.env = (false, eval e X.env) :: starEach [] X.env := by rfl) (hplain : (backTo cpos (starEach [] X.env)).any (·.1) = false := by rfl) :
    PE3 X (.Call (.Attribute o "pop" apos) [e] [] cpos) (pop3 ta tb) := by
  obtain ⟨t1, p1, q1⟩ := ho
  obtain ⟨t2, p2, q2⟩ := hb
  refine ⟨_, pe_bm PySem.F.plainAttrs_list PySem.F.slot_list_pop PySem.F.type_list_pop mt_popAt p1 (pa_cons p2 pa_nil hs) hbase hfew hline hs hplain, fun σ H ρ m P Q ok h k => ?_⟩
  refine q1 σ H ρ m _ _ ok h fun v H1 d m1 z1 s1 h1 r1 => ?_
  cases d with
  | ref l =>
    cases r1
    obtain ⟨⟨ds, e1⟩, z2⟩ := z1
    obtain ⟨xs, ex, rx⟩ := h1.lst e1
    refine ⟨.inl ⟨rfl, _, SqL.of ex⟩, ?_⟩
    refine q2 σ H1 ρ m1 _ _ (ok.mv s1 h1) z2 fun w H2 y m2 z3 s2 h2 r2 => ?_
    obtain ⟨ds2, kk, z, rfl, e2, hl, hz, z4⟩ := z3
    cases r2
    obtain ⟨ys, ey, ry⟩ := h2.lst e2
    obtain ⟨u, hu, ru⟩ := ry.get hz
    have hk : kk < ys.length := (List.getElem?_eq_some_iff.mp hu).1
    have hk2 : ys.length ≤ 16000 := by rw [ry.length]; exact hl
    refine ⟨l, ys, kk, kk, u, rfl, rfl, ey, by omega, by omega, ?_, hu, ?_⟩
    · unfold seqIndex?
      simp only [show ¬ ((kk : Int) < 0) by omega, if_false]
      rw [if_pos (by simp; omega)]
      simp
    · exact k _ _ _ _ z4 ((s1.trans s2).trans (step_set e2)) (hr_set h2 e2 (show Reps _ _ _ _ _ from ry.erase kk)) (ru.mv (step_set e2))
  | _ => exact (z1 : False).elim
end
end D3

set_option Elab.async false
set_option linter.all false
set_option maxRecDepth 100000
set_option maxHeartbeats 4000000
/-! Tn: terms with names: which stand in them, how many parts. -/
namespace LK
open PySem L2 D3 DyM
/-- a term whose names are of these -/
inductive Wn (N : List Str) : D → Prop
  | mk {d : D} {ps : List D} : inn d = some ps → (∀ x, d = .tup [.str "name", .str x] → x ∈ N) → (∀ p ∈ ps, Wn N p) → Wn N d
/-- a name stands in a term, not in limits of it alone -/
inductive Fre : D → Str → Prop
  | name {x : Str} : Fre (.tup [.str "name", .str x]) x
  | lim {nm : Str} {a b t : D} {x : Str} : x ≠ nm → Fre t x → Fre (.tup [.str "limit", .str nm, a, b, t]) x
  | part {h : Str} {r ps : List D} {p : D} {x : Str} : h ≠ "limit" → h ≠ "name" → inn (.tup (.str h :: r)) = some ps → p ∈ ps → Fre p x → Fre (.tup (.str h :: r)) x
theorem inn_lim {nm : Str} {a b t : D} {ps : List D} (h : inn (.tup [.str "limit", .str nm, a, b, t]) = some ps) : ps = [t] := by
  change inn2 "limit" [.str nm, a, b, t] = some ps at h
  rw [inn2_limit] at h
  simp only at h
  split at h
  · exact (Option.some.inj h).symm
  · cases h
theorem Fre.sub {N : List Str} {d : D} (w : Wn N d) : ∀ {x : Str}, Fre d x → x ∈ N := by
  induction w with
  | @mk d ps hi hn _ ih =>
    intro x f
    cases f with
    | name => exact hn x rfl
    | lim _ f =>
      have e := inn_lim hi
      subst e
      exact ih _ (by simp) f
    | part _ _ hi2 hp f =>
      rw [hi] at hi2
      cases hi2
      exact ih _ hp f
theorem Wn.more {N N' : List Str} (hs : ∀ x ∈ N, x ∈ N') {d : D} (w : Wn N d) : Wn N' d := by
  induction w with
  | mk hi hn _ ih => exact .mk hi (fun x e => hs x (hn x e)) ih
/-- how many parts, in so many floors -/
def cnt : Nat → D → Nat
  | 0, _ => 0
  | e + 1, d => 1 + (((inn d).getD []).map (cnt e)).sum
theorem inn_dp {d : D} {ps : List D} (h : inn d = some ps) : ∀ p ∈ ps, dp p < dp d := by
  obtain ⟨k, r, rfl, hm, _⟩ := inn_mem h
  intro p hp
  have := dps_mem (hm p hp)
  simp only [dp, dps]
  omega
theorem cnt_st : ∀ (e : Nat) (d : D), dp d < e → ∀ e', dp d < e' → cnt e' d = cnt e d
  | 0, _, h, _, _ => by omega
  | e + 1, d, h, 0, h' => by omega
  | e + 1, d, h, e' + 1, h' => by
    simp only [cnt]
    congr 2
    refine List.map_congr_left (fun p hp => ?_)
    cases hi : inn d with
    | none => rw [hi] at hp; cases hp
    | some ps =>
      rw [hi] at hp
      have := inn_dp hi p hp
      exact cnt_st e p (by omega) e' (by omega)
/-- how many parts -/
def cntD (d : D) : Nat := cnt (dp d + 1) d
theorem cntD_eq {d : D} {ps : List D} (h : inn d = some ps) : cntD d = 1 + (ps.map cntD).sum := by
  unfold cntD
  rw [cnt, h]
  congr 2
  refine List.map_congr_left (fun p hp => ?_)
  have := inn_dp h p hp
  exact cnt_st _ p (by omega) _ (by omega)
theorem cntD_pos {N : List Str} {d : D} (w : Wn N d) : 1 ≤ cntD d := by
  cases w with
  | mk hi _ _ => rw [cntD_eq hi]; omega
/-- names rising, each once -/
def Ris (ys : List Str) : Prop := ys.Nodup ∧ PyProof.Rows.sortedS ys = true
theorem ltC_asym : ∀ a b : List Nat, PySem.Spec.ltCps a b = true → PySem.Spec.ltCps b a = false
  | [], [], h => by cases h
  | [], _ :: _, _ => rfl
  | _ :: _, [], h => by cases h
  | x :: a, y :: b, h => by
    simp only [PySem.Spec.ltCps, Bool.or_eq_true, Bool.and_eq_true, decide_eq_true_eq, beq_iff_eq] at h
    simp only [PySem.Spec.ltCps, Bool.or_eq_false_iff, Bool.and_eq_false_iff, decide_eq_false_iff_not, beq_eq_false_iff_ne]
    rcases h with h | ⟨rfl, h⟩
    · exact ⟨by omega, .inl (by omega)⟩
    · exact ⟨by omega, .inr (ltC_asym a b h)⟩
theorem ltC_tot : ∀ a b : List Nat, PySem.Spec.ltCps a b = false → PySem.Spec.ltCps b a = false → a = b
  | [], [], _, _ => rfl
  | [], _ :: _, h, _ => (by cases h)
  | _ :: _, [], _, h => (by cases h)
  | x :: a, y :: b, h1, h2 => by
    simp only [PySem.Spec.ltCps, Bool.or_eq_false_iff, Bool.and_eq_false_iff, decide_eq_false_iff_not, beq_eq_false_iff_ne] at h1 h2
    have e : x = y := by omega
    subst e
    rw [ltC_tot a b (h1.2.elim (fun z => absurd rfl z) id) (h2.2.elim (fun z => absurd rfl z) id)]
theorem ltC_trans : ∀ a b c : List Nat, PySem.Spec.ltCps b a = false → PySem.Spec.ltCps c b = false → PySem.Spec.ltCps c a = false
  | [], [], [], _, _ => rfl
  | [], _, _ :: _, _, _ => by simp [PySem.Spec.ltCps]
  | [], _ :: _, [], _, h => by cases h
  | _ :: _, [], _, h, _ => (by cases h)
  | _ :: _, _ :: _, [], _, h => by cases h
  | x :: a, y :: b, z :: c, h1, h2 => by
    simp only [PySem.Spec.ltCps, Bool.or_eq_false_iff, Bool.and_eq_false_iff, decide_eq_false_iff_not, beq_eq_false_iff_ne] at h1 h2 ⊢
    refine ⟨by omega, ?_⟩
    by_cases e : z = x
    · subst e
      have e2 : y = z := by omega
      subst e2
      exact .inr (ltC_trans a b c (h1.2.elim (fun z => absurd rfl z) id) (h2.2.elim (fun z => absurd rfl z) id))
    · exact .inl e
def leS (a b : Str) : Prop := PySem.Spec.ltCps b.cps.toList a.cps.toList = false
theorem ris_pw : ∀ (x : Str) (ys : List Str), PyProof.Rows.risingS x ys = true → (x :: ys).Pairwise leS
  | x, [], _ => by simp
  | x, y :: ys, h => by
    simp only [PyProof.Rows.risingS, Bool.and_eq_true, Bool.not_eq_true'] at h
    have ih := ris_pw y ys h.2
    refine List.pairwise_cons.mpr ⟨fun z hz => ?_, ih⟩
    rcases (List.mem_cons.mp hz) with rfl | hz'
    · exact h.1
    · exact ltC_trans _ _ _ h.1 ((List.pairwise_cons.mp ih).1 z hz')
theorem sorted_pw (ys : List Str) (h : PyProof.Rows.sortedS ys = true) : ys.Pairwise leS := by
  cases ys with
  | nil => exact .nil
  | cons y ys => exact ris_pw y ys h
theorem leS_anti {a b : Str} (h1 : leS a b) (h2 : leS b a) : a = b := by
  have := ltC_tot _ _ h2 h1
  cases a; cases b
  simp only at this
  congr 1
  exact Array.toList_inj.mp this
/-- two such lists of the same names are one -/
theorem ris_one : ∀ (xs ys : List Str), xs.Pairwise leS → ys.Pairwise leS → xs.Nodup → ys.Nodup → (∀ z, z ∈ xs ↔ z ∈ ys) → xs = ys
  | [], [], _, _, _, _, _ => (rfl)
  | [], y :: ys, _, _, _, _, h => by have := (h y).mpr (by simp); cases this
  | x :: xs, [], _, _, _, _, h => by have := (h x).mp (by simp); cases this
  | x :: xs, y :: ys, p1, p2, n1, n2, h => by
    obtain ⟨a1, a2⟩ := List.pairwise_cons.mp p1
    obtain ⟨b1, b2⟩ := List.pairwise_cons.mp p2
    obtain ⟨c1, c2⟩ := List.nodup_cons.mp n1
    obtain ⟨d1, d2⟩ := List.nodup_cons.mp n2
    have e : x = y := by
      rcases List.mem_cons.mp ((h x).mp (by simp)) with e | hx
      · exact e
      rcases List.mem_cons.mp ((h y).mpr (by simp)) with e | hy
      · exact e.symm
      exact leS_anti (a1 y hy) (b1 x hx)
    subst e
    rw [ris_one xs ys a2 b2 c2 d2 fun z => ?_]
    constructor
    · intro hz
      rcases List.mem_cons.mp ((h z).mp (List.mem_cons_of_mem _ hz)) with e | hy
      · exact absurd (e ▸ hz) c1
      · exact hy
    · intro hz
      rcases List.mem_cons.mp ((h z).mpr (List.mem_cons_of_mem _ hz)) with e | hy
      · exact absurd (e ▸ hz) d1
      · exact hy
theorem Ris.one {xs ys : List Str} (h1 : Ris xs) (h2 : Ris ys) (h : ∀ z, z ∈ xs ↔ z ∈ ys) : xs = ys := ris_one xs ys (sorted_pw _ h1.2) (sorted_pw _ h2.2) h1.1 h2.1 h
theorem nd_len : ∀ (xs N : List Str), xs.Nodup → (∀ z ∈ xs, z ∈ N) → xs.length ≤ N.length
  | [], _, _, _ => (Nat.zero_le _)
  | x :: xs, N, hn, hs => by
    obtain ⟨n1, n2⟩ := List.nodup_cons.mp hn
    have := nd_len xs (N.erase x) n2 fun z hz => (List.mem_erase_of_ne (a := z) (b := x) (fun e => by subst e; exact n1 hz)).mpr (hs z (List.mem_cons_of_mem _ hz))
    have h2 := List.length_erase_of_mem (hs x (by simp))
    have h3 : 0 < N.length := List.length_pos_of_mem (hs x (by simp))
    simp only [List.length_cons]
    omega
end LK

set_option Elab.async false
set_option linter.all false
set_option maxRecDepth 100000
set_option maxHeartbeats 4000000
/-! Tl: a line of parts, each with the names that limits around it have. -/
namespace LK
open PySem L2 D3 DyM
/-- it has the look of a term -/
def isT : D → Bool
  | .tup (.str _ :: _) => true
  | _ => false
theorem wn_isT {N : List Str} {d : D} (w : Wn N d) : isT d = true := by
  cases w with
  | mk hi _ _ =>
    obtain ⟨k, r, rfl, _, _⟩ := inn_mem hi
    rfl
/-- what stands behind a term's kind -/
inductive Knd : D → Prop
  | t {k : Str} {r : List D} : Knd (.tup (.str k :: r))
  | f {a b : Int} : Knd (.tup [.int a, .int b])
  | s {x : Str} : Knd (.str x)
  | i {k : Int} : Knd (.int k)
theorem isT_knd {d : D} (h : isT d = true) : Knd d := by
  unfold isT at h
  split at h
  · exact .t
  · cases h
theorem fr_knd {d : D} (h : isFr d = true) : Knd d ∧ isT d = false := by
  obtain ⟨a, b, rfl, _, _⟩ := isFr_ex h
  exact ⟨.f, rfl⟩
theorem nm_knd {d : D} (h : isNm d = true) : Knd d ∧ isT d = false := by
  cases d with
  | str x => exact ⟨.s, rfl⟩
  | _ => simp [isNm] at h
theorem inn_fil {h : Str} {r ps : List D} (hi : inn2 h r = some ps) (hp : ∀ p ∈ ps, isT p = true) : r.filter isT = ps ∧ ∀ p ∈ r, Knd p := by
  unfold inn2 at hi
  have all : ∀ n, (if r.length = n then some r else none) = some ps → r.filter isT = ps ∧ ∀ p ∈ r, Knd p := by
    intro n h
    split at h
    · cases h
      exact ⟨List.filter_eq_self.mpr hp, fun p z => isT_knd (hp p z)⟩
    · cases h
  split at hi
  · exact all 2 hi
  split at hi
  · exact all 1 hi
  split at hi
  · split at hi
    · rename_i h0
      cases hi
      rw [List.length_eq_zero_iff] at h0
      subst h0
      exact ⟨rfl, fun p z => nomatch z⟩
    · cases hi
  split at hi
  · split at hi
    · split at hi
      · rename_i q hq
        cases hi
        have := fr_knd hq
        exact ⟨by simp [this.2], fun p z => by simp at z; subst z; exact this.1⟩
      · cases hi
    · cases hi
  split at hi
  · split at hi
    · split at hi
      · rename_i q hq
        cases hi
        have := nm_knd hq
        exact ⟨by simp [this.2], fun p z => by simp at z; subst z; exact this.1⟩
      · cases hi
    · cases hi
  split at hi
  · split at hi
    · split at hi
      · rename_i k t _
        cases hi
        have ht := hp t (by simp)
        exact ⟨by rw [List.filter_cons_of_neg (show ¬ isT (.int k) = true from Bool.false_ne_true), List.filter_cons_of_pos ht]; rfl, fun p z => by simp at z; rcases z with rfl | rfl; exact .i; exact isT_knd ht⟩
      · cases hi
    · cases hi
  split at hi
  · split at hi
    · split at hi
      · rename_i n a b t hq
        cases hi
        simp only [Bool.and_eq_true, decide_eq_true_eq] at hq
        have h1 := nm_knd hq.1
        have h2 := fr_knd hq.2.1
        have h3 := fr_knd hq.2.2.1
        have ht := hp t (by simp)
        exact ⟨by simp [h1.2, h2.2, h3.2, ht], fun p z => by simp at z; rcases z with rfl | rfl | rfl | rfl; exact h1.1; exact h2.1; exact h3.1; exact isT_knd ht⟩
      · cases hi
    · cases hi
  · cases hi
/-- the names around the parts -/
def innr (d : D) (h : List Str) : List Str := match d with
  | .tup (.str k :: .str nm :: _) => if k = "limit" then h ++ [nm] else h
  | _ => h
abbrev Jb := D × List Str
def jobD (j : Jb) : D := .tup [j.1, .lst (j.2.map D.str)]
theorem job_fre {N : List Str} {d : D} {ps : List D} {h : List Str} (w : Wn N d) (hi : inn d = some ps) (x : Str) : (Fre d x ∧ x ∉ h) ↔ ((d = .tup [.str "name", .str x] ∧ x ∉ h) ∨ ∃ p ∈ ps, Fre p x ∧ x ∉ innr d h) := by
  obtain ⟨k, r, rfl, hm, _⟩ := inn_mem hi
  constructor
  · rintro ⟨f, hx⟩
    cases f with
    | name => exact .inl ⟨rfl, hx⟩
    | @lim nm a b t _ hne f =>
      have e := inn_lim hi
      subst e
      refine .inr ⟨t, by simp, f, ?_⟩
      show x ∉ h ++ [nm]
      simp [hx, hne]
    | part n1 n2 hi2 hp f =>
      rw [hi] at hi2
      cases hi2
      refine .inr ⟨_, hp, f, ?_⟩
      unfold innr
      split
      · rename_i e
        obtain ⟨e1, _⟩ := List.cons.inj (D.tup.inj e)
        cases e1
        rw [if_neg n1]
        exact hx
      · exact hx
  · rintro (⟨e, hx⟩ | ⟨p, hp, f, hx⟩)
    · rw [e]
      exact ⟨.name, hx⟩
    · by_cases e2 : k = "limit"
      · subst e2
        have hi2 : inn2 "limit" r = some ps := hi
        rw [inn2_limit] at hi2
        split at hi2
        · rename_i n a b t
          split at hi2
          · rename_i hq
            have e3 := Option.some.inj hi2
            subst e3
            rw [Bool.and_eq_true] at hq
            cases n with
            | str nm =>
              simp at hp
              subst hp
              have hx2 : x ∉ h ++ [nm] := hx
              simp at hx2
              exact ⟨.lim hx2.2 f, hx2.1⟩
            | _ => exact absurd hq.1 (by simp [isNm])
          · cases hi2
        · cases hi2
      · have e1 : k ≠ "name" := fun e => by
          subst e
          have hi2 : inn2 "name" r = some ps := hi
          rw [inn2_name] at hi2
          split at hi2
          · split at hi2
            · cases hi2; cases hp
            · cases hi2
          · cases hi2
        refine ⟨.part e2 e1 hi hp f, ?_⟩
        unfold innr at hx
        split at hx
        · rename_i e
          obtain ⟨e3, _⟩ := List.cons.inj (D.tup.inj e)
          cases e3
          rw [if_neg e2] at hx
          exact hx
        · exact hx
/-! ### drawn terms -/
theorem Wt.wn {ns : List Str} (hn : ∀ x ∈ ns, isNm (.str x) = true) {e : Nat} {d : D} (h : Wt ns e d) : Wn ns d := by
  induction h with
  | @num e a b h1 h2 _ _ =>
    refine .mk (ps := []) ?_ (fun x e => ?_) (fun p hp => nomatch hp)
    · show inn2 "number" _ = _
      rw [inn2_number]
      simp only [isFr, decide_eq_true (show 0 < b ∧ Int.gcd a b = 1 from ⟨h1, h2⟩), if_true]
    · simp only [D.tup.injEq, List.cons.injEq, D.str.injEq] at e
      exact absurd e.1 (by decide)
  | @name e x hx =>
    refine .mk (ps := []) ?_ (fun y e => ?_) (fun p hp => nomatch hp)
    · show inn2 "name" _ = _
      rw [inn2_name]
      simp only [hn x hx, if_true]
    · simp only [D.tup.injEq, List.cons.injEq, D.str.injEq, and_true, true_and] at e
      exact e ▸ hx
  | @pi e =>
    refine .mk (ps := []) ?_ (fun x e => ?_) (fun p hp => nomatch hp)
    · show inn2 "pi" _ = _
      rw [inn2_pi]
      rfl
    · simp only [D.tup.injEq, List.cons.injEq, D.str.injEq, reduceCtorEq, and_false] at e
  | @two e k a b hk _ _ i1 i2 =>
    refine .mk (ps := [a, b]) ?_ (fun x e => ?_) (fun p hp => ?_)
    · show inn2 k _ = _
      rw [inn2_K2 hk, if_pos (show [a, b].length = 2 from rfl)]
    · simp only [D.tup.injEq, List.cons.injEq, reduceCtorEq, and_false] at e
    · simp at hp
      rcases hp with rfl | rfl
      · exact i1
      · exact i2
  | @one e k a hk _ i1 =>
    refine .mk (ps := [a]) ?_ (fun x e => ?_) (fun p hp => ?_)
    · show inn2 k _ = _
      rw [inn2_K1 hk, if_pos (show [a].length = 1 from rfl)]
    · simp only [D.tup.injEq, List.cons.injEq, D.str.injEq] at e
      have e1 := e.1
      subst e1
      exact absurd hk (by decide)
    · simp at hp
      subst hp
      exact i1
  | @root e k a h1 h2 _ i1 =>
    refine .mk (ps := [a]) ?_ (fun x e => ?_) (fun p hp => ?_)
    · show inn2 "root" _ = _
      rw [inn2_root]
      simp only
      rw [if_pos ⟨h1, h2⟩]
    · simp only [D.tup.injEq, List.cons.injEq, D.str.injEq] at e
      exact absurd e.1 (by decide)
    · simp at hp
      subst hp
      exact i1
theorem WLim.wn {nm : Str} {ns : List Str} (hn : ∀ x ∈ nm :: ns, isNm (.str x) = true) {d : D} (h : WLim nm ns d) : Wn (nm :: ns) d := by
  obtain ⟨a, b, c, e, body, rfl, h1, h2, h3, h4⟩ := h
  refine .mk (ps := [body]) ?_ (fun x e => ?_) (fun p hp => ?_)
  · show inn2 "limit" _ = _
    rw [inn2_limit]
    simp only [isFr, frLt, hn nm (by simp), decide_eq_true (show 0 < b ∧ Int.gcd a b = 1 from ⟨h1.pos, h1.g⟩), decide_eq_true (show 0 < e ∧ Int.gcd c e = 1 from ⟨h2.pos, h2.g⟩), decide_eq_true h3, Bool.and_self, if_true, decide_true]
  · simp only [D.tup.injEq, List.cons.injEq, D.str.injEq] at e
    exact absurd e.1 (by decide)
  · simp at hp
    subst hp
    exact h4.wn hn
end LK
namespace LK
open PySem L2 D3 DyM
theorem inn_two {k : Str} {a b : D} (h : k ∈ K2) : inn (.tup [.str k, a, b]) = some [a, b] := by
  show inn2 k [a, b] = _
  rw [inn2_K2 h, if_pos (show [a, b].length = 2 from rfl)]
theorem inn_one {k : Str} {a : D} (h : k ∈ K1) : inn (.tup [.str k, a]) = some [a] := by
  show inn2 k [a] = _
  rw [inn2_K1 h, if_pos (show [a].length = 1 from rfl)]
theorem inn_nm {x : Str} (h : isNm (.str x) = true) : inn (.tup [.str "name", .str x]) = some [] := by
  show inn2 "name" [.str x] = _
  rw [inn2_name]
  simp only [h, if_true]
theorem cnt_two {k : Str} {a b : D} (h : k ∈ K2) : cntD (.tup [.str k, a, b]) = 1 + (cntD a + cntD b) := by rw [cntD_eq (inn_two h)]; simp
theorem cnt_one {k : Str} {a : D} (h : k ∈ K1) : cntD (.tup [.str k, a]) = 1 + cntD a := by rw [cntD_eq (inn_one h)]; simp
theorem cnt_nm {x : Str} (h : isNm (.str x) = true) : cntD (.tup [.str "name", .str x]) = 1 := by rw [cntD_eq (inn_nm h)]; simp
theorem wt_cnt {ns : List Str} (hn : ∀ x ∈ ns, isNm (.str x) = true) {e : Nat} {d : D} (h : Wt ns e d) : cntD d + 1 ≤ 2 ^ e := by
  induction h with
  | @num e a b h1 h2 _ _ =>
    have hi : inn (.tup [.str "number", .tup [.int a, .int b]]) = some [] := by
      show inn2 "number" _ = _
      rw [inn2_number]
      simp only [isFr, decide_eq_true (show 0 < b ∧ Int.gcd a b = 1 from ⟨h1, h2⟩), if_true]
    rw [cntD_eq hi]
    have : 1 ≤ 2 ^ e := Nat.one_le_two_pow
    simp [Nat.pow_succ]; omega
  | @name e x hx =>
    rw [cnt_nm (hn x hx)]
    have : 1 ≤ 2 ^ e := Nat.one_le_two_pow
    rw [Nat.pow_succ]; omega
  | @pi e =>
    have hi : inn (.tup [.str "pi"]) = some [] := by
      show inn2 "pi" _ = _
      rw [inn2_pi]
      rfl
    rw [cntD_eq hi]
    have : 1 ≤ 2 ^ e := Nat.one_le_two_pow
    simp [Nat.pow_succ]; omega
  | @two e k a b hk _ _ i1 i2 => rw [cnt_two hk, Nat.pow_succ]; omega
  | @one e k a hk _ i1 =>
    rw [cnt_one hk]
    have : 1 ≤ 2 ^ e := Nat.one_le_two_pow
    rw [Nat.pow_succ]; omega
  | @root e k a h1 h2 _ i1 =>
    have hi : inn (.tup [.str "root", .int k, a]) = some [a] := by
      show inn2 "root" _ = _
      rw [inn2_root]
      simp only
      rw [if_pos ⟨h1, h2⟩]
    rw [cntD_eq hi]
    have : 1 ≤ 2 ^ e := Nat.one_le_two_pow
    simp [Nat.pow_succ]; omega
theorem lim_cnt {nm : Str} {ns : List Str} (hn : ∀ x ∈ nm :: ns, isNm (.str x) = true) {d : D} (h : WLim nm ns d) : cntD d ≤ 16 := by
  have hw := h.wn hn
  obtain ⟨a, b, c, e, body, rfl, h1, h2, h3, h4⟩ := h
  have hc := wt_cnt hn h4
  cases hw with
  | mk hi _ _ =>
    have e1 := inn_lim hi
    subst e1
    rw [cntD_eq hi]
    simp
    omega
theorem wn_two {N : List Str} {k : Str} {a b : D} (h : k ∈ K2) (ha : Wn N a) (hb : Wn N b) : Wn N (.tup [.str k, a, b]) :=
  .mk (inn_two h) (fun x e => by simp only [D.tup.injEq, List.cons.injEq, reduceCtorEq, and_false] at e) fun p hp => by
    simp at hp
    rcases hp with rfl | rfl
    · exact ha
    · exact hb
theorem wn_one {N : List Str} {k : Str} {a : D} (h : k ∈ K1) (ha : Wn N a) : Wn N (.tup [.str k, a]) :=
  .mk (inn_one h) (fun x e => by
    simp only [D.tup.injEq, List.cons.injEq, D.str.injEq] at e
    have e1 := e.1
    subst e1
    exact absurd h (by decide)) fun p hp => by
    simp at hp
    subst hp
    exact ha
theorem wn_nm {N : List Str} {x : Str} (h : isNm (.str x) = true) (hx : x ∈ N) : Wn N (.tup [.str "name", .str x]) :=
  .mk (inn_nm h) (fun y e => by
    simp only [D.tup.injEq, List.cons.injEq, D.str.injEq, and_true, true_and] at e
    exact e ▸ hx) fun p hp => nomatch hp
theorem fre_two {k : Str} {a b : D} {x : Str} (h : k ∈ K2) (h1 : k ≠ "limit") (h2 : k ≠ "name") : Fre (.tup [.str k, a, b]) x ↔ Fre a x ∨ Fre b x := by
  constructor
  · intro f
    generalize ed : (D.tup [.str k, a, b]) = d at f
    cases f with
    | name => simp only [D.tup.injEq, List.cons.injEq, reduceCtorEq, and_false] at ed
    | lim _ _ =>
      simp only [D.tup.injEq, List.cons.injEq, D.str.injEq] at ed
      exact absurd ed.1 h1
    | part _ _ hi hp f =>
      rw [← ed, inn_two h] at hi
      cases hi
      simp at hp
      rcases hp with rfl | rfl
      · exact .inl f
      · exact .inr f
  · rintro (f | f)
    · exact .part h1 h2 (inn_two h) (by simp) f
    · exact .part h1 h2 (inn_two h) (by simp) f
theorem fre_nm {n x : Str} : Fre (.tup [.str "name", .str n]) x ↔ x = n := by
  constructor
  · intro f
    cases f with
    | name => rfl
    | part _ h _ _ _ => exact absurd rfl h
  · rintro rfl
    exact .name
end LK

namespace LK
open PySem L2 D3 DyM
def topS (i : Nat) : Stmt := PySem.Challenge.pw_lazyreal_k22_whole_parts_and_names.main.body.getD i (.Pass ⟨0, 0, 0, 0⟩)
abbrev s_is_whole : Stmt := topS 1
theorem sc_is_whole : FnScope ["thing"] ["thing"] (defScope s_is_whole) := ⟨rfl, rfl, rfl, by decide +kernel, rfl, by decide +kernel, by decide +kernel⟩
abbrev s_divisor : Stmt := topS 13
theorem sc_divisor : FnScope ["one", "other"] ["one", "other"] (defScope s_divisor) := ⟨rfl, rfl, rfl, by decide +kernel, rfl, by decide +kernel, by decide +kernel⟩
abbrev s_is_fraction : Stmt := topS 15
theorem sc_is_fraction : FnScope ["thing"] ["thing"] (defScope s_is_fraction) := ⟨rfl, rfl, rfl, by decide +kernel, rfl, by decide +kernel, by decide +kernel⟩
abbrev s_is_less_fraction : Stmt := topS 16
theorem sc_is_less_fraction : FnScope ["one", "other"] ["one", "other"] (defScope s_is_less_fraction) := ⟨rfl, rfl, rfl, by decide +kernel, rfl, by decide +kernel, by decide +kernel⟩
abbrev s_is_name : Stmt := topS 65
theorem sc_is_name : FnScope ["thing", "sign"] ["thing"] (defScope s_is_name) := ⟨rfl, rfl, rfl, by decide +kernel, rfl, by decide +kernel, by decide +kernel⟩
abbrev s_parts_within : Stmt := topS 66
theorem sc_parts_within : FnScope ["thing", "head", "rest"] ["thing"] (defScope s_parts_within) := ⟨rfl, rfl, rfl, by decide +kernel, rfl, by decide +kernel, by decide +kernel⟩
abbrev s_parts_of : Stmt := topS 67
theorem sc_parts_of : FnScope ["term", "total", "part"] ["term"] (defScope s_parts_of) := ⟨rfl, rfl, rfl, by decide +kernel, rfl, by decide +kernel, by decide +kernel⟩
abbrev s_names_of : Stmt := topS 68
theorem sc_names_of : FnScope ["term", "met", "part", "name"] ["term"] (defScope s_names_of) := ⟨rfl, rfl, rfl, by decide +kernel, rfl, by decide +kernel, by decide +kernel⟩
abbrev s_law_deck : Stmt := topS 70
theorem sc_law_deck : FnScope ["cell", "turn"] ["cell", "turn"] (defScope s_law_deck) := ⟨rfl, rfl, rfl, by decide +kernel, rfl, by decide +kernel, by decide +kernel⟩
abbrev s_law_pick : Stmt := topS 71
theorem sc_law_pick : FnScope ["deck", "many", "found", "number"] ["deck", "many"] (defScope s_law_pick) := ⟨rfl, rfl, rfl, by decide +kernel, rfl, by decide +kernel, by decide +kernel⟩
abbrev s_law_fraction : Stmt := topS 72
theorem sc_law_fraction : FnScope ["top", "bottom", "one", "other"] ["top", "bottom"] (defScope s_law_fraction) := ⟨rfl, rfl, rfl, by decide +kernel, rfl, by decide +kernel, by decide +kernel⟩
abbrev s_law_leaf : Stmt := topS 73
theorem sc_law_leaf : FnScope ["deck", "names", "way", "bottom"] ["deck", "names"] (defScope s_law_leaf) := ⟨rfl, rfl, rfl, by decide +kernel, rfl, by decide +kernel, by decide +kernel⟩
abbrev s_law_term : Stmt := topS 74
theorem sc_law_term : FnScope ["deck", "deep", "names", "way", "one", "kind"] ["deck", "deep", "names"] (defScope s_law_term) := ⟨rfl, rfl, rfl, by decide +kernel, rfl, by decide +kernel, by decide +kernel⟩
abbrev s_law_limit : Stmt := topS 75
theorem sc_law_limit : FnScope ["deck", "name", "names", "here", "some", "half", "bodies", "low", "high", "body"] ["deck", "name", "names"] (defScope s_law_limit) := ⟨rfl, rfl, rfl, by decide +kernel, rfl, by decide +kernel, by decide +kernel⟩
abbrev s_law_walk : Stmt := topS 76
theorem sc_law_walk : FnScope ["term", "line", "at", "here", "held", "inner", "part"] ["term"] (defScope s_law_walk) := ⟨rfl, rfl, rfl, by decide +kernel, rfl, by decide +kernel, by decide +kernel⟩
abbrev s_law_right : Stmt := topS 77
theorem sc_law_right : FnScope ["term", "line", "due", "here", "held", "turn", "told"] ["term"] (defScope s_law_right) := ⟨rfl, rfl, rfl, by decide +kernel, rfl, by decide +kernel, by decide +kernel⟩
abbrev s_law : Stmt := topS 78
theorem sc_law : FnScope ["script", "cell", "deck", "names", "turn", "one", "other", "both"] ["script"] (defScope s_law) := ⟨rfl, rfl, rfl, by decide +kernel, rfl, by decide +kernel, by decide +kernel⟩
/-- what the top has left -/
structure Tx (w : World) (K : PySem.W.Frag) (mg : Str → Option Value) (fa : Nat → Addr) (fd : Nat → FuncData) : Prop where
  d_is_whole : Def K mg "is_whole" s_is_whole ["thing"] (fa 0) (fd 0)
  d_divisor : Def K mg "divisor" s_divisor ["one", "other"] (fa 1) (fd 1)
  d_is_fraction : Def K mg "is_fraction" s_is_fraction ["thing"] (fa 2) (fd 2)
  d_is_less_fraction : Def K mg "is_less_fraction" s_is_less_fraction ["one", "other"] (fa 3) (fd 3)
  d_is_name : Def K mg "is_name" s_is_name ["thing"] (fa 4) (fd 4)
  d_parts_within : Def K mg "parts_within" s_parts_within ["thing"] (fa 5) (fd 5)
  d_parts_of : Def K mg "parts_of" s_parts_of ["term"] (fa 6) (fd 6)
  d_names_of : Def K mg "names_of" s_names_of ["term"] (fa 7) (fd 7)
  d_law_deck : Def K mg "_law_deck" s_law_deck ["cell", "turn"] (fa 8) (fd 8)
  d_law_pick : Def K mg "_law_pick" s_law_pick ["deck", "many"] (fa 9) (fd 9)
  d_law_fraction : Def K mg "_law_fraction" s_law_fraction ["top", "bottom"] (fa 10) (fd 10)
  d_law_leaf : Def K mg "_law_leaf" s_law_leaf ["deck", "names"] (fa 11) (fd 11)
  d_law_term : Def K mg "_law_term" s_law_term ["deck", "deep", "names"] (fa 12) (fd 12)
  d_law_limit : Def K mg "_law_limit" s_law_limit ["deck", "name", "names"] (fa 13) (fd 13)
  d_law_walk : Def K mg "_law_walk" s_law_walk ["term"] (fa 14) (fd 14)
  d_law_right : Def K mg "_law_right" s_law_right ["term"] (fa 15) (fd 15)
  d_law : Def K mg "law" s_law ["script"] (fa 16) (fd 16)
  b_abs : mg "abs" = none
  b_all : mg "all" = none
  b_bool : mg "bool" = none
  b_int : mg "int" = none
  b_isinstance : mg "isinstance" = none
  b_len : mg "len" = none
  b_list : mg "list" = none
  b_range : mg "range" = none
  b_set : mg "set" = none
  b_sorted : mg "sorted" = none
  b_str : mg "str" = none
  b_tuple : mg "tuple" = none
  c_LONGEST_NAME : ∃ t, mg "LONGEST_NAME" = some (.int 8 t)
  u_LETTERS : ∃ t, mg "LETTERS" = some (.str "abcdefghijklmnopqrstuvwxyz" t)
  t_KINDS_OF_ONE : ∃ d, mg "KINDS_OF_ONE" = some (.ref d) ∧ He.dicW K d = some (He.keysIn w.params ["size", "e", "log", "arc", "sine", "cosine"])
  t_KINDS_OF_TWO : ∃ d, mg "KINDS_OF_TWO" = some (.ref d) ∧ He.dicW K d = some (He.keysIn w.params ["plus", "minus", "times", "over", "least", "most"])
section
variable {P : Program} {w : World} {K : PySem.W.Frag} {mg : Str → Option Value} {base : Heap} {fa : Nat → Addr} {fd : Nat → FuncData}
def wh : D → Bool
  | .int _ => true
  | _ => false
def sp_isw : Sp3 := fun ds m P => ∃ (d : D) (b : Nat), ds = [d] ∧ Pl b d ∧ P (.bl (wh d)) m
theorem ok_is_whole (T : Tx w K mg fa fd) : Fn3 P w K mg base 1 (fa 0) (fd 0) ["thing"] sp_isw := by
  refine fn3 T.d_is_whole.F sc_is_whole (fun ds m Q h => by obtain ⟨_, _, rfl, _⟩ := h; rfl) fun cdv A outer s H E ds m Q hr h => ?_
  obtain ⟨d, b, rfl, hp, q⟩ := h
  refine ⟨_, (ss_one (s_ret (e_and (e_isi rfl T.b_isinstance (e_v 0) (e_type rfl T.b_int PyProof.Rows.boot_int)) (e_one (e_not (e_isi rfl T.b_isinstance (e_v 0) (e_type rfl T.b_bool PyProof.Rows.boot_bool))))))), ?_⟩
  cases d <;> first | (exact (hp : False).elim) | ((try simp -implicitDefEqProofs -dsimp only [seq3, ↓D3.ifS3.eq_1, ↓D3.b3.eq_1, ↓D3.op3.eq_1, ↓D3.un3.eq_1, ↓D3.v3.eq_1, ↓D3.c3.eq_1, fIx_tup, fIx_lst, at3_0, at3_1, at3_2, at3_3, at3_4, at3_5, at3_6, start3, fI0_i, fI_i, fLt, fLe, fGt, fGe, fEqI, fNeI, fMin, fMax, ↓D3.asg3.eq_1, ↓D3.name3.eq_1, ↓D3.sub3.eq_1, ↓D3.ret3.eq_1, ↓D3.retN3.eq_1, ↓D3.nx3.eq_1, ↓D3.drop3.eq_1, ↓D3.par3.eq_1, ↓D3.aug3.eq_1, ↓D3.and3.eq_1, ↓D3.or3.eq_1, ↓D3.not3.eq_1, ↓D3.andV3.eq_1, ↓D3.orV3.eq_1, ↓D3.notV3.eq_1, ↓D3.if3.eq_1, ↓D3.nil3.eq_1, ↓D3.cons3.eq_1, ↓D3.tup3.eq_1, ↓D3.lst3.eq_1, ↓D3.lstM3.eq_1, ↓D3.gtup3.eq_1, ↓D3.gcons3.eq_1, ↓D3.gnil3.eq_1, ↓D3.gunl3.eq_1, ↓D3.bits3.eq_1, ↓D3.neg3.eq_1, ↓D3.chain3.eq_1, fIsi_int_int, fIsi_int_bool, fIsi_int_tuple, fIsi_int_str, fIsi_int_list, fIsi_bl_int, fIsi_bl_bool, fIsi_bl_tuple, fIsi_bl_str, fIsi_bl_list, fIsi_non_int, fIsi_non_bool, fIsi_non_tuple, fIsi_non_str, fIsi_non_list, fIsi_str_int, fIsi_str_bool, fIsi_str_tuple, fIsi_str_str, fIsi_str_list, fIsi_tup_int, fIsi_tup_bool, fIsi_tup_tuple, fIsi_tup_str, fIsi_tup_list, fIsi_lst_int, fIsi_lst_bool, fIsi_lst_tuple, fIsi_lst_str, fIsi_lst_list, fLen_lst, fLen_tup, fAbs, ↓D3.call3_k, ↓D3.kont_app, ↓D3.isN3.eq_1, ↓D3.notN3.eq_1, dIsN_non, dIsN_int, dIsN_bl, dIsN_str, dIsN_tup, dIsN_lst, ↓D3.slc3.eq_1, ↓D3.part3.eq_1, ↓D3.noPart3.eq_1, ↓D3.ilst3.eq_1, ↓D3.itup3.eq_1, ↓D3.irng1.eq_1, ↓D3.irng2.eq_1, ↓D3.for3.eq_1, fCat, fEq_int, fNe_int, fEq_bl, fNe_bl, fEq_pair, fNe_pair, List.map, List.replicate, List.length_cons, List.length_nil, List.set_cons_zero, List.set_cons_succ, List.getElem?_cons_zero, List.getElem?_cons_succ, List.cons_append, List.nil_append, at_0, at_1, at_2, at_3, at_4, at_5, at_6, ix_0, ix_1, ix_2, put_same, put_put, decide_eq_true_eq, Bool.not_eq_true', decide_eq_false_iff_not, ite_not, ite_true, ite_false, if_true, if_false, Bool.false_eq_true, ↓reduceIte, reduceIte, Nat.reduceAdd, Nat.reduceSub, Int.reduceToNat, Nat.reduceLeDiff, not_false_eq_true, true_and, and_true, ne_eq, Int.reduceEq, Nat.zero_add, Bool.not_true, Bool.not_false, reduceCtorEq, nc0, nc1, nc2, nc3, nc4, nc5, fIx_ref put_same, fLen_ref put_same, ↓D3.lc3.eq_1, fInt, fTuple, fList, fNeS_s, fEqS_s, ↓D3.gstar3.eq_1, fInK_s, fNinK_s, fLenS_s, ↓D3.slcT3.eq_1, fCatT_t, ↓D3.app3.eq_1, ↓D3.frz3.eq_1, ↓D3.dc23.eq_1, ↓D3.lcT3.eq_1, ↓D3.litRep3.eq_1, ↓D3.litRepM3.eq_1, ↓D3.rev3.eq_1, ↓D3.dget3.eq_1, ↓D3.disp3.eq_1, ↓D3.ienum3.eq_1, pop3, sset3]); exact q)
def sp_divisor : Sp3 := fun ds m P => ∃ a b : Int, ds = [.int a, .int b] ∧ 0 ≤ a ∧ 0 ≤ b ∧ P (.int (Int.gcd a b : Nat)) m
theorem ok_divisor (T : Tx w K mg fa fd) : Fn3 P w K mg base 1 (fa 1) (fd 1) ["one", "other"] sp_divisor := by
  refine fn3 T.d_divisor.F sc_divisor (fun ds m Q h => by obtain ⟨_, _, rfl, _⟩ := h; rfl) fun cdv A outer s H E ds m Q hr h => ?_
  obtain ⟨a, b, rfl, ha, hb, q⟩ := h
  refine ⟨_, (ss_cons (s_while PassesOwn.never (t_neI (e_v 1) e_int) (ss_one (s_par (i := 0) (j := 1) rfl sc_divisor.nd rfl rfl (by decide) rfl rfl (a_cons (e_v 1) (a_cons (e_mod (e_v 0) (e_v 1)) a_nil)) (by rfl))))
      (ss_one (s_ret (e_v 0)))), ?_⟩
  try simp -implicitDefEqProofs -dsimp only [seq3, ↓D3.ifS3.eq_1, ↓D3.b3.eq_1, ↓D3.op3.eq_1, ↓D3.un3.eq_1, ↓D3.v3.eq_1, ↓D3.c3.eq_1, fIx_tup, fIx_lst, at3_0, at3_1, at3_2, at3_3, at3_4, at3_5, at3_6, start3, fI0_i, fI_i, fLt, fLe, fGt, fGe, fEqI, fNeI, fMin, fMax, ↓D3.asg3.eq_1, ↓D3.name3.eq_1, ↓D3.sub3.eq_1, ↓D3.ret3.eq_1, ↓D3.retN3.eq_1, ↓D3.nx3.eq_1, ↓D3.drop3.eq_1, ↓D3.par3.eq_1, ↓D3.aug3.eq_1, ↓D3.and3.eq_1, ↓D3.or3.eq_1, ↓D3.not3.eq_1, ↓D3.andV3.eq_1, ↓D3.orV3.eq_1, ↓D3.notV3.eq_1, ↓D3.if3.eq_1, ↓D3.nil3.eq_1, ↓D3.cons3.eq_1, ↓D3.tup3.eq_1, ↓D3.lst3.eq_1, ↓D3.lstM3.eq_1, ↓D3.gtup3.eq_1, ↓D3.gcons3.eq_1, ↓D3.gnil3.eq_1, ↓D3.gunl3.eq_1, ↓D3.bits3.eq_1, ↓D3.neg3.eq_1, ↓D3.chain3.eq_1, fIsi_int_int, fIsi_int_bool, fIsi_int_tuple, fIsi_int_str, fIsi_int_list, fIsi_bl_int, fIsi_bl_bool, fIsi_bl_tuple, fIsi_bl_str, fIsi_bl_list, fIsi_non_int, fIsi_non_bool, fIsi_non_tuple, fIsi_non_str, fIsi_non_list, fIsi_str_int, fIsi_str_bool, fIsi_str_tuple, fIsi_str_str, fIsi_str_list, fIsi_tup_int, fIsi_tup_bool, fIsi_tup_tuple, fIsi_tup_str, fIsi_tup_list, fIsi_lst_int, fIsi_lst_bool, fIsi_lst_tuple, fIsi_lst_str, fIsi_lst_list, fLen_lst, fLen_tup, fAbs, ↓D3.call3_k, ↓D3.kont_app, ↓D3.isN3.eq_1, ↓D3.notN3.eq_1, dIsN_non, dIsN_int, dIsN_bl, dIsN_str, dIsN_tup, dIsN_lst, ↓D3.slc3.eq_1, ↓D3.part3.eq_1, ↓D3.noPart3.eq_1, ↓D3.ilst3.eq_1, ↓D3.itup3.eq_1, ↓D3.irng1.eq_1, ↓D3.irng2.eq_1, ↓D3.for3.eq_1, fCat, fEq_int, fNe_int, fEq_bl, fNe_bl, fEq_pair, fNe_pair, List.map, List.replicate, List.length_cons, List.length_nil, List.set_cons_zero, List.set_cons_succ, List.getElem?_cons_zero, List.getElem?_cons_succ, List.cons_append, List.nil_append, at_0, at_1, at_2, at_3, at_4, at_5, at_6, ix_0, ix_1, ix_2, put_same, put_put, decide_eq_true_eq, Bool.not_eq_true', decide_eq_false_iff_not, ite_not, ite_true, ite_false, if_true, if_false, Bool.false_eq_true, ↓reduceIte, reduceIte, Nat.reduceAdd, Nat.reduceSub, Int.reduceToNat, Nat.reduceLeDiff, not_false_eq_true, true_and, and_true, ne_eq, Int.reduceEq, Nat.zero_add, Bool.not_true, Bool.not_false, reduceCtorEq, nc0, nc1, nc2, nc3, nc4, nc5, fIx_ref put_same, fLen_ref put_same, ↓D3.lc3.eq_1, fInt, fTuple, fList, fNeS_s, fEqS_s, ↓D3.gstar3.eq_1, fInK_s, fNinK_s, fLenS_s, ↓D3.slcT3.eq_1, fCatT_t, ↓D3.app3.eq_1, ↓D3.frz3.eq_1, ↓D3.dc23.eq_1, ↓D3.lcT3.eq_1, ↓D3.litRep3.eq_1, ↓D3.litRepM3.eq_1, ↓D3.rev3.eq_1, ↓D3.dget3.eq_1, ↓D3.disp3.eq_1, ↓D3.ienum3.eq_1, pop3, sset3]
  refine ⟨fun n ρ m' => ∃ x y : Int, ρ = [some (.int x), some (.int y)] ∧ m' = m ∧ 0 ≤ x ∧ 0 ≤ y ∧ n = y.toNat ∧ Int.gcd x y = Int.gcd a b, ⟨_, _, _, rfl, rfl, ha, hb, rfl, rfl⟩, ?_⟩
  rintro n ρ m' ⟨x, y, rfl, rfl, hx, hy, rfl, hg⟩
  try simp -implicitDefEqProofs -dsimp only [seq3, ↓D3.ifS3.eq_1, ↓D3.b3.eq_1, ↓D3.op3.eq_1, ↓D3.un3.eq_1, ↓D3.v3.eq_1, ↓D3.c3.eq_1, fIx_tup, fIx_lst, at3_0, at3_1, at3_2, at3_3, at3_4, at3_5, at3_6, start3, fI0_i, fI_i, fLt, fLe, fGt, fGe, fEqI, fNeI, fMin, fMax, ↓D3.asg3.eq_1, ↓D3.name3.eq_1, ↓D3.sub3.eq_1, ↓D3.ret3.eq_1, ↓D3.retN3.eq_1, ↓D3.nx3.eq_1, ↓D3.drop3.eq_1, ↓D3.par3.eq_1, ↓D3.aug3.eq_1, ↓D3.and3.eq_1, ↓D3.or3.eq_1, ↓D3.not3.eq_1, ↓D3.andV3.eq_1, ↓D3.orV3.eq_1, ↓D3.notV3.eq_1, ↓D3.if3.eq_1, ↓D3.nil3.eq_1, ↓D3.cons3.eq_1, ↓D3.tup3.eq_1, ↓D3.lst3.eq_1, ↓D3.lstM3.eq_1, ↓D3.gtup3.eq_1, ↓D3.gcons3.eq_1, ↓D3.gnil3.eq_1, ↓D3.gunl3.eq_1, ↓D3.bits3.eq_1, ↓D3.neg3.eq_1, ↓D3.chain3.eq_1, fIsi_int_int, fIsi_int_bool, fIsi_int_tuple, fIsi_int_str, fIsi_int_list, fIsi_bl_int, fIsi_bl_bool, fIsi_bl_tuple, fIsi_bl_str, fIsi_bl_list, fIsi_non_int, fIsi_non_bool, fIsi_non_tuple, fIsi_non_str, fIsi_non_list, fIsi_str_int, fIsi_str_bool, fIsi_str_tuple, fIsi_str_str, fIsi_str_list, fIsi_tup_int, fIsi_tup_bool, fIsi_tup_tuple, fIsi_tup_str, fIsi_tup_list, fIsi_lst_int, fIsi_lst_bool, fIsi_lst_tuple, fIsi_lst_str, fIsi_lst_list, fLen_lst, fLen_tup, fAbs, ↓D3.call3_k, ↓D3.kont_app, ↓D3.isN3.eq_1, ↓D3.notN3.eq_1, dIsN_non, dIsN_int, dIsN_bl, dIsN_str, dIsN_tup, dIsN_lst, ↓D3.slc3.eq_1, ↓D3.part3.eq_1, ↓D3.noPart3.eq_1, ↓D3.ilst3.eq_1, ↓D3.itup3.eq_1, ↓D3.irng1.eq_1, ↓D3.irng2.eq_1, ↓D3.for3.eq_1, fCat, fEq_int, fNe_int, fEq_bl, fNe_bl, fEq_pair, fNe_pair, List.map, List.replicate, List.length_cons, List.length_nil, List.set_cons_zero, List.set_cons_succ, List.getElem?_cons_zero, List.getElem?_cons_succ, List.cons_append, List.nil_append, at_0, at_1, at_2, at_3, at_4, at_5, at_6, ix_0, ix_1, ix_2, put_same, put_put, decide_eq_true_eq, Bool.not_eq_true', decide_eq_false_iff_not, ite_not, ite_true, ite_false, if_true, if_false, Bool.false_eq_true, ↓reduceIte, reduceIte, Nat.reduceAdd, Nat.reduceSub, Int.reduceToNat, Nat.reduceLeDiff, not_false_eq_true, true_and, and_true, ne_eq, Int.reduceEq, Nat.zero_add, Bool.not_true, Bool.not_false, reduceCtorEq, nc0, nc1, nc2, nc3, nc4, nc5, fIx_ref put_same, fLen_ref put_same, ↓D3.lc3.eq_1, fInt, fTuple, fList, fNeS_s, fEqS_s, ↓D3.gstar3.eq_1, fInK_s, fNinK_s, fLenS_s, ↓D3.slcT3.eq_1, fCatT_t, ↓D3.app3.eq_1, ↓D3.frz3.eq_1, ↓D3.dc23.eq_1, ↓D3.lcT3.eq_1, ↓D3.litRep3.eq_1, ↓D3.litRepM3.eq_1, ↓D3.rev3.eq_1, ↓D3.dget3.eq_1, ↓D3.disp3.eq_1, ↓D3.ienum3.eq_1, pop3, sset3]
  refine ite2 (fun h => ?_) (fun h => ⟨h, (x.fmod y).toNat, by have := fmod_b x (show 0 < y by omega); omega, _, _, rfl, hy, (fmod_b x (show 0 < y by omega)).1, rfl, by rw [fmod_e x (show 0 < y by omega), gcd_step hx (by omega), hg]⟩)
  subst h
  rw [Int.gcd_zero_right] at hg
  rw [show x = (Int.gcd a b : Nat) by omega]
  exact q
def sp_isfr : Sp3 := fun ds m P => ∃ (d : D) (b : Nat), ds = [d] ∧ Pl b d ∧ P (.bl (isFr d)) m
theorem isFr_1 (x : D) : isFr (.tup [x]) = false := by cases x <;> rfl
theorem isFr_3 (x y z : D) (r : List D) : isFr (.tup (x :: y :: z :: r)) = false := by cases x <;> first | rfl | (cases y <;> rfl)
theorem isFr_2 (a b : Int) : isFr (.tup [.int a, .int b]) = decide (0 < b ∧ Int.gcd a b = 1) := rfl
theorem ok_is_fraction (T : Tx w K mg fa fd) : Fn3 P w K mg base 2 (fa 2) (fd 2) ["thing"] sp_isfr := by
  refine fn3 T.d_is_fraction.F sc_is_fraction (fun ds m Q h => by obtain ⟨_, _, rfl, _⟩ := h; rfl) fun cdv A outer s H E ds m Q hr h => ?_
  obtain ⟨d, b, rfl, hp, q⟩ := h
  refine ⟨_, (ss_cons (s_if (t_w (t_or (t_not (t_val (e_isi rfl T.b_isinstance (e_v 0) (e_type rfl T.b_tuple PyProof.Rows.boot_tuple)))) (t_or (t_neI (e_len rfl T.b_len (e_v 0)) e_int) (t_or (t_not (t_val (e_call T.d_is_whole (ok_is_whole T) (hr.mono (by omega)) rfl (a_cons (e_ix (e_v 0) e_int) a_nil)))) (t_or1 (t_not (t_val (e_call T.d_is_whole (ok_is_whole T) (hr.mono (by omega)) rfl (a_cons (e_ix (e_v 0) e_int) a_nil))))))))) (ss_one (s_ret e_bl)) ss_nil)
      (ss_one (s_ret (e_and (e_gt (e_ix (e_v 0) e_int) e_int) (e_one (e_eqI (e_call T.d_divisor (ok_divisor T) (hr.mono (by omega)) rfl (a_cons (e_abs rfl T.b_abs (e_ix (e_v 0) e_int)) (a_cons (e_ix (e_v 0) e_int) a_nil))) e_int)))))), ?_⟩
  cases d with
  | ref a => exact (hp : False).elim
  | ty a => exact (hp : False).elim
  | tup ds =>
    match ds, hp, q with
    | [], hp, q => (try simp -implicitDefEqProofs -dsimp only [seq3, ↓D3.ifS3.eq_1, ↓D3.b3.eq_1, ↓D3.op3.eq_1, ↓D3.un3.eq_1, ↓D3.v3.eq_1, ↓D3.c3.eq_1, fIx_tup, fIx_lst, at3_0, at3_1, at3_2, at3_3, at3_4, at3_5, at3_6, start3, fI0_i, fI_i, fLt, fLe, fGt, fGe, fEqI, fNeI, fMin, fMax, ↓D3.asg3.eq_1, ↓D3.name3.eq_1, ↓D3.sub3.eq_1, ↓D3.ret3.eq_1, ↓D3.retN3.eq_1, ↓D3.nx3.eq_1, ↓D3.drop3.eq_1, ↓D3.par3.eq_1, ↓D3.aug3.eq_1, ↓D3.and3.eq_1, ↓D3.or3.eq_1, ↓D3.not3.eq_1, ↓D3.andV3.eq_1, ↓D3.orV3.eq_1, ↓D3.notV3.eq_1, ↓D3.if3.eq_1, ↓D3.nil3.eq_1, ↓D3.cons3.eq_1, ↓D3.tup3.eq_1, ↓D3.lst3.eq_1, ↓D3.lstM3.eq_1, ↓D3.gtup3.eq_1, ↓D3.gcons3.eq_1, ↓D3.gnil3.eq_1, ↓D3.gunl3.eq_1, ↓D3.bits3.eq_1, ↓D3.neg3.eq_1, ↓D3.chain3.eq_1, fIsi_int_int, fIsi_int_bool, fIsi_int_tuple, fIsi_int_str, fIsi_int_list, fIsi_bl_int, fIsi_bl_bool, fIsi_bl_tuple, fIsi_bl_str, fIsi_bl_list, fIsi_non_int, fIsi_non_bool, fIsi_non_tuple, fIsi_non_str, fIsi_non_list, fIsi_str_int, fIsi_str_bool, fIsi_str_tuple, fIsi_str_str, fIsi_str_list, fIsi_tup_int, fIsi_tup_bool, fIsi_tup_tuple, fIsi_tup_str, fIsi_tup_list, fIsi_lst_int, fIsi_lst_bool, fIsi_lst_tuple, fIsi_lst_str, fIsi_lst_list, fLen_lst, fLen_tup, fAbs, ↓D3.call3_k, ↓D3.kont_app, ↓D3.isN3.eq_1, ↓D3.notN3.eq_1, dIsN_non, dIsN_int, dIsN_bl, dIsN_str, dIsN_tup, dIsN_lst, ↓D3.slc3.eq_1, ↓D3.part3.eq_1, ↓D3.noPart3.eq_1, ↓D3.ilst3.eq_1, ↓D3.itup3.eq_1, ↓D3.irng1.eq_1, ↓D3.irng2.eq_1, ↓D3.for3.eq_1, fCat, fEq_int, fNe_int, fEq_bl, fNe_bl, fEq_pair, fNe_pair, List.map, List.replicate, List.length_cons, List.length_nil, List.set_cons_zero, List.set_cons_succ, List.getElem?_cons_zero, List.getElem?_cons_succ, List.cons_append, List.nil_append, at_0, at_1, at_2, at_3, at_4, at_5, at_6, ix_0, ix_1, ix_2, put_same, put_put, decide_eq_true_eq, Bool.not_eq_true', decide_eq_false_iff_not, ite_not, ite_true, ite_false, if_true, if_false, Bool.false_eq_true, ↓reduceIte, reduceIte, Nat.reduceAdd, Nat.reduceSub, Int.reduceToNat, Nat.reduceLeDiff, not_false_eq_true, true_and, and_true, ne_eq, Int.reduceEq, Nat.zero_add, Bool.not_true, Bool.not_false, reduceCtorEq, nc0, nc1, nc2, nc3, nc4, nc5, fIx_ref put_same, fLen_ref put_same, ↓D3.lc3.eq_1, fInt, fTuple, fList, fNeS_s, fEqS_s, ↓D3.gstar3.eq_1, fInK_s, fNinK_s, fLenS_s, ↓D3.slcT3.eq_1, fCatT_t, ↓D3.app3.eq_1, ↓D3.frz3.eq_1, ↓D3.dc23.eq_1, ↓D3.lcT3.eq_1, ↓D3.litRep3.eq_1, ↓D3.litRepM3.eq_1, ↓D3.rev3.eq_1, ↓D3.dget3.eq_1, ↓D3.disp3.eq_1, ↓D3.ienum3.eq_1, pop3, sset3]); exact q
    | [x], hp, q =>
      rw [isFr_1] at q
      try simp -implicitDefEqProofs -dsimp only [seq3, ↓D3.ifS3.eq_1, ↓D3.b3.eq_1, ↓D3.op3.eq_1, ↓D3.un3.eq_1, ↓D3.v3.eq_1, ↓D3.c3.eq_1, fIx_tup, fIx_lst, at3_0, at3_1, at3_2, at3_3, at3_4, at3_5, at3_6, start3, fI0_i, fI_i, fLt, fLe, fGt, fGe, fEqI, fNeI, fMin, fMax, ↓D3.asg3.eq_1, ↓D3.name3.eq_1, ↓D3.sub3.eq_1, ↓D3.ret3.eq_1, ↓D3.retN3.eq_1, ↓D3.nx3.eq_1, ↓D3.drop3.eq_1, ↓D3.par3.eq_1, ↓D3.aug3.eq_1, ↓D3.and3.eq_1, ↓D3.or3.eq_1, ↓D3.not3.eq_1, ↓D3.andV3.eq_1, ↓D3.orV3.eq_1, ↓D3.notV3.eq_1, ↓D3.if3.eq_1, ↓D3.nil3.eq_1, ↓D3.cons3.eq_1, ↓D3.tup3.eq_1, ↓D3.lst3.eq_1, ↓D3.lstM3.eq_1, ↓D3.gtup3.eq_1, ↓D3.gcons3.eq_1, ↓D3.gnil3.eq_1, ↓D3.gunl3.eq_1, ↓D3.bits3.eq_1, ↓D3.neg3.eq_1, ↓D3.chain3.eq_1, fIsi_int_int, fIsi_int_bool, fIsi_int_tuple, fIsi_int_str, fIsi_int_list, fIsi_bl_int, fIsi_bl_bool, fIsi_bl_tuple, fIsi_bl_str, fIsi_bl_list, fIsi_non_int, fIsi_non_bool, fIsi_non_tuple, fIsi_non_str, fIsi_non_list, fIsi_str_int, fIsi_str_bool, fIsi_str_tuple, fIsi_str_str, fIsi_str_list, fIsi_tup_int, fIsi_tup_bool, fIsi_tup_tuple, fIsi_tup_str, fIsi_tup_list, fIsi_lst_int, fIsi_lst_bool, fIsi_lst_tuple, fIsi_lst_str, fIsi_lst_list, fLen_lst, fLen_tup, fAbs, ↓D3.call3_k, ↓D3.kont_app, ↓D3.isN3.eq_1, ↓D3.notN3.eq_1, dIsN_non, dIsN_int, dIsN_bl, dIsN_str, dIsN_tup, dIsN_lst, ↓D3.slc3.eq_1, ↓D3.part3.eq_1, ↓D3.noPart3.eq_1, ↓D3.ilst3.eq_1, ↓D3.itup3.eq_1, ↓D3.irng1.eq_1, ↓D3.irng2.eq_1, ↓D3.for3.eq_1, fCat, fEq_int, fNe_int, fEq_bl, fNe_bl, fEq_pair, fNe_pair, List.map, List.replicate, List.length_cons, List.length_nil, List.set_cons_zero, List.set_cons_succ, List.getElem?_cons_zero, List.getElem?_cons_succ, List.cons_append, List.nil_append, at_0, at_1, at_2, at_3, at_4, at_5, at_6, ix_0, ix_1, ix_2, put_same, put_put, decide_eq_true_eq, Bool.not_eq_true', decide_eq_false_iff_not, ite_not, ite_true, ite_false, if_true, if_false, Bool.false_eq_true, ↓reduceIte, reduceIte, Nat.reduceAdd, Nat.reduceSub, Int.reduceToNat, Nat.reduceLeDiff, not_false_eq_true, true_and, and_true, ne_eq, Int.reduceEq, Nat.zero_add, Bool.not_true, Bool.not_false, reduceCtorEq, nc0, nc1, nc2, nc3, nc4, nc5, fIx_ref put_same, fLen_ref put_same, ↓D3.lc3.eq_1, fInt, fTuple, fList, fNeS_s, fEqS_s, ↓D3.gstar3.eq_1, fInK_s, fNinK_s, fLenS_s, ↓D3.slcT3.eq_1, fCatT_t, ↓D3.app3.eq_1, ↓D3.frz3.eq_1, ↓D3.dc23.eq_1, ↓D3.lcT3.eq_1, ↓D3.litRep3.eq_1, ↓D3.litRepM3.eq_1, ↓D3.rev3.eq_1, ↓D3.dget3.eq_1, ↓D3.disp3.eq_1, ↓D3.ienum3.eq_1, pop3, sset3]
      exact q
    | x :: y :: z :: r, hp, q =>
      rw [isFr_3] at q
      try simp -implicitDefEqProofs -dsimp only [seq3, ↓D3.ifS3.eq_1, ↓D3.b3.eq_1, ↓D3.op3.eq_1, ↓D3.un3.eq_1, ↓D3.v3.eq_1, ↓D3.c3.eq_1, fIx_tup, fIx_lst, at3_0, at3_1, at3_2, at3_3, at3_4, at3_5, at3_6, start3, fI0_i, fI_i, fLt, fLe, fGt, fGe, fEqI, fNeI, fMin, fMax, ↓D3.asg3.eq_1, ↓D3.name3.eq_1, ↓D3.sub3.eq_1, ↓D3.ret3.eq_1, ↓D3.retN3.eq_1, ↓D3.nx3.eq_1, ↓D3.drop3.eq_1, ↓D3.par3.eq_1, ↓D3.aug3.eq_1, ↓D3.and3.eq_1, ↓D3.or3.eq_1, ↓D3.not3.eq_1, ↓D3.andV3.eq_1, ↓D3.orV3.eq_1, ↓D3.notV3.eq_1, ↓D3.if3.eq_1, ↓D3.nil3.eq_1, ↓D3.cons3.eq_1, ↓D3.tup3.eq_1, ↓D3.lst3.eq_1, ↓D3.lstM3.eq_1, ↓D3.gtup3.eq_1, ↓D3.gcons3.eq_1, ↓D3.gnil3.eq_1, ↓D3.gunl3.eq_1, ↓D3.bits3.eq_1, ↓D3.neg3.eq_1, ↓D3.chain3.eq_1, fIsi_int_int, fIsi_int_bool, fIsi_int_tuple, fIsi_int_str, fIsi_int_list, fIsi_bl_int, fIsi_bl_bool, fIsi_bl_tuple, fIsi_bl_str, fIsi_bl_list, fIsi_non_int, fIsi_non_bool, fIsi_non_tuple, fIsi_non_str, fIsi_non_list, fIsi_str_int, fIsi_str_bool, fIsi_str_tuple, fIsi_str_str, fIsi_str_list, fIsi_tup_int, fIsi_tup_bool, fIsi_tup_tuple, fIsi_tup_str, fIsi_tup_list, fIsi_lst_int, fIsi_lst_bool, fIsi_lst_tuple, fIsi_lst_str, fIsi_lst_list, fLen_lst, fLen_tup, fAbs, ↓D3.call3_k, ↓D3.kont_app, ↓D3.isN3.eq_1, ↓D3.notN3.eq_1, dIsN_non, dIsN_int, dIsN_bl, dIsN_str, dIsN_tup, dIsN_lst, ↓D3.slc3.eq_1, ↓D3.part3.eq_1, ↓D3.noPart3.eq_1, ↓D3.ilst3.eq_1, ↓D3.itup3.eq_1, ↓D3.irng1.eq_1, ↓D3.irng2.eq_1, ↓D3.for3.eq_1, fCat, fEq_int, fNe_int, fEq_bl, fNe_bl, fEq_pair, fNe_pair, List.map, List.replicate, List.length_cons, List.length_nil, List.set_cons_zero, List.set_cons_succ, List.getElem?_cons_zero, List.getElem?_cons_succ, List.cons_append, List.nil_append, at_0, at_1, at_2, at_3, at_4, at_5, at_6, ix_0, ix_1, ix_2, put_same, put_put, decide_eq_true_eq, Bool.not_eq_true', decide_eq_false_iff_not, ite_not, ite_true, ite_false, if_true, if_false, Bool.false_eq_true, ↓reduceIte, reduceIte, Nat.reduceAdd, Nat.reduceSub, Int.reduceToNat, Nat.reduceLeDiff, not_false_eq_true, true_and, and_true, ne_eq, Int.reduceEq, Nat.zero_add, Bool.not_true, Bool.not_false, reduceCtorEq, nc0, nc1, nc2, nc3, nc4, nc5, fIx_ref put_same, fLen_ref put_same, ↓D3.lc3.eq_1, fInt, fTuple, fList, fNeS_s, fEqS_s, ↓D3.gstar3.eq_1, fInK_s, fNinK_s, fLenS_s, ↓D3.slcT3.eq_1, fCatT_t, ↓D3.app3.eq_1, ↓D3.frz3.eq_1, ↓D3.dc23.eq_1, ↓D3.lcT3.eq_1, ↓D3.litRep3.eq_1, ↓D3.litRepM3.eq_1, ↓D3.rev3.eq_1, ↓D3.dget3.eq_1, ↓D3.disp3.eq_1, ↓D3.ienum3.eq_1, pop3, sset3]
      exact ite2 (fun h => absurd h (by omega)) (fun h => q)
    | [x, y], hp, q =>
      try simp -implicitDefEqProofs -dsimp only [seq3, ↓D3.ifS3.eq_1, ↓D3.b3.eq_1, ↓D3.op3.eq_1, ↓D3.un3.eq_1, ↓D3.v3.eq_1, ↓D3.c3.eq_1, fIx_tup, fIx_lst, at3_0, at3_1, at3_2, at3_3, at3_4, at3_5, at3_6, start3, fI0_i, fI_i, fLt, fLe, fGt, fGe, fEqI, fNeI, fMin, fMax, ↓D3.asg3.eq_1, ↓D3.name3.eq_1, ↓D3.sub3.eq_1, ↓D3.ret3.eq_1, ↓D3.retN3.eq_1, ↓D3.nx3.eq_1, ↓D3.drop3.eq_1, ↓D3.par3.eq_1, ↓D3.aug3.eq_1, ↓D3.and3.eq_1, ↓D3.or3.eq_1, ↓D3.not3.eq_1, ↓D3.andV3.eq_1, ↓D3.orV3.eq_1, ↓D3.notV3.eq_1, ↓D3.if3.eq_1, ↓D3.nil3.eq_1, ↓D3.cons3.eq_1, ↓D3.tup3.eq_1, ↓D3.lst3.eq_1, ↓D3.lstM3.eq_1, ↓D3.gtup3.eq_1, ↓D3.gcons3.eq_1, ↓D3.gnil3.eq_1, ↓D3.gunl3.eq_1, ↓D3.bits3.eq_1, ↓D3.neg3.eq_1, ↓D3.chain3.eq_1, fIsi_int_int, fIsi_int_bool, fIsi_int_tuple, fIsi_int_str, fIsi_int_list, fIsi_bl_int, fIsi_bl_bool, fIsi_bl_tuple, fIsi_bl_str, fIsi_bl_list, fIsi_non_int, fIsi_non_bool, fIsi_non_tuple, fIsi_non_str, fIsi_non_list, fIsi_str_int, fIsi_str_bool, fIsi_str_tuple, fIsi_str_str, fIsi_str_list, fIsi_tup_int, fIsi_tup_bool, fIsi_tup_tuple, fIsi_tup_str, fIsi_tup_list, fIsi_lst_int, fIsi_lst_bool, fIsi_lst_tuple, fIsi_lst_str, fIsi_lst_list, fLen_lst, fLen_tup, fAbs, ↓D3.call3_k, ↓D3.kont_app, ↓D3.isN3.eq_1, ↓D3.notN3.eq_1, dIsN_non, dIsN_int, dIsN_bl, dIsN_str, dIsN_tup, dIsN_lst, ↓D3.slc3.eq_1, ↓D3.part3.eq_1, ↓D3.noPart3.eq_1, ↓D3.ilst3.eq_1, ↓D3.itup3.eq_1, ↓D3.irng1.eq_1, ↓D3.irng2.eq_1, ↓D3.for3.eq_1, fCat, fEq_int, fNe_int, fEq_bl, fNe_bl, fEq_pair, fNe_pair, List.map, List.replicate, List.length_cons, List.length_nil, List.set_cons_zero, List.set_cons_succ, List.getElem?_cons_zero, List.getElem?_cons_succ, List.cons_append, List.nil_append, at_0, at_1, at_2, at_3, at_4, at_5, at_6, ix_0, ix_1, ix_2, put_same, put_put, decide_eq_true_eq, Bool.not_eq_true', decide_eq_false_iff_not, ite_not, ite_true, ite_false, if_true, if_false, Bool.false_eq_true, ↓reduceIte, reduceIte, Nat.reduceAdd, Nat.reduceSub, Int.reduceToNat, Nat.reduceLeDiff, not_false_eq_true, true_and, and_true, ne_eq, Int.reduceEq, Nat.zero_add, Bool.not_true, Bool.not_false, reduceCtorEq, nc0, nc1, nc2, nc3, nc4, nc5, fIx_ref put_same, fLen_ref put_same, ↓D3.lc3.eq_1, fInt, fTuple, fList, fNeS_s, fEqS_s, ↓D3.gstar3.eq_1, fInK_s, fNinK_s, fLenS_s, ↓D3.slcT3.eq_1, fCatT_t, ↓D3.app3.eq_1, ↓D3.frz3.eq_1, ↓D3.dc23.eq_1, ↓D3.lcT3.eq_1, ↓D3.litRep3.eq_1, ↓D3.litRepM3.eq_1, ↓D3.rev3.eq_1, ↓D3.dget3.eq_1, ↓D3.disp3.eq_1, ↓D3.ienum3.eq_1, pop3, sset3]
      refine ⟨x, b, rfl, hp.1, ?_⟩
      cases x with
      | int t =>
        simp only [wh]
        try simp -implicitDefEqProofs -dsimp only [seq3, ↓D3.ifS3.eq_1, ↓D3.b3.eq_1, ↓D3.op3.eq_1, ↓D3.un3.eq_1, ↓D3.v3.eq_1, ↓D3.c3.eq_1, fIx_tup, fIx_lst, at3_0, at3_1, at3_2, at3_3, at3_4, at3_5, at3_6, start3, fI0_i, fI_i, fLt, fLe, fGt, fGe, fEqI, fNeI, fMin, fMax, ↓D3.asg3.eq_1, ↓D3.name3.eq_1, ↓D3.sub3.eq_1, ↓D3.ret3.eq_1, ↓D3.retN3.eq_1, ↓D3.nx3.eq_1, ↓D3.drop3.eq_1, ↓D3.par3.eq_1, ↓D3.aug3.eq_1, ↓D3.and3.eq_1, ↓D3.or3.eq_1, ↓D3.not3.eq_1, ↓D3.andV3.eq_1, ↓D3.orV3.eq_1, ↓D3.notV3.eq_1, ↓D3.if3.eq_1, ↓D3.nil3.eq_1, ↓D3.cons3.eq_1, ↓D3.tup3.eq_1, ↓D3.lst3.eq_1, ↓D3.lstM3.eq_1, ↓D3.gtup3.eq_1, ↓D3.gcons3.eq_1, ↓D3.gnil3.eq_1, ↓D3.gunl3.eq_1, ↓D3.bits3.eq_1, ↓D3.neg3.eq_1, ↓D3.chain3.eq_1, fIsi_int_int, fIsi_int_bool, fIsi_int_tuple, fIsi_int_str, fIsi_int_list, fIsi_bl_int, fIsi_bl_bool, fIsi_bl_tuple, fIsi_bl_str, fIsi_bl_list, fIsi_non_int, fIsi_non_bool, fIsi_non_tuple, fIsi_non_str, fIsi_non_list, fIsi_str_int, fIsi_str_bool, fIsi_str_tuple, fIsi_str_str, fIsi_str_list, fIsi_tup_int, fIsi_tup_bool, fIsi_tup_tuple, fIsi_tup_str, fIsi_tup_list, fIsi_lst_int, fIsi_lst_bool, fIsi_lst_tuple, fIsi_lst_str, fIsi_lst_list, fLen_lst, fLen_tup, fAbs, ↓D3.call3_k, ↓D3.kont_app, ↓D3.isN3.eq_1, ↓D3.notN3.eq_1, dIsN_non, dIsN_int, dIsN_bl, dIsN_str, dIsN_tup, dIsN_lst, ↓D3.slc3.eq_1, ↓D3.part3.eq_1, ↓D3.noPart3.eq_1, ↓D3.ilst3.eq_1, ↓D3.itup3.eq_1, ↓D3.irng1.eq_1, ↓D3.irng2.eq_1, ↓D3.for3.eq_1, fCat, fEq_int, fNe_int, fEq_bl, fNe_bl, fEq_pair, fNe_pair, List.map, List.replicate, List.length_cons, List.length_nil, List.set_cons_zero, List.set_cons_succ, List.getElem?_cons_zero, List.getElem?_cons_succ, List.cons_append, List.nil_append, at_0, at_1, at_2, at_3, at_4, at_5, at_6, ix_0, ix_1, ix_2, put_same, put_put, decide_eq_true_eq, Bool.not_eq_true', decide_eq_false_iff_not, ite_not, ite_true, ite_false, if_true, if_false, Bool.false_eq_true, ↓reduceIte, reduceIte, Nat.reduceAdd, Nat.reduceSub, Int.reduceToNat, Nat.reduceLeDiff, not_false_eq_true, true_and, and_true, ne_eq, Int.reduceEq, Nat.zero_add, Bool.not_true, Bool.not_false, reduceCtorEq, nc0, nc1, nc2, nc3, nc4, nc5, fIx_ref put_same, fLen_ref put_same, ↓D3.lc3.eq_1, fInt, fTuple, fList, fNeS_s, fEqS_s, ↓D3.gstar3.eq_1, fInK_s, fNinK_s, fLenS_s, ↓D3.slcT3.eq_1, fCatT_t, ↓D3.app3.eq_1, ↓D3.frz3.eq_1, ↓D3.dc23.eq_1, ↓D3.lcT3.eq_1, ↓D3.litRep3.eq_1, ↓D3.litRepM3.eq_1, ↓D3.rev3.eq_1, ↓D3.dget3.eq_1, ↓D3.disp3.eq_1, ↓D3.ienum3.eq_1, pop3, sset3]
        refine ⟨y, b, rfl, hp.2.1, ?_⟩
        cases y with
        | int n =>
          simp only [wh]
          try simp -implicitDefEqProofs -dsimp only [seq3, ↓D3.ifS3.eq_1, ↓D3.b3.eq_1, ↓D3.op3.eq_1, ↓D3.un3.eq_1, ↓D3.v3.eq_1, ↓D3.c3.eq_1, fIx_tup, fIx_lst, at3_0, at3_1, at3_2, at3_3, at3_4, at3_5, at3_6, start3, fI0_i, fI_i, fLt, fLe, fGt, fGe, fEqI, fNeI, fMin, fMax, ↓D3.asg3.eq_1, ↓D3.name3.eq_1, ↓D3.sub3.eq_1, ↓D3.ret3.eq_1, ↓D3.retN3.eq_1, ↓D3.nx3.eq_1, ↓D3.drop3.eq_1, ↓D3.par3.eq_1, ↓D3.aug3.eq_1, ↓D3.and3.eq_1, ↓D3.or3.eq_1, ↓D3.not3.eq_1, ↓D3.andV3.eq_1, ↓D3.orV3.eq_1, ↓D3.notV3.eq_1, ↓D3.if3.eq_1, ↓D3.nil3.eq_1, ↓D3.cons3.eq_1, ↓D3.tup3.eq_1, ↓D3.lst3.eq_1, ↓D3.lstM3.eq_1, ↓D3.gtup3.eq_1, ↓D3.gcons3.eq_1, ↓D3.gnil3.eq_1, ↓D3.gunl3.eq_1, ↓D3.bits3.eq_1, ↓D3.neg3.eq_1, ↓D3.chain3.eq_1, fIsi_int_int, fIsi_int_bool, fIsi_int_tuple, fIsi_int_str, fIsi_int_list, fIsi_bl_int, fIsi_bl_bool, fIsi_bl_tuple, fIsi_bl_str, fIsi_bl_list, fIsi_non_int, fIsi_non_bool, fIsi_non_tuple, fIsi_non_str, fIsi_non_list, fIsi_str_int, fIsi_str_bool, fIsi_str_tuple, fIsi_str_str, fIsi_str_list, fIsi_tup_int, fIsi_tup_bool, fIsi_tup_tuple, fIsi_tup_str, fIsi_tup_list, fIsi_lst_int, fIsi_lst_bool, fIsi_lst_tuple, fIsi_lst_str, fIsi_lst_list, fLen_lst, fLen_tup, fAbs, ↓D3.call3_k, ↓D3.kont_app, ↓D3.isN3.eq_1, ↓D3.notN3.eq_1, dIsN_non, dIsN_int, dIsN_bl, dIsN_str, dIsN_tup, dIsN_lst, ↓D3.slc3.eq_1, ↓D3.part3.eq_1, ↓D3.noPart3.eq_1, ↓D3.ilst3.eq_1, ↓D3.itup3.eq_1, ↓D3.irng1.eq_1, ↓D3.irng2.eq_1, ↓D3.for3.eq_1, fCat, fEq_int, fNe_int, fEq_bl, fNe_bl, fEq_pair, fNe_pair, List.map, List.replicate, List.length_cons, List.length_nil, List.set_cons_zero, List.set_cons_succ, List.getElem?_cons_zero, List.getElem?_cons_succ, List.cons_append, List.nil_append, at_0, at_1, at_2, at_3, at_4, at_5, at_6, ix_0, ix_1, ix_2, put_same, put_put, decide_eq_true_eq, Bool.not_eq_true', decide_eq_false_iff_not, ite_not, ite_true, ite_false, if_true, if_false, Bool.false_eq_true, ↓reduceIte, reduceIte, Nat.reduceAdd, Nat.reduceSub, Int.reduceToNat, Nat.reduceLeDiff, not_false_eq_true, true_and, and_true, ne_eq, Int.reduceEq, Nat.zero_add, Bool.not_true, Bool.not_false, reduceCtorEq, nc0, nc1, nc2, nc3, nc4, nc5, fIx_ref put_same, fLen_ref put_same, ↓D3.lc3.eq_1, fInt, fTuple, fList, fNeS_s, fEqS_s, ↓D3.gstar3.eq_1, fInK_s, fNinK_s, fLenS_s, ↓D3.slcT3.eq_1, fCatT_t, ↓D3.app3.eq_1, ↓D3.frz3.eq_1, ↓D3.dc23.eq_1, ↓D3.lcT3.eq_1, ↓D3.litRep3.eq_1, ↓D3.litRepM3.eq_1, ↓D3.rev3.eq_1, ↓D3.dget3.eq_1, ↓D3.disp3.eq_1, ↓D3.ienum3.eq_1, pop3, sset3]
          rw [isFr_2] at q
          refine ite2 (fun h => ⟨_, _, rfl, by split <;> omega, by omega, ?_⟩) (fun h => ?_)
          · try simp -implicitDefEqProofs -dsimp only [seq3, ↓D3.ifS3.eq_1, ↓D3.b3.eq_1, ↓D3.op3.eq_1, ↓D3.un3.eq_1, ↓D3.v3.eq_1, ↓D3.c3.eq_1, fIx_tup, fIx_lst, at3_0, at3_1, at3_2, at3_3, at3_4, at3_5, at3_6, start3, fI0_i, fI_i, fLt, fLe, fGt, fGe, fEqI, fNeI, fMin, fMax, ↓D3.asg3.eq_1, ↓D3.name3.eq_1, ↓D3.sub3.eq_1, ↓D3.ret3.eq_1, ↓D3.retN3.eq_1, ↓D3.nx3.eq_1, ↓D3.drop3.eq_1, ↓D3.par3.eq_1, ↓D3.aug3.eq_1, ↓D3.and3.eq_1, ↓D3.or3.eq_1, ↓D3.not3.eq_1, ↓D3.andV3.eq_1, ↓D3.orV3.eq_1, ↓D3.notV3.eq_1, ↓D3.if3.eq_1, ↓D3.nil3.eq_1, ↓D3.cons3.eq_1, ↓D3.tup3.eq_1, ↓D3.lst3.eq_1, ↓D3.lstM3.eq_1, ↓D3.gtup3.eq_1, ↓D3.gcons3.eq_1, ↓D3.gnil3.eq_1, ↓D3.gunl3.eq_1, ↓D3.bits3.eq_1, ↓D3.neg3.eq_1, ↓D3.chain3.eq_1, fIsi_int_int, fIsi_int_bool, fIsi_int_tuple, fIsi_int_str, fIsi_int_list, fIsi_bl_int, fIsi_bl_bool, fIsi_bl_tuple, fIsi_bl_str, fIsi_bl_list, fIsi_non_int, fIsi_non_bool, fIsi_non_tuple, fIsi_non_str, fIsi_non_list, fIsi_str_int, fIsi_str_bool, fIsi_str_tuple, fIsi_str_str, fIsi_str_list, fIsi_tup_int, fIsi_tup_bool, fIsi_tup_tuple, fIsi_tup_str, fIsi_tup_list, fIsi_lst_int, fIsi_lst_bool, fIsi_lst_tuple, fIsi_lst_str, fIsi_lst_list, fLen_lst, fLen_tup, fAbs, ↓D3.call3_k, ↓D3.kont_app, ↓D3.isN3.eq_1, ↓D3.notN3.eq_1, dIsN_non, dIsN_int, dIsN_bl, dIsN_str, dIsN_tup, dIsN_lst, ↓D3.slc3.eq_1, ↓D3.part3.eq_1, ↓D3.noPart3.eq_1, ↓D3.ilst3.eq_1, ↓D3.itup3.eq_1, ↓D3.irng1.eq_1, ↓D3.irng2.eq_1, ↓D3.for3.eq_1, fCat, fEq_int, fNe_int, fEq_bl, fNe_bl, fEq_pair, fNe_pair, List.map, List.replicate, List.length_cons, List.length_nil, List.set_cons_zero, List.set_cons_succ, List.getElem?_cons_zero, List.getElem?_cons_succ, List.cons_append, List.nil_append, at_0, at_1, at_2, at_3, at_4, at_5, at_6, ix_0, ix_1, ix_2, put_same, put_put, decide_eq_true_eq, Bool.not_eq_true', decide_eq_false_iff_not, ite_not, ite_true, ite_false, if_true, if_false, Bool.false_eq_true, ↓reduceIte, reduceIte, Nat.reduceAdd, Nat.reduceSub, Int.reduceToNat, Nat.reduceLeDiff, not_false_eq_true, true_and, and_true, ne_eq, Int.reduceEq, Nat.zero_add, Bool.not_true, Bool.not_false, reduceCtorEq, nc0, nc1, nc2, nc3, nc4, nc5, fIx_ref put_same, fLen_ref put_same, ↓D3.lc3.eq_1, fInt, fTuple, fList, fNeS_s, fEqS_s, ↓D3.gstar3.eq_1, fInK_s, fNinK_s, fLenS_s, ↓D3.slcT3.eq_1, fCatT_t, ↓D3.app3.eq_1, ↓D3.frz3.eq_1, ↓D3.dc23.eq_1, ↓D3.lcT3.eq_1, ↓D3.litRep3.eq_1, ↓D3.litRepM3.eq_1, ↓D3.rev3.eq_1, ↓D3.dget3.eq_1, ↓D3.disp3.eq_1, ↓D3.ienum3.eq_1, pop3, sset3]
            rw [show (decide ((((if t < 0 then -t else t).gcd n : Nat) : Int) = 1)) = decide (0 < n ∧ t.gcd n = 1) from by
              have e : (if t < 0 then -t else t).gcd n = t.gcd n := by split <;> simp
              rw [e]
              by_cases g : t.gcd n = 1
              · rw [g]; simp [h]
              · simp [g]; omega]
            exact q
          · rwa [decide_eq_false (p := 0 < n ∧ t.gcd n = 1) fun z => h z.1] at q
        | _ => (try simp -implicitDefEqProofs -dsimp only [seq3, ↓D3.ifS3.eq_1, ↓D3.b3.eq_1, ↓D3.op3.eq_1, ↓D3.un3.eq_1, ↓D3.v3.eq_1, ↓D3.c3.eq_1, fIx_tup, fIx_lst, at3_0, at3_1, at3_2, at3_3, at3_4, at3_5, at3_6, start3, fI0_i, fI_i, fLt, fLe, fGt, fGe, fEqI, fNeI, fMin, fMax, ↓D3.asg3.eq_1, ↓D3.name3.eq_1, ↓D3.sub3.eq_1, ↓D3.ret3.eq_1, ↓D3.retN3.eq_1, ↓D3.nx3.eq_1, ↓D3.drop3.eq_1, ↓D3.par3.eq_1, ↓D3.aug3.eq_1, ↓D3.and3.eq_1, ↓D3.or3.eq_1, ↓D3.not3.eq_1, ↓D3.andV3.eq_1, ↓D3.orV3.eq_1, ↓D3.notV3.eq_1, ↓D3.if3.eq_1, ↓D3.nil3.eq_1, ↓D3.cons3.eq_1, ↓D3.tup3.eq_1, ↓D3.lst3.eq_1, ↓D3.lstM3.eq_1, ↓D3.gtup3.eq_1, ↓D3.gcons3.eq_1, ↓D3.gnil3.eq_1, ↓D3.gunl3.eq_1, ↓D3.bits3.eq_1, ↓D3.neg3.eq_1, ↓D3.chain3.eq_1, fIsi_int_int, fIsi_int_bool, fIsi_int_tuple, fIsi_int_str, fIsi_int_list, fIsi_bl_int, fIsi_bl_bool, fIsi_bl_tuple, fIsi_bl_str, fIsi_bl_list, fIsi_non_int, fIsi_non_bool, fIsi_non_tuple, fIsi_non_str, fIsi_non_list, fIsi_str_int, fIsi_str_bool, fIsi_str_tuple, fIsi_str_str, fIsi_str_list, fIsi_tup_int, fIsi_tup_bool, fIsi_tup_tuple, fIsi_tup_str, fIsi_tup_list, fIsi_lst_int, fIsi_lst_bool, fIsi_lst_tuple, fIsi_lst_str, fIsi_lst_list, fLen_lst, fLen_tup, fAbs, ↓D3.call3_k, ↓D3.kont_app, ↓D3.isN3.eq_1, ↓D3.notN3.eq_1, dIsN_non, dIsN_int, dIsN_bl, dIsN_str, dIsN_tup, dIsN_lst, ↓D3.slc3.eq_1, ↓D3.part3.eq_1, ↓D3.noPart3.eq_1, ↓D3.ilst3.eq_1, ↓D3.itup3.eq_1, ↓D3.irng1.eq_1, ↓D3.irng2.eq_1, ↓D3.for3.eq_1, fCat, fEq_int, fNe_int, fEq_bl, fNe_bl, fEq_pair, fNe_pair, List.map, List.replicate, List.length_cons, List.length_nil, List.set_cons_zero, List.set_cons_succ, List.getElem?_cons_zero, List.getElem?_cons_succ, List.cons_append, List.nil_append, at_0, at_1, at_2, at_3, at_4, at_5, at_6, ix_0, ix_1, ix_2, put_same, put_put, decide_eq_true_eq, Bool.not_eq_true', decide_eq_false_iff_not, ite_not, ite_true, ite_false, if_true, if_false, Bool.false_eq_true, ↓reduceIte, reduceIte, Nat.reduceAdd, Nat.reduceSub, Int.reduceToNat, Nat.reduceLeDiff, not_false_eq_true, true_and, and_true, ne_eq, Int.reduceEq, Nat.zero_add, Bool.not_true, Bool.not_false, reduceCtorEq, nc0, nc1, nc2, nc3, nc4, nc5, fIx_ref put_same, fLen_ref put_same, ↓D3.lc3.eq_1, fInt, fTuple, fList, fNeS_s, fEqS_s, ↓D3.gstar3.eq_1, fInK_s, fNinK_s, fLenS_s, ↓D3.slcT3.eq_1, fCatT_t, ↓D3.app3.eq_1, ↓D3.frz3.eq_1, ↓D3.dc23.eq_1, ↓D3.lcT3.eq_1, ↓D3.litRep3.eq_1, ↓D3.litRepM3.eq_1, ↓D3.rev3.eq_1, ↓D3.dget3.eq_1, ↓D3.disp3.eq_1, ↓D3.ienum3.eq_1, pop3, sset3, wh]); exact q
      | _ => (try simp -implicitDefEqProofs -dsimp only [seq3, ↓D3.ifS3.eq_1, ↓D3.b3.eq_1, ↓D3.op3.eq_1, ↓D3.un3.eq_1, ↓D3.v3.eq_1, ↓D3.c3.eq_1, fIx_tup, fIx_lst, at3_0, at3_1, at3_2, at3_3, at3_4, at3_5, at3_6, start3, fI0_i, fI_i, fLt, fLe, fGt, fGe, fEqI, fNeI, fMin, fMax, ↓D3.asg3.eq_1, ↓D3.name3.eq_1, ↓D3.sub3.eq_1, ↓D3.ret3.eq_1, ↓D3.retN3.eq_1, ↓D3.nx3.eq_1, ↓D3.drop3.eq_1, ↓D3.par3.eq_1, ↓D3.aug3.eq_1, ↓D3.and3.eq_1, ↓D3.or3.eq_1, ↓D3.not3.eq_1, ↓D3.andV3.eq_1, ↓D3.orV3.eq_1, ↓D3.notV3.eq_1, ↓D3.if3.eq_1, ↓D3.nil3.eq_1, ↓D3.cons3.eq_1, ↓D3.tup3.eq_1, ↓D3.lst3.eq_1, ↓D3.lstM3.eq_1, ↓D3.gtup3.eq_1, ↓D3.gcons3.eq_1, ↓D3.gnil3.eq_1, ↓D3.gunl3.eq_1, ↓D3.bits3.eq_1, ↓D3.neg3.eq_1, ↓D3.chain3.eq_1, fIsi_int_int, fIsi_int_bool, fIsi_int_tuple, fIsi_int_str, fIsi_int_list, fIsi_bl_int, fIsi_bl_bool, fIsi_bl_tuple, fIsi_bl_str, fIsi_bl_list, fIsi_non_int, fIsi_non_bool, fIsi_non_tuple, fIsi_non_str, fIsi_non_list, fIsi_str_int, fIsi_str_bool, fIsi_str_tuple, fIsi_str_str, fIsi_str_list, fIsi_tup_int, fIsi_tup_bool, fIsi_tup_tuple, fIsi_tup_str, fIsi_tup_list, fIsi_lst_int, fIsi_lst_bool, fIsi_lst_tuple, fIsi_lst_str, fIsi_lst_list, fLen_lst, fLen_tup, fAbs, ↓D3.call3_k, ↓D3.kont_app, ↓D3.isN3.eq_1, ↓D3.notN3.eq_1, dIsN_non, dIsN_int, dIsN_bl, dIsN_str, dIsN_tup, dIsN_lst, ↓D3.slc3.eq_1, ↓D3.part3.eq_1, ↓D3.noPart3.eq_1, ↓D3.ilst3.eq_1, ↓D3.itup3.eq_1, ↓D3.irng1.eq_1, ↓D3.irng2.eq_1, ↓D3.for3.eq_1, fCat, fEq_int, fNe_int, fEq_bl, fNe_bl, fEq_pair, fNe_pair, List.map, List.replicate, List.length_cons, List.length_nil, List.set_cons_zero, List.set_cons_succ, List.getElem?_cons_zero, List.getElem?_cons_succ, List.cons_append, List.nil_append, at_0, at_1, at_2, at_3, at_4, at_5, at_6, ix_0, ix_1, ix_2, put_same, put_put, decide_eq_true_eq, Bool.not_eq_true', decide_eq_false_iff_not, ite_not, ite_true, ite_false, if_true, if_false, Bool.false_eq_true, ↓reduceIte, reduceIte, Nat.reduceAdd, Nat.reduceSub, Int.reduceToNat, Nat.reduceLeDiff, not_false_eq_true, true_and, and_true, ne_eq, Int.reduceEq, Nat.zero_add, Bool.not_true, Bool.not_false, reduceCtorEq, nc0, nc1, nc2, nc3, nc4, nc5, fIx_ref put_same, fLen_ref put_same, ↓D3.lc3.eq_1, fInt, fTuple, fList, fNeS_s, fEqS_s, ↓D3.gstar3.eq_1, fInK_s, fNinK_s, fLenS_s, ↓D3.slcT3.eq_1, fCatT_t, ↓D3.app3.eq_1, ↓D3.frz3.eq_1, ↓D3.dc23.eq_1, ↓D3.lcT3.eq_1, ↓D3.litRep3.eq_1, ↓D3.litRepM3.eq_1, ↓D3.rev3.eq_1, ↓D3.dget3.eq_1, ↓D3.disp3.eq_1, ↓D3.ienum3.eq_1, pop3, sset3, wh]); exact q
  | _ => (try simp -implicitDefEqProofs -dsimp only [seq3, ↓D3.ifS3.eq_1, ↓D3.b3.eq_1, ↓D3.op3.eq_1, ↓D3.un3.eq_1, ↓D3.v3.eq_1, ↓D3.c3.eq_1, fIx_tup, fIx_lst, at3_0, at3_1, at3_2, at3_3, at3_4, at3_5, at3_6, start3, fI0_i, fI_i, fLt, fLe, fGt, fGe, fEqI, fNeI, fMin, fMax, ↓D3.asg3.eq_1, ↓D3.name3.eq_1, ↓D3.sub3.eq_1, ↓D3.ret3.eq_1, ↓D3.retN3.eq_1, ↓D3.nx3.eq_1, ↓D3.drop3.eq_1, ↓D3.par3.eq_1, ↓D3.aug3.eq_1, ↓D3.and3.eq_1, ↓D3.or3.eq_1, ↓D3.not3.eq_1, ↓D3.andV3.eq_1, ↓D3.orV3.eq_1, ↓D3.notV3.eq_1, ↓D3.if3.eq_1, ↓D3.nil3.eq_1, ↓D3.cons3.eq_1, ↓D3.tup3.eq_1, ↓D3.lst3.eq_1, ↓D3.lstM3.eq_1, ↓D3.gtup3.eq_1, ↓D3.gcons3.eq_1, ↓D3.gnil3.eq_1, ↓D3.gunl3.eq_1, ↓D3.bits3.eq_1, ↓D3.neg3.eq_1, ↓D3.chain3.eq_1, fIsi_int_int, fIsi_int_bool, fIsi_int_tuple, fIsi_int_str, fIsi_int_list, fIsi_bl_int, fIsi_bl_bool, fIsi_bl_tuple, fIsi_bl_str, fIsi_bl_list, fIsi_non_int, fIsi_non_bool, fIsi_non_tuple, fIsi_non_str, fIsi_non_list, fIsi_str_int, fIsi_str_bool, fIsi_str_tuple, fIsi_str_str, fIsi_str_list, fIsi_tup_int, fIsi_tup_bool, fIsi_tup_tuple, fIsi_tup_str, fIsi_tup_list, fIsi_lst_int, fIsi_lst_bool, fIsi_lst_tuple, fIsi_lst_str, fIsi_lst_list, fLen_lst, fLen_tup, fAbs, ↓D3.call3_k, ↓D3.kont_app, ↓D3.isN3.eq_1, ↓D3.notN3.eq_1, dIsN_non, dIsN_int, dIsN_bl, dIsN_str, dIsN_tup, dIsN_lst, ↓D3.slc3.eq_1, ↓D3.part3.eq_1, ↓D3.noPart3.eq_1, ↓D3.ilst3.eq_1, ↓D3.itup3.eq_1, ↓D3.irng1.eq_1, ↓D3.irng2.eq_1, ↓D3.for3.eq_1, fCat, fEq_int, fNe_int, fEq_bl, fNe_bl, fEq_pair, fNe_pair, List.map, List.replicate, List.length_cons, List.length_nil, List.set_cons_zero, List.set_cons_succ, List.getElem?_cons_zero, List.getElem?_cons_succ, List.cons_append, List.nil_append, at_0, at_1, at_2, at_3, at_4, at_5, at_6, ix_0, ix_1, ix_2, put_same, put_put, decide_eq_true_eq, Bool.not_eq_true', decide_eq_false_iff_not, ite_not, ite_true, ite_false, if_true, if_false, Bool.false_eq_true, ↓reduceIte, reduceIte, Nat.reduceAdd, Nat.reduceSub, Int.reduceToNat, Nat.reduceLeDiff, not_false_eq_true, true_and, and_true, ne_eq, Int.reduceEq, Nat.zero_add, Bool.not_true, Bool.not_false, reduceCtorEq, nc0, nc1, nc2, nc3, nc4, nc5, fIx_ref put_same, fLen_ref put_same, ↓D3.lc3.eq_1, fInt, fTuple, fList, fNeS_s, fEqS_s, ↓D3.gstar3.eq_1, fInK_s, fNinK_s, fLenS_s, ↓D3.slcT3.eq_1, fCatT_t, ↓D3.app3.eq_1, ↓D3.frz3.eq_1, ↓D3.dc23.eq_1, ↓D3.lcT3.eq_1, ↓D3.litRep3.eq_1, ↓D3.litRepM3.eq_1, ↓D3.rev3.eq_1, ↓D3.dget3.eq_1, ↓D3.disp3.eq_1, ↓D3.ienum3.eq_1, pop3, sset3]); exact q
def sp_isfr4 : Sp3 := fun ds m P => ∃ (d : D) (b : Nat), ds = [d] ∧ Pl b d ∧ b ≤ 400 ∧ P (.bl (isFr d)) m
def sp_lessfr : Sp3 := fun ds m P => ∃ a b c d : Int, ds = [.tup [.int a, .int b], .tup [.int c, .int d]] ∧ a.natAbs < 2 ^ 4000 ∧ b.natAbs < 2 ^ 4000 ∧ c.natAbs < 2 ^ 4000 ∧ d.natAbs < 2 ^ 4000 ∧ P (.bl (decide (a * d < c * b))) m
theorem ok_is_less_fraction (T : Tx w K mg fa fd) : Fn3 P w K mg base 1 (fa 3) (fd 3) ["one", "other"] sp_lessfr := by
  refine fn3 T.d_is_less_fraction.F sc_is_less_fraction (fun ds m Q h => by obtain ⟨_, _, _, _, rfl, _⟩ := h; rfl) fun cdv A outer s H E ds m Q hr h => ?_
  obtain ⟨a, b, c, d, rfl, ha, hb, hc, hd, q⟩ := h
  refine ⟨_, (ss_one (s_ret (e_lt (e_mul (e_ix (e_v 0) e_int) (e_ix (e_v 1) e_int)) (e_mul (e_ix (e_v 1) e_int) (e_ix (e_v 0) e_int))))), ?_⟩
  try simp -implicitDefEqProofs -dsimp only [seq3, ↓D3.ifS3.eq_1, ↓D3.b3.eq_1, ↓D3.op3.eq_1, ↓D3.un3.eq_1, ↓D3.v3.eq_1, ↓D3.c3.eq_1, fIx_tup, fIx_lst, at3_0, at3_1, at3_2, at3_3, at3_4, at3_5, at3_6, start3, fI0_i, fI_i, fLt, fLe, fGt, fGe, fEqI, fNeI, fMin, fMax, ↓D3.asg3.eq_1, ↓D3.name3.eq_1, ↓D3.sub3.eq_1, ↓D3.ret3.eq_1, ↓D3.retN3.eq_1, ↓D3.nx3.eq_1, ↓D3.drop3.eq_1, ↓D3.par3.eq_1, ↓D3.aug3.eq_1, ↓D3.and3.eq_1, ↓D3.or3.eq_1, ↓D3.not3.eq_1, ↓D3.andV3.eq_1, ↓D3.orV3.eq_1, ↓D3.notV3.eq_1, ↓D3.if3.eq_1, ↓D3.nil3.eq_1, ↓D3.cons3.eq_1, ↓D3.tup3.eq_1, ↓D3.lst3.eq_1, ↓D3.lstM3.eq_1, ↓D3.gtup3.eq_1, ↓D3.gcons3.eq_1, ↓D3.gnil3.eq_1, ↓D3.gunl3.eq_1, ↓D3.bits3.eq_1, ↓D3.neg3.eq_1, ↓D3.chain3.eq_1, fIsi_int_int, fIsi_int_bool, fIsi_int_tuple, fIsi_int_str, fIsi_int_list, fIsi_bl_int, fIsi_bl_bool, fIsi_bl_tuple, fIsi_bl_str, fIsi_bl_list, fIsi_non_int, fIsi_non_bool, fIsi_non_tuple, fIsi_non_str, fIsi_non_list, fIsi_str_int, fIsi_str_bool, fIsi_str_tuple, fIsi_str_str, fIsi_str_list, fIsi_tup_int, fIsi_tup_bool, fIsi_tup_tuple, fIsi_tup_str, fIsi_tup_list, fIsi_lst_int, fIsi_lst_bool, fIsi_lst_tuple, fIsi_lst_str, fIsi_lst_list, fLen_lst, fLen_tup, fAbs, ↓D3.call3_k, ↓D3.kont_app, ↓D3.isN3.eq_1, ↓D3.notN3.eq_1, dIsN_non, dIsN_int, dIsN_bl, dIsN_str, dIsN_tup, dIsN_lst, ↓D3.slc3.eq_1, ↓D3.part3.eq_1, ↓D3.noPart3.eq_1, ↓D3.ilst3.eq_1, ↓D3.itup3.eq_1, ↓D3.irng1.eq_1, ↓D3.irng2.eq_1, ↓D3.for3.eq_1, fCat, fEq_int, fNe_int, fEq_bl, fNe_bl, fEq_pair, fNe_pair, List.map, List.replicate, List.length_cons, List.length_nil, List.set_cons_zero, List.set_cons_succ, List.getElem?_cons_zero, List.getElem?_cons_succ, List.cons_append, List.nil_append, at_0, at_1, at_2, at_3, at_4, at_5, at_6, ix_0, ix_1, ix_2, put_same, put_put, decide_eq_true_eq, Bool.not_eq_true', decide_eq_false_iff_not, ite_not, ite_true, ite_false, if_true, if_false, Bool.false_eq_true, ↓reduceIte, reduceIte, Nat.reduceAdd, Nat.reduceSub, Int.reduceToNat, Nat.reduceLeDiff, not_false_eq_true, true_and, and_true, ne_eq, Int.reduceEq, Nat.zero_add, Bool.not_true, Bool.not_false, reduceCtorEq, nc0, nc1, nc2, nc3, nc4, nc5, fIx_ref put_same, fLen_ref put_same, ↓D3.lc3.eq_1, fInt, fTuple, fList, fNeS_s, fEqS_s, ↓D3.gstar3.eq_1, fInK_s, fNinK_s, fLenS_s, ↓D3.slcT3.eq_1, fCatT_t, ↓D3.app3.eq_1, ↓D3.frz3.eq_1, ↓D3.dc23.eq_1, ↓D3.lcT3.eq_1, ↓D3.litRep3.eq_1, ↓D3.litRepM3.eq_1, ↓D3.rev3.eq_1, ↓D3.dget3.eq_1, ↓D3.disp3.eq_1, ↓D3.ienum3.eq_1, pop3, sset3]
  exact ⟨mul_c ha hd (by decide), mul_c hc hb (by decide), q⟩
def sp_isnm : Sp3 := fun ds m P => ∃ (d : D) (b : Nat), ds = [d] ∧ Pl b d ∧ b ≤ 1000 ∧ P (.bl (isNm d)) m
theorem ok_is_name (T : Tx w K mg fa fd) : Fn3 P w K mg base 1 (fa 4) (fd 4) ["thing"] sp_isnm := by
  refine fn3 T.d_is_name.F sc_is_name (fun ds m Q h => by obtain ⟨_, _, rfl, _⟩ := h; rfl) fun cdv A outer s H E ds m Q hr h => ?_
  obtain ⟨d, b, rfl, hp, hb, q⟩ := h
  refine ⟨_, (ss_cons (s_if (t_w (t_or (t_not (t_val (e_isi rfl T.b_isinstance (e_v 0) (e_type rfl T.b_str PyProof.Rows.boot_str)))) (t_or (t_not (t_chain op_le rl_le op_le rl_le e_int (e_lenS rfl T.b_len (e_v 0)) (e_globI rfl T.c_LONGEST_NAME))) (t_or1 (t_eqS (e_v 0) e_str))))) (ss_one (s_ret e_bl)) ss_nil)
      (ss_one (s_ret (e_all rfl T.b_all (e_lc (i := 1) rfl sc_is_name.nd (i_str (e_v 0)) (blkOk_by (own := [("sign", 1)]) (N := ["thing", "sign"]) (sc := defScope s_is_name) (by decide +kernel))  (fun _ _ _ _ _ => (e_inS (e_v 1) (e_globS rfl T.u_LETTERS)))))))), ?_⟩
  cases d with
  | ref a => exact (hp : False).elim
  | ty a => exact (hp : False).elim
  | str y =>
    have hl : y.length ≤ b ∧ ∀ c ∈ y.cps.toList, c < 0x110000 := hp
    try simp -implicitDefEqProofs -dsimp only [seq3, ↓D3.ifS3.eq_1, ↓D3.b3.eq_1, ↓D3.op3.eq_1, ↓D3.un3.eq_1, ↓D3.v3.eq_1, ↓D3.c3.eq_1, fIx_tup, fIx_lst, at3_0, at3_1, at3_2, at3_3, at3_4, at3_5, at3_6, start3, fI0_i, fI_i, fLt, fLe, fGt, fGe, fEqI, fNeI, fMin, fMax, ↓D3.asg3.eq_1, ↓D3.name3.eq_1, ↓D3.sub3.eq_1, ↓D3.ret3.eq_1, ↓D3.retN3.eq_1, ↓D3.nx3.eq_1, ↓D3.drop3.eq_1, ↓D3.par3.eq_1, ↓D3.aug3.eq_1, ↓D3.and3.eq_1, ↓D3.or3.eq_1, ↓D3.not3.eq_1, ↓D3.andV3.eq_1, ↓D3.orV3.eq_1, ↓D3.notV3.eq_1, ↓D3.if3.eq_1, ↓D3.nil3.eq_1, ↓D3.cons3.eq_1, ↓D3.tup3.eq_1, ↓D3.lst3.eq_1, ↓D3.lstM3.eq_1, ↓D3.gtup3.eq_1, ↓D3.gcons3.eq_1, ↓D3.gnil3.eq_1, ↓D3.gunl3.eq_1, ↓D3.bits3.eq_1, ↓D3.neg3.eq_1, ↓D3.chain3.eq_1, fIsi_int_int, fIsi_int_bool, fIsi_int_tuple, fIsi_int_str, fIsi_int_list, fIsi_bl_int, fIsi_bl_bool, fIsi_bl_tuple, fIsi_bl_str, fIsi_bl_list, fIsi_non_int, fIsi_non_bool, fIsi_non_tuple, fIsi_non_str, fIsi_non_list, fIsi_str_int, fIsi_str_bool, fIsi_str_tuple, fIsi_str_str, fIsi_str_list, fIsi_tup_int, fIsi_tup_bool, fIsi_tup_tuple, fIsi_tup_str, fIsi_tup_list, fIsi_lst_int, fIsi_lst_bool, fIsi_lst_tuple, fIsi_lst_str, fIsi_lst_list, fLen_lst, fLen_tup, fAbs, ↓D3.call3_k, ↓D3.kont_app, ↓D3.isN3.eq_1, ↓D3.notN3.eq_1, dIsN_non, dIsN_int, dIsN_bl, dIsN_str, dIsN_tup, dIsN_lst, ↓D3.slc3.eq_1, ↓D3.part3.eq_1, ↓D3.noPart3.eq_1, ↓D3.ilst3.eq_1, ↓D3.itup3.eq_1, ↓D3.irng1.eq_1, ↓D3.irng2.eq_1, ↓D3.for3.eq_1, fCat, fEq_int, fNe_int, fEq_bl, fNe_bl, fEq_pair, fNe_pair, List.map, List.replicate, List.length_cons, List.length_nil, List.set_cons_zero, List.set_cons_succ, List.getElem?_cons_zero, List.getElem?_cons_succ, List.cons_append, List.nil_append, at_0, at_1, at_2, at_3, at_4, at_5, at_6, ix_0, ix_1, ix_2, put_same, put_put, decide_eq_true_eq, Bool.not_eq_true', decide_eq_false_iff_not, ite_not, ite_true, ite_false, if_true, if_false, Bool.false_eq_true, ↓reduceIte, reduceIte, Nat.reduceAdd, Nat.reduceSub, Int.reduceToNat, Nat.reduceLeDiff, not_false_eq_true, true_and, and_true, ne_eq, Int.reduceEq, Nat.zero_add, Bool.not_true, Bool.not_false, reduceCtorEq, nc0, nc1, nc2, nc3, nc4, nc5, fIx_ref put_same, fLen_ref put_same, ↓D3.lc3.eq_1, fInt, fTuple, fList, fNeS_s, fEqS_s, ↓D3.gstar3.eq_1, fInK_s, fNinK_s, fLenS_s, ↓D3.slcT3.eq_1, fCatT_t, ↓D3.app3.eq_1, ↓D3.frz3.eq_1, ↓D3.dc23.eq_1, ↓D3.lcT3.eq_1, ↓D3.litRep3.eq_1, ↓D3.litRepM3.eq_1, ↓D3.rev3.eq_1, ↓D3.dget3.eq_1, ↓D3.disp3.eq_1, ↓D3.ienum3.eq_1, pop3, sset3, istr3]
    refine ⟨lbig (by omega), ?_⟩
    have eN : isNm (.str y) = (decide (1 ≤ y.length ∧ y.length ≤ 8 ∧ y ≠ "pi") && y.cps.toList.all fun c => decide (97 ≤ c ∧ c ≤ 122)) := rfl
    rw [eN] at q
    refine ite2 (fun h1 => ite2 (fun h2 => ite2 (fun h3 => ?_) (fun h3 => ?_)) (fun h2 => ?_)) (fun h1 => ?_)
    · rwa [decide_eq_false (p := 1 ≤ y.length ∧ y.length ≤ 8 ∧ y ≠ "pi") fun z => z.2.2 h3, Bool.false_and] at q
    · rw [decide_eq_true (p := 1 ≤ y.length ∧ y.length ≤ 8 ∧ y ≠ "pi") ⟨by omega, by omega, h3⟩, Bool.true_and] at q
      intro L hL
      have hlen : (signs y).length = y.length := by simp [signs]; rfl
      refine lcGo_map (fun d => match d with
        | .str s => .bl (s.cps.toList.all fun c => decide (97 ≤ c ∧ c ≤ 122))
        | _ => .non) (signs y) [] _ put_same (by rw [hlen]; simp; omega) (fun x hx m' Kt k => ?_) ?_
      · unfold signs at hx
        obtain ⟨c, _, rfl⟩ := List.mem_map.mp hx
        try simp -implicitDefEqProofs -dsimp only [seq3, ↓D3.ifS3.eq_1, ↓D3.b3.eq_1, ↓D3.op3.eq_1, ↓D3.un3.eq_1, ↓D3.v3.eq_1, ↓D3.c3.eq_1, fIx_tup, fIx_lst, at3_0, at3_1, at3_2, at3_3, at3_4, at3_5, at3_6, start3, fI0_i, fI_i, fLt, fLe, fGt, fGe, fEqI, fNeI, fMin, fMax, ↓D3.asg3.eq_1, ↓D3.name3.eq_1, ↓D3.sub3.eq_1, ↓D3.ret3.eq_1, ↓D3.retN3.eq_1, ↓D3.nx3.eq_1, ↓D3.drop3.eq_1, ↓D3.par3.eq_1, ↓D3.aug3.eq_1, ↓D3.and3.eq_1, ↓D3.or3.eq_1, ↓D3.not3.eq_1, ↓D3.andV3.eq_1, ↓D3.orV3.eq_1, ↓D3.notV3.eq_1, ↓D3.if3.eq_1, ↓D3.nil3.eq_1, ↓D3.cons3.eq_1, ↓D3.tup3.eq_1, ↓D3.lst3.eq_1, ↓D3.lstM3.eq_1, ↓D3.gtup3.eq_1, ↓D3.gcons3.eq_1, ↓D3.gnil3.eq_1, ↓D3.gunl3.eq_1, ↓D3.bits3.eq_1, ↓D3.neg3.eq_1, ↓D3.chain3.eq_1, fIsi_int_int, fIsi_int_bool, fIsi_int_tuple, fIsi_int_str, fIsi_int_list, fIsi_bl_int, fIsi_bl_bool, fIsi_bl_tuple, fIsi_bl_str, fIsi_bl_list, fIsi_non_int, fIsi_non_bool, fIsi_non_tuple, fIsi_non_str, fIsi_non_list, fIsi_str_int, fIsi_str_bool, fIsi_str_tuple, fIsi_str_str, fIsi_str_list, fIsi_tup_int, fIsi_tup_bool, fIsi_tup_tuple, fIsi_tup_str, fIsi_tup_list, fIsi_lst_int, fIsi_lst_bool, fIsi_lst_tuple, fIsi_lst_str, fIsi_lst_list, fLen_lst, fLen_tup, fAbs, ↓D3.call3_k, ↓D3.kont_app, ↓D3.isN3.eq_1, ↓D3.notN3.eq_1, dIsN_non, dIsN_int, dIsN_bl, dIsN_str, dIsN_tup, dIsN_lst, ↓D3.slc3.eq_1, ↓D3.part3.eq_1, ↓D3.noPart3.eq_1, ↓D3.ilst3.eq_1, ↓D3.itup3.eq_1, ↓D3.irng1.eq_1, ↓D3.irng2.eq_1, ↓D3.for3.eq_1, fCat, fEq_int, fNe_int, fEq_bl, fNe_bl, fEq_pair, fNe_pair, List.map, List.replicate, List.length_cons, List.length_nil, List.set_cons_zero, List.set_cons_succ, List.getElem?_cons_zero, List.getElem?_cons_succ, List.cons_append, List.nil_append, at_0, at_1, at_2, at_3, at_4, at_5, at_6, ix_0, ix_1, ix_2, put_same, put_put, decide_eq_true_eq, Bool.not_eq_true', decide_eq_false_iff_not, ite_not, ite_true, ite_false, if_true, if_false, Bool.false_eq_true, ↓reduceIte, reduceIte, Nat.reduceAdd, Nat.reduceSub, Int.reduceToNat, Nat.reduceLeDiff, not_false_eq_true, true_and, and_true, ne_eq, Int.reduceEq, Nat.zero_add, Bool.not_true, Bool.not_false, reduceCtorEq, nc0, nc1, nc2, nc3, nc4, nc5, fIx_ref put_same, fLen_ref put_same, ↓D3.lc3.eq_1, fInt, fTuple, fList, fNeS_s, fEqS_s, ↓D3.gstar3.eq_1, fInK_s, fNinK_s, fLenS_s, ↓D3.slcT3.eq_1, fCatT_t, ↓D3.app3.eq_1, ↓D3.frz3.eq_1, ↓D3.dc23.eq_1, ↓D3.lcT3.eq_1, ↓D3.litRep3.eq_1, ↓D3.litRepM3.eq_1, ↓D3.rev3.eq_1, ↓D3.dget3.eq_1, ↓D3.disp3.eq_1, ↓D3.ienum3.eq_1, pop3, sset3]
        refine ⟨c, rfl, ?_⟩
        have e : decide (c ∈ (Str.ofString "abcdefghijklmnopqrstuvwxyz").cps.toList) = decide (97 ≤ c ∧ c ≤ 122) := by
          have e0 : (Str.ofString "abcdefghijklmnopqrstuvwxyz").cps.toList = [97, 98, 99, 100, 101, 102, 103, 104, 105, 106, 107, 108, 109, 110, 111, 112, 113, 114, 115, 116, 117, 118, 119, 120, 121, 122] := by decide +kernel
          rw [e0]
          simp only [List.mem_cons, List.not_mem_nil, or_false]
          congr 1
          apply propext
          omega
        rw [e]
        simpa using k
      · rw [del_put, del_none hL]
        refine ⟨y.cps.toList.map fun c => decide (97 ≤ c ∧ c ≤ 122), ?_, ?_⟩
        · simp [signs]
        · simpa using q
    · rwa [decide_eq_false (p := 1 ≤ y.length ∧ y.length ≤ 8 ∧ y ≠ "pi") fun z => h2 (by omega), Bool.false_and] at q
    · rwa [decide_eq_false (p := 1 ≤ y.length ∧ y.length ≤ 8 ∧ y ≠ "pi") fun z => h1 (by omega), Bool.false_and] at q
  | _ => (try simp -implicitDefEqProofs -dsimp only [seq3, ↓D3.ifS3.eq_1, ↓D3.b3.eq_1, ↓D3.op3.eq_1, ↓D3.un3.eq_1, ↓D3.v3.eq_1, ↓D3.c3.eq_1, fIx_tup, fIx_lst, at3_0, at3_1, at3_2, at3_3, at3_4, at3_5, at3_6, start3, fI0_i, fI_i, fLt, fLe, fGt, fGe, fEqI, fNeI, fMin, fMax, ↓D3.asg3.eq_1, ↓D3.name3.eq_1, ↓D3.sub3.eq_1, ↓D3.ret3.eq_1, ↓D3.retN3.eq_1, ↓D3.nx3.eq_1, ↓D3.drop3.eq_1, ↓D3.par3.eq_1, ↓D3.aug3.eq_1, ↓D3.and3.eq_1, ↓D3.or3.eq_1, ↓D3.not3.eq_1, ↓D3.andV3.eq_1, ↓D3.orV3.eq_1, ↓D3.notV3.eq_1, ↓D3.if3.eq_1, ↓D3.nil3.eq_1, ↓D3.cons3.eq_1, ↓D3.tup3.eq_1, ↓D3.lst3.eq_1, ↓D3.lstM3.eq_1, ↓D3.gtup3.eq_1, ↓D3.gcons3.eq_1, ↓D3.gnil3.eq_1, ↓D3.gunl3.eq_1, ↓D3.bits3.eq_1, ↓D3.neg3.eq_1, ↓D3.chain3.eq_1, fIsi_int_int, fIsi_int_bool, fIsi_int_tuple, fIsi_int_str, fIsi_int_list, fIsi_bl_int, fIsi_bl_bool, fIsi_bl_tuple, fIsi_bl_str, fIsi_bl_list, fIsi_non_int, fIsi_non_bool, fIsi_non_tuple, fIsi_non_str, fIsi_non_list, fIsi_str_int, fIsi_str_bool, fIsi_str_tuple, fIsi_str_str, fIsi_str_list, fIsi_tup_int, fIsi_tup_bool, fIsi_tup_tuple, fIsi_tup_str, fIsi_tup_list, fIsi_lst_int, fIsi_lst_bool, fIsi_lst_tuple, fIsi_lst_str, fIsi_lst_list, fLen_lst, fLen_tup, fAbs, ↓D3.call3_k, ↓D3.kont_app, ↓D3.isN3.eq_1, ↓D3.notN3.eq_1, dIsN_non, dIsN_int, dIsN_bl, dIsN_str, dIsN_tup, dIsN_lst, ↓D3.slc3.eq_1, ↓D3.part3.eq_1, ↓D3.noPart3.eq_1, ↓D3.ilst3.eq_1, ↓D3.itup3.eq_1, ↓D3.irng1.eq_1, ↓D3.irng2.eq_1, ↓D3.for3.eq_1, fCat, fEq_int, fNe_int, fEq_bl, fNe_bl, fEq_pair, fNe_pair, List.map, List.replicate, List.length_cons, List.length_nil, List.set_cons_zero, List.set_cons_succ, List.getElem?_cons_zero, List.getElem?_cons_succ, List.cons_append, List.nil_append, at_0, at_1, at_2, at_3, at_4, at_5, at_6, ix_0, ix_1, ix_2, put_same, put_put, decide_eq_true_eq, Bool.not_eq_true', decide_eq_false_iff_not, ite_not, ite_true, ite_false, if_true, if_false, Bool.false_eq_true, ↓reduceIte, reduceIte, Nat.reduceAdd, Nat.reduceSub, Int.reduceToNat, Nat.reduceLeDiff, not_false_eq_true, true_and, and_true, ne_eq, Int.reduceEq, Nat.zero_add, Bool.not_true, Bool.not_false, reduceCtorEq, nc0, nc1, nc2, nc3, nc4, nc5, fIx_ref put_same, fLen_ref put_same, ↓D3.lc3.eq_1, fInt, fTuple, fList, fNeS_s, fEqS_s, ↓D3.gstar3.eq_1, fInK_s, fNinK_s, fLenS_s, ↓D3.slcT3.eq_1, fCatT_t, ↓D3.app3.eq_1, ↓D3.frz3.eq_1, ↓D3.dc23.eq_1, ↓D3.lcT3.eq_1, ↓D3.litRep3.eq_1, ↓D3.litRepM3.eq_1, ↓D3.rev3.eq_1, ↓D3.dget3.eq_1, ↓D3.disp3.eq_1, ↓D3.ienum3.eq_1, pop3, sset3]); exact q
def oD : Option (List D) → D
  | none => .non
  | some l => .lst l
def sp_parts : Sp3 := fun ds m P => ∃ d : D, ds = [d] ∧ Pl 900 d ∧ dp d ≤ 60 ∧ P (oD (inn d)) m
theorem ok_parts_within (T : Tx w K mg fa fd) : Fn3 P w K mg base 3 (fa 5) (fd 5) ["thing"] sp_parts := by
  refine fn3 T.d_parts_within.F sc_parts_within (fun ds m Q h => by obtain ⟨_, rfl, _⟩ := h; rfl) fun cdv A outer s H E ds m Q hr h => ?_
  obtain ⟨d, rfl, hp, hd, q⟩ := h
  refine ⟨_, (ss_cons (s_if (t_w (t_or (t_not (t_val (e_isi rfl T.b_isinstance (e_v 0) (e_type rfl T.b_tuple PyProof.Rows.boot_tuple)))) (t_or (t_eq hr (e_v 0) (e_tup a_nil)) (t_or1 (t_not (t_val (e_isi rfl T.b_isinstance (e_ix (e_v 0) e_int) (e_type rfl T.b_str PyProof.Rows.boot_str)))))))) (ss_one (s_ret e_non)) ss_nil)
      (ss_cons (s_asg (e_v 0) (g_star rfl (g_name (i := 1) sc_parts_within.nd) (g_name (i := 2) sc_parts_within.nd)))
      (ss_cons (s_if (t_inK rfl T.t_KINDS_OF_TWO (e_v 1)) (ss_one (s_ret (e_if (t_eqI (e_len rfl T.b_len (e_v 2)) e_int) (e_v 2) e_non))) ss_nil)
      (ss_cons (s_if (t_inK rfl T.t_KINDS_OF_ONE (e_v 1)) (ss_one (s_ret (e_if (t_eqI (e_len rfl T.b_len (e_v 2)) e_int) (e_v 2) e_non))) ss_nil)
      (ss_cons (s_if (t_eqS (e_v 1) e_str) (ss_one (s_ret (e_if (t_eq hr (e_v 2) (e_lst a_nil)) (e_lst a_nil) e_non))) ss_nil)
      (ss_cons (s_if (t_eqS (e_v 1) e_str) (ss_one (s_ret (e_if (t_w (t_and (t_eqI (e_len rfl T.b_len (e_v 2)) e_int) (t_and1 (t_val (e_call T.d_is_fraction (ok_is_fraction T) (hr.mono (by omega)) rfl (a_cons (e_ix (e_v 2) e_int) a_nil)))))) (e_lst a_nil) e_non))) ss_nil)
      (ss_cons (s_if (t_eqS (e_v 1) e_str) (ss_one (s_ret (e_if (t_w (t_and (t_eqI (e_len rfl T.b_len (e_v 2)) e_int) (t_and1 (t_val (e_call T.d_is_name (ok_is_name T) (hr.mono (by omega)) rfl (a_cons (e_ix (e_v 2) e_int) a_nil)))))) (e_lst a_nil) e_non))) ss_nil)
      (ss_cons (s_if (t_eqS (e_v 1) e_str) (ss_one (s_ret (e_if (t_w (t_and (t_eqI (e_len rfl T.b_len (e_v 2)) e_int) (t_and (t_val (e_call T.d_is_whole (ok_is_whole T) (hr.mono (by omega)) rfl (a_cons (e_ix (e_v 2) e_int) a_nil))) (t_and1 (t_chain op_le rl_le op_le rl_le e_int (e_ix (e_v 2) e_int) e_int))))) (e_slice (e_v 2) (o_some e_int) o_none) e_non))) ss_nil)
      (ss_cons (s_if (t_w (t_and (t_eqS (e_v 1) e_str) (t_and (t_eqI (e_len rfl T.b_len (e_v 2)) e_int) (t_and (t_val (e_call T.d_is_name (ok_is_name T) (hr.mono (by omega)) rfl (a_cons (e_ix (e_v 2) e_int) a_nil))) (t_and (t_val (e_call T.d_is_fraction (ok_is_fraction T) (hr.mono (by omega)) rfl (a_cons (e_ix (e_v 2) e_int) a_nil))) (t_and1 (t_val (e_call T.d_is_fraction (ok_is_fraction T) (hr.mono (by omega)) rfl (a_cons (e_ix (e_v 2) e_int) a_nil))))))))) (ss_one (s_ret (e_if (t_val (e_call T.d_is_less_fraction (ok_is_less_fraction T) (hr.mono (by omega)) rfl (a_cons (e_ix (e_v 2) e_int) (a_cons (e_ix (e_v 2) e_int) a_nil)))) (e_slice (e_v 2) (o_some e_int) o_none) e_non))) ss_nil)
      (ss_one (s_ret e_non))))))))))), ?_⟩
  cases d with
  | ref a => exact (hp : False).elim
  | ty a => exact (hp : False).elim
  | tup ds =>
    cases ds with
    | nil =>
      (refine laterP_in ?_; repeat ((first | with_reducible refine laterP_i ?_ | with_reducible refine later_i ?_); try simp -implicitDefEqProofs -dsimp only [↓D3.seq3_stop, ↓D3.ifS3.eq_1, ↓D3.b3.eq_1, ↓D3.op3.eq_1, ↓D3.un3.eq_1, ↓D3.v3.eq_1, ↓D3.c3.eq_1, fIx_tup, fIx_lst, at3_0, at3_1, at3_2, at3_3, at3_4, at3_5, at3_6, start3, fI0_i, fI_i, fLt, fLe, fGt, fGe, fEqI, fNeI, fMin, fMax, ↓D3.asg3.eq_1, ↓D3.name3.eq_1, ↓D3.sub3.eq_1, ↓D3.ret3.eq_1, ↓D3.retN3.eq_1, ↓D3.nx3.eq_1, ↓D3.drop3.eq_1, ↓D3.par3.eq_1, ↓D3.aug3.eq_1, ↓D3.and3.eq_1, ↓D3.or3.eq_1, ↓D3.not3.eq_1, ↓D3.andV3.eq_1, ↓D3.orV3.eq_1, ↓D3.notV3.eq_1, ↓D3.if3.eq_1, ↓D3.nil3.eq_1, ↓D3.cons3.eq_1, ↓D3.tup3.eq_1, ↓D3.lst3.eq_1, ↓D3.lstM3.eq_1, ↓D3.gtup3.eq_1, ↓D3.gcons3.eq_1, ↓D3.gnil3.eq_1, ↓D3.gunl3.eq_1, ↓D3.bits3.eq_1, ↓D3.neg3.eq_1, ↓D3.chain3.eq_1, fIsi_int_int, fIsi_int_bool, fIsi_int_tuple, fIsi_int_str, fIsi_int_list, fIsi_bl_int, fIsi_bl_bool, fIsi_bl_tuple, fIsi_bl_str, fIsi_bl_list, fIsi_non_int, fIsi_non_bool, fIsi_non_tuple, fIsi_non_str, fIsi_non_list, fIsi_str_int, fIsi_str_bool, fIsi_str_tuple, fIsi_str_str, fIsi_str_list, fIsi_tup_int, fIsi_tup_bool, fIsi_tup_tuple, fIsi_tup_str, fIsi_tup_list, fIsi_lst_int, fIsi_lst_bool, fIsi_lst_tuple, fIsi_lst_str, fIsi_lst_list, fLen_lst, fLen_tup, fAbs, ↓D3.call3_k, ↓D3.kont_app, ↓D3.isN3.eq_1, ↓D3.notN3.eq_1, dIsN_non, dIsN_int, dIsN_bl, dIsN_str, dIsN_tup, dIsN_lst, ↓D3.slc3.eq_1, ↓D3.part3.eq_1, ↓D3.noPart3.eq_1, ↓D3.ilst3.eq_1, ↓D3.itup3.eq_1, ↓D3.irng1.eq_1, ↓D3.irng2.eq_1, ↓D3.for3.eq_1, fCat, fEq_int, fNe_int, fEq_bl, fNe_bl, fEq_pair, fNe_pair, List.map, List.replicate, List.length_cons, List.length_nil, List.set_cons_zero, List.set_cons_succ, List.getElem?_cons_zero, List.getElem?_cons_succ, List.cons_append, List.nil_append, at_0, at_1, at_2, at_3, at_4, at_5, at_6, ix_0, ix_1, ix_2, put_same, put_put, decide_eq_true_eq, Bool.not_eq_true', decide_eq_false_iff_not, ite_not, ite_true, ite_false, if_true, if_false, Bool.false_eq_true, ↓reduceIte, reduceIte, Nat.reduceAdd, Nat.reduceSub, Int.reduceToNat, Nat.reduceLeDiff, not_false_eq_true, true_and, and_true, ne_eq, Int.reduceEq, Nat.zero_add, Bool.not_true, Bool.not_false, reduceCtorEq, nc0, nc1, nc2, nc3, nc4, nc5, fIx_ref put_same, fLen_ref put_same, ↓D3.lc3.eq_1, fInt, fTuple, fList, fNeS_s, fEqS_s, ↓D3.gstar3.eq_1, fInK_s, fNinK_s, fLenS_s, ↓D3.slcT3.eq_1, fCatT_t, ↓D3.app3.eq_1, ↓D3.frz3.eq_1, ↓D3.dc23.eq_1, ↓D3.lcT3.eq_1, ↓D3.litRep3.eq_1, ↓D3.litRepM3.eq_1, ↓D3.rev3.eq_1, ↓D3.dget3.eq_1, ↓D3.disp3.eq_1, ↓D3.ienum3.eq_1, pop3, sset3]))
      rw [fEq_pl (n := 900) (k := 900) hp (show Pl 900 (.tup []) from trivial) (by simp [dp, dps]) (by simp [dp, dps])]
      (refine laterP_in ?_; repeat ((first | with_reducible refine laterP_i ?_ | with_reducible refine later_i ?_); try simp -implicitDefEqProofs -dsimp only [↓D3.seq3_stop, ↓D3.ifS3.eq_1, ↓D3.b3.eq_1, ↓D3.op3.eq_1, ↓D3.un3.eq_1, ↓D3.v3.eq_1, ↓D3.c3.eq_1, fIx_tup, fIx_lst, at3_0, at3_1, at3_2, at3_3, at3_4, at3_5, at3_6, start3, fI0_i, fI_i, fLt, fLe, fGt, fGe, fEqI, fNeI, fMin, fMax, ↓D3.asg3.eq_1, ↓D3.name3.eq_1, ↓D3.sub3.eq_1, ↓D3.ret3.eq_1, ↓D3.retN3.eq_1, ↓D3.nx3.eq_1, ↓D3.drop3.eq_1, ↓D3.par3.eq_1, ↓D3.aug3.eq_1, ↓D3.and3.eq_1, ↓D3.or3.eq_1, ↓D3.not3.eq_1, ↓D3.andV3.eq_1, ↓D3.orV3.eq_1, ↓D3.notV3.eq_1, ↓D3.if3.eq_1, ↓D3.nil3.eq_1, ↓D3.cons3.eq_1, ↓D3.tup3.eq_1, ↓D3.lst3.eq_1, ↓D3.lstM3.eq_1, ↓D3.gtup3.eq_1, ↓D3.gcons3.eq_1, ↓D3.gnil3.eq_1, ↓D3.gunl3.eq_1, ↓D3.bits3.eq_1, ↓D3.neg3.eq_1, ↓D3.chain3.eq_1, fIsi_int_int, fIsi_int_bool, fIsi_int_tuple, fIsi_int_str, fIsi_int_list, fIsi_bl_int, fIsi_bl_bool, fIsi_bl_tuple, fIsi_bl_str, fIsi_bl_list, fIsi_non_int, fIsi_non_bool, fIsi_non_tuple, fIsi_non_str, fIsi_non_list, fIsi_str_int, fIsi_str_bool, fIsi_str_tuple, fIsi_str_str, fIsi_str_list, fIsi_tup_int, fIsi_tup_bool, fIsi_tup_tuple, fIsi_tup_str, fIsi_tup_list, fIsi_lst_int, fIsi_lst_bool, fIsi_lst_tuple, fIsi_lst_str, fIsi_lst_list, fLen_lst, fLen_tup, fAbs, ↓D3.call3_k, ↓D3.kont_app, ↓D3.isN3.eq_1, ↓D3.notN3.eq_1, dIsN_non, dIsN_int, dIsN_bl, dIsN_str, dIsN_tup, dIsN_lst, ↓D3.slc3.eq_1, ↓D3.part3.eq_1, ↓D3.noPart3.eq_1, ↓D3.ilst3.eq_1, ↓D3.itup3.eq_1, ↓D3.irng1.eq_1, ↓D3.irng2.eq_1, ↓D3.for3.eq_1, fCat, fEq_int, fNe_int, fEq_bl, fNe_bl, fEq_pair, fNe_pair, List.map, List.replicate, List.length_cons, List.length_nil, List.set_cons_zero, List.set_cons_succ, List.getElem?_cons_zero, List.getElem?_cons_succ, List.cons_append, List.nil_append, at_0, at_1, at_2, at_3, at_4, at_5, at_6, ix_0, ix_1, ix_2, put_same, put_put, decide_eq_true_eq, Bool.not_eq_true', decide_eq_false_iff_not, ite_not, ite_true, ite_false, if_true, if_false, Bool.false_eq_true, ↓reduceIte, reduceIte, Nat.reduceAdd, Nat.reduceSub, Int.reduceToNat, Nat.reduceLeDiff, not_false_eq_true, true_and, and_true, ne_eq, Int.reduceEq, Nat.zero_add, Bool.not_true, Bool.not_false, reduceCtorEq, nc0, nc1, nc2, nc3, nc4, nc5, fIx_ref put_same, fLen_ref put_same, ↓D3.lc3.eq_1, fInt, fTuple, fList, fNeS_s, fEqS_s, ↓D3.gstar3.eq_1, fInK_s, fNinK_s, fLenS_s, ↓D3.slcT3.eq_1, fCatT_t, ↓D3.app3.eq_1, ↓D3.frz3.eq_1, ↓D3.dc23.eq_1, ↓D3.lcT3.eq_1, ↓D3.litRep3.eq_1, ↓D3.litRepM3.eq_1, ↓D3.rev3.eq_1, ↓D3.dget3.eq_1, ↓D3.disp3.eq_1, ↓D3.ienum3.eq_1, pop3, sset3]))
      exact q
    | cons x r =>
      (refine laterP_in ?_; repeat ((first | with_reducible refine laterP_i ?_ | with_reducible refine later_i ?_); try simp -implicitDefEqProofs -dsimp only [↓D3.seq3_stop, ↓D3.ifS3.eq_1, ↓D3.b3.eq_1, ↓D3.op3.eq_1, ↓D3.un3.eq_1, ↓D3.v3.eq_1, ↓D3.c3.eq_1, fIx_tup, fIx_lst, at3_0, at3_1, at3_2, at3_3, at3_4, at3_5, at3_6, start3, fI0_i, fI_i, fLt, fLe, fGt, fGe, fEqI, fNeI, fMin, fMax, ↓D3.asg3.eq_1, ↓D3.name3.eq_1, ↓D3.sub3.eq_1, ↓D3.ret3.eq_1, ↓D3.retN3.eq_1, ↓D3.nx3.eq_1, ↓D3.drop3.eq_1, ↓D3.par3.eq_1, ↓D3.aug3.eq_1, ↓D3.and3.eq_1, ↓D3.or3.eq_1, ↓D3.not3.eq_1, ↓D3.andV3.eq_1, ↓D3.orV3.eq_1, ↓D3.notV3.eq_1, ↓D3.if3.eq_1, ↓D3.nil3.eq_1, ↓D3.cons3.eq_1, ↓D3.tup3.eq_1, ↓D3.lst3.eq_1, ↓D3.lstM3.eq_1, ↓D3.gtup3.eq_1, ↓D3.gcons3.eq_1, ↓D3.gnil3.eq_1, ↓D3.gunl3.eq_1, ↓D3.bits3.eq_1, ↓D3.neg3.eq_1, ↓D3.chain3.eq_1, fIsi_int_int, fIsi_int_bool, fIsi_int_tuple, fIsi_int_str, fIsi_int_list, fIsi_bl_int, fIsi_bl_bool, fIsi_bl_tuple, fIsi_bl_str, fIsi_bl_list, fIsi_non_int, fIsi_non_bool, fIsi_non_tuple, fIsi_non_str, fIsi_non_list, fIsi_str_int, fIsi_str_bool, fIsi_str_tuple, fIsi_str_str, fIsi_str_list, fIsi_tup_int, fIsi_tup_bool, fIsi_tup_tuple, fIsi_tup_str, fIsi_tup_list, fIsi_lst_int, fIsi_lst_bool, fIsi_lst_tuple, fIsi_lst_str, fIsi_lst_list, fLen_lst, fLen_tup, fAbs, ↓D3.call3_k, ↓D3.kont_app, ↓D3.isN3.eq_1, ↓D3.notN3.eq_1, dIsN_non, dIsN_int, dIsN_bl, dIsN_str, dIsN_tup, dIsN_lst, ↓D3.slc3.eq_1, ↓D3.part3.eq_1, ↓D3.noPart3.eq_1, ↓D3.ilst3.eq_1, ↓D3.itup3.eq_1, ↓D3.irng1.eq_1, ↓D3.irng2.eq_1, ↓D3.for3.eq_1, fCat, fEq_int, fNe_int, fEq_bl, fNe_bl, fEq_pair, fNe_pair, List.map, List.replicate, List.length_cons, List.length_nil, List.set_cons_zero, List.set_cons_succ, List.getElem?_cons_zero, List.getElem?_cons_succ, List.cons_append, List.nil_append, at_0, at_1, at_2, at_3, at_4, at_5, at_6, ix_0, ix_1, ix_2, put_same, put_put, decide_eq_true_eq, Bool.not_eq_true', decide_eq_false_iff_not, ite_not, ite_true, ite_false, if_true, if_false, Bool.false_eq_true, ↓reduceIte, reduceIte, Nat.reduceAdd, Nat.reduceSub, Int.reduceToNat, Nat.reduceLeDiff, not_false_eq_true, true_and, and_true, ne_eq, Int.reduceEq, Nat.zero_add, Bool.not_true, Bool.not_false, reduceCtorEq, nc0, nc1, nc2, nc3, nc4, nc5, fIx_ref put_same, fLen_ref put_same, ↓D3.lc3.eq_1, fInt, fTuple, fList, fNeS_s, fEqS_s, ↓D3.gstar3.eq_1, fInK_s, fNinK_s, fLenS_s, ↓D3.slcT3.eq_1, fCatT_t, ↓D3.app3.eq_1, ↓D3.frz3.eq_1, ↓D3.dc23.eq_1, ↓D3.lcT3.eq_1, ↓D3.litRep3.eq_1, ↓D3.litRepM3.eq_1, ↓D3.rev3.eq_1, ↓D3.dget3.eq_1, ↓D3.disp3.eq_1, ↓D3.ienum3.eq_1, pop3, sset3]))
      rw [fEq_pl (n := 900) (k := 900) hp (show Pl 900 (.tup []) from trivial) (by omega) (by simp [dp, dps])]
      rw [show PyData.eqv (pyOf (.tup (x :: r))) (pyOf (.tup [])) = false from by simp [pyOf, pysOf, PyData.eqv, PyData.eqvAll]]
      cases x with
      | str h =>
        change Q (oD (inn2 h r)) m at q
        unfold inn2 at q
        have pr : Pls 900 r := hp.2
        have dr : dp (.lst r) ≤ 60 := by simp only [dp, dps] at hd ⊢; omega
        clear hp hd
        (refine laterP_in ?_; repeat ((first | with_reducible refine laterP_i ?_ | with_reducible refine later_i ?_); try simp -implicitDefEqProofs -dsimp only [↓D3.seq3_stop, ↓D3.ifS3.eq_1, ↓D3.b3.eq_1, ↓D3.op3.eq_1, ↓D3.un3.eq_1, ↓D3.v3.eq_1, ↓D3.c3.eq_1, fIx_tup, fIx_lst, at3_0, at3_1, at3_2, at3_3, at3_4, at3_5, at3_6, start3, fI0_i, fI_i, fLt, fLe, fGt, fGe, fEqI, fNeI, fMin, fMax, ↓D3.asg3.eq_1, ↓D3.name3.eq_1, ↓D3.sub3.eq_1, ↓D3.ret3.eq_1, ↓D3.retN3.eq_1, ↓D3.nx3.eq_1, ↓D3.drop3.eq_1, ↓D3.par3.eq_1, ↓D3.aug3.eq_1, ↓D3.and3.eq_1, ↓D3.or3.eq_1, ↓D3.not3.eq_1, ↓D3.andV3.eq_1, ↓D3.orV3.eq_1, ↓D3.notV3.eq_1, ↓D3.if3.eq_1, ↓D3.nil3.eq_1, ↓D3.cons3.eq_1, ↓D3.tup3.eq_1, ↓D3.lst3.eq_1, ↓D3.lstM3.eq_1, ↓D3.gtup3.eq_1, ↓D3.gcons3.eq_1, ↓D3.gnil3.eq_1, ↓D3.gunl3.eq_1, ↓D3.bits3.eq_1, ↓D3.neg3.eq_1, ↓D3.chain3.eq_1, fIsi_int_int, fIsi_int_bool, fIsi_int_tuple, fIsi_int_str, fIsi_int_list, fIsi_bl_int, fIsi_bl_bool, fIsi_bl_tuple, fIsi_bl_str, fIsi_bl_list, fIsi_non_int, fIsi_non_bool, fIsi_non_tuple, fIsi_non_str, fIsi_non_list, fIsi_str_int, fIsi_str_bool, fIsi_str_tuple, fIsi_str_str, fIsi_str_list, fIsi_tup_int, fIsi_tup_bool, fIsi_tup_tuple, fIsi_tup_str, fIsi_tup_list, fIsi_lst_int, fIsi_lst_bool, fIsi_lst_tuple, fIsi_lst_str, fIsi_lst_list, fLen_lst, fLen_tup, fAbs, ↓D3.call3_k, ↓D3.kont_app, ↓D3.isN3.eq_1, ↓D3.notN3.eq_1, dIsN_non, dIsN_int, dIsN_bl, dIsN_str, dIsN_tup, dIsN_lst, ↓D3.slc3.eq_1, ↓D3.part3.eq_1, ↓D3.noPart3.eq_1, ↓D3.ilst3.eq_1, ↓D3.itup3.eq_1, ↓D3.irng1.eq_1, ↓D3.irng2.eq_1, ↓D3.for3.eq_1, fCat, fEq_int, fNe_int, fEq_bl, fNe_bl, fEq_pair, fNe_pair, List.map, List.replicate, List.length_cons, List.length_nil, List.set_cons_zero, List.set_cons_succ, List.getElem?_cons_zero, List.getElem?_cons_succ, List.cons_append, List.nil_append, at_0, at_1, at_2, at_3, at_4, at_5, at_6, ix_0, ix_1, ix_2, put_same, put_put, decide_eq_true_eq, Bool.not_eq_true', decide_eq_false_iff_not, ite_not, ite_true, ite_false, if_true, if_false, Bool.false_eq_true, ↓reduceIte, reduceIte, Nat.reduceAdd, Nat.reduceSub, Int.reduceToNat, Nat.reduceLeDiff, not_false_eq_true, true_and, and_true, ne_eq, Int.reduceEq, Nat.zero_add, Bool.not_true, Bool.not_false, reduceCtorEq, nc0, nc1, nc2, nc3, nc4, nc5, fIx_ref put_same, fLen_ref put_same, ↓D3.lc3.eq_1, fInt, fTuple, fList, fNeS_s, fEqS_s, ↓D3.gstar3.eq_1, fInK_s, fNinK_s, fLenS_s, ↓D3.slcT3.eq_1, fCatT_t, ↓D3.app3.eq_1, ↓D3.frz3.eq_1, ↓D3.dc23.eq_1, ↓D3.lcT3.eq_1, ↓D3.litRep3.eq_1, ↓D3.litRepM3.eq_1, ↓D3.rev3.eq_1, ↓D3.dget3.eq_1, ↓D3.disp3.eq_1, ↓D3.ienum3.eq_1, pop3, sset3]))
        refine ite2 (fun h1 => ?_) (fun h1 => ?_)
        · rw [if_pos (show h ∈ K2 from h1)] at q
          exact ite2 (fun b => by rw [if_pos (by omega)] at q; exact q) (fun b => by rw [if_neg (by omega)] at q; exact q)
        rw [if_neg (show ¬ h ∈ K2 from h1)] at q
        (refine laterP_in ?_; repeat ((first | with_reducible refine laterP_i ?_ | with_reducible refine later_i ?_); try simp -implicitDefEqProofs -dsimp only [↓D3.seq3_stop, ↓D3.ifS3.eq_1, ↓D3.b3.eq_1, ↓D3.op3.eq_1, ↓D3.un3.eq_1, ↓D3.v3.eq_1, ↓D3.c3.eq_1, fIx_tup, fIx_lst, at3_0, at3_1, at3_2, at3_3, at3_4, at3_5, at3_6, start3, fI0_i, fI_i, fLt, fLe, fGt, fGe, fEqI, fNeI, fMin, fMax, ↓D3.asg3.eq_1, ↓D3.name3.eq_1, ↓D3.sub3.eq_1, ↓D3.ret3.eq_1, ↓D3.retN3.eq_1, ↓D3.nx3.eq_1, ↓D3.drop3.eq_1, ↓D3.par3.eq_1, ↓D3.aug3.eq_1, ↓D3.and3.eq_1, ↓D3.or3.eq_1, ↓D3.not3.eq_1, ↓D3.andV3.eq_1, ↓D3.orV3.eq_1, ↓D3.notV3.eq_1, ↓D3.if3.eq_1, ↓D3.nil3.eq_1, ↓D3.cons3.eq_1, ↓D3.tup3.eq_1, ↓D3.lst3.eq_1, ↓D3.lstM3.eq_1, ↓D3.gtup3.eq_1, ↓D3.gcons3.eq_1, ↓D3.gnil3.eq_1, ↓D3.gunl3.eq_1, ↓D3.bits3.eq_1, ↓D3.neg3.eq_1, ↓D3.chain3.eq_1, fIsi_int_int, fIsi_int_bool, fIsi_int_tuple, fIsi_int_str, fIsi_int_list, fIsi_bl_int, fIsi_bl_bool, fIsi_bl_tuple, fIsi_bl_str, fIsi_bl_list, fIsi_non_int, fIsi_non_bool, fIsi_non_tuple, fIsi_non_str, fIsi_non_list, fIsi_str_int, fIsi_str_bool, fIsi_str_tuple, fIsi_str_str, fIsi_str_list, fIsi_tup_int, fIsi_tup_bool, fIsi_tup_tuple, fIsi_tup_str, fIsi_tup_list, fIsi_lst_int, fIsi_lst_bool, fIsi_lst_tuple, fIsi_lst_str, fIsi_lst_list, fLen_lst, fLen_tup, fAbs, ↓D3.call3_k, ↓D3.kont_app, ↓D3.isN3.eq_1, ↓D3.notN3.eq_1, dIsN_non, dIsN_int, dIsN_bl, dIsN_str, dIsN_tup, dIsN_lst, ↓D3.slc3.eq_1, ↓D3.part3.eq_1, ↓D3.noPart3.eq_1, ↓D3.ilst3.eq_1, ↓D3.itup3.eq_1, ↓D3.irng1.eq_1, ↓D3.irng2.eq_1, ↓D3.for3.eq_1, fCat, fEq_int, fNe_int, fEq_bl, fNe_bl, fEq_pair, fNe_pair, List.map, List.replicate, List.length_cons, List.length_nil, List.set_cons_zero, List.set_cons_succ, List.getElem?_cons_zero, List.getElem?_cons_succ, List.cons_append, List.nil_append, at_0, at_1, at_2, at_3, at_4, at_5, at_6, ix_0, ix_1, ix_2, put_same, put_put, decide_eq_true_eq, Bool.not_eq_true', decide_eq_false_iff_not, ite_not, ite_true, ite_false, if_true, if_false, Bool.false_eq_true, ↓reduceIte, reduceIte, Nat.reduceAdd, Nat.reduceSub, Int.reduceToNat, Nat.reduceLeDiff, not_false_eq_true, true_and, and_true, ne_eq, Int.reduceEq, Nat.zero_add, Bool.not_true, Bool.not_false, reduceCtorEq, nc0, nc1, nc2, nc3, nc4, nc5, fIx_ref put_same, fLen_ref put_same, ↓D3.lc3.eq_1, fInt, fTuple, fList, fNeS_s, fEqS_s, ↓D3.gstar3.eq_1, fInK_s, fNinK_s, fLenS_s, ↓D3.slcT3.eq_1, fCatT_t, ↓D3.app3.eq_1, ↓D3.frz3.eq_1, ↓D3.dc23.eq_1, ↓D3.lcT3.eq_1, ↓D3.litRep3.eq_1, ↓D3.litRepM3.eq_1, ↓D3.rev3.eq_1, ↓D3.dget3.eq_1, ↓D3.disp3.eq_1, ↓D3.ienum3.eq_1, pop3, sset3]))
        refine ite2 (fun h2 => ?_) (fun h2 => ?_)
        · rw [if_pos (show h ∈ K1 from h2)] at q
          exact ite2 (fun b => by rw [if_pos (by omega)] at q; exact q) (fun b => by rw [if_neg (by omega)] at q; exact q)
        rw [if_neg (show ¬ h ∈ K1 from h2)] at q
        (refine laterP_in ?_; repeat ((first | with_reducible refine laterP_i ?_ | with_reducible refine later_i ?_); try simp -implicitDefEqProofs -dsimp only [↓D3.seq3_stop, ↓D3.ifS3.eq_1, ↓D3.b3.eq_1, ↓D3.op3.eq_1, ↓D3.un3.eq_1, ↓D3.v3.eq_1, ↓D3.c3.eq_1, fIx_tup, fIx_lst, at3_0, at3_1, at3_2, at3_3, at3_4, at3_5, at3_6, start3, fI0_i, fI_i, fLt, fLe, fGt, fGe, fEqI, fNeI, fMin, fMax, ↓D3.asg3.eq_1, ↓D3.name3.eq_1, ↓D3.sub3.eq_1, ↓D3.ret3.eq_1, ↓D3.retN3.eq_1, ↓D3.nx3.eq_1, ↓D3.drop3.eq_1, ↓D3.par3.eq_1, ↓D3.aug3.eq_1, ↓D3.and3.eq_1, ↓D3.or3.eq_1, ↓D3.not3.eq_1, ↓D3.andV3.eq_1, ↓D3.orV3.eq_1, ↓D3.notV3.eq_1, ↓D3.if3.eq_1, ↓D3.nil3.eq_1, ↓D3.cons3.eq_1, ↓D3.tup3.eq_1, ↓D3.lst3.eq_1, ↓D3.lstM3.eq_1, ↓D3.gtup3.eq_1, ↓D3.gcons3.eq_1, ↓D3.gnil3.eq_1, ↓D3.gunl3.eq_1, ↓D3.bits3.eq_1, ↓D3.neg3.eq_1, ↓D3.chain3.eq_1, fIsi_int_int, fIsi_int_bool, fIsi_int_tuple, fIsi_int_str, fIsi_int_list, fIsi_bl_int, fIsi_bl_bool, fIsi_bl_tuple, fIsi_bl_str, fIsi_bl_list, fIsi_non_int, fIsi_non_bool, fIsi_non_tuple, fIsi_non_str, fIsi_non_list, fIsi_str_int, fIsi_str_bool, fIsi_str_tuple, fIsi_str_str, fIsi_str_list, fIsi_tup_int, fIsi_tup_bool, fIsi_tup_tuple, fIsi_tup_str, fIsi_tup_list, fIsi_lst_int, fIsi_lst_bool, fIsi_lst_tuple, fIsi_lst_str, fIsi_lst_list, fLen_lst, fLen_tup, fAbs, ↓D3.call3_k, ↓D3.kont_app, ↓D3.isN3.eq_1, ↓D3.notN3.eq_1, dIsN_non, dIsN_int, dIsN_bl, dIsN_str, dIsN_tup, dIsN_lst, ↓D3.slc3.eq_1, ↓D3.part3.eq_1, ↓D3.noPart3.eq_1, ↓D3.ilst3.eq_1, ↓D3.itup3.eq_1, ↓D3.irng1.eq_1, ↓D3.irng2.eq_1, ↓D3.for3.eq_1, fCat, fEq_int, fNe_int, fEq_bl, fNe_bl, fEq_pair, fNe_pair, List.map, List.replicate, List.length_cons, List.length_nil, List.set_cons_zero, List.set_cons_succ, List.getElem?_cons_zero, List.getElem?_cons_succ, List.cons_append, List.nil_append, at_0, at_1, at_2, at_3, at_4, at_5, at_6, ix_0, ix_1, ix_2, put_same, put_put, decide_eq_true_eq, Bool.not_eq_true', decide_eq_false_iff_not, ite_not, ite_true, ite_false, if_true, if_false, Bool.false_eq_true, ↓reduceIte, reduceIte, Nat.reduceAdd, Nat.reduceSub, Int.reduceToNat, Nat.reduceLeDiff, not_false_eq_true, true_and, and_true, ne_eq, Int.reduceEq, Nat.zero_add, Bool.not_true, Bool.not_false, reduceCtorEq, nc0, nc1, nc2, nc3, nc4, nc5, fIx_ref put_same, fLen_ref put_same, ↓D3.lc3.eq_1, fInt, fTuple, fList, fNeS_s, fEqS_s, ↓D3.gstar3.eq_1, fInK_s, fNinK_s, fLenS_s, ↓D3.slcT3.eq_1, fCatT_t, ↓D3.app3.eq_1, ↓D3.frz3.eq_1, ↓D3.dc23.eq_1, ↓D3.lcT3.eq_1, ↓D3.litRep3.eq_1, ↓D3.litRepM3.eq_1, ↓D3.rev3.eq_1, ↓D3.dget3.eq_1, ↓D3.disp3.eq_1, ↓D3.ienum3.eq_1, pop3, sset3]))
        refine ite2 (fun h3 => ?_) (fun h3 => ?_)
        · rw [if_pos (show h = "pi" from h3)] at q
          rw [fEq_pl (n := 900) (k := 900) (show Pl 900 (.lst r) from pr) (show Pl 900 (.lst []) from trivial) (by omega) (by simp [dp, dps])]
          cases r with
          | nil => ((refine laterP_in ?_; repeat ((first | with_reducible refine laterP_i ?_ | with_reducible refine later_i ?_); try simp -implicitDefEqProofs -dsimp only [↓D3.seq3_stop, ↓D3.ifS3.eq_1, ↓D3.b3.eq_1, ↓D3.op3.eq_1, ↓D3.un3.eq_1, ↓D3.v3.eq_1, ↓D3.c3.eq_1, fIx_tup, fIx_lst, at3_0, at3_1, at3_2, at3_3, at3_4, at3_5, at3_6, start3, fI0_i, fI_i, fLt, fLe, fGt, fGe, fEqI, fNeI, fMin, fMax, ↓D3.asg3.eq_1, ↓D3.name3.eq_1, ↓D3.sub3.eq_1, ↓D3.ret3.eq_1, ↓D3.retN3.eq_1, ↓D3.nx3.eq_1, ↓D3.drop3.eq_1, ↓D3.par3.eq_1, ↓D3.aug3.eq_1, ↓D3.and3.eq_1, ↓D3.or3.eq_1, ↓D3.not3.eq_1, ↓D3.andV3.eq_1, ↓D3.orV3.eq_1, ↓D3.notV3.eq_1, ↓D3.if3.eq_1, ↓D3.nil3.eq_1, ↓D3.cons3.eq_1, ↓D3.tup3.eq_1, ↓D3.lst3.eq_1, ↓D3.lstM3.eq_1, ↓D3.gtup3.eq_1, ↓D3.gcons3.eq_1, ↓D3.gnil3.eq_1, ↓D3.gunl3.eq_1, ↓D3.bits3.eq_1, ↓D3.neg3.eq_1, ↓D3.chain3.eq_1, fIsi_int_int, fIsi_int_bool, fIsi_int_tuple, fIsi_int_str, fIsi_int_list, fIsi_bl_int, fIsi_bl_bool, fIsi_bl_tuple, fIsi_bl_str, fIsi_bl_list, fIsi_non_int, fIsi_non_bool, fIsi_non_tuple, fIsi_non_str, fIsi_non_list, fIsi_str_int, fIsi_str_bool, fIsi_str_tuple, fIsi_str_str, fIsi_str_list, fIsi_tup_int, fIsi_tup_bool, fIsi_tup_tuple, fIsi_tup_str, fIsi_tup_list, fIsi_lst_int, fIsi_lst_bool, fIsi_lst_tuple, fIsi_lst_str, fIsi_lst_list, fLen_lst, fLen_tup, fAbs, ↓D3.call3_k, ↓D3.kont_app, ↓D3.isN3.eq_1, ↓D3.notN3.eq_1, dIsN_non, dIsN_int, dIsN_bl, dIsN_str, dIsN_tup, dIsN_lst, ↓D3.slc3.eq_1, ↓D3.part3.eq_1, ↓D3.noPart3.eq_1, ↓D3.ilst3.eq_1, ↓D3.itup3.eq_1, ↓D3.irng1.eq_1, ↓D3.irng2.eq_1, ↓D3.for3.eq_1, fCat, fEq_int, fNe_int, fEq_bl, fNe_bl, fEq_pair, fNe_pair, List.map, List.replicate, List.length_cons, List.length_nil, List.set_cons_zero, List.set_cons_succ, List.getElem?_cons_zero, List.getElem?_cons_succ, List.cons_append, List.nil_append, at_0, at_1, at_2, at_3, at_4, at_5, at_6, ix_0, ix_1, ix_2, put_same, put_put, decide_eq_true_eq, Bool.not_eq_true', decide_eq_false_iff_not, ite_not, ite_true, ite_false, if_true, if_false, Bool.false_eq_true, ↓reduceIte, reduceIte, Nat.reduceAdd, Nat.reduceSub, Int.reduceToNat, Nat.reduceLeDiff, not_false_eq_true, true_and, and_true, ne_eq, Int.reduceEq, Nat.zero_add, Bool.not_true, Bool.not_false, reduceCtorEq, nc0, nc1, nc2, nc3, nc4, nc5, fIx_ref put_same, fLen_ref put_same, ↓D3.lc3.eq_1, fInt, fTuple, fList, fNeS_s, fEqS_s, ↓D3.gstar3.eq_1, fInK_s, fNinK_s, fLenS_s, ↓D3.slcT3.eq_1, fCatT_t, ↓D3.app3.eq_1, ↓D3.frz3.eq_1, ↓D3.dc23.eq_1, ↓D3.lcT3.eq_1, ↓D3.litRep3.eq_1, ↓D3.litRepM3.eq_1, ↓D3.rev3.eq_1, ↓D3.dget3.eq_1, ↓D3.disp3.eq_1, ↓D3.ienum3.eq_1, pop3, sset3]))); exact q
          | cons x r =>
            rw [show PyData.eqv (pyOf (.lst (x :: r))) (pyOf (.lst [])) = false from by simp [pyOf, pysOf, PyData.eqv, PyData.eqvAll]]
            ((refine laterP_in ?_; repeat ((first | with_reducible refine laterP_i ?_ | with_reducible refine later_i ?_); try simp -implicitDefEqProofs -dsimp only [↓D3.seq3_stop, ↓D3.ifS3.eq_1, ↓D3.b3.eq_1, ↓D3.op3.eq_1, ↓D3.un3.eq_1, ↓D3.v3.eq_1, ↓D3.c3.eq_1, fIx_tup, fIx_lst, at3_0, at3_1, at3_2, at3_3, at3_4, at3_5, at3_6, start3, fI0_i, fI_i, fLt, fLe, fGt, fGe, fEqI, fNeI, fMin, fMax, ↓D3.asg3.eq_1, ↓D3.name3.eq_1, ↓D3.sub3.eq_1, ↓D3.ret3.eq_1, ↓D3.retN3.eq_1, ↓D3.nx3.eq_1, ↓D3.drop3.eq_1, ↓D3.par3.eq_1, ↓D3.aug3.eq_1, ↓D3.and3.eq_1, ↓D3.or3.eq_1, ↓D3.not3.eq_1, ↓D3.andV3.eq_1, ↓D3.orV3.eq_1, ↓D3.notV3.eq_1, ↓D3.if3.eq_1, ↓D3.nil3.eq_1, ↓D3.cons3.eq_1, ↓D3.tup3.eq_1, ↓D3.lst3.eq_1, ↓D3.lstM3.eq_1, ↓D3.gtup3.eq_1, ↓D3.gcons3.eq_1, ↓D3.gnil3.eq_1, ↓D3.gunl3.eq_1, ↓D3.bits3.eq_1, ↓D3.neg3.eq_1, ↓D3.chain3.eq_1, fIsi_int_int, fIsi_int_bool, fIsi_int_tuple, fIsi_int_str, fIsi_int_list, fIsi_bl_int, fIsi_bl_bool, fIsi_bl_tuple, fIsi_bl_str, fIsi_bl_list, fIsi_non_int, fIsi_non_bool, fIsi_non_tuple, fIsi_non_str, fIsi_non_list, fIsi_str_int, fIsi_str_bool, fIsi_str_tuple, fIsi_str_str, fIsi_str_list, fIsi_tup_int, fIsi_tup_bool, fIsi_tup_tuple, fIsi_tup_str, fIsi_tup_list, fIsi_lst_int, fIsi_lst_bool, fIsi_lst_tuple, fIsi_lst_str, fIsi_lst_list, fLen_lst, fLen_tup, fAbs, ↓D3.call3_k, ↓D3.kont_app, ↓D3.isN3.eq_1, ↓D3.notN3.eq_1, dIsN_non, dIsN_int, dIsN_bl, dIsN_str, dIsN_tup, dIsN_lst, ↓D3.slc3.eq_1, ↓D3.part3.eq_1, ↓D3.noPart3.eq_1, ↓D3.ilst3.eq_1, ↓D3.itup3.eq_1, ↓D3.irng1.eq_1, ↓D3.irng2.eq_1, ↓D3.for3.eq_1, fCat, fEq_int, fNe_int, fEq_bl, fNe_bl, fEq_pair, fNe_pair, List.map, List.replicate, List.length_cons, List.length_nil, List.set_cons_zero, List.set_cons_succ, List.getElem?_cons_zero, List.getElem?_cons_succ, List.cons_append, List.nil_append, at_0, at_1, at_2, at_3, at_4, at_5, at_6, ix_0, ix_1, ix_2, put_same, put_put, decide_eq_true_eq, Bool.not_eq_true', decide_eq_false_iff_not, ite_not, ite_true, ite_false, if_true, if_false, Bool.false_eq_true, ↓reduceIte, reduceIte, Nat.reduceAdd, Nat.reduceSub, Int.reduceToNat, Nat.reduceLeDiff, not_false_eq_true, true_and, and_true, ne_eq, Int.reduceEq, Nat.zero_add, Bool.not_true, Bool.not_false, reduceCtorEq, nc0, nc1, nc2, nc3, nc4, nc5, fIx_ref put_same, fLen_ref put_same, ↓D3.lc3.eq_1, fInt, fTuple, fList, fNeS_s, fEqS_s, ↓D3.gstar3.eq_1, fInK_s, fNinK_s, fLenS_s, ↓D3.slcT3.eq_1, fCatT_t, ↓D3.app3.eq_1, ↓D3.frz3.eq_1, ↓D3.dc23.eq_1, ↓D3.lcT3.eq_1, ↓D3.litRep3.eq_1, ↓D3.litRepM3.eq_1, ↓D3.rev3.eq_1, ↓D3.dget3.eq_1, ↓D3.disp3.eq_1, ↓D3.ienum3.eq_1, pop3, sset3]))); exact q
        rw [if_neg (show ¬ h = "pi" from h3)] at q
        (refine laterP_in ?_; repeat ((first | with_reducible refine laterP_i ?_ | with_reducible refine later_i ?_); try simp -implicitDefEqProofs -dsimp only [↓D3.seq3_stop, ↓D3.ifS3.eq_1, ↓D3.b3.eq_1, ↓D3.op3.eq_1, ↓D3.un3.eq_1, ↓D3.v3.eq_1, ↓D3.c3.eq_1, fIx_tup, fIx_lst, at3_0, at3_1, at3_2, at3_3, at3_4, at3_5, at3_6, start3, fI0_i, fI_i, fLt, fLe, fGt, fGe, fEqI, fNeI, fMin, fMax, ↓D3.asg3.eq_1, ↓D3.name3.eq_1, ↓D3.sub3.eq_1, ↓D3.ret3.eq_1, ↓D3.retN3.eq_1, ↓D3.nx3.eq_1, ↓D3.drop3.eq_1, ↓D3.par3.eq_1, ↓D3.aug3.eq_1, ↓D3.and3.eq_1, ↓D3.or3.eq_1, ↓D3.not3.eq_1, ↓D3.andV3.eq_1, ↓D3.orV3.eq_1, ↓D3.notV3.eq_1, ↓D3.if3.eq_1, ↓D3.nil3.eq_1, ↓D3.cons3.eq_1, ↓D3.tup3.eq_1, ↓D3.lst3.eq_1, ↓D3.lstM3.eq_1, ↓D3.gtup3.eq_1, ↓D3.gcons3.eq_1, ↓D3.gnil3.eq_1, ↓D3.gunl3.eq_1, ↓D3.bits3.eq_1, ↓D3.neg3.eq_1, ↓D3.chain3.eq_1, fIsi_int_int, fIsi_int_bool, fIsi_int_tuple, fIsi_int_str, fIsi_int_list, fIsi_bl_int, fIsi_bl_bool, fIsi_bl_tuple, fIsi_bl_str, fIsi_bl_list, fIsi_non_int, fIsi_non_bool, fIsi_non_tuple, fIsi_non_str, fIsi_non_list, fIsi_str_int, fIsi_str_bool, fIsi_str_tuple, fIsi_str_str, fIsi_str_list, fIsi_tup_int, fIsi_tup_bool, fIsi_tup_tuple, fIsi_tup_str, fIsi_tup_list, fIsi_lst_int, fIsi_lst_bool, fIsi_lst_tuple, fIsi_lst_str, fIsi_lst_list, fLen_lst, fLen_tup, fAbs, ↓D3.call3_k, ↓D3.kont_app, ↓D3.isN3.eq_1, ↓D3.notN3.eq_1, dIsN_non, dIsN_int, dIsN_bl, dIsN_str, dIsN_tup, dIsN_lst, ↓D3.slc3.eq_1, ↓D3.part3.eq_1, ↓D3.noPart3.eq_1, ↓D3.ilst3.eq_1, ↓D3.itup3.eq_1, ↓D3.irng1.eq_1, ↓D3.irng2.eq_1, ↓D3.for3.eq_1, fCat, fEq_int, fNe_int, fEq_bl, fNe_bl, fEq_pair, fNe_pair, List.map, List.replicate, List.length_cons, List.length_nil, List.set_cons_zero, List.set_cons_succ, List.getElem?_cons_zero, List.getElem?_cons_succ, List.cons_append, List.nil_append, at_0, at_1, at_2, at_3, at_4, at_5, at_6, ix_0, ix_1, ix_2, put_same, put_put, decide_eq_true_eq, Bool.not_eq_true', decide_eq_false_iff_not, ite_not, ite_true, ite_false, if_true, if_false, Bool.false_eq_true, ↓reduceIte, reduceIte, Nat.reduceAdd, Nat.reduceSub, Int.reduceToNat, Nat.reduceLeDiff, not_false_eq_true, true_and, and_true, ne_eq, Int.reduceEq, Nat.zero_add, Bool.not_true, Bool.not_false, reduceCtorEq, nc0, nc1, nc2, nc3, nc4, nc5, fIx_ref put_same, fLen_ref put_same, ↓D3.lc3.eq_1, fInt, fTuple, fList, fNeS_s, fEqS_s, ↓D3.gstar3.eq_1, fInK_s, fNinK_s, fLenS_s, ↓D3.slcT3.eq_1, fCatT_t, ↓D3.app3.eq_1, ↓D3.frz3.eq_1, ↓D3.dc23.eq_1, ↓D3.lcT3.eq_1, ↓D3.litRep3.eq_1, ↓D3.litRepM3.eq_1, ↓D3.rev3.eq_1, ↓D3.dget3.eq_1, ↓D3.disp3.eq_1, ↓D3.ienum3.eq_1, pop3, sset3]))
        refine ite2 (fun h4 => ?_) (fun h4 => ?_)
        · rw [if_pos (show h = "number" from h4)] at q
          match r, pr, q with
          | [], pr, q => ((refine laterP_in ?_; repeat ((first | with_reducible refine laterP_i ?_ | with_reducible refine later_i ?_); try simp -implicitDefEqProofs -dsimp only [↓D3.seq3_stop, ↓D3.ifS3.eq_1, ↓D3.b3.eq_1, ↓D3.op3.eq_1, ↓D3.un3.eq_1, ↓D3.v3.eq_1, ↓D3.c3.eq_1, fIx_tup, fIx_lst, at3_0, at3_1, at3_2, at3_3, at3_4, at3_5, at3_6, start3, fI0_i, fI_i, fLt, fLe, fGt, fGe, fEqI, fNeI, fMin, fMax, ↓D3.asg3.eq_1, ↓D3.name3.eq_1, ↓D3.sub3.eq_1, ↓D3.ret3.eq_1, ↓D3.retN3.eq_1, ↓D3.nx3.eq_1, ↓D3.drop3.eq_1, ↓D3.par3.eq_1, ↓D3.aug3.eq_1, ↓D3.and3.eq_1, ↓D3.or3.eq_1, ↓D3.not3.eq_1, ↓D3.andV3.eq_1, ↓D3.orV3.eq_1, ↓D3.notV3.eq_1, ↓D3.if3.eq_1, ↓D3.nil3.eq_1, ↓D3.cons3.eq_1, ↓D3.tup3.eq_1, ↓D3.lst3.eq_1, ↓D3.lstM3.eq_1, ↓D3.gtup3.eq_1, ↓D3.gcons3.eq_1, ↓D3.gnil3.eq_1, ↓D3.gunl3.eq_1, ↓D3.bits3.eq_1, ↓D3.neg3.eq_1, ↓D3.chain3.eq_1, fIsi_int_int, fIsi_int_bool, fIsi_int_tuple, fIsi_int_str, fIsi_int_list, fIsi_bl_int, fIsi_bl_bool, fIsi_bl_tuple, fIsi_bl_str, fIsi_bl_list, fIsi_non_int, fIsi_non_bool, fIsi_non_tuple, fIsi_non_str, fIsi_non_list, fIsi_str_int, fIsi_str_bool, fIsi_str_tuple, fIsi_str_str, fIsi_str_list, fIsi_tup_int, fIsi_tup_bool, fIsi_tup_tuple, fIsi_tup_str, fIsi_tup_list, fIsi_lst_int, fIsi_lst_bool, fIsi_lst_tuple, fIsi_lst_str, fIsi_lst_list, fLen_lst, fLen_tup, fAbs, ↓D3.call3_k, ↓D3.kont_app, ↓D3.isN3.eq_1, ↓D3.notN3.eq_1, dIsN_non, dIsN_int, dIsN_bl, dIsN_str, dIsN_tup, dIsN_lst, ↓D3.slc3.eq_1, ↓D3.part3.eq_1, ↓D3.noPart3.eq_1, ↓D3.ilst3.eq_1, ↓D3.itup3.eq_1, ↓D3.irng1.eq_1, ↓D3.irng2.eq_1, ↓D3.for3.eq_1, fCat, fEq_int, fNe_int, fEq_bl, fNe_bl, fEq_pair, fNe_pair, List.map, List.replicate, List.length_cons, List.length_nil, List.set_cons_zero, List.set_cons_succ, List.getElem?_cons_zero, List.getElem?_cons_succ, List.cons_append, List.nil_append, at_0, at_1, at_2, at_3, at_4, at_5, at_6, ix_0, ix_1, ix_2, put_same, put_put, decide_eq_true_eq, Bool.not_eq_true', decide_eq_false_iff_not, ite_not, ite_true, ite_false, if_true, if_false, Bool.false_eq_true, ↓reduceIte, reduceIte, Nat.reduceAdd, Nat.reduceSub, Int.reduceToNat, Nat.reduceLeDiff, not_false_eq_true, true_and, and_true, ne_eq, Int.reduceEq, Nat.zero_add, Bool.not_true, Bool.not_false, reduceCtorEq, nc0, nc1, nc2, nc3, nc4, nc5, fIx_ref put_same, fLen_ref put_same, ↓D3.lc3.eq_1, fInt, fTuple, fList, fNeS_s, fEqS_s, ↓D3.gstar3.eq_1, fInK_s, fNinK_s, fLenS_s, ↓D3.slcT3.eq_1, fCatT_t, ↓D3.app3.eq_1, ↓D3.frz3.eq_1, ↓D3.dc23.eq_1, ↓D3.lcT3.eq_1, ↓D3.litRep3.eq_1, ↓D3.litRepM3.eq_1, ↓D3.rev3.eq_1, ↓D3.dget3.eq_1, ↓D3.disp3.eq_1, ↓D3.ienum3.eq_1, pop3, sset3]))); exact q
          | [x], pr, q =>
            (refine laterP_in ?_; repeat ((first | with_reducible refine laterP_i ?_ | with_reducible refine later_i ?_); try simp -implicitDefEqProofs -dsimp only [↓D3.seq3_stop, ↓D3.ifS3.eq_1, ↓D3.b3.eq_1, ↓D3.op3.eq_1, ↓D3.un3.eq_1, ↓D3.v3.eq_1, ↓D3.c3.eq_1, fIx_tup, fIx_lst, at3_0, at3_1, at3_2, at3_3, at3_4, at3_5, at3_6, start3, fI0_i, fI_i, fLt, fLe, fGt, fGe, fEqI, fNeI, fMin, fMax, ↓D3.asg3.eq_1, ↓D3.name3.eq_1, ↓D3.sub3.eq_1, ↓D3.ret3.eq_1, ↓D3.retN3.eq_1, ↓D3.nx3.eq_1, ↓D3.drop3.eq_1, ↓D3.par3.eq_1, ↓D3.aug3.eq_1, ↓D3.and3.eq_1, ↓D3.or3.eq_1, ↓D3.not3.eq_1, ↓D3.andV3.eq_1, ↓D3.orV3.eq_1, ↓D3.notV3.eq_1, ↓D3.if3.eq_1, ↓D3.nil3.eq_1, ↓D3.cons3.eq_1, ↓D3.tup3.eq_1, ↓D3.lst3.eq_1, ↓D3.lstM3.eq_1, ↓D3.gtup3.eq_1, ↓D3.gcons3.eq_1, ↓D3.gnil3.eq_1, ↓D3.gunl3.eq_1, ↓D3.bits3.eq_1, ↓D3.neg3.eq_1, ↓D3.chain3.eq_1, fIsi_int_int, fIsi_int_bool, fIsi_int_tuple, fIsi_int_str, fIsi_int_list, fIsi_bl_int, fIsi_bl_bool, fIsi_bl_tuple, fIsi_bl_str, fIsi_bl_list, fIsi_non_int, fIsi_non_bool, fIsi_non_tuple, fIsi_non_str, fIsi_non_list, fIsi_str_int, fIsi_str_bool, fIsi_str_tuple, fIsi_str_str, fIsi_str_list, fIsi_tup_int, fIsi_tup_bool, fIsi_tup_tuple, fIsi_tup_str, fIsi_tup_list, fIsi_lst_int, fIsi_lst_bool, fIsi_lst_tuple, fIsi_lst_str, fIsi_lst_list, fLen_lst, fLen_tup, fAbs, ↓D3.call3_k, ↓D3.kont_app, ↓D3.isN3.eq_1, ↓D3.notN3.eq_1, dIsN_non, dIsN_int, dIsN_bl, dIsN_str, dIsN_tup, dIsN_lst, ↓D3.slc3.eq_1, ↓D3.part3.eq_1, ↓D3.noPart3.eq_1, ↓D3.ilst3.eq_1, ↓D3.itup3.eq_1, ↓D3.irng1.eq_1, ↓D3.irng2.eq_1, ↓D3.for3.eq_1, fCat, fEq_int, fNe_int, fEq_bl, fNe_bl, fEq_pair, fNe_pair, List.map, List.replicate, List.length_cons, List.length_nil, List.set_cons_zero, List.set_cons_succ, List.getElem?_cons_zero, List.getElem?_cons_succ, List.cons_append, List.nil_append, at_0, at_1, at_2, at_3, at_4, at_5, at_6, ix_0, ix_1, ix_2, put_same, put_put, decide_eq_true_eq, Bool.not_eq_true', decide_eq_false_iff_not, ite_not, ite_true, ite_false, if_true, if_false, Bool.false_eq_true, ↓reduceIte, reduceIte, Nat.reduceAdd, Nat.reduceSub, Int.reduceToNat, Nat.reduceLeDiff, not_false_eq_true, true_and, and_true, ne_eq, Int.reduceEq, Nat.zero_add, Bool.not_true, Bool.not_false, reduceCtorEq, nc0, nc1, nc2, nc3, nc4, nc5, fIx_ref put_same, fLen_ref put_same, ↓D3.lc3.eq_1, fInt, fTuple, fList, fNeS_s, fEqS_s, ↓D3.gstar3.eq_1, fInK_s, fNinK_s, fLenS_s, ↓D3.slcT3.eq_1, fCatT_t, ↓D3.app3.eq_1, ↓D3.frz3.eq_1, ↓D3.dc23.eq_1, ↓D3.lcT3.eq_1, ↓D3.litRep3.eq_1, ↓D3.litRepM3.eq_1, ↓D3.rev3.eq_1, ↓D3.dget3.eq_1, ↓D3.disp3.eq_1, ↓D3.ienum3.eq_1, pop3, sset3]))
            refine ⟨x, 900, rfl, pr.1, ?_⟩
            (refine laterP_in ?_; repeat ((first | with_reducible refine laterP_i ?_ | with_reducible refine later_i ?_); try simp -implicitDefEqProofs -dsimp only [↓D3.seq3_stop, ↓D3.ifS3.eq_1, ↓D3.b3.eq_1, ↓D3.op3.eq_1, ↓D3.un3.eq_1, ↓D3.v3.eq_1, ↓D3.c3.eq_1, fIx_tup, fIx_lst, at3_0, at3_1, at3_2, at3_3, at3_4, at3_5, at3_6, start3, fI0_i, fI_i, fLt, fLe, fGt, fGe, fEqI, fNeI, fMin, fMax, ↓D3.asg3.eq_1, ↓D3.name3.eq_1, ↓D3.sub3.eq_1, ↓D3.ret3.eq_1, ↓D3.retN3.eq_1, ↓D3.nx3.eq_1, ↓D3.drop3.eq_1, ↓D3.par3.eq_1, ↓D3.aug3.eq_1, ↓D3.and3.eq_1, ↓D3.or3.eq_1, ↓D3.not3.eq_1, ↓D3.andV3.eq_1, ↓D3.orV3.eq_1, ↓D3.notV3.eq_1, ↓D3.if3.eq_1, ↓D3.nil3.eq_1, ↓D3.cons3.eq_1, ↓D3.tup3.eq_1, ↓D3.lst3.eq_1, ↓D3.lstM3.eq_1, ↓D3.gtup3.eq_1, ↓D3.gcons3.eq_1, ↓D3.gnil3.eq_1, ↓D3.gunl3.eq_1, ↓D3.bits3.eq_1, ↓D3.neg3.eq_1, ↓D3.chain3.eq_1, fIsi_int_int, fIsi_int_bool, fIsi_int_tuple, fIsi_int_str, fIsi_int_list, fIsi_bl_int, fIsi_bl_bool, fIsi_bl_tuple, fIsi_bl_str, fIsi_bl_list, fIsi_non_int, fIsi_non_bool, fIsi_non_tuple, fIsi_non_str, fIsi_non_list, fIsi_str_int, fIsi_str_bool, fIsi_str_tuple, fIsi_str_str, fIsi_str_list, fIsi_tup_int, fIsi_tup_bool, fIsi_tup_tuple, fIsi_tup_str, fIsi_tup_list, fIsi_lst_int, fIsi_lst_bool, fIsi_lst_tuple, fIsi_lst_str, fIsi_lst_list, fLen_lst, fLen_tup, fAbs, ↓D3.call3_k, ↓D3.kont_app, ↓D3.isN3.eq_1, ↓D3.notN3.eq_1, dIsN_non, dIsN_int, dIsN_bl, dIsN_str, dIsN_tup, dIsN_lst, ↓D3.slc3.eq_1, ↓D3.part3.eq_1, ↓D3.noPart3.eq_1, ↓D3.ilst3.eq_1, ↓D3.itup3.eq_1, ↓D3.irng1.eq_1, ↓D3.irng2.eq_1, ↓D3.for3.eq_1, fCat, fEq_int, fNe_int, fEq_bl, fNe_bl, fEq_pair, fNe_pair, List.map, List.replicate, List.length_cons, List.length_nil, List.set_cons_zero, List.set_cons_succ, List.getElem?_cons_zero, List.getElem?_cons_succ, List.cons_append, List.nil_append, at_0, at_1, at_2, at_3, at_4, at_5, at_6, ix_0, ix_1, ix_2, put_same, put_put, decide_eq_true_eq, Bool.not_eq_true', decide_eq_false_iff_not, ite_not, ite_true, ite_false, if_true, if_false, Bool.false_eq_true, ↓reduceIte, reduceIte, Nat.reduceAdd, Nat.reduceSub, Int.reduceToNat, Nat.reduceLeDiff, not_false_eq_true, true_and, and_true, ne_eq, Int.reduceEq, Nat.zero_add, Bool.not_true, Bool.not_false, reduceCtorEq, nc0, nc1, nc2, nc3, nc4, nc5, fIx_ref put_same, fLen_ref put_same, ↓D3.lc3.eq_1, fInt, fTuple, fList, fNeS_s, fEqS_s, ↓D3.gstar3.eq_1, fInK_s, fNinK_s, fLenS_s, ↓D3.slcT3.eq_1, fCatT_t, ↓D3.app3.eq_1, ↓D3.frz3.eq_1, ↓D3.dc23.eq_1, ↓D3.lcT3.eq_1, ↓D3.litRep3.eq_1, ↓D3.litRepM3.eq_1, ↓D3.rev3.eq_1, ↓D3.dget3.eq_1, ↓D3.disp3.eq_1, ↓D3.ienum3.eq_1, pop3, sset3]))
            refine iteB (fun b => ?_) (fun b => ?_)
            · (simp [b] at q; exact q)
            · (simp [b] at q; exact q)
          | x :: y :: r, pr, q =>
            (refine laterP_in ?_; repeat ((first | with_reducible refine laterP_i ?_ | with_reducible refine later_i ?_); try simp -implicitDefEqProofs -dsimp only [↓D3.seq3_stop, ↓D3.ifS3.eq_1, ↓D3.b3.eq_1, ↓D3.op3.eq_1, ↓D3.un3.eq_1, ↓D3.v3.eq_1, ↓D3.c3.eq_1, fIx_tup, fIx_lst, at3_0, at3_1, at3_2, at3_3, at3_4, at3_5, at3_6, start3, fI0_i, fI_i, fLt, fLe, fGt, fGe, fEqI, fNeI, fMin, fMax, ↓D3.asg3.eq_1, ↓D3.name3.eq_1, ↓D3.sub3.eq_1, ↓D3.ret3.eq_1, ↓D3.retN3.eq_1, ↓D3.nx3.eq_1, ↓D3.drop3.eq_1, ↓D3.par3.eq_1, ↓D3.aug3.eq_1, ↓D3.and3.eq_1, ↓D3.or3.eq_1, ↓D3.not3.eq_1, ↓D3.andV3.eq_1, ↓D3.orV3.eq_1, ↓D3.notV3.eq_1, ↓D3.if3.eq_1, ↓D3.nil3.eq_1, ↓D3.cons3.eq_1, ↓D3.tup3.eq_1, ↓D3.lst3.eq_1, ↓D3.lstM3.eq_1, ↓D3.gtup3.eq_1, ↓D3.gcons3.eq_1, ↓D3.gnil3.eq_1, ↓D3.gunl3.eq_1, ↓D3.bits3.eq_1, ↓D3.neg3.eq_1, ↓D3.chain3.eq_1, fIsi_int_int, fIsi_int_bool, fIsi_int_tuple, fIsi_int_str, fIsi_int_list, fIsi_bl_int, fIsi_bl_bool, fIsi_bl_tuple, fIsi_bl_str, fIsi_bl_list, fIsi_non_int, fIsi_non_bool, fIsi_non_tuple, fIsi_non_str, fIsi_non_list, fIsi_str_int, fIsi_str_bool, fIsi_str_tuple, fIsi_str_str, fIsi_str_list, fIsi_tup_int, fIsi_tup_bool, fIsi_tup_tuple, fIsi_tup_str, fIsi_tup_list, fIsi_lst_int, fIsi_lst_bool, fIsi_lst_tuple, fIsi_lst_str, fIsi_lst_list, fLen_lst, fLen_tup, fAbs, ↓D3.call3_k, ↓D3.kont_app, ↓D3.isN3.eq_1, ↓D3.notN3.eq_1, dIsN_non, dIsN_int, dIsN_bl, dIsN_str, dIsN_tup, dIsN_lst, ↓D3.slc3.eq_1, ↓D3.part3.eq_1, ↓D3.noPart3.eq_1, ↓D3.ilst3.eq_1, ↓D3.itup3.eq_1, ↓D3.irng1.eq_1, ↓D3.irng2.eq_1, ↓D3.for3.eq_1, fCat, fEq_int, fNe_int, fEq_bl, fNe_bl, fEq_pair, fNe_pair, List.map, List.replicate, List.length_cons, List.length_nil, List.set_cons_zero, List.set_cons_succ, List.getElem?_cons_zero, List.getElem?_cons_succ, List.cons_append, List.nil_append, at_0, at_1, at_2, at_3, at_4, at_5, at_6, ix_0, ix_1, ix_2, put_same, put_put, decide_eq_true_eq, Bool.not_eq_true', decide_eq_false_iff_not, ite_not, ite_true, ite_false, if_true, if_false, Bool.false_eq_true, ↓reduceIte, reduceIte, Nat.reduceAdd, Nat.reduceSub, Int.reduceToNat, Nat.reduceLeDiff, not_false_eq_true, true_and, and_true, ne_eq, Int.reduceEq, Nat.zero_add, Bool.not_true, Bool.not_false, reduceCtorEq, nc0, nc1, nc2, nc3, nc4, nc5, fIx_ref put_same, fLen_ref put_same, ↓D3.lc3.eq_1, fInt, fTuple, fList, fNeS_s, fEqS_s, ↓D3.gstar3.eq_1, fInK_s, fNinK_s, fLenS_s, ↓D3.slcT3.eq_1, fCatT_t, ↓D3.app3.eq_1, ↓D3.frz3.eq_1, ↓D3.dc23.eq_1, ↓D3.lcT3.eq_1, ↓D3.litRep3.eq_1, ↓D3.litRepM3.eq_1, ↓D3.rev3.eq_1, ↓D3.dget3.eq_1, ↓D3.disp3.eq_1, ↓D3.ienum3.eq_1, pop3, sset3]))
            exact ite2 (fun b => absurd b (by omega)) (fun b => q)
        rw [if_neg (show ¬ h = "number" from h4)] at q
        (refine laterP_in ?_; repeat ((first | with_reducible refine laterP_i ?_ | with_reducible refine later_i ?_); try simp -implicitDefEqProofs -dsimp only [↓D3.seq3_stop, ↓D3.ifS3.eq_1, ↓D3.b3.eq_1, ↓D3.op3.eq_1, ↓D3.un3.eq_1, ↓D3.v3.eq_1, ↓D3.c3.eq_1, fIx_tup, fIx_lst, at3_0, at3_1, at3_2, at3_3, at3_4, at3_5, at3_6, start3, fI0_i, fI_i, fLt, fLe, fGt, fGe, fEqI, fNeI, fMin, fMax, ↓D3.asg3.eq_1, ↓D3.name3.eq_1, ↓D3.sub3.eq_1, ↓D3.ret3.eq_1, ↓D3.retN3.eq_1, ↓D3.nx3.eq_1, ↓D3.drop3.eq_1, ↓D3.par3.eq_1, ↓D3.aug3.eq_1, ↓D3.and3.eq_1, ↓D3.or3.eq_1, ↓D3.not3.eq_1, ↓D3.andV3.eq_1, ↓D3.orV3.eq_1, ↓D3.notV3.eq_1, ↓D3.if3.eq_1, ↓D3.nil3.eq_1, ↓D3.cons3.eq_1, ↓D3.tup3.eq_1, ↓D3.lst3.eq_1, ↓D3.lstM3.eq_1, ↓D3.gtup3.eq_1, ↓D3.gcons3.eq_1, ↓D3.gnil3.eq_1, ↓D3.gunl3.eq_1, ↓D3.bits3.eq_1, ↓D3.neg3.eq_1, ↓D3.chain3.eq_1, fIsi_int_int, fIsi_int_bool, fIsi_int_tuple, fIsi_int_str, fIsi_int_list, fIsi_bl_int, fIsi_bl_bool, fIsi_bl_tuple, fIsi_bl_str, fIsi_bl_list, fIsi_non_int, fIsi_non_bool, fIsi_non_tuple, fIsi_non_str, fIsi_non_list, fIsi_str_int, fIsi_str_bool, fIsi_str_tuple, fIsi_str_str, fIsi_str_list, fIsi_tup_int, fIsi_tup_bool, fIsi_tup_tuple, fIsi_tup_str, fIsi_tup_list, fIsi_lst_int, fIsi_lst_bool, fIsi_lst_tuple, fIsi_lst_str, fIsi_lst_list, fLen_lst, fLen_tup, fAbs, ↓D3.call3_k, ↓D3.kont_app, ↓D3.isN3.eq_1, ↓D3.notN3.eq_1, dIsN_non, dIsN_int, dIsN_bl, dIsN_str, dIsN_tup, dIsN_lst, ↓D3.slc3.eq_1, ↓D3.part3.eq_1, ↓D3.noPart3.eq_1, ↓D3.ilst3.eq_1, ↓D3.itup3.eq_1, ↓D3.irng1.eq_1, ↓D3.irng2.eq_1, ↓D3.for3.eq_1, fCat, fEq_int, fNe_int, fEq_bl, fNe_bl, fEq_pair, fNe_pair, List.map, List.replicate, List.length_cons, List.length_nil, List.set_cons_zero, List.set_cons_succ, List.getElem?_cons_zero, List.getElem?_cons_succ, List.cons_append, List.nil_append, at_0, at_1, at_2, at_3, at_4, at_5, at_6, ix_0, ix_1, ix_2, put_same, put_put, decide_eq_true_eq, Bool.not_eq_true', decide_eq_false_iff_not, ite_not, ite_true, ite_false, if_true, if_false, Bool.false_eq_true, ↓reduceIte, reduceIte, Nat.reduceAdd, Nat.reduceSub, Int.reduceToNat, Nat.reduceLeDiff, not_false_eq_true, true_and, and_true, ne_eq, Int.reduceEq, Nat.zero_add, Bool.not_true, Bool.not_false, reduceCtorEq, nc0, nc1, nc2, nc3, nc4, nc5, fIx_ref put_same, fLen_ref put_same, ↓D3.lc3.eq_1, fInt, fTuple, fList, fNeS_s, fEqS_s, ↓D3.gstar3.eq_1, fInK_s, fNinK_s, fLenS_s, ↓D3.slcT3.eq_1, fCatT_t, ↓D3.app3.eq_1, ↓D3.frz3.eq_1, ↓D3.dc23.eq_1, ↓D3.lcT3.eq_1, ↓D3.litRep3.eq_1, ↓D3.litRepM3.eq_1, ↓D3.rev3.eq_1, ↓D3.dget3.eq_1, ↓D3.disp3.eq_1, ↓D3.ienum3.eq_1, pop3, sset3]))
        refine ite2 (fun h5 => ?_) (fun h5 => ?_)
        · rw [if_pos (show h = "name" from h5)] at q
          match r, pr, q with
          | [], pr, q => ((refine laterP_in ?_; repeat ((first | with_reducible refine laterP_i ?_ | with_reducible refine later_i ?_); try simp -implicitDefEqProofs -dsimp only [↓D3.seq3_stop, ↓D3.ifS3.eq_1, ↓D3.b3.eq_1, ↓D3.op3.eq_1, ↓D3.un3.eq_1, ↓D3.v3.eq_1, ↓D3.c3.eq_1, fIx_tup, fIx_lst, at3_0, at3_1, at3_2, at3_3, at3_4, at3_5, at3_6, start3, fI0_i, fI_i, fLt, fLe, fGt, fGe, fEqI, fNeI, fMin, fMax, ↓D3.asg3.eq_1, ↓D3.name3.eq_1, ↓D3.sub3.eq_1, ↓D3.ret3.eq_1, ↓D3.retN3.eq_1, ↓D3.nx3.eq_1, ↓D3.drop3.eq_1, ↓D3.par3.eq_1, ↓D3.aug3.eq_1, ↓D3.and3.eq_1, ↓D3.or3.eq_1, ↓D3.not3.eq_1, ↓D3.andV3.eq_1, ↓D3.orV3.eq_1, ↓D3.notV3.eq_1, ↓D3.if3.eq_1, ↓D3.nil3.eq_1, ↓D3.cons3.eq_1, ↓D3.tup3.eq_1, ↓D3.lst3.eq_1, ↓D3.lstM3.eq_1, ↓D3.gtup3.eq_1, ↓D3.gcons3.eq_1, ↓D3.gnil3.eq_1, ↓D3.gunl3.eq_1, ↓D3.bits3.eq_1, ↓D3.neg3.eq_1, ↓D3.chain3.eq_1, fIsi_int_int, fIsi_int_bool, fIsi_int_tuple, fIsi_int_str, fIsi_int_list, fIsi_bl_int, fIsi_bl_bool, fIsi_bl_tuple, fIsi_bl_str, fIsi_bl_list, fIsi_non_int, fIsi_non_bool, fIsi_non_tuple, fIsi_non_str, fIsi_non_list, fIsi_str_int, fIsi_str_bool, fIsi_str_tuple, fIsi_str_str, fIsi_str_list, fIsi_tup_int, fIsi_tup_bool, fIsi_tup_tuple, fIsi_tup_str, fIsi_tup_list, fIsi_lst_int, fIsi_lst_bool, fIsi_lst_tuple, fIsi_lst_str, fIsi_lst_list, fLen_lst, fLen_tup, fAbs, ↓D3.call3_k, ↓D3.kont_app, ↓D3.isN3.eq_1, ↓D3.notN3.eq_1, dIsN_non, dIsN_int, dIsN_bl, dIsN_str, dIsN_tup, dIsN_lst, ↓D3.slc3.eq_1, ↓D3.part3.eq_1, ↓D3.noPart3.eq_1, ↓D3.ilst3.eq_1, ↓D3.itup3.eq_1, ↓D3.irng1.eq_1, ↓D3.irng2.eq_1, ↓D3.for3.eq_1, fCat, fEq_int, fNe_int, fEq_bl, fNe_bl, fEq_pair, fNe_pair, List.map, List.replicate, List.length_cons, List.length_nil, List.set_cons_zero, List.set_cons_succ, List.getElem?_cons_zero, List.getElem?_cons_succ, List.cons_append, List.nil_append, at_0, at_1, at_2, at_3, at_4, at_5, at_6, ix_0, ix_1, ix_2, put_same, put_put, decide_eq_true_eq, Bool.not_eq_true', decide_eq_false_iff_not, ite_not, ite_true, ite_false, if_true, if_false, Bool.false_eq_true, ↓reduceIte, reduceIte, Nat.reduceAdd, Nat.reduceSub, Int.reduceToNat, Nat.reduceLeDiff, not_false_eq_true, true_and, and_true, ne_eq, Int.reduceEq, Nat.zero_add, Bool.not_true, Bool.not_false, reduceCtorEq, nc0, nc1, nc2, nc3, nc4, nc5, fIx_ref put_same, fLen_ref put_same, ↓D3.lc3.eq_1, fInt, fTuple, fList, fNeS_s, fEqS_s, ↓D3.gstar3.eq_1, fInK_s, fNinK_s, fLenS_s, ↓D3.slcT3.eq_1, fCatT_t, ↓D3.app3.eq_1, ↓D3.frz3.eq_1, ↓D3.dc23.eq_1, ↓D3.lcT3.eq_1, ↓D3.litRep3.eq_1, ↓D3.litRepM3.eq_1, ↓D3.rev3.eq_1, ↓D3.dget3.eq_1, ↓D3.disp3.eq_1, ↓D3.ienum3.eq_1, pop3, sset3]))); exact q
          | [x], pr, q =>
            (refine laterP_in ?_; repeat ((first | with_reducible refine laterP_i ?_ | with_reducible refine later_i ?_); try simp -implicitDefEqProofs -dsimp only [↓D3.seq3_stop, ↓D3.ifS3.eq_1, ↓D3.b3.eq_1, ↓D3.op3.eq_1, ↓D3.un3.eq_1, ↓D3.v3.eq_1, ↓D3.c3.eq_1, fIx_tup, fIx_lst, at3_0, at3_1, at3_2, at3_3, at3_4, at3_5, at3_6, start3, fI0_i, fI_i, fLt, fLe, fGt, fGe, fEqI, fNeI, fMin, fMax, ↓D3.asg3.eq_1, ↓D3.name3.eq_1, ↓D3.sub3.eq_1, ↓D3.ret3.eq_1, ↓D3.retN3.eq_1, ↓D3.nx3.eq_1, ↓D3.drop3.eq_1, ↓D3.par3.eq_1, ↓D3.aug3.eq_1, ↓D3.and3.eq_1, ↓D3.or3.eq_1, ↓D3.not3.eq_1, ↓D3.andV3.eq_1, ↓D3.orV3.eq_1, ↓D3.notV3.eq_1, ↓D3.if3.eq_1, ↓D3.nil3.eq_1, ↓D3.cons3.eq_1, ↓D3.tup3.eq_1, ↓D3.lst3.eq_1, ↓D3.lstM3.eq_1, ↓D3.gtup3.eq_1, ↓D3.gcons3.eq_1, ↓D3.gnil3.eq_1, ↓D3.gunl3.eq_1, ↓D3.bits3.eq_1, ↓D3.neg3.eq_1, ↓D3.chain3.eq_1, fIsi_int_int, fIsi_int_bool, fIsi_int_tuple, fIsi_int_str, fIsi_int_list, fIsi_bl_int, fIsi_bl_bool, fIsi_bl_tuple, fIsi_bl_str, fIsi_bl_list, fIsi_non_int, fIsi_non_bool, fIsi_non_tuple, fIsi_non_str, fIsi_non_list, fIsi_str_int, fIsi_str_bool, fIsi_str_tuple, fIsi_str_str, fIsi_str_list, fIsi_tup_int, fIsi_tup_bool, fIsi_tup_tuple, fIsi_tup_str, fIsi_tup_list, fIsi_lst_int, fIsi_lst_bool, fIsi_lst_tuple, fIsi_lst_str, fIsi_lst_list, fLen_lst, fLen_tup, fAbs, ↓D3.call3_k, ↓D3.kont_app, ↓D3.isN3.eq_1, ↓D3.notN3.eq_1, dIsN_non, dIsN_int, dIsN_bl, dIsN_str, dIsN_tup, dIsN_lst, ↓D3.slc3.eq_1, ↓D3.part3.eq_1, ↓D3.noPart3.eq_1, ↓D3.ilst3.eq_1, ↓D3.itup3.eq_1, ↓D3.irng1.eq_1, ↓D3.irng2.eq_1, ↓D3.for3.eq_1, fCat, fEq_int, fNe_int, fEq_bl, fNe_bl, fEq_pair, fNe_pair, List.map, List.replicate, List.length_cons, List.length_nil, List.set_cons_zero, List.set_cons_succ, List.getElem?_cons_zero, List.getElem?_cons_succ, List.cons_append, List.nil_append, at_0, at_1, at_2, at_3, at_4, at_5, at_6, ix_0, ix_1, ix_2, put_same, put_put, decide_eq_true_eq, Bool.not_eq_true', decide_eq_false_iff_not, ite_not, ite_true, ite_false, if_true, if_false, Bool.false_eq_true, ↓reduceIte, reduceIte, Nat.reduceAdd, Nat.reduceSub, Int.reduceToNat, Nat.reduceLeDiff, not_false_eq_true, true_and, and_true, ne_eq, Int.reduceEq, Nat.zero_add, Bool.not_true, Bool.not_false, reduceCtorEq, nc0, nc1, nc2, nc3, nc4, nc5, fIx_ref put_same, fLen_ref put_same, ↓D3.lc3.eq_1, fInt, fTuple, fList, fNeS_s, fEqS_s, ↓D3.gstar3.eq_1, fInK_s, fNinK_s, fLenS_s, ↓D3.slcT3.eq_1, fCatT_t, ↓D3.app3.eq_1, ↓D3.frz3.eq_1, ↓D3.dc23.eq_1, ↓D3.lcT3.eq_1, ↓D3.litRep3.eq_1, ↓D3.litRepM3.eq_1, ↓D3.rev3.eq_1, ↓D3.dget3.eq_1, ↓D3.disp3.eq_1, ↓D3.ienum3.eq_1, pop3, sset3]))
            refine ⟨x, 900, rfl, pr.1, by decide, ?_⟩
            (refine laterP_in ?_; repeat ((first | with_reducible refine laterP_i ?_ | with_reducible refine later_i ?_); try simp -implicitDefEqProofs -dsimp only [↓D3.seq3_stop, ↓D3.ifS3.eq_1, ↓D3.b3.eq_1, ↓D3.op3.eq_1, ↓D3.un3.eq_1, ↓D3.v3.eq_1, ↓D3.c3.eq_1, fIx_tup, fIx_lst, at3_0, at3_1, at3_2, at3_3, at3_4, at3_5, at3_6, start3, fI0_i, fI_i, fLt, fLe, fGt, fGe, fEqI, fNeI, fMin, fMax, ↓D3.asg3.eq_1, ↓D3.name3.eq_1, ↓D3.sub3.eq_1, ↓D3.ret3.eq_1, ↓D3.retN3.eq_1, ↓D3.nx3.eq_1, ↓D3.drop3.eq_1, ↓D3.par3.eq_1, ↓D3.aug3.eq_1, ↓D3.and3.eq_1, ↓D3.or3.eq_1, ↓D3.not3.eq_1, ↓D3.andV3.eq_1, ↓D3.orV3.eq_1, ↓D3.notV3.eq_1, ↓D3.if3.eq_1, ↓D3.nil3.eq_1, ↓D3.cons3.eq_1, ↓D3.tup3.eq_1, ↓D3.lst3.eq_1, ↓D3.lstM3.eq_1, ↓D3.gtup3.eq_1, ↓D3.gcons3.eq_1, ↓D3.gnil3.eq_1, ↓D3.gunl3.eq_1, ↓D3.bits3.eq_1, ↓D3.neg3.eq_1, ↓D3.chain3.eq_1, fIsi_int_int, fIsi_int_bool, fIsi_int_tuple, fIsi_int_str, fIsi_int_list, fIsi_bl_int, fIsi_bl_bool, fIsi_bl_tuple, fIsi_bl_str, fIsi_bl_list, fIsi_non_int, fIsi_non_bool, fIsi_non_tuple, fIsi_non_str, fIsi_non_list, fIsi_str_int, fIsi_str_bool, fIsi_str_tuple, fIsi_str_str, fIsi_str_list, fIsi_tup_int, fIsi_tup_bool, fIsi_tup_tuple, fIsi_tup_str, fIsi_tup_list, fIsi_lst_int, fIsi_lst_bool, fIsi_lst_tuple, fIsi_lst_str, fIsi_lst_list, fLen_lst, fLen_tup, fAbs, ↓D3.call3_k, ↓D3.kont_app, ↓D3.isN3.eq_1, ↓D3.notN3.eq_1, dIsN_non, dIsN_int, dIsN_bl, dIsN_str, dIsN_tup, dIsN_lst, ↓D3.slc3.eq_1, ↓D3.part3.eq_1, ↓D3.noPart3.eq_1, ↓D3.ilst3.eq_1, ↓D3.itup3.eq_1, ↓D3.irng1.eq_1, ↓D3.irng2.eq_1, ↓D3.for3.eq_1, fCat, fEq_int, fNe_int, fEq_bl, fNe_bl, fEq_pair, fNe_pair, List.map, List.replicate, List.length_cons, List.length_nil, List.set_cons_zero, List.set_cons_succ, List.getElem?_cons_zero, List.getElem?_cons_succ, List.cons_append, List.nil_append, at_0, at_1, at_2, at_3, at_4, at_5, at_6, ix_0, ix_1, ix_2, put_same, put_put, decide_eq_true_eq, Bool.not_eq_true', decide_eq_false_iff_not, ite_not, ite_true, ite_false, if_true, if_false, Bool.false_eq_true, ↓reduceIte, reduceIte, Nat.reduceAdd, Nat.reduceSub, Int.reduceToNat, Nat.reduceLeDiff, not_false_eq_true, true_and, and_true, ne_eq, Int.reduceEq, Nat.zero_add, Bool.not_true, Bool.not_false, reduceCtorEq, nc0, nc1, nc2, nc3, nc4, nc5, fIx_ref put_same, fLen_ref put_same, ↓D3.lc3.eq_1, fInt, fTuple, fList, fNeS_s, fEqS_s, ↓D3.gstar3.eq_1, fInK_s, fNinK_s, fLenS_s, ↓D3.slcT3.eq_1, fCatT_t, ↓D3.app3.eq_1, ↓D3.frz3.eq_1, ↓D3.dc23.eq_1, ↓D3.lcT3.eq_1, ↓D3.litRep3.eq_1, ↓D3.litRepM3.eq_1, ↓D3.rev3.eq_1, ↓D3.dget3.eq_1, ↓D3.disp3.eq_1, ↓D3.ienum3.eq_1, pop3, sset3]))
            refine iteB (fun b => ?_) (fun b => ?_)
            · (simp [b] at q; exact q)
            · (simp [b] at q; exact q)
          | x :: y :: r, pr, q =>
            (refine laterP_in ?_; repeat ((first | with_reducible refine laterP_i ?_ | with_reducible refine later_i ?_); try simp -implicitDefEqProofs -dsimp only [↓D3.seq3_stop, ↓D3.ifS3.eq_1, ↓D3.b3.eq_1, ↓D3.op3.eq_1, ↓D3.un3.eq_1, ↓D3.v3.eq_1, ↓D3.c3.eq_1, fIx_tup, fIx_lst, at3_0, at3_1, at3_2, at3_3, at3_4, at3_5, at3_6, start3, fI0_i, fI_i, fLt, fLe, fGt, fGe, fEqI, fNeI, fMin, fMax, ↓D3.asg3.eq_1, ↓D3.name3.eq_1, ↓D3.sub3.eq_1, ↓D3.ret3.eq_1, ↓D3.retN3.eq_1, ↓D3.nx3.eq_1, ↓D3.drop3.eq_1, ↓D3.par3.eq_1, ↓D3.aug3.eq_1, ↓D3.and3.eq_1, ↓D3.or3.eq_1, ↓D3.not3.eq_1, ↓D3.andV3.eq_1, ↓D3.orV3.eq_1, ↓D3.notV3.eq_1, ↓D3.if3.eq_1, ↓D3.nil3.eq_1, ↓D3.cons3.eq_1, ↓D3.tup3.eq_1, ↓D3.lst3.eq_1, ↓D3.lstM3.eq_1, ↓D3.gtup3.eq_1, ↓D3.gcons3.eq_1, ↓D3.gnil3.eq_1, ↓D3.gunl3.eq_1, ↓D3.bits3.eq_1, ↓D3.neg3.eq_1, ↓D3.chain3.eq_1, fIsi_int_int, fIsi_int_bool, fIsi_int_tuple, fIsi_int_str, fIsi_int_list, fIsi_bl_int, fIsi_bl_bool, fIsi_bl_tuple, fIsi_bl_str, fIsi_bl_list, fIsi_non_int, fIsi_non_bool, fIsi_non_tuple, fIsi_non_str, fIsi_non_list, fIsi_str_int, fIsi_str_bool, fIsi_str_tuple, fIsi_str_str, fIsi_str_list, fIsi_tup_int, fIsi_tup_bool, fIsi_tup_tuple, fIsi_tup_str, fIsi_tup_list, fIsi_lst_int, fIsi_lst_bool, fIsi_lst_tuple, fIsi_lst_str, fIsi_lst_list, fLen_lst, fLen_tup, fAbs, ↓D3.call3_k, ↓D3.kont_app, ↓D3.isN3.eq_1, ↓D3.notN3.eq_1, dIsN_non, dIsN_int, dIsN_bl, dIsN_str, dIsN_tup, dIsN_lst, ↓D3.slc3.eq_1, ↓D3.part3.eq_1, ↓D3.noPart3.eq_1, ↓D3.ilst3.eq_1, ↓D3.itup3.eq_1, ↓D3.irng1.eq_1, ↓D3.irng2.eq_1, ↓D3.for3.eq_1, fCat, fEq_int, fNe_int, fEq_bl, fNe_bl, fEq_pair, fNe_pair, List.map, List.replicate, List.length_cons, List.length_nil, List.set_cons_zero, List.set_cons_succ, List.getElem?_cons_zero, List.getElem?_cons_succ, List.cons_append, List.nil_append, at_0, at_1, at_2, at_3, at_4, at_5, at_6, ix_0, ix_1, ix_2, put_same, put_put, decide_eq_true_eq, Bool.not_eq_true', decide_eq_false_iff_not, ite_not, ite_true, ite_false, if_true, if_false, Bool.false_eq_true, ↓reduceIte, reduceIte, Nat.reduceAdd, Nat.reduceSub, Int.reduceToNat, Nat.reduceLeDiff, not_false_eq_true, true_and, and_true, ne_eq, Int.reduceEq, Nat.zero_add, Bool.not_true, Bool.not_false, reduceCtorEq, nc0, nc1, nc2, nc3, nc4, nc5, fIx_ref put_same, fLen_ref put_same, ↓D3.lc3.eq_1, fInt, fTuple, fList, fNeS_s, fEqS_s, ↓D3.gstar3.eq_1, fInK_s, fNinK_s, fLenS_s, ↓D3.slcT3.eq_1, fCatT_t, ↓D3.app3.eq_1, ↓D3.frz3.eq_1, ↓D3.dc23.eq_1, ↓D3.lcT3.eq_1, ↓D3.litRep3.eq_1, ↓D3.litRepM3.eq_1, ↓D3.rev3.eq_1, ↓D3.dget3.eq_1, ↓D3.disp3.eq_1, ↓D3.ienum3.eq_1, pop3, sset3]))
            exact ite2 (fun b => absurd b (by omega)) (fun b => q)
        rw [if_neg (show ¬ h = "name" from h5)] at q
        (refine laterP_in ?_; repeat ((first | with_reducible refine laterP_i ?_ | with_reducible refine later_i ?_); try simp -implicitDefEqProofs -dsimp only [↓D3.seq3_stop, ↓D3.ifS3.eq_1, ↓D3.b3.eq_1, ↓D3.op3.eq_1, ↓D3.un3.eq_1, ↓D3.v3.eq_1, ↓D3.c3.eq_1, fIx_tup, fIx_lst, at3_0, at3_1, at3_2, at3_3, at3_4, at3_5, at3_6, start3, fI0_i, fI_i, fLt, fLe, fGt, fGe, fEqI, fNeI, fMin, fMax, ↓D3.asg3.eq_1, ↓D3.name3.eq_1, ↓D3.sub3.eq_1, ↓D3.ret3.eq_1, ↓D3.retN3.eq_1, ↓D3.nx3.eq_1, ↓D3.drop3.eq_1, ↓D3.par3.eq_1, ↓D3.aug3.eq_1, ↓D3.and3.eq_1, ↓D3.or3.eq_1, ↓D3.not3.eq_1, ↓D3.andV3.eq_1, ↓D3.orV3.eq_1, ↓D3.notV3.eq_1, ↓D3.if3.eq_1, ↓D3.nil3.eq_1, ↓D3.cons3.eq_1, ↓D3.tup3.eq_1, ↓D3.lst3.eq_1, ↓D3.lstM3.eq_1, ↓D3.gtup3.eq_1, ↓D3.gcons3.eq_1, ↓D3.gnil3.eq_1, ↓D3.gunl3.eq_1, ↓D3.bits3.eq_1, ↓D3.neg3.eq_1, ↓D3.chain3.eq_1, fIsi_int_int, fIsi_int_bool, fIsi_int_tuple, fIsi_int_str, fIsi_int_list, fIsi_bl_int, fIsi_bl_bool, fIsi_bl_tuple, fIsi_bl_str, fIsi_bl_list, fIsi_non_int, fIsi_non_bool, fIsi_non_tuple, fIsi_non_str, fIsi_non_list, fIsi_str_int, fIsi_str_bool, fIsi_str_tuple, fIsi_str_str, fIsi_str_list, fIsi_tup_int, fIsi_tup_bool, fIsi_tup_tuple, fIsi_tup_str, fIsi_tup_list, fIsi_lst_int, fIsi_lst_bool, fIsi_lst_tuple, fIsi_lst_str, fIsi_lst_list, fLen_lst, fLen_tup, fAbs, ↓D3.call3_k, ↓D3.kont_app, ↓D3.isN3.eq_1, ↓D3.notN3.eq_1, dIsN_non, dIsN_int, dIsN_bl, dIsN_str, dIsN_tup, dIsN_lst, ↓D3.slc3.eq_1, ↓D3.part3.eq_1, ↓D3.noPart3.eq_1, ↓D3.ilst3.eq_1, ↓D3.itup3.eq_1, ↓D3.irng1.eq_1, ↓D3.irng2.eq_1, ↓D3.for3.eq_1, fCat, fEq_int, fNe_int, fEq_bl, fNe_bl, fEq_pair, fNe_pair, List.map, List.replicate, List.length_cons, List.length_nil, List.set_cons_zero, List.set_cons_succ, List.getElem?_cons_zero, List.getElem?_cons_succ, List.cons_append, List.nil_append, at_0, at_1, at_2, at_3, at_4, at_5, at_6, ix_0, ix_1, ix_2, put_same, put_put, decide_eq_true_eq, Bool.not_eq_true', decide_eq_false_iff_not, ite_not, ite_true, ite_false, if_true, if_false, Bool.false_eq_true, ↓reduceIte, reduceIte, Nat.reduceAdd, Nat.reduceSub, Int.reduceToNat, Nat.reduceLeDiff, not_false_eq_true, true_and, and_true, ne_eq, Int.reduceEq, Nat.zero_add, Bool.not_true, Bool.not_false, reduceCtorEq, nc0, nc1, nc2, nc3, nc4, nc5, fIx_ref put_same, fLen_ref put_same, ↓D3.lc3.eq_1, fInt, fTuple, fList, fNeS_s, fEqS_s, ↓D3.gstar3.eq_1, fInK_s, fNinK_s, fLenS_s, ↓D3.slcT3.eq_1, fCatT_t, ↓D3.app3.eq_1, ↓D3.frz3.eq_1, ↓D3.dc23.eq_1, ↓D3.lcT3.eq_1, ↓D3.litRep3.eq_1, ↓D3.litRepM3.eq_1, ↓D3.rev3.eq_1, ↓D3.dget3.eq_1, ↓D3.disp3.eq_1, ↓D3.ienum3.eq_1, pop3, sset3]))
        refine ite2 (fun h6 => ?_) (fun h6 => ?_)
        · rw [if_pos (show h = "root" from h6)] at q
          match r, pr, q with
          | [], pr, q => ((refine laterP_in ?_; repeat ((first | with_reducible refine laterP_i ?_ | with_reducible refine later_i ?_); try simp -implicitDefEqProofs -dsimp only [↓D3.seq3_stop, ↓D3.ifS3.eq_1, ↓D3.b3.eq_1, ↓D3.op3.eq_1, ↓D3.un3.eq_1, ↓D3.v3.eq_1, ↓D3.c3.eq_1, fIx_tup, fIx_lst, at3_0, at3_1, at3_2, at3_3, at3_4, at3_5, at3_6, start3, fI0_i, fI_i, fLt, fLe, fGt, fGe, fEqI, fNeI, fMin, fMax, ↓D3.asg3.eq_1, ↓D3.name3.eq_1, ↓D3.sub3.eq_1, ↓D3.ret3.eq_1, ↓D3.retN3.eq_1, ↓D3.nx3.eq_1, ↓D3.drop3.eq_1, ↓D3.par3.eq_1, ↓D3.aug3.eq_1, ↓D3.and3.eq_1, ↓D3.or3.eq_1, ↓D3.not3.eq_1, ↓D3.andV3.eq_1, ↓D3.orV3.eq_1, ↓D3.notV3.eq_1, ↓D3.if3.eq_1, ↓D3.nil3.eq_1, ↓D3.cons3.eq_1, ↓D3.tup3.eq_1, ↓D3.lst3.eq_1, ↓D3.lstM3.eq_1, ↓D3.gtup3.eq_1, ↓D3.gcons3.eq_1, ↓D3.gnil3.eq_1, ↓D3.gunl3.eq_1, ↓D3.bits3.eq_1, ↓D3.neg3.eq_1, ↓D3.chain3.eq_1, fIsi_int_int, fIsi_int_bool, fIsi_int_tuple, fIsi_int_str, fIsi_int_list, fIsi_bl_int, fIsi_bl_bool, fIsi_bl_tuple, fIsi_bl_str, fIsi_bl_list, fIsi_non_int, fIsi_non_bool, fIsi_non_tuple, fIsi_non_str, fIsi_non_list, fIsi_str_int, fIsi_str_bool, fIsi_str_tuple, fIsi_str_str, fIsi_str_list, fIsi_tup_int, fIsi_tup_bool, fIsi_tup_tuple, fIsi_tup_str, fIsi_tup_list, fIsi_lst_int, fIsi_lst_bool, fIsi_lst_tuple, fIsi_lst_str, fIsi_lst_list, fLen_lst, fLen_tup, fAbs, ↓D3.call3_k, ↓D3.kont_app, ↓D3.isN3.eq_1, ↓D3.notN3.eq_1, dIsN_non, dIsN_int, dIsN_bl, dIsN_str, dIsN_tup, dIsN_lst, ↓D3.slc3.eq_1, ↓D3.part3.eq_1, ↓D3.noPart3.eq_1, ↓D3.ilst3.eq_1, ↓D3.itup3.eq_1, ↓D3.irng1.eq_1, ↓D3.irng2.eq_1, ↓D3.for3.eq_1, fCat, fEq_int, fNe_int, fEq_bl, fNe_bl, fEq_pair, fNe_pair, List.map, List.replicate, List.length_cons, List.length_nil, List.set_cons_zero, List.set_cons_succ, List.getElem?_cons_zero, List.getElem?_cons_succ, List.cons_append, List.nil_append, at_0, at_1, at_2, at_3, at_4, at_5, at_6, ix_0, ix_1, ix_2, put_same, put_put, decide_eq_true_eq, Bool.not_eq_true', decide_eq_false_iff_not, ite_not, ite_true, ite_false, if_true, if_false, Bool.false_eq_true, ↓reduceIte, reduceIte, Nat.reduceAdd, Nat.reduceSub, Int.reduceToNat, Nat.reduceLeDiff, not_false_eq_true, true_and, and_true, ne_eq, Int.reduceEq, Nat.zero_add, Bool.not_true, Bool.not_false, reduceCtorEq, nc0, nc1, nc2, nc3, nc4, nc5, fIx_ref put_same, fLen_ref put_same, ↓D3.lc3.eq_1, fInt, fTuple, fList, fNeS_s, fEqS_s, ↓D3.gstar3.eq_1, fInK_s, fNinK_s, fLenS_s, ↓D3.slcT3.eq_1, fCatT_t, ↓D3.app3.eq_1, ↓D3.frz3.eq_1, ↓D3.dc23.eq_1, ↓D3.lcT3.eq_1, ↓D3.litRep3.eq_1, ↓D3.litRepM3.eq_1, ↓D3.rev3.eq_1, ↓D3.dget3.eq_1, ↓D3.disp3.eq_1, ↓D3.ienum3.eq_1, pop3, sset3]))); exact q
          | [x], pr, q => ((refine laterP_in ?_; repeat ((first | with_reducible refine laterP_i ?_ | with_reducible refine later_i ?_); try simp -implicitDefEqProofs -dsimp only [↓D3.seq3_stop, ↓D3.ifS3.eq_1, ↓D3.b3.eq_1, ↓D3.op3.eq_1, ↓D3.un3.eq_1, ↓D3.v3.eq_1, ↓D3.c3.eq_1, fIx_tup, fIx_lst, at3_0, at3_1, at3_2, at3_3, at3_4, at3_5, at3_6, start3, fI0_i, fI_i, fLt, fLe, fGt, fGe, fEqI, fNeI, fMin, fMax, ↓D3.asg3.eq_1, ↓D3.name3.eq_1, ↓D3.sub3.eq_1, ↓D3.ret3.eq_1, ↓D3.retN3.eq_1, ↓D3.nx3.eq_1, ↓D3.drop3.eq_1, ↓D3.par3.eq_1, ↓D3.aug3.eq_1, ↓D3.and3.eq_1, ↓D3.or3.eq_1, ↓D3.not3.eq_1, ↓D3.andV3.eq_1, ↓D3.orV3.eq_1, ↓D3.notV3.eq_1, ↓D3.if3.eq_1, ↓D3.nil3.eq_1, ↓D3.cons3.eq_1, ↓D3.tup3.eq_1, ↓D3.lst3.eq_1, ↓D3.lstM3.eq_1, ↓D3.gtup3.eq_1, ↓D3.gcons3.eq_1, ↓D3.gnil3.eq_1, ↓D3.gunl3.eq_1, ↓D3.bits3.eq_1, ↓D3.neg3.eq_1, ↓D3.chain3.eq_1, fIsi_int_int, fIsi_int_bool, fIsi_int_tuple, fIsi_int_str, fIsi_int_list, fIsi_bl_int, fIsi_bl_bool, fIsi_bl_tuple, fIsi_bl_str, fIsi_bl_list, fIsi_non_int, fIsi_non_bool, fIsi_non_tuple, fIsi_non_str, fIsi_non_list, fIsi_str_int, fIsi_str_bool, fIsi_str_tuple, fIsi_str_str, fIsi_str_list, fIsi_tup_int, fIsi_tup_bool, fIsi_tup_tuple, fIsi_tup_str, fIsi_tup_list, fIsi_lst_int, fIsi_lst_bool, fIsi_lst_tuple, fIsi_lst_str, fIsi_lst_list, fLen_lst, fLen_tup, fAbs, ↓D3.call3_k, ↓D3.kont_app, ↓D3.isN3.eq_1, ↓D3.notN3.eq_1, dIsN_non, dIsN_int, dIsN_bl, dIsN_str, dIsN_tup, dIsN_lst, ↓D3.slc3.eq_1, ↓D3.part3.eq_1, ↓D3.noPart3.eq_1, ↓D3.ilst3.eq_1, ↓D3.itup3.eq_1, ↓D3.irng1.eq_1, ↓D3.irng2.eq_1, ↓D3.for3.eq_1, fCat, fEq_int, fNe_int, fEq_bl, fNe_bl, fEq_pair, fNe_pair, List.map, List.replicate, List.length_cons, List.length_nil, List.set_cons_zero, List.set_cons_succ, List.getElem?_cons_zero, List.getElem?_cons_succ, List.cons_append, List.nil_append, at_0, at_1, at_2, at_3, at_4, at_5, at_6, ix_0, ix_1, ix_2, put_same, put_put, decide_eq_true_eq, Bool.not_eq_true', decide_eq_false_iff_not, ite_not, ite_true, ite_false, if_true, if_false, Bool.false_eq_true, ↓reduceIte, reduceIte, Nat.reduceAdd, Nat.reduceSub, Int.reduceToNat, Nat.reduceLeDiff, not_false_eq_true, true_and, and_true, ne_eq, Int.reduceEq, Nat.zero_add, Bool.not_true, Bool.not_false, reduceCtorEq, nc0, nc1, nc2, nc3, nc4, nc5, fIx_ref put_same, fLen_ref put_same, ↓D3.lc3.eq_1, fInt, fTuple, fList, fNeS_s, fEqS_s, ↓D3.gstar3.eq_1, fInK_s, fNinK_s, fLenS_s, ↓D3.slcT3.eq_1, fCatT_t, ↓D3.app3.eq_1, ↓D3.frz3.eq_1, ↓D3.dc23.eq_1, ↓D3.lcT3.eq_1, ↓D3.litRep3.eq_1, ↓D3.litRepM3.eq_1, ↓D3.rev3.eq_1, ↓D3.dget3.eq_1, ↓D3.disp3.eq_1, ↓D3.ienum3.eq_1, pop3, sset3]))); (cases x <;> exact q)
          | x :: y :: z :: r, pr, q =>
            (refine laterP_in ?_; repeat ((first | with_reducible refine laterP_i ?_ | with_reducible refine later_i ?_); try simp -implicitDefEqProofs -dsimp only [↓D3.seq3_stop, ↓D3.ifS3.eq_1, ↓D3.b3.eq_1, ↓D3.op3.eq_1, ↓D3.un3.eq_1, ↓D3.v3.eq_1, ↓D3.c3.eq_1, fIx_tup, fIx_lst, at3_0, at3_1, at3_2, at3_3, at3_4, at3_5, at3_6, start3, fI0_i, fI_i, fLt, fLe, fGt, fGe, fEqI, fNeI, fMin, fMax, ↓D3.asg3.eq_1, ↓D3.name3.eq_1, ↓D3.sub3.eq_1, ↓D3.ret3.eq_1, ↓D3.retN3.eq_1, ↓D3.nx3.eq_1, ↓D3.drop3.eq_1, ↓D3.par3.eq_1, ↓D3.aug3.eq_1, ↓D3.and3.eq_1, ↓D3.or3.eq_1, ↓D3.not3.eq_1, ↓D3.andV3.eq_1, ↓D3.orV3.eq_1, ↓D3.notV3.eq_1, ↓D3.if3.eq_1, ↓D3.nil3.eq_1, ↓D3.cons3.eq_1, ↓D3.tup3.eq_1, ↓D3.lst3.eq_1, ↓D3.lstM3.eq_1, ↓D3.gtup3.eq_1, ↓D3.gcons3.eq_1, ↓D3.gnil3.eq_1, ↓D3.gunl3.eq_1, ↓D3.bits3.eq_1, ↓D3.neg3.eq_1, ↓D3.chain3.eq_1, fIsi_int_int, fIsi_int_bool, fIsi_int_tuple, fIsi_int_str, fIsi_int_list, fIsi_bl_int, fIsi_bl_bool, fIsi_bl_tuple, fIsi_bl_str, fIsi_bl_list, fIsi_non_int, fIsi_non_bool, fIsi_non_tuple, fIsi_non_str, fIsi_non_list, fIsi_str_int, fIsi_str_bool, fIsi_str_tuple, fIsi_str_str, fIsi_str_list, fIsi_tup_int, fIsi_tup_bool, fIsi_tup_tuple, fIsi_tup_str, fIsi_tup_list, fIsi_lst_int, fIsi_lst_bool, fIsi_lst_tuple, fIsi_lst_str, fIsi_lst_list, fLen_lst, fLen_tup, fAbs, ↓D3.call3_k, ↓D3.kont_app, ↓D3.isN3.eq_1, ↓D3.notN3.eq_1, dIsN_non, dIsN_int, dIsN_bl, dIsN_str, dIsN_tup, dIsN_lst, ↓D3.slc3.eq_1, ↓D3.part3.eq_1, ↓D3.noPart3.eq_1, ↓D3.ilst3.eq_1, ↓D3.itup3.eq_1, ↓D3.irng1.eq_1, ↓D3.irng2.eq_1, ↓D3.for3.eq_1, fCat, fEq_int, fNe_int, fEq_bl, fNe_bl, fEq_pair, fNe_pair, List.map, List.replicate, List.length_cons, List.length_nil, List.set_cons_zero, List.set_cons_succ, List.getElem?_cons_zero, List.getElem?_cons_succ, List.cons_append, List.nil_append, at_0, at_1, at_2, at_3, at_4, at_5, at_6, ix_0, ix_1, ix_2, put_same, put_put, decide_eq_true_eq, Bool.not_eq_true', decide_eq_false_iff_not, ite_not, ite_true, ite_false, if_true, if_false, Bool.false_eq_true, ↓reduceIte, reduceIte, Nat.reduceAdd, Nat.reduceSub, Int.reduceToNat, Nat.reduceLeDiff, not_false_eq_true, true_and, and_true, ne_eq, Int.reduceEq, Nat.zero_add, Bool.not_true, Bool.not_false, reduceCtorEq, nc0, nc1, nc2, nc3, nc4, nc5, fIx_ref put_same, fLen_ref put_same, ↓D3.lc3.eq_1, fInt, fTuple, fList, fNeS_s, fEqS_s, ↓D3.gstar3.eq_1, fInK_s, fNinK_s, fLenS_s, ↓D3.slcT3.eq_1, fCatT_t, ↓D3.app3.eq_1, ↓D3.frz3.eq_1, ↓D3.dc23.eq_1, ↓D3.lcT3.eq_1, ↓D3.litRep3.eq_1, ↓D3.litRepM3.eq_1, ↓D3.rev3.eq_1, ↓D3.dget3.eq_1, ↓D3.disp3.eq_1, ↓D3.ienum3.eq_1, pop3, sset3]))
            exact ite2 (fun b => absurd b (by omega)) (fun b => by cases x <;> exact q)
          | [x, y], pr, q =>
            (refine laterP_in ?_; repeat ((first | with_reducible refine laterP_i ?_ | with_reducible refine later_i ?_); try simp -implicitDefEqProofs -dsimp only [↓D3.seq3_stop, ↓D3.ifS3.eq_1, ↓D3.b3.eq_1, ↓D3.op3.eq_1, ↓D3.un3.eq_1, ↓D3.v3.eq_1, ↓D3.c3.eq_1, fIx_tup, fIx_lst, at3_0, at3_1, at3_2, at3_3, at3_4, at3_5, at3_6, start3, fI0_i, fI_i, fLt, fLe, fGt, fGe, fEqI, fNeI, fMin, fMax, ↓D3.asg3.eq_1, ↓D3.name3.eq_1, ↓D3.sub3.eq_1, ↓D3.ret3.eq_1, ↓D3.retN3.eq_1, ↓D3.nx3.eq_1, ↓D3.drop3.eq_1, ↓D3.par3.eq_1, ↓D3.aug3.eq_1, ↓D3.and3.eq_1, ↓D3.or3.eq_1, ↓D3.not3.eq_1, ↓D3.andV3.eq_1, ↓D3.orV3.eq_1, ↓D3.notV3.eq_1, ↓D3.if3.eq_1, ↓D3.nil3.eq_1, ↓D3.cons3.eq_1, ↓D3.tup3.eq_1, ↓D3.lst3.eq_1, ↓D3.lstM3.eq_1, ↓D3.gtup3.eq_1, ↓D3.gcons3.eq_1, ↓D3.gnil3.eq_1, ↓D3.gunl3.eq_1, ↓D3.bits3.eq_1, ↓D3.neg3.eq_1, ↓D3.chain3.eq_1, fIsi_int_int, fIsi_int_bool, fIsi_int_tuple, fIsi_int_str, fIsi_int_list, fIsi_bl_int, fIsi_bl_bool, fIsi_bl_tuple, fIsi_bl_str, fIsi_bl_list, fIsi_non_int, fIsi_non_bool, fIsi_non_tuple, fIsi_non_str, fIsi_non_list, fIsi_str_int, fIsi_str_bool, fIsi_str_tuple, fIsi_str_str, fIsi_str_list, fIsi_tup_int, fIsi_tup_bool, fIsi_tup_tuple, fIsi_tup_str, fIsi_tup_list, fIsi_lst_int, fIsi_lst_bool, fIsi_lst_tuple, fIsi_lst_str, fIsi_lst_list, fLen_lst, fLen_tup, fAbs, ↓D3.call3_k, ↓D3.kont_app, ↓D3.isN3.eq_1, ↓D3.notN3.eq_1, dIsN_non, dIsN_int, dIsN_bl, dIsN_str, dIsN_tup, dIsN_lst, ↓D3.slc3.eq_1, ↓D3.part3.eq_1, ↓D3.noPart3.eq_1, ↓D3.ilst3.eq_1, ↓D3.itup3.eq_1, ↓D3.irng1.eq_1, ↓D3.irng2.eq_1, ↓D3.for3.eq_1, fCat, fEq_int, fNe_int, fEq_bl, fNe_bl, fEq_pair, fNe_pair, List.map, List.replicate, List.length_cons, List.length_nil, List.set_cons_zero, List.set_cons_succ, List.getElem?_cons_zero, List.getElem?_cons_succ, List.cons_append, List.nil_append, at_0, at_1, at_2, at_3, at_4, at_5, at_6, ix_0, ix_1, ix_2, put_same, put_put, decide_eq_true_eq, Bool.not_eq_true', decide_eq_false_iff_not, ite_not, ite_true, ite_false, if_true, if_false, Bool.false_eq_true, ↓reduceIte, reduceIte, Nat.reduceAdd, Nat.reduceSub, Int.reduceToNat, Nat.reduceLeDiff, not_false_eq_true, true_and, and_true, ne_eq, Int.reduceEq, Nat.zero_add, Bool.not_true, Bool.not_false, reduceCtorEq, nc0, nc1, nc2, nc3, nc4, nc5, fIx_ref put_same, fLen_ref put_same, ↓D3.lc3.eq_1, fInt, fTuple, fList, fNeS_s, fEqS_s, ↓D3.gstar3.eq_1, fInK_s, fNinK_s, fLenS_s, ↓D3.slcT3.eq_1, fCatT_t, ↓D3.app3.eq_1, ↓D3.frz3.eq_1, ↓D3.dc23.eq_1, ↓D3.lcT3.eq_1, ↓D3.litRep3.eq_1, ↓D3.litRepM3.eq_1, ↓D3.rev3.eq_1, ↓D3.dget3.eq_1, ↓D3.disp3.eq_1, ↓D3.ienum3.eq_1, pop3, sset3]))
            refine ⟨x, 900, rfl, pr.1, ?_⟩
            cases x with
            | int k =>
              (refine laterP_in ?_; repeat ((first | with_reducible refine laterP_i ?_ | with_reducible refine later_i ?_); try simp -implicitDefEqProofs -dsimp only [↓D3.seq3_stop, ↓D3.ifS3.eq_1, ↓D3.b3.eq_1, ↓D3.op3.eq_1, ↓D3.un3.eq_1, ↓D3.v3.eq_1, ↓D3.c3.eq_1, fIx_tup, fIx_lst, at3_0, at3_1, at3_2, at3_3, at3_4, at3_5, at3_6, start3, fI0_i, fI_i, fLt, fLe, fGt, fGe, fEqI, fNeI, fMin, fMax, ↓D3.asg3.eq_1, ↓D3.name3.eq_1, ↓D3.sub3.eq_1, ↓D3.ret3.eq_1, ↓D3.retN3.eq_1, ↓D3.nx3.eq_1, ↓D3.drop3.eq_1, ↓D3.par3.eq_1, ↓D3.aug3.eq_1, ↓D3.and3.eq_1, ↓D3.or3.eq_1, ↓D3.not3.eq_1, ↓D3.andV3.eq_1, ↓D3.orV3.eq_1, ↓D3.notV3.eq_1, ↓D3.if3.eq_1, ↓D3.nil3.eq_1, ↓D3.cons3.eq_1, ↓D3.tup3.eq_1, ↓D3.lst3.eq_1, ↓D3.lstM3.eq_1, ↓D3.gtup3.eq_1, ↓D3.gcons3.eq_1, ↓D3.gnil3.eq_1, ↓D3.gunl3.eq_1, ↓D3.bits3.eq_1, ↓D3.neg3.eq_1, ↓D3.chain3.eq_1, fIsi_int_int, fIsi_int_bool, fIsi_int_tuple, fIsi_int_str, fIsi_int_list, fIsi_bl_int, fIsi_bl_bool, fIsi_bl_tuple, fIsi_bl_str, fIsi_bl_list, fIsi_non_int, fIsi_non_bool, fIsi_non_tuple, fIsi_non_str, fIsi_non_list, fIsi_str_int, fIsi_str_bool, fIsi_str_tuple, fIsi_str_str, fIsi_str_list, fIsi_tup_int, fIsi_tup_bool, fIsi_tup_tuple, fIsi_tup_str, fIsi_tup_list, fIsi_lst_int, fIsi_lst_bool, fIsi_lst_tuple, fIsi_lst_str, fIsi_lst_list, fLen_lst, fLen_tup, fAbs, ↓D3.call3_k, ↓D3.kont_app, ↓D3.isN3.eq_1, ↓D3.notN3.eq_1, dIsN_non, dIsN_int, dIsN_bl, dIsN_str, dIsN_tup, dIsN_lst, ↓D3.slc3.eq_1, ↓D3.part3.eq_1, ↓D3.noPart3.eq_1, ↓D3.ilst3.eq_1, ↓D3.itup3.eq_1, ↓D3.irng1.eq_1, ↓D3.irng2.eq_1, ↓D3.for3.eq_1, fCat, fEq_int, fNe_int, fEq_bl, fNe_bl, fEq_pair, fNe_pair, List.map, List.replicate, List.length_cons, List.length_nil, List.set_cons_zero, List.set_cons_succ, List.getElem?_cons_zero, List.getElem?_cons_succ, List.cons_append, List.nil_append, at_0, at_1, at_2, at_3, at_4, at_5, at_6, ix_0, ix_1, ix_2, put_same, put_put, decide_eq_true_eq, Bool.not_eq_true', decide_eq_false_iff_not, ite_not, ite_true, ite_false, if_true, if_false, Bool.false_eq_true, ↓reduceIte, reduceIte, Nat.reduceAdd, Nat.reduceSub, Int.reduceToNat, Nat.reduceLeDiff, not_false_eq_true, true_and, and_true, ne_eq, Int.reduceEq, Nat.zero_add, Bool.not_true, Bool.not_false, reduceCtorEq, nc0, nc1, nc2, nc3, nc4, nc5, fIx_ref put_same, fLen_ref put_same, ↓D3.lc3.eq_1, fInt, fTuple, fList, fNeS_s, fEqS_s, ↓D3.gstar3.eq_1, fInK_s, fNinK_s, fLenS_s, ↓D3.slcT3.eq_1, fCatT_t, ↓D3.app3.eq_1, ↓D3.frz3.eq_1, ↓D3.dc23.eq_1, ↓D3.lcT3.eq_1, ↓D3.litRep3.eq_1, ↓D3.litRepM3.eq_1, ↓D3.rev3.eq_1, ↓D3.dget3.eq_1, ↓D3.disp3.eq_1, ↓D3.ienum3.eq_1, pop3, sset3, wh]))
              refine ite2 (fun b1 => ite2 (fun b2 => ?_) (fun b2 => ?_)) (fun b1 => ?_)
              · rw [show oD (if 2 ≤ k ∧ k ≤ 5 then some [y] else none) = .lst [y] from by rw [if_pos ⟨b1, b2⟩]; rfl] at q
                exact q
              · rw [show oD (if 2 ≤ k ∧ k ≤ 5 then some [y] else none) = .non from by rw [if_neg fun z => b2 z.2]; rfl] at q
                exact q
              · rw [show oD (if 2 ≤ k ∧ k ≤ 5 then some [y] else none) = .non from by rw [if_neg fun z => b1 z.1]; rfl] at q
                exact q
            | _ => ((refine laterP_in ?_; repeat ((first | with_reducible refine laterP_i ?_ | with_reducible refine later_i ?_); try simp -implicitDefEqProofs -dsimp only [↓D3.seq3_stop, ↓D3.ifS3.eq_1, ↓D3.b3.eq_1, ↓D3.op3.eq_1, ↓D3.un3.eq_1, ↓D3.v3.eq_1, ↓D3.c3.eq_1, fIx_tup, fIx_lst, at3_0, at3_1, at3_2, at3_3, at3_4, at3_5, at3_6, start3, fI0_i, fI_i, fLt, fLe, fGt, fGe, fEqI, fNeI, fMin, fMax, ↓D3.asg3.eq_1, ↓D3.name3.eq_1, ↓D3.sub3.eq_1, ↓D3.ret3.eq_1, ↓D3.retN3.eq_1, ↓D3.nx3.eq_1, ↓D3.drop3.eq_1, ↓D3.par3.eq_1, ↓D3.aug3.eq_1, ↓D3.and3.eq_1, ↓D3.or3.eq_1, ↓D3.not3.eq_1, ↓D3.andV3.eq_1, ↓D3.orV3.eq_1, ↓D3.notV3.eq_1, ↓D3.if3.eq_1, ↓D3.nil3.eq_1, ↓D3.cons3.eq_1, ↓D3.tup3.eq_1, ↓D3.lst3.eq_1, ↓D3.lstM3.eq_1, ↓D3.gtup3.eq_1, ↓D3.gcons3.eq_1, ↓D3.gnil3.eq_1, ↓D3.gunl3.eq_1, ↓D3.bits3.eq_1, ↓D3.neg3.eq_1, ↓D3.chain3.eq_1, fIsi_int_int, fIsi_int_bool, fIsi_int_tuple, fIsi_int_str, fIsi_int_list, fIsi_bl_int, fIsi_bl_bool, fIsi_bl_tuple, fIsi_bl_str, fIsi_bl_list, fIsi_non_int, fIsi_non_bool, fIsi_non_tuple, fIsi_non_str, fIsi_non_list, fIsi_str_int, fIsi_str_bool, fIsi_str_tuple, fIsi_str_str, fIsi_str_list, fIsi_tup_int, fIsi_tup_bool, fIsi_tup_tuple, fIsi_tup_str, fIsi_tup_list, fIsi_lst_int, fIsi_lst_bool, fIsi_lst_tuple, fIsi_lst_str, fIsi_lst_list, fLen_lst, fLen_tup, fAbs, ↓D3.call3_k, ↓D3.kont_app, ↓D3.isN3.eq_1, ↓D3.notN3.eq_1, dIsN_non, dIsN_int, dIsN_bl, dIsN_str, dIsN_tup, dIsN_lst, ↓D3.slc3.eq_1, ↓D3.part3.eq_1, ↓D3.noPart3.eq_1, ↓D3.ilst3.eq_1, ↓D3.itup3.eq_1, ↓D3.irng1.eq_1, ↓D3.irng2.eq_1, ↓D3.for3.eq_1, fCat, fEq_int, fNe_int, fEq_bl, fNe_bl, fEq_pair, fNe_pair, List.map, List.replicate, List.length_cons, List.length_nil, List.set_cons_zero, List.set_cons_succ, List.getElem?_cons_zero, List.getElem?_cons_succ, List.cons_append, List.nil_append, at_0, at_1, at_2, at_3, at_4, at_5, at_6, ix_0, ix_1, ix_2, put_same, put_put, decide_eq_true_eq, Bool.not_eq_true', decide_eq_false_iff_not, ite_not, ite_true, ite_false, if_true, if_false, Bool.false_eq_true, ↓reduceIte, reduceIte, Nat.reduceAdd, Nat.reduceSub, Int.reduceToNat, Nat.reduceLeDiff, not_false_eq_true, true_and, and_true, ne_eq, Int.reduceEq, Nat.zero_add, Bool.not_true, Bool.not_false, reduceCtorEq, nc0, nc1, nc2, nc3, nc4, nc5, fIx_ref put_same, fLen_ref put_same, ↓D3.lc3.eq_1, fInt, fTuple, fList, fNeS_s, fEqS_s, ↓D3.gstar3.eq_1, fInK_s, fNinK_s, fLenS_s, ↓D3.slcT3.eq_1, fCatT_t, ↓D3.app3.eq_1, ↓D3.frz3.eq_1, ↓D3.dc23.eq_1, ↓D3.lcT3.eq_1, ↓D3.litRep3.eq_1, ↓D3.litRepM3.eq_1, ↓D3.rev3.eq_1, ↓D3.dget3.eq_1, ↓D3.disp3.eq_1, ↓D3.ienum3.eq_1, pop3, sset3, wh]))); exact q
        rw [if_neg (show ¬ h = "root" from h6)] at q
        (refine laterP_in ?_; repeat ((first | with_reducible refine laterP_i ?_ | with_reducible refine later_i ?_); try simp -implicitDefEqProofs -dsimp only [↓D3.seq3_stop, ↓D3.ifS3.eq_1, ↓D3.b3.eq_1, ↓D3.op3.eq_1, ↓D3.un3.eq_1, ↓D3.v3.eq_1, ↓D3.c3.eq_1, fIx_tup, fIx_lst, at3_0, at3_1, at3_2, at3_3, at3_4, at3_5, at3_6, start3, fI0_i, fI_i, fLt, fLe, fGt, fGe, fEqI, fNeI, fMin, fMax, ↓D3.asg3.eq_1, ↓D3.name3.eq_1, ↓D3.sub3.eq_1, ↓D3.ret3.eq_1, ↓D3.retN3.eq_1, ↓D3.nx3.eq_1, ↓D3.drop3.eq_1, ↓D3.par3.eq_1, ↓D3.aug3.eq_1, ↓D3.and3.eq_1, ↓D3.or3.eq_1, ↓D3.not3.eq_1, ↓D3.andV3.eq_1, ↓D3.orV3.eq_1, ↓D3.notV3.eq_1, ↓D3.if3.eq_1, ↓D3.nil3.eq_1, ↓D3.cons3.eq_1, ↓D3.tup3.eq_1, ↓D3.lst3.eq_1, ↓D3.lstM3.eq_1, ↓D3.gtup3.eq_1, ↓D3.gcons3.eq_1, ↓D3.gnil3.eq_1, ↓D3.gunl3.eq_1, ↓D3.bits3.eq_1, ↓D3.neg3.eq_1, ↓D3.chain3.eq_1, fIsi_int_int, fIsi_int_bool, fIsi_int_tuple, fIsi_int_str, fIsi_int_list, fIsi_bl_int, fIsi_bl_bool, fIsi_bl_tuple, fIsi_bl_str, fIsi_bl_list, fIsi_non_int, fIsi_non_bool, fIsi_non_tuple, fIsi_non_str, fIsi_non_list, fIsi_str_int, fIsi_str_bool, fIsi_str_tuple, fIsi_str_str, fIsi_str_list, fIsi_tup_int, fIsi_tup_bool, fIsi_tup_tuple, fIsi_tup_str, fIsi_tup_list, fIsi_lst_int, fIsi_lst_bool, fIsi_lst_tuple, fIsi_lst_str, fIsi_lst_list, fLen_lst, fLen_tup, fAbs, ↓D3.call3_k, ↓D3.kont_app, ↓D3.isN3.eq_1, ↓D3.notN3.eq_1, dIsN_non, dIsN_int, dIsN_bl, dIsN_str, dIsN_tup, dIsN_lst, ↓D3.slc3.eq_1, ↓D3.part3.eq_1, ↓D3.noPart3.eq_1, ↓D3.ilst3.eq_1, ↓D3.itup3.eq_1, ↓D3.irng1.eq_1, ↓D3.irng2.eq_1, ↓D3.for3.eq_1, fCat, fEq_int, fNe_int, fEq_bl, fNe_bl, fEq_pair, fNe_pair, List.map, List.replicate, List.length_cons, List.length_nil, List.set_cons_zero, List.set_cons_succ, List.getElem?_cons_zero, List.getElem?_cons_succ, List.cons_append, List.nil_append, at_0, at_1, at_2, at_3, at_4, at_5, at_6, ix_0, ix_1, ix_2, put_same, put_put, decide_eq_true_eq, Bool.not_eq_true', decide_eq_false_iff_not, ite_not, ite_true, ite_false, if_true, if_false, Bool.false_eq_true, ↓reduceIte, reduceIte, Nat.reduceAdd, Nat.reduceSub, Int.reduceToNat, Nat.reduceLeDiff, not_false_eq_true, true_and, and_true, ne_eq, Int.reduceEq, Nat.zero_add, Bool.not_true, Bool.not_false, reduceCtorEq, nc0, nc1, nc2, nc3, nc4, nc5, fIx_ref put_same, fLen_ref put_same, ↓D3.lc3.eq_1, fInt, fTuple, fList, fNeS_s, fEqS_s, ↓D3.gstar3.eq_1, fInK_s, fNinK_s, fLenS_s, ↓D3.slcT3.eq_1, fCatT_t, ↓D3.app3.eq_1, ↓D3.frz3.eq_1, ↓D3.dc23.eq_1, ↓D3.lcT3.eq_1, ↓D3.litRep3.eq_1, ↓D3.litRepM3.eq_1, ↓D3.rev3.eq_1, ↓D3.dget3.eq_1, ↓D3.disp3.eq_1, ↓D3.ienum3.eq_1, pop3, sset3]))
        refine ite2 (fun h7 => ?_) (fun h7 => ?_)
        · rw [if_pos (show h = "limit" from h7)] at q
          match r, pr, q with
          | [], pr, q => ((refine laterP_in ?_; repeat ((first | with_reducible refine laterP_i ?_ | with_reducible refine later_i ?_); try simp -implicitDefEqProofs -dsimp only [↓D3.seq3_stop, ↓D3.ifS3.eq_1, ↓D3.b3.eq_1, ↓D3.op3.eq_1, ↓D3.un3.eq_1, ↓D3.v3.eq_1, ↓D3.c3.eq_1, fIx_tup, fIx_lst, at3_0, at3_1, at3_2, at3_3, at3_4, at3_5, at3_6, start3, fI0_i, fI_i, fLt, fLe, fGt, fGe, fEqI, fNeI, fMin, fMax, ↓D3.asg3.eq_1, ↓D3.name3.eq_1, ↓D3.sub3.eq_1, ↓D3.ret3.eq_1, ↓D3.retN3.eq_1, ↓D3.nx3.eq_1, ↓D3.drop3.eq_1, ↓D3.par3.eq_1, ↓D3.aug3.eq_1, ↓D3.and3.eq_1, ↓D3.or3.eq_1, ↓D3.not3.eq_1, ↓D3.andV3.eq_1, ↓D3.orV3.eq_1, ↓D3.notV3.eq_1, ↓D3.if3.eq_1, ↓D3.nil3.eq_1, ↓D3.cons3.eq_1, ↓D3.tup3.eq_1, ↓D3.lst3.eq_1, ↓D3.lstM3.eq_1, ↓D3.gtup3.eq_1, ↓D3.gcons3.eq_1, ↓D3.gnil3.eq_1, ↓D3.gunl3.eq_1, ↓D3.bits3.eq_1, ↓D3.neg3.eq_1, ↓D3.chain3.eq_1, fIsi_int_int, fIsi_int_bool, fIsi_int_tuple, fIsi_int_str, fIsi_int_list, fIsi_bl_int, fIsi_bl_bool, fIsi_bl_tuple, fIsi_bl_str, fIsi_bl_list, fIsi_non_int, fIsi_non_bool, fIsi_non_tuple, fIsi_non_str, fIsi_non_list, fIsi_str_int, fIsi_str_bool, fIsi_str_tuple, fIsi_str_str, fIsi_str_list, fIsi_tup_int, fIsi_tup_bool, fIsi_tup_tuple, fIsi_tup_str, fIsi_tup_list, fIsi_lst_int, fIsi_lst_bool, fIsi_lst_tuple, fIsi_lst_str, fIsi_lst_list, fLen_lst, fLen_tup, fAbs, ↓D3.call3_k, ↓D3.kont_app, ↓D3.isN3.eq_1, ↓D3.notN3.eq_1, dIsN_non, dIsN_int, dIsN_bl, dIsN_str, dIsN_tup, dIsN_lst, ↓D3.slc3.eq_1, ↓D3.part3.eq_1, ↓D3.noPart3.eq_1, ↓D3.ilst3.eq_1, ↓D3.itup3.eq_1, ↓D3.irng1.eq_1, ↓D3.irng2.eq_1, ↓D3.for3.eq_1, fCat, fEq_int, fNe_int, fEq_bl, fNe_bl, fEq_pair, fNe_pair, List.map, List.replicate, List.length_cons, List.length_nil, List.set_cons_zero, List.set_cons_succ, List.getElem?_cons_zero, List.getElem?_cons_succ, List.cons_append, List.nil_append, at_0, at_1, at_2, at_3, at_4, at_5, at_6, ix_0, ix_1, ix_2, put_same, put_put, decide_eq_true_eq, Bool.not_eq_true', decide_eq_false_iff_not, ite_not, ite_true, ite_false, if_true, if_false, Bool.false_eq_true, ↓reduceIte, reduceIte, Nat.reduceAdd, Nat.reduceSub, Int.reduceToNat, Nat.reduceLeDiff, not_false_eq_true, true_and, and_true, ne_eq, Int.reduceEq, Nat.zero_add, Bool.not_true, Bool.not_false, reduceCtorEq, nc0, nc1, nc2, nc3, nc4, nc5, fIx_ref put_same, fLen_ref put_same, ↓D3.lc3.eq_1, fInt, fTuple, fList, fNeS_s, fEqS_s, ↓D3.gstar3.eq_1, fInK_s, fNinK_s, fLenS_s, ↓D3.slcT3.eq_1, fCatT_t, ↓D3.app3.eq_1, ↓D3.frz3.eq_1, ↓D3.dc23.eq_1, ↓D3.lcT3.eq_1, ↓D3.litRep3.eq_1, ↓D3.litRepM3.eq_1, ↓D3.rev3.eq_1, ↓D3.dget3.eq_1, ↓D3.disp3.eq_1, ↓D3.ienum3.eq_1, pop3, sset3]))); exact q
          | [x], pr, q => ((refine laterP_in ?_; repeat ((first | with_reducible refine laterP_i ?_ | with_reducible refine later_i ?_); try simp -implicitDefEqProofs -dsimp only [↓D3.seq3_stop, ↓D3.ifS3.eq_1, ↓D3.b3.eq_1, ↓D3.op3.eq_1, ↓D3.un3.eq_1, ↓D3.v3.eq_1, ↓D3.c3.eq_1, fIx_tup, fIx_lst, at3_0, at3_1, at3_2, at3_3, at3_4, at3_5, at3_6, start3, fI0_i, fI_i, fLt, fLe, fGt, fGe, fEqI, fNeI, fMin, fMax, ↓D3.asg3.eq_1, ↓D3.name3.eq_1, ↓D3.sub3.eq_1, ↓D3.ret3.eq_1, ↓D3.retN3.eq_1, ↓D3.nx3.eq_1, ↓D3.drop3.eq_1, ↓D3.par3.eq_1, ↓D3.aug3.eq_1, ↓D3.and3.eq_1, ↓D3.or3.eq_1, ↓D3.not3.eq_1, ↓D3.andV3.eq_1, ↓D3.orV3.eq_1, ↓D3.notV3.eq_1, ↓D3.if3.eq_1, ↓D3.nil3.eq_1, ↓D3.cons3.eq_1, ↓D3.tup3.eq_1, ↓D3.lst3.eq_1, ↓D3.lstM3.eq_1, ↓D3.gtup3.eq_1, ↓D3.gcons3.eq_1, ↓D3.gnil3.eq_1, ↓D3.gunl3.eq_1, ↓D3.bits3.eq_1, ↓D3.neg3.eq_1, ↓D3.chain3.eq_1, fIsi_int_int, fIsi_int_bool, fIsi_int_tuple, fIsi_int_str, fIsi_int_list, fIsi_bl_int, fIsi_bl_bool, fIsi_bl_tuple, fIsi_bl_str, fIsi_bl_list, fIsi_non_int, fIsi_non_bool, fIsi_non_tuple, fIsi_non_str, fIsi_non_list, fIsi_str_int, fIsi_str_bool, fIsi_str_tuple, fIsi_str_str, fIsi_str_list, fIsi_tup_int, fIsi_tup_bool, fIsi_tup_tuple, fIsi_tup_str, fIsi_tup_list, fIsi_lst_int, fIsi_lst_bool, fIsi_lst_tuple, fIsi_lst_str, fIsi_lst_list, fLen_lst, fLen_tup, fAbs, ↓D3.call3_k, ↓D3.kont_app, ↓D3.isN3.eq_1, ↓D3.notN3.eq_1, dIsN_non, dIsN_int, dIsN_bl, dIsN_str, dIsN_tup, dIsN_lst, ↓D3.slc3.eq_1, ↓D3.part3.eq_1, ↓D3.noPart3.eq_1, ↓D3.ilst3.eq_1, ↓D3.itup3.eq_1, ↓D3.irng1.eq_1, ↓D3.irng2.eq_1, ↓D3.for3.eq_1, fCat, fEq_int, fNe_int, fEq_bl, fNe_bl, fEq_pair, fNe_pair, List.map, List.replicate, List.length_cons, List.length_nil, List.set_cons_zero, List.set_cons_succ, List.getElem?_cons_zero, List.getElem?_cons_succ, List.cons_append, List.nil_append, at_0, at_1, at_2, at_3, at_4, at_5, at_6, ix_0, ix_1, ix_2, put_same, put_put, decide_eq_true_eq, Bool.not_eq_true', decide_eq_false_iff_not, ite_not, ite_true, ite_false, if_true, if_false, Bool.false_eq_true, ↓reduceIte, reduceIte, Nat.reduceAdd, Nat.reduceSub, Int.reduceToNat, Nat.reduceLeDiff, not_false_eq_true, true_and, and_true, ne_eq, Int.reduceEq, Nat.zero_add, Bool.not_true, Bool.not_false, reduceCtorEq, nc0, nc1, nc2, nc3, nc4, nc5, fIx_ref put_same, fLen_ref put_same, ↓D3.lc3.eq_1, fInt, fTuple, fList, fNeS_s, fEqS_s, ↓D3.gstar3.eq_1, fInK_s, fNinK_s, fLenS_s, ↓D3.slcT3.eq_1, fCatT_t, ↓D3.app3.eq_1, ↓D3.frz3.eq_1, ↓D3.dc23.eq_1, ↓D3.lcT3.eq_1, ↓D3.litRep3.eq_1, ↓D3.litRepM3.eq_1, ↓D3.rev3.eq_1, ↓D3.dget3.eq_1, ↓D3.disp3.eq_1, ↓D3.ienum3.eq_1, pop3, sset3]))); exact q
          | [x, y], pr, q => ((refine laterP_in ?_; repeat ((first | with_reducible refine laterP_i ?_ | with_reducible refine later_i ?_); try simp -implicitDefEqProofs -dsimp only [↓D3.seq3_stop, ↓D3.ifS3.eq_1, ↓D3.b3.eq_1, ↓D3.op3.eq_1, ↓D3.un3.eq_1, ↓D3.v3.eq_1, ↓D3.c3.eq_1, fIx_tup, fIx_lst, at3_0, at3_1, at3_2, at3_3, at3_4, at3_5, at3_6, start3, fI0_i, fI_i, fLt, fLe, fGt, fGe, fEqI, fNeI, fMin, fMax, ↓D3.asg3.eq_1, ↓D3.name3.eq_1, ↓D3.sub3.eq_1, ↓D3.ret3.eq_1, ↓D3.retN3.eq_1, ↓D3.nx3.eq_1, ↓D3.drop3.eq_1, ↓D3.par3.eq_1, ↓D3.aug3.eq_1, ↓D3.and3.eq_1, ↓D3.or3.eq_1, ↓D3.not3.eq_1, ↓D3.andV3.eq_1, ↓D3.orV3.eq_1, ↓D3.notV3.eq_1, ↓D3.if3.eq_1, ↓D3.nil3.eq_1, ↓D3.cons3.eq_1, ↓D3.tup3.eq_1, ↓D3.lst3.eq_1, ↓D3.lstM3.eq_1, ↓D3.gtup3.eq_1, ↓D3.gcons3.eq_1, ↓D3.gnil3.eq_1, ↓D3.gunl3.eq_1, ↓D3.bits3.eq_1, ↓D3.neg3.eq_1, ↓D3.chain3.eq_1, fIsi_int_int, fIsi_int_bool, fIsi_int_tuple, fIsi_int_str, fIsi_int_list, fIsi_bl_int, fIsi_bl_bool, fIsi_bl_tuple, fIsi_bl_str, fIsi_bl_list, fIsi_non_int, fIsi_non_bool, fIsi_non_tuple, fIsi_non_str, fIsi_non_list, fIsi_str_int, fIsi_str_bool, fIsi_str_tuple, fIsi_str_str, fIsi_str_list, fIsi_tup_int, fIsi_tup_bool, fIsi_tup_tuple, fIsi_tup_str, fIsi_tup_list, fIsi_lst_int, fIsi_lst_bool, fIsi_lst_tuple, fIsi_lst_str, fIsi_lst_list, fLen_lst, fLen_tup, fAbs, ↓D3.call3_k, ↓D3.kont_app, ↓D3.isN3.eq_1, ↓D3.notN3.eq_1, dIsN_non, dIsN_int, dIsN_bl, dIsN_str, dIsN_tup, dIsN_lst, ↓D3.slc3.eq_1, ↓D3.part3.eq_1, ↓D3.noPart3.eq_1, ↓D3.ilst3.eq_1, ↓D3.itup3.eq_1, ↓D3.irng1.eq_1, ↓D3.irng2.eq_1, ↓D3.for3.eq_1, fCat, fEq_int, fNe_int, fEq_bl, fNe_bl, fEq_pair, fNe_pair, List.map, List.replicate, List.length_cons, List.length_nil, List.set_cons_zero, List.set_cons_succ, List.getElem?_cons_zero, List.getElem?_cons_succ, List.cons_append, List.nil_append, at_0, at_1, at_2, at_3, at_4, at_5, at_6, ix_0, ix_1, ix_2, put_same, put_put, decide_eq_true_eq, Bool.not_eq_true', decide_eq_false_iff_not, ite_not, ite_true, ite_false, if_true, if_false, Bool.false_eq_true, ↓reduceIte, reduceIte, Nat.reduceAdd, Nat.reduceSub, Int.reduceToNat, Nat.reduceLeDiff, not_false_eq_true, true_and, and_true, ne_eq, Int.reduceEq, Nat.zero_add, Bool.not_true, Bool.not_false, reduceCtorEq, nc0, nc1, nc2, nc3, nc4, nc5, fIx_ref put_same, fLen_ref put_same, ↓D3.lc3.eq_1, fInt, fTuple, fList, fNeS_s, fEqS_s, ↓D3.gstar3.eq_1, fInK_s, fNinK_s, fLenS_s, ↓D3.slcT3.eq_1, fCatT_t, ↓D3.app3.eq_1, ↓D3.frz3.eq_1, ↓D3.dc23.eq_1, ↓D3.lcT3.eq_1, ↓D3.litRep3.eq_1, ↓D3.litRepM3.eq_1, ↓D3.rev3.eq_1, ↓D3.dget3.eq_1, ↓D3.disp3.eq_1, ↓D3.ienum3.eq_1, pop3, sset3]))); exact q
          | [x, y, z], pr, q => ((refine laterP_in ?_; repeat ((first | with_reducible refine laterP_i ?_ | with_reducible refine later_i ?_); try simp -implicitDefEqProofs -dsimp only [↓D3.seq3_stop, ↓D3.ifS3.eq_1, ↓D3.b3.eq_1, ↓D3.op3.eq_1, ↓D3.un3.eq_1, ↓D3.v3.eq_1, ↓D3.c3.eq_1, fIx_tup, fIx_lst, at3_0, at3_1, at3_2, at3_3, at3_4, at3_5, at3_6, start3, fI0_i, fI_i, fLt, fLe, fGt, fGe, fEqI, fNeI, fMin, fMax, ↓D3.asg3.eq_1, ↓D3.name3.eq_1, ↓D3.sub3.eq_1, ↓D3.ret3.eq_1, ↓D3.retN3.eq_1, ↓D3.nx3.eq_1, ↓D3.drop3.eq_1, ↓D3.par3.eq_1, ↓D3.aug3.eq_1, ↓D3.and3.eq_1, ↓D3.or3.eq_1, ↓D3.not3.eq_1, ↓D3.andV3.eq_1, ↓D3.orV3.eq_1, ↓D3.notV3.eq_1, ↓D3.if3.eq_1, ↓D3.nil3.eq_1, ↓D3.cons3.eq_1, ↓D3.tup3.eq_1, ↓D3.lst3.eq_1, ↓D3.lstM3.eq_1, ↓D3.gtup3.eq_1, ↓D3.gcons3.eq_1, ↓D3.gnil3.eq_1, ↓D3.gunl3.eq_1, ↓D3.bits3.eq_1, ↓D3.neg3.eq_1, ↓D3.chain3.eq_1, fIsi_int_int, fIsi_int_bool, fIsi_int_tuple, fIsi_int_str, fIsi_int_list, fIsi_bl_int, fIsi_bl_bool, fIsi_bl_tuple, fIsi_bl_str, fIsi_bl_list, fIsi_non_int, fIsi_non_bool, fIsi_non_tuple, fIsi_non_str, fIsi_non_list, fIsi_str_int, fIsi_str_bool, fIsi_str_tuple, fIsi_str_str, fIsi_str_list, fIsi_tup_int, fIsi_tup_bool, fIsi_tup_tuple, fIsi_tup_str, fIsi_tup_list, fIsi_lst_int, fIsi_lst_bool, fIsi_lst_tuple, fIsi_lst_str, fIsi_lst_list, fLen_lst, fLen_tup, fAbs, ↓D3.call3_k, ↓D3.kont_app, ↓D3.isN3.eq_1, ↓D3.notN3.eq_1, dIsN_non, dIsN_int, dIsN_bl, dIsN_str, dIsN_tup, dIsN_lst, ↓D3.slc3.eq_1, ↓D3.part3.eq_1, ↓D3.noPart3.eq_1, ↓D3.ilst3.eq_1, ↓D3.itup3.eq_1, ↓D3.irng1.eq_1, ↓D3.irng2.eq_1, ↓D3.for3.eq_1, fCat, fEq_int, fNe_int, fEq_bl, fNe_bl, fEq_pair, fNe_pair, List.map, List.replicate, List.length_cons, List.length_nil, List.set_cons_zero, List.set_cons_succ, List.getElem?_cons_zero, List.getElem?_cons_succ, List.cons_append, List.nil_append, at_0, at_1, at_2, at_3, at_4, at_5, at_6, ix_0, ix_1, ix_2, put_same, put_put, decide_eq_true_eq, Bool.not_eq_true', decide_eq_false_iff_not, ite_not, ite_true, ite_false, if_true, if_false, Bool.false_eq_true, ↓reduceIte, reduceIte, Nat.reduceAdd, Nat.reduceSub, Int.reduceToNat, Nat.reduceLeDiff, not_false_eq_true, true_and, and_true, ne_eq, Int.reduceEq, Nat.zero_add, Bool.not_true, Bool.not_false, reduceCtorEq, nc0, nc1, nc2, nc3, nc4, nc5, fIx_ref put_same, fLen_ref put_same, ↓D3.lc3.eq_1, fInt, fTuple, fList, fNeS_s, fEqS_s, ↓D3.gstar3.eq_1, fInK_s, fNinK_s, fLenS_s, ↓D3.slcT3.eq_1, fCatT_t, ↓D3.app3.eq_1, ↓D3.frz3.eq_1, ↓D3.dc23.eq_1, ↓D3.lcT3.eq_1, ↓D3.litRep3.eq_1, ↓D3.litRepM3.eq_1, ↓D3.rev3.eq_1, ↓D3.dget3.eq_1, ↓D3.disp3.eq_1, ↓D3.ienum3.eq_1, pop3, sset3]))); exact q
          | x :: y :: z :: u :: v :: r, pr, q =>
            (refine laterP_in ?_; repeat ((first | with_reducible refine laterP_i ?_ | with_reducible refine later_i ?_); try simp -implicitDefEqProofs -dsimp only [↓D3.seq3_stop, ↓D3.ifS3.eq_1, ↓D3.b3.eq_1, ↓D3.op3.eq_1, ↓D3.un3.eq_1, ↓D3.v3.eq_1, ↓D3.c3.eq_1, fIx_tup, fIx_lst, at3_0, at3_1, at3_2, at3_3, at3_4, at3_5, at3_6, start3, fI0_i, fI_i, fLt, fLe, fGt, fGe, fEqI, fNeI, fMin, fMax, ↓D3.asg3.eq_1, ↓D3.name3.eq_1, ↓D3.sub3.eq_1, ↓D3.ret3.eq_1, ↓D3.retN3.eq_1, ↓D3.nx3.eq_1, ↓D3.drop3.eq_1, ↓D3.par3.eq_1, ↓D3.aug3.eq_1, ↓D3.and3.eq_1, ↓D3.or3.eq_1, ↓D3.not3.eq_1, ↓D3.andV3.eq_1, ↓D3.orV3.eq_1, ↓D3.notV3.eq_1, ↓D3.if3.eq_1, ↓D3.nil3.eq_1, ↓D3.cons3.eq_1, ↓D3.tup3.eq_1, ↓D3.lst3.eq_1, ↓D3.lstM3.eq_1, ↓D3.gtup3.eq_1, ↓D3.gcons3.eq_1, ↓D3.gnil3.eq_1, ↓D3.gunl3.eq_1, ↓D3.bits3.eq_1, ↓D3.neg3.eq_1, ↓D3.chain3.eq_1, fIsi_int_int, fIsi_int_bool, fIsi_int_tuple, fIsi_int_str, fIsi_int_list, fIsi_bl_int, fIsi_bl_bool, fIsi_bl_tuple, fIsi_bl_str, fIsi_bl_list, fIsi_non_int, fIsi_non_bool, fIsi_non_tuple, fIsi_non_str, fIsi_non_list, fIsi_str_int, fIsi_str_bool, fIsi_str_tuple, fIsi_str_str, fIsi_str_list, fIsi_tup_int, fIsi_tup_bool, fIsi_tup_tuple, fIsi_tup_str, fIsi_tup_list, fIsi_lst_int, fIsi_lst_bool, fIsi_lst_tuple, fIsi_lst_str, fIsi_lst_list, fLen_lst, fLen_tup, fAbs, ↓D3.call3_k, ↓D3.kont_app, ↓D3.isN3.eq_1, ↓D3.notN3.eq_1, dIsN_non, dIsN_int, dIsN_bl, dIsN_str, dIsN_tup, dIsN_lst, ↓D3.slc3.eq_1, ↓D3.part3.eq_1, ↓D3.noPart3.eq_1, ↓D3.ilst3.eq_1, ↓D3.itup3.eq_1, ↓D3.irng1.eq_1, ↓D3.irng2.eq_1, ↓D3.for3.eq_1, fCat, fEq_int, fNe_int, fEq_bl, fNe_bl, fEq_pair, fNe_pair, List.map, List.replicate, List.length_cons, List.length_nil, List.set_cons_zero, List.set_cons_succ, List.getElem?_cons_zero, List.getElem?_cons_succ, List.cons_append, List.nil_append, at_0, at_1, at_2, at_3, at_4, at_5, at_6, ix_0, ix_1, ix_2, put_same, put_put, decide_eq_true_eq, Bool.not_eq_true', decide_eq_false_iff_not, ite_not, ite_true, ite_false, if_true, if_false, Bool.false_eq_true, ↓reduceIte, reduceIte, Nat.reduceAdd, Nat.reduceSub, Int.reduceToNat, Nat.reduceLeDiff, not_false_eq_true, true_and, and_true, ne_eq, Int.reduceEq, Nat.zero_add, Bool.not_true, Bool.not_false, reduceCtorEq, nc0, nc1, nc2, nc3, nc4, nc5, fIx_ref put_same, fLen_ref put_same, ↓D3.lc3.eq_1, fInt, fTuple, fList, fNeS_s, fEqS_s, ↓D3.gstar3.eq_1, fInK_s, fNinK_s, fLenS_s, ↓D3.slcT3.eq_1, fCatT_t, ↓D3.app3.eq_1, ↓D3.frz3.eq_1, ↓D3.dc23.eq_1, ↓D3.lcT3.eq_1, ↓D3.litRep3.eq_1, ↓D3.litRepM3.eq_1, ↓D3.rev3.eq_1, ↓D3.dget3.eq_1, ↓D3.disp3.eq_1, ↓D3.ienum3.eq_1, pop3, sset3]))
            exact ite2 (fun b => absurd b (by omega)) (fun b => q)
          | [x, y, z, u], pr, q =>
            (refine laterP_in ?_; repeat ((first | with_reducible refine laterP_i ?_ | with_reducible refine later_i ?_); try simp -implicitDefEqProofs -dsimp only [↓D3.seq3_stop, ↓D3.ifS3.eq_1, ↓D3.b3.eq_1, ↓D3.op3.eq_1, ↓D3.un3.eq_1, ↓D3.v3.eq_1, ↓D3.c3.eq_1, fIx_tup, fIx_lst, at3_0, at3_1, at3_2, at3_3, at3_4, at3_5, at3_6, start3, fI0_i, fI_i, fLt, fLe, fGt, fGe, fEqI, fNeI, fMin, fMax, ↓D3.asg3.eq_1, ↓D3.name3.eq_1, ↓D3.sub3.eq_1, ↓D3.ret3.eq_1, ↓D3.retN3.eq_1, ↓D3.nx3.eq_1, ↓D3.drop3.eq_1, ↓D3.par3.eq_1, ↓D3.aug3.eq_1, ↓D3.and3.eq_1, ↓D3.or3.eq_1, ↓D3.not3.eq_1, ↓D3.andV3.eq_1, ↓D3.orV3.eq_1, ↓D3.notV3.eq_1, ↓D3.if3.eq_1, ↓D3.nil3.eq_1, ↓D3.cons3.eq_1, ↓D3.tup3.eq_1, ↓D3.lst3.eq_1, ↓D3.lstM3.eq_1, ↓D3.gtup3.eq_1, ↓D3.gcons3.eq_1, ↓D3.gnil3.eq_1, ↓D3.gunl3.eq_1, ↓D3.bits3.eq_1, ↓D3.neg3.eq_1, ↓D3.chain3.eq_1, fIsi_int_int, fIsi_int_bool, fIsi_int_tuple, fIsi_int_str, fIsi_int_list, fIsi_bl_int, fIsi_bl_bool, fIsi_bl_tuple, fIsi_bl_str, fIsi_bl_list, fIsi_non_int, fIsi_non_bool, fIsi_non_tuple, fIsi_non_str, fIsi_non_list, fIsi_str_int, fIsi_str_bool, fIsi_str_tuple, fIsi_str_str, fIsi_str_list, fIsi_tup_int, fIsi_tup_bool, fIsi_tup_tuple, fIsi_tup_str, fIsi_tup_list, fIsi_lst_int, fIsi_lst_bool, fIsi_lst_tuple, fIsi_lst_str, fIsi_lst_list, fLen_lst, fLen_tup, fAbs, ↓D3.call3_k, ↓D3.kont_app, ↓D3.isN3.eq_1, ↓D3.notN3.eq_1, dIsN_non, dIsN_int, dIsN_bl, dIsN_str, dIsN_tup, dIsN_lst, ↓D3.slc3.eq_1, ↓D3.part3.eq_1, ↓D3.noPart3.eq_1, ↓D3.ilst3.eq_1, ↓D3.itup3.eq_1, ↓D3.irng1.eq_1, ↓D3.irng2.eq_1, ↓D3.for3.eq_1, fCat, fEq_int, fNe_int, fEq_bl, fNe_bl, fEq_pair, fNe_pair, List.map, List.replicate, List.length_cons, List.length_nil, List.set_cons_zero, List.set_cons_succ, List.getElem?_cons_zero, List.getElem?_cons_succ, List.cons_append, List.nil_append, at_0, at_1, at_2, at_3, at_4, at_5, at_6, ix_0, ix_1, ix_2, put_same, put_put, decide_eq_true_eq, Bool.not_eq_true', decide_eq_false_iff_not, ite_not, ite_true, ite_false, if_true, if_false, Bool.false_eq_true, ↓reduceIte, reduceIte, Nat.reduceAdd, Nat.reduceSub, Int.reduceToNat, Nat.reduceLeDiff, not_false_eq_true, true_and, and_true, ne_eq, Int.reduceEq, Nat.zero_add, Bool.not_true, Bool.not_false, reduceCtorEq, nc0, nc1, nc2, nc3, nc4, nc5, fIx_ref put_same, fLen_ref put_same, ↓D3.lc3.eq_1, fInt, fTuple, fList, fNeS_s, fEqS_s, ↓D3.gstar3.eq_1, fInK_s, fNinK_s, fLenS_s, ↓D3.slcT3.eq_1, fCatT_t, ↓D3.app3.eq_1, ↓D3.frz3.eq_1, ↓D3.dc23.eq_1, ↓D3.lcT3.eq_1, ↓D3.litRep3.eq_1, ↓D3.litRepM3.eq_1, ↓D3.rev3.eq_1, ↓D3.dget3.eq_1, ↓D3.disp3.eq_1, ↓D3.ienum3.eq_1, pop3, sset3]))
            refine ⟨x, 900, rfl, pr.1, by decide, ?_⟩
            (refine laterP_in ?_; repeat ((first | with_reducible refine laterP_i ?_ | with_reducible refine later_i ?_); try simp -implicitDefEqProofs -dsimp only [↓D3.seq3_stop, ↓D3.ifS3.eq_1, ↓D3.b3.eq_1, ↓D3.op3.eq_1, ↓D3.un3.eq_1, ↓D3.v3.eq_1, ↓D3.c3.eq_1, fIx_tup, fIx_lst, at3_0, at3_1, at3_2, at3_3, at3_4, at3_5, at3_6, start3, fI0_i, fI_i, fLt, fLe, fGt, fGe, fEqI, fNeI, fMin, fMax, ↓D3.asg3.eq_1, ↓D3.name3.eq_1, ↓D3.sub3.eq_1, ↓D3.ret3.eq_1, ↓D3.retN3.eq_1, ↓D3.nx3.eq_1, ↓D3.drop3.eq_1, ↓D3.par3.eq_1, ↓D3.aug3.eq_1, ↓D3.and3.eq_1, ↓D3.or3.eq_1, ↓D3.not3.eq_1, ↓D3.andV3.eq_1, ↓D3.orV3.eq_1, ↓D3.notV3.eq_1, ↓D3.if3.eq_1, ↓D3.nil3.eq_1, ↓D3.cons3.eq_1, ↓D3.tup3.eq_1, ↓D3.lst3.eq_1, ↓D3.lstM3.eq_1, ↓D3.gtup3.eq_1, ↓D3.gcons3.eq_1, ↓D3.gnil3.eq_1, ↓D3.gunl3.eq_1, ↓D3.bits3.eq_1, ↓D3.neg3.eq_1, ↓D3.chain3.eq_1, fIsi_int_int, fIsi_int_bool, fIsi_int_tuple, fIsi_int_str, fIsi_int_list, fIsi_bl_int, fIsi_bl_bool, fIsi_bl_tuple, fIsi_bl_str, fIsi_bl_list, fIsi_non_int, fIsi_non_bool, fIsi_non_tuple, fIsi_non_str, fIsi_non_list, fIsi_str_int, fIsi_str_bool, fIsi_str_tuple, fIsi_str_str, fIsi_str_list, fIsi_tup_int, fIsi_tup_bool, fIsi_tup_tuple, fIsi_tup_str, fIsi_tup_list, fIsi_lst_int, fIsi_lst_bool, fIsi_lst_tuple, fIsi_lst_str, fIsi_lst_list, fLen_lst, fLen_tup, fAbs, ↓D3.call3_k, ↓D3.kont_app, ↓D3.isN3.eq_1, ↓D3.notN3.eq_1, dIsN_non, dIsN_int, dIsN_bl, dIsN_str, dIsN_tup, dIsN_lst, ↓D3.slc3.eq_1, ↓D3.part3.eq_1, ↓D3.noPart3.eq_1, ↓D3.ilst3.eq_1, ↓D3.itup3.eq_1, ↓D3.irng1.eq_1, ↓D3.irng2.eq_1, ↓D3.for3.eq_1, fCat, fEq_int, fNe_int, fEq_bl, fNe_bl, fEq_pair, fNe_pair, List.map, List.replicate, List.length_cons, List.length_nil, List.set_cons_zero, List.set_cons_succ, List.getElem?_cons_zero, List.getElem?_cons_succ, List.cons_append, List.nil_append, at_0, at_1, at_2, at_3, at_4, at_5, at_6, ix_0, ix_1, ix_2, put_same, put_put, decide_eq_true_eq, Bool.not_eq_true', decide_eq_false_iff_not, ite_not, ite_true, ite_false, if_true, if_false, Bool.false_eq_true, ↓reduceIte, reduceIte, Nat.reduceAdd, Nat.reduceSub, Int.reduceToNat, Nat.reduceLeDiff, not_false_eq_true, true_and, and_true, ne_eq, Int.reduceEq, Nat.zero_add, Bool.not_true, Bool.not_false, reduceCtorEq, nc0, nc1, nc2, nc3, nc4, nc5, fIx_ref put_same, fLen_ref put_same, ↓D3.lc3.eq_1, fInt, fTuple, fList, fNeS_s, fEqS_s, ↓D3.gstar3.eq_1, fInK_s, fNinK_s, fLenS_s, ↓D3.slcT3.eq_1, fCatT_t, ↓D3.app3.eq_1, ↓D3.frz3.eq_1, ↓D3.dc23.eq_1, ↓D3.lcT3.eq_1, ↓D3.litRep3.eq_1, ↓D3.litRepM3.eq_1, ↓D3.rev3.eq_1, ↓D3.dget3.eq_1, ↓D3.disp3.eq_1, ↓D3.ienum3.eq_1, pop3, sset3]))
            refine iteB (fun b1 => ?_) (fun b1 => ?_)
            · refine ⟨y, 900, rfl, pr.2.1, ?_⟩
              (refine laterP_in ?_; repeat ((first | with_reducible refine laterP_i ?_ | with_reducible refine later_i ?_); try simp -implicitDefEqProofs -dsimp only [↓D3.seq3_stop, ↓D3.ifS3.eq_1, ↓D3.b3.eq_1, ↓D3.op3.eq_1, ↓D3.un3.eq_1, ↓D3.v3.eq_1, ↓D3.c3.eq_1, fIx_tup, fIx_lst, at3_0, at3_1, at3_2, at3_3, at3_4, at3_5, at3_6, start3, fI0_i, fI_i, fLt, fLe, fGt, fGe, fEqI, fNeI, fMin, fMax, ↓D3.asg3.eq_1, ↓D3.name3.eq_1, ↓D3.sub3.eq_1, ↓D3.ret3.eq_1, ↓D3.retN3.eq_1, ↓D3.nx3.eq_1, ↓D3.drop3.eq_1, ↓D3.par3.eq_1, ↓D3.aug3.eq_1, ↓D3.and3.eq_1, ↓D3.or3.eq_1, ↓D3.not3.eq_1, ↓D3.andV3.eq_1, ↓D3.orV3.eq_1, ↓D3.notV3.eq_1, ↓D3.if3.eq_1, ↓D3.nil3.eq_1, ↓D3.cons3.eq_1, ↓D3.tup3.eq_1, ↓D3.lst3.eq_1, ↓D3.lstM3.eq_1, ↓D3.gtup3.eq_1, ↓D3.gcons3.eq_1, ↓D3.gnil3.eq_1, ↓D3.gunl3.eq_1, ↓D3.bits3.eq_1, ↓D3.neg3.eq_1, ↓D3.chain3.eq_1, fIsi_int_int, fIsi_int_bool, fIsi_int_tuple, fIsi_int_str, fIsi_int_list, fIsi_bl_int, fIsi_bl_bool, fIsi_bl_tuple, fIsi_bl_str, fIsi_bl_list, fIsi_non_int, fIsi_non_bool, fIsi_non_tuple, fIsi_non_str, fIsi_non_list, fIsi_str_int, fIsi_str_bool, fIsi_str_tuple, fIsi_str_str, fIsi_str_list, fIsi_tup_int, fIsi_tup_bool, fIsi_tup_tuple, fIsi_tup_str, fIsi_tup_list, fIsi_lst_int, fIsi_lst_bool, fIsi_lst_tuple, fIsi_lst_str, fIsi_lst_list, fLen_lst, fLen_tup, fAbs, ↓D3.call3_k, ↓D3.kont_app, ↓D3.isN3.eq_1, ↓D3.notN3.eq_1, dIsN_non, dIsN_int, dIsN_bl, dIsN_str, dIsN_tup, dIsN_lst, ↓D3.slc3.eq_1, ↓D3.part3.eq_1, ↓D3.noPart3.eq_1, ↓D3.ilst3.eq_1, ↓D3.itup3.eq_1, ↓D3.irng1.eq_1, ↓D3.irng2.eq_1, ↓D3.for3.eq_1, fCat, fEq_int, fNe_int, fEq_bl, fNe_bl, fEq_pair, fNe_pair, List.map, List.replicate, List.length_cons, List.length_nil, List.set_cons_zero, List.set_cons_succ, List.getElem?_cons_zero, List.getElem?_cons_succ, List.cons_append, List.nil_append, at_0, at_1, at_2, at_3, at_4, at_5, at_6, ix_0, ix_1, ix_2, put_same, put_put, decide_eq_true_eq, Bool.not_eq_true', decide_eq_false_iff_not, ite_not, ite_true, ite_false, if_true, if_false, Bool.false_eq_true, ↓reduceIte, reduceIte, Nat.reduceAdd, Nat.reduceSub, Int.reduceToNat, Nat.reduceLeDiff, not_false_eq_true, true_and, and_true, ne_eq, Int.reduceEq, Nat.zero_add, Bool.not_true, Bool.not_false, reduceCtorEq, nc0, nc1, nc2, nc3, nc4, nc5, fIx_ref put_same, fLen_ref put_same, ↓D3.lc3.eq_1, fInt, fTuple, fList, fNeS_s, fEqS_s, ↓D3.gstar3.eq_1, fInK_s, fNinK_s, fLenS_s, ↓D3.slcT3.eq_1, fCatT_t, ↓D3.app3.eq_1, ↓D3.frz3.eq_1, ↓D3.dc23.eq_1, ↓D3.lcT3.eq_1, ↓D3.litRep3.eq_1, ↓D3.litRepM3.eq_1, ↓D3.rev3.eq_1, ↓D3.dget3.eq_1, ↓D3.disp3.eq_1, ↓D3.ienum3.eq_1, pop3, sset3]))
              refine iteB (fun b2 => ?_) (fun b2 => ?_)
              · refine ⟨z, 900, rfl, pr.2.2.1, ?_⟩
                (refine laterP_in ?_; repeat ((first | with_reducible refine laterP_i ?_ | with_reducible refine later_i ?_); try simp -implicitDefEqProofs -dsimp only [↓D3.seq3_stop, ↓D3.ifS3.eq_1, ↓D3.b3.eq_1, ↓D3.op3.eq_1, ↓D3.un3.eq_1, ↓D3.v3.eq_1, ↓D3.c3.eq_1, fIx_tup, fIx_lst, at3_0, at3_1, at3_2, at3_3, at3_4, at3_5, at3_6, start3, fI0_i, fI_i, fLt, fLe, fGt, fGe, fEqI, fNeI, fMin, fMax, ↓D3.asg3.eq_1, ↓D3.name3.eq_1, ↓D3.sub3.eq_1, ↓D3.ret3.eq_1, ↓D3.retN3.eq_1, ↓D3.nx3.eq_1, ↓D3.drop3.eq_1, ↓D3.par3.eq_1, ↓D3.aug3.eq_1, ↓D3.and3.eq_1, ↓D3.or3.eq_1, ↓D3.not3.eq_1, ↓D3.andV3.eq_1, ↓D3.orV3.eq_1, ↓D3.notV3.eq_1, ↓D3.if3.eq_1, ↓D3.nil3.eq_1, ↓D3.cons3.eq_1, ↓D3.tup3.eq_1, ↓D3.lst3.eq_1, ↓D3.lstM3.eq_1, ↓D3.gtup3.eq_1, ↓D3.gcons3.eq_1, ↓D3.gnil3.eq_1, ↓D3.gunl3.eq_1, ↓D3.bits3.eq_1, ↓D3.neg3.eq_1, ↓D3.chain3.eq_1, fIsi_int_int, fIsi_int_bool, fIsi_int_tuple, fIsi_int_str, fIsi_int_list, fIsi_bl_int, fIsi_bl_bool, fIsi_bl_tuple, fIsi_bl_str, fIsi_bl_list, fIsi_non_int, fIsi_non_bool, fIsi_non_tuple, fIsi_non_str, fIsi_non_list, fIsi_str_int, fIsi_str_bool, fIsi_str_tuple, fIsi_str_str, fIsi_str_list, fIsi_tup_int, fIsi_tup_bool, fIsi_tup_tuple, fIsi_tup_str, fIsi_tup_list, fIsi_lst_int, fIsi_lst_bool, fIsi_lst_tuple, fIsi_lst_str, fIsi_lst_list, fLen_lst, fLen_tup, fAbs, ↓D3.call3_k, ↓D3.kont_app, ↓D3.isN3.eq_1, ↓D3.notN3.eq_1, dIsN_non, dIsN_int, dIsN_bl, dIsN_str, dIsN_tup, dIsN_lst, ↓D3.slc3.eq_1, ↓D3.part3.eq_1, ↓D3.noPart3.eq_1, ↓D3.ilst3.eq_1, ↓D3.itup3.eq_1, ↓D3.irng1.eq_1, ↓D3.irng2.eq_1, ↓D3.for3.eq_1, fCat, fEq_int, fNe_int, fEq_bl, fNe_bl, fEq_pair, fNe_pair, List.map, List.replicate, List.length_cons, List.length_nil, List.set_cons_zero, List.set_cons_succ, List.getElem?_cons_zero, List.getElem?_cons_succ, List.cons_append, List.nil_append, at_0, at_1, at_2, at_3, at_4, at_5, at_6, ix_0, ix_1, ix_2, put_same, put_put, decide_eq_true_eq, Bool.not_eq_true', decide_eq_false_iff_not, ite_not, ite_true, ite_false, if_true, if_false, Bool.false_eq_true, ↓reduceIte, reduceIte, Nat.reduceAdd, Nat.reduceSub, Int.reduceToNat, Nat.reduceLeDiff, not_false_eq_true, true_and, and_true, ne_eq, Int.reduceEq, Nat.zero_add, Bool.not_true, Bool.not_false, reduceCtorEq, nc0, nc1, nc2, nc3, nc4, nc5, fIx_ref put_same, fLen_ref put_same, ↓D3.lc3.eq_1, fInt, fTuple, fList, fNeS_s, fEqS_s, ↓D3.gstar3.eq_1, fInK_s, fNinK_s, fLenS_s, ↓D3.slcT3.eq_1, fCatT_t, ↓D3.app3.eq_1, ↓D3.frz3.eq_1, ↓D3.dc23.eq_1, ↓D3.lcT3.eq_1, ↓D3.litRep3.eq_1, ↓D3.litRepM3.eq_1, ↓D3.rev3.eq_1, ↓D3.dget3.eq_1, ↓D3.disp3.eq_1, ↓D3.ienum3.eq_1, pop3, sset3]))
                refine iteB (fun b3 => ?_) (fun b3 => ?_)
                · obtain ⟨a, b, rfl, _, _⟩ := isFr_ex b2
                  obtain ⟨c, d, rfl, _, _⟩ := isFr_ex b3
                  have L := pr.2.1
                  have L2 := pr.2.2.1
                  refine ⟨a, b, c, d, rfl, lt_pow L.1 (by decide), lt_pow L.2.1 (by decide), lt_pow L2.1 (by decide), lt_pow L2.2.1 (by decide), ?_⟩
                  (refine laterP_in ?_; repeat ((first | with_reducible refine laterP_i ?_ | with_reducible refine later_i ?_); try simp -implicitDefEqProofs -dsimp only [↓D3.seq3_stop, ↓D3.ifS3.eq_1, ↓D3.b3.eq_1, ↓D3.op3.eq_1, ↓D3.un3.eq_1, ↓D3.v3.eq_1, ↓D3.c3.eq_1, fIx_tup, fIx_lst, at3_0, at3_1, at3_2, at3_3, at3_4, at3_5, at3_6, start3, fI0_i, fI_i, fLt, fLe, fGt, fGe, fEqI, fNeI, fMin, fMax, ↓D3.asg3.eq_1, ↓D3.name3.eq_1, ↓D3.sub3.eq_1, ↓D3.ret3.eq_1, ↓D3.retN3.eq_1, ↓D3.nx3.eq_1, ↓D3.drop3.eq_1, ↓D3.par3.eq_1, ↓D3.aug3.eq_1, ↓D3.and3.eq_1, ↓D3.or3.eq_1, ↓D3.not3.eq_1, ↓D3.andV3.eq_1, ↓D3.orV3.eq_1, ↓D3.notV3.eq_1, ↓D3.if3.eq_1, ↓D3.nil3.eq_1, ↓D3.cons3.eq_1, ↓D3.tup3.eq_1, ↓D3.lst3.eq_1, ↓D3.lstM3.eq_1, ↓D3.gtup3.eq_1, ↓D3.gcons3.eq_1, ↓D3.gnil3.eq_1, ↓D3.gunl3.eq_1, ↓D3.bits3.eq_1, ↓D3.neg3.eq_1, ↓D3.chain3.eq_1, fIsi_int_int, fIsi_int_bool, fIsi_int_tuple, fIsi_int_str, fIsi_int_list, fIsi_bl_int, fIsi_bl_bool, fIsi_bl_tuple, fIsi_bl_str, fIsi_bl_list, fIsi_non_int, fIsi_non_bool, fIsi_non_tuple, fIsi_non_str, fIsi_non_list, fIsi_str_int, fIsi_str_bool, fIsi_str_tuple, fIsi_str_str, fIsi_str_list, fIsi_tup_int, fIsi_tup_bool, fIsi_tup_tuple, fIsi_tup_str, fIsi_tup_list, fIsi_lst_int, fIsi_lst_bool, fIsi_lst_tuple, fIsi_lst_str, fIsi_lst_list, fLen_lst, fLen_tup, fAbs, ↓D3.call3_k, ↓D3.kont_app, ↓D3.isN3.eq_1, ↓D3.notN3.eq_1, dIsN_non, dIsN_int, dIsN_bl, dIsN_str, dIsN_tup, dIsN_lst, ↓D3.slc3.eq_1, ↓D3.part3.eq_1, ↓D3.noPart3.eq_1, ↓D3.ilst3.eq_1, ↓D3.itup3.eq_1, ↓D3.irng1.eq_1, ↓D3.irng2.eq_1, ↓D3.for3.eq_1, fCat, fEq_int, fNe_int, fEq_bl, fNe_bl, fEq_pair, fNe_pair, List.map, List.replicate, List.length_cons, List.length_nil, List.set_cons_zero, List.set_cons_succ, List.getElem?_cons_zero, List.getElem?_cons_succ, List.cons_append, List.nil_append, at_0, at_1, at_2, at_3, at_4, at_5, at_6, ix_0, ix_1, ix_2, put_same, put_put, decide_eq_true_eq, Bool.not_eq_true', decide_eq_false_iff_not, ite_not, ite_true, ite_false, if_true, if_false, Bool.false_eq_true, ↓reduceIte, reduceIte, Nat.reduceAdd, Nat.reduceSub, Int.reduceToNat, Nat.reduceLeDiff, not_false_eq_true, true_and, and_true, ne_eq, Int.reduceEq, Nat.zero_add, Bool.not_true, Bool.not_false, reduceCtorEq, nc0, nc1, nc2, nc3, nc4, nc5, fIx_ref put_same, fLen_ref put_same, ↓D3.lc3.eq_1, fInt, fTuple, fList, fNeS_s, fEqS_s, ↓D3.gstar3.eq_1, fInK_s, fNinK_s, fLenS_s, ↓D3.slcT3.eq_1, fCatT_t, ↓D3.app3.eq_1, ↓D3.frz3.eq_1, ↓D3.dc23.eq_1, ↓D3.lcT3.eq_1, ↓D3.litRep3.eq_1, ↓D3.litRepM3.eq_1, ↓D3.rev3.eq_1, ↓D3.dget3.eq_1, ↓D3.disp3.eq_1, ↓D3.ienum3.eq_1, pop3, sset3]))
                  refine ite2 (fun b4 => ?_) (fun b4 => ?_)
                  · (simp [b1, b2, b3, frLt, b4] at q; exact q)
                  · (simp [b1, b2, b3, frLt, b4] at q; exact q)
                · (simp [b1, b2, b3] at q; exact q)
              · (simp [b1, b2] at q; exact q)
            · (simp [b1] at q; exact q)
        · rw [if_neg (show ¬ h = "limit" from h7)] at q
          exact q
      | ref a => exact (hp.1 : False).elim
      | ty a => exact (hp.1 : False).elim
      | _ => ((refine laterP_in ?_; repeat ((first | with_reducible refine laterP_i ?_ | with_reducible refine later_i ?_); try simp -implicitDefEqProofs -dsimp only [↓D3.seq3_stop, ↓D3.ifS3.eq_1, ↓D3.b3.eq_1, ↓D3.op3.eq_1, ↓D3.un3.eq_1, ↓D3.v3.eq_1, ↓D3.c3.eq_1, fIx_tup, fIx_lst, at3_0, at3_1, at3_2, at3_3, at3_4, at3_5, at3_6, start3, fI0_i, fI_i, fLt, fLe, fGt, fGe, fEqI, fNeI, fMin, fMax, ↓D3.asg3.eq_1, ↓D3.name3.eq_1, ↓D3.sub3.eq_1, ↓D3.ret3.eq_1, ↓D3.retN3.eq_1, ↓D3.nx3.eq_1, ↓D3.drop3.eq_1, ↓D3.par3.eq_1, ↓D3.aug3.eq_1, ↓D3.and3.eq_1, ↓D3.or3.eq_1, ↓D3.not3.eq_1, ↓D3.andV3.eq_1, ↓D3.orV3.eq_1, ↓D3.notV3.eq_1, ↓D3.if3.eq_1, ↓D3.nil3.eq_1, ↓D3.cons3.eq_1, ↓D3.tup3.eq_1, ↓D3.lst3.eq_1, ↓D3.lstM3.eq_1, ↓D3.gtup3.eq_1, ↓D3.gcons3.eq_1, ↓D3.gnil3.eq_1, ↓D3.gunl3.eq_1, ↓D3.bits3.eq_1, ↓D3.neg3.eq_1, ↓D3.chain3.eq_1, fIsi_int_int, fIsi_int_bool, fIsi_int_tuple, fIsi_int_str, fIsi_int_list, fIsi_bl_int, fIsi_bl_bool, fIsi_bl_tuple, fIsi_bl_str, fIsi_bl_list, fIsi_non_int, fIsi_non_bool, fIsi_non_tuple, fIsi_non_str, fIsi_non_list, fIsi_str_int, fIsi_str_bool, fIsi_str_tuple, fIsi_str_str, fIsi_str_list, fIsi_tup_int, fIsi_tup_bool, fIsi_tup_tuple, fIsi_tup_str, fIsi_tup_list, fIsi_lst_int, fIsi_lst_bool, fIsi_lst_tuple, fIsi_lst_str, fIsi_lst_list, fLen_lst, fLen_tup, fAbs, ↓D3.call3_k, ↓D3.kont_app, ↓D3.isN3.eq_1, ↓D3.notN3.eq_1, dIsN_non, dIsN_int, dIsN_bl, dIsN_str, dIsN_tup, dIsN_lst, ↓D3.slc3.eq_1, ↓D3.part3.eq_1, ↓D3.noPart3.eq_1, ↓D3.ilst3.eq_1, ↓D3.itup3.eq_1, ↓D3.irng1.eq_1, ↓D3.irng2.eq_1, ↓D3.for3.eq_1, fCat, fEq_int, fNe_int, fEq_bl, fNe_bl, fEq_pair, fNe_pair, List.map, List.replicate, List.length_cons, List.length_nil, List.set_cons_zero, List.set_cons_succ, List.getElem?_cons_zero, List.getElem?_cons_succ, List.cons_append, List.nil_append, at_0, at_1, at_2, at_3, at_4, at_5, at_6, ix_0, ix_1, ix_2, put_same, put_put, decide_eq_true_eq, Bool.not_eq_true', decide_eq_false_iff_not, ite_not, ite_true, ite_false, if_true, if_false, Bool.false_eq_true, ↓reduceIte, reduceIte, Nat.reduceAdd, Nat.reduceSub, Int.reduceToNat, Nat.reduceLeDiff, not_false_eq_true, true_and, and_true, ne_eq, Int.reduceEq, Nat.zero_add, Bool.not_true, Bool.not_false, reduceCtorEq, nc0, nc1, nc2, nc3, nc4, nc5, fIx_ref put_same, fLen_ref put_same, ↓D3.lc3.eq_1, fInt, fTuple, fList, fNeS_s, fEqS_s, ↓D3.gstar3.eq_1, fInK_s, fNinK_s, fLenS_s, ↓D3.slcT3.eq_1, fCatT_t, ↓D3.app3.eq_1, ↓D3.frz3.eq_1, ↓D3.dc23.eq_1, ↓D3.lcT3.eq_1, ↓D3.litRep3.eq_1, ↓D3.litRepM3.eq_1, ↓D3.rev3.eq_1, ↓D3.dget3.eq_1, ↓D3.disp3.eq_1, ↓D3.ienum3.eq_1, pop3, sset3]))); exact q
  | _ => ((refine laterP_in ?_; repeat ((first | with_reducible refine laterP_i ?_ | with_reducible refine later_i ?_); try simp -implicitDefEqProofs -dsimp only [↓D3.seq3_stop, ↓D3.ifS3.eq_1, ↓D3.b3.eq_1, ↓D3.op3.eq_1, ↓D3.un3.eq_1, ↓D3.v3.eq_1, ↓D3.c3.eq_1, fIx_tup, fIx_lst, at3_0, at3_1, at3_2, at3_3, at3_4, at3_5, at3_6, start3, fI0_i, fI_i, fLt, fLe, fGt, fGe, fEqI, fNeI, fMin, fMax, ↓D3.asg3.eq_1, ↓D3.name3.eq_1, ↓D3.sub3.eq_1, ↓D3.ret3.eq_1, ↓D3.retN3.eq_1, ↓D3.nx3.eq_1, ↓D3.drop3.eq_1, ↓D3.par3.eq_1, ↓D3.aug3.eq_1, ↓D3.and3.eq_1, ↓D3.or3.eq_1, ↓D3.not3.eq_1, ↓D3.andV3.eq_1, ↓D3.orV3.eq_1, ↓D3.notV3.eq_1, ↓D3.if3.eq_1, ↓D3.nil3.eq_1, ↓D3.cons3.eq_1, ↓D3.tup3.eq_1, ↓D3.lst3.eq_1, ↓D3.lstM3.eq_1, ↓D3.gtup3.eq_1, ↓D3.gcons3.eq_1, ↓D3.gnil3.eq_1, ↓D3.gunl3.eq_1, ↓D3.bits3.eq_1, ↓D3.neg3.eq_1, ↓D3.chain3.eq_1, fIsi_int_int, fIsi_int_bool, fIsi_int_tuple, fIsi_int_str, fIsi_int_list, fIsi_bl_int, fIsi_bl_bool, fIsi_bl_tuple, fIsi_bl_str, fIsi_bl_list, fIsi_non_int, fIsi_non_bool, fIsi_non_tuple, fIsi_non_str, fIsi_non_list, fIsi_str_int, fIsi_str_bool, fIsi_str_tuple, fIsi_str_str, fIsi_str_list, fIsi_tup_int, fIsi_tup_bool, fIsi_tup_tuple, fIsi_tup_str, fIsi_tup_list, fIsi_lst_int, fIsi_lst_bool, fIsi_lst_tuple, fIsi_lst_str, fIsi_lst_list, fLen_lst, fLen_tup, fAbs, ↓D3.call3_k, ↓D3.kont_app, ↓D3.isN3.eq_1, ↓D3.notN3.eq_1, dIsN_non, dIsN_int, dIsN_bl, dIsN_str, dIsN_tup, dIsN_lst, ↓D3.slc3.eq_1, ↓D3.part3.eq_1, ↓D3.noPart3.eq_1, ↓D3.ilst3.eq_1, ↓D3.itup3.eq_1, ↓D3.irng1.eq_1, ↓D3.irng2.eq_1, ↓D3.for3.eq_1, fCat, fEq_int, fNe_int, fEq_bl, fNe_bl, fEq_pair, fNe_pair, List.map, List.replicate, List.length_cons, List.length_nil, List.set_cons_zero, List.set_cons_succ, List.getElem?_cons_zero, List.getElem?_cons_succ, List.cons_append, List.nil_append, at_0, at_1, at_2, at_3, at_4, at_5, at_6, ix_0, ix_1, ix_2, put_same, put_put, decide_eq_true_eq, Bool.not_eq_true', decide_eq_false_iff_not, ite_not, ite_true, ite_false, if_true, if_false, Bool.false_eq_true, ↓reduceIte, reduceIte, Nat.reduceAdd, Nat.reduceSub, Int.reduceToNat, Nat.reduceLeDiff, not_false_eq_true, true_and, and_true, ne_eq, Int.reduceEq, Nat.zero_add, Bool.not_true, Bool.not_false, reduceCtorEq, nc0, nc1, nc2, nc3, nc4, nc5, fIx_ref put_same, fLen_ref put_same, ↓D3.lc3.eq_1, fInt, fTuple, fList, fNeS_s, fEqS_s, ↓D3.gstar3.eq_1, fInK_s, fNinK_s, fLenS_s, ↓D3.slcT3.eq_1, fCatT_t, ↓D3.app3.eq_1, ↓D3.frz3.eq_1, ↓D3.dc23.eq_1, ↓D3.lcT3.eq_1, ↓D3.litRep3.eq_1, ↓D3.litRepM3.eq_1, ↓D3.rev3.eq_1, ↓D3.dget3.eq_1, ↓D3.disp3.eq_1, ↓D3.ienum3.eq_1, pop3, sset3]))); exact q
/-- names_of: a new list -/
def sp_gmN (N : List Str) : Nat → Sp3
  | 0 => fun _ _ _ => False
  | e + 1 => fun ds m P => ∃ d : D, ds = [d] ∧ Wn N d ∧ Pl 140 d ∧ dp d ≤ e + 1 ∧ e ≤ 20 ∧ ∀ (ys : List Str) (a : Addr), Ris ys → (∀ z, z ∈ ys ↔ Fre d z) → m a = none → P (.ref a) (put m a (.lst (ys.map D.str)))
/-- .. a list that stays -/
def sp_gfN (N : List Str) : Nat → Sp3
  | 0 => fun _ _ _ => False
  | e + 1 => fun ds m P => ∃ d : D, ds = [d] ∧ Wn N d ∧ Pl 140 d ∧ dp d ≤ e + 1 ∧ e ≤ 20 ∧ ∀ ys : List Str, Ris ys → (∀ z, z ∈ ys ↔ Fre d z) → P (.lst (ys.map D.str)) m
theorem gm_gf {N : List Str} {k : Nat} {f : Addr} {g : FuncData} {ps : List Str} : ∀ {e : Nat}, Fn3 P w K mg base k f g ps (sp_gmN N e) → Fn3 P w K mg base k f g ps (sp_gfN N e)
  | 0, F => F
  | e + 1, F => fn_fz F fun ds m Q h => by
    obtain ⟨d, rfl, h1, h2, h3, h4, q⟩ := h
    exact ⟨fun xs => ∃ ys : List Str, xs = ys.map D.str ∧ Ris ys ∧ ∀ z, z ∈ ys ↔ Fre d z, fun xs ⟨ys, e, h5, h6⟩ => by subst e; exact q ys h5 h6, d, rfl, h1, h2, h3, h4, fun ys a h5 h6 h7 => ⟨_, a, ⟨ys, rfl, h5, h6⟩, h7, rfl, rfl⟩⟩
/-- a term: a name; a limit; others -/
theorem wn_cases {N : List Str} {d : D} (w : Wn N d) : (∃ x, d = .tup [.str "name", .str x] ∧ x ∈ N) ∨ (∃ nm a b t, d = .tup [.str "limit", .str nm, a, b, t] ∧ inn d = some [t] ∧ Wn N t) ∨ ∃ h r ps, d = .tup (.str h :: r) ∧ h ≠ "name" ∧ h ≠ "limit" ∧ inn d = some ps ∧ ps.length ≤ 2 ∧ ∀ p ∈ ps, Wn N p := by
  cases w with
  | @mk _ ps hi hn hp =>
    obtain ⟨h, r, rfl, hm, hl⟩ := inn_mem hi
    by_cases e1 : h = "name"
    · subst e1
      have hi2 : inn2 "name" r = some ps := hi
      rw [inn2_name] at hi2
      split at hi2
      · rename_i q
        split at hi2
        · rename_i hq
          cases q with
          | str x => exact .inl ⟨x, rfl, hn x rfl⟩
          | _ => cases hq
        · cases hi2
      · cases hi2
    · by_cases e2 : h = "limit"
      · subst e2
        have hi2 : inn2 "limit" r = some ps := hi
        rw [inn2_limit] at hi2
        split at hi2
        · rename_i n a b t
          split at hi2
          · rename_i hq
            have e3 := Option.some.inj hi2
            subst e3
            rw [Bool.and_eq_true] at hq
            cases n with
            | str nm => exact .inr (.inl ⟨nm, a, b, t, rfl, hi, hp t (by simp)⟩)
            | _ => exact absurd hq.1 (by simp [isNm])
          · cases hi2
        · cases hi2
      · exact .inr (.inr ⟨h, r, ps, rfl, e1, e2, hi, hl, hp⟩)
theorem wn_dp {N : List Str} {d : D} (w : Wn N d) : 1 ≤ dp d := by
  cases w with
  | mk hi _ _ =>
    obtain ⟨k, r, rfl, _, _⟩ := inn_mem hi
    simp only [dp]
    omega
theorem ok_gmS (T : Tx w K mg fa fd) {N : List Str} (hN : N.length ≤ 10) (e : Nat) (ih : Fn3 P w K mg base (e + 4) (fa 7) (fd 7) ["term"] (sp_gfN N e)) : Fn3 P w K mg base (e + 4 + 1) (fa 7) (fd 7) ["term"] (sp_gmN N (e + 1)) := by
  refine fn3 T.d_names_of.F sc_names_of (fun ds m Q h => by obtain ⟨_, rfl, _⟩ := h; rfl) fun cdv A outer s H E ds m Q hr h => ?_
  obtain ⟨d, rfl, hw, hp, hd, he, q⟩ := h
  refine ⟨_, (ss_cons (s_if (t_eqS (e_ix (e_v 0) e_int) e_str) (ss_one (s_ret (e_lstM (a_cons (e_ix (e_v 0) e_int) a_nil)))) ss_nil)
      (ss_cons (s_dc2 (i := 2) (j := 3) (l := 1) rfl sc_names_of.nd (by decide) (i_list (e_call T.d_parts_within (ok_parts_within T) (hr.mono (by omega)) rfl (a_cons (e_v 0) a_nil))) (blkOk_by (own := [("part", 2), ("name", 3)]) (N := ["term", "met", "part", "name"]) (sc := defScope s_names_of) (by decide +kernel)) (fun _ _ _ _ _ => (i_list (e_call T.d_names_of ih (hr.mono (by omega)) rfl (a_cons (e_v 2) a_nil)))) (fun _ _ _ _ _ => (e_v 3)) (fun _ _ _ _ _ => e_bl) (sw_dc rfl rfl rfl (by decide +kernel)))
      (ss_cons (s_if (t_eqS (e_ix (e_v 0) e_int) e_str) (ss_one (s_ret (e_sortedSM rfl T.b_sorted (e_lcKIf (l := 1) (i := 3) rfl sc_names_of.nd (blkOk_by (own := [("name", 3)]) (N := ["term", "met", "part", "name"]) (sc := defScope s_names_of) (by decide +kernel)) (fun _ _ _ _ _ => (t_neS (e_v 3) (e_ix (e_v 0) e_int))) (fun _ _ _ _ _ => (e_v 3)))))) ss_nil)
      (ss_one (s_ret (e_sortedDM rfl T.b_sorted (e_v 1))))))), ?_⟩
  have step : ∀ (ps : List D), inn d = some ps → (∀ p ∈ ps, Wn N p) → ∀ a ∈ ps, ∀ (m' : Mem) (R : DK), (∀ ys : List Str, ys.length ≤ 10 → (∀ z, z ∈ ys ↔ Fre a z) → R (.lst (ys.map D.str)) m') → sp_gfN N e [a] m' R := fun ps hi hps a ha m' R k => by
    have hk := inn_ok hi hp hd a ha
    have h1 := wn_dp (hps a ha)
    obtain ⟨e, rfl⟩ : ∃ k, e = k + 1 := ⟨e - 1, by omega⟩
    exact ⟨a, rfl, hps a ha, hk.1, hk.2, by omega, fun ys hr hz => k ys (Nat.le_trans (nd_len ys N hr.1 fun z hm => Fre.sub (hps a ha) ((hz z).mp hm)) hN) hz⟩
  rcases wn_cases hw with ⟨x, rfl, hx⟩ | ⟨nm, a, b, t, rfl, hi, hwt⟩ | ⟨h, r, ps, rfl, n1, n2, hi, hl, hps⟩
  · (refine laterP_in ?_; repeat ((first | with_reducible refine laterP_i ?_ | with_reducible refine later_i ?_); try simp -implicitDefEqProofs -dsimp only [↓D3.seq3_stop, ↓D3.ifS3.eq_1, ↓D3.b3.eq_1, ↓D3.op3.eq_1, ↓D3.un3.eq_1, ↓D3.v3.eq_1, ↓D3.c3.eq_1, fIx_tup, fIx_lst, at3_0, at3_1, at3_2, at3_3, at3_4, at3_5, at3_6, start3, fI0_i, fI_i, fLt, fLe, fGt, fGe, fEqI, fNeI, fMin, fMax, ↓D3.asg3.eq_1, ↓D3.name3.eq_1, ↓D3.sub3.eq_1, ↓D3.ret3.eq_1, ↓D3.retN3.eq_1, ↓D3.nx3.eq_1, ↓D3.drop3.eq_1, ↓D3.par3.eq_1, ↓D3.aug3.eq_1, ↓D3.and3.eq_1, ↓D3.or3.eq_1, ↓D3.not3.eq_1, ↓D3.andV3.eq_1, ↓D3.orV3.eq_1, ↓D3.notV3.eq_1, ↓D3.if3.eq_1, ↓D3.nil3.eq_1, ↓D3.cons3.eq_1, ↓D3.tup3.eq_1, ↓D3.lst3.eq_1, ↓D3.lstM3.eq_1, ↓D3.gtup3.eq_1, ↓D3.gcons3.eq_1, ↓D3.gnil3.eq_1, ↓D3.gunl3.eq_1, ↓D3.bits3.eq_1, ↓D3.neg3.eq_1, ↓D3.chain3.eq_1, fIsi_int_int, fIsi_int_bool, fIsi_int_tuple, fIsi_int_str, fIsi_int_list, fIsi_bl_int, fIsi_bl_bool, fIsi_bl_tuple, fIsi_bl_str, fIsi_bl_list, fIsi_non_int, fIsi_non_bool, fIsi_non_tuple, fIsi_non_str, fIsi_non_list, fIsi_str_int, fIsi_str_bool, fIsi_str_tuple, fIsi_str_str, fIsi_str_list, fIsi_tup_int, fIsi_tup_bool, fIsi_tup_tuple, fIsi_tup_str, fIsi_tup_list, fIsi_lst_int, fIsi_lst_bool, fIsi_lst_tuple, fIsi_lst_str, fIsi_lst_list, fLen_lst, fLen_tup, fAbs, ↓D3.call3_k, ↓D3.kont_app, ↓D3.isN3.eq_1, ↓D3.notN3.eq_1, dIsN_non, dIsN_int, dIsN_bl, dIsN_str, dIsN_tup, dIsN_lst, ↓D3.slc3.eq_1, ↓D3.part3.eq_1, ↓D3.noPart3.eq_1, ↓D3.ilst3.eq_1, ↓D3.itup3.eq_1, ↓D3.irng1.eq_1, ↓D3.irng2.eq_1, ↓D3.for3.eq_1, fCat, fEq_int, fNe_int, fEq_bl, fNe_bl, fEq_pair, fNe_pair, List.map, List.replicate, List.length_cons, List.length_nil, List.set_cons_zero, List.set_cons_succ, List.getElem?_cons_zero, List.getElem?_cons_succ, List.cons_append, List.nil_append, at_0, at_1, at_2, at_3, at_4, at_5, at_6, ix_0, ix_1, ix_2, put_same, put_put, decide_eq_true_eq, Bool.not_eq_true', decide_eq_false_iff_not, ite_not, ite_true, ite_false, if_true, if_false, Bool.false_eq_true, ↓reduceIte, reduceIte, Nat.reduceAdd, Nat.reduceSub, Int.reduceToNat, Nat.reduceLeDiff, not_false_eq_true, true_and, and_true, ne_eq, Int.reduceEq, Nat.zero_add, Bool.not_true, Bool.not_false, reduceCtorEq, nc0, nc1, nc2, nc3, nc4, nc5, fIx_ref put_same, fLen_ref put_same, ↓D3.lc3.eq_1, fInt, fTuple, fList, fNeS_s, fEqS_s, ↓D3.gstar3.eq_1, fInK_s, fNinK_s, fLenS_s, ↓D3.slcT3.eq_1, fCatT_t, ↓D3.app3.eq_1, ↓D3.frz3.eq_1, ↓D3.dc23.eq_1, ↓D3.lcT3.eq_1, ↓D3.litRep3.eq_1, ↓D3.litRepM3.eq_1, ↓D3.rev3.eq_1, ↓D3.dget3.eq_1, ↓D3.disp3.eq_1, ↓D3.ienum3.eq_1, pop3, sset3]))
    intro p hp'
    refine q [x] p ⟨by simp, rfl⟩ (fun z => ?_) hp'
    constructor
    · intro hz; simp at hz; subst hz; exact .name
    · intro hz
      cases hz with
      | name => simp
      | part _ h _ _ _ => exact absurd rfl h
  · have hst := step _ hi (fun p hp => by simp at hp; subst hp; exact hwt)
    (refine laterP_in ?_; repeat ((first | with_reducible refine laterP_i ?_ | with_reducible refine later_i ?_); try simp -implicitDefEqProofs -dsimp only [↓D3.seq3_stop, ↓D3.ifS3.eq_1, ↓D3.b3.eq_1, ↓D3.op3.eq_1, ↓D3.un3.eq_1, ↓D3.v3.eq_1, ↓D3.c3.eq_1, fIx_tup, fIx_lst, at3_0, at3_1, at3_2, at3_3, at3_4, at3_5, at3_6, start3, fI0_i, fI_i, fLt, fLe, fGt, fGe, fEqI, fNeI, fMin, fMax, ↓D3.asg3.eq_1, ↓D3.name3.eq_1, ↓D3.sub3.eq_1, ↓D3.ret3.eq_1, ↓D3.retN3.eq_1, ↓D3.nx3.eq_1, ↓D3.drop3.eq_1, ↓D3.par3.eq_1, ↓D3.aug3.eq_1, ↓D3.and3.eq_1, ↓D3.or3.eq_1, ↓D3.not3.eq_1, ↓D3.andV3.eq_1, ↓D3.orV3.eq_1, ↓D3.notV3.eq_1, ↓D3.if3.eq_1, ↓D3.nil3.eq_1, ↓D3.cons3.eq_1, ↓D3.tup3.eq_1, ↓D3.lst3.eq_1, ↓D3.lstM3.eq_1, ↓D3.gtup3.eq_1, ↓D3.gcons3.eq_1, ↓D3.gnil3.eq_1, ↓D3.gunl3.eq_1, ↓D3.bits3.eq_1, ↓D3.neg3.eq_1, ↓D3.chain3.eq_1, fIsi_int_int, fIsi_int_bool, fIsi_int_tuple, fIsi_int_str, fIsi_int_list, fIsi_bl_int, fIsi_bl_bool, fIsi_bl_tuple, fIsi_bl_str, fIsi_bl_list, fIsi_non_int, fIsi_non_bool, fIsi_non_tuple, fIsi_non_str, fIsi_non_list, fIsi_str_int, fIsi_str_bool, fIsi_str_tuple, fIsi_str_str, fIsi_str_list, fIsi_tup_int, fIsi_tup_bool, fIsi_tup_tuple, fIsi_tup_str, fIsi_tup_list, fIsi_lst_int, fIsi_lst_bool, fIsi_lst_tuple, fIsi_lst_str, fIsi_lst_list, fLen_lst, fLen_tup, fAbs, ↓D3.call3_k, ↓D3.kont_app, ↓D3.isN3.eq_1, ↓D3.notN3.eq_1, dIsN_non, dIsN_int, dIsN_bl, dIsN_str, dIsN_tup, dIsN_lst, ↓D3.slc3.eq_1, ↓D3.part3.eq_1, ↓D3.noPart3.eq_1, ↓D3.ilst3.eq_1, ↓D3.itup3.eq_1, ↓D3.irng1.eq_1, ↓D3.irng2.eq_1, ↓D3.for3.eq_1, fCat, fEq_int, fNe_int, fEq_bl, fNe_bl, fEq_pair, fNe_pair, List.map, List.replicate, List.length_cons, List.length_nil, List.set_cons_zero, List.set_cons_succ, List.getElem?_cons_zero, List.getElem?_cons_succ, List.cons_append, List.nil_append, at_0, at_1, at_2, at_3, at_4, at_5, at_6, ix_0, ix_1, ix_2, put_same, put_put, decide_eq_true_eq, Bool.not_eq_true', decide_eq_false_iff_not, ite_not, ite_true, ite_false, if_true, if_false, Bool.false_eq_true, ↓reduceIte, reduceIte, Nat.reduceAdd, Nat.reduceSub, Int.reduceToNat, Nat.reduceLeDiff, not_false_eq_true, true_and, and_true, ne_eq, Int.reduceEq, Nat.zero_add, Bool.not_true, Bool.not_false, reduceCtorEq, nc0, nc1, nc2, nc3, nc4, nc5, fIx_ref put_same, fLen_ref put_same, ↓D3.lc3.eq_1, fInt, fTuple, fList, fNeS_s, fEqS_s, ↓D3.gstar3.eq_1, fInK_s, fNinK_s, fLenS_s, ↓D3.slcT3.eq_1, fCatT_t, ↓D3.app3.eq_1, ↓D3.frz3.eq_1, ↓D3.dc23.eq_1, ↓D3.lcT3.eq_1, ↓D3.litRep3.eq_1, ↓D3.litRepM3.eq_1, ↓D3.rev3.eq_1, ↓D3.dget3.eq_1, ↓D3.disp3.eq_1, ↓D3.ienum3.eq_1, pop3, sset3]))
    refine ite2 (fun z => absurd z (by decide)) (fun _ => ?_)
    (refine laterP_in ?_; repeat ((first | with_reducible refine laterP_i ?_ | with_reducible refine later_i ?_); try simp -implicitDefEqProofs -dsimp only [↓D3.seq3_stop, ↓D3.ifS3.eq_1, ↓D3.b3.eq_1, ↓D3.op3.eq_1, ↓D3.un3.eq_1, ↓D3.v3.eq_1, ↓D3.c3.eq_1, fIx_tup, fIx_lst, at3_0, at3_1, at3_2, at3_3, at3_4, at3_5, at3_6, start3, fI0_i, fI_i, fLt, fLe, fGt, fGe, fEqI, fNeI, fMin, fMax, ↓D3.asg3.eq_1, ↓D3.name3.eq_1, ↓D3.sub3.eq_1, ↓D3.ret3.eq_1, ↓D3.retN3.eq_1, ↓D3.nx3.eq_1, ↓D3.drop3.eq_1, ↓D3.par3.eq_1, ↓D3.aug3.eq_1, ↓D3.and3.eq_1, ↓D3.or3.eq_1, ↓D3.not3.eq_1, ↓D3.andV3.eq_1, ↓D3.orV3.eq_1, ↓D3.notV3.eq_1, ↓D3.if3.eq_1, ↓D3.nil3.eq_1, ↓D3.cons3.eq_1, ↓D3.tup3.eq_1, ↓D3.lst3.eq_1, ↓D3.lstM3.eq_1, ↓D3.gtup3.eq_1, ↓D3.gcons3.eq_1, ↓D3.gnil3.eq_1, ↓D3.gunl3.eq_1, ↓D3.bits3.eq_1, ↓D3.neg3.eq_1, ↓D3.chain3.eq_1, fIsi_int_int, fIsi_int_bool, fIsi_int_tuple, fIsi_int_str, fIsi_int_list, fIsi_bl_int, fIsi_bl_bool, fIsi_bl_tuple, fIsi_bl_str, fIsi_bl_list, fIsi_non_int, fIsi_non_bool, fIsi_non_tuple, fIsi_non_str, fIsi_non_list, fIsi_str_int, fIsi_str_bool, fIsi_str_tuple, fIsi_str_str, fIsi_str_list, fIsi_tup_int, fIsi_tup_bool, fIsi_tup_tuple, fIsi_tup_str, fIsi_tup_list, fIsi_lst_int, fIsi_lst_bool, fIsi_lst_tuple, fIsi_lst_str, fIsi_lst_list, fLen_lst, fLen_tup, fAbs, ↓D3.call3_k, ↓D3.kont_app, ↓D3.isN3.eq_1, ↓D3.notN3.eq_1, dIsN_non, dIsN_int, dIsN_bl, dIsN_str, dIsN_tup, dIsN_lst, ↓D3.slc3.eq_1, ↓D3.part3.eq_1, ↓D3.noPart3.eq_1, ↓D3.ilst3.eq_1, ↓D3.itup3.eq_1, ↓D3.irng1.eq_1, ↓D3.irng2.eq_1, ↓D3.for3.eq_1, fCat, fEq_int, fNe_int, fEq_bl, fNe_bl, fEq_pair, fNe_pair, List.map, List.replicate, List.length_cons, List.length_nil, List.set_cons_zero, List.set_cons_succ, List.getElem?_cons_zero, List.getElem?_cons_succ, List.cons_append, List.nil_append, at_0, at_1, at_2, at_3, at_4, at_5, at_6, ix_0, ix_1, ix_2, put_same, put_put, decide_eq_true_eq, Bool.not_eq_true', decide_eq_false_iff_not, ite_not, ite_true, ite_false, if_true, if_false, Bool.false_eq_true, ↓reduceIte, reduceIte, Nat.reduceAdd, Nat.reduceSub, Int.reduceToNat, Nat.reduceLeDiff, not_false_eq_true, true_and, and_true, ne_eq, Int.reduceEq, Nat.zero_add, Bool.not_true, Bool.not_false, reduceCtorEq, nc0, nc1, nc2, nc3, nc4, nc5, fIx_ref put_same, fLen_ref put_same, ↓D3.lc3.eq_1, fInt, fTuple, fList, fNeS_s, fEqS_s, ↓D3.gstar3.eq_1, fInK_s, fNinK_s, fLenS_s, ↓D3.slcT3.eq_1, fCatT_t, ↓D3.app3.eq_1, ↓D3.frz3.eq_1, ↓D3.dc23.eq_1, ↓D3.lcT3.eq_1, ↓D3.litRep3.eq_1, ↓D3.litRepM3.eq_1, ↓D3.rev3.eq_1, ↓D3.dget3.eq_1, ↓D3.disp3.eq_1, ↓D3.ienum3.eq_1, pop3, sset3]))
    refine ⟨_, rfl, Pl.le (by decide) _ hp, by omega, ?_⟩
    rw [hi]
    (refine laterP_in ?_; repeat ((first | with_reducible refine laterP_i ?_ | with_reducible refine later_i ?_); try simp -implicitDefEqProofs -dsimp only [↓D3.seq3_stop, ↓D3.ifS3.eq_1, ↓D3.b3.eq_1, ↓D3.op3.eq_1, ↓D3.un3.eq_1, ↓D3.v3.eq_1, ↓D3.c3.eq_1, fIx_tup, fIx_lst, at3_0, at3_1, at3_2, at3_3, at3_4, at3_5, at3_6, start3, fI0_i, fI_i, fLt, fLe, fGt, fGe, fEqI, fNeI, fMin, fMax, ↓D3.asg3.eq_1, ↓D3.name3.eq_1, ↓D3.sub3.eq_1, ↓D3.ret3.eq_1, ↓D3.retN3.eq_1, ↓D3.nx3.eq_1, ↓D3.drop3.eq_1, ↓D3.par3.eq_1, ↓D3.aug3.eq_1, ↓D3.and3.eq_1, ↓D3.or3.eq_1, ↓D3.not3.eq_1, ↓D3.andV3.eq_1, ↓D3.orV3.eq_1, ↓D3.notV3.eq_1, ↓D3.if3.eq_1, ↓D3.nil3.eq_1, ↓D3.cons3.eq_1, ↓D3.tup3.eq_1, ↓D3.lst3.eq_1, ↓D3.lstM3.eq_1, ↓D3.gtup3.eq_1, ↓D3.gcons3.eq_1, ↓D3.gnil3.eq_1, ↓D3.gunl3.eq_1, ↓D3.bits3.eq_1, ↓D3.neg3.eq_1, ↓D3.chain3.eq_1, fIsi_int_int, fIsi_int_bool, fIsi_int_tuple, fIsi_int_str, fIsi_int_list, fIsi_bl_int, fIsi_bl_bool, fIsi_bl_tuple, fIsi_bl_str, fIsi_bl_list, fIsi_non_int, fIsi_non_bool, fIsi_non_tuple, fIsi_non_str, fIsi_non_list, fIsi_str_int, fIsi_str_bool, fIsi_str_tuple, fIsi_str_str, fIsi_str_list, fIsi_tup_int, fIsi_tup_bool, fIsi_tup_tuple, fIsi_tup_str, fIsi_tup_list, fIsi_lst_int, fIsi_lst_bool, fIsi_lst_tuple, fIsi_lst_str, fIsi_lst_list, fLen_lst, fLen_tup, fAbs, ↓D3.call3_k, ↓D3.kont_app, ↓D3.isN3.eq_1, ↓D3.notN3.eq_1, dIsN_non, dIsN_int, dIsN_bl, dIsN_str, dIsN_tup, dIsN_lst, ↓D3.slc3.eq_1, ↓D3.part3.eq_1, ↓D3.noPart3.eq_1, ↓D3.ilst3.eq_1, ↓D3.itup3.eq_1, ↓D3.irng1.eq_1, ↓D3.irng2.eq_1, ↓D3.for3.eq_1, fCat, fEq_int, fNe_int, fEq_bl, fNe_bl, fEq_pair, fNe_pair, List.map, List.replicate, List.length_cons, List.length_nil, List.set_cons_zero, List.set_cons_succ, List.getElem?_cons_zero, List.getElem?_cons_succ, List.cons_append, List.nil_append, at_0, at_1, at_2, at_3, at_4, at_5, at_6, ix_0, ix_1, ix_2, put_same, put_put, decide_eq_true_eq, Bool.not_eq_true', decide_eq_false_iff_not, ite_not, ite_true, ite_false, if_true, if_false, Bool.false_eq_true, ↓reduceIte, reduceIte, Nat.reduceAdd, Nat.reduceSub, Int.reduceToNat, Nat.reduceLeDiff, not_false_eq_true, true_and, and_true, ne_eq, Int.reduceEq, Nat.zero_add, Bool.not_true, Bool.not_false, reduceCtorEq, nc0, nc1, nc2, nc3, nc4, nc5, fIx_ref put_same, fLen_ref put_same, ↓D3.lc3.eq_1, fInt, fTuple, fList, fNeS_s, fEqS_s, ↓D3.gstar3.eq_1, fInK_s, fNinK_s, fLenS_s, ↓D3.slcT3.eq_1, fCatT_t, ↓D3.app3.eq_1, ↓D3.frz3.eq_1, ↓D3.dc23.eq_1, ↓D3.lcT3.eq_1, ↓D3.litRep3.eq_1, ↓D3.litRepM3.eq_1, ↓D3.rev3.eq_1, ↓D3.dget3.eq_1, ↓D3.disp3.eq_1, ↓D3.ienum3.eq_1, pop3, sset3, oD]))
    intro d hd'
    refine dcOut_str id (F := fun a z => Fre a z) (B := 10) (by simp) [t] [] _ put_same List.nodup_nil (by simp) (fun a ha m' R ho k => ?_) fun us hn hlen hus => ?_
    · (refine laterP_in ?_; repeat ((first | with_reducible refine laterP_i ?_ | with_reducible refine later_i ?_); try simp -implicitDefEqProofs -dsimp only [↓D3.seq3_stop, ↓D3.ifS3.eq_1, ↓D3.b3.eq_1, ↓D3.op3.eq_1, ↓D3.un3.eq_1, ↓D3.v3.eq_1, ↓D3.c3.eq_1, fIx_tup, fIx_lst, at3_0, at3_1, at3_2, at3_3, at3_4, at3_5, at3_6, start3, fI0_i, fI_i, fLt, fLe, fGt, fGe, fEqI, fNeI, fMin, fMax, ↓D3.asg3.eq_1, ↓D3.name3.eq_1, ↓D3.sub3.eq_1, ↓D3.ret3.eq_1, ↓D3.retN3.eq_1, ↓D3.nx3.eq_1, ↓D3.drop3.eq_1, ↓D3.par3.eq_1, ↓D3.aug3.eq_1, ↓D3.and3.eq_1, ↓D3.or3.eq_1, ↓D3.not3.eq_1, ↓D3.andV3.eq_1, ↓D3.orV3.eq_1, ↓D3.notV3.eq_1, ↓D3.if3.eq_1, ↓D3.nil3.eq_1, ↓D3.cons3.eq_1, ↓D3.tup3.eq_1, ↓D3.lst3.eq_1, ↓D3.lstM3.eq_1, ↓D3.gtup3.eq_1, ↓D3.gcons3.eq_1, ↓D3.gnil3.eq_1, ↓D3.gunl3.eq_1, ↓D3.bits3.eq_1, ↓D3.neg3.eq_1, ↓D3.chain3.eq_1, fIsi_int_int, fIsi_int_bool, fIsi_int_tuple, fIsi_int_str, fIsi_int_list, fIsi_bl_int, fIsi_bl_bool, fIsi_bl_tuple, fIsi_bl_str, fIsi_bl_list, fIsi_non_int, fIsi_non_bool, fIsi_non_tuple, fIsi_non_str, fIsi_non_list, fIsi_str_int, fIsi_str_bool, fIsi_str_tuple, fIsi_str_str, fIsi_str_list, fIsi_tup_int, fIsi_tup_bool, fIsi_tup_tuple, fIsi_tup_str, fIsi_tup_list, fIsi_lst_int, fIsi_lst_bool, fIsi_lst_tuple, fIsi_lst_str, fIsi_lst_list, fLen_lst, fLen_tup, fAbs, ↓D3.call3_k, ↓D3.kont_app, ↓D3.isN3.eq_1, ↓D3.notN3.eq_1, dIsN_non, dIsN_int, dIsN_bl, dIsN_str, dIsN_tup, dIsN_lst, ↓D3.slc3.eq_1, ↓D3.part3.eq_1, ↓D3.noPart3.eq_1, ↓D3.ilst3.eq_1, ↓D3.itup3.eq_1, ↓D3.irng1.eq_1, ↓D3.irng2.eq_1, ↓D3.for3.eq_1, fCat, fEq_int, fNe_int, fEq_bl, fNe_bl, fEq_pair, fNe_pair, List.map, List.replicate, List.length_cons, List.length_nil, List.set_cons_zero, List.set_cons_succ, List.getElem?_cons_zero, List.getElem?_cons_succ, List.cons_append, List.nil_append, at_0, at_1, at_2, at_3, at_4, at_5, at_6, ix_0, ix_1, ix_2, put_same, put_put, decide_eq_true_eq, Bool.not_eq_true', decide_eq_false_iff_not, ite_not, ite_true, ite_false, if_true, if_false, Bool.false_eq_true, ↓reduceIte, reduceIte, Nat.reduceAdd, Nat.reduceSub, Int.reduceToNat, Nat.reduceLeDiff, not_false_eq_true, true_and, and_true, ne_eq, Int.reduceEq, Nat.zero_add, Bool.not_true, Bool.not_false, reduceCtorEq, nc0, nc1, nc2, nc3, nc4, nc5, fIx_ref put_same, fLen_ref put_same, ↓D3.lc3.eq_1, fInt, fTuple, fList, fNeS_s, fEqS_s, ↓D3.gstar3.eq_1, fInK_s, fNinK_s, fLenS_s, ↓D3.slcT3.eq_1, fCatT_t, ↓D3.app3.eq_1, ↓D3.frz3.eq_1, ↓D3.dc23.eq_1, ↓D3.lcT3.eq_1, ↓D3.litRep3.eq_1, ↓D3.litRepM3.eq_1, ↓D3.rev3.eq_1, ↓D3.dget3.eq_1, ↓D3.disp3.eq_1, ↓D3.ienum3.eq_1, pop3, sset3, id]))
      refine hst a ha m' _ fun ys h1 h2 => ?_
      (refine laterP_in ?_; repeat ((first | with_reducible refine laterP_i ?_ | with_reducible refine later_i ?_); try simp -implicitDefEqProofs -dsimp only [↓D3.seq3_stop, ↓D3.ifS3.eq_1, ↓D3.b3.eq_1, ↓D3.op3.eq_1, ↓D3.un3.eq_1, ↓D3.v3.eq_1, ↓D3.c3.eq_1, fIx_tup, fIx_lst, at3_0, at3_1, at3_2, at3_3, at3_4, at3_5, at3_6, start3, fI0_i, fI_i, fLt, fLe, fGt, fGe, fEqI, fNeI, fMin, fMax, ↓D3.asg3.eq_1, ↓D3.name3.eq_1, ↓D3.sub3.eq_1, ↓D3.ret3.eq_1, ↓D3.retN3.eq_1, ↓D3.nx3.eq_1, ↓D3.drop3.eq_1, ↓D3.par3.eq_1, ↓D3.aug3.eq_1, ↓D3.and3.eq_1, ↓D3.or3.eq_1, ↓D3.not3.eq_1, ↓D3.andV3.eq_1, ↓D3.orV3.eq_1, ↓D3.notV3.eq_1, ↓D3.if3.eq_1, ↓D3.nil3.eq_1, ↓D3.cons3.eq_1, ↓D3.tup3.eq_1, ↓D3.lst3.eq_1, ↓D3.lstM3.eq_1, ↓D3.gtup3.eq_1, ↓D3.gcons3.eq_1, ↓D3.gnil3.eq_1, ↓D3.gunl3.eq_1, ↓D3.bits3.eq_1, ↓D3.neg3.eq_1, ↓D3.chain3.eq_1, fIsi_int_int, fIsi_int_bool, fIsi_int_tuple, fIsi_int_str, fIsi_int_list, fIsi_bl_int, fIsi_bl_bool, fIsi_bl_tuple, fIsi_bl_str, fIsi_bl_list, fIsi_non_int, fIsi_non_bool, fIsi_non_tuple, fIsi_non_str, fIsi_non_list, fIsi_str_int, fIsi_str_bool, fIsi_str_tuple, fIsi_str_str, fIsi_str_list, fIsi_tup_int, fIsi_tup_bool, fIsi_tup_tuple, fIsi_tup_str, fIsi_tup_list, fIsi_lst_int, fIsi_lst_bool, fIsi_lst_tuple, fIsi_lst_str, fIsi_lst_list, fLen_lst, fLen_tup, fAbs, ↓D3.call3_k, ↓D3.kont_app, ↓D3.isN3.eq_1, ↓D3.notN3.eq_1, dIsN_non, dIsN_int, dIsN_bl, dIsN_str, dIsN_tup, dIsN_lst, ↓D3.slc3.eq_1, ↓D3.part3.eq_1, ↓D3.noPart3.eq_1, ↓D3.ilst3.eq_1, ↓D3.itup3.eq_1, ↓D3.irng1.eq_1, ↓D3.irng2.eq_1, ↓D3.for3.eq_1, fCat, fEq_int, fNe_int, fEq_bl, fNe_bl, fEq_pair, fNe_pair, List.map, List.replicate, List.length_cons, List.length_nil, List.set_cons_zero, List.set_cons_succ, List.getElem?_cons_zero, List.getElem?_cons_succ, List.cons_append, List.nil_append, at_0, at_1, at_2, at_3, at_4, at_5, at_6, ix_0, ix_1, ix_2, put_same, put_put, decide_eq_true_eq, Bool.not_eq_true', decide_eq_false_iff_not, ite_not, ite_true, ite_false, if_true, if_false, Bool.false_eq_true, ↓reduceIte, reduceIte, Nat.reduceAdd, Nat.reduceSub, Int.reduceToNat, Nat.reduceLeDiff, not_false_eq_true, true_and, and_true, ne_eq, Int.reduceEq, Nat.zero_add, Bool.not_true, Bool.not_false, reduceCtorEq, nc0, nc1, nc2, nc3, nc4, nc5, fIx_ref put_same, fLen_ref put_same, ↓D3.lc3.eq_1, fInt, fTuple, fList, fNeS_s, fEqS_s, ↓D3.gstar3.eq_1, fInK_s, fNinK_s, fLenS_s, ↓D3.slcT3.eq_1, fCatT_t, ↓D3.app3.eq_1, ↓D3.frz3.eq_1, ↓D3.dc23.eq_1, ↓D3.lcT3.eq_1, ↓D3.litRep3.eq_1, ↓D3.litRepM3.eq_1, ↓D3.rev3.eq_1, ↓D3.dget3.eq_1, ↓D3.disp3.eq_1, ↓D3.ienum3.eq_1, pop3, sset3]))
      exact k ys h1 h2
    · have hu : ∀ z, z ∈ us ↔ Fre t z := fun z => by rw [hus]; simp
      (refine laterP_in ?_; repeat ((first | with_reducible refine laterP_i ?_ | with_reducible refine later_i ?_); try simp -implicitDefEqProofs -dsimp only [↓D3.seq3_stop, ↓D3.ifS3.eq_1, ↓D3.b3.eq_1, ↓D3.op3.eq_1, ↓D3.un3.eq_1, ↓D3.v3.eq_1, ↓D3.c3.eq_1, fIx_tup, fIx_lst, at3_0, at3_1, at3_2, at3_3, at3_4, at3_5, at3_6, start3, fI0_i, fI_i, fLt, fLe, fGt, fGe, fEqI, fNeI, fMin, fMax, ↓D3.asg3.eq_1, ↓D3.name3.eq_1, ↓D3.sub3.eq_1, ↓D3.ret3.eq_1, ↓D3.retN3.eq_1, ↓D3.nx3.eq_1, ↓D3.drop3.eq_1, ↓D3.par3.eq_1, ↓D3.aug3.eq_1, ↓D3.and3.eq_1, ↓D3.or3.eq_1, ↓D3.not3.eq_1, ↓D3.andV3.eq_1, ↓D3.orV3.eq_1, ↓D3.notV3.eq_1, ↓D3.if3.eq_1, ↓D3.nil3.eq_1, ↓D3.cons3.eq_1, ↓D3.tup3.eq_1, ↓D3.lst3.eq_1, ↓D3.lstM3.eq_1, ↓D3.gtup3.eq_1, ↓D3.gcons3.eq_1, ↓D3.gnil3.eq_1, ↓D3.gunl3.eq_1, ↓D3.bits3.eq_1, ↓D3.neg3.eq_1, ↓D3.chain3.eq_1, fIsi_int_int, fIsi_int_bool, fIsi_int_tuple, fIsi_int_str, fIsi_int_list, fIsi_bl_int, fIsi_bl_bool, fIsi_bl_tuple, fIsi_bl_str, fIsi_bl_list, fIsi_non_int, fIsi_non_bool, fIsi_non_tuple, fIsi_non_str, fIsi_non_list, fIsi_str_int, fIsi_str_bool, fIsi_str_tuple, fIsi_str_str, fIsi_str_list, fIsi_tup_int, fIsi_tup_bool, fIsi_tup_tuple, fIsi_tup_str, fIsi_tup_list, fIsi_lst_int, fIsi_lst_bool, fIsi_lst_tuple, fIsi_lst_str, fIsi_lst_list, fLen_lst, fLen_tup, fAbs, ↓D3.call3_k, ↓D3.kont_app, ↓D3.isN3.eq_1, ↓D3.notN3.eq_1, dIsN_non, dIsN_int, dIsN_bl, dIsN_str, dIsN_tup, dIsN_lst, ↓D3.slc3.eq_1, ↓D3.part3.eq_1, ↓D3.noPart3.eq_1, ↓D3.ilst3.eq_1, ↓D3.itup3.eq_1, ↓D3.irng1.eq_1, ↓D3.irng2.eq_1, ↓D3.for3.eq_1, fCat, fEq_int, fNe_int, fEq_bl, fNe_bl, fEq_pair, fNe_pair, List.map, List.replicate, List.length_cons, List.length_nil, List.set_cons_zero, List.set_cons_succ, List.getElem?_cons_zero, List.getElem?_cons_succ, List.cons_append, List.nil_append, at_0, at_1, at_2, at_3, at_4, at_5, at_6, ix_0, ix_1, ix_2, put_same, put_put, decide_eq_true_eq, Bool.not_eq_true', decide_eq_false_iff_not, ite_not, ite_true, ite_false, if_true, if_false, Bool.false_eq_true, ↓reduceIte, reduceIte, Nat.reduceAdd, Nat.reduceSub, Int.reduceToNat, Nat.reduceLeDiff, not_false_eq_true, true_and, and_true, ne_eq, Int.reduceEq, Nat.zero_add, Bool.not_true, Bool.not_false, reduceCtorEq, nc0, nc1, nc2, nc3, nc4, nc5, fIx_ref put_same, fLen_ref put_same, ↓D3.lc3.eq_1, fInt, fTuple, fList, fNeS_s, fEqS_s, ↓D3.gstar3.eq_1, fInK_s, fNinK_s, fLenS_s, ↓D3.slcT3.eq_1, fCatT_t, ↓D3.app3.eq_1, ↓D3.frz3.eq_1, ↓D3.dc23.eq_1, ↓D3.lcT3.eq_1, ↓D3.litRep3.eq_1, ↓D3.litRepM3.eq_1, ↓D3.rev3.eq_1, ↓D3.dget3.eq_1, ↓D3.disp3.eq_1, ↓D3.ienum3.eq_1, pop3, sset3]))
      refine ⟨d, us, rfl, put_same, fun L hL => ?_⟩
      rw [del_put, del_none hd'] at hL ⊢
      simp only [List.length_nil, List.length_cons, Nat.zero_add] at hlen
      refine lcGo_fil (fun x => match x with | .str z => !decide (z = nm) | _ => false) (us.map D.str) [] _ put_same (by simp; omega) (fun x hx m' Kt hk => ?_) (fun x hx m' Kt hk => ?_) ?_
      · obtain ⟨z, hz, rfl⟩ := List.mem_map.mp hx
        (refine laterP_in ?_; repeat ((first | with_reducible refine laterP_i ?_ | with_reducible refine later_i ?_); try simp -implicitDefEqProofs -dsimp only [↓D3.seq3_stop, ↓D3.ifS3.eq_1, ↓D3.b3.eq_1, ↓D3.op3.eq_1, ↓D3.un3.eq_1, ↓D3.v3.eq_1, ↓D3.c3.eq_1, fIx_tup, fIx_lst, at3_0, at3_1, at3_2, at3_3, at3_4, at3_5, at3_6, start3, fI0_i, fI_i, fLt, fLe, fGt, fGe, fEqI, fNeI, fMin, fMax, ↓D3.asg3.eq_1, ↓D3.name3.eq_1, ↓D3.sub3.eq_1, ↓D3.ret3.eq_1, ↓D3.retN3.eq_1, ↓D3.nx3.eq_1, ↓D3.drop3.eq_1, ↓D3.par3.eq_1, ↓D3.aug3.eq_1, ↓D3.and3.eq_1, ↓D3.or3.eq_1, ↓D3.not3.eq_1, ↓D3.andV3.eq_1, ↓D3.orV3.eq_1, ↓D3.notV3.eq_1, ↓D3.if3.eq_1, ↓D3.nil3.eq_1, ↓D3.cons3.eq_1, ↓D3.tup3.eq_1, ↓D3.lst3.eq_1, ↓D3.lstM3.eq_1, ↓D3.gtup3.eq_1, ↓D3.gcons3.eq_1, ↓D3.gnil3.eq_1, ↓D3.gunl3.eq_1, ↓D3.bits3.eq_1, ↓D3.neg3.eq_1, ↓D3.chain3.eq_1, fIsi_int_int, fIsi_int_bool, fIsi_int_tuple, fIsi_int_str, fIsi_int_list, fIsi_bl_int, fIsi_bl_bool, fIsi_bl_tuple, fIsi_bl_str, fIsi_bl_list, fIsi_non_int, fIsi_non_bool, fIsi_non_tuple, fIsi_non_str, fIsi_non_list, fIsi_str_int, fIsi_str_bool, fIsi_str_tuple, fIsi_str_str, fIsi_str_list, fIsi_tup_int, fIsi_tup_bool, fIsi_tup_tuple, fIsi_tup_str, fIsi_tup_list, fIsi_lst_int, fIsi_lst_bool, fIsi_lst_tuple, fIsi_lst_str, fIsi_lst_list, fLen_lst, fLen_tup, fAbs, ↓D3.call3_k, ↓D3.kont_app, ↓D3.isN3.eq_1, ↓D3.notN3.eq_1, dIsN_non, dIsN_int, dIsN_bl, dIsN_str, dIsN_tup, dIsN_lst, ↓D3.slc3.eq_1, ↓D3.part3.eq_1, ↓D3.noPart3.eq_1, ↓D3.ilst3.eq_1, ↓D3.itup3.eq_1, ↓D3.irng1.eq_1, ↓D3.irng2.eq_1, ↓D3.for3.eq_1, fCat, fEq_int, fNe_int, fEq_bl, fNe_bl, fEq_pair, fNe_pair, List.map, List.replicate, List.length_cons, List.length_nil, List.set_cons_zero, List.set_cons_succ, List.getElem?_cons_zero, List.getElem?_cons_succ, List.cons_append, List.nil_append, at_0, at_1, at_2, at_3, at_4, at_5, at_6, ix_0, ix_1, ix_2, put_same, put_put, decide_eq_true_eq, Bool.not_eq_true', decide_eq_false_iff_not, ite_not, ite_true, ite_false, if_true, if_false, Bool.false_eq_true, ↓reduceIte, reduceIte, Nat.reduceAdd, Nat.reduceSub, Int.reduceToNat, Nat.reduceLeDiff, not_false_eq_true, true_and, and_true, ne_eq, Int.reduceEq, Nat.zero_add, Bool.not_true, Bool.not_false, reduceCtorEq, nc0, nc1, nc2, nc3, nc4, nc5, fIx_ref put_same, fLen_ref put_same, ↓D3.lc3.eq_1, fInt, fTuple, fList, fNeS_s, fEqS_s, ↓D3.gstar3.eq_1, fInK_s, fNinK_s, fLenS_s, ↓D3.slcT3.eq_1, fCatT_t, ↓D3.app3.eq_1, ↓D3.frz3.eq_1, ↓D3.dc23.eq_1, ↓D3.lcT3.eq_1, ↓D3.litRep3.eq_1, ↓D3.litRepM3.eq_1, ↓D3.rev3.eq_1, ↓D3.dget3.eq_1, ↓D3.disp3.eq_1, ↓D3.ienum3.eq_1, pop3, sset3]))
        exact hk
      · obtain ⟨z, hz, rfl⟩ := List.mem_map.mp hx
        (refine laterP_in ?_; repeat ((first | with_reducible refine laterP_i ?_ | with_reducible refine later_i ?_); try simp -implicitDefEqProofs -dsimp only [↓D3.seq3_stop, ↓D3.ifS3.eq_1, ↓D3.b3.eq_1, ↓D3.op3.eq_1, ↓D3.un3.eq_1, ↓D3.v3.eq_1, ↓D3.c3.eq_1, fIx_tup, fIx_lst, at3_0, at3_1, at3_2, at3_3, at3_4, at3_5, at3_6, start3, fI0_i, fI_i, fLt, fLe, fGt, fGe, fEqI, fNeI, fMin, fMax, ↓D3.asg3.eq_1, ↓D3.name3.eq_1, ↓D3.sub3.eq_1, ↓D3.ret3.eq_1, ↓D3.retN3.eq_1, ↓D3.nx3.eq_1, ↓D3.drop3.eq_1, ↓D3.par3.eq_1, ↓D3.aug3.eq_1, ↓D3.and3.eq_1, ↓D3.or3.eq_1, ↓D3.not3.eq_1, ↓D3.andV3.eq_1, ↓D3.orV3.eq_1, ↓D3.notV3.eq_1, ↓D3.if3.eq_1, ↓D3.nil3.eq_1, ↓D3.cons3.eq_1, ↓D3.tup3.eq_1, ↓D3.lst3.eq_1, ↓D3.lstM3.eq_1, ↓D3.gtup3.eq_1, ↓D3.gcons3.eq_1, ↓D3.gnil3.eq_1, ↓D3.gunl3.eq_1, ↓D3.bits3.eq_1, ↓D3.neg3.eq_1, ↓D3.chain3.eq_1, fIsi_int_int, fIsi_int_bool, fIsi_int_tuple, fIsi_int_str, fIsi_int_list, fIsi_bl_int, fIsi_bl_bool, fIsi_bl_tuple, fIsi_bl_str, fIsi_bl_list, fIsi_non_int, fIsi_non_bool, fIsi_non_tuple, fIsi_non_str, fIsi_non_list, fIsi_str_int, fIsi_str_bool, fIsi_str_tuple, fIsi_str_str, fIsi_str_list, fIsi_tup_int, fIsi_tup_bool, fIsi_tup_tuple, fIsi_tup_str, fIsi_tup_list, fIsi_lst_int, fIsi_lst_bool, fIsi_lst_tuple, fIsi_lst_str, fIsi_lst_list, fLen_lst, fLen_tup, fAbs, ↓D3.call3_k, ↓D3.kont_app, ↓D3.isN3.eq_1, ↓D3.notN3.eq_1, dIsN_non, dIsN_int, dIsN_bl, dIsN_str, dIsN_tup, dIsN_lst, ↓D3.slc3.eq_1, ↓D3.part3.eq_1, ↓D3.noPart3.eq_1, ↓D3.ilst3.eq_1, ↓D3.itup3.eq_1, ↓D3.irng1.eq_1, ↓D3.irng2.eq_1, ↓D3.for3.eq_1, fCat, fEq_int, fNe_int, fEq_bl, fNe_bl, fEq_pair, fNe_pair, List.map, List.replicate, List.length_cons, List.length_nil, List.set_cons_zero, List.set_cons_succ, List.getElem?_cons_zero, List.getElem?_cons_succ, List.cons_append, List.nil_append, at_0, at_1, at_2, at_3, at_4, at_5, at_6, ix_0, ix_1, ix_2, put_same, put_put, decide_eq_true_eq, Bool.not_eq_true', decide_eq_false_iff_not, ite_not, ite_true, ite_false, if_true, if_false, Bool.false_eq_true, ↓reduceIte, reduceIte, Nat.reduceAdd, Nat.reduceSub, Int.reduceToNat, Nat.reduceLeDiff, not_false_eq_true, true_and, and_true, ne_eq, Int.reduceEq, Nat.zero_add, Bool.not_true, Bool.not_false, reduceCtorEq, nc0, nc1, nc2, nc3, nc4, nc5, fIx_ref put_same, fLen_ref put_same, ↓D3.lc3.eq_1, fInt, fTuple, fList, fNeS_s, fEqS_s, ↓D3.gstar3.eq_1, fInK_s, fNinK_s, fLenS_s, ↓D3.slcT3.eq_1, fCatT_t, ↓D3.app3.eq_1, ↓D3.frz3.eq_1, ↓D3.dc23.eq_1, ↓D3.lcT3.eq_1, ↓D3.litRep3.eq_1, ↓D3.litRepM3.eq_1, ↓D3.rev3.eq_1, ↓D3.dget3.eq_1, ↓D3.disp3.eq_1, ↓D3.ienum3.eq_1, pop3, sset3]))
        exact hk
      · rw [del_put, del_none hL, List.nil_append, List.filter_map]
        have hf : (us.filter fun z => !decide (z = nm)).length ≤ us.length := List.length_filter_le _ _
        refine ⟨us.filter fun z => !decide (z = nm), rfl, by omega, fun ys p hp2 hs hpn => ?_⟩
        refine q ys p ⟨hp2.nodup_iff.mpr (hn.filter _), hs⟩ (fun z => ?_) hpn
        rw [hp2.mem_iff, List.mem_filter, hu]
        constructor
        · rintro ⟨h1, h2⟩
          exact .lim (by simpa using h2) h1
        · intro f
          cases f with
          | lim h1 h2 => exact ⟨h2, by simpa using h1⟩
          | part h1 _ _ _ _ => exact absurd rfl h1
  · have hst := step _ hi hps
    (refine laterP_in ?_; repeat ((first | with_reducible refine laterP_i ?_ | with_reducible refine later_i ?_); try simp -implicitDefEqProofs -dsimp only [↓D3.seq3_stop, ↓D3.ifS3.eq_1, ↓D3.b3.eq_1, ↓D3.op3.eq_1, ↓D3.un3.eq_1, ↓D3.v3.eq_1, ↓D3.c3.eq_1, fIx_tup, fIx_lst, at3_0, at3_1, at3_2, at3_3, at3_4, at3_5, at3_6, start3, fI0_i, fI_i, fLt, fLe, fGt, fGe, fEqI, fNeI, fMin, fMax, ↓D3.asg3.eq_1, ↓D3.name3.eq_1, ↓D3.sub3.eq_1, ↓D3.ret3.eq_1, ↓D3.retN3.eq_1, ↓D3.nx3.eq_1, ↓D3.drop3.eq_1, ↓D3.par3.eq_1, ↓D3.aug3.eq_1, ↓D3.and3.eq_1, ↓D3.or3.eq_1, ↓D3.not3.eq_1, ↓D3.andV3.eq_1, ↓D3.orV3.eq_1, ↓D3.notV3.eq_1, ↓D3.if3.eq_1, ↓D3.nil3.eq_1, ↓D3.cons3.eq_1, ↓D3.tup3.eq_1, ↓D3.lst3.eq_1, ↓D3.lstM3.eq_1, ↓D3.gtup3.eq_1, ↓D3.gcons3.eq_1, ↓D3.gnil3.eq_1, ↓D3.gunl3.eq_1, ↓D3.bits3.eq_1, ↓D3.neg3.eq_1, ↓D3.chain3.eq_1, fIsi_int_int, fIsi_int_bool, fIsi_int_tuple, fIsi_int_str, fIsi_int_list, fIsi_bl_int, fIsi_bl_bool, fIsi_bl_tuple, fIsi_bl_str, fIsi_bl_list, fIsi_non_int, fIsi_non_bool, fIsi_non_tuple, fIsi_non_str, fIsi_non_list, fIsi_str_int, fIsi_str_bool, fIsi_str_tuple, fIsi_str_str, fIsi_str_list, fIsi_tup_int, fIsi_tup_bool, fIsi_tup_tuple, fIsi_tup_str, fIsi_tup_list, fIsi_lst_int, fIsi_lst_bool, fIsi_lst_tuple, fIsi_lst_str, fIsi_lst_list, fLen_lst, fLen_tup, fAbs, ↓D3.call3_k, ↓D3.kont_app, ↓D3.isN3.eq_1, ↓D3.notN3.eq_1, dIsN_non, dIsN_int, dIsN_bl, dIsN_str, dIsN_tup, dIsN_lst, ↓D3.slc3.eq_1, ↓D3.part3.eq_1, ↓D3.noPart3.eq_1, ↓D3.ilst3.eq_1, ↓D3.itup3.eq_1, ↓D3.irng1.eq_1, ↓D3.irng2.eq_1, ↓D3.for3.eq_1, fCat, fEq_int, fNe_int, fEq_bl, fNe_bl, fEq_pair, fNe_pair, List.map, List.replicate, List.length_cons, List.length_nil, List.set_cons_zero, List.set_cons_succ, List.getElem?_cons_zero, List.getElem?_cons_succ, List.cons_append, List.nil_append, at_0, at_1, at_2, at_3, at_4, at_5, at_6, ix_0, ix_1, ix_2, put_same, put_put, decide_eq_true_eq, Bool.not_eq_true', decide_eq_false_iff_not, ite_not, ite_true, ite_false, if_true, if_false, Bool.false_eq_true, ↓reduceIte, reduceIte, Nat.reduceAdd, Nat.reduceSub, Int.reduceToNat, Nat.reduceLeDiff, not_false_eq_true, true_and, and_true, ne_eq, Int.reduceEq, Nat.zero_add, Bool.not_true, Bool.not_false, reduceCtorEq, nc0, nc1, nc2, nc3, nc4, nc5, fIx_ref put_same, fLen_ref put_same, ↓D3.lc3.eq_1, fInt, fTuple, fList, fNeS_s, fEqS_s, ↓D3.gstar3.eq_1, fInK_s, fNinK_s, fLenS_s, ↓D3.slcT3.eq_1, fCatT_t, ↓D3.app3.eq_1, ↓D3.frz3.eq_1, ↓D3.dc23.eq_1, ↓D3.lcT3.eq_1, ↓D3.litRep3.eq_1, ↓D3.litRepM3.eq_1, ↓D3.rev3.eq_1, ↓D3.dget3.eq_1, ↓D3.disp3.eq_1, ↓D3.ienum3.eq_1, pop3, sset3]))
    refine ite2 (fun z => absurd z n1) (fun _ => ?_)
    (refine laterP_in ?_; repeat ((first | with_reducible refine laterP_i ?_ | with_reducible refine later_i ?_); try simp -implicitDefEqProofs -dsimp only [↓D3.seq3_stop, ↓D3.ifS3.eq_1, ↓D3.b3.eq_1, ↓D3.op3.eq_1, ↓D3.un3.eq_1, ↓D3.v3.eq_1, ↓D3.c3.eq_1, fIx_tup, fIx_lst, at3_0, at3_1, at3_2, at3_3, at3_4, at3_5, at3_6, start3, fI0_i, fI_i, fLt, fLe, fGt, fGe, fEqI, fNeI, fMin, fMax, ↓D3.asg3.eq_1, ↓D3.name3.eq_1, ↓D3.sub3.eq_1, ↓D3.ret3.eq_1, ↓D3.retN3.eq_1, ↓D3.nx3.eq_1, ↓D3.drop3.eq_1, ↓D3.par3.eq_1, ↓D3.aug3.eq_1, ↓D3.and3.eq_1, ↓D3.or3.eq_1, ↓D3.not3.eq_1, ↓D3.andV3.eq_1, ↓D3.orV3.eq_1, ↓D3.notV3.eq_1, ↓D3.if3.eq_1, ↓D3.nil3.eq_1, ↓D3.cons3.eq_1, ↓D3.tup3.eq_1, ↓D3.lst3.eq_1, ↓D3.lstM3.eq_1, ↓D3.gtup3.eq_1, ↓D3.gcons3.eq_1, ↓D3.gnil3.eq_1, ↓D3.gunl3.eq_1, ↓D3.bits3.eq_1, ↓D3.neg3.eq_1, ↓D3.chain3.eq_1, fIsi_int_int, fIsi_int_bool, fIsi_int_tuple, fIsi_int_str, fIsi_int_list, fIsi_bl_int, fIsi_bl_bool, fIsi_bl_tuple, fIsi_bl_str, fIsi_bl_list, fIsi_non_int, fIsi_non_bool, fIsi_non_tuple, fIsi_non_str, fIsi_non_list, fIsi_str_int, fIsi_str_bool, fIsi_str_tuple, fIsi_str_str, fIsi_str_list, fIsi_tup_int, fIsi_tup_bool, fIsi_tup_tuple, fIsi_tup_str, fIsi_tup_list, fIsi_lst_int, fIsi_lst_bool, fIsi_lst_tuple, fIsi_lst_str, fIsi_lst_list, fLen_lst, fLen_tup, fAbs, ↓D3.call3_k, ↓D3.kont_app, ↓D3.isN3.eq_1, ↓D3.notN3.eq_1, dIsN_non, dIsN_int, dIsN_bl, dIsN_str, dIsN_tup, dIsN_lst, ↓D3.slc3.eq_1, ↓D3.part3.eq_1, ↓D3.noPart3.eq_1, ↓D3.ilst3.eq_1, ↓D3.itup3.eq_1, ↓D3.irng1.eq_1, ↓D3.irng2.eq_1, ↓D3.for3.eq_1, fCat, fEq_int, fNe_int, fEq_bl, fNe_bl, fEq_pair, fNe_pair, List.map, List.replicate, List.length_cons, List.length_nil, List.set_cons_zero, List.set_cons_succ, List.getElem?_cons_zero, List.getElem?_cons_succ, List.cons_append, List.nil_append, at_0, at_1, at_2, at_3, at_4, at_5, at_6, ix_0, ix_1, ix_2, put_same, put_put, decide_eq_true_eq, Bool.not_eq_true', decide_eq_false_iff_not, ite_not, ite_true, ite_false, if_true, if_false, Bool.false_eq_true, ↓reduceIte, reduceIte, Nat.reduceAdd, Nat.reduceSub, Int.reduceToNat, Nat.reduceLeDiff, not_false_eq_true, true_and, and_true, ne_eq, Int.reduceEq, Nat.zero_add, Bool.not_true, Bool.not_false, reduceCtorEq, nc0, nc1, nc2, nc3, nc4, nc5, fIx_ref put_same, fLen_ref put_same, ↓D3.lc3.eq_1, fInt, fTuple, fList, fNeS_s, fEqS_s, ↓D3.gstar3.eq_1, fInK_s, fNinK_s, fLenS_s, ↓D3.slcT3.eq_1, fCatT_t, ↓D3.app3.eq_1, ↓D3.frz3.eq_1, ↓D3.dc23.eq_1, ↓D3.lcT3.eq_1, ↓D3.litRep3.eq_1, ↓D3.litRepM3.eq_1, ↓D3.rev3.eq_1, ↓D3.dget3.eq_1, ↓D3.disp3.eq_1, ↓D3.ienum3.eq_1, pop3, sset3]))
    refine ⟨_, rfl, Pl.le (by decide) _ hp, by omega, ?_⟩
    rw [hi]
    (refine laterP_in ?_; repeat ((first | with_reducible refine laterP_i ?_ | with_reducible refine later_i ?_); try simp -implicitDefEqProofs -dsimp only [↓D3.seq3_stop, ↓D3.ifS3.eq_1, ↓D3.b3.eq_1, ↓D3.op3.eq_1, ↓D3.un3.eq_1, ↓D3.v3.eq_1, ↓D3.c3.eq_1, fIx_tup, fIx_lst, at3_0, at3_1, at3_2, at3_3, at3_4, at3_5, at3_6, start3, fI0_i, fI_i, fLt, fLe, fGt, fGe, fEqI, fNeI, fMin, fMax, ↓D3.asg3.eq_1, ↓D3.name3.eq_1, ↓D3.sub3.eq_1, ↓D3.ret3.eq_1, ↓D3.retN3.eq_1, ↓D3.nx3.eq_1, ↓D3.drop3.eq_1, ↓D3.par3.eq_1, ↓D3.aug3.eq_1, ↓D3.and3.eq_1, ↓D3.or3.eq_1, ↓D3.not3.eq_1, ↓D3.andV3.eq_1, ↓D3.orV3.eq_1, ↓D3.notV3.eq_1, ↓D3.if3.eq_1, ↓D3.nil3.eq_1, ↓D3.cons3.eq_1, ↓D3.tup3.eq_1, ↓D3.lst3.eq_1, ↓D3.lstM3.eq_1, ↓D3.gtup3.eq_1, ↓D3.gcons3.eq_1, ↓D3.gnil3.eq_1, ↓D3.gunl3.eq_1, ↓D3.bits3.eq_1, ↓D3.neg3.eq_1, ↓D3.chain3.eq_1, fIsi_int_int, fIsi_int_bool, fIsi_int_tuple, fIsi_int_str, fIsi_int_list, fIsi_bl_int, fIsi_bl_bool, fIsi_bl_tuple, fIsi_bl_str, fIsi_bl_list, fIsi_non_int, fIsi_non_bool, fIsi_non_tuple, fIsi_non_str, fIsi_non_list, fIsi_str_int, fIsi_str_bool, fIsi_str_tuple, fIsi_str_str, fIsi_str_list, fIsi_tup_int, fIsi_tup_bool, fIsi_tup_tuple, fIsi_tup_str, fIsi_tup_list, fIsi_lst_int, fIsi_lst_bool, fIsi_lst_tuple, fIsi_lst_str, fIsi_lst_list, fLen_lst, fLen_tup, fAbs, ↓D3.call3_k, ↓D3.kont_app, ↓D3.isN3.eq_1, ↓D3.notN3.eq_1, dIsN_non, dIsN_int, dIsN_bl, dIsN_str, dIsN_tup, dIsN_lst, ↓D3.slc3.eq_1, ↓D3.part3.eq_1, ↓D3.noPart3.eq_1, ↓D3.ilst3.eq_1, ↓D3.itup3.eq_1, ↓D3.irng1.eq_1, ↓D3.irng2.eq_1, ↓D3.for3.eq_1, fCat, fEq_int, fNe_int, fEq_bl, fNe_bl, fEq_pair, fNe_pair, List.map, List.replicate, List.length_cons, List.length_nil, List.set_cons_zero, List.set_cons_succ, List.getElem?_cons_zero, List.getElem?_cons_succ, List.cons_append, List.nil_append, at_0, at_1, at_2, at_3, at_4, at_5, at_6, ix_0, ix_1, ix_2, put_same, put_put, decide_eq_true_eq, Bool.not_eq_true', decide_eq_false_iff_not, ite_not, ite_true, ite_false, if_true, if_false, Bool.false_eq_true, ↓reduceIte, reduceIte, Nat.reduceAdd, Nat.reduceSub, Int.reduceToNat, Nat.reduceLeDiff, not_false_eq_true, true_and, and_true, ne_eq, Int.reduceEq, Nat.zero_add, Bool.not_true, Bool.not_false, reduceCtorEq, nc0, nc1, nc2, nc3, nc4, nc5, fIx_ref put_same, fLen_ref put_same, ↓D3.lc3.eq_1, fInt, fTuple, fList, fNeS_s, fEqS_s, ↓D3.gstar3.eq_1, fInK_s, fNinK_s, fLenS_s, ↓D3.slcT3.eq_1, fCatT_t, ↓D3.app3.eq_1, ↓D3.frz3.eq_1, ↓D3.dc23.eq_1, ↓D3.lcT3.eq_1, ↓D3.litRep3.eq_1, ↓D3.litRepM3.eq_1, ↓D3.rev3.eq_1, ↓D3.dget3.eq_1, ↓D3.disp3.eq_1, ↓D3.ienum3.eq_1, pop3, sset3, oD]))
    intro d hd'
    suffices hh : dcOut _ _ _ _ _ _ _ _ (ps.map id) _ by rw [List.map_id] at hh; exact hh
    refine dcOut_str id (F := fun a z => Fre a z) (B := 10) (by simp) ps [] _ put_same List.nodup_nil (by simp; omega) (fun a ha m' R ho k => ?_) fun us hn hlen hus => ?_
    · (refine laterP_in ?_; repeat ((first | with_reducible refine laterP_i ?_ | with_reducible refine later_i ?_); try simp -implicitDefEqProofs -dsimp only [↓D3.seq3_stop, ↓D3.ifS3.eq_1, ↓D3.b3.eq_1, ↓D3.op3.eq_1, ↓D3.un3.eq_1, ↓D3.v3.eq_1, ↓D3.c3.eq_1, fIx_tup, fIx_lst, at3_0, at3_1, at3_2, at3_3, at3_4, at3_5, at3_6, start3, fI0_i, fI_i, fLt, fLe, fGt, fGe, fEqI, fNeI, fMin, fMax, ↓D3.asg3.eq_1, ↓D3.name3.eq_1, ↓D3.sub3.eq_1, ↓D3.ret3.eq_1, ↓D3.retN3.eq_1, ↓D3.nx3.eq_1, ↓D3.drop3.eq_1, ↓D3.par3.eq_1, ↓D3.aug3.eq_1, ↓D3.and3.eq_1, ↓D3.or3.eq_1, ↓D3.not3.eq_1, ↓D3.andV3.eq_1, ↓D3.orV3.eq_1, ↓D3.notV3.eq_1, ↓D3.if3.eq_1, ↓D3.nil3.eq_1, ↓D3.cons3.eq_1, ↓D3.tup3.eq_1, ↓D3.lst3.eq_1, ↓D3.lstM3.eq_1, ↓D3.gtup3.eq_1, ↓D3.gcons3.eq_1, ↓D3.gnil3.eq_1, ↓D3.gunl3.eq_1, ↓D3.bits3.eq_1, ↓D3.neg3.eq_1, ↓D3.chain3.eq_1, fIsi_int_int, fIsi_int_bool, fIsi_int_tuple, fIsi_int_str, fIsi_int_list, fIsi_bl_int, fIsi_bl_bool, fIsi_bl_tuple, fIsi_bl_str, fIsi_bl_list, fIsi_non_int, fIsi_non_bool, fIsi_non_tuple, fIsi_non_str, fIsi_non_list, fIsi_str_int, fIsi_str_bool, fIsi_str_tuple, fIsi_str_str, fIsi_str_list, fIsi_tup_int, fIsi_tup_bool, fIsi_tup_tuple, fIsi_tup_str, fIsi_tup_list, fIsi_lst_int, fIsi_lst_bool, fIsi_lst_tuple, fIsi_lst_str, fIsi_lst_list, fLen_lst, fLen_tup, fAbs, ↓D3.call3_k, ↓D3.kont_app, ↓D3.isN3.eq_1, ↓D3.notN3.eq_1, dIsN_non, dIsN_int, dIsN_bl, dIsN_str, dIsN_tup, dIsN_lst, ↓D3.slc3.eq_1, ↓D3.part3.eq_1, ↓D3.noPart3.eq_1, ↓D3.ilst3.eq_1, ↓D3.itup3.eq_1, ↓D3.irng1.eq_1, ↓D3.irng2.eq_1, ↓D3.for3.eq_1, fCat, fEq_int, fNe_int, fEq_bl, fNe_bl, fEq_pair, fNe_pair, List.map, List.replicate, List.length_cons, List.length_nil, List.set_cons_zero, List.set_cons_succ, List.getElem?_cons_zero, List.getElem?_cons_succ, List.cons_append, List.nil_append, at_0, at_1, at_2, at_3, at_4, at_5, at_6, ix_0, ix_1, ix_2, put_same, put_put, decide_eq_true_eq, Bool.not_eq_true', decide_eq_false_iff_not, ite_not, ite_true, ite_false, if_true, if_false, Bool.false_eq_true, ↓reduceIte, reduceIte, Nat.reduceAdd, Nat.reduceSub, Int.reduceToNat, Nat.reduceLeDiff, not_false_eq_true, true_and, and_true, ne_eq, Int.reduceEq, Nat.zero_add, Bool.not_true, Bool.not_false, reduceCtorEq, nc0, nc1, nc2, nc3, nc4, nc5, fIx_ref put_same, fLen_ref put_same, ↓D3.lc3.eq_1, fInt, fTuple, fList, fNeS_s, fEqS_s, ↓D3.gstar3.eq_1, fInK_s, fNinK_s, fLenS_s, ↓D3.slcT3.eq_1, fCatT_t, ↓D3.app3.eq_1, ↓D3.frz3.eq_1, ↓D3.dc23.eq_1, ↓D3.lcT3.eq_1, ↓D3.litRep3.eq_1, ↓D3.litRepM3.eq_1, ↓D3.rev3.eq_1, ↓D3.dget3.eq_1, ↓D3.disp3.eq_1, ↓D3.ienum3.eq_1, pop3, sset3, id]))
      refine hst a ha m' _ fun ys h1 h2 => ?_
      (refine laterP_in ?_; repeat ((first | with_reducible refine laterP_i ?_ | with_reducible refine later_i ?_); try simp -implicitDefEqProofs -dsimp only [↓D3.seq3_stop, ↓D3.ifS3.eq_1, ↓D3.b3.eq_1, ↓D3.op3.eq_1, ↓D3.un3.eq_1, ↓D3.v3.eq_1, ↓D3.c3.eq_1, fIx_tup, fIx_lst, at3_0, at3_1, at3_2, at3_3, at3_4, at3_5, at3_6, start3, fI0_i, fI_i, fLt, fLe, fGt, fGe, fEqI, fNeI, fMin, fMax, ↓D3.asg3.eq_1, ↓D3.name3.eq_1, ↓D3.sub3.eq_1, ↓D3.ret3.eq_1, ↓D3.retN3.eq_1, ↓D3.nx3.eq_1, ↓D3.drop3.eq_1, ↓D3.par3.eq_1, ↓D3.aug3.eq_1, ↓D3.and3.eq_1, ↓D3.or3.eq_1, ↓D3.not3.eq_1, ↓D3.andV3.eq_1, ↓D3.orV3.eq_1, ↓D3.notV3.eq_1, ↓D3.if3.eq_1, ↓D3.nil3.eq_1, ↓D3.cons3.eq_1, ↓D3.tup3.eq_1, ↓D3.lst3.eq_1, ↓D3.lstM3.eq_1, ↓D3.gtup3.eq_1, ↓D3.gcons3.eq_1, ↓D3.gnil3.eq_1, ↓D3.gunl3.eq_1, ↓D3.bits3.eq_1, ↓D3.neg3.eq_1, ↓D3.chain3.eq_1, fIsi_int_int, fIsi_int_bool, fIsi_int_tuple, fIsi_int_str, fIsi_int_list, fIsi_bl_int, fIsi_bl_bool, fIsi_bl_tuple, fIsi_bl_str, fIsi_bl_list, fIsi_non_int, fIsi_non_bool, fIsi_non_tuple, fIsi_non_str, fIsi_non_list, fIsi_str_int, fIsi_str_bool, fIsi_str_tuple, fIsi_str_str, fIsi_str_list, fIsi_tup_int, fIsi_tup_bool, fIsi_tup_tuple, fIsi_tup_str, fIsi_tup_list, fIsi_lst_int, fIsi_lst_bool, fIsi_lst_tuple, fIsi_lst_str, fIsi_lst_list, fLen_lst, fLen_tup, fAbs, ↓D3.call3_k, ↓D3.kont_app, ↓D3.isN3.eq_1, ↓D3.notN3.eq_1, dIsN_non, dIsN_int, dIsN_bl, dIsN_str, dIsN_tup, dIsN_lst, ↓D3.slc3.eq_1, ↓D3.part3.eq_1, ↓D3.noPart3.eq_1, ↓D3.ilst3.eq_1, ↓D3.itup3.eq_1, ↓D3.irng1.eq_1, ↓D3.irng2.eq_1, ↓D3.for3.eq_1, fCat, fEq_int, fNe_int, fEq_bl, fNe_bl, fEq_pair, fNe_pair, List.map, List.replicate, List.length_cons, List.length_nil, List.set_cons_zero, List.set_cons_succ, List.getElem?_cons_zero, List.getElem?_cons_succ, List.cons_append, List.nil_append, at_0, at_1, at_2, at_3, at_4, at_5, at_6, ix_0, ix_1, ix_2, put_same, put_put, decide_eq_true_eq, Bool.not_eq_true', decide_eq_false_iff_not, ite_not, ite_true, ite_false, if_true, if_false, Bool.false_eq_true, ↓reduceIte, reduceIte, Nat.reduceAdd, Nat.reduceSub, Int.reduceToNat, Nat.reduceLeDiff, not_false_eq_true, true_and, and_true, ne_eq, Int.reduceEq, Nat.zero_add, Bool.not_true, Bool.not_false, reduceCtorEq, nc0, nc1, nc2, nc3, nc4, nc5, fIx_ref put_same, fLen_ref put_same, ↓D3.lc3.eq_1, fInt, fTuple, fList, fNeS_s, fEqS_s, ↓D3.gstar3.eq_1, fInK_s, fNinK_s, fLenS_s, ↓D3.slcT3.eq_1, fCatT_t, ↓D3.app3.eq_1, ↓D3.frz3.eq_1, ↓D3.dc23.eq_1, ↓D3.lcT3.eq_1, ↓D3.litRep3.eq_1, ↓D3.litRepM3.eq_1, ↓D3.rev3.eq_1, ↓D3.dget3.eq_1, ↓D3.disp3.eq_1, ↓D3.ienum3.eq_1, pop3, sset3]))
      exact k ys h1 h2
    · have hu : ∀ z, z ∈ us ↔ Fre (.tup (.str h :: r)) z := fun z => by
        rw [hus]
        simp only [List.not_mem_nil, false_or]
        constructor
        · rintro ⟨x, hx, f⟩
          exact .part n2 n1 hi hx f
        · intro f
          cases f with
          | name => exact absurd rfl n1
          | lim _ _ => exact absurd rfl n2
          | part _ _ hi2 hp' f =>
            rw [hi] at hi2
            cases hi2
            exact ⟨_, hp', f⟩
      (refine laterP_in ?_; repeat ((first | with_reducible refine laterP_i ?_ | with_reducible refine later_i ?_); try simp -implicitDefEqProofs -dsimp only [↓D3.seq3_stop, ↓D3.ifS3.eq_1, ↓D3.b3.eq_1, ↓D3.op3.eq_1, ↓D3.un3.eq_1, ↓D3.v3.eq_1, ↓D3.c3.eq_1, fIx_tup, fIx_lst, at3_0, at3_1, at3_2, at3_3, at3_4, at3_5, at3_6, start3, fI0_i, fI_i, fLt, fLe, fGt, fGe, fEqI, fNeI, fMin, fMax, ↓D3.asg3.eq_1, ↓D3.name3.eq_1, ↓D3.sub3.eq_1, ↓D3.ret3.eq_1, ↓D3.retN3.eq_1, ↓D3.nx3.eq_1, ↓D3.drop3.eq_1, ↓D3.par3.eq_1, ↓D3.aug3.eq_1, ↓D3.and3.eq_1, ↓D3.or3.eq_1, ↓D3.not3.eq_1, ↓D3.andV3.eq_1, ↓D3.orV3.eq_1, ↓D3.notV3.eq_1, ↓D3.if3.eq_1, ↓D3.nil3.eq_1, ↓D3.cons3.eq_1, ↓D3.tup3.eq_1, ↓D3.lst3.eq_1, ↓D3.lstM3.eq_1, ↓D3.gtup3.eq_1, ↓D3.gcons3.eq_1, ↓D3.gnil3.eq_1, ↓D3.gunl3.eq_1, ↓D3.bits3.eq_1, ↓D3.neg3.eq_1, ↓D3.chain3.eq_1, fIsi_int_int, fIsi_int_bool, fIsi_int_tuple, fIsi_int_str, fIsi_int_list, fIsi_bl_int, fIsi_bl_bool, fIsi_bl_tuple, fIsi_bl_str, fIsi_bl_list, fIsi_non_int, fIsi_non_bool, fIsi_non_tuple, fIsi_non_str, fIsi_non_list, fIsi_str_int, fIsi_str_bool, fIsi_str_tuple, fIsi_str_str, fIsi_str_list, fIsi_tup_int, fIsi_tup_bool, fIsi_tup_tuple, fIsi_tup_str, fIsi_tup_list, fIsi_lst_int, fIsi_lst_bool, fIsi_lst_tuple, fIsi_lst_str, fIsi_lst_list, fLen_lst, fLen_tup, fAbs, ↓D3.call3_k, ↓D3.kont_app, ↓D3.isN3.eq_1, ↓D3.notN3.eq_1, dIsN_non, dIsN_int, dIsN_bl, dIsN_str, dIsN_tup, dIsN_lst, ↓D3.slc3.eq_1, ↓D3.part3.eq_1, ↓D3.noPart3.eq_1, ↓D3.ilst3.eq_1, ↓D3.itup3.eq_1, ↓D3.irng1.eq_1, ↓D3.irng2.eq_1, ↓D3.for3.eq_1, fCat, fEq_int, fNe_int, fEq_bl, fNe_bl, fEq_pair, fNe_pair, List.map, List.replicate, List.length_cons, List.length_nil, List.set_cons_zero, List.set_cons_succ, List.getElem?_cons_zero, List.getElem?_cons_succ, List.cons_append, List.nil_append, at_0, at_1, at_2, at_3, at_4, at_5, at_6, ix_0, ix_1, ix_2, put_same, put_put, decide_eq_true_eq, Bool.not_eq_true', decide_eq_false_iff_not, ite_not, ite_true, ite_false, if_true, if_false, Bool.false_eq_true, ↓reduceIte, reduceIte, Nat.reduceAdd, Nat.reduceSub, Int.reduceToNat, Nat.reduceLeDiff, not_false_eq_true, true_and, and_true, ne_eq, Int.reduceEq, Nat.zero_add, Bool.not_true, Bool.not_false, reduceCtorEq, nc0, nc1, nc2, nc3, nc4, nc5, fIx_ref put_same, fLen_ref put_same, ↓D3.lc3.eq_1, fInt, fTuple, fList, fNeS_s, fEqS_s, ↓D3.gstar3.eq_1, fInK_s, fNinK_s, fLenS_s, ↓D3.slcT3.eq_1, fCatT_t, ↓D3.app3.eq_1, ↓D3.frz3.eq_1, ↓D3.dc23.eq_1, ↓D3.lcT3.eq_1, ↓D3.litRep3.eq_1, ↓D3.litRepM3.eq_1, ↓D3.rev3.eq_1, ↓D3.dget3.eq_1, ↓D3.disp3.eq_1, ↓D3.ienum3.eq_1, pop3, sset3]))
      refine ite2 (fun z => absurd z n2) (fun _ => ?_)
      (refine laterP_in ?_; repeat ((first | with_reducible refine laterP_i ?_ | with_reducible refine later_i ?_); try simp -implicitDefEqProofs -dsimp only [↓D3.seq3_stop, ↓D3.ifS3.eq_1, ↓D3.b3.eq_1, ↓D3.op3.eq_1, ↓D3.un3.eq_1, ↓D3.v3.eq_1, ↓D3.c3.eq_1, fIx_tup, fIx_lst, at3_0, at3_1, at3_2, at3_3, at3_4, at3_5, at3_6, start3, fI0_i, fI_i, fLt, fLe, fGt, fGe, fEqI, fNeI, fMin, fMax, ↓D3.asg3.eq_1, ↓D3.name3.eq_1, ↓D3.sub3.eq_1, ↓D3.ret3.eq_1, ↓D3.retN3.eq_1, ↓D3.nx3.eq_1, ↓D3.drop3.eq_1, ↓D3.par3.eq_1, ↓D3.aug3.eq_1, ↓D3.and3.eq_1, ↓D3.or3.eq_1, ↓D3.not3.eq_1, ↓D3.andV3.eq_1, ↓D3.orV3.eq_1, ↓D3.notV3.eq_1, ↓D3.if3.eq_1, ↓D3.nil3.eq_1, ↓D3.cons3.eq_1, ↓D3.tup3.eq_1, ↓D3.lst3.eq_1, ↓D3.lstM3.eq_1, ↓D3.gtup3.eq_1, ↓D3.gcons3.eq_1, ↓D3.gnil3.eq_1, ↓D3.gunl3.eq_1, ↓D3.bits3.eq_1, ↓D3.neg3.eq_1, ↓D3.chain3.eq_1, fIsi_int_int, fIsi_int_bool, fIsi_int_tuple, fIsi_int_str, fIsi_int_list, fIsi_bl_int, fIsi_bl_bool, fIsi_bl_tuple, fIsi_bl_str, fIsi_bl_list, fIsi_non_int, fIsi_non_bool, fIsi_non_tuple, fIsi_non_str, fIsi_non_list, fIsi_str_int, fIsi_str_bool, fIsi_str_tuple, fIsi_str_str, fIsi_str_list, fIsi_tup_int, fIsi_tup_bool, fIsi_tup_tuple, fIsi_tup_str, fIsi_tup_list, fIsi_lst_int, fIsi_lst_bool, fIsi_lst_tuple, fIsi_lst_str, fIsi_lst_list, fLen_lst, fLen_tup, fAbs, ↓D3.call3_k, ↓D3.kont_app, ↓D3.isN3.eq_1, ↓D3.notN3.eq_1, dIsN_non, dIsN_int, dIsN_bl, dIsN_str, dIsN_tup, dIsN_lst, ↓D3.slc3.eq_1, ↓D3.part3.eq_1, ↓D3.noPart3.eq_1, ↓D3.ilst3.eq_1, ↓D3.itup3.eq_1, ↓D3.irng1.eq_1, ↓D3.irng2.eq_1, ↓D3.for3.eq_1, fCat, fEq_int, fNe_int, fEq_bl, fNe_bl, fEq_pair, fNe_pair, List.map, List.replicate, List.length_cons, List.length_nil, List.set_cons_zero, List.set_cons_succ, List.getElem?_cons_zero, List.getElem?_cons_succ, List.cons_append, List.nil_append, at_0, at_1, at_2, at_3, at_4, at_5, at_6, ix_0, ix_1, ix_2, put_same, put_put, decide_eq_true_eq, Bool.not_eq_true', decide_eq_false_iff_not, ite_not, ite_true, ite_false, if_true, if_false, Bool.false_eq_true, ↓reduceIte, reduceIte, Nat.reduceAdd, Nat.reduceSub, Int.reduceToNat, Nat.reduceLeDiff, not_false_eq_true, true_and, and_true, ne_eq, Int.reduceEq, Nat.zero_add, Bool.not_true, Bool.not_false, reduceCtorEq, nc0, nc1, nc2, nc3, nc4, nc5, fIx_ref put_same, fLen_ref put_same, ↓D3.lc3.eq_1, fInt, fTuple, fList, fNeS_s, fEqS_s, ↓D3.gstar3.eq_1, fInK_s, fNinK_s, fLenS_s, ↓D3.slcT3.eq_1, fCatT_t, ↓D3.app3.eq_1, ↓D3.frz3.eq_1, ↓D3.dc23.eq_1, ↓D3.lcT3.eq_1, ↓D3.litRep3.eq_1, ↓D3.litRepM3.eq_1, ↓D3.rev3.eq_1, ↓D3.dget3.eq_1, ↓D3.disp3.eq_1, ↓D3.ienum3.eq_1, pop3, sset3]))
      refine ⟨d, us, rfl, put_same, by have : us.length ≤ 0 + ps.length * 10 := hlen; omega, fun ys p hp2 hs hpn => ?_⟩
      rw [del_put, del_none hd']
      have pn : m p = none := by
        by_cases ep : p = d
        · subst ep; exact hd'
        · rw [put_ne ep] at hpn; exact hpn
      exact q ys p ⟨hp2.nodup_iff.mpr hn, hs⟩ (fun z => by rw [hp2.mem_iff, hu]) pn
theorem ok_gmN (T : Tx w K mg fa fd) {N : List Str} (hN : N.length ≤ 10) : ∀ e : Nat, Fn3 P w K mg base (e + 4) (fa 7) (fd 7) ["term"] (sp_gmN N e)
  | 0 => fn_never
  | e + 1 => ok_gmS T hN e (gm_gf (ok_gmN T hN e))
def sp_ptN (N : List Str) : Nat → Sp3
  | 0 => fun _ _ _ => False
  | e + 1 => fun ds m P => ∃ d : D, ds = [d] ∧ Wn N d ∧ Pl 140 d ∧ dp d ≤ e + 1 ∧ e ≤ 20 ∧ P (.int (cntD d : Nat)) m
theorem ok_ptS (T : Tx w K mg fa fd) {N : List Str} (e : Nat) (ih : Fn3 P w K mg base (e + 4) (fa 6) (fd 6) ["term"] (sp_ptN N e)) : Fn3 P w K mg base (e + 4 + 1) (fa 6) (fd 6) ["term"] (sp_ptN N (e + 1)) := by
  refine fn3 T.d_parts_of.F sc_parts_of (fun ds m Q h => by obtain ⟨_, rfl, _⟩ := h; rfl) fun cdv A outer s H E ds m Q hr h => ?_
  obtain ⟨d, rfl, hw, hp, hd, he, q⟩ := h
  refine ⟨_, (ss_cons (s_set (i := 1) sc_parts_of.nd e_int)
      (ss_cons (s_for PassesOwn.never rfl (i_list (e_call T.d_parts_within (ok_parts_within T) (hr.mono (by omega)) rfl (a_cons (e_v 0) a_nil))) (g_name (i := 2) sc_parts_of.nd)
      (ss_one (s_aug (i := 1) sc_parts_of.nd iop_add (rl_I0 fun _ _ _ _ => .int _) (e_call T.d_parts_of ih (hr.mono (by omega)) rfl (a_cons (e_v 2) a_nil)))))
      (ss_one (s_ret (e_v 1))))), ?_⟩
  obtain ⟨ps, hi, hps⟩ : ∃ ps, inn d = some ps ∧ ∀ p ∈ ps, Wn N p := by cases hw with | mk h1 _ h3 => exact ⟨_, h1, h3⟩
  have hk := inn_ok hi hp hd
  (refine laterP_in ?_; repeat ((first | with_reducible refine laterP_i ?_ | with_reducible refine later_i ?_); try simp -implicitDefEqProofs -dsimp only [↓D3.seq3_stop, ↓D3.ifS3.eq_1, ↓D3.b3.eq_1, ↓D3.op3.eq_1, ↓D3.un3.eq_1, ↓D3.v3.eq_1, ↓D3.c3.eq_1, fIx_tup, fIx_lst, at3_0, at3_1, at3_2, at3_3, at3_4, at3_5, at3_6, start3, fI0_i, fI_i, fLt, fLe, fGt, fGe, fEqI, fNeI, fMin, fMax, ↓D3.asg3.eq_1, ↓D3.name3.eq_1, ↓D3.sub3.eq_1, ↓D3.ret3.eq_1, ↓D3.retN3.eq_1, ↓D3.nx3.eq_1, ↓D3.drop3.eq_1, ↓D3.par3.eq_1, ↓D3.aug3.eq_1, ↓D3.and3.eq_1, ↓D3.or3.eq_1, ↓D3.not3.eq_1, ↓D3.andV3.eq_1, ↓D3.orV3.eq_1, ↓D3.notV3.eq_1, ↓D3.if3.eq_1, ↓D3.nil3.eq_1, ↓D3.cons3.eq_1, ↓D3.tup3.eq_1, ↓D3.lst3.eq_1, ↓D3.lstM3.eq_1, ↓D3.gtup3.eq_1, ↓D3.gcons3.eq_1, ↓D3.gnil3.eq_1, ↓D3.gunl3.eq_1, ↓D3.bits3.eq_1, ↓D3.neg3.eq_1, ↓D3.chain3.eq_1, fIsi_int_int, fIsi_int_bool, fIsi_int_tuple, fIsi_int_str, fIsi_int_list, fIsi_bl_int, fIsi_bl_bool, fIsi_bl_tuple, fIsi_bl_str, fIsi_bl_list, fIsi_non_int, fIsi_non_bool, fIsi_non_tuple, fIsi_non_str, fIsi_non_list, fIsi_str_int, fIsi_str_bool, fIsi_str_tuple, fIsi_str_str, fIsi_str_list, fIsi_tup_int, fIsi_tup_bool, fIsi_tup_tuple, fIsi_tup_str, fIsi_tup_list, fIsi_lst_int, fIsi_lst_bool, fIsi_lst_tuple, fIsi_lst_str, fIsi_lst_list, fLen_lst, fLen_tup, fAbs, ↓D3.call3_k, ↓D3.kont_app, ↓D3.isN3.eq_1, ↓D3.notN3.eq_1, dIsN_non, dIsN_int, dIsN_bl, dIsN_str, dIsN_tup, dIsN_lst, ↓D3.slc3.eq_1, ↓D3.part3.eq_1, ↓D3.noPart3.eq_1, ↓D3.ilst3.eq_1, ↓D3.itup3.eq_1, ↓D3.irng1.eq_1, ↓D3.irng2.eq_1, ↓D3.for3.eq_1, fCat, fEq_int, fNe_int, fEq_bl, fNe_bl, fEq_pair, fNe_pair, List.map, List.replicate, List.length_cons, List.length_nil, List.set_cons_zero, List.set_cons_succ, List.getElem?_cons_zero, List.getElem?_cons_succ, List.cons_append, List.nil_append, at_0, at_1, at_2, at_3, at_4, at_5, at_6, ix_0, ix_1, ix_2, put_same, put_put, decide_eq_true_eq, Bool.not_eq_true', decide_eq_false_iff_not, ite_not, ite_true, ite_false, if_true, if_false, Bool.false_eq_true, ↓reduceIte, reduceIte, Nat.reduceAdd, Nat.reduceSub, Int.reduceToNat, Nat.reduceLeDiff, not_false_eq_true, true_and, and_true, ne_eq, Int.reduceEq, Nat.zero_add, Bool.not_true, Bool.not_false, reduceCtorEq, nc0, nc1, nc2, nc3, nc4, nc5, fIx_ref put_same, fLen_ref put_same, ↓D3.lc3.eq_1, fInt, fTuple, fList, fNeS_s, fEqS_s, ↓D3.gstar3.eq_1, fInK_s, fNinK_s, fLenS_s, ↓D3.slcT3.eq_1, fCatT_t, ↓D3.app3.eq_1, ↓D3.frz3.eq_1, ↓D3.dc23.eq_1, ↓D3.lcT3.eq_1, ↓D3.litRep3.eq_1, ↓D3.litRepM3.eq_1, ↓D3.rev3.eq_1, ↓D3.dget3.eq_1, ↓D3.disp3.eq_1, ↓D3.ienum3.eq_1, pop3, sset3]))
  refine ⟨d, rfl, Pl.le (by decide) _ hp, by omega, ?_⟩
  rw [hi]
  (refine laterP_in ?_; repeat ((first | with_reducible refine laterP_i ?_ | with_reducible refine later_i ?_); try simp -implicitDefEqProofs -dsimp only [↓D3.seq3_stop, ↓D3.ifS3.eq_1, ↓D3.b3.eq_1, ↓D3.op3.eq_1, ↓D3.un3.eq_1, ↓D3.v3.eq_1, ↓D3.c3.eq_1, fIx_tup, fIx_lst, at3_0, at3_1, at3_2, at3_3, at3_4, at3_5, at3_6, start3, fI0_i, fI_i, fLt, fLe, fGt, fGe, fEqI, fNeI, fMin, fMax, ↓D3.asg3.eq_1, ↓D3.name3.eq_1, ↓D3.sub3.eq_1, ↓D3.ret3.eq_1, ↓D3.retN3.eq_1, ↓D3.nx3.eq_1, ↓D3.drop3.eq_1, ↓D3.par3.eq_1, ↓D3.aug3.eq_1, ↓D3.and3.eq_1, ↓D3.or3.eq_1, ↓D3.not3.eq_1, ↓D3.andV3.eq_1, ↓D3.orV3.eq_1, ↓D3.notV3.eq_1, ↓D3.if3.eq_1, ↓D3.nil3.eq_1, ↓D3.cons3.eq_1, ↓D3.tup3.eq_1, ↓D3.lst3.eq_1, ↓D3.lstM3.eq_1, ↓D3.gtup3.eq_1, ↓D3.gcons3.eq_1, ↓D3.gnil3.eq_1, ↓D3.gunl3.eq_1, ↓D3.bits3.eq_1, ↓D3.neg3.eq_1, ↓D3.chain3.eq_1, fIsi_int_int, fIsi_int_bool, fIsi_int_tuple, fIsi_int_str, fIsi_int_list, fIsi_bl_int, fIsi_bl_bool, fIsi_bl_tuple, fIsi_bl_str, fIsi_bl_list, fIsi_non_int, fIsi_non_bool, fIsi_non_tuple, fIsi_non_str, fIsi_non_list, fIsi_str_int, fIsi_str_bool, fIsi_str_tuple, fIsi_str_str, fIsi_str_list, fIsi_tup_int, fIsi_tup_bool, fIsi_tup_tuple, fIsi_tup_str, fIsi_tup_list, fIsi_lst_int, fIsi_lst_bool, fIsi_lst_tuple, fIsi_lst_str, fIsi_lst_list, fLen_lst, fLen_tup, fAbs, ↓D3.call3_k, ↓D3.kont_app, ↓D3.isN3.eq_1, ↓D3.notN3.eq_1, dIsN_non, dIsN_int, dIsN_bl, dIsN_str, dIsN_tup, dIsN_lst, ↓D3.slc3.eq_1, ↓D3.part3.eq_1, ↓D3.noPart3.eq_1, ↓D3.ilst3.eq_1, ↓D3.itup3.eq_1, ↓D3.irng1.eq_1, ↓D3.irng2.eq_1, ↓D3.for3.eq_1, fCat, fEq_int, fNe_int, fEq_bl, fNe_bl, fEq_pair, fNe_pair, List.map, List.replicate, List.length_cons, List.length_nil, List.set_cons_zero, List.set_cons_succ, List.getElem?_cons_zero, List.getElem?_cons_succ, List.cons_append, List.nil_append, at_0, at_1, at_2, at_3, at_4, at_5, at_6, ix_0, ix_1, ix_2, put_same, put_put, decide_eq_true_eq, Bool.not_eq_true', decide_eq_false_iff_not, ite_not, ite_true, ite_false, if_true, if_false, Bool.false_eq_true, ↓reduceIte, reduceIte, Nat.reduceAdd, Nat.reduceSub, Int.reduceToNat, Nat.reduceLeDiff, not_false_eq_true, true_and, and_true, ne_eq, Int.reduceEq, Nat.zero_add, Bool.not_true, Bool.not_false, reduceCtorEq, nc0, nc1, nc2, nc3, nc4, nc5, fIx_ref put_same, fLen_ref put_same, ↓D3.lc3.eq_1, fInt, fTuple, fList, fNeS_s, fEqS_s, ↓D3.gstar3.eq_1, fInK_s, fNinK_s, fLenS_s, ↓D3.slcT3.eq_1, fCatT_t, ↓D3.app3.eq_1, ↓D3.frz3.eq_1, ↓D3.dc23.eq_1, ↓D3.lcT3.eq_1, ↓D3.litRep3.eq_1, ↓D3.litRepM3.eq_1, ↓D3.rev3.eq_1, ↓D3.dget3.eq_1, ↓D3.disp3.eq_1, ↓D3.ienum3.eq_1, pop3, sset3, oD]))
  rw [cntD_eq hi] at q
  refine forIn3_ind (fun ds ρ m' => m' = m ∧ ∃ (t : Nat) (x : Option D), ρ = [some d, some (.int (t : Nat)), x] ∧ (∀ p ∈ ds, p ∈ ps) ∧ t + (ds.map cntD).sum = 1 + (ps.map cntD).sum) ?_ ?_ _ _ _ ⟨rfl, 1, none, rfl, fun _ h => h, rfl⟩
  · rintro p ds ρ m' nx hnx ⟨rfl, t, x, rfl, hm, hs⟩
    have h0 := hm p List.mem_cons_self
    have h1 := wn_dp (hps p h0)
    have h2 := hk p h0
    obtain ⟨e, rfl⟩ : ∃ k, e = k + 1 := ⟨e - 1, by omega⟩
    (refine laterP_in ?_; repeat ((first | with_reducible refine laterP_i ?_ | with_reducible refine later_i ?_); try simp -implicitDefEqProofs -dsimp only [↓D3.seq3_stop, ↓D3.ifS3.eq_1, ↓D3.b3.eq_1, ↓D3.op3.eq_1, ↓D3.un3.eq_1, ↓D3.v3.eq_1, ↓D3.c3.eq_1, fIx_tup, fIx_lst, at3_0, at3_1, at3_2, at3_3, at3_4, at3_5, at3_6, start3, fI0_i, fI_i, fLt, fLe, fGt, fGe, fEqI, fNeI, fMin, fMax, ↓D3.asg3.eq_1, ↓D3.name3.eq_1, ↓D3.sub3.eq_1, ↓D3.ret3.eq_1, ↓D3.retN3.eq_1, ↓D3.nx3.eq_1, ↓D3.drop3.eq_1, ↓D3.par3.eq_1, ↓D3.aug3.eq_1, ↓D3.and3.eq_1, ↓D3.or3.eq_1, ↓D3.not3.eq_1, ↓D3.andV3.eq_1, ↓D3.orV3.eq_1, ↓D3.notV3.eq_1, ↓D3.if3.eq_1, ↓D3.nil3.eq_1, ↓D3.cons3.eq_1, ↓D3.tup3.eq_1, ↓D3.lst3.eq_1, ↓D3.lstM3.eq_1, ↓D3.gtup3.eq_1, ↓D3.gcons3.eq_1, ↓D3.gnil3.eq_1, ↓D3.gunl3.eq_1, ↓D3.bits3.eq_1, ↓D3.neg3.eq_1, ↓D3.chain3.eq_1, fIsi_int_int, fIsi_int_bool, fIsi_int_tuple, fIsi_int_str, fIsi_int_list, fIsi_bl_int, fIsi_bl_bool, fIsi_bl_tuple, fIsi_bl_str, fIsi_bl_list, fIsi_non_int, fIsi_non_bool, fIsi_non_tuple, fIsi_non_str, fIsi_non_list, fIsi_str_int, fIsi_str_bool, fIsi_str_tuple, fIsi_str_str, fIsi_str_list, fIsi_tup_int, fIsi_tup_bool, fIsi_tup_tuple, fIsi_tup_str, fIsi_tup_list, fIsi_lst_int, fIsi_lst_bool, fIsi_lst_tuple, fIsi_lst_str, fIsi_lst_list, fLen_lst, fLen_tup, fAbs, ↓D3.call3_k, ↓D3.kont_app, ↓D3.isN3.eq_1, ↓D3.notN3.eq_1, dIsN_non, dIsN_int, dIsN_bl, dIsN_str, dIsN_tup, dIsN_lst, ↓D3.slc3.eq_1, ↓D3.part3.eq_1, ↓D3.noPart3.eq_1, ↓D3.ilst3.eq_1, ↓D3.itup3.eq_1, ↓D3.irng1.eq_1, ↓D3.irng2.eq_1, ↓D3.for3.eq_1, fCat, fEq_int, fNe_int, fEq_bl, fNe_bl, fEq_pair, fNe_pair, List.map, List.replicate, List.length_cons, List.length_nil, List.set_cons_zero, List.set_cons_succ, List.getElem?_cons_zero, List.getElem?_cons_succ, List.cons_append, List.nil_append, at_0, at_1, at_2, at_3, at_4, at_5, at_6, ix_0, ix_1, ix_2, put_same, put_put, decide_eq_true_eq, Bool.not_eq_true', decide_eq_false_iff_not, ite_not, ite_true, ite_false, if_true, if_false, Bool.false_eq_true, ↓reduceIte, reduceIte, Nat.reduceAdd, Nat.reduceSub, Int.reduceToNat, Nat.reduceLeDiff, not_false_eq_true, true_and, and_true, ne_eq, Int.reduceEq, Nat.zero_add, Bool.not_true, Bool.not_false, reduceCtorEq, nc0, nc1, nc2, nc3, nc4, nc5, fIx_ref put_same, fLen_ref put_same, ↓D3.lc3.eq_1, fInt, fTuple, fList, fNeS_s, fEqS_s, ↓D3.gstar3.eq_1, fInK_s, fNinK_s, fLenS_s, ↓D3.slcT3.eq_1, fCatT_t, ↓D3.app3.eq_1, ↓D3.frz3.eq_1, ↓D3.dc23.eq_1, ↓D3.lcT3.eq_1, ↓D3.litRep3.eq_1, ↓D3.litRepM3.eq_1, ↓D3.rev3.eq_1, ↓D3.dget3.eq_1, ↓D3.disp3.eq_1, ↓D3.ienum3.eq_1, pop3, sset3]))
    refine ⟨p, rfl, hps p h0, h2.1, h2.2, by omega, ?_⟩
    (refine laterP_in ?_; repeat ((first | with_reducible refine laterP_i ?_ | with_reducible refine later_i ?_); try simp -implicitDefEqProofs -dsimp only [↓D3.seq3_stop, ↓D3.ifS3.eq_1, ↓D3.b3.eq_1, ↓D3.op3.eq_1, ↓D3.un3.eq_1, ↓D3.v3.eq_1, ↓D3.c3.eq_1, fIx_tup, fIx_lst, at3_0, at3_1, at3_2, at3_3, at3_4, at3_5, at3_6, start3, fI0_i, fI_i, fLt, fLe, fGt, fGe, fEqI, fNeI, fMin, fMax, ↓D3.asg3.eq_1, ↓D3.name3.eq_1, ↓D3.sub3.eq_1, ↓D3.ret3.eq_1, ↓D3.retN3.eq_1, ↓D3.nx3.eq_1, ↓D3.drop3.eq_1, ↓D3.par3.eq_1, ↓D3.aug3.eq_1, ↓D3.and3.eq_1, ↓D3.or3.eq_1, ↓D3.not3.eq_1, ↓D3.andV3.eq_1, ↓D3.orV3.eq_1, ↓D3.notV3.eq_1, ↓D3.if3.eq_1, ↓D3.nil3.eq_1, ↓D3.cons3.eq_1, ↓D3.tup3.eq_1, ↓D3.lst3.eq_1, ↓D3.lstM3.eq_1, ↓D3.gtup3.eq_1, ↓D3.gcons3.eq_1, ↓D3.gnil3.eq_1, ↓D3.gunl3.eq_1, ↓D3.bits3.eq_1, ↓D3.neg3.eq_1, ↓D3.chain3.eq_1, fIsi_int_int, fIsi_int_bool, fIsi_int_tuple, fIsi_int_str, fIsi_int_list, fIsi_bl_int, fIsi_bl_bool, fIsi_bl_tuple, fIsi_bl_str, fIsi_bl_list, fIsi_non_int, fIsi_non_bool, fIsi_non_tuple, fIsi_non_str, fIsi_non_list, fIsi_str_int, fIsi_str_bool, fIsi_str_tuple, fIsi_str_str, fIsi_str_list, fIsi_tup_int, fIsi_tup_bool, fIsi_tup_tuple, fIsi_tup_str, fIsi_tup_list, fIsi_lst_int, fIsi_lst_bool, fIsi_lst_tuple, fIsi_lst_str, fIsi_lst_list, fLen_lst, fLen_tup, fAbs, ↓D3.call3_k, ↓D3.kont_app, ↓D3.isN3.eq_1, ↓D3.notN3.eq_1, dIsN_non, dIsN_int, dIsN_bl, dIsN_str, dIsN_tup, dIsN_lst, ↓D3.slc3.eq_1, ↓D3.part3.eq_1, ↓D3.noPart3.eq_1, ↓D3.ilst3.eq_1, ↓D3.itup3.eq_1, ↓D3.irng1.eq_1, ↓D3.irng2.eq_1, ↓D3.for3.eq_1, fCat, fEq_int, fNe_int, fEq_bl, fNe_bl, fEq_pair, fNe_pair, List.map, List.replicate, List.length_cons, List.length_nil, List.set_cons_zero, List.set_cons_succ, List.getElem?_cons_zero, List.getElem?_cons_succ, List.cons_append, List.nil_append, at_0, at_1, at_2, at_3, at_4, at_5, at_6, ix_0, ix_1, ix_2, put_same, put_put, decide_eq_true_eq, Bool.not_eq_true', decide_eq_false_iff_not, ite_not, ite_true, ite_false, if_true, if_false, Bool.false_eq_true, ↓reduceIte, reduceIte, Nat.reduceAdd, Nat.reduceSub, Int.reduceToNat, Nat.reduceLeDiff, not_false_eq_true, true_and, and_true, ne_eq, Int.reduceEq, Nat.zero_add, Bool.not_true, Bool.not_false, reduceCtorEq, nc0, nc1, nc2, nc3, nc4, nc5, fIx_ref put_same, fLen_ref put_same, ↓D3.lc3.eq_1, fInt, fTuple, fList, fNeS_s, fEqS_s, ↓D3.gstar3.eq_1, fInK_s, fNinK_s, fLenS_s, ↓D3.slcT3.eq_1, fCatT_t, ↓D3.app3.eq_1, ↓D3.frz3.eq_1, ↓D3.dc23.eq_1, ↓D3.lcT3.eq_1, ↓D3.litRep3.eq_1, ↓D3.litRepM3.eq_1, ↓D3.rev3.eq_1, ↓D3.dget3.eq_1, ↓D3.disp3.eq_1, ↓D3.ienum3.eq_1, pop3, sset3]))
    refine hnx _ _ ⟨rfl, t + cntD p, _, by rw [show (t : Int) + (cntD p : Int) = ((t + cntD p : Nat) : Int) by omega], fun z hz => hm z (List.mem_cons_of_mem _ hz), ?_⟩
    rw [List.map_cons, List.sum_cons] at hs
    omega
  · rintro ρ m' ⟨rfl, t, x, rfl, _, hs⟩
    (refine laterP_in ?_; repeat ((first | with_reducible refine laterP_i ?_ | with_reducible refine later_i ?_); try simp -implicitDefEqProofs -dsimp only [↓D3.seq3_stop, ↓D3.ifS3.eq_1, ↓D3.b3.eq_1, ↓D3.op3.eq_1, ↓D3.un3.eq_1, ↓D3.v3.eq_1, ↓D3.c3.eq_1, fIx_tup, fIx_lst, at3_0, at3_1, at3_2, at3_3, at3_4, at3_5, at3_6, start3, fI0_i, fI_i, fLt, fLe, fGt, fGe, fEqI, fNeI, fMin, fMax, ↓D3.asg3.eq_1, ↓D3.name3.eq_1, ↓D3.sub3.eq_1, ↓D3.ret3.eq_1, ↓D3.retN3.eq_1, ↓D3.nx3.eq_1, ↓D3.drop3.eq_1, ↓D3.par3.eq_1, ↓D3.aug3.eq_1, ↓D3.and3.eq_1, ↓D3.or3.eq_1, ↓D3.not3.eq_1, ↓D3.andV3.eq_1, ↓D3.orV3.eq_1, ↓D3.notV3.eq_1, ↓D3.if3.eq_1, ↓D3.nil3.eq_1, ↓D3.cons3.eq_1, ↓D3.tup3.eq_1, ↓D3.lst3.eq_1, ↓D3.lstM3.eq_1, ↓D3.gtup3.eq_1, ↓D3.gcons3.eq_1, ↓D3.gnil3.eq_1, ↓D3.gunl3.eq_1, ↓D3.bits3.eq_1, ↓D3.neg3.eq_1, ↓D3.chain3.eq_1, fIsi_int_int, fIsi_int_bool, fIsi_int_tuple, fIsi_int_str, fIsi_int_list, fIsi_bl_int, fIsi_bl_bool, fIsi_bl_tuple, fIsi_bl_str, fIsi_bl_list, fIsi_non_int, fIsi_non_bool, fIsi_non_tuple, fIsi_non_str, fIsi_non_list, fIsi_str_int, fIsi_str_bool, fIsi_str_tuple, fIsi_str_str, fIsi_str_list, fIsi_tup_int, fIsi_tup_bool, fIsi_tup_tuple, fIsi_tup_str, fIsi_tup_list, fIsi_lst_int, fIsi_lst_bool, fIsi_lst_tuple, fIsi_lst_str, fIsi_lst_list, fLen_lst, fLen_tup, fAbs, ↓D3.call3_k, ↓D3.kont_app, ↓D3.isN3.eq_1, ↓D3.notN3.eq_1, dIsN_non, dIsN_int, dIsN_bl, dIsN_str, dIsN_tup, dIsN_lst, ↓D3.slc3.eq_1, ↓D3.part3.eq_1, ↓D3.noPart3.eq_1, ↓D3.ilst3.eq_1, ↓D3.itup3.eq_1, ↓D3.irng1.eq_1, ↓D3.irng2.eq_1, ↓D3.for3.eq_1, fCat, fEq_int, fNe_int, fEq_bl, fNe_bl, fEq_pair, fNe_pair, List.map, List.replicate, List.length_cons, List.length_nil, List.set_cons_zero, List.set_cons_succ, List.getElem?_cons_zero, List.getElem?_cons_succ, List.cons_append, List.nil_append, at_0, at_1, at_2, at_3, at_4, at_5, at_6, ix_0, ix_1, ix_2, put_same, put_put, decide_eq_true_eq, Bool.not_eq_true', decide_eq_false_iff_not, ite_not, ite_true, ite_false, if_true, if_false, Bool.false_eq_true, ↓reduceIte, reduceIte, Nat.reduceAdd, Nat.reduceSub, Int.reduceToNat, Nat.reduceLeDiff, not_false_eq_true, true_and, and_true, ne_eq, Int.reduceEq, Nat.zero_add, Bool.not_true, Bool.not_false, reduceCtorEq, nc0, nc1, nc2, nc3, nc4, nc5, fIx_ref put_same, fLen_ref put_same, ↓D3.lc3.eq_1, fInt, fTuple, fList, fNeS_s, fEqS_s, ↓D3.gstar3.eq_1, fInK_s, fNinK_s, fLenS_s, ↓D3.slcT3.eq_1, fCatT_t, ↓D3.app3.eq_1, ↓D3.frz3.eq_1, ↓D3.dc23.eq_1, ↓D3.lcT3.eq_1, ↓D3.litRep3.eq_1, ↓D3.litRepM3.eq_1, ↓D3.rev3.eq_1, ↓D3.dget3.eq_1, ↓D3.disp3.eq_1, ↓D3.ienum3.eq_1, pop3, sset3]))
    rw [← hs] at q
    exact q
theorem ok_ptN (T : Tx w K mg fa fd) {N : List Str} : ∀ e : Nat, Fn3 P w K mg base (e + 4) (fa 6) (fd 6) ["term"] (sp_ptN N e)
  | 0 => fn_never
  | e + 1 => ok_ptS T e (ok_ptN T e)
theorem ok_law_deck (T : Tx w K mg fa fd) : Fn3 P w K mg base 1 (fa 8) (fd 8) ["cell", "turn"] sp_deck := by
  refine fn3 T.d_law_deck.F sc_law_deck (fun ds m Q h => by obtain ⟨_, rfl, _⟩ := h; rfl) fun cdv A outer s H E ds m Q hr h => ?_
  obtain ⟨cell, rfl, q⟩ := h
  refine ⟨_, (ss_cons (s_if (t_ge (e_v 0) (e_pow e_int e_int)) (ss_one (s_ret (e_lstM (a_cons (e_sub (e_v 0) (e_pow e_int e_int)) (a_cons (e_mod (e_v 0) e_int) (a_cons (e_v 1) a_nil)))))) ss_nil)
      (ss_one (s_ret (e_lstM (a_cons e_int (a_cons (e_mod (e_v 0) e_int) (a_cons (e_v 1) a_nil))))))), ?_⟩
  try simp -implicitDefEqProofs -dsimp only [seq3, ↓D3.ifS3.eq_1, ↓D3.b3.eq_1, ↓D3.op3.eq_1, ↓D3.un3.eq_1, ↓D3.v3.eq_1, ↓D3.c3.eq_1, fIx_tup, fIx_lst, at3_0, at3_1, at3_2, at3_3, at3_4, at3_5, at3_6, start3, fI0_i, fI_i, fLt, fLe, fGt, fGe, fEqI, fNeI, fMin, fMax, ↓D3.asg3.eq_1, ↓D3.name3.eq_1, ↓D3.sub3.eq_1, ↓D3.ret3.eq_1, ↓D3.retN3.eq_1, ↓D3.nx3.eq_1, ↓D3.drop3.eq_1, ↓D3.par3.eq_1, ↓D3.aug3.eq_1, ↓D3.and3.eq_1, ↓D3.or3.eq_1, ↓D3.not3.eq_1, ↓D3.andV3.eq_1, ↓D3.orV3.eq_1, ↓D3.notV3.eq_1, ↓D3.if3.eq_1, ↓D3.nil3.eq_1, ↓D3.cons3.eq_1, ↓D3.tup3.eq_1, ↓D3.lst3.eq_1, ↓D3.lstM3.eq_1, ↓D3.gtup3.eq_1, ↓D3.gcons3.eq_1, ↓D3.gnil3.eq_1, ↓D3.gunl3.eq_1, ↓D3.bits3.eq_1, ↓D3.neg3.eq_1, ↓D3.chain3.eq_1, fIsi_int_int, fIsi_int_bool, fIsi_int_tuple, fIsi_int_str, fIsi_int_list, fIsi_bl_int, fIsi_bl_bool, fIsi_bl_tuple, fIsi_bl_str, fIsi_bl_list, fIsi_non_int, fIsi_non_bool, fIsi_non_tuple, fIsi_non_str, fIsi_non_list, fIsi_str_int, fIsi_str_bool, fIsi_str_tuple, fIsi_str_str, fIsi_str_list, fIsi_tup_int, fIsi_tup_bool, fIsi_tup_tuple, fIsi_tup_str, fIsi_tup_list, fIsi_lst_int, fIsi_lst_bool, fIsi_lst_tuple, fIsi_lst_str, fIsi_lst_list, fLen_lst, fLen_tup, fAbs, ↓D3.call3_k, ↓D3.kont_app, ↓D3.isN3.eq_1, ↓D3.notN3.eq_1, dIsN_non, dIsN_int, dIsN_bl, dIsN_str, dIsN_tup, dIsN_lst, ↓D3.slc3.eq_1, ↓D3.part3.eq_1, ↓D3.noPart3.eq_1, ↓D3.ilst3.eq_1, ↓D3.itup3.eq_1, ↓D3.irng1.eq_1, ↓D3.irng2.eq_1, ↓D3.for3.eq_1, fCat, fEq_int, fNe_int, fEq_bl, fNe_bl, fEq_pair, fNe_pair, List.map, List.replicate, List.length_cons, List.length_nil, List.set_cons_zero, List.set_cons_succ, List.getElem?_cons_zero, List.getElem?_cons_succ, List.cons_append, List.nil_append, at_0, at_1, at_2, at_3, at_4, at_5, at_6, ix_0, ix_1, ix_2, put_same, put_put, decide_eq_true_eq, Bool.not_eq_true', decide_eq_false_iff_not, ite_not, ite_true, ite_false, if_true, if_false, Bool.false_eq_true, ↓reduceIte, reduceIte, Nat.reduceAdd, Nat.reduceSub, Int.reduceToNat, Nat.reduceLeDiff, not_false_eq_true, true_and, and_true, ne_eq, Int.reduceEq, Nat.zero_add, Bool.not_true, Bool.not_false, reduceCtorEq, nc0, nc1, nc2, nc3, nc4, nc5, fIx_ref put_same, fLen_ref put_same, ↓D3.lc3.eq_1, fInt, fTuple, fList, fNeS_s, fEqS_s, ↓D3.gstar3.eq_1, fInK_s, fNinK_s, fLenS_s, ↓D3.slcT3.eq_1, fCatT_t, ↓D3.app3.eq_1, ↓D3.frz3.eq_1, ↓D3.dc23.eq_1, ↓D3.lcT3.eq_1, ↓D3.litRep3.eq_1, ↓D3.litRepM3.eq_1, ↓D3.rev3.eq_1, ↓D3.dget3.eq_1, ↓D3.disp3.eq_1, ↓D3.ienum3.eq_1, pop3, sset3]
  have hb := fmod_b cell (b := 2147483579) (by decide)
  refine ⟨c_pow (by decide) (by decide) (by decide), ite2 (fun h => ⟨c_pow (by decide) (by decide) (by decide), fun p hp => q p _ hp Off.put ⟨_, _, _, put_same, by omega, by omega, by omega, by omega⟩⟩) (fun h => fun p hp => q p _ hp Off.put ⟨_, _, _, put_same, by omega, by omega, by omega, by omega⟩)⟩
theorem ok_law_pick (T : Tx w K mg fa fd) : Fn3 P w K mg base 1 (fa 9) (fd 9) ["deck", "many"] sp_pick := by
  refine fn3 T.d_law_pick.F sc_law_pick (fun ds m Q h => by obtain ⟨_, _, _, rfl, _⟩ := h; rfl) fun cdv A outer s H E ds m Q hr h => ?_
  obtain ⟨p, many, n, rfl, ⟨a, b, c, hm, b0, b1, c0, c1⟩, hp, hl, q⟩ := h
  refine ⟨_, (ss_cons (s_if (t_gt (e_ix (e_v 0) e_int) e_int) (ss_cons (s_set (i := 2) sc_law_pick.nd (e_mod (e_ix (e_v 0) e_int) (e_v 1)))
      (ss_cons (s_asg (e_fdiv (e_ix (e_v 0) e_int) (e_v 1)) (g_sub (e_v 0) e_int))
      (ss_one (s_ret (e_v 2))))) ss_nil)
      (ss_cons (s_asg (e_add (e_ix (e_v 0) e_int) e_int) (g_sub (e_v 0) e_int))
      (ss_cons (s_set (i := 3) sc_law_pick.nd (e_mod (e_pow (e_add (e_ix (e_v 0) e_int) (e_mul e_int (e_ix (e_v 0) e_int))) e_int) e_int))
      (ss_cons (s_set (i := 2) sc_law_pick.nd (e_fdiv (e_mod (e_pow (e_add (e_v 3) (e_mul e_int (e_ix (e_v 0) e_int))) e_int) e_int) e_int))
      (ss_cons (s_if (t_gt (e_v 1) e_int) (ss_one (s_ret (e_mod (e_add (e_mul (e_v 2) e_int) (e_v 3)) (e_v 1)))) ss_nil)
      (ss_one (s_ret (e_mod (e_v 2) (e_v 1))))))))), ?_⟩
  try simp -implicitDefEqProofs -dsimp only [seq3, ↓D3.ifS3.eq_1, ↓D3.b3.eq_1, ↓D3.op3.eq_1, ↓D3.un3.eq_1, ↓D3.v3.eq_1, ↓D3.c3.eq_1, fIx_tup, fIx_lst, at3_0, at3_1, at3_2, at3_3, at3_4, at3_5, at3_6, start3, fI0_i, fI_i, fLt, fLe, fGt, fGe, fEqI, fNeI, fMin, fMax, ↓D3.asg3.eq_1, ↓D3.name3.eq_1, ↓D3.sub3.eq_1, ↓D3.ret3.eq_1, ↓D3.retN3.eq_1, ↓D3.nx3.eq_1, ↓D3.drop3.eq_1, ↓D3.par3.eq_1, ↓D3.aug3.eq_1, ↓D3.and3.eq_1, ↓D3.or3.eq_1, ↓D3.not3.eq_1, ↓D3.andV3.eq_1, ↓D3.orV3.eq_1, ↓D3.notV3.eq_1, ↓D3.if3.eq_1, ↓D3.nil3.eq_1, ↓D3.cons3.eq_1, ↓D3.tup3.eq_1, ↓D3.lst3.eq_1, ↓D3.lstM3.eq_1, ↓D3.gtup3.eq_1, ↓D3.gcons3.eq_1, ↓D3.gnil3.eq_1, ↓D3.gunl3.eq_1, ↓D3.bits3.eq_1, ↓D3.neg3.eq_1, ↓D3.chain3.eq_1, fIsi_int_int, fIsi_int_bool, fIsi_int_tuple, fIsi_int_str, fIsi_int_list, fIsi_bl_int, fIsi_bl_bool, fIsi_bl_tuple, fIsi_bl_str, fIsi_bl_list, fIsi_non_int, fIsi_non_bool, fIsi_non_tuple, fIsi_non_str, fIsi_non_list, fIsi_str_int, fIsi_str_bool, fIsi_str_tuple, fIsi_str_str, fIsi_str_list, fIsi_tup_int, fIsi_tup_bool, fIsi_tup_tuple, fIsi_tup_str, fIsi_tup_list, fIsi_lst_int, fIsi_lst_bool, fIsi_lst_tuple, fIsi_lst_str, fIsi_lst_list, fLen_lst, fLen_tup, fAbs, ↓D3.call3_k, ↓D3.kont_app, ↓D3.isN3.eq_1, ↓D3.notN3.eq_1, dIsN_non, dIsN_int, dIsN_bl, dIsN_str, dIsN_tup, dIsN_lst, ↓D3.slc3.eq_1, ↓D3.part3.eq_1, ↓D3.noPart3.eq_1, ↓D3.ilst3.eq_1, ↓D3.itup3.eq_1, ↓D3.irng1.eq_1, ↓D3.irng2.eq_1, ↓D3.for3.eq_1, fCat, fEq_int, fNe_int, fEq_bl, fNe_bl, fEq_pair, fNe_pair, List.map, List.replicate, List.length_cons, List.length_nil, List.set_cons_zero, List.set_cons_succ, List.getElem?_cons_zero, List.getElem?_cons_succ, List.cons_append, List.nil_append, at_0, at_1, at_2, at_3, at_4, at_5, at_6, ix_0, ix_1, ix_2, put_same, put_put, decide_eq_true_eq, Bool.not_eq_true', decide_eq_false_iff_not, ite_not, ite_true, ite_false, if_true, if_false, Bool.false_eq_true, ↓reduceIte, reduceIte, Nat.reduceAdd, Nat.reduceSub, Int.reduceToNat, Nat.reduceLeDiff, not_false_eq_true, true_and, and_true, ne_eq, Int.reduceEq, Nat.zero_add, Bool.not_true, Bool.not_false, reduceCtorEq, nc0, nc1, nc2, nc3, nc4, nc5, fIx_ref put_same, fLen_ref put_same, ↓D3.lc3.eq_1, fInt, fTuple, fList, fNeS_s, fEqS_s, ↓D3.gstar3.eq_1, fInK_s, fNinK_s, fLenS_s, ↓D3.slcT3.eq_1, fCatT_t, ↓D3.app3.eq_1, ↓D3.frz3.eq_1, ↓D3.dc23.eq_1, ↓D3.lcT3.eq_1, ↓D3.litRep3.eq_1, ↓D3.litRepM3.eq_1, ↓D3.rev3.eq_1, ↓D3.dget3.eq_1, ↓D3.disp3.eq_1, ↓D3.ienum3.eq_1, pop3, sset3, hm, fIx_ref hm]
  refine ite2 (fun h => ⟨by omega, c_fdiv hp hl (by decide) (by decide), ?_⟩) (fun h => ?_)
  · obtain ⟨r0, r1⟩ := fmod_b a hp
    exact q _ _ r0 r1 Off.put ⟨_, _, _, put_same, b0, b1, c0, by omega⟩
  · have e1 := fmod_b ((b + 15485867 * (c + 1)) ^ 5) (b := 2147483647) (by decide)
    generalize ((b + 15485867 * (c + 1)) ^ 5).fmod 2147483647 = num at e1 ⊢
    have e2 := fmod_b ((num + 7919 * (c + 1)) ^ 3) (b := 2147483629) (by decide)
    generalize ((num + 7919 * (c + 1)) ^ 3).fmod 2147483629 = f0 at e2 ⊢
    have e3 := fdiv_e f0 (b := 32) (by decide)
    generalize f0.fdiv 32 = f at e3 ⊢
    refine ⟨c_mul64 (by decide) (by omega), c_pow (by decide) (by decide) (by omega), c_mul64 (by decide) (by omega), c_pow (by decide) (by decide) (by omega), c_fdiv (b := 6) (by decide) (by decide) (by decide) (by decide), ite2 (fun h => ⟨c_mul64 (by omega) (by decide), by omega, ?_⟩) (fun h => ⟨by omega, ?_⟩)⟩
    · obtain ⟨r0, r1⟩ := fmod_b (f * 2147483563 + num) hp
      exact q _ _ r0 r1 Off.put ⟨_, _, _, put_same, b0, b1, by omega, by omega⟩
    · obtain ⟨r0, r1⟩ := fmod_b f hp
      exact q _ _ r0 r1 Off.put ⟨_, _, _, put_same, b0, b1, by omega, by omega⟩
def sp_fraction : Sp3 := fun ds m P => ∃ a b : Int, ds = [.int a, .int b] ∧ b ≠ 0 ∧ a.natAbs < 2 ^ 400 ∧ b.natAbs < 2 ^ 400 ∧ ∀ t u : Int, 0 < u → t * b = a * u → Int.gcd t u = 1 → t.natAbs ≤ a.natAbs → u.natAbs ≤ b.natAbs → P (.tup [.int t, .int u]) m
theorem ok_law_fraction (T : Tx w K mg fa fd) : Fn3 P w K mg base 1 (fa 10) (fd 10) ["top", "bottom"] sp_fraction := by
  refine fn3 T.d_law_fraction.F sc_law_fraction (fun ds m Q h => by obtain ⟨_, _, rfl, _⟩ := h; rfl) fun cdv A outer s H E ds m Q hr h => ?_
  obtain ⟨a, b, rfl, hb, la, lb, q⟩ := h
  refine ⟨_, (ss_cons (s_par (i := 2) (j := 3) rfl sc_law_fraction.nd rfl rfl (by decide) rfl rfl (a_cons (e_abs rfl T.b_abs (e_v 0)) (a_cons (e_abs rfl T.b_abs (e_v 1)) a_nil)) (by rfl))
      (ss_cons (s_while PassesOwn.never (t_neI (e_v 3) e_int) (ss_one (s_par (i := 2) (j := 3) rfl sc_law_fraction.nd rfl rfl (by decide) rfl rfl (a_cons (e_v 3) (a_cons (e_mod (e_v 2) (e_v 3)) a_nil)) (by rfl))))
      (ss_cons (s_if (t_lt (e_v 1) e_int) (ss_one (s_ret (e_tup (a_cons (e_sub e_int (e_fdiv (e_v 0) (e_v 2))) (a_cons (e_sub e_int (e_fdiv (e_v 1) (e_v 2))) a_nil))))) ss_nil)
      (ss_one (s_ret (e_tup (a_cons (e_fdiv (e_v 0) (e_v 2)) (a_cons (e_fdiv (e_v 1) (e_v 2)) a_nil)))))))), ?_⟩
  try simp -implicitDefEqProofs -dsimp only [seq3, ↓D3.ifS3.eq_1, ↓D3.b3.eq_1, ↓D3.op3.eq_1, ↓D3.un3.eq_1, ↓D3.v3.eq_1, ↓D3.c3.eq_1, fIx_tup, fIx_lst, at3_0, at3_1, at3_2, at3_3, at3_4, at3_5, at3_6, start3, fI0_i, fI_i, fLt, fLe, fGt, fGe, fEqI, fNeI, fMin, fMax, ↓D3.asg3.eq_1, ↓D3.name3.eq_1, ↓D3.sub3.eq_1, ↓D3.ret3.eq_1, ↓D3.retN3.eq_1, ↓D3.nx3.eq_1, ↓D3.drop3.eq_1, ↓D3.par3.eq_1, ↓D3.aug3.eq_1, ↓D3.and3.eq_1, ↓D3.or3.eq_1, ↓D3.not3.eq_1, ↓D3.andV3.eq_1, ↓D3.orV3.eq_1, ↓D3.notV3.eq_1, ↓D3.if3.eq_1, ↓D3.nil3.eq_1, ↓D3.cons3.eq_1, ↓D3.tup3.eq_1, ↓D3.lst3.eq_1, ↓D3.lstM3.eq_1, ↓D3.gtup3.eq_1, ↓D3.gcons3.eq_1, ↓D3.gnil3.eq_1, ↓D3.gunl3.eq_1, ↓D3.bits3.eq_1, ↓D3.neg3.eq_1, ↓D3.chain3.eq_1, fIsi_int_int, fIsi_int_bool, fIsi_int_tuple, fIsi_int_str, fIsi_int_list, fIsi_bl_int, fIsi_bl_bool, fIsi_bl_tuple, fIsi_bl_str, fIsi_bl_list, fIsi_non_int, fIsi_non_bool, fIsi_non_tuple, fIsi_non_str, fIsi_non_list, fIsi_str_int, fIsi_str_bool, fIsi_str_tuple, fIsi_str_str, fIsi_str_list, fIsi_tup_int, fIsi_tup_bool, fIsi_tup_tuple, fIsi_tup_str, fIsi_tup_list, fIsi_lst_int, fIsi_lst_bool, fIsi_lst_tuple, fIsi_lst_str, fIsi_lst_list, fLen_lst, fLen_tup, fAbs, ↓D3.call3_k, ↓D3.kont_app, ↓D3.isN3.eq_1, ↓D3.notN3.eq_1, dIsN_non, dIsN_int, dIsN_bl, dIsN_str, dIsN_tup, dIsN_lst, ↓D3.slc3.eq_1, ↓D3.part3.eq_1, ↓D3.noPart3.eq_1, ↓D3.ilst3.eq_1, ↓D3.itup3.eq_1, ↓D3.irng1.eq_1, ↓D3.irng2.eq_1, ↓D3.for3.eq_1, fCat, fEq_int, fNe_int, fEq_bl, fNe_bl, fEq_pair, fNe_pair, List.map, List.replicate, List.length_cons, List.length_nil, List.set_cons_zero, List.set_cons_succ, List.getElem?_cons_zero, List.getElem?_cons_succ, List.cons_append, List.nil_append, at_0, at_1, at_2, at_3, at_4, at_5, at_6, ix_0, ix_1, ix_2, put_same, put_put, decide_eq_true_eq, Bool.not_eq_true', decide_eq_false_iff_not, ite_not, ite_true, ite_false, if_true, if_false, Bool.false_eq_true, ↓reduceIte, reduceIte, Nat.reduceAdd, Nat.reduceSub, Int.reduceToNat, Nat.reduceLeDiff, not_false_eq_true, true_and, and_true, ne_eq, Int.reduceEq, Nat.zero_add, Bool.not_true, Bool.not_false, reduceCtorEq, nc0, nc1, nc2, nc3, nc4, nc5, fIx_ref put_same, fLen_ref put_same, ↓D3.lc3.eq_1, fInt, fTuple, fList, fNeS_s, fEqS_s, ↓D3.gstar3.eq_1, fInK_s, fNinK_s, fLenS_s, ↓D3.slcT3.eq_1, fCatT_t, ↓D3.app3.eq_1, ↓D3.frz3.eq_1, ↓D3.dc23.eq_1, ↓D3.lcT3.eq_1, ↓D3.litRep3.eq_1, ↓D3.litRepM3.eq_1, ↓D3.rev3.eq_1, ↓D3.dget3.eq_1, ↓D3.disp3.eq_1, ↓D3.ienum3.eq_1, pop3, sset3]
  refine ⟨fun n ρ m' => ∃ x y : Int, ρ = [some (.int a), some (.int b), some (.int x), some (.int y)] ∧ m' = m ∧ 0 ≤ x ∧ 0 ≤ y ∧ n = y.toNat ∧ Int.gcd x y = Int.gcd a b, ⟨_, _, _, rfl, rfl, by split <;> omega, by split <;> omega, rfl, gcd_abs a b⟩, ?_⟩
  rintro n ρ m' ⟨x, y, rfl, rfl, hx, hy, rfl, hg⟩
  try simp -implicitDefEqProofs -dsimp only [seq3, ↓D3.ifS3.eq_1, ↓D3.b3.eq_1, ↓D3.op3.eq_1, ↓D3.un3.eq_1, ↓D3.v3.eq_1, ↓D3.c3.eq_1, fIx_tup, fIx_lst, at3_0, at3_1, at3_2, at3_3, at3_4, at3_5, at3_6, start3, fI0_i, fI_i, fLt, fLe, fGt, fGe, fEqI, fNeI, fMin, fMax, ↓D3.asg3.eq_1, ↓D3.name3.eq_1, ↓D3.sub3.eq_1, ↓D3.ret3.eq_1, ↓D3.retN3.eq_1, ↓D3.nx3.eq_1, ↓D3.drop3.eq_1, ↓D3.par3.eq_1, ↓D3.aug3.eq_1, ↓D3.and3.eq_1, ↓D3.or3.eq_1, ↓D3.not3.eq_1, ↓D3.andV3.eq_1, ↓D3.orV3.eq_1, ↓D3.notV3.eq_1, ↓D3.if3.eq_1, ↓D3.nil3.eq_1, ↓D3.cons3.eq_1, ↓D3.tup3.eq_1, ↓D3.lst3.eq_1, ↓D3.lstM3.eq_1, ↓D3.gtup3.eq_1, ↓D3.gcons3.eq_1, ↓D3.gnil3.eq_1, ↓D3.gunl3.eq_1, ↓D3.bits3.eq_1, ↓D3.neg3.eq_1, ↓D3.chain3.eq_1, fIsi_int_int, fIsi_int_bool, fIsi_int_tuple, fIsi_int_str, fIsi_int_list, fIsi_bl_int, fIsi_bl_bool, fIsi_bl_tuple, fIsi_bl_str, fIsi_bl_list, fIsi_non_int, fIsi_non_bool, fIsi_non_tuple, fIsi_non_str, fIsi_non_list, fIsi_str_int, fIsi_str_bool, fIsi_str_tuple, fIsi_str_str, fIsi_str_list, fIsi_tup_int, fIsi_tup_bool, fIsi_tup_tuple, fIsi_tup_str, fIsi_tup_list, fIsi_lst_int, fIsi_lst_bool, fIsi_lst_tuple, fIsi_lst_str, fIsi_lst_list, fLen_lst, fLen_tup, fAbs, ↓D3.call3_k, ↓D3.kont_app, ↓D3.isN3.eq_1, ↓D3.notN3.eq_1, dIsN_non, dIsN_int, dIsN_bl, dIsN_str, dIsN_tup, dIsN_lst, ↓D3.slc3.eq_1, ↓D3.part3.eq_1, ↓D3.noPart3.eq_1, ↓D3.ilst3.eq_1, ↓D3.itup3.eq_1, ↓D3.irng1.eq_1, ↓D3.irng2.eq_1, ↓D3.for3.eq_1, fCat, fEq_int, fNe_int, fEq_bl, fNe_bl, fEq_pair, fNe_pair, List.map, List.replicate, List.length_cons, List.length_nil, List.set_cons_zero, List.set_cons_succ, List.getElem?_cons_zero, List.getElem?_cons_succ, List.cons_append, List.nil_append, at_0, at_1, at_2, at_3, at_4, at_5, at_6, ix_0, ix_1, ix_2, put_same, put_put, decide_eq_true_eq, Bool.not_eq_true', decide_eq_false_iff_not, ite_not, ite_true, ite_false, if_true, if_false, Bool.false_eq_true, ↓reduceIte, reduceIte, Nat.reduceAdd, Nat.reduceSub, Int.reduceToNat, Nat.reduceLeDiff, not_false_eq_true, true_and, and_true, ne_eq, Int.reduceEq, Nat.zero_add, Bool.not_true, Bool.not_false, reduceCtorEq, nc0, nc1, nc2, nc3, nc4, nc5, fIx_ref put_same, fLen_ref put_same, ↓D3.lc3.eq_1, fInt, fTuple, fList, fNeS_s, fEqS_s, ↓D3.gstar3.eq_1, fInK_s, fNinK_s, fLenS_s, ↓D3.slcT3.eq_1, fCatT_t, ↓D3.app3.eq_1, ↓D3.frz3.eq_1, ↓D3.dc23.eq_1, ↓D3.lcT3.eq_1, ↓D3.litRep3.eq_1, ↓D3.litRepM3.eq_1, ↓D3.rev3.eq_1, ↓D3.dget3.eq_1, ↓D3.disp3.eq_1, ↓D3.ienum3.eq_1, pop3, sset3]
  refine ite2 (fun h => ?_) (fun h => ⟨h, (x.fmod y).toNat, by have := fmod_b x (show 0 < y by omega); omega, _, _, rfl, hy, (fmod_b x (show 0 < y by omega)).1, rfl, by rw [fmod_e x (show 0 < y by omega), gcd_step hx (by omega), hg]⟩)
  · subst h
    have hx2 : x = (Int.gcd a b : Nat) := by
      rw [← hg, Int.gcd_zero_right]
      omega
    obtain ⟨g0, e1, e2, e3, e4, e5⟩ := frac_div hb hx2
    have lx : x.natAbs < 2 ^ 400 := by
      have : x.natAbs ≤ b.natAbs := by
        conv => rhs; rw [← e2]
        rw [Int.natAbs_mul]
        refine Nat.le_mul_of_pos_left _ ?_
        refine Int.natAbs_pos.mpr fun z => ?_
        rw [z, Int.zero_mul] at e2
        exact hb e2.symm
      omega
    rw [fdiv_e a g0, fdiv_e b g0]
    have eq : a / x * b = a * (b / x) := by
      conv => lhs; rw [← e2]
      conv => rhs; rw [← e1]
      grind
    have hs : b / x < 0 ↔ b < 0 := by
      constructor
      · intro h; rw [← e2]; exact Int.mul_neg_of_neg_of_pos h g0
      · intro h; exact Int.ediv_neg_of_neg_of_pos h g0
    have hz : b / x ≠ 0 := fun z => by
      rw [z, Int.zero_mul] at e2
      exact hb e2.symm
    refine ite2 (fun h => ⟨c_fdiv g0 lx (by decide) (by decide), c_fdiv g0 lx (by decide) (by decide), ?_⟩) (fun h => ⟨c_fdiv g0 lx (by decide) (by decide), c_fdiv g0 lx (by decide) (by decide), ?_⟩)
    · refine q _ _ (by omega) ?_ ?_ (by omega) (by omega)
      · rw [Int.zero_sub, Int.zero_sub, Int.neg_mul, Int.mul_neg, eq]
      · rw [Int.zero_sub, Int.zero_sub, Int.neg_gcd, Int.gcd_neg, e3]
    · exact q _ _ (by omega) eq e3 e4 e5
def sp_leaf : Sp3 := fun ds m P => ∃ (a : Addr) (n : Nat) (ns : List Str), ds = [.ref a, .lst (ns.map D.str)] ∧ Nms ns ∧ ns.length ≤ 10 ∧ DeckAt m a (n + 4) ∧ ∀ d m' (e : Nat), (∀ e : Nat, Wt ns (e + 1) d) → Off a m m' → DeckAt m' a n → P d m'
theorem nms_pl {ns : List Str} (h : Nms ns) : Pl 140 (.lst (ns.map D.str)) := Pls_of fun d hd => by
  obtain ⟨x, hx, rfl⟩ := List.mem_map.mp hd
  exact h x hx
theorem nms_dp (ns : List Str) : dp (.lst (ns.map D.str)) ≤ 1 := by
  rw [dp]
  have : dps (ns.map D.str) ≤ 0 := dps_of fun d hd => by
    obtain ⟨x, hx, rfl⟩ := List.mem_map.mp hd
    exact Nat.le_refl _
  omega
/-- names != [] -/
theorem fNe_names {ns : List Str} (h : Nms ns) {m : Mem} {P : DK} : fNe (.lst (ns.map D.str)) (.lst []) m P = P (.bl (!ns.isEmpty)) m := by
  rw [fNe_pl (n := 140) (k := 140) (nms_pl h) (show Pl 140 (.lst []) from trivial) (by have := nms_dp ns; omega) (by simp [dp, dps])]
  cases ns with
  | nil => rfl
  | cons x ns => rw [show PyData.eqv (pyOf (.lst ((x :: ns).map D.str))) (pyOf (.lst [])) = false from by simp [pyOf, pysOf, PyData.eqv, PyData.eqvAll]]; rfl
theorem sm_fr {t u a b : Int} (hu : 0 < u) (hg : Int.gcd t u = 1) (h1 : t.natAbs ≤ a.natAbs) (h2 : u.natAbs ≤ b.natAbs) (ha : a.natAbs < 1024) (hb : b.natAbs < 1024) : SmFr t u := ⟨hu, hg, by omega, by omega⟩
theorem ok_law_leaf (T : Tx w K mg fa fd) : Fn3 P w K mg base 2 (fa 11) (fd 11) ["deck", "names"] sp_leaf := by
  refine fn3 T.d_law_leaf.F sc_law_leaf (fun ds m Q h => by obtain ⟨_, _, _, rfl, _⟩ := h; rfl) fun cdv A outer s H E ds m Q hr h => ?_
  obtain ⟨a, n, ns, rfl, hn, hl, hd, q⟩ := h
  refine ⟨_, (ss_cons (s_set (i := 2) sc_law_leaf.nd (e_call T.d_law_pick (ok_law_pick T) (hr.mono (by omega)) rfl (a_cons (e_v 0) (a_cons e_int a_nil))))
      (ss_cons (s_if (t_w (t_and (t_lt (e_v 2) e_int) (t_and1 (t_ne hr (e_v 1) (e_lst a_nil))))) (ss_one (s_ret (e_tup (a_cons e_str (a_cons (e_ix (e_v 1) (e_call T.d_law_pick (ok_law_pick T) (hr.mono (by omega)) rfl (a_cons (e_v 0) (a_cons (e_len rfl T.b_len (e_v 1)) a_nil)))) a_nil))))) ss_nil)
      (ss_cons (s_if (t_eqI (e_v 2) e_int) (ss_one (s_ret (e_tup (a_cons e_str a_nil)))) ss_nil)
      (ss_cons (s_set (i := 3) sc_law_leaf.nd (e_ix (e_lst (a_cons e_int (a_cons e_int (a_cons e_int (a_cons e_int (a_cons e_int a_nil)))))) (e_call T.d_law_pick (ok_law_pick T) (hr.mono (by omega)) rfl (a_cons (e_v 0) (a_cons e_int a_nil)))))
      (ss_one (s_ret (e_tup (a_cons e_str (a_cons (e_call T.d_law_fraction (ok_law_fraction T) (hr.mono (by omega)) rfl (a_cons (e_sub (e_call T.d_law_pick (ok_law_pick T) (hr.mono (by omega)) rfl (a_cons (e_v 0) (a_cons e_int a_nil))) e_int) (a_cons (e_v 3) a_nil))) a_nil))))))))), ?_⟩
  (refine laterP_in ?_; repeat ((first | with_reducible refine laterP_i ?_ | with_reducible refine later_i ?_); try simp -implicitDefEqProofs -dsimp only [↓D3.seq3_stop, ↓D3.ifS3.eq_1, ↓D3.b3.eq_1, ↓D3.op3.eq_1, ↓D3.un3.eq_1, ↓D3.v3.eq_1, ↓D3.c3.eq_1, fIx_tup, fIx_lst, at3_0, at3_1, at3_2, at3_3, at3_4, at3_5, at3_6, start3, fI0_i, fI_i, fLt, fLe, fGt, fGe, fEqI, fNeI, fMin, fMax, ↓D3.asg3.eq_1, ↓D3.name3.eq_1, ↓D3.sub3.eq_1, ↓D3.ret3.eq_1, ↓D3.retN3.eq_1, ↓D3.nx3.eq_1, ↓D3.drop3.eq_1, ↓D3.par3.eq_1, ↓D3.aug3.eq_1, ↓D3.and3.eq_1, ↓D3.or3.eq_1, ↓D3.not3.eq_1, ↓D3.andV3.eq_1, ↓D3.orV3.eq_1, ↓D3.notV3.eq_1, ↓D3.if3.eq_1, ↓D3.nil3.eq_1, ↓D3.cons3.eq_1, ↓D3.tup3.eq_1, ↓D3.lst3.eq_1, ↓D3.lstM3.eq_1, ↓D3.gtup3.eq_1, ↓D3.gcons3.eq_1, ↓D3.gnil3.eq_1, ↓D3.gunl3.eq_1, ↓D3.bits3.eq_1, ↓D3.neg3.eq_1, ↓D3.chain3.eq_1, fIsi_int_int, fIsi_int_bool, fIsi_int_tuple, fIsi_int_str, fIsi_int_list, fIsi_bl_int, fIsi_bl_bool, fIsi_bl_tuple, fIsi_bl_str, fIsi_bl_list, fIsi_non_int, fIsi_non_bool, fIsi_non_tuple, fIsi_non_str, fIsi_non_list, fIsi_str_int, fIsi_str_bool, fIsi_str_tuple, fIsi_str_str, fIsi_str_list, fIsi_tup_int, fIsi_tup_bool, fIsi_tup_tuple, fIsi_tup_str, fIsi_tup_list, fIsi_lst_int, fIsi_lst_bool, fIsi_lst_tuple, fIsi_lst_str, fIsi_lst_list, fLen_lst, fLen_tup, fAbs, ↓D3.call3_k, ↓D3.kont_app, ↓D3.isN3.eq_1, ↓D3.notN3.eq_1, dIsN_non, dIsN_int, dIsN_bl, dIsN_str, dIsN_tup, dIsN_lst, ↓D3.slc3.eq_1, ↓D3.part3.eq_1, ↓D3.noPart3.eq_1, ↓D3.ilst3.eq_1, ↓D3.itup3.eq_1, ↓D3.irng1.eq_1, ↓D3.irng2.eq_1, ↓D3.for3.eq_1, fCat, fEq_int, fNe_int, fEq_bl, fNe_bl, fEq_pair, fNe_pair, List.map, List.replicate, List.length_cons, List.length_nil, List.set_cons_zero, List.set_cons_succ, List.getElem?_cons_zero, List.getElem?_cons_succ, List.cons_append, List.nil_append, at_0, at_1, at_2, at_3, at_4, at_5, at_6, ix_0, ix_1, ix_2, put_same, put_put, decide_eq_true_eq, Bool.not_eq_true', decide_eq_false_iff_not, ite_not, ite_true, ite_false, if_true, if_false, Bool.false_eq_true, ↓reduceIte, reduceIte, Nat.reduceAdd, Nat.reduceSub, Int.reduceToNat, Nat.reduceLeDiff, not_false_eq_true, true_and, and_true, ne_eq, Int.reduceEq, Nat.zero_add, Bool.not_true, Bool.not_false, reduceCtorEq, nc0, nc1, nc2, nc3, nc4, nc5, fIx_ref put_same, fLen_ref put_same, ↓D3.lc3.eq_1, fInt, fTuple, fList, fNeS_s, fEqS_s, ↓D3.gstar3.eq_1, fInK_s, fNinK_s, fLenS_s, ↓D3.slcT3.eq_1, fCatT_t, ↓D3.app3.eq_1, ↓D3.frz3.eq_1, ↓D3.dc23.eq_1, ↓D3.lcT3.eq_1, ↓D3.litRep3.eq_1, ↓D3.litRepM3.eq_1, ↓D3.rev3.eq_1, ↓D3.dget3.eq_1, ↓D3.disp3.eq_1, ↓D3.ienum3.eq_1, pop3, sset3]))
  refine sp_pick_i (n + 3) hd (by decide) (by decide) fun way m1 w0 w1 o1 d1 => ?_
  (refine laterP_in ?_; repeat ((first | with_reducible refine laterP_i ?_ | with_reducible refine later_i ?_); try simp -implicitDefEqProofs -dsimp only [↓D3.seq3_stop, ↓D3.ifS3.eq_1, ↓D3.b3.eq_1, ↓D3.op3.eq_1, ↓D3.un3.eq_1, ↓D3.v3.eq_1, ↓D3.c3.eq_1, fIx_tup, fIx_lst, at3_0, at3_1, at3_2, at3_3, at3_4, at3_5, at3_6, start3, fI0_i, fI_i, fLt, fLe, fGt, fGe, fEqI, fNeI, fMin, fMax, ↓D3.asg3.eq_1, ↓D3.name3.eq_1, ↓D3.sub3.eq_1, ↓D3.ret3.eq_1, ↓D3.retN3.eq_1, ↓D3.nx3.eq_1, ↓D3.drop3.eq_1, ↓D3.par3.eq_1, ↓D3.aug3.eq_1, ↓D3.and3.eq_1, ↓D3.or3.eq_1, ↓D3.not3.eq_1, ↓D3.andV3.eq_1, ↓D3.orV3.eq_1, ↓D3.notV3.eq_1, ↓D3.if3.eq_1, ↓D3.nil3.eq_1, ↓D3.cons3.eq_1, ↓D3.tup3.eq_1, ↓D3.lst3.eq_1, ↓D3.lstM3.eq_1, ↓D3.gtup3.eq_1, ↓D3.gcons3.eq_1, ↓D3.gnil3.eq_1, ↓D3.gunl3.eq_1, ↓D3.bits3.eq_1, ↓D3.neg3.eq_1, ↓D3.chain3.eq_1, fIsi_int_int, fIsi_int_bool, fIsi_int_tuple, fIsi_int_str, fIsi_int_list, fIsi_bl_int, fIsi_bl_bool, fIsi_bl_tuple, fIsi_bl_str, fIsi_bl_list, fIsi_non_int, fIsi_non_bool, fIsi_non_tuple, fIsi_non_str, fIsi_non_list, fIsi_str_int, fIsi_str_bool, fIsi_str_tuple, fIsi_str_str, fIsi_str_list, fIsi_tup_int, fIsi_tup_bool, fIsi_tup_tuple, fIsi_tup_str, fIsi_tup_list, fIsi_lst_int, fIsi_lst_bool, fIsi_lst_tuple, fIsi_lst_str, fIsi_lst_list, fLen_lst, fLen_tup, fAbs, ↓D3.call3_k, ↓D3.kont_app, ↓D3.isN3.eq_1, ↓D3.notN3.eq_1, dIsN_non, dIsN_int, dIsN_bl, dIsN_str, dIsN_tup, dIsN_lst, ↓D3.slc3.eq_1, ↓D3.part3.eq_1, ↓D3.noPart3.eq_1, ↓D3.ilst3.eq_1, ↓D3.itup3.eq_1, ↓D3.irng1.eq_1, ↓D3.irng2.eq_1, ↓D3.for3.eq_1, fCat, fEq_int, fNe_int, fEq_bl, fNe_bl, fEq_pair, fNe_pair, List.map, List.replicate, List.length_cons, List.length_nil, List.set_cons_zero, List.set_cons_succ, List.getElem?_cons_zero, List.getElem?_cons_succ, List.cons_append, List.nil_append, at_0, at_1, at_2, at_3, at_4, at_5, at_6, ix_0, ix_1, ix_2, put_same, put_put, decide_eq_true_eq, Bool.not_eq_true', decide_eq_false_iff_not, ite_not, ite_true, ite_false, if_true, if_false, Bool.false_eq_true, ↓reduceIte, reduceIte, Nat.reduceAdd, Nat.reduceSub, Int.reduceToNat, Nat.reduceLeDiff, not_false_eq_true, true_and, and_true, ne_eq, Int.reduceEq, Nat.zero_add, Bool.not_true, Bool.not_false, reduceCtorEq, nc0, nc1, nc2, nc3, nc4, nc5, fIx_ref put_same, fLen_ref put_same, ↓D3.lc3.eq_1, fInt, fTuple, fList, fNeS_s, fEqS_s, ↓D3.gstar3.eq_1, fInK_s, fNinK_s, fLenS_s, ↓D3.slcT3.eq_1, fCatT_t, ↓D3.app3.eq_1, ↓D3.frz3.eq_1, ↓D3.dc23.eq_1, ↓D3.lcT3.eq_1, ↓D3.litRep3.eq_1, ↓D3.litRepM3.eq_1, ↓D3.rev3.eq_1, ↓D3.dget3.eq_1, ↓D3.disp3.eq_1, ↓D3.ienum3.eq_1, pop3, sset3]))
  have rest : ∀ ρ : Env3, ρ = [some (.ref a), some (.lst (ns.map D.str)), some (.int way), none] → True := fun _ _ => trivial
  rw [fNe_names hn]
  refine ite2 (fun h2 => iteB (fun h3 => ?_) (fun h3 => ?_)) (fun h2 => ?_)
  · have hpos : 0 < ns.length := by cases ns with
      | nil => cases h3
      | cons _ _ => simp
    refine sp_pick_i (n + 2) d1 (by simp; omega) (by simp; omega) fun r m2 r0 r1 o2 d2 => ?_
    (refine laterP_in ?_; repeat ((first | with_reducible refine laterP_i ?_ | with_reducible refine later_i ?_); try simp -implicitDefEqProofs -dsimp only [↓D3.seq3_stop, ↓D3.ifS3.eq_1, ↓D3.b3.eq_1, ↓D3.op3.eq_1, ↓D3.un3.eq_1, ↓D3.v3.eq_1, ↓D3.c3.eq_1, fIx_tup, fIx_lst, at3_0, at3_1, at3_2, at3_3, at3_4, at3_5, at3_6, start3, fI0_i, fI_i, fLt, fLe, fGt, fGe, fEqI, fNeI, fMin, fMax, ↓D3.asg3.eq_1, ↓D3.name3.eq_1, ↓D3.sub3.eq_1, ↓D3.ret3.eq_1, ↓D3.retN3.eq_1, ↓D3.nx3.eq_1, ↓D3.drop3.eq_1, ↓D3.par3.eq_1, ↓D3.aug3.eq_1, ↓D3.and3.eq_1, ↓D3.or3.eq_1, ↓D3.not3.eq_1, ↓D3.andV3.eq_1, ↓D3.orV3.eq_1, ↓D3.notV3.eq_1, ↓D3.if3.eq_1, ↓D3.nil3.eq_1, ↓D3.cons3.eq_1, ↓D3.tup3.eq_1, ↓D3.lst3.eq_1, ↓D3.lstM3.eq_1, ↓D3.gtup3.eq_1, ↓D3.gcons3.eq_1, ↓D3.gnil3.eq_1, ↓D3.gunl3.eq_1, ↓D3.bits3.eq_1, ↓D3.neg3.eq_1, ↓D3.chain3.eq_1, fIsi_int_int, fIsi_int_bool, fIsi_int_tuple, fIsi_int_str, fIsi_int_list, fIsi_bl_int, fIsi_bl_bool, fIsi_bl_tuple, fIsi_bl_str, fIsi_bl_list, fIsi_non_int, fIsi_non_bool, fIsi_non_tuple, fIsi_non_str, fIsi_non_list, fIsi_str_int, fIsi_str_bool, fIsi_str_tuple, fIsi_str_str, fIsi_str_list, fIsi_tup_int, fIsi_tup_bool, fIsi_tup_tuple, fIsi_tup_str, fIsi_tup_list, fIsi_lst_int, fIsi_lst_bool, fIsi_lst_tuple, fIsi_lst_str, fIsi_lst_list, fLen_lst, fLen_tup, fAbs, ↓D3.call3_k, ↓D3.kont_app, ↓D3.isN3.eq_1, ↓D3.notN3.eq_1, dIsN_non, dIsN_int, dIsN_bl, dIsN_str, dIsN_tup, dIsN_lst, ↓D3.slc3.eq_1, ↓D3.part3.eq_1, ↓D3.noPart3.eq_1, ↓D3.ilst3.eq_1, ↓D3.itup3.eq_1, ↓D3.irng1.eq_1, ↓D3.irng2.eq_1, ↓D3.for3.eq_1, fCat, fEq_int, fNe_int, fEq_bl, fNe_bl, fEq_pair, fNe_pair, List.map, List.replicate, List.length_cons, List.length_nil, List.set_cons_zero, List.set_cons_succ, List.getElem?_cons_zero, List.getElem?_cons_succ, List.cons_append, List.nil_append, at_0, at_1, at_2, at_3, at_4, at_5, at_6, ix_0, ix_1, ix_2, put_same, put_put, decide_eq_true_eq, Bool.not_eq_true', decide_eq_false_iff_not, ite_not, ite_true, ite_false, if_true, if_false, Bool.false_eq_true, ↓reduceIte, reduceIte, Nat.reduceAdd, Nat.reduceSub, Int.reduceToNat, Nat.reduceLeDiff, not_false_eq_true, true_and, and_true, ne_eq, Int.reduceEq, Nat.zero_add, Bool.not_true, Bool.not_false, reduceCtorEq, nc0, nc1, nc2, nc3, nc4, nc5, fIx_ref put_same, fLen_ref put_same, ↓D3.lc3.eq_1, fInt, fTuple, fList, fNeS_s, fEqS_s, ↓D3.gstar3.eq_1, fInK_s, fNinK_s, fLenS_s, ↓D3.slcT3.eq_1, fCatT_t, ↓D3.app3.eq_1, ↓D3.frz3.eq_1, ↓D3.dc23.eq_1, ↓D3.lcT3.eq_1, ↓D3.litRep3.eq_1, ↓D3.litRepM3.eq_1, ↓D3.rev3.eq_1, ↓D3.dget3.eq_1, ↓D3.disp3.eq_1, ↓D3.ienum3.eq_1, pop3, sset3]))
    refine at3_all r0 (by simpa using r1) fun d hd => ?_
    obtain ⟨x, hx, rfl⟩ := List.mem_map.mp hd
    exact q _ _ 0 (fun e => .name hx) (o1.trans o2) (d2.le (by omega))
  all_goals
    (refine laterP_in ?_; repeat ((first | with_reducible refine laterP_i ?_ | with_reducible refine later_i ?_); try simp -implicitDefEqProofs -dsimp only [↓D3.seq3_stop, ↓D3.ifS3.eq_1, ↓D3.b3.eq_1, ↓D3.op3.eq_1, ↓D3.un3.eq_1, ↓D3.v3.eq_1, ↓D3.c3.eq_1, fIx_tup, fIx_lst, at3_0, at3_1, at3_2, at3_3, at3_4, at3_5, at3_6, start3, fI0_i, fI_i, fLt, fLe, fGt, fGe, fEqI, fNeI, fMin, fMax, ↓D3.asg3.eq_1, ↓D3.name3.eq_1, ↓D3.sub3.eq_1, ↓D3.ret3.eq_1, ↓D3.retN3.eq_1, ↓D3.nx3.eq_1, ↓D3.drop3.eq_1, ↓D3.par3.eq_1, ↓D3.aug3.eq_1, ↓D3.and3.eq_1, ↓D3.or3.eq_1, ↓D3.not3.eq_1, ↓D3.andV3.eq_1, ↓D3.orV3.eq_1, ↓D3.notV3.eq_1, ↓D3.if3.eq_1, ↓D3.nil3.eq_1, ↓D3.cons3.eq_1, ↓D3.tup3.eq_1, ↓D3.lst3.eq_1, ↓D3.lstM3.eq_1, ↓D3.gtup3.eq_1, ↓D3.gcons3.eq_1, ↓D3.gnil3.eq_1, ↓D3.gunl3.eq_1, ↓D3.bits3.eq_1, ↓D3.neg3.eq_1, ↓D3.chain3.eq_1, fIsi_int_int, fIsi_int_bool, fIsi_int_tuple, fIsi_int_str, fIsi_int_list, fIsi_bl_int, fIsi_bl_bool, fIsi_bl_tuple, fIsi_bl_str, fIsi_bl_list, fIsi_non_int, fIsi_non_bool, fIsi_non_tuple, fIsi_non_str, fIsi_non_list, fIsi_str_int, fIsi_str_bool, fIsi_str_tuple, fIsi_str_str, fIsi_str_list, fIsi_tup_int, fIsi_tup_bool, fIsi_tup_tuple, fIsi_tup_str, fIsi_tup_list, fIsi_lst_int, fIsi_lst_bool, fIsi_lst_tuple, fIsi_lst_str, fIsi_lst_list, fLen_lst, fLen_tup, fAbs, ↓D3.call3_k, ↓D3.kont_app, ↓D3.isN3.eq_1, ↓D3.notN3.eq_1, dIsN_non, dIsN_int, dIsN_bl, dIsN_str, dIsN_tup, dIsN_lst, ↓D3.slc3.eq_1, ↓D3.part3.eq_1, ↓D3.noPart3.eq_1, ↓D3.ilst3.eq_1, ↓D3.itup3.eq_1, ↓D3.irng1.eq_1, ↓D3.irng2.eq_1, ↓D3.for3.eq_1, fCat, fEq_int, fNe_int, fEq_bl, fNe_bl, fEq_pair, fNe_pair, List.map, List.replicate, List.length_cons, List.length_nil, List.set_cons_zero, List.set_cons_succ, List.getElem?_cons_zero, List.getElem?_cons_succ, List.cons_append, List.nil_append, at_0, at_1, at_2, at_3, at_4, at_5, at_6, ix_0, ix_1, ix_2, put_same, put_put, decide_eq_true_eq, Bool.not_eq_true', decide_eq_false_iff_not, ite_not, ite_true, ite_false, if_true, if_false, Bool.false_eq_true, ↓reduceIte, reduceIte, Nat.reduceAdd, Nat.reduceSub, Int.reduceToNat, Nat.reduceLeDiff, not_false_eq_true, true_and, and_true, ne_eq, Int.reduceEq, Nat.zero_add, Bool.not_true, Bool.not_false, reduceCtorEq, nc0, nc1, nc2, nc3, nc4, nc5, fIx_ref put_same, fLen_ref put_same, ↓D3.lc3.eq_1, fInt, fTuple, fList, fNeS_s, fEqS_s, ↓D3.gstar3.eq_1, fInK_s, fNinK_s, fLenS_s, ↓D3.slcT3.eq_1, fCatT_t, ↓D3.app3.eq_1, ↓D3.frz3.eq_1, ↓D3.dc23.eq_1, ↓D3.lcT3.eq_1, ↓D3.litRep3.eq_1, ↓D3.litRepM3.eq_1, ↓D3.rev3.eq_1, ↓D3.dget3.eq_1, ↓D3.disp3.eq_1, ↓D3.ienum3.eq_1, pop3, sset3]))
    refine ite2 (fun h4 => ?_) (fun h4 => ?_)
    · exact q _ _ 0 (fun e => .pi) o1 (d1.le (by omega))
    (refine laterP_in ?_; repeat ((first | with_reducible refine laterP_i ?_ | with_reducible refine later_i ?_); try simp -implicitDefEqProofs -dsimp only [↓D3.seq3_stop, ↓D3.ifS3.eq_1, ↓D3.b3.eq_1, ↓D3.op3.eq_1, ↓D3.un3.eq_1, ↓D3.v3.eq_1, ↓D3.c3.eq_1, fIx_tup, fIx_lst, at3_0, at3_1, at3_2, at3_3, at3_4, at3_5, at3_6, start3, fI0_i, fI_i, fLt, fLe, fGt, fGe, fEqI, fNeI, fMin, fMax, ↓D3.asg3.eq_1, ↓D3.name3.eq_1, ↓D3.sub3.eq_1, ↓D3.ret3.eq_1, ↓D3.retN3.eq_1, ↓D3.nx3.eq_1, ↓D3.drop3.eq_1, ↓D3.par3.eq_1, ↓D3.aug3.eq_1, ↓D3.and3.eq_1, ↓D3.or3.eq_1, ↓D3.not3.eq_1, ↓D3.andV3.eq_1, ↓D3.orV3.eq_1, ↓D3.notV3.eq_1, ↓D3.if3.eq_1, ↓D3.nil3.eq_1, ↓D3.cons3.eq_1, ↓D3.tup3.eq_1, ↓D3.lst3.eq_1, ↓D3.lstM3.eq_1, ↓D3.gtup3.eq_1, ↓D3.gcons3.eq_1, ↓D3.gnil3.eq_1, ↓D3.gunl3.eq_1, ↓D3.bits3.eq_1, ↓D3.neg3.eq_1, ↓D3.chain3.eq_1, fIsi_int_int, fIsi_int_bool, fIsi_int_tuple, fIsi_int_str, fIsi_int_list, fIsi_bl_int, fIsi_bl_bool, fIsi_bl_tuple, fIsi_bl_str, fIsi_bl_list, fIsi_non_int, fIsi_non_bool, fIsi_non_tuple, fIsi_non_str, fIsi_non_list, fIsi_str_int, fIsi_str_bool, fIsi_str_tuple, fIsi_str_str, fIsi_str_list, fIsi_tup_int, fIsi_tup_bool, fIsi_tup_tuple, fIsi_tup_str, fIsi_tup_list, fIsi_lst_int, fIsi_lst_bool, fIsi_lst_tuple, fIsi_lst_str, fIsi_lst_list, fLen_lst, fLen_tup, fAbs, ↓D3.call3_k, ↓D3.kont_app, ↓D3.isN3.eq_1, ↓D3.notN3.eq_1, dIsN_non, dIsN_int, dIsN_bl, dIsN_str, dIsN_tup, dIsN_lst, ↓D3.slc3.eq_1, ↓D3.part3.eq_1, ↓D3.noPart3.eq_1, ↓D3.ilst3.eq_1, ↓D3.itup3.eq_1, ↓D3.irng1.eq_1, ↓D3.irng2.eq_1, ↓D3.for3.eq_1, fCat, fEq_int, fNe_int, fEq_bl, fNe_bl, fEq_pair, fNe_pair, List.map, List.replicate, List.length_cons, List.length_nil, List.set_cons_zero, List.set_cons_succ, List.getElem?_cons_zero, List.getElem?_cons_succ, List.cons_append, List.nil_append, at_0, at_1, at_2, at_3, at_4, at_5, at_6, ix_0, ix_1, ix_2, put_same, put_put, decide_eq_true_eq, Bool.not_eq_true', decide_eq_false_iff_not, ite_not, ite_true, ite_false, if_true, if_false, Bool.false_eq_true, ↓reduceIte, reduceIte, Nat.reduceAdd, Nat.reduceSub, Int.reduceToNat, Nat.reduceLeDiff, not_false_eq_true, true_and, and_true, ne_eq, Int.reduceEq, Nat.zero_add, Bool.not_true, Bool.not_false, reduceCtorEq, nc0, nc1, nc2, nc3, nc4, nc5, fIx_ref put_same, fLen_ref put_same, ↓D3.lc3.eq_1, fInt, fTuple, fList, fNeS_s, fEqS_s, ↓D3.gstar3.eq_1, fInK_s, fNinK_s, fLenS_s, ↓D3.slcT3.eq_1, fCatT_t, ↓D3.app3.eq_1, ↓D3.frz3.eq_1, ↓D3.dc23.eq_1, ↓D3.lcT3.eq_1, ↓D3.litRep3.eq_1, ↓D3.litRepM3.eq_1, ↓D3.rev3.eq_1, ↓D3.dget3.eq_1, ↓D3.disp3.eq_1, ↓D3.ienum3.eq_1, pop3, sset3]))
    refine sp_pick_i (n + 2) d1 (by decide) (by decide) fun r m2 r0 r1 o2 d2 => ?_
    (refine laterP_in ?_; repeat ((first | with_reducible refine laterP_i ?_ | with_reducible refine later_i ?_); try simp -implicitDefEqProofs -dsimp only [↓D3.seq3_stop, ↓D3.ifS3.eq_1, ↓D3.b3.eq_1, ↓D3.op3.eq_1, ↓D3.un3.eq_1, ↓D3.v3.eq_1, ↓D3.c3.eq_1, fIx_tup, fIx_lst, at3_0, at3_1, at3_2, at3_3, at3_4, at3_5, at3_6, start3, fI0_i, fI_i, fLt, fLe, fGt, fGe, fEqI, fNeI, fMin, fMax, ↓D3.asg3.eq_1, ↓D3.name3.eq_1, ↓D3.sub3.eq_1, ↓D3.ret3.eq_1, ↓D3.retN3.eq_1, ↓D3.nx3.eq_1, ↓D3.drop3.eq_1, ↓D3.par3.eq_1, ↓D3.aug3.eq_1, ↓D3.and3.eq_1, ↓D3.or3.eq_1, ↓D3.not3.eq_1, ↓D3.andV3.eq_1, ↓D3.orV3.eq_1, ↓D3.notV3.eq_1, ↓D3.if3.eq_1, ↓D3.nil3.eq_1, ↓D3.cons3.eq_1, ↓D3.tup3.eq_1, ↓D3.lst3.eq_1, ↓D3.lstM3.eq_1, ↓D3.gtup3.eq_1, ↓D3.gcons3.eq_1, ↓D3.gnil3.eq_1, ↓D3.gunl3.eq_1, ↓D3.bits3.eq_1, ↓D3.neg3.eq_1, ↓D3.chain3.eq_1, fIsi_int_int, fIsi_int_bool, fIsi_int_tuple, fIsi_int_str, fIsi_int_list, fIsi_bl_int, fIsi_bl_bool, fIsi_bl_tuple, fIsi_bl_str, fIsi_bl_list, fIsi_non_int, fIsi_non_bool, fIsi_non_tuple, fIsi_non_str, fIsi_non_list, fIsi_str_int, fIsi_str_bool, fIsi_str_tuple, fIsi_str_str, fIsi_str_list, fIsi_tup_int, fIsi_tup_bool, fIsi_tup_tuple, fIsi_tup_str, fIsi_tup_list, fIsi_lst_int, fIsi_lst_bool, fIsi_lst_tuple, fIsi_lst_str, fIsi_lst_list, fLen_lst, fLen_tup, fAbs, ↓D3.call3_k, ↓D3.kont_app, ↓D3.isN3.eq_1, ↓D3.notN3.eq_1, dIsN_non, dIsN_int, dIsN_bl, dIsN_str, dIsN_tup, dIsN_lst, ↓D3.slc3.eq_1, ↓D3.part3.eq_1, ↓D3.noPart3.eq_1, ↓D3.ilst3.eq_1, ↓D3.itup3.eq_1, ↓D3.irng1.eq_1, ↓D3.irng2.eq_1, ↓D3.for3.eq_1, fCat, fEq_int, fNe_int, fEq_bl, fNe_bl, fEq_pair, fNe_pair, List.map, List.replicate, List.length_cons, List.length_nil, List.set_cons_zero, List.set_cons_succ, List.getElem?_cons_zero, List.getElem?_cons_succ, List.cons_append, List.nil_append, at_0, at_1, at_2, at_3, at_4, at_5, at_6, ix_0, ix_1, ix_2, put_same, put_put, decide_eq_true_eq, Bool.not_eq_true', decide_eq_false_iff_not, ite_not, ite_true, ite_false, if_true, if_false, Bool.false_eq_true, ↓reduceIte, reduceIte, Nat.reduceAdd, Nat.reduceSub, Int.reduceToNat, Nat.reduceLeDiff, not_false_eq_true, true_and, and_true, ne_eq, Int.reduceEq, Nat.zero_add, Bool.not_true, Bool.not_false, reduceCtorEq, nc0, nc1, nc2, nc3, nc4, nc5, fIx_ref put_same, fLen_ref put_same, ↓D3.lc3.eq_1, fInt, fTuple, fList, fNeS_s, fEqS_s, ↓D3.gstar3.eq_1, fInK_s, fNinK_s, fLenS_s, ↓D3.slcT3.eq_1, fCatT_t, ↓D3.app3.eq_1, ↓D3.frz3.eq_1, ↓D3.dc23.eq_1, ↓D3.lcT3.eq_1, ↓D3.litRep3.eq_1, ↓D3.litRepM3.eq_1, ↓D3.rev3.eq_1, ↓D3.dget3.eq_1, ↓D3.disp3.eq_1, ↓D3.ienum3.eq_1, pop3, sset3]))
    refine at3_all r0 (by simpa using r1) fun d hd => ?_
    obtain ⟨b, rfl, b0, b1⟩ : ∃ b : Int, d = .int b ∧ 0 < b ∧ b ≤ 8 := by
      simp only [List.mem_cons, List.not_mem_nil, or_false] at hd
      rcases hd with rfl | rfl | rfl | rfl | rfl <;> exact ⟨_, rfl, by decide, by decide⟩
    (refine laterP_in ?_; repeat ((first | with_reducible refine laterP_i ?_ | with_reducible refine later_i ?_); try simp -implicitDefEqProofs -dsimp only [↓D3.seq3_stop, ↓D3.ifS3.eq_1, ↓D3.b3.eq_1, ↓D3.op3.eq_1, ↓D3.un3.eq_1, ↓D3.v3.eq_1, ↓D3.c3.eq_1, fIx_tup, fIx_lst, at3_0, at3_1, at3_2, at3_3, at3_4, at3_5, at3_6, start3, fI0_i, fI_i, fLt, fLe, fGt, fGe, fEqI, fNeI, fMin, fMax, ↓D3.asg3.eq_1, ↓D3.name3.eq_1, ↓D3.sub3.eq_1, ↓D3.ret3.eq_1, ↓D3.retN3.eq_1, ↓D3.nx3.eq_1, ↓D3.drop3.eq_1, ↓D3.par3.eq_1, ↓D3.aug3.eq_1, ↓D3.and3.eq_1, ↓D3.or3.eq_1, ↓D3.not3.eq_1, ↓D3.andV3.eq_1, ↓D3.orV3.eq_1, ↓D3.notV3.eq_1, ↓D3.if3.eq_1, ↓D3.nil3.eq_1, ↓D3.cons3.eq_1, ↓D3.tup3.eq_1, ↓D3.lst3.eq_1, ↓D3.lstM3.eq_1, ↓D3.gtup3.eq_1, ↓D3.gcons3.eq_1, ↓D3.gnil3.eq_1, ↓D3.gunl3.eq_1, ↓D3.bits3.eq_1, ↓D3.neg3.eq_1, ↓D3.chain3.eq_1, fIsi_int_int, fIsi_int_bool, fIsi_int_tuple, fIsi_int_str, fIsi_int_list, fIsi_bl_int, fIsi_bl_bool, fIsi_bl_tuple, fIsi_bl_str, fIsi_bl_list, fIsi_non_int, fIsi_non_bool, fIsi_non_tuple, fIsi_non_str, fIsi_non_list, fIsi_str_int, fIsi_str_bool, fIsi_str_tuple, fIsi_str_str, fIsi_str_list, fIsi_tup_int, fIsi_tup_bool, fIsi_tup_tuple, fIsi_tup_str, fIsi_tup_list, fIsi_lst_int, fIsi_lst_bool, fIsi_lst_tuple, fIsi_lst_str, fIsi_lst_list, fLen_lst, fLen_tup, fAbs, ↓D3.call3_k, ↓D3.kont_app, ↓D3.isN3.eq_1, ↓D3.notN3.eq_1, dIsN_non, dIsN_int, dIsN_bl, dIsN_str, dIsN_tup, dIsN_lst, ↓D3.slc3.eq_1, ↓D3.part3.eq_1, ↓D3.noPart3.eq_1, ↓D3.ilst3.eq_1, ↓D3.itup3.eq_1, ↓D3.irng1.eq_1, ↓D3.irng2.eq_1, ↓D3.for3.eq_1, fCat, fEq_int, fNe_int, fEq_bl, fNe_bl, fEq_pair, fNe_pair, List.map, List.replicate, List.length_cons, List.length_nil, List.set_cons_zero, List.set_cons_succ, List.getElem?_cons_zero, List.getElem?_cons_succ, List.cons_append, List.nil_append, at_0, at_1, at_2, at_3, at_4, at_5, at_6, ix_0, ix_1, ix_2, put_same, put_put, decide_eq_true_eq, Bool.not_eq_true', decide_eq_false_iff_not, ite_not, ite_true, ite_false, if_true, if_false, Bool.false_eq_true, ↓reduceIte, reduceIte, Nat.reduceAdd, Nat.reduceSub, Int.reduceToNat, Nat.reduceLeDiff, not_false_eq_true, true_and, and_true, ne_eq, Int.reduceEq, Nat.zero_add, Bool.not_true, Bool.not_false, reduceCtorEq, nc0, nc1, nc2, nc3, nc4, nc5, fIx_ref put_same, fLen_ref put_same, ↓D3.lc3.eq_1, fInt, fTuple, fList, fNeS_s, fEqS_s, ↓D3.gstar3.eq_1, fInK_s, fNinK_s, fLenS_s, ↓D3.slcT3.eq_1, fCatT_t, ↓D3.app3.eq_1, ↓D3.frz3.eq_1, ↓D3.dc23.eq_1, ↓D3.lcT3.eq_1, ↓D3.litRep3.eq_1, ↓D3.litRepM3.eq_1, ↓D3.rev3.eq_1, ↓D3.dget3.eq_1, ↓D3.disp3.eq_1, ↓D3.ienum3.eq_1, pop3, sset3]))
    refine sp_pick_i (n + 1) d2 (by decide) (by decide) fun t m3 t0 t1 o3 d3 => ?_
    (refine laterP_in ?_; repeat ((first | with_reducible refine laterP_i ?_ | with_reducible refine later_i ?_); try simp -implicitDefEqProofs -dsimp only [↓D3.seq3_stop, ↓D3.ifS3.eq_1, ↓D3.b3.eq_1, ↓D3.op3.eq_1, ↓D3.un3.eq_1, ↓D3.v3.eq_1, ↓D3.c3.eq_1, fIx_tup, fIx_lst, at3_0, at3_1, at3_2, at3_3, at3_4, at3_5, at3_6, start3, fI0_i, fI_i, fLt, fLe, fGt, fGe, fEqI, fNeI, fMin, fMax, ↓D3.asg3.eq_1, ↓D3.name3.eq_1, ↓D3.sub3.eq_1, ↓D3.ret3.eq_1, ↓D3.retN3.eq_1, ↓D3.nx3.eq_1, ↓D3.drop3.eq_1, ↓D3.par3.eq_1, ↓D3.aug3.eq_1, ↓D3.and3.eq_1, ↓D3.or3.eq_1, ↓D3.not3.eq_1, ↓D3.andV3.eq_1, ↓D3.orV3.eq_1, ↓D3.notV3.eq_1, ↓D3.if3.eq_1, ↓D3.nil3.eq_1, ↓D3.cons3.eq_1, ↓D3.tup3.eq_1, ↓D3.lst3.eq_1, ↓D3.lstM3.eq_1, ↓D3.gtup3.eq_1, ↓D3.gcons3.eq_1, ↓D3.gnil3.eq_1, ↓D3.gunl3.eq_1, ↓D3.bits3.eq_1, ↓D3.neg3.eq_1, ↓D3.chain3.eq_1, fIsi_int_int, fIsi_int_bool, fIsi_int_tuple, fIsi_int_str, fIsi_int_list, fIsi_bl_int, fIsi_bl_bool, fIsi_bl_tuple, fIsi_bl_str, fIsi_bl_list, fIsi_non_int, fIsi_non_bool, fIsi_non_tuple, fIsi_non_str, fIsi_non_list, fIsi_str_int, fIsi_str_bool, fIsi_str_tuple, fIsi_str_str, fIsi_str_list, fIsi_tup_int, fIsi_tup_bool, fIsi_tup_tuple, fIsi_tup_str, fIsi_tup_list, fIsi_lst_int, fIsi_lst_bool, fIsi_lst_tuple, fIsi_lst_str, fIsi_lst_list, fLen_lst, fLen_tup, fAbs, ↓D3.call3_k, ↓D3.kont_app, ↓D3.isN3.eq_1, ↓D3.notN3.eq_1, dIsN_non, dIsN_int, dIsN_bl, dIsN_str, dIsN_tup, dIsN_lst, ↓D3.slc3.eq_1, ↓D3.part3.eq_1, ↓D3.noPart3.eq_1, ↓D3.ilst3.eq_1, ↓D3.itup3.eq_1, ↓D3.irng1.eq_1, ↓D3.irng2.eq_1, ↓D3.for3.eq_1, fCat, fEq_int, fNe_int, fEq_bl, fNe_bl, fEq_pair, fNe_pair, List.map, List.replicate, List.length_cons, List.length_nil, List.set_cons_zero, List.set_cons_succ, List.getElem?_cons_zero, List.getElem?_cons_succ, List.cons_append, List.nil_append, at_0, at_1, at_2, at_3, at_4, at_5, at_6, ix_0, ix_1, ix_2, put_same, put_put, decide_eq_true_eq, Bool.not_eq_true', decide_eq_false_iff_not, ite_not, ite_true, ite_false, if_true, if_false, Bool.false_eq_true, ↓reduceIte, reduceIte, Nat.reduceAdd, Nat.reduceSub, Int.reduceToNat, Nat.reduceLeDiff, not_false_eq_true, true_and, and_true, ne_eq, Int.reduceEq, Nat.zero_add, Bool.not_true, Bool.not_false, reduceCtorEq, nc0, nc1, nc2, nc3, nc4, nc5, fIx_ref put_same, fLen_ref put_same, ↓D3.lc3.eq_1, fInt, fTuple, fList, fNeS_s, fEqS_s, ↓D3.gstar3.eq_1, fInK_s, fNinK_s, fLenS_s, ↓D3.slcT3.eq_1, fCatT_t, ↓D3.app3.eq_1, ↓D3.frz3.eq_1, ↓D3.dc23.eq_1, ↓D3.lcT3.eq_1, ↓D3.litRep3.eq_1, ↓D3.litRepM3.eq_1, ↓D3.rev3.eq_1, ↓D3.dget3.eq_1, ↓D3.disp3.eq_1, ↓D3.ienum3.eq_1, pop3, sset3]))
    refine ⟨_, _, rfl, by omega, lt_pow (a := 10) (by omega) (by decide), lt_pow (a := 10) (by omega) (by decide), fun t' u hu _ hg l1 l2 => ?_⟩
    (refine laterP_in ?_; repeat ((first | with_reducible refine laterP_i ?_ | with_reducible refine later_i ?_); try simp -implicitDefEqProofs -dsimp only [↓D3.seq3_stop, ↓D3.ifS3.eq_1, ↓D3.b3.eq_1, ↓D3.op3.eq_1, ↓D3.un3.eq_1, ↓D3.v3.eq_1, ↓D3.c3.eq_1, fIx_tup, fIx_lst, at3_0, at3_1, at3_2, at3_3, at3_4, at3_5, at3_6, start3, fI0_i, fI_i, fLt, fLe, fGt, fGe, fEqI, fNeI, fMin, fMax, ↓D3.asg3.eq_1, ↓D3.name3.eq_1, ↓D3.sub3.eq_1, ↓D3.ret3.eq_1, ↓D3.retN3.eq_1, ↓D3.nx3.eq_1, ↓D3.drop3.eq_1, ↓D3.par3.eq_1, ↓D3.aug3.eq_1, ↓D3.and3.eq_1, ↓D3.or3.eq_1, ↓D3.not3.eq_1, ↓D3.andV3.eq_1, ↓D3.orV3.eq_1, ↓D3.notV3.eq_1, ↓D3.if3.eq_1, ↓D3.nil3.eq_1, ↓D3.cons3.eq_1, ↓D3.tup3.eq_1, ↓D3.lst3.eq_1, ↓D3.lstM3.eq_1, ↓D3.gtup3.eq_1, ↓D3.gcons3.eq_1, ↓D3.gnil3.eq_1, ↓D3.gunl3.eq_1, ↓D3.bits3.eq_1, ↓D3.neg3.eq_1, ↓D3.chain3.eq_1, fIsi_int_int, fIsi_int_bool, fIsi_int_tuple, fIsi_int_str, fIsi_int_list, fIsi_bl_int, fIsi_bl_bool, fIsi_bl_tuple, fIsi_bl_str, fIsi_bl_list, fIsi_non_int, fIsi_non_bool, fIsi_non_tuple, fIsi_non_str, fIsi_non_list, fIsi_str_int, fIsi_str_bool, fIsi_str_tuple, fIsi_str_str, fIsi_str_list, fIsi_tup_int, fIsi_tup_bool, fIsi_tup_tuple, fIsi_tup_str, fIsi_tup_list, fIsi_lst_int, fIsi_lst_bool, fIsi_lst_tuple, fIsi_lst_str, fIsi_lst_list, fLen_lst, fLen_tup, fAbs, ↓D3.call3_k, ↓D3.kont_app, ↓D3.isN3.eq_1, ↓D3.notN3.eq_1, dIsN_non, dIsN_int, dIsN_bl, dIsN_str, dIsN_tup, dIsN_lst, ↓D3.slc3.eq_1, ↓D3.part3.eq_1, ↓D3.noPart3.eq_1, ↓D3.ilst3.eq_1, ↓D3.itup3.eq_1, ↓D3.irng1.eq_1, ↓D3.irng2.eq_1, ↓D3.for3.eq_1, fCat, fEq_int, fNe_int, fEq_bl, fNe_bl, fEq_pair, fNe_pair, List.map, List.replicate, List.length_cons, List.length_nil, List.set_cons_zero, List.set_cons_succ, List.getElem?_cons_zero, List.getElem?_cons_succ, List.cons_append, List.nil_append, at_0, at_1, at_2, at_3, at_4, at_5, at_6, ix_0, ix_1, ix_2, put_same, put_put, decide_eq_true_eq, Bool.not_eq_true', decide_eq_false_iff_not, ite_not, ite_true, ite_false, if_true, if_false, Bool.false_eq_true, ↓reduceIte, reduceIte, Nat.reduceAdd, Nat.reduceSub, Int.reduceToNat, Nat.reduceLeDiff, not_false_eq_true, true_and, and_true, ne_eq, Int.reduceEq, Nat.zero_add, Bool.not_true, Bool.not_false, reduceCtorEq, nc0, nc1, nc2, nc3, nc4, nc5, fIx_ref put_same, fLen_ref put_same, ↓D3.lc3.eq_1, fInt, fTuple, fList, fNeS_s, fEqS_s, ↓D3.gstar3.eq_1, fInK_s, fNinK_s, fLenS_s, ↓D3.slcT3.eq_1, fCatT_t, ↓D3.app3.eq_1, ↓D3.frz3.eq_1, ↓D3.dc23.eq_1, ↓D3.lcT3.eq_1, ↓D3.litRep3.eq_1, ↓D3.litRepM3.eq_1, ↓D3.rev3.eq_1, ↓D3.dget3.eq_1, ↓D3.disp3.eq_1, ↓D3.ienum3.eq_1, pop3, sset3]))
    exact q _ _ 0 (fun e => (sm_fr hu hg l1 l2 (by omega) (by omega)).wt) ((o1.trans o2).trans o3) (d3.le (by omega))
def tneed (e : Nat) : Nat := 8 * 2 ^ e - 2
def sp_termN : Nat → Sp3
  | 0 => fun _ _ _ => False
  | e + 1 => fun ds m P => ∃ (a : Addr) (n : Nat) (ns : List Str), ds = [.ref a, .int ((e + 1 : Nat) : Int), .lst (ns.map D.str)] ∧ Nms ns ∧ ns.length ≤ 10 ∧ DeckAt m a (n + tneed e) ∧ ∀ d m', Wt ns (e + 1) d → Off a m m' → DeckAt m' a n → P d m'
theorem ok_termS (T : Tx w K mg fa fd) (e : Nat) (ih : Fn3 P w K mg base (e + 3) (fa 12) (fd 12) ["deck", "deep", "names"] (sp_termN e)) : Fn3 P w K mg base (e + 3 + 1) (fa 12) (fd 12) ["deck", "deep", "names"] (sp_termN (e + 1)) := by
  refine fn3 T.d_law_term.F sc_law_term (fun ds m Q h => by obtain ⟨_, _, _, rfl, _⟩ := h; rfl) fun cdv A outer s H E ds m Q hr h => ?_
  obtain ⟨a, n, ns, rfl, hn, hl, hd, q⟩ := h
  refine ⟨_, (ss_cons (s_set (i := 3) sc_law_term.nd (e_call T.d_law_pick (ok_law_pick T) (hr.mono (by omega)) rfl (a_cons (e_v 0) (a_cons e_int a_nil))))
      (ss_cons (s_if (t_w (t_or (t_lt (e_v 1) e_int) (t_or1 (t_lt (e_v 3) e_int)))) (ss_one (s_ret (e_call T.d_law_leaf (ok_law_leaf T) (hr.mono (by omega)) rfl (a_cons (e_v 0) (a_cons (e_v 2) a_nil))))) ss_nil)
      (ss_cons (s_set (i := 4) sc_law_term.nd (e_call T.d_law_term ih (hr.mono (by omega)) rfl (a_cons (e_v 0) (a_cons (e_sub (e_v 1) e_int) (a_cons (e_v 2) a_nil)))))
      (ss_cons (s_if (t_lt (e_v 3) e_int) (ss_cons (s_set (i := 5) sc_law_term.nd (e_ix (e_lst (a_cons e_str (a_cons e_str (a_cons e_str (a_cons e_str (a_cons e_str (a_cons e_str a_nil))))))) (e_sub (e_v 3) e_int)))
      (ss_one (s_ret (e_tup (a_cons (e_v 5) (a_cons (e_v 4) (a_cons (e_call T.d_law_term ih (hr.mono (by omega)) rfl (a_cons (e_v 0) (a_cons (e_sub (e_v 1) e_int) (a_cons (e_v 2) a_nil)))) a_nil))))))) ss_nil)
      (ss_cons (s_if (t_eqI (e_v 3) e_int) (ss_one (s_ret (e_tup (a_cons e_str (a_cons (e_add e_int (e_call T.d_law_pick (ok_law_pick T) (hr.mono (by omega)) rfl (a_cons (e_v 0) (a_cons e_int a_nil)))) (a_cons (e_v 4) a_nil)))))) ss_nil)
      (ss_one (s_ret (e_tup (a_cons (e_ix (e_lst (a_cons e_str (a_cons e_str (a_cons e_str (a_cons e_str (a_cons e_str (a_cons e_str a_nil))))))) (e_mod (e_add (e_sub (e_v 3) e_int) (e_call T.d_law_pick (ok_law_pick T) (hr.mono (by omega)) rfl (a_cons (e_v 0) (a_cons e_int a_nil)))) e_int)) (a_cons (e_v 4) a_nil)))))))))), ?_⟩
  have h6 : 6 ≤ tneed e := by unfold tneed; have : 1 ≤ 2 ^ e := Nat.one_le_two_pow; omega
  (refine laterP_in ?_; repeat ((first | with_reducible refine laterP_i ?_ | with_reducible refine later_i ?_); try simp -implicitDefEqProofs -dsimp only [↓D3.seq3_stop, ↓D3.ifS3.eq_1, ↓D3.b3.eq_1, ↓D3.op3.eq_1, ↓D3.un3.eq_1, ↓D3.v3.eq_1, ↓D3.c3.eq_1, fIx_tup, fIx_lst, at3_0, at3_1, at3_2, at3_3, at3_4, at3_5, at3_6, start3, fI0_i, fI_i, fLt, fLe, fGt, fGe, fEqI, fNeI, fMin, fMax, ↓D3.asg3.eq_1, ↓D3.name3.eq_1, ↓D3.sub3.eq_1, ↓D3.ret3.eq_1, ↓D3.retN3.eq_1, ↓D3.nx3.eq_1, ↓D3.drop3.eq_1, ↓D3.par3.eq_1, ↓D3.aug3.eq_1, ↓D3.and3.eq_1, ↓D3.or3.eq_1, ↓D3.not3.eq_1, ↓D3.andV3.eq_1, ↓D3.orV3.eq_1, ↓D3.notV3.eq_1, ↓D3.if3.eq_1, ↓D3.nil3.eq_1, ↓D3.cons3.eq_1, ↓D3.tup3.eq_1, ↓D3.lst3.eq_1, ↓D3.lstM3.eq_1, ↓D3.gtup3.eq_1, ↓D3.gcons3.eq_1, ↓D3.gnil3.eq_1, ↓D3.gunl3.eq_1, ↓D3.bits3.eq_1, ↓D3.neg3.eq_1, ↓D3.chain3.eq_1, fIsi_int_int, fIsi_int_bool, fIsi_int_tuple, fIsi_int_str, fIsi_int_list, fIsi_bl_int, fIsi_bl_bool, fIsi_bl_tuple, fIsi_bl_str, fIsi_bl_list, fIsi_non_int, fIsi_non_bool, fIsi_non_tuple, fIsi_non_str, fIsi_non_list, fIsi_str_int, fIsi_str_bool, fIsi_str_tuple, fIsi_str_str, fIsi_str_list, fIsi_tup_int, fIsi_tup_bool, fIsi_tup_tuple, fIsi_tup_str, fIsi_tup_list, fIsi_lst_int, fIsi_lst_bool, fIsi_lst_tuple, fIsi_lst_str, fIsi_lst_list, fLen_lst, fLen_tup, fAbs, ↓D3.call3_k, ↓D3.kont_app, ↓D3.isN3.eq_1, ↓D3.notN3.eq_1, dIsN_non, dIsN_int, dIsN_bl, dIsN_str, dIsN_tup, dIsN_lst, ↓D3.slc3.eq_1, ↓D3.part3.eq_1, ↓D3.noPart3.eq_1, ↓D3.ilst3.eq_1, ↓D3.itup3.eq_1, ↓D3.irng1.eq_1, ↓D3.irng2.eq_1, ↓D3.for3.eq_1, fCat, fEq_int, fNe_int, fEq_bl, fNe_bl, fEq_pair, fNe_pair, List.map, List.replicate, List.length_cons, List.length_nil, List.set_cons_zero, List.set_cons_succ, List.getElem?_cons_zero, List.getElem?_cons_succ, List.cons_append, List.nil_append, at_0, at_1, at_2, at_3, at_4, at_5, at_6, ix_0, ix_1, ix_2, put_same, put_put, decide_eq_true_eq, Bool.not_eq_true', decide_eq_false_iff_not, ite_not, ite_true, ite_false, if_true, if_false, Bool.false_eq_true, ↓reduceIte, reduceIte, Nat.reduceAdd, Nat.reduceSub, Int.reduceToNat, Nat.reduceLeDiff, not_false_eq_true, true_and, and_true, ne_eq, Int.reduceEq, Nat.zero_add, Bool.not_true, Bool.not_false, reduceCtorEq, nc0, nc1, nc2, nc3, nc4, nc5, fIx_ref put_same, fLen_ref put_same, ↓D3.lc3.eq_1, fInt, fTuple, fList, fNeS_s, fEqS_s, ↓D3.gstar3.eq_1, fInK_s, fNinK_s, fLenS_s, ↓D3.slcT3.eq_1, fCatT_t, ↓D3.app3.eq_1, ↓D3.frz3.eq_1, ↓D3.dc23.eq_1, ↓D3.lcT3.eq_1, ↓D3.litRep3.eq_1, ↓D3.litRepM3.eq_1, ↓D3.rev3.eq_1, ↓D3.dget3.eq_1, ↓D3.disp3.eq_1, ↓D3.ienum3.eq_1, pop3, sset3]))
  refine sp_pick_i (n + (tneed e - 1)) (by rw [show n + (tneed e - 1) + 1 = n + tneed e by omega]; exact hd) (by decide) (by decide) fun way m1 w0 w1 o1 d1 => ?_
  (refine laterP_in ?_; repeat ((first | with_reducible refine laterP_i ?_ | with_reducible refine later_i ?_); try simp -implicitDefEqProofs -dsimp only [↓D3.seq3_stop, ↓D3.ifS3.eq_1, ↓D3.b3.eq_1, ↓D3.op3.eq_1, ↓D3.un3.eq_1, ↓D3.v3.eq_1, ↓D3.c3.eq_1, fIx_tup, fIx_lst, at3_0, at3_1, at3_2, at3_3, at3_4, at3_5, at3_6, start3, fI0_i, fI_i, fLt, fLe, fGt, fGe, fEqI, fNeI, fMin, fMax, ↓D3.asg3.eq_1, ↓D3.name3.eq_1, ↓D3.sub3.eq_1, ↓D3.ret3.eq_1, ↓D3.retN3.eq_1, ↓D3.nx3.eq_1, ↓D3.drop3.eq_1, ↓D3.par3.eq_1, ↓D3.aug3.eq_1, ↓D3.and3.eq_1, ↓D3.or3.eq_1, ↓D3.not3.eq_1, ↓D3.andV3.eq_1, ↓D3.orV3.eq_1, ↓D3.notV3.eq_1, ↓D3.if3.eq_1, ↓D3.nil3.eq_1, ↓D3.cons3.eq_1, ↓D3.tup3.eq_1, ↓D3.lst3.eq_1, ↓D3.lstM3.eq_1, ↓D3.gtup3.eq_1, ↓D3.gcons3.eq_1, ↓D3.gnil3.eq_1, ↓D3.gunl3.eq_1, ↓D3.bits3.eq_1, ↓D3.neg3.eq_1, ↓D3.chain3.eq_1, fIsi_int_int, fIsi_int_bool, fIsi_int_tuple, fIsi_int_str, fIsi_int_list, fIsi_bl_int, fIsi_bl_bool, fIsi_bl_tuple, fIsi_bl_str, fIsi_bl_list, fIsi_non_int, fIsi_non_bool, fIsi_non_tuple, fIsi_non_str, fIsi_non_list, fIsi_str_int, fIsi_str_bool, fIsi_str_tuple, fIsi_str_str, fIsi_str_list, fIsi_tup_int, fIsi_tup_bool, fIsi_tup_tuple, fIsi_tup_str, fIsi_tup_list, fIsi_lst_int, fIsi_lst_bool, fIsi_lst_tuple, fIsi_lst_str, fIsi_lst_list, fLen_lst, fLen_tup, fAbs, ↓D3.call3_k, ↓D3.kont_app, ↓D3.isN3.eq_1, ↓D3.notN3.eq_1, dIsN_non, dIsN_int, dIsN_bl, dIsN_str, dIsN_tup, dIsN_lst, ↓D3.slc3.eq_1, ↓D3.part3.eq_1, ↓D3.noPart3.eq_1, ↓D3.ilst3.eq_1, ↓D3.itup3.eq_1, ↓D3.irng1.eq_1, ↓D3.irng2.eq_1, ↓D3.for3.eq_1, fCat, fEq_int, fNe_int, fEq_bl, fNe_bl, fEq_pair, fNe_pair, List.map, List.replicate, List.length_cons, List.length_nil, List.set_cons_zero, List.set_cons_succ, List.getElem?_cons_zero, List.getElem?_cons_succ, List.cons_append, List.nil_append, at_0, at_1, at_2, at_3, at_4, at_5, at_6, ix_0, ix_1, ix_2, put_same, put_put, decide_eq_true_eq, Bool.not_eq_true', decide_eq_false_iff_not, ite_not, ite_true, ite_false, if_true, if_false, Bool.false_eq_true, ↓reduceIte, reduceIte, Nat.reduceAdd, Nat.reduceSub, Int.reduceToNat, Nat.reduceLeDiff, not_false_eq_true, true_and, and_true, ne_eq, Int.reduceEq, Nat.zero_add, Bool.not_true, Bool.not_false, reduceCtorEq, nc0, nc1, nc2, nc3, nc4, nc5, fIx_ref put_same, fLen_ref put_same, ↓D3.lc3.eq_1, fInt, fTuple, fList, fNeS_s, fEqS_s, ↓D3.gstar3.eq_1, fInK_s, fNinK_s, fLenS_s, ↓D3.slcT3.eq_1, fCatT_t, ↓D3.app3.eq_1, ↓D3.frz3.eq_1, ↓D3.dc23.eq_1, ↓D3.lcT3.eq_1, ↓D3.litRep3.eq_1, ↓D3.litRepM3.eq_1, ↓D3.rev3.eq_1, ↓D3.dget3.eq_1, ↓D3.disp3.eq_1, ↓D3.ienum3.eq_1, pop3, sset3]))
  have leaf : ∀ P : DK, (∀ d m', Wt ns (e + 1) d → Off a m m' → DeckAt m' a n → P d m') → sp_leaf [.ref a, .lst (ns.map D.str)] m1 P := fun P k => ⟨a, n, ns, rfl, hn, hl, d1.le (by omega), fun d m' _ w o dd => k d m' (w e) (o1.trans o) dd⟩
  refine ite2 (fun h2 => leaf _ q) (fun h2 => ite2 (fun h3 => leaf _ q) (fun h3 => ?_))
  obtain ⟨e, rfl⟩ : ∃ k, e = k + 1 := ⟨e - 1, by omega⟩
  have h6' : 6 ≤ tneed e := by unfold tneed; have : 1 ≤ 2 ^ e := Nat.one_le_two_pow; omega
  have et : tneed (e + 1) = 2 * tneed e + 2 := by unfold tneed; have : 1 ≤ 2 ^ e := Nat.one_le_two_pow; rw [Nat.pow_succ]; omega
  (refine laterP_in ?_; repeat ((first | with_reducible refine laterP_i ?_ | with_reducible refine later_i ?_); try simp -implicitDefEqProofs -dsimp only [↓D3.seq3_stop, ↓D3.ifS3.eq_1, ↓D3.b3.eq_1, ↓D3.op3.eq_1, ↓D3.un3.eq_1, ↓D3.v3.eq_1, ↓D3.c3.eq_1, fIx_tup, fIx_lst, at3_0, at3_1, at3_2, at3_3, at3_4, at3_5, at3_6, start3, fI0_i, fI_i, fLt, fLe, fGt, fGe, fEqI, fNeI, fMin, fMax, ↓D3.asg3.eq_1, ↓D3.name3.eq_1, ↓D3.sub3.eq_1, ↓D3.ret3.eq_1, ↓D3.retN3.eq_1, ↓D3.nx3.eq_1, ↓D3.drop3.eq_1, ↓D3.par3.eq_1, ↓D3.aug3.eq_1, ↓D3.and3.eq_1, ↓D3.or3.eq_1, ↓D3.not3.eq_1, ↓D3.andV3.eq_1, ↓D3.orV3.eq_1, ↓D3.notV3.eq_1, ↓D3.if3.eq_1, ↓D3.nil3.eq_1, ↓D3.cons3.eq_1, ↓D3.tup3.eq_1, ↓D3.lst3.eq_1, ↓D3.lstM3.eq_1, ↓D3.gtup3.eq_1, ↓D3.gcons3.eq_1, ↓D3.gnil3.eq_1, ↓D3.gunl3.eq_1, ↓D3.bits3.eq_1, ↓D3.neg3.eq_1, ↓D3.chain3.eq_1, fIsi_int_int, fIsi_int_bool, fIsi_int_tuple, fIsi_int_str, fIsi_int_list, fIsi_bl_int, fIsi_bl_bool, fIsi_bl_tuple, fIsi_bl_str, fIsi_bl_list, fIsi_non_int, fIsi_non_bool, fIsi_non_tuple, fIsi_non_str, fIsi_non_list, fIsi_str_int, fIsi_str_bool, fIsi_str_tuple, fIsi_str_str, fIsi_str_list, fIsi_tup_int, fIsi_tup_bool, fIsi_tup_tuple, fIsi_tup_str, fIsi_tup_list, fIsi_lst_int, fIsi_lst_bool, fIsi_lst_tuple, fIsi_lst_str, fIsi_lst_list, fLen_lst, fLen_tup, fAbs, ↓D3.call3_k, ↓D3.kont_app, ↓D3.isN3.eq_1, ↓D3.notN3.eq_1, dIsN_non, dIsN_int, dIsN_bl, dIsN_str, dIsN_tup, dIsN_lst, ↓D3.slc3.eq_1, ↓D3.part3.eq_1, ↓D3.noPart3.eq_1, ↓D3.ilst3.eq_1, ↓D3.itup3.eq_1, ↓D3.irng1.eq_1, ↓D3.irng2.eq_1, ↓D3.for3.eq_1, fCat, fEq_int, fNe_int, fEq_bl, fNe_bl, fEq_pair, fNe_pair, List.map, List.replicate, List.length_cons, List.length_nil, List.set_cons_zero, List.set_cons_succ, List.getElem?_cons_zero, List.getElem?_cons_succ, List.cons_append, List.nil_append, at_0, at_1, at_2, at_3, at_4, at_5, at_6, ix_0, ix_1, ix_2, put_same, put_put, decide_eq_true_eq, Bool.not_eq_true', decide_eq_false_iff_not, ite_not, ite_true, ite_false, if_true, if_false, Bool.false_eq_true, ↓reduceIte, reduceIte, Nat.reduceAdd, Nat.reduceSub, Int.reduceToNat, Nat.reduceLeDiff, not_false_eq_true, true_and, and_true, ne_eq, Int.reduceEq, Nat.zero_add, Bool.not_true, Bool.not_false, reduceCtorEq, nc0, nc1, nc2, nc3, nc4, nc5, fIx_ref put_same, fLen_ref put_same, ↓D3.lc3.eq_1, fInt, fTuple, fList, fNeS_s, fEqS_s, ↓D3.gstar3.eq_1, fInK_s, fNinK_s, fLenS_s, ↓D3.slcT3.eq_1, fCatT_t, ↓D3.app3.eq_1, ↓D3.frz3.eq_1, ↓D3.dc23.eq_1, ↓D3.lcT3.eq_1, ↓D3.litRep3.eq_1, ↓D3.litRepM3.eq_1, ↓D3.rev3.eq_1, ↓D3.dget3.eq_1, ↓D3.disp3.eq_1, ↓D3.ienum3.eq_1, pop3, sset3]))
  refine ⟨a, n + (tneed e + 1), ns, by rw [show ((e + 1 + 1 : Nat) : Int) - 1 = ((e + 1 : Nat) : Int) by omega], hn, hl, d1.le (by omega), fun one m2 w1' o2 d2 => ?_⟩
  (refine laterP_in ?_; repeat ((first | with_reducible refine laterP_i ?_ | with_reducible refine later_i ?_); try simp -implicitDefEqProofs -dsimp only [↓D3.seq3_stop, ↓D3.ifS3.eq_1, ↓D3.b3.eq_1, ↓D3.op3.eq_1, ↓D3.un3.eq_1, ↓D3.v3.eq_1, ↓D3.c3.eq_1, fIx_tup, fIx_lst, at3_0, at3_1, at3_2, at3_3, at3_4, at3_5, at3_6, start3, fI0_i, fI_i, fLt, fLe, fGt, fGe, fEqI, fNeI, fMin, fMax, ↓D3.asg3.eq_1, ↓D3.name3.eq_1, ↓D3.sub3.eq_1, ↓D3.ret3.eq_1, ↓D3.retN3.eq_1, ↓D3.nx3.eq_1, ↓D3.drop3.eq_1, ↓D3.par3.eq_1, ↓D3.aug3.eq_1, ↓D3.and3.eq_1, ↓D3.or3.eq_1, ↓D3.not3.eq_1, ↓D3.andV3.eq_1, ↓D3.orV3.eq_1, ↓D3.notV3.eq_1, ↓D3.if3.eq_1, ↓D3.nil3.eq_1, ↓D3.cons3.eq_1, ↓D3.tup3.eq_1, ↓D3.lst3.eq_1, ↓D3.lstM3.eq_1, ↓D3.gtup3.eq_1, ↓D3.gcons3.eq_1, ↓D3.gnil3.eq_1, ↓D3.gunl3.eq_1, ↓D3.bits3.eq_1, ↓D3.neg3.eq_1, ↓D3.chain3.eq_1, fIsi_int_int, fIsi_int_bool, fIsi_int_tuple, fIsi_int_str, fIsi_int_list, fIsi_bl_int, fIsi_bl_bool, fIsi_bl_tuple, fIsi_bl_str, fIsi_bl_list, fIsi_non_int, fIsi_non_bool, fIsi_non_tuple, fIsi_non_str, fIsi_non_list, fIsi_str_int, fIsi_str_bool, fIsi_str_tuple, fIsi_str_str, fIsi_str_list, fIsi_tup_int, fIsi_tup_bool, fIsi_tup_tuple, fIsi_tup_str, fIsi_tup_list, fIsi_lst_int, fIsi_lst_bool, fIsi_lst_tuple, fIsi_lst_str, fIsi_lst_list, fLen_lst, fLen_tup, fAbs, ↓D3.call3_k, ↓D3.kont_app, ↓D3.isN3.eq_1, ↓D3.notN3.eq_1, dIsN_non, dIsN_int, dIsN_bl, dIsN_str, dIsN_tup, dIsN_lst, ↓D3.slc3.eq_1, ↓D3.part3.eq_1, ↓D3.noPart3.eq_1, ↓D3.ilst3.eq_1, ↓D3.itup3.eq_1, ↓D3.irng1.eq_1, ↓D3.irng2.eq_1, ↓D3.for3.eq_1, fCat, fEq_int, fNe_int, fEq_bl, fNe_bl, fEq_pair, fNe_pair, List.map, List.replicate, List.length_cons, List.length_nil, List.set_cons_zero, List.set_cons_succ, List.getElem?_cons_zero, List.getElem?_cons_succ, List.cons_append, List.nil_append, at_0, at_1, at_2, at_3, at_4, at_5, at_6, ix_0, ix_1, ix_2, put_same, put_put, decide_eq_true_eq, Bool.not_eq_true', decide_eq_false_iff_not, ite_not, ite_true, ite_false, if_true, if_false, Bool.false_eq_true, ↓reduceIte, reduceIte, Nat.reduceAdd, Nat.reduceSub, Int.reduceToNat, Nat.reduceLeDiff, not_false_eq_true, true_and, and_true, ne_eq, Int.reduceEq, Nat.zero_add, Bool.not_true, Bool.not_false, reduceCtorEq, nc0, nc1, nc2, nc3, nc4, nc5, fIx_ref put_same, fLen_ref put_same, ↓D3.lc3.eq_1, fInt, fTuple, fList, fNeS_s, fEqS_s, ↓D3.gstar3.eq_1, fInK_s, fNinK_s, fLenS_s, ↓D3.slcT3.eq_1, fCatT_t, ↓D3.app3.eq_1, ↓D3.frz3.eq_1, ↓D3.dc23.eq_1, ↓D3.lcT3.eq_1, ↓D3.litRep3.eq_1, ↓D3.litRepM3.eq_1, ↓D3.rev3.eq_1, ↓D3.dget3.eq_1, ↓D3.disp3.eq_1, ↓D3.ienum3.eq_1, pop3, sset3]))
  refine ite2 (fun h4 => ?_) (fun h4 => ?_)
  · refine at3_all (by omega) (by simp only [List.length_cons, List.length_nil]; omega) fun k hk => ?_
    obtain ⟨k, rfl, hk2⟩ : ∃ k', k = .str k' ∧ k' ∈ K2 := by
      simp only [List.mem_cons, List.not_mem_nil, or_false] at hk
      rcases hk with rfl | rfl | rfl | rfl | rfl | rfl <;> exact ⟨_, rfl, by simp [K2]⟩
    (refine laterP_in ?_; repeat ((first | with_reducible refine laterP_i ?_ | with_reducible refine later_i ?_); try simp -implicitDefEqProofs -dsimp only [↓D3.seq3_stop, ↓D3.ifS3.eq_1, ↓D3.b3.eq_1, ↓D3.op3.eq_1, ↓D3.un3.eq_1, ↓D3.v3.eq_1, ↓D3.c3.eq_1, fIx_tup, fIx_lst, at3_0, at3_1, at3_2, at3_3, at3_4, at3_5, at3_6, start3, fI0_i, fI_i, fLt, fLe, fGt, fGe, fEqI, fNeI, fMin, fMax, ↓D3.asg3.eq_1, ↓D3.name3.eq_1, ↓D3.sub3.eq_1, ↓D3.ret3.eq_1, ↓D3.retN3.eq_1, ↓D3.nx3.eq_1, ↓D3.drop3.eq_1, ↓D3.par3.eq_1, ↓D3.aug3.eq_1, ↓D3.and3.eq_1, ↓D3.or3.eq_1, ↓D3.not3.eq_1, ↓D3.andV3.eq_1, ↓D3.orV3.eq_1, ↓D3.notV3.eq_1, ↓D3.if3.eq_1, ↓D3.nil3.eq_1, ↓D3.cons3.eq_1, ↓D3.tup3.eq_1, ↓D3.lst3.eq_1, ↓D3.lstM3.eq_1, ↓D3.gtup3.eq_1, ↓D3.gcons3.eq_1, ↓D3.gnil3.eq_1, ↓D3.gunl3.eq_1, ↓D3.bits3.eq_1, ↓D3.neg3.eq_1, ↓D3.chain3.eq_1, fIsi_int_int, fIsi_int_bool, fIsi_int_tuple, fIsi_int_str, fIsi_int_list, fIsi_bl_int, fIsi_bl_bool, fIsi_bl_tuple, fIsi_bl_str, fIsi_bl_list, fIsi_non_int, fIsi_non_bool, fIsi_non_tuple, fIsi_non_str, fIsi_non_list, fIsi_str_int, fIsi_str_bool, fIsi_str_tuple, fIsi_str_str, fIsi_str_list, fIsi_tup_int, fIsi_tup_bool, fIsi_tup_tuple, fIsi_tup_str, fIsi_tup_list, fIsi_lst_int, fIsi_lst_bool, fIsi_lst_tuple, fIsi_lst_str, fIsi_lst_list, fLen_lst, fLen_tup, fAbs, ↓D3.call3_k, ↓D3.kont_app, ↓D3.isN3.eq_1, ↓D3.notN3.eq_1, dIsN_non, dIsN_int, dIsN_bl, dIsN_str, dIsN_tup, dIsN_lst, ↓D3.slc3.eq_1, ↓D3.part3.eq_1, ↓D3.noPart3.eq_1, ↓D3.ilst3.eq_1, ↓D3.itup3.eq_1, ↓D3.irng1.eq_1, ↓D3.irng2.eq_1, ↓D3.for3.eq_1, fCat, fEq_int, fNe_int, fEq_bl, fNe_bl, fEq_pair, fNe_pair, List.map, List.replicate, List.length_cons, List.length_nil, List.set_cons_zero, List.set_cons_succ, List.getElem?_cons_zero, List.getElem?_cons_succ, List.cons_append, List.nil_append, at_0, at_1, at_2, at_3, at_4, at_5, at_6, ix_0, ix_1, ix_2, put_same, put_put, decide_eq_true_eq, Bool.not_eq_true', decide_eq_false_iff_not, ite_not, ite_true, ite_false, if_true, if_false, Bool.false_eq_true, ↓reduceIte, reduceIte, Nat.reduceAdd, Nat.reduceSub, Int.reduceToNat, Nat.reduceLeDiff, not_false_eq_true, true_and, and_true, ne_eq, Int.reduceEq, Nat.zero_add, Bool.not_true, Bool.not_false, reduceCtorEq, nc0, nc1, nc2, nc3, nc4, nc5, fIx_ref put_same, fLen_ref put_same, ↓D3.lc3.eq_1, fInt, fTuple, fList, fNeS_s, fEqS_s, ↓D3.gstar3.eq_1, fInK_s, fNinK_s, fLenS_s, ↓D3.slcT3.eq_1, fCatT_t, ↓D3.app3.eq_1, ↓D3.frz3.eq_1, ↓D3.dc23.eq_1, ↓D3.lcT3.eq_1, ↓D3.litRep3.eq_1, ↓D3.litRepM3.eq_1, ↓D3.rev3.eq_1, ↓D3.dget3.eq_1, ↓D3.disp3.eq_1, ↓D3.ienum3.eq_1, pop3, sset3]))
    refine ⟨a, n, ns, by rw [show ((e + 1 + 1 : Nat) : Int) - 1 = ((e + 1 : Nat) : Int) by omega], hn, hl, d2.le (by omega), fun two m3 w2' o3 d3 => ?_⟩
    (refine laterP_in ?_; repeat ((first | with_reducible refine laterP_i ?_ | with_reducible refine later_i ?_); try simp -implicitDefEqProofs -dsimp only [↓D3.seq3_stop, ↓D3.ifS3.eq_1, ↓D3.b3.eq_1, ↓D3.op3.eq_1, ↓D3.un3.eq_1, ↓D3.v3.eq_1, ↓D3.c3.eq_1, fIx_tup, fIx_lst, at3_0, at3_1, at3_2, at3_3, at3_4, at3_5, at3_6, start3, fI0_i, fI_i, fLt, fLe, fGt, fGe, fEqI, fNeI, fMin, fMax, ↓D3.asg3.eq_1, ↓D3.name3.eq_1, ↓D3.sub3.eq_1, ↓D3.ret3.eq_1, ↓D3.retN3.eq_1, ↓D3.nx3.eq_1, ↓D3.drop3.eq_1, ↓D3.par3.eq_1, ↓D3.aug3.eq_1, ↓D3.and3.eq_1, ↓D3.or3.eq_1, ↓D3.not3.eq_1, ↓D3.andV3.eq_1, ↓D3.orV3.eq_1, ↓D3.notV3.eq_1, ↓D3.if3.eq_1, ↓D3.nil3.eq_1, ↓D3.cons3.eq_1, ↓D3.tup3.eq_1, ↓D3.lst3.eq_1, ↓D3.lstM3.eq_1, ↓D3.gtup3.eq_1, ↓D3.gcons3.eq_1, ↓D3.gnil3.eq_1, ↓D3.gunl3.eq_1, ↓D3.bits3.eq_1, ↓D3.neg3.eq_1, ↓D3.chain3.eq_1, fIsi_int_int, fIsi_int_bool, fIsi_int_tuple, fIsi_int_str, fIsi_int_list, fIsi_bl_int, fIsi_bl_bool, fIsi_bl_tuple, fIsi_bl_str, fIsi_bl_list, fIsi_non_int, fIsi_non_bool, fIsi_non_tuple, fIsi_non_str, fIsi_non_list, fIsi_str_int, fIsi_str_bool, fIsi_str_tuple, fIsi_str_str, fIsi_str_list, fIsi_tup_int, fIsi_tup_bool, fIsi_tup_tuple, fIsi_tup_str, fIsi_tup_list, fIsi_lst_int, fIsi_lst_bool, fIsi_lst_tuple, fIsi_lst_str, fIsi_lst_list, fLen_lst, fLen_tup, fAbs, ↓D3.call3_k, ↓D3.kont_app, ↓D3.isN3.eq_1, ↓D3.notN3.eq_1, dIsN_non, dIsN_int, dIsN_bl, dIsN_str, dIsN_tup, dIsN_lst, ↓D3.slc3.eq_1, ↓D3.part3.eq_1, ↓D3.noPart3.eq_1, ↓D3.ilst3.eq_1, ↓D3.itup3.eq_1, ↓D3.irng1.eq_1, ↓D3.irng2.eq_1, ↓D3.for3.eq_1, fCat, fEq_int, fNe_int, fEq_bl, fNe_bl, fEq_pair, fNe_pair, List.map, List.replicate, List.length_cons, List.length_nil, List.set_cons_zero, List.set_cons_succ, List.getElem?_cons_zero, List.getElem?_cons_succ, List.cons_append, List.nil_append, at_0, at_1, at_2, at_3, at_4, at_5, at_6, ix_0, ix_1, ix_2, put_same, put_put, decide_eq_true_eq, Bool.not_eq_true', decide_eq_false_iff_not, ite_not, ite_true, ite_false, if_true, if_false, Bool.false_eq_true, ↓reduceIte, reduceIte, Nat.reduceAdd, Nat.reduceSub, Int.reduceToNat, Nat.reduceLeDiff, not_false_eq_true, true_and, and_true, ne_eq, Int.reduceEq, Nat.zero_add, Bool.not_true, Bool.not_false, reduceCtorEq, nc0, nc1, nc2, nc3, nc4, nc5, fIx_ref put_same, fLen_ref put_same, ↓D3.lc3.eq_1, fInt, fTuple, fList, fNeS_s, fEqS_s, ↓D3.gstar3.eq_1, fInK_s, fNinK_s, fLenS_s, ↓D3.slcT3.eq_1, fCatT_t, ↓D3.app3.eq_1, ↓D3.frz3.eq_1, ↓D3.dc23.eq_1, ↓D3.lcT3.eq_1, ↓D3.litRep3.eq_1, ↓D3.litRepM3.eq_1, ↓D3.rev3.eq_1, ↓D3.dget3.eq_1, ↓D3.disp3.eq_1, ↓D3.ienum3.eq_1, pop3, sset3]))
    exact q _ _ (.two hk2 w1' w2') ((o1.trans o2).trans o3) d3
  (refine laterP_in ?_; repeat ((first | with_reducible refine laterP_i ?_ | with_reducible refine later_i ?_); try simp -implicitDefEqProofs -dsimp only [↓D3.seq3_stop, ↓D3.ifS3.eq_1, ↓D3.b3.eq_1, ↓D3.op3.eq_1, ↓D3.un3.eq_1, ↓D3.v3.eq_1, ↓D3.c3.eq_1, fIx_tup, fIx_lst, at3_0, at3_1, at3_2, at3_3, at3_4, at3_5, at3_6, start3, fI0_i, fI_i, fLt, fLe, fGt, fGe, fEqI, fNeI, fMin, fMax, ↓D3.asg3.eq_1, ↓D3.name3.eq_1, ↓D3.sub3.eq_1, ↓D3.ret3.eq_1, ↓D3.retN3.eq_1, ↓D3.nx3.eq_1, ↓D3.drop3.eq_1, ↓D3.par3.eq_1, ↓D3.aug3.eq_1, ↓D3.and3.eq_1, ↓D3.or3.eq_1, ↓D3.not3.eq_1, ↓D3.andV3.eq_1, ↓D3.orV3.eq_1, ↓D3.notV3.eq_1, ↓D3.if3.eq_1, ↓D3.nil3.eq_1, ↓D3.cons3.eq_1, ↓D3.tup3.eq_1, ↓D3.lst3.eq_1, ↓D3.lstM3.eq_1, ↓D3.gtup3.eq_1, ↓D3.gcons3.eq_1, ↓D3.gnil3.eq_1, ↓D3.gunl3.eq_1, ↓D3.bits3.eq_1, ↓D3.neg3.eq_1, ↓D3.chain3.eq_1, fIsi_int_int, fIsi_int_bool, fIsi_int_tuple, fIsi_int_str, fIsi_int_list, fIsi_bl_int, fIsi_bl_bool, fIsi_bl_tuple, fIsi_bl_str, fIsi_bl_list, fIsi_non_int, fIsi_non_bool, fIsi_non_tuple, fIsi_non_str, fIsi_non_list, fIsi_str_int, fIsi_str_bool, fIsi_str_tuple, fIsi_str_str, fIsi_str_list, fIsi_tup_int, fIsi_tup_bool, fIsi_tup_tuple, fIsi_tup_str, fIsi_tup_list, fIsi_lst_int, fIsi_lst_bool, fIsi_lst_tuple, fIsi_lst_str, fIsi_lst_list, fLen_lst, fLen_tup, fAbs, ↓D3.call3_k, ↓D3.kont_app, ↓D3.isN3.eq_1, ↓D3.notN3.eq_1, dIsN_non, dIsN_int, dIsN_bl, dIsN_str, dIsN_tup, dIsN_lst, ↓D3.slc3.eq_1, ↓D3.part3.eq_1, ↓D3.noPart3.eq_1, ↓D3.ilst3.eq_1, ↓D3.itup3.eq_1, ↓D3.irng1.eq_1, ↓D3.irng2.eq_1, ↓D3.for3.eq_1, fCat, fEq_int, fNe_int, fEq_bl, fNe_bl, fEq_pair, fNe_pair, List.map, List.replicate, List.length_cons, List.length_nil, List.set_cons_zero, List.set_cons_succ, List.getElem?_cons_zero, List.getElem?_cons_succ, List.cons_append, List.nil_append, at_0, at_1, at_2, at_3, at_4, at_5, at_6, ix_0, ix_1, ix_2, put_same, put_put, decide_eq_true_eq, Bool.not_eq_true', decide_eq_false_iff_not, ite_not, ite_true, ite_false, if_true, if_false, Bool.false_eq_true, ↓reduceIte, reduceIte, Nat.reduceAdd, Nat.reduceSub, Int.reduceToNat, Nat.reduceLeDiff, not_false_eq_true, true_and, and_true, ne_eq, Int.reduceEq, Nat.zero_add, Bool.not_true, Bool.not_false, reduceCtorEq, nc0, nc1, nc2, nc3, nc4, nc5, fIx_ref put_same, fLen_ref put_same, ↓D3.lc3.eq_1, fInt, fTuple, fList, fNeS_s, fEqS_s, ↓D3.gstar3.eq_1, fInK_s, fNinK_s, fLenS_s, ↓D3.slcT3.eq_1, fCatT_t, ↓D3.app3.eq_1, ↓D3.frz3.eq_1, ↓D3.dc23.eq_1, ↓D3.lcT3.eq_1, ↓D3.litRep3.eq_1, ↓D3.litRepM3.eq_1, ↓D3.rev3.eq_1, ↓D3.dget3.eq_1, ↓D3.disp3.eq_1, ↓D3.ienum3.eq_1, pop3, sset3]))
  refine ite2 (fun h5 => ?_) (fun h5 => ?_)
  · refine sp_pick_i (n + tneed e) (by rw [show n + tneed e + 1 = n + (tneed e + 1) by omega]; exact d2) (by decide) (by decide) fun r m3 r0 r1 o3 d3 => ?_
    (refine laterP_in ?_; repeat ((first | with_reducible refine laterP_i ?_ | with_reducible refine later_i ?_); try simp -implicitDefEqProofs -dsimp only [↓D3.seq3_stop, ↓D3.ifS3.eq_1, ↓D3.b3.eq_1, ↓D3.op3.eq_1, ↓D3.un3.eq_1, ↓D3.v3.eq_1, ↓D3.c3.eq_1, fIx_tup, fIx_lst, at3_0, at3_1, at3_2, at3_3, at3_4, at3_5, at3_6, start3, fI0_i, fI_i, fLt, fLe, fGt, fGe, fEqI, fNeI, fMin, fMax, ↓D3.asg3.eq_1, ↓D3.name3.eq_1, ↓D3.sub3.eq_1, ↓D3.ret3.eq_1, ↓D3.retN3.eq_1, ↓D3.nx3.eq_1, ↓D3.drop3.eq_1, ↓D3.par3.eq_1, ↓D3.aug3.eq_1, ↓D3.and3.eq_1, ↓D3.or3.eq_1, ↓D3.not3.eq_1, ↓D3.andV3.eq_1, ↓D3.orV3.eq_1, ↓D3.notV3.eq_1, ↓D3.if3.eq_1, ↓D3.nil3.eq_1, ↓D3.cons3.eq_1, ↓D3.tup3.eq_1, ↓D3.lst3.eq_1, ↓D3.lstM3.eq_1, ↓D3.gtup3.eq_1, ↓D3.gcons3.eq_1, ↓D3.gnil3.eq_1, ↓D3.gunl3.eq_1, ↓D3.bits3.eq_1, ↓D3.neg3.eq_1, ↓D3.chain3.eq_1, fIsi_int_int, fIsi_int_bool, fIsi_int_tuple, fIsi_int_str, fIsi_int_list, fIsi_bl_int, fIsi_bl_bool, fIsi_bl_tuple, fIsi_bl_str, fIsi_bl_list, fIsi_non_int, fIsi_non_bool, fIsi_non_tuple, fIsi_non_str, fIsi_non_list, fIsi_str_int, fIsi_str_bool, fIsi_str_tuple, fIsi_str_str, fIsi_str_list, fIsi_tup_int, fIsi_tup_bool, fIsi_tup_tuple, fIsi_tup_str, fIsi_tup_list, fIsi_lst_int, fIsi_lst_bool, fIsi_lst_tuple, fIsi_lst_str, fIsi_lst_list, fLen_lst, fLen_tup, fAbs, ↓D3.call3_k, ↓D3.kont_app, ↓D3.isN3.eq_1, ↓D3.notN3.eq_1, dIsN_non, dIsN_int, dIsN_bl, dIsN_str, dIsN_tup, dIsN_lst, ↓D3.slc3.eq_1, ↓D3.part3.eq_1, ↓D3.noPart3.eq_1, ↓D3.ilst3.eq_1, ↓D3.itup3.eq_1, ↓D3.irng1.eq_1, ↓D3.irng2.eq_1, ↓D3.for3.eq_1, fCat, fEq_int, fNe_int, fEq_bl, fNe_bl, fEq_pair, fNe_pair, List.map, List.replicate, List.length_cons, List.length_nil, List.set_cons_zero, List.set_cons_succ, List.getElem?_cons_zero, List.getElem?_cons_succ, List.cons_append, List.nil_append, at_0, at_1, at_2, at_3, at_4, at_5, at_6, ix_0, ix_1, ix_2, put_same, put_put, decide_eq_true_eq, Bool.not_eq_true', decide_eq_false_iff_not, ite_not, ite_true, ite_false, if_true, if_false, Bool.false_eq_true, ↓reduceIte, reduceIte, Nat.reduceAdd, Nat.reduceSub, Int.reduceToNat, Nat.reduceLeDiff, not_false_eq_true, true_and, and_true, ne_eq, Int.reduceEq, Nat.zero_add, Bool.not_true, Bool.not_false, reduceCtorEq, nc0, nc1, nc2, nc3, nc4, nc5, fIx_ref put_same, fLen_ref put_same, ↓D3.lc3.eq_1, fInt, fTuple, fList, fNeS_s, fEqS_s, ↓D3.gstar3.eq_1, fInK_s, fNinK_s, fLenS_s, ↓D3.slcT3.eq_1, fCatT_t, ↓D3.app3.eq_1, ↓D3.frz3.eq_1, ↓D3.dc23.eq_1, ↓D3.lcT3.eq_1, ↓D3.litRep3.eq_1, ↓D3.litRepM3.eq_1, ↓D3.rev3.eq_1, ↓D3.dget3.eq_1, ↓D3.disp3.eq_1, ↓D3.ienum3.eq_1, pop3, sset3]))
    exact q _ _ (.root (by omega) (by omega) w1') ((o1.trans o2).trans o3) (d3.le (by omega))
  (refine laterP_in ?_; repeat ((first | with_reducible refine laterP_i ?_ | with_reducible refine later_i ?_); try simp -implicitDefEqProofs -dsimp only [↓D3.seq3_stop, ↓D3.ifS3.eq_1, ↓D3.b3.eq_1, ↓D3.op3.eq_1, ↓D3.un3.eq_1, ↓D3.v3.eq_1, ↓D3.c3.eq_1, fIx_tup, fIx_lst, at3_0, at3_1, at3_2, at3_3, at3_4, at3_5, at3_6, start3, fI0_i, fI_i, fLt, fLe, fGt, fGe, fEqI, fNeI, fMin, fMax, ↓D3.asg3.eq_1, ↓D3.name3.eq_1, ↓D3.sub3.eq_1, ↓D3.ret3.eq_1, ↓D3.retN3.eq_1, ↓D3.nx3.eq_1, ↓D3.drop3.eq_1, ↓D3.par3.eq_1, ↓D3.aug3.eq_1, ↓D3.and3.eq_1, ↓D3.or3.eq_1, ↓D3.not3.eq_1, ↓D3.andV3.eq_1, ↓D3.orV3.eq_1, ↓D3.notV3.eq_1, ↓D3.if3.eq_1, ↓D3.nil3.eq_1, ↓D3.cons3.eq_1, ↓D3.tup3.eq_1, ↓D3.lst3.eq_1, ↓D3.lstM3.eq_1, ↓D3.gtup3.eq_1, ↓D3.gcons3.eq_1, ↓D3.gnil3.eq_1, ↓D3.gunl3.eq_1, ↓D3.bits3.eq_1, ↓D3.neg3.eq_1, ↓D3.chain3.eq_1, fIsi_int_int, fIsi_int_bool, fIsi_int_tuple, fIsi_int_str, fIsi_int_list, fIsi_bl_int, fIsi_bl_bool, fIsi_bl_tuple, fIsi_bl_str, fIsi_bl_list, fIsi_non_int, fIsi_non_bool, fIsi_non_tuple, fIsi_non_str, fIsi_non_list, fIsi_str_int, fIsi_str_bool, fIsi_str_tuple, fIsi_str_str, fIsi_str_list, fIsi_tup_int, fIsi_tup_bool, fIsi_tup_tuple, fIsi_tup_str, fIsi_tup_list, fIsi_lst_int, fIsi_lst_bool, fIsi_lst_tuple, fIsi_lst_str, fIsi_lst_list, fLen_lst, fLen_tup, fAbs, ↓D3.call3_k, ↓D3.kont_app, ↓D3.isN3.eq_1, ↓D3.notN3.eq_1, dIsN_non, dIsN_int, dIsN_bl, dIsN_str, dIsN_tup, dIsN_lst, ↓D3.slc3.eq_1, ↓D3.part3.eq_1, ↓D3.noPart3.eq_1, ↓D3.ilst3.eq_1, ↓D3.itup3.eq_1, ↓D3.irng1.eq_1, ↓D3.irng2.eq_1, ↓D3.for3.eq_1, fCat, fEq_int, fNe_int, fEq_bl, fNe_bl, fEq_pair, fNe_pair, List.map, List.replicate, List.length_cons, List.length_nil, List.set_cons_zero, List.set_cons_succ, List.getElem?_cons_zero, List.getElem?_cons_succ, List.cons_append, List.nil_append, at_0, at_1, at_2, at_3, at_4, at_5, at_6, ix_0, ix_1, ix_2, put_same, put_put, decide_eq_true_eq, Bool.not_eq_true', decide_eq_false_iff_not, ite_not, ite_true, ite_false, if_true, if_false, Bool.false_eq_true, ↓reduceIte, reduceIte, Nat.reduceAdd, Nat.reduceSub, Int.reduceToNat, Nat.reduceLeDiff, not_false_eq_true, true_and, and_true, ne_eq, Int.reduceEq, Nat.zero_add, Bool.not_true, Bool.not_false, reduceCtorEq, nc0, nc1, nc2, nc3, nc4, nc5, fIx_ref put_same, fLen_ref put_same, ↓D3.lc3.eq_1, fInt, fTuple, fList, fNeS_s, fEqS_s, ↓D3.gstar3.eq_1, fInK_s, fNinK_s, fLenS_s, ↓D3.slcT3.eq_1, fCatT_t, ↓D3.app3.eq_1, ↓D3.frz3.eq_1, ↓D3.dc23.eq_1, ↓D3.lcT3.eq_1, ↓D3.litRep3.eq_1, ↓D3.litRepM3.eq_1, ↓D3.rev3.eq_1, ↓D3.dget3.eq_1, ↓D3.disp3.eq_1, ↓D3.ienum3.eq_1, pop3, sset3]))
  refine sp_pick_i (n + tneed e) (by rw [show n + tneed e + 1 = n + (tneed e + 1) by omega]; exact d2) (by decide) (by decide) fun r m3 r0 r1 o3 d3 => ?_
  (refine laterP_in ?_; repeat ((first | with_reducible refine laterP_i ?_ | with_reducible refine later_i ?_); try simp -implicitDefEqProofs -dsimp only [↓D3.seq3_stop, ↓D3.ifS3.eq_1, ↓D3.b3.eq_1, ↓D3.op3.eq_1, ↓D3.un3.eq_1, ↓D3.v3.eq_1, ↓D3.c3.eq_1, fIx_tup, fIx_lst, at3_0, at3_1, at3_2, at3_3, at3_4, at3_5, at3_6, start3, fI0_i, fI_i, fLt, fLe, fGt, fGe, fEqI, fNeI, fMin, fMax, ↓D3.asg3.eq_1, ↓D3.name3.eq_1, ↓D3.sub3.eq_1, ↓D3.ret3.eq_1, ↓D3.retN3.eq_1, ↓D3.nx3.eq_1, ↓D3.drop3.eq_1, ↓D3.par3.eq_1, ↓D3.aug3.eq_1, ↓D3.and3.eq_1, ↓D3.or3.eq_1, ↓D3.not3.eq_1, ↓D3.andV3.eq_1, ↓D3.orV3.eq_1, ↓D3.notV3.eq_1, ↓D3.if3.eq_1, ↓D3.nil3.eq_1, ↓D3.cons3.eq_1, ↓D3.tup3.eq_1, ↓D3.lst3.eq_1, ↓D3.lstM3.eq_1, ↓D3.gtup3.eq_1, ↓D3.gcons3.eq_1, ↓D3.gnil3.eq_1, ↓D3.gunl3.eq_1, ↓D3.bits3.eq_1, ↓D3.neg3.eq_1, ↓D3.chain3.eq_1, fIsi_int_int, fIsi_int_bool, fIsi_int_tuple, fIsi_int_str, fIsi_int_list, fIsi_bl_int, fIsi_bl_bool, fIsi_bl_tuple, fIsi_bl_str, fIsi_bl_list, fIsi_non_int, fIsi_non_bool, fIsi_non_tuple, fIsi_non_str, fIsi_non_list, fIsi_str_int, fIsi_str_bool, fIsi_str_tuple, fIsi_str_str, fIsi_str_list, fIsi_tup_int, fIsi_tup_bool, fIsi_tup_tuple, fIsi_tup_str, fIsi_tup_list, fIsi_lst_int, fIsi_lst_bool, fIsi_lst_tuple, fIsi_lst_str, fIsi_lst_list, fLen_lst, fLen_tup, fAbs, ↓D3.call3_k, ↓D3.kont_app, ↓D3.isN3.eq_1, ↓D3.notN3.eq_1, dIsN_non, dIsN_int, dIsN_bl, dIsN_str, dIsN_tup, dIsN_lst, ↓D3.slc3.eq_1, ↓D3.part3.eq_1, ↓D3.noPart3.eq_1, ↓D3.ilst3.eq_1, ↓D3.itup3.eq_1, ↓D3.irng1.eq_1, ↓D3.irng2.eq_1, ↓D3.for3.eq_1, fCat, fEq_int, fNe_int, fEq_bl, fNe_bl, fEq_pair, fNe_pair, List.map, List.replicate, List.length_cons, List.length_nil, List.set_cons_zero, List.set_cons_succ, List.getElem?_cons_zero, List.getElem?_cons_succ, List.cons_append, List.nil_append, at_0, at_1, at_2, at_3, at_4, at_5, at_6, ix_0, ix_1, ix_2, put_same, put_put, decide_eq_true_eq, Bool.not_eq_true', decide_eq_false_iff_not, ite_not, ite_true, ite_false, if_true, if_false, Bool.false_eq_true, ↓reduceIte, reduceIte, Nat.reduceAdd, Nat.reduceSub, Int.reduceToNat, Nat.reduceLeDiff, not_false_eq_true, true_and, and_true, ne_eq, Int.reduceEq, Nat.zero_add, Bool.not_true, Bool.not_false, reduceCtorEq, nc0, nc1, nc2, nc3, nc4, nc5, fIx_ref put_same, fLen_ref put_same, ↓D3.lc3.eq_1, fInt, fTuple, fList, fNeS_s, fEqS_s, ↓D3.gstar3.eq_1, fInK_s, fNinK_s, fLenS_s, ↓D3.slcT3.eq_1, fCatT_t, ↓D3.app3.eq_1, ↓D3.frz3.eq_1, ↓D3.dc23.eq_1, ↓D3.lcT3.eq_1, ↓D3.litRep3.eq_1, ↓D3.litRepM3.eq_1, ↓D3.rev3.eq_1, ↓D3.dget3.eq_1, ↓D3.disp3.eq_1, ↓D3.ienum3.eq_1, pop3, sset3]))
  have hb := fmod_b (way - 8 + r) (b := 6) (by decide)
  refine at3_all hb.1 (by simpa using hb.2) fun k hk => ?_
  obtain ⟨k, rfl, hk2⟩ : ∃ k', k = .str k' ∧ k' ∈ K1 := by
    simp only [List.mem_cons, List.not_mem_nil, or_false] at hk
    rcases hk with rfl | rfl | rfl | rfl | rfl | rfl <;> exact ⟨_, rfl, by simp [K1]⟩
  (refine laterP_in ?_; repeat ((first | with_reducible refine laterP_i ?_ | with_reducible refine later_i ?_); try simp -implicitDefEqProofs -dsimp only [↓D3.seq3_stop, ↓D3.ifS3.eq_1, ↓D3.b3.eq_1, ↓D3.op3.eq_1, ↓D3.un3.eq_1, ↓D3.v3.eq_1, ↓D3.c3.eq_1, fIx_tup, fIx_lst, at3_0, at3_1, at3_2, at3_3, at3_4, at3_5, at3_6, start3, fI0_i, fI_i, fLt, fLe, fGt, fGe, fEqI, fNeI, fMin, fMax, ↓D3.asg3.eq_1, ↓D3.name3.eq_1, ↓D3.sub3.eq_1, ↓D3.ret3.eq_1, ↓D3.retN3.eq_1, ↓D3.nx3.eq_1, ↓D3.drop3.eq_1, ↓D3.par3.eq_1, ↓D3.aug3.eq_1, ↓D3.and3.eq_1, ↓D3.or3.eq_1, ↓D3.not3.eq_1, ↓D3.andV3.eq_1, ↓D3.orV3.eq_1, ↓D3.notV3.eq_1, ↓D3.if3.eq_1, ↓D3.nil3.eq_1, ↓D3.cons3.eq_1, ↓D3.tup3.eq_1, ↓D3.lst3.eq_1, ↓D3.lstM3.eq_1, ↓D3.gtup3.eq_1, ↓D3.gcons3.eq_1, ↓D3.gnil3.eq_1, ↓D3.gunl3.eq_1, ↓D3.bits3.eq_1, ↓D3.neg3.eq_1, ↓D3.chain3.eq_1, fIsi_int_int, fIsi_int_bool, fIsi_int_tuple, fIsi_int_str, fIsi_int_list, fIsi_bl_int, fIsi_bl_bool, fIsi_bl_tuple, fIsi_bl_str, fIsi_bl_list, fIsi_non_int, fIsi_non_bool, fIsi_non_tuple, fIsi_non_str, fIsi_non_list, fIsi_str_int, fIsi_str_bool, fIsi_str_tuple, fIsi_str_str, fIsi_str_list, fIsi_tup_int, fIsi_tup_bool, fIsi_tup_tuple, fIsi_tup_str, fIsi_tup_list, fIsi_lst_int, fIsi_lst_bool, fIsi_lst_tuple, fIsi_lst_str, fIsi_lst_list, fLen_lst, fLen_tup, fAbs, ↓D3.call3_k, ↓D3.kont_app, ↓D3.isN3.eq_1, ↓D3.notN3.eq_1, dIsN_non, dIsN_int, dIsN_bl, dIsN_str, dIsN_tup, dIsN_lst, ↓D3.slc3.eq_1, ↓D3.part3.eq_1, ↓D3.noPart3.eq_1, ↓D3.ilst3.eq_1, ↓D3.itup3.eq_1, ↓D3.irng1.eq_1, ↓D3.irng2.eq_1, ↓D3.for3.eq_1, fCat, fEq_int, fNe_int, fEq_bl, fNe_bl, fEq_pair, fNe_pair, List.map, List.replicate, List.length_cons, List.length_nil, List.set_cons_zero, List.set_cons_succ, List.getElem?_cons_zero, List.getElem?_cons_succ, List.cons_append, List.nil_append, at_0, at_1, at_2, at_3, at_4, at_5, at_6, ix_0, ix_1, ix_2, put_same, put_put, decide_eq_true_eq, Bool.not_eq_true', decide_eq_false_iff_not, ite_not, ite_true, ite_false, if_true, if_false, Bool.false_eq_true, ↓reduceIte, reduceIte, Nat.reduceAdd, Nat.reduceSub, Int.reduceToNat, Nat.reduceLeDiff, not_false_eq_true, true_and, and_true, ne_eq, Int.reduceEq, Nat.zero_add, Bool.not_true, Bool.not_false, reduceCtorEq, nc0, nc1, nc2, nc3, nc4, nc5, fIx_ref put_same, fLen_ref put_same, ↓D3.lc3.eq_1, fInt, fTuple, fList, fNeS_s, fEqS_s, ↓D3.gstar3.eq_1, fInK_s, fNinK_s, fLenS_s, ↓D3.slcT3.eq_1, fCatT_t, ↓D3.app3.eq_1, ↓D3.frz3.eq_1, ↓D3.dc23.eq_1, ↓D3.lcT3.eq_1, ↓D3.litRep3.eq_1, ↓D3.litRepM3.eq_1, ↓D3.rev3.eq_1, ↓D3.dget3.eq_1, ↓D3.disp3.eq_1, ↓D3.ienum3.eq_1, pop3, sset3]))
  exact q _ _ (.one hk2 w1') ((o1.trans o2).trans o3) (d3.le (by omega))
theorem ok_termN (T : Tx w K mg fa fd) : ∀ e : Nat, Fn3 P w K mg base (e + 3) (fa 12) (fd 12) ["deck", "deep", "names"] (sp_termN e)
  | 0 => fn_never
  | e + 1 => ok_termS T e (ok_termN T e)
def sp_term : Sp3 := fun ds m P => ∃ (a : Addr) (n : Nat) (ns : List Str) (e : Nat), ds = [.ref a, .int ((e + 1 : Nat) : Int), .lst (ns.map D.str)] ∧ e ≤ 4 ∧ Nms ns ∧ ns.length ≤ 10 ∧ DeckAt m a (n + 130) ∧ ∀ d m', Wt ns (e + 1) d → Off a m m' → DeckAt m' a n → P d m'
theorem ok_law_term (T : Tx w K mg fa fd) : Fn3 P w K mg base 8 (fa 12) (fd 12) ["deck", "deep", "names"] sp_term :=
  fn_ex (k := fun e => e + 1 + 3) (fun e => ok_termN T (e + 1)) _ fun ds m Q h => by
    obtain ⟨a, n, ns, e, rfl, he, hn, hl, hd, q⟩ := h
    refine ⟨e, by omega, a, n, ns, rfl, hn, hl, hd.le ?_, q⟩
    have : 2 ^ e ≤ 2 ^ 4 := Nat.pow_le_pow_right (by decide) he
    unfold tneed
    omega
def sp_limit : Sp3 := fun ds m P => ∃ (a : Addr) (n : Nat) (nm : Str) (ns : List Str), ds = [.ref a, .str nm, .lst (ns.map D.str)] ∧ Nms ns ∧ ns.length ≤ 10 ∧ DeckAt m a (n + 6) ∧ ∀ d m', WLim nm ns d → (∀ q, q ≠ a → m q ≠ none → m' q = m q) → DeckAt m' a n → P d m'
theorem isfr_sm {a b : Int} (h : decide (0 < b ∧ Int.gcd a b = 1 ∧ a.natAbs < 1024 ∧ b.natAbs < 1024) = true := by decide +kernel) : SmFr a b := by
  obtain ⟨h1, h2, h3, h4⟩ := of_decide_eq_true h
  exact ⟨h1, h2, h3, h4⟩
abbrev SmI (k : Int) : Prop := 0 < k ∧ k < 1000
theorem smi_sm {k : Int} (h : decide (SmI k) = true) : SmFr k 1 := by
  have h := of_decide_eq_true h
  exact ⟨by decide, by simp, by omega, by decide⟩
theorem ok_law_limit (T : Tx w K mg fa fd) : Fn3 P w K mg base 2 (fa 13) (fd 13) ["deck", "name", "names"] sp_limit := by
  refine fn3 T.d_law_limit.F sc_law_limit (fun ds m Q h => by obtain ⟨_, _, _, _, rfl, _⟩ := h; rfl) fun cdv A outer s H E ds m Q hr h => ?_
  obtain ⟨a, n, nm, ns, rfl, hn, hl, hd, q⟩ := h
  refine ⟨_, (ss_cons (s_set (i := 3) sc_law_limit.nd (e_tup (a_cons e_str (a_cons (e_v 1) a_nil))))
      (ss_cons (s_set (i := 4) sc_law_limit.nd (e_tup (a_cons e_str (a_cons (e_call T.d_law_fraction (ok_law_fraction T) (hr.mono (by omega)) rfl (a_cons (e_sub (e_call T.d_law_pick (ok_law_pick T) (hr.mono (by omega)) rfl (a_cons (e_v 0) (a_cons e_int a_nil))) e_int) (a_cons e_int a_nil))) a_nil))))
      (ss_cons (s_if (t_w (t_and (t_ne hr (e_v 2) (e_lst a_nil)) (t_and1 (t_eqI (e_call T.d_law_pick (ok_law_pick T) (hr.mono (by omega)) rfl (a_cons (e_v 0) (a_cons e_int a_nil))) e_int)))) (ss_one (s_set (i := 4) sc_law_limit.nd (e_tup (a_cons e_str (a_cons (e_tup (a_cons e_str (a_cons (e_tup (a_cons e_str (a_cons (e_ix (e_v 2) (e_call T.d_law_pick (ok_law_pick T) (hr.mono (by omega)) rfl (a_cons (e_v 0) (a_cons (e_len rfl T.b_len (e_v 2)) a_nil)))) a_nil))) a_nil))) (a_cons (e_tup (a_cons e_str (a_cons (e_tup (a_cons e_int (a_cons e_int a_nil))) a_nil))) a_nil)))))) ss_nil)
      (ss_cons (s_set (i := 5) sc_law_limit.nd (e_tup (a_cons e_str (a_cons (e_ix (e_lst (a_cons (e_tup (a_cons e_int (a_cons e_int a_nil))) (a_cons (e_tup (a_cons e_int (a_cons e_int a_nil))) (a_cons (e_tup (a_cons (e_neg e_int) (a_cons e_int a_nil))) (a_cons (e_tup (a_cons e_int (a_cons e_int a_nil))) (a_cons (e_tup (a_cons e_int (a_cons e_int a_nil))) a_nil)))))) (e_call T.d_law_pick (ok_law_pick T) (hr.mono (by omega)) rfl (a_cons (e_v 0) (a_cons e_int a_nil)))) a_nil))))
      (ss_cons (s_set (i := 6) sc_law_limit.nd (e_lstM (a_cons (e_tup (a_cons (e_tup (a_cons (e_neg e_int) (a_cons e_int a_nil))) (a_cons (e_tup (a_cons e_int (a_cons e_int a_nil))) (a_cons (e_tup (a_cons e_str (a_cons (e_tup (a_cons e_str (a_cons (e_v 3) (a_cons (e_v 5) a_nil)))) (a_cons (e_v 4) a_nil)))) a_nil)))) a_nil)))
      (ss_cons (s_expr (e_append (e_v 6) (e_tup (a_cons (e_tup (a_cons (e_neg e_int) (a_cons e_int a_nil))) (a_cons (e_tup (a_cons e_int (a_cons e_int a_nil))) (a_cons (e_tup (a_cons e_str (a_cons (e_tup (a_cons e_str (a_cons (e_v 3) (a_cons (e_tup (a_cons e_str (a_cons (e_tup (a_cons e_int (a_cons e_int a_nil))) a_nil))) a_nil)))) a_nil))) a_nil))))))
      (ss_cons (s_expr (e_append (e_v 6) (e_tup (a_cons (e_tup (a_cons e_int (a_cons e_int a_nil))) (a_cons (e_tup (a_cons e_int (a_cons e_int a_nil))) (a_cons (e_tup (a_cons e_str (a_cons e_int (a_cons (e_tup (a_cons e_str (a_cons (e_tup (a_cons e_str (a_cons (e_tup (a_cons e_int (a_cons e_int a_nil))) a_nil))) (a_cons (e_v 3) a_nil)))) a_nil)))) a_nil))))))
      (ss_cons (s_expr (e_append (e_v 6) (e_tup (a_cons (e_tup (a_cons e_int (a_cons e_int a_nil))) (a_cons (e_tup (a_cons e_int (a_cons e_int a_nil))) (a_cons (e_tup (a_cons e_str (a_cons (e_tup (a_cons e_str (a_cons (e_v 3) (a_cons (e_tup (a_cons e_str (a_cons (e_tup (a_cons e_int (a_cons e_int a_nil))) a_nil))) a_nil)))) a_nil))) a_nil))))))
      (ss_cons (s_expr (e_append (e_v 6) (e_tup (a_cons (e_tup (a_cons e_int (a_cons e_int a_nil))) (a_cons (e_tup (a_cons e_int (a_cons e_int a_nil))) (a_cons (e_tup (a_cons e_str (a_cons (e_tup (a_cons e_str (a_cons (e_tup (a_cons e_int (a_cons e_int a_nil))) a_nil))) (a_cons (e_tup (a_cons e_str (a_cons (e_tup (a_cons e_str (a_cons (e_tup (a_cons e_int (a_cons e_int a_nil))) a_nil))) (a_cons (e_v 3) a_nil)))) a_nil)))) a_nil))))))
      (ss_cons (s_expr (e_append (e_v 6) (e_tup (a_cons (e_tup (a_cons (e_neg e_int) (a_cons e_int a_nil))) (a_cons (e_tup (a_cons e_int (a_cons e_int a_nil))) (a_cons (e_tup (a_cons e_str (a_cons (e_tup (a_cons e_str (a_cons (e_tup (a_cons e_str (a_cons (e_v 5) (a_cons (e_v 3) a_nil)))) a_nil))) (a_cons (e_v 4) a_nil)))) a_nil))))))
      (ss_cons (s_expr (e_append (e_v 6) (e_tup (a_cons (e_tup (a_cons (e_neg e_int) (a_cons e_int a_nil))) (a_cons (e_tup (a_cons e_int (a_cons e_int a_nil))) (a_cons (e_tup (a_cons e_str (a_cons (e_tup (a_cons e_str (a_cons (e_v 3) a_nil))) (a_cons (e_v 4) a_nil)))) a_nil))))))
      (ss_cons (s_expr (e_append (e_v 6) (e_tup (a_cons (e_tup (a_cons e_int (a_cons e_int a_nil))) (a_cons (e_tup (a_cons e_int (a_cons e_int a_nil))) (a_cons (e_tup (a_cons e_str (a_cons (e_v 3) (a_cons (e_v 4) a_nil)))) a_nil))))))
      (ss_cons (s_asg (e_ix (e_v 6) (e_call T.d_law_pick (ok_law_pick T) (hr.mono (by omega)) rfl (a_cons (e_v 0) (a_cons e_int a_nil)))) (g_tup rfl (gs_cons (g_name (i := 7) sc_law_limit.nd) (gs_cons (g_name (i := 8) sc_law_limit.nd) (gs_cons (g_name (i := 9) sc_law_limit.nd) gs_nil))) (gl_cons (gl_cons (gl_cons gl_nil)))))
      (ss_one (s_ret (e_tup (a_cons e_str (a_cons (e_v 1) (a_cons (e_v 7) (a_cons (e_v 8) (a_cons (e_v 9) a_nil))))))))))))))))))))), ?_⟩
  (refine laterP_in ?_; repeat ((first | with_reducible refine laterP_i ?_ | with_reducible refine later_i ?_); try simp -implicitDefEqProofs -dsimp only [↓D3.seq3_stop, ↓D3.ifS3.eq_1, ↓D3.b3.eq_1, ↓D3.op3.eq_1, ↓D3.un3.eq_1, ↓D3.v3.eq_1, ↓D3.c3.eq_1, fIx_tup, fIx_lst, at3_0, at3_1, at3_2, at3_3, at3_4, at3_5, at3_6, start3, fI0_i, fI_i, fLt, fLe, fGt, fGe, fEqI, fNeI, fMin, fMax, ↓D3.asg3.eq_1, ↓D3.name3.eq_1, ↓D3.sub3.eq_1, ↓D3.ret3.eq_1, ↓D3.retN3.eq_1, ↓D3.nx3.eq_1, ↓D3.drop3.eq_1, ↓D3.par3.eq_1, ↓D3.aug3.eq_1, ↓D3.and3.eq_1, ↓D3.or3.eq_1, ↓D3.not3.eq_1, ↓D3.andV3.eq_1, ↓D3.orV3.eq_1, ↓D3.notV3.eq_1, ↓D3.if3.eq_1, ↓D3.nil3.eq_1, ↓D3.cons3.eq_1, ↓D3.tup3.eq_1, ↓D3.lst3.eq_1, ↓D3.lstM3.eq_1, ↓D3.gtup3.eq_1, ↓D3.gcons3.eq_1, ↓D3.gnil3.eq_1, ↓D3.gunl3.eq_1, ↓D3.bits3.eq_1, ↓D3.neg3.eq_1, ↓D3.chain3.eq_1, fIsi_int_int, fIsi_int_bool, fIsi_int_tuple, fIsi_int_str, fIsi_int_list, fIsi_bl_int, fIsi_bl_bool, fIsi_bl_tuple, fIsi_bl_str, fIsi_bl_list, fIsi_non_int, fIsi_non_bool, fIsi_non_tuple, fIsi_non_str, fIsi_non_list, fIsi_str_int, fIsi_str_bool, fIsi_str_tuple, fIsi_str_str, fIsi_str_list, fIsi_tup_int, fIsi_tup_bool, fIsi_tup_tuple, fIsi_tup_str, fIsi_tup_list, fIsi_lst_int, fIsi_lst_bool, fIsi_lst_tuple, fIsi_lst_str, fIsi_lst_list, fLen_lst, fLen_tup, fAbs, ↓D3.call3_k, ↓D3.kont_app, ↓D3.isN3.eq_1, ↓D3.notN3.eq_1, dIsN_non, dIsN_int, dIsN_bl, dIsN_str, dIsN_tup, dIsN_lst, ↓D3.slc3.eq_1, ↓D3.part3.eq_1, ↓D3.noPart3.eq_1, ↓D3.ilst3.eq_1, ↓D3.itup3.eq_1, ↓D3.irng1.eq_1, ↓D3.irng2.eq_1, ↓D3.for3.eq_1, fCat, fEq_int, fNe_int, fEq_bl, fNe_bl, fEq_pair, fNe_pair, List.map, List.replicate, List.length_cons, List.length_nil, List.set_cons_zero, List.set_cons_succ, List.getElem?_cons_zero, List.getElem?_cons_succ, List.cons_append, List.nil_append, at_0, at_1, at_2, at_3, at_4, at_5, at_6, ix_0, ix_1, ix_2, put_same, put_put, decide_eq_true_eq, Bool.not_eq_true', decide_eq_false_iff_not, ite_not, ite_true, ite_false, if_true, if_false, Bool.false_eq_true, ↓reduceIte, reduceIte, Nat.reduceAdd, Nat.reduceSub, Int.reduceToNat, Nat.reduceLeDiff, not_false_eq_true, true_and, and_true, ne_eq, Int.reduceEq, Nat.zero_add, Bool.not_true, Bool.not_false, reduceCtorEq, nc0, nc1, nc2, nc3, nc4, nc5, fIx_ref put_same, fLen_ref put_same, ↓D3.lc3.eq_1, fInt, fTuple, fList, fNeS_s, fEqS_s, ↓D3.gstar3.eq_1, fInK_s, fNinK_s, fLenS_s, ↓D3.slcT3.eq_1, fCatT_t, ↓D3.app3.eq_1, ↓D3.frz3.eq_1, ↓D3.dc23.eq_1, ↓D3.lcT3.eq_1, ↓D3.litRep3.eq_1, ↓D3.litRepM3.eq_1, ↓D3.rev3.eq_1, ↓D3.dget3.eq_1, ↓D3.disp3.eq_1, ↓D3.ienum3.eq_1, pop3, sset3]))
  refine sp_pick_i (n + 5) hd (by decide) (by decide) fun t m1 t0 t1 o1 d1 => ?_
  (refine laterP_in ?_; repeat ((first | with_reducible refine laterP_i ?_ | with_reducible refine later_i ?_); try simp -implicitDefEqProofs -dsimp only [↓D3.seq3_stop, ↓D3.ifS3.eq_1, ↓D3.b3.eq_1, ↓D3.op3.eq_1, ↓D3.un3.eq_1, ↓D3.v3.eq_1, ↓D3.c3.eq_1, fIx_tup, fIx_lst, at3_0, at3_1, at3_2, at3_3, at3_4, at3_5, at3_6, start3, fI0_i, fI_i, fLt, fLe, fGt, fGe, fEqI, fNeI, fMin, fMax, ↓D3.asg3.eq_1, ↓D3.name3.eq_1, ↓D3.sub3.eq_1, ↓D3.ret3.eq_1, ↓D3.retN3.eq_1, ↓D3.nx3.eq_1, ↓D3.drop3.eq_1, ↓D3.par3.eq_1, ↓D3.aug3.eq_1, ↓D3.and3.eq_1, ↓D3.or3.eq_1, ↓D3.not3.eq_1, ↓D3.andV3.eq_1, ↓D3.orV3.eq_1, ↓D3.notV3.eq_1, ↓D3.if3.eq_1, ↓D3.nil3.eq_1, ↓D3.cons3.eq_1, ↓D3.tup3.eq_1, ↓D3.lst3.eq_1, ↓D3.lstM3.eq_1, ↓D3.gtup3.eq_1, ↓D3.gcons3.eq_1, ↓D3.gnil3.eq_1, ↓D3.gunl3.eq_1, ↓D3.bits3.eq_1, ↓D3.neg3.eq_1, ↓D3.chain3.eq_1, fIsi_int_int, fIsi_int_bool, fIsi_int_tuple, fIsi_int_str, fIsi_int_list, fIsi_bl_int, fIsi_bl_bool, fIsi_bl_tuple, fIsi_bl_str, fIsi_bl_list, fIsi_non_int, fIsi_non_bool, fIsi_non_tuple, fIsi_non_str, fIsi_non_list, fIsi_str_int, fIsi_str_bool, fIsi_str_tuple, fIsi_str_str, fIsi_str_list, fIsi_tup_int, fIsi_tup_bool, fIsi_tup_tuple, fIsi_tup_str, fIsi_tup_list, fIsi_lst_int, fIsi_lst_bool, fIsi_lst_tuple, fIsi_lst_str, fIsi_lst_list, fLen_lst, fLen_tup, fAbs, ↓D3.call3_k, ↓D3.kont_app, ↓D3.isN3.eq_1, ↓D3.notN3.eq_1, dIsN_non, dIsN_int, dIsN_bl, dIsN_str, dIsN_tup, dIsN_lst, ↓D3.slc3.eq_1, ↓D3.part3.eq_1, ↓D3.noPart3.eq_1, ↓D3.ilst3.eq_1, ↓D3.itup3.eq_1, ↓D3.irng1.eq_1, ↓D3.irng2.eq_1, ↓D3.for3.eq_1, fCat, fEq_int, fNe_int, fEq_bl, fNe_bl, fEq_pair, fNe_pair, List.map, List.replicate, List.length_cons, List.length_nil, List.set_cons_zero, List.set_cons_succ, List.getElem?_cons_zero, List.getElem?_cons_succ, List.cons_append, List.nil_append, at_0, at_1, at_2, at_3, at_4, at_5, at_6, ix_0, ix_1, ix_2, put_same, put_put, decide_eq_true_eq, Bool.not_eq_true', decide_eq_false_iff_not, ite_not, ite_true, ite_false, if_true, if_false, Bool.false_eq_true, ↓reduceIte, reduceIte, Nat.reduceAdd, Nat.reduceSub, Int.reduceToNat, Nat.reduceLeDiff, not_false_eq_true, true_and, and_true, ne_eq, Int.reduceEq, Nat.zero_add, Bool.not_true, Bool.not_false, reduceCtorEq, nc0, nc1, nc2, nc3, nc4, nc5, fIx_ref put_same, fLen_ref put_same, ↓D3.lc3.eq_1, fInt, fTuple, fList, fNeS_s, fEqS_s, ↓D3.gstar3.eq_1, fInK_s, fNinK_s, fLenS_s, ↓D3.slcT3.eq_1, fCatT_t, ↓D3.app3.eq_1, ↓D3.frz3.eq_1, ↓D3.dc23.eq_1, ↓D3.lcT3.eq_1, ↓D3.litRep3.eq_1, ↓D3.litRepM3.eq_1, ↓D3.rev3.eq_1, ↓D3.dget3.eq_1, ↓D3.disp3.eq_1, ↓D3.ienum3.eq_1, pop3, sset3]))
  refine ⟨_, _, rfl, by omega, lt_pow (a := 10) (by omega) (by decide), lt_pow (a := 10) (by omega) (by decide), fun t' u hu _ hg l1 l2 => ?_⟩
  have sm : SmFr t' u := sm_fr hu hg l1 l2 (by omega) (by omega)
  try simp -implicitDefEqProofs -dsimp only [↓D3.seq3_stop, ↓D3.ifS3.eq_1, ↓D3.b3.eq_1, ↓D3.op3.eq_1, ↓D3.un3.eq_1, ↓D3.v3.eq_1, ↓D3.c3.eq_1, fIx_tup, fIx_lst, at3_0, at3_1, at3_2, at3_3, at3_4, at3_5, at3_6, start3, fI0_i, fI_i, fLt, fLe, fGt, fGe, fEqI, fNeI, fMin, fMax, ↓D3.asg3.eq_1, ↓D3.name3.eq_1, ↓D3.sub3.eq_1, ↓D3.ret3.eq_1, ↓D3.retN3.eq_1, ↓D3.nx3.eq_1, ↓D3.drop3.eq_1, ↓D3.par3.eq_1, ↓D3.aug3.eq_1, ↓D3.and3.eq_1, ↓D3.or3.eq_1, ↓D3.not3.eq_1, ↓D3.andV3.eq_1, ↓D3.orV3.eq_1, ↓D3.notV3.eq_1, ↓D3.if3.eq_1, ↓D3.nil3.eq_1, ↓D3.cons3.eq_1, ↓D3.tup3.eq_1, ↓D3.lst3.eq_1, ↓D3.lstM3.eq_1, ↓D3.gtup3.eq_1, ↓D3.gcons3.eq_1, ↓D3.gnil3.eq_1, ↓D3.gunl3.eq_1, ↓D3.bits3.eq_1, ↓D3.neg3.eq_1, ↓D3.chain3.eq_1, fIsi_int_int, fIsi_int_bool, fIsi_int_tuple, fIsi_int_str, fIsi_int_list, fIsi_bl_int, fIsi_bl_bool, fIsi_bl_tuple, fIsi_bl_str, fIsi_bl_list, fIsi_non_int, fIsi_non_bool, fIsi_non_tuple, fIsi_non_str, fIsi_non_list, fIsi_str_int, fIsi_str_bool, fIsi_str_tuple, fIsi_str_str, fIsi_str_list, fIsi_tup_int, fIsi_tup_bool, fIsi_tup_tuple, fIsi_tup_str, fIsi_tup_list, fIsi_lst_int, fIsi_lst_bool, fIsi_lst_tuple, fIsi_lst_str, fIsi_lst_list, fLen_lst, fLen_tup, fAbs, ↓D3.call3_k, ↓D3.kont_app, ↓D3.isN3.eq_1, ↓D3.notN3.eq_1, dIsN_non, dIsN_int, dIsN_bl, dIsN_str, dIsN_tup, dIsN_lst, ↓D3.slc3.eq_1, ↓D3.part3.eq_1, ↓D3.noPart3.eq_1, ↓D3.ilst3.eq_1, ↓D3.itup3.eq_1, ↓D3.irng1.eq_1, ↓D3.irng2.eq_1, ↓D3.for3.eq_1, fCat, fEq_int, fNe_int, fEq_bl, fNe_bl, fEq_pair, fNe_pair, List.map, List.replicate, List.length_cons, List.length_nil, List.set_cons_zero, List.set_cons_succ, List.getElem?_cons_zero, List.getElem?_cons_succ, List.cons_append, List.nil_append, at_0, at_1, at_2, at_3, at_4, at_5, at_6, ix_0, ix_1, ix_2, put_same, put_put, decide_eq_true_eq, Bool.not_eq_true', decide_eq_false_iff_not, ite_not, ite_true, ite_false, if_true, if_false, Bool.false_eq_true, ↓reduceIte, reduceIte, Nat.reduceAdd, Nat.reduceSub, Int.reduceToNat, Nat.reduceLeDiff, not_false_eq_true, true_and, and_true, ne_eq, Int.reduceEq, Nat.zero_add, Bool.not_true, Bool.not_false, reduceCtorEq, nc0, nc1, nc2, nc3, nc4, nc5, fIx_ref put_same, fLen_ref put_same, ↓D3.lc3.eq_1, fInt, fTuple, fList, fNeS_s, fEqS_s, ↓D3.gstar3.eq_1, fInK_s, fNinK_s, fLenS_s, ↓D3.slcT3.eq_1, fCatT_t, ↓D3.app3.eq_1, ↓D3.frz3.eq_1, ↓D3.dc23.eq_1, ↓D3.lcT3.eq_1, ↓D3.litRep3.eq_1, ↓D3.litRepM3.eq_1, ↓D3.rev3.eq_1, ↓D3.dget3.eq_1, ↓D3.disp3.eq_1, ↓D3.ienum3.eq_1, pop3, sset3]
  refine seq3_cut (fun ρ m' => ∃ w : D, ρ = [some (.ref a), some (.str nm), some (.lst (ns.map D.str)), some (.tup [.str "name", .str nm]), some w, none, none, none, none, none] ∧ Wt ns 3 w ∧ Off a m m' ∧ DeckAt m' a (n + 2)) ?_ (fun nx hnx => ?_)
  rotate_left
  · (refine laterP_in ?_; repeat ((first | with_reducible refine laterP_i ?_ | with_reducible refine later_i ?_); try simp -implicitDefEqProofs -dsimp only [↓D3.seq3_stop, ↓D3.ifS3.eq_1, ↓D3.b3.eq_1, ↓D3.op3.eq_1, ↓D3.un3.eq_1, ↓D3.v3.eq_1, ↓D3.c3.eq_1, fIx_tup, fIx_lst, at3_0, at3_1, at3_2, at3_3, at3_4, at3_5, at3_6, start3, fI0_i, fI_i, fLt, fLe, fGt, fGe, fEqI, fNeI, fMin, fMax, ↓D3.asg3.eq_1, ↓D3.name3.eq_1, ↓D3.sub3.eq_1, ↓D3.ret3.eq_1, ↓D3.retN3.eq_1, ↓D3.nx3.eq_1, ↓D3.drop3.eq_1, ↓D3.par3.eq_1, ↓D3.aug3.eq_1, ↓D3.and3.eq_1, ↓D3.or3.eq_1, ↓D3.not3.eq_1, ↓D3.andV3.eq_1, ↓D3.orV3.eq_1, ↓D3.notV3.eq_1, ↓D3.if3.eq_1, ↓D3.nil3.eq_1, ↓D3.cons3.eq_1, ↓D3.tup3.eq_1, ↓D3.lst3.eq_1, ↓D3.lstM3.eq_1, ↓D3.gtup3.eq_1, ↓D3.gcons3.eq_1, ↓D3.gnil3.eq_1, ↓D3.gunl3.eq_1, ↓D3.bits3.eq_1, ↓D3.neg3.eq_1, ↓D3.chain3.eq_1, fIsi_int_int, fIsi_int_bool, fIsi_int_tuple, fIsi_int_str, fIsi_int_list, fIsi_bl_int, fIsi_bl_bool, fIsi_bl_tuple, fIsi_bl_str, fIsi_bl_list, fIsi_non_int, fIsi_non_bool, fIsi_non_tuple, fIsi_non_str, fIsi_non_list, fIsi_str_int, fIsi_str_bool, fIsi_str_tuple, fIsi_str_str, fIsi_str_list, fIsi_tup_int, fIsi_tup_bool, fIsi_tup_tuple, fIsi_tup_str, fIsi_tup_list, fIsi_lst_int, fIsi_lst_bool, fIsi_lst_tuple, fIsi_lst_str, fIsi_lst_list, fLen_lst, fLen_tup, fAbs, ↓D3.call3_k, ↓D3.kont_app, ↓D3.isN3.eq_1, ↓D3.notN3.eq_1, dIsN_non, dIsN_int, dIsN_bl, dIsN_str, dIsN_tup, dIsN_lst, ↓D3.slc3.eq_1, ↓D3.part3.eq_1, ↓D3.noPart3.eq_1, ↓D3.ilst3.eq_1, ↓D3.itup3.eq_1, ↓D3.irng1.eq_1, ↓D3.irng2.eq_1, ↓D3.for3.eq_1, fCat, fEq_int, fNe_int, fEq_bl, fNe_bl, fEq_pair, fNe_pair, List.map, List.replicate, List.length_cons, List.length_nil, List.set_cons_zero, List.set_cons_succ, List.getElem?_cons_zero, List.getElem?_cons_succ, List.cons_append, List.nil_append, at_0, at_1, at_2, at_3, at_4, at_5, at_6, ix_0, ix_1, ix_2, put_same, put_put, decide_eq_true_eq, Bool.not_eq_true', decide_eq_false_iff_not, ite_not, ite_true, ite_false, if_true, if_false, Bool.false_eq_true, ↓reduceIte, reduceIte, Nat.reduceAdd, Nat.reduceSub, Int.reduceToNat, Nat.reduceLeDiff, not_false_eq_true, true_and, and_true, ne_eq, Int.reduceEq, Nat.zero_add, Bool.not_true, Bool.not_false, reduceCtorEq, nc0, nc1, nc2, nc3, nc4, nc5, fIx_ref put_same, fLen_ref put_same, ↓D3.lc3.eq_1, fInt, fTuple, fList, fNeS_s, fEqS_s, ↓D3.gstar3.eq_1, fInK_s, fNinK_s, fLenS_s, ↓D3.slcT3.eq_1, fCatT_t, ↓D3.app3.eq_1, ↓D3.frz3.eq_1, ↓D3.dc23.eq_1, ↓D3.lcT3.eq_1, ↓D3.litRep3.eq_1, ↓D3.litRepM3.eq_1, ↓D3.rev3.eq_1, ↓D3.dget3.eq_1, ↓D3.disp3.eq_1, ↓D3.ienum3.eq_1, pop3, sset3]))
    rw [fNe_names hn]
    have yes : nx _ m1 := hnx _ _ ⟨_, rfl, sm.wt, o1, d1.le (by omega)⟩
    refine iteB (fun h3 => ?_) (fun h3 => yes)
    refine sp_pick_i (n + 4) d1 (by decide) (by decide) fun r m2 r0 r1 o2 d2 => ?_
    (refine laterP_in ?_; repeat ((first | with_reducible refine laterP_i ?_ | with_reducible refine later_i ?_); try simp -implicitDefEqProofs -dsimp only [↓D3.seq3_stop, ↓D3.ifS3.eq_1, ↓D3.b3.eq_1, ↓D3.op3.eq_1, ↓D3.un3.eq_1, ↓D3.v3.eq_1, ↓D3.c3.eq_1, fIx_tup, fIx_lst, at3_0, at3_1, at3_2, at3_3, at3_4, at3_5, at3_6, start3, fI0_i, fI_i, fLt, fLe, fGt, fGe, fEqI, fNeI, fMin, fMax, ↓D3.asg3.eq_1, ↓D3.name3.eq_1, ↓D3.sub3.eq_1, ↓D3.ret3.eq_1, ↓D3.retN3.eq_1, ↓D3.nx3.eq_1, ↓D3.drop3.eq_1, ↓D3.par3.eq_1, ↓D3.aug3.eq_1, ↓D3.and3.eq_1, ↓D3.or3.eq_1, ↓D3.not3.eq_1, ↓D3.andV3.eq_1, ↓D3.orV3.eq_1, ↓D3.notV3.eq_1, ↓D3.if3.eq_1, ↓D3.nil3.eq_1, ↓D3.cons3.eq_1, ↓D3.tup3.eq_1, ↓D3.lst3.eq_1, ↓D3.lstM3.eq_1, ↓D3.gtup3.eq_1, ↓D3.gcons3.eq_1, ↓D3.gnil3.eq_1, ↓D3.gunl3.eq_1, ↓D3.bits3.eq_1, ↓D3.neg3.eq_1, ↓D3.chain3.eq_1, fIsi_int_int, fIsi_int_bool, fIsi_int_tuple, fIsi_int_str, fIsi_int_list, fIsi_bl_int, fIsi_bl_bool, fIsi_bl_tuple, fIsi_bl_str, fIsi_bl_list, fIsi_non_int, fIsi_non_bool, fIsi_non_tuple, fIsi_non_str, fIsi_non_list, fIsi_str_int, fIsi_str_bool, fIsi_str_tuple, fIsi_str_str, fIsi_str_list, fIsi_tup_int, fIsi_tup_bool, fIsi_tup_tuple, fIsi_tup_str, fIsi_tup_list, fIsi_lst_int, fIsi_lst_bool, fIsi_lst_tuple, fIsi_lst_str, fIsi_lst_list, fLen_lst, fLen_tup, fAbs, ↓D3.call3_k, ↓D3.kont_app, ↓D3.isN3.eq_1, ↓D3.notN3.eq_1, dIsN_non, dIsN_int, dIsN_bl, dIsN_str, dIsN_tup, dIsN_lst, ↓D3.slc3.eq_1, ↓D3.part3.eq_1, ↓D3.noPart3.eq_1, ↓D3.ilst3.eq_1, ↓D3.itup3.eq_1, ↓D3.irng1.eq_1, ↓D3.irng2.eq_1, ↓D3.for3.eq_1, fCat, fEq_int, fNe_int, fEq_bl, fNe_bl, fEq_pair, fNe_pair, List.map, List.replicate, List.length_cons, List.length_nil, List.set_cons_zero, List.set_cons_succ, List.getElem?_cons_zero, List.getElem?_cons_succ, List.cons_append, List.nil_append, at_0, at_1, at_2, at_3, at_4, at_5, at_6, ix_0, ix_1, ix_2, put_same, put_put, decide_eq_true_eq, Bool.not_eq_true', decide_eq_false_iff_not, ite_not, ite_true, ite_false, if_true, if_false, Bool.false_eq_true, ↓reduceIte, reduceIte, Nat.reduceAdd, Nat.reduceSub, Int.reduceToNat, Nat.reduceLeDiff, not_false_eq_true, true_and, and_true, ne_eq, Int.reduceEq, Nat.zero_add, Bool.not_true, Bool.not_false, reduceCtorEq, nc0, nc1, nc2, nc3, nc4, nc5, fIx_ref put_same, fLen_ref put_same, ↓D3.lc3.eq_1, fInt, fTuple, fList, fNeS_s, fEqS_s, ↓D3.gstar3.eq_1, fInK_s, fNinK_s, fLenS_s, ↓D3.slcT3.eq_1, fCatT_t, ↓D3.app3.eq_1, ↓D3.frz3.eq_1, ↓D3.dc23.eq_1, ↓D3.lcT3.eq_1, ↓D3.litRep3.eq_1, ↓D3.litRepM3.eq_1, ↓D3.rev3.eq_1, ↓D3.dget3.eq_1, ↓D3.disp3.eq_1, ↓D3.ienum3.eq_1, pop3, sset3]))
    refine ite2 (fun h4 => ?_) (fun h4 => hnx _ _ ⟨_, rfl, sm.wt, o1.trans o2, d2.le (by omega)⟩)
    have hpos : 0 < ns.length := by cases ns with
      | nil => cases h3
      | cons _ _ => simp
    refine sp_pick_i (n + 3) d2 (by simp; omega) (by simp; omega) fun r m3 r0 r1 o3 d3 => ?_
    (refine laterP_in ?_; repeat ((first | with_reducible refine laterP_i ?_ | with_reducible refine later_i ?_); try simp -implicitDefEqProofs -dsimp only [↓D3.seq3_stop, ↓D3.ifS3.eq_1, ↓D3.b3.eq_1, ↓D3.op3.eq_1, ↓D3.un3.eq_1, ↓D3.v3.eq_1, ↓D3.c3.eq_1, fIx_tup, fIx_lst, at3_0, at3_1, at3_2, at3_3, at3_4, at3_5, at3_6, start3, fI0_i, fI_i, fLt, fLe, fGt, fGe, fEqI, fNeI, fMin, fMax, ↓D3.asg3.eq_1, ↓D3.name3.eq_1, ↓D3.sub3.eq_1, ↓D3.ret3.eq_1, ↓D3.retN3.eq_1, ↓D3.nx3.eq_1, ↓D3.drop3.eq_1, ↓D3.par3.eq_1, ↓D3.aug3.eq_1, ↓D3.and3.eq_1, ↓D3.or3.eq_1, ↓D3.not3.eq_1, ↓D3.andV3.eq_1, ↓D3.orV3.eq_1, ↓D3.notV3.eq_1, ↓D3.if3.eq_1, ↓D3.nil3.eq_1, ↓D3.cons3.eq_1, ↓D3.tup3.eq_1, ↓D3.lst3.eq_1, ↓D3.lstM3.eq_1, ↓D3.gtup3.eq_1, ↓D3.gcons3.eq_1, ↓D3.gnil3.eq_1, ↓D3.gunl3.eq_1, ↓D3.bits3.eq_1, ↓D3.neg3.eq_1, ↓D3.chain3.eq_1, fIsi_int_int, fIsi_int_bool, fIsi_int_tuple, fIsi_int_str, fIsi_int_list, fIsi_bl_int, fIsi_bl_bool, fIsi_bl_tuple, fIsi_bl_str, fIsi_bl_list, fIsi_non_int, fIsi_non_bool, fIsi_non_tuple, fIsi_non_str, fIsi_non_list, fIsi_str_int, fIsi_str_bool, fIsi_str_tuple, fIsi_str_str, fIsi_str_list, fIsi_tup_int, fIsi_tup_bool, fIsi_tup_tuple, fIsi_tup_str, fIsi_tup_list, fIsi_lst_int, fIsi_lst_bool, fIsi_lst_tuple, fIsi_lst_str, fIsi_lst_list, fLen_lst, fLen_tup, fAbs, ↓D3.call3_k, ↓D3.kont_app, ↓D3.isN3.eq_1, ↓D3.notN3.eq_1, dIsN_non, dIsN_int, dIsN_bl, dIsN_str, dIsN_tup, dIsN_lst, ↓D3.slc3.eq_1, ↓D3.part3.eq_1, ↓D3.noPart3.eq_1, ↓D3.ilst3.eq_1, ↓D3.itup3.eq_1, ↓D3.irng1.eq_1, ↓D3.irng2.eq_1, ↓D3.for3.eq_1, fCat, fEq_int, fNe_int, fEq_bl, fNe_bl, fEq_pair, fNe_pair, List.map, List.replicate, List.length_cons, List.length_nil, List.set_cons_zero, List.set_cons_succ, List.getElem?_cons_zero, List.getElem?_cons_succ, List.cons_append, List.nil_append, at_0, at_1, at_2, at_3, at_4, at_5, at_6, ix_0, ix_1, ix_2, put_same, put_put, decide_eq_true_eq, Bool.not_eq_true', decide_eq_false_iff_not, ite_not, ite_true, ite_false, if_true, if_false, Bool.false_eq_true, ↓reduceIte, reduceIte, Nat.reduceAdd, Nat.reduceSub, Int.reduceToNat, Nat.reduceLeDiff, not_false_eq_true, true_and, and_true, ne_eq, Int.reduceEq, Nat.zero_add, Bool.not_true, Bool.not_false, reduceCtorEq, nc0, nc1, nc2, nc3, nc4, nc5, fIx_ref put_same, fLen_ref put_same, ↓D3.lc3.eq_1, fInt, fTuple, fList, fNeS_s, fEqS_s, ↓D3.gstar3.eq_1, fInK_s, fNinK_s, fLenS_s, ↓D3.slcT3.eq_1, fCatT_t, ↓D3.app3.eq_1, ↓D3.frz3.eq_1, ↓D3.dc23.eq_1, ↓D3.lcT3.eq_1, ↓D3.litRep3.eq_1, ↓D3.litRepM3.eq_1, ↓D3.rev3.eq_1, ↓D3.dget3.eq_1, ↓D3.disp3.eq_1, ↓D3.ienum3.eq_1, pop3, sset3]))
    refine at3_all r0 (by simpa using r1) fun d hd => ?_
    obtain ⟨x, hx, rfl⟩ := List.mem_map.mp hd
    (refine laterP_in ?_; repeat ((first | with_reducible refine laterP_i ?_ | with_reducible refine later_i ?_); try simp -implicitDefEqProofs -dsimp only [↓D3.seq3_stop, ↓D3.ifS3.eq_1, ↓D3.b3.eq_1, ↓D3.op3.eq_1, ↓D3.un3.eq_1, ↓D3.v3.eq_1, ↓D3.c3.eq_1, fIx_tup, fIx_lst, at3_0, at3_1, at3_2, at3_3, at3_4, at3_5, at3_6, start3, fI0_i, fI_i, fLt, fLe, fGt, fGe, fEqI, fNeI, fMin, fMax, ↓D3.asg3.eq_1, ↓D3.name3.eq_1, ↓D3.sub3.eq_1, ↓D3.ret3.eq_1, ↓D3.retN3.eq_1, ↓D3.nx3.eq_1, ↓D3.drop3.eq_1, ↓D3.par3.eq_1, ↓D3.aug3.eq_1, ↓D3.and3.eq_1, ↓D3.or3.eq_1, ↓D3.not3.eq_1, ↓D3.andV3.eq_1, ↓D3.orV3.eq_1, ↓D3.notV3.eq_1, ↓D3.if3.eq_1, ↓D3.nil3.eq_1, ↓D3.cons3.eq_1, ↓D3.tup3.eq_1, ↓D3.lst3.eq_1, ↓D3.lstM3.eq_1, ↓D3.gtup3.eq_1, ↓D3.gcons3.eq_1, ↓D3.gnil3.eq_1, ↓D3.gunl3.eq_1, ↓D3.bits3.eq_1, ↓D3.neg3.eq_1, ↓D3.chain3.eq_1, fIsi_int_int, fIsi_int_bool, fIsi_int_tuple, fIsi_int_str, fIsi_int_list, fIsi_bl_int, fIsi_bl_bool, fIsi_bl_tuple, fIsi_bl_str, fIsi_bl_list, fIsi_non_int, fIsi_non_bool, fIsi_non_tuple, fIsi_non_str, fIsi_non_list, fIsi_str_int, fIsi_str_bool, fIsi_str_tuple, fIsi_str_str, fIsi_str_list, fIsi_tup_int, fIsi_tup_bool, fIsi_tup_tuple, fIsi_tup_str, fIsi_tup_list, fIsi_lst_int, fIsi_lst_bool, fIsi_lst_tuple, fIsi_lst_str, fIsi_lst_list, fLen_lst, fLen_tup, fAbs, ↓D3.call3_k, ↓D3.kont_app, ↓D3.isN3.eq_1, ↓D3.notN3.eq_1, dIsN_non, dIsN_int, dIsN_bl, dIsN_str, dIsN_tup, dIsN_lst, ↓D3.slc3.eq_1, ↓D3.part3.eq_1, ↓D3.noPart3.eq_1, ↓D3.ilst3.eq_1, ↓D3.itup3.eq_1, ↓D3.irng1.eq_1, ↓D3.irng2.eq_1, ↓D3.for3.eq_1, fCat, fEq_int, fNe_int, fEq_bl, fNe_bl, fEq_pair, fNe_pair, List.map, List.replicate, List.length_cons, List.length_nil, List.set_cons_zero, List.set_cons_succ, List.getElem?_cons_zero, List.getElem?_cons_succ, List.cons_append, List.nil_append, at_0, at_1, at_2, at_3, at_4, at_5, at_6, ix_0, ix_1, ix_2, put_same, put_put, decide_eq_true_eq, Bool.not_eq_true', decide_eq_false_iff_not, ite_not, ite_true, ite_false, if_true, if_false, Bool.false_eq_true, ↓reduceIte, reduceIte, Nat.reduceAdd, Nat.reduceSub, Int.reduceToNat, Nat.reduceLeDiff, not_false_eq_true, true_and, and_true, ne_eq, Int.reduceEq, Nat.zero_add, Bool.not_true, Bool.not_false, reduceCtorEq, nc0, nc1, nc2, nc3, nc4, nc5, fIx_ref put_same, fLen_ref put_same, ↓D3.lc3.eq_1, fInt, fTuple, fList, fNeS_s, fEqS_s, ↓D3.gstar3.eq_1, fInK_s, fNinK_s, fLenS_s, ↓D3.slcT3.eq_1, fCatT_t, ↓D3.app3.eq_1, ↓D3.frz3.eq_1, ↓D3.dc23.eq_1, ↓D3.lcT3.eq_1, ↓D3.litRep3.eq_1, ↓D3.litRepM3.eq_1, ↓D3.rev3.eq_1, ↓D3.dget3.eq_1, ↓D3.disp3.eq_1, ↓D3.ienum3.eq_1, pop3, sset3]))
    exact hnx _ _ ⟨_, rfl, .two (by simp [K2]) (.one (by simp [K1]) (.name hx)) (isfr_sm (a := 8) (b := 1)).wt, (o1.trans o2).trans o3, d3.le (by omega)⟩
  · rintro ρ m2 ⟨w, rfl, hw, o2, d2⟩
    (refine laterP_in ?_; repeat ((first | with_reducible refine laterP_i ?_ | with_reducible refine later_i ?_); try simp -implicitDefEqProofs -dsimp only [↓D3.seq3_stop, ↓D3.ifS3.eq_1, ↓D3.b3.eq_1, ↓D3.op3.eq_1, ↓D3.un3.eq_1, ↓D3.v3.eq_1, ↓D3.c3.eq_1, fIx_tup, fIx_lst, at3_0, at3_1, at3_2, at3_3, at3_4, at3_5, at3_6, start3, fI0_i, fI_i, fLt, fLe, fGt, fGe, fEqI, fNeI, fMin, fMax, ↓D3.asg3.eq_1, ↓D3.name3.eq_1, ↓D3.sub3.eq_1, ↓D3.ret3.eq_1, ↓D3.retN3.eq_1, ↓D3.nx3.eq_1, ↓D3.drop3.eq_1, ↓D3.par3.eq_1, ↓D3.aug3.eq_1, ↓D3.and3.eq_1, ↓D3.or3.eq_1, ↓D3.not3.eq_1, ↓D3.andV3.eq_1, ↓D3.orV3.eq_1, ↓D3.notV3.eq_1, ↓D3.if3.eq_1, ↓D3.nil3.eq_1, ↓D3.cons3.eq_1, ↓D3.tup3.eq_1, ↓D3.lst3.eq_1, ↓D3.lstM3.eq_1, ↓D3.gtup3.eq_1, ↓D3.gcons3.eq_1, ↓D3.gnil3.eq_1, ↓D3.gunl3.eq_1, ↓D3.bits3.eq_1, ↓D3.neg3.eq_1, ↓D3.chain3.eq_1, fIsi_int_int, fIsi_int_bool, fIsi_int_tuple, fIsi_int_str, fIsi_int_list, fIsi_bl_int, fIsi_bl_bool, fIsi_bl_tuple, fIsi_bl_str, fIsi_bl_list, fIsi_non_int, fIsi_non_bool, fIsi_non_tuple, fIsi_non_str, fIsi_non_list, fIsi_str_int, fIsi_str_bool, fIsi_str_tuple, fIsi_str_str, fIsi_str_list, fIsi_tup_int, fIsi_tup_bool, fIsi_tup_tuple, fIsi_tup_str, fIsi_tup_list, fIsi_lst_int, fIsi_lst_bool, fIsi_lst_tuple, fIsi_lst_str, fIsi_lst_list, fLen_lst, fLen_tup, fAbs, ↓D3.call3_k, ↓D3.kont_app, ↓D3.isN3.eq_1, ↓D3.notN3.eq_1, dIsN_non, dIsN_int, dIsN_bl, dIsN_str, dIsN_tup, dIsN_lst, ↓D3.slc3.eq_1, ↓D3.part3.eq_1, ↓D3.noPart3.eq_1, ↓D3.ilst3.eq_1, ↓D3.itup3.eq_1, ↓D3.irng1.eq_1, ↓D3.irng2.eq_1, ↓D3.for3.eq_1, fCat, fEq_int, fNe_int, fEq_bl, fNe_bl, fEq_pair, fNe_pair, List.map, List.replicate, List.length_cons, List.length_nil, List.set_cons_zero, List.set_cons_succ, List.getElem?_cons_zero, List.getElem?_cons_succ, List.cons_append, List.nil_append, at_0, at_1, at_2, at_3, at_4, at_5, at_6, ix_0, ix_1, ix_2, put_same, put_put, decide_eq_true_eq, Bool.not_eq_true', decide_eq_false_iff_not, ite_not, ite_true, ite_false, if_true, if_false, Bool.false_eq_true, ↓reduceIte, reduceIte, Nat.reduceAdd, Nat.reduceSub, Int.reduceToNat, Nat.reduceLeDiff, not_false_eq_true, true_and, and_true, ne_eq, Int.reduceEq, Nat.zero_add, Bool.not_true, Bool.not_false, reduceCtorEq, nc0, nc1, nc2, nc3, nc4, nc5, fIx_ref put_same, fLen_ref put_same, ↓D3.lc3.eq_1, fInt, fTuple, fList, fNeS_s, fEqS_s, ↓D3.gstar3.eq_1, fInK_s, fNinK_s, fLenS_s, ↓D3.slcT3.eq_1, fCatT_t, ↓D3.app3.eq_1, ↓D3.frz3.eq_1, ↓D3.dc23.eq_1, ↓D3.lcT3.eq_1, ↓D3.litRep3.eq_1, ↓D3.litRepM3.eq_1, ↓D3.rev3.eq_1, ↓D3.dget3.eq_1, ↓D3.disp3.eq_1, ↓D3.ienum3.eq_1, pop3, sset3]))
    refine sp_pick_i (n + 1) d2 (by decide) (by decide) fun r m3 r0 r1 o3 d3 => ?_
    (refine laterP_in ?_; repeat ((first | with_reducible refine laterP_i ?_ | with_reducible refine later_i ?_); try simp -implicitDefEqProofs -dsimp only [↓D3.seq3_stop, ↓D3.ifS3.eq_1, ↓D3.b3.eq_1, ↓D3.op3.eq_1, ↓D3.un3.eq_1, ↓D3.v3.eq_1, ↓D3.c3.eq_1, fIx_tup, fIx_lst, at3_0, at3_1, at3_2, at3_3, at3_4, at3_5, at3_6, start3, fI0_i, fI_i, fLt, fLe, fGt, fGe, fEqI, fNeI, fMin, fMax, ↓D3.asg3.eq_1, ↓D3.name3.eq_1, ↓D3.sub3.eq_1, ↓D3.ret3.eq_1, ↓D3.retN3.eq_1, ↓D3.nx3.eq_1, ↓D3.drop3.eq_1, ↓D3.par3.eq_1, ↓D3.aug3.eq_1, ↓D3.and3.eq_1, ↓D3.or3.eq_1, ↓D3.not3.eq_1, ↓D3.andV3.eq_1, ↓D3.orV3.eq_1, ↓D3.notV3.eq_1, ↓D3.if3.eq_1, ↓D3.nil3.eq_1, ↓D3.cons3.eq_1, ↓D3.tup3.eq_1, ↓D3.lst3.eq_1, ↓D3.lstM3.eq_1, ↓D3.gtup3.eq_1, ↓D3.gcons3.eq_1, ↓D3.gnil3.eq_1, ↓D3.gunl3.eq_1, ↓D3.bits3.eq_1, ↓D3.neg3.eq_1, ↓D3.chain3.eq_1, fIsi_int_int, fIsi_int_bool, fIsi_int_tuple, fIsi_int_str, fIsi_int_list, fIsi_bl_int, fIsi_bl_bool, fIsi_bl_tuple, fIsi_bl_str, fIsi_bl_list, fIsi_non_int, fIsi_non_bool, fIsi_non_tuple, fIsi_non_str, fIsi_non_list, fIsi_str_int, fIsi_str_bool, fIsi_str_tuple, fIsi_str_str, fIsi_str_list, fIsi_tup_int, fIsi_tup_bool, fIsi_tup_tuple, fIsi_tup_str, fIsi_tup_list, fIsi_lst_int, fIsi_lst_bool, fIsi_lst_tuple, fIsi_lst_str, fIsi_lst_list, fLen_lst, fLen_tup, fAbs, ↓D3.call3_k, ↓D3.kont_app, ↓D3.isN3.eq_1, ↓D3.notN3.eq_1, dIsN_non, dIsN_int, dIsN_bl, dIsN_str, dIsN_tup, dIsN_lst, ↓D3.slc3.eq_1, ↓D3.part3.eq_1, ↓D3.noPart3.eq_1, ↓D3.ilst3.eq_1, ↓D3.itup3.eq_1, ↓D3.irng1.eq_1, ↓D3.irng2.eq_1, ↓D3.for3.eq_1, fCat, fEq_int, fNe_int, fEq_bl, fNe_bl, fEq_pair, fNe_pair, List.map, List.replicate, List.length_cons, List.length_nil, List.set_cons_zero, List.set_cons_succ, List.getElem?_cons_zero, List.getElem?_cons_succ, List.cons_append, List.nil_append, at_0, at_1, at_2, at_3, at_4, at_5, at_6, ix_0, ix_1, ix_2, put_same, put_put, decide_eq_true_eq, Bool.not_eq_true', decide_eq_false_iff_not, ite_not, ite_true, ite_false, if_true, if_false, Bool.false_eq_true, ↓reduceIte, reduceIte, Nat.reduceAdd, Nat.reduceSub, Int.reduceToNat, Nat.reduceLeDiff, not_false_eq_true, true_and, and_true, ne_eq, Int.reduceEq, Nat.zero_add, Bool.not_true, Bool.not_false, reduceCtorEq, nc0, nc1, nc2, nc3, nc4, nc5, fIx_ref put_same, fLen_ref put_same, ↓D3.lc3.eq_1, fInt, fTuple, fList, fNeS_s, fEqS_s, ↓D3.gstar3.eq_1, fInK_s, fNinK_s, fLenS_s, ↓D3.slcT3.eq_1, fCatT_t, ↓D3.app3.eq_1, ↓D3.frz3.eq_1, ↓D3.dc23.eq_1, ↓D3.lcT3.eq_1, ↓D3.litRep3.eq_1, ↓D3.litRepM3.eq_1, ↓D3.rev3.eq_1, ↓D3.dget3.eq_1, ↓D3.disp3.eq_1, ↓D3.ienum3.eq_1, pop3, sset3]))
    refine at3_all r0 (by simpa using r1) fun d hd => ?_
    obtain ⟨x, y, rfl, sh⟩ : ∃ x y : Int, d = .tup [.int x, .int y] ∧ SmFr x y := by
      simp only [List.mem_cons, List.not_mem_nil, or_false] at hd
      rcases hd with rfl | rfl | rfl | rfl | rfl <;> exact ⟨_, _, rfl, isfr_sm⟩
    (refine laterP_in ?_; repeat ((first | with_reducible refine laterP_i ?_ | with_reducible refine later_i ?_); try simp -implicitDefEqProofs -dsimp only [↓D3.seq3_stop, ↓D3.ifS3.eq_1, ↓D3.b3.eq_1, ↓D3.op3.eq_1, ↓D3.un3.eq_1, ↓D3.v3.eq_1, ↓D3.c3.eq_1, fIx_tup, fIx_lst, at3_0, at3_1, at3_2, at3_3, at3_4, at3_5, at3_6, start3, fI0_i, fI_i, fLt, fLe, fGt, fGe, fEqI, fNeI, fMin, fMax, ↓D3.asg3.eq_1, ↓D3.name3.eq_1, ↓D3.sub3.eq_1, ↓D3.ret3.eq_1, ↓D3.retN3.eq_1, ↓D3.nx3.eq_1, ↓D3.drop3.eq_1, ↓D3.par3.eq_1, ↓D3.aug3.eq_1, ↓D3.and3.eq_1, ↓D3.or3.eq_1, ↓D3.not3.eq_1, ↓D3.andV3.eq_1, ↓D3.orV3.eq_1, ↓D3.notV3.eq_1, ↓D3.if3.eq_1, ↓D3.nil3.eq_1, ↓D3.cons3.eq_1, ↓D3.tup3.eq_1, ↓D3.lst3.eq_1, ↓D3.lstM3.eq_1, ↓D3.gtup3.eq_1, ↓D3.gcons3.eq_1, ↓D3.gnil3.eq_1, ↓D3.gunl3.eq_1, ↓D3.bits3.eq_1, ↓D3.neg3.eq_1, ↓D3.chain3.eq_1, fIsi_int_int, fIsi_int_bool, fIsi_int_tuple, fIsi_int_str, fIsi_int_list, fIsi_bl_int, fIsi_bl_bool, fIsi_bl_tuple, fIsi_bl_str, fIsi_bl_list, fIsi_non_int, fIsi_non_bool, fIsi_non_tuple, fIsi_non_str, fIsi_non_list, fIsi_str_int, fIsi_str_bool, fIsi_str_tuple, fIsi_str_str, fIsi_str_list, fIsi_tup_int, fIsi_tup_bool, fIsi_tup_tuple, fIsi_tup_str, fIsi_tup_list, fIsi_lst_int, fIsi_lst_bool, fIsi_lst_tuple, fIsi_lst_str, fIsi_lst_list, fLen_lst, fLen_tup, fAbs, ↓D3.call3_k, ↓D3.kont_app, ↓D3.isN3.eq_1, ↓D3.notN3.eq_1, dIsN_non, dIsN_int, dIsN_bl, dIsN_str, dIsN_tup, dIsN_lst, ↓D3.slc3.eq_1, ↓D3.part3.eq_1, ↓D3.noPart3.eq_1, ↓D3.ilst3.eq_1, ↓D3.itup3.eq_1, ↓D3.irng1.eq_1, ↓D3.irng2.eq_1, ↓D3.for3.eq_1, fCat, fEq_int, fNe_int, fEq_bl, fNe_bl, fEq_pair, fNe_pair, List.map, List.replicate, List.length_cons, List.length_nil, List.set_cons_zero, List.set_cons_succ, List.getElem?_cons_zero, List.getElem?_cons_succ, List.cons_append, List.nil_append, at_0, at_1, at_2, at_3, at_4, at_5, at_6, ix_0, ix_1, ix_2, put_same, put_put, decide_eq_true_eq, Bool.not_eq_true', decide_eq_false_iff_not, ite_not, ite_true, ite_false, if_true, if_false, Bool.false_eq_true, ↓reduceIte, reduceIte, Nat.reduceAdd, Nat.reduceSub, Int.reduceToNat, Nat.reduceLeDiff, not_false_eq_true, true_and, and_true, ne_eq, Int.reduceEq, Nat.zero_add, Bool.not_true, Bool.not_false, reduceCtorEq, nc0, nc1, nc2, nc3, nc4, nc5, fIx_ref put_same, fLen_ref put_same, ↓D3.lc3.eq_1, fInt, fTuple, fList, fNeS_s, fEqS_s, ↓D3.gstar3.eq_1, fInK_s, fNinK_s, fLenS_s, ↓D3.slcT3.eq_1, fCatT_t, ↓D3.app3.eq_1, ↓D3.frz3.eq_1, ↓D3.dc23.eq_1, ↓D3.lcT3.eq_1, ↓D3.litRep3.eq_1, ↓D3.litRepM3.eq_1, ↓D3.rev3.eq_1, ↓D3.dget3.eq_1, ↓D3.disp3.eq_1, ↓D3.ienum3.eq_1, pop3, sset3]))
    intro p hp
    have ne := d3.ne hp
    (refine laterP_in ?_; repeat ((first | with_reducible refine laterP_i ?_ | with_reducible refine later_i ?_); try simp -implicitDefEqProofs -dsimp only [↓D3.seq3_stop, ↓D3.ifS3.eq_1, ↓D3.b3.eq_1, ↓D3.op3.eq_1, ↓D3.un3.eq_1, ↓D3.v3.eq_1, ↓D3.c3.eq_1, fIx_tup, fIx_lst, at3_0, at3_1, at3_2, at3_3, at3_4, at3_5, at3_6, start3, fI0_i, fI_i, fLt, fLe, fGt, fGe, fEqI, fNeI, fMin, fMax, ↓D3.asg3.eq_1, ↓D3.name3.eq_1, ↓D3.sub3.eq_1, ↓D3.ret3.eq_1, ↓D3.retN3.eq_1, ↓D3.nx3.eq_1, ↓D3.drop3.eq_1, ↓D3.par3.eq_1, ↓D3.aug3.eq_1, ↓D3.and3.eq_1, ↓D3.or3.eq_1, ↓D3.not3.eq_1, ↓D3.andV3.eq_1, ↓D3.orV3.eq_1, ↓D3.notV3.eq_1, ↓D3.if3.eq_1, ↓D3.nil3.eq_1, ↓D3.cons3.eq_1, ↓D3.tup3.eq_1, ↓D3.lst3.eq_1, ↓D3.lstM3.eq_1, ↓D3.gtup3.eq_1, ↓D3.gcons3.eq_1, ↓D3.gnil3.eq_1, ↓D3.gunl3.eq_1, ↓D3.bits3.eq_1, ↓D3.neg3.eq_1, ↓D3.chain3.eq_1, fIsi_int_int, fIsi_int_bool, fIsi_int_tuple, fIsi_int_str, fIsi_int_list, fIsi_bl_int, fIsi_bl_bool, fIsi_bl_tuple, fIsi_bl_str, fIsi_bl_list, fIsi_non_int, fIsi_non_bool, fIsi_non_tuple, fIsi_non_str, fIsi_non_list, fIsi_str_int, fIsi_str_bool, fIsi_str_tuple, fIsi_str_str, fIsi_str_list, fIsi_tup_int, fIsi_tup_bool, fIsi_tup_tuple, fIsi_tup_str, fIsi_tup_list, fIsi_lst_int, fIsi_lst_bool, fIsi_lst_tuple, fIsi_lst_str, fIsi_lst_list, fLen_lst, fLen_tup, fAbs, ↓D3.call3_k, ↓D3.kont_app, ↓D3.isN3.eq_1, ↓D3.notN3.eq_1, dIsN_non, dIsN_int, dIsN_bl, dIsN_str, dIsN_tup, dIsN_lst, ↓D3.slc3.eq_1, ↓D3.part3.eq_1, ↓D3.noPart3.eq_1, ↓D3.ilst3.eq_1, ↓D3.itup3.eq_1, ↓D3.irng1.eq_1, ↓D3.irng2.eq_1, ↓D3.for3.eq_1, fCat, fEq_int, fNe_int, fEq_bl, fNe_bl, fEq_pair, fNe_pair, List.map, List.replicate, List.length_cons, List.length_nil, List.set_cons_zero, List.set_cons_succ, List.getElem?_cons_zero, List.getElem?_cons_succ, List.cons_append, List.nil_append, at_0, at_1, at_2, at_3, at_4, at_5, at_6, ix_0, ix_1, ix_2, put_same, put_put, decide_eq_true_eq, Bool.not_eq_true', decide_eq_false_iff_not, ite_not, ite_true, ite_false, if_true, if_false, Bool.false_eq_true, ↓reduceIte, reduceIte, Nat.reduceAdd, Nat.reduceSub, Int.reduceToNat, Nat.reduceLeDiff, not_false_eq_true, true_and, and_true, ne_eq, Int.reduceEq, Nat.zero_add, Bool.not_true, Bool.not_false, reduceCtorEq, nc0, nc1, nc2, nc3, nc4, nc5, fIx_ref put_same, fLen_ref put_same, ↓D3.lc3.eq_1, fInt, fTuple, fList, fNeS_s, fEqS_s, ↓D3.gstar3.eq_1, fInK_s, fNinK_s, fLenS_s, ↓D3.slcT3.eq_1, fCatT_t, ↓D3.app3.eq_1, ↓D3.frz3.eq_1, ↓D3.dc23.eq_1, ↓D3.lcT3.eq_1, ↓D3.litRep3.eq_1, ↓D3.litRepM3.eq_1, ↓D3.rev3.eq_1, ↓D3.dget3.eq_1, ↓D3.disp3.eq_1, ↓D3.ienum3.eq_1, pop3, sset3]))
    refine ⟨⟨_, rfl⟩, _, rfl, D3.sh, ?_⟩
    (refine laterP_in ?_; repeat ((first | with_reducible refine laterP_i ?_ | with_reducible refine later_i ?_); try simp -implicitDefEqProofs -dsimp only [↓D3.seq3_stop, ↓D3.ifS3.eq_1, ↓D3.b3.eq_1, ↓D3.op3.eq_1, ↓D3.un3.eq_1, ↓D3.v3.eq_1, ↓D3.c3.eq_1, fIx_tup, fIx_lst, at3_0, at3_1, at3_2, at3_3, at3_4, at3_5, at3_6, start3, fI0_i, fI_i, fLt, fLe, fGt, fGe, fEqI, fNeI, fMin, fMax, ↓D3.asg3.eq_1, ↓D3.name3.eq_1, ↓D3.sub3.eq_1, ↓D3.ret3.eq_1, ↓D3.retN3.eq_1, ↓D3.nx3.eq_1, ↓D3.drop3.eq_1, ↓D3.par3.eq_1, ↓D3.aug3.eq_1, ↓D3.and3.eq_1, ↓D3.or3.eq_1, ↓D3.not3.eq_1, ↓D3.andV3.eq_1, ↓D3.orV3.eq_1, ↓D3.notV3.eq_1, ↓D3.if3.eq_1, ↓D3.nil3.eq_1, ↓D3.cons3.eq_1, ↓D3.tup3.eq_1, ↓D3.lst3.eq_1, ↓D3.lstM3.eq_1, ↓D3.gtup3.eq_1, ↓D3.gcons3.eq_1, ↓D3.gnil3.eq_1, ↓D3.gunl3.eq_1, ↓D3.bits3.eq_1, ↓D3.neg3.eq_1, ↓D3.chain3.eq_1, fIsi_int_int, fIsi_int_bool, fIsi_int_tuple, fIsi_int_str, fIsi_int_list, fIsi_bl_int, fIsi_bl_bool, fIsi_bl_tuple, fIsi_bl_str, fIsi_bl_list, fIsi_non_int, fIsi_non_bool, fIsi_non_tuple, fIsi_non_str, fIsi_non_list, fIsi_str_int, fIsi_str_bool, fIsi_str_tuple, fIsi_str_str, fIsi_str_list, fIsi_tup_int, fIsi_tup_bool, fIsi_tup_tuple, fIsi_tup_str, fIsi_tup_list, fIsi_lst_int, fIsi_lst_bool, fIsi_lst_tuple, fIsi_lst_str, fIsi_lst_list, fLen_lst, fLen_tup, fAbs, ↓D3.call3_k, ↓D3.kont_app, ↓D3.isN3.eq_1, ↓D3.notN3.eq_1, dIsN_non, dIsN_int, dIsN_bl, dIsN_str, dIsN_tup, dIsN_lst, ↓D3.slc3.eq_1, ↓D3.part3.eq_1, ↓D3.noPart3.eq_1, ↓D3.ilst3.eq_1, ↓D3.itup3.eq_1, ↓D3.irng1.eq_1, ↓D3.irng2.eq_1, ↓D3.for3.eq_1, fCat, fEq_int, fNe_int, fEq_bl, fNe_bl, fEq_pair, fNe_pair, List.map, List.replicate, List.length_cons, List.length_nil, List.set_cons_zero, List.set_cons_succ, List.getElem?_cons_zero, List.getElem?_cons_succ, List.cons_append, List.nil_append, at_0, at_1, at_2, at_3, at_4, at_5, at_6, ix_0, ix_1, ix_2, put_same, put_put, decide_eq_true_eq, Bool.not_eq_true', decide_eq_false_iff_not, ite_not, ite_true, ite_false, if_true, if_false, Bool.false_eq_true, ↓reduceIte, reduceIte, Nat.reduceAdd, Nat.reduceSub, Int.reduceToNat, Nat.reduceLeDiff, not_false_eq_true, true_and, and_true, ne_eq, Int.reduceEq, Nat.zero_add, Bool.not_true, Bool.not_false, reduceCtorEq, nc0, nc1, nc2, nc3, nc4, nc5, fIx_ref put_same, fLen_ref put_same, ↓D3.lc3.eq_1, fInt, fTuple, fList, fNeS_s, fEqS_s, ↓D3.gstar3.eq_1, fInK_s, fNinK_s, fLenS_s, ↓D3.slcT3.eq_1, fCatT_t, ↓D3.app3.eq_1, ↓D3.frz3.eq_1, ↓D3.dc23.eq_1, ↓D3.lcT3.eq_1, ↓D3.litRep3.eq_1, ↓D3.litRepM3.eq_1, ↓D3.rev3.eq_1, ↓D3.dget3.eq_1, ↓D3.disp3.eq_1, ↓D3.ienum3.eq_1, pop3, sset3]))
    refine ⟨⟨_, rfl⟩, _, rfl, D3.sh, ?_⟩
    (refine laterP_in ?_; repeat ((first | with_reducible refine laterP_i ?_ | with_reducible refine later_i ?_); try simp -implicitDefEqProofs -dsimp only [↓D3.seq3_stop, ↓D3.ifS3.eq_1, ↓D3.b3.eq_1, ↓D3.op3.eq_1, ↓D3.un3.eq_1, ↓D3.v3.eq_1, ↓D3.c3.eq_1, fIx_tup, fIx_lst, at3_0, at3_1, at3_2, at3_3, at3_4, at3_5, at3_6, start3, fI0_i, fI_i, fLt, fLe, fGt, fGe, fEqI, fNeI, fMin, fMax, ↓D3.asg3.eq_1, ↓D3.name3.eq_1, ↓D3.sub3.eq_1, ↓D3.ret3.eq_1, ↓D3.retN3.eq_1, ↓D3.nx3.eq_1, ↓D3.drop3.eq_1, ↓D3.par3.eq_1, ↓D3.aug3.eq_1, ↓D3.and3.eq_1, ↓D3.or3.eq_1, ↓D3.not3.eq_1, ↓D3.andV3.eq_1, ↓D3.orV3.eq_1, ↓D3.notV3.eq_1, ↓D3.if3.eq_1, ↓D3.nil3.eq_1, ↓D3.cons3.eq_1, ↓D3.tup3.eq_1, ↓D3.lst3.eq_1, ↓D3.lstM3.eq_1, ↓D3.gtup3.eq_1, ↓D3.gcons3.eq_1, ↓D3.gnil3.eq_1, ↓D3.gunl3.eq_1, ↓D3.bits3.eq_1, ↓D3.neg3.eq_1, ↓D3.chain3.eq_1, fIsi_int_int, fIsi_int_bool, fIsi_int_tuple, fIsi_int_str, fIsi_int_list, fIsi_bl_int, fIsi_bl_bool, fIsi_bl_tuple, fIsi_bl_str, fIsi_bl_list, fIsi_non_int, fIsi_non_bool, fIsi_non_tuple, fIsi_non_str, fIsi_non_list, fIsi_str_int, fIsi_str_bool, fIsi_str_tuple, fIsi_str_str, fIsi_str_list, fIsi_tup_int, fIsi_tup_bool, fIsi_tup_tuple, fIsi_tup_str, fIsi_tup_list, fIsi_lst_int, fIsi_lst_bool, fIsi_lst_tuple, fIsi_lst_str, fIsi_lst_list, fLen_lst, fLen_tup, fAbs, ↓D3.call3_k, ↓D3.kont_app, ↓D3.isN3.eq_1, ↓D3.notN3.eq_1, dIsN_non, dIsN_int, dIsN_bl, dIsN_str, dIsN_tup, dIsN_lst, ↓D3.slc3.eq_1, ↓D3.part3.eq_1, ↓D3.noPart3.eq_1, ↓D3.ilst3.eq_1, ↓D3.itup3.eq_1, ↓D3.irng1.eq_1, ↓D3.irng2.eq_1, ↓D3.for3.eq_1, fCat, fEq_int, fNe_int, fEq_bl, fNe_bl, fEq_pair, fNe_pair, List.map, List.replicate, List.length_cons, List.length_nil, List.set_cons_zero, List.set_cons_succ, List.getElem?_cons_zero, List.getElem?_cons_succ, List.cons_append, List.nil_append, at_0, at_1, at_2, at_3, at_4, at_5, at_6, ix_0, ix_1, ix_2, put_same, put_put, decide_eq_true_eq, Bool.not_eq_true', decide_eq_false_iff_not, ite_not, ite_true, ite_false, if_true, if_false, Bool.false_eq_true, ↓reduceIte, reduceIte, Nat.reduceAdd, Nat.reduceSub, Int.reduceToNat, Nat.reduceLeDiff, not_false_eq_true, true_and, and_true, ne_eq, Int.reduceEq, Nat.zero_add, Bool.not_true, Bool.not_false, reduceCtorEq, nc0, nc1, nc2, nc3, nc4, nc5, fIx_ref put_same, fLen_ref put_same, ↓D3.lc3.eq_1, fInt, fTuple, fList, fNeS_s, fEqS_s, ↓D3.gstar3.eq_1, fInK_s, fNinK_s, fLenS_s, ↓D3.slcT3.eq_1, fCatT_t, ↓D3.app3.eq_1, ↓D3.frz3.eq_1, ↓D3.dc23.eq_1, ↓D3.lcT3.eq_1, ↓D3.litRep3.eq_1, ↓D3.litRepM3.eq_1, ↓D3.rev3.eq_1, ↓D3.dget3.eq_1, ↓D3.disp3.eq_1, ↓D3.ienum3.eq_1, pop3, sset3]))
    refine ⟨⟨_, rfl⟩, _, rfl, D3.sh, ?_⟩
    (refine laterP_in ?_; repeat ((first | with_reducible refine laterP_i ?_ | with_reducible refine later_i ?_); try simp -implicitDefEqProofs -dsimp only [↓D3.seq3_stop, ↓D3.ifS3.eq_1, ↓D3.b3.eq_1, ↓D3.op3.eq_1, ↓D3.un3.eq_1, ↓D3.v3.eq_1, ↓D3.c3.eq_1, fIx_tup, fIx_lst, at3_0, at3_1, at3_2, at3_3, at3_4, at3_5, at3_6, start3, fI0_i, fI_i, fLt, fLe, fGt, fGe, fEqI, fNeI, fMin, fMax, ↓D3.asg3.eq_1, ↓D3.name3.eq_1, ↓D3.sub3.eq_1, ↓D3.ret3.eq_1, ↓D3.retN3.eq_1, ↓D3.nx3.eq_1, ↓D3.drop3.eq_1, ↓D3.par3.eq_1, ↓D3.aug3.eq_1, ↓D3.and3.eq_1, ↓D3.or3.eq_1, ↓D3.not3.eq_1, ↓D3.andV3.eq_1, ↓D3.orV3.eq_1, ↓D3.notV3.eq_1, ↓D3.if3.eq_1, ↓D3.nil3.eq_1, ↓D3.cons3.eq_1, ↓D3.tup3.eq_1, ↓D3.lst3.eq_1, ↓D3.lstM3.eq_1, ↓D3.gtup3.eq_1, ↓D3.gcons3.eq_1, ↓D3.gnil3.eq_1, ↓D3.gunl3.eq_1, ↓D3.bits3.eq_1, ↓D3.neg3.eq_1, ↓D3.chain3.eq_1, fIsi_int_int, fIsi_int_bool, fIsi_int_tuple, fIsi_int_str, fIsi_int_list, fIsi_bl_int, fIsi_bl_bool, fIsi_bl_tuple, fIsi_bl_str, fIsi_bl_list, fIsi_non_int, fIsi_non_bool, fIsi_non_tuple, fIsi_non_str, fIsi_non_list, fIsi_str_int, fIsi_str_bool, fIsi_str_tuple, fIsi_str_str, fIsi_str_list, fIsi_tup_int, fIsi_tup_bool, fIsi_tup_tuple, fIsi_tup_str, fIsi_tup_list, fIsi_lst_int, fIsi_lst_bool, fIsi_lst_tuple, fIsi_lst_str, fIsi_lst_list, fLen_lst, fLen_tup, fAbs, ↓D3.call3_k, ↓D3.kont_app, ↓D3.isN3.eq_1, ↓D3.notN3.eq_1, dIsN_non, dIsN_int, dIsN_bl, dIsN_str, dIsN_tup, dIsN_lst, ↓D3.slc3.eq_1, ↓D3.part3.eq_1, ↓D3.noPart3.eq_1, ↓D3.ilst3.eq_1, ↓D3.itup3.eq_1, ↓D3.irng1.eq_1, ↓D3.irng2.eq_1, ↓D3.for3.eq_1, fCat, fEq_int, fNe_int, fEq_bl, fNe_bl, fEq_pair, fNe_pair, List.map, List.replicate, List.length_cons, List.length_nil, List.set_cons_zero, List.set_cons_succ, List.getElem?_cons_zero, List.getElem?_cons_succ, List.cons_append, List.nil_append, at_0, at_1, at_2, at_3, at_4, at_5, at_6, ix_0, ix_1, ix_2, put_same, put_put, decide_eq_true_eq, Bool.not_eq_true', decide_eq_false_iff_not, ite_not, ite_true, ite_false, if_true, if_false, Bool.false_eq_true, ↓reduceIte, reduceIte, Nat.reduceAdd, Nat.reduceSub, Int.reduceToNat, Nat.reduceLeDiff, not_false_eq_true, true_and, and_true, ne_eq, Int.reduceEq, Nat.zero_add, Bool.not_true, Bool.not_false, reduceCtorEq, nc0, nc1, nc2, nc3, nc4, nc5, fIx_ref put_same, fLen_ref put_same, ↓D3.lc3.eq_1, fInt, fTuple, fList, fNeS_s, fEqS_s, ↓D3.gstar3.eq_1, fInK_s, fNinK_s, fLenS_s, ↓D3.slcT3.eq_1, fCatT_t, ↓D3.app3.eq_1, ↓D3.frz3.eq_1, ↓D3.dc23.eq_1, ↓D3.lcT3.eq_1, ↓D3.litRep3.eq_1, ↓D3.litRepM3.eq_1, ↓D3.rev3.eq_1, ↓D3.dget3.eq_1, ↓D3.disp3.eq_1, ↓D3.ienum3.eq_1, pop3, sset3]))
    refine ⟨⟨_, rfl⟩, _, rfl, D3.sh, ?_⟩
    (refine laterP_in ?_; repeat ((first | with_reducible refine laterP_i ?_ | with_reducible refine later_i ?_); try simp -implicitDefEqProofs -dsimp only [↓D3.seq3_stop, ↓D3.ifS3.eq_1, ↓D3.b3.eq_1, ↓D3.op3.eq_1, ↓D3.un3.eq_1, ↓D3.v3.eq_1, ↓D3.c3.eq_1, fIx_tup, fIx_lst, at3_0, at3_1, at3_2, at3_3, at3_4, at3_5, at3_6, start3, fI0_i, fI_i, fLt, fLe, fGt, fGe, fEqI, fNeI, fMin, fMax, ↓D3.asg3.eq_1, ↓D3.name3.eq_1, ↓D3.sub3.eq_1, ↓D3.ret3.eq_1, ↓D3.retN3.eq_1, ↓D3.nx3.eq_1, ↓D3.drop3.eq_1, ↓D3.par3.eq_1, ↓D3.aug3.eq_1, ↓D3.and3.eq_1, ↓D3.or3.eq_1, ↓D3.not3.eq_1, ↓D3.andV3.eq_1, ↓D3.orV3.eq_1, ↓D3.notV3.eq_1, ↓D3.if3.eq_1, ↓D3.nil3.eq_1, ↓D3.cons3.eq_1, ↓D3.tup3.eq_1, ↓D3.lst3.eq_1, ↓D3.lstM3.eq_1, ↓D3.gtup3.eq_1, ↓D3.gcons3.eq_1, ↓D3.gnil3.eq_1, ↓D3.gunl3.eq_1, ↓D3.bits3.eq_1, ↓D3.neg3.eq_1, ↓D3.chain3.eq_1, fIsi_int_int, fIsi_int_bool, fIsi_int_tuple, fIsi_int_str, fIsi_int_list, fIsi_bl_int, fIsi_bl_bool, fIsi_bl_tuple, fIsi_bl_str, fIsi_bl_list, fIsi_non_int, fIsi_non_bool, fIsi_non_tuple, fIsi_non_str, fIsi_non_list, fIsi_str_int, fIsi_str_bool, fIsi_str_tuple, fIsi_str_str, fIsi_str_list, fIsi_tup_int, fIsi_tup_bool, fIsi_tup_tuple, fIsi_tup_str, fIsi_tup_list, fIsi_lst_int, fIsi_lst_bool, fIsi_lst_tuple, fIsi_lst_str, fIsi_lst_list, fLen_lst, fLen_tup, fAbs, ↓D3.call3_k, ↓D3.kont_app, ↓D3.isN3.eq_1, ↓D3.notN3.eq_1, dIsN_non, dIsN_int, dIsN_bl, dIsN_str, dIsN_tup, dIsN_lst, ↓D3.slc3.eq_1, ↓D3.part3.eq_1, ↓D3.noPart3.eq_1, ↓D3.ilst3.eq_1, ↓D3.itup3.eq_1, ↓D3.irng1.eq_1, ↓D3.irng2.eq_1, ↓D3.for3.eq_1, fCat, fEq_int, fNe_int, fEq_bl, fNe_bl, fEq_pair, fNe_pair, List.map, List.replicate, List.length_cons, List.length_nil, List.set_cons_zero, List.set_cons_succ, List.getElem?_cons_zero, List.getElem?_cons_succ, List.cons_append, List.nil_append, at_0, at_1, at_2, at_3, at_4, at_5, at_6, ix_0, ix_1, ix_2, put_same, put_put, decide_eq_true_eq, Bool.not_eq_true', decide_eq_false_iff_not, ite_not, ite_true, ite_false, if_true, if_false, Bool.false_eq_true, ↓reduceIte, reduceIte, Nat.reduceAdd, Nat.reduceSub, Int.reduceToNat, Nat.reduceLeDiff, not_false_eq_true, true_and, and_true, ne_eq, Int.reduceEq, Nat.zero_add, Bool.not_true, Bool.not_false, reduceCtorEq, nc0, nc1, nc2, nc3, nc4, nc5, fIx_ref put_same, fLen_ref put_same, ↓D3.lc3.eq_1, fInt, fTuple, fList, fNeS_s, fEqS_s, ↓D3.gstar3.eq_1, fInK_s, fNinK_s, fLenS_s, ↓D3.slcT3.eq_1, fCatT_t, ↓D3.app3.eq_1, ↓D3.frz3.eq_1, ↓D3.dc23.eq_1, ↓D3.lcT3.eq_1, ↓D3.litRep3.eq_1, ↓D3.litRepM3.eq_1, ↓D3.rev3.eq_1, ↓D3.dget3.eq_1, ↓D3.disp3.eq_1, ↓D3.ienum3.eq_1, pop3, sset3]))
    refine ⟨⟨_, rfl⟩, _, rfl, D3.sh, ?_⟩
    (refine laterP_in ?_; repeat ((first | with_reducible refine laterP_i ?_ | with_reducible refine later_i ?_); try simp -implicitDefEqProofs -dsimp only [↓D3.seq3_stop, ↓D3.ifS3.eq_1, ↓D3.b3.eq_1, ↓D3.op3.eq_1, ↓D3.un3.eq_1, ↓D3.v3.eq_1, ↓D3.c3.eq_1, fIx_tup, fIx_lst, at3_0, at3_1, at3_2, at3_3, at3_4, at3_5, at3_6, start3, fI0_i, fI_i, fLt, fLe, fGt, fGe, fEqI, fNeI, fMin, fMax, ↓D3.asg3.eq_1, ↓D3.name3.eq_1, ↓D3.sub3.eq_1, ↓D3.ret3.eq_1, ↓D3.retN3.eq_1, ↓D3.nx3.eq_1, ↓D3.drop3.eq_1, ↓D3.par3.eq_1, ↓D3.aug3.eq_1, ↓D3.and3.eq_1, ↓D3.or3.eq_1, ↓D3.not3.eq_1, ↓D3.andV3.eq_1, ↓D3.orV3.eq_1, ↓D3.notV3.eq_1, ↓D3.if3.eq_1, ↓D3.nil3.eq_1, ↓D3.cons3.eq_1, ↓D3.tup3.eq_1, ↓D3.lst3.eq_1, ↓D3.lstM3.eq_1, ↓D3.gtup3.eq_1, ↓D3.gcons3.eq_1, ↓D3.gnil3.eq_1, ↓D3.gunl3.eq_1, ↓D3.bits3.eq_1, ↓D3.neg3.eq_1, ↓D3.chain3.eq_1, fIsi_int_int, fIsi_int_bool, fIsi_int_tuple, fIsi_int_str, fIsi_int_list, fIsi_bl_int, fIsi_bl_bool, fIsi_bl_tuple, fIsi_bl_str, fIsi_bl_list, fIsi_non_int, fIsi_non_bool, fIsi_non_tuple, fIsi_non_str, fIsi_non_list, fIsi_str_int, fIsi_str_bool, fIsi_str_tuple, fIsi_str_str, fIsi_str_list, fIsi_tup_int, fIsi_tup_bool, fIsi_tup_tuple, fIsi_tup_str, fIsi_tup_list, fIsi_lst_int, fIsi_lst_bool, fIsi_lst_tuple, fIsi_lst_str, fIsi_lst_list, fLen_lst, fLen_tup, fAbs, ↓D3.call3_k, ↓D3.kont_app, ↓D3.isN3.eq_1, ↓D3.notN3.eq_1, dIsN_non, dIsN_int, dIsN_bl, dIsN_str, dIsN_tup, dIsN_lst, ↓D3.slc3.eq_1, ↓D3.part3.eq_1, ↓D3.noPart3.eq_1, ↓D3.ilst3.eq_1, ↓D3.itup3.eq_1, ↓D3.irng1.eq_1, ↓D3.irng2.eq_1, ↓D3.for3.eq_1, fCat, fEq_int, fNe_int, fEq_bl, fNe_bl, fEq_pair, fNe_pair, List.map, List.replicate, List.length_cons, List.length_nil, List.set_cons_zero, List.set_cons_succ, List.getElem?_cons_zero, List.getElem?_cons_succ, List.cons_append, List.nil_append, at_0, at_1, at_2, at_3, at_4, at_5, at_6, ix_0, ix_1, ix_2, put_same, put_put, decide_eq_true_eq, Bool.not_eq_true', decide_eq_false_iff_not, ite_not, ite_true, ite_false, if_true, if_false, Bool.false_eq_true, ↓reduceIte, reduceIte, Nat.reduceAdd, Nat.reduceSub, Int.reduceToNat, Nat.reduceLeDiff, not_false_eq_true, true_and, and_true, ne_eq, Int.reduceEq, Nat.zero_add, Bool.not_true, Bool.not_false, reduceCtorEq, nc0, nc1, nc2, nc3, nc4, nc5, fIx_ref put_same, fLen_ref put_same, ↓D3.lc3.eq_1, fInt, fTuple, fList, fNeS_s, fEqS_s, ↓D3.gstar3.eq_1, fInK_s, fNinK_s, fLenS_s, ↓D3.slcT3.eq_1, fCatT_t, ↓D3.app3.eq_1, ↓D3.frz3.eq_1, ↓D3.dc23.eq_1, ↓D3.lcT3.eq_1, ↓D3.litRep3.eq_1, ↓D3.litRepM3.eq_1, ↓D3.rev3.eq_1, ↓D3.dget3.eq_1, ↓D3.disp3.eq_1, ↓D3.ienum3.eq_1, pop3, sset3]))
    refine ⟨⟨_, rfl⟩, _, rfl, D3.sh, ?_⟩
    (refine laterP_in ?_; repeat ((first | with_reducible refine laterP_i ?_ | with_reducible refine later_i ?_); try simp -implicitDefEqProofs -dsimp only [↓D3.seq3_stop, ↓D3.ifS3.eq_1, ↓D3.b3.eq_1, ↓D3.op3.eq_1, ↓D3.un3.eq_1, ↓D3.v3.eq_1, ↓D3.c3.eq_1, fIx_tup, fIx_lst, at3_0, at3_1, at3_2, at3_3, at3_4, at3_5, at3_6, start3, fI0_i, fI_i, fLt, fLe, fGt, fGe, fEqI, fNeI, fMin, fMax, ↓D3.asg3.eq_1, ↓D3.name3.eq_1, ↓D3.sub3.eq_1, ↓D3.ret3.eq_1, ↓D3.retN3.eq_1, ↓D3.nx3.eq_1, ↓D3.drop3.eq_1, ↓D3.par3.eq_1, ↓D3.aug3.eq_1, ↓D3.and3.eq_1, ↓D3.or3.eq_1, ↓D3.not3.eq_1, ↓D3.andV3.eq_1, ↓D3.orV3.eq_1, ↓D3.notV3.eq_1, ↓D3.if3.eq_1, ↓D3.nil3.eq_1, ↓D3.cons3.eq_1, ↓D3.tup3.eq_1, ↓D3.lst3.eq_1, ↓D3.lstM3.eq_1, ↓D3.gtup3.eq_1, ↓D3.gcons3.eq_1, ↓D3.gnil3.eq_1, ↓D3.gunl3.eq_1, ↓D3.bits3.eq_1, ↓D3.neg3.eq_1, ↓D3.chain3.eq_1, fIsi_int_int, fIsi_int_bool, fIsi_int_tuple, fIsi_int_str, fIsi_int_list, fIsi_bl_int, fIsi_bl_bool, fIsi_bl_tuple, fIsi_bl_str, fIsi_bl_list, fIsi_non_int, fIsi_non_bool, fIsi_non_tuple, fIsi_non_str, fIsi_non_list, fIsi_str_int, fIsi_str_bool, fIsi_str_tuple, fIsi_str_str, fIsi_str_list, fIsi_tup_int, fIsi_tup_bool, fIsi_tup_tuple, fIsi_tup_str, fIsi_tup_list, fIsi_lst_int, fIsi_lst_bool, fIsi_lst_tuple, fIsi_lst_str, fIsi_lst_list, fLen_lst, fLen_tup, fAbs, ↓D3.call3_k, ↓D3.kont_app, ↓D3.isN3.eq_1, ↓D3.notN3.eq_1, dIsN_non, dIsN_int, dIsN_bl, dIsN_str, dIsN_tup, dIsN_lst, ↓D3.slc3.eq_1, ↓D3.part3.eq_1, ↓D3.noPart3.eq_1, ↓D3.ilst3.eq_1, ↓D3.itup3.eq_1, ↓D3.irng1.eq_1, ↓D3.irng2.eq_1, ↓D3.for3.eq_1, fCat, fEq_int, fNe_int, fEq_bl, fNe_bl, fEq_pair, fNe_pair, List.map, List.replicate, List.length_cons, List.length_nil, List.set_cons_zero, List.set_cons_succ, List.getElem?_cons_zero, List.getElem?_cons_succ, List.cons_append, List.nil_append, at_0, at_1, at_2, at_3, at_4, at_5, at_6, ix_0, ix_1, ix_2, put_same, put_put, decide_eq_true_eq, Bool.not_eq_true', decide_eq_false_iff_not, ite_not, ite_true, ite_false, if_true, if_false, Bool.false_eq_true, ↓reduceIte, reduceIte, Nat.reduceAdd, Nat.reduceSub, Int.reduceToNat, Nat.reduceLeDiff, not_false_eq_true, true_and, and_true, ne_eq, Int.reduceEq, Nat.zero_add, Bool.not_true, Bool.not_false, reduceCtorEq, nc0, nc1, nc2, nc3, nc4, nc5, fIx_ref put_same, fLen_ref put_same, ↓D3.lc3.eq_1, fInt, fTuple, fList, fNeS_s, fEqS_s, ↓D3.gstar3.eq_1, fInK_s, fNinK_s, fLenS_s, ↓D3.slcT3.eq_1, fCatT_t, ↓D3.app3.eq_1, ↓D3.frz3.eq_1, ↓D3.dc23.eq_1, ↓D3.lcT3.eq_1, ↓D3.litRep3.eq_1, ↓D3.litRepM3.eq_1, ↓D3.rev3.eq_1, ↓D3.dget3.eq_1, ↓D3.disp3.eq_1, ↓D3.ienum3.eq_1, pop3, sset3]))
    refine ⟨⟨_, rfl⟩, _, rfl, D3.sh, ?_⟩
    (refine laterP_in ?_; repeat ((first | with_reducible refine laterP_i ?_ | with_reducible refine later_i ?_); try simp -implicitDefEqProofs -dsimp only [↓D3.seq3_stop, ↓D3.ifS3.eq_1, ↓D3.b3.eq_1, ↓D3.op3.eq_1, ↓D3.un3.eq_1, ↓D3.v3.eq_1, ↓D3.c3.eq_1, fIx_tup, fIx_lst, at3_0, at3_1, at3_2, at3_3, at3_4, at3_5, at3_6, start3, fI0_i, fI_i, fLt, fLe, fGt, fGe, fEqI, fNeI, fMin, fMax, ↓D3.asg3.eq_1, ↓D3.name3.eq_1, ↓D3.sub3.eq_1, ↓D3.ret3.eq_1, ↓D3.retN3.eq_1, ↓D3.nx3.eq_1, ↓D3.drop3.eq_1, ↓D3.par3.eq_1, ↓D3.aug3.eq_1, ↓D3.and3.eq_1, ↓D3.or3.eq_1, ↓D3.not3.eq_1, ↓D3.andV3.eq_1, ↓D3.orV3.eq_1, ↓D3.notV3.eq_1, ↓D3.if3.eq_1, ↓D3.nil3.eq_1, ↓D3.cons3.eq_1, ↓D3.tup3.eq_1, ↓D3.lst3.eq_1, ↓D3.lstM3.eq_1, ↓D3.gtup3.eq_1, ↓D3.gcons3.eq_1, ↓D3.gnil3.eq_1, ↓D3.gunl3.eq_1, ↓D3.bits3.eq_1, ↓D3.neg3.eq_1, ↓D3.chain3.eq_1, fIsi_int_int, fIsi_int_bool, fIsi_int_tuple, fIsi_int_str, fIsi_int_list, fIsi_bl_int, fIsi_bl_bool, fIsi_bl_tuple, fIsi_bl_str, fIsi_bl_list, fIsi_non_int, fIsi_non_bool, fIsi_non_tuple, fIsi_non_str, fIsi_non_list, fIsi_str_int, fIsi_str_bool, fIsi_str_tuple, fIsi_str_str, fIsi_str_list, fIsi_tup_int, fIsi_tup_bool, fIsi_tup_tuple, fIsi_tup_str, fIsi_tup_list, fIsi_lst_int, fIsi_lst_bool, fIsi_lst_tuple, fIsi_lst_str, fIsi_lst_list, fLen_lst, fLen_tup, fAbs, ↓D3.call3_k, ↓D3.kont_app, ↓D3.isN3.eq_1, ↓D3.notN3.eq_1, dIsN_non, dIsN_int, dIsN_bl, dIsN_str, dIsN_tup, dIsN_lst, ↓D3.slc3.eq_1, ↓D3.part3.eq_1, ↓D3.noPart3.eq_1, ↓D3.ilst3.eq_1, ↓D3.itup3.eq_1, ↓D3.irng1.eq_1, ↓D3.irng2.eq_1, ↓D3.for3.eq_1, fCat, fEq_int, fNe_int, fEq_bl, fNe_bl, fEq_pair, fNe_pair, List.map, List.replicate, List.length_cons, List.length_nil, List.set_cons_zero, List.set_cons_succ, List.getElem?_cons_zero, List.getElem?_cons_succ, List.cons_append, List.nil_append, at_0, at_1, at_2, at_3, at_4, at_5, at_6, ix_0, ix_1, ix_2, put_same, put_put, decide_eq_true_eq, Bool.not_eq_true', decide_eq_false_iff_not, ite_not, ite_true, ite_false, if_true, if_false, Bool.false_eq_true, ↓reduceIte, reduceIte, Nat.reduceAdd, Nat.reduceSub, Int.reduceToNat, Nat.reduceLeDiff, not_false_eq_true, true_and, and_true, ne_eq, Int.reduceEq, Nat.zero_add, Bool.not_true, Bool.not_false, reduceCtorEq, nc0, nc1, nc2, nc3, nc4, nc5, fIx_ref put_same, fLen_ref put_same, ↓D3.lc3.eq_1, fInt, fTuple, fList, fNeS_s, fEqS_s, ↓D3.gstar3.eq_1, fInK_s, fNinK_s, fLenS_s, ↓D3.slcT3.eq_1, fCatT_t, ↓D3.app3.eq_1, ↓D3.frz3.eq_1, ↓D3.dc23.eq_1, ↓D3.lcT3.eq_1, ↓D3.litRep3.eq_1, ↓D3.litRepM3.eq_1, ↓D3.rev3.eq_1, ↓D3.dget3.eq_1, ↓D3.disp3.eq_1, ↓D3.ienum3.eq_1, pop3, sset3]))
    refine sp_pick_i n (d3.put ne) (by decide) (by decide) fun z m4 z0 z1 o4 d4 => ?_
    (refine laterP_in ?_; repeat ((first | with_reducible refine laterP_i ?_ | with_reducible refine later_i ?_); try simp -implicitDefEqProofs -dsimp only [↓D3.seq3_stop, ↓D3.ifS3.eq_1, ↓D3.b3.eq_1, ↓D3.op3.eq_1, ↓D3.un3.eq_1, ↓D3.v3.eq_1, ↓D3.c3.eq_1, fIx_tup, fIx_lst, at3_0, at3_1, at3_2, at3_3, at3_4, at3_5, at3_6, start3, fI0_i, fI_i, fLt, fLe, fGt, fGe, fEqI, fNeI, fMin, fMax, ↓D3.asg3.eq_1, ↓D3.name3.eq_1, ↓D3.sub3.eq_1, ↓D3.ret3.eq_1, ↓D3.retN3.eq_1, ↓D3.nx3.eq_1, ↓D3.drop3.eq_1, ↓D3.par3.eq_1, ↓D3.aug3.eq_1, ↓D3.and3.eq_1, ↓D3.or3.eq_1, ↓D3.not3.eq_1, ↓D3.andV3.eq_1, ↓D3.orV3.eq_1, ↓D3.notV3.eq_1, ↓D3.if3.eq_1, ↓D3.nil3.eq_1, ↓D3.cons3.eq_1, ↓D3.tup3.eq_1, ↓D3.lst3.eq_1, ↓D3.lstM3.eq_1, ↓D3.gtup3.eq_1, ↓D3.gcons3.eq_1, ↓D3.gnil3.eq_1, ↓D3.gunl3.eq_1, ↓D3.bits3.eq_1, ↓D3.neg3.eq_1, ↓D3.chain3.eq_1, fIsi_int_int, fIsi_int_bool, fIsi_int_tuple, fIsi_int_str, fIsi_int_list, fIsi_bl_int, fIsi_bl_bool, fIsi_bl_tuple, fIsi_bl_str, fIsi_bl_list, fIsi_non_int, fIsi_non_bool, fIsi_non_tuple, fIsi_non_str, fIsi_non_list, fIsi_str_int, fIsi_str_bool, fIsi_str_tuple, fIsi_str_str, fIsi_str_list, fIsi_tup_int, fIsi_tup_bool, fIsi_tup_tuple, fIsi_tup_str, fIsi_tup_list, fIsi_lst_int, fIsi_lst_bool, fIsi_lst_tuple, fIsi_lst_str, fIsi_lst_list, fLen_lst, fLen_tup, fAbs, ↓D3.call3_k, ↓D3.kont_app, ↓D3.isN3.eq_1, ↓D3.notN3.eq_1, dIsN_non, dIsN_int, dIsN_bl, dIsN_str, dIsN_tup, dIsN_lst, ↓D3.slc3.eq_1, ↓D3.part3.eq_1, ↓D3.noPart3.eq_1, ↓D3.ilst3.eq_1, ↓D3.itup3.eq_1, ↓D3.irng1.eq_1, ↓D3.irng2.eq_1, ↓D3.for3.eq_1, fCat, fEq_int, fNe_int, fEq_bl, fNe_bl, fEq_pair, fNe_pair, List.map, List.replicate, List.length_cons, List.length_nil, List.set_cons_zero, List.set_cons_succ, List.getElem?_cons_zero, List.getElem?_cons_succ, List.cons_append, List.nil_append, at_0, at_1, at_2, at_3, at_4, at_5, at_6, ix_0, ix_1, ix_2, put_same, put_put, decide_eq_true_eq, Bool.not_eq_true', decide_eq_false_iff_not, ite_not, ite_true, ite_false, if_true, if_false, Bool.false_eq_true, ↓reduceIte, reduceIte, Nat.reduceAdd, Nat.reduceSub, Int.reduceToNat, Nat.reduceLeDiff, not_false_eq_true, true_and, and_true, ne_eq, Int.reduceEq, Nat.zero_add, Bool.not_true, Bool.not_false, reduceCtorEq, nc0, nc1, nc2, nc3, nc4, nc5, fIx_ref put_same, fLen_ref put_same, ↓D3.lc3.eq_1, fInt, fTuple, fList, fNeS_s, fEqS_s, ↓D3.gstar3.eq_1, fInK_s, fNinK_s, fLenS_s, ↓D3.slcT3.eq_1, fCatT_t, ↓D3.app3.eq_1, ↓D3.frz3.eq_1, ↓D3.dc23.eq_1, ↓D3.lcT3.eq_1, ↓D3.litRep3.eq_1, ↓D3.litRepM3.eq_1, ↓D3.rev3.eq_1, ↓D3.dget3.eq_1, ↓D3.disp3.eq_1, ↓D3.ienum3.eq_1, pop3, sset3]))
    have e4 := (o4 p (Ne.symm ne)).trans put_same
    rw [fIx_ref e4]
    have here : ∀ e : Nat, Wt (nm :: ns) (e + 1) (.tup [.str "name", .str nm]) := fun e => .name List.mem_cons_self
    have hlf : ∀ e : Nat, Wt (nm :: ns) (e + 1) (.tup [.str "number", .tup [.int x, .int y]]) := fun e => sh.wt
    have hsm : Wt (nm :: ns) 3 w := hw.more fun x hx => List.mem_cons_of_mem _ hx
    have num : ∀ {e : Nat} (k : Int), decide (SmI k) = true → Wt (nm :: ns) (e + 1) (.tup [.str "number", .tup [.int k, .int 1]]) := fun k hk => (smi_sm hk).wt
    have fin : ∀ (b1 b2 b3 b4 : Int) (body : D), SmFr b1 b2 → SmFr b3 b4 → b1 * b4 < b3 * b2 → Wt (nm :: ns) 4 body → Q (.tup [.str "limit", .str nm, .tup [.int b1, .int b2], .tup [.int b3, .int b4], body]) m4 := fun b1 b2 b3 b4 body s1 s2 hlt hb =>
      q _ _ ⟨b1, b2, b3, b4, body, rfl, s1, s2, hlt, hb⟩ (fun q h1 h2 => by rw [o4 q h1, put_ne (fun e => by subst e; rw [o3 q h1, o2 q h1] at hp; exact h2 hp), o3 q h1, o2 q h1]) d4
    refine at3_all z0 (by simpa using z1) fun b hb => ?_
    simp only [List.mem_cons, List.not_mem_nil, or_false] at hb
    rcases hb with rfl | rfl | rfl | rfl | rfl | rfl | rfl | rfl
    all_goals
      (refine laterP_in ?_; repeat ((first | with_reducible refine laterP_i ?_ | with_reducible refine later_i ?_); try simp -implicitDefEqProofs -dsimp only [↓D3.seq3_stop, ↓D3.ifS3.eq_1, ↓D3.b3.eq_1, ↓D3.op3.eq_1, ↓D3.un3.eq_1, ↓D3.v3.eq_1, ↓D3.c3.eq_1, fIx_tup, fIx_lst, at3_0, at3_1, at3_2, at3_3, at3_4, at3_5, at3_6, start3, fI0_i, fI_i, fLt, fLe, fGt, fGe, fEqI, fNeI, fMin, fMax, ↓D3.asg3.eq_1, ↓D3.name3.eq_1, ↓D3.sub3.eq_1, ↓D3.ret3.eq_1, ↓D3.retN3.eq_1, ↓D3.nx3.eq_1, ↓D3.drop3.eq_1, ↓D3.par3.eq_1, ↓D3.aug3.eq_1, ↓D3.and3.eq_1, ↓D3.or3.eq_1, ↓D3.not3.eq_1, ↓D3.andV3.eq_1, ↓D3.orV3.eq_1, ↓D3.notV3.eq_1, ↓D3.if3.eq_1, ↓D3.nil3.eq_1, ↓D3.cons3.eq_1, ↓D3.tup3.eq_1, ↓D3.lst3.eq_1, ↓D3.lstM3.eq_1, ↓D3.gtup3.eq_1, ↓D3.gcons3.eq_1, ↓D3.gnil3.eq_1, ↓D3.gunl3.eq_1, ↓D3.bits3.eq_1, ↓D3.neg3.eq_1, ↓D3.chain3.eq_1, fIsi_int_int, fIsi_int_bool, fIsi_int_tuple, fIsi_int_str, fIsi_int_list, fIsi_bl_int, fIsi_bl_bool, fIsi_bl_tuple, fIsi_bl_str, fIsi_bl_list, fIsi_non_int, fIsi_non_bool, fIsi_non_tuple, fIsi_non_str, fIsi_non_list, fIsi_str_int, fIsi_str_bool, fIsi_str_tuple, fIsi_str_str, fIsi_str_list, fIsi_tup_int, fIsi_tup_bool, fIsi_tup_tuple, fIsi_tup_str, fIsi_tup_list, fIsi_lst_int, fIsi_lst_bool, fIsi_lst_tuple, fIsi_lst_str, fIsi_lst_list, fLen_lst, fLen_tup, fAbs, ↓D3.call3_k, ↓D3.kont_app, ↓D3.isN3.eq_1, ↓D3.notN3.eq_1, dIsN_non, dIsN_int, dIsN_bl, dIsN_str, dIsN_tup, dIsN_lst, ↓D3.slc3.eq_1, ↓D3.part3.eq_1, ↓D3.noPart3.eq_1, ↓D3.ilst3.eq_1, ↓D3.itup3.eq_1, ↓D3.irng1.eq_1, ↓D3.irng2.eq_1, ↓D3.for3.eq_1, fCat, fEq_int, fNe_int, fEq_bl, fNe_bl, fEq_pair, fNe_pair, List.map, List.replicate, List.length_cons, List.length_nil, List.set_cons_zero, List.set_cons_succ, List.getElem?_cons_zero, List.getElem?_cons_succ, List.cons_append, List.nil_append, at_0, at_1, at_2, at_3, at_4, at_5, at_6, ix_0, ix_1, ix_2, put_same, put_put, decide_eq_true_eq, Bool.not_eq_true', decide_eq_false_iff_not, ite_not, ite_true, ite_false, if_true, if_false, Bool.false_eq_true, ↓reduceIte, reduceIte, Nat.reduceAdd, Nat.reduceSub, Int.reduceToNat, Nat.reduceLeDiff, not_false_eq_true, true_and, and_true, ne_eq, Int.reduceEq, Nat.zero_add, Bool.not_true, Bool.not_false, reduceCtorEq, nc0, nc1, nc2, nc3, nc4, nc5, fIx_ref put_same, fLen_ref put_same, ↓D3.lc3.eq_1, fInt, fTuple, fList, fNeS_s, fEqS_s, ↓D3.gstar3.eq_1, fInK_s, fNinK_s, fLenS_s, ↓D3.slcT3.eq_1, fCatT_t, ↓D3.app3.eq_1, ↓D3.frz3.eq_1, ↓D3.dc23.eq_1, ↓D3.lcT3.eq_1, ↓D3.litRep3.eq_1, ↓D3.litRepM3.eq_1, ↓D3.rev3.eq_1, ↓D3.dget3.eq_1, ↓D3.disp3.eq_1, ↓D3.ienum3.eq_1, pop3, sset3]))
      refine fin _ _ _ _ _ isfr_sm isfr_sm (by decide) ?_
    · exact .two (by simp [K2]) (.two (by simp [K2]) (here _) (hlf _)) hsm
    · exact .one (by simp [K1]) (.two (by simp [K2]) (here _) (num _ (by decide)))
    · exact .root (by decide) (by decide) (.two (by simp [K2]) (num _ (by decide)) (here _))
    · exact .one (by simp [K1]) (.two (by simp [K2]) (here _) (num _ (by decide)))
    · exact .two (by simp [K2]) (num _ (by decide)) (.two (by simp [K2]) (num _ (by decide)) (here _))
    · exact .two (by simp [K2]) (.one (by simp [K1]) (.two (by simp [K2]) (hlf _) (here _))) hsm
    · exact .two (by simp [K2]) (.one (by simp [K1]) (here _)) hsm
    · exact .two (by simp [K2]) (here _) hsm
structure Jok (N : List Str) (j : Jb) : Prop where
  w : Wn N j.1
  p : Pl 140 j.1
  d : dp j.1 + j.2.length ≤ 40
  h : ∀ z ∈ j.2, Pl 140 (.str z)
def sp_walk : Sp3 := fun ds m P => ∃ (d : D) (N : List Str), ds = [d] ∧ Wn N d ∧ Pl 140 d ∧ dp d ≤ 16 ∧ cntD d ≤ 1000 ∧ ∀ js : List Jb, js.length = cntD d → (∀ x, Fre d x ↔ ∃ j ∈ js, j.1 = .tup [.str "name", .str x] ∧ x ∉ j.2) → (∀ j ∈ js, Jok N j) → P (.lst (js.map jobD)) m
def cs (js : List Jb) : Nat := (js.map fun j => cntD j.1).sum
theorem cs_ge {N : List Str} : ∀ {js : List Jb}, (∀ j ∈ js, Jok N j) → js.length ≤ cs js
  | [], _ => Nat.le_refl _
  | j :: js, h => by
    have := cs_ge fun x hx => h x (List.mem_cons_of_mem j hx)
    have := cntD_pos (h j List.mem_cons_self).w
    simp only [cs, List.map_cons, List.sum_cons, List.length_cons] at *
    omega
theorem cs_app (a b : List Jb) : cs (a ++ b) = cs a + cs b := by simp [cs]
theorem jok_kids {N : List Str} {j : Jb} {ps : List D} (h : Jok N j) (hi : inn j.1 = some ps) : ∀ k ∈ ps.map (fun p => (p, innr j.1 j.2)), Jok N k := by
  intro k hk
  obtain ⟨p, hp, rfl⟩ := List.mem_map.mp hk
  have hw : Wn N p := by
    cases h.w with
    | mk h1 _ h3 => rw [hi] at h1; cases h1; exact h3 p hp
  have h1 := inn_dp hi p hp
  have h2 := h.d
  obtain ⟨k, r, ej, hm, _⟩ := inn_mem hi
  have hpl := h.p
  rw [ej] at hpl
  have hin : (innr j.1 j.2).length ≤ j.2.length + 1 ∧ ∀ z ∈ innr j.1 j.2, Pl 140 (.str z) := by
    unfold innr
    split
    · rename_i k' nm r' e
      rw [ej] at e
      split
      · obtain ⟨_, e2⟩ := List.cons.inj (D.tup.inj e)
        refine ⟨by simp, fun z hz => ?_⟩
        rcases List.mem_append.mp hz with hz | hz
        · exact h.h z hz
        · simp at hz
          subst hz
          rw [e2] at hpl
          exact hpl.2.1
      · exact ⟨by omega, h.h⟩
    · exact ⟨by omega, h.h⟩
  refine ⟨hw, Pls_mem hpl.2 (hm p hp), ?_, hin.2⟩
  show dp p + (innr j.1 j.2).length ≤ 40
  omega
theorem ok_law_walk (T : Tx w K mg fa fd) : Fn3 P w K mg base 1 (fa 14) (fd 14) ["term"] sp_walk := by
  refine fn3 T.d_law_walk.F sc_law_walk (fun ds m Q h => by obtain ⟨_, _, rfl, _⟩ := h; rfl) fun cdv A outer s H E ds m Q hr h => ?_
  obtain ⟨d, N, rfl, hw, hp, hd, hc, q⟩ := h
  refine ⟨_, (ss_cons (s_set (i := 1) sc_law_walk.nd (e_lstM (a_cons (e_tup (a_cons (e_v 0) (a_cons (e_lst a_nil) a_nil))) a_nil)))
      (ss_cons (s_set (i := 2) sc_law_walk.nd e_int)
      (ss_cons (s_while PassesOwn.never (t_lt (e_v 2) (e_len rfl T.b_len (e_v 1))) (ss_cons (s_asg (e_ix (e_v 1) (e_v 2)) (g_tup rfl (gs_cons (g_name (i := 3) sc_law_walk.nd) (gs_cons (g_name (i := 4) sc_law_walk.nd) gs_nil)) (gl_cons (gl_cons gl_nil))))
      (ss_cons (s_set (i := 5) sc_law_walk.nd (e_if (t_eqS (e_ix (e_v 3) e_int) e_str) (e_cat (e_v 4) (e_lst (a_cons (e_ix (e_v 3) e_int) a_nil))) (e_v 4)))
      (ss_cons (s_for PassesOwn.never rfl (i_tup (e_sliceT (e_v 3) (o_some e_int) o_none)) (g_name (i := 6) sc_law_walk.nd)
      (ss_one (s_if (t_w (t_and (t_val (e_isi rfl T.b_isinstance (e_v 6) (e_type rfl T.b_tuple PyProof.Rows.boot_tuple))) (t_and (t_ne hr (e_v 6) (e_tup a_nil)) (t_and1 (t_val (e_isi rfl T.b_isinstance (e_ix (e_v 6) e_int) (e_type rfl T.b_str PyProof.Rows.boot_str))))))) (ss_one (s_expr (e_append (e_v 1) (e_tup (a_cons (e_v 6) (a_cons (e_v 5) a_nil)))))) ss_nil)))
      (ss_one (s_set (i := 2) sc_law_walk.nd (e_add (e_v 2) e_int)))))))
      (ss_frz (i := 1) (ss_one (s_ret (e_v 1))))))), ?_⟩
  (refine laterP_in ?_; repeat ((first | with_reducible refine laterP_i ?_ | with_reducible refine later_i ?_); try simp -implicitDefEqProofs -dsimp only [↓D3.seq3_stop, ↓D3.ifS3.eq_1, ↓D3.b3.eq_1, ↓D3.op3.eq_1, ↓D3.un3.eq_1, ↓D3.v3.eq_1, ↓D3.c3.eq_1, fIx_tup, fIx_lst, at3_0, at3_1, at3_2, at3_3, at3_4, at3_5, at3_6, start3, fI0_i, fI_i, fLt, fLe, fGt, fGe, fEqI, fNeI, fMin, fMax, ↓D3.asg3.eq_1, ↓D3.name3.eq_1, ↓D3.sub3.eq_1, ↓D3.ret3.eq_1, ↓D3.retN3.eq_1, ↓D3.nx3.eq_1, ↓D3.drop3.eq_1, ↓D3.par3.eq_1, ↓D3.aug3.eq_1, ↓D3.and3.eq_1, ↓D3.or3.eq_1, ↓D3.not3.eq_1, ↓D3.andV3.eq_1, ↓D3.orV3.eq_1, ↓D3.notV3.eq_1, ↓D3.if3.eq_1, ↓D3.nil3.eq_1, ↓D3.cons3.eq_1, ↓D3.tup3.eq_1, ↓D3.lst3.eq_1, ↓D3.lstM3.eq_1, ↓D3.gtup3.eq_1, ↓D3.gcons3.eq_1, ↓D3.gnil3.eq_1, ↓D3.gunl3.eq_1, ↓D3.bits3.eq_1, ↓D3.neg3.eq_1, ↓D3.chain3.eq_1, fIsi_int_int, fIsi_int_bool, fIsi_int_tuple, fIsi_int_str, fIsi_int_list, fIsi_bl_int, fIsi_bl_bool, fIsi_bl_tuple, fIsi_bl_str, fIsi_bl_list, fIsi_non_int, fIsi_non_bool, fIsi_non_tuple, fIsi_non_str, fIsi_non_list, fIsi_str_int, fIsi_str_bool, fIsi_str_tuple, fIsi_str_str, fIsi_str_list, fIsi_tup_int, fIsi_tup_bool, fIsi_tup_tuple, fIsi_tup_str, fIsi_tup_list, fIsi_lst_int, fIsi_lst_bool, fIsi_lst_tuple, fIsi_lst_str, fIsi_lst_list, fLen_lst, fLen_tup, fAbs, ↓D3.call3_k, ↓D3.kont_app, ↓D3.isN3.eq_1, ↓D3.notN3.eq_1, dIsN_non, dIsN_int, dIsN_bl, dIsN_str, dIsN_tup, dIsN_lst, ↓D3.slc3.eq_1, ↓D3.part3.eq_1, ↓D3.noPart3.eq_1, ↓D3.ilst3.eq_1, ↓D3.itup3.eq_1, ↓D3.irng1.eq_1, ↓D3.irng2.eq_1, ↓D3.for3.eq_1, fCat, fEq_int, fNe_int, fEq_bl, fNe_bl, fEq_pair, fNe_pair, List.map, List.replicate, List.length_cons, List.length_nil, List.set_cons_zero, List.set_cons_succ, List.getElem?_cons_zero, List.getElem?_cons_succ, List.cons_append, List.nil_append, at_0, at_1, at_2, at_3, at_4, at_5, at_6, ix_0, ix_1, ix_2, put_same, put_put, decide_eq_true_eq, Bool.not_eq_true', decide_eq_false_iff_not, ite_not, ite_true, ite_false, if_true, if_false, Bool.false_eq_true, ↓reduceIte, reduceIte, Nat.reduceAdd, Nat.reduceSub, Int.reduceToNat, Nat.reduceLeDiff, not_false_eq_true, true_and, and_true, ne_eq, Int.reduceEq, Nat.zero_add, Bool.not_true, Bool.not_false, reduceCtorEq, nc0, nc1, nc2, nc3, nc4, nc5, fIx_ref put_same, fLen_ref put_same, ↓D3.lc3.eq_1, fInt, fTuple, fList, fNeS_s, fEqS_s, ↓D3.gstar3.eq_1, fInK_s, fNinK_s, fLenS_s, ↓D3.slcT3.eq_1, fCatT_t, ↓D3.app3.eq_1, ↓D3.frz3.eq_1, ↓D3.dc23.eq_1, ↓D3.lcT3.eq_1, ↓D3.litRep3.eq_1, ↓D3.litRepM3.eq_1, ↓D3.rev3.eq_1, ↓D3.dget3.eq_1, ↓D3.disp3.eq_1, ↓D3.ienum3.eq_1, pop3, sset3]))
  intro L hL
  (refine laterP_in ?_; repeat ((first | with_reducible refine laterP_i ?_ | with_reducible refine later_i ?_); try simp -implicitDefEqProofs -dsimp only [↓D3.seq3_stop, ↓D3.ifS3.eq_1, ↓D3.b3.eq_1, ↓D3.op3.eq_1, ↓D3.un3.eq_1, ↓D3.v3.eq_1, ↓D3.c3.eq_1, fIx_tup, fIx_lst, at3_0, at3_1, at3_2, at3_3, at3_4, at3_5, at3_6, start3, fI0_i, fI_i, fLt, fLe, fGt, fGe, fEqI, fNeI, fMin, fMax, ↓D3.asg3.eq_1, ↓D3.name3.eq_1, ↓D3.sub3.eq_1, ↓D3.ret3.eq_1, ↓D3.retN3.eq_1, ↓D3.nx3.eq_1, ↓D3.drop3.eq_1, ↓D3.par3.eq_1, ↓D3.aug3.eq_1, ↓D3.and3.eq_1, ↓D3.or3.eq_1, ↓D3.not3.eq_1, ↓D3.andV3.eq_1, ↓D3.orV3.eq_1, ↓D3.notV3.eq_1, ↓D3.if3.eq_1, ↓D3.nil3.eq_1, ↓D3.cons3.eq_1, ↓D3.tup3.eq_1, ↓D3.lst3.eq_1, ↓D3.lstM3.eq_1, ↓D3.gtup3.eq_1, ↓D3.gcons3.eq_1, ↓D3.gnil3.eq_1, ↓D3.gunl3.eq_1, ↓D3.bits3.eq_1, ↓D3.neg3.eq_1, ↓D3.chain3.eq_1, fIsi_int_int, fIsi_int_bool, fIsi_int_tuple, fIsi_int_str, fIsi_int_list, fIsi_bl_int, fIsi_bl_bool, fIsi_bl_tuple, fIsi_bl_str, fIsi_bl_list, fIsi_non_int, fIsi_non_bool, fIsi_non_tuple, fIsi_non_str, fIsi_non_list, fIsi_str_int, fIsi_str_bool, fIsi_str_tuple, fIsi_str_str, fIsi_str_list, fIsi_tup_int, fIsi_tup_bool, fIsi_tup_tuple, fIsi_tup_str, fIsi_tup_list, fIsi_lst_int, fIsi_lst_bool, fIsi_lst_tuple, fIsi_lst_str, fIsi_lst_list, fLen_lst, fLen_tup, fAbs, ↓D3.call3_k, ↓D3.kont_app, ↓D3.isN3.eq_1, ↓D3.notN3.eq_1, dIsN_non, dIsN_int, dIsN_bl, dIsN_str, dIsN_tup, dIsN_lst, ↓D3.slc3.eq_1, ↓D3.part3.eq_1, ↓D3.noPart3.eq_1, ↓D3.ilst3.eq_1, ↓D3.itup3.eq_1, ↓D3.irng1.eq_1, ↓D3.irng2.eq_1, ↓D3.for3.eq_1, fCat, fEq_int, fNe_int, fEq_bl, fNe_bl, fEq_pair, fNe_pair, List.map, List.replicate, List.length_cons, List.length_nil, List.set_cons_zero, List.set_cons_succ, List.getElem?_cons_zero, List.getElem?_cons_succ, List.cons_append, List.nil_append, at_0, at_1, at_2, at_3, at_4, at_5, at_6, ix_0, ix_1, ix_2, put_same, put_put, decide_eq_true_eq, Bool.not_eq_true', decide_eq_false_iff_not, ite_not, ite_true, ite_false, if_true, if_false, Bool.false_eq_true, ↓reduceIte, reduceIte, Nat.reduceAdd, Nat.reduceSub, Int.reduceToNat, Nat.reduceLeDiff, not_false_eq_true, true_and, and_true, ne_eq, Int.reduceEq, Nat.zero_add, Bool.not_true, Bool.not_false, reduceCtorEq, nc0, nc1, nc2, nc3, nc4, nc5, fIx_ref put_same, fLen_ref put_same, ↓D3.lc3.eq_1, fInt, fTuple, fList, fNeS_s, fEqS_s, ↓D3.gstar3.eq_1, fInK_s, fNinK_s, fLenS_s, ↓D3.slcT3.eq_1, fCatT_t, ↓D3.app3.eq_1, ↓D3.frz3.eq_1, ↓D3.dc23.eq_1, ↓D3.lcT3.eq_1, ↓D3.litRep3.eq_1, ↓D3.litRepM3.eq_1, ↓D3.rev3.eq_1, ↓D3.dget3.eq_1, ↓D3.disp3.eq_1, ↓D3.ienum3.eq_1, pop3, sset3]))
  refine ⟨fun n ρ m' => ∃ (js ks : List Jb) (x3 x4 x5 x6 : Option D), n = cntD d - js.length ∧ ρ = [some d, some (.ref L), some (.int (js.length : Nat)), x3, x4, x5, x6] ∧ m' = put m L (.lst ((js ++ ks).map jobD)) ∧ js.length + cs ks = cntD d ∧ (∀ j ∈ js ++ ks, Jok N j) ∧ ∀ x, Fre d x ↔ (∃ j ∈ js, j.1 = .tup [.str "name", .str x] ∧ x ∉ j.2) ∨ ∃ j ∈ ks, Fre j.1 x ∧ x ∉ j.2, ⟨_, [], [(d, [])], none, none, none, none, rfl, rfl, rfl, by simp [cs], fun j hj => ?_, fun x => by simp⟩, ?_⟩
  · simp at hj
    subst hj
    exact ⟨hw, hp, by simp; omega, fun z hz => nomatch hz⟩
  rintro n ρ m' ⟨js, ks, x3, x4, x5, x6, rfl, rfl, rfl, hcs, hok, hf⟩
  (refine laterP_in ?_; repeat ((first | with_reducible refine laterP_i ?_ | with_reducible refine later_i ?_); try simp -implicitDefEqProofs -dsimp only [↓D3.seq3_stop, ↓D3.ifS3.eq_1, ↓D3.b3.eq_1, ↓D3.op3.eq_1, ↓D3.un3.eq_1, ↓D3.v3.eq_1, ↓D3.c3.eq_1, fIx_tup, fIx_lst, at3_0, at3_1, at3_2, at3_3, at3_4, at3_5, at3_6, start3, fI0_i, fI_i, fLt, fLe, fGt, fGe, fEqI, fNeI, fMin, fMax, ↓D3.asg3.eq_1, ↓D3.name3.eq_1, ↓D3.sub3.eq_1, ↓D3.ret3.eq_1, ↓D3.retN3.eq_1, ↓D3.nx3.eq_1, ↓D3.drop3.eq_1, ↓D3.par3.eq_1, ↓D3.aug3.eq_1, ↓D3.and3.eq_1, ↓D3.or3.eq_1, ↓D3.not3.eq_1, ↓D3.andV3.eq_1, ↓D3.orV3.eq_1, ↓D3.notV3.eq_1, ↓D3.if3.eq_1, ↓D3.nil3.eq_1, ↓D3.cons3.eq_1, ↓D3.tup3.eq_1, ↓D3.lst3.eq_1, ↓D3.lstM3.eq_1, ↓D3.gtup3.eq_1, ↓D3.gcons3.eq_1, ↓D3.gnil3.eq_1, ↓D3.gunl3.eq_1, ↓D3.bits3.eq_1, ↓D3.neg3.eq_1, ↓D3.chain3.eq_1, fIsi_int_int, fIsi_int_bool, fIsi_int_tuple, fIsi_int_str, fIsi_int_list, fIsi_bl_int, fIsi_bl_bool, fIsi_bl_tuple, fIsi_bl_str, fIsi_bl_list, fIsi_non_int, fIsi_non_bool, fIsi_non_tuple, fIsi_non_str, fIsi_non_list, fIsi_str_int, fIsi_str_bool, fIsi_str_tuple, fIsi_str_str, fIsi_str_list, fIsi_tup_int, fIsi_tup_bool, fIsi_tup_tuple, fIsi_tup_str, fIsi_tup_list, fIsi_lst_int, fIsi_lst_bool, fIsi_lst_tuple, fIsi_lst_str, fIsi_lst_list, fLen_lst, fLen_tup, fAbs, ↓D3.call3_k, ↓D3.kont_app, ↓D3.isN3.eq_1, ↓D3.notN3.eq_1, dIsN_non, dIsN_int, dIsN_bl, dIsN_str, dIsN_tup, dIsN_lst, ↓D3.slc3.eq_1, ↓D3.part3.eq_1, ↓D3.noPart3.eq_1, ↓D3.ilst3.eq_1, ↓D3.itup3.eq_1, ↓D3.irng1.eq_1, ↓D3.irng2.eq_1, ↓D3.for3.eq_1, fCat, fEq_int, fNe_int, fEq_bl, fNe_bl, fEq_pair, fNe_pair, List.map, List.replicate, List.length_cons, List.length_nil, List.set_cons_zero, List.set_cons_succ, List.getElem?_cons_zero, List.getElem?_cons_succ, List.cons_append, List.nil_append, at_0, at_1, at_2, at_3, at_4, at_5, at_6, ix_0, ix_1, ix_2, put_same, put_put, decide_eq_true_eq, Bool.not_eq_true', decide_eq_false_iff_not, ite_not, ite_true, ite_false, if_true, if_false, Bool.false_eq_true, ↓reduceIte, reduceIte, Nat.reduceAdd, Nat.reduceSub, Int.reduceToNat, Nat.reduceLeDiff, not_false_eq_true, true_and, and_true, ne_eq, Int.reduceEq, Nat.zero_add, Bool.not_true, Bool.not_false, reduceCtorEq, nc0, nc1, nc2, nc3, nc4, nc5, fIx_ref put_same, fLen_ref put_same, ↓D3.lc3.eq_1, fInt, fTuple, fList, fNeS_s, fEqS_s, ↓D3.gstar3.eq_1, fInK_s, fNinK_s, fLenS_s, ↓D3.slcT3.eq_1, fCatT_t, ↓D3.app3.eq_1, ↓D3.frz3.eq_1, ↓D3.dc23.eq_1, ↓D3.lcT3.eq_1, ↓D3.litRep3.eq_1, ↓D3.litRepM3.eq_1, ↓D3.rev3.eq_1, ↓D3.dget3.eq_1, ↓D3.disp3.eq_1, ↓D3.ienum3.eq_1, pop3, sset3, List.length_map]))
  refine ite2 (fun hlt => ?_) (fun hge => ?_)
  rotate_left
  · have e : ks = [] := by
      cases ks with
      | nil => rfl
      | cons _ _ => simp at hge; omega
    subst e
    (refine laterP_in ?_; repeat ((first | with_reducible refine laterP_i ?_ | with_reducible refine later_i ?_); try simp -implicitDefEqProofs -dsimp only [↓D3.seq3_stop, ↓D3.ifS3.eq_1, ↓D3.b3.eq_1, ↓D3.op3.eq_1, ↓D3.un3.eq_1, ↓D3.v3.eq_1, ↓D3.c3.eq_1, fIx_tup, fIx_lst, at3_0, at3_1, at3_2, at3_3, at3_4, at3_5, at3_6, start3, fI0_i, fI_i, fLt, fLe, fGt, fGe, fEqI, fNeI, fMin, fMax, ↓D3.asg3.eq_1, ↓D3.name3.eq_1, ↓D3.sub3.eq_1, ↓D3.ret3.eq_1, ↓D3.retN3.eq_1, ↓D3.nx3.eq_1, ↓D3.drop3.eq_1, ↓D3.par3.eq_1, ↓D3.aug3.eq_1, ↓D3.and3.eq_1, ↓D3.or3.eq_1, ↓D3.not3.eq_1, ↓D3.andV3.eq_1, ↓D3.orV3.eq_1, ↓D3.notV3.eq_1, ↓D3.if3.eq_1, ↓D3.nil3.eq_1, ↓D3.cons3.eq_1, ↓D3.tup3.eq_1, ↓D3.lst3.eq_1, ↓D3.lstM3.eq_1, ↓D3.gtup3.eq_1, ↓D3.gcons3.eq_1, ↓D3.gnil3.eq_1, ↓D3.gunl3.eq_1, ↓D3.bits3.eq_1, ↓D3.neg3.eq_1, ↓D3.chain3.eq_1, fIsi_int_int, fIsi_int_bool, fIsi_int_tuple, fIsi_int_str, fIsi_int_list, fIsi_bl_int, fIsi_bl_bool, fIsi_bl_tuple, fIsi_bl_str, fIsi_bl_list, fIsi_non_int, fIsi_non_bool, fIsi_non_tuple, fIsi_non_str, fIsi_non_list, fIsi_str_int, fIsi_str_bool, fIsi_str_tuple, fIsi_str_str, fIsi_str_list, fIsi_tup_int, fIsi_tup_bool, fIsi_tup_tuple, fIsi_tup_str, fIsi_tup_list, fIsi_lst_int, fIsi_lst_bool, fIsi_lst_tuple, fIsi_lst_str, fIsi_lst_list, fLen_lst, fLen_tup, fAbs, ↓D3.call3_k, ↓D3.kont_app, ↓D3.isN3.eq_1, ↓D3.notN3.eq_1, dIsN_non, dIsN_int, dIsN_bl, dIsN_str, dIsN_tup, dIsN_lst, ↓D3.slc3.eq_1, ↓D3.part3.eq_1, ↓D3.noPart3.eq_1, ↓D3.ilst3.eq_1, ↓D3.itup3.eq_1, ↓D3.irng1.eq_1, ↓D3.irng2.eq_1, ↓D3.for3.eq_1, fCat, fEq_int, fNe_int, fEq_bl, fNe_bl, fEq_pair, fNe_pair, List.map, List.replicate, List.length_cons, List.length_nil, List.set_cons_zero, List.set_cons_succ, List.getElem?_cons_zero, List.getElem?_cons_succ, List.cons_append, List.nil_append, at_0, at_1, at_2, at_3, at_4, at_5, at_6, ix_0, ix_1, ix_2, put_same, put_put, decide_eq_true_eq, Bool.not_eq_true', decide_eq_false_iff_not, ite_not, ite_true, ite_false, if_true, if_false, Bool.false_eq_true, ↓reduceIte, reduceIte, Nat.reduceAdd, Nat.reduceSub, Int.reduceToNat, Nat.reduceLeDiff, not_false_eq_true, true_and, and_true, ne_eq, Int.reduceEq, Nat.zero_add, Bool.not_true, Bool.not_false, reduceCtorEq, nc0, nc1, nc2, nc3, nc4, nc5, fIx_ref put_same, fLen_ref put_same, ↓D3.lc3.eq_1, fInt, fTuple, fList, fNeS_s, fEqS_s, ↓D3.gstar3.eq_1, fInK_s, fNinK_s, fLenS_s, ↓D3.slcT3.eq_1, fCatT_t, ↓D3.app3.eq_1, ↓D3.frz3.eq_1, ↓D3.dc23.eq_1, ↓D3.lcT3.eq_1, ↓D3.litRep3.eq_1, ↓D3.litRepM3.eq_1, ↓D3.rev3.eq_1, ↓D3.dget3.eq_1, ↓D3.disp3.eq_1, ↓D3.ienum3.eq_1, pop3, sset3]))
    rw [del_put, del_none hL]
    rw [List.append_nil] at hok ⊢
    refine q js (by simpa [cs] using hcs) (fun x => ?_) hok
    rw [hf x]
    simp
  · cases ks with
    | nil => simp at hlt
    | cons j ks =>
      rw [at3_nat (x := jobD j) (by simp)]
      have hj := hok j (by simp)
      have hlen : js.length + 1 + ks.length ≤ cntD d := by
        have h1 := cs_ge fun z hz => hok z (List.mem_append_right _ hz)
        simp only [List.length_cons] at h1
        omega
      obtain ⟨jd, jh⟩ := j
      have hcs' : js.length + (cntD jd + cs ks) = cntD d := by simpa [cs] using hcs
      rcases wn_cases hj.w with ⟨x, e, hx⟩ | ⟨nm, a, b, t, e, hi, hwt⟩ | ⟨h, r, ps, e, n1, n2, hi, hl, hps⟩
      · simp only at e
        subst e
        obtain ⟨ps, hi⟩ : ∃ ps, inn (.tup [.str "name", .str x]) = some ps := by cases hj.w with | mk h _ _ => exact ⟨_, h⟩
        have hpst : ∀ p ∈ ps, isT p = true := fun p hp => wn_isT (by cases hj.w with | mk h1 _ h3 => rw [hi] at h1; cases h1; exact h3 p hp)
        have hi : inn (.tup [.str "name", .str x]) = some ps := hi
        have ei : innr (.tup [.str "name", .str x]) jh = jh := rfl
        have fil := inn_fil (h := "name") (r := [.str x]) hi hpst
        have hpr0 : Pls 140 [D.str x] := hj.p.2
        have hd40 : dps [D.str x] ≤ 40 := by simp [dps, dp]
        have h2l : ps.length ≤ 2 := (inn_mem hi).choose_spec.choose_spec.2.2
        (refine laterP_in ?_; repeat ((first | with_reducible refine laterP_i ?_ | with_reducible refine later_i ?_); try simp -implicitDefEqProofs -dsimp only [↓D3.seq3_stop, ↓D3.ifS3.eq_1, ↓D3.b3.eq_1, ↓D3.op3.eq_1, ↓D3.un3.eq_1, ↓D3.v3.eq_1, ↓D3.c3.eq_1, fIx_tup, fIx_lst, at3_0, at3_1, at3_2, at3_3, at3_4, at3_5, at3_6, start3, fI0_i, fI_i, fLt, fLe, fGt, fGe, fEqI, fNeI, fMin, fMax, ↓D3.asg3.eq_1, ↓D3.name3.eq_1, ↓D3.sub3.eq_1, ↓D3.ret3.eq_1, ↓D3.retN3.eq_1, ↓D3.nx3.eq_1, ↓D3.drop3.eq_1, ↓D3.par3.eq_1, ↓D3.aug3.eq_1, ↓D3.and3.eq_1, ↓D3.or3.eq_1, ↓D3.not3.eq_1, ↓D3.andV3.eq_1, ↓D3.orV3.eq_1, ↓D3.notV3.eq_1, ↓D3.if3.eq_1, ↓D3.nil3.eq_1, ↓D3.cons3.eq_1, ↓D3.tup3.eq_1, ↓D3.lst3.eq_1, ↓D3.lstM3.eq_1, ↓D3.gtup3.eq_1, ↓D3.gcons3.eq_1, ↓D3.gnil3.eq_1, ↓D3.gunl3.eq_1, ↓D3.bits3.eq_1, ↓D3.neg3.eq_1, ↓D3.chain3.eq_1, fIsi_int_int, fIsi_int_bool, fIsi_int_tuple, fIsi_int_str, fIsi_int_list, fIsi_bl_int, fIsi_bl_bool, fIsi_bl_tuple, fIsi_bl_str, fIsi_bl_list, fIsi_non_int, fIsi_non_bool, fIsi_non_tuple, fIsi_non_str, fIsi_non_list, fIsi_str_int, fIsi_str_bool, fIsi_str_tuple, fIsi_str_str, fIsi_str_list, fIsi_tup_int, fIsi_tup_bool, fIsi_tup_tuple, fIsi_tup_str, fIsi_tup_list, fIsi_lst_int, fIsi_lst_bool, fIsi_lst_tuple, fIsi_lst_str, fIsi_lst_list, fLen_lst, fLen_tup, fAbs, ↓D3.call3_k, ↓D3.kont_app, ↓D3.isN3.eq_1, ↓D3.notN3.eq_1, dIsN_non, dIsN_int, dIsN_bl, dIsN_str, dIsN_tup, dIsN_lst, ↓D3.slc3.eq_1, ↓D3.part3.eq_1, ↓D3.noPart3.eq_1, ↓D3.ilst3.eq_1, ↓D3.itup3.eq_1, ↓D3.irng1.eq_1, ↓D3.irng2.eq_1, ↓D3.for3.eq_1, fCat, fEq_int, fNe_int, fEq_bl, fNe_bl, fEq_pair, fNe_pair, List.map, List.replicate, List.length_cons, List.length_nil, List.set_cons_zero, List.set_cons_succ, List.getElem?_cons_zero, List.getElem?_cons_succ, List.cons_append, List.nil_append, at_0, at_1, at_2, at_3, at_4, at_5, at_6, ix_0, ix_1, ix_2, put_same, put_put, decide_eq_true_eq, Bool.not_eq_true', decide_eq_false_iff_not, ite_not, ite_true, ite_false, if_true, if_false, Bool.false_eq_true, ↓reduceIte, reduceIte, Nat.reduceAdd, Nat.reduceSub, Int.reduceToNat, Nat.reduceLeDiff, not_false_eq_true, true_and, and_true, ne_eq, Int.reduceEq, Nat.zero_add, Bool.not_true, Bool.not_false, reduceCtorEq, nc0, nc1, nc2, nc3, nc4, nc5, fIx_ref put_same, fLen_ref put_same, ↓D3.lc3.eq_1, fInt, fTuple, fList, fNeS_s, fEqS_s, ↓D3.gstar3.eq_1, fInK_s, fNinK_s, fLenS_s, ↓D3.slcT3.eq_1, fCatT_t, ↓D3.app3.eq_1, ↓D3.frz3.eq_1, ↓D3.dc23.eq_1, ↓D3.lcT3.eq_1, ↓D3.litRep3.eq_1, ↓D3.litRepM3.eq_1, ↓D3.rev3.eq_1, ↓D3.dget3.eq_1, ↓D3.disp3.eq_1, ↓D3.ienum3.eq_1, pop3, sset3, jobD]))
        refine ite2 (fun z => absurd z (by decide)) (fun _ => ?_)
        (refine laterP_in ?_; repeat ((first | with_reducible refine laterP_i ?_ | with_reducible refine later_i ?_); try simp -implicitDefEqProofs -dsimp only [↓D3.seq3_stop, ↓D3.ifS3.eq_1, ↓D3.b3.eq_1, ↓D3.op3.eq_1, ↓D3.un3.eq_1, ↓D3.v3.eq_1, ↓D3.c3.eq_1, fIx_tup, fIx_lst, at3_0, at3_1, at3_2, at3_3, at3_4, at3_5, at3_6, start3, fI0_i, fI_i, fLt, fLe, fGt, fGe, fEqI, fNeI, fMin, fMax, ↓D3.asg3.eq_1, ↓D3.name3.eq_1, ↓D3.sub3.eq_1, ↓D3.ret3.eq_1, ↓D3.retN3.eq_1, ↓D3.nx3.eq_1, ↓D3.drop3.eq_1, ↓D3.par3.eq_1, ↓D3.aug3.eq_1, ↓D3.and3.eq_1, ↓D3.or3.eq_1, ↓D3.not3.eq_1, ↓D3.andV3.eq_1, ↓D3.orV3.eq_1, ↓D3.notV3.eq_1, ↓D3.if3.eq_1, ↓D3.nil3.eq_1, ↓D3.cons3.eq_1, ↓D3.tup3.eq_1, ↓D3.lst3.eq_1, ↓D3.lstM3.eq_1, ↓D3.gtup3.eq_1, ↓D3.gcons3.eq_1, ↓D3.gnil3.eq_1, ↓D3.gunl3.eq_1, ↓D3.bits3.eq_1, ↓D3.neg3.eq_1, ↓D3.chain3.eq_1, fIsi_int_int, fIsi_int_bool, fIsi_int_tuple, fIsi_int_str, fIsi_int_list, fIsi_bl_int, fIsi_bl_bool, fIsi_bl_tuple, fIsi_bl_str, fIsi_bl_list, fIsi_non_int, fIsi_non_bool, fIsi_non_tuple, fIsi_non_str, fIsi_non_list, fIsi_str_int, fIsi_str_bool, fIsi_str_tuple, fIsi_str_str, fIsi_str_list, fIsi_tup_int, fIsi_tup_bool, fIsi_tup_tuple, fIsi_tup_str, fIsi_tup_list, fIsi_lst_int, fIsi_lst_bool, fIsi_lst_tuple, fIsi_lst_str, fIsi_lst_list, fLen_lst, fLen_tup, fAbs, ↓D3.call3_k, ↓D3.kont_app, ↓D3.isN3.eq_1, ↓D3.notN3.eq_1, dIsN_non, dIsN_int, dIsN_bl, dIsN_str, dIsN_tup, dIsN_lst, ↓D3.slc3.eq_1, ↓D3.part3.eq_1, ↓D3.noPart3.eq_1, ↓D3.ilst3.eq_1, ↓D3.itup3.eq_1, ↓D3.irng1.eq_1, ↓D3.irng2.eq_1, ↓D3.for3.eq_1, fCat, fEq_int, fNe_int, fEq_bl, fNe_bl, fEq_pair, fNe_pair, List.map, List.replicate, List.length_cons, List.length_nil, List.set_cons_zero, List.set_cons_succ, List.getElem?_cons_zero, List.getElem?_cons_succ, List.cons_append, List.nil_append, at_0, at_1, at_2, at_3, at_4, at_5, at_6, ix_0, ix_1, ix_2, put_same, put_put, decide_eq_true_eq, Bool.not_eq_true', decide_eq_false_iff_not, ite_not, ite_true, ite_false, if_true, if_false, Bool.false_eq_true, ↓reduceIte, reduceIte, Nat.reduceAdd, Nat.reduceSub, Int.reduceToNat, Nat.reduceLeDiff, not_false_eq_true, true_and, and_true, ne_eq, Int.reduceEq, Nat.zero_add, Bool.not_true, Bool.not_false, reduceCtorEq, nc0, nc1, nc2, nc3, nc4, nc5, fIx_ref put_same, fLen_ref put_same, ↓D3.lc3.eq_1, fInt, fTuple, fList, fNeS_s, fEqS_s, ↓D3.gstar3.eq_1, fInK_s, fNinK_s, fLenS_s, ↓D3.slcT3.eq_1, fCatT_t, ↓D3.app3.eq_1, ↓D3.frz3.eq_1, ↓D3.dc23.eq_1, ↓D3.lcT3.eq_1, ↓D3.litRep3.eq_1, ↓D3.litRepM3.eq_1, ↓D3.rev3.eq_1, ↓D3.dget3.eq_1, ↓D3.disp3.eq_1, ↓D3.ienum3.eq_1, pop3, sset3]))
        rw [cutD_1]
        rw [List.drop_one, List.tail_cons]
        refine forIn3_ind (fun ds ρ m' => ∃ (qs : List D) (x6 : Option D), (∀ p ∈ ds, p ∈ [D.str x]) ∧ qs ++ ds.filter isT = ps ∧ ρ = [some d, some (.ref L), some (.int (js.length : Nat)), some (.tup [.str "name", .str x]), some (.lst (jh.map D.str)), some (.lst (jh.map D.str)), x6] ∧ m' = put m L (.lst ((js ++ ((.tup [.str "name", .str x]), jh) :: ks ++ qs.map (fun p => (p, jh))).map jobD))) ?_ ?_ _ _ _ ⟨[], x6, fun _ h => h, by rw [List.nil_append]; exact fil.1, rfl, by simp⟩
        · rintro p ds ρ m' nx hnx ⟨qs, y6, hmem, hq, rfl, rfl⟩
          have hpr := hmem p List.mem_cons_self
          have hpl : Pl 140 p := Pls_mem hpr0 hpr
          have hdp : dp p ≤ 40 := by have := dps_mem hpr; omega
          have hql : qs.length ≤ 2 := by have := congrArg List.length hq; simp at this; omega
          cases fil.2 p hpr with
          | @t k' r' =>
            have hdr : dps (D.str k' :: r') ≤ 60 := by have h0 : dps (D.str k' :: r') + 1 ≤ 40 := by simpa only [dp, Nat.add_comm] using hdp
                                                       omega
            (refine laterP_in ?_; repeat ((first | with_reducible refine laterP_i ?_ | with_reducible refine later_i ?_); try simp -implicitDefEqProofs -dsimp only [↓D3.seq3_stop, ↓D3.ifS3.eq_1, ↓D3.b3.eq_1, ↓D3.op3.eq_1, ↓D3.un3.eq_1, ↓D3.v3.eq_1, ↓D3.c3.eq_1, fIx_tup, fIx_lst, at3_0, at3_1, at3_2, at3_3, at3_4, at3_5, at3_6, start3, fI0_i, fI_i, fLt, fLe, fGt, fGe, fEqI, fNeI, fMin, fMax, ↓D3.asg3.eq_1, ↓D3.name3.eq_1, ↓D3.sub3.eq_1, ↓D3.ret3.eq_1, ↓D3.retN3.eq_1, ↓D3.nx3.eq_1, ↓D3.drop3.eq_1, ↓D3.par3.eq_1, ↓D3.aug3.eq_1, ↓D3.and3.eq_1, ↓D3.or3.eq_1, ↓D3.not3.eq_1, ↓D3.andV3.eq_1, ↓D3.orV3.eq_1, ↓D3.notV3.eq_1, ↓D3.if3.eq_1, ↓D3.nil3.eq_1, ↓D3.cons3.eq_1, ↓D3.tup3.eq_1, ↓D3.lst3.eq_1, ↓D3.lstM3.eq_1, ↓D3.gtup3.eq_1, ↓D3.gcons3.eq_1, ↓D3.gnil3.eq_1, ↓D3.gunl3.eq_1, ↓D3.bits3.eq_1, ↓D3.neg3.eq_1, ↓D3.chain3.eq_1, fIsi_int_int, fIsi_int_bool, fIsi_int_tuple, fIsi_int_str, fIsi_int_list, fIsi_bl_int, fIsi_bl_bool, fIsi_bl_tuple, fIsi_bl_str, fIsi_bl_list, fIsi_non_int, fIsi_non_bool, fIsi_non_tuple, fIsi_non_str, fIsi_non_list, fIsi_str_int, fIsi_str_bool, fIsi_str_tuple, fIsi_str_str, fIsi_str_list, fIsi_tup_int, fIsi_tup_bool, fIsi_tup_tuple, fIsi_tup_str, fIsi_tup_list, fIsi_lst_int, fIsi_lst_bool, fIsi_lst_tuple, fIsi_lst_str, fIsi_lst_list, fLen_lst, fLen_tup, fAbs, ↓D3.call3_k, ↓D3.kont_app, ↓D3.isN3.eq_1, ↓D3.notN3.eq_1, dIsN_non, dIsN_int, dIsN_bl, dIsN_str, dIsN_tup, dIsN_lst, ↓D3.slc3.eq_1, ↓D3.part3.eq_1, ↓D3.noPart3.eq_1, ↓D3.ilst3.eq_1, ↓D3.itup3.eq_1, ↓D3.irng1.eq_1, ↓D3.irng2.eq_1, ↓D3.for3.eq_1, fCat, fEq_int, fNe_int, fEq_bl, fNe_bl, fEq_pair, fNe_pair, List.map, List.replicate, List.length_cons, List.length_nil, List.set_cons_zero, List.set_cons_succ, List.getElem?_cons_zero, List.getElem?_cons_succ, List.cons_append, List.nil_append, at_0, at_1, at_2, at_3, at_4, at_5, at_6, ix_0, ix_1, ix_2, put_same, put_put, decide_eq_true_eq, Bool.not_eq_true', decide_eq_false_iff_not, ite_not, ite_true, ite_false, if_true, if_false, Bool.false_eq_true, ↓reduceIte, reduceIte, Nat.reduceAdd, Nat.reduceSub, Int.reduceToNat, Nat.reduceLeDiff, not_false_eq_true, true_and, and_true, ne_eq, Int.reduceEq, Nat.zero_add, Bool.not_true, Bool.not_false, reduceCtorEq, nc0, nc1, nc2, nc3, nc4, nc5, fIx_ref put_same, fLen_ref put_same, ↓D3.lc3.eq_1, fInt, fTuple, fList, fNeS_s, fEqS_s, ↓D3.gstar3.eq_1, fInK_s, fNinK_s, fLenS_s, ↓D3.slcT3.eq_1, fCatT_t, ↓D3.app3.eq_1, ↓D3.frz3.eq_1, ↓D3.dc23.eq_1, ↓D3.lcT3.eq_1, ↓D3.litRep3.eq_1, ↓D3.litRepM3.eq_1, ↓D3.rev3.eq_1, ↓D3.dget3.eq_1, ↓D3.disp3.eq_1, ↓D3.ienum3.eq_1, pop3, sset3]))
            rw [fNe_tnil (n := 140) hpl hdr]
            (refine laterP_in ?_; repeat ((first | with_reducible refine laterP_i ?_ | with_reducible refine later_i ?_); try simp -implicitDefEqProofs -dsimp only [↓D3.seq3_stop, ↓D3.ifS3.eq_1, ↓D3.b3.eq_1, ↓D3.op3.eq_1, ↓D3.un3.eq_1, ↓D3.v3.eq_1, ↓D3.c3.eq_1, fIx_tup, fIx_lst, at3_0, at3_1, at3_2, at3_3, at3_4, at3_5, at3_6, start3, fI0_i, fI_i, fLt, fLe, fGt, fGe, fEqI, fNeI, fMin, fMax, ↓D3.asg3.eq_1, ↓D3.name3.eq_1, ↓D3.sub3.eq_1, ↓D3.ret3.eq_1, ↓D3.retN3.eq_1, ↓D3.nx3.eq_1, ↓D3.drop3.eq_1, ↓D3.par3.eq_1, ↓D3.aug3.eq_1, ↓D3.and3.eq_1, ↓D3.or3.eq_1, ↓D3.not3.eq_1, ↓D3.andV3.eq_1, ↓D3.orV3.eq_1, ↓D3.notV3.eq_1, ↓D3.if3.eq_1, ↓D3.nil3.eq_1, ↓D3.cons3.eq_1, ↓D3.tup3.eq_1, ↓D3.lst3.eq_1, ↓D3.lstM3.eq_1, ↓D3.gtup3.eq_1, ↓D3.gcons3.eq_1, ↓D3.gnil3.eq_1, ↓D3.gunl3.eq_1, ↓D3.bits3.eq_1, ↓D3.neg3.eq_1, ↓D3.chain3.eq_1, fIsi_int_int, fIsi_int_bool, fIsi_int_tuple, fIsi_int_str, fIsi_int_list, fIsi_bl_int, fIsi_bl_bool, fIsi_bl_tuple, fIsi_bl_str, fIsi_bl_list, fIsi_non_int, fIsi_non_bool, fIsi_non_tuple, fIsi_non_str, fIsi_non_list, fIsi_str_int, fIsi_str_bool, fIsi_str_tuple, fIsi_str_str, fIsi_str_list, fIsi_tup_int, fIsi_tup_bool, fIsi_tup_tuple, fIsi_tup_str, fIsi_tup_list, fIsi_lst_int, fIsi_lst_bool, fIsi_lst_tuple, fIsi_lst_str, fIsi_lst_list, fLen_lst, fLen_tup, fAbs, ↓D3.call3_k, ↓D3.kont_app, ↓D3.isN3.eq_1, ↓D3.notN3.eq_1, dIsN_non, dIsN_int, dIsN_bl, dIsN_str, dIsN_tup, dIsN_lst, ↓D3.slc3.eq_1, ↓D3.part3.eq_1, ↓D3.noPart3.eq_1, ↓D3.ilst3.eq_1, ↓D3.itup3.eq_1, ↓D3.irng1.eq_1, ↓D3.irng2.eq_1, ↓D3.for3.eq_1, fCat, fEq_int, fNe_int, fEq_bl, fNe_bl, fEq_pair, fNe_pair, List.map, List.replicate, List.length_cons, List.length_nil, List.set_cons_zero, List.set_cons_succ, List.getElem?_cons_zero, List.getElem?_cons_succ, List.cons_append, List.nil_append, at_0, at_1, at_2, at_3, at_4, at_5, at_6, ix_0, ix_1, ix_2, put_same, put_put, decide_eq_true_eq, Bool.not_eq_true', decide_eq_false_iff_not, ite_not, ite_true, ite_false, if_true, if_false, Bool.false_eq_true, ↓reduceIte, reduceIte, Nat.reduceAdd, Nat.reduceSub, Int.reduceToNat, Nat.reduceLeDiff, not_false_eq_true, true_and, and_true, ne_eq, Int.reduceEq, Nat.zero_add, Bool.not_true, Bool.not_false, reduceCtorEq, nc0, nc1, nc2, nc3, nc4, nc5, fIx_ref put_same, fLen_ref put_same, ↓D3.lc3.eq_1, fInt, fTuple, fList, fNeS_s, fEqS_s, ↓D3.gstar3.eq_1, fInK_s, fNinK_s, fLenS_s, ↓D3.slcT3.eq_1, fCatT_t, ↓D3.app3.eq_1, ↓D3.frz3.eq_1, ↓D3.dc23.eq_1, ↓D3.lcT3.eq_1, ↓D3.litRep3.eq_1, ↓D3.litRepM3.eq_1, ↓D3.rev3.eq_1, ↓D3.dget3.eq_1, ↓D3.disp3.eq_1, ↓D3.ienum3.eq_1, pop3, sset3, List.isEmpty_cons]))
            refine ⟨⟨_, rfl⟩, _, rfl, by simp; omega, ?_⟩
            rw [List.filter_cons_of_pos rfl] at hq
            exact hnx _ _ ⟨qs ++ [.tup (.str k' :: r')], _, fun z hz => hmem z (List.mem_cons_of_mem _ hz), by rw [List.append_assoc]; exact hq, rfl, by simp [jobD]⟩
          | @f a' b' =>
            (refine laterP_in ?_; repeat ((first | with_reducible refine laterP_i ?_ | with_reducible refine later_i ?_); try simp -implicitDefEqProofs -dsimp only [↓D3.seq3_stop, ↓D3.ifS3.eq_1, ↓D3.b3.eq_1, ↓D3.op3.eq_1, ↓D3.un3.eq_1, ↓D3.v3.eq_1, ↓D3.c3.eq_1, fIx_tup, fIx_lst, at3_0, at3_1, at3_2, at3_3, at3_4, at3_5, at3_6, start3, fI0_i, fI_i, fLt, fLe, fGt, fGe, fEqI, fNeI, fMin, fMax, ↓D3.asg3.eq_1, ↓D3.name3.eq_1, ↓D3.sub3.eq_1, ↓D3.ret3.eq_1, ↓D3.retN3.eq_1, ↓D3.nx3.eq_1, ↓D3.drop3.eq_1, ↓D3.par3.eq_1, ↓D3.aug3.eq_1, ↓D3.and3.eq_1, ↓D3.or3.eq_1, ↓D3.not3.eq_1, ↓D3.andV3.eq_1, ↓D3.orV3.eq_1, ↓D3.notV3.eq_1, ↓D3.if3.eq_1, ↓D3.nil3.eq_1, ↓D3.cons3.eq_1, ↓D3.tup3.eq_1, ↓D3.lst3.eq_1, ↓D3.lstM3.eq_1, ↓D3.gtup3.eq_1, ↓D3.gcons3.eq_1, ↓D3.gnil3.eq_1, ↓D3.gunl3.eq_1, ↓D3.bits3.eq_1, ↓D3.neg3.eq_1, ↓D3.chain3.eq_1, fIsi_int_int, fIsi_int_bool, fIsi_int_tuple, fIsi_int_str, fIsi_int_list, fIsi_bl_int, fIsi_bl_bool, fIsi_bl_tuple, fIsi_bl_str, fIsi_bl_list, fIsi_non_int, fIsi_non_bool, fIsi_non_tuple, fIsi_non_str, fIsi_non_list, fIsi_str_int, fIsi_str_bool, fIsi_str_tuple, fIsi_str_str, fIsi_str_list, fIsi_tup_int, fIsi_tup_bool, fIsi_tup_tuple, fIsi_tup_str, fIsi_tup_list, fIsi_lst_int, fIsi_lst_bool, fIsi_lst_tuple, fIsi_lst_str, fIsi_lst_list, fLen_lst, fLen_tup, fAbs, ↓D3.call3_k, ↓D3.kont_app, ↓D3.isN3.eq_1, ↓D3.notN3.eq_1, dIsN_non, dIsN_int, dIsN_bl, dIsN_str, dIsN_tup, dIsN_lst, ↓D3.slc3.eq_1, ↓D3.part3.eq_1, ↓D3.noPart3.eq_1, ↓D3.ilst3.eq_1, ↓D3.itup3.eq_1, ↓D3.irng1.eq_1, ↓D3.irng2.eq_1, ↓D3.for3.eq_1, fCat, fEq_int, fNe_int, fEq_bl, fNe_bl, fEq_pair, fNe_pair, List.map, List.replicate, List.length_cons, List.length_nil, List.set_cons_zero, List.set_cons_succ, List.getElem?_cons_zero, List.getElem?_cons_succ, List.cons_append, List.nil_append, at_0, at_1, at_2, at_3, at_4, at_5, at_6, ix_0, ix_1, ix_2, put_same, put_put, decide_eq_true_eq, Bool.not_eq_true', decide_eq_false_iff_not, ite_not, ite_true, ite_false, if_true, if_false, Bool.false_eq_true, ↓reduceIte, reduceIte, Nat.reduceAdd, Nat.reduceSub, Int.reduceToNat, Nat.reduceLeDiff, not_false_eq_true, true_and, and_true, ne_eq, Int.reduceEq, Nat.zero_add, Bool.not_true, Bool.not_false, reduceCtorEq, nc0, nc1, nc2, nc3, nc4, nc5, fIx_ref put_same, fLen_ref put_same, ↓D3.lc3.eq_1, fInt, fTuple, fList, fNeS_s, fEqS_s, ↓D3.gstar3.eq_1, fInK_s, fNinK_s, fLenS_s, ↓D3.slcT3.eq_1, fCatT_t, ↓D3.app3.eq_1, ↓D3.frz3.eq_1, ↓D3.dc23.eq_1, ↓D3.lcT3.eq_1, ↓D3.litRep3.eq_1, ↓D3.litRepM3.eq_1, ↓D3.rev3.eq_1, ↓D3.dget3.eq_1, ↓D3.disp3.eq_1, ↓D3.ienum3.eq_1, pop3, sset3]))
            rw [fNe_tnil (n := 140) hpl (by simp [dps, dp])]
            (refine laterP_in ?_; repeat ((first | with_reducible refine laterP_i ?_ | with_reducible refine later_i ?_); try simp -implicitDefEqProofs -dsimp only [↓D3.seq3_stop, ↓D3.ifS3.eq_1, ↓D3.b3.eq_1, ↓D3.op3.eq_1, ↓D3.un3.eq_1, ↓D3.v3.eq_1, ↓D3.c3.eq_1, fIx_tup, fIx_lst, at3_0, at3_1, at3_2, at3_3, at3_4, at3_5, at3_6, start3, fI0_i, fI_i, fLt, fLe, fGt, fGe, fEqI, fNeI, fMin, fMax, ↓D3.asg3.eq_1, ↓D3.name3.eq_1, ↓D3.sub3.eq_1, ↓D3.ret3.eq_1, ↓D3.retN3.eq_1, ↓D3.nx3.eq_1, ↓D3.drop3.eq_1, ↓D3.par3.eq_1, ↓D3.aug3.eq_1, ↓D3.and3.eq_1, ↓D3.or3.eq_1, ↓D3.not3.eq_1, ↓D3.andV3.eq_1, ↓D3.orV3.eq_1, ↓D3.notV3.eq_1, ↓D3.if3.eq_1, ↓D3.nil3.eq_1, ↓D3.cons3.eq_1, ↓D3.tup3.eq_1, ↓D3.lst3.eq_1, ↓D3.lstM3.eq_1, ↓D3.gtup3.eq_1, ↓D3.gcons3.eq_1, ↓D3.gnil3.eq_1, ↓D3.gunl3.eq_1, ↓D3.bits3.eq_1, ↓D3.neg3.eq_1, ↓D3.chain3.eq_1, fIsi_int_int, fIsi_int_bool, fIsi_int_tuple, fIsi_int_str, fIsi_int_list, fIsi_bl_int, fIsi_bl_bool, fIsi_bl_tuple, fIsi_bl_str, fIsi_bl_list, fIsi_non_int, fIsi_non_bool, fIsi_non_tuple, fIsi_non_str, fIsi_non_list, fIsi_str_int, fIsi_str_bool, fIsi_str_tuple, fIsi_str_str, fIsi_str_list, fIsi_tup_int, fIsi_tup_bool, fIsi_tup_tuple, fIsi_tup_str, fIsi_tup_list, fIsi_lst_int, fIsi_lst_bool, fIsi_lst_tuple, fIsi_lst_str, fIsi_lst_list, fLen_lst, fLen_tup, fAbs, ↓D3.call3_k, ↓D3.kont_app, ↓D3.isN3.eq_1, ↓D3.notN3.eq_1, dIsN_non, dIsN_int, dIsN_bl, dIsN_str, dIsN_tup, dIsN_lst, ↓D3.slc3.eq_1, ↓D3.part3.eq_1, ↓D3.noPart3.eq_1, ↓D3.ilst3.eq_1, ↓D3.itup3.eq_1, ↓D3.irng1.eq_1, ↓D3.irng2.eq_1, ↓D3.for3.eq_1, fCat, fEq_int, fNe_int, fEq_bl, fNe_bl, fEq_pair, fNe_pair, List.map, List.replicate, List.length_cons, List.length_nil, List.set_cons_zero, List.set_cons_succ, List.getElem?_cons_zero, List.getElem?_cons_succ, List.cons_append, List.nil_append, at_0, at_1, at_2, at_3, at_4, at_5, at_6, ix_0, ix_1, ix_2, put_same, put_put, decide_eq_true_eq, Bool.not_eq_true', decide_eq_false_iff_not, ite_not, ite_true, ite_false, if_true, if_false, Bool.false_eq_true, ↓reduceIte, reduceIte, Nat.reduceAdd, Nat.reduceSub, Int.reduceToNat, Nat.reduceLeDiff, not_false_eq_true, true_and, and_true, ne_eq, Int.reduceEq, Nat.zero_add, Bool.not_true, Bool.not_false, reduceCtorEq, nc0, nc1, nc2, nc3, nc4, nc5, fIx_ref put_same, fLen_ref put_same, ↓D3.lc3.eq_1, fInt, fTuple, fList, fNeS_s, fEqS_s, ↓D3.gstar3.eq_1, fInK_s, fNinK_s, fLenS_s, ↓D3.slcT3.eq_1, fCatT_t, ↓D3.app3.eq_1, ↓D3.frz3.eq_1, ↓D3.dc23.eq_1, ↓D3.lcT3.eq_1, ↓D3.litRep3.eq_1, ↓D3.litRepM3.eq_1, ↓D3.rev3.eq_1, ↓D3.dget3.eq_1, ↓D3.disp3.eq_1, ↓D3.ienum3.eq_1, pop3, sset3, List.isEmpty_cons]))
            rw [List.filter_cons_of_neg (by simp [isT])] at hq
            exact hnx _ _ ⟨qs, _, fun z hz => hmem z (List.mem_cons_of_mem _ hz), hq, rfl, rfl⟩
          | @s x' =>
            (refine laterP_in ?_; repeat ((first | with_reducible refine laterP_i ?_ | with_reducible refine later_i ?_); try simp -implicitDefEqProofs -dsimp only [↓D3.seq3_stop, ↓D3.ifS3.eq_1, ↓D3.b3.eq_1, ↓D3.op3.eq_1, ↓D3.un3.eq_1, ↓D3.v3.eq_1, ↓D3.c3.eq_1, fIx_tup, fIx_lst, at3_0, at3_1, at3_2, at3_3, at3_4, at3_5, at3_6, start3, fI0_i, fI_i, fLt, fLe, fGt, fGe, fEqI, fNeI, fMin, fMax, ↓D3.asg3.eq_1, ↓D3.name3.eq_1, ↓D3.sub3.eq_1, ↓D3.ret3.eq_1, ↓D3.retN3.eq_1, ↓D3.nx3.eq_1, ↓D3.drop3.eq_1, ↓D3.par3.eq_1, ↓D3.aug3.eq_1, ↓D3.and3.eq_1, ↓D3.or3.eq_1, ↓D3.not3.eq_1, ↓D3.andV3.eq_1, ↓D3.orV3.eq_1, ↓D3.notV3.eq_1, ↓D3.if3.eq_1, ↓D3.nil3.eq_1, ↓D3.cons3.eq_1, ↓D3.tup3.eq_1, ↓D3.lst3.eq_1, ↓D3.lstM3.eq_1, ↓D3.gtup3.eq_1, ↓D3.gcons3.eq_1, ↓D3.gnil3.eq_1, ↓D3.gunl3.eq_1, ↓D3.bits3.eq_1, ↓D3.neg3.eq_1, ↓D3.chain3.eq_1, fIsi_int_int, fIsi_int_bool, fIsi_int_tuple, fIsi_int_str, fIsi_int_list, fIsi_bl_int, fIsi_bl_bool, fIsi_bl_tuple, fIsi_bl_str, fIsi_bl_list, fIsi_non_int, fIsi_non_bool, fIsi_non_tuple, fIsi_non_str, fIsi_non_list, fIsi_str_int, fIsi_str_bool, fIsi_str_tuple, fIsi_str_str, fIsi_str_list, fIsi_tup_int, fIsi_tup_bool, fIsi_tup_tuple, fIsi_tup_str, fIsi_tup_list, fIsi_lst_int, fIsi_lst_bool, fIsi_lst_tuple, fIsi_lst_str, fIsi_lst_list, fLen_lst, fLen_tup, fAbs, ↓D3.call3_k, ↓D3.kont_app, ↓D3.isN3.eq_1, ↓D3.notN3.eq_1, dIsN_non, dIsN_int, dIsN_bl, dIsN_str, dIsN_tup, dIsN_lst, ↓D3.slc3.eq_1, ↓D3.part3.eq_1, ↓D3.noPart3.eq_1, ↓D3.ilst3.eq_1, ↓D3.itup3.eq_1, ↓D3.irng1.eq_1, ↓D3.irng2.eq_1, ↓D3.for3.eq_1, fCat, fEq_int, fNe_int, fEq_bl, fNe_bl, fEq_pair, fNe_pair, List.map, List.replicate, List.length_cons, List.length_nil, List.set_cons_zero, List.set_cons_succ, List.getElem?_cons_zero, List.getElem?_cons_succ, List.cons_append, List.nil_append, at_0, at_1, at_2, at_3, at_4, at_5, at_6, ix_0, ix_1, ix_2, put_same, put_put, decide_eq_true_eq, Bool.not_eq_true', decide_eq_false_iff_not, ite_not, ite_true, ite_false, if_true, if_false, Bool.false_eq_true, ↓reduceIte, reduceIte, Nat.reduceAdd, Nat.reduceSub, Int.reduceToNat, Nat.reduceLeDiff, not_false_eq_true, true_and, and_true, ne_eq, Int.reduceEq, Nat.zero_add, Bool.not_true, Bool.not_false, reduceCtorEq, nc0, nc1, nc2, nc3, nc4, nc5, fIx_ref put_same, fLen_ref put_same, ↓D3.lc3.eq_1, fInt, fTuple, fList, fNeS_s, fEqS_s, ↓D3.gstar3.eq_1, fInK_s, fNinK_s, fLenS_s, ↓D3.slcT3.eq_1, fCatT_t, ↓D3.app3.eq_1, ↓D3.frz3.eq_1, ↓D3.dc23.eq_1, ↓D3.lcT3.eq_1, ↓D3.litRep3.eq_1, ↓D3.litRepM3.eq_1, ↓D3.rev3.eq_1, ↓D3.dget3.eq_1, ↓D3.disp3.eq_1, ↓D3.ienum3.eq_1, pop3, sset3]))
            rw [List.filter_cons_of_neg (by simp [isT])] at hq
            exact hnx _ _ ⟨qs, _, fun z hz => hmem z (List.mem_cons_of_mem _ hz), hq, rfl, rfl⟩
          | @i k' =>
            (refine laterP_in ?_; repeat ((first | with_reducible refine laterP_i ?_ | with_reducible refine later_i ?_); try simp -implicitDefEqProofs -dsimp only [↓D3.seq3_stop, ↓D3.ifS3.eq_1, ↓D3.b3.eq_1, ↓D3.op3.eq_1, ↓D3.un3.eq_1, ↓D3.v3.eq_1, ↓D3.c3.eq_1, fIx_tup, fIx_lst, at3_0, at3_1, at3_2, at3_3, at3_4, at3_5, at3_6, start3, fI0_i, fI_i, fLt, fLe, fGt, fGe, fEqI, fNeI, fMin, fMax, ↓D3.asg3.eq_1, ↓D3.name3.eq_1, ↓D3.sub3.eq_1, ↓D3.ret3.eq_1, ↓D3.retN3.eq_1, ↓D3.nx3.eq_1, ↓D3.drop3.eq_1, ↓D3.par3.eq_1, ↓D3.aug3.eq_1, ↓D3.and3.eq_1, ↓D3.or3.eq_1, ↓D3.not3.eq_1, ↓D3.andV3.eq_1, ↓D3.orV3.eq_1, ↓D3.notV3.eq_1, ↓D3.if3.eq_1, ↓D3.nil3.eq_1, ↓D3.cons3.eq_1, ↓D3.tup3.eq_1, ↓D3.lst3.eq_1, ↓D3.lstM3.eq_1, ↓D3.gtup3.eq_1, ↓D3.gcons3.eq_1, ↓D3.gnil3.eq_1, ↓D3.gunl3.eq_1, ↓D3.bits3.eq_1, ↓D3.neg3.eq_1, ↓D3.chain3.eq_1, fIsi_int_int, fIsi_int_bool, fIsi_int_tuple, fIsi_int_str, fIsi_int_list, fIsi_bl_int, fIsi_bl_bool, fIsi_bl_tuple, fIsi_bl_str, fIsi_bl_list, fIsi_non_int, fIsi_non_bool, fIsi_non_tuple, fIsi_non_str, fIsi_non_list, fIsi_str_int, fIsi_str_bool, fIsi_str_tuple, fIsi_str_str, fIsi_str_list, fIsi_tup_int, fIsi_tup_bool, fIsi_tup_tuple, fIsi_tup_str, fIsi_tup_list, fIsi_lst_int, fIsi_lst_bool, fIsi_lst_tuple, fIsi_lst_str, fIsi_lst_list, fLen_lst, fLen_tup, fAbs, ↓D3.call3_k, ↓D3.kont_app, ↓D3.isN3.eq_1, ↓D3.notN3.eq_1, dIsN_non, dIsN_int, dIsN_bl, dIsN_str, dIsN_tup, dIsN_lst, ↓D3.slc3.eq_1, ↓D3.part3.eq_1, ↓D3.noPart3.eq_1, ↓D3.ilst3.eq_1, ↓D3.itup3.eq_1, ↓D3.irng1.eq_1, ↓D3.irng2.eq_1, ↓D3.for3.eq_1, fCat, fEq_int, fNe_int, fEq_bl, fNe_bl, fEq_pair, fNe_pair, List.map, List.replicate, List.length_cons, List.length_nil, List.set_cons_zero, List.set_cons_succ, List.getElem?_cons_zero, List.getElem?_cons_succ, List.cons_append, List.nil_append, at_0, at_1, at_2, at_3, at_4, at_5, at_6, ix_0, ix_1, ix_2, put_same, put_put, decide_eq_true_eq, Bool.not_eq_true', decide_eq_false_iff_not, ite_not, ite_true, ite_false, if_true, if_false, Bool.false_eq_true, ↓reduceIte, reduceIte, Nat.reduceAdd, Nat.reduceSub, Int.reduceToNat, Nat.reduceLeDiff, not_false_eq_true, true_and, and_true, ne_eq, Int.reduceEq, Nat.zero_add, Bool.not_true, Bool.not_false, reduceCtorEq, nc0, nc1, nc2, nc3, nc4, nc5, fIx_ref put_same, fLen_ref put_same, ↓D3.lc3.eq_1, fInt, fTuple, fList, fNeS_s, fEqS_s, ↓D3.gstar3.eq_1, fInK_s, fNinK_s, fLenS_s, ↓D3.slcT3.eq_1, fCatT_t, ↓D3.app3.eq_1, ↓D3.frz3.eq_1, ↓D3.dc23.eq_1, ↓D3.lcT3.eq_1, ↓D3.litRep3.eq_1, ↓D3.litRepM3.eq_1, ↓D3.rev3.eq_1, ↓D3.dget3.eq_1, ↓D3.disp3.eq_1, ↓D3.ienum3.eq_1, pop3, sset3]))
            rw [List.filter_cons_of_neg (by simp [isT])] at hq
            exact hnx _ _ ⟨qs, _, fun z hz => hmem z (List.mem_cons_of_mem _ hz), hq, rfl, rfl⟩
        · rintro ρ m' ⟨qs, y6, _, hq, rfl, rfl⟩
          have hq2 : qs = ps := by simpa using hq
          subst hq2
          (refine laterP_in ?_; repeat ((first | with_reducible refine laterP_i ?_ | with_reducible refine later_i ?_); try simp -implicitDefEqProofs -dsimp only [↓D3.seq3_stop, ↓D3.ifS3.eq_1, ↓D3.b3.eq_1, ↓D3.op3.eq_1, ↓D3.un3.eq_1, ↓D3.v3.eq_1, ↓D3.c3.eq_1, fIx_tup, fIx_lst, at3_0, at3_1, at3_2, at3_3, at3_4, at3_5, at3_6, start3, fI0_i, fI_i, fLt, fLe, fGt, fGe, fEqI, fNeI, fMin, fMax, ↓D3.asg3.eq_1, ↓D3.name3.eq_1, ↓D3.sub3.eq_1, ↓D3.ret3.eq_1, ↓D3.retN3.eq_1, ↓D3.nx3.eq_1, ↓D3.drop3.eq_1, ↓D3.par3.eq_1, ↓D3.aug3.eq_1, ↓D3.and3.eq_1, ↓D3.or3.eq_1, ↓D3.not3.eq_1, ↓D3.andV3.eq_1, ↓D3.orV3.eq_1, ↓D3.notV3.eq_1, ↓D3.if3.eq_1, ↓D3.nil3.eq_1, ↓D3.cons3.eq_1, ↓D3.tup3.eq_1, ↓D3.lst3.eq_1, ↓D3.lstM3.eq_1, ↓D3.gtup3.eq_1, ↓D3.gcons3.eq_1, ↓D3.gnil3.eq_1, ↓D3.gunl3.eq_1, ↓D3.bits3.eq_1, ↓D3.neg3.eq_1, ↓D3.chain3.eq_1, fIsi_int_int, fIsi_int_bool, fIsi_int_tuple, fIsi_int_str, fIsi_int_list, fIsi_bl_int, fIsi_bl_bool, fIsi_bl_tuple, fIsi_bl_str, fIsi_bl_list, fIsi_non_int, fIsi_non_bool, fIsi_non_tuple, fIsi_non_str, fIsi_non_list, fIsi_str_int, fIsi_str_bool, fIsi_str_tuple, fIsi_str_str, fIsi_str_list, fIsi_tup_int, fIsi_tup_bool, fIsi_tup_tuple, fIsi_tup_str, fIsi_tup_list, fIsi_lst_int, fIsi_lst_bool, fIsi_lst_tuple, fIsi_lst_str, fIsi_lst_list, fLen_lst, fLen_tup, fAbs, ↓D3.call3_k, ↓D3.kont_app, ↓D3.isN3.eq_1, ↓D3.notN3.eq_1, dIsN_non, dIsN_int, dIsN_bl, dIsN_str, dIsN_tup, dIsN_lst, ↓D3.slc3.eq_1, ↓D3.part3.eq_1, ↓D3.noPart3.eq_1, ↓D3.ilst3.eq_1, ↓D3.itup3.eq_1, ↓D3.irng1.eq_1, ↓D3.irng2.eq_1, ↓D3.for3.eq_1, fCat, fEq_int, fNe_int, fEq_bl, fNe_bl, fEq_pair, fNe_pair, List.map, List.replicate, List.length_cons, List.length_nil, List.set_cons_zero, List.set_cons_succ, List.getElem?_cons_zero, List.getElem?_cons_succ, List.cons_append, List.nil_append, at_0, at_1, at_2, at_3, at_4, at_5, at_6, ix_0, ix_1, ix_2, put_same, put_put, decide_eq_true_eq, Bool.not_eq_true', decide_eq_false_iff_not, ite_not, ite_true, ite_false, if_true, if_false, Bool.false_eq_true, ↓reduceIte, reduceIte, Nat.reduceAdd, Nat.reduceSub, Int.reduceToNat, Nat.reduceLeDiff, not_false_eq_true, true_and, and_true, ne_eq, Int.reduceEq, Nat.zero_add, Bool.not_true, Bool.not_false, reduceCtorEq, nc0, nc1, nc2, nc3, nc4, nc5, fIx_ref put_same, fLen_ref put_same, ↓D3.lc3.eq_1, fInt, fTuple, fList, fNeS_s, fEqS_s, ↓D3.gstar3.eq_1, fInK_s, fNinK_s, fLenS_s, ↓D3.slcT3.eq_1, fCatT_t, ↓D3.app3.eq_1, ↓D3.frz3.eq_1, ↓D3.dc23.eq_1, ↓D3.lcT3.eq_1, ↓D3.litRep3.eq_1, ↓D3.litRepM3.eq_1, ↓D3.rev3.eq_1, ↓D3.dget3.eq_1, ↓D3.disp3.eq_1, ↓D3.ienum3.eq_1, pop3, sset3]))
          refine ⟨cntD d - (js.length + 1), by omega, js ++ [((.tup [.str "name", .str x]), jh)], ks ++ qs.map (fun p => (p, jh)), _, _, _, _, by simp, by rw [show (js.length : Int) + 1 = ((js ++ [((D.tup [.str "name", .str x]), jh)]).length : Nat) by simp], by simp, ?_, ?_, ?_⟩
          · rw [cs_app, List.length_append, List.length_singleton]
            have e1 : cs (qs.map fun p => (p, jh)) = (qs.map cntD).sum := by unfold cs; rw [List.map_map]; rfl
            have e2 := cntD_eq hi
            omega
          · intro j' hj'
            rw [List.append_assoc, List.mem_append] at hj'
            rcases hj' with h1 | h1
            · exact hok j' (List.mem_append_left _ h1)
            · rw [List.singleton_append, List.mem_cons, List.mem_append] at h1
              rcases h1 with rfl | h1 | h1
              · exact hj
              · exact hok j' (List.mem_append_right _ (List.mem_cons_of_mem _ h1))
              · exact jok_kids hj hi j' (by simp only [ei]; exact h1)
          · intro xx
            have h0 := job_fre (h := jh) hj.w hi xx
            rw [ei] at h0
            rw [hf xx]
            constructor
            · rintro (⟨j', h1, h2⟩ | ⟨j', h1, h2⟩)
              · exact .inl ⟨j', List.mem_append_left _ h1, h2⟩
              · rcases List.mem_cons.mp h1 with rfl | h1
                · rcases h0.mp h2 with h3 | ⟨p, h4, h5⟩
                  · exact .inl ⟨_, List.mem_append_right _ (by simp), h3⟩
                  · exact .inr ⟨(p, jh), List.mem_append_right _ (List.mem_map.mpr ⟨p, h4, rfl⟩), h5⟩
                · exact .inr ⟨j', List.mem_append_left _ h1, h2⟩
            · rintro (⟨j', h1, h2⟩ | ⟨j', h1, h2⟩)
              · rcases List.mem_append.mp h1 with h1 | h1
                · exact .inl ⟨j', h1, h2⟩
                · simp at h1
                  subst h1
                  exact .inr ⟨_, List.mem_cons_self, h0.mpr (.inl h2)⟩
              · rcases List.mem_append.mp h1 with h1 | h1
                · exact .inr ⟨j', List.mem_cons_of_mem _ h1, h2⟩
                · obtain ⟨p, h4, rfl⟩ := List.mem_map.mp h1
                  exact .inr ⟨_, List.mem_cons_self, h0.mpr (.inr ⟨p, h4, h2⟩)⟩
      · simp only at e
        subst e
        have hpst : ∀ p ∈ [t], isT p = true := fun p hp => by simp at hp; subst hp; exact wn_isT hwt
        have hi : inn (.tup [.str "limit", .str nm, a, b, t]) = some [t] := hi
        have ei : innr (.tup [.str "limit", .str nm, a, b, t]) jh = (jh ++ [nm]) := rfl
        have fil := inn_fil (h := "limit") (r := [.str nm, a, b, t]) hi hpst
        have hpr0 : Pls 140 [D.str nm, a, b, t] := hj.p.2
        have hd40 : dps [D.str nm, a, b, t] ≤ 40 := by have := hj.d; simp only [dp, dps] at this ⊢; omega
        have h2l : [t].length ≤ 2 := by simp
        have hjl : jh.length ≤ 40 := by have := hj.d; simp only at this; omega
        (refine laterP_in ?_; repeat ((first | with_reducible refine laterP_i ?_ | with_reducible refine later_i ?_); try simp -implicitDefEqProofs -dsimp only [↓D3.seq3_stop, ↓D3.ifS3.eq_1, ↓D3.b3.eq_1, ↓D3.op3.eq_1, ↓D3.un3.eq_1, ↓D3.v3.eq_1, ↓D3.c3.eq_1, fIx_tup, fIx_lst, at3_0, at3_1, at3_2, at3_3, at3_4, at3_5, at3_6, start3, fI0_i, fI_i, fLt, fLe, fGt, fGe, fEqI, fNeI, fMin, fMax, ↓D3.asg3.eq_1, ↓D3.name3.eq_1, ↓D3.sub3.eq_1, ↓D3.ret3.eq_1, ↓D3.retN3.eq_1, ↓D3.nx3.eq_1, ↓D3.drop3.eq_1, ↓D3.par3.eq_1, ↓D3.aug3.eq_1, ↓D3.and3.eq_1, ↓D3.or3.eq_1, ↓D3.not3.eq_1, ↓D3.andV3.eq_1, ↓D3.orV3.eq_1, ↓D3.notV3.eq_1, ↓D3.if3.eq_1, ↓D3.nil3.eq_1, ↓D3.cons3.eq_1, ↓D3.tup3.eq_1, ↓D3.lst3.eq_1, ↓D3.lstM3.eq_1, ↓D3.gtup3.eq_1, ↓D3.gcons3.eq_1, ↓D3.gnil3.eq_1, ↓D3.gunl3.eq_1, ↓D3.bits3.eq_1, ↓D3.neg3.eq_1, ↓D3.chain3.eq_1, fIsi_int_int, fIsi_int_bool, fIsi_int_tuple, fIsi_int_str, fIsi_int_list, fIsi_bl_int, fIsi_bl_bool, fIsi_bl_tuple, fIsi_bl_str, fIsi_bl_list, fIsi_non_int, fIsi_non_bool, fIsi_non_tuple, fIsi_non_str, fIsi_non_list, fIsi_str_int, fIsi_str_bool, fIsi_str_tuple, fIsi_str_str, fIsi_str_list, fIsi_tup_int, fIsi_tup_bool, fIsi_tup_tuple, fIsi_tup_str, fIsi_tup_list, fIsi_lst_int, fIsi_lst_bool, fIsi_lst_tuple, fIsi_lst_str, fIsi_lst_list, fLen_lst, fLen_tup, fAbs, ↓D3.call3_k, ↓D3.kont_app, ↓D3.isN3.eq_1, ↓D3.notN3.eq_1, dIsN_non, dIsN_int, dIsN_bl, dIsN_str, dIsN_tup, dIsN_lst, ↓D3.slc3.eq_1, ↓D3.part3.eq_1, ↓D3.noPart3.eq_1, ↓D3.ilst3.eq_1, ↓D3.itup3.eq_1, ↓D3.irng1.eq_1, ↓D3.irng2.eq_1, ↓D3.for3.eq_1, fCat, fEq_int, fNe_int, fEq_bl, fNe_bl, fEq_pair, fNe_pair, List.map, List.replicate, List.length_cons, List.length_nil, List.set_cons_zero, List.set_cons_succ, List.getElem?_cons_zero, List.getElem?_cons_succ, List.cons_append, List.nil_append, at_0, at_1, at_2, at_3, at_4, at_5, at_6, ix_0, ix_1, ix_2, put_same, put_put, decide_eq_true_eq, Bool.not_eq_true', decide_eq_false_iff_not, ite_not, ite_true, ite_false, if_true, if_false, Bool.false_eq_true, ↓reduceIte, reduceIte, Nat.reduceAdd, Nat.reduceSub, Int.reduceToNat, Nat.reduceLeDiff, not_false_eq_true, true_and, and_true, ne_eq, Int.reduceEq, Nat.zero_add, Bool.not_true, Bool.not_false, reduceCtorEq, nc0, nc1, nc2, nc3, nc4, nc5, fIx_ref put_same, fLen_ref put_same, ↓D3.lc3.eq_1, fInt, fTuple, fList, fNeS_s, fEqS_s, ↓D3.gstar3.eq_1, fInK_s, fNinK_s, fLenS_s, ↓D3.slcT3.eq_1, fCatT_t, ↓D3.app3.eq_1, ↓D3.frz3.eq_1, ↓D3.dc23.eq_1, ↓D3.lcT3.eq_1, ↓D3.litRep3.eq_1, ↓D3.litRepM3.eq_1, ↓D3.rev3.eq_1, ↓D3.dget3.eq_1, ↓D3.disp3.eq_1, ↓D3.ienum3.eq_1, pop3, sset3, jobD, List.length_map]))
        refine ⟨by omega, ?_⟩
        rw [show List.map D.str jh ++ [D.str nm] = List.map D.str (jh ++ [nm]) by simp]
        (refine laterP_in ?_; repeat ((first | with_reducible refine laterP_i ?_ | with_reducible refine later_i ?_); try simp -implicitDefEqProofs -dsimp only [↓D3.seq3_stop, ↓D3.ifS3.eq_1, ↓D3.b3.eq_1, ↓D3.op3.eq_1, ↓D3.un3.eq_1, ↓D3.v3.eq_1, ↓D3.c3.eq_1, fIx_tup, fIx_lst, at3_0, at3_1, at3_2, at3_3, at3_4, at3_5, at3_6, start3, fI0_i, fI_i, fLt, fLe, fGt, fGe, fEqI, fNeI, fMin, fMax, ↓D3.asg3.eq_1, ↓D3.name3.eq_1, ↓D3.sub3.eq_1, ↓D3.ret3.eq_1, ↓D3.retN3.eq_1, ↓D3.nx3.eq_1, ↓D3.drop3.eq_1, ↓D3.par3.eq_1, ↓D3.aug3.eq_1, ↓D3.and3.eq_1, ↓D3.or3.eq_1, ↓D3.not3.eq_1, ↓D3.andV3.eq_1, ↓D3.orV3.eq_1, ↓D3.notV3.eq_1, ↓D3.if3.eq_1, ↓D3.nil3.eq_1, ↓D3.cons3.eq_1, ↓D3.tup3.eq_1, ↓D3.lst3.eq_1, ↓D3.lstM3.eq_1, ↓D3.gtup3.eq_1, ↓D3.gcons3.eq_1, ↓D3.gnil3.eq_1, ↓D3.gunl3.eq_1, ↓D3.bits3.eq_1, ↓D3.neg3.eq_1, ↓D3.chain3.eq_1, fIsi_int_int, fIsi_int_bool, fIsi_int_tuple, fIsi_int_str, fIsi_int_list, fIsi_bl_int, fIsi_bl_bool, fIsi_bl_tuple, fIsi_bl_str, fIsi_bl_list, fIsi_non_int, fIsi_non_bool, fIsi_non_tuple, fIsi_non_str, fIsi_non_list, fIsi_str_int, fIsi_str_bool, fIsi_str_tuple, fIsi_str_str, fIsi_str_list, fIsi_tup_int, fIsi_tup_bool, fIsi_tup_tuple, fIsi_tup_str, fIsi_tup_list, fIsi_lst_int, fIsi_lst_bool, fIsi_lst_tuple, fIsi_lst_str, fIsi_lst_list, fLen_lst, fLen_tup, fAbs, ↓D3.call3_k, ↓D3.kont_app, ↓D3.isN3.eq_1, ↓D3.notN3.eq_1, dIsN_non, dIsN_int, dIsN_bl, dIsN_str, dIsN_tup, dIsN_lst, ↓D3.slc3.eq_1, ↓D3.part3.eq_1, ↓D3.noPart3.eq_1, ↓D3.ilst3.eq_1, ↓D3.itup3.eq_1, ↓D3.irng1.eq_1, ↓D3.irng2.eq_1, ↓D3.for3.eq_1, fCat, fEq_int, fNe_int, fEq_bl, fNe_bl, fEq_pair, fNe_pair, List.map, List.replicate, List.length_cons, List.length_nil, List.set_cons_zero, List.set_cons_succ, List.getElem?_cons_zero, List.getElem?_cons_succ, List.cons_append, List.nil_append, at_0, at_1, at_2, at_3, at_4, at_5, at_6, ix_0, ix_1, ix_2, put_same, put_put, decide_eq_true_eq, Bool.not_eq_true', decide_eq_false_iff_not, ite_not, ite_true, ite_false, if_true, if_false, Bool.false_eq_true, ↓reduceIte, reduceIte, Nat.reduceAdd, Nat.reduceSub, Int.reduceToNat, Nat.reduceLeDiff, not_false_eq_true, true_and, and_true, ne_eq, Int.reduceEq, Nat.zero_add, Bool.not_true, Bool.not_false, reduceCtorEq, nc0, nc1, nc2, nc3, nc4, nc5, fIx_ref put_same, fLen_ref put_same, ↓D3.lc3.eq_1, fInt, fTuple, fList, fNeS_s, fEqS_s, ↓D3.gstar3.eq_1, fInK_s, fNinK_s, fLenS_s, ↓D3.slcT3.eq_1, fCatT_t, ↓D3.app3.eq_1, ↓D3.frz3.eq_1, ↓D3.dc23.eq_1, ↓D3.lcT3.eq_1, ↓D3.litRep3.eq_1, ↓D3.litRepM3.eq_1, ↓D3.rev3.eq_1, ↓D3.dget3.eq_1, ↓D3.disp3.eq_1, ↓D3.ienum3.eq_1, pop3, sset3]))
        rw [cutD_1]
        rw [List.drop_one, List.tail_cons]
        refine forIn3_ind (fun ds ρ m' => ∃ (qs : List D) (x6 : Option D), (∀ p ∈ ds, p ∈ [D.str nm, a, b, t]) ∧ qs ++ ds.filter isT = [t] ∧ ρ = [some d, some (.ref L), some (.int (js.length : Nat)), some (.tup [.str "limit", .str nm, a, b, t]), some (.lst (jh.map D.str)), some (.lst ((jh ++ [nm]).map D.str)), x6] ∧ m' = put m L (.lst ((js ++ ((.tup [.str "limit", .str nm, a, b, t]), jh) :: ks ++ qs.map (fun p => (p, (jh ++ [nm])))).map jobD))) ?_ ?_ _ _ _ ⟨[], x6, fun _ h => h, by rw [List.nil_append]; exact fil.1, rfl, by simp⟩
        · rintro p ds ρ m' nx hnx ⟨qs, y6, hmem, hq, rfl, rfl⟩
          have hpr := hmem p List.mem_cons_self
          have hpl : Pl 140 p := Pls_mem hpr0 hpr
          have hdp : dp p ≤ 40 := by have := dps_mem hpr; omega
          have hql : qs.length ≤ 2 := by have := congrArg List.length hq; simp at this; omega
          cases fil.2 p hpr with
          | @t k' r' =>
            have hdr : dps (D.str k' :: r') ≤ 60 := by have h0 : dps (D.str k' :: r') + 1 ≤ 40 := by simpa only [dp, Nat.add_comm] using hdp
                                                       omega
            (refine laterP_in ?_; repeat ((first | with_reducible refine laterP_i ?_ | with_reducible refine later_i ?_); try simp -implicitDefEqProofs -dsimp only [↓D3.seq3_stop, ↓D3.ifS3.eq_1, ↓D3.b3.eq_1, ↓D3.op3.eq_1, ↓D3.un3.eq_1, ↓D3.v3.eq_1, ↓D3.c3.eq_1, fIx_tup, fIx_lst, at3_0, at3_1, at3_2, at3_3, at3_4, at3_5, at3_6, start3, fI0_i, fI_i, fLt, fLe, fGt, fGe, fEqI, fNeI, fMin, fMax, ↓D3.asg3.eq_1, ↓D3.name3.eq_1, ↓D3.sub3.eq_1, ↓D3.ret3.eq_1, ↓D3.retN3.eq_1, ↓D3.nx3.eq_1, ↓D3.drop3.eq_1, ↓D3.par3.eq_1, ↓D3.aug3.eq_1, ↓D3.and3.eq_1, ↓D3.or3.eq_1, ↓D3.not3.eq_1, ↓D3.andV3.eq_1, ↓D3.orV3.eq_1, ↓D3.notV3.eq_1, ↓D3.if3.eq_1, ↓D3.nil3.eq_1, ↓D3.cons3.eq_1, ↓D3.tup3.eq_1, ↓D3.lst3.eq_1, ↓D3.lstM3.eq_1, ↓D3.gtup3.eq_1, ↓D3.gcons3.eq_1, ↓D3.gnil3.eq_1, ↓D3.gunl3.eq_1, ↓D3.bits3.eq_1, ↓D3.neg3.eq_1, ↓D3.chain3.eq_1, fIsi_int_int, fIsi_int_bool, fIsi_int_tuple, fIsi_int_str, fIsi_int_list, fIsi_bl_int, fIsi_bl_bool, fIsi_bl_tuple, fIsi_bl_str, fIsi_bl_list, fIsi_non_int, fIsi_non_bool, fIsi_non_tuple, fIsi_non_str, fIsi_non_list, fIsi_str_int, fIsi_str_bool, fIsi_str_tuple, fIsi_str_str, fIsi_str_list, fIsi_tup_int, fIsi_tup_bool, fIsi_tup_tuple, fIsi_tup_str, fIsi_tup_list, fIsi_lst_int, fIsi_lst_bool, fIsi_lst_tuple, fIsi_lst_str, fIsi_lst_list, fLen_lst, fLen_tup, fAbs, ↓D3.call3_k, ↓D3.kont_app, ↓D3.isN3.eq_1, ↓D3.notN3.eq_1, dIsN_non, dIsN_int, dIsN_bl, dIsN_str, dIsN_tup, dIsN_lst, ↓D3.slc3.eq_1, ↓D3.part3.eq_1, ↓D3.noPart3.eq_1, ↓D3.ilst3.eq_1, ↓D3.itup3.eq_1, ↓D3.irng1.eq_1, ↓D3.irng2.eq_1, ↓D3.for3.eq_1, fCat, fEq_int, fNe_int, fEq_bl, fNe_bl, fEq_pair, fNe_pair, List.map, List.replicate, List.length_cons, List.length_nil, List.set_cons_zero, List.set_cons_succ, List.getElem?_cons_zero, List.getElem?_cons_succ, List.cons_append, List.nil_append, at_0, at_1, at_2, at_3, at_4, at_5, at_6, ix_0, ix_1, ix_2, put_same, put_put, decide_eq_true_eq, Bool.not_eq_true', decide_eq_false_iff_not, ite_not, ite_true, ite_false, if_true, if_false, Bool.false_eq_true, ↓reduceIte, reduceIte, Nat.reduceAdd, Nat.reduceSub, Int.reduceToNat, Nat.reduceLeDiff, not_false_eq_true, true_and, and_true, ne_eq, Int.reduceEq, Nat.zero_add, Bool.not_true, Bool.not_false, reduceCtorEq, nc0, nc1, nc2, nc3, nc4, nc5, fIx_ref put_same, fLen_ref put_same, ↓D3.lc3.eq_1, fInt, fTuple, fList, fNeS_s, fEqS_s, ↓D3.gstar3.eq_1, fInK_s, fNinK_s, fLenS_s, ↓D3.slcT3.eq_1, fCatT_t, ↓D3.app3.eq_1, ↓D3.frz3.eq_1, ↓D3.dc23.eq_1, ↓D3.lcT3.eq_1, ↓D3.litRep3.eq_1, ↓D3.litRepM3.eq_1, ↓D3.rev3.eq_1, ↓D3.dget3.eq_1, ↓D3.disp3.eq_1, ↓D3.ienum3.eq_1, pop3, sset3]))
            rw [fNe_tnil (n := 140) hpl hdr]
            (refine laterP_in ?_; repeat ((first | with_reducible refine laterP_i ?_ | with_reducible refine later_i ?_); try simp -implicitDefEqProofs -dsimp only [↓D3.seq3_stop, ↓D3.ifS3.eq_1, ↓D3.b3.eq_1, ↓D3.op3.eq_1, ↓D3.un3.eq_1, ↓D3.v3.eq_1, ↓D3.c3.eq_1, fIx_tup, fIx_lst, at3_0, at3_1, at3_2, at3_3, at3_4, at3_5, at3_6, start3, fI0_i, fI_i, fLt, fLe, fGt, fGe, fEqI, fNeI, fMin, fMax, ↓D3.asg3.eq_1, ↓D3.name3.eq_1, ↓D3.sub3.eq_1, ↓D3.ret3.eq_1, ↓D3.retN3.eq_1, ↓D3.nx3.eq_1, ↓D3.drop3.eq_1, ↓D3.par3.eq_1, ↓D3.aug3.eq_1, ↓D3.and3.eq_1, ↓D3.or3.eq_1, ↓D3.not3.eq_1, ↓D3.andV3.eq_1, ↓D3.orV3.eq_1, ↓D3.notV3.eq_1, ↓D3.if3.eq_1, ↓D3.nil3.eq_1, ↓D3.cons3.eq_1, ↓D3.tup3.eq_1, ↓D3.lst3.eq_1, ↓D3.lstM3.eq_1, ↓D3.gtup3.eq_1, ↓D3.gcons3.eq_1, ↓D3.gnil3.eq_1, ↓D3.gunl3.eq_1, ↓D3.bits3.eq_1, ↓D3.neg3.eq_1, ↓D3.chain3.eq_1, fIsi_int_int, fIsi_int_bool, fIsi_int_tuple, fIsi_int_str, fIsi_int_list, fIsi_bl_int, fIsi_bl_bool, fIsi_bl_tuple, fIsi_bl_str, fIsi_bl_list, fIsi_non_int, fIsi_non_bool, fIsi_non_tuple, fIsi_non_str, fIsi_non_list, fIsi_str_int, fIsi_str_bool, fIsi_str_tuple, fIsi_str_str, fIsi_str_list, fIsi_tup_int, fIsi_tup_bool, fIsi_tup_tuple, fIsi_tup_str, fIsi_tup_list, fIsi_lst_int, fIsi_lst_bool, fIsi_lst_tuple, fIsi_lst_str, fIsi_lst_list, fLen_lst, fLen_tup, fAbs, ↓D3.call3_k, ↓D3.kont_app, ↓D3.isN3.eq_1, ↓D3.notN3.eq_1, dIsN_non, dIsN_int, dIsN_bl, dIsN_str, dIsN_tup, dIsN_lst, ↓D3.slc3.eq_1, ↓D3.part3.eq_1, ↓D3.noPart3.eq_1, ↓D3.ilst3.eq_1, ↓D3.itup3.eq_1, ↓D3.irng1.eq_1, ↓D3.irng2.eq_1, ↓D3.for3.eq_1, fCat, fEq_int, fNe_int, fEq_bl, fNe_bl, fEq_pair, fNe_pair, List.map, List.replicate, List.length_cons, List.length_nil, List.set_cons_zero, List.set_cons_succ, List.getElem?_cons_zero, List.getElem?_cons_succ, List.cons_append, List.nil_append, at_0, at_1, at_2, at_3, at_4, at_5, at_6, ix_0, ix_1, ix_2, put_same, put_put, decide_eq_true_eq, Bool.not_eq_true', decide_eq_false_iff_not, ite_not, ite_true, ite_false, if_true, if_false, Bool.false_eq_true, ↓reduceIte, reduceIte, Nat.reduceAdd, Nat.reduceSub, Int.reduceToNat, Nat.reduceLeDiff, not_false_eq_true, true_and, and_true, ne_eq, Int.reduceEq, Nat.zero_add, Bool.not_true, Bool.not_false, reduceCtorEq, nc0, nc1, nc2, nc3, nc4, nc5, fIx_ref put_same, fLen_ref put_same, ↓D3.lc3.eq_1, fInt, fTuple, fList, fNeS_s, fEqS_s, ↓D3.gstar3.eq_1, fInK_s, fNinK_s, fLenS_s, ↓D3.slcT3.eq_1, fCatT_t, ↓D3.app3.eq_1, ↓D3.frz3.eq_1, ↓D3.dc23.eq_1, ↓D3.lcT3.eq_1, ↓D3.litRep3.eq_1, ↓D3.litRepM3.eq_1, ↓D3.rev3.eq_1, ↓D3.dget3.eq_1, ↓D3.disp3.eq_1, ↓D3.ienum3.eq_1, pop3, sset3, List.isEmpty_cons]))
            refine ⟨⟨_, rfl⟩, _, rfl, by simp; omega, ?_⟩
            rw [List.filter_cons_of_pos rfl] at hq
            exact hnx _ _ ⟨qs ++ [.tup (.str k' :: r')], _, fun z hz => hmem z (List.mem_cons_of_mem _ hz), by rw [List.append_assoc]; exact hq, rfl, by simp [jobD]⟩
          | @f a' b' =>
            (refine laterP_in ?_; repeat ((first | with_reducible refine laterP_i ?_ | with_reducible refine later_i ?_); try simp -implicitDefEqProofs -dsimp only [↓D3.seq3_stop, ↓D3.ifS3.eq_1, ↓D3.b3.eq_1, ↓D3.op3.eq_1, ↓D3.un3.eq_1, ↓D3.v3.eq_1, ↓D3.c3.eq_1, fIx_tup, fIx_lst, at3_0, at3_1, at3_2, at3_3, at3_4, at3_5, at3_6, start3, fI0_i, fI_i, fLt, fLe, fGt, fGe, fEqI, fNeI, fMin, fMax, ↓D3.asg3.eq_1, ↓D3.name3.eq_1, ↓D3.sub3.eq_1, ↓D3.ret3.eq_1, ↓D3.retN3.eq_1, ↓D3.nx3.eq_1, ↓D3.drop3.eq_1, ↓D3.par3.eq_1, ↓D3.aug3.eq_1, ↓D3.and3.eq_1, ↓D3.or3.eq_1, ↓D3.not3.eq_1, ↓D3.andV3.eq_1, ↓D3.orV3.eq_1, ↓D3.notV3.eq_1, ↓D3.if3.eq_1, ↓D3.nil3.eq_1, ↓D3.cons3.eq_1, ↓D3.tup3.eq_1, ↓D3.lst3.eq_1, ↓D3.lstM3.eq_1, ↓D3.gtup3.eq_1, ↓D3.gcons3.eq_1, ↓D3.gnil3.eq_1, ↓D3.gunl3.eq_1, ↓D3.bits3.eq_1, ↓D3.neg3.eq_1, ↓D3.chain3.eq_1, fIsi_int_int, fIsi_int_bool, fIsi_int_tuple, fIsi_int_str, fIsi_int_list, fIsi_bl_int, fIsi_bl_bool, fIsi_bl_tuple, fIsi_bl_str, fIsi_bl_list, fIsi_non_int, fIsi_non_bool, fIsi_non_tuple, fIsi_non_str, fIsi_non_list, fIsi_str_int, fIsi_str_bool, fIsi_str_tuple, fIsi_str_str, fIsi_str_list, fIsi_tup_int, fIsi_tup_bool, fIsi_tup_tuple, fIsi_tup_str, fIsi_tup_list, fIsi_lst_int, fIsi_lst_bool, fIsi_lst_tuple, fIsi_lst_str, fIsi_lst_list, fLen_lst, fLen_tup, fAbs, ↓D3.call3_k, ↓D3.kont_app, ↓D3.isN3.eq_1, ↓D3.notN3.eq_1, dIsN_non, dIsN_int, dIsN_bl, dIsN_str, dIsN_tup, dIsN_lst, ↓D3.slc3.eq_1, ↓D3.part3.eq_1, ↓D3.noPart3.eq_1, ↓D3.ilst3.eq_1, ↓D3.itup3.eq_1, ↓D3.irng1.eq_1, ↓D3.irng2.eq_1, ↓D3.for3.eq_1, fCat, fEq_int, fNe_int, fEq_bl, fNe_bl, fEq_pair, fNe_pair, List.map, List.replicate, List.length_cons, List.length_nil, List.set_cons_zero, List.set_cons_succ, List.getElem?_cons_zero, List.getElem?_cons_succ, List.cons_append, List.nil_append, at_0, at_1, at_2, at_3, at_4, at_5, at_6, ix_0, ix_1, ix_2, put_same, put_put, decide_eq_true_eq, Bool.not_eq_true', decide_eq_false_iff_not, ite_not, ite_true, ite_false, if_true, if_false, Bool.false_eq_true, ↓reduceIte, reduceIte, Nat.reduceAdd, Nat.reduceSub, Int.reduceToNat, Nat.reduceLeDiff, not_false_eq_true, true_and, and_true, ne_eq, Int.reduceEq, Nat.zero_add, Bool.not_true, Bool.not_false, reduceCtorEq, nc0, nc1, nc2, nc3, nc4, nc5, fIx_ref put_same, fLen_ref put_same, ↓D3.lc3.eq_1, fInt, fTuple, fList, fNeS_s, fEqS_s, ↓D3.gstar3.eq_1, fInK_s, fNinK_s, fLenS_s, ↓D3.slcT3.eq_1, fCatT_t, ↓D3.app3.eq_1, ↓D3.frz3.eq_1, ↓D3.dc23.eq_1, ↓D3.lcT3.eq_1, ↓D3.litRep3.eq_1, ↓D3.litRepM3.eq_1, ↓D3.rev3.eq_1, ↓D3.dget3.eq_1, ↓D3.disp3.eq_1, ↓D3.ienum3.eq_1, pop3, sset3]))
            rw [fNe_tnil (n := 140) hpl (by simp [dps, dp])]
            (refine laterP_in ?_; repeat ((first | with_reducible refine laterP_i ?_ | with_reducible refine later_i ?_); try simp -implicitDefEqProofs -dsimp only [↓D3.seq3_stop, ↓D3.ifS3.eq_1, ↓D3.b3.eq_1, ↓D3.op3.eq_1, ↓D3.un3.eq_1, ↓D3.v3.eq_1, ↓D3.c3.eq_1, fIx_tup, fIx_lst, at3_0, at3_1, at3_2, at3_3, at3_4, at3_5, at3_6, start3, fI0_i, fI_i, fLt, fLe, fGt, fGe, fEqI, fNeI, fMin, fMax, ↓D3.asg3.eq_1, ↓D3.name3.eq_1, ↓D3.sub3.eq_1, ↓D3.ret3.eq_1, ↓D3.retN3.eq_1, ↓D3.nx3.eq_1, ↓D3.drop3.eq_1, ↓D3.par3.eq_1, ↓D3.aug3.eq_1, ↓D3.and3.eq_1, ↓D3.or3.eq_1, ↓D3.not3.eq_1, ↓D3.andV3.eq_1, ↓D3.orV3.eq_1, ↓D3.notV3.eq_1, ↓D3.if3.eq_1, ↓D3.nil3.eq_1, ↓D3.cons3.eq_1, ↓D3.tup3.eq_1, ↓D3.lst3.eq_1, ↓D3.lstM3.eq_1, ↓D3.gtup3.eq_1, ↓D3.gcons3.eq_1, ↓D3.gnil3.eq_1, ↓D3.gunl3.eq_1, ↓D3.bits3.eq_1, ↓D3.neg3.eq_1, ↓D3.chain3.eq_1, fIsi_int_int, fIsi_int_bool, fIsi_int_tuple, fIsi_int_str, fIsi_int_list, fIsi_bl_int, fIsi_bl_bool, fIsi_bl_tuple, fIsi_bl_str, fIsi_bl_list, fIsi_non_int, fIsi_non_bool, fIsi_non_tuple, fIsi_non_str, fIsi_non_list, fIsi_str_int, fIsi_str_bool, fIsi_str_tuple, fIsi_str_str, fIsi_str_list, fIsi_tup_int, fIsi_tup_bool, fIsi_tup_tuple, fIsi_tup_str, fIsi_tup_list, fIsi_lst_int, fIsi_lst_bool, fIsi_lst_tuple, fIsi_lst_str, fIsi_lst_list, fLen_lst, fLen_tup, fAbs, ↓D3.call3_k, ↓D3.kont_app, ↓D3.isN3.eq_1, ↓D3.notN3.eq_1, dIsN_non, dIsN_int, dIsN_bl, dIsN_str, dIsN_tup, dIsN_lst, ↓D3.slc3.eq_1, ↓D3.part3.eq_1, ↓D3.noPart3.eq_1, ↓D3.ilst3.eq_1, ↓D3.itup3.eq_1, ↓D3.irng1.eq_1, ↓D3.irng2.eq_1, ↓D3.for3.eq_1, fCat, fEq_int, fNe_int, fEq_bl, fNe_bl, fEq_pair, fNe_pair, List.map, List.replicate, List.length_cons, List.length_nil, List.set_cons_zero, List.set_cons_succ, List.getElem?_cons_zero, List.getElem?_cons_succ, List.cons_append, List.nil_append, at_0, at_1, at_2, at_3, at_4, at_5, at_6, ix_0, ix_1, ix_2, put_same, put_put, decide_eq_true_eq, Bool.not_eq_true', decide_eq_false_iff_not, ite_not, ite_true, ite_false, if_true, if_false, Bool.false_eq_true, ↓reduceIte, reduceIte, Nat.reduceAdd, Nat.reduceSub, Int.reduceToNat, Nat.reduceLeDiff, not_false_eq_true, true_and, and_true, ne_eq, Int.reduceEq, Nat.zero_add, Bool.not_true, Bool.not_false, reduceCtorEq, nc0, nc1, nc2, nc3, nc4, nc5, fIx_ref put_same, fLen_ref put_same, ↓D3.lc3.eq_1, fInt, fTuple, fList, fNeS_s, fEqS_s, ↓D3.gstar3.eq_1, fInK_s, fNinK_s, fLenS_s, ↓D3.slcT3.eq_1, fCatT_t, ↓D3.app3.eq_1, ↓D3.frz3.eq_1, ↓D3.dc23.eq_1, ↓D3.lcT3.eq_1, ↓D3.litRep3.eq_1, ↓D3.litRepM3.eq_1, ↓D3.rev3.eq_1, ↓D3.dget3.eq_1, ↓D3.disp3.eq_1, ↓D3.ienum3.eq_1, pop3, sset3, List.isEmpty_cons]))
            rw [List.filter_cons_of_neg (by simp [isT])] at hq
            exact hnx _ _ ⟨qs, _, fun z hz => hmem z (List.mem_cons_of_mem _ hz), hq, rfl, rfl⟩
          | @s x' =>
            (refine laterP_in ?_; repeat ((first | with_reducible refine laterP_i ?_ | with_reducible refine later_i ?_); try simp -implicitDefEqProofs -dsimp only [↓D3.seq3_stop, ↓D3.ifS3.eq_1, ↓D3.b3.eq_1, ↓D3.op3.eq_1, ↓D3.un3.eq_1, ↓D3.v3.eq_1, ↓D3.c3.eq_1, fIx_tup, fIx_lst, at3_0, at3_1, at3_2, at3_3, at3_4, at3_5, at3_6, start3, fI0_i, fI_i, fLt, fLe, fGt, fGe, fEqI, fNeI, fMin, fMax, ↓D3.asg3.eq_1, ↓D3.name3.eq_1, ↓D3.sub3.eq_1, ↓D3.ret3.eq_1, ↓D3.retN3.eq_1, ↓D3.nx3.eq_1, ↓D3.drop3.eq_1, ↓D3.par3.eq_1, ↓D3.aug3.eq_1, ↓D3.and3.eq_1, ↓D3.or3.eq_1, ↓D3.not3.eq_1, ↓D3.andV3.eq_1, ↓D3.orV3.eq_1, ↓D3.notV3.eq_1, ↓D3.if3.eq_1, ↓D3.nil3.eq_1, ↓D3.cons3.eq_1, ↓D3.tup3.eq_1, ↓D3.lst3.eq_1, ↓D3.lstM3.eq_1, ↓D3.gtup3.eq_1, ↓D3.gcons3.eq_1, ↓D3.gnil3.eq_1, ↓D3.gunl3.eq_1, ↓D3.bits3.eq_1, ↓D3.neg3.eq_1, ↓D3.chain3.eq_1, fIsi_int_int, fIsi_int_bool, fIsi_int_tuple, fIsi_int_str, fIsi_int_list, fIsi_bl_int, fIsi_bl_bool, fIsi_bl_tuple, fIsi_bl_str, fIsi_bl_list, fIsi_non_int, fIsi_non_bool, fIsi_non_tuple, fIsi_non_str, fIsi_non_list, fIsi_str_int, fIsi_str_bool, fIsi_str_tuple, fIsi_str_str, fIsi_str_list, fIsi_tup_int, fIsi_tup_bool, fIsi_tup_tuple, fIsi_tup_str, fIsi_tup_list, fIsi_lst_int, fIsi_lst_bool, fIsi_lst_tuple, fIsi_lst_str, fIsi_lst_list, fLen_lst, fLen_tup, fAbs, ↓D3.call3_k, ↓D3.kont_app, ↓D3.isN3.eq_1, ↓D3.notN3.eq_1, dIsN_non, dIsN_int, dIsN_bl, dIsN_str, dIsN_tup, dIsN_lst, ↓D3.slc3.eq_1, ↓D3.part3.eq_1, ↓D3.noPart3.eq_1, ↓D3.ilst3.eq_1, ↓D3.itup3.eq_1, ↓D3.irng1.eq_1, ↓D3.irng2.eq_1, ↓D3.for3.eq_1, fCat, fEq_int, fNe_int, fEq_bl, fNe_bl, fEq_pair, fNe_pair, List.map, List.replicate, List.length_cons, List.length_nil, List.set_cons_zero, List.set_cons_succ, List.getElem?_cons_zero, List.getElem?_cons_succ, List.cons_append, List.nil_append, at_0, at_1, at_2, at_3, at_4, at_5, at_6, ix_0, ix_1, ix_2, put_same, put_put, decide_eq_true_eq, Bool.not_eq_true', decide_eq_false_iff_not, ite_not, ite_true, ite_false, if_true, if_false, Bool.false_eq_true, ↓reduceIte, reduceIte, Nat.reduceAdd, Nat.reduceSub, Int.reduceToNat, Nat.reduceLeDiff, not_false_eq_true, true_and, and_true, ne_eq, Int.reduceEq, Nat.zero_add, Bool.not_true, Bool.not_false, reduceCtorEq, nc0, nc1, nc2, nc3, nc4, nc5, fIx_ref put_same, fLen_ref put_same, ↓D3.lc3.eq_1, fInt, fTuple, fList, fNeS_s, fEqS_s, ↓D3.gstar3.eq_1, fInK_s, fNinK_s, fLenS_s, ↓D3.slcT3.eq_1, fCatT_t, ↓D3.app3.eq_1, ↓D3.frz3.eq_1, ↓D3.dc23.eq_1, ↓D3.lcT3.eq_1, ↓D3.litRep3.eq_1, ↓D3.litRepM3.eq_1, ↓D3.rev3.eq_1, ↓D3.dget3.eq_1, ↓D3.disp3.eq_1, ↓D3.ienum3.eq_1, pop3, sset3]))
            rw [List.filter_cons_of_neg (by simp [isT])] at hq
            exact hnx _ _ ⟨qs, _, fun z hz => hmem z (List.mem_cons_of_mem _ hz), hq, rfl, rfl⟩
          | @i k' =>
            (refine laterP_in ?_; repeat ((first | with_reducible refine laterP_i ?_ | with_reducible refine later_i ?_); try simp -implicitDefEqProofs -dsimp only [↓D3.seq3_stop, ↓D3.ifS3.eq_1, ↓D3.b3.eq_1, ↓D3.op3.eq_1, ↓D3.un3.eq_1, ↓D3.v3.eq_1, ↓D3.c3.eq_1, fIx_tup, fIx_lst, at3_0, at3_1, at3_2, at3_3, at3_4, at3_5, at3_6, start3, fI0_i, fI_i, fLt, fLe, fGt, fGe, fEqI, fNeI, fMin, fMax, ↓D3.asg3.eq_1, ↓D3.name3.eq_1, ↓D3.sub3.eq_1, ↓D3.ret3.eq_1, ↓D3.retN3.eq_1, ↓D3.nx3.eq_1, ↓D3.drop3.eq_1, ↓D3.par3.eq_1, ↓D3.aug3.eq_1, ↓D3.and3.eq_1, ↓D3.or3.eq_1, ↓D3.not3.eq_1, ↓D3.andV3.eq_1, ↓D3.orV3.eq_1, ↓D3.notV3.eq_1, ↓D3.if3.eq_1, ↓D3.nil3.eq_1, ↓D3.cons3.eq_1, ↓D3.tup3.eq_1, ↓D3.lst3.eq_1, ↓D3.lstM3.eq_1, ↓D3.gtup3.eq_1, ↓D3.gcons3.eq_1, ↓D3.gnil3.eq_1, ↓D3.gunl3.eq_1, ↓D3.bits3.eq_1, ↓D3.neg3.eq_1, ↓D3.chain3.eq_1, fIsi_int_int, fIsi_int_bool, fIsi_int_tuple, fIsi_int_str, fIsi_int_list, fIsi_bl_int, fIsi_bl_bool, fIsi_bl_tuple, fIsi_bl_str, fIsi_bl_list, fIsi_non_int, fIsi_non_bool, fIsi_non_tuple, fIsi_non_str, fIsi_non_list, fIsi_str_int, fIsi_str_bool, fIsi_str_tuple, fIsi_str_str, fIsi_str_list, fIsi_tup_int, fIsi_tup_bool, fIsi_tup_tuple, fIsi_tup_str, fIsi_tup_list, fIsi_lst_int, fIsi_lst_bool, fIsi_lst_tuple, fIsi_lst_str, fIsi_lst_list, fLen_lst, fLen_tup, fAbs, ↓D3.call3_k, ↓D3.kont_app, ↓D3.isN3.eq_1, ↓D3.notN3.eq_1, dIsN_non, dIsN_int, dIsN_bl, dIsN_str, dIsN_tup, dIsN_lst, ↓D3.slc3.eq_1, ↓D3.part3.eq_1, ↓D3.noPart3.eq_1, ↓D3.ilst3.eq_1, ↓D3.itup3.eq_1, ↓D3.irng1.eq_1, ↓D3.irng2.eq_1, ↓D3.for3.eq_1, fCat, fEq_int, fNe_int, fEq_bl, fNe_bl, fEq_pair, fNe_pair, List.map, List.replicate, List.length_cons, List.length_nil, List.set_cons_zero, List.set_cons_succ, List.getElem?_cons_zero, List.getElem?_cons_succ, List.cons_append, List.nil_append, at_0, at_1, at_2, at_3, at_4, at_5, at_6, ix_0, ix_1, ix_2, put_same, put_put, decide_eq_true_eq, Bool.not_eq_true', decide_eq_false_iff_not, ite_not, ite_true, ite_false, if_true, if_false, Bool.false_eq_true, ↓reduceIte, reduceIte, Nat.reduceAdd, Nat.reduceSub, Int.reduceToNat, Nat.reduceLeDiff, not_false_eq_true, true_and, and_true, ne_eq, Int.reduceEq, Nat.zero_add, Bool.not_true, Bool.not_false, reduceCtorEq, nc0, nc1, nc2, nc3, nc4, nc5, fIx_ref put_same, fLen_ref put_same, ↓D3.lc3.eq_1, fInt, fTuple, fList, fNeS_s, fEqS_s, ↓D3.gstar3.eq_1, fInK_s, fNinK_s, fLenS_s, ↓D3.slcT3.eq_1, fCatT_t, ↓D3.app3.eq_1, ↓D3.frz3.eq_1, ↓D3.dc23.eq_1, ↓D3.lcT3.eq_1, ↓D3.litRep3.eq_1, ↓D3.litRepM3.eq_1, ↓D3.rev3.eq_1, ↓D3.dget3.eq_1, ↓D3.disp3.eq_1, ↓D3.ienum3.eq_1, pop3, sset3]))
            rw [List.filter_cons_of_neg (by simp [isT])] at hq
            exact hnx _ _ ⟨qs, _, fun z hz => hmem z (List.mem_cons_of_mem _ hz), hq, rfl, rfl⟩
        · rintro ρ m' ⟨qs, y6, _, hq, rfl, rfl⟩
          have hq2 : qs = [t] := by simpa using hq
          subst hq2
          (refine laterP_in ?_; repeat ((first | with_reducible refine laterP_i ?_ | with_reducible refine later_i ?_); try simp -implicitDefEqProofs -dsimp only [↓D3.seq3_stop, ↓D3.ifS3.eq_1, ↓D3.b3.eq_1, ↓D3.op3.eq_1, ↓D3.un3.eq_1, ↓D3.v3.eq_1, ↓D3.c3.eq_1, fIx_tup, fIx_lst, at3_0, at3_1, at3_2, at3_3, at3_4, at3_5, at3_6, start3, fI0_i, fI_i, fLt, fLe, fGt, fGe, fEqI, fNeI, fMin, fMax, ↓D3.asg3.eq_1, ↓D3.name3.eq_1, ↓D3.sub3.eq_1, ↓D3.ret3.eq_1, ↓D3.retN3.eq_1, ↓D3.nx3.eq_1, ↓D3.drop3.eq_1, ↓D3.par3.eq_1, ↓D3.aug3.eq_1, ↓D3.and3.eq_1, ↓D3.or3.eq_1, ↓D3.not3.eq_1, ↓D3.andV3.eq_1, ↓D3.orV3.eq_1, ↓D3.notV3.eq_1, ↓D3.if3.eq_1, ↓D3.nil3.eq_1, ↓D3.cons3.eq_1, ↓D3.tup3.eq_1, ↓D3.lst3.eq_1, ↓D3.lstM3.eq_1, ↓D3.gtup3.eq_1, ↓D3.gcons3.eq_1, ↓D3.gnil3.eq_1, ↓D3.gunl3.eq_1, ↓D3.bits3.eq_1, ↓D3.neg3.eq_1, ↓D3.chain3.eq_1, fIsi_int_int, fIsi_int_bool, fIsi_int_tuple, fIsi_int_str, fIsi_int_list, fIsi_bl_int, fIsi_bl_bool, fIsi_bl_tuple, fIsi_bl_str, fIsi_bl_list, fIsi_non_int, fIsi_non_bool, fIsi_non_tuple, fIsi_non_str, fIsi_non_list, fIsi_str_int, fIsi_str_bool, fIsi_str_tuple, fIsi_str_str, fIsi_str_list, fIsi_tup_int, fIsi_tup_bool, fIsi_tup_tuple, fIsi_tup_str, fIsi_tup_list, fIsi_lst_int, fIsi_lst_bool, fIsi_lst_tuple, fIsi_lst_str, fIsi_lst_list, fLen_lst, fLen_tup, fAbs, ↓D3.call3_k, ↓D3.kont_app, ↓D3.isN3.eq_1, ↓D3.notN3.eq_1, dIsN_non, dIsN_int, dIsN_bl, dIsN_str, dIsN_tup, dIsN_lst, ↓D3.slc3.eq_1, ↓D3.part3.eq_1, ↓D3.noPart3.eq_1, ↓D3.ilst3.eq_1, ↓D3.itup3.eq_1, ↓D3.irng1.eq_1, ↓D3.irng2.eq_1, ↓D3.for3.eq_1, fCat, fEq_int, fNe_int, fEq_bl, fNe_bl, fEq_pair, fNe_pair, List.map, List.replicate, List.length_cons, List.length_nil, List.set_cons_zero, List.set_cons_succ, List.getElem?_cons_zero, List.getElem?_cons_succ, List.cons_append, List.nil_append, at_0, at_1, at_2, at_3, at_4, at_5, at_6, ix_0, ix_1, ix_2, put_same, put_put, decide_eq_true_eq, Bool.not_eq_true', decide_eq_false_iff_not, ite_not, ite_true, ite_false, if_true, if_false, Bool.false_eq_true, ↓reduceIte, reduceIte, Nat.reduceAdd, Nat.reduceSub, Int.reduceToNat, Nat.reduceLeDiff, not_false_eq_true, true_and, and_true, ne_eq, Int.reduceEq, Nat.zero_add, Bool.not_true, Bool.not_false, reduceCtorEq, nc0, nc1, nc2, nc3, nc4, nc5, fIx_ref put_same, fLen_ref put_same, ↓D3.lc3.eq_1, fInt, fTuple, fList, fNeS_s, fEqS_s, ↓D3.gstar3.eq_1, fInK_s, fNinK_s, fLenS_s, ↓D3.slcT3.eq_1, fCatT_t, ↓D3.app3.eq_1, ↓D3.frz3.eq_1, ↓D3.dc23.eq_1, ↓D3.lcT3.eq_1, ↓D3.litRep3.eq_1, ↓D3.litRepM3.eq_1, ↓D3.rev3.eq_1, ↓D3.dget3.eq_1, ↓D3.disp3.eq_1, ↓D3.ienum3.eq_1, pop3, sset3]))
          refine ⟨cntD d - (js.length + 1), by omega, js ++ [((.tup [.str "limit", .str nm, a, b, t]), jh)], ks ++ [t].map (fun p => (p, (jh ++ [nm]))), _, _, _, _, by simp, by rw [show (js.length : Int) + 1 = ((js ++ [((D.tup [.str "limit", .str nm, a, b, t]), jh)]).length : Nat) by simp], by simp, ?_, ?_, ?_⟩
          · rw [cs_app, List.length_append, List.length_singleton]
            have e1 : cs ([t].map fun p => (p, (jh ++ [nm]))) = ([t].map cntD).sum := by unfold cs; rw [List.map_map]; rfl
            have e2 := cntD_eq hi
            omega
          · intro j' hj'
            rw [List.append_assoc, List.mem_append] at hj'
            rcases hj' with h1 | h1
            · exact hok j' (List.mem_append_left _ h1)
            · rw [List.singleton_append, List.mem_cons, List.mem_append] at h1
              rcases h1 with rfl | h1 | h1
              · exact hj
              · exact hok j' (List.mem_append_right _ (List.mem_cons_of_mem _ h1))
              · exact jok_kids hj hi j' (by simp only [ei]; exact h1)
          · intro xx
            have h0 := job_fre (h := jh) hj.w hi xx
            rw [ei] at h0
            rw [hf xx]
            constructor
            · rintro (⟨j', h1, h2⟩ | ⟨j', h1, h2⟩)
              · exact .inl ⟨j', List.mem_append_left _ h1, h2⟩
              · rcases List.mem_cons.mp h1 with rfl | h1
                · rcases h0.mp h2 with h3 | ⟨p, h4, h5⟩
                  · exact .inl ⟨_, List.mem_append_right _ (by simp), h3⟩
                  · exact .inr ⟨(p, (jh ++ [nm])), List.mem_append_right _ (List.mem_map.mpr ⟨p, h4, rfl⟩), h5⟩
                · exact .inr ⟨j', List.mem_append_left _ h1, h2⟩
            · rintro (⟨j', h1, h2⟩ | ⟨j', h1, h2⟩)
              · rcases List.mem_append.mp h1 with h1 | h1
                · exact .inl ⟨j', h1, h2⟩
                · simp at h1
                  subst h1
                  exact .inr ⟨_, List.mem_cons_self, h0.mpr (.inl h2)⟩
              · rcases List.mem_append.mp h1 with h1 | h1
                · exact .inr ⟨j', List.mem_cons_of_mem _ h1, h2⟩
                · obtain ⟨p, h4, rfl⟩ := List.mem_map.mp h1
                  exact .inr ⟨_, List.mem_cons_self, h0.mpr (.inr ⟨p, h4, h2⟩)⟩
      · simp only at e
        subst e
        have hpst : ∀ p ∈ ps, isT p = true := fun p hp => wn_isT (hps p hp)
        have hi : inn (.tup (.str h :: r)) = some ps := hi
        have ei : innr (.tup (.str h :: r)) jh = jh := by unfold innr; split; (rename_i e; obtain ⟨e1, _⟩ := List.cons.inj (D.tup.inj e); cases e1; rw [if_neg n2]); rfl
        have fil := inn_fil (h := h) (r := r) hi hpst
        have hpr0 : Pls 140 r := hj.p.2
        have hd40 : dps r ≤ 40 := by have := hj.d; simp only [dp, dps] at this; omega
        have h2l : ps.length ≤ 2 := hl
        (refine laterP_in ?_; repeat ((first | with_reducible refine laterP_i ?_ | with_reducible refine later_i ?_); try simp -implicitDefEqProofs -dsimp only [↓D3.seq3_stop, ↓D3.ifS3.eq_1, ↓D3.b3.eq_1, ↓D3.op3.eq_1, ↓D3.un3.eq_1, ↓D3.v3.eq_1, ↓D3.c3.eq_1, fIx_tup, fIx_lst, at3_0, at3_1, at3_2, at3_3, at3_4, at3_5, at3_6, start3, fI0_i, fI_i, fLt, fLe, fGt, fGe, fEqI, fNeI, fMin, fMax, ↓D3.asg3.eq_1, ↓D3.name3.eq_1, ↓D3.sub3.eq_1, ↓D3.ret3.eq_1, ↓D3.retN3.eq_1, ↓D3.nx3.eq_1, ↓D3.drop3.eq_1, ↓D3.par3.eq_1, ↓D3.aug3.eq_1, ↓D3.and3.eq_1, ↓D3.or3.eq_1, ↓D3.not3.eq_1, ↓D3.andV3.eq_1, ↓D3.orV3.eq_1, ↓D3.notV3.eq_1, ↓D3.if3.eq_1, ↓D3.nil3.eq_1, ↓D3.cons3.eq_1, ↓D3.tup3.eq_1, ↓D3.lst3.eq_1, ↓D3.lstM3.eq_1, ↓D3.gtup3.eq_1, ↓D3.gcons3.eq_1, ↓D3.gnil3.eq_1, ↓D3.gunl3.eq_1, ↓D3.bits3.eq_1, ↓D3.neg3.eq_1, ↓D3.chain3.eq_1, fIsi_int_int, fIsi_int_bool, fIsi_int_tuple, fIsi_int_str, fIsi_int_list, fIsi_bl_int, fIsi_bl_bool, fIsi_bl_tuple, fIsi_bl_str, fIsi_bl_list, fIsi_non_int, fIsi_non_bool, fIsi_non_tuple, fIsi_non_str, fIsi_non_list, fIsi_str_int, fIsi_str_bool, fIsi_str_tuple, fIsi_str_str, fIsi_str_list, fIsi_tup_int, fIsi_tup_bool, fIsi_tup_tuple, fIsi_tup_str, fIsi_tup_list, fIsi_lst_int, fIsi_lst_bool, fIsi_lst_tuple, fIsi_lst_str, fIsi_lst_list, fLen_lst, fLen_tup, fAbs, ↓D3.call3_k, ↓D3.kont_app, ↓D3.isN3.eq_1, ↓D3.notN3.eq_1, dIsN_non, dIsN_int, dIsN_bl, dIsN_str, dIsN_tup, dIsN_lst, ↓D3.slc3.eq_1, ↓D3.part3.eq_1, ↓D3.noPart3.eq_1, ↓D3.ilst3.eq_1, ↓D3.itup3.eq_1, ↓D3.irng1.eq_1, ↓D3.irng2.eq_1, ↓D3.for3.eq_1, fCat, fEq_int, fNe_int, fEq_bl, fNe_bl, fEq_pair, fNe_pair, List.map, List.replicate, List.length_cons, List.length_nil, List.set_cons_zero, List.set_cons_succ, List.getElem?_cons_zero, List.getElem?_cons_succ, List.cons_append, List.nil_append, at_0, at_1, at_2, at_3, at_4, at_5, at_6, ix_0, ix_1, ix_2, put_same, put_put, decide_eq_true_eq, Bool.not_eq_true', decide_eq_false_iff_not, ite_not, ite_true, ite_false, if_true, if_false, Bool.false_eq_true, ↓reduceIte, reduceIte, Nat.reduceAdd, Nat.reduceSub, Int.reduceToNat, Nat.reduceLeDiff, not_false_eq_true, true_and, and_true, ne_eq, Int.reduceEq, Nat.zero_add, Bool.not_true, Bool.not_false, reduceCtorEq, nc0, nc1, nc2, nc3, nc4, nc5, fIx_ref put_same, fLen_ref put_same, ↓D3.lc3.eq_1, fInt, fTuple, fList, fNeS_s, fEqS_s, ↓D3.gstar3.eq_1, fInK_s, fNinK_s, fLenS_s, ↓D3.slcT3.eq_1, fCatT_t, ↓D3.app3.eq_1, ↓D3.frz3.eq_1, ↓D3.dc23.eq_1, ↓D3.lcT3.eq_1, ↓D3.litRep3.eq_1, ↓D3.litRepM3.eq_1, ↓D3.rev3.eq_1, ↓D3.dget3.eq_1, ↓D3.disp3.eq_1, ↓D3.ienum3.eq_1, pop3, sset3, jobD]))
        refine ite2 (fun z => absurd z n2) (fun _ => ?_)
        (refine laterP_in ?_; repeat ((first | with_reducible refine laterP_i ?_ | with_reducible refine later_i ?_); try simp -implicitDefEqProofs -dsimp only [↓D3.seq3_stop, ↓D3.ifS3.eq_1, ↓D3.b3.eq_1, ↓D3.op3.eq_1, ↓D3.un3.eq_1, ↓D3.v3.eq_1, ↓D3.c3.eq_1, fIx_tup, fIx_lst, at3_0, at3_1, at3_2, at3_3, at3_4, at3_5, at3_6, start3, fI0_i, fI_i, fLt, fLe, fGt, fGe, fEqI, fNeI, fMin, fMax, ↓D3.asg3.eq_1, ↓D3.name3.eq_1, ↓D3.sub3.eq_1, ↓D3.ret3.eq_1, ↓D3.retN3.eq_1, ↓D3.nx3.eq_1, ↓D3.drop3.eq_1, ↓D3.par3.eq_1, ↓D3.aug3.eq_1, ↓D3.and3.eq_1, ↓D3.or3.eq_1, ↓D3.not3.eq_1, ↓D3.andV3.eq_1, ↓D3.orV3.eq_1, ↓D3.notV3.eq_1, ↓D3.if3.eq_1, ↓D3.nil3.eq_1, ↓D3.cons3.eq_1, ↓D3.tup3.eq_1, ↓D3.lst3.eq_1, ↓D3.lstM3.eq_1, ↓D3.gtup3.eq_1, ↓D3.gcons3.eq_1, ↓D3.gnil3.eq_1, ↓D3.gunl3.eq_1, ↓D3.bits3.eq_1, ↓D3.neg3.eq_1, ↓D3.chain3.eq_1, fIsi_int_int, fIsi_int_bool, fIsi_int_tuple, fIsi_int_str, fIsi_int_list, fIsi_bl_int, fIsi_bl_bool, fIsi_bl_tuple, fIsi_bl_str, fIsi_bl_list, fIsi_non_int, fIsi_non_bool, fIsi_non_tuple, fIsi_non_str, fIsi_non_list, fIsi_str_int, fIsi_str_bool, fIsi_str_tuple, fIsi_str_str, fIsi_str_list, fIsi_tup_int, fIsi_tup_bool, fIsi_tup_tuple, fIsi_tup_str, fIsi_tup_list, fIsi_lst_int, fIsi_lst_bool, fIsi_lst_tuple, fIsi_lst_str, fIsi_lst_list, fLen_lst, fLen_tup, fAbs, ↓D3.call3_k, ↓D3.kont_app, ↓D3.isN3.eq_1, ↓D3.notN3.eq_1, dIsN_non, dIsN_int, dIsN_bl, dIsN_str, dIsN_tup, dIsN_lst, ↓D3.slc3.eq_1, ↓D3.part3.eq_1, ↓D3.noPart3.eq_1, ↓D3.ilst3.eq_1, ↓D3.itup3.eq_1, ↓D3.irng1.eq_1, ↓D3.irng2.eq_1, ↓D3.for3.eq_1, fCat, fEq_int, fNe_int, fEq_bl, fNe_bl, fEq_pair, fNe_pair, List.map, List.replicate, List.length_cons, List.length_nil, List.set_cons_zero, List.set_cons_succ, List.getElem?_cons_zero, List.getElem?_cons_succ, List.cons_append, List.nil_append, at_0, at_1, at_2, at_3, at_4, at_5, at_6, ix_0, ix_1, ix_2, put_same, put_put, decide_eq_true_eq, Bool.not_eq_true', decide_eq_false_iff_not, ite_not, ite_true, ite_false, if_true, if_false, Bool.false_eq_true, ↓reduceIte, reduceIte, Nat.reduceAdd, Nat.reduceSub, Int.reduceToNat, Nat.reduceLeDiff, not_false_eq_true, true_and, and_true, ne_eq, Int.reduceEq, Nat.zero_add, Bool.not_true, Bool.not_false, reduceCtorEq, nc0, nc1, nc2, nc3, nc4, nc5, fIx_ref put_same, fLen_ref put_same, ↓D3.lc3.eq_1, fInt, fTuple, fList, fNeS_s, fEqS_s, ↓D3.gstar3.eq_1, fInK_s, fNinK_s, fLenS_s, ↓D3.slcT3.eq_1, fCatT_t, ↓D3.app3.eq_1, ↓D3.frz3.eq_1, ↓D3.dc23.eq_1, ↓D3.lcT3.eq_1, ↓D3.litRep3.eq_1, ↓D3.litRepM3.eq_1, ↓D3.rev3.eq_1, ↓D3.dget3.eq_1, ↓D3.disp3.eq_1, ↓D3.ienum3.eq_1, pop3, sset3]))
        rw [cutD_1]
        rw [List.drop_one, List.tail_cons]
        refine forIn3_ind (fun ds ρ m' => ∃ (qs : List D) (x6 : Option D), (∀ p ∈ ds, p ∈ r) ∧ qs ++ ds.filter isT = ps ∧ ρ = [some d, some (.ref L), some (.int (js.length : Nat)), some (.tup (.str h :: r)), some (.lst (jh.map D.str)), some (.lst (jh.map D.str)), x6] ∧ m' = put m L (.lst ((js ++ ((.tup (.str h :: r)), jh) :: ks ++ qs.map (fun p => (p, jh))).map jobD))) ?_ ?_ _ _ _ ⟨[], x6, fun _ h => h, by rw [List.nil_append]; exact fil.1, rfl, by simp⟩
        · rintro p ds ρ m' nx hnx ⟨qs, y6, hmem, hq, rfl, rfl⟩
          have hpr := hmem p List.mem_cons_self
          have hpl : Pl 140 p := Pls_mem hpr0 hpr
          have hdp : dp p ≤ 40 := by have := dps_mem hpr; omega
          have hql : qs.length ≤ 2 := by have := congrArg List.length hq; simp at this; omega
          cases fil.2 p hpr with
          | @t k' r' =>
            have hdr : dps (D.str k' :: r') ≤ 60 := by have h0 : dps (D.str k' :: r') + 1 ≤ 40 := by simpa only [dp, Nat.add_comm] using hdp
                                                       omega
            (refine laterP_in ?_; repeat ((first | with_reducible refine laterP_i ?_ | with_reducible refine later_i ?_); try simp -implicitDefEqProofs -dsimp only [↓D3.seq3_stop, ↓D3.ifS3.eq_1, ↓D3.b3.eq_1, ↓D3.op3.eq_1, ↓D3.un3.eq_1, ↓D3.v3.eq_1, ↓D3.c3.eq_1, fIx_tup, fIx_lst, at3_0, at3_1, at3_2, at3_3, at3_4, at3_5, at3_6, start3, fI0_i, fI_i, fLt, fLe, fGt, fGe, fEqI, fNeI, fMin, fMax, ↓D3.asg3.eq_1, ↓D3.name3.eq_1, ↓D3.sub3.eq_1, ↓D3.ret3.eq_1, ↓D3.retN3.eq_1, ↓D3.nx3.eq_1, ↓D3.drop3.eq_1, ↓D3.par3.eq_1, ↓D3.aug3.eq_1, ↓D3.and3.eq_1, ↓D3.or3.eq_1, ↓D3.not3.eq_1, ↓D3.andV3.eq_1, ↓D3.orV3.eq_1, ↓D3.notV3.eq_1, ↓D3.if3.eq_1, ↓D3.nil3.eq_1, ↓D3.cons3.eq_1, ↓D3.tup3.eq_1, ↓D3.lst3.eq_1, ↓D3.lstM3.eq_1, ↓D3.gtup3.eq_1, ↓D3.gcons3.eq_1, ↓D3.gnil3.eq_1, ↓D3.gunl3.eq_1, ↓D3.bits3.eq_1, ↓D3.neg3.eq_1, ↓D3.chain3.eq_1, fIsi_int_int, fIsi_int_bool, fIsi_int_tuple, fIsi_int_str, fIsi_int_list, fIsi_bl_int, fIsi_bl_bool, fIsi_bl_tuple, fIsi_bl_str, fIsi_bl_list, fIsi_non_int, fIsi_non_bool, fIsi_non_tuple, fIsi_non_str, fIsi_non_list, fIsi_str_int, fIsi_str_bool, fIsi_str_tuple, fIsi_str_str, fIsi_str_list, fIsi_tup_int, fIsi_tup_bool, fIsi_tup_tuple, fIsi_tup_str, fIsi_tup_list, fIsi_lst_int, fIsi_lst_bool, fIsi_lst_tuple, fIsi_lst_str, fIsi_lst_list, fLen_lst, fLen_tup, fAbs, ↓D3.call3_k, ↓D3.kont_app, ↓D3.isN3.eq_1, ↓D3.notN3.eq_1, dIsN_non, dIsN_int, dIsN_bl, dIsN_str, dIsN_tup, dIsN_lst, ↓D3.slc3.eq_1, ↓D3.part3.eq_1, ↓D3.noPart3.eq_1, ↓D3.ilst3.eq_1, ↓D3.itup3.eq_1, ↓D3.irng1.eq_1, ↓D3.irng2.eq_1, ↓D3.for3.eq_1, fCat, fEq_int, fNe_int, fEq_bl, fNe_bl, fEq_pair, fNe_pair, List.map, List.replicate, List.length_cons, List.length_nil, List.set_cons_zero, List.set_cons_succ, List.getElem?_cons_zero, List.getElem?_cons_succ, List.cons_append, List.nil_append, at_0, at_1, at_2, at_3, at_4, at_5, at_6, ix_0, ix_1, ix_2, put_same, put_put, decide_eq_true_eq, Bool.not_eq_true', decide_eq_false_iff_not, ite_not, ite_true, ite_false, if_true, if_false, Bool.false_eq_true, ↓reduceIte, reduceIte, Nat.reduceAdd, Nat.reduceSub, Int.reduceToNat, Nat.reduceLeDiff, not_false_eq_true, true_and, and_true, ne_eq, Int.reduceEq, Nat.zero_add, Bool.not_true, Bool.not_false, reduceCtorEq, nc0, nc1, nc2, nc3, nc4, nc5, fIx_ref put_same, fLen_ref put_same, ↓D3.lc3.eq_1, fInt, fTuple, fList, fNeS_s, fEqS_s, ↓D3.gstar3.eq_1, fInK_s, fNinK_s, fLenS_s, ↓D3.slcT3.eq_1, fCatT_t, ↓D3.app3.eq_1, ↓D3.frz3.eq_1, ↓D3.dc23.eq_1, ↓D3.lcT3.eq_1, ↓D3.litRep3.eq_1, ↓D3.litRepM3.eq_1, ↓D3.rev3.eq_1, ↓D3.dget3.eq_1, ↓D3.disp3.eq_1, ↓D3.ienum3.eq_1, pop3, sset3]))
            rw [fNe_tnil (n := 140) hpl hdr]
            (refine laterP_in ?_; repeat ((first | with_reducible refine laterP_i ?_ | with_reducible refine later_i ?_); try simp -implicitDefEqProofs -dsimp only [↓D3.seq3_stop, ↓D3.ifS3.eq_1, ↓D3.b3.eq_1, ↓D3.op3.eq_1, ↓D3.un3.eq_1, ↓D3.v3.eq_1, ↓D3.c3.eq_1, fIx_tup, fIx_lst, at3_0, at3_1, at3_2, at3_3, at3_4, at3_5, at3_6, start3, fI0_i, fI_i, fLt, fLe, fGt, fGe, fEqI, fNeI, fMin, fMax, ↓D3.asg3.eq_1, ↓D3.name3.eq_1, ↓D3.sub3.eq_1, ↓D3.ret3.eq_1, ↓D3.retN3.eq_1, ↓D3.nx3.eq_1, ↓D3.drop3.eq_1, ↓D3.par3.eq_1, ↓D3.aug3.eq_1, ↓D3.and3.eq_1, ↓D3.or3.eq_1, ↓D3.not3.eq_1, ↓D3.andV3.eq_1, ↓D3.orV3.eq_1, ↓D3.notV3.eq_1, ↓D3.if3.eq_1, ↓D3.nil3.eq_1, ↓D3.cons3.eq_1, ↓D3.tup3.eq_1, ↓D3.lst3.eq_1, ↓D3.lstM3.eq_1, ↓D3.gtup3.eq_1, ↓D3.gcons3.eq_1, ↓D3.gnil3.eq_1, ↓D3.gunl3.eq_1, ↓D3.bits3.eq_1, ↓D3.neg3.eq_1, ↓D3.chain3.eq_1, fIsi_int_int, fIsi_int_bool, fIsi_int_tuple, fIsi_int_str, fIsi_int_list, fIsi_bl_int, fIsi_bl_bool, fIsi_bl_tuple, fIsi_bl_str, fIsi_bl_list, fIsi_non_int, fIsi_non_bool, fIsi_non_tuple, fIsi_non_str, fIsi_non_list, fIsi_str_int, fIsi_str_bool, fIsi_str_tuple, fIsi_str_str, fIsi_str_list, fIsi_tup_int, fIsi_tup_bool, fIsi_tup_tuple, fIsi_tup_str, fIsi_tup_list, fIsi_lst_int, fIsi_lst_bool, fIsi_lst_tuple, fIsi_lst_str, fIsi_lst_list, fLen_lst, fLen_tup, fAbs, ↓D3.call3_k, ↓D3.kont_app, ↓D3.isN3.eq_1, ↓D3.notN3.eq_1, dIsN_non, dIsN_int, dIsN_bl, dIsN_str, dIsN_tup, dIsN_lst, ↓D3.slc3.eq_1, ↓D3.part3.eq_1, ↓D3.noPart3.eq_1, ↓D3.ilst3.eq_1, ↓D3.itup3.eq_1, ↓D3.irng1.eq_1, ↓D3.irng2.eq_1, ↓D3.for3.eq_1, fCat, fEq_int, fNe_int, fEq_bl, fNe_bl, fEq_pair, fNe_pair, List.map, List.replicate, List.length_cons, List.length_nil, List.set_cons_zero, List.set_cons_succ, List.getElem?_cons_zero, List.getElem?_cons_succ, List.cons_append, List.nil_append, at_0, at_1, at_2, at_3, at_4, at_5, at_6, ix_0, ix_1, ix_2, put_same, put_put, decide_eq_true_eq, Bool.not_eq_true', decide_eq_false_iff_not, ite_not, ite_true, ite_false, if_true, if_false, Bool.false_eq_true, ↓reduceIte, reduceIte, Nat.reduceAdd, Nat.reduceSub, Int.reduceToNat, Nat.reduceLeDiff, not_false_eq_true, true_and, and_true, ne_eq, Int.reduceEq, Nat.zero_add, Bool.not_true, Bool.not_false, reduceCtorEq, nc0, nc1, nc2, nc3, nc4, nc5, fIx_ref put_same, fLen_ref put_same, ↓D3.lc3.eq_1, fInt, fTuple, fList, fNeS_s, fEqS_s, ↓D3.gstar3.eq_1, fInK_s, fNinK_s, fLenS_s, ↓D3.slcT3.eq_1, fCatT_t, ↓D3.app3.eq_1, ↓D3.frz3.eq_1, ↓D3.dc23.eq_1, ↓D3.lcT3.eq_1, ↓D3.litRep3.eq_1, ↓D3.litRepM3.eq_1, ↓D3.rev3.eq_1, ↓D3.dget3.eq_1, ↓D3.disp3.eq_1, ↓D3.ienum3.eq_1, pop3, sset3, List.isEmpty_cons]))
            refine ⟨⟨_, rfl⟩, _, rfl, by simp; omega, ?_⟩
            rw [List.filter_cons_of_pos rfl] at hq
            exact hnx _ _ ⟨qs ++ [.tup (.str k' :: r')], _, fun z hz => hmem z (List.mem_cons_of_mem _ hz), by rw [List.append_assoc]; exact hq, rfl, by simp [jobD]⟩
          | @f a' b' =>
            (refine laterP_in ?_; repeat ((first | with_reducible refine laterP_i ?_ | with_reducible refine later_i ?_); try simp -implicitDefEqProofs -dsimp only [↓D3.seq3_stop, ↓D3.ifS3.eq_1, ↓D3.b3.eq_1, ↓D3.op3.eq_1, ↓D3.un3.eq_1, ↓D3.v3.eq_1, ↓D3.c3.eq_1, fIx_tup, fIx_lst, at3_0, at3_1, at3_2, at3_3, at3_4, at3_5, at3_6, start3, fI0_i, fI_i, fLt, fLe, fGt, fGe, fEqI, fNeI, fMin, fMax, ↓D3.asg3.eq_1, ↓D3.name3.eq_1, ↓D3.sub3.eq_1, ↓D3.ret3.eq_1, ↓D3.retN3.eq_1, ↓D3.nx3.eq_1, ↓D3.drop3.eq_1, ↓D3.par3.eq_1, ↓D3.aug3.eq_1, ↓D3.and3.eq_1, ↓D3.or3.eq_1, ↓D3.not3.eq_1, ↓D3.andV3.eq_1, ↓D3.orV3.eq_1, ↓D3.notV3.eq_1, ↓D3.if3.eq_1, ↓D3.nil3.eq_1, ↓D3.cons3.eq_1, ↓D3.tup3.eq_1, ↓D3.lst3.eq_1, ↓D3.lstM3.eq_1, ↓D3.gtup3.eq_1, ↓D3.gcons3.eq_1, ↓D3.gnil3.eq_1, ↓D3.gunl3.eq_1, ↓D3.bits3.eq_1, ↓D3.neg3.eq_1, ↓D3.chain3.eq_1, fIsi_int_int, fIsi_int_bool, fIsi_int_tuple, fIsi_int_str, fIsi_int_list, fIsi_bl_int, fIsi_bl_bool, fIsi_bl_tuple, fIsi_bl_str, fIsi_bl_list, fIsi_non_int, fIsi_non_bool, fIsi_non_tuple, fIsi_non_str, fIsi_non_list, fIsi_str_int, fIsi_str_bool, fIsi_str_tuple, fIsi_str_str, fIsi_str_list, fIsi_tup_int, fIsi_tup_bool, fIsi_tup_tuple, fIsi_tup_str, fIsi_tup_list, fIsi_lst_int, fIsi_lst_bool, fIsi_lst_tuple, fIsi_lst_str, fIsi_lst_list, fLen_lst, fLen_tup, fAbs, ↓D3.call3_k, ↓D3.kont_app, ↓D3.isN3.eq_1, ↓D3.notN3.eq_1, dIsN_non, dIsN_int, dIsN_bl, dIsN_str, dIsN_tup, dIsN_lst, ↓D3.slc3.eq_1, ↓D3.part3.eq_1, ↓D3.noPart3.eq_1, ↓D3.ilst3.eq_1, ↓D3.itup3.eq_1, ↓D3.irng1.eq_1, ↓D3.irng2.eq_1, ↓D3.for3.eq_1, fCat, fEq_int, fNe_int, fEq_bl, fNe_bl, fEq_pair, fNe_pair, List.map, List.replicate, List.length_cons, List.length_nil, List.set_cons_zero, List.set_cons_succ, List.getElem?_cons_zero, List.getElem?_cons_succ, List.cons_append, List.nil_append, at_0, at_1, at_2, at_3, at_4, at_5, at_6, ix_0, ix_1, ix_2, put_same, put_put, decide_eq_true_eq, Bool.not_eq_true', decide_eq_false_iff_not, ite_not, ite_true, ite_false, if_true, if_false, Bool.false_eq_true, ↓reduceIte, reduceIte, Nat.reduceAdd, Nat.reduceSub, Int.reduceToNat, Nat.reduceLeDiff, not_false_eq_true, true_and, and_true, ne_eq, Int.reduceEq, Nat.zero_add, Bool.not_true, Bool.not_false, reduceCtorEq, nc0, nc1, nc2, nc3, nc4, nc5, fIx_ref put_same, fLen_ref put_same, ↓D3.lc3.eq_1, fInt, fTuple, fList, fNeS_s, fEqS_s, ↓D3.gstar3.eq_1, fInK_s, fNinK_s, fLenS_s, ↓D3.slcT3.eq_1, fCatT_t, ↓D3.app3.eq_1, ↓D3.frz3.eq_1, ↓D3.dc23.eq_1, ↓D3.lcT3.eq_1, ↓D3.litRep3.eq_1, ↓D3.litRepM3.eq_1, ↓D3.rev3.eq_1, ↓D3.dget3.eq_1, ↓D3.disp3.eq_1, ↓D3.ienum3.eq_1, pop3, sset3]))
            rw [fNe_tnil (n := 140) hpl (by simp [dps, dp])]
            (refine laterP_in ?_; repeat ((first | with_reducible refine laterP_i ?_ | with_reducible refine later_i ?_); try simp -implicitDefEqProofs -dsimp only [↓D3.seq3_stop, ↓D3.ifS3.eq_1, ↓D3.b3.eq_1, ↓D3.op3.eq_1, ↓D3.un3.eq_1, ↓D3.v3.eq_1, ↓D3.c3.eq_1, fIx_tup, fIx_lst, at3_0, at3_1, at3_2, at3_3, at3_4, at3_5, at3_6, start3, fI0_i, fI_i, fLt, fLe, fGt, fGe, fEqI, fNeI, fMin, fMax, ↓D3.asg3.eq_1, ↓D3.name3.eq_1, ↓D3.sub3.eq_1, ↓D3.ret3.eq_1, ↓D3.retN3.eq_1, ↓D3.nx3.eq_1, ↓D3.drop3.eq_1, ↓D3.par3.eq_1, ↓D3.aug3.eq_1, ↓D3.and3.eq_1, ↓D3.or3.eq_1, ↓D3.not3.eq_1, ↓D3.andV3.eq_1, ↓D3.orV3.eq_1, ↓D3.notV3.eq_1, ↓D3.if3.eq_1, ↓D3.nil3.eq_1, ↓D3.cons3.eq_1, ↓D3.tup3.eq_1, ↓D3.lst3.eq_1, ↓D3.lstM3.eq_1, ↓D3.gtup3.eq_1, ↓D3.gcons3.eq_1, ↓D3.gnil3.eq_1, ↓D3.gunl3.eq_1, ↓D3.bits3.eq_1, ↓D3.neg3.eq_1, ↓D3.chain3.eq_1, fIsi_int_int, fIsi_int_bool, fIsi_int_tuple, fIsi_int_str, fIsi_int_list, fIsi_bl_int, fIsi_bl_bool, fIsi_bl_tuple, fIsi_bl_str, fIsi_bl_list, fIsi_non_int, fIsi_non_bool, fIsi_non_tuple, fIsi_non_str, fIsi_non_list, fIsi_str_int, fIsi_str_bool, fIsi_str_tuple, fIsi_str_str, fIsi_str_list, fIsi_tup_int, fIsi_tup_bool, fIsi_tup_tuple, fIsi_tup_str, fIsi_tup_list, fIsi_lst_int, fIsi_lst_bool, fIsi_lst_tuple, fIsi_lst_str, fIsi_lst_list, fLen_lst, fLen_tup, fAbs, ↓D3.call3_k, ↓D3.kont_app, ↓D3.isN3.eq_1, ↓D3.notN3.eq_1, dIsN_non, dIsN_int, dIsN_bl, dIsN_str, dIsN_tup, dIsN_lst, ↓D3.slc3.eq_1, ↓D3.part3.eq_1, ↓D3.noPart3.eq_1, ↓D3.ilst3.eq_1, ↓D3.itup3.eq_1, ↓D3.irng1.eq_1, ↓D3.irng2.eq_1, ↓D3.for3.eq_1, fCat, fEq_int, fNe_int, fEq_bl, fNe_bl, fEq_pair, fNe_pair, List.map, List.replicate, List.length_cons, List.length_nil, List.set_cons_zero, List.set_cons_succ, List.getElem?_cons_zero, List.getElem?_cons_succ, List.cons_append, List.nil_append, at_0, at_1, at_2, at_3, at_4, at_5, at_6, ix_0, ix_1, ix_2, put_same, put_put, decide_eq_true_eq, Bool.not_eq_true', decide_eq_false_iff_not, ite_not, ite_true, ite_false, if_true, if_false, Bool.false_eq_true, ↓reduceIte, reduceIte, Nat.reduceAdd, Nat.reduceSub, Int.reduceToNat, Nat.reduceLeDiff, not_false_eq_true, true_and, and_true, ne_eq, Int.reduceEq, Nat.zero_add, Bool.not_true, Bool.not_false, reduceCtorEq, nc0, nc1, nc2, nc3, nc4, nc5, fIx_ref put_same, fLen_ref put_same, ↓D3.lc3.eq_1, fInt, fTuple, fList, fNeS_s, fEqS_s, ↓D3.gstar3.eq_1, fInK_s, fNinK_s, fLenS_s, ↓D3.slcT3.eq_1, fCatT_t, ↓D3.app3.eq_1, ↓D3.frz3.eq_1, ↓D3.dc23.eq_1, ↓D3.lcT3.eq_1, ↓D3.litRep3.eq_1, ↓D3.litRepM3.eq_1, ↓D3.rev3.eq_1, ↓D3.dget3.eq_1, ↓D3.disp3.eq_1, ↓D3.ienum3.eq_1, pop3, sset3, List.isEmpty_cons]))
            rw [List.filter_cons_of_neg (by simp [isT])] at hq
            exact hnx _ _ ⟨qs, _, fun z hz => hmem z (List.mem_cons_of_mem _ hz), hq, rfl, rfl⟩
          | @s x' =>
            (refine laterP_in ?_; repeat ((first | with_reducible refine laterP_i ?_ | with_reducible refine later_i ?_); try simp -implicitDefEqProofs -dsimp only [↓D3.seq3_stop, ↓D3.ifS3.eq_1, ↓D3.b3.eq_1, ↓D3.op3.eq_1, ↓D3.un3.eq_1, ↓D3.v3.eq_1, ↓D3.c3.eq_1, fIx_tup, fIx_lst, at3_0, at3_1, at3_2, at3_3, at3_4, at3_5, at3_6, start3, fI0_i, fI_i, fLt, fLe, fGt, fGe, fEqI, fNeI, fMin, fMax, ↓D3.asg3.eq_1, ↓D3.name3.eq_1, ↓D3.sub3.eq_1, ↓D3.ret3.eq_1, ↓D3.retN3.eq_1, ↓D3.nx3.eq_1, ↓D3.drop3.eq_1, ↓D3.par3.eq_1, ↓D3.aug3.eq_1, ↓D3.and3.eq_1, ↓D3.or3.eq_1, ↓D3.not3.eq_1, ↓D3.andV3.eq_1, ↓D3.orV3.eq_1, ↓D3.notV3.eq_1, ↓D3.if3.eq_1, ↓D3.nil3.eq_1, ↓D3.cons3.eq_1, ↓D3.tup3.eq_1, ↓D3.lst3.eq_1, ↓D3.lstM3.eq_1, ↓D3.gtup3.eq_1, ↓D3.gcons3.eq_1, ↓D3.gnil3.eq_1, ↓D3.gunl3.eq_1, ↓D3.bits3.eq_1, ↓D3.neg3.eq_1, ↓D3.chain3.eq_1, fIsi_int_int, fIsi_int_bool, fIsi_int_tuple, fIsi_int_str, fIsi_int_list, fIsi_bl_int, fIsi_bl_bool, fIsi_bl_tuple, fIsi_bl_str, fIsi_bl_list, fIsi_non_int, fIsi_non_bool, fIsi_non_tuple, fIsi_non_str, fIsi_non_list, fIsi_str_int, fIsi_str_bool, fIsi_str_tuple, fIsi_str_str, fIsi_str_list, fIsi_tup_int, fIsi_tup_bool, fIsi_tup_tuple, fIsi_tup_str, fIsi_tup_list, fIsi_lst_int, fIsi_lst_bool, fIsi_lst_tuple, fIsi_lst_str, fIsi_lst_list, fLen_lst, fLen_tup, fAbs, ↓D3.call3_k, ↓D3.kont_app, ↓D3.isN3.eq_1, ↓D3.notN3.eq_1, dIsN_non, dIsN_int, dIsN_bl, dIsN_str, dIsN_tup, dIsN_lst, ↓D3.slc3.eq_1, ↓D3.part3.eq_1, ↓D3.noPart3.eq_1, ↓D3.ilst3.eq_1, ↓D3.itup3.eq_1, ↓D3.irng1.eq_1, ↓D3.irng2.eq_1, ↓D3.for3.eq_1, fCat, fEq_int, fNe_int, fEq_bl, fNe_bl, fEq_pair, fNe_pair, List.map, List.replicate, List.length_cons, List.length_nil, List.set_cons_zero, List.set_cons_succ, List.getElem?_cons_zero, List.getElem?_cons_succ, List.cons_append, List.nil_append, at_0, at_1, at_2, at_3, at_4, at_5, at_6, ix_0, ix_1, ix_2, put_same, put_put, decide_eq_true_eq, Bool.not_eq_true', decide_eq_false_iff_not, ite_not, ite_true, ite_false, if_true, if_false, Bool.false_eq_true, ↓reduceIte, reduceIte, Nat.reduceAdd, Nat.reduceSub, Int.reduceToNat, Nat.reduceLeDiff, not_false_eq_true, true_and, and_true, ne_eq, Int.reduceEq, Nat.zero_add, Bool.not_true, Bool.not_false, reduceCtorEq, nc0, nc1, nc2, nc3, nc4, nc5, fIx_ref put_same, fLen_ref put_same, ↓D3.lc3.eq_1, fInt, fTuple, fList, fNeS_s, fEqS_s, ↓D3.gstar3.eq_1, fInK_s, fNinK_s, fLenS_s, ↓D3.slcT3.eq_1, fCatT_t, ↓D3.app3.eq_1, ↓D3.frz3.eq_1, ↓D3.dc23.eq_1, ↓D3.lcT3.eq_1, ↓D3.litRep3.eq_1, ↓D3.litRepM3.eq_1, ↓D3.rev3.eq_1, ↓D3.dget3.eq_1, ↓D3.disp3.eq_1, ↓D3.ienum3.eq_1, pop3, sset3]))
            rw [List.filter_cons_of_neg (by simp [isT])] at hq
            exact hnx _ _ ⟨qs, _, fun z hz => hmem z (List.mem_cons_of_mem _ hz), hq, rfl, rfl⟩
          | @i k' =>
            (refine laterP_in ?_; repeat ((first | with_reducible refine laterP_i ?_ | with_reducible refine later_i ?_); try simp -implicitDefEqProofs -dsimp only [↓D3.seq3_stop, ↓D3.ifS3.eq_1, ↓D3.b3.eq_1, ↓D3.op3.eq_1, ↓D3.un3.eq_1, ↓D3.v3.eq_1, ↓D3.c3.eq_1, fIx_tup, fIx_lst, at3_0, at3_1, at3_2, at3_3, at3_4, at3_5, at3_6, start3, fI0_i, fI_i, fLt, fLe, fGt, fGe, fEqI, fNeI, fMin, fMax, ↓D3.asg3.eq_1, ↓D3.name3.eq_1, ↓D3.sub3.eq_1, ↓D3.ret3.eq_1, ↓D3.retN3.eq_1, ↓D3.nx3.eq_1, ↓D3.drop3.eq_1, ↓D3.par3.eq_1, ↓D3.aug3.eq_1, ↓D3.and3.eq_1, ↓D3.or3.eq_1, ↓D3.not3.eq_1, ↓D3.andV3.eq_1, ↓D3.orV3.eq_1, ↓D3.notV3.eq_1, ↓D3.if3.eq_1, ↓D3.nil3.eq_1, ↓D3.cons3.eq_1, ↓D3.tup3.eq_1, ↓D3.lst3.eq_1, ↓D3.lstM3.eq_1, ↓D3.gtup3.eq_1, ↓D3.gcons3.eq_1, ↓D3.gnil3.eq_1, ↓D3.gunl3.eq_1, ↓D3.bits3.eq_1, ↓D3.neg3.eq_1, ↓D3.chain3.eq_1, fIsi_int_int, fIsi_int_bool, fIsi_int_tuple, fIsi_int_str, fIsi_int_list, fIsi_bl_int, fIsi_bl_bool, fIsi_bl_tuple, fIsi_bl_str, fIsi_bl_list, fIsi_non_int, fIsi_non_bool, fIsi_non_tuple, fIsi_non_str, fIsi_non_list, fIsi_str_int, fIsi_str_bool, fIsi_str_tuple, fIsi_str_str, fIsi_str_list, fIsi_tup_int, fIsi_tup_bool, fIsi_tup_tuple, fIsi_tup_str, fIsi_tup_list, fIsi_lst_int, fIsi_lst_bool, fIsi_lst_tuple, fIsi_lst_str, fIsi_lst_list, fLen_lst, fLen_tup, fAbs, ↓D3.call3_k, ↓D3.kont_app, ↓D3.isN3.eq_1, ↓D3.notN3.eq_1, dIsN_non, dIsN_int, dIsN_bl, dIsN_str, dIsN_tup, dIsN_lst, ↓D3.slc3.eq_1, ↓D3.part3.eq_1, ↓D3.noPart3.eq_1, ↓D3.ilst3.eq_1, ↓D3.itup3.eq_1, ↓D3.irng1.eq_1, ↓D3.irng2.eq_1, ↓D3.for3.eq_1, fCat, fEq_int, fNe_int, fEq_bl, fNe_bl, fEq_pair, fNe_pair, List.map, List.replicate, List.length_cons, List.length_nil, List.set_cons_zero, List.set_cons_succ, List.getElem?_cons_zero, List.getElem?_cons_succ, List.cons_append, List.nil_append, at_0, at_1, at_2, at_3, at_4, at_5, at_6, ix_0, ix_1, ix_2, put_same, put_put, decide_eq_true_eq, Bool.not_eq_true', decide_eq_false_iff_not, ite_not, ite_true, ite_false, if_true, if_false, Bool.false_eq_true, ↓reduceIte, reduceIte, Nat.reduceAdd, Nat.reduceSub, Int.reduceToNat, Nat.reduceLeDiff, not_false_eq_true, true_and, and_true, ne_eq, Int.reduceEq, Nat.zero_add, Bool.not_true, Bool.not_false, reduceCtorEq, nc0, nc1, nc2, nc3, nc4, nc5, fIx_ref put_same, fLen_ref put_same, ↓D3.lc3.eq_1, fInt, fTuple, fList, fNeS_s, fEqS_s, ↓D3.gstar3.eq_1, fInK_s, fNinK_s, fLenS_s, ↓D3.slcT3.eq_1, fCatT_t, ↓D3.app3.eq_1, ↓D3.frz3.eq_1, ↓D3.dc23.eq_1, ↓D3.lcT3.eq_1, ↓D3.litRep3.eq_1, ↓D3.litRepM3.eq_1, ↓D3.rev3.eq_1, ↓D3.dget3.eq_1, ↓D3.disp3.eq_1, ↓D3.ienum3.eq_1, pop3, sset3]))
            rw [List.filter_cons_of_neg (by simp [isT])] at hq
            exact hnx _ _ ⟨qs, _, fun z hz => hmem z (List.mem_cons_of_mem _ hz), hq, rfl, rfl⟩
        · rintro ρ m' ⟨qs, y6, _, hq, rfl, rfl⟩
          have hq2 : qs = ps := by simpa using hq
          subst hq2
          (refine laterP_in ?_; repeat ((first | with_reducible refine laterP_i ?_ | with_reducible refine later_i ?_); try simp -implicitDefEqProofs -dsimp only [↓D3.seq3_stop, ↓D3.ifS3.eq_1, ↓D3.b3.eq_1, ↓D3.op3.eq_1, ↓D3.un3.eq_1, ↓D3.v3.eq_1, ↓D3.c3.eq_1, fIx_tup, fIx_lst, at3_0, at3_1, at3_2, at3_3, at3_4, at3_5, at3_6, start3, fI0_i, fI_i, fLt, fLe, fGt, fGe, fEqI, fNeI, fMin, fMax, ↓D3.asg3.eq_1, ↓D3.name3.eq_1, ↓D3.sub3.eq_1, ↓D3.ret3.eq_1, ↓D3.retN3.eq_1, ↓D3.nx3.eq_1, ↓D3.drop3.eq_1, ↓D3.par3.eq_1, ↓D3.aug3.eq_1, ↓D3.and3.eq_1, ↓D3.or3.eq_1, ↓D3.not3.eq_1, ↓D3.andV3.eq_1, ↓D3.orV3.eq_1, ↓D3.notV3.eq_1, ↓D3.if3.eq_1, ↓D3.nil3.eq_1, ↓D3.cons3.eq_1, ↓D3.tup3.eq_1, ↓D3.lst3.eq_1, ↓D3.lstM3.eq_1, ↓D3.gtup3.eq_1, ↓D3.gcons3.eq_1, ↓D3.gnil3.eq_1, ↓D3.gunl3.eq_1, ↓D3.bits3.eq_1, ↓D3.neg3.eq_1, ↓D3.chain3.eq_1, fIsi_int_int, fIsi_int_bool, fIsi_int_tuple, fIsi_int_str, fIsi_int_list, fIsi_bl_int, fIsi_bl_bool, fIsi_bl_tuple, fIsi_bl_str, fIsi_bl_list, fIsi_non_int, fIsi_non_bool, fIsi_non_tuple, fIsi_non_str, fIsi_non_list, fIsi_str_int, fIsi_str_bool, fIsi_str_tuple, fIsi_str_str, fIsi_str_list, fIsi_tup_int, fIsi_tup_bool, fIsi_tup_tuple, fIsi_tup_str, fIsi_tup_list, fIsi_lst_int, fIsi_lst_bool, fIsi_lst_tuple, fIsi_lst_str, fIsi_lst_list, fLen_lst, fLen_tup, fAbs, ↓D3.call3_k, ↓D3.kont_app, ↓D3.isN3.eq_1, ↓D3.notN3.eq_1, dIsN_non, dIsN_int, dIsN_bl, dIsN_str, dIsN_tup, dIsN_lst, ↓D3.slc3.eq_1, ↓D3.part3.eq_1, ↓D3.noPart3.eq_1, ↓D3.ilst3.eq_1, ↓D3.itup3.eq_1, ↓D3.irng1.eq_1, ↓D3.irng2.eq_1, ↓D3.for3.eq_1, fCat, fEq_int, fNe_int, fEq_bl, fNe_bl, fEq_pair, fNe_pair, List.map, List.replicate, List.length_cons, List.length_nil, List.set_cons_zero, List.set_cons_succ, List.getElem?_cons_zero, List.getElem?_cons_succ, List.cons_append, List.nil_append, at_0, at_1, at_2, at_3, at_4, at_5, at_6, ix_0, ix_1, ix_2, put_same, put_put, decide_eq_true_eq, Bool.not_eq_true', decide_eq_false_iff_not, ite_not, ite_true, ite_false, if_true, if_false, Bool.false_eq_true, ↓reduceIte, reduceIte, Nat.reduceAdd, Nat.reduceSub, Int.reduceToNat, Nat.reduceLeDiff, not_false_eq_true, true_and, and_true, ne_eq, Int.reduceEq, Nat.zero_add, Bool.not_true, Bool.not_false, reduceCtorEq, nc0, nc1, nc2, nc3, nc4, nc5, fIx_ref put_same, fLen_ref put_same, ↓D3.lc3.eq_1, fInt, fTuple, fList, fNeS_s, fEqS_s, ↓D3.gstar3.eq_1, fInK_s, fNinK_s, fLenS_s, ↓D3.slcT3.eq_1, fCatT_t, ↓D3.app3.eq_1, ↓D3.frz3.eq_1, ↓D3.dc23.eq_1, ↓D3.lcT3.eq_1, ↓D3.litRep3.eq_1, ↓D3.litRepM3.eq_1, ↓D3.rev3.eq_1, ↓D3.dget3.eq_1, ↓D3.disp3.eq_1, ↓D3.ienum3.eq_1, pop3, sset3]))
          refine ⟨cntD d - (js.length + 1), by omega, js ++ [((.tup (.str h :: r)), jh)], ks ++ qs.map (fun p => (p, jh)), _, _, _, _, by simp, by rw [show (js.length : Int) + 1 = ((js ++ [((D.tup (.str h :: r)), jh)]).length : Nat) by simp], by simp, ?_, ?_, ?_⟩
          · rw [cs_app, List.length_append, List.length_singleton]
            have e1 : cs (qs.map fun p => (p, jh)) = (qs.map cntD).sum := by unfold cs; rw [List.map_map]; rfl
            have e2 := cntD_eq hi
            omega
          · intro j' hj'
            rw [List.append_assoc, List.mem_append] at hj'
            rcases hj' with h1 | h1
            · exact hok j' (List.mem_append_left _ h1)
            · rw [List.singleton_append, List.mem_cons, List.mem_append] at h1
              rcases h1 with rfl | h1 | h1
              · exact hj
              · exact hok j' (List.mem_append_right _ (List.mem_cons_of_mem _ h1))
              · exact jok_kids hj hi j' (by simp only [ei]; exact h1)
          · intro xx
            have h0 := job_fre (h := jh) hj.w hi xx
            rw [ei] at h0
            rw [hf xx]
            constructor
            · rintro (⟨j', h1, h2⟩ | ⟨j', h1, h2⟩)
              · exact .inl ⟨j', List.mem_append_left _ h1, h2⟩
              · rcases List.mem_cons.mp h1 with rfl | h1
                · rcases h0.mp h2 with h3 | ⟨p, h4, h5⟩
                  · exact .inl ⟨_, List.mem_append_right _ (by simp), h3⟩
                  · exact .inr ⟨(p, jh), List.mem_append_right _ (List.mem_map.mpr ⟨p, h4, rfl⟩), h5⟩
                · exact .inr ⟨j', List.mem_append_left _ h1, h2⟩
            · rintro (⟨j', h1, h2⟩ | ⟨j', h1, h2⟩)
              · rcases List.mem_append.mp h1 with h1 | h1
                · exact .inl ⟨j', h1, h2⟩
                · simp at h1
                  subst h1
                  exact .inr ⟨_, List.mem_cons_self, h0.mpr (.inl h2)⟩
              · rcases List.mem_append.mp h1 with h1 | h1
                · exact .inr ⟨j', List.mem_cons_of_mem _ h1, h2⟩
                · obtain ⟨p, h4, rfl⟩ := List.mem_map.mp h1
                  exact .inr ⟨_, List.mem_cons_self, h0.mpr (.inr ⟨p, h4, h2⟩)⟩
abbrev N0 : List Str := ["x", "y", "b", "e", "log", "a"]
theorem ok_names_ofM (T : Tx w K mg fa fd) : Fn3 P w K mg base 20 (fa 7) (fd 7) ["term"] (sp_gmN N0 16) := ok_gmN T (by decide) 16
theorem ok_names_of (T : Tx w K mg fa fd) : Fn3 P w K mg base 20 (fa 7) (fd 7) ["term"] (sp_gfN N0 16) := gm_gf (ok_names_ofM T)
theorem ok_parts_of (T : Tx w K mg fa fd) : Fn3 P w K mg base 20 (fa 6) (fd 6) ["term"] (sp_ptN N0 16) := ok_ptN T 16
def sp_right : Sp3 := fun ds m P => ∃ d : D, ds = [d] ∧ Wn N0 d ∧ Pl 140 d ∧ dp d ≤ 16 ∧ cntD d ≤ 60 ∧ ∀ m', (∀ q, m q ≠ none → m' q = m q) → P (.bl true) m'
def nmB (j : Jb) : Bool := match j.1 with
  | .tup [.str k, .str x] => decide (k = "name") && !decide (x ∈ j.2)
  | _ => false
def nmJ (j : Jb) : Str := match j.1 with
  | .tup [_, .str x] => x
  | _ => ""
theorem eqvA_strs : ∀ ys : List Str, PyData.eqvAll (pysOf (ys.map D.str)) (pysOf (ys.map D.str)) = true
  | [] => rfl
  | y :: ys => by
    rw [List.map_cons]
    simp only [pysOf, pyOf, PyData.eqvAll, PyData.eqv, eqvA_strs ys, Bool.and_true]
    simp
theorem fNe_strs {ys : List Str} (h : ∀ y ∈ ys, Pl 140 (.str y)) {m : Mem} {P : DK} : fNe (.lst (ys.map D.str)) (.lst (ys.map D.str)) m P = P (.bl false) m := by
  have hp : Pl 140 (.lst (ys.map D.str)) := nms_pl h
  have hd := nms_dp ys
  rw [fNe_pl (n := 140) (k := 140) hp hp (by omega) (by omega)]
  rw [show PyData.eqv (pyOf (.lst (ys.map D.str))) (pyOf (.lst (ys.map D.str))) = true from by simp only [pyOf, PyData.eqv]; exact eqvA_strs ys]
  rfl
theorem any_strs (x : Str) : ∀ ys : List Str, ((pysOf (ys.map D.str)).any fun z => PyData.eqv z (pyOf (.str x))) = decide (x ∈ ys)
  | [] => by simp [pysOf]
  | y :: ys => by
    have ih := any_strs x ys
    rw [List.map_cons]
    simp only [pysOf, List.any_cons]
    rw [ih]
    simp only [pyOf, PyData.eqv]
    by_cases h : y = x
    · subst h; simp
    · have h2 : ¬ x = y := fun z => h z.symm
      have h3 : (y == x) = false := by simpa using h
      simp [h2, h3]
theorem ok_law_right (T : Tx w K mg fa fd) : Fn3 P w K mg base 21 (fa 15) (fd 15) ["term"] sp_right := by
  refine fn3 T.d_law_right.F sc_law_right (fun ds m Q h => by obtain ⟨_, rfl, _⟩ := h; rfl) fun cdv A outer s H E ds m Q hr h => ?_
  obtain ⟨d, rfl, hw, hp, hd, hc, q⟩ := h
  refine ⟨_, (ss_cons (s_set (i := 1) sc_law_right.nd (e_call T.d_law_walk (ok_law_walk T) (hr.mono (by omega)) rfl (a_cons (e_v 0) a_nil)))
      (ss_cons (s_set (i := 2) sc_law_right.nd (e_sset rfl T.b_sorted rfl T.b_set (e_lcTIf (i := 3) (j := 4) rfl sc_law_right.nd (by decide) (i_list (e_v 1)) (blkOk_by (own := [("here", 3), ("held", 4)]) (N := ["term", "line", "due", "here", "held", "turn", "told"]) (sc := defScope s_law_right) (by decide +kernel)) (fun _ _ _ _ _ => (t_w (t_and (t_eqS (e_ix (e_v 3) e_int) e_str) (t_and1 (t_ninD hr (e_ix (e_v 3) e_int) (e_v 4)))))) (fun _ _ _ _ _ => (e_ix (e_v 3) e_int)))))
      (ss_cons (s_for PassesOwn.never rfl (i_range1 rfl T.b_range (a_cons e_int a_nil)) (g_name (i := 5) sc_law_right.nd)
      (ss_cons (s_set (i := 6) sc_law_right.nd (e_call T.d_names_of (ok_names_ofM T) (hr.mono (by omega)) rfl (a_cons (e_v 0) a_nil)))
      (ss_cons (s_if (t_w (t_or (t_not (t_val (e_isiM rfl T.b_isinstance (e_v 6) (e_type rfl T.b_list PyProof.Rows.boot_list)))) (t_or (t_neM hr (e_v 6) (e_v 2)) (t_or1 (t_ne hr (e_call T.d_parts_of (ok_parts_of T) (hr.mono (by omega)) rfl (a_cons (e_v 0) a_nil)) (e_len rfl T.b_len (e_v 1))))))) (ss_one (s_ret e_bl)) ss_nil)
      (ss_one (s_expr (e_append (e_v 6) e_str))))))
      (ss_one (s_ret e_bl))))), ?_⟩
  have n0 : ∀ z, Fre d z → Pl 140 (.str z) := fun z f => by
    have := Fre.sub hw f
    simp only [N0, List.mem_cons, List.not_mem_nil, or_false] at this
    rcases this with rfl | rfl | rfl | rfl | rfl | rfl <;> exact ⟨by decide +kernel, by decide +kernel⟩
  (refine laterP_in ?_; repeat ((first | with_reducible refine laterP_i ?_ | with_reducible refine later_i ?_); try simp -implicitDefEqProofs -dsimp only [↓D3.seq3_stop, ↓D3.ifS3.eq_1, ↓D3.b3.eq_1, ↓D3.op3.eq_1, ↓D3.un3.eq_1, ↓D3.v3.eq_1, ↓D3.c3.eq_1, fIx_tup, fIx_lst, at3_0, at3_1, at3_2, at3_3, at3_4, at3_5, at3_6, start3, fI0_i, fI_i, fLt, fLe, fGt, fGe, fEqI, fNeI, fMin, fMax, ↓D3.asg3.eq_1, ↓D3.name3.eq_1, ↓D3.sub3.eq_1, ↓D3.ret3.eq_1, ↓D3.retN3.eq_1, ↓D3.nx3.eq_1, ↓D3.drop3.eq_1, ↓D3.par3.eq_1, ↓D3.aug3.eq_1, ↓D3.and3.eq_1, ↓D3.or3.eq_1, ↓D3.not3.eq_1, ↓D3.andV3.eq_1, ↓D3.orV3.eq_1, ↓D3.notV3.eq_1, ↓D3.if3.eq_1, ↓D3.nil3.eq_1, ↓D3.cons3.eq_1, ↓D3.tup3.eq_1, ↓D3.lst3.eq_1, ↓D3.lstM3.eq_1, ↓D3.gtup3.eq_1, ↓D3.gcons3.eq_1, ↓D3.gnil3.eq_1, ↓D3.gunl3.eq_1, ↓D3.bits3.eq_1, ↓D3.neg3.eq_1, ↓D3.chain3.eq_1, fIsi_int_int, fIsi_int_bool, fIsi_int_tuple, fIsi_int_str, fIsi_int_list, fIsi_bl_int, fIsi_bl_bool, fIsi_bl_tuple, fIsi_bl_str, fIsi_bl_list, fIsi_non_int, fIsi_non_bool, fIsi_non_tuple, fIsi_non_str, fIsi_non_list, fIsi_str_int, fIsi_str_bool, fIsi_str_tuple, fIsi_str_str, fIsi_str_list, fIsi_tup_int, fIsi_tup_bool, fIsi_tup_tuple, fIsi_tup_str, fIsi_tup_list, fIsi_lst_int, fIsi_lst_bool, fIsi_lst_tuple, fIsi_lst_str, fIsi_lst_list, fLen_lst, fLen_tup, fAbs, ↓D3.call3_k, ↓D3.kont_app, ↓D3.isN3.eq_1, ↓D3.notN3.eq_1, dIsN_non, dIsN_int, dIsN_bl, dIsN_str, dIsN_tup, dIsN_lst, ↓D3.slc3.eq_1, ↓D3.part3.eq_1, ↓D3.noPart3.eq_1, ↓D3.ilst3.eq_1, ↓D3.itup3.eq_1, ↓D3.irng1.eq_1, ↓D3.irng2.eq_1, ↓D3.for3.eq_1, fCat, fEq_int, fNe_int, fEq_bl, fNe_bl, fEq_pair, fNe_pair, List.map, List.replicate, List.length_cons, List.length_nil, List.set_cons_zero, List.set_cons_succ, List.getElem?_cons_zero, List.getElem?_cons_succ, List.cons_append, List.nil_append, at_0, at_1, at_2, at_3, at_4, at_5, at_6, ix_0, ix_1, ix_2, put_same, put_put, decide_eq_true_eq, Bool.not_eq_true', decide_eq_false_iff_not, ite_not, ite_true, ite_false, if_true, if_false, Bool.false_eq_true, ↓reduceIte, reduceIte, Nat.reduceAdd, Nat.reduceSub, Int.reduceToNat, Nat.reduceLeDiff, not_false_eq_true, true_and, and_true, ne_eq, Int.reduceEq, Nat.zero_add, Bool.not_true, Bool.not_false, reduceCtorEq, nc0, nc1, nc2, nc3, nc4, nc5, fIx_ref put_same, fLen_ref put_same, ↓D3.lc3.eq_1, fInt, fTuple, fList, fNeS_s, fEqS_s, ↓D3.gstar3.eq_1, fInK_s, fNinK_s, fLenS_s, ↓D3.slcT3.eq_1, fCatT_t, ↓D3.app3.eq_1, ↓D3.frz3.eq_1, ↓D3.dc23.eq_1, ↓D3.lcT3.eq_1, ↓D3.litRep3.eq_1, ↓D3.litRepM3.eq_1, ↓D3.rev3.eq_1, ↓D3.dget3.eq_1, ↓D3.disp3.eq_1, ↓D3.ienum3.eq_1, pop3, sset3]))
  refine ⟨d, N0, rfl, hw, hp, hd, by omega, fun js hjl hjf hjo => ?_⟩
  (refine laterP_in ?_; repeat ((first | with_reducible refine laterP_i ?_ | with_reducible refine later_i ?_); try simp -implicitDefEqProofs -dsimp only [↓D3.seq3_stop, ↓D3.ifS3.eq_1, ↓D3.b3.eq_1, ↓D3.op3.eq_1, ↓D3.un3.eq_1, ↓D3.v3.eq_1, ↓D3.c3.eq_1, fIx_tup, fIx_lst, at3_0, at3_1, at3_2, at3_3, at3_4, at3_5, at3_6, start3, fI0_i, fI_i, fLt, fLe, fGt, fGe, fEqI, fNeI, fMin, fMax, ↓D3.asg3.eq_1, ↓D3.name3.eq_1, ↓D3.sub3.eq_1, ↓D3.ret3.eq_1, ↓D3.retN3.eq_1, ↓D3.nx3.eq_1, ↓D3.drop3.eq_1, ↓D3.par3.eq_1, ↓D3.aug3.eq_1, ↓D3.and3.eq_1, ↓D3.or3.eq_1, ↓D3.not3.eq_1, ↓D3.andV3.eq_1, ↓D3.orV3.eq_1, ↓D3.notV3.eq_1, ↓D3.if3.eq_1, ↓D3.nil3.eq_1, ↓D3.cons3.eq_1, ↓D3.tup3.eq_1, ↓D3.lst3.eq_1, ↓D3.lstM3.eq_1, ↓D3.gtup3.eq_1, ↓D3.gcons3.eq_1, ↓D3.gnil3.eq_1, ↓D3.gunl3.eq_1, ↓D3.bits3.eq_1, ↓D3.neg3.eq_1, ↓D3.chain3.eq_1, fIsi_int_int, fIsi_int_bool, fIsi_int_tuple, fIsi_int_str, fIsi_int_list, fIsi_bl_int, fIsi_bl_bool, fIsi_bl_tuple, fIsi_bl_str, fIsi_bl_list, fIsi_non_int, fIsi_non_bool, fIsi_non_tuple, fIsi_non_str, fIsi_non_list, fIsi_str_int, fIsi_str_bool, fIsi_str_tuple, fIsi_str_str, fIsi_str_list, fIsi_tup_int, fIsi_tup_bool, fIsi_tup_tuple, fIsi_tup_str, fIsi_tup_list, fIsi_lst_int, fIsi_lst_bool, fIsi_lst_tuple, fIsi_lst_str, fIsi_lst_list, fLen_lst, fLen_tup, fAbs, ↓D3.call3_k, ↓D3.kont_app, ↓D3.isN3.eq_1, ↓D3.notN3.eq_1, dIsN_non, dIsN_int, dIsN_bl, dIsN_str, dIsN_tup, dIsN_lst, ↓D3.slc3.eq_1, ↓D3.part3.eq_1, ↓D3.noPart3.eq_1, ↓D3.ilst3.eq_1, ↓D3.itup3.eq_1, ↓D3.irng1.eq_1, ↓D3.irng2.eq_1, ↓D3.for3.eq_1, fCat, fEq_int, fNe_int, fEq_bl, fNe_bl, fEq_pair, fNe_pair, List.map, List.replicate, List.length_cons, List.length_nil, List.set_cons_zero, List.set_cons_succ, List.getElem?_cons_zero, List.getElem?_cons_succ, List.cons_append, List.nil_append, at_0, at_1, at_2, at_3, at_4, at_5, at_6, ix_0, ix_1, ix_2, put_same, put_put, decide_eq_true_eq, Bool.not_eq_true', decide_eq_false_iff_not, ite_not, ite_true, ite_false, if_true, if_false, Bool.false_eq_true, ↓reduceIte, reduceIte, Nat.reduceAdd, Nat.reduceSub, Int.reduceToNat, Nat.reduceLeDiff, not_false_eq_true, true_and, and_true, ne_eq, Int.reduceEq, Nat.zero_add, Bool.not_true, Bool.not_false, reduceCtorEq, nc0, nc1, nc2, nc3, nc4, nc5, fIx_ref put_same, fLen_ref put_same, ↓D3.lc3.eq_1, fInt, fTuple, fList, fNeS_s, fEqS_s, ↓D3.gstar3.eq_1, fInK_s, fNinK_s, fLenS_s, ↓D3.slcT3.eq_1, fCatT_t, ↓D3.app3.eq_1, ↓D3.frz3.eq_1, ↓D3.dc23.eq_1, ↓D3.lcT3.eq_1, ↓D3.litRep3.eq_1, ↓D3.litRepM3.eq_1, ↓D3.rev3.eq_1, ↓D3.dget3.eq_1, ↓D3.disp3.eq_1, ↓D3.ienum3.eq_1, pop3, sset3]))
  intro L hL
  refine lcGoT_fil (fun j : Jb => j.1) (fun j : Jb => .lst (j.2.map D.str)) (fun j => .str (nmJ j)) nmB js [] _ put_same (by simp; omega) (fun j hj m' Kt hk => ?_) (fun j hj hb m' R hR => ?_) ?_
  · have ho := hjo j hj
    obtain ⟨jd, jh⟩ := j
    rcases wn_cases ho.w with ⟨x, e, hx⟩ | ⟨nm, a, b, t, e, hi, hwt⟩ | ⟨h, r, ps, e, n1, n2, hi, hl, hps⟩
    · simp only at e
      subst e
      have e1 : nmB (.tup [.str "name", .str x], jh) = !decide (x ∈ jh) := by simp [nmB]
      rw [e1] at hk
      (refine laterP_in ?_; repeat ((first | with_reducible refine laterP_i ?_ | with_reducible refine later_i ?_); try simp -implicitDefEqProofs -dsimp only [↓D3.seq3_stop, ↓D3.ifS3.eq_1, ↓D3.b3.eq_1, ↓D3.op3.eq_1, ↓D3.un3.eq_1, ↓D3.v3.eq_1, ↓D3.c3.eq_1, fIx_tup, fIx_lst, at3_0, at3_1, at3_2, at3_3, at3_4, at3_5, at3_6, start3, fI0_i, fI_i, fLt, fLe, fGt, fGe, fEqI, fNeI, fMin, fMax, ↓D3.asg3.eq_1, ↓D3.name3.eq_1, ↓D3.sub3.eq_1, ↓D3.ret3.eq_1, ↓D3.retN3.eq_1, ↓D3.nx3.eq_1, ↓D3.drop3.eq_1, ↓D3.par3.eq_1, ↓D3.aug3.eq_1, ↓D3.and3.eq_1, ↓D3.or3.eq_1, ↓D3.not3.eq_1, ↓D3.andV3.eq_1, ↓D3.orV3.eq_1, ↓D3.notV3.eq_1, ↓D3.if3.eq_1, ↓D3.nil3.eq_1, ↓D3.cons3.eq_1, ↓D3.tup3.eq_1, ↓D3.lst3.eq_1, ↓D3.lstM3.eq_1, ↓D3.gtup3.eq_1, ↓D3.gcons3.eq_1, ↓D3.gnil3.eq_1, ↓D3.gunl3.eq_1, ↓D3.bits3.eq_1, ↓D3.neg3.eq_1, ↓D3.chain3.eq_1, fIsi_int_int, fIsi_int_bool, fIsi_int_tuple, fIsi_int_str, fIsi_int_list, fIsi_bl_int, fIsi_bl_bool, fIsi_bl_tuple, fIsi_bl_str, fIsi_bl_list, fIsi_non_int, fIsi_non_bool, fIsi_non_tuple, fIsi_non_str, fIsi_non_list, fIsi_str_int, fIsi_str_bool, fIsi_str_tuple, fIsi_str_str, fIsi_str_list, fIsi_tup_int, fIsi_tup_bool, fIsi_tup_tuple, fIsi_tup_str, fIsi_tup_list, fIsi_lst_int, fIsi_lst_bool, fIsi_lst_tuple, fIsi_lst_str, fIsi_lst_list, fLen_lst, fLen_tup, fAbs, ↓D3.call3_k, ↓D3.kont_app, ↓D3.isN3.eq_1, ↓D3.notN3.eq_1, dIsN_non, dIsN_int, dIsN_bl, dIsN_str, dIsN_tup, dIsN_lst, ↓D3.slc3.eq_1, ↓D3.part3.eq_1, ↓D3.noPart3.eq_1, ↓D3.ilst3.eq_1, ↓D3.itup3.eq_1, ↓D3.irng1.eq_1, ↓D3.irng2.eq_1, ↓D3.for3.eq_1, fCat, fEq_int, fNe_int, fEq_bl, fNe_bl, fEq_pair, fNe_pair, List.map, List.replicate, List.length_cons, List.length_nil, List.set_cons_zero, List.set_cons_succ, List.getElem?_cons_zero, List.getElem?_cons_succ, List.cons_append, List.nil_append, at_0, at_1, at_2, at_3, at_4, at_5, at_6, ix_0, ix_1, ix_2, put_same, put_put, decide_eq_true_eq, Bool.not_eq_true', decide_eq_false_iff_not, ite_not, ite_true, ite_false, if_true, if_false, Bool.false_eq_true, ↓reduceIte, reduceIte, Nat.reduceAdd, Nat.reduceSub, Int.reduceToNat, Nat.reduceLeDiff, not_false_eq_true, true_and, and_true, ne_eq, Int.reduceEq, Nat.zero_add, Bool.not_true, Bool.not_false, reduceCtorEq, nc0, nc1, nc2, nc3, nc4, nc5, fIx_ref put_same, fLen_ref put_same, ↓D3.lc3.eq_1, fInt, fTuple, fList, fNeS_s, fEqS_s, ↓D3.gstar3.eq_1, fInK_s, fNinK_s, fLenS_s, ↓D3.slcT3.eq_1, fCatT_t, ↓D3.app3.eq_1, ↓D3.frz3.eq_1, ↓D3.dc23.eq_1, ↓D3.lcT3.eq_1, ↓D3.litRep3.eq_1, ↓D3.litRepM3.eq_1, ↓D3.rev3.eq_1, ↓D3.dget3.eq_1, ↓D3.disp3.eq_1, ↓D3.ienum3.eq_1, pop3, sset3]))
      have hjp := ho.h
      refine fNinD_pl (n := 140) (k := 140) ho.p.2.1 (nms_pl hjp) (by simp [dp]) (by have := nms_dp jh; simp only [dp] at this; omega) ?_
      rw [any_strs]
      exact hk
    · simp only at e
      subst e
      (refine laterP_in ?_; repeat ((first | with_reducible refine laterP_i ?_ | with_reducible refine later_i ?_); try simp -implicitDefEqProofs -dsimp only [↓D3.seq3_stop, ↓D3.ifS3.eq_1, ↓D3.b3.eq_1, ↓D3.op3.eq_1, ↓D3.un3.eq_1, ↓D3.v3.eq_1, ↓D3.c3.eq_1, fIx_tup, fIx_lst, at3_0, at3_1, at3_2, at3_3, at3_4, at3_5, at3_6, start3, fI0_i, fI_i, fLt, fLe, fGt, fGe, fEqI, fNeI, fMin, fMax, ↓D3.asg3.eq_1, ↓D3.name3.eq_1, ↓D3.sub3.eq_1, ↓D3.ret3.eq_1, ↓D3.retN3.eq_1, ↓D3.nx3.eq_1, ↓D3.drop3.eq_1, ↓D3.par3.eq_1, ↓D3.aug3.eq_1, ↓D3.and3.eq_1, ↓D3.or3.eq_1, ↓D3.not3.eq_1, ↓D3.andV3.eq_1, ↓D3.orV3.eq_1, ↓D3.notV3.eq_1, ↓D3.if3.eq_1, ↓D3.nil3.eq_1, ↓D3.cons3.eq_1, ↓D3.tup3.eq_1, ↓D3.lst3.eq_1, ↓D3.lstM3.eq_1, ↓D3.gtup3.eq_1, ↓D3.gcons3.eq_1, ↓D3.gnil3.eq_1, ↓D3.gunl3.eq_1, ↓D3.bits3.eq_1, ↓D3.neg3.eq_1, ↓D3.chain3.eq_1, fIsi_int_int, fIsi_int_bool, fIsi_int_tuple, fIsi_int_str, fIsi_int_list, fIsi_bl_int, fIsi_bl_bool, fIsi_bl_tuple, fIsi_bl_str, fIsi_bl_list, fIsi_non_int, fIsi_non_bool, fIsi_non_tuple, fIsi_non_str, fIsi_non_list, fIsi_str_int, fIsi_str_bool, fIsi_str_tuple, fIsi_str_str, fIsi_str_list, fIsi_tup_int, fIsi_tup_bool, fIsi_tup_tuple, fIsi_tup_str, fIsi_tup_list, fIsi_lst_int, fIsi_lst_bool, fIsi_lst_tuple, fIsi_lst_str, fIsi_lst_list, fLen_lst, fLen_tup, fAbs, ↓D3.call3_k, ↓D3.kont_app, ↓D3.isN3.eq_1, ↓D3.notN3.eq_1, dIsN_non, dIsN_int, dIsN_bl, dIsN_str, dIsN_tup, dIsN_lst, ↓D3.slc3.eq_1, ↓D3.part3.eq_1, ↓D3.noPart3.eq_1, ↓D3.ilst3.eq_1, ↓D3.itup3.eq_1, ↓D3.irng1.eq_1, ↓D3.irng2.eq_1, ↓D3.for3.eq_1, fCat, fEq_int, fNe_int, fEq_bl, fNe_bl, fEq_pair, fNe_pair, List.map, List.replicate, List.length_cons, List.length_nil, List.set_cons_zero, List.set_cons_succ, List.getElem?_cons_zero, List.getElem?_cons_succ, List.cons_append, List.nil_append, at_0, at_1, at_2, at_3, at_4, at_5, at_6, ix_0, ix_1, ix_2, put_same, put_put, decide_eq_true_eq, Bool.not_eq_true', decide_eq_false_iff_not, ite_not, ite_true, ite_false, if_true, if_false, Bool.false_eq_true, ↓reduceIte, reduceIte, Nat.reduceAdd, Nat.reduceSub, Int.reduceToNat, Nat.reduceLeDiff, not_false_eq_true, true_and, and_true, ne_eq, Int.reduceEq, Nat.zero_add, Bool.not_true, Bool.not_false, reduceCtorEq, nc0, nc1, nc2, nc3, nc4, nc5, fIx_ref put_same, fLen_ref put_same, ↓D3.lc3.eq_1, fInt, fTuple, fList, fNeS_s, fEqS_s, ↓D3.gstar3.eq_1, fInK_s, fNinK_s, fLenS_s, ↓D3.slcT3.eq_1, fCatT_t, ↓D3.app3.eq_1, ↓D3.frz3.eq_1, ↓D3.dc23.eq_1, ↓D3.lcT3.eq_1, ↓D3.litRep3.eq_1, ↓D3.litRepM3.eq_1, ↓D3.rev3.eq_1, ↓D3.dget3.eq_1, ↓D3.disp3.eq_1, ↓D3.ienum3.eq_1, pop3, sset3]))
      exact hk
    · simp only at e
      subst e
      have e1 : nmB (.tup (.str h :: r), jh) = false := by
        unfold nmB
        split
        · rename_i e
          obtain ⟨e1, _⟩ := List.cons.inj (D.tup.inj e)
          cases e1
          rw [decide_eq_false n1]
          rfl
        · rfl
      rw [e1] at hk
      (refine laterP_in ?_; repeat ((first | with_reducible refine laterP_i ?_ | with_reducible refine later_i ?_); try simp -implicitDefEqProofs -dsimp only [↓D3.seq3_stop, ↓D3.ifS3.eq_1, ↓D3.b3.eq_1, ↓D3.op3.eq_1, ↓D3.un3.eq_1, ↓D3.v3.eq_1, ↓D3.c3.eq_1, fIx_tup, fIx_lst, at3_0, at3_1, at3_2, at3_3, at3_4, at3_5, at3_6, start3, fI0_i, fI_i, fLt, fLe, fGt, fGe, fEqI, fNeI, fMin, fMax, ↓D3.asg3.eq_1, ↓D3.name3.eq_1, ↓D3.sub3.eq_1, ↓D3.ret3.eq_1, ↓D3.retN3.eq_1, ↓D3.nx3.eq_1, ↓D3.drop3.eq_1, ↓D3.par3.eq_1, ↓D3.aug3.eq_1, ↓D3.and3.eq_1, ↓D3.or3.eq_1, ↓D3.not3.eq_1, ↓D3.andV3.eq_1, ↓D3.orV3.eq_1, ↓D3.notV3.eq_1, ↓D3.if3.eq_1, ↓D3.nil3.eq_1, ↓D3.cons3.eq_1, ↓D3.tup3.eq_1, ↓D3.lst3.eq_1, ↓D3.lstM3.eq_1, ↓D3.gtup3.eq_1, ↓D3.gcons3.eq_1, ↓D3.gnil3.eq_1, ↓D3.gunl3.eq_1, ↓D3.bits3.eq_1, ↓D3.neg3.eq_1, ↓D3.chain3.eq_1, fIsi_int_int, fIsi_int_bool, fIsi_int_tuple, fIsi_int_str, fIsi_int_list, fIsi_bl_int, fIsi_bl_bool, fIsi_bl_tuple, fIsi_bl_str, fIsi_bl_list, fIsi_non_int, fIsi_non_bool, fIsi_non_tuple, fIsi_non_str, fIsi_non_list, fIsi_str_int, fIsi_str_bool, fIsi_str_tuple, fIsi_str_str, fIsi_str_list, fIsi_tup_int, fIsi_tup_bool, fIsi_tup_tuple, fIsi_tup_str, fIsi_tup_list, fIsi_lst_int, fIsi_lst_bool, fIsi_lst_tuple, fIsi_lst_str, fIsi_lst_list, fLen_lst, fLen_tup, fAbs, ↓D3.call3_k, ↓D3.kont_app, ↓D3.isN3.eq_1, ↓D3.notN3.eq_1, dIsN_non, dIsN_int, dIsN_bl, dIsN_str, dIsN_tup, dIsN_lst, ↓D3.slc3.eq_1, ↓D3.part3.eq_1, ↓D3.noPart3.eq_1, ↓D3.ilst3.eq_1, ↓D3.itup3.eq_1, ↓D3.irng1.eq_1, ↓D3.irng2.eq_1, ↓D3.for3.eq_1, fCat, fEq_int, fNe_int, fEq_bl, fNe_bl, fEq_pair, fNe_pair, List.map, List.replicate, List.length_cons, List.length_nil, List.set_cons_zero, List.set_cons_succ, List.getElem?_cons_zero, List.getElem?_cons_succ, List.cons_append, List.nil_append, at_0, at_1, at_2, at_3, at_4, at_5, at_6, ix_0, ix_1, ix_2, put_same, put_put, decide_eq_true_eq, Bool.not_eq_true', decide_eq_false_iff_not, ite_not, ite_true, ite_false, if_true, if_false, Bool.false_eq_true, ↓reduceIte, reduceIte, Nat.reduceAdd, Nat.reduceSub, Int.reduceToNat, Nat.reduceLeDiff, not_false_eq_true, true_and, and_true, ne_eq, Int.reduceEq, Nat.zero_add, Bool.not_true, Bool.not_false, reduceCtorEq, nc0, nc1, nc2, nc3, nc4, nc5, fIx_ref put_same, fLen_ref put_same, ↓D3.lc3.eq_1, fInt, fTuple, fList, fNeS_s, fEqS_s, ↓D3.gstar3.eq_1, fInK_s, fNinK_s, fLenS_s, ↓D3.slcT3.eq_1, fCatT_t, ↓D3.app3.eq_1, ↓D3.frz3.eq_1, ↓D3.dc23.eq_1, ↓D3.lcT3.eq_1, ↓D3.litRep3.eq_1, ↓D3.litRepM3.eq_1, ↓D3.rev3.eq_1, ↓D3.dget3.eq_1, ↓D3.disp3.eq_1, ↓D3.ienum3.eq_1, pop3, sset3]))
      exact ite2 (fun z => absurd z n1) (fun _ => hk)
  · obtain ⟨jd, jh⟩ := j
    unfold nmB at hb
    split at hb
    · rename_i k x e
      simp only at e
      subst e
      (refine laterP_in ?_; repeat ((first | with_reducible refine laterP_i ?_ | with_reducible refine later_i ?_); try simp -implicitDefEqProofs -dsimp only [↓D3.seq3_stop, ↓D3.ifS3.eq_1, ↓D3.b3.eq_1, ↓D3.op3.eq_1, ↓D3.un3.eq_1, ↓D3.v3.eq_1, ↓D3.c3.eq_1, fIx_tup, fIx_lst, at3_0, at3_1, at3_2, at3_3, at3_4, at3_5, at3_6, start3, fI0_i, fI_i, fLt, fLe, fGt, fGe, fEqI, fNeI, fMin, fMax, ↓D3.asg3.eq_1, ↓D3.name3.eq_1, ↓D3.sub3.eq_1, ↓D3.ret3.eq_1, ↓D3.retN3.eq_1, ↓D3.nx3.eq_1, ↓D3.drop3.eq_1, ↓D3.par3.eq_1, ↓D3.aug3.eq_1, ↓D3.and3.eq_1, ↓D3.or3.eq_1, ↓D3.not3.eq_1, ↓D3.andV3.eq_1, ↓D3.orV3.eq_1, ↓D3.notV3.eq_1, ↓D3.if3.eq_1, ↓D3.nil3.eq_1, ↓D3.cons3.eq_1, ↓D3.tup3.eq_1, ↓D3.lst3.eq_1, ↓D3.lstM3.eq_1, ↓D3.gtup3.eq_1, ↓D3.gcons3.eq_1, ↓D3.gnil3.eq_1, ↓D3.gunl3.eq_1, ↓D3.bits3.eq_1, ↓D3.neg3.eq_1, ↓D3.chain3.eq_1, fIsi_int_int, fIsi_int_bool, fIsi_int_tuple, fIsi_int_str, fIsi_int_list, fIsi_bl_int, fIsi_bl_bool, fIsi_bl_tuple, fIsi_bl_str, fIsi_bl_list, fIsi_non_int, fIsi_non_bool, fIsi_non_tuple, fIsi_non_str, fIsi_non_list, fIsi_str_int, fIsi_str_bool, fIsi_str_tuple, fIsi_str_str, fIsi_str_list, fIsi_tup_int, fIsi_tup_bool, fIsi_tup_tuple, fIsi_tup_str, fIsi_tup_list, fIsi_lst_int, fIsi_lst_bool, fIsi_lst_tuple, fIsi_lst_str, fIsi_lst_list, fLen_lst, fLen_tup, fAbs, ↓D3.call3_k, ↓D3.kont_app, ↓D3.isN3.eq_1, ↓D3.notN3.eq_1, dIsN_non, dIsN_int, dIsN_bl, dIsN_str, dIsN_tup, dIsN_lst, ↓D3.slc3.eq_1, ↓D3.part3.eq_1, ↓D3.noPart3.eq_1, ↓D3.ilst3.eq_1, ↓D3.itup3.eq_1, ↓D3.irng1.eq_1, ↓D3.irng2.eq_1, ↓D3.for3.eq_1, fCat, fEq_int, fNe_int, fEq_bl, fNe_bl, fEq_pair, fNe_pair, List.map, List.replicate, List.length_cons, List.length_nil, List.set_cons_zero, List.set_cons_succ, List.getElem?_cons_zero, List.getElem?_cons_succ, List.cons_append, List.nil_append, at_0, at_1, at_2, at_3, at_4, at_5, at_6, ix_0, ix_1, ix_2, put_same, put_put, decide_eq_true_eq, Bool.not_eq_true', decide_eq_false_iff_not, ite_not, ite_true, ite_false, if_true, if_false, Bool.false_eq_true, ↓reduceIte, reduceIte, Nat.reduceAdd, Nat.reduceSub, Int.reduceToNat, Nat.reduceLeDiff, not_false_eq_true, true_and, and_true, ne_eq, Int.reduceEq, Nat.zero_add, Bool.not_true, Bool.not_false, reduceCtorEq, nc0, nc1, nc2, nc3, nc4, nc5, fIx_ref put_same, fLen_ref put_same, ↓D3.lc3.eq_1, fInt, fTuple, fList, fNeS_s, fEqS_s, ↓D3.gstar3.eq_1, fInK_s, fNinK_s, fLenS_s, ↓D3.slcT3.eq_1, fCatT_t, ↓D3.app3.eq_1, ↓D3.frz3.eq_1, ↓D3.dc23.eq_1, ↓D3.lcT3.eq_1, ↓D3.litRep3.eq_1, ↓D3.litRepM3.eq_1, ↓D3.rev3.eq_1, ↓D3.dget3.eq_1, ↓D3.disp3.eq_1, ↓D3.ienum3.eq_1, pop3, sset3]))
      exact hR
    · cases hb
  · rw [del_put, del_none hL]
    (refine laterP_in ?_; repeat ((first | with_reducible refine laterP_i ?_ | with_reducible refine later_i ?_); try simp -implicitDefEqProofs -dsimp only [↓D3.seq3_stop, ↓D3.ifS3.eq_1, ↓D3.b3.eq_1, ↓D3.op3.eq_1, ↓D3.un3.eq_1, ↓D3.v3.eq_1, ↓D3.c3.eq_1, fIx_tup, fIx_lst, at3_0, at3_1, at3_2, at3_3, at3_4, at3_5, at3_6, start3, fI0_i, fI_i, fLt, fLe, fGt, fGe, fEqI, fNeI, fMin, fMax, ↓D3.asg3.eq_1, ↓D3.name3.eq_1, ↓D3.sub3.eq_1, ↓D3.ret3.eq_1, ↓D3.retN3.eq_1, ↓D3.nx3.eq_1, ↓D3.drop3.eq_1, ↓D3.par3.eq_1, ↓D3.aug3.eq_1, ↓D3.and3.eq_1, ↓D3.or3.eq_1, ↓D3.not3.eq_1, ↓D3.andV3.eq_1, ↓D3.orV3.eq_1, ↓D3.notV3.eq_1, ↓D3.if3.eq_1, ↓D3.nil3.eq_1, ↓D3.cons3.eq_1, ↓D3.tup3.eq_1, ↓D3.lst3.eq_1, ↓D3.lstM3.eq_1, ↓D3.gtup3.eq_1, ↓D3.gcons3.eq_1, ↓D3.gnil3.eq_1, ↓D3.gunl3.eq_1, ↓D3.bits3.eq_1, ↓D3.neg3.eq_1, ↓D3.chain3.eq_1, fIsi_int_int, fIsi_int_bool, fIsi_int_tuple, fIsi_int_str, fIsi_int_list, fIsi_bl_int, fIsi_bl_bool, fIsi_bl_tuple, fIsi_bl_str, fIsi_bl_list, fIsi_non_int, fIsi_non_bool, fIsi_non_tuple, fIsi_non_str, fIsi_non_list, fIsi_str_int, fIsi_str_bool, fIsi_str_tuple, fIsi_str_str, fIsi_str_list, fIsi_tup_int, fIsi_tup_bool, fIsi_tup_tuple, fIsi_tup_str, fIsi_tup_list, fIsi_lst_int, fIsi_lst_bool, fIsi_lst_tuple, fIsi_lst_str, fIsi_lst_list, fLen_lst, fLen_tup, fAbs, ↓D3.call3_k, ↓D3.kont_app, ↓D3.isN3.eq_1, ↓D3.notN3.eq_1, dIsN_non, dIsN_int, dIsN_bl, dIsN_str, dIsN_tup, dIsN_lst, ↓D3.slc3.eq_1, ↓D3.part3.eq_1, ↓D3.noPart3.eq_1, ↓D3.ilst3.eq_1, ↓D3.itup3.eq_1, ↓D3.irng1.eq_1, ↓D3.irng2.eq_1, ↓D3.for3.eq_1, fCat, fEq_int, fNe_int, fEq_bl, fNe_bl, fEq_pair, fNe_pair, List.map, List.replicate, List.length_cons, List.length_nil, List.set_cons_zero, List.set_cons_succ, List.getElem?_cons_zero, List.getElem?_cons_succ, List.cons_append, List.nil_append, at_0, at_1, at_2, at_3, at_4, at_5, at_6, ix_0, ix_1, ix_2, put_same, put_put, decide_eq_true_eq, Bool.not_eq_true', decide_eq_false_iff_not, ite_not, ite_true, ite_false, if_true, if_false, Bool.false_eq_true, ↓reduceIte, reduceIte, Nat.reduceAdd, Nat.reduceSub, Int.reduceToNat, Nat.reduceLeDiff, not_false_eq_true, true_and, and_true, ne_eq, Int.reduceEq, Nat.zero_add, Bool.not_true, Bool.not_false, reduceCtorEq, nc0, nc1, nc2, nc3, nc4, nc5, fIx_ref put_same, fLen_ref put_same, ↓D3.lc3.eq_1, fInt, fTuple, fList, fNeS_s, fEqS_s, ↓D3.gstar3.eq_1, fInK_s, fNinK_s, fLenS_s, ↓D3.slcT3.eq_1, fCatT_t, ↓D3.app3.eq_1, ↓D3.frz3.eq_1, ↓D3.dc23.eq_1, ↓D3.lcT3.eq_1, ↓D3.litRep3.eq_1, ↓D3.litRepM3.eq_1, ↓D3.rev3.eq_1, ↓D3.dget3.eq_1, ↓D3.disp3.eq_1, ↓D3.ienum3.eq_1, pop3, sset3]))
    have hfl : (js.filter nmB).length ≤ js.length := List.length_filter_le _ _
    refine ⟨(js.filter nmB).map nmJ, by rw [List.map_map]; rfl, by rw [List.length_map]; omega, fun ys nd so hz => ?_⟩
    have hys : ∀ z, z ∈ ys ↔ Fre d z := fun z => by
      rw [hz, hjf, List.mem_map]
      constructor
      · rintro ⟨j, hj, rfl⟩
        obtain ⟨h1, h2⟩ := List.mem_filter.mp hj
        refine ⟨j, h1, ?_⟩
        obtain ⟨jd, jh⟩ := j
        unfold nmB at h2
        split at h2
        · rename_i k x e
          simp only at e
          subst e
          rw [Bool.and_eq_true, Bool.not_eq_true', decide_eq_true_eq, decide_eq_false_iff_not] at h2
          obtain ⟨rfl, h3⟩ := h2
          exact ⟨rfl, h3⟩
        · cases h2
      · rintro ⟨j, hj, e, hx⟩
        obtain ⟨jd, jh⟩ := j
        simp only at e hx
        subst e
        exact ⟨_, List.mem_filter.mpr ⟨hj, by simp [nmB, hx]⟩, rfl⟩
    (refine laterP_in ?_; repeat ((first | with_reducible refine laterP_i ?_ | with_reducible refine later_i ?_); try simp -implicitDefEqProofs -dsimp only [↓D3.seq3_stop, ↓D3.ifS3.eq_1, ↓D3.b3.eq_1, ↓D3.op3.eq_1, ↓D3.un3.eq_1, ↓D3.v3.eq_1, ↓D3.c3.eq_1, fIx_tup, fIx_lst, at3_0, at3_1, at3_2, at3_3, at3_4, at3_5, at3_6, start3, fI0_i, fI_i, fLt, fLe, fGt, fGe, fEqI, fNeI, fMin, fMax, ↓D3.asg3.eq_1, ↓D3.name3.eq_1, ↓D3.sub3.eq_1, ↓D3.ret3.eq_1, ↓D3.retN3.eq_1, ↓D3.nx3.eq_1, ↓D3.drop3.eq_1, ↓D3.par3.eq_1, ↓D3.aug3.eq_1, ↓D3.and3.eq_1, ↓D3.or3.eq_1, ↓D3.not3.eq_1, ↓D3.andV3.eq_1, ↓D3.orV3.eq_1, ↓D3.notV3.eq_1, ↓D3.if3.eq_1, ↓D3.nil3.eq_1, ↓D3.cons3.eq_1, ↓D3.tup3.eq_1, ↓D3.lst3.eq_1, ↓D3.lstM3.eq_1, ↓D3.gtup3.eq_1, ↓D3.gcons3.eq_1, ↓D3.gnil3.eq_1, ↓D3.gunl3.eq_1, ↓D3.bits3.eq_1, ↓D3.neg3.eq_1, ↓D3.chain3.eq_1, fIsi_int_int, fIsi_int_bool, fIsi_int_tuple, fIsi_int_str, fIsi_int_list, fIsi_bl_int, fIsi_bl_bool, fIsi_bl_tuple, fIsi_bl_str, fIsi_bl_list, fIsi_non_int, fIsi_non_bool, fIsi_non_tuple, fIsi_non_str, fIsi_non_list, fIsi_str_int, fIsi_str_bool, fIsi_str_tuple, fIsi_str_str, fIsi_str_list, fIsi_tup_int, fIsi_tup_bool, fIsi_tup_tuple, fIsi_tup_str, fIsi_tup_list, fIsi_lst_int, fIsi_lst_bool, fIsi_lst_tuple, fIsi_lst_str, fIsi_lst_list, fLen_lst, fLen_tup, fAbs, ↓D3.call3_k, ↓D3.kont_app, ↓D3.isN3.eq_1, ↓D3.notN3.eq_1, dIsN_non, dIsN_int, dIsN_bl, dIsN_str, dIsN_tup, dIsN_lst, ↓D3.slc3.eq_1, ↓D3.part3.eq_1, ↓D3.noPart3.eq_1, ↓D3.ilst3.eq_1, ↓D3.itup3.eq_1, ↓D3.irng1.eq_1, ↓D3.irng2.eq_1, ↓D3.for3.eq_1, fCat, fEq_int, fNe_int, fEq_bl, fNe_bl, fEq_pair, fNe_pair, List.map, List.replicate, List.length_cons, List.length_nil, List.set_cons_zero, List.set_cons_succ, List.getElem?_cons_zero, List.getElem?_cons_succ, List.cons_append, List.nil_append, at_0, at_1, at_2, at_3, at_4, at_5, at_6, ix_0, ix_1, ix_2, put_same, put_put, decide_eq_true_eq, Bool.not_eq_true', decide_eq_false_iff_not, ite_not, ite_true, ite_false, if_true, if_false, Bool.false_eq_true, ↓reduceIte, reduceIte, Nat.reduceAdd, Nat.reduceSub, Int.reduceToNat, Nat.reduceLeDiff, not_false_eq_true, true_and, and_true, ne_eq, Int.reduceEq, Nat.zero_add, Bool.not_true, Bool.not_false, reduceCtorEq, nc0, nc1, nc2, nc3, nc4, nc5, fIx_ref put_same, fLen_ref put_same, ↓D3.lc3.eq_1, fInt, fTuple, fList, fNeS_s, fEqS_s, ↓D3.gstar3.eq_1, fInK_s, fNinK_s, fLenS_s, ↓D3.slcT3.eq_1, fCatT_t, ↓D3.app3.eq_1, ↓D3.frz3.eq_1, ↓D3.dc23.eq_1, ↓D3.lcT3.eq_1, ↓D3.litRep3.eq_1, ↓D3.litRepM3.eq_1, ↓D3.rev3.eq_1, ↓D3.dget3.eq_1, ↓D3.disp3.eq_1, ↓D3.ienum3.eq_1, pop3, sset3]))
    refine ⟨⟨by decide, by decide⟩, ?_⟩
    refine forIn3_ind (fun ds ρ m' => (∀ q, m q ≠ none → m' q = m q) ∧ ∃ x3 x4 x5 x6 : Option D, ρ = [some d, some (.lst (js.map jobD)), some (.lst (ys.map D.str)), x3, x4, x5, x6]) ?_ ?_ _ _ _ ⟨fun _ _ => rfl, none, none, none, none, rfl⟩
    · rintro dd ds ρ m' nx hnx ⟨ho, x3, x4, x5, x6, rfl⟩
      (refine laterP_in ?_; repeat ((first | with_reducible refine laterP_i ?_ | with_reducible refine later_i ?_); try simp -implicitDefEqProofs -dsimp only [↓D3.seq3_stop, ↓D3.ifS3.eq_1, ↓D3.b3.eq_1, ↓D3.op3.eq_1, ↓D3.un3.eq_1, ↓D3.v3.eq_1, ↓D3.c3.eq_1, fIx_tup, fIx_lst, at3_0, at3_1, at3_2, at3_3, at3_4, at3_5, at3_6, start3, fI0_i, fI_i, fLt, fLe, fGt, fGe, fEqI, fNeI, fMin, fMax, ↓D3.asg3.eq_1, ↓D3.name3.eq_1, ↓D3.sub3.eq_1, ↓D3.ret3.eq_1, ↓D3.retN3.eq_1, ↓D3.nx3.eq_1, ↓D3.drop3.eq_1, ↓D3.par3.eq_1, ↓D3.aug3.eq_1, ↓D3.and3.eq_1, ↓D3.or3.eq_1, ↓D3.not3.eq_1, ↓D3.andV3.eq_1, ↓D3.orV3.eq_1, ↓D3.notV3.eq_1, ↓D3.if3.eq_1, ↓D3.nil3.eq_1, ↓D3.cons3.eq_1, ↓D3.tup3.eq_1, ↓D3.lst3.eq_1, ↓D3.lstM3.eq_1, ↓D3.gtup3.eq_1, ↓D3.gcons3.eq_1, ↓D3.gnil3.eq_1, ↓D3.gunl3.eq_1, ↓D3.bits3.eq_1, ↓D3.neg3.eq_1, ↓D3.chain3.eq_1, fIsi_int_int, fIsi_int_bool, fIsi_int_tuple, fIsi_int_str, fIsi_int_list, fIsi_bl_int, fIsi_bl_bool, fIsi_bl_tuple, fIsi_bl_str, fIsi_bl_list, fIsi_non_int, fIsi_non_bool, fIsi_non_tuple, fIsi_non_str, fIsi_non_list, fIsi_str_int, fIsi_str_bool, fIsi_str_tuple, fIsi_str_str, fIsi_str_list, fIsi_tup_int, fIsi_tup_bool, fIsi_tup_tuple, fIsi_tup_str, fIsi_tup_list, fIsi_lst_int, fIsi_lst_bool, fIsi_lst_tuple, fIsi_lst_str, fIsi_lst_list, fLen_lst, fLen_tup, fAbs, ↓D3.call3_k, ↓D3.kont_app, ↓D3.isN3.eq_1, ↓D3.notN3.eq_1, dIsN_non, dIsN_int, dIsN_bl, dIsN_str, dIsN_tup, dIsN_lst, ↓D3.slc3.eq_1, ↓D3.part3.eq_1, ↓D3.noPart3.eq_1, ↓D3.ilst3.eq_1, ↓D3.itup3.eq_1, ↓D3.irng1.eq_1, ↓D3.irng2.eq_1, ↓D3.for3.eq_1, fCat, fEq_int, fNe_int, fEq_bl, fNe_bl, fEq_pair, fNe_pair, List.map, List.replicate, List.length_cons, List.length_nil, List.set_cons_zero, List.set_cons_succ, List.getElem?_cons_zero, List.getElem?_cons_succ, List.cons_append, List.nil_append, at_0, at_1, at_2, at_3, at_4, at_5, at_6, ix_0, ix_1, ix_2, put_same, put_put, decide_eq_true_eq, Bool.not_eq_true', decide_eq_false_iff_not, ite_not, ite_true, ite_false, if_true, if_false, Bool.false_eq_true, ↓reduceIte, reduceIte, Nat.reduceAdd, Nat.reduceSub, Int.reduceToNat, Nat.reduceLeDiff, not_false_eq_true, true_and, and_true, ne_eq, Int.reduceEq, Nat.zero_add, Bool.not_true, Bool.not_false, reduceCtorEq, nc0, nc1, nc2, nc3, nc4, nc5, fIx_ref put_same, fLen_ref put_same, ↓D3.lc3.eq_1, fInt, fTuple, fList, fNeS_s, fEqS_s, ↓D3.gstar3.eq_1, fInK_s, fNinK_s, fLenS_s, ↓D3.slcT3.eq_1, fCatT_t, ↓D3.app3.eq_1, ↓D3.frz3.eq_1, ↓D3.dc23.eq_1, ↓D3.lcT3.eq_1, ↓D3.litRep3.eq_1, ↓D3.litRepM3.eq_1, ↓D3.rev3.eq_1, ↓D3.dget3.eq_1, ↓D3.disp3.eq_1, ↓D3.ienum3.eq_1, pop3, sset3]))
      refine ⟨d, rfl, hw, hp, hd, by decide, fun zs a hr' hzs ha => ?_⟩
      have ez : zs = ys := hr'.one ⟨nd, so⟩ fun z => by rw [hzs, hys]
      subst ez
      have zl : zs.length ≤ 6 := nd_len zs N0 nd fun z hz => Fre.sub hw ((hys z).mp hz)
      (refine laterP_in ?_; repeat ((first | with_reducible refine laterP_i ?_ | with_reducible refine later_i ?_); try simp -implicitDefEqProofs -dsimp only [↓D3.seq3_stop, ↓D3.ifS3.eq_1, ↓D3.b3.eq_1, ↓D3.op3.eq_1, ↓D3.un3.eq_1, ↓D3.v3.eq_1, ↓D3.c3.eq_1, fIx_tup, fIx_lst, at3_0, at3_1, at3_2, at3_3, at3_4, at3_5, at3_6, start3, fI0_i, fI_i, fLt, fLe, fGt, fGe, fEqI, fNeI, fMin, fMax, ↓D3.asg3.eq_1, ↓D3.name3.eq_1, ↓D3.sub3.eq_1, ↓D3.ret3.eq_1, ↓D3.retN3.eq_1, ↓D3.nx3.eq_1, ↓D3.drop3.eq_1, ↓D3.par3.eq_1, ↓D3.aug3.eq_1, ↓D3.and3.eq_1, ↓D3.or3.eq_1, ↓D3.not3.eq_1, ↓D3.andV3.eq_1, ↓D3.orV3.eq_1, ↓D3.notV3.eq_1, ↓D3.if3.eq_1, ↓D3.nil3.eq_1, ↓D3.cons3.eq_1, ↓D3.tup3.eq_1, ↓D3.lst3.eq_1, ↓D3.lstM3.eq_1, ↓D3.gtup3.eq_1, ↓D3.gcons3.eq_1, ↓D3.gnil3.eq_1, ↓D3.gunl3.eq_1, ↓D3.bits3.eq_1, ↓D3.neg3.eq_1, ↓D3.chain3.eq_1, fIsi_int_int, fIsi_int_bool, fIsi_int_tuple, fIsi_int_str, fIsi_int_list, fIsi_bl_int, fIsi_bl_bool, fIsi_bl_tuple, fIsi_bl_str, fIsi_bl_list, fIsi_non_int, fIsi_non_bool, fIsi_non_tuple, fIsi_non_str, fIsi_non_list, fIsi_str_int, fIsi_str_bool, fIsi_str_tuple, fIsi_str_str, fIsi_str_list, fIsi_tup_int, fIsi_tup_bool, fIsi_tup_tuple, fIsi_tup_str, fIsi_tup_list, fIsi_lst_int, fIsi_lst_bool, fIsi_lst_tuple, fIsi_lst_str, fIsi_lst_list, fLen_lst, fLen_tup, fAbs, ↓D3.call3_k, ↓D3.kont_app, ↓D3.isN3.eq_1, ↓D3.notN3.eq_1, dIsN_non, dIsN_int, dIsN_bl, dIsN_str, dIsN_tup, dIsN_lst, ↓D3.slc3.eq_1, ↓D3.part3.eq_1, ↓D3.noPart3.eq_1, ↓D3.ilst3.eq_1, ↓D3.itup3.eq_1, ↓D3.irng1.eq_1, ↓D3.irng2.eq_1, ↓D3.for3.eq_1, fCat, fEq_int, fNe_int, fEq_bl, fNe_bl, fEq_pair, fNe_pair, List.map, List.replicate, List.length_cons, List.length_nil, List.set_cons_zero, List.set_cons_succ, List.getElem?_cons_zero, List.getElem?_cons_succ, List.cons_append, List.nil_append, at_0, at_1, at_2, at_3, at_4, at_5, at_6, ix_0, ix_1, ix_2, put_same, put_put, decide_eq_true_eq, Bool.not_eq_true', decide_eq_false_iff_not, ite_not, ite_true, ite_false, if_true, if_false, Bool.false_eq_true, ↓reduceIte, reduceIte, Nat.reduceAdd, Nat.reduceSub, Int.reduceToNat, Nat.reduceLeDiff, not_false_eq_true, true_and, and_true, ne_eq, Int.reduceEq, Nat.zero_add, Bool.not_true, Bool.not_false, reduceCtorEq, nc0, nc1, nc2, nc3, nc4, nc5, fIx_ref put_same, fLen_ref put_same, ↓D3.lc3.eq_1, fInt, fTuple, fList, fNeS_s, fEqS_s, ↓D3.gstar3.eq_1, fInK_s, fNinK_s, fLenS_s, ↓D3.slcT3.eq_1, fCatT_t, ↓D3.app3.eq_1, ↓D3.frz3.eq_1, ↓D3.dc23.eq_1, ↓D3.lcT3.eq_1, ↓D3.litRep3.eq_1, ↓D3.litRepM3.eq_1, ↓D3.rev3.eq_1, ↓D3.dget3.eq_1, ↓D3.disp3.eq_1, ↓D3.ienum3.eq_1, pop3, sset3]))
      refine ⟨a, _, rfl, put_same, rfl, ?_⟩
      (refine laterP_in ?_; repeat ((first | with_reducible refine laterP_i ?_ | with_reducible refine later_i ?_); try simp -implicitDefEqProofs -dsimp only [↓D3.seq3_stop, ↓D3.ifS3.eq_1, ↓D3.b3.eq_1, ↓D3.op3.eq_1, ↓D3.un3.eq_1, ↓D3.v3.eq_1, ↓D3.c3.eq_1, fIx_tup, fIx_lst, at3_0, at3_1, at3_2, at3_3, at3_4, at3_5, at3_6, start3, fI0_i, fI_i, fLt, fLe, fGt, fGe, fEqI, fNeI, fMin, fMax, ↓D3.asg3.eq_1, ↓D3.name3.eq_1, ↓D3.sub3.eq_1, ↓D3.ret3.eq_1, ↓D3.retN3.eq_1, ↓D3.nx3.eq_1, ↓D3.drop3.eq_1, ↓D3.par3.eq_1, ↓D3.aug3.eq_1, ↓D3.and3.eq_1, ↓D3.or3.eq_1, ↓D3.not3.eq_1, ↓D3.andV3.eq_1, ↓D3.orV3.eq_1, ↓D3.notV3.eq_1, ↓D3.if3.eq_1, ↓D3.nil3.eq_1, ↓D3.cons3.eq_1, ↓D3.tup3.eq_1, ↓D3.lst3.eq_1, ↓D3.lstM3.eq_1, ↓D3.gtup3.eq_1, ↓D3.gcons3.eq_1, ↓D3.gnil3.eq_1, ↓D3.gunl3.eq_1, ↓D3.bits3.eq_1, ↓D3.neg3.eq_1, ↓D3.chain3.eq_1, fIsi_int_int, fIsi_int_bool, fIsi_int_tuple, fIsi_int_str, fIsi_int_list, fIsi_bl_int, fIsi_bl_bool, fIsi_bl_tuple, fIsi_bl_str, fIsi_bl_list, fIsi_non_int, fIsi_non_bool, fIsi_non_tuple, fIsi_non_str, fIsi_non_list, fIsi_str_int, fIsi_str_bool, fIsi_str_tuple, fIsi_str_str, fIsi_str_list, fIsi_tup_int, fIsi_tup_bool, fIsi_tup_tuple, fIsi_tup_str, fIsi_tup_list, fIsi_lst_int, fIsi_lst_bool, fIsi_lst_tuple, fIsi_lst_str, fIsi_lst_list, fLen_lst, fLen_tup, fAbs, ↓D3.call3_k, ↓D3.kont_app, ↓D3.isN3.eq_1, ↓D3.notN3.eq_1, dIsN_non, dIsN_int, dIsN_bl, dIsN_str, dIsN_tup, dIsN_lst, ↓D3.slc3.eq_1, ↓D3.part3.eq_1, ↓D3.noPart3.eq_1, ↓D3.ilst3.eq_1, ↓D3.itup3.eq_1, ↓D3.irng1.eq_1, ↓D3.irng2.eq_1, ↓D3.for3.eq_1, fCat, fEq_int, fNe_int, fEq_bl, fNe_bl, fEq_pair, fNe_pair, List.map, List.replicate, List.length_cons, List.length_nil, List.set_cons_zero, List.set_cons_succ, List.getElem?_cons_zero, List.getElem?_cons_succ, List.cons_append, List.nil_append, at_0, at_1, at_2, at_3, at_4, at_5, at_6, ix_0, ix_1, ix_2, put_same, put_put, decide_eq_true_eq, Bool.not_eq_true', decide_eq_false_iff_not, ite_not, ite_true, ite_false, if_true, if_false, Bool.false_eq_true, ↓reduceIte, reduceIte, Nat.reduceAdd, Nat.reduceSub, Int.reduceToNat, Nat.reduceLeDiff, not_false_eq_true, true_and, and_true, ne_eq, Int.reduceEq, Nat.zero_add, Bool.not_true, Bool.not_false, reduceCtorEq, nc0, nc1, nc2, nc3, nc4, nc5, fIx_ref put_same, fLen_ref put_same, ↓D3.lc3.eq_1, fInt, fTuple, fList, fNeS_s, fEqS_s, ↓D3.gstar3.eq_1, fInK_s, fNinK_s, fLenS_s, ↓D3.slcT3.eq_1, fCatT_t, ↓D3.app3.eq_1, ↓D3.frz3.eq_1, ↓D3.dc23.eq_1, ↓D3.lcT3.eq_1, ↓D3.litRep3.eq_1, ↓D3.litRepM3.eq_1, ↓D3.rev3.eq_1, ↓D3.dget3.eq_1, ↓D3.disp3.eq_1, ↓D3.ienum3.eq_1, pop3, sset3]))
      refine ⟨a, _, rfl, put_same, ?_⟩
      rw [fNe_strs (fun y hy => n0 y ((hys y).mp hy))]
      (refine laterP_in ?_; repeat ((first | with_reducible refine laterP_i ?_ | with_reducible refine later_i ?_); try simp -implicitDefEqProofs -dsimp only [↓D3.seq3_stop, ↓D3.ifS3.eq_1, ↓D3.b3.eq_1, ↓D3.op3.eq_1, ↓D3.un3.eq_1, ↓D3.v3.eq_1, ↓D3.c3.eq_1, fIx_tup, fIx_lst, at3_0, at3_1, at3_2, at3_3, at3_4, at3_5, at3_6, start3, fI0_i, fI_i, fLt, fLe, fGt, fGe, fEqI, fNeI, fMin, fMax, ↓D3.asg3.eq_1, ↓D3.name3.eq_1, ↓D3.sub3.eq_1, ↓D3.ret3.eq_1, ↓D3.retN3.eq_1, ↓D3.nx3.eq_1, ↓D3.drop3.eq_1, ↓D3.par3.eq_1, ↓D3.aug3.eq_1, ↓D3.and3.eq_1, ↓D3.or3.eq_1, ↓D3.not3.eq_1, ↓D3.andV3.eq_1, ↓D3.orV3.eq_1, ↓D3.notV3.eq_1, ↓D3.if3.eq_1, ↓D3.nil3.eq_1, ↓D3.cons3.eq_1, ↓D3.tup3.eq_1, ↓D3.lst3.eq_1, ↓D3.lstM3.eq_1, ↓D3.gtup3.eq_1, ↓D3.gcons3.eq_1, ↓D3.gnil3.eq_1, ↓D3.gunl3.eq_1, ↓D3.bits3.eq_1, ↓D3.neg3.eq_1, ↓D3.chain3.eq_1, fIsi_int_int, fIsi_int_bool, fIsi_int_tuple, fIsi_int_str, fIsi_int_list, fIsi_bl_int, fIsi_bl_bool, fIsi_bl_tuple, fIsi_bl_str, fIsi_bl_list, fIsi_non_int, fIsi_non_bool, fIsi_non_tuple, fIsi_non_str, fIsi_non_list, fIsi_str_int, fIsi_str_bool, fIsi_str_tuple, fIsi_str_str, fIsi_str_list, fIsi_tup_int, fIsi_tup_bool, fIsi_tup_tuple, fIsi_tup_str, fIsi_tup_list, fIsi_lst_int, fIsi_lst_bool, fIsi_lst_tuple, fIsi_lst_str, fIsi_lst_list, fLen_lst, fLen_tup, fAbs, ↓D3.call3_k, ↓D3.kont_app, ↓D3.isN3.eq_1, ↓D3.notN3.eq_1, dIsN_non, dIsN_int, dIsN_bl, dIsN_str, dIsN_tup, dIsN_lst, ↓D3.slc3.eq_1, ↓D3.part3.eq_1, ↓D3.noPart3.eq_1, ↓D3.ilst3.eq_1, ↓D3.itup3.eq_1, ↓D3.irng1.eq_1, ↓D3.irng2.eq_1, ↓D3.for3.eq_1, fCat, fEq_int, fNe_int, fEq_bl, fNe_bl, fEq_pair, fNe_pair, List.map, List.replicate, List.length_cons, List.length_nil, List.set_cons_zero, List.set_cons_succ, List.getElem?_cons_zero, List.getElem?_cons_succ, List.cons_append, List.nil_append, at_0, at_1, at_2, at_3, at_4, at_5, at_6, ix_0, ix_1, ix_2, put_same, put_put, decide_eq_true_eq, Bool.not_eq_true', decide_eq_false_iff_not, ite_not, ite_true, ite_false, if_true, if_false, Bool.false_eq_true, ↓reduceIte, reduceIte, Nat.reduceAdd, Nat.reduceSub, Int.reduceToNat, Nat.reduceLeDiff, not_false_eq_true, true_and, and_true, ne_eq, Int.reduceEq, Nat.zero_add, Bool.not_true, Bool.not_false, reduceCtorEq, nc0, nc1, nc2, nc3, nc4, nc5, fIx_ref put_same, fLen_ref put_same, ↓D3.lc3.eq_1, fInt, fTuple, fList, fNeS_s, fEqS_s, ↓D3.gstar3.eq_1, fInK_s, fNinK_s, fLenS_s, ↓D3.slcT3.eq_1, fCatT_t, ↓D3.app3.eq_1, ↓D3.frz3.eq_1, ↓D3.dc23.eq_1, ↓D3.lcT3.eq_1, ↓D3.litRep3.eq_1, ↓D3.litRepM3.eq_1, ↓D3.rev3.eq_1, ↓D3.dget3.eq_1, ↓D3.disp3.eq_1, ↓D3.ienum3.eq_1, pop3, sset3]))
      refine ⟨d, rfl, hw, hp, hd, by decide, ?_⟩
      (refine laterP_in ?_; repeat ((first | with_reducible refine laterP_i ?_ | with_reducible refine later_i ?_); try simp -implicitDefEqProofs -dsimp only [↓D3.seq3_stop, ↓D3.ifS3.eq_1, ↓D3.b3.eq_1, ↓D3.op3.eq_1, ↓D3.un3.eq_1, ↓D3.v3.eq_1, ↓D3.c3.eq_1, fIx_tup, fIx_lst, at3_0, at3_1, at3_2, at3_3, at3_4, at3_5, at3_6, start3, fI0_i, fI_i, fLt, fLe, fGt, fGe, fEqI, fNeI, fMin, fMax, ↓D3.asg3.eq_1, ↓D3.name3.eq_1, ↓D3.sub3.eq_1, ↓D3.ret3.eq_1, ↓D3.retN3.eq_1, ↓D3.nx3.eq_1, ↓D3.drop3.eq_1, ↓D3.par3.eq_1, ↓D3.aug3.eq_1, ↓D3.and3.eq_1, ↓D3.or3.eq_1, ↓D3.not3.eq_1, ↓D3.andV3.eq_1, ↓D3.orV3.eq_1, ↓D3.notV3.eq_1, ↓D3.if3.eq_1, ↓D3.nil3.eq_1, ↓D3.cons3.eq_1, ↓D3.tup3.eq_1, ↓D3.lst3.eq_1, ↓D3.lstM3.eq_1, ↓D3.gtup3.eq_1, ↓D3.gcons3.eq_1, ↓D3.gnil3.eq_1, ↓D3.gunl3.eq_1, ↓D3.bits3.eq_1, ↓D3.neg3.eq_1, ↓D3.chain3.eq_1, fIsi_int_int, fIsi_int_bool, fIsi_int_tuple, fIsi_int_str, fIsi_int_list, fIsi_bl_int, fIsi_bl_bool, fIsi_bl_tuple, fIsi_bl_str, fIsi_bl_list, fIsi_non_int, fIsi_non_bool, fIsi_non_tuple, fIsi_non_str, fIsi_non_list, fIsi_str_int, fIsi_str_bool, fIsi_str_tuple, fIsi_str_str, fIsi_str_list, fIsi_tup_int, fIsi_tup_bool, fIsi_tup_tuple, fIsi_tup_str, fIsi_tup_list, fIsi_lst_int, fIsi_lst_bool, fIsi_lst_tuple, fIsi_lst_str, fIsi_lst_list, fLen_lst, fLen_tup, fAbs, ↓D3.call3_k, ↓D3.kont_app, ↓D3.isN3.eq_1, ↓D3.notN3.eq_1, dIsN_non, dIsN_int, dIsN_bl, dIsN_str, dIsN_tup, dIsN_lst, ↓D3.slc3.eq_1, ↓D3.part3.eq_1, ↓D3.noPart3.eq_1, ↓D3.ilst3.eq_1, ↓D3.itup3.eq_1, ↓D3.irng1.eq_1, ↓D3.irng2.eq_1, ↓D3.for3.eq_1, fCat, fEq_int, fNe_int, fEq_bl, fNe_bl, fEq_pair, fNe_pair, List.map, List.replicate, List.length_cons, List.length_nil, List.set_cons_zero, List.set_cons_succ, List.getElem?_cons_zero, List.getElem?_cons_succ, List.cons_append, List.nil_append, at_0, at_1, at_2, at_3, at_4, at_5, at_6, ix_0, ix_1, ix_2, put_same, put_put, decide_eq_true_eq, Bool.not_eq_true', decide_eq_false_iff_not, ite_not, ite_true, ite_false, if_true, if_false, Bool.false_eq_true, ↓reduceIte, reduceIte, Nat.reduceAdd, Nat.reduceSub, Int.reduceToNat, Nat.reduceLeDiff, not_false_eq_true, true_and, and_true, ne_eq, Int.reduceEq, Nat.zero_add, Bool.not_true, Bool.not_false, reduceCtorEq, nc0, nc1, nc2, nc3, nc4, nc5, fIx_ref put_same, fLen_ref put_same, ↓D3.lc3.eq_1, fInt, fTuple, fList, fNeS_s, fEqS_s, ↓D3.gstar3.eq_1, fInK_s, fNinK_s, fLenS_s, ↓D3.slcT3.eq_1, fCatT_t, ↓D3.app3.eq_1, ↓D3.frz3.eq_1, ↓D3.dc23.eq_1, ↓D3.lcT3.eq_1, ↓D3.litRep3.eq_1, ↓D3.litRepM3.eq_1, ↓D3.rev3.eq_1, ↓D3.dget3.eq_1, ↓D3.disp3.eq_1, ↓D3.ienum3.eq_1, pop3, sset3, List.length_map, hjl]))
      refine ⟨⟨_, rfl⟩, _, rfl, by simp; omega, ?_⟩
      refine hnx _ _ ⟨fun q hq => ?_, _, _, _, _, rfl⟩
      have ne : q ≠ a := fun e => by subst e; rw [ho q hq] at ha; exact hq ha
      rw [put_ne ne, ho q hq]
    · rintro ρ m' ⟨ho, x3, x4, x5, x6, rfl⟩
      (refine laterP_in ?_; repeat ((first | with_reducible refine laterP_i ?_ | with_reducible refine later_i ?_); try simp -implicitDefEqProofs -dsimp only [↓D3.seq3_stop, ↓D3.ifS3.eq_1, ↓D3.b3.eq_1, ↓D3.op3.eq_1, ↓D3.un3.eq_1, ↓D3.v3.eq_1, ↓D3.c3.eq_1, fIx_tup, fIx_lst, at3_0, at3_1, at3_2, at3_3, at3_4, at3_5, at3_6, start3, fI0_i, fI_i, fLt, fLe, fGt, fGe, fEqI, fNeI, fMin, fMax, ↓D3.asg3.eq_1, ↓D3.name3.eq_1, ↓D3.sub3.eq_1, ↓D3.ret3.eq_1, ↓D3.retN3.eq_1, ↓D3.nx3.eq_1, ↓D3.drop3.eq_1, ↓D3.par3.eq_1, ↓D3.aug3.eq_1, ↓D3.and3.eq_1, ↓D3.or3.eq_1, ↓D3.not3.eq_1, ↓D3.andV3.eq_1, ↓D3.orV3.eq_1, ↓D3.notV3.eq_1, ↓D3.if3.eq_1, ↓D3.nil3.eq_1, ↓D3.cons3.eq_1, ↓D3.tup3.eq_1, ↓D3.lst3.eq_1, ↓D3.lstM3.eq_1, ↓D3.gtup3.eq_1, ↓D3.gcons3.eq_1, ↓D3.gnil3.eq_1, ↓D3.gunl3.eq_1, ↓D3.bits3.eq_1, ↓D3.neg3.eq_1, ↓D3.chain3.eq_1, fIsi_int_int, fIsi_int_bool, fIsi_int_tuple, fIsi_int_str, fIsi_int_list, fIsi_bl_int, fIsi_bl_bool, fIsi_bl_tuple, fIsi_bl_str, fIsi_bl_list, fIsi_non_int, fIsi_non_bool, fIsi_non_tuple, fIsi_non_str, fIsi_non_list, fIsi_str_int, fIsi_str_bool, fIsi_str_tuple, fIsi_str_str, fIsi_str_list, fIsi_tup_int, fIsi_tup_bool, fIsi_tup_tuple, fIsi_tup_str, fIsi_tup_list, fIsi_lst_int, fIsi_lst_bool, fIsi_lst_tuple, fIsi_lst_str, fIsi_lst_list, fLen_lst, fLen_tup, fAbs, ↓D3.call3_k, ↓D3.kont_app, ↓D3.isN3.eq_1, ↓D3.notN3.eq_1, dIsN_non, dIsN_int, dIsN_bl, dIsN_str, dIsN_tup, dIsN_lst, ↓D3.slc3.eq_1, ↓D3.part3.eq_1, ↓D3.noPart3.eq_1, ↓D3.ilst3.eq_1, ↓D3.itup3.eq_1, ↓D3.irng1.eq_1, ↓D3.irng2.eq_1, ↓D3.for3.eq_1, fCat, fEq_int, fNe_int, fEq_bl, fNe_bl, fEq_pair, fNe_pair, List.map, List.replicate, List.length_cons, List.length_nil, List.set_cons_zero, List.set_cons_succ, List.getElem?_cons_zero, List.getElem?_cons_succ, List.cons_append, List.nil_append, at_0, at_1, at_2, at_3, at_4, at_5, at_6, ix_0, ix_1, ix_2, put_same, put_put, decide_eq_true_eq, Bool.not_eq_true', decide_eq_false_iff_not, ite_not, ite_true, ite_false, if_true, if_false, Bool.false_eq_true, ↓reduceIte, reduceIte, Nat.reduceAdd, Nat.reduceSub, Int.reduceToNat, Nat.reduceLeDiff, not_false_eq_true, true_and, and_true, ne_eq, Int.reduceEq, Nat.zero_add, Bool.not_true, Bool.not_false, reduceCtorEq, nc0, nc1, nc2, nc3, nc4, nc5, fIx_ref put_same, fLen_ref put_same, ↓D3.lc3.eq_1, fInt, fTuple, fList, fNeS_s, fEqS_s, ↓D3.gstar3.eq_1, fInK_s, fNinK_s, fLenS_s, ↓D3.slcT3.eq_1, fCatT_t, ↓D3.app3.eq_1, ↓D3.frz3.eq_1, ↓D3.dc23.eq_1, ↓D3.lcT3.eq_1, ↓D3.litRep3.eq_1, ↓D3.litRepM3.eq_1, ↓D3.rev3.eq_1, ↓D3.dget3.eq_1, ↓D3.disp3.eq_1, ↓D3.ienum3.eq_1, pop3, sset3]))
      exact q m' ho
abbrev N5 : List Str := ["x", "y", "b", "e", "log"]
theorem n0_nm {x : Str} (h : x ∈ N0) : isNm (.str x) = true ∧ Pl 140 (.str x) := by
  simp only [N0, List.mem_cons, List.not_mem_nil, or_false] at h
  rcases h with rfl | rfl | rfl | rfl | rfl | rfl <;> exact ⟨by decide +kernel, by decide +kernel, by decide +kernel⟩
theorem n5_n0 {x : Str} (h : x ∈ N5) : x ∈ N0 := by
  simp only [N5, N0, List.mem_cons, List.not_mem_nil, or_false] at h ⊢
  rcases h with rfl | rfl | rfl | rfl | rfl <;> simp
theorem map_erase (f : Str → D) : ∀ (xs : List Str) (k : Nat), (xs.map f).eraseIdx k = (xs.eraseIdx k).map f
  | [], _ => rfl
  | _ :: _, 0 => rfl
  | x :: xs, k + 1 => by
    show f x :: (xs.map f).eraseIdx k = f x :: (xs.eraseIdx k).map f
    rw [map_erase f xs k]
theorem ok_law (T : Tx w K mg fa fd) : Fn3 P w K mg base 22 (fa 16) (fd 16) ["script"] sp3Law := by
  refine fn3 T.d_law.F sc_law (fun ds m Q h => by obtain ⟨_, rfl, _⟩ := h; rfl) fun cdv A outer s H E ds m Q hr h => ?_
  obtain ⟨ns, rfl, hl, q⟩ := h
  refine ⟨_, (ss_cons (s_for PassesOwn.never rfl (i_list (e_cat (e_lst (a_cons e_int a_nil)) (e_slice (e_v 0) o_none (o_some e_int)))) (g_name (i := 1) sc_law.nd)
      (ss_cons (s_set (i := 2) sc_law.nd (e_call T.d_law_deck (ok_law_deck T) (hr.mono (by omega)) rfl (a_cons (e_v 1) (a_cons e_int a_nil))))
      (ss_cons (s_set (i := 3) sc_law.nd (e_lstM (a_cons e_str (a_cons e_str (a_cons e_str (a_cons e_str (a_cons e_str a_nil)))))))
      (ss_cons (s_for PassesOwn.never rfl (i_range1 rfl T.b_range (a_cons e_int a_nil)) (g_name (i := 4) sc_law.nd)
      (ss_one (s_expr (e_pop (e_v 3) (e_call T.d_law_pick (ok_law_pick T) (hr.mono (by omega)) rfl (a_cons (e_v 2) (a_cons (e_len rfl T.b_len (e_v 3)) a_nil)))))))
      (ss_frz (i := 3) (ss_cons (s_set (i := 5) sc_law.nd (e_call T.d_law_term (ok_law_term T) (hr.mono (by omega)) rfl (a_cons (e_v 2) (a_cons (e_add e_int (e_call T.d_law_pick (ok_law_pick T) (hr.mono (by omega)) rfl (a_cons (e_v 2) (a_cons e_int a_nil)))) (a_cons (e_v 3) a_nil)))))
      (ss_cons (s_set (i := 6) sc_law.nd (e_call T.d_law_limit (ok_law_limit T) (hr.mono (by omega)) rfl (a_cons (e_v 2) (a_cons (e_ix (e_lst (a_cons e_str (a_cons e_str (a_cons e_str a_nil)))) (e_call T.d_law_pick (ok_law_pick T) (hr.mono (by omega)) rfl (a_cons (e_v 2) (a_cons e_int a_nil)))) (a_cons (e_v 3) a_nil)))))
      (ss_cons (s_set (i := 7) sc_law.nd (e_tup (a_cons e_str (a_cons (e_v 5) (a_cons (e_tup (a_cons e_str (a_cons (e_v 6) (a_cons (e_tup (a_cons e_str (a_cons (e_ix (e_v 3) e_int) a_nil))) a_nil)))) a_nil)))))
      (ss_cons (s_if (t_w (t_or (t_not (t_val (e_call T.d_law_right (ok_law_right T) (hr.mono (by omega)) rfl (a_cons (e_v 5) a_nil)))) (t_or (t_not (t_val (e_call T.d_law_right (ok_law_right T) (hr.mono (by omega)) rfl (a_cons (e_v 6) a_nil)))) (t_or1 (t_not (t_val (e_call T.d_law_right (ok_law_right T) (hr.mono (by omega)) rfl (a_cons (e_v 7) a_nil)))))))) (ss_one (s_ret e_bl)) ss_nil)
      (ss_cons (s_if (t_w (t_or (t_neI (e_call T.d_parts_of (ok_parts_of T) (hr.mono (by omega)) rfl (a_cons (e_tup (a_cons e_str (a_cons (e_v 5) a_nil))) a_nil)) (e_add (e_call T.d_parts_of (ok_parts_of T) (hr.mono (by omega)) rfl (a_cons (e_v 5) a_nil)) e_int)) (t_or1 (t_neI (e_call T.d_parts_of (ok_parts_of T) (hr.mono (by omega)) rfl (a_cons (e_v 7) a_nil)) (e_add (e_add (e_call T.d_parts_of (ok_parts_of T) (hr.mono (by omega)) rfl (a_cons (e_v 5) a_nil)) (e_call T.d_parts_of (ok_parts_of T) (hr.mono (by omega)) rfl (a_cons (e_v 6) a_nil))) e_int))))) (ss_one (s_ret e_bl)) ss_nil)
      (ss_one (s_if (t_ne hr (e_call T.d_names_of (ok_names_of T) (hr.mono (by omega)) rfl (a_cons (e_v 7) a_nil)) (e_sset rfl T.b_sorted rfl T.b_set (e_cat (e_cat (e_call T.d_names_of (ok_names_of T) (hr.mono (by omega)) rfl (a_cons (e_v 5) a_nil)) (e_call T.d_names_of (ok_names_of T) (hr.mono (by omega)) rfl (a_cons (e_v 6) a_nil))) (e_slice (e_v 3) o_none (o_some e_int))))) (ss_one (s_ret e_bl)) ss_nil))))))))))))
      (ss_one (s_ret e_bl))), ?_⟩
  (refine laterP_in ?_; repeat ((first | with_reducible refine laterP_i ?_ | with_reducible refine later_i ?_); try simp -implicitDefEqProofs -dsimp only [↓D3.seq3_stop, ↓D3.ifS3.eq_1, ↓D3.b3.eq_1, ↓D3.op3.eq_1, ↓D3.un3.eq_1, ↓D3.v3.eq_1, ↓D3.c3.eq_1, fIx_tup, fIx_lst, at3_0, at3_1, at3_2, at3_3, at3_4, at3_5, at3_6, start3, fI0_i, fI_i, fLt, fLe, fGt, fGe, fEqI, fNeI, fMin, fMax, ↓D3.asg3.eq_1, ↓D3.name3.eq_1, ↓D3.sub3.eq_1, ↓D3.ret3.eq_1, ↓D3.retN3.eq_1, ↓D3.nx3.eq_1, ↓D3.drop3.eq_1, ↓D3.par3.eq_1, ↓D3.aug3.eq_1, ↓D3.and3.eq_1, ↓D3.or3.eq_1, ↓D3.not3.eq_1, ↓D3.andV3.eq_1, ↓D3.orV3.eq_1, ↓D3.notV3.eq_1, ↓D3.if3.eq_1, ↓D3.nil3.eq_1, ↓D3.cons3.eq_1, ↓D3.tup3.eq_1, ↓D3.lst3.eq_1, ↓D3.lstM3.eq_1, ↓D3.gtup3.eq_1, ↓D3.gcons3.eq_1, ↓D3.gnil3.eq_1, ↓D3.gunl3.eq_1, ↓D3.bits3.eq_1, ↓D3.neg3.eq_1, ↓D3.chain3.eq_1, fIsi_int_int, fIsi_int_bool, fIsi_int_tuple, fIsi_int_str, fIsi_int_list, fIsi_bl_int, fIsi_bl_bool, fIsi_bl_tuple, fIsi_bl_str, fIsi_bl_list, fIsi_non_int, fIsi_non_bool, fIsi_non_tuple, fIsi_non_str, fIsi_non_list, fIsi_str_int, fIsi_str_bool, fIsi_str_tuple, fIsi_str_str, fIsi_str_list, fIsi_tup_int, fIsi_tup_bool, fIsi_tup_tuple, fIsi_tup_str, fIsi_tup_list, fIsi_lst_int, fIsi_lst_bool, fIsi_lst_tuple, fIsi_lst_str, fIsi_lst_list, fLen_lst, fLen_tup, fAbs, ↓D3.call3_k, ↓D3.kont_app, ↓D3.isN3.eq_1, ↓D3.notN3.eq_1, dIsN_non, dIsN_int, dIsN_bl, dIsN_str, dIsN_tup, dIsN_lst, ↓D3.slc3.eq_1, ↓D3.part3.eq_1, ↓D3.noPart3.eq_1, ↓D3.ilst3.eq_1, ↓D3.itup3.eq_1, ↓D3.irng1.eq_1, ↓D3.irng2.eq_1, ↓D3.for3.eq_1, fCat, fEq_int, fNe_int, fEq_bl, fNe_bl, fEq_pair, fNe_pair, List.map, List.replicate, List.length_cons, List.length_nil, List.set_cons_zero, List.set_cons_succ, List.getElem?_cons_zero, List.getElem?_cons_succ, List.cons_append, List.nil_append, at_0, at_1, at_2, at_3, at_4, at_5, at_6, ix_0, ix_1, ix_2, put_same, put_put, decide_eq_true_eq, Bool.not_eq_true', decide_eq_false_iff_not, ite_not, ite_true, ite_false, if_true, if_false, Bool.false_eq_true, ↓reduceIte, reduceIte, Nat.reduceAdd, Nat.reduceSub, Int.reduceToNat, Nat.reduceLeDiff, not_false_eq_true, true_and, and_true, ne_eq, Int.reduceEq, Nat.zero_add, Bool.not_true, Bool.not_false, reduceCtorEq, nc0, nc1, nc2, nc3, nc4, nc5, fIx_ref put_same, fLen_ref put_same, ↓D3.lc3.eq_1, fInt, fTuple, fList, fNeS_s, fEqS_s, ↓D3.gstar3.eq_1, fInK_s, fNinK_s, fLenS_s, ↓D3.slcT3.eq_1, fCatT_t, ↓D3.app3.eq_1, ↓D3.frz3.eq_1, ↓D3.dc23.eq_1, ↓D3.lcT3.eq_1, ↓D3.litRep3.eq_1, ↓D3.litRepM3.eq_1, ↓D3.rev3.eq_1, ↓D3.dget3.eq_1, ↓D3.disp3.eq_1, ↓D3.ienum3.eq_1, pop3, sset3]))
  refine ⟨by have := cutD_len (List.map D.int ns) none (some 5); rw [List.length_map] at this; omega, ?_⟩
  refine forIn3_ind (fun ds ρ _ => (∀ d ∈ ds, ∃ i : Int, d = .int i) ∧ ∃ r : Env3, ρ = some (D.lst (ns.map D.int)) :: r ∧ r.length = 7) ?_ (fun ρ m' h => ?_) _ _ _ ⟨?_, _, rfl, rfl⟩
  rotate_left
  · ((refine laterP_in ?_; repeat ((first | with_reducible refine laterP_i ?_ | with_reducible refine later_i ?_); try simp -implicitDefEqProofs -dsimp only [↓D3.seq3_stop, ↓D3.ifS3.eq_1, ↓D3.b3.eq_1, ↓D3.op3.eq_1, ↓D3.un3.eq_1, ↓D3.v3.eq_1, ↓D3.c3.eq_1, fIx_tup, fIx_lst, at3_0, at3_1, at3_2, at3_3, at3_4, at3_5, at3_6, start3, fI0_i, fI_i, fLt, fLe, fGt, fGe, fEqI, fNeI, fMin, fMax, ↓D3.asg3.eq_1, ↓D3.name3.eq_1, ↓D3.sub3.eq_1, ↓D3.ret3.eq_1, ↓D3.retN3.eq_1, ↓D3.nx3.eq_1, ↓D3.drop3.eq_1, ↓D3.par3.eq_1, ↓D3.aug3.eq_1, ↓D3.and3.eq_1, ↓D3.or3.eq_1, ↓D3.not3.eq_1, ↓D3.andV3.eq_1, ↓D3.orV3.eq_1, ↓D3.notV3.eq_1, ↓D3.if3.eq_1, ↓D3.nil3.eq_1, ↓D3.cons3.eq_1, ↓D3.tup3.eq_1, ↓D3.lst3.eq_1, ↓D3.lstM3.eq_1, ↓D3.gtup3.eq_1, ↓D3.gcons3.eq_1, ↓D3.gnil3.eq_1, ↓D3.gunl3.eq_1, ↓D3.bits3.eq_1, ↓D3.neg3.eq_1, ↓D3.chain3.eq_1, fIsi_int_int, fIsi_int_bool, fIsi_int_tuple, fIsi_int_str, fIsi_int_list, fIsi_bl_int, fIsi_bl_bool, fIsi_bl_tuple, fIsi_bl_str, fIsi_bl_list, fIsi_non_int, fIsi_non_bool, fIsi_non_tuple, fIsi_non_str, fIsi_non_list, fIsi_str_int, fIsi_str_bool, fIsi_str_tuple, fIsi_str_str, fIsi_str_list, fIsi_tup_int, fIsi_tup_bool, fIsi_tup_tuple, fIsi_tup_str, fIsi_tup_list, fIsi_lst_int, fIsi_lst_bool, fIsi_lst_tuple, fIsi_lst_str, fIsi_lst_list, fLen_lst, fLen_tup, fAbs, ↓D3.call3_k, ↓D3.kont_app, ↓D3.isN3.eq_1, ↓D3.notN3.eq_1, dIsN_non, dIsN_int, dIsN_bl, dIsN_str, dIsN_tup, dIsN_lst, ↓D3.slc3.eq_1, ↓D3.part3.eq_1, ↓D3.noPart3.eq_1, ↓D3.ilst3.eq_1, ↓D3.itup3.eq_1, ↓D3.irng1.eq_1, ↓D3.irng2.eq_1, ↓D3.for3.eq_1, fCat, fEq_int, fNe_int, fEq_bl, fNe_bl, fEq_pair, fNe_pair, List.map, List.replicate, List.length_cons, List.length_nil, List.set_cons_zero, List.set_cons_succ, List.getElem?_cons_zero, List.getElem?_cons_succ, List.cons_append, List.nil_append, at_0, at_1, at_2, at_3, at_4, at_5, at_6, ix_0, ix_1, ix_2, put_same, put_put, decide_eq_true_eq, Bool.not_eq_true', decide_eq_false_iff_not, ite_not, ite_true, ite_false, if_true, if_false, Bool.false_eq_true, ↓reduceIte, reduceIte, Nat.reduceAdd, Nat.reduceSub, Int.reduceToNat, Nat.reduceLeDiff, not_false_eq_true, true_and, and_true, ne_eq, Int.reduceEq, Nat.zero_add, Bool.not_true, Bool.not_false, reduceCtorEq, nc0, nc1, nc2, nc3, nc4, nc5, fIx_ref put_same, fLen_ref put_same, ↓D3.lc3.eq_1, fInt, fTuple, fList, fNeS_s, fEqS_s, ↓D3.gstar3.eq_1, fInK_s, fNinK_s, fLenS_s, ↓D3.slcT3.eq_1, fCatT_t, ↓D3.app3.eq_1, ↓D3.frz3.eq_1, ↓D3.dc23.eq_1, ↓D3.lcT3.eq_1, ↓D3.litRep3.eq_1, ↓D3.litRepM3.eq_1, ↓D3.rev3.eq_1, ↓D3.dget3.eq_1, ↓D3.disp3.eq_1, ↓D3.ienum3.eq_1, pop3, sset3])))
    exact q m'
  · intro d hd
    rcases List.mem_cons.mp hd with rfl | hd
    · exact ⟨0, rfl⟩
    · obtain ⟨i, _, rfl⟩ := List.mem_map.mp (cutD_mem hd)
      exact ⟨i, rfl⟩
  rintro d ds ρ m0 nx hnx ⟨hds, r, rfl, hr9⟩
  obtain ⟨cell, rfl⟩ := hds d List.mem_cons_self
  have nxt : ∀ (r : Env3) m', r.length = 7 → nx (some (D.lst (ns.map D.int)) :: r) m' := fun r m' h => hnx _ m' ⟨fun d hd => hds d (List.mem_cons_of_mem _ hd), r, rfl, h⟩
  clear hnx hds
  match r, hr9 with
  | [x1, x2, x3, x4, x5, x6, x7], _ =>
  (refine laterP_in ?_; repeat ((first | with_reducible refine laterP_i ?_ | with_reducible refine later_i ?_); try simp -implicitDefEqProofs -dsimp only [↓D3.seq3_stop, ↓D3.ifS3.eq_1, ↓D3.b3.eq_1, ↓D3.op3.eq_1, ↓D3.un3.eq_1, ↓D3.v3.eq_1, ↓D3.c3.eq_1, fIx_tup, fIx_lst, at3_0, at3_1, at3_2, at3_3, at3_4, at3_5, at3_6, start3, fI0_i, fI_i, fLt, fLe, fGt, fGe, fEqI, fNeI, fMin, fMax, ↓D3.asg3.eq_1, ↓D3.name3.eq_1, ↓D3.sub3.eq_1, ↓D3.ret3.eq_1, ↓D3.retN3.eq_1, ↓D3.nx3.eq_1, ↓D3.drop3.eq_1, ↓D3.par3.eq_1, ↓D3.aug3.eq_1, ↓D3.and3.eq_1, ↓D3.or3.eq_1, ↓D3.not3.eq_1, ↓D3.andV3.eq_1, ↓D3.orV3.eq_1, ↓D3.notV3.eq_1, ↓D3.if3.eq_1, ↓D3.nil3.eq_1, ↓D3.cons3.eq_1, ↓D3.tup3.eq_1, ↓D3.lst3.eq_1, ↓D3.lstM3.eq_1, ↓D3.gtup3.eq_1, ↓D3.gcons3.eq_1, ↓D3.gnil3.eq_1, ↓D3.gunl3.eq_1, ↓D3.bits3.eq_1, ↓D3.neg3.eq_1, ↓D3.chain3.eq_1, fIsi_int_int, fIsi_int_bool, fIsi_int_tuple, fIsi_int_str, fIsi_int_list, fIsi_bl_int, fIsi_bl_bool, fIsi_bl_tuple, fIsi_bl_str, fIsi_bl_list, fIsi_non_int, fIsi_non_bool, fIsi_non_tuple, fIsi_non_str, fIsi_non_list, fIsi_str_int, fIsi_str_bool, fIsi_str_tuple, fIsi_str_str, fIsi_str_list, fIsi_tup_int, fIsi_tup_bool, fIsi_tup_tuple, fIsi_tup_str, fIsi_tup_list, fIsi_lst_int, fIsi_lst_bool, fIsi_lst_tuple, fIsi_lst_str, fIsi_lst_list, fLen_lst, fLen_tup, fAbs, ↓D3.call3_k, ↓D3.kont_app, ↓D3.isN3.eq_1, ↓D3.notN3.eq_1, dIsN_non, dIsN_int, dIsN_bl, dIsN_str, dIsN_tup, dIsN_lst, ↓D3.slc3.eq_1, ↓D3.part3.eq_1, ↓D3.noPart3.eq_1, ↓D3.ilst3.eq_1, ↓D3.itup3.eq_1, ↓D3.irng1.eq_1, ↓D3.irng2.eq_1, ↓D3.for3.eq_1, fCat, fEq_int, fNe_int, fEq_bl, fNe_bl, fEq_pair, fNe_pair, List.map, List.replicate, List.length_cons, List.length_nil, List.set_cons_zero, List.set_cons_succ, List.getElem?_cons_zero, List.getElem?_cons_succ, List.cons_append, List.nil_append, at_0, at_1, at_2, at_3, at_4, at_5, at_6, ix_0, ix_1, ix_2, put_same, put_put, decide_eq_true_eq, Bool.not_eq_true', decide_eq_false_iff_not, ite_not, ite_true, ite_false, if_true, if_false, Bool.false_eq_true, ↓reduceIte, reduceIte, Nat.reduceAdd, Nat.reduceSub, Int.reduceToNat, Nat.reduceLeDiff, not_false_eq_true, true_and, and_true, ne_eq, Int.reduceEq, Nat.zero_add, Bool.not_true, Bool.not_false, reduceCtorEq, nc0, nc1, nc2, nc3, nc4, nc5, fIx_ref put_same, fLen_ref put_same, ↓D3.lc3.eq_1, fInt, fTuple, fList, fNeS_s, fEqS_s, ↓D3.gstar3.eq_1, fInK_s, fNinK_s, fLenS_s, ↓D3.slcT3.eq_1, fCatT_t, ↓D3.app3.eq_1, ↓D3.frz3.eq_1, ↓D3.dc23.eq_1, ↓D3.lcT3.eq_1, ↓D3.litRep3.eq_1, ↓D3.litRepM3.eq_1, ↓D3.rev3.eq_1, ↓D3.dget3.eq_1, ↓D3.disp3.eq_1, ↓D3.ienum3.eq_1, pop3, sset3]))
  refine ⟨cell, rfl, fun p m1 _ _ d1 => ?_⟩
  (refine laterP_in ?_; repeat ((first | with_reducible refine laterP_i ?_ | with_reducible refine later_i ?_); try simp -implicitDefEqProofs -dsimp only [↓D3.seq3_stop, ↓D3.ifS3.eq_1, ↓D3.b3.eq_1, ↓D3.op3.eq_1, ↓D3.un3.eq_1, ↓D3.v3.eq_1, ↓D3.c3.eq_1, fIx_tup, fIx_lst, at3_0, at3_1, at3_2, at3_3, at3_4, at3_5, at3_6, start3, fI0_i, fI_i, fLt, fLe, fGt, fGe, fEqI, fNeI, fMin, fMax, ↓D3.asg3.eq_1, ↓D3.name3.eq_1, ↓D3.sub3.eq_1, ↓D3.ret3.eq_1, ↓D3.retN3.eq_1, ↓D3.nx3.eq_1, ↓D3.drop3.eq_1, ↓D3.par3.eq_1, ↓D3.aug3.eq_1, ↓D3.and3.eq_1, ↓D3.or3.eq_1, ↓D3.not3.eq_1, ↓D3.andV3.eq_1, ↓D3.orV3.eq_1, ↓D3.notV3.eq_1, ↓D3.if3.eq_1, ↓D3.nil3.eq_1, ↓D3.cons3.eq_1, ↓D3.tup3.eq_1, ↓D3.lst3.eq_1, ↓D3.lstM3.eq_1, ↓D3.gtup3.eq_1, ↓D3.gcons3.eq_1, ↓D3.gnil3.eq_1, ↓D3.gunl3.eq_1, ↓D3.bits3.eq_1, ↓D3.neg3.eq_1, ↓D3.chain3.eq_1, fIsi_int_int, fIsi_int_bool, fIsi_int_tuple, fIsi_int_str, fIsi_int_list, fIsi_bl_int, fIsi_bl_bool, fIsi_bl_tuple, fIsi_bl_str, fIsi_bl_list, fIsi_non_int, fIsi_non_bool, fIsi_non_tuple, fIsi_non_str, fIsi_non_list, fIsi_str_int, fIsi_str_bool, fIsi_str_tuple, fIsi_str_str, fIsi_str_list, fIsi_tup_int, fIsi_tup_bool, fIsi_tup_tuple, fIsi_tup_str, fIsi_tup_list, fIsi_lst_int, fIsi_lst_bool, fIsi_lst_tuple, fIsi_lst_str, fIsi_lst_list, fLen_lst, fLen_tup, fAbs, ↓D3.call3_k, ↓D3.kont_app, ↓D3.isN3.eq_1, ↓D3.notN3.eq_1, dIsN_non, dIsN_int, dIsN_bl, dIsN_str, dIsN_tup, dIsN_lst, ↓D3.slc3.eq_1, ↓D3.part3.eq_1, ↓D3.noPart3.eq_1, ↓D3.ilst3.eq_1, ↓D3.itup3.eq_1, ↓D3.irng1.eq_1, ↓D3.irng2.eq_1, ↓D3.for3.eq_1, fCat, fEq_int, fNe_int, fEq_bl, fNe_bl, fEq_pair, fNe_pair, List.map, List.replicate, List.length_cons, List.length_nil, List.set_cons_zero, List.set_cons_succ, List.getElem?_cons_zero, List.getElem?_cons_succ, List.cons_append, List.nil_append, at_0, at_1, at_2, at_3, at_4, at_5, at_6, ix_0, ix_1, ix_2, put_same, put_put, decide_eq_true_eq, Bool.not_eq_true', decide_eq_false_iff_not, ite_not, ite_true, ite_false, if_true, if_false, Bool.false_eq_true, ↓reduceIte, reduceIte, Nat.reduceAdd, Nat.reduceSub, Int.reduceToNat, Nat.reduceLeDiff, not_false_eq_true, true_and, and_true, ne_eq, Int.reduceEq, Nat.zero_add, Bool.not_true, Bool.not_false, reduceCtorEq, nc0, nc1, nc2, nc3, nc4, nc5, fIx_ref put_same, fLen_ref put_same, ↓D3.lc3.eq_1, fInt, fTuple, fList, fNeS_s, fEqS_s, ↓D3.gstar3.eq_1, fInK_s, fNinK_s, fLenS_s, ↓D3.slcT3.eq_1, fCatT_t, ↓D3.app3.eq_1, ↓D3.frz3.eq_1, ↓D3.dc23.eq_1, ↓D3.lcT3.eq_1, ↓D3.litRep3.eq_1, ↓D3.litRepM3.eq_1, ↓D3.rev3.eq_1, ↓D3.dget3.eq_1, ↓D3.disp3.eq_1, ↓D3.ienum3.eq_1, pop3, sset3]))
  intro pn hpn
  have nep := d1.ne hpn
  (refine laterP_in ?_; repeat ((first | with_reducible refine laterP_i ?_ | with_reducible refine later_i ?_); try simp -implicitDefEqProofs -dsimp only [↓D3.seq3_stop, ↓D3.ifS3.eq_1, ↓D3.b3.eq_1, ↓D3.op3.eq_1, ↓D3.un3.eq_1, ↓D3.v3.eq_1, ↓D3.c3.eq_1, fIx_tup, fIx_lst, at3_0, at3_1, at3_2, at3_3, at3_4, at3_5, at3_6, start3, fI0_i, fI_i, fLt, fLe, fGt, fGe, fEqI, fNeI, fMin, fMax, ↓D3.asg3.eq_1, ↓D3.name3.eq_1, ↓D3.sub3.eq_1, ↓D3.ret3.eq_1, ↓D3.retN3.eq_1, ↓D3.nx3.eq_1, ↓D3.drop3.eq_1, ↓D3.par3.eq_1, ↓D3.aug3.eq_1, ↓D3.and3.eq_1, ↓D3.or3.eq_1, ↓D3.not3.eq_1, ↓D3.andV3.eq_1, ↓D3.orV3.eq_1, ↓D3.notV3.eq_1, ↓D3.if3.eq_1, ↓D3.nil3.eq_1, ↓D3.cons3.eq_1, ↓D3.tup3.eq_1, ↓D3.lst3.eq_1, ↓D3.lstM3.eq_1, ↓D3.gtup3.eq_1, ↓D3.gcons3.eq_1, ↓D3.gnil3.eq_1, ↓D3.gunl3.eq_1, ↓D3.bits3.eq_1, ↓D3.neg3.eq_1, ↓D3.chain3.eq_1, fIsi_int_int, fIsi_int_bool, fIsi_int_tuple, fIsi_int_str, fIsi_int_list, fIsi_bl_int, fIsi_bl_bool, fIsi_bl_tuple, fIsi_bl_str, fIsi_bl_list, fIsi_non_int, fIsi_non_bool, fIsi_non_tuple, fIsi_non_str, fIsi_non_list, fIsi_str_int, fIsi_str_bool, fIsi_str_tuple, fIsi_str_str, fIsi_str_list, fIsi_tup_int, fIsi_tup_bool, fIsi_tup_tuple, fIsi_tup_str, fIsi_tup_list, fIsi_lst_int, fIsi_lst_bool, fIsi_lst_tuple, fIsi_lst_str, fIsi_lst_list, fLen_lst, fLen_tup, fAbs, ↓D3.call3_k, ↓D3.kont_app, ↓D3.isN3.eq_1, ↓D3.notN3.eq_1, dIsN_non, dIsN_int, dIsN_bl, dIsN_str, dIsN_tup, dIsN_lst, ↓D3.slc3.eq_1, ↓D3.part3.eq_1, ↓D3.noPart3.eq_1, ↓D3.ilst3.eq_1, ↓D3.itup3.eq_1, ↓D3.irng1.eq_1, ↓D3.irng2.eq_1, ↓D3.for3.eq_1, fCat, fEq_int, fNe_int, fEq_bl, fNe_bl, fEq_pair, fNe_pair, List.map, List.replicate, List.length_cons, List.length_nil, List.set_cons_zero, List.set_cons_succ, List.getElem?_cons_zero, List.getElem?_cons_succ, List.cons_append, List.nil_append, at_0, at_1, at_2, at_3, at_4, at_5, at_6, ix_0, ix_1, ix_2, put_same, put_put, decide_eq_true_eq, Bool.not_eq_true', decide_eq_false_iff_not, ite_not, ite_true, ite_false, if_true, if_false, Bool.false_eq_true, ↓reduceIte, reduceIte, Nat.reduceAdd, Nat.reduceSub, Int.reduceToNat, Nat.reduceLeDiff, not_false_eq_true, true_and, and_true, ne_eq, Int.reduceEq, Nat.zero_add, Bool.not_true, Bool.not_false, reduceCtorEq, nc0, nc1, nc2, nc3, nc4, nc5, fIx_ref put_same, fLen_ref put_same, ↓D3.lc3.eq_1, fInt, fTuple, fList, fNeS_s, fEqS_s, ↓D3.gstar3.eq_1, fInK_s, fNinK_s, fLenS_s, ↓D3.slcT3.eq_1, fCatT_t, ↓D3.app3.eq_1, ↓D3.frz3.eq_1, ↓D3.dc23.eq_1, ↓D3.lcT3.eq_1, ↓D3.litRep3.eq_1, ↓D3.litRepM3.eq_1, ↓D3.rev3.eq_1, ↓D3.dget3.eq_1, ↓D3.disp3.eq_1, ↓D3.ienum3.eq_1, pop3, sset3]))
  refine ⟨⟨by decide, by decide⟩, ?_⟩
  refine forIn3_ind (fun ds ρ m' => ∃ (xs : List Str) (y4 : Option D), xs.length = 3 + ds.length ∧ ds.length ≤ 2 ∧ (∀ x ∈ xs, x ∈ N5) ∧ m' pn = some (.lst (xs.map D.str)) ∧ DeckAt m' p (999990000 + ds.length) ∧ ρ = [some (D.lst (ns.map D.int)), some (.int cell), some (.ref p), some (.ref pn), y4, x5, x6, x7]) ?_ (fun ρ m' h => ?_) _ _ _ ⟨N5, x4, rfl, by decide, fun _ h => h, put_same, (d1.put nep).le (by decide), rfl⟩
  · rintro dd ds' ρ m2 nx2 hnx2 ⟨xs, y4, hlx, hl2, hx, hm, d2, rfl⟩
    rw [List.length_cons] at hlx d2 hl2
    (refine laterP_in ?_; repeat ((first | with_reducible refine laterP_i ?_ | with_reducible refine later_i ?_); try simp -implicitDefEqProofs -dsimp only [↓D3.seq3_stop, ↓D3.ifS3.eq_1, ↓D3.b3.eq_1, ↓D3.op3.eq_1, ↓D3.un3.eq_1, ↓D3.v3.eq_1, ↓D3.c3.eq_1, fIx_tup, fIx_lst, at3_0, at3_1, at3_2, at3_3, at3_4, at3_5, at3_6, start3, fI0_i, fI_i, fLt, fLe, fGt, fGe, fEqI, fNeI, fMin, fMax, ↓D3.asg3.eq_1, ↓D3.name3.eq_1, ↓D3.sub3.eq_1, ↓D3.ret3.eq_1, ↓D3.retN3.eq_1, ↓D3.nx3.eq_1, ↓D3.drop3.eq_1, ↓D3.par3.eq_1, ↓D3.aug3.eq_1, ↓D3.and3.eq_1, ↓D3.or3.eq_1, ↓D3.not3.eq_1, ↓D3.andV3.eq_1, ↓D3.orV3.eq_1, ↓D3.notV3.eq_1, ↓D3.if3.eq_1, ↓D3.nil3.eq_1, ↓D3.cons3.eq_1, ↓D3.tup3.eq_1, ↓D3.lst3.eq_1, ↓D3.lstM3.eq_1, ↓D3.gtup3.eq_1, ↓D3.gcons3.eq_1, ↓D3.gnil3.eq_1, ↓D3.gunl3.eq_1, ↓D3.bits3.eq_1, ↓D3.neg3.eq_1, ↓D3.chain3.eq_1, fIsi_int_int, fIsi_int_bool, fIsi_int_tuple, fIsi_int_str, fIsi_int_list, fIsi_bl_int, fIsi_bl_bool, fIsi_bl_tuple, fIsi_bl_str, fIsi_bl_list, fIsi_non_int, fIsi_non_bool, fIsi_non_tuple, fIsi_non_str, fIsi_non_list, fIsi_str_int, fIsi_str_bool, fIsi_str_tuple, fIsi_str_str, fIsi_str_list, fIsi_tup_int, fIsi_tup_bool, fIsi_tup_tuple, fIsi_tup_str, fIsi_tup_list, fIsi_lst_int, fIsi_lst_bool, fIsi_lst_tuple, fIsi_lst_str, fIsi_lst_list, fLen_lst, fLen_tup, fAbs, ↓D3.call3_k, ↓D3.kont_app, ↓D3.isN3.eq_1, ↓D3.notN3.eq_1, dIsN_non, dIsN_int, dIsN_bl, dIsN_str, dIsN_tup, dIsN_lst, ↓D3.slc3.eq_1, ↓D3.part3.eq_1, ↓D3.noPart3.eq_1, ↓D3.ilst3.eq_1, ↓D3.itup3.eq_1, ↓D3.irng1.eq_1, ↓D3.irng2.eq_1, ↓D3.for3.eq_1, fCat, fEq_int, fNe_int, fEq_bl, fNe_bl, fEq_pair, fNe_pair, List.map, List.replicate, List.length_cons, List.length_nil, List.set_cons_zero, List.set_cons_succ, List.getElem?_cons_zero, List.getElem?_cons_succ, List.cons_append, List.nil_append, at_0, at_1, at_2, at_3, at_4, at_5, at_6, ix_0, ix_1, ix_2, put_same, put_put, decide_eq_true_eq, Bool.not_eq_true', decide_eq_false_iff_not, ite_not, ite_true, ite_false, if_true, if_false, Bool.false_eq_true, ↓reduceIte, reduceIte, Nat.reduceAdd, Nat.reduceSub, Int.reduceToNat, Nat.reduceLeDiff, not_false_eq_true, true_and, and_true, ne_eq, Int.reduceEq, Nat.zero_add, Bool.not_true, Bool.not_false, reduceCtorEq, nc0, nc1, nc2, nc3, nc4, nc5, fIx_ref put_same, fLen_ref put_same, ↓D3.lc3.eq_1, fInt, fTuple, fList, fNeS_s, fEqS_s, ↓D3.gstar3.eq_1, fInK_s, fNinK_s, fLenS_s, ↓D3.slcT3.eq_1, fCatT_t, ↓D3.app3.eq_1, ↓D3.frz3.eq_1, ↓D3.dc23.eq_1, ↓D3.lcT3.eq_1, ↓D3.litRep3.eq_1, ↓D3.litRepM3.eq_1, ↓D3.rev3.eq_1, ↓D3.dget3.eq_1, ↓D3.disp3.eq_1, ↓D3.ienum3.eq_1, pop3, sset3, hm, fLen_ref hm]))
    refine ⟨⟨_, rfl⟩, ?_⟩
    refine sp_pick_i (999990000 + ds'.length) (d2.le (by omega)) (by simp; omega) (by simp; omega) fun r m3 r0 r1 o3 d3 => ?_
    rw [List.length_map] at r1
    have hm3 : m3 pn = some (.lst (xs.map D.str)) := by rw [o3 pn (Ne.symm nep), hm]
    obtain ⟨k, rfl⟩ : ∃ k : Nat, r = (k : Int) := ⟨r.toNat, by omega⟩
    have hk : k < xs.length := by omega
    refine ⟨xs.map D.str, k, .str xs[k], rfl, hm3, by simp; omega, by simp [List.getElem?_map, hk], ?_⟩
    refine hnx2 _ _ ⟨xs.eraseIdx k, _, by rw [List.length_eraseIdx_of_lt hk]; omega, by omega, fun x hx' => hx x (List.mem_of_mem_eraseIdx hx'), by rw [put_same, map_erase], d3.put nep, rfl⟩
  · obtain ⟨xs, y4, hlx, hl2, hx, hm, d2, rfl⟩ := h
    match xs, hlx with
    | [a, b, c], _ =>
    have hn1 : ∀ x ∈ [a, b, c], x ∈ N0 := fun x h => n5_n0 (hx x h)
    have nms : Nms [a, b, c] := fun x h => (n0_nm (hn1 x h)).2
    have hn2 : ∀ x ∈ [a, b, c], isNm (.str x) = true := fun x h => (n0_nm (hn1 x h)).1
    (refine laterP_in ?_; repeat ((first | with_reducible refine laterP_i ?_ | with_reducible refine later_i ?_); try simp -implicitDefEqProofs -dsimp only [↓D3.seq3_stop, ↓D3.ifS3.eq_1, ↓D3.b3.eq_1, ↓D3.op3.eq_1, ↓D3.un3.eq_1, ↓D3.v3.eq_1, ↓D3.c3.eq_1, fIx_tup, fIx_lst, at3_0, at3_1, at3_2, at3_3, at3_4, at3_5, at3_6, start3, fI0_i, fI_i, fLt, fLe, fGt, fGe, fEqI, fNeI, fMin, fMax, ↓D3.asg3.eq_1, ↓D3.name3.eq_1, ↓D3.sub3.eq_1, ↓D3.ret3.eq_1, ↓D3.retN3.eq_1, ↓D3.nx3.eq_1, ↓D3.drop3.eq_1, ↓D3.par3.eq_1, ↓D3.aug3.eq_1, ↓D3.and3.eq_1, ↓D3.or3.eq_1, ↓D3.not3.eq_1, ↓D3.andV3.eq_1, ↓D3.orV3.eq_1, ↓D3.notV3.eq_1, ↓D3.if3.eq_1, ↓D3.nil3.eq_1, ↓D3.cons3.eq_1, ↓D3.tup3.eq_1, ↓D3.lst3.eq_1, ↓D3.lstM3.eq_1, ↓D3.gtup3.eq_1, ↓D3.gcons3.eq_1, ↓D3.gnil3.eq_1, ↓D3.gunl3.eq_1, ↓D3.bits3.eq_1, ↓D3.neg3.eq_1, ↓D3.chain3.eq_1, fIsi_int_int, fIsi_int_bool, fIsi_int_tuple, fIsi_int_str, fIsi_int_list, fIsi_bl_int, fIsi_bl_bool, fIsi_bl_tuple, fIsi_bl_str, fIsi_bl_list, fIsi_non_int, fIsi_non_bool, fIsi_non_tuple, fIsi_non_str, fIsi_non_list, fIsi_str_int, fIsi_str_bool, fIsi_str_tuple, fIsi_str_str, fIsi_str_list, fIsi_tup_int, fIsi_tup_bool, fIsi_tup_tuple, fIsi_tup_str, fIsi_tup_list, fIsi_lst_int, fIsi_lst_bool, fIsi_lst_tuple, fIsi_lst_str, fIsi_lst_list, fLen_lst, fLen_tup, fAbs, ↓D3.call3_k, ↓D3.kont_app, ↓D3.isN3.eq_1, ↓D3.notN3.eq_1, dIsN_non, dIsN_int, dIsN_bl, dIsN_str, dIsN_tup, dIsN_lst, ↓D3.slc3.eq_1, ↓D3.part3.eq_1, ↓D3.noPart3.eq_1, ↓D3.ilst3.eq_1, ↓D3.itup3.eq_1, ↓D3.irng1.eq_1, ↓D3.irng2.eq_1, ↓D3.for3.eq_1, fCat, fEq_int, fNe_int, fEq_bl, fNe_bl, fEq_pair, fNe_pair, List.map, List.replicate, List.length_cons, List.length_nil, List.set_cons_zero, List.set_cons_succ, List.getElem?_cons_zero, List.getElem?_cons_succ, List.cons_append, List.nil_append, at_0, at_1, at_2, at_3, at_4, at_5, at_6, ix_0, ix_1, ix_2, put_same, put_put, decide_eq_true_eq, Bool.not_eq_true', decide_eq_false_iff_not, ite_not, ite_true, ite_false, if_true, if_false, Bool.false_eq_true, ↓reduceIte, reduceIte, Nat.reduceAdd, Nat.reduceSub, Int.reduceToNat, Nat.reduceLeDiff, not_false_eq_true, true_and, and_true, ne_eq, Int.reduceEq, Nat.zero_add, Bool.not_true, Bool.not_false, reduceCtorEq, nc0, nc1, nc2, nc3, nc4, nc5, fIx_ref put_same, fLen_ref put_same, ↓D3.lc3.eq_1, fInt, fTuple, fList, fNeS_s, fEqS_s, ↓D3.gstar3.eq_1, fInK_s, fNinK_s, fLenS_s, ↓D3.slcT3.eq_1, fCatT_t, ↓D3.app3.eq_1, ↓D3.frz3.eq_1, ↓D3.dc23.eq_1, ↓D3.lcT3.eq_1, ↓D3.litRep3.eq_1, ↓D3.litRepM3.eq_1, ↓D3.rev3.eq_1, ↓D3.dget3.eq_1, ↓D3.disp3.eq_1, ↓D3.ienum3.eq_1, pop3, sset3, hm]))
    refine sp_pick_i 999980000 ((d2.del nep).le (by decide)) (by decide) (by decide) fun r m3 r0 r1 o3 d3 => ?_
    (refine laterP_in ?_; repeat ((first | with_reducible refine laterP_i ?_ | with_reducible refine later_i ?_); try simp -implicitDefEqProofs -dsimp only [↓D3.seq3_stop, ↓D3.ifS3.eq_1, ↓D3.b3.eq_1, ↓D3.op3.eq_1, ↓D3.un3.eq_1, ↓D3.v3.eq_1, ↓D3.c3.eq_1, fIx_tup, fIx_lst, at3_0, at3_1, at3_2, at3_3, at3_4, at3_5, at3_6, start3, fI0_i, fI_i, fLt, fLe, fGt, fGe, fEqI, fNeI, fMin, fMax, ↓D3.asg3.eq_1, ↓D3.name3.eq_1, ↓D3.sub3.eq_1, ↓D3.ret3.eq_1, ↓D3.retN3.eq_1, ↓D3.nx3.eq_1, ↓D3.drop3.eq_1, ↓D3.par3.eq_1, ↓D3.aug3.eq_1, ↓D3.and3.eq_1, ↓D3.or3.eq_1, ↓D3.not3.eq_1, ↓D3.andV3.eq_1, ↓D3.orV3.eq_1, ↓D3.notV3.eq_1, ↓D3.if3.eq_1, ↓D3.nil3.eq_1, ↓D3.cons3.eq_1, ↓D3.tup3.eq_1, ↓D3.lst3.eq_1, ↓D3.lstM3.eq_1, ↓D3.gtup3.eq_1, ↓D3.gcons3.eq_1, ↓D3.gnil3.eq_1, ↓D3.gunl3.eq_1, ↓D3.bits3.eq_1, ↓D3.neg3.eq_1, ↓D3.chain3.eq_1, fIsi_int_int, fIsi_int_bool, fIsi_int_tuple, fIsi_int_str, fIsi_int_list, fIsi_bl_int, fIsi_bl_bool, fIsi_bl_tuple, fIsi_bl_str, fIsi_bl_list, fIsi_non_int, fIsi_non_bool, fIsi_non_tuple, fIsi_non_str, fIsi_non_list, fIsi_str_int, fIsi_str_bool, fIsi_str_tuple, fIsi_str_str, fIsi_str_list, fIsi_tup_int, fIsi_tup_bool, fIsi_tup_tuple, fIsi_tup_str, fIsi_tup_list, fIsi_lst_int, fIsi_lst_bool, fIsi_lst_tuple, fIsi_lst_str, fIsi_lst_list, fLen_lst, fLen_tup, fAbs, ↓D3.call3_k, ↓D3.kont_app, ↓D3.isN3.eq_1, ↓D3.notN3.eq_1, dIsN_non, dIsN_int, dIsN_bl, dIsN_str, dIsN_tup, dIsN_lst, ↓D3.slc3.eq_1, ↓D3.part3.eq_1, ↓D3.noPart3.eq_1, ↓D3.ilst3.eq_1, ↓D3.itup3.eq_1, ↓D3.irng1.eq_1, ↓D3.irng2.eq_1, ↓D3.for3.eq_1, fCat, fEq_int, fNe_int, fEq_bl, fNe_bl, fEq_pair, fNe_pair, List.map, List.replicate, List.length_cons, List.length_nil, List.set_cons_zero, List.set_cons_succ, List.getElem?_cons_zero, List.getElem?_cons_succ, List.cons_append, List.nil_append, at_0, at_1, at_2, at_3, at_4, at_5, at_6, ix_0, ix_1, ix_2, put_same, put_put, decide_eq_true_eq, Bool.not_eq_true', decide_eq_false_iff_not, ite_not, ite_true, ite_false, if_true, if_false, Bool.false_eq_true, ↓reduceIte, reduceIte, Nat.reduceAdd, Nat.reduceSub, Int.reduceToNat, Nat.reduceLeDiff, not_false_eq_true, true_and, and_true, ne_eq, Int.reduceEq, Nat.zero_add, Bool.not_true, Bool.not_false, reduceCtorEq, nc0, nc1, nc2, nc3, nc4, nc5, fIx_ref put_same, fLen_ref put_same, ↓D3.lc3.eq_1, fInt, fTuple, fList, fNeS_s, fEqS_s, ↓D3.gstar3.eq_1, fInK_s, fNinK_s, fLenS_s, ↓D3.slcT3.eq_1, fCatT_t, ↓D3.app3.eq_1, ↓D3.frz3.eq_1, ↓D3.dc23.eq_1, ↓D3.lcT3.eq_1, ↓D3.litRep3.eq_1, ↓D3.litRepM3.eq_1, ↓D3.rev3.eq_1, ↓D3.dget3.eq_1, ↓D3.disp3.eq_1, ↓D3.ienum3.eq_1, pop3, sset3]))
    obtain ⟨e, rfl⟩ : ∃ e : Nat, r = (e : Int) := ⟨r.toNat, by omega⟩
    refine ⟨p, 999970000, [a, b, c], e, by rw [show (1 + (e : Int)) = ((e + 1 : Nat) : Int) by omega]; rfl, by omega, nms, by simp, d3.le (by decide), fun one m4 w4 o4 d4 => ?_⟩
    (refine laterP_in ?_; repeat ((first | with_reducible refine laterP_i ?_ | with_reducible refine later_i ?_); try simp -implicitDefEqProofs -dsimp only [↓D3.seq3_stop, ↓D3.ifS3.eq_1, ↓D3.b3.eq_1, ↓D3.op3.eq_1, ↓D3.un3.eq_1, ↓D3.v3.eq_1, ↓D3.c3.eq_1, fIx_tup, fIx_lst, at3_0, at3_1, at3_2, at3_3, at3_4, at3_5, at3_6, start3, fI0_i, fI_i, fLt, fLe, fGt, fGe, fEqI, fNeI, fMin, fMax, ↓D3.asg3.eq_1, ↓D3.name3.eq_1, ↓D3.sub3.eq_1, ↓D3.ret3.eq_1, ↓D3.retN3.eq_1, ↓D3.nx3.eq_1, ↓D3.drop3.eq_1, ↓D3.par3.eq_1, ↓D3.aug3.eq_1, ↓D3.and3.eq_1, ↓D3.or3.eq_1, ↓D3.not3.eq_1, ↓D3.andV3.eq_1, ↓D3.orV3.eq_1, ↓D3.notV3.eq_1, ↓D3.if3.eq_1, ↓D3.nil3.eq_1, ↓D3.cons3.eq_1, ↓D3.tup3.eq_1, ↓D3.lst3.eq_1, ↓D3.lstM3.eq_1, ↓D3.gtup3.eq_1, ↓D3.gcons3.eq_1, ↓D3.gnil3.eq_1, ↓D3.gunl3.eq_1, ↓D3.bits3.eq_1, ↓D3.neg3.eq_1, ↓D3.chain3.eq_1, fIsi_int_int, fIsi_int_bool, fIsi_int_tuple, fIsi_int_str, fIsi_int_list, fIsi_bl_int, fIsi_bl_bool, fIsi_bl_tuple, fIsi_bl_str, fIsi_bl_list, fIsi_non_int, fIsi_non_bool, fIsi_non_tuple, fIsi_non_str, fIsi_non_list, fIsi_str_int, fIsi_str_bool, fIsi_str_tuple, fIsi_str_str, fIsi_str_list, fIsi_tup_int, fIsi_tup_bool, fIsi_tup_tuple, fIsi_tup_str, fIsi_tup_list, fIsi_lst_int, fIsi_lst_bool, fIsi_lst_tuple, fIsi_lst_str, fIsi_lst_list, fLen_lst, fLen_tup, fAbs, ↓D3.call3_k, ↓D3.kont_app, ↓D3.isN3.eq_1, ↓D3.notN3.eq_1, dIsN_non, dIsN_int, dIsN_bl, dIsN_str, dIsN_tup, dIsN_lst, ↓D3.slc3.eq_1, ↓D3.part3.eq_1, ↓D3.noPart3.eq_1, ↓D3.ilst3.eq_1, ↓D3.itup3.eq_1, ↓D3.irng1.eq_1, ↓D3.irng2.eq_1, ↓D3.for3.eq_1, fCat, fEq_int, fNe_int, fEq_bl, fNe_bl, fEq_pair, fNe_pair, List.map, List.replicate, List.length_cons, List.length_nil, List.set_cons_zero, List.set_cons_succ, List.getElem?_cons_zero, List.getElem?_cons_succ, List.cons_append, List.nil_append, at_0, at_1, at_2, at_3, at_4, at_5, at_6, ix_0, ix_1, ix_2, put_same, put_put, decide_eq_true_eq, Bool.not_eq_true', decide_eq_false_iff_not, ite_not, ite_true, ite_false, if_true, if_false, Bool.false_eq_true, ↓reduceIte, reduceIte, Nat.reduceAdd, Nat.reduceSub, Int.reduceToNat, Nat.reduceLeDiff, not_false_eq_true, true_and, and_true, ne_eq, Int.reduceEq, Nat.zero_add, Bool.not_true, Bool.not_false, reduceCtorEq, nc0, nc1, nc2, nc3, nc4, nc5, fIx_ref put_same, fLen_ref put_same, ↓D3.lc3.eq_1, fInt, fTuple, fList, fNeS_s, fEqS_s, ↓D3.gstar3.eq_1, fInK_s, fNinK_s, fLenS_s, ↓D3.slcT3.eq_1, fCatT_t, ↓D3.app3.eq_1, ↓D3.frz3.eq_1, ↓D3.dc23.eq_1, ↓D3.lcT3.eq_1, ↓D3.litRep3.eq_1, ↓D3.litRepM3.eq_1, ↓D3.rev3.eq_1, ↓D3.dget3.eq_1, ↓D3.disp3.eq_1, ↓D3.ienum3.eq_1, pop3, sset3]))
    refine sp_pick_i 999960000 (d4.le (by decide)) (by decide) (by decide) fun r m5 r0 r1 o5 d5 => ?_
    (refine laterP_in ?_; repeat ((first | with_reducible refine laterP_i ?_ | with_reducible refine later_i ?_); try simp -implicitDefEqProofs -dsimp only [↓D3.seq3_stop, ↓D3.ifS3.eq_1, ↓D3.b3.eq_1, ↓D3.op3.eq_1, ↓D3.un3.eq_1, ↓D3.v3.eq_1, ↓D3.c3.eq_1, fIx_tup, fIx_lst, at3_0, at3_1, at3_2, at3_3, at3_4, at3_5, at3_6, start3, fI0_i, fI_i, fLt, fLe, fGt, fGe, fEqI, fNeI, fMin, fMax, ↓D3.asg3.eq_1, ↓D3.name3.eq_1, ↓D3.sub3.eq_1, ↓D3.ret3.eq_1, ↓D3.retN3.eq_1, ↓D3.nx3.eq_1, ↓D3.drop3.eq_1, ↓D3.par3.eq_1, ↓D3.aug3.eq_1, ↓D3.and3.eq_1, ↓D3.or3.eq_1, ↓D3.not3.eq_1, ↓D3.andV3.eq_1, ↓D3.orV3.eq_1, ↓D3.notV3.eq_1, ↓D3.if3.eq_1, ↓D3.nil3.eq_1, ↓D3.cons3.eq_1, ↓D3.tup3.eq_1, ↓D3.lst3.eq_1, ↓D3.lstM3.eq_1, ↓D3.gtup3.eq_1, ↓D3.gcons3.eq_1, ↓D3.gnil3.eq_1, ↓D3.gunl3.eq_1, ↓D3.bits3.eq_1, ↓D3.neg3.eq_1, ↓D3.chain3.eq_1, fIsi_int_int, fIsi_int_bool, fIsi_int_tuple, fIsi_int_str, fIsi_int_list, fIsi_bl_int, fIsi_bl_bool, fIsi_bl_tuple, fIsi_bl_str, fIsi_bl_list, fIsi_non_int, fIsi_non_bool, fIsi_non_tuple, fIsi_non_str, fIsi_non_list, fIsi_str_int, fIsi_str_bool, fIsi_str_tuple, fIsi_str_str, fIsi_str_list, fIsi_tup_int, fIsi_tup_bool, fIsi_tup_tuple, fIsi_tup_str, fIsi_tup_list, fIsi_lst_int, fIsi_lst_bool, fIsi_lst_tuple, fIsi_lst_str, fIsi_lst_list, fLen_lst, fLen_tup, fAbs, ↓D3.call3_k, ↓D3.kont_app, ↓D3.isN3.eq_1, ↓D3.notN3.eq_1, dIsN_non, dIsN_int, dIsN_bl, dIsN_str, dIsN_tup, dIsN_lst, ↓D3.slc3.eq_1, ↓D3.part3.eq_1, ↓D3.noPart3.eq_1, ↓D3.ilst3.eq_1, ↓D3.itup3.eq_1, ↓D3.irng1.eq_1, ↓D3.irng2.eq_1, ↓D3.for3.eq_1, fCat, fEq_int, fNe_int, fEq_bl, fNe_bl, fEq_pair, fNe_pair, List.map, List.replicate, List.length_cons, List.length_nil, List.set_cons_zero, List.set_cons_succ, List.getElem?_cons_zero, List.getElem?_cons_succ, List.cons_append, List.nil_append, at_0, at_1, at_2, at_3, at_4, at_5, at_6, ix_0, ix_1, ix_2, put_same, put_put, decide_eq_true_eq, Bool.not_eq_true', decide_eq_false_iff_not, ite_not, ite_true, ite_false, if_true, if_false, Bool.false_eq_true, ↓reduceIte, reduceIte, Nat.reduceAdd, Nat.reduceSub, Int.reduceToNat, Nat.reduceLeDiff, not_false_eq_true, true_and, and_true, ne_eq, Int.reduceEq, Nat.zero_add, Bool.not_true, Bool.not_false, reduceCtorEq, nc0, nc1, nc2, nc3, nc4, nc5, fIx_ref put_same, fLen_ref put_same, ↓D3.lc3.eq_1, fInt, fTuple, fList, fNeS_s, fEqS_s, ↓D3.gstar3.eq_1, fInK_s, fNinK_s, fLenS_s, ↓D3.slcT3.eq_1, fCatT_t, ↓D3.app3.eq_1, ↓D3.frz3.eq_1, ↓D3.dc23.eq_1, ↓D3.lcT3.eq_1, ↓D3.litRep3.eq_1, ↓D3.litRepM3.eq_1, ↓D3.rev3.eq_1, ↓D3.dget3.eq_1, ↓D3.disp3.eq_1, ↓D3.ienum3.eq_1, pop3, sset3]))
    refine at3_all r0 (by simpa using r1) fun nmd hnm => ?_
    obtain ⟨nm, rfl, hnm0⟩ : ∃ nm : Str, nmd = .str nm ∧ nm ∈ N0 := by
      simp only [List.mem_cons, List.not_mem_nil, or_false] at hnm
      rcases hnm with rfl | rfl | rfl <;> exact ⟨_, rfl, by simp [N0]⟩
    (refine laterP_in ?_; repeat ((first | with_reducible refine laterP_i ?_ | with_reducible refine later_i ?_); try simp -implicitDefEqProofs -dsimp only [↓D3.seq3_stop, ↓D3.ifS3.eq_1, ↓D3.b3.eq_1, ↓D3.op3.eq_1, ↓D3.un3.eq_1, ↓D3.v3.eq_1, ↓D3.c3.eq_1, fIx_tup, fIx_lst, at3_0, at3_1, at3_2, at3_3, at3_4, at3_5, at3_6, start3, fI0_i, fI_i, fLt, fLe, fGt, fGe, fEqI, fNeI, fMin, fMax, ↓D3.asg3.eq_1, ↓D3.name3.eq_1, ↓D3.sub3.eq_1, ↓D3.ret3.eq_1, ↓D3.retN3.eq_1, ↓D3.nx3.eq_1, ↓D3.drop3.eq_1, ↓D3.par3.eq_1, ↓D3.aug3.eq_1, ↓D3.and3.eq_1, ↓D3.or3.eq_1, ↓D3.not3.eq_1, ↓D3.andV3.eq_1, ↓D3.orV3.eq_1, ↓D3.notV3.eq_1, ↓D3.if3.eq_1, ↓D3.nil3.eq_1, ↓D3.cons3.eq_1, ↓D3.tup3.eq_1, ↓D3.lst3.eq_1, ↓D3.lstM3.eq_1, ↓D3.gtup3.eq_1, ↓D3.gcons3.eq_1, ↓D3.gnil3.eq_1, ↓D3.gunl3.eq_1, ↓D3.bits3.eq_1, ↓D3.neg3.eq_1, ↓D3.chain3.eq_1, fIsi_int_int, fIsi_int_bool, fIsi_int_tuple, fIsi_int_str, fIsi_int_list, fIsi_bl_int, fIsi_bl_bool, fIsi_bl_tuple, fIsi_bl_str, fIsi_bl_list, fIsi_non_int, fIsi_non_bool, fIsi_non_tuple, fIsi_non_str, fIsi_non_list, fIsi_str_int, fIsi_str_bool, fIsi_str_tuple, fIsi_str_str, fIsi_str_list, fIsi_tup_int, fIsi_tup_bool, fIsi_tup_tuple, fIsi_tup_str, fIsi_tup_list, fIsi_lst_int, fIsi_lst_bool, fIsi_lst_tuple, fIsi_lst_str, fIsi_lst_list, fLen_lst, fLen_tup, fAbs, ↓D3.call3_k, ↓D3.kont_app, ↓D3.isN3.eq_1, ↓D3.notN3.eq_1, dIsN_non, dIsN_int, dIsN_bl, dIsN_str, dIsN_tup, dIsN_lst, ↓D3.slc3.eq_1, ↓D3.part3.eq_1, ↓D3.noPart3.eq_1, ↓D3.ilst3.eq_1, ↓D3.itup3.eq_1, ↓D3.irng1.eq_1, ↓D3.irng2.eq_1, ↓D3.for3.eq_1, fCat, fEq_int, fNe_int, fEq_bl, fNe_bl, fEq_pair, fNe_pair, List.map, List.replicate, List.length_cons, List.length_nil, List.set_cons_zero, List.set_cons_succ, List.getElem?_cons_zero, List.getElem?_cons_succ, List.cons_append, List.nil_append, at_0, at_1, at_2, at_3, at_4, at_5, at_6, ix_0, ix_1, ix_2, put_same, put_put, decide_eq_true_eq, Bool.not_eq_true', decide_eq_false_iff_not, ite_not, ite_true, ite_false, if_true, if_false, Bool.false_eq_true, ↓reduceIte, reduceIte, Nat.reduceAdd, Nat.reduceSub, Int.reduceToNat, Nat.reduceLeDiff, not_false_eq_true, true_and, and_true, ne_eq, Int.reduceEq, Nat.zero_add, Bool.not_true, Bool.not_false, reduceCtorEq, nc0, nc1, nc2, nc3, nc4, nc5, fIx_ref put_same, fLen_ref put_same, ↓D3.lc3.eq_1, fInt, fTuple, fList, fNeS_s, fEqS_s, ↓D3.gstar3.eq_1, fInK_s, fNinK_s, fLenS_s, ↓D3.slcT3.eq_1, fCatT_t, ↓D3.app3.eq_1, ↓D3.frz3.eq_1, ↓D3.dc23.eq_1, ↓D3.lcT3.eq_1, ↓D3.litRep3.eq_1, ↓D3.litRepM3.eq_1, ↓D3.rev3.eq_1, ↓D3.dget3.eq_1, ↓D3.disp3.eq_1, ↓D3.ienum3.eq_1, pop3, sset3]))
    refine ⟨p, 999950000, nm, [a, b, c], rfl, nms, by simp, d5.le (by decide), fun other m6 w6 o6 d6 => ?_⟩
    have hn3 : ∀ x ∈ [nm, a, b, c], x ∈ N0 := fun x h => by
      rcases List.mem_cons.mp h with rfl | h
      · exact hnm0
      · exact hn1 x h
    have nms3 : Nms [nm, a, b, c] := fun x h => (n0_nm (hn3 x h)).2
    have hn4 : ∀ x ∈ [nm, a, b, c], isNm (.str x) = true := fun x h => (n0_nm (hn3 x h)).1
    have wo : Wn N0 one := (w4.wn hn2).more hn1
    have wl : Wn N0 other := (w6.wn hn4).more hn3
    have c1 : cntD one ≤ 15 := by
      have h1 := wt_cnt hn2 w4
      have h2 : 2 ^ (e + 1) ≤ 2 ^ 4 := Nat.pow_le_pow_right (by decide) (by omega)
      omega
    have c2 : cntD other ≤ 16 := lim_cnt hn4 w6
    obtain ⟨pl1, _, dp1⟩ := w4.ok nms
    obtain ⟨pl2, _, dp2⟩ := w6.ok nms3
    have ha := hn1 a (by simp)
    have hk : Wn N0 (.tup [.str "name", .str a]) := wn_nm (n0_nm ha).1 ha
    have wt : Wn N0 (.tup [.str "times", other, .tup [.str "name", .str a]]) := wn_two (by simp [K2]) wl hk
    have wb : Wn N0 (.tup [.str "plus", one, .tup [.str "times", other, .tup [.str "name", .str a]]]) := wn_two (by simp [K2]) wo wt
    have cb : cntD (.tup [.str "plus", one, .tup [.str "times", other, .tup [.str "name", .str a]]]) = cntD one + cntD other + 3 := by
      rw [cnt_two (by simp [K2]), cnt_two (by simp [K2]), cnt_nm (n0_nm ha).1]
      omega
    have fb : ∀ z, Fre (.tup [.str "plus", one, .tup [.str "times", other, .tup [.str "name", .str a]]]) z ↔ Fre one z ∨ Fre other z ∨ z = a := fun z => by
      rw [fre_two (by simp [K2]) (by decide) (by decide), fre_two (by simp [K2]) (by decide) (by decide), fre_nm]
    have plb : Pl 140 (.tup [.str "plus", one, .tup [.str "times", other, .tup [.str "name", .str a]]]) := ⟨pl_k (.inl (by simp [K2])), pl1, ⟨pl_k (.inl (by simp [K2])), pl2, ⟨⟨by decide +kernel, by decide +kernel⟩, (n0_nm ha).2, trivial⟩, trivial⟩, trivial⟩
    have dpb : dp (.tup [.str "plus", one, .tup [.str "times", other, .tup [.str "name", .str a]]]) ≤ 16 := by simp only [dp, dps]; omega
    generalize eb : (D.tup [.str "plus", one, .tup [.str "times", other, .tup [.str "name", .str a]]]) = both at wb cb fb plb dpb
    have q1 : dp one ≤ 16 := by omega
    have q2 : dp other ≤ 16 := by omega
    clear w4 w6
    (refine laterP_in ?_; repeat ((first | with_reducible refine laterP_i ?_ | with_reducible refine later_i ?_); try simp -implicitDefEqProofs -dsimp only [↓D3.seq3_stop, ↓D3.ifS3.eq_1, ↓D3.b3.eq_1, ↓D3.op3.eq_1, ↓D3.un3.eq_1, ↓D3.v3.eq_1, ↓D3.c3.eq_1, fIx_tup, fIx_lst, at3_0, at3_1, at3_2, at3_3, at3_4, at3_5, at3_6, start3, fI0_i, fI_i, fLt, fLe, fGt, fGe, fEqI, fNeI, fMin, fMax, ↓D3.asg3.eq_1, ↓D3.name3.eq_1, ↓D3.sub3.eq_1, ↓D3.ret3.eq_1, ↓D3.retN3.eq_1, ↓D3.nx3.eq_1, ↓D3.drop3.eq_1, ↓D3.par3.eq_1, ↓D3.aug3.eq_1, ↓D3.and3.eq_1, ↓D3.or3.eq_1, ↓D3.not3.eq_1, ↓D3.andV3.eq_1, ↓D3.orV3.eq_1, ↓D3.notV3.eq_1, ↓D3.if3.eq_1, ↓D3.nil3.eq_1, ↓D3.cons3.eq_1, ↓D3.tup3.eq_1, ↓D3.lst3.eq_1, ↓D3.lstM3.eq_1, ↓D3.gtup3.eq_1, ↓D3.gcons3.eq_1, ↓D3.gnil3.eq_1, ↓D3.gunl3.eq_1, ↓D3.bits3.eq_1, ↓D3.neg3.eq_1, ↓D3.chain3.eq_1, fIsi_int_int, fIsi_int_bool, fIsi_int_tuple, fIsi_int_str, fIsi_int_list, fIsi_bl_int, fIsi_bl_bool, fIsi_bl_tuple, fIsi_bl_str, fIsi_bl_list, fIsi_non_int, fIsi_non_bool, fIsi_non_tuple, fIsi_non_str, fIsi_non_list, fIsi_str_int, fIsi_str_bool, fIsi_str_tuple, fIsi_str_str, fIsi_str_list, fIsi_tup_int, fIsi_tup_bool, fIsi_tup_tuple, fIsi_tup_str, fIsi_tup_list, fIsi_lst_int, fIsi_lst_bool, fIsi_lst_tuple, fIsi_lst_str, fIsi_lst_list, fLen_lst, fLen_tup, fAbs, ↓D3.call3_k, ↓D3.kont_app, ↓D3.isN3.eq_1, ↓D3.notN3.eq_1, dIsN_non, dIsN_int, dIsN_bl, dIsN_str, dIsN_tup, dIsN_lst, ↓D3.slc3.eq_1, ↓D3.part3.eq_1, ↓D3.noPart3.eq_1, ↓D3.ilst3.eq_1, ↓D3.itup3.eq_1, ↓D3.irng1.eq_1, ↓D3.irng2.eq_1, ↓D3.for3.eq_1, fCat, fEq_int, fNe_int, fEq_bl, fNe_bl, fEq_pair, fNe_pair, List.map, List.replicate, List.length_cons, List.length_nil, List.set_cons_zero, List.set_cons_succ, List.getElem?_cons_zero, List.getElem?_cons_succ, List.cons_append, List.nil_append, at_0, at_1, at_2, at_3, at_4, at_5, at_6, ix_0, ix_1, ix_2, put_same, put_put, decide_eq_true_eq, Bool.not_eq_true', decide_eq_false_iff_not, ite_not, ite_true, ite_false, if_true, if_false, Bool.false_eq_true, ↓reduceIte, reduceIte, Nat.reduceAdd, Nat.reduceSub, Int.reduceToNat, Nat.reduceLeDiff, not_false_eq_true, true_and, and_true, ne_eq, Int.reduceEq, Nat.zero_add, Bool.not_true, Bool.not_false, reduceCtorEq, nc0, nc1, nc2, nc3, nc4, nc5, fIx_ref put_same, fLen_ref put_same, ↓D3.lc3.eq_1, fInt, fTuple, fList, fNeS_s, fEqS_s, ↓D3.gstar3.eq_1, fInK_s, fNinK_s, fLenS_s, ↓D3.slcT3.eq_1, fCatT_t, ↓D3.app3.eq_1, ↓D3.frz3.eq_1, ↓D3.dc23.eq_1, ↓D3.lcT3.eq_1, ↓D3.litRep3.eq_1, ↓D3.litRepM3.eq_1, ↓D3.rev3.eq_1, ↓D3.dget3.eq_1, ↓D3.disp3.eq_1, ↓D3.ienum3.eq_1, pop3, sset3]))
    rw [eb]
    refine ⟨one, rfl, wo, pl1, q1, by omega, fun m7 h7 => ?_⟩
    (refine laterP_in ?_; repeat ((first | with_reducible refine laterP_i ?_ | with_reducible refine later_i ?_); try simp -implicitDefEqProofs -dsimp only [↓D3.seq3_stop, ↓D3.ifS3.eq_1, ↓D3.b3.eq_1, ↓D3.op3.eq_1, ↓D3.un3.eq_1, ↓D3.v3.eq_1, ↓D3.c3.eq_1, fIx_tup, fIx_lst, at3_0, at3_1, at3_2, at3_3, at3_4, at3_5, at3_6, start3, fI0_i, fI_i, fLt, fLe, fGt, fGe, fEqI, fNeI, fMin, fMax, ↓D3.asg3.eq_1, ↓D3.name3.eq_1, ↓D3.sub3.eq_1, ↓D3.ret3.eq_1, ↓D3.retN3.eq_1, ↓D3.nx3.eq_1, ↓D3.drop3.eq_1, ↓D3.par3.eq_1, ↓D3.aug3.eq_1, ↓D3.and3.eq_1, ↓D3.or3.eq_1, ↓D3.not3.eq_1, ↓D3.andV3.eq_1, ↓D3.orV3.eq_1, ↓D3.notV3.eq_1, ↓D3.if3.eq_1, ↓D3.nil3.eq_1, ↓D3.cons3.eq_1, ↓D3.tup3.eq_1, ↓D3.lst3.eq_1, ↓D3.lstM3.eq_1, ↓D3.gtup3.eq_1, ↓D3.gcons3.eq_1, ↓D3.gnil3.eq_1, ↓D3.gunl3.eq_1, ↓D3.bits3.eq_1, ↓D3.neg3.eq_1, ↓D3.chain3.eq_1, fIsi_int_int, fIsi_int_bool, fIsi_int_tuple, fIsi_int_str, fIsi_int_list, fIsi_bl_int, fIsi_bl_bool, fIsi_bl_tuple, fIsi_bl_str, fIsi_bl_list, fIsi_non_int, fIsi_non_bool, fIsi_non_tuple, fIsi_non_str, fIsi_non_list, fIsi_str_int, fIsi_str_bool, fIsi_str_tuple, fIsi_str_str, fIsi_str_list, fIsi_tup_int, fIsi_tup_bool, fIsi_tup_tuple, fIsi_tup_str, fIsi_tup_list, fIsi_lst_int, fIsi_lst_bool, fIsi_lst_tuple, fIsi_lst_str, fIsi_lst_list, fLen_lst, fLen_tup, fAbs, ↓D3.call3_k, ↓D3.kont_app, ↓D3.isN3.eq_1, ↓D3.notN3.eq_1, dIsN_non, dIsN_int, dIsN_bl, dIsN_str, dIsN_tup, dIsN_lst, ↓D3.slc3.eq_1, ↓D3.part3.eq_1, ↓D3.noPart3.eq_1, ↓D3.ilst3.eq_1, ↓D3.itup3.eq_1, ↓D3.irng1.eq_1, ↓D3.irng2.eq_1, ↓D3.for3.eq_1, fCat, fEq_int, fNe_int, fEq_bl, fNe_bl, fEq_pair, fNe_pair, List.map, List.replicate, List.length_cons, List.length_nil, List.set_cons_zero, List.set_cons_succ, List.getElem?_cons_zero, List.getElem?_cons_succ, List.cons_append, List.nil_append, at_0, at_1, at_2, at_3, at_4, at_5, at_6, ix_0, ix_1, ix_2, put_same, put_put, decide_eq_true_eq, Bool.not_eq_true', decide_eq_false_iff_not, ite_not, ite_true, ite_false, if_true, if_false, Bool.false_eq_true, ↓reduceIte, reduceIte, Nat.reduceAdd, Nat.reduceSub, Int.reduceToNat, Nat.reduceLeDiff, not_false_eq_true, true_and, and_true, ne_eq, Int.reduceEq, Nat.zero_add, Bool.not_true, Bool.not_false, reduceCtorEq, nc0, nc1, nc2, nc3, nc4, nc5, fIx_ref put_same, fLen_ref put_same, ↓D3.lc3.eq_1, fInt, fTuple, fList, fNeS_s, fEqS_s, ↓D3.gstar3.eq_1, fInK_s, fNinK_s, fLenS_s, ↓D3.slcT3.eq_1, fCatT_t, ↓D3.app3.eq_1, ↓D3.frz3.eq_1, ↓D3.dc23.eq_1, ↓D3.lcT3.eq_1, ↓D3.litRep3.eq_1, ↓D3.litRepM3.eq_1, ↓D3.rev3.eq_1, ↓D3.dget3.eq_1, ↓D3.disp3.eq_1, ↓D3.ienum3.eq_1, pop3, sset3]))
    refine ⟨other, rfl, wl, pl2, q2, by omega, fun m8 h8 => ?_⟩
    (refine laterP_in ?_; repeat ((first | with_reducible refine laterP_i ?_ | with_reducible refine later_i ?_); try simp -implicitDefEqProofs -dsimp only [↓D3.seq3_stop, ↓D3.ifS3.eq_1, ↓D3.b3.eq_1, ↓D3.op3.eq_1, ↓D3.un3.eq_1, ↓D3.v3.eq_1, ↓D3.c3.eq_1, fIx_tup, fIx_lst, at3_0, at3_1, at3_2, at3_3, at3_4, at3_5, at3_6, start3, fI0_i, fI_i, fLt, fLe, fGt, fGe, fEqI, fNeI, fMin, fMax, ↓D3.asg3.eq_1, ↓D3.name3.eq_1, ↓D3.sub3.eq_1, ↓D3.ret3.eq_1, ↓D3.retN3.eq_1, ↓D3.nx3.eq_1, ↓D3.drop3.eq_1, ↓D3.par3.eq_1, ↓D3.aug3.eq_1, ↓D3.and3.eq_1, ↓D3.or3.eq_1, ↓D3.not3.eq_1, ↓D3.andV3.eq_1, ↓D3.orV3.eq_1, ↓D3.notV3.eq_1, ↓D3.if3.eq_1, ↓D3.nil3.eq_1, ↓D3.cons3.eq_1, ↓D3.tup3.eq_1, ↓D3.lst3.eq_1, ↓D3.lstM3.eq_1, ↓D3.gtup3.eq_1, ↓D3.gcons3.eq_1, ↓D3.gnil3.eq_1, ↓D3.gunl3.eq_1, ↓D3.bits3.eq_1, ↓D3.neg3.eq_1, ↓D3.chain3.eq_1, fIsi_int_int, fIsi_int_bool, fIsi_int_tuple, fIsi_int_str, fIsi_int_list, fIsi_bl_int, fIsi_bl_bool, fIsi_bl_tuple, fIsi_bl_str, fIsi_bl_list, fIsi_non_int, fIsi_non_bool, fIsi_non_tuple, fIsi_non_str, fIsi_non_list, fIsi_str_int, fIsi_str_bool, fIsi_str_tuple, fIsi_str_str, fIsi_str_list, fIsi_tup_int, fIsi_tup_bool, fIsi_tup_tuple, fIsi_tup_str, fIsi_tup_list, fIsi_lst_int, fIsi_lst_bool, fIsi_lst_tuple, fIsi_lst_str, fIsi_lst_list, fLen_lst, fLen_tup, fAbs, ↓D3.call3_k, ↓D3.kont_app, ↓D3.isN3.eq_1, ↓D3.notN3.eq_1, dIsN_non, dIsN_int, dIsN_bl, dIsN_str, dIsN_tup, dIsN_lst, ↓D3.slc3.eq_1, ↓D3.part3.eq_1, ↓D3.noPart3.eq_1, ↓D3.ilst3.eq_1, ↓D3.itup3.eq_1, ↓D3.irng1.eq_1, ↓D3.irng2.eq_1, ↓D3.for3.eq_1, fCat, fEq_int, fNe_int, fEq_bl, fNe_bl, fEq_pair, fNe_pair, List.map, List.replicate, List.length_cons, List.length_nil, List.set_cons_zero, List.set_cons_succ, List.getElem?_cons_zero, List.getElem?_cons_succ, List.cons_append, List.nil_append, at_0, at_1, at_2, at_3, at_4, at_5, at_6, ix_0, ix_1, ix_2, put_same, put_put, decide_eq_true_eq, Bool.not_eq_true', decide_eq_false_iff_not, ite_not, ite_true, ite_false, if_true, if_false, Bool.false_eq_true, ↓reduceIte, reduceIte, Nat.reduceAdd, Nat.reduceSub, Int.reduceToNat, Nat.reduceLeDiff, not_false_eq_true, true_and, and_true, ne_eq, Int.reduceEq, Nat.zero_add, Bool.not_true, Bool.not_false, reduceCtorEq, nc0, nc1, nc2, nc3, nc4, nc5, fIx_ref put_same, fLen_ref put_same, ↓D3.lc3.eq_1, fInt, fTuple, fList, fNeS_s, fEqS_s, ↓D3.gstar3.eq_1, fInK_s, fNinK_s, fLenS_s, ↓D3.slcT3.eq_1, fCatT_t, ↓D3.app3.eq_1, ↓D3.frz3.eq_1, ↓D3.dc23.eq_1, ↓D3.lcT3.eq_1, ↓D3.litRep3.eq_1, ↓D3.litRepM3.eq_1, ↓D3.rev3.eq_1, ↓D3.dget3.eq_1, ↓D3.disp3.eq_1, ↓D3.ienum3.eq_1, pop3, sset3]))
    refine ⟨both, rfl, wb, plb, dpb, by omega, fun m9 h9 => ?_⟩
    (refine laterP_in ?_; repeat ((first | with_reducible refine laterP_i ?_ | with_reducible refine later_i ?_); try simp -implicitDefEqProofs -dsimp only [↓D3.seq3_stop, ↓D3.ifS3.eq_1, ↓D3.b3.eq_1, ↓D3.op3.eq_1, ↓D3.un3.eq_1, ↓D3.v3.eq_1, ↓D3.c3.eq_1, fIx_tup, fIx_lst, at3_0, at3_1, at3_2, at3_3, at3_4, at3_5, at3_6, start3, fI0_i, fI_i, fLt, fLe, fGt, fGe, fEqI, fNeI, fMin, fMax, ↓D3.asg3.eq_1, ↓D3.name3.eq_1, ↓D3.sub3.eq_1, ↓D3.ret3.eq_1, ↓D3.retN3.eq_1, ↓D3.nx3.eq_1, ↓D3.drop3.eq_1, ↓D3.par3.eq_1, ↓D3.aug3.eq_1, ↓D3.and3.eq_1, ↓D3.or3.eq_1, ↓D3.not3.eq_1, ↓D3.andV3.eq_1, ↓D3.orV3.eq_1, ↓D3.notV3.eq_1, ↓D3.if3.eq_1, ↓D3.nil3.eq_1, ↓D3.cons3.eq_1, ↓D3.tup3.eq_1, ↓D3.lst3.eq_1, ↓D3.lstM3.eq_1, ↓D3.gtup3.eq_1, ↓D3.gcons3.eq_1, ↓D3.gnil3.eq_1, ↓D3.gunl3.eq_1, ↓D3.bits3.eq_1, ↓D3.neg3.eq_1, ↓D3.chain3.eq_1, fIsi_int_int, fIsi_int_bool, fIsi_int_tuple, fIsi_int_str, fIsi_int_list, fIsi_bl_int, fIsi_bl_bool, fIsi_bl_tuple, fIsi_bl_str, fIsi_bl_list, fIsi_non_int, fIsi_non_bool, fIsi_non_tuple, fIsi_non_str, fIsi_non_list, fIsi_str_int, fIsi_str_bool, fIsi_str_tuple, fIsi_str_str, fIsi_str_list, fIsi_tup_int, fIsi_tup_bool, fIsi_tup_tuple, fIsi_tup_str, fIsi_tup_list, fIsi_lst_int, fIsi_lst_bool, fIsi_lst_tuple, fIsi_lst_str, fIsi_lst_list, fLen_lst, fLen_tup, fAbs, ↓D3.call3_k, ↓D3.kont_app, ↓D3.isN3.eq_1, ↓D3.notN3.eq_1, dIsN_non, dIsN_int, dIsN_bl, dIsN_str, dIsN_tup, dIsN_lst, ↓D3.slc3.eq_1, ↓D3.part3.eq_1, ↓D3.noPart3.eq_1, ↓D3.ilst3.eq_1, ↓D3.itup3.eq_1, ↓D3.irng1.eq_1, ↓D3.irng2.eq_1, ↓D3.for3.eq_1, fCat, fEq_int, fNe_int, fEq_bl, fNe_bl, fEq_pair, fNe_pair, List.map, List.replicate, List.length_cons, List.length_nil, List.set_cons_zero, List.set_cons_succ, List.getElem?_cons_zero, List.getElem?_cons_succ, List.cons_append, List.nil_append, at_0, at_1, at_2, at_3, at_4, at_5, at_6, ix_0, ix_1, ix_2, put_same, put_put, decide_eq_true_eq, Bool.not_eq_true', decide_eq_false_iff_not, ite_not, ite_true, ite_false, if_true, if_false, Bool.false_eq_true, ↓reduceIte, reduceIte, Nat.reduceAdd, Nat.reduceSub, Int.reduceToNat, Nat.reduceLeDiff, not_false_eq_true, true_and, and_true, ne_eq, Int.reduceEq, Nat.zero_add, Bool.not_true, Bool.not_false, reduceCtorEq, nc0, nc1, nc2, nc3, nc4, nc5, fIx_ref put_same, fLen_ref put_same, ↓D3.lc3.eq_1, fInt, fTuple, fList, fNeS_s, fEqS_s, ↓D3.gstar3.eq_1, fInK_s, fNinK_s, fLenS_s, ↓D3.slcT3.eq_1, fCatT_t, ↓D3.app3.eq_1, ↓D3.frz3.eq_1, ↓D3.dc23.eq_1, ↓D3.lcT3.eq_1, ↓D3.litRep3.eq_1, ↓D3.litRepM3.eq_1, ↓D3.rev3.eq_1, ↓D3.dget3.eq_1, ↓D3.disp3.eq_1, ↓D3.ienum3.eq_1, pop3, sset3]))
    refine ⟨.tup [.str "size", one], rfl, wn_one (by simp [K1]) wo, ⟨pl_k (.inr (by simp [K1])), pl1, trivial⟩, by simp only [dp, dps]; omega, by decide, ?_⟩
    rw [cnt_one (by simp [K1])]
    (refine laterP_in ?_; repeat ((first | with_reducible refine laterP_i ?_ | with_reducible refine later_i ?_); try simp -implicitDefEqProofs -dsimp only [↓D3.seq3_stop, ↓D3.ifS3.eq_1, ↓D3.b3.eq_1, ↓D3.op3.eq_1, ↓D3.un3.eq_1, ↓D3.v3.eq_1, ↓D3.c3.eq_1, fIx_tup, fIx_lst, at3_0, at3_1, at3_2, at3_3, at3_4, at3_5, at3_6, start3, fI0_i, fI_i, fLt, fLe, fGt, fGe, fEqI, fNeI, fMin, fMax, ↓D3.asg3.eq_1, ↓D3.name3.eq_1, ↓D3.sub3.eq_1, ↓D3.ret3.eq_1, ↓D3.retN3.eq_1, ↓D3.nx3.eq_1, ↓D3.drop3.eq_1, ↓D3.par3.eq_1, ↓D3.aug3.eq_1, ↓D3.and3.eq_1, ↓D3.or3.eq_1, ↓D3.not3.eq_1, ↓D3.andV3.eq_1, ↓D3.orV3.eq_1, ↓D3.notV3.eq_1, ↓D3.if3.eq_1, ↓D3.nil3.eq_1, ↓D3.cons3.eq_1, ↓D3.tup3.eq_1, ↓D3.lst3.eq_1, ↓D3.lstM3.eq_1, ↓D3.gtup3.eq_1, ↓D3.gcons3.eq_1, ↓D3.gnil3.eq_1, ↓D3.gunl3.eq_1, ↓D3.bits3.eq_1, ↓D3.neg3.eq_1, ↓D3.chain3.eq_1, fIsi_int_int, fIsi_int_bool, fIsi_int_tuple, fIsi_int_str, fIsi_int_list, fIsi_bl_int, fIsi_bl_bool, fIsi_bl_tuple, fIsi_bl_str, fIsi_bl_list, fIsi_non_int, fIsi_non_bool, fIsi_non_tuple, fIsi_non_str, fIsi_non_list, fIsi_str_int, fIsi_str_bool, fIsi_str_tuple, fIsi_str_str, fIsi_str_list, fIsi_tup_int, fIsi_tup_bool, fIsi_tup_tuple, fIsi_tup_str, fIsi_tup_list, fIsi_lst_int, fIsi_lst_bool, fIsi_lst_tuple, fIsi_lst_str, fIsi_lst_list, fLen_lst, fLen_tup, fAbs, ↓D3.call3_k, ↓D3.kont_app, ↓D3.isN3.eq_1, ↓D3.notN3.eq_1, dIsN_non, dIsN_int, dIsN_bl, dIsN_str, dIsN_tup, dIsN_lst, ↓D3.slc3.eq_1, ↓D3.part3.eq_1, ↓D3.noPart3.eq_1, ↓D3.ilst3.eq_1, ↓D3.itup3.eq_1, ↓D3.irng1.eq_1, ↓D3.irng2.eq_1, ↓D3.for3.eq_1, fCat, fEq_int, fNe_int, fEq_bl, fNe_bl, fEq_pair, fNe_pair, List.map, List.replicate, List.length_cons, List.length_nil, List.set_cons_zero, List.set_cons_succ, List.getElem?_cons_zero, List.getElem?_cons_succ, List.cons_append, List.nil_append, at_0, at_1, at_2, at_3, at_4, at_5, at_6, ix_0, ix_1, ix_2, put_same, put_put, decide_eq_true_eq, Bool.not_eq_true', decide_eq_false_iff_not, ite_not, ite_true, ite_false, if_true, if_false, Bool.false_eq_true, ↓reduceIte, reduceIte, Nat.reduceAdd, Nat.reduceSub, Int.reduceToNat, Nat.reduceLeDiff, not_false_eq_true, true_and, and_true, ne_eq, Int.reduceEq, Nat.zero_add, Bool.not_true, Bool.not_false, reduceCtorEq, nc0, nc1, nc2, nc3, nc4, nc5, fIx_ref put_same, fLen_ref put_same, ↓D3.lc3.eq_1, fInt, fTuple, fList, fNeS_s, fEqS_s, ↓D3.gstar3.eq_1, fInK_s, fNinK_s, fLenS_s, ↓D3.slcT3.eq_1, fCatT_t, ↓D3.app3.eq_1, ↓D3.frz3.eq_1, ↓D3.dc23.eq_1, ↓D3.lcT3.eq_1, ↓D3.litRep3.eq_1, ↓D3.litRepM3.eq_1, ↓D3.rev3.eq_1, ↓D3.dget3.eq_1, ↓D3.disp3.eq_1, ↓D3.ienum3.eq_1, pop3, sset3]))
    refine ⟨one, rfl, wo, pl1, q1, by decide, ?_⟩
    (refine laterP_in ?_; repeat ((first | with_reducible refine laterP_i ?_ | with_reducible refine later_i ?_); try simp -implicitDefEqProofs -dsimp only [↓D3.seq3_stop, ↓D3.ifS3.eq_1, ↓D3.b3.eq_1, ↓D3.op3.eq_1, ↓D3.un3.eq_1, ↓D3.v3.eq_1, ↓D3.c3.eq_1, fIx_tup, fIx_lst, at3_0, at3_1, at3_2, at3_3, at3_4, at3_5, at3_6, start3, fI0_i, fI_i, fLt, fLe, fGt, fGe, fEqI, fNeI, fMin, fMax, ↓D3.asg3.eq_1, ↓D3.name3.eq_1, ↓D3.sub3.eq_1, ↓D3.ret3.eq_1, ↓D3.retN3.eq_1, ↓D3.nx3.eq_1, ↓D3.drop3.eq_1, ↓D3.par3.eq_1, ↓D3.aug3.eq_1, ↓D3.and3.eq_1, ↓D3.or3.eq_1, ↓D3.not3.eq_1, ↓D3.andV3.eq_1, ↓D3.orV3.eq_1, ↓D3.notV3.eq_1, ↓D3.if3.eq_1, ↓D3.nil3.eq_1, ↓D3.cons3.eq_1, ↓D3.tup3.eq_1, ↓D3.lst3.eq_1, ↓D3.lstM3.eq_1, ↓D3.gtup3.eq_1, ↓D3.gcons3.eq_1, ↓D3.gnil3.eq_1, ↓D3.gunl3.eq_1, ↓D3.bits3.eq_1, ↓D3.neg3.eq_1, ↓D3.chain3.eq_1, fIsi_int_int, fIsi_int_bool, fIsi_int_tuple, fIsi_int_str, fIsi_int_list, fIsi_bl_int, fIsi_bl_bool, fIsi_bl_tuple, fIsi_bl_str, fIsi_bl_list, fIsi_non_int, fIsi_non_bool, fIsi_non_tuple, fIsi_non_str, fIsi_non_list, fIsi_str_int, fIsi_str_bool, fIsi_str_tuple, fIsi_str_str, fIsi_str_list, fIsi_tup_int, fIsi_tup_bool, fIsi_tup_tuple, fIsi_tup_str, fIsi_tup_list, fIsi_lst_int, fIsi_lst_bool, fIsi_lst_tuple, fIsi_lst_str, fIsi_lst_list, fLen_lst, fLen_tup, fAbs, ↓D3.call3_k, ↓D3.kont_app, ↓D3.isN3.eq_1, ↓D3.notN3.eq_1, dIsN_non, dIsN_int, dIsN_bl, dIsN_str, dIsN_tup, dIsN_lst, ↓D3.slc3.eq_1, ↓D3.part3.eq_1, ↓D3.noPart3.eq_1, ↓D3.ilst3.eq_1, ↓D3.itup3.eq_1, ↓D3.irng1.eq_1, ↓D3.irng2.eq_1, ↓D3.for3.eq_1, fCat, fEq_int, fNe_int, fEq_bl, fNe_bl, fEq_pair, fNe_pair, List.map, List.replicate, List.length_cons, List.length_nil, List.set_cons_zero, List.set_cons_succ, List.getElem?_cons_zero, List.getElem?_cons_succ, List.cons_append, List.nil_append, at_0, at_1, at_2, at_3, at_4, at_5, at_6, ix_0, ix_1, ix_2, put_same, put_put, decide_eq_true_eq, Bool.not_eq_true', decide_eq_false_iff_not, ite_not, ite_true, ite_false, if_true, if_false, Bool.false_eq_true, ↓reduceIte, reduceIte, Nat.reduceAdd, Nat.reduceSub, Int.reduceToNat, Nat.reduceLeDiff, not_false_eq_true, true_and, and_true, ne_eq, Int.reduceEq, Nat.zero_add, Bool.not_true, Bool.not_false, reduceCtorEq, nc0, nc1, nc2, nc3, nc4, nc5, fIx_ref put_same, fLen_ref put_same, ↓D3.lc3.eq_1, fInt, fTuple, fList, fNeS_s, fEqS_s, ↓D3.gstar3.eq_1, fInK_s, fNinK_s, fLenS_s, ↓D3.slcT3.eq_1, fCatT_t, ↓D3.app3.eq_1, ↓D3.frz3.eq_1, ↓D3.dc23.eq_1, ↓D3.lcT3.eq_1, ↓D3.litRep3.eq_1, ↓D3.litRepM3.eq_1, ↓D3.rev3.eq_1, ↓D3.dget3.eq_1, ↓D3.disp3.eq_1, ↓D3.ienum3.eq_1, pop3, sset3]))
    refine ite2 (fun _ => ?_) (fun z => absurd (by omega) z)
    (refine laterP_in ?_; repeat ((first | with_reducible refine laterP_i ?_ | with_reducible refine later_i ?_); try simp -implicitDefEqProofs -dsimp only [↓D3.seq3_stop, ↓D3.ifS3.eq_1, ↓D3.b3.eq_1, ↓D3.op3.eq_1, ↓D3.un3.eq_1, ↓D3.v3.eq_1, ↓D3.c3.eq_1, fIx_tup, fIx_lst, at3_0, at3_1, at3_2, at3_3, at3_4, at3_5, at3_6, start3, fI0_i, fI_i, fLt, fLe, fGt, fGe, fEqI, fNeI, fMin, fMax, ↓D3.asg3.eq_1, ↓D3.name3.eq_1, ↓D3.sub3.eq_1, ↓D3.ret3.eq_1, ↓D3.retN3.eq_1, ↓D3.nx3.eq_1, ↓D3.drop3.eq_1, ↓D3.par3.eq_1, ↓D3.aug3.eq_1, ↓D3.and3.eq_1, ↓D3.or3.eq_1, ↓D3.not3.eq_1, ↓D3.andV3.eq_1, ↓D3.orV3.eq_1, ↓D3.notV3.eq_1, ↓D3.if3.eq_1, ↓D3.nil3.eq_1, ↓D3.cons3.eq_1, ↓D3.tup3.eq_1, ↓D3.lst3.eq_1, ↓D3.lstM3.eq_1, ↓D3.gtup3.eq_1, ↓D3.gcons3.eq_1, ↓D3.gnil3.eq_1, ↓D3.gunl3.eq_1, ↓D3.bits3.eq_1, ↓D3.neg3.eq_1, ↓D3.chain3.eq_1, fIsi_int_int, fIsi_int_bool, fIsi_int_tuple, fIsi_int_str, fIsi_int_list, fIsi_bl_int, fIsi_bl_bool, fIsi_bl_tuple, fIsi_bl_str, fIsi_bl_list, fIsi_non_int, fIsi_non_bool, fIsi_non_tuple, fIsi_non_str, fIsi_non_list, fIsi_str_int, fIsi_str_bool, fIsi_str_tuple, fIsi_str_str, fIsi_str_list, fIsi_tup_int, fIsi_tup_bool, fIsi_tup_tuple, fIsi_tup_str, fIsi_tup_list, fIsi_lst_int, fIsi_lst_bool, fIsi_lst_tuple, fIsi_lst_str, fIsi_lst_list, fLen_lst, fLen_tup, fAbs, ↓D3.call3_k, ↓D3.kont_app, ↓D3.isN3.eq_1, ↓D3.notN3.eq_1, dIsN_non, dIsN_int, dIsN_bl, dIsN_str, dIsN_tup, dIsN_lst, ↓D3.slc3.eq_1, ↓D3.part3.eq_1, ↓D3.noPart3.eq_1, ↓D3.ilst3.eq_1, ↓D3.itup3.eq_1, ↓D3.irng1.eq_1, ↓D3.irng2.eq_1, ↓D3.for3.eq_1, fCat, fEq_int, fNe_int, fEq_bl, fNe_bl, fEq_pair, fNe_pair, List.map, List.replicate, List.length_cons, List.length_nil, List.set_cons_zero, List.set_cons_succ, List.getElem?_cons_zero, List.getElem?_cons_succ, List.cons_append, List.nil_append, at_0, at_1, at_2, at_3, at_4, at_5, at_6, ix_0, ix_1, ix_2, put_same, put_put, decide_eq_true_eq, Bool.not_eq_true', decide_eq_false_iff_not, ite_not, ite_true, ite_false, if_true, if_false, Bool.false_eq_true, ↓reduceIte, reduceIte, Nat.reduceAdd, Nat.reduceSub, Int.reduceToNat, Nat.reduceLeDiff, not_false_eq_true, true_and, and_true, ne_eq, Int.reduceEq, Nat.zero_add, Bool.not_true, Bool.not_false, reduceCtorEq, nc0, nc1, nc2, nc3, nc4, nc5, fIx_ref put_same, fLen_ref put_same, ↓D3.lc3.eq_1, fInt, fTuple, fList, fNeS_s, fEqS_s, ↓D3.gstar3.eq_1, fInK_s, fNinK_s, fLenS_s, ↓D3.slcT3.eq_1, fCatT_t, ↓D3.app3.eq_1, ↓D3.frz3.eq_1, ↓D3.dc23.eq_1, ↓D3.lcT3.eq_1, ↓D3.litRep3.eq_1, ↓D3.litRepM3.eq_1, ↓D3.rev3.eq_1, ↓D3.dget3.eq_1, ↓D3.disp3.eq_1, ↓D3.ienum3.eq_1, pop3, sset3]))
    refine ⟨both, rfl, wb, plb, dpb, by decide, ?_⟩
    rw [cb]
    (refine laterP_in ?_; repeat ((first | with_reducible refine laterP_i ?_ | with_reducible refine later_i ?_); try simp -implicitDefEqProofs -dsimp only [↓D3.seq3_stop, ↓D3.ifS3.eq_1, ↓D3.b3.eq_1, ↓D3.op3.eq_1, ↓D3.un3.eq_1, ↓D3.v3.eq_1, ↓D3.c3.eq_1, fIx_tup, fIx_lst, at3_0, at3_1, at3_2, at3_3, at3_4, at3_5, at3_6, start3, fI0_i, fI_i, fLt, fLe, fGt, fGe, fEqI, fNeI, fMin, fMax, ↓D3.asg3.eq_1, ↓D3.name3.eq_1, ↓D3.sub3.eq_1, ↓D3.ret3.eq_1, ↓D3.retN3.eq_1, ↓D3.nx3.eq_1, ↓D3.drop3.eq_1, ↓D3.par3.eq_1, ↓D3.aug3.eq_1, ↓D3.and3.eq_1, ↓D3.or3.eq_1, ↓D3.not3.eq_1, ↓D3.andV3.eq_1, ↓D3.orV3.eq_1, ↓D3.notV3.eq_1, ↓D3.if3.eq_1, ↓D3.nil3.eq_1, ↓D3.cons3.eq_1, ↓D3.tup3.eq_1, ↓D3.lst3.eq_1, ↓D3.lstM3.eq_1, ↓D3.gtup3.eq_1, ↓D3.gcons3.eq_1, ↓D3.gnil3.eq_1, ↓D3.gunl3.eq_1, ↓D3.bits3.eq_1, ↓D3.neg3.eq_1, ↓D3.chain3.eq_1, fIsi_int_int, fIsi_int_bool, fIsi_int_tuple, fIsi_int_str, fIsi_int_list, fIsi_bl_int, fIsi_bl_bool, fIsi_bl_tuple, fIsi_bl_str, fIsi_bl_list, fIsi_non_int, fIsi_non_bool, fIsi_non_tuple, fIsi_non_str, fIsi_non_list, fIsi_str_int, fIsi_str_bool, fIsi_str_tuple, fIsi_str_str, fIsi_str_list, fIsi_tup_int, fIsi_tup_bool, fIsi_tup_tuple, fIsi_tup_str, fIsi_tup_list, fIsi_lst_int, fIsi_lst_bool, fIsi_lst_tuple, fIsi_lst_str, fIsi_lst_list, fLen_lst, fLen_tup, fAbs, ↓D3.call3_k, ↓D3.kont_app, ↓D3.isN3.eq_1, ↓D3.notN3.eq_1, dIsN_non, dIsN_int, dIsN_bl, dIsN_str, dIsN_tup, dIsN_lst, ↓D3.slc3.eq_1, ↓D3.part3.eq_1, ↓D3.noPart3.eq_1, ↓D3.ilst3.eq_1, ↓D3.itup3.eq_1, ↓D3.irng1.eq_1, ↓D3.irng2.eq_1, ↓D3.for3.eq_1, fCat, fEq_int, fNe_int, fEq_bl, fNe_bl, fEq_pair, fNe_pair, List.map, List.replicate, List.length_cons, List.length_nil, List.set_cons_zero, List.set_cons_succ, List.getElem?_cons_zero, List.getElem?_cons_succ, List.cons_append, List.nil_append, at_0, at_1, at_2, at_3, at_4, at_5, at_6, ix_0, ix_1, ix_2, put_same, put_put, decide_eq_true_eq, Bool.not_eq_true', decide_eq_false_iff_not, ite_not, ite_true, ite_false, if_true, if_false, Bool.false_eq_true, ↓reduceIte, reduceIte, Nat.reduceAdd, Nat.reduceSub, Int.reduceToNat, Nat.reduceLeDiff, not_false_eq_true, true_and, and_true, ne_eq, Int.reduceEq, Nat.zero_add, Bool.not_true, Bool.not_false, reduceCtorEq, nc0, nc1, nc2, nc3, nc4, nc5, fIx_ref put_same, fLen_ref put_same, ↓D3.lc3.eq_1, fInt, fTuple, fList, fNeS_s, fEqS_s, ↓D3.gstar3.eq_1, fInK_s, fNinK_s, fLenS_s, ↓D3.slcT3.eq_1, fCatT_t, ↓D3.app3.eq_1, ↓D3.frz3.eq_1, ↓D3.dc23.eq_1, ↓D3.lcT3.eq_1, ↓D3.litRep3.eq_1, ↓D3.litRepM3.eq_1, ↓D3.rev3.eq_1, ↓D3.dget3.eq_1, ↓D3.disp3.eq_1, ↓D3.ienum3.eq_1, pop3, sset3]))
    refine ⟨one, rfl, wo, pl1, q1, by decide, ?_⟩
    (refine laterP_in ?_; repeat ((first | with_reducible refine laterP_i ?_ | with_reducible refine later_i ?_); try simp -implicitDefEqProofs -dsimp only [↓D3.seq3_stop, ↓D3.ifS3.eq_1, ↓D3.b3.eq_1, ↓D3.op3.eq_1, ↓D3.un3.eq_1, ↓D3.v3.eq_1, ↓D3.c3.eq_1, fIx_tup, fIx_lst, at3_0, at3_1, at3_2, at3_3, at3_4, at3_5, at3_6, start3, fI0_i, fI_i, fLt, fLe, fGt, fGe, fEqI, fNeI, fMin, fMax, ↓D3.asg3.eq_1, ↓D3.name3.eq_1, ↓D3.sub3.eq_1, ↓D3.ret3.eq_1, ↓D3.retN3.eq_1, ↓D3.nx3.eq_1, ↓D3.drop3.eq_1, ↓D3.par3.eq_1, ↓D3.aug3.eq_1, ↓D3.and3.eq_1, ↓D3.or3.eq_1, ↓D3.not3.eq_1, ↓D3.andV3.eq_1, ↓D3.orV3.eq_1, ↓D3.notV3.eq_1, ↓D3.if3.eq_1, ↓D3.nil3.eq_1, ↓D3.cons3.eq_1, ↓D3.tup3.eq_1, ↓D3.lst3.eq_1, ↓D3.lstM3.eq_1, ↓D3.gtup3.eq_1, ↓D3.gcons3.eq_1, ↓D3.gnil3.eq_1, ↓D3.gunl3.eq_1, ↓D3.bits3.eq_1, ↓D3.neg3.eq_1, ↓D3.chain3.eq_1, fIsi_int_int, fIsi_int_bool, fIsi_int_tuple, fIsi_int_str, fIsi_int_list, fIsi_bl_int, fIsi_bl_bool, fIsi_bl_tuple, fIsi_bl_str, fIsi_bl_list, fIsi_non_int, fIsi_non_bool, fIsi_non_tuple, fIsi_non_str, fIsi_non_list, fIsi_str_int, fIsi_str_bool, fIsi_str_tuple, fIsi_str_str, fIsi_str_list, fIsi_tup_int, fIsi_tup_bool, fIsi_tup_tuple, fIsi_tup_str, fIsi_tup_list, fIsi_lst_int, fIsi_lst_bool, fIsi_lst_tuple, fIsi_lst_str, fIsi_lst_list, fLen_lst, fLen_tup, fAbs, ↓D3.call3_k, ↓D3.kont_app, ↓D3.isN3.eq_1, ↓D3.notN3.eq_1, dIsN_non, dIsN_int, dIsN_bl, dIsN_str, dIsN_tup, dIsN_lst, ↓D3.slc3.eq_1, ↓D3.part3.eq_1, ↓D3.noPart3.eq_1, ↓D3.ilst3.eq_1, ↓D3.itup3.eq_1, ↓D3.irng1.eq_1, ↓D3.irng2.eq_1, ↓D3.for3.eq_1, fCat, fEq_int, fNe_int, fEq_bl, fNe_bl, fEq_pair, fNe_pair, List.map, List.replicate, List.length_cons, List.length_nil, List.set_cons_zero, List.set_cons_succ, List.getElem?_cons_zero, List.getElem?_cons_succ, List.cons_append, List.nil_append, at_0, at_1, at_2, at_3, at_4, at_5, at_6, ix_0, ix_1, ix_2, put_same, put_put, decide_eq_true_eq, Bool.not_eq_true', decide_eq_false_iff_not, ite_not, ite_true, ite_false, if_true, if_false, Bool.false_eq_true, ↓reduceIte, reduceIte, Nat.reduceAdd, Nat.reduceSub, Int.reduceToNat, Nat.reduceLeDiff, not_false_eq_true, true_and, and_true, ne_eq, Int.reduceEq, Nat.zero_add, Bool.not_true, Bool.not_false, reduceCtorEq, nc0, nc1, nc2, nc3, nc4, nc5, fIx_ref put_same, fLen_ref put_same, ↓D3.lc3.eq_1, fInt, fTuple, fList, fNeS_s, fEqS_s, ↓D3.gstar3.eq_1, fInK_s, fNinK_s, fLenS_s, ↓D3.slcT3.eq_1, fCatT_t, ↓D3.app3.eq_1, ↓D3.frz3.eq_1, ↓D3.dc23.eq_1, ↓D3.lcT3.eq_1, ↓D3.litRep3.eq_1, ↓D3.litRepM3.eq_1, ↓D3.rev3.eq_1, ↓D3.dget3.eq_1, ↓D3.disp3.eq_1, ↓D3.ienum3.eq_1, pop3, sset3]))
    refine ⟨other, rfl, wl, pl2, q2, by decide, ?_⟩
    (refine laterP_in ?_; repeat ((first | with_reducible refine laterP_i ?_ | with_reducible refine later_i ?_); try simp -implicitDefEqProofs -dsimp only [↓D3.seq3_stop, ↓D3.ifS3.eq_1, ↓D3.b3.eq_1, ↓D3.op3.eq_1, ↓D3.un3.eq_1, ↓D3.v3.eq_1, ↓D3.c3.eq_1, fIx_tup, fIx_lst, at3_0, at3_1, at3_2, at3_3, at3_4, at3_5, at3_6, start3, fI0_i, fI_i, fLt, fLe, fGt, fGe, fEqI, fNeI, fMin, fMax, ↓D3.asg3.eq_1, ↓D3.name3.eq_1, ↓D3.sub3.eq_1, ↓D3.ret3.eq_1, ↓D3.retN3.eq_1, ↓D3.nx3.eq_1, ↓D3.drop3.eq_1, ↓D3.par3.eq_1, ↓D3.aug3.eq_1, ↓D3.and3.eq_1, ↓D3.or3.eq_1, ↓D3.not3.eq_1, ↓D3.andV3.eq_1, ↓D3.orV3.eq_1, ↓D3.notV3.eq_1, ↓D3.if3.eq_1, ↓D3.nil3.eq_1, ↓D3.cons3.eq_1, ↓D3.tup3.eq_1, ↓D3.lst3.eq_1, ↓D3.lstM3.eq_1, ↓D3.gtup3.eq_1, ↓D3.gcons3.eq_1, ↓D3.gnil3.eq_1, ↓D3.gunl3.eq_1, ↓D3.bits3.eq_1, ↓D3.neg3.eq_1, ↓D3.chain3.eq_1, fIsi_int_int, fIsi_int_bool, fIsi_int_tuple, fIsi_int_str, fIsi_int_list, fIsi_bl_int, fIsi_bl_bool, fIsi_bl_tuple, fIsi_bl_str, fIsi_bl_list, fIsi_non_int, fIsi_non_bool, fIsi_non_tuple, fIsi_non_str, fIsi_non_list, fIsi_str_int, fIsi_str_bool, fIsi_str_tuple, fIsi_str_str, fIsi_str_list, fIsi_tup_int, fIsi_tup_bool, fIsi_tup_tuple, fIsi_tup_str, fIsi_tup_list, fIsi_lst_int, fIsi_lst_bool, fIsi_lst_tuple, fIsi_lst_str, fIsi_lst_list, fLen_lst, fLen_tup, fAbs, ↓D3.call3_k, ↓D3.kont_app, ↓D3.isN3.eq_1, ↓D3.notN3.eq_1, dIsN_non, dIsN_int, dIsN_bl, dIsN_str, dIsN_tup, dIsN_lst, ↓D3.slc3.eq_1, ↓D3.part3.eq_1, ↓D3.noPart3.eq_1, ↓D3.ilst3.eq_1, ↓D3.itup3.eq_1, ↓D3.irng1.eq_1, ↓D3.irng2.eq_1, ↓D3.for3.eq_1, fCat, fEq_int, fNe_int, fEq_bl, fNe_bl, fEq_pair, fNe_pair, List.map, List.replicate, List.length_cons, List.length_nil, List.set_cons_zero, List.set_cons_succ, List.getElem?_cons_zero, List.getElem?_cons_succ, List.cons_append, List.nil_append, at_0, at_1, at_2, at_3, at_4, at_5, at_6, ix_0, ix_1, ix_2, put_same, put_put, decide_eq_true_eq, Bool.not_eq_true', decide_eq_false_iff_not, ite_not, ite_true, ite_false, if_true, if_false, Bool.false_eq_true, ↓reduceIte, reduceIte, Nat.reduceAdd, Nat.reduceSub, Int.reduceToNat, Nat.reduceLeDiff, not_false_eq_true, true_and, and_true, ne_eq, Int.reduceEq, Nat.zero_add, Bool.not_true, Bool.not_false, reduceCtorEq, nc0, nc1, nc2, nc3, nc4, nc5, fIx_ref put_same, fLen_ref put_same, ↓D3.lc3.eq_1, fInt, fTuple, fList, fNeS_s, fEqS_s, ↓D3.gstar3.eq_1, fInK_s, fNinK_s, fLenS_s, ↓D3.slcT3.eq_1, fCatT_t, ↓D3.app3.eq_1, ↓D3.frz3.eq_1, ↓D3.dc23.eq_1, ↓D3.lcT3.eq_1, ↓D3.litRep3.eq_1, ↓D3.litRepM3.eq_1, ↓D3.rev3.eq_1, ↓D3.dget3.eq_1, ↓D3.disp3.eq_1, ↓D3.ienum3.eq_1, pop3, sset3]))
    refine ite2 (fun _ => ?_) (fun z => absurd (by omega) z)
    (refine laterP_in ?_; repeat ((first | with_reducible refine laterP_i ?_ | with_reducible refine later_i ?_); try simp -implicitDefEqProofs -dsimp only [↓D3.seq3_stop, ↓D3.ifS3.eq_1, ↓D3.b3.eq_1, ↓D3.op3.eq_1, ↓D3.un3.eq_1, ↓D3.v3.eq_1, ↓D3.c3.eq_1, fIx_tup, fIx_lst, at3_0, at3_1, at3_2, at3_3, at3_4, at3_5, at3_6, start3, fI0_i, fI_i, fLt, fLe, fGt, fGe, fEqI, fNeI, fMin, fMax, ↓D3.asg3.eq_1, ↓D3.name3.eq_1, ↓D3.sub3.eq_1, ↓D3.ret3.eq_1, ↓D3.retN3.eq_1, ↓D3.nx3.eq_1, ↓D3.drop3.eq_1, ↓D3.par3.eq_1, ↓D3.aug3.eq_1, ↓D3.and3.eq_1, ↓D3.or3.eq_1, ↓D3.not3.eq_1, ↓D3.andV3.eq_1, ↓D3.orV3.eq_1, ↓D3.notV3.eq_1, ↓D3.if3.eq_1, ↓D3.nil3.eq_1, ↓D3.cons3.eq_1, ↓D3.tup3.eq_1, ↓D3.lst3.eq_1, ↓D3.lstM3.eq_1, ↓D3.gtup3.eq_1, ↓D3.gcons3.eq_1, ↓D3.gnil3.eq_1, ↓D3.gunl3.eq_1, ↓D3.bits3.eq_1, ↓D3.neg3.eq_1, ↓D3.chain3.eq_1, fIsi_int_int, fIsi_int_bool, fIsi_int_tuple, fIsi_int_str, fIsi_int_list, fIsi_bl_int, fIsi_bl_bool, fIsi_bl_tuple, fIsi_bl_str, fIsi_bl_list, fIsi_non_int, fIsi_non_bool, fIsi_non_tuple, fIsi_non_str, fIsi_non_list, fIsi_str_int, fIsi_str_bool, fIsi_str_tuple, fIsi_str_str, fIsi_str_list, fIsi_tup_int, fIsi_tup_bool, fIsi_tup_tuple, fIsi_tup_str, fIsi_tup_list, fIsi_lst_int, fIsi_lst_bool, fIsi_lst_tuple, fIsi_lst_str, fIsi_lst_list, fLen_lst, fLen_tup, fAbs, ↓D3.call3_k, ↓D3.kont_app, ↓D3.isN3.eq_1, ↓D3.notN3.eq_1, dIsN_non, dIsN_int, dIsN_bl, dIsN_str, dIsN_tup, dIsN_lst, ↓D3.slc3.eq_1, ↓D3.part3.eq_1, ↓D3.noPart3.eq_1, ↓D3.ilst3.eq_1, ↓D3.itup3.eq_1, ↓D3.irng1.eq_1, ↓D3.irng2.eq_1, ↓D3.for3.eq_1, fCat, fEq_int, fNe_int, fEq_bl, fNe_bl, fEq_pair, fNe_pair, List.map, List.replicate, List.length_cons, List.length_nil, List.set_cons_zero, List.set_cons_succ, List.getElem?_cons_zero, List.getElem?_cons_succ, List.cons_append, List.nil_append, at_0, at_1, at_2, at_3, at_4, at_5, at_6, ix_0, ix_1, ix_2, put_same, put_put, decide_eq_true_eq, Bool.not_eq_true', decide_eq_false_iff_not, ite_not, ite_true, ite_false, if_true, if_false, Bool.false_eq_true, ↓reduceIte, reduceIte, Nat.reduceAdd, Nat.reduceSub, Int.reduceToNat, Nat.reduceLeDiff, not_false_eq_true, true_and, and_true, ne_eq, Int.reduceEq, Nat.zero_add, Bool.not_true, Bool.not_false, reduceCtorEq, nc0, nc1, nc2, nc3, nc4, nc5, fIx_ref put_same, fLen_ref put_same, ↓D3.lc3.eq_1, fInt, fTuple, fList, fNeS_s, fEqS_s, ↓D3.gstar3.eq_1, fInK_s, fNinK_s, fLenS_s, ↓D3.slcT3.eq_1, fCatT_t, ↓D3.app3.eq_1, ↓D3.frz3.eq_1, ↓D3.dc23.eq_1, ↓D3.lcT3.eq_1, ↓D3.litRep3.eq_1, ↓D3.litRepM3.eq_1, ↓D3.rev3.eq_1, ↓D3.dget3.eq_1, ↓D3.disp3.eq_1, ↓D3.ienum3.eq_1, pop3, sset3]))
    refine ⟨both, rfl, wb, plb, dpb, by decide, fun ys hr1 hy => ?_⟩
    (refine laterP_in ?_; repeat ((first | with_reducible refine laterP_i ?_ | with_reducible refine later_i ?_); try simp -implicitDefEqProofs -dsimp only [↓D3.seq3_stop, ↓D3.ifS3.eq_1, ↓D3.b3.eq_1, ↓D3.op3.eq_1, ↓D3.un3.eq_1, ↓D3.v3.eq_1, ↓D3.c3.eq_1, fIx_tup, fIx_lst, at3_0, at3_1, at3_2, at3_3, at3_4, at3_5, at3_6, start3, fI0_i, fI_i, fLt, fLe, fGt, fGe, fEqI, fNeI, fMin, fMax, ↓D3.asg3.eq_1, ↓D3.name3.eq_1, ↓D3.sub3.eq_1, ↓D3.ret3.eq_1, ↓D3.retN3.eq_1, ↓D3.nx3.eq_1, ↓D3.drop3.eq_1, ↓D3.par3.eq_1, ↓D3.aug3.eq_1, ↓D3.and3.eq_1, ↓D3.or3.eq_1, ↓D3.not3.eq_1, ↓D3.andV3.eq_1, ↓D3.orV3.eq_1, ↓D3.notV3.eq_1, ↓D3.if3.eq_1, ↓D3.nil3.eq_1, ↓D3.cons3.eq_1, ↓D3.tup3.eq_1, ↓D3.lst3.eq_1, ↓D3.lstM3.eq_1, ↓D3.gtup3.eq_1, ↓D3.gcons3.eq_1, ↓D3.gnil3.eq_1, ↓D3.gunl3.eq_1, ↓D3.bits3.eq_1, ↓D3.neg3.eq_1, ↓D3.chain3.eq_1, fIsi_int_int, fIsi_int_bool, fIsi_int_tuple, fIsi_int_str, fIsi_int_list, fIsi_bl_int, fIsi_bl_bool, fIsi_bl_tuple, fIsi_bl_str, fIsi_bl_list, fIsi_non_int, fIsi_non_bool, fIsi_non_tuple, fIsi_non_str, fIsi_non_list, fIsi_str_int, fIsi_str_bool, fIsi_str_tuple, fIsi_str_str, fIsi_str_list, fIsi_tup_int, fIsi_tup_bool, fIsi_tup_tuple, fIsi_tup_str, fIsi_tup_list, fIsi_lst_int, fIsi_lst_bool, fIsi_lst_tuple, fIsi_lst_str, fIsi_lst_list, fLen_lst, fLen_tup, fAbs, ↓D3.call3_k, ↓D3.kont_app, ↓D3.isN3.eq_1, ↓D3.notN3.eq_1, dIsN_non, dIsN_int, dIsN_bl, dIsN_str, dIsN_tup, dIsN_lst, ↓D3.slc3.eq_1, ↓D3.part3.eq_1, ↓D3.noPart3.eq_1, ↓D3.ilst3.eq_1, ↓D3.itup3.eq_1, ↓D3.irng1.eq_1, ↓D3.irng2.eq_1, ↓D3.for3.eq_1, fCat, fEq_int, fNe_int, fEq_bl, fNe_bl, fEq_pair, fNe_pair, List.map, List.replicate, List.length_cons, List.length_nil, List.set_cons_zero, List.set_cons_succ, List.getElem?_cons_zero, List.getElem?_cons_succ, List.cons_append, List.nil_append, at_0, at_1, at_2, at_3, at_4, at_5, at_6, ix_0, ix_1, ix_2, put_same, put_put, decide_eq_true_eq, Bool.not_eq_true', decide_eq_false_iff_not, ite_not, ite_true, ite_false, if_true, if_false, Bool.false_eq_true, ↓reduceIte, reduceIte, Nat.reduceAdd, Nat.reduceSub, Int.reduceToNat, Nat.reduceLeDiff, not_false_eq_true, true_and, and_true, ne_eq, Int.reduceEq, Nat.zero_add, Bool.not_true, Bool.not_false, reduceCtorEq, nc0, nc1, nc2, nc3, nc4, nc5, fIx_ref put_same, fLen_ref put_same, ↓D3.lc3.eq_1, fInt, fTuple, fList, fNeS_s, fEqS_s, ↓D3.gstar3.eq_1, fInK_s, fNinK_s, fLenS_s, ↓D3.slcT3.eq_1, fCatT_t, ↓D3.app3.eq_1, ↓D3.frz3.eq_1, ↓D3.dc23.eq_1, ↓D3.lcT3.eq_1, ↓D3.litRep3.eq_1, ↓D3.litRepM3.eq_1, ↓D3.rev3.eq_1, ↓D3.dget3.eq_1, ↓D3.disp3.eq_1, ↓D3.ienum3.eq_1, pop3, sset3]))
    refine ⟨one, rfl, wo, pl1, q1, by decide, fun us hr2 hu => ?_⟩
    (refine laterP_in ?_; repeat ((first | with_reducible refine laterP_i ?_ | with_reducible refine later_i ?_); try simp -implicitDefEqProofs -dsimp only [↓D3.seq3_stop, ↓D3.ifS3.eq_1, ↓D3.b3.eq_1, ↓D3.op3.eq_1, ↓D3.un3.eq_1, ↓D3.v3.eq_1, ↓D3.c3.eq_1, fIx_tup, fIx_lst, at3_0, at3_1, at3_2, at3_3, at3_4, at3_5, at3_6, start3, fI0_i, fI_i, fLt, fLe, fGt, fGe, fEqI, fNeI, fMin, fMax, ↓D3.asg3.eq_1, ↓D3.name3.eq_1, ↓D3.sub3.eq_1, ↓D3.ret3.eq_1, ↓D3.retN3.eq_1, ↓D3.nx3.eq_1, ↓D3.drop3.eq_1, ↓D3.par3.eq_1, ↓D3.aug3.eq_1, ↓D3.and3.eq_1, ↓D3.or3.eq_1, ↓D3.not3.eq_1, ↓D3.andV3.eq_1, ↓D3.orV3.eq_1, ↓D3.notV3.eq_1, ↓D3.if3.eq_1, ↓D3.nil3.eq_1, ↓D3.cons3.eq_1, ↓D3.tup3.eq_1, ↓D3.lst3.eq_1, ↓D3.lstM3.eq_1, ↓D3.gtup3.eq_1, ↓D3.gcons3.eq_1, ↓D3.gnil3.eq_1, ↓D3.gunl3.eq_1, ↓D3.bits3.eq_1, ↓D3.neg3.eq_1, ↓D3.chain3.eq_1, fIsi_int_int, fIsi_int_bool, fIsi_int_tuple, fIsi_int_str, fIsi_int_list, fIsi_bl_int, fIsi_bl_bool, fIsi_bl_tuple, fIsi_bl_str, fIsi_bl_list, fIsi_non_int, fIsi_non_bool, fIsi_non_tuple, fIsi_non_str, fIsi_non_list, fIsi_str_int, fIsi_str_bool, fIsi_str_tuple, fIsi_str_str, fIsi_str_list, fIsi_tup_int, fIsi_tup_bool, fIsi_tup_tuple, fIsi_tup_str, fIsi_tup_list, fIsi_lst_int, fIsi_lst_bool, fIsi_lst_tuple, fIsi_lst_str, fIsi_lst_list, fLen_lst, fLen_tup, fAbs, ↓D3.call3_k, ↓D3.kont_app, ↓D3.isN3.eq_1, ↓D3.notN3.eq_1, dIsN_non, dIsN_int, dIsN_bl, dIsN_str, dIsN_tup, dIsN_lst, ↓D3.slc3.eq_1, ↓D3.part3.eq_1, ↓D3.noPart3.eq_1, ↓D3.ilst3.eq_1, ↓D3.itup3.eq_1, ↓D3.irng1.eq_1, ↓D3.irng2.eq_1, ↓D3.for3.eq_1, fCat, fEq_int, fNe_int, fEq_bl, fNe_bl, fEq_pair, fNe_pair, List.map, List.replicate, List.length_cons, List.length_nil, List.set_cons_zero, List.set_cons_succ, List.getElem?_cons_zero, List.getElem?_cons_succ, List.cons_append, List.nil_append, at_0, at_1, at_2, at_3, at_4, at_5, at_6, ix_0, ix_1, ix_2, put_same, put_put, decide_eq_true_eq, Bool.not_eq_true', decide_eq_false_iff_not, ite_not, ite_true, ite_false, if_true, if_false, Bool.false_eq_true, ↓reduceIte, reduceIte, Nat.reduceAdd, Nat.reduceSub, Int.reduceToNat, Nat.reduceLeDiff, not_false_eq_true, true_and, and_true, ne_eq, Int.reduceEq, Nat.zero_add, Bool.not_true, Bool.not_false, reduceCtorEq, nc0, nc1, nc2, nc3, nc4, nc5, fIx_ref put_same, fLen_ref put_same, ↓D3.lc3.eq_1, fInt, fTuple, fList, fNeS_s, fEqS_s, ↓D3.gstar3.eq_1, fInK_s, fNinK_s, fLenS_s, ↓D3.slcT3.eq_1, fCatT_t, ↓D3.app3.eq_1, ↓D3.frz3.eq_1, ↓D3.dc23.eq_1, ↓D3.lcT3.eq_1, ↓D3.litRep3.eq_1, ↓D3.litRepM3.eq_1, ↓D3.rev3.eq_1, ↓D3.dget3.eq_1, ↓D3.disp3.eq_1, ↓D3.ienum3.eq_1, pop3, sset3]))
    refine ⟨other, rfl, wl, pl2, q2, by decide, fun vs hr3 hv => ?_⟩
    have lu := nd_len us N0 hr2.1 fun z hz => Fre.sub wo ((hu z).mp hz)
    have lv := nd_len vs N0 hr3.1 fun z hz => Fre.sub wl ((hv z).mp hz)
    have l6 : N0.length = 6 := rfl
    (refine laterP_in ?_; repeat ((first | with_reducible refine laterP_i ?_ | with_reducible refine later_i ?_); try simp -implicitDefEqProofs -dsimp only [↓D3.seq3_stop, ↓D3.ifS3.eq_1, ↓D3.b3.eq_1, ↓D3.op3.eq_1, ↓D3.un3.eq_1, ↓D3.v3.eq_1, ↓D3.c3.eq_1, fIx_tup, fIx_lst, at3_0, at3_1, at3_2, at3_3, at3_4, at3_5, at3_6, start3, fI0_i, fI_i, fLt, fLe, fGt, fGe, fEqI, fNeI, fMin, fMax, ↓D3.asg3.eq_1, ↓D3.name3.eq_1, ↓D3.sub3.eq_1, ↓D3.ret3.eq_1, ↓D3.retN3.eq_1, ↓D3.nx3.eq_1, ↓D3.drop3.eq_1, ↓D3.par3.eq_1, ↓D3.aug3.eq_1, ↓D3.and3.eq_1, ↓D3.or3.eq_1, ↓D3.not3.eq_1, ↓D3.andV3.eq_1, ↓D3.orV3.eq_1, ↓D3.notV3.eq_1, ↓D3.if3.eq_1, ↓D3.nil3.eq_1, ↓D3.cons3.eq_1, ↓D3.tup3.eq_1, ↓D3.lst3.eq_1, ↓D3.lstM3.eq_1, ↓D3.gtup3.eq_1, ↓D3.gcons3.eq_1, ↓D3.gnil3.eq_1, ↓D3.gunl3.eq_1, ↓D3.bits3.eq_1, ↓D3.neg3.eq_1, ↓D3.chain3.eq_1, fIsi_int_int, fIsi_int_bool, fIsi_int_tuple, fIsi_int_str, fIsi_int_list, fIsi_bl_int, fIsi_bl_bool, fIsi_bl_tuple, fIsi_bl_str, fIsi_bl_list, fIsi_non_int, fIsi_non_bool, fIsi_non_tuple, fIsi_non_str, fIsi_non_list, fIsi_str_int, fIsi_str_bool, fIsi_str_tuple, fIsi_str_str, fIsi_str_list, fIsi_tup_int, fIsi_tup_bool, fIsi_tup_tuple, fIsi_tup_str, fIsi_tup_list, fIsi_lst_int, fIsi_lst_bool, fIsi_lst_tuple, fIsi_lst_str, fIsi_lst_list, fLen_lst, fLen_tup, fAbs, ↓D3.call3_k, ↓D3.kont_app, ↓D3.isN3.eq_1, ↓D3.notN3.eq_1, dIsN_non, dIsN_int, dIsN_bl, dIsN_str, dIsN_tup, dIsN_lst, ↓D3.slc3.eq_1, ↓D3.part3.eq_1, ↓D3.noPart3.eq_1, ↓D3.ilst3.eq_1, ↓D3.itup3.eq_1, ↓D3.irng1.eq_1, ↓D3.irng2.eq_1, ↓D3.for3.eq_1, fCat, fEq_int, fNe_int, fEq_bl, fNe_bl, fEq_pair, fNe_pair, List.map, List.replicate, List.length_cons, List.length_nil, List.set_cons_zero, List.set_cons_succ, List.getElem?_cons_zero, List.getElem?_cons_succ, List.cons_append, List.nil_append, at_0, at_1, at_2, at_3, at_4, at_5, at_6, ix_0, ix_1, ix_2, put_same, put_put, decide_eq_true_eq, Bool.not_eq_true', decide_eq_false_iff_not, ite_not, ite_true, ite_false, if_true, if_false, Bool.false_eq_true, ↓reduceIte, reduceIte, Nat.reduceAdd, Nat.reduceSub, Int.reduceToNat, Nat.reduceLeDiff, not_false_eq_true, true_and, and_true, ne_eq, Int.reduceEq, Nat.zero_add, Bool.not_true, Bool.not_false, reduceCtorEq, nc0, nc1, nc2, nc3, nc4, nc5, fIx_ref put_same, fLen_ref put_same, ↓D3.lc3.eq_1, fInt, fTuple, fList, fNeS_s, fEqS_s, ↓D3.gstar3.eq_1, fInK_s, fNinK_s, fLenS_s, ↓D3.slcT3.eq_1, fCatT_t, ↓D3.app3.eq_1, ↓D3.frz3.eq_1, ↓D3.dc23.eq_1, ↓D3.lcT3.eq_1, ↓D3.litRep3.eq_1, ↓D3.litRepM3.eq_1, ↓D3.rev3.eq_1, ↓D3.dget3.eq_1, ↓D3.disp3.eq_1, ↓D3.ienum3.eq_1, pop3, sset3, fCat, List.length_map]))
    rw [cutD_t1]
    refine ⟨by omega, by simp; omega, us ++ vs ++ [a], by simp, by simp; omega, fun zs nd so hz => ?_⟩
    have ez : ys = zs := hr1.one ⟨nd, so⟩ fun z => by rw [hy, fb, hz, List.mem_append, List.mem_append, hu, hv, List.mem_singleton, or_assoc]
    subst ez
    rw [fNe_strs (fun y hy' => (n0_nm (Fre.sub wb ((hy y).mp hy'))).2)]
    (refine laterP_in ?_; repeat ((first | with_reducible refine laterP_i ?_ | with_reducible refine later_i ?_); try simp -implicitDefEqProofs -dsimp only [↓D3.seq3_stop, ↓D3.ifS3.eq_1, ↓D3.b3.eq_1, ↓D3.op3.eq_1, ↓D3.un3.eq_1, ↓D3.v3.eq_1, ↓D3.c3.eq_1, fIx_tup, fIx_lst, at3_0, at3_1, at3_2, at3_3, at3_4, at3_5, at3_6, start3, fI0_i, fI_i, fLt, fLe, fGt, fGe, fEqI, fNeI, fMin, fMax, ↓D3.asg3.eq_1, ↓D3.name3.eq_1, ↓D3.sub3.eq_1, ↓D3.ret3.eq_1, ↓D3.retN3.eq_1, ↓D3.nx3.eq_1, ↓D3.drop3.eq_1, ↓D3.par3.eq_1, ↓D3.aug3.eq_1, ↓D3.and3.eq_1, ↓D3.or3.eq_1, ↓D3.not3.eq_1, ↓D3.andV3.eq_1, ↓D3.orV3.eq_1, ↓D3.notV3.eq_1, ↓D3.if3.eq_1, ↓D3.nil3.eq_1, ↓D3.cons3.eq_1, ↓D3.tup3.eq_1, ↓D3.lst3.eq_1, ↓D3.lstM3.eq_1, ↓D3.gtup3.eq_1, ↓D3.gcons3.eq_1, ↓D3.gnil3.eq_1, ↓D3.gunl3.eq_1, ↓D3.bits3.eq_1, ↓D3.neg3.eq_1, ↓D3.chain3.eq_1, fIsi_int_int, fIsi_int_bool, fIsi_int_tuple, fIsi_int_str, fIsi_int_list, fIsi_bl_int, fIsi_bl_bool, fIsi_bl_tuple, fIsi_bl_str, fIsi_bl_list, fIsi_non_int, fIsi_non_bool, fIsi_non_tuple, fIsi_non_str, fIsi_non_list, fIsi_str_int, fIsi_str_bool, fIsi_str_tuple, fIsi_str_str, fIsi_str_list, fIsi_tup_int, fIsi_tup_bool, fIsi_tup_tuple, fIsi_tup_str, fIsi_tup_list, fIsi_lst_int, fIsi_lst_bool, fIsi_lst_tuple, fIsi_lst_str, fIsi_lst_list, fLen_lst, fLen_tup, fAbs, ↓D3.call3_k, ↓D3.kont_app, ↓D3.isN3.eq_1, ↓D3.notN3.eq_1, dIsN_non, dIsN_int, dIsN_bl, dIsN_str, dIsN_tup, dIsN_lst, ↓D3.slc3.eq_1, ↓D3.part3.eq_1, ↓D3.noPart3.eq_1, ↓D3.ilst3.eq_1, ↓D3.itup3.eq_1, ↓D3.irng1.eq_1, ↓D3.irng2.eq_1, ↓D3.for3.eq_1, fCat, fEq_int, fNe_int, fEq_bl, fNe_bl, fEq_pair, fNe_pair, List.map, List.replicate, List.length_cons, List.length_nil, List.set_cons_zero, List.set_cons_succ, List.getElem?_cons_zero, List.getElem?_cons_succ, List.cons_append, List.nil_append, at_0, at_1, at_2, at_3, at_4, at_5, at_6, ix_0, ix_1, ix_2, put_same, put_put, decide_eq_true_eq, Bool.not_eq_true', decide_eq_false_iff_not, ite_not, ite_true, ite_false, if_true, if_false, Bool.false_eq_true, ↓reduceIte, reduceIte, Nat.reduceAdd, Nat.reduceSub, Int.reduceToNat, Nat.reduceLeDiff, not_false_eq_true, true_and, and_true, ne_eq, Int.reduceEq, Nat.zero_add, Bool.not_true, Bool.not_false, reduceCtorEq, nc0, nc1, nc2, nc3, nc4, nc5, fIx_ref put_same, fLen_ref put_same, ↓D3.lc3.eq_1, fInt, fTuple, fList, fNeS_s, fEqS_s, ↓D3.gstar3.eq_1, fInK_s, fNinK_s, fLenS_s, ↓D3.slcT3.eq_1, fCatT_t, ↓D3.app3.eq_1, ↓D3.frz3.eq_1, ↓D3.dc23.eq_1, ↓D3.lcT3.eq_1, ↓D3.litRep3.eq_1, ↓D3.litRepM3.eq_1, ↓D3.rev3.eq_1, ↓D3.dget3.eq_1, ↓D3.disp3.eq_1, ↓D3.ienum3.eq_1, pop3, sset3]))
    exact nxt _ _ rfl
end
/-! ### what the top has written; the law's end -/
theorem all_mk {l : PySem.W.OpenLaw} {w : World} {K : PySem.W.Frag} {h : Heap} {mg : Str → Option Value} {fa : Addr} (X : K.In h) (G : h.Ns mainGlobals mg) (hfa : mg "law" = some (.ref fa))
    {f0 f1 f2 f3 f4 f5 f6 f7 f8 f9 f10 f11 f12 f13 f14 f15 f16 : Addr} {od0 an0 od1 an1 od2 an2 od3 an3 od4 an4 od5 an5 od6 an6 od7 an7 od8 an8 od9 an9 od10 an10 od11 an11 od12 an12 od13 an13 od14 an14 od15 an15 od16 an16 : Option Addr} {sl0 sl1 sl2 sl3 sl4 sl5 sl6 sl7 sl8 sl9 sl10 sl11 sl12 sl13 sl14 sl15 sl16 : Array (Option Value)} {oc0 kV0 dc0 pm0 cd0 ct0 oc1 kV1 dc1 pm1 cd1 ct1 oc2 kV2 dc2 pm2 cd2 ct2 oc3 kV3 dc3 pm3 cd3 ct3 oc4 kV4 dc4 pm4 cd4 ct4 oc5 kV5 dc5 pm5 cd5 ct5 oc6 kV6 dc6 pm6 cd6 ct6 oc7 kV7 dc7 pm7 cd7 ct7 oc8 kV8 dc8 pm8 cd8 ct8 oc9 kV9 dc9 pm9 cd9 ct9 oc10 kV10 dc10 pm10 cd10 ct10 oc11 kV11 dc11 pm11 cd11 ct11 oc12 kV12 dc12 pm12 cd12 ct12 oc13 kV13 dc13 pm13 cd13 ct13 oc14 kV14 dc14 pm14 cd14 ct14 oc15 kV15 dc15 pm15 cd15 ct15 oc16 kV16 dc16 pm16 cd16 ct16 : Value}
    (a0 : PySem.W.nsIn K mainGlobals "is_whole" = some (some (.ref f0))) (l0 : K.lookup f0 = some ⟨oc0, od0, .func (PySem.W.fnOf "is_whole" "is_whole" (defArgs s_is_whole) (defBody s_is_whole) (defScope s_is_whole) .none kV0 dc0 pm0 an0 cd0 ct0), sl0⟩) (c0 : PySem.W.codeIn K cd0 "is_whole" = true) (k0 : PySem.W.keepIn K (.ref f0) = true)
    (a1 : PySem.W.nsIn K mainGlobals "divisor" = some (some (.ref f1))) (l1 : K.lookup f1 = some ⟨oc1, od1, .func (PySem.W.fnOf "divisor" "divisor" (defArgs s_divisor) (defBody s_divisor) (defScope s_divisor) .none kV1 dc1 pm1 an1 cd1 ct1), sl1⟩) (c1 : PySem.W.codeIn K cd1 "divisor" = true) (k1 : PySem.W.keepIn K (.ref f1) = true)
    (a2 : PySem.W.nsIn K mainGlobals "is_fraction" = some (some (.ref f2))) (l2 : K.lookup f2 = some ⟨oc2, od2, .func (PySem.W.fnOf "is_fraction" "is_fraction" (defArgs s_is_fraction) (defBody s_is_fraction) (defScope s_is_fraction) .none kV2 dc2 pm2 an2 cd2 ct2), sl2⟩) (c2 : PySem.W.codeIn K cd2 "is_fraction" = true) (k2 : PySem.W.keepIn K (.ref f2) = true)
    (a3 : PySem.W.nsIn K mainGlobals "is_less_fraction" = some (some (.ref f3))) (l3 : K.lookup f3 = some ⟨oc3, od3, .func (PySem.W.fnOf "is_less_fraction" "is_less_fraction" (defArgs s_is_less_fraction) (defBody s_is_less_fraction) (defScope s_is_less_fraction) .none kV3 dc3 pm3 an3 cd3 ct3), sl3⟩) (c3 : PySem.W.codeIn K cd3 "is_less_fraction" = true) (k3 : PySem.W.keepIn K (.ref f3) = true)
    (a4 : PySem.W.nsIn K mainGlobals "is_name" = some (some (.ref f4))) (l4 : K.lookup f4 = some ⟨oc4, od4, .func (PySem.W.fnOf "is_name" "is_name" (defArgs s_is_name) (defBody s_is_name) (defScope s_is_name) .none kV4 dc4 pm4 an4 cd4 ct4), sl4⟩) (c4 : PySem.W.codeIn K cd4 "is_name" = true) (k4 : PySem.W.keepIn K (.ref f4) = true)
    (a5 : PySem.W.nsIn K mainGlobals "parts_within" = some (some (.ref f5))) (l5 : K.lookup f5 = some ⟨oc5, od5, .func (PySem.W.fnOf "parts_within" "parts_within" (defArgs s_parts_within) (defBody s_parts_within) (defScope s_parts_within) .none kV5 dc5 pm5 an5 cd5 ct5), sl5⟩) (c5 : PySem.W.codeIn K cd5 "parts_within" = true) (k5 : PySem.W.keepIn K (.ref f5) = true)
    (a6 : PySem.W.nsIn K mainGlobals "parts_of" = some (some (.ref f6))) (l6 : K.lookup f6 = some ⟨oc6, od6, .func (PySem.W.fnOf "parts_of" "parts_of" (defArgs s_parts_of) (defBody s_parts_of) (defScope s_parts_of) .none kV6 dc6 pm6 an6 cd6 ct6), sl6⟩) (c6 : PySem.W.codeIn K cd6 "parts_of" = true) (k6 : PySem.W.keepIn K (.ref f6) = true)
    (a7 : PySem.W.nsIn K mainGlobals "names_of" = some (some (.ref f7))) (l7 : K.lookup f7 = some ⟨oc7, od7, .func (PySem.W.fnOf "names_of" "names_of" (defArgs s_names_of) (defBody s_names_of) (defScope s_names_of) .none kV7 dc7 pm7 an7 cd7 ct7), sl7⟩) (c7 : PySem.W.codeIn K cd7 "names_of" = true) (k7 : PySem.W.keepIn K (.ref f7) = true)
    (a8 : PySem.W.nsIn K mainGlobals "_law_deck" = some (some (.ref f8))) (l8 : K.lookup f8 = some ⟨oc8, od8, .func (PySem.W.fnOf "_law_deck" "_law_deck" (defArgs s_law_deck) (defBody s_law_deck) (defScope s_law_deck) .none kV8 dc8 pm8 an8 cd8 ct8), sl8⟩) (c8 : PySem.W.codeIn K cd8 "_law_deck" = true) (k8 : PySem.W.keepIn K (.ref f8) = true)
    (a9 : PySem.W.nsIn K mainGlobals "_law_pick" = some (some (.ref f9))) (l9 : K.lookup f9 = some ⟨oc9, od9, .func (PySem.W.fnOf "_law_pick" "_law_pick" (defArgs s_law_pick) (defBody s_law_pick) (defScope s_law_pick) .none kV9 dc9 pm9 an9 cd9 ct9), sl9⟩) (c9 : PySem.W.codeIn K cd9 "_law_pick" = true) (k9 : PySem.W.keepIn K (.ref f9) = true)
    (a10 : PySem.W.nsIn K mainGlobals "_law_fraction" = some (some (.ref f10))) (l10 : K.lookup f10 = some ⟨oc10, od10, .func (PySem.W.fnOf "_law_fraction" "_law_fraction" (defArgs s_law_fraction) (defBody s_law_fraction) (defScope s_law_fraction) .none kV10 dc10 pm10 an10 cd10 ct10), sl10⟩) (c10 : PySem.W.codeIn K cd10 "_law_fraction" = true) (k10 : PySem.W.keepIn K (.ref f10) = true)
    (a11 : PySem.W.nsIn K mainGlobals "_law_leaf" = some (some (.ref f11))) (l11 : K.lookup f11 = some ⟨oc11, od11, .func (PySem.W.fnOf "_law_leaf" "_law_leaf" (defArgs s_law_leaf) (defBody s_law_leaf) (defScope s_law_leaf) .none kV11 dc11 pm11 an11 cd11 ct11), sl11⟩) (c11 : PySem.W.codeIn K cd11 "_law_leaf" = true) (k11 : PySem.W.keepIn K (.ref f11) = true)
    (a12 : PySem.W.nsIn K mainGlobals "_law_term" = some (some (.ref f12))) (l12 : K.lookup f12 = some ⟨oc12, od12, .func (PySem.W.fnOf "_law_term" "_law_term" (defArgs s_law_term) (defBody s_law_term) (defScope s_law_term) .none kV12 dc12 pm12 an12 cd12 ct12), sl12⟩) (c12 : PySem.W.codeIn K cd12 "_law_term" = true) (k12 : PySem.W.keepIn K (.ref f12) = true)
    (a13 : PySem.W.nsIn K mainGlobals "_law_limit" = some (some (.ref f13))) (l13 : K.lookup f13 = some ⟨oc13, od13, .func (PySem.W.fnOf "_law_limit" "_law_limit" (defArgs s_law_limit) (defBody s_law_limit) (defScope s_law_limit) .none kV13 dc13 pm13 an13 cd13 ct13), sl13⟩) (c13 : PySem.W.codeIn K cd13 "_law_limit" = true) (k13 : PySem.W.keepIn K (.ref f13) = true)
    (a14 : PySem.W.nsIn K mainGlobals "_law_walk" = some (some (.ref f14))) (l14 : K.lookup f14 = some ⟨oc14, od14, .func (PySem.W.fnOf "_law_walk" "_law_walk" (defArgs s_law_walk) (defBody s_law_walk) (defScope s_law_walk) .none kV14 dc14 pm14 an14 cd14 ct14), sl14⟩) (c14 : PySem.W.codeIn K cd14 "_law_walk" = true) (k14 : PySem.W.keepIn K (.ref f14) = true)
    (a15 : PySem.W.nsIn K mainGlobals "_law_right" = some (some (.ref f15))) (l15 : K.lookup f15 = some ⟨oc15, od15, .func (PySem.W.fnOf "_law_right" "_law_right" (defArgs s_law_right) (defBody s_law_right) (defScope s_law_right) .none kV15 dc15 pm15 an15 cd15 ct15), sl15⟩) (c15 : PySem.W.codeIn K cd15 "_law_right" = true) (k15 : PySem.W.keepIn K (.ref f15) = true)
    (a16 : PySem.W.nsIn K mainGlobals "law" = some (some (.ref f16))) (l16 : K.lookup f16 = some ⟨oc16, od16, .func (PySem.W.fnOf "law" "law" (defArgs s_law) (defBody s_law) (defScope s_law) .none kV16 dc16 pm16 an16 cd16 ct16), sl16⟩) (c16 : PySem.W.codeIn K cd16 "law" = true) (k16 : PySem.W.keepIn K (.ref f16) = true)
    (z_abs : PySem.W.nsIn K mainGlobals "abs" = some none)
    (z_all : PySem.W.nsIn K mainGlobals "all" = some none)
    (z_bool : PySem.W.nsIn K mainGlobals "bool" = some none)
    (z_int : PySem.W.nsIn K mainGlobals "int" = some none)
    (z_isinstance : PySem.W.nsIn K mainGlobals "isinstance" = some none)
    (z_len : PySem.W.nsIn K mainGlobals "len" = some none)
    (z_list : PySem.W.nsIn K mainGlobals "list" = some none)
    (z_range : PySem.W.nsIn K mainGlobals "range" = some none)
    (z_set : PySem.W.nsIn K mainGlobals "set" = some none)
    (z_sorted : PySem.W.nsIn K mainGlobals "sorted" = some none)
    (z_str : PySem.W.nsIn K mainGlobals "str" = some none)
    (z_tuple : PySem.W.nsIn K mainGlobals "tuple" = some none)
    {t_LONGEST_NAME : Tok} (g_LONGEST_NAME : PySem.W.nsIn K mainGlobals "LONGEST_NAME" = some (some (.int 8 t_LONGEST_NAME)))
    {t_LETTERS : Tok} (u_LETTERS : PySem.W.nsIn K mainGlobals "LETTERS" = some (some (.str "abcdefghijklmnopqrstuvwxyz" t_LETTERS)))
    {d_KINDS_OF_ONE : Addr} (v_KINDS_OF_ONE : PySem.W.nsIn K mainGlobals "KINDS_OF_ONE" = some (some (.ref d_KINDS_OF_ONE))) (w_KINDS_OF_ONE : He.dicW K d_KINDS_OF_ONE = some (He.keysIn w.params ["size", "e", "log", "arc", "sine", "cosine"]))
    {d_KINDS_OF_TWO : Addr} (v_KINDS_OF_TWO : PySem.W.nsIn K mainGlobals "KINDS_OF_TWO" = some (some (.ref d_KINDS_OF_TWO))) (w_KINDS_OF_TWO : He.dicW K d_KINDS_OF_TWO = some (He.keysIn w.params ["plus", "minus", "times", "over", "least", "most"]))
    : ∃ fd : FuncData, (∀ (s : Shared) (v : Value), BindsTo s fd ⟨[v], []⟩ [("script", v)]) ∧ ∀ base : Heap, K.In base → base.Ns mainGlobals mg → FnOk l.prog w K mg base CX0 22 fa fd ["script"] (spLaw K) := by
  have e := hfa.symm.trans (PySem.W.mg_of X G a16)
  cases e
  have F0 := fun_mk (st := s_is_whole) l0 c0 k0
  have b0 := F0.binds (ps := ["thing"]) fun _ _ _ _ _ _ us hl => match us, hl with | [_], _ => rfl
  have F1 := fun_mk (st := s_divisor) l1 c1 k1
  have b1 := F1.binds (ps := ["one", "other"]) fun _ _ _ _ _ _ us hl => match us, hl with | [_, _], _ => rfl
  have F2 := fun_mk (st := s_is_fraction) l2 c2 k2
  have b2 := F2.binds (ps := ["thing"]) fun _ _ _ _ _ _ us hl => match us, hl with | [_], _ => rfl
  have F3 := fun_mk (st := s_is_less_fraction) l3 c3 k3
  have b3 := F3.binds (ps := ["one", "other"]) fun _ _ _ _ _ _ us hl => match us, hl with | [_, _], _ => rfl
  have F4 := fun_mk (st := s_is_name) l4 c4 k4
  have b4 := F4.binds (ps := ["thing"]) fun _ _ _ _ _ _ us hl => match us, hl with | [_], _ => rfl
  have F5 := fun_mk (st := s_parts_within) l5 c5 k5
  have b5 := F5.binds (ps := ["thing"]) fun _ _ _ _ _ _ us hl => match us, hl with | [_], _ => rfl
  have F6 := fun_mk (st := s_parts_of) l6 c6 k6
  have b6 := F6.binds (ps := ["term"]) fun _ _ _ _ _ _ us hl => match us, hl with | [_], _ => rfl
  have F7 := fun_mk (st := s_names_of) l7 c7 k7
  have b7 := F7.binds (ps := ["term"]) fun _ _ _ _ _ _ us hl => match us, hl with | [_], _ => rfl
  have F8 := fun_mk (st := s_law_deck) l8 c8 k8
  have b8 := F8.binds (ps := ["cell", "turn"]) fun _ _ _ _ _ _ us hl => match us, hl with | [_, _], _ => rfl
  have F9 := fun_mk (st := s_law_pick) l9 c9 k9
  have b9 := F9.binds (ps := ["deck", "many"]) fun _ _ _ _ _ _ us hl => match us, hl with | [_, _], _ => rfl
  have F10 := fun_mk (st := s_law_fraction) l10 c10 k10
  have b10 := F10.binds (ps := ["top", "bottom"]) fun _ _ _ _ _ _ us hl => match us, hl with | [_, _], _ => rfl
  have F11 := fun_mk (st := s_law_leaf) l11 c11 k11
  have b11 := F11.binds (ps := ["deck", "names"]) fun _ _ _ _ _ _ us hl => match us, hl with | [_, _], _ => rfl
  have F12 := fun_mk (st := s_law_term) l12 c12 k12
  have b12 := F12.binds (ps := ["deck", "deep", "names"]) fun _ _ _ _ _ _ us hl => match us, hl with | [_, _, _], _ => rfl
  have F13 := fun_mk (st := s_law_limit) l13 c13 k13
  have b13 := F13.binds (ps := ["deck", "name", "names"]) fun _ _ _ _ _ _ us hl => match us, hl with | [_, _, _], _ => rfl
  have F14 := fun_mk (st := s_law_walk) l14 c14 k14
  have b14 := F14.binds (ps := ["term"]) fun _ _ _ _ _ _ us hl => match us, hl with | [_], _ => rfl
  have F15 := fun_mk (st := s_law_right) l15 c15 k15
  have b15 := F15.binds (ps := ["term"]) fun _ _ _ _ _ _ us hl => match us, hl with | [_], _ => rfl
  have F16 := fun_mk (st := s_law) l16 c16 k16
  have b16 := F16.binds (ps := ["script"]) fun _ _ _ _ _ _ us hl => match us, hl with | [_], _ => rfl
  have T : Tx w K mg (fun i => match i with | 0 => f0 | 1 => f1 | 2 => f2 | 3 => f3 | 4 => f4 | 5 => f5 | 6 => f6 | 7 => f7 | 8 => f8 | 9 => f9 | 10 => f10 | 11 => f11 | 12 => f12 | 13 => f13 | 14 => f14 | 15 => f15 | 16 => fa | _ => 0) (fun i => match i with | 0 => PySem.W.fnOf "is_whole" "is_whole" (defArgs s_is_whole) (defBody s_is_whole) (defScope s_is_whole) .none kV0 dc0 pm0 an0 cd0 ct0 | 1 => PySem.W.fnOf "divisor" "divisor" (defArgs s_divisor) (defBody s_divisor) (defScope s_divisor) .none kV1 dc1 pm1 an1 cd1 ct1 | 2 => PySem.W.fnOf "is_fraction" "is_fraction" (defArgs s_is_fraction) (defBody s_is_fraction) (defScope s_is_fraction) .none kV2 dc2 pm2 an2 cd2 ct2 | 3 => PySem.W.fnOf "is_less_fraction" "is_less_fraction" (defArgs s_is_less_fraction) (defBody s_is_less_fraction) (defScope s_is_less_fraction) .none kV3 dc3 pm3 an3 cd3 ct3 | 4 => PySem.W.fnOf "is_name" "is_name" (defArgs s_is_name) (defBody s_is_name) (defScope s_is_name) .none kV4 dc4 pm4 an4 cd4 ct4 | 5 => PySem.W.fnOf "parts_within" "parts_within" (defArgs s_parts_within) (defBody s_parts_within) (defScope s_parts_within) .none kV5 dc5 pm5 an5 cd5 ct5 | 6 => PySem.W.fnOf "parts_of" "parts_of" (defArgs s_parts_of) (defBody s_parts_of) (defScope s_parts_of) .none kV6 dc6 pm6 an6 cd6 ct6 | 7 => PySem.W.fnOf "names_of" "names_of" (defArgs s_names_of) (defBody s_names_of) (defScope s_names_of) .none kV7 dc7 pm7 an7 cd7 ct7 | 8 => PySem.W.fnOf "_law_deck" "_law_deck" (defArgs s_law_deck) (defBody s_law_deck) (defScope s_law_deck) .none kV8 dc8 pm8 an8 cd8 ct8 | 9 => PySem.W.fnOf "_law_pick" "_law_pick" (defArgs s_law_pick) (defBody s_law_pick) (defScope s_law_pick) .none kV9 dc9 pm9 an9 cd9 ct9 | 10 => PySem.W.fnOf "_law_fraction" "_law_fraction" (defArgs s_law_fraction) (defBody s_law_fraction) (defScope s_law_fraction) .none kV10 dc10 pm10 an10 cd10 ct10 | 11 => PySem.W.fnOf "_law_leaf" "_law_leaf" (defArgs s_law_leaf) (defBody s_law_leaf) (defScope s_law_leaf) .none kV11 dc11 pm11 an11 cd11 ct11 | 12 => PySem.W.fnOf "_law_term" "_law_term" (defArgs s_law_term) (defBody s_law_term) (defScope s_law_term) .none kV12 dc12 pm12 an12 cd12 ct12 | 13 => PySem.W.fnOf "_law_limit" "_law_limit" (defArgs s_law_limit) (defBody s_law_limit) (defScope s_law_limit) .none kV13 dc13 pm13 an13 cd13 ct13 | 14 => PySem.W.fnOf "_law_walk" "_law_walk" (defArgs s_law_walk) (defBody s_law_walk) (defScope s_law_walk) .none kV14 dc14 pm14 an14 cd14 ct14 | 15 => PySem.W.fnOf "_law_right" "_law_right" (defArgs s_law_right) (defBody s_law_right) (defScope s_law_right) .none kV15 dc15 pm15 an15 cd15 ct15 | 16 => PySem.W.fnOf "law" "law" (defArgs s_law) (defBody s_law) (defScope s_law) .none kV16 dc16 pm16 an16 cd16 ct16 | _ => PySem.W.fnOf "law" "law" (defArgs s_law) (defBody s_law) (defScope s_law) .none kV16 dc16 pm16 an16 cd16 ct16) := ⟨⟨F0, b0, PySem.W.mg_of X G a0⟩, ⟨F1, b1, PySem.W.mg_of X G a1⟩, ⟨F2, b2, PySem.W.mg_of X G a2⟩, ⟨F3, b3, PySem.W.mg_of X G a3⟩, ⟨F4, b4, PySem.W.mg_of X G a4⟩, ⟨F5, b5, PySem.W.mg_of X G a5⟩, ⟨F6, b6, PySem.W.mg_of X G a6⟩, ⟨F7, b7, PySem.W.mg_of X G a7⟩, ⟨F8, b8, PySem.W.mg_of X G a8⟩, ⟨F9, b9, PySem.W.mg_of X G a9⟩, ⟨F10, b10, PySem.W.mg_of X G a10⟩, ⟨F11, b11, PySem.W.mg_of X G a11⟩, ⟨F12, b12, PySem.W.mg_of X G a12⟩, ⟨F13, b13, PySem.W.mg_of X G a13⟩, ⟨F14, b14, PySem.W.mg_of X G a14⟩, ⟨F15, b15, PySem.W.mg_of X G a15⟩, ⟨F16, b16, PySem.W.mg_of X G a16⟩, PySem.W.mg_none_of X G z_abs, PySem.W.mg_none_of X G z_all, PySem.W.mg_none_of X G z_bool, PySem.W.mg_none_of X G z_int, PySem.W.mg_none_of X G z_isinstance, PySem.W.mg_none_of X G z_len, PySem.W.mg_none_of X G z_list, PySem.W.mg_none_of X G z_range, PySem.W.mg_none_of X G z_set, PySem.W.mg_none_of X G z_sorted, PySem.W.mg_none_of X G z_str, PySem.W.mg_none_of X G z_tuple, ⟨_, PySem.W.mg_of X G g_LONGEST_NAME⟩, ⟨_, PySem.W.mg_of X G u_LETTERS⟩, ⟨_, PySem.W.mg_of X G v_KINDS_OF_ONE, w_KINDS_OF_ONE⟩, ⟨_, PySem.W.mg_of X G v_KINDS_OF_TWO, w_KINDS_OF_TWO⟩⟩
  exact ⟨PySem.W.fnOf "law" "law" (defArgs s_law) (defBody s_law) (defScope s_law) .none kV16 dc16 pm16 an16 cd16 ct16, fun s v => .of_eq rfl, fun base _ _ => law_end (ok_law T)⟩
end LK
open PySem PySem.W PyProof.Rows
set_option maxRecDepth 100000 in
set_option maxHeartbeats 0 in
theorem PySem.Challenge.cw_lazyreal_k22_whole_parts_and_names_holds : PySem.Challenge.rw_lazyreal_k22_whole_parts_and_names.Holds := by
  w_on; o_law; k_head; (case hw => w_witness2)
  k_fill
  refine L2.walk_of (l := PySem.Challenge.rw_lazyreal_k22_whole_parts_and_names) (n := 63) (k := 22) (x := "script") (CX := fun _ => L2.CX0) (sp := fun w => D3.spLaw _) rfl (by decide) rfl ⟨rfl, by decide, by decide⟩ (fun w h Y => PySem.W.km_in_of Y) ?F (fun _ _ a ns hl _ hS => ⟨a, ns, rfl, hS, hl, fun _ => rfl⟩) (fun _ _ _ _ _ h => h)
  case F =>
    intro w mg fa h KX G hmg
    refine' LK.all_mk KX G hmg ?a0 ?l0 ?c0 ?k0 ?a1 ?l1 ?c1 ?k1 ?a2 ?l2 ?c2 ?k2 ?a3 ?l3 ?c3 ?k3 ?a4 ?l4 ?c4 ?k4 ?a5 ?l5 ?c5 ?k5 ?a6 ?l6 ?c6 ?k6 ?a7 ?l7 ?c7 ?k7 ?a8 ?l8 ?c8 ?k8 ?a9 ?l9 ?c9 ?k9 ?a10 ?l10 ?c10 ?k10 ?a11 ?l11 ?c11 ?k11 ?a12 ?l12 ?c12 ?k12 ?a13 ?l13 ?c13 ?k13 ?a14 ?l14 ?c14 ?k14 ?a15 ?l15 ?c15 ?k15 ?a16 ?l16 ?c16 ?k16 ?z_abs ?z_all ?z_bool ?z_int ?z_isinstance ?z_len ?z_list ?z_range ?z_set ?z_sorted ?z_str ?z_tuple ?g_LONGEST_NAME ?u_LETTERS ?v_KINDS_OF_ONE ?w_KINDS_OF_ONE ?v_KINDS_OF_TWO ?w_KINDS_OF_TWO
    (case a0 => k_is); (case l0 => k_is); (case c0 => k_is); (case k0 => k_is); (case a1 => k_is); (case l1 => k_is); (case c1 => k_is); (case k1 => k_is); (case a2 => k_is); (case l2 => k_is); (case c2 => k_is); (case k2 => k_is); (case a3 => k_is); (case l3 => k_is); (case c3 => k_is); (case k3 => k_is); (case a4 => k_is); (case l4 => k_is); (case c4 => k_is); (case k4 => k_is); (case a5 => k_is); (case l5 => k_is); (case c5 => k_is); (case k5 => k_is); (case a6 => k_is); (case l6 => k_is); (case c6 => k_is); (case k6 => k_is); (case a7 => k_is); (case l7 => k_is); (case c7 => k_is); (case k7 => k_is); (case a8 => k_is); (case l8 => k_is); (case c8 => k_is); (case k8 => k_is); (case a9 => k_is); (case l9 => k_is); (case c9 => k_is); (case k9 => k_is); (case a10 => k_is); (case l10 => k_is); (case c10 => k_is); (case k10 => k_is); (case a11 => k_is); (case l11 => k_is); (case c11 => k_is); (case k11 => k_is); (case a12 => k_is); (case l12 => k_is); (case c12 => k_is); (case k12 => k_is); (case a13 => k_is); (case l13 => k_is); (case c13 => k_is); (case k13 => k_is); (case a14 => k_is); (case l14 => k_is); (case c14 => k_is); (case k14 => k_is); (case a15 => k_is); (case l15 => k_is); (case c15 => k_is); (case k15 => k_is); (case a16 => k_is); (case l16 => k_is); (case c16 => k_is); (case k16 => k_is); (case z_abs => k_is); (case z_all => k_is); (case z_bool => k_is); (case z_int => k_is); (case z_isinstance => k_is); (case z_len => k_is); (case z_list => k_is); (case z_range => k_is); (case z_set => k_is); (case z_sorted => k_is); (case z_str => k_is); (case z_tuple => k_is); (case g_LONGEST_NAME => k_is); (case u_LETTERS => k_is); (case v_KINDS_OF_ONE => k_is); (case w_KINDS_OF_ONE => rfl); (case v_KINDS_OF_TWO => k_is); (case w_KINDS_OF_TWO => rfl)
