import PyProof.Rows.All
import Wide.All
import OpenK.AllK
import Wide.FinOn
import HandS.ForMost
import HandS.ForExc
import HandS.IsInst
import HandS.Wide
import HandS.Defaults
import HandS.EndBits
import PySem.Challenge.RW_samewell_k01_agree_and_left
set_option Elab.async false
set_option linter.all false
set_option maxRecDepth 100000
set_option maxHeartbeats 2000000
namespace DL
open PySem PySem.Spec PyProof.Rows L2

inductive D where
  | non | bl (b : Bool) | int (i : Int) | str (x : Str) | ty (n : String) | ref (a : Addr)
  | lst (xs : List D) | tup (xs : List D) | dK (kvs : List (Key × D)) | dT (kvs : List (List Key × D))
  | ins (C : Addr) (fs : List (Str × D))
inductive MO where
  | lst (xs : List D) | dK (kvs : List (Key × D)) | dT (kvs : List (List Key × D)) | ins (C : Addr) (fs : List (Str × D))
abbrev Mu := Addr → Option MO
abbrev Gm := List (Option D)
def updM (μ : Mu) (a : Addr) (o : MO) : Mu := fun b => if b = a then some o else μ b
def delM (μ : Mu) (a : Addr) : Mu := fun b => if b = a then none else μ b
theorem updM_same {μ : Mu} {a : Addr} {o : MO} : updM μ a o a = some o := by unfold updM; rw [if_pos rfl]
theorem updM_ne {μ : Mu} {a b : Addr} {o : MO} (h : b ≠ a) : updM μ a o b = μ b := by unfold updM; rw [if_neg h]
theorem updM_upd {μ : Mu} {a : Addr} {o u : MO} : updM (updM μ a o) a u = updM μ a u := by
  funext b; unfold updM; split <;> rfl
theorem updM_comm {μ : Mu} {a b : Addr} {o u : MO} (h : a ≠ b) : updM (updM μ a o) b u = updM (updM μ b u) a o := by
  funext c; unfold updM; by_cases h1 : c = a <;> by_cases h2 : c = b <;> simp_all
theorem delM_same {μ : Mu} {a : Addr} : delM μ a a = none := by unfold delM; rw [if_pos rfl]
theorem delM_ne {μ : Mu} {a b : Addr} (h : b ≠ a) : delM μ a b = μ b := by unfold delM; rw [if_neg h]
theorem delM_upd {μ : Mu} {a : Addr} {o : MO} (h : μ a = none) : delM (updM μ a o) a = μ := by
  funext b; unfold delM updM; by_cases e : b = a
  · subst e; simp [h]
  · simp [e]
/-- what must not be read as fixed: what may be changed, what others hold -/
def Av (μ : Mu) (Z : Addr → Prop) : Addr → Prop := fun a => μ a ≠ none ∨ Z a

section
variable (K : PySem.W.Frag) (A : Addr → Prop) (H : Hp)
def KwL (a : Addr) (vs : List V) : Prop := ∃ (o : Obj) (its : Array Value) (n : Nat), K.lookup a = some o ∧ o.cls = .type "list" ∧ o.dict = none ∧ o.data = .seq its n ∧ its.size ≤ sizeLine ∧ Vals vs its.toList
def KwT (a : Addr) (vs : List V) : Prop := ∃ (o : Obj) (its : Array Value) (n : Nat), K.lookup a = some o ∧ o.cls = .type "tuple" ∧ o.data = .seq its n ∧ its.size ≤ sizeLine ∧ Vals vs its.toList
def RdL (a : Addr) (vs : List V) : Prop := (¬ A a ∧ Rd H a (.lst vs)) ∨ KwL K a vs
def RdT (a : Addr) (vs : List V) : Prop := (¬ A a ∧ Rd H a (.tup vs)) ∨ KwT K a vs
mutual
inductive Is : V → D → Prop
  | non : Is .non .non
  | bl (b : Bool) : Is (.bl b) (.bl b)
  | int (i : Int) : Is (.int i) (.int i)
  | str (x : Str) : Is (.str x) (.str x)
  | ty (n : String) : Is (.ty n) (.ty n)
  | ref (a : Addr) : Is (.ref a) (.ref a)
  | lst {a : Addr} {vs : List V} {ds : List D} (h : RdL K A H a vs) (t : IsA vs ds) : Is (.ref a) (.lst ds)
  | tup {a : Addr} {vs : List V} {ds : List D} (h : RdT K A H a vs) (t : IsA vs ds) : Is (.ref a) (.tup ds)
  | dK {a : Addr} {kvs : List (Key × V)} {kds : List (Key × D)} (n : ¬ A a) (h : H a = some (.dK kvs)) (hk : kvs.map (·.1) = kds.map (·.1)) (t : IsA (kvs.map (·.2)) (kds.map (·.2))) : Is (.ref a) (.dK kds)
  | dT {a : Addr} {kvs : List (List Key × V)} {kds : List (List Key × D)} (n : ¬ A a) (h : H a = some (.dT kvs)) (hk : kvs.map (·.1) = kds.map (·.1)) (t : IsA (kvs.map (·.2)) (kds.map (·.2))) : Is (.ref a) (.dT kds)
  | ins {a C dx : Addr} {fs : List (Str × V)} {gs : List (Str × D)} (n : ¬ A a) (h : H a = some (.ins C dx fs)) (hk : fs.map (·.1) = gs.map (·.1)) (t : IsA (fs.map (·.2)) (gs.map (·.2))) : Is (.ref a) (.ins C gs)
inductive IsA : List V → List D → Prop
  | nil : IsA [] []
  | cons {v : V} {d : D} {vs : List V} {ds : List D} (h : Is v d) (t : IsA vs ds) : IsA (v :: vs) (d :: ds)
end
/-- an object that may be changed -/
def MOk (a : Addr) (o : MO) : Prop := match o with
  | .lst ds => ∃ vs, H a = some (.lst vs) ∧ IsA K A H vs ds
  | .dK kds => ∃ kvs, H a = some (.dK kvs) ∧ kvs.map (·.1) = kds.map (·.1) ∧ IsA K A H (kvs.map (·.2)) (kds.map (·.2))
  | .dT kds => ∃ kvs, H a = some (.dT kvs) ∧ kvs.map (·.1) = kds.map (·.1) ∧ IsA K A H (kvs.map (·.2)) (kds.map (·.2))
  | .ins C gs => ∃ dx fs, H a = some (.ins C dx fs) ∧ fs.map (·.1) = gs.map (·.1) ∧ IsA K A H (fs.map (·.2)) (gs.map (·.2))
end
/-- what was fixed stays as it was, and fixed -/
def Fz (A : Addr → Prop) (H : Hp) (A' : Addr → Prop) (H' : Hp) : Prop := ∀ a o, H a = some o → ¬ A a → H' a = some o ∧ ¬ A' a
theorem Fz.refl {A : Addr → Prop} {H : Hp} : Fz A H A H := fun _ _ h n => ⟨h, n⟩
theorem Fz.trans {A A1 A2 : Addr → Prop} {H H1 H2 : Hp} (f : Fz A H A1 H1) (g : Fz A1 H1 A2 H2) : Fz A H A2 H2 := fun a o h n => let ⟨h1, n1⟩ := f a o h n; g a o h1 n1
section
variable {K : PySem.W.Frag} {A A' : Addr → Prop} {H H' : Hp}
theorem RdL.mono (f : Fz A H A' H') {a : Addr} {vs : List V} (h : RdL K A H a vs) : RdL K A' H' a vs := by
  rcases h with ⟨n, h | ⟨o, h⟩⟩ | h
  · exact .inl ⟨(f _ _ h n).2, .inl (f _ _ h n).1⟩
  · exact .inl ⟨(f _ _ h n).2, .inr ⟨o, (f _ _ h n).1⟩⟩
  · exact .inr h
theorem RdT.mono (f : Fz A H A' H') {a : Addr} {vs : List V} (h : RdT K A H a vs) : RdT K A' H' a vs := by
  rcases h with ⟨n, h | ⟨o, h⟩⟩ | h
  · exact .inl ⟨(f _ _ h n).2, .inl (f _ _ h n).1⟩
  · exact .inl ⟨(f _ _ h n).2, .inr ⟨o, (f _ _ h n).1⟩⟩
  · exact .inr h
theorem RdL.sq {a : Addr} {vs : List V} (h : RdL K A H a vs) : SqL K H a vs := by
  rcases h with ⟨_, h⟩ | h
  · exact .inl h
  · exact .inr h
theorem RdT.sq {a : Addr} {vs : List V} (h : RdT K A H a vs) : SqT K H a vs := by
  rcases h with ⟨_, h⟩ | h
  · exact .inl h
  · exact .inr h
mutual
theorem Is.mono (f : Fz A H A' H') : ∀ {v : V} {d : D}, Is K A H v d → Is K A' H' v d
  | _, _, .non => .non
  | _, _, .bl b => .bl b
  | _, _, .int i => .int i
  | _, _, .str x => .str x
  | _, _, .ty n => .ty n
  | _, _, .ref a => .ref a
  | _, _, .lst h t => .lst (h.mono f) (IsA.mono f t)
  | _, _, .tup h t => .tup (h.mono f) (IsA.mono f t)
  | _, _, .dK n h hk t => .dK (f _ _ h n).2 (f _ _ h n).1 hk (IsA.mono f t)
  | _, _, .dT n h hk t => .dT (f _ _ h n).2 (f _ _ h n).1 hk (IsA.mono f t)
  | _, _, .ins n h hk t => .ins (f _ _ h n).2 (f _ _ h n).1 hk (IsA.mono f t)
theorem IsA.mono (f : Fz A H A' H') : ∀ {vs : List V} {ds : List D}, IsA K A H vs ds → IsA K A' H' vs ds
  | _, _, .nil => .nil
  | _, _, .cons h t => .cons (Is.mono f h) (IsA.mono f t)
end
theorem IsA.length : ∀ {vs : List V} {ds : List D}, IsA K A H vs ds → vs.length = ds.length
  | _, _, .nil => rfl
  | _, _, .cons _ t => congrArg (· + 1) t.length
theorem IsA.get : ∀ {vs : List V} {ds : List D} {i : Nat} {d : D}, IsA K A H vs ds → ds[i]? = some d → ∃ v, vs[i]? = some v ∧ Is K A H v d
  | _, _, _, _, .nil, e => by simp at e
  | _, _, 0, _, .cons h _, e => by simp at e; subst e; exact ⟨_, rfl, h⟩
  | _, _, i + 1, _, .cons _ t, e => by
    obtain ⟨v, h1, h2⟩ := IsA.get (i := i) t (by simpa using e)
    exact ⟨v, by simpa using h1, h2⟩
theorem IsA.getV : ∀ {vs : List V} {ds : List D} {i : Nat} {v : V}, IsA K A H vs ds → vs[i]? = some v → ∃ d, ds[i]? = some d ∧ Is K A H v d
  | _, _, _, _, .nil, e => by simp at e
  | _, _, 0, _, .cons h _, e => by simp at e; subst e; exact ⟨_, rfl, h⟩
  | _, _, i + 1, _, .cons _ t, e => by
    obtain ⟨v, h1, h2⟩ := IsA.getV (i := i) t (by simpa using e)
    exact ⟨v, by simpa using h1, h2⟩
theorem IsA.append : ∀ {vs ws : List V} {ds es : List D}, IsA K A H vs ds → IsA K A H ws es → IsA K A H (vs ++ ws) (ds ++ es)
  | _, _, _, _, .nil, s => s
  | _, _, _, _, .cons h t, s => .cons h (t.append s)
theorem IsA.set {v : V} {d : D} (r : Is K A H v d) : ∀ {vs : List V} {ds : List D} (i : Nat), IsA K A H vs ds → IsA K A H (vs.set i v) (ds.set i d)
  | _, _, _, .nil => .nil
  | _, _, 0, .cons _ t => .cons r t
  | _, _, i + 1, .cons q t => .cons q (t.set r i)
theorem IsA.take : ∀ {vs : List V} {ds : List D} (n : Nat), IsA K A H vs ds → IsA K A H (vs.take n) (ds.take n)
  | _, _, 0, _ => .nil
  | _, _, _ + 1, .nil => .nil
  | _, _, n + 1, .cons r t => .cons r (t.take n)
theorem IsA.drop : ∀ {vs : List V} {ds : List D} (n : Nat), IsA K A H vs ds → IsA K A H (vs.drop n) (ds.drop n)
  | _, _, 0, r => r
  | _, _, _ + 1, .nil => .nil
  | _, _, n + 1, .cons _ t => t.drop n
theorem IsA.eraseIdx : ∀ {vs : List V} {ds : List D} (i : Nat), IsA K A H vs ds → IsA K A H (vs.eraseIdx i) (ds.eraseIdx i)
  | _, _, _, .nil => .nil
  | _, _, 0, .cons _ t => t
  | _, _, i + 1, .cons q t => .cons q (t.eraseIdx i)
theorem IsA.ints : ∀ (ns : List Int), IsA K A H (ns.map V.int) (ns.map D.int)
  | [] => .nil
  | n :: ns => .cons (.int n) (IsA.ints ns)
theorem MOk.mono (f : Fz A H A' H') {a : Addr} {o : MO} (e : H' a = H a) (h : MOk K A H a o) : MOk K A' H' a o := by
  cases o with
  | lst ds => obtain ⟨vs, h1, h2⟩ := h; exact ⟨vs, e.trans h1, h2.mono f⟩
  | dK ds => obtain ⟨vs, h1, h2, h3⟩ := h; exact ⟨vs, e.trans h1, h2, h3.mono f⟩
  | dT ds => obtain ⟨vs, h1, h2, h3⟩ := h; exact ⟨vs, e.trans h1, h2, h3.mono f⟩
  | ins C ds => obtain ⟨dx, vs, h1, h2, h3⟩ := h; exact ⟨dx, vs, e.trans h1, h2, h3.mono f⟩
theorem MOk.some {a : Addr} {o : MO} (h : MOk K A H a o) : ∃ u, H a = some u := by
  cases o with
  | lst ds => obtain ⟨vs, h1, h2⟩ := h; exact ⟨_, h1⟩
  | dK ds => obtain ⟨vs, h1, h2, h3⟩ := h; exact ⟨_, h1⟩
  | dT ds => obtain ⟨vs, h1, h2, h3⟩ := h; exact ⟨_, h1⟩
  | ins C ds => obtain ⟨dx, vs, h1, h2, h3⟩ := h; exact ⟨_, h1⟩
end
/-- the state: all objects that may be changed stand as μ says; Z: others' objects, not to be touched -/
structure Ok (K : PySem.W.Frag) (μ : Mu) (Z : Addr → Prop) (H : Hp) : Prop where
  at_ : ∀ a o, μ a = some o → MOk K (Av μ Z) H a o
  hid : ∀ a, Z a → μ a = none ∧ ∃ o, H a = some o
/-- a run's end, by its start -/
structure Go (K : PySem.W.Frag) (Z : Addr → Prop) (μ : Mu) (H : Hp) (μ' : Mu) (H' : Hp) : Prop where
  ok : Ok K μ' Z H'
  fz : Fz (Av μ Z) H (Av μ' Z) H'
  zk : ∀ a, Z a → H' a = H a
section
variable {K : PySem.W.Frag} {Z : Addr → Prop} {μ μ1 μ2 : Mu} {H H1 H2 : Hp} {p : Addr}
theorem Go.refl (ok : Ok K μ Z H) : Go K Z μ H μ H := ⟨ok, Fz.refl, fun _ _ => rfl⟩
theorem Go.trans (f : Go K Z μ H μ1 H1) (g : Go K Z μ1 H1 μ2 H2) : Go K Z μ H μ2 H2 := ⟨g.ok, f.fz.trans g.fz, fun a h => (g.zk a h).trans (f.zk a h)⟩
theorem Ok.fresh (ok : Ok K μ Z H) (h : H p = none) : μ p = none ∧ ¬ Z p := by
  refine ⟨?_, fun z => ?_⟩
  · cases q : μ p with
    | none => rfl
    | some o =>
      obtain ⟨u, e⟩ := (ok.at_ p o q).some
      rw [h] at e; cases e
  · obtain ⟨_, o, e⟩ := ok.hid p z
    rw [h] at e; cases e
theorem Ok.notAv (ok : Ok K μ Z H) (h : H p = none) : ¬ Av μ Z p := by
  obtain ⟨h1, h2⟩ := ok.fresh h
  rintro (z | z)
  · exact z h1
  · exact h2 z
/-- a new object, fixed from the start -/
theorem Go.frz (ok : Ok K μ Z H) (h : H p = none) (o : HO) : Go K Z μ H μ (upd H p o) := by
  have fz : Fz (Av μ Z) H (Av μ Z) (upd H p o) := fun a u e n => ⟨by rw [upd_ne (ne_of_none e h)]; exact e, n⟩
  obtain ⟨h1, h2⟩ := ok.fresh h
  refine ⟨⟨fun a u e => (ok.at_ a u e).mono fz (upd_ne fun z => ?_), fun a z => ?_⟩, fz, fun a z => upd_ne fun e => ?_⟩
  · subst z; rw [h1] at e; cases e
  · obtain ⟨z1, u, z2⟩ := ok.hid a z
    exact ⟨z1, u, by rw [upd_ne (ne_of_none z2 h)]; exact z2⟩
  · subst e; exact h2 z
/-- what may be changed is written: new, or there already -/
theorem Go.put (ok : Ok K μ Z H) (o : MO) (u : HO) (h : H p = none ∨ ∃ o', μ p = some o')
    (new : (∀ {vs ds}, IsA K (Av μ Z) H vs ds → IsA K (Av (updM μ p o) Z) (upd H p u) vs ds) → MOk K (Av (updM μ p o) Z) (upd H p u) p o) : Go K Z μ H (updM μ p o) (upd H p u) := by
  have nz : ¬ Z p := fun z => by
    rcases h with h | ⟨o', h⟩
    · exact (ok.fresh h).2 z
    · rw [(ok.hid p z).1] at h; cases h
  have np : ∀ a u', H a = some u' → ¬ Av μ Z a → a ≠ p := fun a u' e n z => by
    subst z
    rcases h with h | ⟨o', h⟩
    · rw [h] at e; cases e
    · exact n (.inl (by rw [h]; exact fun z => by cases z))
  have fz : Fz (Av μ Z) H (Av (updM μ p o) Z) (upd H p u) := fun a u' e n => by
    have ne := np a u' e n
    refine ⟨by rw [upd_ne ne]; exact e, ?_⟩
    rintro (z | z)
    · rw [updM_ne ne] at z; exact n (.inl z)
    · exact n (.inr z)
  refine ⟨⟨fun a o' e => ?_, fun a z => ?_⟩, fz, fun a z => upd_ne fun e => ?_⟩
  · by_cases ha : a = p
    · subst ha
      rw [updM_same] at e; cases e
      exact new fun t => t.mono fz
    · rw [updM_ne ha] at e
      exact (ok.at_ a o' e).mono fz (upd_ne ha)
  · have ha : a ≠ p := fun e => by subst e; exact nz z
    obtain ⟨z1, u', z2⟩ := ok.hid a z
    exact ⟨by rw [updM_ne ha]; exact z1, u', by rw [upd_ne ha]; exact z2⟩
  · subst e; exact nz z
/-- what may be changed is fixed from now on -/
theorem Go.fix (ok : Ok K μ Z H) (p : Addr) (h : ∃ o, μ p = some o) : Go K Z μ H (delM μ p) H := by
  have fz : Fz (Av μ Z) H (Av (delM μ p) Z) H := fun a u e n => ⟨e, by
    rintro (z | z)
    · refine n (.inl fun q => z ?_)
      by_cases ha : a = p
      · subst ha; exact delM_same
      · rw [delM_ne ha]; exact q
    · exact n (.inr z)⟩
  refine ⟨⟨fun a o e => ?_, fun a z => ?_⟩, fz, fun _ _ => rfl⟩
  · by_cases ha : a = p
    · subst ha; rw [delM_same] at e; cases e
    · rw [delM_ne ha] at e
      exact (ok.at_ a o e).mono fz rfl
  · obtain ⟨z1, z2⟩ := ok.hid a z
    refine ⟨?_, z2⟩
    by_cases ha : a = p
    · subst ha; exact delM_same
    · rw [delM_ne ha]; exact z1
end
/-- the slots -/
structure En (K : PySem.W.Frag) (A : Addr → Prop) (H : Hp) (σ : L2.St) (Γ : Gm) : Prop where
  len : σ.length = Γ.length
  at_ : ∀ (i : Nat) (d : D), Γ[i]? = some (some d) → ∃ v, σ[i]? = some (some v) ∧ Is K A H v d
section
variable {K : PySem.W.Frag} {A A' : Addr → Prop} {H H' : Hp} {σ : L2.St} {Γ : Gm}
theorem En.mono (f : Fz A H A' H') (h : En K A H σ Γ) : En K A' H' σ Γ := ⟨h.len, fun i d e => let ⟨v, h1, h2⟩ := h.at_ i d e; ⟨v, h1, h2.mono f⟩⟩
theorem En.set (h : En K A H σ Γ) (i : Nat) {v : V} {d : D} (r : Is K A H v d) : En K A H (σ.set i (some v)) (Γ.set i (some d)) := by
  refine ⟨by rw [List.length_set, List.length_set]; exact h.len, fun j e q => ?_⟩
  by_cases hj : i = j
  · subst hj
    by_cases hl : i < Γ.length
    · rw [List.getElem?_set_self hl] at q
      cases q
      exact ⟨v, List.getElem?_set_self (by rw [h.len]; exact hl), r⟩
    · rw [List.getElem?_eq_none (by rw [List.length_set]; omega)] at q; cases q
  · rw [List.getElem?_set_ne hj] at q
    obtain ⟨v', h1, h2⟩ := h.at_ j e q
    exact ⟨v', by rw [List.getElem?_set_ne hj]; exact h1, h2⟩
/-- slots forgotten -/
def Sub (Γ' Γ : Gm) : Prop := Γ'.length = Γ.length ∧ ∀ (i : Nat) (d : D), Γ'[i]? = some (some d) → Γ[i]? = some (some d)
theorem En.sub {Γ' : Gm} (h : En K A H σ Γ) (s : Sub Γ' Γ) : En K A H σ Γ' := ⟨h.len.trans s.1.symm, fun i d e => h.at_ i d (s.2 i d e)⟩
end
end DL

set_option Elab.async false
set_option linter.all false
set_option maxRecDepth 100000
set_option maxHeartbeats 2000000
namespace DL
open PySem PySem.Spec PyProof.Rows L2

section
variable (X : Cx)
def SE (e : Expr) (σ : L2.St) (H : Hp) (Q : VK) : Prop := ∀ pins s, Inv X pins σ H s → wpAny (model X.prog X.w) X.A (eval e X.env) (EP X pins σ Q) X.xe s
def ST (e : Expr) (σ : L2.St) (H : Hp) (Q : Bool → Hp → Prop) : Prop := ∀ pins s, Inv X pins σ H s → wpAny (model X.prog X.w) X.A (isTrue e X.env (eval e X.env)) (TP X pins σ Q) X.xe s
def SW (e : Expr) (σ : L2.St) (H : Hp) (Q : Bool → Hp → Prop) : Prop := ∀ whole pins s, Inv X pins σ H s → wpAny (model X.prog X.w) X.A (isTrue e X.env whole) (TP X pins σ Q) X.xe s
def SA (es : List Expr) (σ : L2.St) (H : Hp) (Q : List V → Hp → Prop) : Prop := ∀ pos pins s, Inv X pins σ H s → wpAny (model X.prog X.w) X.A (spliced (backTo pos (starEach es X.env))) (AP X pins σ Q) X.xe s
def SKw (kws : List Keyword) (σ : L2.St) (H : Hp) (Q : List V → Hp → Prop) : Prop := ∀ pos pins s, Inv X pins σ H s → wpAny (model X.prog X.w) X.A (evalAll ((backToKw pos (keywordEach kws X.env)).map (·.2))) (AP X pins σ Q) X.xe s
def SS (st : Stmt) (E : Ends) (σ : L2.St) (H : Hp) : Prop := ∀ pins s, Inv X pins σ H s → wpAny (model X.prog X.w) X.A (exec st X.env) (SP X pins E) X.xe s
def SB (sts : List Stmt) (E : Ends) (σ : L2.St) (H : Hp) : Prop := ∀ pins s, Inv X pins σ H s → wpAny (model X.prog X.w) X.A (execs sts X.env) (SP X pins E) X.xe s
def SG (tg : Expr) (v : V) (σ : L2.St) (H : Hp) (Q : L2.St → Hp → Prop) : Prop := ∀ pins s u, Inv X pins σ H s → RelV v u → wpAny (model X.prog X.w) X.A (assign tg X.env u) (fun _ s' => ∃ σ' H', Inv X pins σ' H' s' ∧ Q σ' H') X.xe s
def SI (tg iter : Expr) (σ : L2.St) (H : Hp) (R : It → Hp → Prop) : Prop := ∀ pins s, Inv X pins σ H s → wpAny (model X.prog X.w) X.A (eval iter X.env) (fun v s1 => wpAny (model X.prog X.w) X.A (pyIter v) (PIE X pins σ tg R) X.xe s1) X.xe s
end
section
variable {X : Cx} {e tg iter : Expr} {es : List Expr} {st : Stmt} {sts : List Stmt} {σ : L2.St} {H : Hp} {kws : List Keyword}
theorem pe_S : PE X e (SE X e) := ⟨fun _ _ _ _ _ I h => h _ _ I⟩
theorem pt_S : PT X e (ST X e) := ⟨fun _ _ _ _ _ I h => h _ _ I⟩
theorem pw_S : PW X e (SW X e) := ⟨fun _ _ _ _ _ _ I h => h _ _ _ I⟩
theorem pa_S : PA X es (SA X es) := ⟨fun _ _ _ _ _ _ I h => h _ _ _ I⟩
theorem pk_S : PK X kws (SKw X kws) := ⟨fun _ _ _ _ _ _ I h => h _ _ _ I⟩
theorem ps_S : PS X st (SS X st) := ⟨fun _ _ _ _ _ I h => h _ _ I⟩
theorem pss_S : PSs X sts (SB X sts) := ⟨fun _ _ _ _ _ I h => h _ _ I⟩
theorem pg_S : PG X tg (SG X tg) := ⟨fun _ _ _ _ _ _ _ I r h => h _ _ _ I r⟩
theorem pi_S : PI X tg iter (SI X tg iter) := ⟨fun _ _ _ _ _ I h => h _ _ I⟩
theorem toS {t : TE} {Q : VK} (p : PE X e t) (h : t σ H Q) : SE X e σ H Q := fun _ _ I => p.run _ _ _ _ _ I h
theorem toT {t : TT} {Q : Bool → Hp → Prop} (p : PT X e t) (h : t σ H Q) : ST X e σ H Q := fun _ _ I => p.run _ _ _ _ _ I h
theorem toW {t : TT} {Q : Bool → Hp → Prop} (p : PW X e t) (h : t σ H Q) : SW X e σ H Q := fun _ _ _ I => p.run _ _ _ _ _ _ I h
theorem toA {t : TA} {Q : List V → Hp → Prop} (p : PA X es t) (h : t σ H Q) : SA X es σ H Q := fun _ _ _ I => p.run _ _ _ _ _ _ I h
theorem toK {t : TA} {Q : List V → Hp → Prop} (p : PK X kws t) (h : t σ H Q) : SKw X kws σ H Q := fun _ _ _ I => p.run _ _ _ _ _ _ I h
theorem toSS {t : TS} {D : Ends} (p : PS X st t) (h : t D σ H) : SS X st D σ H := fun _ _ I => p.run _ _ _ _ _ I h
theorem toSB {t : TS} {D : Ends} (p : PSs X sts t) (h : t D σ H) : SB X sts D σ H := fun _ _ I => p.run _ _ _ _ _ I h
theorem toG {t : TG} {v : V} {Q : L2.St → Hp → Prop} (p : PG X tg t) (h : t v σ H Q) : SG X tg v σ H Q := fun _ _ _ I r => p.run _ _ _ _ _ _ _ I r h
theorem toI {t : TI} {R : It → Hp → Prop} (p : PI X tg iter t) (h : t σ H R) : SI X tg iter σ H R := fun _ _ I => p.run _ _ _ _ _ I h
theorem SE.mono {Q Q' : VK} (h : SE X e σ H Q) (f : ∀ v H', Q v H' → Q' v H') : SE X e σ H Q' := fun pins s I => thn (h pins s I) fun _ _ ⟨v, H', I', r, q⟩ => ⟨v, H', I', r, f _ _ q⟩
theorem ST.mono {Q Q' : Bool → Hp → Prop} (h : ST X e σ H Q) (f : ∀ b H', Q b H' → Q' b H') : ST X e σ H Q' := fun pins s I => thn (h pins s I) fun _ _ ⟨H', I', q⟩ => ⟨H', I', f _ _ q⟩
theorem SW.mono {Q Q' : Bool → Hp → Prop} (h : SW X e σ H Q) (f : ∀ b H', Q b H' → Q' b H') : SW X e σ H Q' := fun w pins s I => thn (h w pins s I) fun _ _ ⟨H', I', q⟩ => ⟨H', I', f _ _ q⟩
theorem SA.mono {Q Q' : List V → Hp → Prop} (h : SA X es σ H Q) (f : ∀ v H', Q v H' → Q' v H') : SA X es σ H Q' := fun w pins s I => thn (h w pins s I) fun _ _ ⟨v, H', I', r, q⟩ => ⟨v, H', I', r, f _ _ q⟩
theorem SKw.mono {Q Q' : List V → Hp → Prop} (h : SKw X kws σ H Q) (f : ∀ v H', Q v H' → Q' v H') : SKw X kws σ H Q' := fun w pins s I => thn (h w pins s I) fun _ _ ⟨v, H', I', r, q⟩ => ⟨v, H', I', r, f _ _ q⟩
theorem SG.mono {v : V} {Q Q' : L2.St → Hp → Prop} (h : SG X tg v σ H Q) (f : ∀ σ' H', Q σ' H' → Q' σ' H') : SG X tg v σ H Q' := fun pins s u I r => thn (h pins s u I r) fun _ _ ⟨σ', H', I', q⟩ => ⟨σ', H', I', f _ _ q⟩
structure EndsLe (D D' : Ends) : Prop where
  nx : ∀ σ H, D.nx σ H → D'.nx σ H
  rt : ∀ v H, D.rt v H → D'.rt v H
  bk : ∀ σ H, D.bk σ H → D'.bk σ H
  ct : ∀ σ H, D.ct σ H → D'.ct σ H
theorem SP.le {pins : List (Addr × Obj)} {D D' : Ends} (l : EndsLe D D') {f : Flow} {s' : Shared} (h : SP X pins D f s') : SP X pins D' f s' := by
  cases f with
  | next => obtain ⟨σ', H', I, q⟩ := h; exact ⟨σ', H', I, l.nx _ _ q⟩
  | brk => obtain ⟨σ', H', I, q⟩ := h; exact ⟨σ', H', I, l.bk _ _ q⟩
  | cont => obtain ⟨σ', H', I, q⟩ := h; exact ⟨σ', H', I, l.ct _ _ q⟩
  | ret u => obtain ⟨v, σ', H', I, r, q⟩ := h; exact ⟨v, σ', H', I, r, l.rt _ _ q⟩
theorem SS.mono {D D' : Ends} (l : EndsLe D D') (h : SS X st D σ H) : SS X st D' σ H := fun pins s I => thn (h pins s I) fun _ _ q => SP.le l q
theorem SB.mono {D D' : Ends} (l : EndsLe D D') (h : SB X sts D σ H) : SB X sts D' σ H := fun pins s I => thn (h pins s I) fun _ _ q => SP.le l q
end

structure Kt where
  nx : Gm → Mu → Prop
  rt : Mu → D → Prop
  bk : Gm → Mu → Prop := fun _ _ => False
  ct : Gm → Mu → Prop := fun _ _ => False
section
variable (K : PySem.W.Frag) (Z : Addr → Prop) (μ : Mu) (H : Hp)
def PostE (Q : Mu → D → Prop) : VK := fun v H' => ∃ μ' d, Go K Z μ H μ' H' ∧ Is K (Av μ' Z) H' v d ∧ Q μ' d
def PostT (Q : Mu → Bool → Prop) : Bool → Hp → Prop := fun b H' => ∃ μ', Go K Z μ H μ' H' ∧ Q μ' b
def PostA (Q : Mu → List D → Prop) : List V → Hp → Prop := fun vs H' => ∃ μ' ds, Go K Z μ H μ' H' ∧ IsA K (Av μ' Z) H' vs ds ∧ Q μ' ds
def PostN (N : Gm → Mu → Prop) : L2.St → Hp → Prop := fun σ' H' => ∃ Γ' μ', Go K Z μ H μ' H' ∧ En K (Av μ' Z) H' σ' Γ' ∧ N Γ' μ'
def toD (k : Kt) : Ends := ⟨PostN K Z μ H k.nx, PostE K Z μ H k.rt, PostN K Z μ H k.bk, PostN K Z μ H k.ct⟩
/-- an iterator's items: ds, as long as G stands -/
def Yields (J : It) (ds : List D) (G : Mu → Prop) : Prop := ∀ (Z' : Addr → Prop) i μ' H', Ok K μ' Z' H' → Fz (Av μ Z) H (Av μ' Z') H' → G μ' →
  (i < ds.length → J.go i H' ∧ ∀ x H2, J.yld i H' x H2 → ∃ d, ds[i]? = some d ∧ Go K Z' μ' H' μ' H2 ∧ Is K (Av μ' Z') H2 x d) ∧ (ds.length ≤ i → J.stop i H')
end
section
variable (X : Cx)
def WE (e : Expr) (Γ : Gm) (μ : Mu) (Q : Mu → D → Prop) : Prop := ∀ Z σ H, En X.K (Av μ Z) H σ Γ → Ok X.K μ Z H → SE X e σ H (PostE X.K Z μ H Q)
def WT (e : Expr) (Γ : Gm) (μ : Mu) (Q : Mu → Bool → Prop) : Prop := ∀ Z σ H, En X.K (Av μ Z) H σ Γ → Ok X.K μ Z H → ST X e σ H (PostT X.K Z μ H Q)
def WW (e : Expr) (Γ : Gm) (μ : Mu) (Q : Mu → Bool → Prop) : Prop := ∀ Z σ H, En X.K (Av μ Z) H σ Γ → Ok X.K μ Z H → SW X e σ H (PostT X.K Z μ H Q)
def WA (es : List Expr) (Γ : Gm) (μ : Mu) (Q : Mu → List D → Prop) : Prop := ∀ Z σ H, En X.K (Av μ Z) H σ Γ → Ok X.K μ Z H → SA X es σ H (PostA X.K Z μ H Q)
def WKw (kws : List Keyword) (Γ : Gm) (μ : Mu) (Q : Mu → List D → Prop) : Prop := ∀ Z σ H, En X.K (Av μ Z) H σ Γ → Ok X.K μ Z H → SKw X kws σ H (PostA X.K Z μ H Q)
def WS (st : Stmt) (Γ : Gm) (μ : Mu) (k : Kt) : Prop := ∀ Z σ H, En X.K (Av μ Z) H σ Γ → Ok X.K μ Z H → SS X st (toD X.K Z μ H k) σ H
def WB (sts : List Stmt) (Γ : Gm) (μ : Mu) (k : Kt) : Prop := ∀ Z σ H, En X.K (Av μ Z) H σ Γ → Ok X.K μ Z H → SB X sts (toD X.K Z μ H k) σ H
/-- a target; vs: the slots that it stores -/
def WG (tg : Expr) (vs : List Nat) (d : D) (Γ : Gm) (μ : Mu) (N : Gm → Mu → Prop) : Prop := ∀ Z σ H v, En X.K (Av μ Z) H σ Γ → Ok X.K μ Z H → Is X.K (Av μ Z) H v d →
  SG X tg v σ H (fun σ' H' => PostN X.K Z μ H N σ' H' ∧ ∀ ws, (∀ i ∈ vs, i ∈ ws) → wipe σ' ws = wipe σ ws)
def WI (tg iter : Expr) (Γ : Gm) (μ : Mu) (R : Mu → List D → (Mu → Prop) → Prop) : Prop := ∀ Z σ H, En X.K (Av μ Z) H σ Γ → Ok X.K μ Z H →
  SI X tg iter σ H (fun J H1 => ∃ μ1 ds G, Go X.K Z μ H μ1 H1 ∧ Yields X.K Z μ1 H1 J ds G ∧ R μ1 ds G)
end
section
variable {K : PySem.W.Frag} {Z : Addr → Prop} {μ μ' : Mu} {H H' : Hp}
theorem PostE.up {Q : Mu → D → Prop} (g : Go K Z μ H μ' H') {v : V} {H2 : Hp} (h : PostE K Z μ' H' Q v H2) : PostE K Z μ H Q v H2 := let ⟨a, b, c, d, e⟩ := h; ⟨a, b, g.trans c, d, e⟩
theorem PostT.up {Q : Mu → Bool → Prop} (g : Go K Z μ H μ' H') {v : Bool} {H2 : Hp} (h : PostT K Z μ' H' Q v H2) : PostT K Z μ H Q v H2 := let ⟨a, c, e⟩ := h; ⟨a, g.trans c, e⟩
theorem PostN.up {N : Gm → Mu → Prop} (g : Go K Z μ H μ' H') {σ : L2.St} {H2 : Hp} (h : PostN K Z μ' H' N σ H2) : PostN K Z μ H N σ H2 := let ⟨a, b, c, d, e⟩ := h; ⟨a, b, g.trans c, d, e⟩
theorem toD.up {k : Kt} (g : Go K Z μ H μ' H') : EndsLe (toD K Z μ' H' k) (toD K Z μ H k) := ⟨fun _ _ h => PostN.up g h, fun _ _ h => PostE.up g h, fun _ _ h => PostN.up g h, fun _ _ h => PostN.up g h⟩
end
section
variable {X : Cx} {Z : Addr → Prop} {Γ : Gm} {μ0 μ : Mu} {H0 H : Hp} {σ : L2.St} {e : Expr}
/-- use of an evaluation within a longer run -/
theorem WE.use {Q : Mu → D → Prop} (h : WE X e Γ μ Q) (g : Go X.K Z μ0 H0 μ H) (en : En X.K (Av μ Z) H σ Γ) {R : VK}
    (k : ∀ v H1 μ1 d, Go X.K Z μ0 H0 μ1 H1 → Go X.K Z μ H μ1 H1 → En X.K (Av μ1 Z) H1 σ Γ → Is X.K (Av μ1 Z) H1 v d → Q μ1 d → R v H1) : SE X e σ H R :=
  (h Z σ H en g.ok).mono fun v H1 ⟨μ1, d, g1, is, q⟩ => k v H1 μ1 d (g.trans g1) g1 (en.mono g1.fz) is q
theorem WT.use {Q : Mu → Bool → Prop} (h : WT X e Γ μ Q) (g : Go X.K Z μ0 H0 μ H) (en : En X.K (Av μ Z) H σ Γ) {R : Bool → Hp → Prop}
    (k : ∀ b H1 μ1, Go X.K Z μ0 H0 μ1 H1 → Go X.K Z μ H μ1 H1 → En X.K (Av μ1 Z) H1 σ Γ → Q μ1 b → R b H1) : ST X e σ H R :=
  (h Z σ H en g.ok).mono fun b H1 ⟨μ1, g1, q⟩ => k b H1 μ1 (g.trans g1) g1 (en.mono g1.fz) q
theorem WW.use {Q : Mu → Bool → Prop} (h : WW X e Γ μ Q) (g : Go X.K Z μ0 H0 μ H) (en : En X.K (Av μ Z) H σ Γ) {R : Bool → Hp → Prop}
    (k : ∀ b H1 μ1, Go X.K Z μ0 H0 μ1 H1 → Go X.K Z μ H μ1 H1 → En X.K (Av μ1 Z) H1 σ Γ → Q μ1 b → R b H1) : SW X e σ H R :=
  (h Z σ H en g.ok).mono fun b H1 ⟨μ1, g1, q⟩ => k b H1 μ1 (g.trans g1) g1 (en.mono g1.fz) q
theorem WA.use {es : List Expr} {Q : Mu → List D → Prop} (h : WA X es Γ μ Q) (g : Go X.K Z μ0 H0 μ H) (en : En X.K (Av μ Z) H σ Γ) {R : List V → Hp → Prop}
    (k : ∀ v H1 μ1 d, Go X.K Z μ0 H0 μ1 H1 → Go X.K Z μ H μ1 H1 → En X.K (Av μ1 Z) H1 σ Γ → IsA X.K (Av μ1 Z) H1 v d → Q μ1 d → R v H1) : SA X es σ H R :=
  (h Z σ H en g.ok).mono fun v H1 ⟨μ1, d, g1, is, q⟩ => k v H1 μ1 d (g.trans g1) g1 (en.mono g1.fz) is q
theorem WKw.use {kws : List Keyword} {Q : Mu → List D → Prop} (h : WKw X kws Γ μ Q) (g : Go X.K Z μ0 H0 μ H) (en : En X.K (Av μ Z) H σ Γ) {R : List V → Hp → Prop}
    (k : ∀ v H1 μ1 d, Go X.K Z μ0 H0 μ1 H1 → Go X.K Z μ H μ1 H1 → En X.K (Av μ1 Z) H1 σ Γ → IsA X.K (Av μ1 Z) H1 v d → Q μ1 d → R v H1) : SKw X kws σ H R :=
  (h Z σ H en g.ok).mono fun v H1 ⟨μ1, d, g1, is, q⟩ => k v H1 μ1 d (g.trans g1) g1 (en.mono g1.fz) is q
theorem WE.mono {Q Q' : Mu → D → Prop} (h : WE X e Γ μ Q) (f : ∀ μ' d, Q μ' d → Q' μ' d) : WE X e Γ μ Q' := fun Z σ H en ok => (h Z σ H en ok).mono fun v H1 ⟨μ1, d, g1, is, q⟩ => ⟨μ1, d, g1, is, f _ _ q⟩
theorem WT.mono {Q Q' : Mu → Bool → Prop} (h : WT X e Γ μ Q) (f : ∀ μ' d, Q μ' d → Q' μ' d) : WT X e Γ μ Q' := fun Z σ H en ok => (h Z σ H en ok).mono fun v H1 ⟨μ1, g1, q⟩ => ⟨μ1, g1, f _ _ q⟩
end

def Two (x y : D) (R : Int → Int → Prop) : Prop := ∃ i j, x = .int i ∧ y = .int j ∧ R i j
def One (x : D) (R : Int → Prop) : Prop := ∃ i, x = .int i ∧ R i
def OneB (x : D) (R : Bool → Prop) : Prop := ∃ c, x = .bl c ∧ R c
def Req (C Q : Prop) : Prop := C ∧ Q
theorem two_i {i j : Int} {R : Int → Int → Prop} (h : R i j) : Two (.int i) (.int j) R := ⟨i, j, rfl, rfl, h⟩
theorem one_i {i : Int} {R : Int → Prop} (h : R i) : One (.int i) R := ⟨i, rfl, h⟩
theorem one_b {i : Bool} {R : Bool → Prop} (h : R i) : OneB (.bl i) R := ⟨i, rfl, h⟩
theorem req {C Q : Prop} (c : C) (q : Q) : Req C Q := ⟨c, q⟩
structure Nm (X : Cx) (x : Str) (i : Nat) : Prop where
  ix : X.N[i]? = some x
  vis : Vis X.env.scope x
  d1 : (x == ("__debug__" : Str)) = false
  d2 : (x == ("__classdict__" : Str)) = false
structure Nw (X : Cx) (x : Str) (i : Nat) : Prop extends Nm X x i where
  nd : X.N.Nodup
  loc : Loc X.env.scope x
  fn : X.fn x = true ∨ X.env.scope.names.lookup x = some .local
/-- slot i becomes d -/
inductive SetTo : Gm → Nat → D → Gm → Prop where
  | z {x : Option D} {r : Gm} {d : D} : SetTo (x :: r) 0 d (some d :: r)
  | s {x : Option D} {r r' : Gm} {i : Nat} {d : D} (h : SetTo r i d r') : SetTo (x :: r) (i + 1) d (x :: r')
def SetQ (Γ : Gm) (i : Nat) (d : D) (R : Gm → Prop) : Prop := ∃ Γ', SetTo Γ i d Γ' ∧ R Γ'
theorem setq {Γ Γ' : Gm} {i : Nat} {d : D} {R : Gm → Prop} (s : SetTo Γ i d Γ') (h : R Γ') : SetQ Γ i d R := ⟨Γ', s, h⟩
theorem SetTo.eq {Γ Γ' : Gm} {i : Nat} {d : D} (h : SetTo Γ i d Γ') : Γ' = Γ.set i (some d) := by
  induction h with
  | z => rfl
  | s _ ih => rw [ih]; rfl
section
variable {X : Cx} {Γ Γ' : Gm} {μ : Mu} {a b c e : Expr} {pos : Pos} {Q : Mu → D → Prop}
theorem we_name {x : Str} {i : Nat} {d : D} (n : Nm X x i) (h : Γ[i]? = some (some d)) (q : Q μ d) : WE X (.Name x pos) Γ μ Q := fun Z σ H en ok => by
  obtain ⟨v, h1, h2⟩ := en.at_ i d h
  exact toS (pe_var n.ix n.vis n.d1 n.d2) ⟨v, h1, μ, d, Go.refl ok, h2, q⟩
theorem we_pure {v : V} {d : D} (p : PE X e (tC v)) (i : ∀ K A H, Is K A H v d) (q : Q μ d) : WE X e Γ μ Q := fun Z σ H en ok => toS p ⟨μ, d, Go.refl ok, i _ _ _, q⟩
theorem we_int {i : Int} {j} (q : Q μ (.int i)) : WE X (.Constant (.int i) j pos) Γ μ Q := we_pure pe_int (fun _ _ _ => .int i) q
theorem we_bl {i : Bool} {j} (q : Q μ (.bl i)) : WE X (.Constant (.bool i) j pos) Γ μ Q := we_pure pe_bl (fun _ _ _ => .bl i) q
theorem we_non {j} (q : Q μ .non) : WE X (.Constant .none j pos) Γ μ Q := we_pure pe_non (fun _ _ _ => .non) q
theorem we_str {i : Str} {j} (q : Q μ (.str i)) : WE X (.Constant (.str i) j pos) Γ μ Q := we_pure pe_str (fun _ _ _ => .str i) q
theorem isInt {K : PySem.W.Frag} {A : Addr → Prop} {H : Hp} {v : V} {i : Int} (h : Is K A H v (.int i)) : v = .int i := by cases h; rfl
theorem isBl {K : PySem.W.Frag} {A : Addr → Prop} {H : Hp} {v : V} {i : Bool} (h : Is K A H v (.bl i)) : v = .bl i := by cases h; rfl
theorem isStr {K : PySem.W.Frag} {A : Addr → Prop} {H : Hp} {v : V} {i : Str} (h : Is K A H v (.str i)) : v = .str i := by cases h; rfl
theorem isNon {K : PySem.W.Frag} {A : Addr → Prop} {H : Hp} {v : V} (h : Is K A H v .non) : v = .non := by cases h; rfl
theorem isRef {K : PySem.W.Frag} {A : Addr → Prop} {H : Hp} {v : V} {a : Addr} (h : Is K A H v (.ref a)) : v = .ref a := by cases h; rfl
theorem we_opI {op : Operator} {C : Int → Int → Prop} {g : Int → Int → Int} (hr : OpR X (binaryOp op) (rI C fun i j => .int (g i j)))
    (h : WE X a Γ μ fun μ1 x => WE X b Γ μ1 fun μ2 y => Two x y fun i j => Req (C i j) (Q μ2 (.int (g i j)))) : WE X (.BinOp a op b pos) Γ μ Q := fun Z σ H en ok => by
  refine toS (pe_op hr pe_S pe_S) ?_
  refine h.use (Go.refl ok) en fun v H1 μ1 d g1 _ en1 i1 q1 => ?_
  refine q1.use g1 en1 fun w H2 μ2 d2 g2 _ en2 i2 q2 => ?_
  obtain ⟨i, j, rfl, rfl, hc, q⟩ := q2
  rw [isInt i1, isInt i2]
  exact ⟨i, j, rfl, rfl, hc, μ2, _, g2, .int _, q⟩
theorem we_opI0 {op : Operator} {g : Int → Int → Int} (hr : OpR X (binaryOp op) (rI0 fun i j => .int (g i j)))
    (h : WE X a Γ μ fun μ1 x => WE X b Γ μ1 fun μ2 y => Two x y fun i j => Q μ2 (.int (g i j))) : WE X (.BinOp a op b pos) Γ μ Q := fun Z σ H en ok => by
  refine toS (pe_op hr pe_S pe_S) ?_
  refine h.use (Go.refl ok) en fun v H1 μ1 d g1 _ en1 i1 q1 => ?_
  refine q1.use g1 en1 fun w H2 μ2 d2 g2 _ en2 i2 q2 => ?_
  obtain ⟨i, j, rfl, rfl, q⟩ := q2
  rw [isInt i1, isInt i2]
  exact ⟨i, j, rfl, rfl, μ2, _, g2, .int _, q⟩
theorem we_add (h : WE X a Γ μ fun μ1 x => WE X b Γ μ1 fun μ2 y => Two x y fun i j => Q μ2 (.int (i + j))) : WE X (.BinOp a .Add b pos) Γ μ Q := we_opI0 op_add h
theorem we_sub (h : WE X a Γ μ fun μ1 x => WE X b Γ μ1 fun μ2 y => Two x y fun i j => Q μ2 (.int (i - j))) : WE X (.BinOp a .Sub b pos) Γ μ Q := we_opI0 op_sub h
/-- a product: one factor within 64 bits, or both together below a million bits -/
def MulOk (i j : Int) : Prop := CMul i j ∨ CMulW i j
theorem MulOk.ok {i j : Int} (h : MulOk i j) : IntMulOk i j := h.elim (·.ok) (·.ok)
theorem MulOk.l {i j : Int} (h1 : -(2 ^ 64) < i) (h2 : i < 2 ^ 64) : MulOk i j := .inl (.inl ⟨h1, h2⟩)
theorem MulOk.r {i j : Int} (h1 : -(2 ^ 64) < j) (h2 : j < 2 ^ 64) : MulOk i j := .inl (.inr ⟨h1, h2⟩)
theorem op_mulX : OpR X (binaryOp .Mult) (rI MulOk fun i j => .int (i * j)) := opI fun _ _ _ _ _ _ _ hc q => mul_int q hc.ok
theorem we_mul (h : WE X a Γ μ fun μ1 x => WE X b Γ μ1 fun μ2 y => Two x y fun i j => Req (MulOk i j) (Q μ2 (.int (i * j)))) : WE X (.BinOp a .Mult b pos) Γ μ Q := we_opI op_mulX h
theorem we_div (h : WE X a Γ μ fun μ1 x => WE X b Γ μ1 fun μ2 y => Two x y fun i j => Req (CDivW i j) (Q μ2 (.int (i / j)))) : WE X (.BinOp a .FloorDiv b pos) Γ μ Q := we_opI op_fdivW h
theorem we_mod (h : WE X a Γ μ fun μ1 x => WE X b Γ μ1 fun μ2 y => Two x y fun i j => Req (0 < j) (Q μ2 (.int (i % j)))) : WE X (.BinOp a .Mod b pos) Γ μ Q := we_opI op_mod h
theorem we_pow (h : WE X a Γ μ fun μ1 x => WE X b Γ μ1 fun μ2 y => Two x y fun i j => Req (CPow i j) (Q μ2 (.int (i ^ j.toNat)))) : WE X (.BinOp a .Pow b pos) Γ μ Q := we_opI op_pow h
theorem we_neg (h : WE X a Γ μ fun μ1 x => One x fun i => Q μ1 (.int (-i))) : WE X (.UnaryOp .USub a pos) Γ μ Q := fun Z σ H en ok => by
  refine toS (pe_un un_neg pe_S) ?_
  refine h.use (Go.refl ok) en fun v H1 μ1 d g1 _ en1 i1 q1 => ?_
  obtain ⟨i, rfl, q⟩ := q1
  rw [isInt i1]
  exact ⟨i, rfl, μ1, _, g1, .int _, q⟩
theorem we_cmpI {op : CmpOp} {p : Int → Int → Bool} (hr : OpR X (compareOp op) (rI0 fun i j => .bl (p i j))) (hm : behindInMarks op b = false)
    (h : WE X a Γ μ fun μ1 x => WE X b Γ μ1 fun μ2 y => Two x y fun i j => Q μ2 (.bl (p i j))) : WE X (.Compare a [op] [b] pos) Γ μ Q := fun Z σ H en ok => by
  refine toS (pe_cmpR hr pe_S pe_S hm) ?_
  refine h.use (Go.refl ok) en fun v H1 μ1 d g1 _ en1 i1 q1 => ?_
  refine q1.use g1 en1 fun w H2 μ2 d2 g2 _ en2 i2 q2 => ?_
  obtain ⟨i, j, rfl, rfl, q⟩ := q2
  rw [isInt i1, isInt i2]
  exact ⟨i, j, rfl, rfl, μ2, _, g2, .bl _, q⟩
theorem wt_cmpI {op : CmpOp} {p : Int → Int → Bool} {Q : Mu → Bool → Prop} (hr : OpR X (compareOp op) (rI0 fun i j => .bl (p i j))) (hm : behindInMarks op b = false)
    (h : WE X a Γ μ fun μ1 x => WE X b Γ μ1 fun μ2 y => Two x y fun i j => Q μ2 (p i j)) : WT X (.Compare a [op] [b] pos) Γ μ Q := fun Z σ H en ok => by
  refine toT (pt_cmpR hr pe_S pe_S hm) ?_
  refine h.use (Go.refl ok) en fun v H1 μ1 d g1 _ en1 i1 q1 => ?_
  refine q1.use g1 en1 fun w H2 μ2 d2 g2 _ en2 i2 q2 => ?_
  obtain ⟨i, j, rfl, rfl, q⟩ := q2
  rw [isInt i1, isInt i2]
  exact ⟨i, j, rfl, rfl, _, rfl, μ2, g2, q⟩
theorem we_lt (h : WE X a Γ μ fun μ1 x => WE X b Γ μ1 fun μ2 y => Two x y fun i j => Q μ2 (.bl (decide (i < j)))) : WE X (.Compare a [.Lt] [b] pos) Γ μ Q := we_cmpI op_lt (nomark _) h
theorem we_le (h : WE X a Γ μ fun μ1 x => WE X b Γ μ1 fun μ2 y => Two x y fun i j => Q μ2 (.bl (decide (i ≤ j)))) : WE X (.Compare a [.LtE] [b] pos) Γ μ Q := we_cmpI op_le (nomark _) h
theorem we_gt (h : WE X a Γ μ fun μ1 x => WE X b Γ μ1 fun μ2 y => Two x y fun i j => Q μ2 (.bl (decide (j < i)))) : WE X (.Compare a [.Gt] [b] pos) Γ μ Q := we_cmpI op_gt (nomark _) h
theorem we_ge (h : WE X a Γ μ fun μ1 x => WE X b Γ μ1 fun μ2 y => Two x y fun i j => Q μ2 (.bl (decide (j ≤ i)))) : WE X (.Compare a [.GtE] [b] pos) Γ μ Q := we_cmpI op_ge (nomark _) h
/-- == of scalars -/
def eqS : D → D → Option Bool
  | .int i, .int j => some (decide (i = j))
  | .bl i, .bl j => some (decide (i = j))
  | .str i, .str j => some (decide (i = j))
  | .non, .non => some true
  | .non, .int _ => some false
  | .int _, .non => some false
  | .non, .bl _ => some false
  | .bl _, .non => some false
  | .non, .str _ => some false
  | .str _, .non => some false
  | .int _, .str _ => some false
  | .str _, .int _ => some false
  | .bl _, .str _ => some false
  | .str _, .bl _ => some false
  | _, _ => none
def EqQ (x y : D) (R : Bool → Prop) : Prop := ∃ c, eqS x y = some c ∧ R c
theorem eq_i {i j : Int} {R : Bool → Prop} (h : R (decide (i = j))) : EqQ (.int i) (.int j) R := ⟨_, rfl, h⟩
theorem eq_b {i j : Bool} {R : Bool → Prop} (h : R (decide (i = j))) : EqQ (.bl i) (.bl j) R := ⟨_, rfl, h⟩
theorem eq_s {i j : Str} {R : Bool → Prop} (h : R (decide (i = j))) : EqQ (.str i) (.str j) R := ⟨_, rfl, h⟩
theorem eqS_ok {K : PySem.W.Frag} {A : Addr → Prop} {H : Hp} {v w : V} {x y : D} {c : Bool} (hv : Is K A H v x) (hw : Is K A H w y) (h : eqS x y = some c) : scal v w = true ∧ decide (v = w) = c := by
  cases hv <;> cases hw <;> simp [eqS] at h <;> subst h <;> simp [scal]
theorem we_eqS (h : WE X a Γ μ fun μ1 x => WE X b Γ μ1 fun μ2 y => EqQ x y fun c => Q μ2 (.bl c)) : WE X (.Compare a [.Eq] [b] pos) Γ μ Q := fun Z σ H en ok => by
  refine toS (pe_cmpR op_eq pe_S pe_S (nomark _)) ?_
  refine h.use (Go.refl ok) en fun v H1 μ1 d g1 _ en1 i1 q1 => ?_
  refine q1.use g1 en1 fun w H2 μ2 d2 g2 g2' en2 i2 q2 => ?_
  obtain ⟨c, hc, q⟩ := q2
  obtain ⟨h1, h2⟩ := eqS_ok (i1.mono g2'.fz) i2 hc
  exact ⟨h1, μ2, _, g2, by rw [h2]; exact .bl _, q⟩
theorem we_neS (h : WE X a Γ μ fun μ1 x => WE X b Γ μ1 fun μ2 y => EqQ x y fun c => Q μ2 (.bl !c)) : WE X (.Compare a [.NotEq] [b] pos) Γ μ Q := fun Z σ H en ok => by
  refine toS (pe_cmpR op_ne pe_S pe_S (nomark _)) ?_
  refine h.use (Go.refl ok) en fun v H1 μ1 d g1 _ en1 i1 q1 => ?_
  refine q1.use g1 en1 fun w H2 μ2 d2 g2 g2' en2 i2 q2 => ?_
  obtain ⟨c, hc, q⟩ := q2
  obtain ⟨h1, h2⟩ := eqS_ok (i1.mono g2'.fz) i2 hc
  exact ⟨h1, μ2, _, g2, by rw [h2]; exact .bl _, q⟩
/-- x is None -/
def isN : D → Bool
  | .non => true
  | _ => false
theorem isN_ok {K : PySem.W.Frag} {A : Addr → Prop} {H : Hp} {v : V} {x : D} (hv : Is K A H v x) : decide (v = .non) = isN x := by cases hv <;> simp [isN]
theorem we_isN {j p2} (h : WE X a Γ μ fun μ1 x => Q μ1 (.bl (isN x))) : WE X (.Compare a [.Is] [.Constant .none j p2] pos) Γ μ Q := fun Z σ H en ok => by
  refine toS (pe_cmp (pc_isN pe_S) (nomark _)) ?_
  refine h.use (Go.refl ok) en fun v H1 μ1 d g1 _ en1 i1 q1 => ?_
  exact ⟨μ1, _, g1, by rw [isN_ok i1]; exact .bl _, q1⟩
theorem we_notN {j p2} (h : WE X a Γ μ fun μ1 x => Q μ1 (.bl (!isN x))) : WE X (.Compare a [.IsNot] [.Constant .none j p2] pos) Γ μ Q := fun Z σ H en ok => by
  refine toS (pe_cmp (pc_notN pe_S) (nomark _)) ?_
  refine h.use (Go.refl ok) en fun v H1 μ1 d g1 _ en1 i1 q1 => ?_
  exact ⟨μ1, _, g1, by rw [isN_ok i1]; exact .bl _, q1⟩
/-- a op b op' c of ints -/
theorem we_chI {op op' : CmpOp} {p p' : Int → Int → Bool} (hr : OpR X (compareOp op) (rI0 fun i j => .bl (p i j))) (hr' : OpR X (compareOp op') (rI0 fun i j => .bl (p' i j))) (hm : lastMarks [op, op'] [b, c] = false)
    (h : WE X a Γ μ fun μ1 x => WE X b Γ μ1 fun μ2 y => Two x y fun i j => (if p i j = true then WE X c Γ μ2 fun μ3 z => One z fun k => Q μ3 (.bl (p' j k)) else Q μ2 (.bl false))) : WE X (.Compare a [op, op'] [b, c] pos) Γ μ Q := fun Z σ H en ok => by
  refine toS (pe_chain hr hr' pe_S pe_S pe_S hm) ?_
  refine h.use (Go.refl ok) en fun v H1 μ1 d g1 _ en1 i1 q1 => ?_
  refine q1.use g1 en1 fun w H2 μ2 d2 g2 _ en2 i2 q2 => ?_
  obtain ⟨i, j, rfl, rfl, q⟩ := q2
  rw [isInt i1, isInt i2]
  refine ⟨i, j, rfl, rfl, p i j, rfl, ?_⟩
  by_cases hc : p i j = true
  · rw [if_pos hc] at q ⊢
    refine q.use g2 en2 fun u H3 μ3 d3 g3 _ en3 i3 q3 => ?_
    obtain ⟨k, rfl, q⟩ := q3
    rw [isInt i3]
    exact ⟨j, k, rfl, rfl, μ3, _, g3, .bl _, q⟩
  · rw [if_neg hc] at q ⊢
    exact ⟨μ2, _, g2, .bl _, q⟩
theorem wt_val {Q : Mu → Bool → Prop} (h : WE X e Γ μ fun μ1 x => OneB x fun c => Q μ1 c) (he : ∀ whole, isTrue e X.env whole = (do let v ← whole; standAt e.pos; holding [v] (truthy v)) := by intro _; rfl) : WT X e Γ μ Q := fun Z σ H en ok => by
  refine toT (pt_val pe_S he) ?_
  refine h.use (Go.refl ok) en fun v H1 μ1 d g1 _ en1 i1 q1 => ?_
  obtain ⟨c, rfl, q⟩ := q1
  rw [isBl i1]
  exact ⟨c, rfl, μ1, g1, q⟩
theorem wt_lt {Q : Mu → Bool → Prop} (h : WE X a Γ μ fun μ1 x => WE X b Γ μ1 fun μ2 y => Two x y fun i j => Q μ2 (decide (i < j))) : WT X (.Compare a [.Lt] [b] pos) Γ μ Q := wt_cmpI op_lt (nomark _) h
theorem wt_le {Q : Mu → Bool → Prop} (h : WE X a Γ μ fun μ1 x => WE X b Γ μ1 fun μ2 y => Two x y fun i j => Q μ2 (decide (i ≤ j))) : WT X (.Compare a [.LtE] [b] pos) Γ μ Q := wt_cmpI op_le (nomark _) h
theorem wt_gt {Q : Mu → Bool → Prop} (h : WE X a Γ μ fun μ1 x => WE X b Γ μ1 fun μ2 y => Two x y fun i j => Q μ2 (decide (j < i))) : WT X (.Compare a [.Gt] [b] pos) Γ μ Q := wt_cmpI op_gt (nomark _) h
theorem wt_ge {Q : Mu → Bool → Prop} (h : WE X a Γ μ fun μ1 x => WE X b Γ μ1 fun μ2 y => Two x y fun i j => Q μ2 (decide (j ≤ i))) : WT X (.Compare a [.GtE] [b] pos) Γ μ Q := wt_cmpI op_ge (nomark _) h
theorem wt_eqS {Q : Mu → Bool → Prop} (h : WE X a Γ μ fun μ1 x => WE X b Γ μ1 fun μ2 y => EqQ x y fun c => Q μ2 c) : WT X (.Compare a [.Eq] [b] pos) Γ μ Q := fun Z σ H en ok => by
  refine toT (pt_cmpR op_eq pe_S pe_S (nomark _)) ?_
  refine h.use (Go.refl ok) en fun v H1 μ1 d g1 _ en1 i1 q1 => ?_
  refine q1.use g1 en1 fun w H2 μ2 d2 g2 g2' en2 i2 q2 => ?_
  obtain ⟨c, hc, q⟩ := q2
  obtain ⟨h1, h2⟩ := eqS_ok (i1.mono g2'.fz) i2 hc
  exact ⟨h1, _, rfl, μ2, g2, by rw [h2]; exact q⟩
theorem wt_neS {Q : Mu → Bool → Prop} (h : WE X a Γ μ fun μ1 x => WE X b Γ μ1 fun μ2 y => EqQ x y fun c => Q μ2 !c) : WT X (.Compare a [.NotEq] [b] pos) Γ μ Q := fun Z σ H en ok => by
  refine toT (pt_cmpR op_ne pe_S pe_S (nomark _)) ?_
  refine h.use (Go.refl ok) en fun v H1 μ1 d g1 _ en1 i1 q1 => ?_
  refine q1.use g1 en1 fun w H2 μ2 d2 g2 g2' en2 i2 q2 => ?_
  obtain ⟨c, hc, q⟩ := q2
  obtain ⟨h1, h2⟩ := eqS_ok (i1.mono g2'.fz) i2 hc
  exact ⟨h1, _, rfl, μ2, g2, by rw [h2]; exact q⟩
theorem wt_isN {j p2} {Q : Mu → Bool → Prop} (h : WE X a Γ μ fun μ1 x => Q μ1 (isN x)) : WT X (.Compare a [.Is] [.Constant .none j p2] pos) Γ μ Q := fun Z σ H en ok => by
  refine toT (pt_cmp (pc_isN pe_S) (nomark _)) ?_
  refine h.use (Go.refl ok) en fun v H1 μ1 d g1 _ en1 i1 q1 => ?_
  exact ⟨_, rfl, μ1, g1, by rw [isN_ok i1]; exact q1⟩
theorem wt_notN {j p2} {Q : Mu → Bool → Prop} (h : WE X a Γ μ fun μ1 x => Q μ1 (!isN x)) : WT X (.Compare a [.IsNot] [.Constant .none j p2] pos) Γ μ Q := fun Z σ H en ok => by
  refine toT (pt_cmp (pc_notN pe_S) (nomark _)) ?_
  refine h.use (Go.refl ok) en fun v H1 μ1 d g1 _ en1 i1 q1 => ?_
  exact ⟨_, rfl, μ1, g1, by rw [isN_ok i1]; exact q1⟩
theorem wt_chI {op op' : CmpOp} {p p' : Int → Int → Bool} {Q : Mu → Bool → Prop} (hr : OpR X (compareOp op) (rI0 fun i j => .bl (p i j))) (hr' : OpR X (compareOp op') (rI0 fun i j => .bl (p' i j))) (hm : lastMarks [op, op'] [b, c] = false)
    (h : WE X a Γ μ fun μ1 x => WE X b Γ μ1 fun μ2 y => Two x y fun i j => (if p i j = true then WE X c Γ μ2 fun μ3 z => One z fun k => Q μ3 (p' j k) else Q μ2 false)) : WT X (.Compare a [op, op'] [b, c] pos) Γ μ Q := fun Z σ H en ok => by
  refine toT (pt_chain hr hr' pe_S pe_S pe_S hm) ?_
  refine h.use (Go.refl ok) en fun v H1 μ1 d g1 _ en1 i1 q1 => ?_
  refine q1.use g1 en1 fun w H2 μ2 d2 g2 _ en2 i2 q2 => ?_
  obtain ⟨i, j, rfl, rfl, q⟩ := q2
  rw [isInt i1, isInt i2]
  refine ⟨i, j, rfl, rfl, p i j, rfl, ?_⟩
  by_cases hc : p i j = true
  · rw [if_pos hc] at q ⊢
    refine q.use g2 en2 fun u H3 μ3 d3 g3 _ en3 i3 q3 => ?_
    obtain ⟨k, rfl, q⟩ := q3
    rw [isInt i3]
    exact ⟨j, k, rfl, rfl, _, rfl, μ3, g3, q⟩
  · rw [if_neg hc] at q ⊢
    exact ⟨_, rfl, μ2, g2, q⟩
variable {rest : List Expr}
theorem wt_W {Q : Mu → Bool → Prop} (h : WW X e Γ μ Q) : WT X e Γ μ Q := fun Z σ H en ok => toT pw_S.pt (h Z σ H en ok)
theorem ww_and1 {Q : Mu → Bool → Prop} (h : WT X a Γ μ Q) : WW X (.BoolOp .And [a] pos) Γ μ Q := fun Z σ H en ok => toW (pw_and1 pt_S) (h Z σ H en ok)
theorem ww_or1 {Q : Mu → Bool → Prop} (h : WT X a Γ μ Q) : WW X (.BoolOp .Or [a] pos) Γ μ Q := fun Z σ H en ok => toW (pw_or1 pt_S) (h Z σ H en ok)
theorem ww_and {Q : Mu → Bool → Prop} (h : WT X a Γ μ fun μ1 k => if k = true then WW X (.BoolOp .And (b :: rest) pos) Γ μ1 Q else Q μ1 false) : WW X (.BoolOp .And (a :: b :: rest) pos) Γ μ Q := fun Z σ H en ok => by
  refine toW (pw_and pt_S pw_S) ?_
  refine h.use (Go.refl ok) en fun k H1 μ1 g1 _ en1 q1 => ?_
  cases k with
  | true => exact q1.use g1 en1 fun k2 H2 μ2 g2 _ en2 q2 => ⟨μ2, g2, q2⟩
  | false => exact ⟨μ1, g1, q1⟩
theorem ww_or {Q : Mu → Bool → Prop} (h : WT X a Γ μ fun μ1 k => if k = true then Q μ1 true else WW X (.BoolOp .Or (b :: rest) pos) Γ μ1 Q) : WW X (.BoolOp .Or (a :: b :: rest) pos) Γ μ Q := fun Z σ H en ok => by
  refine toW (pw_or pt_S pw_S) ?_
  refine h.use (Go.refl ok) en fun k H1 μ1 g1 _ en1 q1 => ?_
  cases k with
  | false => exact q1.use g1 en1 fun k2 H2 μ2 g2 _ en2 q2 => ⟨μ2, g2, q2⟩
  | true => exact ⟨μ1, g1, q1⟩
theorem wt_not {Q : Mu → Bool → Prop} (h : WT X a Γ μ fun μ1 k => Q μ1 (!k)) : WT X (.UnaryOp .Not a pos) Γ μ Q := fun Z σ H en ok => by
  refine toT (pt_not pt_S) ?_
  exact h.use (Go.refl ok) en fun k H1 μ1 g1 _ en1 q1 => ⟨μ1, g1, q1⟩
theorem we_one {op} (h : WE X a Γ μ Q) : WE X (.BoolOp op [a] pos) Γ μ Q := fun Z σ H en ok => toS (pe_one pe_S) (h Z σ H en ok)
theorem we_and (h : WE X a Γ μ fun μ1 x => OneB x fun k => if k = true then WE X (.BoolOp .And (b :: rest) pos) Γ μ1 Q else Q μ1 (.bl false)) : WE X (.BoolOp .And (a :: b :: rest) pos) Γ μ Q := fun Z σ H en ok => by
  refine toS (pe_and pe_S pe_S) ?_
  refine h.use (Go.refl ok) en fun v H1 μ1 d g1 _ en1 i1 q1 => ?_
  obtain ⟨k, rfl, q⟩ := q1
  rw [isBl i1]
  refine ⟨k, rfl, ?_⟩
  cases k with
  | true => exact q.use g1 en1 fun w H2 μ2 d2 g2 _ en2 i2 q2 => ⟨μ2, d2, g2, i2, q2⟩
  | false => exact ⟨μ1, _, g1, .bl _, q⟩
theorem we_or (h : WE X a Γ μ fun μ1 x => OneB x fun k => if k = true then Q μ1 (.bl true) else WE X (.BoolOp .Or (b :: rest) pos) Γ μ1 Q) : WE X (.BoolOp .Or (a :: b :: rest) pos) Γ μ Q := fun Z σ H en ok => by
  refine toS (pe_or pe_S pe_S) ?_
  refine h.use (Go.refl ok) en fun v H1 μ1 d g1 _ en1 i1 q1 => ?_
  obtain ⟨k, rfl, q⟩ := q1
  rw [isBl i1]
  refine ⟨k, rfl, ?_⟩
  cases k with
  | false => exact q.use g1 en1 fun w H2 μ2 d2 g2 _ en2 i2 q2 => ⟨μ2, d2, g2, i2, q2⟩
  | true => exact ⟨μ1, _, g1, .bl _, q⟩
theorem we_not (h : WE X a Γ μ fun μ1 x => OneB x fun k => Q μ1 (.bl (!k))) : WE X (.UnaryOp .Not a pos) Γ μ Q := fun Z σ H en ok => by
  refine toS (pe_not pe_S) ?_
  refine h.use (Go.refl ok) en fun v H1 μ1 d g1 _ en1 i1 q1 => ?_
  obtain ⟨k, rfl, q⟩ := q1
  rw [isBl i1]
  exact ⟨k, rfl, μ1, _, g1, .bl _, q⟩
theorem we_ifE (h : WT X c Γ μ fun μ1 k => if k = true then WE X a Γ μ1 Q else WE X b Γ μ1 Q) : WE X (.IfExp c a b pos) Γ μ Q := fun Z σ H en ok => by
  refine toS (pe_ifExp pt_S pe_S pe_S) ?_
  refine h.use (Go.refl ok) en fun k H1 μ1 g1 _ en1 q1 => ?_
  cases k with
  | true => exact q1.use g1 en1 fun w H2 μ2 d2 g2 _ en2 i2 q2 => ⟨μ2, d2, g2, i2, q2⟩
  | false => exact q1.use g1 en1 fun w H2 μ2 d2 g2 _ en2 i2 q2 => ⟨μ2, d2, g2, i2, q2⟩
end
end DL

set_option Elab.async false
set_option linter.all false
set_option maxRecDepth 100000
set_option maxHeartbeats 2000000
namespace DL
open PySem PySem.Spec PyProof.Rows L2

section
variable {X : Cx} {Γ Γ' : Gm} {μ : Mu} {a b c e o : Expr} {es : List Expr} {pos p0 : Pos} {Q : Mu → D → Prop}
theorem wa_nil {Q : Mu → List D → Prop} (q : Q μ []) : WA X [] Γ μ Q := fun Z σ H en ok => toA pa_nil ⟨μ, [], Go.refl ok, .nil, q⟩
theorem wa_cons {Q : Mu → List D → Prop} (h : WE X e Γ μ fun μ1 x => WA X es Γ μ1 fun μ2 xs => Q μ2 (x :: xs)) (hs : starEach (e :: es) X.env = (false, eval e X.env) :: starEach es X.env := by rfl) : WA X (e :: es) Γ μ Q := fun Z σ H en ok => by
  refine toA (pa_cons pe_S pa_S hs) ?_
  refine h.use (Go.refl ok) en fun v H1 μ1 d g1 _ en1 i1 q1 => ?_
  refine q1.use g1 en1 fun vs H2 μ2 ds g2 g2' en2 i2 q2 => ⟨μ2, _, g2, .cons (i1.mono g2'.fz) i2, q2⟩
theorem wk_nil {Q : Mu → List D → Prop} (q : Q μ []) : WKw X [] Γ μ Q := fun Z σ H en ok => toK pk_nil ⟨μ, [], Go.refl ok, .nil, q⟩
theorem wk_cons {kws : List Keyword} {nm : Option Str} {kpos : Pos} {Q : Mu → List D → Prop} (h : WE X e Γ μ fun μ1 x => WKw X kws Γ μ1 fun μ2 xs => Q μ2 (x :: xs)) : WKw X (⟨nm, e, kpos⟩ :: kws) Γ μ Q := fun Z σ H en ok => by
  refine toK (pk_cons pe_S pk_S) ?_
  refine h.use (Go.refl ok) en fun v H1 μ1 d g1 _ en1 i1 q1 => ?_
  refine q1.use g1 en1 fun vs H2 μ2 ds g2 g2' en2 i2 q2 => ⟨μ2, _, g2, .cons (i1.mono g2'.fz) i2, q2⟩
section
variable {K : PySem.W.Frag} {Z : Addr → Prop} {H : Hp}
theorem Is.newL (ok : Ok K μ Z H) {p : Addr} (hp : H p = none) {vs : List V} {ds : List D} (i : IsA K (Av μ Z) H vs ds) : Is K (Av μ Z) (upd H p (.lst vs)) (.ref p) (.lst ds) :=
  .lst (.inl ⟨ok.notAv hp, .inl upd_same⟩) (i.mono (Go.frz ok hp _).fz)
theorem Is.newT (ok : Ok K μ Z H) {p : Addr} (hp : H p = none) {vs : List V} {ds : List D} (i : IsA K (Av μ Z) H vs ds) : Is K (Av μ Z) (upd H p (.tup vs)) (.ref p) (.tup ds) :=
  .tup (.inl ⟨ok.notAv hp, .inl upd_same⟩) (i.mono (Go.frz ok hp _).fz)
end
/-- a list that stays as it is | one that may be changed -/
theorem we_lst (h : WA X es Γ μ fun μ1 ds => Req (ds.length ≤ sizeLine) <| Q μ1 (.lst ds)) : WE X (.List es pos) Γ μ Q := fun Z σ H en ok => by
  refine toS (pe_lst pa_S) ?_
  refine h.use (Go.refl ok) en fun vs H1 μ1 ds g1 _ en1 i1 q1 => ?_
  refine ⟨by rw [i1.length]; exact q1.1, fun p hp => ⟨μ1, _, g1.trans (Go.frz g1.ok hp _), Is.newL g1.ok hp i1, q1.2⟩⟩
theorem we_lstM (h : WA X es Γ μ fun μ1 ds => Req (ds.length ≤ sizeLine) <| ∀ p, μ1 p = none → Q (updM μ1 p (.lst ds)) (.ref p)) : WE X (.List es pos) Γ μ Q := fun Z σ H en ok => by
  refine toS (pe_lst pa_S) ?_
  refine h.use (Go.refl ok) en fun vs H1 μ1 ds g1 _ en1 i1 q1 => ?_
  refine ⟨by rw [i1.length]; exact q1.1, fun p hp => ⟨_, _, g1.trans (Go.put g1.ok (.lst ds) _ (.inl hp) fun m => ⟨vs, upd_same, m i1⟩), .ref p, q1.2 p (g1.ok.fresh hp).1⟩⟩
theorem we_tup {x1} (h : WA X es Γ μ fun μ1 ds => Req (ds.length ≤ sizeLine) <| Q μ1 (.tup ds)) : WE X (.Tuple es x1 pos) Γ μ Q := fun Z σ H en ok => by
  refine toS (pe_tup pa_S) ?_
  refine h.use (Go.refl ok) en fun vs H1 μ1 ds g1 _ en1 i1 q1 => ?_
  refine ⟨by rw [i1.length]; exact q1.1, fun p hp => ⟨μ1, _, g1.trans (Go.frz g1.ok hp _), Is.newT g1.ok hp i1, q1.2⟩⟩
/-- a list or tuple to be read -/
def Seq (μ : Mu) (x : D) (ds : List D) : Prop := x = .lst ds ∨ x = .tup ds ∨ ∃ p, x = .ref p ∧ μ p = some (.lst ds)
theorem Seq.l {ds : List D} : Seq μ (.lst ds) ds := .inl rfl
theorem Seq.t {ds : List D} : Seq μ (.tup ds) ds := .inr (.inl rfl)
theorem Seq.m {ds : List D} {p : Addr} (h : μ p = some (.lst ds)) : Seq μ (.ref p) ds := .inr (.inr ⟨p, rfl, h⟩)
section
variable {K : PySem.W.Frag} {Z : Addr → Prop} {H : Hp} {v : V} {x : D} {ds : List D}
theorem Seq.at (s : Seq μ x ds) (ok : Ok K μ Z H) (h : Is K (Av μ Z) H v x) : ∃ p vs, v = .ref p ∧ (SqL K H p vs ∨ SqT K H p vs) ∧ IsA K (Av μ Z) H vs ds := by
  rcases s with rfl | rfl | ⟨p, rfl, e⟩
  · cases h with
    | lst h t => exact ⟨_, _, rfl, .inl h.sq, t⟩
  · cases h with
    | tup h t => exact ⟨_, _, rfl, .inr h.sq, t⟩
  · cases isRef h
    obtain ⟨vs, e1, t⟩ := ok.at_ p _ e
    exact ⟨p, vs, rfl, .inl (.of e1), t⟩
theorem atI_is {A : Addr → Prop} {vs : List V} {i : Int} {d : D} (t : IsA K A H vs ds) (h : atI ds i = some d) : ∃ v, atI vs i = some v ∧ Is K A H v d := by
  unfold atI at h ⊢
  rw [t.length]
  cases e : ixN ds.length i with
  | none => rw [e] at h; cases h
  | some j =>
    rw [e] at h
    exact t.get h
end
def SeqQ (μ : Mu) (x : D) (R : List D → Prop) : Prop := ∃ ds, Seq μ x ds ∧ R ds
def IxQ (μ : Mu) (x y : D) (R : D → Prop) : Prop := ∃ ds i d, Seq μ x ds ∧ y = .int i ∧ atI ds i = some d ∧ R d
theorem seq_l {ds : List D} {R : List D → Prop} (h : R ds) : SeqQ μ (.lst ds) R := ⟨ds, .l, h⟩
theorem seq_t {ds : List D} {R : List D → Prop} (h : R ds) : SeqQ μ (.tup ds) R := ⟨ds, .t, h⟩
theorem seq_m {p : Addr} {ds : List D} {R : List D → Prop} (e : μ p = some (.lst ds)) (h : R ds) : SeqQ μ (.ref p) R := ⟨ds, .m e, h⟩
theorem ix_l {ds : List D} {i : Int} {d : D} {R : D → Prop} (e : atI ds i = some d) (h : R d) : IxQ μ (.lst ds) (.int i) R := ⟨ds, i, d, .l, rfl, e, h⟩
theorem ix_t {ds : List D} {i : Int} {d : D} {R : D → Prop} (e : atI ds i = some d) (h : R d) : IxQ μ (.tup ds) (.int i) R := ⟨ds, i, d, .t, rfl, e, h⟩
theorem ix_m {p : Addr} {ds : List D} {i : Int} {d : D} {R : D → Prop} (m : μ p = some (.lst ds)) (e : atI ds i = some d) (h : R d) : IxQ μ (.ref p) (.int i) R := ⟨ds, i, d, .m m, rfl, e, h⟩
theorem we_ix (h : WE X a Γ μ fun μ1 x => WE X b Γ μ1 fun μ2 y => IxQ μ2 x y fun d => Q μ2 d) (hp : PlainIx b := by intro _ _; rfl) : WE X (.Subscript a b pos) Γ μ Q := fun Z σ H en ok => by
  refine toS (pe_ix (IxR.or ix_list ix_tup) pe_S pe_S hp) ?_
  refine h.use (Go.refl ok) en fun v H1 μ1 d g1 _ en1 i1 q1 => ?_
  refine q1.use g1 en1 fun w H2 μ2 d2 g2 g2' en2 i2 q2 => ?_
  obtain ⟨ds, i, d, sq, rfl, ha, q⟩ := q2
  obtain ⟨p, vs, rfl, s, t⟩ := sq.at g2.ok (i1.mono g2'.fz)
  obtain ⟨u, hu, iu⟩ := atI_is t ha
  rw [isInt i2]
  rcases s with s | s
  · exact .inl ⟨p, vs, i, u, rfl, rfl, s, hu, μ2, d, g2, iu, q⟩
  · exact .inr ⟨p, vs, i, u, rfl, rfl, s, hu, μ2, d, g2, iu, q⟩
theorem atI_n {α : Type} {xs : List α} {i : Int} {v : α} (h0 : 0 ≤ i) (h : xs[i.toNat]? = some v) : atI xs i = some v := by
  have e : i = (i.toNat : Int) := by omega
  rw [e]
  exact atI_nat h
/-- what leaves a def by an exception: its class, its attributes -/
structure Xd where
  cls : Value
  fld : List (Str × D)
abbrev Spc := List D → Mu → (Mu → D → Prop) → (Mu → Xd → Prop) → Prop
/-- an exception's own dict -/
def XdIs (K : PySem.W.Frag) (A : Addr → Prop) (H : Hp) (od : Option Addr) (x : Xd) : Prop := match od with
  | none => x.fld = []
  | some a => ¬ A a ∧ ∃ fs, H a = some (.xd fs) ∧ fs.map (·.1) = x.fld.map (·.1) ∧ IsA K A H (fs.map (·.2)) (x.fld.map (·.2))
def lift (K : PySem.W.Frag) (s : Spc) : Sp := fun vs H Q E => ∃ ds μ Z, IsA K (Av μ Z) H vs ds ∧ Ok K μ Z H ∧
  s ds μ (fun μ' d => ∀ v H', Go K Z μ H μ' H' → Is K (Av μ' Z) H' v d → Q v H') (fun μ' x => ∀ od H', Go K Z μ H μ' H' → XdIs K (Av μ' Z) H' od x → E x.cls od H')
/-- a def that lets nothing out, by its name -/
def Spc.Mono (s : Spc) : Prop := ∀ ds μ Q E Q' E', (∀ μ' d, Q μ' d → Q' μ' d) → (∀ μ' x, E μ' x → E' μ' x) → s ds μ Q E → s ds μ Q' E'
structure Cl (X : Cx) (x : Str) (s : Spc) : Prop where
  mono : s.Mono
  ex : ∃ k f fd ps, FnOk X.prog X.w X.K X.mg X.base CX0 k f fd ps (lift X.K s) ∧ Room k X.A ∧ X.mg x = some (.ref f) ∧ PySem.W.keepIn X.K (.ref f) = true ∧ Binds X.K fd ps []
  gl : Gl X x
  db : (x == ("__debug__" : Str)) = false
theorem lift_of {K : PySem.W.Frag} {s : Spc} {Z : Addr → Prop} {μ0 : Mu} {H0 H : Hp} {vs : List V} {ds : List D} {E : XK} (m : s.Mono) (g : Go K Z μ0 H0 μ H) (i : IsA K (Av μ Z) H vs ds) (h : s ds μ Q fun _ _ => False) : lift K s vs H (PostE K Z μ0 H0 Q) E := by
  refine ⟨ds, μ, Z, i, g.ok, m _ _ _ _ _ _ (fun μ' d q => ?_) (fun μ' x z => z.elim) h⟩
  exact fun v H' g' is => ⟨μ', d, g.trans g', is, q⟩
theorem we_call {x : Str} {s : Spc} (C : Cl X x s) (h : WA X (e :: es) Γ μ fun μ1 ds => s ds μ1 Q fun _ _ => False)
    (he : starEach (e :: es) X.env = (false, eval e X.env) :: starEach es X.env := by rfl) (hpl : (backTo pos (starEach es X.env)).any (·.1) = false := by rfl) : WE X (.Call (.Name x p0) (e :: es) [] pos) Γ μ Q := fun Z σ H en ok => by
  obtain ⟨k, f, fd, ps, F, hr, hm, hk, hb⟩ := C.ex
  refine toS (pe_call F hr C.gl hm hk hb .nil (pass0 (X := X)) pa_S C.db he hpl) ?_
  refine h.use (Go.refl ok) en fun vs H1 μ1 ds g1 _ en1 i1 q1 => ?_
  rw [List.append_nil]
  exact lift_of C.mono g1 i1 q1
/-- .. with n values ahead and keywords ks; g brings all into the parameters' order -/
structure ClK (X : Cx) (x : Str) (n : Nat) (ks : List Str) (g : {α : Type} → List α → List α → List α) (s : Spc) : Prop where
  mono : s.Mono
  ex : ∃ k f fd ps, FnOk X.prog X.w X.K X.mg X.base CX0 k f fd ps (lift X.K s) ∧ Room k X.A ∧ X.mg x = some (.ref f) ∧ PySem.W.keepIn X.K (.ref f) = true ∧ KBn X.K fd ps n ks (fun us ws => g us ws) (fun us ws => g us ws)
  gl : Gl X x
  db : (x == ("__debug__" : Str)) = false
  rel : ∀ {K : PySem.W.Frag} {A : Addr → Prop} {H : Hp} {vs zs : List V} {ds es : List D}, vs.length = n → zs.length = ks.length → IsA K A H vs ds → IsA K A H zs es → IsA K A H (g vs zs) (g ds es)
theorem we_callK {x : Str} {s : Spc} {g : {α : Type} → List α → List α → List α} {kws : List Keyword} (C : ClK X x (e :: es).length (kws.filterMap (·.arg)) g s)
    (h : WA X (e :: es) Γ μ fun μ1 ds => WKw X kws Γ μ1 fun μ2 zs => Req (ds.length = (e :: es).length) <| Req (zs.length = (kws.filterMap (·.arg)).length) <| s (g ds zs) μ2 Q fun _ _ => False)
    (hall : (backToKw pos (keywordEach kws X.env)).all (·.1.isSome) = true := by rfl) (hks : (backToKw pos (keywordEach kws X.env)).filterMap (·.1) = kws.filterMap (·.arg) := by rfl)
    (he : starEach (e :: es) X.env = (false, eval e X.env) :: starEach es X.env := by rfl)
    (hpl : ((backTo pos (starEach (e :: es) X.env)).any (·.1) || (backToKw pos (keywordEach kws X.env)).any (·.1.isNone)) = false := by rfl) : WE X (.Call (.Name x p0) (e :: es) kws pos) Γ μ Q := fun Z σ H en ok => by
  obtain ⟨k, f, fd, ps, F, hr, hm, hk, hb⟩ := C.ex
  refine toS (pe_callN F hr C.gl hm hk hb (pass0 (X := X)) pa_S pk_S hall hks C.db he hpl) ?_
  refine h.use (Go.refl ok) en fun vs H1 μ1 ds g1 _ en1 i1 q1 => ?_
  refine q1.use g1 en1 fun zs H2 μ2 ds2 g2 g2' en2 i2 q2 => ?_
  have l1 : vs.length = (e :: es).length := i1.length.trans q2.1
  have l2 : zs.length = (kws.filterMap (·.arg)).length := i2.length.trans q2.2.1
  exact ⟨l1, l2, lift_of C.mono g2 (C.rel l1 l2 (i1.mono g2'.fz) i2) q2.2.2⟩
/-- f(k = v, ..), keywords alone -/
theorem pe_callN0 {X : Cx} {CX : CXT} {k : Nat} {f : Addr} {fd : FuncData} {ps ks : List Str} {sp : Sp} {E : XK} {x : Str} {p pos : Pos} {kws : List Keyword} {tk : TA} {g : List Value → List Value → List Value} {gV : List V → List V → List V}
    (F : FnOk X.prog X.w X.K X.mg X.base CX k f fd ps sp) (hr : Room k X.A) (hg : Gl X x) (hm : X.mg x = some (.ref f)) (hk : PySem.W.keepIn X.K (.ref f) = true) (hb : KBn X.K fd ps 0 ks g gV) (hx : Passes CX X E)
    (hkw : PK X kws tk) (hall : (backToKw pos (keywordEach kws X.env)).all (·.1.isSome) = true) (hks : (backToKw pos (keywordEach kws X.env)).filterMap (·.1) = ks)
    (hdb : (x == ("__debug__" : Str)) = false)
    (hpl : ((backTo pos (starEach [] X.env)).any (·.1) || (backToKw pos (keywordEach kws X.env)).any (·.1.isNone)) = false) :
    PE X (.Call (.Name x p) [] kws pos) (tCallN 0 ks.length sp gV E tNil tk) := by
  refine ⟨fun pins s σ H Q I h => ?_⟩
  refine wpAny_Call_Name_kw (ld_glob I hg hm ?_ hdb)
  refine PySem.W.callWith_KW0 (h₀ := X.base) (first := []) I.ok.mod.kin hk hall (thn (hkw.run pos pins s σ H _ I h) fun ws s2 ⟨zs, H2, I2, rz, l1, l2, q2⟩ => ⟨I2.kIn, ?_⟩) hpl
  rw [hks]
  exact run_fnN (us := []) (vs := []) F hr hb hx I2 .nil rz rfl l2 q2
theorem we_callK0 {x : Str} {s : Spc} {g : {α : Type} → List α → List α → List α} {kws : List Keyword} (C : ClK X x 0 (kws.filterMap (·.arg)) g s)
    (h : WKw X kws Γ μ fun μ2 zs => Req (zs.length = (kws.filterMap (·.arg)).length) <| s (g [] zs) μ2 Q fun _ _ => False)
    (hall : (backToKw pos (keywordEach kws X.env)).all (·.1.isSome) = true := by rfl) (hks : (backToKw pos (keywordEach kws X.env)).filterMap (·.1) = kws.filterMap (·.arg) := by rfl)
    (hpl : ((backTo pos (starEach [] X.env)).any (·.1) || (backToKw pos (keywordEach kws X.env)).any (·.1.isNone)) = false := by rfl) : WE X (.Call (.Name x p0) [] kws pos) Γ μ Q := fun Z σ H en ok => by
  obtain ⟨k, f, fd, ps, F, hr, hm, hk, hb⟩ := C.ex
  refine toS (pe_callN0 F hr C.gl hm hk hb (pass0 (X := X)) pk_S hall hks C.db hpl) ?_
  refine h.use (Go.refl ok) en fun zs H2 μ2 es g2 g2' en2 i2 q2 => ?_
  have l2 : zs.length = (kws.filterMap (·.arg)).length := i2.length.trans q2.1
  exact ⟨rfl, l2, lift_of C.mono g2 (C.rel (vs := []) (ds := []) rfl l2 .nil i2) q2.2⟩
structure Bl (X : Cx) (x : Str) : Prop where
  gl : Gl X x
  mg : X.mg x = none
/-- len of a list or tuple -/
theorem we_len (B : Bl X "len") (h : WE X e Γ μ fun μ1 x => SeqQ μ1 x fun ds => Q μ1 (.int (ds.length : Int)))
    (he : starEach [e] X.env = (false, eval e X.env) :: starEach [] X.env := by rfl) (hpl : (backTo pos (starEach [] X.env)).any (·.1) = false := by rfl) : WE X (.Call (.Name "len" p0) [e] [] pos) Γ μ Q := fun Z σ H en ok => by
  refine toS (pe_callB call_len_seq B.gl B.mg PySem.boot_len (pa_cons pe_S pa_nil he) (by decide) (by decide) he hpl) ?_
  refine h.use (Go.refl ok) en fun v H1 μ1 d g1 _ en1 i1 q1 => ?_
  obtain ⟨ds, sq, q⟩ := q1
  obtain ⟨p, vs, rfl, s, t⟩ := sq.at g1.ok i1
  exact ⟨p, vs, rfl, s, μ1, _, g1, by rw [t.length]; exact .int _, q⟩
/-- isinstance(x, T), T a built-in type, x a scalar -/
def kindD : D → Option String
  | .non => some "NoneType"
  | .bl _ => some "bool"
  | .int _ => some "int"
  | .str _ => some "str"
  | .lst _ => some "list"
  | .tup _ => some "tuple"
  | _ => none
theorem kindD_ok {K : PySem.W.Frag} {A : Addr → Prop} {H : Hp} {v : V} {x : D} {s : String} (h : Is K A H v x) (e : kindD x = some s) : TyX K H v (.type s) := by
  cases h with
  | non => cases e; exact .base .non
  | bl b => cases e; exact .base (.bl b)
  | int i => cases e; exact .base (.int i)
  | str x => cases e; exact .base (.str x)
  | lst h t =>
    cases e
    rcases h with ⟨_, h | ⟨o, h⟩⟩ | ⟨o, its, n, h1, h2, _⟩
    · exact .base (.lst h)
    · exact .base (.frz h)
    · exact .kList h1 h2
  | tup h t =>
    cases e
    rcases h with ⟨_, h | ⟨o, h⟩⟩ | ⟨o, its, n, h1, h2, _⟩
    · exact .base (.tup h)
    · exact .fTuple h
    · exact .kTuple h1 h2
  | _ => cases e
theorem kit_NoneType_int : kitB "NoneType" "int" = some false := by decide +kernel
theorem kit_NoneType_bool : kitB "NoneType" "bool" = some false := by decide +kernel
theorem kit_NoneType_str : kitB "NoneType" "str" = some false := by decide +kernel
theorem kit_NoneType_list : kitB "NoneType" "list" = some false := by decide +kernel
theorem kit_NoneType_tuple : kitB "NoneType" "tuple" = some false := by decide +kernel
theorem kit_bool_int : kitB "bool" "int" = some true := by decide +kernel
theorem kit_bool_bool : kitB "bool" "bool" = some true := by decide +kernel
theorem kit_bool_str : kitB "bool" "str" = some false := by decide +kernel
theorem kit_bool_list : kitB "bool" "list" = some false := by decide +kernel
theorem kit_bool_tuple : kitB "bool" "tuple" = some false := by decide +kernel
theorem kit_int_int : kitB "int" "int" = some true := by decide +kernel
theorem kit_int_bool : kitB "int" "bool" = some false := by decide +kernel
theorem kit_int_str : kitB "int" "str" = some false := by decide +kernel
theorem kit_int_list : kitB "int" "list" = some false := by decide +kernel
theorem kit_int_tuple : kitB "int" "tuple" = some false := by decide +kernel
theorem kit_str_int : kitB "str" "int" = some false := by decide +kernel
theorem kit_str_bool : kitB "str" "bool" = some false := by decide +kernel
theorem kit_str_str : kitB "str" "str" = some true := by decide +kernel
theorem kit_str_list : kitB "str" "list" = some false := by decide +kernel
theorem kit_str_tuple : kitB "str" "tuple" = some false := by decide +kernel
theorem kit_list_int : kitB "list" "int" = some false := by decide +kernel
theorem kit_list_bool : kitB "list" "bool" = some false := by decide +kernel
theorem kit_list_str : kitB "list" "str" = some false := by decide +kernel
theorem kit_list_list : kitB "list" "list" = some true := by decide +kernel
theorem kit_list_tuple : kitB "list" "tuple" = some false := by decide +kernel
theorem kit_tuple_int : kitB "tuple" "int" = some false := by decide +kernel
theorem kit_tuple_bool : kitB "tuple" "bool" = some false := by decide +kernel
theorem kit_tuple_str : kitB "tuple" "str" = some false := by decide +kernel
theorem kit_tuple_list : kitB "tuple" "list" = some false := by decide +kernel
theorem kit_tuple_tuple : kitB "tuple" "tuple" = some true := by decide +kernel
def KindQ (x : D) (t : String) (R : Bool → Prop) : Prop := ∃ k r, kindD x = some k ∧ kitB k t = some r ∧ R r
theorem kind_q {x : D} {t k : String} {r : Bool} {R : Bool → Prop} (e : kindD x = some k) (e2 : kitB k t = some r) (h : R r) : KindQ x t R := ⟨k, r, e, e2, h⟩
theorem we_isi {T : Str} {t : String} {p1 : Pos} (B : Bl X "isinstance") (BT : Bl X T) (hv : bootBuiltins T = some (.type t)) (h : WE X e Γ μ fun μ1 x => KindQ x t fun r => Q μ1 (.bl r))
    (hn : T ≠ "__name__" := by decide) (hd : (T == ("__debug__" : Str)) = false := by decide)
    (he : starEach [e, .Name T p1] X.env = (false, eval e X.env) :: starEach [.Name T p1] X.env := by rfl) (hpl : (backTo pos (starEach [.Name T p1] X.env)).any (·.1) = false := by rfl) : WE X (.Call (.Name "isinstance" p0) [e, .Name T p1] [] pos) Γ μ Q := fun Z σ H en ok => by
  refine toS (pe_callB call_isi B.gl B.mg (by decide +kernel) (pa_cons pe_S (pa_cons (pe_bltn (v := .ty t) BT.gl BT.mg hv rfl hn hd) pa_nil) he) (by decide) (by decide) he hpl) ?_
  refine h.use (Go.refl ok) en fun v H1 μ1 d g1 _ en1 i1 q1 => ?_
  obtain ⟨k, r, hk, hr, q⟩ := q1
  exact ⟨v, .ty t, _, _, r, rfl, .ty t, kindD_ok i1 hk, kit_ty hr, μ1, _, g1, .bl _, q⟩
theorem tyL {K : PySem.W.Frag} {H : Hp} {p : Addr} {vs : List V} (h : H p = some (.lst vs)) : tyV K "list" (.ref p) H := .inl ⟨rfl, vs, .of h⟩
/-- a list that may be changed -/
def LstAt (μ : Mu) (x : D) (R : Addr → Prop) : Prop := ∃ p, x = .ref p ∧ (∃ ds, μ p = some (.lst ds)) ∧ R p
def LstQ (μ : Mu) (p : Addr) (R : List D → Prop) : Prop := ∃ ds, μ p = some (.lst ds) ∧ R ds
def AtQ (ds : List D) (k : Int) (R : Nat → Prop) : Prop := ∃ j, ixN ds.length k = some j ∧ R j
theorem lst_at {p : Addr} {ds : List D} {R : Addr → Prop} (e : μ p = some (.lst ds)) (h : R p) : LstAt μ (.ref p) R := ⟨p, rfl, ⟨ds, e⟩, h⟩
theorem lst_q {p : Addr} {ds : List D} {R : List D → Prop} (e : μ p = some (.lst ds)) (h : R ds) : LstQ μ p R := ⟨ds, e, h⟩
theorem at_q {ds : List D} {k : Int} {R : Nat → Prop} (h0 : 0 ≤ k) (h1 : k < (ds.length : Int)) (h : R k.toNat) : AtQ ds k R := ⟨k.toNat, by unfold ixN; rw [if_pos h0, if_pos h1], h⟩
/-- xs.pop(i) -/
theorem we_popAt {i : Expr} {ap : Pos} (h : WE X o Γ μ fun μ1 x => LstAt μ1 x fun p => WE X i Γ μ1 fun μ2 y => One y fun k => LstQ μ2 p fun ds => Req (-(2 ^ 63) ≤ k ∧ k < 2 ^ 63) <| ∃ j d, seqIndex? k ds.length = some j ∧ ds[j]? = some d ∧ Q (updM μ2 p (.lst (ds.eraseIdx j))) d)
    (hbase : attributeBase o "pop" X.env (eval o X.env) = eval o X.env := by rfl)
    (hfew : ((backTo pos (starEach [i] X.env)).all (fun x => !x.1) && (backToKw pos (keywordEach [] X.env)).all (fun x => x.1.isSome)
      && decide ([i].length + ([] : List Keyword).length + (if ([] : List Keyword).isEmpty then 0 else 1) < 30)) = true := by rfl)
    (hline : (ap.endLine == pos.line) = true := by rfl) (hs : starEach [i] X.env = (false, eval i X.env) :: starEach [] X.env := by rfl) (hpl : (backTo pos (starEach [] X.env)).any (·.1) = false := by rfl) :
    WE X (.Call (.Attribute o "pop" ap) [i] [] pos) Γ μ Q := fun Z σ H en ok => by
  refine toS (pe_bm PySem.F.plainAttrs_list PySem.F.slot_list_pop PySem.F.type_list_pop mt_popAt pe_S (pa_cons pe_S pa_nil hs) hbase hfew hline hs hpl) ?_
  refine h.use (Go.refl ok) en fun v H1 μ1 d g1 _ en1 i1 q1 => ?_
  obtain ⟨p, rfl, ⟨ds1, e1⟩, q1⟩ := q1
  obtain ⟨vs1, e2, _⟩ := g1.ok.at_ p _ e1
  rw [isRef i1]
  refine ⟨tyL e2, ?_⟩
  refine q1.use g1 en1 fun w H2 μ2 d2 g2 _ en2 i2 q2 => ?_
  obtain ⟨k, rfl, ds, hp, ⟨h1, h2⟩, j, d, h3, h4, q⟩ := q2
  obtain ⟨vs, e3, t⟩ := g2.ok.at_ p _ hp
  obtain ⟨u, hu, iu⟩ := t.get h4
  rw [isInt i2]
  have g3 := g2.trans (Go.put g2.ok (.lst (ds.eraseIdx j)) (.lst (vs.eraseIdx j)) (.inr ⟨_, hp⟩) fun m => ⟨_, upd_same, m (t.eraseIdx j)⟩)
  refine ⟨p, vs, k, j, u, rfl, rfl, e3, h1, h2, by rw [t.length]; exact h3, hu, _, d, g3, iu.mono ?_, q⟩
  exact (Go.put g2.ok (.lst (ds.eraseIdx j)) (.lst (vs.eraseIdx j)) (.inr ⟨_, hp⟩) fun m => ⟨_, upd_same, m (t.eraseIdx j)⟩).fz
/-- xs.append(e) -/
theorem we_app {ap : Pos} (h : WE X o Γ μ fun μ1 x => LstAt μ1 x fun p => WE X e Γ μ1 fun μ2 y => LstQ μ2 p fun ds => Req (ds.length < sizeLine) <| Q (updM μ2 p (.lst (ds ++ [y]))) .non)
    (hbase : attributeBase o "append" X.env (eval o X.env) = eval o X.env := by rfl)
    (hfew : ((backTo pos (starEach [e] X.env)).all (fun x => !x.1) && (backToKw pos (keywordEach [] X.env)).all (fun x => x.1.isSome)
      && decide ([e].length + ([] : List Keyword).length + (if ([] : List Keyword).isEmpty then 0 else 1) < 30)) = true := by rfl)
    (hline : (ap.endLine == pos.line) = true := by rfl) (hs : starEach [e] X.env = (false, eval e X.env) :: starEach [] X.env := by rfl) (hpl : (backTo pos (starEach [] X.env)).any (·.1) = false := by rfl) :
    WE X (.Call (.Attribute o "append" ap) [e] [] pos) Γ μ Q := fun Z σ H en ok => by
  refine toS (pe_bm PySem.F.plainAttrs_list PySem.F.slot_list_append PySem.F.type_list_append mt_append pe_S (pa_cons pe_S pa_nil hs) hbase hfew hline hs hpl) ?_
  refine h.use (Go.refl ok) en fun v H1 μ1 d g1 _ en1 i1 q1 => ?_
  obtain ⟨p, rfl, ⟨ds1, e1⟩, q1⟩ := q1
  obtain ⟨vs1, e2, _⟩ := g1.ok.at_ p _ e1
  rw [isRef i1]
  refine ⟨tyL e2, ?_⟩
  refine q1.use g1 en1 fun w H2 μ2 d2 g2 _ en2 i2 q2 => ?_
  obtain ⟨ds, hp, h1, q⟩ := q2
  obtain ⟨vs, e3, t⟩ := g2.ok.at_ p _ hp
  refine ⟨p, vs, w, rfl, rfl, e3, by rw [t.length]; exact h1, _, .non, g2.trans (Go.put g2.ok (.lst (ds ++ [d2])) (.lst (vs ++ [w])) (.inr ⟨_, hp⟩) fun m => ⟨_, upd_same, m (t.append (.cons i2 .nil))⟩), .non, q⟩
end

section
variable {X : Cx} {Γ Γ' : Gm} {μ : Mu} {c e iter tg : Expr} {st : Stmt} {sts body els : List Stmt} {pos p0 : Pos} {k : Kt}
theorem wb_nil (h : k.nx Γ μ) : WB X [] Γ μ k := fun Z σ H en ok => toSB pss_nil ⟨Γ, μ, Go.refl ok, en, h⟩
theorem WS.use {Z : Addr → Prop} {μ0 : Mu} {H0 H : Hp} {σ : L2.St} (h : WS X st Γ μ k) (g : Go X.K Z μ0 H0 μ H) (en : En X.K (Av μ Z) H σ Γ) : SS X st (toD X.K Z μ0 H0 k) σ H := (h Z σ H en g.ok).mono (toD.up g)
theorem WB.use {Z : Addr → Prop} {μ0 : Mu} {H0 H : Hp} {σ : L2.St} (h : WB X sts Γ μ k) (g : Go X.K Z μ0 H0 μ H) (en : En X.K (Av μ Z) H σ Γ) : SB X sts (toD X.K Z μ0 H0 k) σ H := (h Z σ H en g.ok).mono (toD.up g)
theorem wb_cons (h : WS X st Γ μ { k with nx := fun Γ' μ' => WB X sts Γ' μ' k }) : WB X (st :: sts) Γ μ k := fun Z σ H en ok => by
  refine toSB (pss_cons ps_S pss_S) ?_
  show SS X st { toD X.K Z μ H k with nx := SB X sts (toD X.K Z μ H k) } σ H
  refine SS.mono ?_ (h Z σ H en ok)
  exact ⟨fun σ' H' ⟨Γ', μ', g, en', q⟩ => q.use g en', fun _ _ z => z, fun _ _ z => z, fun _ _ z => z⟩
/-- a def's body from its n-th statement on, the body a name -/
theorem wb_at {n : Nat} (e : sts[n]? = some st) (h : WS X st Γ μ { k with nx := fun Γ' μ' => WB X (sts.drop (n + 1)) Γ' μ' k }) : WB X (sts.drop n) Γ μ k := by
  have hn : n < sts.length := (List.getElem?_eq_some_iff.mp e).1
  rw [List.drop_eq_getElem_cons hn]
  rw [List.getElem?_eq_getElem hn] at e
  rw [Option.some.inj e]
  exact wb_cons h
theorem wb_end {n : Nat} (e : sts[n]? = none) (h : k.nx Γ μ) : WB X (sts.drop n) Γ μ k := by
  rw [List.drop_eq_nil_iff.mpr (List.getElem?_eq_none_iff.mp e)]
  exact wb_nil h
theorem wb_go (h : WB X (sts.drop 0) Γ μ k) : WB X sts Γ μ k := h
theorem ws_pass (h : k.nx Γ μ) : WS X (.Pass pos) Γ μ k := fun Z σ H en ok => toSS ps_pass ⟨Γ, μ, Go.refl ok, en, h⟩
theorem ws_break (h : k.bk Γ μ) : WS X (.Break pos) Γ μ k := fun Z σ H en ok => toSS ps_break ⟨Γ, μ, Go.refl ok, en, h⟩
theorem ws_cont (h : k.ct Γ μ) : WS X (.Continue pos) Γ μ k := fun Z σ H en ok => toSS ps_continue ⟨Γ, μ, Go.refl ok, en, h⟩
theorem ws_doc {x j p1} (h : k.nx Γ μ) : WS X (.Expr (.Constant (.str x) j p1) pos) Γ μ k := fun Z σ H en ok => toSS ps_doc ⟨Γ, μ, Go.refl ok, en, h⟩
theorem ws_expr (h : WE X e Γ μ fun μ1 _ => k.nx Γ μ1) (hs : swapsWith e none pos.line X.env = pure false := by rfl) : WS X (.Expr e pos) Γ μ k := fun Z σ H en ok => by
  refine toSS (ps_expr pe_S hs) ?_
  exact h.use (Go.refl ok) en fun v H1 μ1 d g1 _ en1 i1 q1 => ⟨Γ, μ1, g1, en1, q1⟩
theorem ws_ret (h : WE X e Γ μ k.rt) : WS X (.Return (some e) pos) Γ μ k := fun Z σ H en ok => by
  refine toSS (ps_ret pe_S) ?_
  exact h.use (Go.refl ok) en fun v H1 μ1 d g1 _ en1 i1 q1 => ⟨μ1, d, g1, i1, q1⟩
theorem ws_retN (h : k.rt μ .non) : WS X (.Return none pos) Γ μ k := fun Z σ H en ok => toSS ps_retN ⟨μ, .non, Go.refl ok, .non, h⟩
theorem ws_if (h : WT X c Γ μ fun μ1 b => if b = true then WB X body Γ μ1 k else WB X els Γ μ1 k) : WS X (.If c body els pos) Γ μ k := fun Z σ H en ok => by
  refine toSS (ps_if pt_S pss_S pss_S) ?_
  refine h.use (Go.refl ok) en fun b H1 μ1 g1 _ en1 q1 => ?_
  cases b with
  | true => exact q1.use g1 en1
  | false => exact q1.use g1 en1
/-- J holds behind the statement, and all that follows from it -/
theorem ws_join (J : Gm → Mu → Prop) (h : WS X st Γ μ { k with nx := J }) (n : ∀ Γ' μ', J Γ' μ' → k.nx Γ' μ') : WS X st Γ μ k := fun Z σ H en ok => by
  refine SS.mono ?_ (h Z σ H en ok)
  exact ⟨fun _ _ ⟨a, b, c, d, e⟩ => ⟨a, b, c, d, n _ _ e⟩, fun _ _ z => z, fun _ _ z => z, fun _ _ z => z⟩
theorem wipe_set {σ : L2.St} {i : Nat} {x : Option V} : ∀ {ws : List Nat}, i ∈ ws → wipe (σ.set i x) ws = wipe σ ws
  | w :: ws, h => by
    unfold wipe
    by_cases hi : i ∈ ws
    · rw [wipe_set hi]
    · have e : i = w := by
        rcases List.mem_cons.mp h with e | e
        · exact e
        · exact absurd e hi
      subst e
      -- the slot is wiped last
      have key : ∀ (vs : List Nat) (τ : L2.St), i ∉ vs → (wipe (τ.set i x) vs).set i none = (wipe τ vs).set i none := by
        intro vs
        induction vs with
        | nil => intro τ _; exact List.set_set _
        | cons v vs ih =>
          intro τ hn
          have hv : v ≠ i := fun e => hn (by rw [e]; exact List.mem_cons_self)
          unfold wipe
          rw [List.set_comm _ _ hv, ih τ fun z => hn (List.mem_cons_of_mem _ z), List.set_comm _ _ hv]
      exact key ws σ hi
theorem wg_name {x : Str} {i : Nat} {d : D} {N : Gm → Mu → Prop} (n : Nw X x i) (s : SetTo Γ i d Γ') (h : N Γ' μ) : WG X (.Name x pos) [i] d Γ μ N := fun Z σ H v en ok is => by
  refine toG (pg_name n.nd n.ix n.loc n.fn) ?_
  refine ⟨⟨Γ', μ, Go.refl ok, by rw [s.eq]; exact en.set i is, h⟩, fun ws hw => wipe_set (hw i (by simp))⟩
/-- several targets -/
def WGs (X : Cx) (tgs : List Expr) (vs : List Nat) (ds : List D) (Γ : Gm) (μ : Mu) (N : Gm → Mu → Prop) : Prop := ∀ Z σ H ws, En X.K (Av μ Z) H σ Γ → Ok X.K μ Z H → IsA X.K (Av μ Z) H ws ds →
  ∃ t, PGs X tgs t ∧ t ws σ H (fun σ' H' => PostN X.K Z μ H N σ' H' ∧ ∀ us, (∀ i ∈ vs, i ∈ us) → wipe σ' us = wipe σ us)
/-- the exact reading of several targets -/
def SGs (X : Cx) (tgs : List Expr) (vs : List V) (σ : L2.St) (H : Hp) (Q : L2.St → Hp → Prop) : Prop := ∀ pins s us, Inv X pins σ H s → Vals vs us →
  wpAny (model X.prog X.w) X.A (assignInOrder ((assignEach tgs X.env).map (·.2)) us) (fun _ s' => ∃ σ' H', Inv X pins σ' H' s' ∧ Q σ' H') X.xe s
theorem pgs_S {tgs : List Expr} : PGs X tgs (SGs X tgs) := ⟨fun _ _ _ _ _ _ _ I r h => h _ _ _ I r⟩
theorem toGs {tgs : List Expr} {t : TGs} {vs : List V} {σ : L2.St} {H : Hp} {Q : L2.St → Hp → Prop} (p : PGs X tgs t) (h : t vs σ H Q) : SGs X tgs vs σ H Q := fun _ _ _ I r => p.run _ _ _ _ _ _ _ I r h
theorem SGs.mono {tgs : List Expr} {vs : List V} {σ : L2.St} {H : Hp} {Q Q' : L2.St → Hp → Prop} (h : SGs X tgs vs σ H Q) (f : ∀ σ' H', Q σ' H' → Q' σ' H') : SGs X tgs vs σ H Q' := fun pins s u I r => thn (h pins s u I r) fun _ _ ⟨σ', H', I', q⟩ => ⟨σ', H', I', f _ _ q⟩
def WGl (X : Cx) (tgs : List Expr) (vs : List Nat) (ds : List D) (Γ : Gm) (μ : Mu) (N : Gm → Mu → Prop) : Prop := ∀ Z σ H ws, En X.K (Av μ Z) H σ Γ → Ok X.K μ Z H → IsA X.K (Av μ Z) H ws ds →
  SGs X tgs ws σ H (fun σ' H' => PostN X.K Z μ H N σ' H' ∧ ∀ us, (∀ i ∈ vs, i ∈ us) → wipe σ' us = wipe σ us)
theorem wgl_nil {N : Gm → Mu → Prop} (h : N Γ μ) : WGl X [] [] [] Γ μ N := fun Z σ H ws en ok is => by
  cases is
  exact toGs pgs_nil ⟨rfl, ⟨Γ, μ, Go.refl ok, en, h⟩, fun _ _ => rfl⟩
theorem wgl_cons {tgs : List Expr} {v w : List Nat} {d : D} {ds : List D} {N : Gm → Mu → Prop} (h : WG X tg v d Γ μ fun Γ1 μ1 => WGl X tgs w ds Γ1 μ1 N)
    (hs : (assignEach (tg :: tgs) X.env).map (·.2) = assign tg X.env :: (assignEach tgs X.env).map (·.2) := by rfl) : WGl X (tg :: tgs) (v ++ w) (d :: ds) Γ μ N := fun Z σ H ws en ok is => by
  cases is with
  | cons i1 t1 =>
    refine toGs (pgs_cons pg_S pgs_S hs) ⟨_, _, rfl, ?_⟩
    refine (h Z σ H _ en ok i1).mono fun σ1 H1 ⟨⟨Γ1, μ1, g1, en1, q1⟩, w1⟩ => ?_
    refine (q1 Z σ1 H1 _ en1 g1.ok (t1.mono g1.fz)).mono fun σ2 H2 ⟨p2, w2⟩ => ⟨p2.up g1, fun us hu => ?_⟩
    rw [w2 us fun i hi => hu i (List.mem_append_right _ hi), w1 us fun i hi => hu i (List.mem_append_left _ hi)]
/-- (a, b, ..) of a tuple -/
theorem wg_tup {tgs : List Expr} {x1} {vs : List Nat} {ds : List D} {N : Gm → Mu → Prop} (hc : X.calm = true) (h : WGl X tgs vs ds Γ μ N) (hl : ds.length = (assignEach tgs X.env).length := by rfl)
    (hst : (assignEach tgs X.env).findIdx? (·.1) = none := by rfl) : WG X (.Tuple tgs x1 pos) vs (.tup ds) Γ μ N := fun Z σ H v en ok is => by
  cases is with
  | tup r t => exact toG (pg_tup (n := (assignEach tgs X.env).length) hc pgs_S rfl hst) ⟨_, _, rfl, r.sq, t.length.trans hl, h Z σ H _ en ok t⟩
/-- xs[i] = d -/
theorem wg_ix {o i : Expr} {d : D} {N : Gm → Mu → Prop} (h : WE X o Γ μ fun μ1 x => WE X i Γ μ1 fun μ2 y => One y fun n => LstAt μ2 x fun p => LstQ μ2 p fun ds => AtQ ds n fun j => N Γ (updM μ2 p (.lst (ds.set j d))))
    (ha : ∀ v, assign (.Subscript o i pos) X.env v = (do
      let ov ← holding [v] (eval o X.env)
      let iv ← holding [v, ov] (eval i X.env)
      standAt pos
      holding [v, ov, iv] (setItem ov iv v)
      release [v, ov, iv] []) := by intro _; rfl) : WG X (.Subscript o i pos) [] d Γ μ N := fun Z σ H v en ok is => by
  refine toG (pg_sub pe_S pe_S set_list ha) ?_
  refine h.use (Go.refl ok) en fun ov H1 μ1 d1 g1 _ en1 i1 q1 => ?_
  refine q1.use g1 en1 fun iv H2 μ2 d2 g2 _ en2 i2 q2 => ?_
  obtain ⟨n, rfl, p, rfl, _, ds, hp, j, hj, q⟩ := q2
  obtain ⟨vs, e3, t⟩ := g2.ok.at_ p _ hp
  rw [isRef i1, isInt i2]
  have g3 := Go.put g2.ok (.lst (ds.set j d)) (.lst (vs.set j v)) (.inr ⟨_, hp⟩) fun m => ⟨_, upd_same, m (IsA.set (is.mono g2.fz) j t)⟩
  exact ⟨p, vs, n, j, rfl, rfl, e3, by rw [t.length]; exact hj, ⟨Γ, _, g2.trans g3, en2.mono g3.fz, q⟩, fun _ _ => rfl⟩
/-- a target, whatever slots it stores -/
def WGx (X : Cx) (tg : Expr) (d : D) (Γ : Gm) (μ : Mu) (N : Gm → Mu → Prop) : Prop := ∀ Z σ H v, En X.K (Av μ Z) H σ Γ → Ok X.K μ Z H → Is X.K (Av μ Z) H v d → SG X tg v σ H (PostN X.K Z μ H N)
def WGlx (X : Cx) (tgs : List Expr) (ds : List D) (Γ : Gm) (μ : Mu) (N : Gm → Mu → Prop) : Prop := ∀ Z σ H ws, En X.K (Av μ Z) H σ Γ → Ok X.K μ Z H → IsA X.K (Av μ Z) H ws ds → SGs X tgs ws σ H (PostN X.K Z μ H N)
theorem WG.x {vs : List Nat} {d : D} {N : Gm → Mu → Prop} (h : WG X tg vs d Γ μ N) : WGx X tg d Γ μ N := fun Z σ H v en ok is => (h Z σ H v en ok is).mono fun _ _ p => p.1
theorem wx_name {x : Str} {i : Nat} {d : D} {N : Gm → Mu → Prop} (n : Nw X x i) (s : SetTo Γ i d Γ') (h : N Γ' μ) : WGx X (.Name x pos) d Γ μ N := (wg_name n s h).x
theorem wx_ix {o i : Expr} {d : D} {N : Gm → Mu → Prop} (h : WE X o Γ μ fun μ1 x => WE X i Γ μ1 fun μ2 y => One y fun n => LstAt μ2 x fun p => LstQ μ2 p fun ds => AtQ ds n fun j => N Γ (updM μ2 p (.lst (ds.set j d))))
    (ha : ∀ v, assign (.Subscript o i pos) X.env v = (do
      let ov ← holding [v] (eval o X.env)
      let iv ← holding [v, ov] (eval i X.env)
      standAt pos
      holding [v, ov, iv] (setItem ov iv v)
      release [v, ov, iv] []) := by intro _; rfl) : WGx X (.Subscript o i pos) d Γ μ N := (wg_ix h ha).x
theorem wxl_nil {N : Gm → Mu → Prop} (h : N Γ μ) : WGlx X [] [] Γ μ N := fun Z σ H ws en ok is => (wgl_nil (N := N) h Z σ H ws en ok is).mono fun _ _ p => p.1
theorem wxl_cons {tgs : List Expr} {d : D} {ds : List D} {N : Gm → Mu → Prop} (h : WGx X tg d Γ μ fun Γ1 μ1 => WGlx X tgs ds Γ1 μ1 N)
    (hs : (assignEach (tg :: tgs) X.env).map (·.2) = assign tg X.env :: (assignEach tgs X.env).map (·.2) := by rfl) : WGlx X (tg :: tgs) (d :: ds) Γ μ N := fun Z σ H ws en ok is => by
  cases is with
  | cons i1 t1 =>
    refine toGs (pgs_cons pg_S pgs_S hs) ⟨_, _, rfl, ?_⟩
    refine (h Z σ H _ en ok i1).mono fun σ1 H1 ⟨Γ1, μ1, g1, en1, q1⟩ => ?_
    exact (q1 Z σ1 H1 _ en1 g1.ok (t1.mono g1.fz)).mono fun σ2 H2 p2 => p2.up g1
theorem wx_tup {tgs : List Expr} {x1} {ds : List D} {N : Gm → Mu → Prop} (hc : X.calm = true) (h : WGlx X tgs ds Γ μ N) (hl : ds.length = (assignEach tgs X.env).length := by rfl)
    (hst : (assignEach tgs X.env).findIdx? (·.1) = none := by rfl) : WGx X (.Tuple tgs x1 pos) (.tup ds) Γ μ N := fun Z σ H v en ok is => by
  cases is with
  | tup r t => exact toG (pg_tup (n := (assignEach tgs X.env).length) hc pgs_S rfl hst) ⟨_, _, rfl, r.sq, t.length.trans hl, h Z σ H _ en ok t⟩
theorem ws_set {x : Str} {i : Nat} (n : Nw X x i) (h : WE X e Γ μ fun μ1 d => SetQ Γ i d fun Γ' => k.nx Γ' μ1) (hs : swapsWith e (some (.Name x p0)) pos.line X.env = pure false := by rfl) : WS X (.Assign [.Name x p0] e pos) Γ μ k := fun Z σ H en ok => by
  refine toSS (ps_set n.nd n.ix n.loc pe_S hs n.fn) ?_
  refine h.use (Go.refl ok) en fun v H1 μ1 d g1 _ en1 i1 q1 => ?_
  obtain ⟨Γ', s, q⟩ := q1
  exact ⟨Γ', μ1, g1, by rw [s.eq]; exact en1.set i i1, q⟩
theorem ws_asg (h : WE X e Γ μ fun μ1 d => WGx X tg d Γ μ1 k.nx) (hs : swapsWithSole [tg] e pos.line X.env = pure false := by rfl) (hw : swappedStores [tg] e X.env = pure none := by rfl)
    (h1 : (assignEach [tg] X.env).map (·.2) = [assign tg X.env] := by rfl) : WS X (.Assign [tg] e pos) Γ μ k := fun Z σ H en ok => by
  refine toSS (ps_asg pe_S pg_S hs hw h1) ?_
  refine h.use (Go.refl ok) en fun v H1 μ1 d g1 _ en1 i1 q1 => ?_
  exact (q1 Z σ H1 v en1 g1.ok i1).mono fun σ' H' p => p.up g1
/-- a, b = x, y -/
theorem ws_par {x y : Str} {i j : Nat} {a b : Expr} {px py pt : Pos} {kt k2 pt2} (hc : X.calm = true) (n1 : Nw X x i) (n2 : Nw X y j) (l1 : X.env.scope.names.lookup x = some .local) (l2 : X.env.scope.names.lookup y = some .local) (hij : i ≠ j)
    (h : WA X [a, b] Γ μ fun μ1 ds => ∃ d1 d2 Γ1 Γ2, ds = [d1, d2] ∧ SetTo Γ i d1 Γ1 ∧ SetTo Γ1 j d2 Γ2 ∧ k.nx Γ2 μ1)
    (hw : swappedStores [.Tuple [.Name x px, .Name y py] kt pt] (.Tuple [a, b] k2 pt2) X.env = pure (some [x, y]))
    (hs : swapsWithSole [.Tuple [.Name x px, .Name y py] kt pt] (.Tuple [a, b] k2 pt2) pos.line X.env = pure false := by rfl) :
    WS X (.Assign [.Tuple [.Name x px, .Name y py] kt pt] (.Tuple [a, b] k2 pt2) pos) Γ μ k := fun Z σ H en ok => by
  refine toSS (ps_par hc n1.nd n1.ix n2.ix hij l1 l2 pa_S hw hs) ?_
  refine h.use (Go.refl ok) en fun vs H1 μ1 ds g1 _ en1 i1 q1 => ?_
  obtain ⟨d1, d2, Γ1, Γ2, rfl, s1, s2, q⟩ := q1
  cases i1 with
  | cons r1 t1 =>
    cases t1 with
    | cons r2 t2 =>
      cases t2
      exact ⟨_, _, rfl, Γ2, μ1, g1, by rw [s2.eq, s1.eq]; exact (en1.set i r1).set j r2, q⟩
/-- x += e (ints) -/
theorem ws_augI {x : Str} {i : Nat} {op : Operator} {C : Int → Int → Prop} {g : Int → Int → Int} (n : Nw X x i) (ho : OpR X (inplaceOp op) (rI C fun i j => .int (g i j)))
    (h : ∃ m, Γ[i]? = some (some (.int m)) ∧ WE X e Γ μ fun μ1 y => ∃ j Γ', y = .int j ∧ C m j ∧ SetTo Γ i (.int (g m j)) Γ' ∧ k.nx Γ' μ1) : WS X (.AugAssign (.Name x p0) op e pos) Γ μ k := fun Z σ H en ok => by
  refine toSS (ps_aug (ti := rI C fun i j => .int (g i j)) n.nd n.ix n.loc pe_S (fun pins s σ H x y v u Q I r1 r2 q => ho pins s σ H x y v u Q I r1 r2 q) n.fn) ?_
  obtain ⟨m, e1, h⟩ := h
  obtain ⟨v, h1, h2⟩ := en.at_ i _ e1
  rw [isInt h2] at h1
  refine ⟨.int m, h1, ?_⟩
  refine h.use (Go.refl ok) en fun w H1 μ1 d g1 _ en1 i1 q1 => ?_
  obtain ⟨j, Γ', rfl, hc, s, q⟩ := q1
  rw [isInt i1]
  exact ⟨m, j, rfl, rfl, hc, Γ', μ1, g1, by rw [s.eq]; exact en1.set i (.int _), q⟩
theorem iop_addX : OpR X (inplaceOp .Add) (rI (fun _ _ => True) fun i j => .int (i + j)) := opI fun _ _ _ _ _ _ _ _ q => iadd_int q
theorem iop_mulX : OpR X (inplaceOp .Mult) (rI MulOk fun i j => .int (i * j)) := opI fun _ _ _ _ _ _ _ hc q => imul_int q hc.ok
theorem iop_divX : OpR X (inplaceOp .FloorDiv) (rI CDivW fun i j => .int (i / j)) := opI fun i j _ _ _ _ _ hc q => by
  have h1 : (0 : Int) < j := hc.1
  exact ifloordiv_int (by omega) (by rw [Int.fdiv_eq_ediv_of_nonneg i (by omega)]; exact q) (.inl (PyProof.noPylong_of_log2 hc.2))
theorem ws_while (hp : PassesOwn (model X.prog X.w) X.A X.env X.xe) (I : Nat → Gm → Mu → Prop) (h0 : ∃ m, I m Γ μ)
    (hs : ∀ m Γ' μ', I m Γ' μ' → WT X c Γ' μ' fun μ1 b => if b = true then WB X body Γ' μ1 ⟨fun Γ2 μ2 => ∃ m', m' < m ∧ I m' Γ2 μ2, k.rt, k.nx, fun Γ2 μ2 => ∃ m', m' < m ∧ I m' Γ2 μ2⟩ else k.nx Γ' μ1) : WS X (.While c body [] pos) Γ μ k := fun Z σ H en ok => by
  refine toSS (ps_while hp pt_S pss_S) ?_
  obtain ⟨m0, h0⟩ := h0
  refine ⟨fun m σ' H' => ∃ Γ' μ', Go X.K Z μ H μ' H' ∧ En X.K (Av μ' Z) H' σ' Γ' ∧ I m Γ' μ', ⟨m0, Γ, μ, Go.refl ok, en, h0⟩, fun m σ1 H1 ⟨Γ1, μ1, g1, en1, i1⟩ => ?_⟩
  refine (hs m Γ1 μ1 i1).use g1 en1 fun b H2 μ2 g2 _ en2 q2 => ?_
  cases b with
  | true =>
    have q3 : WB X body Γ1 μ2 ⟨fun Γ2 μ2 => ∃ m', m' < m ∧ I m' Γ2 μ2, k.rt, k.nx, fun Γ2 μ2 => ∃ m', m' < m ∧ I m' Γ2 μ2⟩ := q2
    exact ⟨PostN X.K Z μ H fun Γ2 μ2 => ∃ m', m' < m ∧ I m' Γ2 μ2, fun σ' H' ⟨Γ2, μ2, g, en', m', l, i⟩ => ⟨m', l, Γ2, μ2, g, en', i⟩, q3.use g2 en2⟩
  | false => exact ⟨Γ1, μ2, g2, en2, q2⟩
theorem ws_for (hp : PassesOwn (model X.prog X.w) X.A X.env X.xe) (hc : X.calm = true)
    (h : WI X tg iter Γ μ fun μ1 ds G => ∃ I : Nat → Gm → Mu → Prop, I 0 Γ μ1 ∧ (∀ i Γ' μ', i ≤ ds.length → I i Γ' μ' → G μ') ∧
      (∀ i d Γ' μ', ds[i]? = some d → I i Γ' μ' → WGx X tg d Γ' μ' fun Γ2 μ2 => WB X body Γ2 μ2 ⟨I (i + 1), k.rt, k.nx, I (i + 1)⟩) ∧ (∀ Γ' μ', I ds.length Γ' μ' → k.nx Γ' μ'))
    (hs : ∀ x, foldedSetIterable iter X.env x = pure x := by intro _; rfl) : WS X (.For tg iter body [] pos) Γ μ k := fun Z σ H en ok => by
  refine toSS (ps_for hp hc pi_S pg_S pss_S hs) ?_
  intro pins s J
  refine thn (h Z σ H en ok pins s J) fun v s1 q => thn q fun itv s2 q2 => ?_
  obtain ⟨it, fp, tn, J, H1, e1, I1, T, st, fo, μ1, ds, G, g1, Y, I, h0, hG, hb, hd⟩ := q2
  refine ⟨it, fp, tn, J, H1, e1, I1, T, st, fo, ?_⟩
  refine ⟨fun i m σ' H' => m = ds.length - i ∧ i ≤ ds.length ∧ ∃ Γ' μ', Go X.K Z μ1 H1 μ' H' ∧ En X.K (Av μ' Z) H' σ' Γ' ∧ I i Γ' μ', ⟨ds.length, rfl, Nat.zero_le _, Γ, μ1, Go.refl g1.ok, en.mono g1.fz, h0⟩, ?_⟩
  rintro i m σ' H' ⟨rfl, hi, Γ', μ', g, en', ii⟩
  obtain ⟨y1, y2⟩ := Y Z i μ' H' g.ok g.fz (hG i Γ' μ' hi ii)
  by_cases hlt : i < ds.length
  · refine .inr ⟨(y1 hlt).1, PostN X.K Z μ1 H1 (I (i + 1)), fun σ2 H2 ⟨Γ2, μ2, g2, en2, i2⟩ => ⟨ds.length - (i + 1), by omega, rfl, hlt, Γ2, μ2, g2, en2, i2⟩, fun x H2 hy => ?_⟩
    obtain ⟨d, hd1, g2, is⟩ := (y1 hlt).2 x H2 hy
    refine ((hb i d Γ' μ' hd1 ii) Z σ' H2 x (en'.mono g2.fz) g2.ok is).mono fun σ3 H3 ⟨Γ3, μ3, g3, en3, q3⟩ => ?_
    have g13 := (g.trans g2).trans g3
    refine SB.mono ?_ (q3 Z σ3 H3 en3 g3.ok)
    exact ⟨fun σ4 H4 p => PostN.up g13 p, fun v H4 p => PostE.up (g1.trans g13) p, fun σ4 H4 p => PostN.up (g1.trans g13) p, fun σ4 H4 p => PostN.up g13 p⟩
  · have e : i = ds.length := by omega
    subst e
    exact .inl ⟨y2 (Nat.le_refl _), Γ', μ', g1.trans g, en', hd Γ' μ' ii⟩
end
end DL

set_option Elab.async false
set_option linter.all false
set_option maxRecDepth 100000
set_option maxHeartbeats 2000000
namespace DL
open PySem PySem.Spec PyProof.Rows L2

section
variable {X : Cx} {Γ Γ' : Gm} {μ : Mu} {a b c e o iter tg : Expr} {es : List Expr} {pos p0 : Pos} {R : Mu → List D → (Mu → Prop) → Prop}
/-- a list to be walked -/
def SeqL (μ : Mu) (x : D) (ds : List D) : Prop := x = .lst ds ∨ ∃ p, x = .ref p ∧ μ p = some (.lst ds)
theorem SeqL.l {ds : List D} : SeqL μ (.lst ds) ds := .inl rfl
theorem SeqL.m {ds : List D} {p : Addr} (h : μ p = some (.lst ds)) : SeqL μ (.ref p) ds := .inr ⟨p, rfl, h⟩
def SeqLQ (μ : Mu) (x : D) (R : List D → Prop) : Prop := ∃ ds, SeqL μ x ds ∧ R ds
theorem seql_l {ds : List D} {R : List D → Prop} (h : R ds) : SeqLQ μ (.lst ds) R := ⟨ds, .l, h⟩
theorem seql_m {p : Addr} {ds : List D} {R : List D → Prop} (e : μ p = some (.lst ds)) (h : R ds) : SeqLQ μ (.ref p) R := ⟨ds, .m e, h⟩
/-- it stands still -/
def Still (x : D) (ds : List D) (μ : Mu) : Prop := ∀ p, x = .ref p → μ p = some (.lst ds)
section
variable {K : PySem.W.Frag} {Z Z' : Addr → Prop} {μ' : Mu} {H H' : Hp} {v : V} {x : D} {ds : List D}
/-- such a list, as it stands now and later -/
theorem SeqL.at (s : SeqL μ x ds) (ok : Ok K μ Z H) (h : Is K (Av μ Z) H v x) : ∃ p, v = .ref p ∧ ∀ Z' μ' H', Ok K μ' Z' H' → Fz (Av μ Z) H (Av μ' Z') H' → Still x ds μ' → ∃ vs, SqL K H' p vs ∧ IsA K (Av μ' Z') H' vs ds := by
  rcases s with rfl | ⟨p, rfl, e⟩
  · cases h with
    | lst h t => exact ⟨_, rfl, fun Z' μ' H' _ f _ => ⟨_, (h.mono f).sq, t.mono f⟩⟩
  · cases isRef h
    refine ⟨p, rfl, fun Z' μ' H' ok' f st => ?_⟩
    obtain ⟨vs, e1, t⟩ := ok'.at_ p _ (st p rfl)
    exact ⟨vs, .of e1, t⟩
theorem SeqL.still (s : SeqL μ x ds) : Still x ds μ := by
  rcases s with rfl | ⟨p, rfl, e⟩
  · intro p z; cases z
  · intro q z; cases z; exact e
theorem SeqL.seq (s : SeqL μ x ds) : Seq μ x ds := by
  rcases s with rfl | ⟨p, rfl, e⟩
  · exact .l
  · exact .m e
end
theorem Fz.self {A : Addr → Prop} {H : Hp} : Fz A H A H := Fz.refl
theorem wi_list (h : WE X iter Γ μ fun μ1 x => SeqLQ μ1 x fun ds => R μ1 ds (Still x ds)) : WI X tg iter Γ μ R := fun Z σ H en ok => by
  refine toI (pi_list pe_S) ?_
  refine h.use (Go.refl ok) en fun v H1 μ1 x g1 _ en1 i1 q1 => ?_
  obtain ⟨ds, sq, q⟩ := q1
  obtain ⟨p, rfl, at_⟩ := sq.at g1.ok i1
  obtain ⟨vs, s1, t1⟩ := at_ Z μ1 H1 g1.ok Fz.refl sq.still
  refine ⟨p, rfl, ⟨vs, s1⟩, μ1, ds, _, g1, ?_, q⟩
  intro Z' i μ' H' ok' f st
  obtain ⟨vs', s', t'⟩ := at_ Z' μ' H' ok' f st
  refine ⟨fun hi => ?_, fun hi => ⟨vs', s', by rw [t'.length]; exact hi⟩⟩
  have hv : i < vs'.length := by rw [t'.length]; exact hi
  refine ⟨⟨vs', vs'[i], s', List.getElem?_eq_getElem hv⟩, fun w H2 ⟨e, y⟩ => ?_⟩
  subst e
  obtain ⟨d, h1, h2⟩ := t'.getV (y vs' s')
  exact ⟨d, h1, Go.refl ok', h2⟩
theorem wi_tup (h : WE X iter Γ μ fun μ1 x => ∃ ds, x = .tup ds ∧ R μ1 ds fun _ => True) : WI X tg iter Γ μ R := fun Z σ H en ok => by
  refine toI (pi_tup pe_S) ?_
  refine h.use (Go.refl ok) en fun v H1 μ1 x g1 _ en1 i1 q1 => ?_
  obtain ⟨ds, rfl, q⟩ := q1
  cases i1 with
  | tup r t =>
    rename_i p vs
    refine ⟨p, rfl, ⟨vs, r.sq⟩, μ1, ds, _, g1, ?_, q⟩
    intro Z' i μ' H' ok' f _
    have s' := (r.mono f).sq
    have t' := t.mono f
    refine ⟨fun hi => ?_, fun hi => ⟨vs, s', by rw [t'.length]; exact hi⟩⟩
    have hv : i < vs.length := by rw [t'.length]; exact hi
    refine ⟨⟨vs, vs[i], s', List.getElem?_eq_getElem hv⟩, fun w H2 ⟨e, y⟩ => ?_⟩
    subst e
    obtain ⟨d, h1, h2⟩ := t'.getV (y vs s')
    exact ⟨d, h1, Go.refl ok', h2⟩
def rangeD (lo : Int) (n : Nat) : List D := (List.range n).map fun (i : Nat) => D.int (lo + i)
theorem rangeD_len {lo : Int} {n : Nat} : (rangeD lo n).length = n := by simp [rangeD]
theorem rangeD_get {lo : Int} {n i : Nat} {d : D} (h : (rangeD lo n)[i]? = some d) : i < n ∧ d = .int (lo + i) := by
  have hi : i < (rangeD lo n).length := (List.getElem?_eq_some_iff.mp h).1
  rw [rangeD_len] at hi
  refine ⟨hi, ?_⟩
  simp only [rangeD, List.getElem?_map, List.getElem?_range hi, Option.map_some, Option.some.injEq] at h
  exact h.symm
theorem rangeD_yields {K : PySem.W.Frag} {Z : Addr → Prop} {H : Hp} {lo : Int} {n : Nat} : Yields K Z μ H (Itr lo n) (rangeD lo n) fun _ => True := by
  intro Z' i μ' H' ok' f _
  rw [rangeD_len]
  refine ⟨fun hi => ⟨hi, fun x H2 ⟨e, y⟩ => ?_⟩, fun hi => hi⟩
  subst e y
  refine ⟨.int (lo + i), ?_, Go.refl ok', .int _⟩
  simp [rangeD, List.getElem?_range hi]
theorem wi_range1 (B : Bl X "range") (h : WE X a Γ μ fun μ1 x => One x fun j => Req (-(2 ^ 62) ≤ j ∧ j < 2 ^ 62) <| R μ1 (rangeD 0 j.toNat) fun _ => True)
    (hs : starEach [a] X.env = [(false, eval a X.env)] := by rfl) (hs' : starEach [a] X.env = (false, eval a X.env) :: starEach [] X.env := by rfl) : WI X tg (.Call (.Name "range" p0) [a] [] pos) Γ μ R := fun Z σ H en ok => by
  refine toI (pi_range1 B.gl B.mg (pa_cons pe_S pa_nil hs') hs) ?_
  refine h.use (Go.refl ok) en fun v H1 μ1 x g1 _ en1 i1 q1 => ?_
  obtain ⟨j, rfl, ⟨h1, h2⟩, q⟩ := q1
  rw [isInt i1]
  exact ⟨j, rfl, h1, h2, μ1, _, _, g1, rangeD_yields, q⟩
theorem wi_range2 (B : Bl X "range") (h : WE X a Γ μ fun μ1 x => WE X b Γ μ1 fun μ2 y => Two x y fun i j => Req (-(2 ^ 62) ≤ i ∧ i < 2 ^ 62 ∧ -(2 ^ 62) ≤ j ∧ j < 2 ^ 62) <| R μ2 (rangeD i (j - i).toNat) fun _ => True)
    (hs : starEach [a, b] X.env = [(false, eval a X.env), (false, eval b X.env)] := by rfl) (hs2 : starEach [b] X.env = [(false, eval b X.env)] := by rfl)
    (hs' : starEach [a, b] X.env = (false, eval a X.env) :: starEach [b] X.env := by rfl) (hs3 : starEach [b] X.env = (false, eval b X.env) :: starEach [] X.env := by rfl) : WI X tg (.Call (.Name "range" p0) [a, b] [] pos) Γ μ R := fun Z σ H en ok => by
  refine toI (pi_range2 B.gl B.mg (pa_cons pe_S (pa_cons pe_S pa_nil hs3) hs') hs hs2) ?_
  refine h.use (Go.refl ok) en fun v H1 μ1 x g1 _ en1 i1 q1 => ?_
  refine q1.use g1 en1 fun w H2 μ2 y g2 _ en2 i2 q2 => ?_
  obtain ⟨i, j, rfl, rfl, ⟨h1, h2, h3, h4⟩, q⟩ := q2
  rw [isInt i1, isInt i2]
  exact ⟨i, j, rfl, ⟨h1, h2, h3, h4⟩, μ2, _, _, g2, rangeD_yields, q⟩
def enumD : List D → Nat → List D
  | [], _ => []
  | d :: r, n => .tup [.int (n : Int), d] :: enumD r (n + 1)
theorem enumD_len : ∀ (ds : List D) (n : Nat), (enumD ds n).length = ds.length
  | [], _ => rfl
  | _ :: r, n => congrArg (· + 1) (enumD_len r (n + 1))
theorem enumD_get : ∀ (ds : List D) (n i : Nat) (d : D), ds[i]? = some d → (enumD ds n)[i]? = some (.tup [.int ((n + i : Nat) : Int), d])
  | [], _, _, _, h => by simp at h
  | x :: r, n, 0, d, h => by simp at h; subst h; rfl
  | x :: r, n, i + 1, d, h => by
    have := enumD_get r (n + 1) i d (by simpa using h)
    show (enumD r (n + 1))[i]? = _
    rw [this, show n + 1 + i = n + (i + 1) by omega]
theorem enumD_inv {ds : List D} {i : Nat} {d : D} (h : (enumD ds 0)[i]? = some d) : ∃ x, ds[i]? = some x ∧ d = .tup [.int (i : Int), x] := by
  have hi : i < (enumD ds 0).length := (List.getElem?_eq_some_iff.mp h).1
  rw [enumD_len] at hi
  refine ⟨ds[i], List.getElem?_eq_getElem hi, ?_⟩
  have := enumD_get ds 0 i ds[i] (List.getElem?_eq_getElem hi)
  rw [h] at this
  have e := Option.some.inj this
  rw [e, Nat.zero_add]
theorem wi_enum {elts : List Expr} {kk : Nat} {tpos : Pos} (B : Bl X "enumerate") (h : WE X e Γ μ fun μ1 x => SeqLQ μ1 x fun ds => R μ1 (enumD ds 0) (Still x ds))
    (hs : starEach [e] X.env = [(false, eval e X.env)] := by rfl) (hs' : starEach [e] X.env = (false, eval e X.env) :: starEach [] X.env := by rfl) : WI X (.Tuple elts kk tpos) (.Call (.Name "enumerate" p0) [e] [] pos) Γ μ R := fun Z σ H en ok => by
  refine toI (pi_enum B.gl B.mg (pa_cons pe_S pa_nil hs') hs) ?_
  refine h.use (Go.refl ok) en fun v H1 μ1 x g1 _ en1 i1 q1 => ?_
  obtain ⟨ds, sq, q⟩ := q1
  obtain ⟨p, rfl, at_⟩ := sq.at g1.ok i1
  obtain ⟨vs, s1, t1⟩ := at_ Z μ1 H1 g1.ok Fz.refl sq.still
  refine ⟨p, vs, rfl, s1, μ1, _, _, g1, ?_, q⟩
  intro Z' i μ' H' ok' f st
  obtain ⟨vs', s', t'⟩ := at_ Z' μ' H' ok' f st
  rw [enumD_len]
  refine ⟨fun hi => ?_, fun hi => ⟨vs', s', by rw [t'.length]; exact hi⟩⟩
  have hv : i < vs'.length := by rw [t'.length]; exact hi
  refine ⟨⟨vs', vs'[i], s', List.getElem?_eq_getElem hv⟩, fun w H2 ⟨T, x', e1, hT, e2, y⟩ => ?_⟩
  subst e1 e2
  obtain ⟨d, h1, h2⟩ := t'.getV (y vs' s')
  refine ⟨_, enumD_get ds 0 i d h1, Go.frz ok' hT _, ?_⟩
  rw [Nat.zero_add]
  exact Is.newT ok' hT (.cons (.int _) (.cons h2 .nil))
def zipD : List D → List D → List D
  | a :: r, b :: s => .tup [a, b] :: zipD r s
  | _, _ => []
theorem zipD_len : ∀ (xs ys : List D), (zipD xs ys).length = min xs.length ys.length
  | [], ys => by simp [zipD]
  | _ :: _, [] => by simp [zipD]
  | a :: r, b :: s => by simp [zipD, zipD_len r s, Nat.succ_min_succ]
theorem zipD_get : ∀ (xs ys : List D) (i : Nat) (x y : D), xs[i]? = some x → ys[i]? = some y → (zipD xs ys)[i]? = some (.tup [x, y])
  | [], _, _, _, _, h, _ => by simp at h
  | _ :: _, [], _, _, _, _, h => by simp at h
  | a :: r, b :: s, 0, x, y, h1, h2 => by simp at h1 h2; subst h1 h2; rfl
  | a :: r, b :: s, i + 1, x, y, h1, h2 => zipD_get r s i x y (by simpa using h1) (by simpa using h2)
theorem zipD_inv {xs ys : List D} {i : Nat} {d : D} (h : (zipD xs ys)[i]? = some d) : ∃ x y, xs[i]? = some x ∧ ys[i]? = some y ∧ d = .tup [x, y] := by
  have hi : i < (zipD xs ys).length := (List.getElem?_eq_some_iff.mp h).1
  rw [zipD_len] at hi
  have h1 : i < xs.length := by omega
  have h2 : i < ys.length := by omega
  refine ⟨xs[i], ys[i], List.getElem?_eq_getElem h1, List.getElem?_eq_getElem h2, ?_⟩
  have := zipD_get xs ys i _ _ (List.getElem?_eq_getElem h1) (List.getElem?_eq_getElem h2)
  rw [h] at this
  exact Option.some.inj this
theorem wi_zip {elts : List Expr} {kk : Nat} {tpos : Pos} (B : Bl X "zip") (h : WE X a Γ μ fun μ1 x => WE X b Γ μ1 fun μ2 y => ∃ ds es, SeqL μ2 x ds ∧ SeqL μ2 y es ∧ R μ2 (zipD ds es) fun μ' => Still x ds μ' ∧ Still y es μ')
    (hs : starEach [a, b] X.env = (false, eval a X.env) :: starEach [b] X.env := by rfl) (hpl : (backTo pos (starEach [b] X.env)).any (·.1) = false := by rfl) (hs3 : starEach [b] X.env = (false, eval b X.env) :: starEach [] X.env := by rfl) :
    WI X (.Tuple elts kk tpos) (.Call (.Name "zip" p0) [a, b] [] pos) Γ μ R := fun Z σ H en ok => by
  refine toI (pi_zip B.gl B.mg (pa_cons pe_S (pa_cons pe_S pa_nil hs3) hs) hs hpl) ?_
  refine h.use (Go.refl ok) en fun v H1 μ1 x g1 _ en1 i1 q1 => ?_
  refine q1.use g1 en1 fun w H2 μ2 y g2 g2' en2 i2 q2 => ?_
  obtain ⟨ds, es, sq1, sq2, q⟩ := q2
  obtain ⟨p, rfl, at1⟩ := sq1.at g2.ok (i1.mono g2'.fz)
  obtain ⟨r, rfl, at2⟩ := sq2.at g2.ok i2
  obtain ⟨vs, s1, t1⟩ := at1 Z μ2 H2 g2.ok Fz.refl sq1.still
  obtain ⟨ws, s2, t2⟩ := at2 Z μ2 H2 g2.ok Fz.refl sq2.still
  refine ⟨p, r, vs, ws, rfl, s1, s2, μ2, _, _, g2, ?_, q⟩
  intro Z' i μ' H' ok' f st
  obtain ⟨vs', s1', t1'⟩ := at1 Z' μ' H' ok' f st.1
  obtain ⟨ws', s2', t2'⟩ := at2 Z' μ' H' ok' f st.2
  rw [zipD_len]
  refine ⟨fun hi => ?_, fun hi => ⟨vs', ws', s1', s2', by rw [t1'.length, t2'.length]; omega⟩⟩
  have hv : i < vs'.length := by rw [t1'.length]; omega
  have hw : i < ws'.length := by rw [t2'.length]; omega
  refine ⟨⟨vs', ws', vs'[i], ws'[i], s1', s2', List.getElem?_eq_getElem hv, List.getElem?_eq_getElem hw⟩, fun u H3 ⟨T, x', y', e1, hT, e2, yx, yy⟩ => ?_⟩
  subst e1 e2
  obtain ⟨d, h1, h2⟩ := t1'.getV (yx vs' s1')
  obtain ⟨d', h1', h2'⟩ := t2'.getV (yy ws' s2')
  exact ⟨_, zipD_get ds es i d d' h1 h1', Go.frz ok' hT _, Is.newT ok' hT (.cons h2 (.cons h2' .nil))⟩
end

/-- a comprehension's block -/
def Blk (X : Cx) (scope : Scope) (X' : Cx) : Prop := ∃ (s : Shared) (H : Hp) (C : Addr) (cl : List (Str × Addr)) (fp : List Addr), X' = X.blk s H scope (compEnvC scope cl C X.env) fp
def NoneAt (Γ : Gm) : List Nat → Prop
  | [] => True
  | i :: r => Γ[i]? = some none ∧ NoneAt Γ r
theorem NoneAt.get {Γ : Gm} : ∀ {ws : List Nat} {i : Nat}, NoneAt Γ ws → i ∈ ws → Γ[i]? = some none
  | w :: ws, i, h, hi => by
    rcases List.mem_cons.mp hi with e | hi
    · subst e; exact h.1
    · exact NoneAt.get h.2 hi
theorem wipe_get {σ : L2.St} {i : Nat} : ∀ {ws : List Nat}, i ∉ ws → (wipe σ ws)[i]? = σ[i]?
  | [], _ => rfl
  | w :: ws, h => by
    unfold wipe
    rw [List.getElem?_set_ne (fun e => h (by rw [e]; exact List.mem_cons_self))]
    exact wipe_get fun z => h (List.mem_cons_of_mem _ z)
theorem wipe_in {σ : L2.St} {i : Nat} : ∀ {ws : List Nat}, i ∈ ws → i < σ.length → (wipe σ ws)[i]? = some none
  | w :: ws, h, hl => by
    unfold wipe
    by_cases e : w = i
    · subst e
      exact List.getElem?_set_self (by rw [wipe_length]; exact hl)
    · rw [List.getElem?_set_ne e]
      rcases List.mem_cons.mp h with z | z
      · exact absurd z.symm e
      · exact wipe_in z hl
theorem wipe_wipe {σ : L2.St} {ws : List Nat} : wipe (wipe σ ws) ws = wipe σ ws := by
  apply List.ext_getElem?
  intro i
  by_cases hi : i ∈ ws
  · by_cases hl : i < σ.length
    · rw [wipe_in hi (by rw [wipe_length]; exact hl), wipe_in hi hl]
    · rw [List.getElem?_eq_none (by rw [wipe_length, wipe_length]; omega), List.getElem?_eq_none (by rw [wipe_length]; omega)]
  · rw [wipe_get hi]
theorem En.wipe {K : PySem.W.Frag} {A : Addr → Prop} {H : Hp} {σ : L2.St} {Γ : Gm} {ws : List Nat} (en : En K A H σ Γ) (n : NoneAt Γ ws) : En K A H (L2.wipe σ ws) Γ := by
  refine ⟨by rw [wipe_length]; exact en.len, fun i d e => ?_⟩
  obtain ⟨v, h1, h2⟩ := en.at_ i d e
  refine ⟨v, ?_, h2⟩
  rw [wipe_get fun z => by rw [n.get z] at e; cases e]
  exact h1
/-- the tests of a comprehension -/
def STs (X : Cx) (ifs : List Expr) (σ : L2.St) (H : Hp) (Q : Bool → Hp → Prop) : Prop := ∀ pins s, Inv X pins σ H s →
  wpAny (model X.prog X.w) X.A (forIn ifs true fun c r => if r = true then do let ok ← isTrue c X.env (eval c X.env); pure (ForInStep.yield ok) else pure (ForInStep.yield r)) (TP X pins σ Q) X.xe s
def WTs (X : Cx) (ifs : List Expr) (Γ : Gm) (μ : Mu) (Q : Mu → Bool → Prop) : Prop := ∀ Z σ H, En X.K (Av μ Z) H σ Γ → Ok X.K μ Z H → STs X ifs σ H (PostT X.K Z μ H Q)
theorem wts_nil {X : Cx} {Γ : Gm} {μ : Mu} {Q : Mu → Bool → Prop} (q : Q μ true) : WTs X [] Γ μ Q := fun Z σ H en ok pins s I => pts_nil.run pins s σ H _ I ⟨μ, Go.refl ok, q⟩
theorem wts_one {X : Cx} {Γ : Gm} {μ : Mu} {c : Expr} {Q : Mu → Bool → Prop} (h : WT X c Γ μ Q) : WTs X [c] Γ μ Q := fun Z σ H en ok pins s I => (pts_one pt_S).run pins s σ H _ I (h Z σ H en ok)
section
variable {K : PySem.W.Frag} {Z : Addr → Prop} {μ μ' : Mu} {H H' : Hp} {p : Addr}
/-- others' objects and one more -/
def orZ (Z : Addr → Prop) (p : Addr) : Addr → Prop := fun a => Z a ∨ a = p
theorem Fz.drop {A : Addr → Prop} {H : Hp} {B : Addr → Prop} (h : ∀ a, B a → A a) : Fz A H B H := fun a o e n => ⟨e, fun z => n (h a z)⟩
theorem av_orZ : ∀ a, Av μ Z a → Av μ (orZ Z p) a := fun a h => h.elim .inl fun z => .inr (.inl z)
theorem Ok.unhide (ok : Ok K μ (orZ Z p) H) : Ok K μ Z H := ⟨fun a o e => (ok.at_ a o e).mono (Fz.drop av_orZ) rfl, fun a z => ok.hid a (.inl z)⟩
theorem Ok.hide (ok : Ok K μ Z H) (h : H p = none) (u : HO) : Ok K μ (orZ Z p) (upd H p u) ∧ Fz (Av μ Z) H (Av μ (orZ Z p)) (upd H p u) := by
  obtain ⟨n1, n2⟩ := ok.fresh h
  have fz : Fz (Av μ Z) H (Av μ (orZ Z p)) (upd H p u) := fun a o e n => by
    have ne := ne_of_none e h
    exact ⟨by rw [upd_ne ne]; exact e, fun z => z.elim (fun z => n (.inl z)) fun z => z.elim (fun z => n (.inr z)) ne⟩
  refine ⟨⟨fun a o e => (ok.at_ a o e).mono fz (upd_ne fun z => by subst z; rw [n1] at e; cases e), fun a z => ?_⟩, fz⟩
  rcases z with z | z
  · obtain ⟨z1, o, z2⟩ := ok.hid a z
    exact ⟨z1, o, by rw [upd_ne (ne_of_none z2 h)]; exact z2⟩
  · subst z; exact ⟨n1, u, upd_same⟩
/-- the hidden object is written -/
theorem Ok.write (ok : Ok K μ (orZ Z p) H) (hz : ¬ Z p) (u : HO) : Ok K μ (orZ Z p) (upd H p u) ∧ Fz (Av μ (orZ Z p)) H (Av μ (orZ Z p)) (upd H p u) := by
  have ne : ∀ a o, H a = some o → ¬ Av μ (orZ Z p) a → a ≠ p := fun a o _ n z => n (.inr (.inr z))
  have fz : Fz (Av μ (orZ Z p)) H (Av μ (orZ Z p)) (upd H p u) := fun a o e n => ⟨by rw [upd_ne (ne a o e n)]; exact e, n⟩
  refine ⟨⟨fun a o e => (ok.at_ a o e).mono fz (upd_ne fun z => ?_), fun a z => ?_⟩, fz⟩
  · subst z
    rw [(ok.hid a (.inr rfl)).1] at e; cases e
  · obtain ⟨z1, o, z2⟩ := ok.hid a z
    by_cases ha : a = p
    · subst ha; exact ⟨z1, u, upd_same⟩
    · exact ⟨z1, o, by rw [upd_ne ha]; exact z2⟩
end
section
variable {X : Cx} {Γ : Gm} {μ : Mu} {elt tg iter : Expr} {ifs : List Expr} {scope : Scope} {own : List (Str × Nat)} {pos : Pos} {vs : List Nat} {Q : Mu → D → Prop}
/-- what the block is to show: J i acc of the state ahead of turn i; P at the end -/
def Lc (X : Cx) (elt tg : Expr) (ifs : List Expr) (scope : Scope) (vs : List Nat) (Γ : Gm) (μ1 : Mu) (ds : List D) (G : Mu → Prop) (P : List D → Mu → Prop) : Prop :=
  ∃ J : Nat → List D → Mu → Prop, J 0 [] μ1 ∧ (∀ i acc μ', i ≤ ds.length → J i acc μ' → G μ') ∧
    (∀ i d acc μ', ds[i]? = some d → J i acc μ' → ∃ Γ2, (∀ X', Blk X scope X' → WG X' tg vs d Γ μ' fun Γ3 μ3 => Γ3 = Γ2 ∧ μ3 = μ') ∧ ∀ X', Blk X scope X' → WTs X' ifs Γ2 μ' fun μ3 b =>
      if b = true then ∀ X', Blk X scope X' → WE X' elt Γ2 μ3 fun μ4 y => acc.length < sizeLine ∧ J (i + 1) (acc ++ [y]) μ4 else J (i + 1) acc μ3) ∧
    (∀ acc μ', J ds.length acc μ' → P acc μ')
theorem SI.mono {σ : L2.St} {H : Hp} {R R' : It → Hp → Prop} (h : SI X tg iter σ H R) (f : ∀ J H', R J H' → R' J H') : SI X tg iter σ H R' := fun pins s I => thn (h pins s I) fun v s1 q => thn q fun itv s2 q2 => by
  obtain ⟨it, fp, tn, J, H1, e1, I1, T, st, fo, r⟩ := q2
  exact ⟨it, fp, tn, J, H1, e1, I1, T, st, fo, f J H1 r⟩
theorem STs.mono {σ : L2.St} {H : Hp} {Q Q' : Bool → Hp → Prop} (h : STs X ifs σ H Q) (f : ∀ b H', Q b H' → Q' b H') : STs X ifs σ H Q' := fun pins s I => thn (h pins s I) fun _ _ ⟨H', I', q⟩ => ⟨H', I', f _ _ q⟩
theorem lc_read (hn : NoneAt Γ (own.map (·.2))) (hv : ∀ i ∈ vs, i ∈ own.map (·.2)) {σ : L2.St} {Z : Addr → Prop} {H : Hp} {Qv : VK} (en : En X.K (Av μ Z) H σ Γ) (ok : Ok X.K μ Z H) {P : List D → Mu → Prop}
    (fin : ∀ D μ1 H1 μ' H' acc ws, H1 D = none → Go X.K Z μ H μ1 H1 → Ok X.K μ' (orZ Z D) H' → Fz (Av μ1 Z) H1 (Av μ' (orZ Z D)) H' → (∀ a, Z a → H' a = H1 a) → H' D = some (.lst ws) → IsA X.K (Av μ' (orZ Z D)) H' ws acc → P acc μ' → Qv (.ref D) H')
    (h : WI X tg iter Γ μ fun μ1 ds G => Lc X elt tg ifs scope vs Γ μ1 ds G P) :
    tLc (SI X tg iter) (fun v σ H Q => ∀ s H0 C cl fp, SG (X.blk s H0 scope (compEnvC scope cl C X.env) fp) tg v σ H Q) (fun σ H Q => ∀ s H0 C cl fp, STs (X.blk s H0 scope (compEnvC scope cl C X.env) fp) ifs σ H Q)
      (fun σ H Q => ∀ s H0 C cl fp, SE (X.blk s H0 scope (compEnvC scope cl C X.env) fp) elt σ H Q) (own.map (·.2)) σ H Qv := by
  refine SI.mono (h Z σ H en ok) fun J H1 q1 => ?_
  obtain ⟨μ1, ds, G, g1, Y, Jn, j0, jG, jb, jd⟩ := q1
  intro D hD
  obtain ⟨_, nz⟩ := g1.ok.fresh hD
  obtain ⟨ok0, fz0⟩ := g1.ok.hide hD (.lst [])
  refine ⟨fun i m H' => m = ds.length - i ∧ i ≤ ds.length ∧ ∃ acc ws μ', Ok X.K μ' (orZ Z D) H' ∧ Fz (Av μ1 Z) H1 (Av μ' (orZ Z D)) H' ∧ (∀ a, Z a → H' a = H1 a) ∧ H' D = some (.lst ws) ∧ IsA X.K (Av μ' (orZ Z D)) H' ws acc ∧ Jn i acc μ',
    ⟨ds.length, rfl, Nat.zero_le _, [], [], μ1, ok0, fz0, fun a z => upd_ne fun e => nz (by rw [← e]; exact z), upd_same, .nil, j0⟩, ?_⟩
  rintro i m H' ⟨rfl, hi, acc, ws, μ', ok', fz', zk', hDl, t', hj⟩
  obtain ⟨y1, y2⟩ := Y (orZ Z D) i μ' H' ok' fz' (jG i acc μ' hi hj)
  by_cases hlt : i < ds.length
  · refine .inr ⟨(y1 hlt).1, fun H2 => ∃ acc ws μ', Ok X.K μ' (orZ Z D) H2 ∧ Fz (Av μ1 Z) H1 (Av μ' (orZ Z D)) H2 ∧ (∀ a, Z a → H2 a = H1 a) ∧ H2 D = some (.lst ws) ∧ IsA X.K (Av μ' (orZ Z D)) H2 ws acc ∧ Jn (i + 1) acc μ', fun H2 q => ⟨ds.length - (i + 1), by omega, rfl, hlt, q⟩, fun x H2 hy => ?_⟩
    obtain ⟨d, hd1, g2, is⟩ := (y1 hlt).2 x H2 hy
    obtain ⟨Γ2, hg, ht⟩ := jb i d acc μ' hd1 hj
    have enw : En X.K (Av μ' (orZ Z D)) H2 (L2.wipe σ (own.map (·.2))) Γ := ((en.mono g1.fz).mono (fz'.trans g2.fz)).wipe hn
    intro s0 H0 C0 cl0 fp0
    refine ((hg _ ⟨s0, H0, C0, cl0, fp0, rfl⟩) (orZ Z D) _ H2 x enw g2.ok is).mono fun σ3 H3 ⟨⟨Γ3, μ3, g3, en3, e3, e4⟩, w3⟩ => ?_
    subst e3 e4
    refine ⟨(w3 _ hv).trans wipe_wipe, ?_⟩
    intro s0 H0 C0 cl0 fp0
    refine STs.mono ((ht _ ⟨s0, H0, C0, cl0, fp0, rfl⟩) (orZ Z D) σ3 H3 en3 g3.ok) fun b H4 ⟨μ4, g4, q4⟩ => ?_
    have g24 := (g2.trans g3).trans g4
    cases b with
    | false => exact ⟨acc, ws, μ4, g4.ok, fz'.trans g24.fz, fun a z => (g24.zk a (.inl z)).trans (zk' a z), (g24.zk D (.inr rfl)).trans hDl, t'.mono g24.fz, q4⟩
    | true =>
      show ∀ s H0 C cl fp, SE _ elt σ3 H4 _
      intro s0 H0 C0 cl0 fp0
      refine ((q4 _ ⟨s0, H0, C0, cl0, fp0, rfl⟩) (orZ Z D) σ3 H4 (en3.mono g4.fz) g4.ok).mono fun y H5 ⟨μ5, d5, g5, i5, hl, q5⟩ => ?_
      have g25 := g24.trans g5
      have hD5 : H5 D = some (.lst ws) := (g25.zk D (.inr rfl)).trans hDl
      have t5 := t'.mono g25.fz
      obtain ⟨ok6, fz6⟩ := g5.ok.write nz (.lst (ws ++ [y]))
      refine ⟨ws, hD5, by rw [t5.length]; exact hl, acc ++ [d5], ws ++ [y], μ5, ok6, (fz'.trans g25.fz).trans fz6, fun a z => ?_, upd_same, (t5.append (.cons i5 .nil)).mono fz6, q5⟩
      rw [upd_ne (fun e => nz (by rw [← e]; exact z))]
      exact (g25.zk a (.inl z)).trans (zk' a z)
  · have e : i = ds.length := by omega
    subst e
    exact .inl ⟨y2 (Nat.le_refl _), fin D μ1 H1 μ' H' acc ws hD g1 ok' fz' zk' hDl t' (jd acc μ' hj)⟩
theorem pts_S {scope : Scope} : ∀ (s : Shared) (H : Hp) (C : Addr) (cl : List (Str × Addr)) (fp : List Addr), PTs (X.blk s H scope (compEnvC scope cl C X.env) fp) ifs (fun σ H Q => ∀ s H0 C cl fp, STs (X.blk s H0 scope (compEnvC scope cl C X.env) fp) ifs σ H Q) :=
  fun s H C cl fp => ⟨fun _ _ _ _ _ I h => h s H C cl fp _ _ I⟩
theorem pgb_S {scope : Scope} : ∀ (s : Shared) (H : Hp) (C : Addr) (cl : List (Str × Addr)) (fp : List Addr), PG (X.blk s H scope (compEnvC scope cl C X.env) fp) tg (fun v σ H Q => ∀ s H0 C cl fp, SG (X.blk s H0 scope (compEnvC scope cl C X.env) fp) tg v σ H Q) :=
  fun s H C cl fp => ⟨fun _ _ _ _ _ _ _ I r h => h s H C cl fp _ _ _ I r⟩
theorem peb_S {scope : Scope} : ∀ (s : Shared) (H : Hp) (C : Addr) (cl : List (Str × Addr)) (fp : List Addr), PE (X.blk s H scope (compEnvC scope cl C X.env) fp) elt (fun σ H Q => ∀ s H0 C cl fp, SE (X.blk s H0 scope (compEnvC scope cl C X.env) fp) elt σ H Q) :=
  fun s H C cl fp => ⟨fun _ _ _ _ _ I h => h s H C cl fp _ _ I⟩
/-- the new list, fixed | to be changed -/
theorem lc_fix {K : PySem.W.Frag} {Z : Addr → Prop} {μ μ1 μ' : Mu} {H H1 H' : Hp} {p : Addr} {acc : List D} {ws : List V} (hD : H1 p = none) (g1 : Go K Z μ H μ1 H1) (ok' : Ok K μ' (orZ Z p) H') (fz' : Fz (Av μ1 Z) H1 (Av μ' (orZ Z p)) H') (zk' : ∀ a, Z a → H' a = H1 a)
    (hl : H' p = some (.lst ws)) (t' : IsA K (Av μ' (orZ Z p)) H' ws acc) : Go K Z μ H μ' H' ∧ Is K (Av μ' Z) H' (.ref p) (.lst acc) := by
  have d := Fz.drop (H := H') (av_orZ (μ := μ') (Z := Z) (p := p))
  obtain ⟨_, nz⟩ := g1.ok.fresh hD
  refine ⟨g1.trans ⟨ok'.unhide, fz'.trans d, zk'⟩, .lst (.inl ⟨?_, .inl hl⟩) (t'.mono d)⟩
  rintro (z | z)
  · exact z (ok'.hid p (.inr rfl)).1
  · exact nz z
theorem lc_mut {K : PySem.W.Frag} {Z : Addr → Prop} {μ μ1 μ' : Mu} {H H1 H' : Hp} {p : Addr} {acc : List D} {ws : List V} (hD : H1 p = none) (g1 : Go K Z μ H μ1 H1) (ok' : Ok K μ' (orZ Z p) H') (fz' : Fz (Av μ1 Z) H1 (Av μ' (orZ Z p)) H') (zk' : ∀ a, Z a → H' a = H1 a)
    (hl : H' p = some (.lst ws)) (t' : IsA K (Av μ' (orZ Z p)) H' ws acc) : μ' p = none ∧ Go K Z μ H (updM μ' p (.lst acc)) H' := by
  obtain ⟨n1, nz⟩ := g1.ok.fresh hD
  have n' := (ok'.hid p (.inr rfl)).1
  have d : Fz (Av μ' (orZ Z p)) H' (Av (updM μ' p (.lst acc)) Z) H' := fun a o e n => ⟨e, by
    rintro (z | z)
    · by_cases ha : a = p
      · exact n (.inr (.inr ha))
      · rw [updM_ne ha] at z; exact n (.inl z)
    · exact n (.inr (.inl z))⟩
  refine ⟨n', g1.trans ⟨⟨fun a o e => ?_, fun a z => ?_⟩, fz'.trans d, zk'⟩⟩
  · by_cases ha : a = p
    · subst ha
      rw [updM_same] at e; cases e
      exact ⟨ws, hl, t'.mono d⟩
    · rw [updM_ne ha] at e
      exact (ok'.at_ a o e).mono d rfl
  · obtain ⟨z1, z2⟩ := ok'.hid a (.inl z)
    have ha : a ≠ p := fun e => nz (by rw [← e]; exact z)
    exact ⟨by rw [updM_ne ha]; exact z1, z2⟩
theorem we_lc (hc : X.calm = true) (hN : X.N.Nodup) (ok : BlkOk X.N X.env.scope scope own) (hn : NoneAt Γ (own.map (·.2))) (hv : ∀ i ∈ vs, i ∈ own.map (·.2))
    (h : WI X tg iter Γ μ fun μ1 ds G => Lc X elt tg ifs scope vs Γ μ1 ds G fun acc μ' => Q μ' (.lst acc)) (hs : ∀ x, foldedSetIterable iter X.env x = pure x := by intro _; rfl) : WE X (.ListComp elt [⟨tg, iter, ifs, 0⟩] scope pos) Γ μ Q := fun Z σ H en okm => by
  refine toS (pe_lc hc hN pi_S ok pgb_S pts_S peb_S hs) ?_
  refine lc_read hn hv en okm (fun D μ1 H1 μ' H' acc ws hD g1 ok' fz' zk' hl t' q => ?_) h
  obtain ⟨a1, a2⟩ := lc_fix hD g1 ok' fz' zk' hl t'
  exact ⟨μ', _, a1, a2, q⟩
theorem we_lcM (hc : X.calm = true) (hN : X.N.Nodup) (ok : BlkOk X.N X.env.scope scope own) (hn : NoneAt Γ (own.map (·.2))) (hv : ∀ i ∈ vs, i ∈ own.map (·.2))
    (h : WI X tg iter Γ μ fun μ1 ds G => Lc X elt tg ifs scope vs Γ μ1 ds G fun acc μ' => ∀ p, μ' p = none → Q (updM μ' p (.lst acc)) (.ref p)) (hs : ∀ x, foldedSetIterable iter X.env x = pure x := by intro _; rfl) : WE X (.ListComp elt [⟨tg, iter, ifs, 0⟩] scope pos) Γ μ Q := fun Z σ H en okm => by
  refine toS (pe_lc hc hN pi_S ok pgb_S pts_S peb_S hs) ?_
  refine lc_read hn hv en okm (fun D μ1 H1 μ' H' acc ws hD g1 ok' fz' zk' hl t' q => ?_) h
  obtain ⟨a1, a2⟩ := lc_mut hD g1 ok' fz' zk' hl t'
  exact ⟨_, _, a2, .ref D, q D a1⟩
/-- x = [..], x a local -/
theorem ws_setLc {k : Kt} {x : Str} {i : Nat} {px spos : Pos} (hc : X.calm = true) (n : Nw X x i) (hl : X.env.scope.names.lookup x = some .local) (hsw : swapsWith (.ListComp elt [⟨tg, iter, ifs, 0⟩] scope pos) (some (.Name x px)) spos.line X.env = pure true)
    (ok : BlkOk X.N X.env.scope scope own) (hn : NoneAt Γ (own.map (·.2))) (hv : ∀ i ∈ vs, i ∈ own.map (·.2))
    (h : WI X tg iter Γ μ fun μ1 ds G => Lc X elt tg ifs scope vs Γ μ1 ds G fun acc μ' => SetQ Γ i (.lst acc) fun Γ' => k.nx Γ' μ') (hs : ∀ x, foldedSetIterable iter X.env x = pure x := by intro _; rfl) : WS X (.Assign [.Name x px] (.ListComp elt [⟨tg, iter, ifs, 0⟩] scope pos) spos) Γ μ k := fun Z σ H en okm => by
  refine toSS (ps_setLc hc n.nd n.ix hl hsw pi_S ok pgb_S pts_S peb_S hs) ?_
  refine lc_read hn hv en okm (fun D μ1 H1 μ' H' acc ws hD g1 ok' fz' zk' hl t' q => ?_) h
  obtain ⟨a1, a2⟩ := lc_fix hD g1 ok' fz' zk' hl t'
  obtain ⟨Γ', s, q⟩ := q
  exact ⟨Γ', μ', a1, by rw [s.eq]; exact (en.mono a1.fz).set i a2, q⟩
theorem ws_setLcM {k : Kt} {x : Str} {i : Nat} {px spos : Pos} (hc : X.calm = true) (n : Nw X x i) (hl : X.env.scope.names.lookup x = some .local) (hsw : swapsWith (.ListComp elt [⟨tg, iter, ifs, 0⟩] scope pos) (some (.Name x px)) spos.line X.env = pure true)
    (ok : BlkOk X.N X.env.scope scope own) (hn : NoneAt Γ (own.map (·.2))) (hv : ∀ i ∈ vs, i ∈ own.map (·.2))
    (h : WI X tg iter Γ μ fun μ1 ds G => Lc X elt tg ifs scope vs Γ μ1 ds G fun acc μ' => ∀ p, μ' p = none → SetQ Γ i (.ref p) fun Γ' => k.nx Γ' (updM μ' p (.lst acc))) (hs : ∀ x, foldedSetIterable iter X.env x = pure x := by intro _; rfl) : WS X (.Assign [.Name x px] (.ListComp elt [⟨tg, iter, ifs, 0⟩] scope pos) spos) Γ μ k := fun Z σ H en okm => by
  refine toSS (ps_setLc hc n.nd n.ix hl hsw pi_S ok pgb_S pts_S peb_S hs) ?_
  refine lc_read hn hv en okm (fun D μ1 H1 μ' H' acc ws hD g1 ok' fz' zk' hl t' q => ?_) h
  obtain ⟨a1, a2⟩ := lc_mut hD g1 ok' fz' zk' hl t'
  obtain ⟨Γ', s, q⟩ := q D a1
  exact ⟨Γ', _, a2, by rw [s.eq]; exact (en.mono a2.fz).set i (.ref D), q⟩
end

structure Ctx (X : Cx) (P : Program) (w : World) (K : PySem.W.Frag) (mg : Str → Option Value) (base : Heap) (k : Nat) (N : List Str) (sc : Scope) : Prop where
  prog : X.prog = P
  w : X.w = w
  K : X.K = K
  mg : X.mg = mg
  base : X.base = base
  N : X.N = N
  sc : X.env.scope = sc
  calm : X.calm = true
  room : Room k X.A
  pass : PassesOwn (model X.prog X.w) X.A X.env X.xe
  nd : X.N.Nodup
def visB (sc : Scope) (x : Str) : Bool := match sc.names.lookup x with
  | some .local => true
  | some .cell => true
  | some .free => true
  | _ => false
def nmB (N : List Str) (sc : Scope) (x : Str) (i : Nat) : Bool := decide (N[i]? = some x) && visB sc x && !(x == ("__debug__" : Str)) && !(x == ("__classdict__" : Str))
def locB (sc : Scope) (x : Str) : Bool := match sc.names.lookup x with
  | some .local => true
  | _ => false
def celB (sc : Scope) (x : Str) : Bool := match sc.names.lookup x with
  | some .cell => true
  | _ => false
def glB (sc : Scope) (x : Str) : Bool := (match sc.names.lookup x with
  | some .globalImplicit => true
  | _ => false) && !(x == ("__debug__" : Str))
theorem visB_ok {sc : Scope} {x : Str} (h : visB sc x = true) : Vis sc x := by
  unfold visB at h
  split at h
  · exact .inl (by assumption)
  · exact .inr (.inl (by assumption))
  · exact .inr (.inr (by assumption))
  · cases h
theorem locB_ok {sc : Scope} {x : Str} (h : locB sc x = true) : sc.names.lookup x = some .local := by
  unfold locB at h
  split at h
  · assumption
  · cases h
theorem celB_ok {sc : Scope} {x : Str} (h : celB sc x = true) : sc.names.lookup x = some .cell := by
  unfold celB at h
  split at h
  · assumption
  · cases h
theorem glB_ok {sc : Scope} {x : Str} (h : glB sc x = true) : sc.names.lookup x = some .globalImplicit ∧ (x == ("__debug__" : Str)) = false := by
  unfold glB at h
  rw [Bool.and_eq_true] at h
  refine ⟨?_, by simpa using h.2⟩
  have h1 := h.1
  split at h1
  · assumption
  · cases h1
/-- a def that callers find by its name; j its level -/
def GFn (P : Program) (w : World) (K : PySem.W.Frag) (mg : Str → Option Value) (base : Heap) (x : Str) (j : Nat) (s : Spc) : Prop :=
  ∃ f fd ps, FnOk P w K mg base CX0 j f fd ps (lift K s) ∧ mg x = some (.ref f) ∧ PySem.W.keepIn K (.ref f) = true ∧ Binds K fd ps [] ∧ s.Mono
def GFk (P : Program) (w : World) (K : PySem.W.Frag) (mg : Str → Option Value) (base : Heap) (x : Str) (j : Nat) (n : Nat) (ks : List Str) (g : {α : Type} → List α → List α → List α) (s : Spc) : Prop :=
  ∃ f fd ps, FnOk P w K mg base CX0 j f fd ps (lift K s) ∧ mg x = some (.ref f) ∧ PySem.W.keepIn K (.ref f) = true ∧ KBn K fd ps n ks (fun us ws => g us ws) (fun us ws => g us ws) ∧ s.Mono
section
variable {X : Cx} {P : Program} {w : World} {K : PySem.W.Frag} {mg : Str → Option Value} {base : Heap} {k : Nat} {N : List Str} {sc scope : Scope}
theorem Ctx.nm (h : Ctx X P w K mg base k N sc) {x : Str} {i : Nat} (b : nmB N sc x i = true) : Nm X x i := by
  unfold nmB at b
  simp only [Bool.and_eq_true, decide_eq_true_eq, Bool.not_eq_true'] at b
  obtain ⟨⟨⟨b1, b2⟩, b3⟩, b4⟩ := b
  exact ⟨by rw [h.N]; exact b1, by rw [h.sc]; exact visB_ok b2, b3, b4⟩
theorem Ctx.nl (h : Ctx X P w K mg base k N sc) {x : Str} {i : Nat} (b : nmB N sc x i = true) (l : locB sc x = true) : Nw X x i :=
  ⟨h.nm b, h.nd, .inl (by rw [h.sc]; exact locB_ok l), .inr (by rw [h.sc]; exact locB_ok l)⟩
theorem Ctx.nc (h : Ctx X P w K mg base k N sc) (f : ∀ x, X.fn x = true) {x : Str} {i : Nat} (b : nmB N sc x i = true) (l : celB sc x = true) : Nw X x i :=
  ⟨h.nm b, h.nd, .inr (by rw [h.sc]; exact celB_ok l), .inl (f x)⟩
theorem Ctx.gl (h : Ctx X P w K mg base k N sc) {x : Str} (b : glB sc x = true) : Gl X x := by
  show X.env.scope.names.lookup x = _
  rw [h.sc]
  exact (glB_ok b).1
theorem Ctx.bl (h : Ctx X P w K mg base k N sc) {x : Str} (b : glB sc x = true) (m : mg x = none) : Bl X x := ⟨h.gl b, by rw [h.mg]; exact m⟩
theorem Ctx.cl (h : Ctx X P w K mg base k N sc) {x : Str} {j : Nat} {s : Spc} (c : GFn P w K mg base x j s) (b : glB sc x = true) (l : j ≤ k) : Cl X x s := by
  obtain ⟨f, fd, ps, F, hm, hk, hb, mo⟩ := c
  obtain ⟨rfl, rfl, rfl, rfl, rfl, rfl, rfl, _, hr, _⟩ := h
  exact ⟨mo, ⟨j, f, fd, ps, F, hr.mono l, hm, hk, hb⟩, (glB_ok b).1, (glB_ok b).2⟩
theorem Ctx.clK (h : Ctx X P w K mg base k N sc) {x : Str} {j n : Nat} {ks : List Str} {g : {α : Type} → List α → List α → List α} {s : Spc} (c : GFk P w K mg base x j n ks g s) (b : glB sc x = true) (l : j ≤ k)
    (rel : ∀ {K : PySem.W.Frag} {A : Addr → Prop} {H : Hp} {vs zs : List V} {ds es : List D}, vs.length = n → zs.length = ks.length → IsA K A H vs ds → IsA K A H zs es → IsA K A H (g vs zs) (g ds es)) : ClK X x n ks g s := by
  obtain ⟨f, fd, ps, F, hm, hk, hb, mo⟩ := c
  obtain ⟨rfl, rfl, rfl, rfl, rfl, rfl, rfl, _, hr, _⟩ := h
  exact ⟨mo, ⟨j, f, fd, ps, F, hr.mono l, hm, hk, hb⟩, (glB_ok b).1, (glB_ok b).2, rel⟩
theorem Ctx.blk (h : Ctx X P w K mg base k N sc) {X' : Cx} (b : Blk X scope X') : Ctx X' P w K mg base k N (relS scope sc) := by
  obtain ⟨s, H, C, cl, fp, rfl⟩ := b
  obtain ⟨h1, h2, h3, h4, h5, h6, h7, h8, h9, h10, h11⟩ := h
  exact ⟨h1, h2, h3, h4, h5, h6, by rw [← h7]; rfl, h8, h9, PassesOwn.never, h11⟩
theorem Ctx.blkOk (h : Ctx X P w K mg base k N sc) {own : List (Str × Nat)} (b : blkC N sc scope own = true) : BlkOk X.N X.env.scope scope own := by
  rw [h.N, h.sc]
  exact blkOk_by b
end
def startG (N : List Str) (ds : List D) : Gm := ds.map some ++ List.replicate (N.length - ds.length) none
theorem startG_en {K : PySem.W.Frag} {A : Addr → Prop} {H : Hp} {N : List Str} : ∀ {vs : List V} {ds : List D}, IsA K A H vs ds → En K A H (start N vs) (startG N ds) := by
  intro vs ds t
  refine ⟨by simp [L2.start, startG, t.length], fun i d e => ?_⟩
  unfold startG at e
  by_cases hi : i < ds.length
  · rw [List.getElem?_append_left (by simpa using hi), List.getElem?_map] at e
    cases q : ds[i]? with
    | none => rw [q] at e; cases e
    | some x =>
      rw [q] at e
      cases e
      obtain ⟨v, h1, h2⟩ := t.get q
      refine ⟨v, ?_, h2⟩
      unfold L2.start
      rw [List.getElem?_append_left (by rw [List.length_map, t.length]; exact hi), List.getElem?_map, h1]
      rfl
  · rw [List.getElem?_append_right (by simpa using hi), List.getElem?_replicate] at e
    split at e <;> cases e
section
variable {P : Program} {w : World} {K : PySem.W.Frag} {mg : Str → Option Value} {base : Heap}
theorem fn_core {qual : Str} {sc : Scope} {f : Addr} {cdv : Value} {A : Around} {outer : List Env} {s : Shared} {H : Hp} {E : XK} {N : List Str} {k : Nat} {body : List Stmt} {sp : Spc} {vs : List V} {Q : VK} (nd : N.Nodup)
    (hb : ∀ X, Ctx X P w K mg base k N sc → (∀ x, X.fn x = true) → ∀ ds μ Q E, sp ds μ Q E → WB X body (startG N ds) μ ⟨fun _ μ' => Q μ' .non, Q, fun _ _ => False, fun _ _ => False⟩)
    (hr : Room k (A.deeper (envOfC qual sc s.heap.objs.size f cdv))) (h : lift K sp vs H Q E) :
    ∃ t, PSs (cxOf CX0 P w K mg base N qual sc f cdv A outer s H E).nox body t ∧ t { nx := fun _ H' => Q .non H', rt := Q } (start N vs) H := by
  obtain ⟨ds, μ, Z, t, ok, h⟩ := h
  refine ⟨SB (cxOf CX0 P w K mg base N qual sc f cdv A outer s H E).nox body, pss_S, ?_⟩
  have c : Ctx (cxOf CX0 P w K mg base N qual sc f cdv A outer s H E).nox P w K mg base k N sc := ⟨rfl, rfl, rfl, rfl, rfl, rfl, rfl, rfl, hr, PassesOwn.never, nd⟩
  refine SB.mono ?_ (hb _ c (fun _ => rfl) ds μ _ _ h Z (start N vs) H (startG_en t) ok)
  exact ⟨fun σ' H' ⟨Γ', μ', g, en, q⟩ => q .non H' g .non, fun v H' ⟨μ', d, g, i, q⟩ => q v H' g i, fun σ' H' ⟨Γ', μ', g, en, q⟩ => q, fun σ' H' ⟨Γ', μ', g, en, q⟩ => q⟩
theorem fn_dl {x qual : Str} {st : Stmt} {f : Addr} {fd : FuncData} {N ps : List Str} {k : Nat} {sp : Spc} (F : Fun K x qual st f fd) (S : FnScope N ps (defScope st)) (len : ∀ ds μ Q E, sp ds μ Q E → ds.length = ps.length)
    (body : ∀ X, Ctx X P w K mg base k N (defScope st) → (∀ x, X.fn x = true) → ∀ ds μ Q E, sp ds μ Q E → WB X (defBody st) (startG N ds) μ ⟨fun _ μ' => Q μ' .non, Q, fun _ _ => False, fun _ _ => False⟩) : FnOk P w K mg base CX0 (k + 1) f fd ps (lift K sp) := by
  refine F.ok S (fun vs H Q E h => ?_) fun cdv A outer s H vs Q E hr h => fn_core S.nd body hr h
  obtain ⟨ds, μ, Z, t, ok, h⟩ := h
  exact t.length.trans (len _ _ _ _ h)
theorem fn_dlD {x qual : Str} {st : Stmt} {dvs : List V} {kws : List (Str × V)} {f : Addr} {fd : FuncData} {N ps : List Str} {k : Nat} {sp : Spc} (F : FunD K x qual (defArgs st) (defBody st) (defScope st) dvs kws f fd) (S : FnScope N ps (defScope st)) (len : ∀ ds μ Q E, sp ds μ Q E → ds.length = ps.length)
    (body : ∀ X, Ctx X P w K mg base k N (defScope st) → (∀ x, X.fn x = true) → ∀ ds μ Q E, sp ds μ Q E → WB X (defBody st) (startG N ds) μ ⟨fun _ μ' => Q μ' .non, Q, fun _ _ => False, fun _ _ => False⟩) : FnOk P w K mg base CX0 (k + 1) f fd ps (lift K sp) := by
  refine F.ok S (fun vs H Q E h => ?_) fun cdv A outer s H vs Q E hr h => ?_
  · obtain ⟨ds, μ, Z, t, ok, h⟩ := h
    exact t.length.trans (len _ _ _ _ h)
  · obtain ⟨t, h1, h2⟩ := fn_core (outer := outer) (E := E) (s := s) (f := f) (cdv := cdv) (A := A) (qual := qual) S.nd body hr h
    exact ⟨t, h1.nox, h2⟩
/-- how keywords bind, where all parameters are written -/
theorem fun_kbn {x qual : Str} {st : Stmt} {f : Addr} {fd : FuncData} {ps ks : List Str} {n : Nat} {g : {α : Type} → List α → List α → List α} (F : Fun K x qual st f fd)
    (h : ∀ (kV doc pm : Value) (an : Option Addr) (cdv ct : Value) (us ws : List Value), us.length = n → ws.length = ks.length → bindArgs (PySem.W.fnOf x qual (defArgs st) (defBody st) (defScope st) .none kV doc pm an cdv ct) ⟨us, ks.zip ws⟩ = pure (ps.zip (g us ws)))
    (rel : ∀ {vs : List V} {us : List Value} {zs : List V} {ws : List Value}, Vals vs us → Vals zs ws → Vals (g vs zs) (g us ws)) : KBn K fd ps n ks (fun us ws => g us ws) (fun us ws => g us ws) := by
  obtain ⟨oc, od, kV, doc, pm, an, cdv, ct, osl, rfl, lk, hcd⟩ := F.ex
  exact ⟨fun s us ws X h1 h2 => .of_eq (h kV doc pm an cdv ct us ws h1 h2), rel⟩
end
def spLaw : Spc := fun ds _ Q _ => ∃ ns : List Int, ds = [.lst (ns.map D.int)] ∧ ns.length ≤ 63 ∧ (∀ z ∈ ns, Builtin.Int.intBits z ≤ 1048576) ∧ ∀ μ', Q μ' (.bl true)
theorem spLaw_start {K : PySem.W.Frag} {H : Hp} {a : Addr} {ns : List Int} (hl : ns.length ≤ 63) (hb : ∀ z ∈ ns, Builtin.Int.intBits z ≤ 1048576) (hS : SqL K H a (ns.map V.int)) : lift K spLaw [.ref a] H (fun v _ => v = .bl true) fun _ _ _ => False := by
  refine ⟨[.lst (ns.map D.int)], fun _ => none, fun _ => False, .cons (.lst ?_ (IsA.ints ns)) .nil, ⟨fun a o e => (nomatch e), fun a (z : False) => False.elim z⟩, ns, rfl, hl, hb, fun μ' v H' g i => isBl i⟩
  rcases hS with h | h
  · exact .inl ⟨fun z => Or.elim z (fun z => z rfl) fun z => z, h⟩
  · exact .inr h
end DL

set_option Elab.async false
set_option linter.all false
set_option maxRecDepth 100000
set_option maxHeartbeats 2000000
namespace DL
open PySem PySem.Spec PyProof.Rows L2

/-- a def that reckons: where f has a value for its arguments (and they are fit) it hands that back and leaves all as it was -/
def pureS (f : List D → Option D) (P : List D → Prop := fun _ => True) : Spc := fun ds μ Q _ => ∃ d, f ds = some d ∧ P ds ∧ Q μ d
theorem pure_i {f : List D → Option D} {P : List D → Prop} {ds : List D} {μ : Mu} {Q : Mu → D → Prop} {E : Mu → Xd → Prop} {d : D} (e : f ds = some d) (p : P ds) (q : Q μ d) : pureS f P ds μ Q E := ⟨d, e, p, q⟩
theorem pureS_mono {f : List D → Option D} {P : List D → Prop} : (pureS f P).Mono := fun ds μ Q E Q' E' h1 h2 ⟨d, e, p, q⟩ => ⟨d, e, p, h1 _ _ q⟩
/-- any def -/
def specS {α : Type} (pre : α → List D → Mu → Prop) (post : α → Mu → D → Prop) (xp : α → Mu → Xd → Prop := fun _ _ _ => False) : Spc := fun ds μ Q E => ∃ a, pre a ds μ ∧ (∀ μ' d, post a μ' d → Q μ' d) ∧ ∀ μ' x, xp a μ' x → E μ' x
theorem specS_mono {α : Type} {pre : α → List D → Mu → Prop} {post : α → Mu → D → Prop} {xp : α → Mu → Xd → Prop} : (specS pre post xp).Mono := fun ds μ Q E Q' E' h1 h2 ⟨a, p, q, x⟩ => ⟨a, p, fun μ' d h => h1 _ _ (q _ _ h), fun μ' d h => h2 _ _ (x _ _ h)⟩

theorem ite_dec {p A B : Prop} [Decidable p] (h1 : p → A) (h2 : ¬ p → B) : if decide p = true then A else B := by
  by_cases h : p
  · rw [if_pos (decide_eq_true h)]; exact h1 h
  · rw [if_neg (by simpa using h)]; exact h2 h
theorem ite_ndec {p A B : Prop} [Decidable p] (h1 : ¬ p → A) (h2 : p → B) : if (!decide p) = true then A else B := by
  by_cases h : p
  · rw [if_neg (by simpa using h)]; exact h2 h
  · rw [if_pos (by simpa using h)]; exact h1 h

theorem ite_nt {A B : Prop} (h : B) : if (!true) = true then A else B := h
theorem ite_nf {A B : Prop} (h : A) : if (!false) = true then A else B := h
theorem ediv_bd {a b M : Int} (hb : 0 < b) (h1 : -M ≤ a) (h2 : a ≤ M) : -M ≤ a / b ∧ a / b ≤ M := by
  have hM : 0 ≤ M := by omega
  have hm : M * 1 ≤ M * b := Int.mul_le_mul_of_nonneg_left hb hM
  rw [Int.mul_one] at hm
  refine ⟨Int.le_ediv_of_mul_le hb ?_, Int.ediv_le_of_le_mul hb (by omega)⟩
  rw [Int.neg_mul]
  omega
theorem MulOk.m {i j : Int} (h1 : -(10 ^ 70) < i) (h2 : i < 10 ^ 70) (h3 : -(10 ^ 70) < j) (h4 : j < 10 ^ 70) : DL.MulOk i j :=
  .inr (wide_mul (a := 240) (b := 240) (by omega) (by omega) (by decide) (by decide) (by decide))
section
variable {X : Cx} {P : Program} {w : World} {K : PySem.W.Frag} {mg : Str → Option Value} {base : Heap} {k : Nat} {N : List Str} {sc : Scope} {Γ : Gm} {μ : Mu} {kt : Kt} {elt tg iter c : Expr} {ifs : List Expr} {scope : Scope} {pos spos px : Pos} {vs : List Nat} {x : Str} {i : Nat} {body : List Stmt}
def kindB (sc : Scope) : Bool := match sc.kind with
  | .function => true
  | _ => false
theorem kindB_ok {sc : Scope} (h : kindB sc = true) : sc.kind = .function := by
  unfold kindB at h
  split at h
  · assumption
  · cases h
theorem ctx_setLc (h : Ctx X P w K mg base k N sc) (own : List (Str × Nat)) (n : Nw X x i) (q : WI X tg iter Γ μ fun μ1 ds G => Lc X elt tg ifs scope vs Γ μ1 ds G fun acc μ' => SetQ Γ i (.lst acc) fun Γ' => kt.nx Γ' μ')
    (bl : locB sc x = true := by decide +kernel) (bk : kindB sc = true := by decide +kernel) (ln : (px.line == pos.line) = true := by decide +kernel) (ha : (scope.names.any fun (n, k) => n == x && (k == .local || k == .cell)) = false := by decide +kernel)
    (bc : blkC N sc scope own = true := by decide +kernel) (hn : NoneAt Γ (own.map (·.2)) := by repeat (first | exact trivial | refine ⟨rfl, ?_⟩)) (hv : ∀ i ∈ vs, i ∈ own.map (·.2) := by decide)
    (hs : ∀ x, foldedSetIterable iter X.env x = pure x := by intro _; rfl) : WS X (.Assign [.Name x px] (.ListComp elt [⟨tg, iter, ifs, 0⟩] scope pos) spos) Γ μ kt :=
  ws_setLc h.calm n (by rw [h.sc]; exact locB_ok bl) (sw_true (by rw [h.sc]; exact kindB_ok bk) (by rw [h.sc]; exact locB_ok bl) ln ha) (h.blkOk bc) hn hv q hs
theorem ctx_setLcM (h : Ctx X P w K mg base k N sc) (own : List (Str × Nat)) (n : Nw X x i) (q : WI X tg iter Γ μ fun μ1 ds G => Lc X elt tg ifs scope vs Γ μ1 ds G fun acc μ' => ∀ p, μ' p = none → SetQ Γ i (.ref p) fun Γ' => kt.nx Γ' (updM μ' p (.lst acc)))
    (bl : locB sc x = true := by decide +kernel) (bk : kindB sc = true := by decide +kernel) (ln : (px.line == pos.line) = true := by decide +kernel) (ha : (scope.names.any fun (n, k) => n == x && (k == .local || k == .cell)) = false := by decide +kernel)
    (bc : blkC N sc scope own = true := by decide +kernel) (hn : NoneAt Γ (own.map (·.2)) := by repeat (first | exact trivial | refine ⟨rfl, ?_⟩)) (hv : ∀ i ∈ vs, i ∈ own.map (·.2) := by decide)
    (hs : ∀ x, foldedSetIterable iter X.env x = pure x := by intro _; rfl) : WS X (.Assign [.Name x px] (.ListComp elt [⟨tg, iter, ifs, 0⟩] scope pos) spos) Γ μ kt :=
  ws_setLcM h.calm n (by rw [h.sc]; exact locB_ok bl) (sw_true (by rw [h.sc]; exact kindB_ok bk) (by rw [h.sc]; exact locB_ok bl) ln ha) (h.blkOk bc) hn hv q hs
theorem ctx_lc {Q : Mu → D → Prop} (h : Ctx X P w K mg base k N sc) (own : List (Str × Nat)) (q : WI X tg iter Γ μ fun μ1 ds G => Lc X elt tg ifs scope vs Γ μ1 ds G fun acc μ' => Q μ' (.lst acc))
    (bc : blkC N sc scope own = true := by decide +kernel) (hn : NoneAt Γ (own.map (·.2)) := by repeat (first | exact trivial | refine ⟨rfl, ?_⟩)) (hv : ∀ i ∈ vs, i ∈ own.map (·.2) := by decide)
    (hs : ∀ x, foldedSetIterable iter X.env x = pure x := by intro _; rfl) : WE X (.ListComp elt [⟨tg, iter, ifs, 0⟩] scope pos) Γ μ Q := we_lc h.calm h.nd (h.blkOk bc) hn hv q hs
theorem ctx_lcM {Q : Mu → D → Prop} (h : Ctx X P w K mg base k N sc) (own : List (Str × Nat)) (q : WI X tg iter Γ μ fun μ1 ds G => Lc X elt tg ifs scope vs Γ μ1 ds G fun acc μ' => ∀ p, μ' p = none → Q (updM μ' p (.lst acc)) (.ref p))
    (bc : blkC N sc scope own = true := by decide +kernel) (hn : NoneAt Γ (own.map (·.2)) := by repeat (first | exact trivial | refine ⟨rfl, ?_⟩)) (hv : ∀ i ∈ vs, i ∈ own.map (·.2) := by decide)
    (hs : ∀ x, foldedSetIterable iter X.env x = pure x := by intro _; rfl) : WE X (.ListComp elt [⟨tg, iter, ifs, 0⟩] scope pos) Γ μ Q := we_lcM h.calm h.nd (h.blkOk bc) hn hv q hs
theorem ctx_for (h : Ctx X P w K mg base k N sc)
    (q : WI X tg iter Γ μ fun μ1 ds G => ∃ I : Nat → Gm → Mu → Prop, I 0 Γ μ1 ∧ (∀ i Γ' μ', i ≤ ds.length → I i Γ' μ' → G μ') ∧
      (∀ i d Γ' μ', ds[i]? = some d → I i Γ' μ' → WGx X tg d Γ' μ' fun Γ2 μ2 => WB X body Γ2 μ2 ⟨I (i + 1), kt.rt, kt.nx, I (i + 1)⟩) ∧ (∀ Γ' μ', I ds.length Γ' μ' → kt.nx Γ' μ'))
    (hs : ∀ x, foldedSetIterable iter X.env x = pure x := by intro _; rfl) : WS X (.For tg iter body [] pos) Γ μ kt := ws_for h.pass h.calm q hs
theorem ctx_while (h : Ctx X P w K mg base k N sc) (I : Nat → Gm → Mu → Prop) (h0 : ∃ m, I m Γ μ)
    (hs : ∀ m Γ' μ', I m Γ' μ' → WT X c Γ' μ' fun μ1 b => if b = true then WB X body Γ' μ1 ⟨fun Γ2 μ2 => ∃ m', m' < m ∧ I m' Γ2 μ2, kt.rt, kt.nx, fun Γ2 μ2 => ∃ m', m' < m ∧ I m' Γ2 μ2⟩ else kt.nx Γ' μ1) : WS X (.While c body [] pos) Γ μ kt := ws_while h.pass I h0 hs
theorem ctx_tupx {tgs : List Expr} {x1} {ds : List D} {M : Gm → Mu → Prop} (h : Ctx X P w K mg base k N sc) (q : WGlx X tgs ds Γ μ M) (hl : ds.length = (assignEach tgs X.env).length := by rfl)
    (hst : (assignEach tgs X.env).findIdx? (·.1) = none := by rfl) : WGx X (.Tuple tgs x1 pos) (.tup ds) Γ μ M := wx_tup h.calm q hl hst
theorem ctx_tup {tgs : List Expr} {x1} {ds : List D} {M : Gm → Mu → Prop} (h : Ctx X P w K mg base k N sc) (q : WGl X tgs vs ds Γ μ M) (hl : ds.length = (assignEach tgs X.env).length := by rfl)
    (hst : (assignEach tgs X.env).findIdx? (·.1) = none := by rfl) : WG X (.Tuple tgs x1 pos) vs (.tup ds) Γ μ M := wg_tup h.calm q hl hst
end
/-- a comprehension that only reckons: T the slots of an item, p the test, f the item made -/
theorem lc_pure {X : Cx} {Γ : Gm} {μ1 : Mu} {elt tg : Expr} {ifs : List Expr} {scope : Scope} {vs : List Nat} {ds : List D} {G : Mu → Prop} {P : List D → Mu → Prop} (T : D → Gm) (p : D → Bool) (f : D → D) (hG : G μ1) (hl : ds.length < sizeLine)
    (ht : ∀ X', Blk X scope X' → ∀ d ∈ ds, WG X' tg vs d Γ μ1 fun Γ3 μ3 => Γ3 = T d ∧ μ3 = μ1) (hp : ∀ X', Blk X scope X' → ∀ d ∈ ds, WTs X' ifs (T d) μ1 fun μ3 b => μ3 = μ1 ∧ b = p d)
    (he : ∀ X', Blk X scope X' → ∀ d ∈ ds, p d = true → WE X' elt (T d) μ1 fun μ4 y => μ4 = μ1 ∧ y = f d) (hP : P ((ds.filter p).map f) μ1) : Lc X elt tg ifs scope vs Γ μ1 ds G P := by
  refine ⟨fun i acc μ' => μ' = μ1 ∧ acc = ((ds.take i).filter p).map f, ⟨rfl, rfl⟩, fun i acc μ' _ h => by rw [h.1]; exact hG, fun i d acc μ' hd h => ?_, fun acc μ' h => ?_⟩
  · obtain ⟨rfl, rfl⟩ := h
    have hm : d ∈ ds := List.mem_of_getElem? hd
    refine ⟨T d, fun X' b => ht X' b d hm, fun X' b Z σ H en ok => ?_⟩
    refine STs.mono (hp X' b d hm Z σ H en ok) fun b H' ⟨μ3, g3, e3, eb⟩ => ⟨μ3, g3, ?_⟩
    subst e3 eb
    have tk : ds.take (i + 1) = ds.take i ++ [d] := by rw [List.take_add_one, hd]; rfl
    cases hb : p d with
    | true =>
      show ∀ X', Blk X scope X' → _
      intro X' b'
      refine (he X' b' d hm hb).mono fun μ4 y h4 => ?_
      obtain ⟨rfl, rfl⟩ := h4
      refine ⟨?_, rfl, ?_⟩
      · refine Nat.lt_of_le_of_lt ?_ hl
        rw [List.length_map]
        exact Nat.le_trans (List.length_filter_le _ _) (by rw [List.length_take]; omega)
      · rw [tk, List.filter_append, List.map_append, List.filter_cons, hb]
        rfl
    | false =>
      refine ⟨rfl, ?_⟩
      rw [tk, List.filter_append, List.filter_cons, hb]
      simp
  · obtain ⟨rfl, rfl⟩ := h
    rw [List.take_length]
    exact hP

theorem atI_ex {α : Type} {ds : List α} {i : Int} (h0 : 0 ≤ i) (h1 : i < (ds.length : Int)) : ∃ d, atI ds i = some d ∧ d ∈ ds ∧ ds[i.toNat]? = some d := by
  have h : i.toNat < ds.length := by omega
  exact ⟨ds[i.toNat], atI_n h0 (List.getElem?_eq_getElem h), List.getElem_mem h, List.getElem?_eq_getElem h⟩
structure Bx where
  great : List Int
  pend : Int
  small : List Int
  cnt : Int
structure BxOk (t : Bx) : Prop where
  g0 : ∀ z ∈ t.great, 0 ≤ z
  p0 : 0 ≤ t.pend
  c0 : 0 ≤ t.cnt
  gl : t.great.length ≤ 63
  sl : t.small.length ≤ 63
def bxM (b g : Addr) (t : Bx) (μ : Mu) : Mu := updM (updM μ g (.lst (t.great.map .int))) b (.lst [.ref g, .int t.pend, .lst (t.small.map .int), .int t.cnt])
section
variable {b g p : Addr} {t : Bx} {μ : Mu}
theorem bxM_b : bxM b g t μ b = some (.lst [.ref g, .int t.pend, .lst (t.small.map .int), .int t.cnt]) := updM_same
theorem bxM_g (h : g ≠ b) : bxM b g t μ g = some (.lst (t.great.map .int)) := by
  unfold bxM
  rw [updM_ne h, updM_same]
theorem bxM_ne (h1 : p ≠ b) (h2 : p ≠ g) : bxM b g t μ p = μ p := by
  unfold bxM
  rw [updM_ne h1, updM_ne h2]
theorem bxM_fresh (h : bxM b g t μ p = none) : p ≠ b ∧ p ≠ g ∧ μ p = none := by
  have h1 : p ≠ b := fun e => by subst e; rw [bxM_b] at h; cases h
  have h2 : p ≠ g := fun e => by subst e; rw [bxM_g h1] at h; cases h
  exact ⟨h1, h2, by rw [bxM_ne h1 h2] at h; exact h⟩
theorem bxM_upd {o : MO} (h1 : p ≠ b) (h2 : p ≠ g) : updM (bxM b g t μ) p o = bxM b g t (updM μ p o) := by
  unfold bxM
  rw [updM_comm (Ne.symm h1), updM_comm (Ne.symm h2)]
theorem bxM_del (h1 : p ≠ b) (h2 : p ≠ g) : delM (bxM b g t μ) p = bxM b g t (delM μ p) := by
  funext a
  unfold bxM delM updM
  by_cases e1 : a = p
  · subst e1; simp [h1, h2]
  · simp [e1]
theorem bxM_setp {k : Int} : updM (bxM b g t μ) b (.lst [.ref g, .int k, .lst (t.small.map .int), .int t.cnt]) = bxM b g { t with pend := k } μ := by
  unfold bxM
  rw [updM_upd]
theorem bxM_setc {k : Int} : updM (bxM b g t μ) b (.lst [.ref g, .int t.pend, .lst (t.small.map .int), .int k]) = bxM b g { t with cnt := k } μ := by
  unfold bxM
  rw [updM_upd]
theorem bxM_setg {ns : List Int} (h : g ≠ b) : updM (bxM b g t μ) g (.lst (ns.map .int)) = bxM b g { t with great := ns } μ := by
  unfold bxM
  rw [updM_comm (Ne.symm h), updM_upd]
end
section
variable {X : Cx} {Γ : Gm} {μ : Mu} {b g : Addr} {t : Bx} {x : Str} {i : Nat} {px pc pos : Pos} {j : Nat} {N : Gm → Mu → Prop} {k : Int}
/-- box[1] = k, box[3] = k -/
theorem wx_box1 (n : Nm X x i) (h : Γ[i]? = some (some (.ref b))) (q : N Γ (bxM b g { t with pend := k } μ)) : WGx X (.Subscript (.Name x px) (.Constant (.int 1) j pc) pos) (.int k) Γ (bxM b g t μ) N :=
  wx_ix (we_name n h (we_int ⟨_, rfl, _, rfl, ⟨_, bxM_b⟩, _, bxM_b, _, rfl, by
    show N Γ (updM (bxM b g t μ) b (.lst [.ref g, .int k, .lst (t.small.map .int), .int t.cnt]))
    rw [bxM_setp]
    exact q⟩))
theorem wx_box3 (n : Nm X x i) (h : Γ[i]? = some (some (.ref b))) (q : N Γ (bxM b g { t with cnt := k } μ)) : WGx X (.Subscript (.Name x px) (.Constant (.int 3) j pc) pos) (.int k) Γ (bxM b g t μ) N :=
  wx_ix (we_name n h (we_int ⟨_, rfl, _, rfl, ⟨_, bxM_b⟩, _, bxM_b, _, rfl, by
    show N Γ (updM (bxM b g t μ) b (.lst [.ref g, .int t.pend, .lst (t.small.map .int), .int k]))
    rw [bxM_setc]
    exact q⟩))
end
section
variable {b g : Addr} {t : Bx} {μ : Mu} {X : Cx} {Γ : Gm} {x : Str} {i : Nat} {px pc pos ap cp pz : Pos} {j jz : Nat} {Q : Mu → D → Prop}
/-- box[0].pop(0) -/
theorem we_boxpop {z : Int} {r : List Int} (hg : g ≠ b) (hz : t.great = z :: r) (n : Nm X x i) (h : Γ[i]? = some (some (.ref b))) (hl : (ap.endLine == cp.line) = true) (q : Q (bxM b g { t with great := r } μ) (.int z)) :
    WE X (.Call (.Attribute (.Subscript (.Name x px) (.Constant (.int 0) j pc) pos) "pop" ap) [.Constant (.int 0) jz pz] [] cp) Γ (bxM b g t μ) Q := by
  refine we_popAt ?_ rfl rfl hl rfl rfl
  refine we_ix (we_name n h (we_int (ix_m bxM_b rfl ?_)))
  refine lst_at (bxM_g hg) (we_int (one_i (lst_q (bxM_g hg) (req (by decide) ⟨0, .int z, seqIndex_of (by decide) (by rw [List.length_map, hz, List.length_cons]; omega), by rw [hz]; rfl, ?_⟩))))
  have hr : (t.great.map D.int).eraseIdx 0 = r.map D.int := by rw [hz]; rfl
  rw [hr, bxM_setg hg]
  exact q
end
/-- a draw: b the box, g its great cells; n the size -/
structure TakeA where
  b : Addr
  g : Addr
  t : Bx
  μ : Mu
  n : Int
abbrev spTake : Spc := specS (α := TakeA) (fun a ds μ => ds = [.ref a.b, .int a.n] ∧ μ = bxM a.b a.g a.t a.μ ∧ a.g ≠ a.b ∧ BxOk a.t ∧ a.t.cnt < 1000000 ∧ 1 ≤ a.n ∧ a.n.natAbs.log2 < 9000)
  (fun a μ' d => ∃ (r : Int) (t : Bx), d = .int r ∧ μ' = bxM a.b a.g t a.μ ∧ 0 ≤ r ∧ r < a.n ∧ BxOk t ∧ t.cnt = a.t.cnt + 1)
/-- one more draw -/
theorem take_use {b g : Addr} {t : Bx} {μ : Mu} {n : Int} {Q : Mu → D → Prop} {E : Mu → Xd → Prop} (hg : g ≠ b) (ht : BxOk t) (hc : t.cnt < 1000000) (h1 : 1 ≤ n) (hn : n.natAbs.log2 < 9000)
    (q : ∀ (r : Int) (t' : Bx), 0 ≤ r → r < n → BxOk t' → t'.cnt = t.cnt + 1 → Q (bxM b g t' μ) (.int r)) : spTake [.ref b, .int n] (bxM b g t μ) Q E := by
  refine ⟨⟨b, g, t, μ, n⟩, ⟨rfl, rfl, hg, ht, hc, h1, hn⟩, fun μ' d h => ?_, fun μ' x z => z.elim⟩
  obtain ⟨r, t', rfl, rfl, h1, h2, h3, h4⟩ := h
  exact q r t' h1 h2 h3 h4
structure BoxA (β : Type) where
  b : Addr
  g : Addr
  t : Bx
  μ : Mu
  x : β
/-- args: the arguments behind the box; k: at most so many draws; post: of what is handed back, which is fixed -/
abbrev boxS {β : Type} (args : β → List D) (pre : β → Prop) (k : Int) (post : β → D → Prop) : Spc := specS (α := BoxA β)
  (fun a ds μ => ds = .ref a.b :: args a.x ∧ μ = bxM a.b a.g a.t a.μ ∧ a.g ≠ a.b ∧ BxOk a.t ∧ a.t.cnt + k < 1000000 ∧ pre a.x)
  (fun a μ' d => ∃ t, μ' = bxM a.b a.g t a.μ ∧ BxOk t ∧ a.t.cnt ≤ t.cnt ∧ t.cnt ≤ a.t.cnt + k ∧ post a.x d)
theorem box_use {β : Type} {args : β → List D} {pre : β → Prop} {k : Int} {post : β → D → Prop} {b g : Addr} {t : Bx} {μ : Mu} {x : β} {Q : Mu → D → Prop} {E : Mu → Xd → Prop} (hg : g ≠ b) (ht : BxOk t) (hc : t.cnt + k < 1000000) (hp : pre x)
    (q : ∀ (d : D) (t' : Bx), BxOk t' → t.cnt ≤ t'.cnt → t'.cnt ≤ t.cnt + k → post x d → Q (bxM b g t' μ) d) : boxS args pre k post (.ref b :: args x) (bxM b g t μ) Q E := by
  refine ⟨⟨b, g, t, μ, x⟩, ⟨rfl, rfl, hg, ht, hc, hp⟩, fun μ' d h => ?_, fun μ' x z => z.elim⟩
  obtain ⟨t', rfl, h1, h2, h3, h4⟩ := h
  exact q d t' h1 h2 h3 h4
/-- .. that hand back an int from lo to hi -/
abbrev boxI {β : Type} (args : β → List D) (pre : β → Prop) (k : Int) (lo hi : β → Int) : Spc := boxS args pre k fun x d => ∃ r : Int, d = .int r ∧ lo x ≤ r ∧ r ≤ hi x
theorem boxi_use {β : Type} {args : β → List D} {pre : β → Prop} {k : Int} {lo hi : β → Int} {b g : Addr} {t : Bx} {μ : Mu} {x : β} {Q : Mu → D → Prop} {E : Mu → Xd → Prop} (hg : g ≠ b) (ht : BxOk t) (hc : t.cnt + k < 1000000) (hp : pre x)
    (q : ∀ (r : Int) (t' : Bx), lo x ≤ r → r ≤ hi x → BxOk t' → t.cnt ≤ t'.cnt → t'.cnt ≤ t.cnt + k → Q (bxM b g t' μ) (.int r)) : boxI args pre k lo hi (.ref b :: args x) (bxM b g t μ) Q E :=
  box_use hg ht hc hp fun d t' h1 h2 h3 ⟨r, e, h4, h5⟩ => by
    subst e
    exact q r t' h4 h5 h1 h2 h3
/-- an item of a written list of ints at a drawn place -/
theorem ix_range {ds : List D} {i : Int} {μ : Mu} {R : D → Prop} (lo hi : Int) (h0 : 0 ≤ i) (h1 : i < (ds.length : Int)) (hd : ∀ d ∈ ds, ∃ z, d = .int z ∧ lo ≤ z ∧ z ≤ hi) (h : ∀ z, lo ≤ z → z ≤ hi → R (.int z)) : IxQ μ (.lst ds) (.int i) R := by
  obtain ⟨d, e, hm, _⟩ := atI_ex h0 h1
  obtain ⟨z, rfl, h2, h3⟩ := hd d hm
  exact ix_l e (h z h2 h3)
theorem forall_nil {P : D → Prop} : ∀ d ∈ ([] : List D), P d := fun _ h => by cases h
theorem forall_cons {P : D → Prop} {x : D} {r : List D} (h1 : P x) (h2 : ∀ d ∈ r, P d) : ∀ d ∈ x :: r, P d := fun d h => by
  rcases List.mem_cons.mp h with e | h
  · rw [e]; exact h1
  · exact h2 d h
def gApp {α : Type} (us ws : List α) : List α := us ++ ws
theorem gApp_rel {vs : List V} {us : List Value} {zs : List V} {ws : List Value} (a : Vals vs us) (b : Vals zs ws) : Vals (gApp vs zs) (gApp us ws) := a.append b
theorem gApp_is {K : PySem.W.Frag} {A : Addr → Prop} {H : Hp} {vs zs : List V} {ds es : List D} {n m : Nat} (_ : vs.length = n) (_ : zs.length = m) (a : IsA K A H vs ds) (b : IsA K A H zs es) : IsA K A H (gApp vs zs) (gApp ds es) := a.append b
def g102 {α : Type} (us ws : List α) : List α := match ws with
  | [a, b, c] => [b, a, c]
  | _ => us ++ ws
theorem g102_rel {vs : List V} {us : List Value} {zs : List V} {ws : List Value} (a : Vals vs us) (b : Vals zs ws) : Vals (g102 vs zs) (g102 us ws) := by
  cases b with
  | nil => exact a.append .nil
  | cons r1 b => cases b with
    | nil => exact a.append (.cons r1 .nil)
    | cons r2 b => cases b with
      | nil => exact a.append (.cons r1 (.cons r2 .nil))
      | cons r3 b => cases b with
        | nil => exact .cons r2 (.cons r1 (.cons r3 .nil))
        | cons r4 b => exact a.append (.cons r1 (.cons r2 (.cons r3 (.cons r4 b))))
theorem g102_is {K : PySem.W.Frag} {A : Addr → Prop} {H : Hp} {vs zs : List V} {ds es : List D} {n m : Nat} (_ : vs.length = n) (_ : zs.length = m) (a : IsA K A H vs ds) (b : IsA K A H zs es) : IsA K A H (g102 vs zs) (g102 ds es) := by
  cases b with
  | nil => exact a.append .nil
  | cons r1 b => cases b with
    | nil => exact a.append (.cons r1 .nil)
    | cons r2 b => cases b with
      | nil => exact a.append (.cons r1 (.cons r2 .nil))
      | cons r3 b => cases b with
        | nil => exact .cons r2 (.cons r1 (.cons r3 .nil))
        | cons r4 b => exact a.append (.cons r1 (.cons r2 (.cons r3 (.cons r4 b))))
abbrev spBox : Spc := specS (α := Mu × List Int) (fun a ds μ => ds = [.lst (a.2.map .int)] ∧ μ = a.1 ∧ a.2.length ≤ 63) (fun a μ' d => ∃ b g t, d = .ref b ∧ μ' = bxM b g t a.1 ∧ g ≠ b ∧ BxOk t ∧ t.cnt = 0)
theorem box_new {ns : List Int} {μ : Mu} {Q : Mu → D → Prop} {E : Mu → Xd → Prop} (hl : ns.length ≤ 63) (q : ∀ b g t, g ≠ b → BxOk t → t.cnt = 0 → Q (bxM b g t μ) (.ref b)) : spBox [.lst (ns.map .int)] μ Q E := by
  refine ⟨(μ, ns), ⟨rfl, rfl, hl⟩, fun μ' d h => ?_, fun μ' x z => z.elim⟩
  obtain ⟨b, g, t, rfl, rfl, h1, h2, h3⟩ := h
  exact q b g t h1 h2 h3
/-- small numbers have few bits -/
theorem log_small {n : Int} (h : n.natAbs < 2 ^ 200) : n.natAbs.log2 < 9000 := Nat.lt_of_lt_of_le (PySem.Flt.log2_lt_of (by decide) h) (by decide)
theorem log_lit {n : Int} (h0 : 0 ≤ n) (h : n ≤ 1000000000000000000000000000000000000000000000000000000000000) : n.natAbs.log2 < 9000 := log_small (by omega)
end DL

set_option Elab.async false
set_option linter.all false
set_option maxRecDepth 100000
set_option maxHeartbeats 4000000
namespace KK
open PySem PySem.Spec PyProof.Rows L2 DL
def topS (i : Nat) : Stmt := PySem.Challenge.pw_samewell_k01_agree_and_left.main.body.getD i (.Pass ⟨0, 0, 0, 0⟩)
abbrev s_is_whole : Stmt := topS 1
abbrev N_is_whole : List Str := ["thing"]
theorem sc_is_whole : FnScope N_is_whole ["thing"] (defScope s_is_whole) := ⟨rfl, rfl, rfl, by decide +kernel, rfl, by decide +kernel, by decide +kernel⟩
abbrev s_divides : Stmt := topS 2
abbrev N_divides : List Str := ["rest", "number"]
theorem sc_divides : FnScope N_divides ["rest", "number"] (defScope s_divides) := ⟨rfl, rfl, rfl, by decide +kernel, rfl, by decide +kernel, by decide +kernel⟩
abbrev s_agree : Stmt := topS 3
abbrev N_agree : List Str := ["one", "two", "rest"]
theorem sc_agree : FnScope N_agree ["one", "two", "rest"] (defScope s_agree) := ⟨rfl, rfl, rfl, by decide +kernel, rfl, by decide +kernel, by decide +kernel⟩
abbrev s_left : Stmt := topS 4
abbrev N_left : List Str := ["number", "rest"]
theorem sc_left : FnScope N_left ["number", "rest"] (defScope s_left) := ⟨rfl, rfl, rfl, by decide +kernel, rfl, by decide +kernel, by decide +kernel⟩
abbrev s__law_box : Stmt := topS 6
abbrev N__law_box : List Str := ["_law_script", "_law_great", "_law_cell"]
theorem sc__law_box : FnScope N__law_box ["_law_script"] (defScope s__law_box) := ⟨rfl, rfl, rfl, by decide +kernel, rfl, by decide +kernel, by decide +kernel⟩
abbrev s__law_mixed : Stmt := topS 7
abbrev N__law_mixed : List Str := ["_law_cell", "_law_k", "_law_whole"]
theorem sc__law_mixed : FnScope N__law_mixed ["_law_cell", "_law_k"] (defScope s__law_mixed) := ⟨rfl, rfl, rfl, by decide +kernel, rfl, by decide +kernel, by decide +kernel⟩
abbrev s__law_take : Stmt := topS 8
abbrev N__law_take : List Str := ["_law_box_here", "_law_size", "_law_found", "_law_cell", "_law_reach"]
theorem sc__law_take : FnScope N__law_take ["_law_box_here", "_law_size"] (defScope s__law_take) := ⟨rfl, rfl, rfl, by decide +kernel, rfl, by decide +kernel, by decide +kernel⟩
abbrev s__law_rest : Stmt := topS 9
abbrev N__law_rest : List Str := ["_law_box_here", "_law_way", "_law_built", "_law_k"]
theorem sc__law_rest : FnScope N__law_rest ["_law_box_here"] (defScope s__law_rest) := ⟨rfl, rfl, rfl, by decide +kernel, rfl, by decide +kernel, by decide +kernel⟩
abbrev s__law_any : Stmt := topS 10
abbrev N__law_any : List Str := ["_law_box_here", "_law_size"]
theorem sc__law_any : FnScope N__law_any ["_law_box_here"] (defScope s__law_any) := ⟨rfl, rfl, rfl, by decide +kernel, rfl, by decide +kernel, by decide +kernel⟩
abbrev s__law_leaves : Stmt := topS 11
abbrev N__law_leaves : List Str := ["_law_told", "_law_by", "_law_found"]
theorem sc__law_leaves : FnScope N__law_leaves ["_law_told", "_law_by", "_law_found"] (defScope s__law_leaves) := ⟨rfl, rfl, rfl, by decide +kernel, rfl, by decide +kernel, by decide +kernel⟩
abbrev s__law_says : Stmt := topS 12
abbrev N__law_says : List Str := ["_law_found", "_law_due"]
theorem sc__law_says : FnScope N__law_says ["_law_found", "_law_due"] (defScope s__law_says) := ⟨rfl, rfl, rfl, by decide +kernel, rfl, by decide +kernel, by decide +kernel⟩
abbrev s_law : Stmt := topS 13
abbrev N_law : List Str := ["_law_script", "_law_box_here", "_law_first", "_law_by", "_law_step", "_law_second", "_law_gap", "_law_due", "_law_found", "_law_here", "_law_there"]
theorem sc_law : FnScope N_law ["_law_script"] (defScope s_law) := ⟨rfl, rfl, rfl, by decide +kernel, rfl, by decide +kernel, by decide +kernel⟩
local macro_rules | `(tactic| walk_at "look") => `(tactic| first
  | exact bxM_b
  | exact bxM_g (by assumption)
  | exact updM_same
  | assumption
  | ((refine Eq.trans (bxM_ne (by assumption) (by assumption)) ?_); (walk_at "look"))
  | ((refine Eq.trans (updM_ne (by assumption)) ?_); (walk_at "look")))
local macro_rules | `(tactic| walk_at "d_we") => `(tactic| first
  | ((with_reducible refine' we_name ?m ?h ?_); (case m => with_reducible assumption); (case h => rfl))
  | with_reducible refine we_int ?_
  | with_reducible refine we_bl ?_
  | with_reducible refine we_non ?_
  | with_reducible refine we_str ?_
  | ((with_reducible show DL.WE _ (Expr.BinOp _ _ _ _) _ _ _); (first
    | with_reducible refine we_add ?_
    | with_reducible refine we_sub ?_
    | with_reducible refine we_mul ?_
    | with_reducible refine we_mod ?_
    | with_reducible refine we_div ?_
    | with_reducible refine we_pow ?_))
  | ((with_reducible show DL.WE _ (Expr.Compare _ _ _ _) _ _ _); (first
    | with_reducible refine we_isN ?_
    | with_reducible refine we_notN ?_
    | with_reducible refine we_lt ?_
    | with_reducible refine we_le ?_
    | with_reducible refine we_gt ?_
    | with_reducible refine we_ge ?_
    | with_reducible refine we_eqS ?_
    | with_reducible refine we_neS ?_
    | ((with_reducible refine' we_chI ?o1 ?o2 ?m ?_); (case o1 => first | exact op_lt | exact op_le | exact op_gt | exact op_ge); (case o2 => first | exact op_lt | exact op_le | exact op_gt | exact op_ge); (case m => rfl))))
  | ((with_reducible show DL.WE _ (Expr.Call (Expr.Name _ _) _ _ _) _ _ _); (first
    | ((with_reducible show DL.WE _ (Expr.Call (Expr.Name "len" _) _ [] _) _ _ _); (refine' we_len ?m ?_); (case m => with_reducible assumption))
    | ((with_reducible show DL.WE _ (Expr.Call (Expr.Name "isinstance" _) _ [] _) _ _ _); (refine' we_isi ?m ?h ?k ?_); (case m => with_reducible assumption); (case h => with_reducible assumption); (case k => first | exact PyProof.Rows.boot_int | exact PyProof.Rows.boot_bool | exact PyProof.Rows.boot_str | exact PyProof.Rows.boot_list | exact PyProof.Rows.boot_tuple | exact PyProof.Rows.boot_dict))
    | ((with_reducible show DL.WE _ (Expr.Call (Expr.Name _ _) (_ :: _) [] _) _ _ _); (refine' we_call ?m ?_); (case m => with_reducible assumption))
    | ((with_reducible show DL.WE _ (Expr.Call (Expr.Name _ _) (_ :: _) (_ :: _) _) _ _ _); (refine' we_callK ?m ?_); (case m => assumption))
    | ((with_reducible show DL.WE _ (Expr.Call (Expr.Name _ _) [] (_ :: _) _) _ _ _); (refine' we_callK0 ?m ?_); (case m => assumption))))
  | ((with_reducible show DL.WE _ (Expr.Subscript _ _ _) _ _ _); (refine we_ix ?_))
  | with_reducible refine we_ifE ?_
  | with_reducible refine we_and ?_
  | with_reducible refine we_or ?_
  | with_reducible refine we_one ?_
  | with_reducible refine we_not ?_
  | with_reducible refine we_neg ?_
  | with_reducible refine we_tup ?_
  | ((with_reducible show DL.WE _ (Expr.List (_ :: _) _) _ _ _); (refine we_lst ?_))
  | ((with_reducible show DL.WE _ (Expr.Call (Expr.Attribute _ _ _) _ [] _) _ _ _); (first
    | ((with_reducible show DL.WE _ (Expr.Call (Expr.Attribute _ "pop" _) [_] [] _) _ _ _); (refine we_popAt ?_))
    | ((with_reducible show DL.WE _ (Expr.Call (Expr.Attribute _ "append" _) [_] [] _) _ _ _); (refine we_app ?_)))))
local macro_rules | `(tactic| walk_at "d_wt") => `(tactic| first
  | ((with_reducible show DL.WT _ (Expr.Compare _ _ _ _) _ _ _); (first
    | with_reducible refine wt_isN ?_
    | with_reducible refine wt_notN ?_
    | with_reducible refine wt_lt ?_
    | with_reducible refine wt_le ?_
    | with_reducible refine wt_gt ?_
    | with_reducible refine wt_ge ?_
    | with_reducible refine wt_eqS ?_
    | with_reducible refine wt_neS ?_
    | ((with_reducible refine' wt_chI ?o1 ?o2 ?m ?_); (case o1 => first | exact op_lt | exact op_le | exact op_gt | exact op_ge); (case o2 => first | exact op_lt | exact op_le | exact op_gt | exact op_ge); (case m => rfl))))
  | with_reducible refine wt_not ?_
  | ((with_reducible refine wt_W ?_); (first | with_reducible refine ww_and ?_ | with_reducible refine ww_or ?_))
  | refine wt_val ?_)
local macro_rules | `(tactic| walk_at "d_ws") => `(tactic| first
  | ((with_reducible show DL.WS _ (Stmt.Assign [_] _ _) _ _ _); (first
    | ((with_reducible show DL.WS _ (Stmt.Assign [Expr.Name _ _] _ _) _ _ _); (refine' ws_set ?m ?_); (case m => with_reducible assumption))
    | refine ws_asg ?_))
  | with_reducible refine ws_ret ?_
  | with_reducible refine ws_if ?_
  | with_reducible refine ws_retN ?_
  | with_reducible refine ws_pass ?_
  | with_reducible refine ws_break ?_
  | with_reducible refine ws_cont ?_
  | ((with_reducible show DL.WS _ (Stmt.Expr _ _) _ _ _); (refine ws_expr ?_)))
local macro_rules | `(tactic| walk_at "d_wx") => `(tactic| first
  | ((with_reducible refine' wx_name ?m ?h ?_); (case m => with_reducible assumption); (case h => repeat (first | exact SetTo.z | apply SetTo.s)))
  | ((with_reducible refine' wx_box1 ?m ?h ?_); (case m => with_reducible assumption); (case h => rfl))
  | ((with_reducible refine' wx_box3 ?m ?h ?_); (case m => with_reducible assumption); (case h => rfl))
  | ((with_reducible show DL.WGx _ (Expr.Subscript _ _ _) _ _ _ _); (refine wx_ix ?_))
  | ((with_reducible show DL.WGx _ (Expr.Tuple _ _ _) _ _ _ _); (refine' ctx_tupx ?m ?_); (case m => with_reducible assumption)))
local macro_rules | `(tactic| walk_at "side") => `(tactic| first
  | with_reducible assumption
  | trivial
  | ((with_reducible show List.length _ = _); rfl)
  | ((with_reducible show (0 : Int) < _); first | omega | decide)
  | ((with_reducible show DL.MulOk _ _); (try dsimp only); first | exact DL.MulOk.l (by omega) (by omega) | exact DL.MulOk.r (by omega) (by omega) | exact DL.MulOk.m (by omega) (by omega) (by omega) (by omega))
  | ((with_reducible show CDivW _ _); (try dsimp only); first | exact ⟨by omega, by assumption⟩ | exact ⟨by omega, log_lit (by omega) (by omega)⟩)
  | ((with_reducible show CPow _ _); unfold CPow; first | decide | omega)
  | ((with_reducible show _ ≤ sizeLine); (first | (show _ ≤ 16777216; decide) | (dsimp only [List.length_cons, List.length_nil]; show _ ≤ 16777216; omega)))
  | omega)
local macro_rules | `(tactic| walk_at "d_rest") => `(tactic| first
  | with_reducible refine two_i ?_
  | with_reducible refine one_i ?_
  | with_reducible refine one_b ?_
  | with_reducible refine eq_i ?_
  | with_reducible refine eq_b ?_
  | with_reducible refine eq_s ?_
  | ((with_reducible refine' setq ?h ?_); (case h => repeat (first | exact SetTo.z | apply SetTo.s)))
  | ((with_reducible show DL.Req (CPow _ _) _); (refine req ?c ?_); (case c => walk_at "side"); (try simp only [Int.reduceToNat, Int.reducePow]))
  | ((with_reducible refine req ?c ?_); (case c => walk_at "side"))
  | ((with_reducible refine' kind_q ?e ?f ?_); (case e => rfl); (case f => first | exact kit_NoneType_int | exact kit_NoneType_bool | exact kit_NoneType_str | exact kit_NoneType_list | exact kit_NoneType_tuple | exact kit_bool_int | exact kit_bool_bool | exact kit_bool_str | exact kit_bool_list | exact kit_bool_tuple | exact kit_int_int | exact kit_int_bool | exact kit_int_str | exact kit_int_list | exact kit_int_tuple | exact kit_str_int | exact kit_str_bool | exact kit_str_str | exact kit_str_list | exact kit_str_tuple | exact kit_list_int | exact kit_list_bool | exact kit_list_str | exact kit_list_list | exact kit_list_tuple | exact kit_tuple_int | exact kit_tuple_bool | exact kit_tuple_str | exact kit_tuple_list | exact kit_tuple_tuple))
  | with_reducible refine seql_l ?_
  | with_reducible refine seq_l ?_
  | with_reducible refine seq_t ?_
  | ((with_reducible refine' seq_m ?h ?_); (case h => walk_at "look"))
  | ((with_reducible refine' seql_m ?h ?_); (case h => walk_at "look"))
  | ((with_reducible refine' ix_m ?h ?e ?_); (case h => walk_at "look"); (case e => rfl))
  | ((with_reducible refine' ix_l ?e ?_); (case e => first | with_reducible assumption | with_reducible rfl | (with_reducible show atI (_ :: _) _ = _); rfl))
  | ((with_reducible refine' ix_t ?e ?_); (case e => first | with_reducible assumption | (with_reducible show atI (_ :: _) _ = _); rfl))
  | ((with_reducible refine' lst_at ?h ?_); (case h => walk_at "look"))
  | ((with_reducible refine' lst_q ?h ?_); (case h => walk_at "look"))
  | ((with_reducible refine at_q ?h1 ?h2 ?_); (case h1 => walk_at "side"); (case h2 => walk_at "side"))
  | ((with_reducible refine box_new ?a ?_); (case a => assumption); (intro _ _ _ _ _ _))
  | ((with_reducible refine take_use ?a ?b ?c ?d ?e ?_); (case a => assumption); (case b => with_reducible assumption); (case c => omega); (case d => omega); (case e => exact log_lit (by omega) (by omega)); (intro _ _ _ _ _ _))
  | ((with_reducible show boxI _ _ _ _ _ _ _ _ _); (first | refine boxi_use (x := ()) ?a ?b ?c ?d ?_ | refine' boxi_use ?a ?b ?c ?d ?_); (case a => assumption); (case b => with_reducible assumption); (case c => omega); (case d => walk_at "side"); (intro _ _ _ _ _ _ _))
  | ((with_reducible refine' pure_i ?e ?p ?_); (case e => rfl); (case p => walk_at "side"))
  | ((with_reducible show ite _ _ _); (first
    | (with_reducible refine ite_dec (fun _ => ?_) (fun _ => ?_))
    | (with_reducible refine ite_ndec (fun _ => ?_) (fun _ => ?_))
    | (with_reducible refine iteT ?_)
    | (with_reducible refine iteF ?_)
    | (with_reducible refine ite_nt ?_)
    | (with_reducible refine ite_nf ?_))))
local macro_rules | `(tactic| walk_at "dx2") => `(tactic| first
  | ((with_reducible show DL.WE _ _ _ _ _); (walk_at "d_we"))
  | ((with_reducible show DL.WT _ _ _ _ _); (walk_at "d_wt"))
  | ((with_reducible show DL.WA _ _ _ _ _); (first | with_reducible refine wa_nil ?_ | refine wa_cons ?_))
  | ((with_reducible show DL.WS _ _ _ _ _); (walk_at "d_ws"))
  | ((with_reducible show DL.WGx _ _ _ _ _ _); (walk_at "d_wx"))
  | with_reducible refine wb_nil ?_
  | ((with_reducible show DL.WW _ _ _ _ _); (first | with_reducible refine ww_and ?_ | with_reducible refine ww_or ?_ | with_reducible refine ww_and1 ?_ | with_reducible refine ww_or1 ?_))
  | ((with_reducible show DL.WKw _ _ _ _ _); (first | with_reducible refine wk_nil ?_ | with_reducible refine wk_cons ?_))
  | with_reducible refine wxl_nil ?_
  | ((with_reducible show DL.WGlx _ (_ :: _) _ _ _ _); (refine wxl_cons ?_))
  | ((with_reducible show DL.WB _ _ _ _ _); fail)
  | walk_at "d_rest")
local macro_rules | `(tactic| walk_at "d_wb") => `(tactic| first
  | ((with_reducible refine' wb_at ?e ?_); (case e => rfl))
  | ((with_reducible refine wb_end ?e ?_); (case e => rfl))
  | with_reducible refine wb_cons ?_)
local macro_rules | `(tactic| walk_at "dl2") => `(tactic| first
  | ((with_reducible show DL.WB _ _ _ _ _); (first | walk_at "d_wb" | with_reducible refine wb_nil ?_))
  | walk_at "dx2")
local macro_rules | `(tactic| walk_at "dl") => `(tactic| first | ((walk_at "dl2"); (all_goals walk_at "dl")) | skip)
local macro_rules | `(tactic| walk_at "dx") => `(tactic| first | ((walk_at "dx2"); (all_goals walk_at "dx")) | skip)
local macro_rules | `(tactic| walk_at "ds") => `(tactic| ((walk_at "d_wb"); (walk_at "dx")))
local macro_rules | `(tactic| walk_at "ix") => `(tactic| (repeat (first | exact forall_nil | refine forall_cons ⟨_, rfl, by first | omega | decide +kernel, by first | omega | decide +kernel⟩ ?_)))
def wholeD : D → Bool
  | .int _ => true
  | _ => false
def divI (r n : Int) : Bool := if 0 < r then decide (n % r = 0) else decide (n = 0)
def agreeD : D → Int → Bool
  | .int r, n => divI r n
  | _, _ => false
def leftI (r n : Int) : Int := if 0 < r then n % r else n
def fWhole : List D → Option D
  | [.int _] => some (.bl true)
  | [.bl _] => some (.bl false)
  | _ => none
def fDivides : List D → Option D
  | [.int r, .int n] => some (.bl (divI r n))
  | _ => none
def fAgree : List D → Option D
  | [.int a, .int b, .int r] => some (.bl (divI r (a - b)))
  | _ => none
def fLeft : List D → Option D
  | [.int n, .int r] => some (.int (leftI r n))
  | _ => none
abbrev spWhole : Spc := pureS fWhole
abbrev spDivides : Spc := pureS fDivides
abbrev spAgree : Spc := pureS fAgree
abbrev spLeft : Spc := pureS fLeft
def geD (b : Int) : D → Bool
  | .int z => decide (b ≤ z)
  | _ => false
def ltD (b : Int) : D → Bool
  | .int z => decide (z < b)
  | _ => false
theorem geD_map (b : Int) (ns : List Int) : ((ns.map D.int).filter (geD b)).map id = (ns.filter fun z => decide (b ≤ z)).map D.int := by
  rw [List.map_id, List.filter_map]
  rfl
theorem ltD_map (b : Int) (ns : List Int) : ((ns.map D.int).filter (ltD b)).map id = (ns.filter fun z => decide (z < b)).map D.int := by
  rw [List.map_id, List.filter_map]
  rfl
def mixI (c k : Int) : Int := (((c % 2147483647 + 1009 * k * k + 48611 * k + 17) ^ 5 % 2147483647) * 39373 + 7919 * k) % 1000000007
section
variable {P : Program} {w : World} {K : PySem.W.Frag} {mg : Str → Option Value} {base : Heap}
theorem ok_is_whole {f : Addr} {fd : FuncData} (F : Fun K "is_whole" "is_whole" s_is_whole f fd) (M_isinstance : mg "isinstance" = none) (M_int : mg "int" = none) (M_bool : mg "bool" = none) : FnOk P w K mg base CX0 1 f fd ["thing"] (lift K spWhole) := by
  refine fn_dl F sc_is_whole (fun ds μ Q E h => ?_) fun X hX hf ds μ Q E h => ?_
  · unfold spWhole at h; obtain ⟨d, e, _⟩ := h; unfold fWhole at e; split at e <;> first | rfl | cases e
  have w0 : Nw X "thing" 0 := hX.nl (by decide +kernel) (by decide +kernel)
  have m0 : Nm X "thing" 0 := w0.toNm
  have b_isinstance : Bl X "isinstance" := hX.bl (by decide +kernel) M_isinstance
  have b_int : Bl X "int" := hX.bl (by decide +kernel) M_int
  have b_bool : Bl X "bool" := hX.bl (by decide +kernel) M_bool
  obtain ⟨d, e, _, q⟩ := h
  unfold fWhole at e
  split at e <;> cases e
  · rename_i i
    change WB X _ [some (.int i)] μ _
    refine wb_go ?_
    walk_at "d_wb"
    walk_at "dl"
    exact q
  · rename_i i
    change WB X _ [some (.bl i)] μ _
    refine wb_go ?_
    walk_at "d_wb"
    walk_at "dl"
    exact q
theorem ok_divides {f : Addr} {fd : FuncData} (F : Fun K "divides" "divides" s_divides f fd)  : FnOk P w K mg base CX0 1 f fd ["rest", "number"] (lift K spDivides) := by
  refine fn_dl F sc_divides (fun ds μ Q E h => ?_) fun X hX hf ds μ Q E h => ?_
  · unfold spDivides at h; obtain ⟨d, e, _⟩ := h; unfold fDivides at e; split at e <;> first | rfl | cases e
  have w0 : Nw X "rest" 0 := hX.nl (by decide +kernel) (by decide +kernel)
  have m0 : Nm X "rest" 0 := w0.toNm
  have w1 : Nw X "number" 1 := hX.nl (by decide +kernel) (by decide +kernel)
  have m1 : Nm X "number" 1 := w1.toNm
  obtain ⟨d, e, _, q⟩ := h
  unfold fDivides at e
  split at e <;> cases e
  rename_i r n
  change WB X _ [some (.int r), some (.int n)] μ _
  refine wb_go ?_
  walk_at "d_wb"
  walk_at "dl"
  all_goals (simp only [divI] at q; simp_all)
theorem ok_agree {f : Addr} {fd : FuncData} (F : Fun K "agree" "agree" s_agree f fd) (G_is_whole : GFn P w K mg base "is_whole" 1 spWhole) (G_divides : GFn P w K mg base "divides" 1 spDivides) : FnOk P w K mg base CX0 2 f fd ["one", "two", "rest"] (lift K spAgree) := by
  refine fn_dl F sc_agree (fun ds μ Q E h => ?_) fun X hX hf ds μ Q E h => ?_
  · unfold spAgree at h; obtain ⟨d, e, _⟩ := h; unfold fAgree at e; split at e <;> first | rfl | cases e
  have w0 : Nw X "one" 0 := hX.nl (by decide +kernel) (by decide +kernel)
  have m0 : Nm X "one" 0 := w0.toNm
  have w1 : Nw X "two" 1 := hX.nl (by decide +kernel) (by decide +kernel)
  have m1 : Nm X "two" 1 := w1.toNm
  have w2 : Nw X "rest" 2 := hX.nl (by decide +kernel) (by decide +kernel)
  have m2 : Nm X "rest" 2 := w2.toNm
  have c_is_whole : Cl X "is_whole" spWhole := hX.cl G_is_whole (by decide +kernel) (by decide)
  have c_divides : Cl X "divides" spDivides := hX.cl G_divides (by decide +kernel) (by decide)
  obtain ⟨d, e, _, q⟩ := h
  unfold fAgree at e
  split at e <;> cases e
  rename_i a b r
  change WB X _ [some (.int a), some (.int b), some (.int r)] μ _
  refine wb_go ?_
  walk_at "d_wb"
  walk_at "dl"
  exact q
theorem ok_left {f : Addr} {fd : FuncData} (F : Fun K "left" "left" s_left f fd)  : FnOk P w K mg base CX0 1 f fd ["number", "rest"] (lift K spLeft) := by
  refine fn_dl F sc_left (fun ds μ Q E h => ?_) fun X hX hf ds μ Q E h => ?_
  · unfold spLeft at h; obtain ⟨d, e, _⟩ := h; unfold fLeft at e; split at e <;> first | rfl | cases e
  have w0 : Nw X "number" 0 := hX.nl (by decide +kernel) (by decide +kernel)
  have m0 : Nm X "number" 0 := w0.toNm
  have w1 : Nw X "rest" 1 := hX.nl (by decide +kernel) (by decide +kernel)
  have m1 : Nm X "rest" 1 := w1.toNm
  obtain ⟨d, e, _, q⟩ := h
  unfold fLeft at e
  split at e <;> cases e
  rename_i n r
  change WB X _ [some (.int n), some (.int r)] μ _
  refine wb_go ?_
  walk_at "d_wb"
  walk_at "dl"
  all_goals (simp only [leftI] at q; simp_all)
theorem ok__law_box {f : Addr} {fd : FuncData} (F : Fun K "_law_box" "_law_box" s__law_box f fd)  : FnOk P w K mg base CX0 1 f fd ["_law_script"] (lift K spBox) := by
  refine fn_dl F sc__law_box (fun ds μ Q E h => ?_) fun X hX hf ds μ Q E h => ?_
  · obtain ⟨a, ⟨rfl, _⟩, _⟩ := h; rfl
  have w0 : Nw X "_law_script" 0 := hX.nl (by decide +kernel) (by decide +kernel)
  have m0 : Nm X "_law_script" 0 := w0.toNm
  have w1 : Nw X "_law_great" 1 := hX.nl (by decide +kernel) (by decide +kernel)
  have m1 : Nm X "_law_great" 1 := w1.toNm
  obtain ⟨⟨μ0, ns⟩, ⟨rfl, rfl, hl⟩, q, _⟩ := h
  change WB X _ [some (.lst (ns.map .int)), none, none] _ _
  refine wb_go ?_
  walk_at "d_wb"
  refine ctx_setLcM hX [("_law_cell", 2)] (vs := [2]) w1 ?_
  refine wi_list ?_
  walk_at "dl"
  refine lc_pure (fun d => [some (.lst (ns.map .int)), none, some d]) (geD 1000000000000000000) id SeqL.l.still (by rw [List.length_map]; exact small1000 (Nat.le_trans hl (by decide))) ?_ ?_ ?_ ?_
  · intro X' hb d hd
    have hX' := hX.blk hb
    exact wg_name (i := 2) (hX'.nl (by decide +kernel) (by decide +kernel)) (.s (.s .z)) ⟨rfl, rfl⟩
  · intro X' hb d hd
    have hX' := hX.blk hb
    have m2 : Nm X' "_law_cell" 2 := hX'.nm (by decide +kernel)
    obtain ⟨z, hz, rfl⟩ := List.mem_map.mp hd
    refine wts_one ?_
    walk_at "dl"
    first | exact ⟨rfl, rfl⟩ | exact ⟨trivial, rfl⟩
  · intro X' hb d hd _
    have hX' := hX.blk hb
    have m2 : Nm X' "_law_cell" 2 := hX'.nm (by decide +kernel)
    walk_at "dl"
    exact ⟨rfl, rfl⟩
  intro g hg
  rw [geD_map]
  generalize hgr : (ns.filter fun z => decide (1000000000000000000 ≤ z)) = great
  have hgl : great.length ≤ 63 := by rw [← hgr]; exact Nat.le_trans (List.length_filter_le _ _) hl
  have hg0 : ∀ z ∈ great, 0 ≤ z := by
    intro z hz
    rw [← hgr] at hz
    have := of_decide_eq_true (List.mem_filter.mp hz).2
    exact Int.le_trans (by decide) this
  refine ⟨_, .s .z, ?_⟩
  walk_at "d_wb"
  refine ws_ret ?_
  refine we_lstM ?_
  walk_at "dl"
  refine ctx_lc hX [("_law_cell", 2)] (vs := [2]) ?_
  refine wi_list ?_
  walk_at "dl"
  refine lc_pure (fun d => [some (.lst (ns.map .int)), some (.ref g), some d]) (ltD 1000000000000000000) id SeqL.l.still (by rw [List.length_map]; exact small1000 (Nat.le_trans hl (by decide))) ?_ ?_ ?_ ?_
  · intro X' hb d hd
    have hX' := hX.blk hb
    exact wg_name (i := 2) (hX'.nl (by decide +kernel) (by decide +kernel)) (.s (.s .z)) ⟨rfl, rfl⟩
  · intro X' hb d hd
    have hX' := hX.blk hb
    have m2 : Nm X' "_law_cell" 2 := hX'.nm (by decide +kernel)
    obtain ⟨z, hz, rfl⟩ := List.mem_map.mp hd
    refine wts_one ?_
    walk_at "dl"
    first | exact ⟨rfl, rfl⟩ | exact ⟨trivial, rfl⟩
  · intro X' hb d hd _
    have hX' := hX.blk hb
    have m2 : Nm X' "_law_cell" 2 := hX'.nm (by decide +kernel)
    walk_at "dl"
    exact ⟨rfl, rfl⟩
  rw [ltD_map]
  generalize hsm : (ns.filter fun z => decide (z < 1000000000000000000)) = small
  have hsl : small.length ≤ 63 := by rw [← hsm]; exact Nat.le_trans (List.length_filter_le _ _) hl
  walk_at "dl"
  intro b hb
  have hbg : g ≠ b := fun e => by subst e; rw [updM_same] at hb; cases hb
  exact q _ _ ⟨b, g, ⟨great, 0, small, 0⟩, rfl, rfl, hbg, ⟨hg0, Int.le_refl _, Int.le_refl _, hgl, hsl⟩, rfl⟩
def fMixed : List D → Option D
  | [.int c, .int k] => some (.int (mixI c k))
  | _ => none
def pMixed (ds : List D) : Prop := ∃ c k, ds = [.int c, .int k] ∧ 0 ≤ k ∧ k ≤ 2000000
abbrev spMixed : Spc := pureS fMixed pMixed
theorem ok__law_mixed {f : Addr} {fd : FuncData} (F : Fun K "_law_mixed" "_law_mixed" s__law_mixed f fd)  : FnOk P w K mg base CX0 1 f fd ["_law_cell", "_law_k"] (lift K spMixed) := by
  refine fn_dl F sc__law_mixed (fun ds μ Q E h => ?_) fun X hX hf ds μ Q E h => ?_
  · unfold spMixed at h; obtain ⟨d, e, _⟩ := h; unfold fMixed at e; split at e <;> first | rfl | cases e
  have w0 : Nw X "_law_cell" 0 := hX.nl (by decide +kernel) (by decide +kernel)
  have m0 : Nm X "_law_cell" 0 := w0.toNm
  have w1 : Nw X "_law_k" 1 := hX.nl (by decide +kernel) (by decide +kernel)
  have m1 : Nm X "_law_k" 1 := w1.toNm
  have w2 : Nw X "_law_whole" 2 := hX.nl (by decide +kernel) (by decide +kernel)
  have m2 : Nm X "_law_whole" 2 := w2.toNm
  obtain ⟨d, e, ⟨c, k, rfl, h0, h1⟩, q⟩ := h
  cases e
  change WB X _ [some (.int c), some (.int k), none] μ _
  refine wb_go ?_
  walk_at "d_wb"
  have hk : 0 ≤ 1009 * k * k ∧ 1009 * k * k ≤ 1009 * 2000000 * 2000000 :=
    ⟨Int.mul_nonneg (by omega) h0, Int.mul_le_mul (by omega) h1 h0 (by decide)⟩
  walk_at "dl"
  exact q
theorem ok__law_take {f : Addr} {fd : FuncData} (F : Fun K "_law_take" "_law_take" s__law_take f fd) (G__law_mixed : GFn P w K mg base "_law_mixed" 1 spMixed) (M_len : mg "len" = none) : FnOk P w K mg base CX0 2 f fd ["_law_box_here", "_law_size"] (lift K spTake) := by
  refine fn_dl F sc__law_take (fun ds μ Q E h => ?_) fun X hX hf ds μ Q E h => ?_
  · obtain ⟨a, ⟨rfl, _⟩, _⟩ := h; rfl
  have w0 : Nw X "_law_box_here" 0 := hX.nl (by decide +kernel) (by decide +kernel)
  have m0 : Nm X "_law_box_here" 0 := w0.toNm
  have w1 : Nw X "_law_size" 1 := hX.nl (by decide +kernel) (by decide +kernel)
  have m1 : Nm X "_law_size" 1 := w1.toNm
  have w2 : Nw X "_law_found" 2 := hX.nl (by decide +kernel) (by decide +kernel)
  have m2 : Nm X "_law_found" 2 := w2.toNm
  have w3 : Nw X "_law_cell" 3 := hX.nl (by decide +kernel) (by decide +kernel)
  have m3 : Nm X "_law_cell" 3 := w3.toNm
  have w4 : Nw X "_law_reach" 4 := hX.nl (by decide +kernel) (by decide +kernel)
  have m4 : Nm X "_law_reach" 4 := w4.toNm
  have c__law_mixed : Cl X "_law_mixed" spMixed := hX.cl G__law_mixed (by decide +kernel) (by decide)
  have b_len : Bl X "len" := hX.bl (by decide +kernel) M_len
  obtain ⟨⟨b, g, t, μ0, n⟩, ⟨rfl, rfl, hg, ht, hc, h1, hn⟩, q, _⟩ := h
  change WB X _ [some (.ref b), some (.int n), none, none, none] _ _
  refine wb_go ?_
  have q' : ∀ (r : Int) (t' : Bx), 0 ≤ r → r < n → BxOk t' → t'.cnt = t.cnt + 1 → Q (bxM b g t' μ0) (.int r) := fun r t' a1 a2 a3 a4 => q _ _ ⟨r, t', rfl, rfl, a1, a2, a3, a4⟩
  clear q
  dsimp only at hg hc h1 hn ht ⊢
  obtain ⟨g0, p0, c0, gl, sl⟩ := ht
  walk_at "ds"
  walk_at "d_wb"
  refine ws_join (fun Γ' μ' => Γ' = [some (.ref b), some (.int n), none, none, none] ∧ ∃ t1, μ' = bxM b g t1 μ0 ∧ BxOk t1 ∧ t1.cnt = t.cnt + 1) ?_ ?_
  · walk_at "dl"
    · rename_i hp hgt
      obtain ⟨z, r, hz⟩ : ∃ z r, t.great = z :: r := by
        cases h : t.great with
        | nil => rw [h] at hgt; exact absurd hgt (by decide)
        | cons z r => exact ⟨z, r, rfl⟩
      have hr : (List.map D.int t.great).eraseIdx 0 = r.map D.int := by rw [hz]; rfl
      refine ⟨0, .int z, seqIndex_of (by decide) (by rw [List.length_map, hz, List.length_cons]; omega), by rw [hz]; rfl, ?_⟩
      dsimp only
      rw [hr, bxM_setg hg]
      walk_at "dl"
      refine ⟨rfl, _, rfl, ⟨fun y hy => g0 y (by rw [hz]; exact List.mem_cons_of_mem _ hy), g0 z (by rw [hz]; exact List.mem_cons_self), by dsimp only; omega, ?_, sl⟩, rfl⟩
      rw [hz, List.length_cons] at gl
      dsimp only
      omega
    all_goals exact ⟨rfl, _, rfl, ⟨g0, p0, by dsimp only; omega, gl, sl⟩, rfl⟩
  rintro _ _ ⟨rfl, t1, rfl, ⟨g0, p0, c0, gl, sl⟩, hc1⟩
  walk_at "ds"
  · walk_at "dl"
    refine q' _ _ ?_ ?_ ?_ hc1
    · exact Int.emod_nonneg _ (by omega)
    · exact Int.emod_lt_of_pos _ (by omega)
    · exact ⟨g0, Int.ediv_nonneg p0 (by omega), c0, gl, sl⟩
  walk_at "ds"
  walk_at "d_wb"
  refine ws_join (fun Γ' μ' => ∃ c, Γ' = [some (.ref b), some (.int n), none, some (.int c), none] ∧ μ' = bxM b g t1 μ0) ?_ ?_
  · walk_at "dl"
    · rename_i hs
      obtain ⟨d, hd1, hd2, _⟩ := atI_ex (i := t1.cnt % ((t1.small.map D.int).length : Int)) (Int.emod_nonneg _ (by omega)) (Int.emod_lt_of_pos _ hs)
      obtain ⟨z, _, rfl⟩ := List.mem_map.mp hd2
      refine ix_l hd1 ?_
      walk_at "dl"
      exact ⟨_, rfl, rfl⟩
    · exact ⟨_, rfl, rfl⟩
  rintro _ _ ⟨c, rfl, rfl⟩
  walk_at "ds"
  walk_at "ds"
  walk_at "d_wb"
  refine ctx_while hX (fun m Γ' μ' => ∃ x y, Γ' = [some (.ref b), some (.int n), some (.int x), some (.int c), some (.int y)] ∧ μ' = bxM b g t1 μ0 ∧ 0 ≤ x ∧ 1 ≤ y ∧ m = (n - y).toNat) ⟨_, 0, 1, rfl, rfl, by decide, by decide, rfl⟩ ?_
  rintro m _ _ ⟨x, y, rfl, rfl, hx, hy, rfl⟩
  walk_at "dl"
  · refine pure_i rfl ⟨_, _, rfl, by omega, by omega⟩ ?_
    have hm : 0 ≤ mixI c (t1.cnt + 1000 * (x % 89)) := Int.emod_nonneg _ (by decide)
    walk_at "dl"
    exact ⟨_, by omega, _, _, rfl, rfl, by omega, by omega, rfl⟩
  · exact q' _ _ (Int.emod_nonneg _ (by omega)) (Int.emod_lt_of_pos _ (by omega)) ⟨g0, p0, c0, gl, sl⟩ hc1
abbrev spRest : Spc := boxI (β := Unit) (fun _ => []) (fun _ => True) 20 (fun _ => 0) (fun _ => 1000000)
theorem ok__law_rest {f : Addr} {fd : FuncData} (F : Fun K "_law_rest" "_law_rest" s__law_rest f fd) (G__law_take : GFn P w K mg base "_law_take" 2 spTake) (M_range : mg "range" = none) : FnOk P w K mg base CX0 3 f fd ["_law_box_here"] (lift K spRest) := by
  refine fn_dl F sc__law_rest (fun ds μ Q E h => ?_) fun X hX hf ds μ Q E h => ?_
  · obtain ⟨a, ⟨rfl, _⟩, _⟩ := h; rfl
  have w0 : Nw X "_law_box_here" 0 := hX.nl (by decide +kernel) (by decide +kernel)
  have m0 : Nm X "_law_box_here" 0 := w0.toNm
  have w1 : Nw X "_law_way" 1 := hX.nl (by decide +kernel) (by decide +kernel)
  have m1 : Nm X "_law_way" 1 := w1.toNm
  have w2 : Nw X "_law_built" 2 := hX.nl (by decide +kernel) (by decide +kernel)
  have m2 : Nm X "_law_built" 2 := w2.toNm
  have w3 : Nw X "_law_k" 3 := hX.nl (by decide +kernel) (by decide +kernel)
  have m3 : Nm X "_law_k" 3 := w3.toNm
  have c__law_take : Cl X "_law_take" spTake := hX.cl G__law_take (by decide +kernel) (by decide)
  have b_range : Bl X "range" := hX.bl (by decide +kernel) M_range
  obtain ⟨⟨b, g, t, μ0, _⟩, ⟨rfl, rfl, hg, ht, hc, _⟩, q, _⟩ := h
  change WB X _ [some (.ref b), none, none, none] (bxM b g t μ0) _
  refine wb_go ?_
  have q' : ∀ (r : Int) (t' : Bx), 0 ≤ r → r ≤ 1000000 → BxOk t' → t.cnt ≤ t'.cnt → t'.cnt ≤ t.cnt + 20 → Q (bxM b g t' μ0) (.int r) := fun r t' a1 a2 a3 a4 a5 => q _ _ ⟨t', rfl, a3, a4, a5, r, rfl, a1, a2⟩
  clear q
  dsimp only at hg hc ht ⊢
  walk_at "dl"
  · exact q' _ _ (by omega) (by omega) (by assumption) (by omega) (by omega)
  · refine ix_range 0 1000000 (by omega) (by show _ < 6; omega) (by walk_at "ix") fun z _ _ => ?_
    walk_at "dl"
    exact q' _ _ (by omega) (by omega) (by assumption) (by omega) (by omega)
  · rename_i r t1 _ _ _ _ _ _ _
    refine ctx_for hX ?_
    refine wi_range1 b_range ?_
    walk_at "dl"
    rename_i n t2 _ _ _ _
    refine ⟨fun i Γ' μ' => ∃ (v : Int) (kk : Option D) (t3 : Bx), Γ' = [some (.ref b), some (.int r), some (.int v), kk] ∧ μ' = bxM b g t3 μ0 ∧ BxOk t3 ∧ 1 ≤ v ∧ v ≤ 7 ^ i ∧ t2.cnt ≤ t3.cnt ∧ t3.cnt ≤ t2.cnt + i,
      ⟨1, none, t2, rfl, rfl, by assumption, by decide, by decide, by omega, by omega⟩, fun _ _ _ _ _ => trivial, ?_, ?_⟩
    · rintro i d _ _ hd ⟨v, kk, t3, rfl, rfl, ht3, h1, h2, h3, h4⟩
      obtain ⟨hi, rfl⟩ := rangeD_get hd
      walk_at "dl"
      rename_i x t4 _ _ _ _
      refine ix_range 2 7 (by omega) (by show _ < 5; omega) (by walk_at "ix") fun z hz1 hz2 => ?_
      have hm1 : 1 * 1 ≤ v * z := Int.mul_le_mul h1 (by omega) (by omega) (by omega)
      have hm2 : v * z ≤ 7 ^ i * 7 := Int.mul_le_mul h2 hz2 (by omega) (Int.pow_nonneg (by decide))
      walk_at "dl"
      exact ⟨v * z, _, t4, rfl, rfl, by assumption, by omega, by rw [Int.pow_succ]; exact hm2, by omega, by omega⟩
    · rintro _ _ ⟨v, kk, t3, rfl, rfl, ht3, h1, h2, h3, h4⟩
      rw [rangeD_len] at h2 h4
      have hn : n.toNat ≤ 6 := by omega
      have h6 : (7 : Int) ^ n.toNat ≤ 7 ^ 6 := by
        have := Nat.pow_le_pow_right (n := 7) (by decide) hn
        exact_mod_cast this
      have h7 : (7 : Int) ^ 6 = 117649 := by decide
      walk_at "dl"
      exact q' _ _ (by omega) (by omega) (by assumption) (by omega) (by omega)
  · refine ix_range 0 1000000 (by omega) (by show _ < 3; omega) (by walk_at "ix") fun z _ _ => ?_
    walk_at "dl"
    exact q' _ _ (by omega) (by omega) (by assumption) (by omega) (by omega)
abbrev spAny : Spc := boxI (β := Unit) (fun _ => []) (fun _ => True) 3 (fun _ => -10000000000000000000000000000000000000000) (fun _ => 10000000000000000000000000000000000000000)
theorem ok__law_any {f : Addr} {fd : FuncData} (F : Fun K "_law_any" "_law_any" s__law_any f fd) (G__law_take : GFn P w K mg base "_law_take" 2 spTake) : FnOk P w K mg base CX0 3 f fd ["_law_box_here"] (lift K spAny) := by
  refine fn_dl F sc__law_any (fun ds μ Q E h => ?_) fun X hX hf ds μ Q E h => ?_
  · obtain ⟨a, ⟨rfl, _⟩, _⟩ := h; rfl
  have w0 : Nw X "_law_box_here" 0 := hX.nl (by decide +kernel) (by decide +kernel)
  have m0 : Nm X "_law_box_here" 0 := w0.toNm
  have w1 : Nw X "_law_size" 1 := hX.nl (by decide +kernel) (by decide +kernel)
  have m1 : Nm X "_law_size" 1 := w1.toNm
  have c__law_take : Cl X "_law_take" spTake := hX.cl G__law_take (by decide +kernel) (by decide)
  obtain ⟨⟨b, g, t, μ0, _⟩, ⟨rfl, rfl, hg, ht, hc, _⟩, q, _⟩ := h
  change WB X _ [some (.ref b), none] (bxM b g t μ0) _
  refine wb_go ?_
  have q' : ∀ (r : Int) (t' : Bx), -10000000000000000000000000000000000000000 ≤ r → r ≤ 10000000000000000000000000000000000000000 → BxOk t' → t.cnt ≤ t'.cnt → t'.cnt ≤ t.cnt + 3 → Q (bxM b g t' μ0) (.int r) := fun r t' a1 a2 a3 a4 a5 => q _ _ ⟨t', rfl, a3, a4, a5, r, rfl, a1, a2⟩
  clear q
  dsimp only at hg hc ht ⊢
  walk_at "dl"
  refine ix_range 3 (10 ^ 40) (by omega) (by show _ < 5; omega) (by walk_at "ix") fun z _ _ => ?_
  walk_at "dl"
  rename_i r t2 _ _ _ _ s t3 _ _ _ _
  have h1 : r * (1 - 2 * s) = r ∨ r * (1 - 2 * s) = -r := by
    have : s = 0 ∨ s = 1 := by omega
    rcases this with rfl | rfl
    · left; omega
    · right; omega
  exact q' _ _ (by omega) (by omega) (by assumption) (by omega) (by omega)
def fLeaves : List D → Option D
  | [.int told, .int by_, .int found] => some (.bl (if by_ = 0 then decide (found = told) else decide (0 ≤ found) && decide (found < by_) && decide ((told - found) / by_ * by_ = told - found)))
  | _ => none
def pLeaves (ds : List D) : Prop := ∃ told by_ found : Int, ds = [.int told, .int by_, .int found] ∧ 0 ≤ by_ ∧ by_ ≤ 10 ^ 60 ∧ -(10 ^ 60) ≤ told ∧ told ≤ 10 ^ 60
abbrev spLeaves : Spc := pureS fLeaves pLeaves
theorem ok__law_leaves {f : Addr} {fd : FuncData} (F : Fun K "_law_leaves" "_law_leaves" s__law_leaves f fd) (M_isinstance : mg "isinstance" = none) (M_bool : mg "bool" = none) (M_int : mg "int" = none) : FnOk P w K mg base CX0 1 f fd ["_law_told", "_law_by", "_law_found"] (lift K spLeaves) := by
  refine fn_dl F sc__law_leaves (fun ds μ Q E h => ?_) fun X hX hf ds μ Q E h => ?_
  · unfold spLeaves at h; obtain ⟨d, e, _⟩ := h; unfold fLeaves at e; split at e <;> first | rfl | cases e
  have w0 : Nw X "_law_told" 0 := hX.nl (by decide +kernel) (by decide +kernel)
  have m0 : Nm X "_law_told" 0 := w0.toNm
  have w1 : Nw X "_law_by" 1 := hX.nl (by decide +kernel) (by decide +kernel)
  have m1 : Nm X "_law_by" 1 := w1.toNm
  have w2 : Nw X "_law_found" 2 := hX.nl (by decide +kernel) (by decide +kernel)
  have m2 : Nm X "_law_found" 2 := w2.toNm
  have b_isinstance : Bl X "isinstance" := hX.bl (by decide +kernel) M_isinstance
  have b_bool : Bl X "bool" := hX.bl (by decide +kernel) M_bool
  have b_int : Bl X "int" := hX.bl (by decide +kernel) M_int
  obtain ⟨d, e, ⟨told, by_, found, rfl, h0, hb, ht1, ht2⟩, q⟩ := h
  cases e
  change WB X _ [some (.int told), some (.int by_), some (.int found)] μ _
  refine wb_go ?_
  walk_at "dl"
  · rw [if_pos (by assumption)] at q
    exact q
  · rename_i hby h1 h2
    rw [if_neg hby, decide_eq_true h1, decide_eq_true h2] at q
    have hq := ediv_bd (a := told - found) (b := by_) (M := 10 ^ 61) (by omega) (by omega) (by omega)
    refine req (DL.MulOk.m (by omega) (by omega) (by omega) (by omega)) ?_
    walk_at "dl"
    exact q
  · rename_i hby h1 h2
    rw [if_neg hby, decide_eq_true h1, decide_eq_false h2] at q
    walk_at "dl"
    exact q
  · rename_i hby h1
    rw [if_neg hby, decide_eq_false h1] at q
    walk_at "dl"
    exact q
def fSays : List D → Option D
  | [.bl a, .bl b] => some (.bl (decide (a = b)))
  | _ => none
abbrev spSays : Spc := pureS fSays
theorem ok__law_says {f : Addr} {fd : FuncData} (F : Fun K "_law_says" "_law_says" s__law_says f fd) (M_isinstance : mg "isinstance" = none) (M_bool : mg "bool" = none) : FnOk P w K mg base CX0 1 f fd ["_law_found", "_law_due"] (lift K spSays) := by
  refine fn_dl F sc__law_says (fun ds μ Q E h => ?_) fun X hX hf ds μ Q E h => ?_
  · unfold spSays at h; obtain ⟨d, e, _⟩ := h; unfold fSays at e; split at e <;> first | rfl | cases e
  have w0 : Nw X "_law_found" 0 := hX.nl (by decide +kernel) (by decide +kernel)
  have m0 : Nm X "_law_found" 0 := w0.toNm
  have w1 : Nw X "_law_due" 1 := hX.nl (by decide +kernel) (by decide +kernel)
  have m1 : Nm X "_law_due" 1 := w1.toNm
  have b_isinstance : Bl X "isinstance" := hX.bl (by decide +kernel) M_isinstance
  have b_bool : Bl X "bool" := hX.bl (by decide +kernel) M_bool
  obtain ⟨d, e, _, q⟩ := h
  unfold fSays at e
  split at e <;> cases e
  rename_i a b
  change WB X _ [some (.bl a), some (.bl b)] μ _
  refine wb_go ?_
  walk_at "dl"
  exact q
theorem div_iff {m a : Int} (h : 0 < m) : decide (a % m = 0) = decide (a / m * m = a) := by
  have e : a % m + m * (a / m) = a := Int.emod_add_mul_ediv a m
  rw [Int.mul_comm] at e
  by_cases h0 : a % m = 0
  · rw [decide_eq_true h0, decide_eq_true (by omega)]
  · rw [decide_eq_false h0, decide_eq_false (by omega)]
theorem div_neg {m a : Int} : decide ((-a) % m = 0) = decide (a % m = 0) := by
  have e : (-a) % m = 0 ↔ a % m = 0 := by
    rw [← Int.dvd_iff_emod_eq_zero, ← Int.dvd_iff_emod_eq_zero, Int.dvd_neg]
  exact decide_eq_decide.mpr e
def dueI (m a : Int) : Bool := if 0 < m then decide (a / m * m = a) else decide (a = 0)
theorem divI_due {m a : Int} : divI m a = dueI m a := by
  unfold divI dueI
  by_cases h : 0 < m
  · rw [if_pos h, if_pos h, div_iff h]
  · rw [if_neg h, if_neg h]
theorem dueI_neg {m a b : Int} : divI m (b - a) = dueI m (a - b) := by
  rw [← divI_due]
  unfold divI
  have e : b - a = -(a - b) := by omega
  rw [e, div_neg]
  by_cases h : 0 < m
  · rw [if_pos h, if_pos h]
  · rw [if_neg h, if_neg h]
    exact decide_eq_decide.mpr (by omega)
theorem left_leaves {m a : Int} (h0 : 0 ≤ m) : (if m = 0 then decide (leftI m a = a) else decide (0 ≤ leftI m a) && decide (leftI m a < m) && decide ((a - leftI m a) / m * m = a - leftI m a)) = true := by
  unfold leftI
  by_cases h : m = 0
  · subst h
    simp
  · have hm : 0 < m := by omega
    rw [if_neg h, if_pos hm, decide_eq_true (Int.emod_nonneg _ h), decide_eq_true (Int.emod_lt_of_pos _ hm), ← div_iff hm]
    have : (a - a % m) % m = 0 := by
      rw [← Int.dvd_iff_emod_eq_zero]
      exact Int.dvd_self_sub_emod
    rw [decide_eq_true this]
    rfl
theorem left_same {m a b : Int} (h0 : 0 ≤ m) : decide (decide (leftI m a = leftI m b) = dueI m (a - b)) = true := by
  refine decide_eq_true ?_
  rw [← divI_due]
  unfold leftI divI
  by_cases h : 0 < m
  · rw [if_pos h, if_pos h, if_pos h]
    exact decide_eq_decide.mpr Int.emod_eq_emod_iff_emod_sub_eq_zero
  · rw [if_neg h, if_neg h, if_neg h]
    exact decide_eq_decide.mpr (by omega)
theorem ok_law {f : Addr} {fd : FuncData} (F : Fun K "law" "law" s_law f fd) (G__law_box : GFn P w K mg base "_law_box" 1 spBox) (G__law_any : GFn P w K mg base "_law_any" 3 spAny) (G__law_rest : GFn P w K mg base "_law_rest" 3 spRest) (G__law_take : GFn P w K mg base "_law_take" 2 spTake) (G__law_says : GFn P w K mg base "_law_says" 1 spSays) (G__law_leaves : GFn P w K mg base "_law_leaves" 1 spLeaves) (G_left_k1_rest : GFk P w K mg base "left" 1 1 ["rest"] gApp spLeft) (G_left_k0_number_rest : GFk P w K mg base "left" 1 0 ["number", "rest"] gApp spLeft) (G_agree_k2_rest : GFk P w K mg base "agree" 2 2 ["rest"] gApp spAgree) (G_agree_k0_two_one_rest : GFk P w K mg base "agree" 2 0 ["two", "one", "rest"] g102 spAgree) : FnOk P w K mg base CX0 4 f fd ["_law_script"] (lift K spLaw) := by
  refine fn_dl F sc_law (fun ds μ Q E h => ?_) fun X hX hf ds μ Q E h => ?_
  · obtain ⟨ns, rfl, _⟩ := h; rfl
  have w0 : Nw X "_law_script" 0 := hX.nl (by decide +kernel) (by decide +kernel)
  have m0 : Nm X "_law_script" 0 := w0.toNm
  have w1 : Nw X "_law_box_here" 1 := hX.nl (by decide +kernel) (by decide +kernel)
  have m1 : Nm X "_law_box_here" 1 := w1.toNm
  have w2 : Nw X "_law_first" 2 := hX.nl (by decide +kernel) (by decide +kernel)
  have m2 : Nm X "_law_first" 2 := w2.toNm
  have w3 : Nw X "_law_by" 3 := hX.nl (by decide +kernel) (by decide +kernel)
  have m3 : Nm X "_law_by" 3 := w3.toNm
  have w4 : Nw X "_law_step" 4 := hX.nl (by decide +kernel) (by decide +kernel)
  have m4 : Nm X "_law_step" 4 := w4.toNm
  have w5 : Nw X "_law_second" 5 := hX.nl (by decide +kernel) (by decide +kernel)
  have m5 : Nm X "_law_second" 5 := w5.toNm
  have w6 : Nw X "_law_gap" 6 := hX.nl (by decide +kernel) (by decide +kernel)
  have m6 : Nm X "_law_gap" 6 := w6.toNm
  have w7 : Nw X "_law_due" 7 := hX.nl (by decide +kernel) (by decide +kernel)
  have m7 : Nm X "_law_due" 7 := w7.toNm
  have w8 : Nw X "_law_found" 8 := hX.nl (by decide +kernel) (by decide +kernel)
  have m8 : Nm X "_law_found" 8 := w8.toNm
  have w9 : Nw X "_law_here" 9 := hX.nl (by decide +kernel) (by decide +kernel)
  have m9 : Nm X "_law_here" 9 := w9.toNm
  have w10 : Nw X "_law_there" 10 := hX.nl (by decide +kernel) (by decide +kernel)
  have m10 : Nm X "_law_there" 10 := w10.toNm
  have c__law_box : Cl X "_law_box" spBox := hX.cl G__law_box (by decide +kernel) (by decide)
  have c__law_any : Cl X "_law_any" spAny := hX.cl G__law_any (by decide +kernel) (by decide)
  have c__law_rest : Cl X "_law_rest" spRest := hX.cl G__law_rest (by decide +kernel) (by decide)
  have c__law_take : Cl X "_law_take" spTake := hX.cl G__law_take (by decide +kernel) (by decide)
  have c__law_says : Cl X "_law_says" spSays := hX.cl G__law_says (by decide +kernel) (by decide)
  have c__law_leaves : Cl X "_law_leaves" spLeaves := hX.cl G__law_leaves (by decide +kernel) (by decide)
  have c_left_k1_rest : ClK X "left" 1 ["rest"] gApp spLeft := hX.clK G_left_k1_rest (by decide +kernel) (by decide) (fun h1 h2 a b => gApp_is h1 h2 a b)
  have c_left_k0_number_rest : ClK X "left" 0 ["number", "rest"] gApp spLeft := hX.clK G_left_k0_number_rest (by decide +kernel) (by decide) (fun h1 h2 a b => gApp_is h1 h2 a b)
  have c_agree_k2_rest : ClK X "agree" 2 ["rest"] gApp spAgree := hX.clK G_agree_k2_rest (by decide +kernel) (by decide) (fun h1 h2 a b => gApp_is h1 h2 a b)
  have c_agree_k0_two_one_rest : ClK X "agree" 0 ["two", "one", "rest"] g102 spAgree := hX.clK G_agree_k0_two_one_rest (by decide +kernel) (by decide) (fun h1 h2 a b => g102_is h1 h2 a b)
  obtain ⟨ns, rfl, hl, _, q⟩ := h
  change WB X _ [some (.lst (ns.map .int)), none, none, none, none, none, none, none, none, none, none] μ _
  refine wb_go ?_
  walk_at "ds"
  walk_at "ds"
  rename_i b g t0 hg _ h0 first t1 hf1 hf2 _ _ _
  walk_at "ds"
  rename_i by0 t2 _ _ _ _ _
  walk_at "d_wb"
  refine ws_join (fun Γ' μ' => ∃ (m : Int) (t3 : Bx), Γ' = [some (.lst (ns.map .int)), some (.ref b), some (.int first), some (.int m), none, none, none, none, none, none, none] ∧ μ' = bxM b g t3 μ ∧ 0 ≤ m ∧ m ≤ 10 ^ 34 ∧ BxOk t3 ∧ t3.cnt ≤ t2.cnt + 2) ?_ ?_
  · walk_at "dl"
    · exact ⟨_, _, rfl, rfl, by omega, by omega, by assumption, by omega⟩
    · exact ⟨_, _, rfl, rfl, by omega, by omega, by assumption, by omega⟩
  rintro _ _ ⟨m, t3, rfl, rfl, hm0, hm1, _, _⟩
  walk_at "ds"
  refine ix_range (-1000) 1000 (by omega) (by show _ < 5; omega) (by walk_at "ix") fun step _ _ => ?_
  walk_at "dx"
  walk_at "ds"
  rename_i any1 t6 _ _ _ _ _
  walk_at "d_wb"
  refine ws_join (fun Γ' μ' => ∃ (x y : Int) (t7 : Bx), Γ' = [some (.lst (ns.map .int)), some (.ref b), some (.int x), some (.int m), some (.int step), some (.int y), none, none, none, none, none] ∧ μ' = bxM b g t7 μ ∧ -(10 ^ 41) ≤ y ∧ y ≤ 10 ^ 41 ∧ -(10 ^ 42) ≤ x ∧ x ≤ 10 ^ 42 ∧ BxOk t7 ∧ t7.cnt ≤ t6.cnt + 2) ?_ ?_
  · walk_at "dl"
    · rename_i s7 t8 _ _ _ _
      have b1 := Int.mul_le_mul_of_nonneg_left (show s7 - 1000 ≤ 1000 by omega) hm0
      have b2 := Int.mul_le_mul_of_nonneg_left (show -1000 ≤ s7 - 1000 by omega) hm0
      exact ⟨_, _, _, rfl, rfl, by omega, by omega, by omega, by omega, by assumption, by omega⟩
    · exact ⟨_, _, _, rfl, rfl, by omega, by omega, by omega, by omega, by assumption, by omega⟩
  rintro _ _ ⟨x, y, t7, rfl, rfl, hy0, hy1, hx0, hx1, _, _⟩
  walk_at "ds"
  walk_at "ds"
  walk_at "d_wb"
  have hq := fun h : 0 < m => ediv_bd (a := x - y) (b := m) (M := 10 ^ 43) h (by omega) (by omega)
  refine ws_join (fun Γ' μ' => Γ' = [some (.lst (ns.map .int)), some (.ref b), some (.int x), some (.int m), some (.int step), some (.int y), some (.int (x - y)), some (.bl (dueI m (x - y))), none, none, none] ∧ μ' = bxM b g t7 μ) ?_ ?_
  · walk_at "dl"
    · rename_i h
      refine ⟨?_, rfl⟩
      unfold dueI
      rw [if_pos h]
    · rename_i h
      refine ⟨?_, rfl⟩
      unfold dueI
      rw [if_neg h]
  rintro _ _ ⟨rfl, rfl⟩
  walk_at "d_wb"
  refine ctx_for hX ?_
  refine wi_list ?_
  walk_at "dx"
  refine ⟨fun i Γ' μ' => ∃ f, Γ' = [some (.lst (ns.map .int)), some (.ref b), some (.int x), some (.int m), some (.int step), some (.int y), some (.int (x - y)), some (.bl (dueI m (x - y))), f, none, none] ∧ μ' = bxM b g t7 μ, ⟨_, rfl, rfl⟩, fun _ _ _ _ _ => SeqL.l.still, ?_, ?_⟩
  · rintro i d _ _ hd ⟨f, rfl, rfl⟩
    have hall : d = .bl (dueI m (x - y)) := by
      have hm := List.mem_of_getElem? hd
      simp only [List.mem_cons, List.not_mem_nil, or_false] at hm
      rcases hm with rfl | rfl | rfl
      · rw [divI_due]
      · rw [dueI_neg, ← divI_due, divI_due]
      · rw [divI_due]
    subst hall
    walk_at "dl"
    · rename_i h
      exact absurd rfl h
    · exact ⟨_, rfl, rfl⟩
  rintro _ _ ⟨f, rfl, rfl⟩
  walk_at "ds"
  walk_at "ds"
  walk_at "d_wb"
  walk_at "dx"
  refine pure_i rfl ⟨_, _, _, rfl, by omega, by omega, by omega, by omega⟩ ?_
  rw [left_leaves hm0]
  walk_at "dx"
  refine pure_i rfl ⟨_, _, _, rfl, by omega, by omega, by omega, by omega⟩ ?_
  rw [left_leaves hm0]
  walk_at "dl"
  rw [left_same hm0]
  exact q _
end
theorem all_mk {l : PySem.W.OpenLaw} {w : World} {K : PySem.W.Frag} {h : Heap} {mg : Str → Option Value} {fa : Addr} (X : K.In h) (G : h.Ns mainGlobals mg) (hfa : mg "law" = some (.ref fa))
    {f0 : Addr} {od0 an0 : Option Addr} {sl0 : Array (Option Value)} {oc0 kV0 dc0 pm0 cd0 ct0 : Value}
    {f1 : Addr} {od1 an1 : Option Addr} {sl1 : Array (Option Value)} {oc1 kV1 dc1 pm1 cd1 ct1 : Value}
    {f2 : Addr} {od2 an2 : Option Addr} {sl2 : Array (Option Value)} {oc2 kV2 dc2 pm2 cd2 ct2 : Value}
    {f3 : Addr} {od3 an3 : Option Addr} {sl3 : Array (Option Value)} {oc3 kV3 dc3 pm3 cd3 ct3 : Value}
    {f4 : Addr} {od4 an4 : Option Addr} {sl4 : Array (Option Value)} {oc4 kV4 dc4 pm4 cd4 ct4 : Value}
    {f5 : Addr} {od5 an5 : Option Addr} {sl5 : Array (Option Value)} {oc5 kV5 dc5 pm5 cd5 ct5 : Value}
    {f6 : Addr} {od6 an6 : Option Addr} {sl6 : Array (Option Value)} {oc6 kV6 dc6 pm6 cd6 ct6 : Value}
    {f7 : Addr} {od7 an7 : Option Addr} {sl7 : Array (Option Value)} {oc7 kV7 dc7 pm7 cd7 ct7 : Value}
    {f8 : Addr} {od8 an8 : Option Addr} {sl8 : Array (Option Value)} {oc8 kV8 dc8 pm8 cd8 ct8 : Value}
    {f9 : Addr} {od9 an9 : Option Addr} {sl9 : Array (Option Value)} {oc9 kV9 dc9 pm9 cd9 ct9 : Value}
    {f10 : Addr} {od10 an10 : Option Addr} {sl10 : Array (Option Value)} {oc10 kV10 dc10 pm10 cd10 ct10 : Value}
    {f11 : Addr} {od11 an11 : Option Addr} {sl11 : Array (Option Value)} {oc11 kV11 dc11 pm11 cd11 ct11 : Value}
    (a0 : PySem.W.nsIn K mainGlobals "is_whole" = some (some (.ref f0)))
    (l0 : K.lookup f0 = some ⟨oc0, od0, .func (PySem.W.fnOf "is_whole" "is_whole" (defArgs s_is_whole) (defBody s_is_whole) (defScope s_is_whole) .none kV0 dc0 pm0 an0 cd0 ct0), sl0⟩)
    (c0 : PySem.W.codeIn K cd0 "is_whole" = true)
    (k0 : PySem.W.keepIn K (.ref f0) = true)
    (a1 : PySem.W.nsIn K mainGlobals "divides" = some (some (.ref f1)))
    (l1 : K.lookup f1 = some ⟨oc1, od1, .func (PySem.W.fnOf "divides" "divides" (defArgs s_divides) (defBody s_divides) (defScope s_divides) .none kV1 dc1 pm1 an1 cd1 ct1), sl1⟩)
    (c1 : PySem.W.codeIn K cd1 "divides" = true)
    (k1 : PySem.W.keepIn K (.ref f1) = true)
    (a2 : PySem.W.nsIn K mainGlobals "agree" = some (some (.ref f2)))
    (l2 : K.lookup f2 = some ⟨oc2, od2, .func (PySem.W.fnOf "agree" "agree" (defArgs s_agree) (defBody s_agree) (defScope s_agree) .none kV2 dc2 pm2 an2 cd2 ct2), sl2⟩)
    (c2 : PySem.W.codeIn K cd2 "agree" = true)
    (k2 : PySem.W.keepIn K (.ref f2) = true)
    (a3 : PySem.W.nsIn K mainGlobals "left" = some (some (.ref f3)))
    (l3 : K.lookup f3 = some ⟨oc3, od3, .func (PySem.W.fnOf "left" "left" (defArgs s_left) (defBody s_left) (defScope s_left) .none kV3 dc3 pm3 an3 cd3 ct3), sl3⟩)
    (c3 : PySem.W.codeIn K cd3 "left" = true)
    (k3 : PySem.W.keepIn K (.ref f3) = true)
    (a4 : PySem.W.nsIn K mainGlobals "_law_box" = some (some (.ref f4)))
    (l4 : K.lookup f4 = some ⟨oc4, od4, .func (PySem.W.fnOf "_law_box" "_law_box" (defArgs s__law_box) (defBody s__law_box) (defScope s__law_box) .none kV4 dc4 pm4 an4 cd4 ct4), sl4⟩)
    (c4 : PySem.W.codeIn K cd4 "_law_box" = true)
    (k4 : PySem.W.keepIn K (.ref f4) = true)
    (a5 : PySem.W.nsIn K mainGlobals "_law_mixed" = some (some (.ref f5)))
    (l5 : K.lookup f5 = some ⟨oc5, od5, .func (PySem.W.fnOf "_law_mixed" "_law_mixed" (defArgs s__law_mixed) (defBody s__law_mixed) (defScope s__law_mixed) .none kV5 dc5 pm5 an5 cd5 ct5), sl5⟩)
    (c5 : PySem.W.codeIn K cd5 "_law_mixed" = true)
    (k5 : PySem.W.keepIn K (.ref f5) = true)
    (a6 : PySem.W.nsIn K mainGlobals "_law_take" = some (some (.ref f6)))
    (l6 : K.lookup f6 = some ⟨oc6, od6, .func (PySem.W.fnOf "_law_take" "_law_take" (defArgs s__law_take) (defBody s__law_take) (defScope s__law_take) .none kV6 dc6 pm6 an6 cd6 ct6), sl6⟩)
    (c6 : PySem.W.codeIn K cd6 "_law_take" = true)
    (k6 : PySem.W.keepIn K (.ref f6) = true)
    (a7 : PySem.W.nsIn K mainGlobals "_law_rest" = some (some (.ref f7)))
    (l7 : K.lookup f7 = some ⟨oc7, od7, .func (PySem.W.fnOf "_law_rest" "_law_rest" (defArgs s__law_rest) (defBody s__law_rest) (defScope s__law_rest) .none kV7 dc7 pm7 an7 cd7 ct7), sl7⟩)
    (c7 : PySem.W.codeIn K cd7 "_law_rest" = true)
    (k7 : PySem.W.keepIn K (.ref f7) = true)
    (a8 : PySem.W.nsIn K mainGlobals "_law_any" = some (some (.ref f8)))
    (l8 : K.lookup f8 = some ⟨oc8, od8, .func (PySem.W.fnOf "_law_any" "_law_any" (defArgs s__law_any) (defBody s__law_any) (defScope s__law_any) .none kV8 dc8 pm8 an8 cd8 ct8), sl8⟩)
    (c8 : PySem.W.codeIn K cd8 "_law_any" = true)
    (k8 : PySem.W.keepIn K (.ref f8) = true)
    (a9 : PySem.W.nsIn K mainGlobals "_law_leaves" = some (some (.ref f9)))
    (l9 : K.lookup f9 = some ⟨oc9, od9, .func (PySem.W.fnOf "_law_leaves" "_law_leaves" (defArgs s__law_leaves) (defBody s__law_leaves) (defScope s__law_leaves) .none kV9 dc9 pm9 an9 cd9 ct9), sl9⟩)
    (c9 : PySem.W.codeIn K cd9 "_law_leaves" = true)
    (k9 : PySem.W.keepIn K (.ref f9) = true)
    (a10 : PySem.W.nsIn K mainGlobals "_law_says" = some (some (.ref f10)))
    (l10 : K.lookup f10 = some ⟨oc10, od10, .func (PySem.W.fnOf "_law_says" "_law_says" (defArgs s__law_says) (defBody s__law_says) (defScope s__law_says) .none kV10 dc10 pm10 an10 cd10 ct10), sl10⟩)
    (c10 : PySem.W.codeIn K cd10 "_law_says" = true)
    (k10 : PySem.W.keepIn K (.ref f10) = true)
    (a11 : PySem.W.nsIn K mainGlobals "law" = some (some (.ref f11)))
    (l11 : K.lookup f11 = some ⟨oc11, od11, .func (PySem.W.fnOf "law" "law" (defArgs s_law) (defBody s_law) (defScope s_law) .none kV11 dc11 pm11 an11 cd11 ct11), sl11⟩)
    (c11 : PySem.W.codeIn K cd11 "law" = true)
    (k11 : PySem.W.keepIn K (.ref f11) = true)
    (z_isinstance : PySem.W.nsIn K mainGlobals "isinstance" = some none)
    (z_int : PySem.W.nsIn K mainGlobals "int" = some none)
    (z_bool : PySem.W.nsIn K mainGlobals "bool" = some none)
    (z_len : PySem.W.nsIn K mainGlobals "len" = some none)
    (z_range : PySem.W.nsIn K mainGlobals "range" = some none) :
    ∃ fd : FuncData, (∀ (s : Shared) (v : Value), BindsTo s fd ⟨[v], []⟩ [("_law_script", v)]) ∧ ∀ base : Heap, K.In base → base.Ns mainGlobals mg → FnOk l.prog w K mg base CX0 4 fa fd ["_law_script"] (lift K spLaw) := by
  have e := hfa.symm.trans (PySem.W.mg_of X G a11)
  cases e
  have F0 := fun_mk (st := s_is_whole) l0 c0 k0
  have F1 := fun_mk (st := s_divides) l1 c1 k1
  have F2 := fun_mk (st := s_agree) l2 c2 k2
  have F3 := fun_mk (st := s_left) l3 c3 k3
  have F4 := fun_mk (st := s__law_box) l4 c4 k4
  have F5 := fun_mk (st := s__law_mixed) l5 c5 k5
  have F6 := fun_mk (st := s__law_take) l6 c6 k6
  have F7 := fun_mk (st := s__law_rest) l7 c7 k7
  have F8 := fun_mk (st := s__law_any) l8 c8 k8
  have F9 := fun_mk (st := s__law_leaves) l9 c9 k9
  have F10 := fun_mk (st := s__law_says) l10 c10 k10
  have F11 := fun_mk (st := s_law) l11 c11 k11
  refine ⟨PySem.W.fnOf "law" "law" (defArgs s_law) (defBody s_law) (defScope s_law) .none kV11 dc11 pm11 an11 cd11 ct11, fun s v => .of_eq rfl, fun base _ _ => ?_⟩
  have M_isinstance := PySem.W.mg_none_of X G z_isinstance
  have M_int := PySem.W.mg_none_of X G z_int
  have M_bool := PySem.W.mg_none_of X G z_bool
  have M_len := PySem.W.mg_none_of X G z_len
  have M_range := PySem.W.mg_none_of X G z_range
  have O_is_whole : FnOk l.prog w K mg base CX0 1 f0 _ ["thing"] (lift K spWhole) := ok_is_whole F0 M_isinstance M_int M_bool
  have G_is_whole : GFn l.prog w K mg base "is_whole" 1 spWhole := ⟨f0, _, _, O_is_whole, PySem.W.mg_of X G a0, k0, F0.binds fun _ _ _ _ _ _ us hl => (match us, hl with | [_], _ => rfl), by first | exact pureS_mono | exact specS_mono⟩
  have O_divides : FnOk l.prog w K mg base CX0 1 f1 _ ["rest", "number"] (lift K spDivides) := ok_divides F1
  have G_divides : GFn l.prog w K mg base "divides" 1 spDivides := ⟨f1, _, _, O_divides, PySem.W.mg_of X G a1, k1, F1.binds fun _ _ _ _ _ _ us hl => (match us, hl with | [_, _], _ => rfl), by first | exact pureS_mono | exact specS_mono⟩
  have O_agree : FnOk l.prog w K mg base CX0 2 f2 _ ["one", "two", "rest"] (lift K spAgree) := ok_agree F2 G_is_whole G_divides
  have G_agree_k0_two_one_rest : GFk l.prog w K mg base "agree" 2 0 ["two", "one", "rest"] g102 spAgree := ⟨f2, _, _, O_agree, PySem.W.mg_of X G a2, k2, fun_kbn F2 (fun _ _ _ _ _ _ us ws h1 h2 => (match us, ws, h1, h2 with | [], [_, _, _], _, _ => rfl)) (fun a b => g102_rel a b), by first | exact pureS_mono | exact specS_mono⟩
  have G_agree_k2_rest : GFk l.prog w K mg base "agree" 2 2 ["rest"] gApp spAgree := ⟨f2, _, _, O_agree, PySem.W.mg_of X G a2, k2, fun_kbn F2 (fun _ _ _ _ _ _ us ws h1 h2 => (match us, ws, h1, h2 with | [_, _], [_], _, _ => rfl)) (fun a b => gApp_rel a b), by first | exact pureS_mono | exact specS_mono⟩
  have O_left : FnOk l.prog w K mg base CX0 1 f3 _ ["number", "rest"] (lift K spLeft) := ok_left F3
  have G_left_k1_rest : GFk l.prog w K mg base "left" 1 1 ["rest"] gApp spLeft := ⟨f3, _, _, O_left, PySem.W.mg_of X G a3, k3, fun_kbn F3 (fun _ _ _ _ _ _ us ws h1 h2 => (match us, ws, h1, h2 with | [_], [_], _, _ => rfl)) (fun a b => gApp_rel a b), by first | exact pureS_mono | exact specS_mono⟩
  have G_left_k0_number_rest : GFk l.prog w K mg base "left" 1 0 ["number", "rest"] gApp spLeft := ⟨f3, _, _, O_left, PySem.W.mg_of X G a3, k3, fun_kbn F3 (fun _ _ _ _ _ _ us ws h1 h2 => (match us, ws, h1, h2 with | [], [_, _], _, _ => rfl)) (fun a b => gApp_rel a b), by first | exact pureS_mono | exact specS_mono⟩
  have O__law_box : FnOk l.prog w K mg base CX0 1 f4 _ ["_law_script"] (lift K spBox) := ok__law_box F4
  have G__law_box : GFn l.prog w K mg base "_law_box" 1 spBox := ⟨f4, _, _, O__law_box, PySem.W.mg_of X G a4, k4, F4.binds fun _ _ _ _ _ _ us hl => (match us, hl with | [_], _ => rfl), by first | exact pureS_mono | exact specS_mono⟩
  have O__law_mixed : FnOk l.prog w K mg base CX0 1 f5 _ ["_law_cell", "_law_k"] (lift K spMixed) := ok__law_mixed F5
  have G__law_mixed : GFn l.prog w K mg base "_law_mixed" 1 spMixed := ⟨f5, _, _, O__law_mixed, PySem.W.mg_of X G a5, k5, F5.binds fun _ _ _ _ _ _ us hl => (match us, hl with | [_, _], _ => rfl), by first | exact pureS_mono | exact specS_mono⟩
  have O__law_take : FnOk l.prog w K mg base CX0 2 f6 _ ["_law_box_here", "_law_size"] (lift K spTake) := ok__law_take F6 G__law_mixed M_len
  have G__law_take : GFn l.prog w K mg base "_law_take" 2 spTake := ⟨f6, _, _, O__law_take, PySem.W.mg_of X G a6, k6, F6.binds fun _ _ _ _ _ _ us hl => (match us, hl with | [_, _], _ => rfl), by first | exact pureS_mono | exact specS_mono⟩
  have O__law_rest : FnOk l.prog w K mg base CX0 3 f7 _ ["_law_box_here"] (lift K spRest) := ok__law_rest F7 G__law_take M_range
  have G__law_rest : GFn l.prog w K mg base "_law_rest" 3 spRest := ⟨f7, _, _, O__law_rest, PySem.W.mg_of X G a7, k7, F7.binds fun _ _ _ _ _ _ us hl => (match us, hl with | [_], _ => rfl), by first | exact pureS_mono | exact specS_mono⟩
  have O__law_any : FnOk l.prog w K mg base CX0 3 f8 _ ["_law_box_here"] (lift K spAny) := ok__law_any F8 G__law_take
  have G__law_any : GFn l.prog w K mg base "_law_any" 3 spAny := ⟨f8, _, _, O__law_any, PySem.W.mg_of X G a8, k8, F8.binds fun _ _ _ _ _ _ us hl => (match us, hl with | [_], _ => rfl), by first | exact pureS_mono | exact specS_mono⟩
  have O__law_leaves : FnOk l.prog w K mg base CX0 1 f9 _ ["_law_told", "_law_by", "_law_found"] (lift K spLeaves) := ok__law_leaves F9 M_isinstance M_bool M_int
  have G__law_leaves : GFn l.prog w K mg base "_law_leaves" 1 spLeaves := ⟨f9, _, _, O__law_leaves, PySem.W.mg_of X G a9, k9, F9.binds fun _ _ _ _ _ _ us hl => (match us, hl with | [_, _, _], _ => rfl), by first | exact pureS_mono | exact specS_mono⟩
  have O__law_says : FnOk l.prog w K mg base CX0 1 f10 _ ["_law_found", "_law_due"] (lift K spSays) := ok__law_says F10 M_isinstance M_bool
  have G__law_says : GFn l.prog w K mg base "_law_says" 1 spSays := ⟨f10, _, _, O__law_says, PySem.W.mg_of X G a10, k10, F10.binds fun _ _ _ _ _ _ us hl => (match us, hl with | [_, _], _ => rfl), by first | exact pureS_mono | exact specS_mono⟩
  exact ok_law F11 G__law_box G__law_any G__law_rest G__law_take G__law_says G__law_leaves G_left_k1_rest G_left_k0_number_rest G_agree_k2_rest G_agree_k0_two_one_rest
end KK
open PySem PySem.W PyProof.Rows
set_option maxHeartbeats 0 in
theorem PySem.Challenge.cw_samewell_k01_agree_and_left_holds : PySem.Challenge.rw_samewell_k01_agree_and_left.Holds := by
  w_on; o_law; k_head; (case hw => w_witness2)
  k_fill
  refine L2.walk_ofB (l := PySem.Challenge.rw_samewell_k01_agree_and_left) (n := 63) (k := 4) (x := "_law_script") (CX := fun _ => L2.CX0) (sp := fun w => DL.lift _ DL.spLaw) rfl (by decide) rfl ⟨rfl, by decide, by decide⟩ (fun w h Y => PySem.W.kIn_of Y) ?F (fun _ _ a ns hl hb _ hS => DL.spLaw_start hl hb hS) (fun _ _ _ _ _ h => h)
  case F =>
    intro w mg fa h KX G hmg
    refine' KK.all_mk KX G hmg ?a0 ?l0 ?c0 ?k0 ?a1 ?l1 ?c1 ?k1 ?a2 ?l2 ?c2 ?k2 ?a3 ?l3 ?c3 ?k3 ?a4 ?l4 ?c4 ?k4 ?a5 ?l5 ?c5 ?k5 ?a6 ?l6 ?c6 ?k6 ?a7 ?l7 ?c7 ?k7 ?a8 ?l8 ?c8 ?k8 ?a9 ?l9 ?c9 ?k9 ?a10 ?l10 ?c10 ?k10 ?a11 ?l11 ?c11 ?k11 ?z_isinstance ?z_int ?z_bool ?z_len ?z_range
    (case a0 => k_is)
    (case l0 => k_is)
    (case c0 => k_is)
    (case k0 => k_is)
    (case a1 => k_is)
    (case l1 => k_is)
    (case c1 => k_is)
    (case k1 => k_is)
    (case a2 => k_is)
    (case l2 => k_is)
    (case c2 => k_is)
    (case k2 => k_is)
    (case a3 => k_is)
    (case l3 => k_is)
    (case c3 => k_is)
    (case k3 => k_is)
    (case a4 => k_is)
    (case l4 => k_is)
    (case c4 => k_is)
    (case k4 => k_is)
    (case a5 => k_is)
    (case l5 => k_is)
    (case c5 => k_is)
    (case k5 => k_is)
    (case a6 => k_is)
    (case l6 => k_is)
    (case c6 => k_is)
    (case k6 => k_is)
    (case a7 => k_is)
    (case l7 => k_is)
    (case c7 => k_is)
    (case k7 => k_is)
    (case a8 => k_is)
    (case l8 => k_is)
    (case c8 => k_is)
    (case k8 => k_is)
    (case a9 => k_is)
    (case l9 => k_is)
    (case c9 => k_is)
    (case k9 => k_is)
    (case a10 => k_is)
    (case l10 => k_is)
    (case c10 => k_is)
    (case k10 => k_is)
    (case a11 => k_is)
    (case l11 => k_is)
    (case c11 => k_is)
    (case k11 => k_is)
    (case z_isinstance => k_is)
    (case z_int => k_is)
    (case z_bool => k_is)
    (case z_len => k_is)
    (case z_range => k_is)
