import PyProof.Rows.All
import Wide.All
import OpenK.AllK
import Wide.FinOn
import HandS.ForMost
import HandS.ForExc
import HandS.IsInst
import HandS.Wide
import HandS.Defaults
import HandS.EndBits
import HandS.CallSlots
import HandS.MakeKw
import HandS.Flow
import HandS.TupAny
import HandS.Codes
import HandS.OwnEq
import HandS.SlotsOwn
import OpenK.KOps
import HandS.ExcInit
import HandS.ExcField
import KE.KExcIs
import HandS.Conv
import PySem.Challenge.RW_samewell_k02_webs_made
set_option Elab.async false
set_option linter.all false
set_option maxRecDepth 100000
set_option maxHeartbeats 2000000
namespace DL
open PySem PySem.Spec PyProof.Rows L2

inductive D where
  | non | bl (b : Bool) | int (i : Int) | str (x : Str) | ty (n : String) | ref (a : Addr)
  | lst (xs : List D) | scr (xs : List D) | tup (xs : List D) | dK (kvs : List (Key × D)) | dT (kvs : List (List Key × D))
  | ins (C : Addr) (fs : List (Str × D)) | exc (a : Addr) (od : Option Addr) (fs : List (Str × D))
inductive MO where
  | lst (xs : List D) | dK (kvs : List (Key × D)) | dT (kvs : List (List Key × D)) | ins (C : Addr) (fs : List (Str × D))
  /-- dicts while a statement walks them -/
  | lkK (kvs : List (Key × D)) | lkT (kvs : List (List Key × D))
  /-- anything else that holds ds, in its way -/
  | ext (φ : List V → Heap → Prop) (ds : List D)
abbrev Mu := Addr → Option MO
abbrev Gm := List (Option D)
def updM (μ : Mu) (a : Addr) (o : MO) : Mu := fun b => if b = a then some o else μ b
def delM (μ : Mu) (a : Addr) : Mu := fun b => if b = a then none else μ b
theorem updM_same {μ : Mu} {a : Addr} {o : MO} : updM μ a o a = some o := by unfold updM; rw [if_pos rfl]
theorem updM_ne {μ : Mu} {a b : Addr} {o : MO} (h : b ≠ a) : updM μ a o b = μ b := by unfold updM; rw [if_neg h]
theorem updM_upd {μ : Mu} {a : Addr} {o u : MO} : updM (updM μ a o) a u = updM μ a u := by
  funext b; unfold updM; split <;> rfl
theorem updM_comm {μ : Mu} {a b : Addr} {o u : MO} (h : a ≠ b) : updM (updM μ a o) b u = updM (updM μ b u) a o := by
  funext c; unfold updM; by_cases h1 : c = a <;> by_cases h2 : c = b <;> simp_all
theorem delM_same {μ : Mu} {a : Addr} : delM μ a a = none := by unfold delM; rw [if_pos rfl]
theorem delM_ne {μ : Mu} {a b : Addr} (h : b ≠ a) : delM μ a b = μ b := by unfold delM; rw [if_neg h]
theorem delM_upd {μ : Mu} {a : Addr} {o : MO} (h : μ a = none) : delM (updM μ a o) a = μ := by
  funext b; unfold delM updM; by_cases e : b = a
  · subst e; simp [h]
  · simp [e]
/-- what must not be read as fixed: what may be changed, what others hold -/
def Av (μ : Mu) (Z : Addr → Prop) : Addr → Prop := fun a => μ a ≠ none ∨ Z a

section
variable (K : PySem.W.Frag) (A : Addr → Prop) (H : Hp)
def KwL (a : Addr) (vs : List V) : Prop := ∃ (o : Obj) (its : Array Value) (n : Nat), K.lookup a = some o ∧ o.cls = .type "list" ∧ o.dict = none ∧ o.data = .seq its n ∧ its.size ≤ sizeLine ∧ Vals vs its.toList
def KwT (a : Addr) (vs : List V) : Prop := ∃ (o : Obj) (its : Array Value) (n : Nat), K.lookup a = some o ∧ o.cls = .type "tuple" ∧ o.data = .seq its n ∧ its.size ≤ sizeLine ∧ Vals vs its.toList
def RdL (a : Addr) (vs : List V) : Prop := ¬ A a ∧ Rd H a (.lst vs)
/-- .. or the list that the law is handed -/
def RdS (a : Addr) (vs : List V) : Prop := RdL A H a vs ∨ KwL K a vs
def RdT (a : Addr) (vs : List V) : Prop := (¬ A a ∧ Rd H a (.tup vs)) ∨ KwT K a vs
mutual
inductive Is : V → D → Prop
  | non : Is .non .non
  | bl (b : Bool) : Is (.bl b) (.bl b)
  | int (i : Int) : Is (.int i) (.int i)
  | str (x : Str) : Is (.str x) (.str x)
  | ty (n : String) : Is (.ty n) (.ty n)
  | ref (a : Addr) : Is (.ref a) (.ref a)
  | lst {a : Addr} {vs : List V} {ds : List D} (h : RdL A H a vs) (t : IsA vs ds) : Is (.ref a) (.lst ds)
  | scr {a : Addr} {vs : List V} {ds : List D} (h : RdS K A H a vs) (t : IsA vs ds) : Is (.ref a) (.scr ds)
  | tup {a : Addr} {vs : List V} {ds : List D} (h : RdT K A H a vs) (t : IsA vs ds) : Is (.ref a) (.tup ds)
  | dK {a : Addr} {kvs : List (Key × V)} {kds : List (Key × D)} (n : ¬ A a) (h : H a = some (.dK kvs)) (hk : kvs.map (·.1) = kds.map (·.1)) (t : IsA (kvs.map (·.2)) (kds.map (·.2))) : Is (.ref a) (.dK kds)
  | dT {a : Addr} {kvs : List (List Key × V)} {kds : List (List Key × D)} (n : ¬ A a) (h : H a = some (.dT kvs)) (hk : kvs.map (·.1) = kds.map (·.1)) (t : IsA (kvs.map (·.2)) (kds.map (·.2))) : Is (.ref a) (.dT kds)
  | ins {a C dx : Addr} {fs : List (Str × V)} {gs : List (Str × D)} (n : ¬ A a) (h : H a = some (.ins C dx fs)) (hk : fs.map (·.1) = gs.map (·.1)) (t : IsA (fs.map (·.2)) (gs.map (·.2))) : Is (.ref a) (.ins C gs)
  | exc0 (a : Addr) : Is (.ref a) (.exc a none [])
  | exc {a dx : Addr} {fs : List (Str × V)} {gs : List (Str × D)} (n : ¬ A dx) (h : H dx = some (.xd fs)) (hk : fs.map (·.1) = gs.map (·.1)) (t : IsA (fs.map (·.2)) (gs.map (·.2))) : Is (.ref a) (.exc a (some dx) gs)
inductive IsA : List V → List D → Prop
  | nil : IsA [] []
  | cons {v : V} {d : D} {vs : List V} {ds : List D} (h : Is v d) (t : IsA vs ds) : IsA (v :: vs) (d :: ds)
end
/-- an object that may be changed -/
def MOk (a : Addr) (o : MO) : Prop := match o with
  | .lst ds => ∃ vs, H a = some (.lst vs) ∧ IsA K A H vs ds
  | .dK kds => ∃ kvs, H a = some (.dK kvs) ∧ kvs.map (·.1) = kds.map (·.1) ∧ IsA K A H (kvs.map (·.2)) (kds.map (·.2))
  | .dT kds => ∃ kvs, H a = some (.dT kvs) ∧ kvs.map (·.1) = kds.map (·.1) ∧ IsA K A H (kvs.map (·.2)) (kds.map (·.2))
  | .ins C gs => ∃ dx fs, H a = some (.ins C dx fs) ∧ fs.map (·.1) = gs.map (·.1) ∧ IsA K A H (fs.map (·.2)) (gs.map (·.2))
  | .lkK kds => ∃ ob kvs, H a = some (.frz ob (.dK kvs)) ∧ kvs.map (·.1) = kds.map (·.1) ∧ IsA K A H (kvs.map (·.2)) (kds.map (·.2))
  | .lkT kds => ∃ ob kvs, H a = some (.frz ob (.dT kvs)) ∧ kvs.map (·.1) = kds.map (·.1) ∧ IsA K A H (kvs.map (·.2)) (kds.map (·.2))
  | .ext φ ds => ∃ vs, H a = some (.ext (φ vs)) ∧ IsA K A H vs ds
end
/-- what was fixed stays as it was, and fixed -/
def Fz (A : Addr → Prop) (H : Hp) (A' : Addr → Prop) (H' : Hp) : Prop := ∀ a o, H a = some o → ¬ A a → H' a = some o ∧ ¬ A' a
theorem Fz.refl {A : Addr → Prop} {H : Hp} : Fz A H A H := fun _ _ h n => ⟨h, n⟩
theorem Fz.trans {A A1 A2 : Addr → Prop} {H H1 H2 : Hp} (f : Fz A H A1 H1) (g : Fz A1 H1 A2 H2) : Fz A H A2 H2 := fun a o h n => let ⟨h1, n1⟩ := f a o h n; g a o h1 n1
section
variable {K : PySem.W.Frag} {A A' : Addr → Prop} {H H' : Hp}
theorem RdL.mono (f : Fz A H A' H') {a : Addr} {vs : List V} (h : RdL A H a vs) : RdL A' H' a vs := by
  obtain ⟨n, h | ⟨o, h⟩⟩ := h
  · exact ⟨(f _ _ h n).2, .inl (f _ _ h n).1⟩
  · exact ⟨(f _ _ h n).2, .inr ⟨o, (f _ _ h n).1⟩⟩
theorem RdS.mono (f : Fz A H A' H') {a : Addr} {vs : List V} (h : RdS K A H a vs) : RdS K A' H' a vs := h.elim (fun h => .inl (h.mono f)) .inr
theorem RdT.mono (f : Fz A H A' H') {a : Addr} {vs : List V} (h : RdT K A H a vs) : RdT K A' H' a vs := by
  rcases h with ⟨n, h | ⟨o, h⟩⟩ | h
  · exact .inl ⟨(f _ _ h n).2, .inl (f _ _ h n).1⟩
  · exact .inl ⟨(f _ _ h n).2, .inr ⟨o, (f _ _ h n).1⟩⟩
  · exact .inr h
theorem RdL.sq {a : Addr} {vs : List V} (h : RdL A H a vs) : SqL K H a vs := .inl h.2
theorem RdS.sq {a : Addr} {vs : List V} (h : RdS K A H a vs) : SqL K H a vs := by
  rcases h with ⟨_, h⟩ | h
  · exact .inl h
  · exact .inr h
theorem RdT.sq {a : Addr} {vs : List V} (h : RdT K A H a vs) : SqT K H a vs := by
  rcases h with ⟨_, h⟩ | h
  · exact .inl h
  · exact .inr h
mutual
theorem Is.mono (f : Fz A H A' H') : ∀ {v : V} {d : D}, Is K A H v d → Is K A' H' v d
  | _, _, .non => .non
  | _, _, .bl b => .bl b
  | _, _, .int i => .int i
  | _, _, .str x => .str x
  | _, _, .ty n => .ty n
  | _, _, .ref a => .ref a
  | _, _, .lst h t => .lst (h.mono f) (IsA.mono f t)
  | _, _, .scr h t => .scr (h.mono f) (IsA.mono f t)
  | _, _, .tup h t => .tup (h.mono f) (IsA.mono f t)
  | _, _, .dK n h hk t => .dK (f _ _ h n).2 (f _ _ h n).1 hk (IsA.mono f t)
  | _, _, .dT n h hk t => .dT (f _ _ h n).2 (f _ _ h n).1 hk (IsA.mono f t)
  | _, _, .ins n h hk t => .ins (f _ _ h n).2 (f _ _ h n).1 hk (IsA.mono f t)
  | _, _, .exc0 a => .exc0 a
  | _, _, .exc n h hk t => .exc (f _ _ h n).2 (f _ _ h n).1 hk (IsA.mono f t)
theorem IsA.mono (f : Fz A H A' H') : ∀ {vs : List V} {ds : List D}, IsA K A H vs ds → IsA K A' H' vs ds
  | _, _, .nil => .nil
  | _, _, .cons h t => .cons (Is.mono f h) (IsA.mono f t)
end
theorem IsA.length : ∀ {vs : List V} {ds : List D}, IsA K A H vs ds → vs.length = ds.length
  | _, _, .nil => rfl
  | _, _, .cons _ t => congrArg (· + 1) t.length
theorem IsA.get : ∀ {vs : List V} {ds : List D} {i : Nat} {d : D}, IsA K A H vs ds → ds[i]? = some d → ∃ v, vs[i]? = some v ∧ Is K A H v d
  | _, _, _, _, .nil, e => by simp at e
  | _, _, 0, _, .cons h _, e => by simp at e; subst e; exact ⟨_, rfl, h⟩
  | _, _, i + 1, _, .cons _ t, e => by
    obtain ⟨v, h1, h2⟩ := IsA.get (i := i) t (by simpa using e)
    exact ⟨v, by simpa using h1, h2⟩
theorem IsA.getV : ∀ {vs : List V} {ds : List D} {i : Nat} {v : V}, IsA K A H vs ds → vs[i]? = some v → ∃ d, ds[i]? = some d ∧ Is K A H v d
  | _, _, _, _, .nil, e => by simp at e
  | _, _, 0, _, .cons h _, e => by simp at e; subst e; exact ⟨_, rfl, h⟩
  | _, _, i + 1, _, .cons _ t, e => by
    obtain ⟨v, h1, h2⟩ := IsA.getV (i := i) t (by simpa using e)
    exact ⟨v, by simpa using h1, h2⟩
theorem IsA.append : ∀ {vs ws : List V} {ds es : List D}, IsA K A H vs ds → IsA K A H ws es → IsA K A H (vs ++ ws) (ds ++ es)
  | _, _, _, _, .nil, s => s
  | _, _, _, _, .cons h t, s => .cons h (t.append s)
theorem IsA.set {v : V} {d : D} (r : Is K A H v d) : ∀ {vs : List V} {ds : List D} (i : Nat), IsA K A H vs ds → IsA K A H (vs.set i v) (ds.set i d)
  | _, _, _, .nil => .nil
  | _, _, 0, .cons _ t => .cons r t
  | _, _, i + 1, .cons q t => .cons q (t.set r i)
theorem IsA.take : ∀ {vs : List V} {ds : List D} (n : Nat), IsA K A H vs ds → IsA K A H (vs.take n) (ds.take n)
  | _, _, 0, _ => .nil
  | _, _, _ + 1, .nil => .nil
  | _, _, n + 1, .cons r t => .cons r (t.take n)
theorem IsA.drop : ∀ {vs : List V} {ds : List D} (n : Nat), IsA K A H vs ds → IsA K A H (vs.drop n) (ds.drop n)
  | _, _, 0, r => r
  | _, _, _ + 1, .nil => .nil
  | _, _, n + 1, .cons _ t => t.drop n
theorem IsA.eraseIdx : ∀ {vs : List V} {ds : List D} (i : Nat), IsA K A H vs ds → IsA K A H (vs.eraseIdx i) (ds.eraseIdx i)
  | _, _, _, .nil => .nil
  | _, _, 0, .cons _ t => t
  | _, _, i + 1, .cons q t => .cons q (t.eraseIdx i)
theorem IsA.ints : ∀ (ns : List Int), IsA K A H (ns.map V.int) (ns.map D.int)
  | [] => .nil
  | n :: ns => .cons (.int n) (IsA.ints ns)
theorem MOk.mono (f : Fz A H A' H') {a : Addr} {o : MO} (e : H' a = H a) (h : MOk K A H a o) : MOk K A' H' a o := by
  cases o with
  | lst ds => obtain ⟨vs, h1, h2⟩ := h; exact ⟨vs, e.trans h1, h2.mono f⟩
  | dK ds => obtain ⟨vs, h1, h2, h3⟩ := h; exact ⟨vs, e.trans h1, h2, h3.mono f⟩
  | dT ds => obtain ⟨vs, h1, h2, h3⟩ := h; exact ⟨vs, e.trans h1, h2, h3.mono f⟩
  | ins C ds => obtain ⟨dx, vs, h1, h2, h3⟩ := h; exact ⟨dx, vs, e.trans h1, h2, h3.mono f⟩
  | lkK ds => obtain ⟨dx, vs, h1, h2, h3⟩ := h; exact ⟨dx, vs, e.trans h1, h2, h3.mono f⟩
  | lkT ds => obtain ⟨dx, vs, h1, h2, h3⟩ := h; exact ⟨dx, vs, e.trans h1, h2, h3.mono f⟩
  | ext φ ds => obtain ⟨vs, h1, h2⟩ := h; exact ⟨vs, e.trans h1, h2.mono f⟩
theorem MOk.some {a : Addr} {o : MO} (h : MOk K A H a o) : ∃ u, H a = some u := by
  cases o with
  | lst ds => obtain ⟨vs, h1, h2⟩ := h; exact ⟨_, h1⟩
  | dK ds => obtain ⟨vs, h1, h2, h3⟩ := h; exact ⟨_, h1⟩
  | dT ds => obtain ⟨vs, h1, h2, h3⟩ := h; exact ⟨_, h1⟩
  | ins C ds => obtain ⟨dx, vs, h1, h2, h3⟩ := h; exact ⟨_, h1⟩
  | lkK ds => obtain ⟨dx, vs, h1, h2, h3⟩ := h; exact ⟨_, h1⟩
  | lkT ds => obtain ⟨dx, vs, h1, h2, h3⟩ := h; exact ⟨_, h1⟩
  | ext φ ds => obtain ⟨vs, h1, h2⟩ := h; exact ⟨_, h1⟩
end
/-- the state: all objects that may be changed stand as μ says; Z: others' objects, not to be touched -/
structure Ok (K : PySem.W.Frag) (μ : Mu) (Z : Addr → Prop) (H : Hp) : Prop where
  at_ : ∀ a o, μ a = some o → MOk K (Av μ Z) H a o
  hid : ∀ a, Z a → μ a = none ∧ ∃ o, H a = some o
/-- a run's end, by its start -/
structure Go (K : PySem.W.Frag) (Z : Addr → Prop) (μ : Mu) (H : Hp) (μ' : Mu) (H' : Hp) : Prop where
  ok : Ok K μ' Z H'
  fz : Fz (Av μ Z) H (Av μ' Z) H'
  zk : ∀ a, Z a → H' a = H a
section
variable {K : PySem.W.Frag} {Z : Addr → Prop} {μ μ1 μ2 : Mu} {H H1 H2 : Hp} {p : Addr}
theorem Go.refl (ok : Ok K μ Z H) : Go K Z μ H μ H := ⟨ok, Fz.refl, fun _ _ => rfl⟩
theorem Go.trans (f : Go K Z μ H μ1 H1) (g : Go K Z μ1 H1 μ2 H2) : Go K Z μ H μ2 H2 := ⟨g.ok, f.fz.trans g.fz, fun a h => (g.zk a h).trans (f.zk a h)⟩
theorem Ok.fresh (ok : Ok K μ Z H) (h : H p = none) : μ p = none ∧ ¬ Z p := by
  refine ⟨?_, fun z => ?_⟩
  · cases q : μ p with
    | none => rfl
    | some o =>
      obtain ⟨u, e⟩ := (ok.at_ p o q).some
      rw [h] at e; cases e
  · obtain ⟨_, o, e⟩ := ok.hid p z
    rw [h] at e; cases e
theorem Ok.notAv (ok : Ok K μ Z H) (h : H p = none) : ¬ Av μ Z p := by
  obtain ⟨h1, h2⟩ := ok.fresh h
  rintro (z | z)
  · exact z h1
  · exact h2 z
/-- a new object, fixed from the start -/
theorem Go.frz (ok : Ok K μ Z H) (h : H p = none) (o : HO) : Go K Z μ H μ (upd H p o) := by
  have fz : Fz (Av μ Z) H (Av μ Z) (upd H p o) := fun a u e n => ⟨by rw [upd_ne (ne_of_none e h)]; exact e, n⟩
  obtain ⟨h1, h2⟩ := ok.fresh h
  refine ⟨⟨fun a u e => (ok.at_ a u e).mono fz (upd_ne fun z => ?_), fun a z => ?_⟩, fz, fun a z => upd_ne fun e => ?_⟩
  · subst z; rw [h1] at e; cases e
  · obtain ⟨z1, u, z2⟩ := ok.hid a z
    exact ⟨z1, u, by rw [upd_ne (ne_of_none z2 h)]; exact z2⟩
  · subst e; exact h2 z
/-- what may be changed is written: new, or there already -/
theorem Go.put (ok : Ok K μ Z H) (o : MO) (u : HO) (h : H p = none ∨ ∃ o', μ p = some o')
    (new : (∀ {vs ds}, IsA K (Av μ Z) H vs ds → IsA K (Av (updM μ p o) Z) (upd H p u) vs ds) → MOk K (Av (updM μ p o) Z) (upd H p u) p o) : Go K Z μ H (updM μ p o) (upd H p u) := by
  have nz : ¬ Z p := fun z => by
    rcases h with h | ⟨o', h⟩
    · exact (ok.fresh h).2 z
    · rw [(ok.hid p z).1] at h; cases h
  have np : ∀ a u', H a = some u' → ¬ Av μ Z a → a ≠ p := fun a u' e n z => by
    subst z
    rcases h with h | ⟨o', h⟩
    · rw [h] at e; cases e
    · exact n (.inl (by rw [h]; exact fun z => by cases z))
  have fz : Fz (Av μ Z) H (Av (updM μ p o) Z) (upd H p u) := fun a u' e n => by
    have ne := np a u' e n
    refine ⟨by rw [upd_ne ne]; exact e, ?_⟩
    rintro (z | z)
    · rw [updM_ne ne] at z; exact n (.inl z)
    · exact n (.inr z)
  refine ⟨⟨fun a o' e => ?_, fun a z => ?_⟩, fz, fun a z => upd_ne fun e => ?_⟩
  · by_cases ha : a = p
    · subst ha
      rw [updM_same] at e; cases e
      exact new fun t => t.mono fz
    · rw [updM_ne ha] at e
      exact (ok.at_ a o' e).mono fz (upd_ne ha)
  · have ha : a ≠ p := fun e => by subst e; exact nz z
    obtain ⟨z1, u', z2⟩ := ok.hid a z
    exact ⟨by rw [updM_ne ha]; exact z1, u', by rw [upd_ne ha]; exact z2⟩
  · subst e; exact nz z
/-- what may be changed is fixed from now on -/
theorem Go.fix (ok : Ok K μ Z H) (p : Addr) (h : ∃ o, μ p = some o) : Go K Z μ H (delM μ p) H := by
  have fz : Fz (Av μ Z) H (Av (delM μ p) Z) H := fun a u e n => ⟨e, by
    rintro (z | z)
    · refine n (.inl fun q => z ?_)
      by_cases ha : a = p
      · subst ha; exact delM_same
      · rw [delM_ne ha]; exact q
    · exact n (.inr z)⟩
  refine ⟨⟨fun a o e => ?_, fun a z => ?_⟩, fz, fun _ _ => rfl⟩
  · by_cases ha : a = p
    · subst ha; rw [delM_same] at e; cases e
    · rw [delM_ne ha] at e
      exact (ok.at_ a o e).mono fz rfl
  · obtain ⟨z1, z2⟩ := ok.hid a z
    refine ⟨?_, z2⟩
    by_cases ha : a = p
    · subst ha; exact delM_same
    · rw [delM_ne ha]; exact z1
end
/-- the slots -/
structure En (K : PySem.W.Frag) (A : Addr → Prop) (H : Hp) (σ : L2.St) (Γ : Gm) : Prop where
  len : σ.length = Γ.length
  at_ : ∀ (i : Nat) (d : D), Γ[i]? = some (some d) → ∃ v, σ[i]? = some (some v) ∧ Is K A H v d
section
variable {K : PySem.W.Frag} {A A' : Addr → Prop} {H H' : Hp} {σ : L2.St} {Γ : Gm}
theorem En.mono (f : Fz A H A' H') (h : En K A H σ Γ) : En K A' H' σ Γ := ⟨h.len, fun i d e => let ⟨v, h1, h2⟩ := h.at_ i d e; ⟨v, h1, h2.mono f⟩⟩
theorem En.set (h : En K A H σ Γ) (i : Nat) {v : V} {d : D} (r : Is K A H v d) : En K A H (σ.set i (some v)) (Γ.set i (some d)) := by
  refine ⟨by rw [List.length_set, List.length_set]; exact h.len, fun j e q => ?_⟩
  by_cases hj : i = j
  · subst hj
    by_cases hl : i < Γ.length
    · rw [List.getElem?_set_self hl] at q
      cases q
      exact ⟨v, List.getElem?_set_self (by rw [h.len]; exact hl), r⟩
    · rw [List.getElem?_eq_none (by rw [List.length_set]; omega)] at q; cases q
  · rw [List.getElem?_set_ne hj] at q
    obtain ⟨v', h1, h2⟩ := h.at_ j e q
    exact ⟨v', by rw [List.getElem?_set_ne hj]; exact h1, h2⟩
/-- slots forgotten -/
def Sub (Γ' Γ : Gm) : Prop := Γ'.length = Γ.length ∧ ∀ (i : Nat) (d : D), Γ'[i]? = some (some d) → Γ[i]? = some (some d)
theorem En.sub {Γ' : Gm} (h : En K A H σ Γ) (s : Sub Γ' Γ) : En K A H σ Γ' := ⟨h.len.trans s.1.symm, fun i d e => h.at_ i d (s.2 i d e)⟩
end
end DL

set_option Elab.async false
set_option linter.all false
set_option maxRecDepth 100000
set_option maxHeartbeats 2000000
namespace DL
open PySem PySem.Spec PyProof.Rows L2

section
variable (X : Cx)
def SE (e : Expr) (σ : L2.St) (H : Hp) (Q : VK) : Prop := ∀ pins s, Inv X pins σ H s → wpAny (model X.prog X.w) X.A (eval e X.env) (EP X pins σ Q) X.xe s
def ST (e : Expr) (σ : L2.St) (H : Hp) (Q : Bool → Hp → Prop) : Prop := ∀ pins s, Inv X pins σ H s → wpAny (model X.prog X.w) X.A (isTrue e X.env (eval e X.env)) (TP X pins σ Q) X.xe s
def SW (e : Expr) (σ : L2.St) (H : Hp) (Q : Bool → Hp → Prop) : Prop := ∀ whole pins s, Inv X pins σ H s → wpAny (model X.prog X.w) X.A (isTrue e X.env whole) (TP X pins σ Q) X.xe s
def SA (es : List Expr) (σ : L2.St) (H : Hp) (Q : List V → Hp → Prop) : Prop := ∀ pos pins s, Inv X pins σ H s → wpAny (model X.prog X.w) X.A (spliced (backTo pos (starEach es X.env))) (AP X pins σ Q) X.xe s
def SKw (kws : List Keyword) (σ : L2.St) (H : Hp) (Q : List V → Hp → Prop) : Prop := ∀ pos pins s, Inv X pins σ H s → wpAny (model X.prog X.w) X.A (evalAll ((backToKw pos (keywordEach kws X.env)).map (·.2))) (AP X pins σ Q) X.xe s
def SS (st : Stmt) (E : Ends) (σ : L2.St) (H : Hp) : Prop := ∀ pins s, Inv X pins σ H s → wpAny (model X.prog X.w) X.A (exec st X.env) (SP X pins E) X.xe s
def SB (sts : List Stmt) (E : Ends) (σ : L2.St) (H : Hp) : Prop := ∀ pins s, Inv X pins σ H s → wpAny (model X.prog X.w) X.A (execs sts X.env) (SP X pins E) X.xe s
def SG (tg : Expr) (v : V) (σ : L2.St) (H : Hp) (Q : L2.St → Hp → Prop) : Prop := ∀ pins s u, Inv X pins σ H s → RelV v u → wpAny (model X.prog X.w) X.A (assign tg X.env u) (fun _ s' => ∃ σ' H', Inv X pins σ' H' s' ∧ Q σ' H') X.xe s
def SI (tg iter : Expr) (σ : L2.St) (H : Hp) (R : It → Hp → Prop) : Prop := ∀ pins s, Inv X pins σ H s → wpAny (model X.prog X.w) X.A (eval iter X.env) (fun v s1 => wpAny (model X.prog X.w) X.A (pyIter v) (PIE X pins σ tg R) X.xe s1) X.xe s
end
section
variable {X : Cx} {e tg iter : Expr} {es : List Expr} {st : Stmt} {sts : List Stmt} {σ : L2.St} {H : Hp} {kws : List Keyword}
theorem pe_S : PE X e (SE X e) := ⟨fun _ _ _ _ _ I h => h _ _ I⟩
theorem pt_S : PT X e (ST X e) := ⟨fun _ _ _ _ _ I h => h _ _ I⟩
theorem pw_S : PW X e (SW X e) := ⟨fun _ _ _ _ _ _ I h => h _ _ _ I⟩
theorem pa_S : PA X es (SA X es) := ⟨fun _ _ _ _ _ _ I h => h _ _ _ I⟩
theorem pk_S : PK X kws (SKw X kws) := ⟨fun _ _ _ _ _ _ I h => h _ _ _ I⟩
theorem ps_S : PS X st (SS X st) := ⟨fun _ _ _ _ _ I h => h _ _ I⟩
theorem pss_S : PSs X sts (SB X sts) := ⟨fun _ _ _ _ _ I h => h _ _ I⟩
theorem pg_S : PG X tg (SG X tg) := ⟨fun _ _ _ _ _ _ _ I r h => h _ _ _ I r⟩
theorem pi_S : PI X tg iter (SI X tg iter) := ⟨fun _ _ _ _ _ I h => h _ _ I⟩
theorem toS {t : TE} {Q : VK} (p : PE X e t) (h : t σ H Q) : SE X e σ H Q := fun _ _ I => p.run _ _ _ _ _ I h
theorem toT {t : TT} {Q : Bool → Hp → Prop} (p : PT X e t) (h : t σ H Q) : ST X e σ H Q := fun _ _ I => p.run _ _ _ _ _ I h
theorem toW {t : TT} {Q : Bool → Hp → Prop} (p : PW X e t) (h : t σ H Q) : SW X e σ H Q := fun _ _ _ I => p.run _ _ _ _ _ _ I h
theorem toA {t : TA} {Q : List V → Hp → Prop} (p : PA X es t) (h : t σ H Q) : SA X es σ H Q := fun _ _ _ I => p.run _ _ _ _ _ _ I h
theorem toK {t : TA} {Q : List V → Hp → Prop} (p : PK X kws t) (h : t σ H Q) : SKw X kws σ H Q := fun _ _ _ I => p.run _ _ _ _ _ _ I h
theorem toSS {t : TS} {D : Ends} (p : PS X st t) (h : t D σ H) : SS X st D σ H := fun _ _ I => p.run _ _ _ _ _ I h
theorem toSB {t : TS} {D : Ends} (p : PSs X sts t) (h : t D σ H) : SB X sts D σ H := fun _ _ I => p.run _ _ _ _ _ I h
theorem toG {t : TG} {v : V} {Q : L2.St → Hp → Prop} (p : PG X tg t) (h : t v σ H Q) : SG X tg v σ H Q := fun _ _ _ I r => p.run _ _ _ _ _ _ _ I r h
theorem toI {t : TI} {R : It → Hp → Prop} (p : PI X tg iter t) (h : t σ H R) : SI X tg iter σ H R := fun _ _ I => p.run _ _ _ _ _ I h
theorem SE.mono {Q Q' : VK} (h : SE X e σ H Q) (f : ∀ v H', Q v H' → Q' v H') : SE X e σ H Q' := fun pins s I => thn (h pins s I) fun _ _ ⟨v, H', I', r, q⟩ => ⟨v, H', I', r, f _ _ q⟩
theorem ST.mono {Q Q' : Bool → Hp → Prop} (h : ST X e σ H Q) (f : ∀ b H', Q b H' → Q' b H') : ST X e σ H Q' := fun pins s I => thn (h pins s I) fun _ _ ⟨H', I', q⟩ => ⟨H', I', f _ _ q⟩
theorem SW.mono {Q Q' : Bool → Hp → Prop} (h : SW X e σ H Q) (f : ∀ b H', Q b H' → Q' b H') : SW X e σ H Q' := fun w pins s I => thn (h w pins s I) fun _ _ ⟨H', I', q⟩ => ⟨H', I', f _ _ q⟩
theorem SA.mono {Q Q' : List V → Hp → Prop} (h : SA X es σ H Q) (f : ∀ v H', Q v H' → Q' v H') : SA X es σ H Q' := fun w pins s I => thn (h w pins s I) fun _ _ ⟨v, H', I', r, q⟩ => ⟨v, H', I', r, f _ _ q⟩
theorem SKw.mono {Q Q' : List V → Hp → Prop} (h : SKw X kws σ H Q) (f : ∀ v H', Q v H' → Q' v H') : SKw X kws σ H Q' := fun w pins s I => thn (h w pins s I) fun _ _ ⟨v, H', I', r, q⟩ => ⟨v, H', I', r, f _ _ q⟩
theorem SG.mono {v : V} {Q Q' : L2.St → Hp → Prop} (h : SG X tg v σ H Q) (f : ∀ σ' H', Q σ' H' → Q' σ' H') : SG X tg v σ H Q' := fun pins s u I r => thn (h pins s u I r) fun _ _ ⟨σ', H', I', q⟩ => ⟨σ', H', I', f _ _ q⟩
structure EndsLe (D D' : Ends) : Prop where
  nx : ∀ σ H, D.nx σ H → D'.nx σ H
  rt : ∀ v H, D.rt v H → D'.rt v H
  bk : ∀ σ H, D.bk σ H → D'.bk σ H
  ct : ∀ σ H, D.ct σ H → D'.ct σ H
theorem SP.le {pins : List (Addr × Obj)} {D D' : Ends} (l : EndsLe D D') {f : Flow} {s' : Shared} (h : SP X pins D f s') : SP X pins D' f s' := by
  cases f with
  | next => obtain ⟨σ', H', I, q⟩ := h; exact ⟨σ', H', I, l.nx _ _ q⟩
  | brk => obtain ⟨σ', H', I, q⟩ := h; exact ⟨σ', H', I, l.bk _ _ q⟩
  | cont => obtain ⟨σ', H', I, q⟩ := h; exact ⟨σ', H', I, l.ct _ _ q⟩
  | ret u => obtain ⟨v, σ', H', I, r, q⟩ := h; exact ⟨v, σ', H', I, r, l.rt _ _ q⟩
theorem SS.mono {D D' : Ends} (l : EndsLe D D') (h : SS X st D σ H) : SS X st D' σ H := fun pins s I => thn (h pins s I) fun _ _ q => SP.le l q
theorem SB.mono {D D' : Ends} (l : EndsLe D D') (h : SB X sts D σ H) : SB X sts D' σ H := fun pins s I => thn (h pins s I) fun _ _ q => SP.le l q
end

/-- what leaves a def by an exception: its class, its attributes -/
structure Xd where
  cls : Value
  fld : List (Str × D)
/-- an exception's own dict -/
def XdIs (K : PySem.W.Frag) (A : Addr → Prop) (H : Hp) (od : Option Addr) (x : Xd) : Prop := match od with
  | none => x.fld = []
  | some a => ¬ A a ∧ ∃ fs, H a = some (.xd fs) ∧ fs.map (·.1) = x.fld.map (·.1) ∧ IsA K A H (fs.map (·.2)) (x.fld.map (·.2))
/-- a context, and what may be raised in it -/
structure Cz extends Cx where
  xd : Gm → Mu → Xd → Prop
instance : Coe Cz Cx := ⟨Cz.toCx⟩
structure Kt where
  nx : Gm → Mu → Prop
  rt : Mu → D → Prop
  bk : Gm → Mu → Prop := fun _ _ => False
  ct : Gm → Mu → Prop := fun _ _ => False
section
variable (K : PySem.W.Frag) (Z : Addr → Prop) (μ : Mu) (H : Hp)
def PostE (Q : Mu → D → Prop) : VK := fun v H' => ∃ μ' d, Go K Z μ H μ' H' ∧ Is K (Av μ' Z) H' v d ∧ Q μ' d
def PostT (Q : Mu → Bool → Prop) : Bool → Hp → Prop := fun b H' => ∃ μ', Go K Z μ H μ' H' ∧ Q μ' b
def PostA (Q : Mu → List D → Prop) : List V → Hp → Prop := fun vs H' => ∃ μ' ds, Go K Z μ H μ' H' ∧ IsA K (Av μ' Z) H' vs ds ∧ Q μ' ds
def PostN (N : Gm → Mu → Prop) : L2.St → Hp → Prop := fun σ' H' => ∃ Γ' μ', Go K Z μ H μ' H' ∧ En K (Av μ' Z) H' σ' Γ' ∧ N Γ' μ'
def toD (k : Kt) : Ends := ⟨PostN K Z μ H k.nx, PostE K Z μ H k.rt, PostN K Z μ H k.bk, PostN K Z μ H k.ct⟩
/-- an exception behind a run -/
def PostX (E : Gm → Mu → Xd → Prop) : WX := fun cls od σ' H' => ∃ Γ' μ' x, Go K Z μ H μ' H' ∧ En K (Av μ' Z) H' σ' Γ' ∧ XdIs K (Av μ' Z) H' od x ∧ x.cls = cls ∧ E Γ' μ' x
/-- an iterator's items: ds, as long as G stands -/
def Yields (J : It) (ds : List D) (G : Mu → Prop) : Prop := ∀ (Z' : Addr → Prop) i μ' H', Ok K μ' Z' H' → Fz (Av μ Z) H (Av μ' Z') H' → G μ' →
  (i < ds.length → J.go i H' ∧ ∀ x H2, J.yld i H' x H2 → ∃ d, ds[i]? = some d ∧ Go K Z' μ' H' μ' H2 ∧ Is K (Av μ' Z') H2 x d) ∧ (ds.length ≤ i → J.stop i H')
end
/-- what is raised from here on is taken -/
def Tk (X : Cz) (Z : Addr → Prop) (μ : Mu) (H : Hp) : Prop := Takes X.toCx (PostX X.K Z μ H X.xd)
section
variable (X : Cz)
def WE (e : Expr) (Γ : Gm) (μ : Mu) (Q : Mu → D → Prop) : Prop := ∀ Z σ H, En X.K (Av μ Z) H σ Γ → Ok X.K μ Z H → Tk X Z μ H → SE X e σ H (PostE X.K Z μ H Q)
def WT (e : Expr) (Γ : Gm) (μ : Mu) (Q : Mu → Bool → Prop) : Prop := ∀ Z σ H, En X.K (Av μ Z) H σ Γ → Ok X.K μ Z H → Tk X Z μ H → ST X e σ H (PostT X.K Z μ H Q)
def WW (e : Expr) (Γ : Gm) (μ : Mu) (Q : Mu → Bool → Prop) : Prop := ∀ Z σ H, En X.K (Av μ Z) H σ Γ → Ok X.K μ Z H → Tk X Z μ H → SW X e σ H (PostT X.K Z μ H Q)
def WA (es : List Expr) (Γ : Gm) (μ : Mu) (Q : Mu → List D → Prop) : Prop := ∀ Z σ H, En X.K (Av μ Z) H σ Γ → Ok X.K μ Z H → Tk X Z μ H → SA X es σ H (PostA X.K Z μ H Q)
def WKw (kws : List Keyword) (Γ : Gm) (μ : Mu) (Q : Mu → List D → Prop) : Prop := ∀ Z σ H, En X.K (Av μ Z) H σ Γ → Ok X.K μ Z H → Tk X Z μ H → SKw X kws σ H (PostA X.K Z μ H Q)
def WS (st : Stmt) (Γ : Gm) (μ : Mu) (k : Kt) : Prop := ∀ Z σ H, En X.K (Av μ Z) H σ Γ → Ok X.K μ Z H → Tk X Z μ H → SS X st (toD X.K Z μ H k) σ H
def WB (sts : List Stmt) (Γ : Gm) (μ : Mu) (k : Kt) : Prop := ∀ Z σ H, En X.K (Av μ Z) H σ Γ → Ok X.K μ Z H → Tk X Z μ H → SB X sts (toD X.K Z μ H k) σ H
/-- a target; vs: the slots that it stores -/
def WG (tg : Expr) (vs : List Nat) (d : D) (Γ : Gm) (μ : Mu) (N : Gm → Mu → Prop) : Prop := ∀ Z σ H v, En X.K (Av μ Z) H σ Γ → Ok X.K μ Z H → Tk X Z μ H → Is X.K (Av μ Z) H v d →
  SG X tg v σ H (fun σ' H' => PostN X.K Z μ H N σ' H' ∧ ∀ ws, (∀ i ∈ vs, i ∈ ws) → wipe σ' ws = wipe σ ws)
def WI (tg iter : Expr) (Γ : Gm) (μ : Mu) (R : Mu → List D → (Mu → Prop) → Prop) : Prop := ∀ Z σ H, En X.K (Av μ Z) H σ Γ → Ok X.K μ Z H → Tk X Z μ H →
  SI X tg iter σ H (fun J H1 => ∃ μ1 ds G, Go X.K Z μ H μ1 H1 ∧ Yields X.K Z μ1 H1 J ds G ∧ R μ1 ds G)
end
section
variable {K : PySem.W.Frag} {Z : Addr → Prop} {μ μ' : Mu} {H H' : Hp}
theorem PostE.up {Q : Mu → D → Prop} (g : Go K Z μ H μ' H') {v : V} {H2 : Hp} (h : PostE K Z μ' H' Q v H2) : PostE K Z μ H Q v H2 := let ⟨a, b, c, d, e⟩ := h; ⟨a, b, g.trans c, d, e⟩
theorem PostT.up {Q : Mu → Bool → Prop} (g : Go K Z μ H μ' H') {v : Bool} {H2 : Hp} (h : PostT K Z μ' H' Q v H2) : PostT K Z μ H Q v H2 := let ⟨a, c, e⟩ := h; ⟨a, g.trans c, e⟩
theorem PostN.up {N : Gm → Mu → Prop} (g : Go K Z μ H μ' H') {σ : L2.St} {H2 : Hp} (h : PostN K Z μ' H' N σ H2) : PostN K Z μ H N σ H2 := let ⟨a, b, c, d, e⟩ := h; ⟨a, b, g.trans c, d, e⟩
theorem toD.up {k : Kt} (g : Go K Z μ H μ' H') : EndsLe (toD K Z μ' H' k) (toD K Z μ H k) := ⟨fun _ _ h => PostN.up g h, fun _ _ h => PostE.up g h, fun _ _ h => PostN.up g h, fun _ _ h => PostN.up g h⟩
end
theorem PostX.up {K : PySem.W.Frag} {Z : Addr → Prop} {μ μ' : Mu} {H H' : Hp} {E : Gm → Mu → Xd → Prop} (g : Go K Z μ H μ' H') {cls : Value} {od : Option Addr} {σ : L2.St} {H2 : Hp} (h : PostX K Z μ' H' E cls od σ H2) : PostX K Z μ H E cls od σ H2 := let ⟨a, b, c, d, e⟩ := h; ⟨a, b, c, g.trans d, e⟩
theorem Tk.up {X : Cz} {Z : Addr → Prop} {μ μ' : Mu} {H H' : Hp} (t : Tk X Z μ H) (g : Go X.K Z μ H μ' H') : Tk X Z μ' H' := Takes.imp t fun _ _ _ _ w => PostX.up g w
/-- around a body that lets nothing out -/
theorem Tk.never {X : Cz} {Z : Addr → Prop} {μ : Mu} {H : Hp} (h : ∀ Γ' μ' x, ¬ X.xd Γ' μ' x) : Tk X Z μ H := fun _ _ x => by
  obtain ⟨_, _, _, _, _, _, _, _, _, _, _, _, _, _, _, _, Γ', μ', x, _, _, _, _, z⟩ := x
  exact (h _ _ _ z).elim
section
variable {X : Cz} {Z : Addr → Prop} {Γ : Gm} {μ0 μ : Mu} {H0 H : Hp} {σ : L2.St} {e : Expr}
/-- use of an evaluation within a longer run -/
theorem WE.use {Q : Mu → D → Prop} (h : WE X e Γ μ Q) (g : Go X.K Z μ0 H0 μ H) (en : En X.K (Av μ Z) H σ Γ) (tk : Tk X Z μ0 H0) {R : VK}
    (k : ∀ v H1 μ1 d, Go X.K Z μ0 H0 μ1 H1 → Go X.K Z μ H μ1 H1 → En X.K (Av μ1 Z) H1 σ Γ → Is X.K (Av μ1 Z) H1 v d → Q μ1 d → R v H1) : SE X e σ H R :=
  (h Z σ H en g.ok (tk.up g)).mono fun v H1 ⟨μ1, d, g1, is, q⟩ => k v H1 μ1 d (g.trans g1) g1 (en.mono g1.fz) is q
theorem WT.use {Q : Mu → Bool → Prop} (h : WT X e Γ μ Q) (g : Go X.K Z μ0 H0 μ H) (en : En X.K (Av μ Z) H σ Γ) (tk : Tk X Z μ0 H0) {R : Bool → Hp → Prop}
    (k : ∀ b H1 μ1, Go X.K Z μ0 H0 μ1 H1 → Go X.K Z μ H μ1 H1 → En X.K (Av μ1 Z) H1 σ Γ → Q μ1 b → R b H1) : ST X e σ H R :=
  (h Z σ H en g.ok (tk.up g)).mono fun b H1 ⟨μ1, g1, q⟩ => k b H1 μ1 (g.trans g1) g1 (en.mono g1.fz) q
theorem WW.use {Q : Mu → Bool → Prop} (h : WW X e Γ μ Q) (g : Go X.K Z μ0 H0 μ H) (en : En X.K (Av μ Z) H σ Γ) (tk : Tk X Z μ0 H0) {R : Bool → Hp → Prop}
    (k : ∀ b H1 μ1, Go X.K Z μ0 H0 μ1 H1 → Go X.K Z μ H μ1 H1 → En X.K (Av μ1 Z) H1 σ Γ → Q μ1 b → R b H1) : SW X e σ H R :=
  (h Z σ H en g.ok (tk.up g)).mono fun b H1 ⟨μ1, g1, q⟩ => k b H1 μ1 (g.trans g1) g1 (en.mono g1.fz) q
theorem WA.use {es : List Expr} {Q : Mu → List D → Prop} (h : WA X es Γ μ Q) (g : Go X.K Z μ0 H0 μ H) (en : En X.K (Av μ Z) H σ Γ) (tk : Tk X Z μ0 H0) {R : List V → Hp → Prop}
    (k : ∀ v H1 μ1 d, Go X.K Z μ0 H0 μ1 H1 → Go X.K Z μ H μ1 H1 → En X.K (Av μ1 Z) H1 σ Γ → IsA X.K (Av μ1 Z) H1 v d → Q μ1 d → R v H1) : SA X es σ H R :=
  (h Z σ H en g.ok (tk.up g)).mono fun v H1 ⟨μ1, d, g1, is, q⟩ => k v H1 μ1 d (g.trans g1) g1 (en.mono g1.fz) is q
theorem WKw.use {kws : List Keyword} {Q : Mu → List D → Prop} (h : WKw X kws Γ μ Q) (g : Go X.K Z μ0 H0 μ H) (en : En X.K (Av μ Z) H σ Γ) (tk : Tk X Z μ0 H0) {R : List V → Hp → Prop}
    (k : ∀ v H1 μ1 d, Go X.K Z μ0 H0 μ1 H1 → Go X.K Z μ H μ1 H1 → En X.K (Av μ1 Z) H1 σ Γ → IsA X.K (Av μ1 Z) H1 v d → Q μ1 d → R v H1) : SKw X kws σ H R :=
  (h Z σ H en g.ok (tk.up g)).mono fun v H1 ⟨μ1, d, g1, is, q⟩ => k v H1 μ1 d (g.trans g1) g1 (en.mono g1.fz) is q
theorem WE.mono {Q Q' : Mu → D → Prop} (h : WE X e Γ μ Q) (f : ∀ μ' d, Q μ' d → Q' μ' d) : WE X e Γ μ Q' := fun Z σ H en ok tk => (h Z σ H en ok tk).mono fun v H1 ⟨μ1, d, g1, is, q⟩ => ⟨μ1, d, g1, is, f _ _ q⟩
theorem WT.mono {Q Q' : Mu → Bool → Prop} (h : WT X e Γ μ Q) (f : ∀ μ' d, Q μ' d → Q' μ' d) : WT X e Γ μ Q' := fun Z σ H en ok tk => (h Z σ H en ok tk).mono fun v H1 ⟨μ1, g1, q⟩ => ⟨μ1, g1, f _ _ q⟩
end

def Two (x y : D) (R : Int → Int → Prop) : Prop := ∃ i j, x = .int i ∧ y = .int j ∧ R i j
def One (x : D) (R : Int → Prop) : Prop := ∃ i, x = .int i ∧ R i
def OneB (x : D) (R : Bool → Prop) : Prop := ∃ c, x = .bl c ∧ R c
def Req (C Q : Prop) : Prop := C ∧ Q
theorem two_i {i j : Int} {R : Int → Int → Prop} (h : R i j) : Two (.int i) (.int j) R := ⟨i, j, rfl, rfl, h⟩
theorem one_i {i : Int} {R : Int → Prop} (h : R i) : One (.int i) R := ⟨i, rfl, h⟩
theorem one_b {i : Bool} {R : Bool → Prop} (h : R i) : OneB (.bl i) R := ⟨i, rfl, h⟩
theorem req {C Q : Prop} (c : C) (q : Q) : Req C Q := ⟨c, q⟩
structure Nm (X : Cz) (x : Str) (i : Nat) : Prop where
  ix : X.N[i]? = some x
  vis : Vis X.env.scope x
  d1 : (x == ("__debug__" : Str)) = false
  d2 : (x == ("__classdict__" : Str)) = false
structure Nw (X : Cz) (x : Str) (i : Nat) : Prop extends Nm X x i where
  nd : X.N.Nodup
  loc : Loc X.env.scope x
  fn : X.fn x = true ∨ X.env.scope.names.lookup x = some .local
/-- slot i becomes d -/
inductive SetTo : Gm → Nat → D → Gm → Prop where
  | z {x : Option D} {r : Gm} {d : D} : SetTo (x :: r) 0 d (some d :: r)
  | s {x : Option D} {r r' : Gm} {i : Nat} {d : D} (h : SetTo r i d r') : SetTo (x :: r) (i + 1) d (x :: r')
def SetQ (Γ : Gm) (i : Nat) (d : D) (R : Gm → Prop) : Prop := ∃ Γ', SetTo Γ i d Γ' ∧ R Γ'
theorem setq {Γ Γ' : Gm} {i : Nat} {d : D} {R : Gm → Prop} (s : SetTo Γ i d Γ') (h : R Γ') : SetQ Γ i d R := ⟨Γ', s, h⟩
theorem SetTo.eq {Γ Γ' : Gm} {i : Nat} {d : D} (h : SetTo Γ i d Γ') : Γ' = Γ.set i (some d) := by
  induction h with
  | z => rfl
  | s _ ih => rw [ih]; rfl
section
variable {X : Cz} {Γ Γ' : Gm} {μ : Mu} {a b c e : Expr} {pos : Pos} {Q : Mu → D → Prop}
theorem we_name {x : Str} {i : Nat} {d : D} (n : Nm X x i) (h : Γ[i]? = some (some d)) (q : Q μ d) : WE X (.Name x pos) Γ μ Q := fun Z σ H en ok tk => by
  obtain ⟨v, h1, h2⟩ := en.at_ i d h
  exact toS (pe_var n.ix n.vis n.d1 n.d2) ⟨v, h1, μ, d, Go.refl ok, h2, q⟩
theorem we_pure {v : V} {d : D} (p : PE X e (tC v)) (i : ∀ K A H, Is K A H v d) (q : Q μ d) : WE X e Γ μ Q := fun Z σ H en ok tk => toS p ⟨μ, d, Go.refl ok, i _ _ _, q⟩
theorem we_int {i : Int} {j} (q : Q μ (.int i)) : WE X (.Constant (.int i) j pos) Γ μ Q := we_pure pe_int (fun _ _ _ => .int i) q
theorem we_bl {i : Bool} {j} (q : Q μ (.bl i)) : WE X (.Constant (.bool i) j pos) Γ μ Q := we_pure pe_bl (fun _ _ _ => .bl i) q
theorem we_non {j} (q : Q μ .non) : WE X (.Constant .none j pos) Γ μ Q := we_pure pe_non (fun _ _ _ => .non) q
theorem we_str {i : Str} {j} (q : Q μ (.str i)) : WE X (.Constant (.str i) j pos) Γ μ Q := we_pure pe_str (fun _ _ _ => .str i) q
theorem isInt {K : PySem.W.Frag} {A : Addr → Prop} {H : Hp} {v : V} {i : Int} (h : Is K A H v (.int i)) : v = .int i := by cases h; rfl
theorem isBl {K : PySem.W.Frag} {A : Addr → Prop} {H : Hp} {v : V} {i : Bool} (h : Is K A H v (.bl i)) : v = .bl i := by cases h; rfl
theorem isStr {K : PySem.W.Frag} {A : Addr → Prop} {H : Hp} {v : V} {i : Str} (h : Is K A H v (.str i)) : v = .str i := by cases h; rfl
theorem isNon {K : PySem.W.Frag} {A : Addr → Prop} {H : Hp} {v : V} (h : Is K A H v .non) : v = .non := by cases h; rfl
theorem isRef {K : PySem.W.Frag} {A : Addr → Prop} {H : Hp} {v : V} {a : Addr} (h : Is K A H v (.ref a)) : v = .ref a := by cases h; rfl
theorem we_opI {op : Operator} {C : Int → Int → Prop} {g : Int → Int → Int} (hr : OpR X (binaryOp op) (rI C fun i j => .int (g i j)))
    (h : WE X a Γ μ fun μ1 x => WE X b Γ μ1 fun μ2 y => Two x y fun i j => Req (C i j) (Q μ2 (.int (g i j)))) : WE X (.BinOp a op b pos) Γ μ Q := fun Z σ H en ok tk => by
  refine toS (pe_op hr pe_S pe_S) ?_
  refine h.use (Go.refl ok) en tk fun v H1 μ1 d g1 _ en1 i1 q1 => ?_
  refine q1.use g1 en1 tk fun w H2 μ2 d2 g2 _ en2 i2 q2 => ?_
  obtain ⟨i, j, rfl, rfl, hc, q⟩ := q2
  rw [isInt i1, isInt i2]
  exact ⟨i, j, rfl, rfl, hc, μ2, _, g2, .int _, q⟩
theorem we_opI0 {op : Operator} {g : Int → Int → Int} (hr : OpR X (binaryOp op) (rI0 fun i j => .int (g i j)))
    (h : WE X a Γ μ fun μ1 x => WE X b Γ μ1 fun μ2 y => Two x y fun i j => Q μ2 (.int (g i j))) : WE X (.BinOp a op b pos) Γ μ Q := fun Z σ H en ok tk => by
  refine toS (pe_op hr pe_S pe_S) ?_
  refine h.use (Go.refl ok) en tk fun v H1 μ1 d g1 _ en1 i1 q1 => ?_
  refine q1.use g1 en1 tk fun w H2 μ2 d2 g2 _ en2 i2 q2 => ?_
  obtain ⟨i, j, rfl, rfl, q⟩ := q2
  rw [isInt i1, isInt i2]
  exact ⟨i, j, rfl, rfl, μ2, _, g2, .int _, q⟩
theorem we_add (h : WE X a Γ μ fun μ1 x => WE X b Γ μ1 fun μ2 y => Two x y fun i j => Q μ2 (.int (i + j))) : WE X (.BinOp a .Add b pos) Γ μ Q := we_opI0 op_add h
theorem we_sub (h : WE X a Γ μ fun μ1 x => WE X b Γ μ1 fun μ2 y => Two x y fun i j => Q μ2 (.int (i - j))) : WE X (.BinOp a .Sub b pos) Γ μ Q := we_opI0 op_sub h
/-- a product: one factor within 64 bits, or both together below a million bits -/
def MulOk (i j : Int) : Prop := CMul i j ∨ CMulW i j
theorem MulOk.ok {i j : Int} (h : MulOk i j) : IntMulOk i j := h.elim (·.ok) (·.ok)
theorem MulOk.l {i j : Int} (h1 : -(2 ^ 64) < i) (h2 : i < 2 ^ 64) : MulOk i j := .inl (.inl ⟨h1, h2⟩)
theorem MulOk.r {i j : Int} (h1 : -(2 ^ 64) < j) (h2 : j < 2 ^ 64) : MulOk i j := .inl (.inr ⟨h1, h2⟩)
theorem op_mulX : OpR X (binaryOp .Mult) (rI MulOk fun i j => .int (i * j)) := opI fun _ _ _ _ _ _ _ hc q => mul_int q hc.ok
theorem we_mul (h : WE X a Γ μ fun μ1 x => WE X b Γ μ1 fun μ2 y => Two x y fun i j => Req (MulOk i j) (Q μ2 (.int (i * j)))) : WE X (.BinOp a .Mult b pos) Γ μ Q := we_opI op_mulX h
theorem we_div (h : WE X a Γ μ fun μ1 x => WE X b Γ μ1 fun μ2 y => Two x y fun i j => Req (CDivW i j) (Q μ2 (.int (i / j)))) : WE X (.BinOp a .FloorDiv b pos) Γ μ Q := we_opI op_fdivW h
theorem we_mod (h : WE X a Γ μ fun μ1 x => WE X b Γ μ1 fun μ2 y => Two x y fun i j => Req (0 < j) (Q μ2 (.int (i % j)))) : WE X (.BinOp a .Mod b pos) Γ μ Q := we_opI op_mod h
theorem we_pow (h : WE X a Γ μ fun μ1 x => WE X b Γ μ1 fun μ2 y => Two x y fun i j => Req (CPow i j) (Q μ2 (.int (i ^ j.toNat)))) : WE X (.BinOp a .Pow b pos) Γ μ Q := we_opI op_pow h
theorem we_neg (h : WE X a Γ μ fun μ1 x => One x fun i => Q μ1 (.int (-i))) : WE X (.UnaryOp .USub a pos) Γ μ Q := fun Z σ H en ok tk => by
  refine toS (pe_un un_neg pe_S) ?_
  refine h.use (Go.refl ok) en tk fun v H1 μ1 d g1 _ en1 i1 q1 => ?_
  obtain ⟨i, rfl, q⟩ := q1
  rw [isInt i1]
  exact ⟨i, rfl, μ1, _, g1, .int _, q⟩
theorem we_cmpI {op : CmpOp} {p : Int → Int → Bool} (hr : OpR X (compareOp op) (rI0 fun i j => .bl (p i j))) (hm : behindInMarks op b = false)
    (h : WE X a Γ μ fun μ1 x => WE X b Γ μ1 fun μ2 y => Two x y fun i j => Q μ2 (.bl (p i j))) : WE X (.Compare a [op] [b] pos) Γ μ Q := fun Z σ H en ok tk => by
  refine toS (pe_cmpR hr pe_S pe_S hm) ?_
  refine h.use (Go.refl ok) en tk fun v H1 μ1 d g1 _ en1 i1 q1 => ?_
  refine q1.use g1 en1 tk fun w H2 μ2 d2 g2 _ en2 i2 q2 => ?_
  obtain ⟨i, j, rfl, rfl, q⟩ := q2
  rw [isInt i1, isInt i2]
  exact ⟨i, j, rfl, rfl, μ2, _, g2, .bl _, q⟩
theorem wt_cmpI {op : CmpOp} {p : Int → Int → Bool} {Q : Mu → Bool → Prop} (hr : OpR X (compareOp op) (rI0 fun i j => .bl (p i j))) (hm : behindInMarks op b = false)
    (h : WE X a Γ μ fun μ1 x => WE X b Γ μ1 fun μ2 y => Two x y fun i j => Q μ2 (p i j)) : WT X (.Compare a [op] [b] pos) Γ μ Q := fun Z σ H en ok tk => by
  refine toT (pt_cmpR hr pe_S pe_S hm) ?_
  refine h.use (Go.refl ok) en tk fun v H1 μ1 d g1 _ en1 i1 q1 => ?_
  refine q1.use g1 en1 tk fun w H2 μ2 d2 g2 _ en2 i2 q2 => ?_
  obtain ⟨i, j, rfl, rfl, q⟩ := q2
  rw [isInt i1, isInt i2]
  exact ⟨i, j, rfl, rfl, _, rfl, μ2, g2, q⟩
theorem we_lt (h : WE X a Γ μ fun μ1 x => WE X b Γ μ1 fun μ2 y => Two x y fun i j => Q μ2 (.bl (decide (i < j)))) : WE X (.Compare a [.Lt] [b] pos) Γ μ Q := we_cmpI op_lt (nomark _) h
theorem we_le (h : WE X a Γ μ fun μ1 x => WE X b Γ μ1 fun μ2 y => Two x y fun i j => Q μ2 (.bl (decide (i ≤ j)))) : WE X (.Compare a [.LtE] [b] pos) Γ μ Q := we_cmpI op_le (nomark _) h
theorem we_gt (h : WE X a Γ μ fun μ1 x => WE X b Γ μ1 fun μ2 y => Two x y fun i j => Q μ2 (.bl (decide (j < i)))) : WE X (.Compare a [.Gt] [b] pos) Γ μ Q := we_cmpI op_gt (nomark _) h
theorem we_ge (h : WE X a Γ μ fun μ1 x => WE X b Γ μ1 fun μ2 y => Two x y fun i j => Q μ2 (.bl (decide (j ≤ i)))) : WE X (.Compare a [.GtE] [b] pos) Γ μ Q := we_cmpI op_ge (nomark _) h
/-- == of scalars -/
def eqS : D → D → Option Bool
  | .int i, .int j => some (decide (i = j))
  | .bl i, .bl j => some (decide (i = j))
  | .str i, .str j => some (decide (i = j))
  | .non, .non => some true
  | .non, .int _ => some false
  | .int _, .non => some false
  | .non, .bl _ => some false
  | .bl _, .non => some false
  | .non, .str _ => some false
  | .str _, .non => some false
  | .int _, .str _ => some false
  | .str _, .int _ => some false
  | .bl _, .str _ => some false
  | .str _, .bl _ => some false
  | _, _ => none
def EqQ (x y : D) (R : Bool → Prop) : Prop := ∃ c, eqS x y = some c ∧ R c
theorem eq_i {i j : Int} {R : Bool → Prop} (h : R (decide (i = j))) : EqQ (.int i) (.int j) R := ⟨_, rfl, h⟩
theorem eq_b {i j : Bool} {R : Bool → Prop} (h : R (decide (i = j))) : EqQ (.bl i) (.bl j) R := ⟨_, rfl, h⟩
theorem eq_s {i j : Str} {R : Bool → Prop} (h : R (decide (i = j))) : EqQ (.str i) (.str j) R := ⟨_, rfl, h⟩
theorem eqS_ok {K : PySem.W.Frag} {A : Addr → Prop} {H : Hp} {v w : V} {x y : D} {c : Bool} (hv : Is K A H v x) (hw : Is K A H w y) (h : eqS x y = some c) : scal v w = true ∧ decide (v = w) = c := by
  cases hv <;> cases hw <;> simp [eqS] at h <;> subst h <;> simp [scal]
theorem we_eqS (h : WE X a Γ μ fun μ1 x => WE X b Γ μ1 fun μ2 y => EqQ x y fun c => Q μ2 (.bl c)) : WE X (.Compare a [.Eq] [b] pos) Γ μ Q := fun Z σ H en ok tk => by
  refine toS (pe_cmpR op_eq pe_S pe_S (nomark _)) ?_
  refine h.use (Go.refl ok) en tk fun v H1 μ1 d g1 _ en1 i1 q1 => ?_
  refine q1.use g1 en1 tk fun w H2 μ2 d2 g2 g2' en2 i2 q2 => ?_
  obtain ⟨c, hc, q⟩ := q2
  obtain ⟨h1, h2⟩ := eqS_ok (i1.mono g2'.fz) i2 hc
  exact ⟨h1, μ2, _, g2, by rw [h2]; exact .bl _, q⟩
theorem we_neS (h : WE X a Γ μ fun μ1 x => WE X b Γ μ1 fun μ2 y => EqQ x y fun c => Q μ2 (.bl !c)) : WE X (.Compare a [.NotEq] [b] pos) Γ μ Q := fun Z σ H en ok tk => by
  refine toS (pe_cmpR op_ne pe_S pe_S (nomark _)) ?_
  refine h.use (Go.refl ok) en tk fun v H1 μ1 d g1 _ en1 i1 q1 => ?_
  refine q1.use g1 en1 tk fun w H2 μ2 d2 g2 g2' en2 i2 q2 => ?_
  obtain ⟨c, hc, q⟩ := q2
  obtain ⟨h1, h2⟩ := eqS_ok (i1.mono g2'.fz) i2 hc
  exact ⟨h1, μ2, _, g2, by rw [h2]; exact .bl _, q⟩
/-- x is None -/
def isN : D → Bool
  | .non => true
  | _ => false
theorem isN_ok {K : PySem.W.Frag} {A : Addr → Prop} {H : Hp} {v : V} {x : D} (hv : Is K A H v x) : decide (v = .non) = isN x := by cases hv <;> simp [isN]
theorem we_isN {j p2} (h : WE X a Γ μ fun μ1 x => Q μ1 (.bl (isN x))) : WE X (.Compare a [.Is] [.Constant .none j p2] pos) Γ μ Q := fun Z σ H en ok tk => by
  refine toS (pe_cmp (pc_isN pe_S) (nomark _)) ?_
  refine h.use (Go.refl ok) en tk fun v H1 μ1 d g1 _ en1 i1 q1 => ?_
  exact ⟨μ1, _, g1, by rw [isN_ok i1]; exact .bl _, q1⟩
theorem we_notN {j p2} (h : WE X a Γ μ fun μ1 x => Q μ1 (.bl (!isN x))) : WE X (.Compare a [.IsNot] [.Constant .none j p2] pos) Γ μ Q := fun Z σ H en ok tk => by
  refine toS (pe_cmp (pc_notN pe_S) (nomark _)) ?_
  refine h.use (Go.refl ok) en tk fun v H1 μ1 d g1 _ en1 i1 q1 => ?_
  exact ⟨μ1, _, g1, by rw [isN_ok i1]; exact .bl _, q1⟩
/-- a op b op' c of ints -/
theorem we_chI {op op' : CmpOp} {p p' : Int → Int → Bool} (hr : OpR X (compareOp op) (rI0 fun i j => .bl (p i j))) (hr' : OpR X (compareOp op') (rI0 fun i j => .bl (p' i j))) (hm : lastMarks [op, op'] [b, c] = false)
    (h : WE X a Γ μ fun μ1 x => WE X b Γ μ1 fun μ2 y => Two x y fun i j => (if p i j = true then WE X c Γ μ2 fun μ3 z => One z fun k => Q μ3 (.bl (p' j k)) else Q μ2 (.bl false))) : WE X (.Compare a [op, op'] [b, c] pos) Γ μ Q := fun Z σ H en ok tk => by
  refine toS (pe_chain hr hr' pe_S pe_S pe_S hm) ?_
  refine h.use (Go.refl ok) en tk fun v H1 μ1 d g1 _ en1 i1 q1 => ?_
  refine q1.use g1 en1 tk fun w H2 μ2 d2 g2 _ en2 i2 q2 => ?_
  obtain ⟨i, j, rfl, rfl, q⟩ := q2
  rw [isInt i1, isInt i2]
  refine ⟨i, j, rfl, rfl, p i j, rfl, ?_⟩
  by_cases hc : p i j = true
  · rw [if_pos hc] at q ⊢
    refine q.use g2 en2 tk fun u H3 μ3 d3 g3 _ en3 i3 q3 => ?_
    obtain ⟨k, rfl, q⟩ := q3
    rw [isInt i3]
    exact ⟨j, k, rfl, rfl, μ3, _, g3, .bl _, q⟩
  · rw [if_neg hc] at q ⊢
    exact ⟨μ2, _, g2, .bl _, q⟩
theorem wt_val {Q : Mu → Bool → Prop} (h : WE X e Γ μ fun μ1 x => OneB x fun c => Q μ1 c) (he : ∀ whole, isTrue e X.env whole = (do let v ← whole; standAt e.pos; holding [v] (truthy v)) := by intro _; rfl) : WT X e Γ μ Q := fun Z σ H en ok tk => by
  refine toT (pt_val pe_S he) ?_
  refine h.use (Go.refl ok) en tk fun v H1 μ1 d g1 _ en1 i1 q1 => ?_
  obtain ⟨c, rfl, q⟩ := q1
  rw [isBl i1]
  exact ⟨c, rfl, μ1, g1, q⟩
theorem wt_lt {Q : Mu → Bool → Prop} (h : WE X a Γ μ fun μ1 x => WE X b Γ μ1 fun μ2 y => Two x y fun i j => Q μ2 (decide (i < j))) : WT X (.Compare a [.Lt] [b] pos) Γ μ Q := wt_cmpI op_lt (nomark _) h
theorem wt_le {Q : Mu → Bool → Prop} (h : WE X a Γ μ fun μ1 x => WE X b Γ μ1 fun μ2 y => Two x y fun i j => Q μ2 (decide (i ≤ j))) : WT X (.Compare a [.LtE] [b] pos) Γ μ Q := wt_cmpI op_le (nomark _) h
theorem wt_gt {Q : Mu → Bool → Prop} (h : WE X a Γ μ fun μ1 x => WE X b Γ μ1 fun μ2 y => Two x y fun i j => Q μ2 (decide (j < i))) : WT X (.Compare a [.Gt] [b] pos) Γ μ Q := wt_cmpI op_gt (nomark _) h
theorem wt_ge {Q : Mu → Bool → Prop} (h : WE X a Γ μ fun μ1 x => WE X b Γ μ1 fun μ2 y => Two x y fun i j => Q μ2 (decide (j ≤ i))) : WT X (.Compare a [.GtE] [b] pos) Γ μ Q := wt_cmpI op_ge (nomark _) h
theorem wt_eqS {Q : Mu → Bool → Prop} (h : WE X a Γ μ fun μ1 x => WE X b Γ μ1 fun μ2 y => EqQ x y fun c => Q μ2 c) : WT X (.Compare a [.Eq] [b] pos) Γ μ Q := fun Z σ H en ok tk => by
  refine toT (pt_cmpR op_eq pe_S pe_S (nomark _)) ?_
  refine h.use (Go.refl ok) en tk fun v H1 μ1 d g1 _ en1 i1 q1 => ?_
  refine q1.use g1 en1 tk fun w H2 μ2 d2 g2 g2' en2 i2 q2 => ?_
  obtain ⟨c, hc, q⟩ := q2
  obtain ⟨h1, h2⟩ := eqS_ok (i1.mono g2'.fz) i2 hc
  exact ⟨h1, _, rfl, μ2, g2, by rw [h2]; exact q⟩
theorem wt_neS {Q : Mu → Bool → Prop} (h : WE X a Γ μ fun μ1 x => WE X b Γ μ1 fun μ2 y => EqQ x y fun c => Q μ2 !c) : WT X (.Compare a [.NotEq] [b] pos) Γ μ Q := fun Z σ H en ok tk => by
  refine toT (pt_cmpR op_ne pe_S pe_S (nomark _)) ?_
  refine h.use (Go.refl ok) en tk fun v H1 μ1 d g1 _ en1 i1 q1 => ?_
  refine q1.use g1 en1 tk fun w H2 μ2 d2 g2 g2' en2 i2 q2 => ?_
  obtain ⟨c, hc, q⟩ := q2
  obtain ⟨h1, h2⟩ := eqS_ok (i1.mono g2'.fz) i2 hc
  exact ⟨h1, _, rfl, μ2, g2, by rw [h2]; exact q⟩
theorem wt_isN {j p2} {Q : Mu → Bool → Prop} (h : WE X a Γ μ fun μ1 x => Q μ1 (isN x)) : WT X (.Compare a [.Is] [.Constant .none j p2] pos) Γ μ Q := fun Z σ H en ok tk => by
  refine toT (pt_cmp (pc_isN pe_S) (nomark _)) ?_
  refine h.use (Go.refl ok) en tk fun v H1 μ1 d g1 _ en1 i1 q1 => ?_
  exact ⟨_, rfl, μ1, g1, by rw [isN_ok i1]; exact q1⟩
theorem wt_notN {j p2} {Q : Mu → Bool → Prop} (h : WE X a Γ μ fun μ1 x => Q μ1 (!isN x)) : WT X (.Compare a [.IsNot] [.Constant .none j p2] pos) Γ μ Q := fun Z σ H en ok tk => by
  refine toT (pt_cmp (pc_notN pe_S) (nomark _)) ?_
  refine h.use (Go.refl ok) en tk fun v H1 μ1 d g1 _ en1 i1 q1 => ?_
  exact ⟨_, rfl, μ1, g1, by rw [isN_ok i1]; exact q1⟩
theorem wt_chI {op op' : CmpOp} {p p' : Int → Int → Bool} {Q : Mu → Bool → Prop} (hr : OpR X (compareOp op) (rI0 fun i j => .bl (p i j))) (hr' : OpR X (compareOp op') (rI0 fun i j => .bl (p' i j))) (hm : lastMarks [op, op'] [b, c] = false)
    (h : WE X a Γ μ fun μ1 x => WE X b Γ μ1 fun μ2 y => Two x y fun i j => (if p i j = true then WE X c Γ μ2 fun μ3 z => One z fun k => Q μ3 (p' j k) else Q μ2 false)) : WT X (.Compare a [op, op'] [b, c] pos) Γ μ Q := fun Z σ H en ok tk => by
  refine toT (pt_chain hr hr' pe_S pe_S pe_S hm) ?_
  refine h.use (Go.refl ok) en tk fun v H1 μ1 d g1 _ en1 i1 q1 => ?_
  refine q1.use g1 en1 tk fun w H2 μ2 d2 g2 _ en2 i2 q2 => ?_
  obtain ⟨i, j, rfl, rfl, q⟩ := q2
  rw [isInt i1, isInt i2]
  refine ⟨i, j, rfl, rfl, p i j, rfl, ?_⟩
  by_cases hc : p i j = true
  · rw [if_pos hc] at q ⊢
    refine q.use g2 en2 tk fun u H3 μ3 d3 g3 _ en3 i3 q3 => ?_
    obtain ⟨k, rfl, q⟩ := q3
    rw [isInt i3]
    exact ⟨j, k, rfl, rfl, _, rfl, μ3, g3, q⟩
  · rw [if_neg hc] at q ⊢
    exact ⟨_, rfl, μ2, g2, q⟩
variable {rest : List Expr}
theorem wt_W {Q : Mu → Bool → Prop} (h : WW X e Γ μ Q) : WT X e Γ μ Q := fun Z σ H en ok tk => toT pw_S.pt (h Z σ H en ok tk)
theorem ww_and1 {Q : Mu → Bool → Prop} (h : WT X a Γ μ Q) : WW X (.BoolOp .And [a] pos) Γ μ Q := fun Z σ H en ok tk => toW (pw_and1 pt_S) (h Z σ H en ok tk)
theorem ww_or1 {Q : Mu → Bool → Prop} (h : WT X a Γ μ Q) : WW X (.BoolOp .Or [a] pos) Γ μ Q := fun Z σ H en ok tk => toW (pw_or1 pt_S) (h Z σ H en ok tk)
theorem ww_and {Q : Mu → Bool → Prop} (h : WT X a Γ μ fun μ1 k => if k = true then WW X (.BoolOp .And (b :: rest) pos) Γ μ1 Q else Q μ1 false) : WW X (.BoolOp .And (a :: b :: rest) pos) Γ μ Q := fun Z σ H en ok tk => by
  refine toW (pw_and pt_S pw_S) ?_
  refine h.use (Go.refl ok) en tk fun k H1 μ1 g1 _ en1 q1 => ?_
  cases k with
  | true => exact q1.use g1 en1 tk fun k2 H2 μ2 g2 _ en2 q2 => ⟨μ2, g2, q2⟩
  | false => exact ⟨μ1, g1, q1⟩
theorem ww_or {Q : Mu → Bool → Prop} (h : WT X a Γ μ fun μ1 k => if k = true then Q μ1 true else WW X (.BoolOp .Or (b :: rest) pos) Γ μ1 Q) : WW X (.BoolOp .Or (a :: b :: rest) pos) Γ μ Q := fun Z σ H en ok tk => by
  refine toW (pw_or pt_S pw_S) ?_
  refine h.use (Go.refl ok) en tk fun k H1 μ1 g1 _ en1 q1 => ?_
  cases k with
  | false => exact q1.use g1 en1 tk fun k2 H2 μ2 g2 _ en2 q2 => ⟨μ2, g2, q2⟩
  | true => exact ⟨μ1, g1, q1⟩
theorem wt_not {Q : Mu → Bool → Prop} (h : WT X a Γ μ fun μ1 k => Q μ1 (!k)) : WT X (.UnaryOp .Not a pos) Γ μ Q := fun Z σ H en ok tk => by
  refine toT (pt_not pt_S) ?_
  exact h.use (Go.refl ok) en tk fun k H1 μ1 g1 _ en1 q1 => ⟨μ1, g1, q1⟩
theorem we_one {op} (h : WE X a Γ μ Q) : WE X (.BoolOp op [a] pos) Γ μ Q := fun Z σ H en ok tk => toS (pe_one pe_S) (h Z σ H en ok tk)
theorem we_and (h : WE X a Γ μ fun μ1 x => OneB x fun k => if k = true then WE X (.BoolOp .And (b :: rest) pos) Γ μ1 Q else Q μ1 (.bl false)) : WE X (.BoolOp .And (a :: b :: rest) pos) Γ μ Q := fun Z σ H en ok tk => by
  refine toS (pe_and pe_S pe_S) ?_
  refine h.use (Go.refl ok) en tk fun v H1 μ1 d g1 _ en1 i1 q1 => ?_
  obtain ⟨k, rfl, q⟩ := q1
  rw [isBl i1]
  refine ⟨k, rfl, ?_⟩
  cases k with
  | true => exact q.use g1 en1 tk fun w H2 μ2 d2 g2 _ en2 i2 q2 => ⟨μ2, d2, g2, i2, q2⟩
  | false => exact ⟨μ1, _, g1, .bl _, q⟩
theorem we_or (h : WE X a Γ μ fun μ1 x => OneB x fun k => if k = true then Q μ1 (.bl true) else WE X (.BoolOp .Or (b :: rest) pos) Γ μ1 Q) : WE X (.BoolOp .Or (a :: b :: rest) pos) Γ μ Q := fun Z σ H en ok tk => by
  refine toS (pe_or pe_S pe_S) ?_
  refine h.use (Go.refl ok) en tk fun v H1 μ1 d g1 _ en1 i1 q1 => ?_
  obtain ⟨k, rfl, q⟩ := q1
  rw [isBl i1]
  refine ⟨k, rfl, ?_⟩
  cases k with
  | false => exact q.use g1 en1 tk fun w H2 μ2 d2 g2 _ en2 i2 q2 => ⟨μ2, d2, g2, i2, q2⟩
  | true => exact ⟨μ1, _, g1, .bl _, q⟩
theorem we_not (h : WE X a Γ μ fun μ1 x => OneB x fun k => Q μ1 (.bl (!k))) : WE X (.UnaryOp .Not a pos) Γ μ Q := fun Z σ H en ok tk => by
  refine toS (pe_not pe_S) ?_
  refine h.use (Go.refl ok) en tk fun v H1 μ1 d g1 _ en1 i1 q1 => ?_
  obtain ⟨k, rfl, q⟩ := q1
  rw [isBl i1]
  exact ⟨k, rfl, μ1, _, g1, .bl _, q⟩
theorem we_ifE (h : WT X c Γ μ fun μ1 k => if k = true then WE X a Γ μ1 Q else WE X b Γ μ1 Q) : WE X (.IfExp c a b pos) Γ μ Q := fun Z σ H en ok tk => by
  refine toS (pe_ifExp pt_S pe_S pe_S) ?_
  refine h.use (Go.refl ok) en tk fun k H1 μ1 g1 _ en1 q1 => ?_
  cases k with
  | true => exact q1.use g1 en1 tk fun w H2 μ2 d2 g2 _ en2 i2 q2 => ⟨μ2, d2, g2, i2, q2⟩
  | false => exact q1.use g1 en1 tk fun w H2 μ2 d2 g2 _ en2 i2 q2 => ⟨μ2, d2, g2, i2, q2⟩
end
end DL

set_option Elab.async false
set_option linter.all false
set_option maxRecDepth 100000
set_option maxHeartbeats 2000000
namespace DL
open PySem PySem.Spec PyProof.Rows L2
section
variable {X : Cx} {CX : CXT} {k n : Nat} {f C : Addr} {fd : FuncData} {ps ks : List Str} {sp : Sp} {E : L2.St → XK} {x m : Str} {p pos apos : Pos} {e o : Expr} {es : List Expr} {kws : List Keyword} {ta : TE} {t tk : TA} {g : List Value → List Value → List Value} {gV : List V → List V → List V}
def tCallNS (n m : Nat) (sp : Sp) (gV : List V → List V → List V) (E : L2.St → XK) (t tk : TA) : TE := fun σ H Q => t σ H fun vs H1 => tk σ H1 fun zs H2 => vs.length = n ∧ zs.length = m ∧ sp (gV vs zs) H2 Q (E σ)
theorem run_NS {pins : List (Addr × Obj)} {σ : L2.St} {H : Hp} {s : Shared} {Q : VK} {us ws : List Value} {vs zs : List V} (F : FnOk X.prog X.w X.K X.mg X.base CX k f fd ps sp) (hr : Room k X.A) (hb : KBn X.K fd ps n ks g gV) (hx : PassesAt CX X σ (E σ))
    (I : Inv X pins σ H s) (r : Vals vs us) (rz : Vals zs ws) (l1 : vs.length = n) (l2 : zs.length = ks.length) (h : sp (gV vs zs) H Q (E σ)) : wpAny (model X.prog X.w) X.A (call (.ref f) us (ks.zip ws)) (EP X pins σ Q) X.xe s := by
  have r2 := hb.rel r rz
  refine wpAny_call (codeAny_mono (F.run X.A X.stack s H ⟨us, ks.zip ws⟩ (g us ws) (gV vs zs) Q (E σ) hr I.env0 (hb.to s us ws I.kIn (r.length.symm.trans l1) (rz.length.symm.trans l2)) r2 h) fun r s' hq => ?_)
  cases r with
  | error e => exact hx pins H s e s' I hq
  | ok fl =>
    cases fl with
    | ret u => exact I.after hq
    | next => exact False.elim hq
    | brk => exact False.elim hq
    | cont => exact False.elim hq
theorem pe_callNS (F : FnOk X.prog X.w X.K X.mg X.base CX k f fd ps sp) (hr : Room k X.A) (hg : Gl X x) (hm : X.mg x = some (.ref f)) (hk : PySem.W.keepIn X.K (.ref f) = true) (hb : KBn X.K fd ps n ks g gV) (hx : ∀ σ, PassesAt CX X σ (E σ))
    (ha : PA X (e :: es) t) (hkw : PK X kws tk) (hall : (backToKw pos (keywordEach kws X.env)).all (·.1.isSome) = true) (hks : (backToKw pos (keywordEach kws X.env)).filterMap (·.1) = ks)
    (hdb : (x == ("__debug__" : Str)) = false) (he : starEach (e :: es) X.env = (false, eval e X.env) :: starEach es X.env)
    (hpl : ((backTo pos (starEach (e :: es) X.env)).any (·.1) || (backToKw pos (keywordEach kws X.env)).any (·.1.isNone)) = false) :
    PE X (.Call (.Name x p) (e :: es) kws pos) (tCallNS n ks.length sp gV E t tk) := by
  refine ⟨fun pins s σ H Q I h => ?_⟩
  refine wpAny_Call_Name_kw (ld_glob I hg hm ?_ hdb)
  refine PySem.W.callWith_KW (h₀ := X.base) I.ok.mod.kin hk hall (thn (ha.run pos pins s σ H _ I h) fun us s1 ⟨vs, H1, I1, r, q⟩ => ?_) hpl he
  refine thn (hkw.run pos pins s1 σ H1 _ I1 q) fun ws s2 ⟨zs, H2, I2, rz, l1, l2, q2⟩ => ⟨I2.kIn, ?_⟩
  rw [hks]
  exact run_NS F hr hb (hx σ) I2 r rz l1 l2 q2
theorem pe_callNS0 (F : FnOk X.prog X.w X.K X.mg X.base CX k f fd ps sp) (hr : Room k X.A) (hg : Gl X x) (hm : X.mg x = some (.ref f)) (hk : PySem.W.keepIn X.K (.ref f) = true) (hb : KBn X.K fd ps 0 ks g gV) (hx : ∀ σ, PassesAt CX X σ (E σ))
    (hkw : PK X kws tk) (hall : (backToKw pos (keywordEach kws X.env)).all (·.1.isSome) = true) (hks : (backToKw pos (keywordEach kws X.env)).filterMap (·.1) = ks)
    (hdb : (x == ("__debug__" : Str)) = false)
    (hpl : ((backTo pos (starEach [] X.env)).any (·.1) || (backToKw pos (keywordEach kws X.env)).any (·.1.isNone)) = false) :
    PE X (.Call (.Name x p) [] kws pos) (tCallNS 0 ks.length sp gV E tNil tk) := by
  refine ⟨fun pins s σ H Q I h => ?_⟩
  refine wpAny_Call_Name_kw (ld_glob I hg hm ?_ hdb)
  refine PySem.W.callWith_KW0 (h₀ := X.base) (first := []) I.ok.mod.kin hk hall (thn (hkw.run pos pins s σ H _ I h) fun ws s2 ⟨zs, H2, I2, rz, l1, l2, q2⟩ => ⟨I2.kIn, ?_⟩) hpl
  rw [hks]
  exact run_NS (us := []) (vs := []) F hr hb (hx σ) I2 .nil rz rfl l2 q2
/-- o.m(e, ..), o.m() -/
def tMethS (C : Addr) (m : Str) (sp : Sp) (E : L2.St → XK) (ta : TE) (t : TA) : TE := fun σ H Q => ta σ H fun x H1 => ∃ a dx fs, x = .ref a ∧ H1 a = some (.ins C dx fs) ∧ fs.lookup m = none ∧ t σ H1 fun vs H2 => sp (x :: vs) H2 Q (E σ)
theorem pe_methS {pl : Sem Bool} (he : PE X o ta) (c : Cls X.K C) (hm : Meth X.K C m f) (F : FnOk X.prog X.w X.K X.mg X.base CX k f fd ps sp) (hr : Room k X.A) (hb : Binds X.K fd ps []) (hx : ∀ σ, PassesAt CX X σ (E σ)) (ha : PA X (e :: es) t)
    (hst : starEach (e :: es) X.env = (false, eval e X.env) :: starEach es X.env) (hpl : (backTo pos (starEach es X.env)).any (·.1) = false)
    (ht : eval (.Call (.Attribute o m apos) (e :: es) [] pos) X.env = (do
      let ov ← eval o X.env
      standAt apos.atName
      let (f, first) ← holding [ov] (getMethod ov m pl)
      callWith pos f first (backTo pos (starEach (e :: es) X.env)) (backToKw pos (keywordEach [] X.env)))) :
    PE X (.Call (.Attribute o m apos) (e :: es) [] pos) (tMethS C m sp E ta t) := by
  refine ⟨fun pins s σ H Q I h => ?_⟩
  refine PySem.W.methodCall_KW (pl := pl) (thn (he.run pins s σ H _ I h) fun u s1 ⟨x, H1, I1, rx, a, dx, fs, ex, ea, l, q⟩ => ?_) ht
  subst ex
  obtain rfl : u = Value.ref a := rx
  refine getmeth_ok I1 ea c hm l ?_
  refine PySem.W.callWith_K (first := [.ref a]) (h₀ := X.base) I.ok.mod.kin hm.kp (thn (ha.run pos pins s1 σ H1 _ I1 q) fun us s2 ⟨vs, H2, I2, r, q2⟩ => ⟨I2.kIn, ?_⟩) hst hpl
  exact run_fnSD (us := .ref a :: us) (vs := .ref a :: vs) F hr hb .nil (hx σ) I2 (.cons rfl r) (by rw [List.append_nil]; exact q2)
theorem pe_methS0 {pl : Sem Bool} (he : PE X o ta) (c : Cls X.K C) (hm : Meth X.K C m f) (F : FnOk X.prog X.w X.K X.mg X.base CX k f fd ps sp) (hr : Room k X.A) (hb : Binds X.K fd ps []) (hx : ∀ σ, PassesAt CX X σ (E σ))
    (ht : eval (.Call (.Attribute o m apos) [] [] pos) X.env = (do
      let ov ← eval o X.env
      standAt apos.atName
      let (f, first) ← holding [ov] (getMethod ov m pl)
      callWith pos f first (backTo pos (starEach [] X.env)) (backToKw pos (keywordEach [] X.env)))) :
    PE X (.Call (.Attribute o m apos) [] [] pos) (tMethS C m sp E ta tNil) := by
  refine ⟨fun pins s σ H Q I h => ?_⟩
  refine PySem.W.methodCall_KW (pl := pl) (thn (he.run pins s σ H _ I h) fun u s1 ⟨x, H1, I1, rx, a, dx, fs, ex, ea, l, q⟩ => ?_) ht
  subst ex
  obtain rfl : u = Value.ref a := rx
  refine getmeth_ok I1 ea c hm l ?_
  exact PySem.W.callWith_K0 (first := [.ref a]) I1.kIn hm.kp (run_fnSD (us := [.ref a]) (vs := [.ref a]) F hr hb .nil (hx σ) I1 (.cons rfl .nil) q)
/-- o.m(e, .., k = v, ..), o.m(k = v, ..) -/
def tMethNS (C : Addr) (m : Str) (n l : Nat) (sp : Sp) (gV : List V → List V → List V) (E : L2.St → XK) (ta : TE) (t tk : TA) : TE := fun σ H Q => ta σ H fun x H1 => ∃ a dx fs, x = .ref a ∧ H1 a = some (.ins C dx fs) ∧ fs.lookup m = none ∧
  t σ H1 fun vs H2 => tk σ H2 fun zs H3 => (x :: vs).length = n ∧ zs.length = l ∧ sp (gV (x :: vs) zs) H3 Q (E σ)
theorem pe_methNS0 {pl : Sem Bool} (he : PE X o ta) (c : Cls X.K C) (hm : Meth X.K C m f) (F : FnOk X.prog X.w X.K X.mg X.base CX k f fd ps sp) (hr : Room k X.A) (hb : KBn X.K fd ps n ks g gV) (hx : ∀ σ, PassesAt CX X σ (E σ)) (hkw : PK X kws tk)
    (hall : (backToKw pos (keywordEach kws X.env)).all (·.1.isSome) = true) (hks : (backToKw pos (keywordEach kws X.env)).filterMap (·.1) = ks)
    (hpl : ((backTo pos (starEach [] X.env)).any (·.1) || (backToKw pos (keywordEach kws X.env)).any (·.1.isNone)) = false)
    (ht : eval (.Call (.Attribute o m apos) [] kws pos) X.env = (do
      let ov ← eval o X.env
      standAt apos.atName
      let (f, first) ← holding [ov] (getMethod ov m pl)
      callWith pos f first (backTo pos (starEach [] X.env)) (backToKw pos (keywordEach kws X.env)))) :
    PE X (.Call (.Attribute o m apos) [] kws pos) (tMethNS C m n ks.length sp gV E ta tNil tk) := by
  refine ⟨fun pins s σ H Q I h => ?_⟩
  refine PySem.W.methodCall_KW (pl := pl) (thn (he.run pins s σ H _ I h) fun u s1 ⟨x, H1, I1, rx, a, dx, fs, ex, ea, l, q⟩ => ?_) ht
  subst ex
  obtain rfl : u = Value.ref a := rx
  refine getmeth_ok I1 ea c hm l ?_
  refine PySem.W.callWith_KW0 (first := [.ref a]) (h₀ := X.base) I.ok.mod.kin hm.kp hall (thn (hkw.run pos pins s1 σ H1 _ I1 q) fun ws s2 ⟨zs, H2, I2, rz, l1, l2, q2⟩ => ⟨I2.kIn, ?_⟩) hpl
  rw [hks]
  exact run_NS (us := [.ref a]) (vs := [.ref a]) F hr hb (hx σ) I2 (.cons rfl .nil) rz l1 l2 q2
/-- C(e, ..) -/
def tMakeS (C : Addr) (sp : Sp) (E : L2.St → XK) (t : TA) : TE := fun σ H Q => t σ H fun vs H1 => ∀ x dx, H1 x = none → H1 dx = none → dx ≠ x →
  sp (.ref x :: vs) (upd (upd H1 dx (.own x)) x (.ins C dx [])) (fun v H2 => v = .non ∧ Q (.ref x) H2) (E σ)
theorem run_makeS {pins : List (Addr × Obj)} {σ : L2.St} {H : Hp} {s : Shared} {Q : VK} {us : List Value} {vs : List V} (M : Mk X.K C f) (F : FnOk X.prog X.w X.K X.mg X.base CX k f fd ps sp) (hr : Room (k + 1) X.A) (hb : Binds X.K fd ps [])
    (hx : PassesAt CX X σ (E σ)) (I : Inv X pins σ H s) (r : Vals vs us)
    (h : ∀ x dx, H x = none → H dx = none → dx ≠ x → sp (.ref x :: vs) (upd (upd H dx (.own x)) x (.ins C dx [])) (fun v H2 => v = .non ∧ Q (.ref x) H2) (E σ)) :
    wpAny (model X.prog X.w) X.A (call (.ref C) us) (EP X pins σ Q) X.xe s := by
  have hq := h (s.heap.objs.size + 1) s.heap.objs.size (I.hok.fresh (Nat.le_succ _)) (I.hok.fresh (Nat.le_refl _)) (Nat.ne_of_lt (Nat.lt_succ_self _))
  have I2 := Inv.made (C := C) I
  have r2 : Vals (V.ref (s.heap.objs.size + 1) :: vs) (Value.ref (s.heap.objs.size + 1) :: us) := .cons rfl r
  have hl : (Value.ref (s.heap.objs.size + 1) :: us ++ []).length = ps.length := by
    have e := r2.length
    rw [F.len _ _ _ _ hq] at e
    rw [List.append_nil]
    exact e.symm
  have hbb := hb _ (Value.ref (s.heap.objs.size + 1) :: us) I2.kIn hl
  rw [List.append_nil] at hbb
  refine wpAny_call (make_map (f := f) I.kIn M.makes M.init (beq_iff_eq.mp M.fn) (codeAny_mono (F.run _ X.stack _ _ ⟨Value.ref (s.heap.objs.size + 1) :: us, []⟩ (Value.ref (s.heap.objs.size + 1) :: us) _ _ (E σ) (hr.make C us [])
    (I2.env0.make C us []) hbb r2 hq) fun r s' hq' => ?_))
  cases r with
  | error e => exact hx pins _ _ e s' I2 hq'
  | ok fl =>
    cases fl with
    | ret u =>
      obtain ⟨v, H', I3, rv, ev, q3⟩ := I2.after hq'
      subst ev
      exact ⟨rv, ⟨V.ref (s.heap.objs.size + 1), H', I3, rfl, q3⟩⟩
    | next => exact False.elim hq'
    | brk => exact False.elim hq'
    | cont => exact False.elim hq'
theorem pe_makeS (M : Mk X.K C f) (F : FnOk X.prog X.w X.K X.mg X.base CX k f fd ps sp) (hr : Room (k + 1) X.A) (hg : Gl X x) (hm : X.mg x = some (.ref C)) (hb : Binds X.K fd ps []) (hx : ∀ σ, PassesAt CX X σ (E σ))
    (ha : PA X (e :: es) t) (hdb : (x == ("__debug__" : Str)) = false) (he : starEach (e :: es) X.env = (false, eval e X.env) :: starEach es X.env) (hpl : (backTo pos (starEach es X.env)).any (·.1) = false) :
    PE X (.Call (.Name x p) (e :: es) [] pos) (tMakeS C sp E t) := by
  refine ⟨fun pins s σ H Q I h => ?_⟩
  refine wpAny_Call_Name_kw (ld_glob I hg hm ?_ hdb)
  refine PySem.W.callWith_K (h₀ := X.base) I.ok.mod.kin M.kp (thn (ha.run pos pins s σ H _ I h) fun us s1 ⟨vs, H1, I1, r, q⟩ => ⟨I1.kIn, ?_⟩) he hpl
  exact run_makeS M F hr hb (hx σ) I1 r q
end
end DL

set_option Elab.async false
set_option linter.all false
set_option maxRecDepth 100000
set_option maxHeartbeats 2000000
namespace DL
open PySem PySem.Spec PyProof.Rows L2

section
variable {X : Cz} {Γ Γ' : Gm} {μ : Mu} {a b c e o : Expr} {es : List Expr} {pos p0 : Pos} {Q : Mu → D → Prop}
theorem wa_nil {Q : Mu → List D → Prop} (q : Q μ []) : WA X [] Γ μ Q := fun Z σ H en ok tk => toA pa_nil ⟨μ, [], Go.refl ok, .nil, q⟩
theorem wa_cons {Q : Mu → List D → Prop} (h : WE X e Γ μ fun μ1 x => WA X es Γ μ1 fun μ2 xs => Q μ2 (x :: xs)) (hs : starEach (e :: es) X.env = (false, eval e X.env) :: starEach es X.env := by rfl) : WA X (e :: es) Γ μ Q := fun Z σ H en ok tk => by
  refine toA (pa_cons pe_S pa_S hs) ?_
  refine h.use (Go.refl ok) en tk fun v H1 μ1 d g1 _ en1 i1 q1 => ?_
  refine q1.use g1 en1 tk fun vs H2 μ2 ds g2 g2' en2 i2 q2 => ⟨μ2, _, g2, .cons (i1.mono g2'.fz) i2, q2⟩
theorem wk_nil {Q : Mu → List D → Prop} (q : Q μ []) : WKw X [] Γ μ Q := fun Z σ H en ok tk => toK pk_nil ⟨μ, [], Go.refl ok, .nil, q⟩
theorem wk_cons {kws : List Keyword} {nm : Option Str} {kpos : Pos} {Q : Mu → List D → Prop} (h : WE X e Γ μ fun μ1 x => WKw X kws Γ μ1 fun μ2 xs => Q μ2 (x :: xs)) : WKw X (⟨nm, e, kpos⟩ :: kws) Γ μ Q := fun Z σ H en ok tk => by
  refine toK (pk_cons pe_S pk_S) ?_
  refine h.use (Go.refl ok) en tk fun v H1 μ1 d g1 _ en1 i1 q1 => ?_
  refine q1.use g1 en1 tk fun vs H2 μ2 ds g2 g2' en2 i2 q2 => ⟨μ2, _, g2, .cons (i1.mono g2'.fz) i2, q2⟩
section
variable {K : PySem.W.Frag} {Z : Addr → Prop} {H : Hp}
theorem Is.newL (ok : Ok K μ Z H) {p : Addr} (hp : H p = none) {vs : List V} {ds : List D} (i : IsA K (Av μ Z) H vs ds) : Is K (Av μ Z) (upd H p (.lst vs)) (.ref p) (.lst ds) :=
  .lst ⟨ok.notAv hp, .inl upd_same⟩ (i.mono (Go.frz ok hp _).fz)
theorem Is.newT (ok : Ok K μ Z H) {p : Addr} (hp : H p = none) {vs : List V} {ds : List D} (i : IsA K (Av μ Z) H vs ds) : Is K (Av μ Z) (upd H p (.tup vs)) (.ref p) (.tup ds) :=
  .tup (.inl ⟨ok.notAv hp, .inl upd_same⟩) (i.mono (Go.frz ok hp _).fz)
end
/-- a list that stays as it is | one that may be changed -/
theorem we_lst (h : WA X es Γ μ fun μ1 ds => Req (ds.length ≤ sizeLine) <| Q μ1 (.lst ds)) : WE X (.List es pos) Γ μ Q := fun Z σ H en ok tk => by
  refine toS (pe_lst pa_S) ?_
  refine h.use (Go.refl ok) en tk fun vs H1 μ1 ds g1 _ en1 i1 q1 => ?_
  refine ⟨by rw [i1.length]; exact q1.1, fun p hp => ⟨μ1, _, g1.trans (Go.frz g1.ok hp _), Is.newL g1.ok hp i1, q1.2⟩⟩
theorem we_lstM (h : WA X es Γ μ fun μ1 ds => Req (ds.length ≤ sizeLine) <| ∀ p, μ1 p = none → Q (updM μ1 p (.lst ds)) (.ref p)) : WE X (.List es pos) Γ μ Q := fun Z σ H en ok tk => by
  refine toS (pe_lst pa_S) ?_
  refine h.use (Go.refl ok) en tk fun vs H1 μ1 ds g1 _ en1 i1 q1 => ?_
  refine ⟨by rw [i1.length]; exact q1.1, fun p hp => ⟨_, _, g1.trans (Go.put g1.ok (.lst ds) _ (.inl hp) fun m => ⟨vs, upd_same, m i1⟩), .ref p, q1.2 p (g1.ok.fresh hp).1⟩⟩
theorem we_tup {x1} (h : WA X es Γ μ fun μ1 ds => Req (ds.length ≤ sizeLine) <| Q μ1 (.tup ds)) : WE X (.Tuple es x1 pos) Γ μ Q := fun Z σ H en ok tk => by
  refine toS (pe_tup pa_S) ?_
  refine h.use (Go.refl ok) en tk fun vs H1 μ1 ds g1 _ en1 i1 q1 => ?_
  refine ⟨by rw [i1.length]; exact q1.1, fun p hp => ⟨μ1, _, g1.trans (Go.frz g1.ok hp _), Is.newT g1.ok hp i1, q1.2⟩⟩
/-- a list or tuple to be read -/
def Seq (μ : Mu) (x : D) (ds : List D) : Prop := x = .lst ds ∨ x = .tup ds ∨ ∃ p, x = .ref p ∧ μ p = some (.lst ds)
theorem Seq.l {ds : List D} : Seq μ (.lst ds) ds := .inl rfl
theorem Seq.t {ds : List D} : Seq μ (.tup ds) ds := .inr (.inl rfl)
theorem Seq.m {ds : List D} {p : Addr} (h : μ p = some (.lst ds)) : Seq μ (.ref p) ds := .inr (.inr ⟨p, rfl, h⟩)
section
variable {K : PySem.W.Frag} {Z : Addr → Prop} {H : Hp} {v : V} {x : D} {ds : List D}
theorem Seq.at (s : Seq μ x ds) (ok : Ok K μ Z H) (h : Is K (Av μ Z) H v x) : ∃ p vs, v = .ref p ∧ (SqL K H p vs ∨ SqT K H p vs) ∧ IsA K (Av μ Z) H vs ds := by
  rcases s with rfl | rfl | ⟨p, rfl, e⟩
  · cases h with
    | lst h t => exact ⟨_, _, rfl, .inl h.sq, t⟩
  · cases h with
    | tup h t => exact ⟨_, _, rfl, .inr h.sq, t⟩
  · cases isRef h
    obtain ⟨vs, e1, t⟩ := ok.at_ p _ e
    exact ⟨p, vs, rfl, .inl (.of e1), t⟩
theorem atI_is {A : Addr → Prop} {vs : List V} {i : Int} {d : D} (t : IsA K A H vs ds) (h : atI ds i = some d) : ∃ v, atI vs i = some v ∧ Is K A H v d := by
  unfold atI at h ⊢
  rw [t.length]
  cases e : ixN ds.length i with
  | none => rw [e] at h; cases h
  | some j =>
    rw [e] at h
    exact t.get h
end
def SeqQ (μ : Mu) (x : D) (R : List D → Prop) : Prop := ∃ ds, Seq μ x ds ∧ R ds
def IxQ (μ : Mu) (x y : D) (R : D → Prop) : Prop := ∃ ds i d, Seq μ x ds ∧ y = .int i ∧ atI ds i = some d ∧ R d
theorem seq_l {ds : List D} {R : List D → Prop} (h : R ds) : SeqQ μ (.lst ds) R := ⟨ds, .l, h⟩
theorem seq_t {ds : List D} {R : List D → Prop} (h : R ds) : SeqQ μ (.tup ds) R := ⟨ds, .t, h⟩
theorem seq_m {p : Addr} {ds : List D} {R : List D → Prop} (e : μ p = some (.lst ds)) (h : R ds) : SeqQ μ (.ref p) R := ⟨ds, .m e, h⟩
theorem ix_l {ds : List D} {i : Int} {d : D} {R : D → Prop} (e : atI ds i = some d) (h : R d) : IxQ μ (.lst ds) (.int i) R := ⟨ds, i, d, .l, rfl, e, h⟩
theorem ix_t {ds : List D} {i : Int} {d : D} {R : D → Prop} (e : atI ds i = some d) (h : R d) : IxQ μ (.tup ds) (.int i) R := ⟨ds, i, d, .t, rfl, e, h⟩
theorem ix_m {p : Addr} {ds : List D} {i : Int} {d : D} {R : D → Prop} (m : μ p = some (.lst ds)) (e : atI ds i = some d) (h : R d) : IxQ μ (.ref p) (.int i) R := ⟨ds, i, d, .m m, rfl, e, h⟩
theorem we_ix (h : WE X a Γ μ fun μ1 x => WE X b Γ μ1 fun μ2 y => IxQ μ2 x y fun d => Q μ2 d) (hp : PlainIx b := by intro _ _; rfl) : WE X (.Subscript a b pos) Γ μ Q := fun Z σ H en ok tk => by
  refine toS (pe_ix (IxR.or ix_list ix_tup) pe_S pe_S hp) ?_
  refine h.use (Go.refl ok) en tk fun v H1 μ1 d g1 _ en1 i1 q1 => ?_
  refine q1.use g1 en1 tk fun w H2 μ2 d2 g2 g2' en2 i2 q2 => ?_
  obtain ⟨ds, i, d, sq, rfl, ha, q⟩ := q2
  obtain ⟨p, vs, rfl, s, t⟩ := sq.at g2.ok (i1.mono g2'.fz)
  obtain ⟨u, hu, iu⟩ := atI_is t ha
  rw [isInt i2]
  rcases s with s | s
  · exact .inl ⟨p, vs, i, u, rfl, rfl, s, hu, μ2, d, g2, iu, q⟩
  · exact .inr ⟨p, vs, i, u, rfl, rfl, s, hu, μ2, d, g2, iu, q⟩
theorem atI_n {α : Type} {xs : List α} {i : Int} {v : α} (h0 : 0 ≤ i) (h : xs[i.toNat]? = some v) : atI xs i = some v := by
  have e : i = (i.toNat : Int) := by omega
  rw [e]
  exact atI_nat h
abbrev Spc := List D → Mu → (Mu → D → Prop) → (Mu → Xd → Prop) → Prop
def lift (K : PySem.W.Frag) (s : Spc) : Sp := fun vs H Q E => ∃ ds μ Z, IsA K (Av μ Z) H vs ds ∧ Ok K μ Z H ∧
  s ds μ (fun μ' d => ∀ v H', Go K Z μ H μ' H' → Is K (Av μ' Z) H' v d → Q v H') (fun μ' x => ∀ od H', Go K Z μ H μ' H' → XdIs K (Av μ' Z) H' od x → E x.cls od H')
/-- a def that lets nothing out, by its name -/
def Spc.Mono (s : Spc) : Prop := ∀ ds μ Q E Q' E', (∀ μ' d, Q μ' d → Q' μ' d) → (∀ μ' x, E μ' x → E' μ' x) → s ds μ Q E → s ds μ Q' E'
structure Cl (X : Cz) (x : Str) (s : Spc) : Prop where
  mono : s.Mono
  ex : ∃ k f fd ps, FnOk X.prog X.w X.K X.mg X.base (L2.CX X.prog X.w) k f fd ps (lift X.K s) ∧ Room k X.A ∧ X.mg x = some (.ref f) ∧ PySem.W.keepIn X.K (.ref f) = true ∧ Binds X.K fd ps []
  gl : Gl X x
  db : (x == ("__debug__" : Str)) = false
theorem lift_of {s : Spc} {Z : Addr → Prop} {μ0 : Mu} {H0 H : Hp} {σ : L2.St} {vs : List V} {ds : List D} (m : s.Mono) (g : Go X.K Z μ0 H0 μ H) (en : En X.K (Av μ Z) H σ Γ) (i : IsA X.K (Av μ Z) H vs ds) (h : s ds μ Q (X.xd Γ)) : lift X.K s vs H (PostE X.K Z μ0 H0 Q) (L2.WE (PostX X.K Z μ0 H0 X.xd) σ) := by
  refine ⟨ds, μ, Z, i, g.ok, m _ _ _ _ _ _ (fun μ' d q => ?_) (fun μ' x z => ?_) h⟩
  · exact fun v H' g' is => ⟨μ', d, g.trans g', is, q⟩
  · exact fun od H' g' is => ⟨Γ, μ', x, g.trans g', en.mono g'.fz, is, rfl, z⟩
/-- what a callee lets out is taken -/
theorem Tk.pass {Z : Addr → Prop} {μ0 : Mu} {H0 : Hp} (t : Tk X Z μ0 H0) (σ : L2.St) : PassesAt (L2.CX X.prog X.w) X.toCx σ (L2.WE (PostX X.K Z μ0 H0 X.xd) σ) := passAt t σ
theorem we_call {x : Str} {s : Spc} (C : Cl X x s) (h : WA X (e :: es) Γ μ fun μ1 ds => s ds μ1 Q (X.xd Γ))
    (he : starEach (e :: es) X.env = (false, eval e X.env) :: starEach es X.env := by rfl) (hpl : (backTo pos (starEach es X.env)).any (·.1) = false := by rfl) : WE X (.Call (.Name x p0) (e :: es) [] pos) Γ μ Q := fun Z σ H en ok tk => by
  obtain ⟨k, f, fd, ps, F, hr, hm, hk, hb⟩ := C.ex
  refine toS (pe_callSD F hr C.gl hm hk hb .nil tk.pass pa_S C.db he hpl) ?_
  refine h.use (Go.refl ok) en tk fun vs H1 μ1 ds g1 _ en1 i1 q1 => ?_
  rw [List.append_nil]
  exact lift_of C.mono g1 en1 i1 q1
/-- .. with n values ahead and keywords ks; g brings all into the parameters' order -/
structure ClK (X : Cz) (x : Str) (n : Nat) (ks : List Str) (g : {α : Type} → List α → List α → List α) (s : Spc) : Prop where
  mono : s.Mono
  ex : ∃ k f fd ps, FnOk X.prog X.w X.K X.mg X.base (L2.CX X.prog X.w) k f fd ps (lift X.K s) ∧ Room k X.A ∧ X.mg x = some (.ref f) ∧ PySem.W.keepIn X.K (.ref f) = true ∧ KBn X.K fd ps n ks (fun us ws => g us ws) (fun us ws => g us ws)
  gl : Gl X x
  db : (x == ("__debug__" : Str)) = false
  rel : ∀ {K : PySem.W.Frag} {A : Addr → Prop} {H : Hp} {vs zs : List V} {ds es : List D}, vs.length = n → zs.length = ks.length → IsA K A H vs ds → IsA K A H zs es → IsA K A H (g vs zs) (g ds es)
theorem we_callK {x : Str} {s : Spc} {g : {α : Type} → List α → List α → List α} {kws : List Keyword} (C : ClK X x (e :: es).length (kws.filterMap (·.arg)) g s)
    (h : WA X (e :: es) Γ μ fun μ1 ds => WKw X kws Γ μ1 fun μ2 zs => Req (ds.length = (e :: es).length) <| Req (zs.length = (kws.filterMap (·.arg)).length) <| s (g ds zs) μ2 Q (X.xd Γ))
    (hall : (backToKw pos (keywordEach kws X.env)).all (·.1.isSome) = true := by rfl) (hks : (backToKw pos (keywordEach kws X.env)).filterMap (·.1) = kws.filterMap (·.arg) := by rfl)
    (he : starEach (e :: es) X.env = (false, eval e X.env) :: starEach es X.env := by rfl)
    (hpl : ((backTo pos (starEach (e :: es) X.env)).any (·.1) || (backToKw pos (keywordEach kws X.env)).any (·.1.isNone)) = false := by rfl) : WE X (.Call (.Name x p0) (e :: es) kws pos) Γ μ Q := fun Z σ H en ok tk => by
  obtain ⟨k, f, fd, ps, F, hr, hm, hk, hb⟩ := C.ex
  refine toS (pe_callNS F hr C.gl hm hk hb tk.pass pa_S pk_S hall hks C.db he hpl) ?_
  refine h.use (Go.refl ok) en tk fun vs H1 μ1 ds g1 _ en1 i1 q1 => ?_
  refine q1.use g1 en1 tk fun zs H2 μ2 ds2 g2 g2' en2 i2 q2 => ?_
  have l1 : vs.length = (e :: es).length := i1.length.trans q2.1
  have l2 : zs.length = (kws.filterMap (·.arg)).length := i2.length.trans q2.2.1
  exact ⟨l1, l2, lift_of C.mono g2 en2 (C.rel l1 l2 (i1.mono g2'.fz) i2) q2.2.2⟩
theorem we_callK0 {x : Str} {s : Spc} {g : {α : Type} → List α → List α → List α} {kws : List Keyword} (C : ClK X x 0 (kws.filterMap (·.arg)) g s)
    (h : WKw X kws Γ μ fun μ2 zs => Req (zs.length = (kws.filterMap (·.arg)).length) <| s (g [] zs) μ2 Q (X.xd Γ))
    (hall : (backToKw pos (keywordEach kws X.env)).all (·.1.isSome) = true := by rfl) (hks : (backToKw pos (keywordEach kws X.env)).filterMap (·.1) = kws.filterMap (·.arg) := by rfl)
    (hpl : ((backTo pos (starEach [] X.env)).any (·.1) || (backToKw pos (keywordEach kws X.env)).any (·.1.isNone)) = false := by rfl) : WE X (.Call (.Name x p0) [] kws pos) Γ μ Q := fun Z σ H en ok tk => by
  obtain ⟨k, f, fd, ps, F, hr, hm, hk, hb⟩ := C.ex
  refine toS (pe_callNS0 F hr C.gl hm hk hb tk.pass pk_S hall hks C.db hpl) ?_
  refine h.use (Go.refl ok) en tk fun zs H2 μ2 es g2 g2' en2 i2 q2 => ?_
  have l2 : zs.length = (kws.filterMap (·.arg)).length := i2.length.trans q2.1
  exact ⟨rfl, l2, lift_of C.mono g2 en2 (C.rel (vs := []) (ds := []) rfl l2 .nil i2) q2.2⟩
structure Bl (X : Cz) (x : Str) : Prop where
  gl : Gl X x
  mg : X.mg x = none
/-- len of a list or tuple -/
theorem we_len (B : Bl X "len") (h : WE X e Γ μ fun μ1 x => SeqQ μ1 x fun ds => Q μ1 (.int (ds.length : Int)))
    (he : starEach [e] X.env = (false, eval e X.env) :: starEach [] X.env := by rfl) (hpl : (backTo pos (starEach [] X.env)).any (·.1) = false := by rfl) : WE X (.Call (.Name "len" p0) [e] [] pos) Γ μ Q := fun Z σ H en ok tk => by
  refine toS (pe_callB call_len_seq B.gl B.mg PySem.boot_len (pa_cons pe_S pa_nil he) (by decide) (by decide) he hpl) ?_
  refine h.use (Go.refl ok) en tk fun v H1 μ1 d g1 _ en1 i1 q1 => ?_
  obtain ⟨ds, sq, q⟩ := q1
  obtain ⟨p, vs, rfl, s, t⟩ := sq.at g1.ok i1
  exact ⟨p, vs, rfl, s, μ1, _, g1, by rw [t.length]; exact .int _, q⟩
/-- isinstance(x, T), T a built-in type, x a scalar -/
def kindD : D → Option String
  | .non => some "NoneType"
  | .bl _ => some "bool"
  | .int _ => some "int"
  | .str _ => some "str"
  | .lst _ => some "list"
  | .tup _ => some "tuple"
  | _ => none
theorem kindD_ok {K : PySem.W.Frag} {A : Addr → Prop} {H : Hp} {v : V} {x : D} {s : String} (h : Is K A H v x) (e : kindD x = some s) : TyX K H v (.type s) := by
  cases h with
  | non => cases e; exact .base .non
  | bl b => cases e; exact .base (.bl b)
  | int i => cases e; exact .base (.int i)
  | str x => cases e; exact .base (.str x)
  | lst h t =>
    cases e
    rcases h with ⟨_, h | ⟨o, h⟩⟩
    · exact .base (.lst h)
    · exact .base (.frz h)
  | tup h t =>
    cases e
    rcases h with ⟨_, h | ⟨o, h⟩⟩ | ⟨o, its, n, h1, h2, _⟩
    · exact .base (.tup h)
    · exact .fTuple h
    · exact .kTuple h1 h2
  | _ => cases e
theorem kit_NoneType_int : kitB "NoneType" "int" = some false := by decide +kernel
theorem kit_NoneType_bool : kitB "NoneType" "bool" = some false := by decide +kernel
theorem kit_NoneType_str : kitB "NoneType" "str" = some false := by decide +kernel
theorem kit_NoneType_list : kitB "NoneType" "list" = some false := by decide +kernel
theorem kit_NoneType_tuple : kitB "NoneType" "tuple" = some false := by decide +kernel
theorem kit_bool_int : kitB "bool" "int" = some true := by decide +kernel
theorem kit_bool_bool : kitB "bool" "bool" = some true := by decide +kernel
theorem kit_bool_str : kitB "bool" "str" = some false := by decide +kernel
theorem kit_bool_list : kitB "bool" "list" = some false := by decide +kernel
theorem kit_bool_tuple : kitB "bool" "tuple" = some false := by decide +kernel
theorem kit_int_int : kitB "int" "int" = some true := by decide +kernel
theorem kit_int_bool : kitB "int" "bool" = some false := by decide +kernel
theorem kit_int_str : kitB "int" "str" = some false := by decide +kernel
theorem kit_int_list : kitB "int" "list" = some false := by decide +kernel
theorem kit_int_tuple : kitB "int" "tuple" = some false := by decide +kernel
theorem kit_str_int : kitB "str" "int" = some false := by decide +kernel
theorem kit_str_bool : kitB "str" "bool" = some false := by decide +kernel
theorem kit_str_str : kitB "str" "str" = some true := by decide +kernel
theorem kit_str_list : kitB "str" "list" = some false := by decide +kernel
theorem kit_str_tuple : kitB "str" "tuple" = some false := by decide +kernel
theorem kit_list_int : kitB "list" "int" = some false := by decide +kernel
theorem kit_list_bool : kitB "list" "bool" = some false := by decide +kernel
theorem kit_list_str : kitB "list" "str" = some false := by decide +kernel
theorem kit_list_list : kitB "list" "list" = some true := by decide +kernel
theorem kit_list_tuple : kitB "list" "tuple" = some false := by decide +kernel
theorem kit_tuple_int : kitB "tuple" "int" = some false := by decide +kernel
theorem kit_tuple_bool : kitB "tuple" "bool" = some false := by decide +kernel
theorem kit_tuple_str : kitB "tuple" "str" = some false := by decide +kernel
theorem kit_tuple_list : kitB "tuple" "list" = some false := by decide +kernel
theorem kit_tuple_tuple : kitB "tuple" "tuple" = some true := by decide +kernel
def KindQ (x : D) (t : String) (R : Bool → Prop) : Prop := ∃ k r, kindD x = some k ∧ kitB k t = some r ∧ R r
theorem kind_q {x : D} {t k : String} {r : Bool} {R : Bool → Prop} (e : kindD x = some k) (e2 : kitB k t = some r) (h : R r) : KindQ x t R := ⟨k, r, e, e2, h⟩
theorem we_isi {T : Str} {t : String} {p1 : Pos} (B : Bl X "isinstance") (BT : Bl X T) (hv : bootBuiltins T = some (.type t)) (h : WE X e Γ μ fun μ1 x => KindQ x t fun r => Q μ1 (.bl r))
    (hn : T ≠ "__name__" := by decide) (hd : (T == ("__debug__" : Str)) = false := by decide)
    (he : starEach [e, .Name T p1] X.env = (false, eval e X.env) :: starEach [.Name T p1] X.env := by rfl) (hpl : (backTo pos (starEach [.Name T p1] X.env)).any (·.1) = false := by rfl) : WE X (.Call (.Name "isinstance" p0) [e, .Name T p1] [] pos) Γ μ Q := fun Z σ H en ok tk => by
  refine toS (pe_callB call_isi B.gl B.mg (by decide +kernel) (pa_cons pe_S (pa_cons (pe_bltn (v := .ty t) BT.gl BT.mg hv rfl hn hd) pa_nil) he) (by decide) (by decide) he hpl) ?_
  refine h.use (Go.refl ok) en tk fun v H1 μ1 d g1 _ en1 i1 q1 => ?_
  obtain ⟨k, r, hk, hr, q⟩ := q1
  exact ⟨v, .ty t, _, _, r, rfl, .ty t, kindD_ok i1 hk, kit_ty hr, μ1, _, g1, .bl _, q⟩
theorem tyL {K : PySem.W.Frag} {H : Hp} {p : Addr} {vs : List V} (h : H p = some (.lst vs)) : tyV K "list" (.ref p) H := .inl ⟨rfl, vs, .of h⟩
/-- a list that may be changed -/
def LstAt (μ : Mu) (x : D) (R : Addr → Prop) : Prop := ∃ p, x = .ref p ∧ (∃ ds, μ p = some (.lst ds)) ∧ R p
def LstQ (μ : Mu) (p : Addr) (R : List D → Prop) : Prop := ∃ ds, μ p = some (.lst ds) ∧ R ds
def AtQ (ds : List D) (k : Int) (R : Nat → Prop) : Prop := ∃ j, ixN ds.length k = some j ∧ R j
theorem lst_at {p : Addr} {ds : List D} {R : Addr → Prop} (e : μ p = some (.lst ds)) (h : R p) : LstAt μ (.ref p) R := ⟨p, rfl, ⟨ds, e⟩, h⟩
theorem lst_q {p : Addr} {ds : List D} {R : List D → Prop} (e : μ p = some (.lst ds)) (h : R ds) : LstQ μ p R := ⟨ds, e, h⟩
theorem at_q {ds : List D} {k : Int} {R : Nat → Prop} (h0 : 0 ≤ k) (h1 : k < (ds.length : Int)) (h : R k.toNat) : AtQ ds k R := ⟨k.toNat, by unfold ixN; rw [if_pos h0, if_pos h1], h⟩
/-- xs.pop(i) -/
theorem we_popAt {i : Expr} {ap : Pos} (h : WE X o Γ μ fun μ1 x => LstAt μ1 x fun p => WE X i Γ μ1 fun μ2 y => One y fun k => LstQ μ2 p fun ds => Req (-(2 ^ 63) ≤ k ∧ k < 2 ^ 63) <| ∃ j d, seqIndex? k ds.length = some j ∧ ds[j]? = some d ∧ Q (updM μ2 p (.lst (ds.eraseIdx j))) d)
    (hbase : attributeBase o "pop" X.env (eval o X.env) = eval o X.env := by rfl)
    (hfew : ((backTo pos (starEach [i] X.env)).all (fun x => !x.1) && (backToKw pos (keywordEach [] X.env)).all (fun x => x.1.isSome)
      && decide ([i].length + ([] : List Keyword).length + (if ([] : List Keyword).isEmpty then 0 else 1) < 30)) = true := by rfl)
    (hline : (ap.endLine == pos.line) = true := by rfl) (hs : starEach [i] X.env = (false, eval i X.env) :: starEach [] X.env := by rfl) (hpl : (backTo pos (starEach [] X.env)).any (·.1) = false := by rfl) :
    WE X (.Call (.Attribute o "pop" ap) [i] [] pos) Γ μ Q := fun Z σ H en ok tk => by
  refine toS (pe_bm PySem.F.plainAttrs_list PySem.F.slot_list_pop PySem.F.type_list_pop mt_popAt pe_S (pa_cons pe_S pa_nil hs) hbase hfew hline hs hpl) ?_
  refine h.use (Go.refl ok) en tk fun v H1 μ1 d g1 _ en1 i1 q1 => ?_
  obtain ⟨p, rfl, ⟨ds1, e1⟩, q1⟩ := q1
  obtain ⟨vs1, e2, _⟩ := g1.ok.at_ p _ e1
  rw [isRef i1]
  refine ⟨tyL e2, ?_⟩
  refine q1.use g1 en1 tk fun w H2 μ2 d2 g2 _ en2 i2 q2 => ?_
  obtain ⟨k, rfl, ds, hp, ⟨h1, h2⟩, j, d, h3, h4, q⟩ := q2
  obtain ⟨vs, e3, t⟩ := g2.ok.at_ p _ hp
  obtain ⟨u, hu, iu⟩ := t.get h4
  rw [isInt i2]
  have g3 := g2.trans (Go.put g2.ok (.lst (ds.eraseIdx j)) (.lst (vs.eraseIdx j)) (.inr ⟨_, hp⟩) fun m => ⟨_, upd_same, m (t.eraseIdx j)⟩)
  refine ⟨p, vs, k, j, u, rfl, rfl, e3, h1, h2, by rw [t.length]; exact h3, hu, _, d, g3, iu.mono ?_, q⟩
  exact (Go.put g2.ok (.lst (ds.eraseIdx j)) (.lst (vs.eraseIdx j)) (.inr ⟨_, hp⟩) fun m => ⟨_, upd_same, m (t.eraseIdx j)⟩).fz
/-- xs.append(e) -/
theorem we_app {ap : Pos} (h : WE X o Γ μ fun μ1 x => LstAt μ1 x fun p => WE X e Γ μ1 fun μ2 y => LstQ μ2 p fun ds => Req (ds.length < sizeLine) <| Q (updM μ2 p (.lst (ds ++ [y]))) .non)
    (hbase : attributeBase o "append" X.env (eval o X.env) = eval o X.env := by rfl)
    (hfew : ((backTo pos (starEach [e] X.env)).all (fun x => !x.1) && (backToKw pos (keywordEach [] X.env)).all (fun x => x.1.isSome)
      && decide ([e].length + ([] : List Keyword).length + (if ([] : List Keyword).isEmpty then 0 else 1) < 30)) = true := by rfl)
    (hline : (ap.endLine == pos.line) = true := by rfl) (hs : starEach [e] X.env = (false, eval e X.env) :: starEach [] X.env := by rfl) (hpl : (backTo pos (starEach [] X.env)).any (·.1) = false := by rfl) :
    WE X (.Call (.Attribute o "append" ap) [e] [] pos) Γ μ Q := fun Z σ H en ok tk => by
  refine toS (pe_bm PySem.F.plainAttrs_list PySem.F.slot_list_append PySem.F.type_list_append mt_append pe_S (pa_cons pe_S pa_nil hs) hbase hfew hline hs hpl) ?_
  refine h.use (Go.refl ok) en tk fun v H1 μ1 d g1 _ en1 i1 q1 => ?_
  obtain ⟨p, rfl, ⟨ds1, e1⟩, q1⟩ := q1
  obtain ⟨vs1, e2, _⟩ := g1.ok.at_ p _ e1
  rw [isRef i1]
  refine ⟨tyL e2, ?_⟩
  refine q1.use g1 en1 tk fun w H2 μ2 d2 g2 _ en2 i2 q2 => ?_
  obtain ⟨ds, hp, h1, q⟩ := q2
  obtain ⟨vs, e3, t⟩ := g2.ok.at_ p _ hp
  refine ⟨p, vs, w, rfl, rfl, e3, by rw [t.length]; exact h1, _, .non, g2.trans (Go.put g2.ok (.lst (ds ++ [d2])) (.lst (vs ++ [w])) (.inr ⟨_, hp⟩) fun m => ⟨_, upd_same, m (t.append (.cons i2 .nil))⟩), .non, q⟩
end

section
variable {X : Cz} {Γ Γ' : Gm} {μ : Mu} {c e iter tg : Expr} {st : Stmt} {sts body els : List Stmt} {pos p0 : Pos} {k : Kt}
theorem wb_nil (h : k.nx Γ μ) : WB X [] Γ μ k := fun Z σ H en ok tk => toSB pss_nil ⟨Γ, μ, Go.refl ok, en, h⟩
theorem WS.use {Z : Addr → Prop} {μ0 : Mu} {H0 H : Hp} {σ : L2.St} (h : WS X st Γ μ k) (g : Go X.K Z μ0 H0 μ H) (en : En X.K (Av μ Z) H σ Γ) (tk : Tk X Z μ0 H0) : SS X st (toD X.K Z μ0 H0 k) σ H := (h Z σ H en g.ok (tk.up g)).mono (toD.up g)
theorem WB.use {Z : Addr → Prop} {μ0 : Mu} {H0 H : Hp} {σ : L2.St} (h : WB X sts Γ μ k) (g : Go X.K Z μ0 H0 μ H) (en : En X.K (Av μ Z) H σ Γ) (tk : Tk X Z μ0 H0) : SB X sts (toD X.K Z μ0 H0 k) σ H := (h Z σ H en g.ok (tk.up g)).mono (toD.up g)
theorem wb_cons (h : WS X st Γ μ { k with nx := fun Γ' μ' => WB X sts Γ' μ' k }) : WB X (st :: sts) Γ μ k := fun Z σ H en ok tk => by
  refine toSB (pss_cons ps_S pss_S) ?_
  show SS X st { toD X.K Z μ H k with nx := SB X sts (toD X.K Z μ H k) } σ H
  refine SS.mono ?_ (h Z σ H en ok tk)
  exact ⟨fun σ' H' ⟨Γ', μ', g, en', q⟩ => q.use g en' tk, fun _ _ z => z, fun _ _ z => z, fun _ _ z => z⟩
/-- a def's body from its n-th statement on, the body a name -/
theorem wb_at {n : Nat} (e : sts[n]? = some st) (h : WS X st Γ μ { k with nx := fun Γ' μ' => WB X (sts.drop (n + 1)) Γ' μ' k }) : WB X (sts.drop n) Γ μ k := by
  have hn : n < sts.length := (List.getElem?_eq_some_iff.mp e).1
  rw [List.drop_eq_getElem_cons hn]
  rw [List.getElem?_eq_getElem hn] at e
  rw [Option.some.inj e]
  exact wb_cons h
theorem wb_end {n : Nat} (e : sts[n]? = none) (h : k.nx Γ μ) : WB X (sts.drop n) Γ μ k := by
  rw [List.drop_eq_nil_iff.mpr (List.getElem?_eq_none_iff.mp e)]
  exact wb_nil h
theorem wb_go (h : WB X (sts.drop 0) Γ μ k) : WB X sts Γ μ k := h
theorem ws_pass (h : k.nx Γ μ) : WS X (.Pass pos) Γ μ k := fun Z σ H en ok tk => toSS ps_pass ⟨Γ, μ, Go.refl ok, en, h⟩
theorem ws_break (h : k.bk Γ μ) : WS X (.Break pos) Γ μ k := fun Z σ H en ok tk => toSS ps_break ⟨Γ, μ, Go.refl ok, en, h⟩
theorem ws_cont (h : k.ct Γ μ) : WS X (.Continue pos) Γ μ k := fun Z σ H en ok tk => toSS ps_continue ⟨Γ, μ, Go.refl ok, en, h⟩
theorem ws_doc {x j p1} (h : k.nx Γ μ) : WS X (.Expr (.Constant (.str x) j p1) pos) Γ μ k := fun Z σ H en ok tk => toSS ps_doc ⟨Γ, μ, Go.refl ok, en, h⟩
theorem ws_expr (h : WE X e Γ μ fun μ1 _ => k.nx Γ μ1) (hs : swapsWith e none pos.line X.env = pure false := by rfl) : WS X (.Expr e pos) Γ μ k := fun Z σ H en ok tk => by
  refine toSS (ps_expr pe_S hs) ?_
  exact h.use (Go.refl ok) en tk fun v H1 μ1 d g1 _ en1 i1 q1 => ⟨Γ, μ1, g1, en1, q1⟩
theorem ws_ret (h : WE X e Γ μ k.rt) : WS X (.Return (some e) pos) Γ μ k := fun Z σ H en ok tk => by
  refine toSS (ps_ret pe_S) ?_
  exact h.use (Go.refl ok) en tk fun v H1 μ1 d g1 _ en1 i1 q1 => ⟨μ1, d, g1, i1, q1⟩
theorem ws_retN (h : k.rt μ .non) : WS X (.Return none pos) Γ μ k := fun Z σ H en ok tk => toSS ps_retN ⟨μ, .non, Go.refl ok, .non, h⟩
theorem ws_if (h : WT X c Γ μ fun μ1 b => if b = true then WB X body Γ μ1 k else WB X els Γ μ1 k) : WS X (.If c body els pos) Γ μ k := fun Z σ H en ok tk => by
  refine toSS (ps_if pt_S pss_S pss_S) ?_
  refine h.use (Go.refl ok) en tk fun b H1 μ1 g1 _ en1 q1 => ?_
  cases b with
  | true => exact q1.use g1 en1 tk
  | false => exact q1.use g1 en1 tk
/-- J holds behind the statement, and all that follows from it -/
theorem ws_join (J : Gm → Mu → Prop) (h : WS X st Γ μ { k with nx := J }) (n : ∀ Γ' μ', J Γ' μ' → k.nx Γ' μ') : WS X st Γ μ k := fun Z σ H en ok tk => by
  refine SS.mono ?_ (h Z σ H en ok tk)
  exact ⟨fun _ _ ⟨a, b, c, d, e⟩ => ⟨a, b, c, d, n _ _ e⟩, fun _ _ z => z, fun _ _ z => z, fun _ _ z => z⟩
theorem wipe_set {σ : L2.St} {i : Nat} {x : Option V} : ∀ {ws : List Nat}, i ∈ ws → wipe (σ.set i x) ws = wipe σ ws
  | w :: ws, h => by
    unfold wipe
    by_cases hi : i ∈ ws
    · rw [wipe_set hi]
    · have e : i = w := by
        rcases List.mem_cons.mp h with e | e
        · exact e
        · exact absurd e hi
      subst e
      -- the slot is wiped last
      have key : ∀ (vs : List Nat) (τ : L2.St), i ∉ vs → (wipe (τ.set i x) vs).set i none = (wipe τ vs).set i none := by
        intro vs
        induction vs with
        | nil => intro τ _; exact List.set_set _
        | cons v vs ih =>
          intro τ hn
          have hv : v ≠ i := fun e => hn (by rw [e]; exact List.mem_cons_self)
          unfold wipe
          rw [List.set_comm _ _ hv, ih τ fun z => hn (List.mem_cons_of_mem _ z), List.set_comm _ _ hv]
      exact key ws σ hi
theorem wg_name {x : Str} {i : Nat} {d : D} {N : Gm → Mu → Prop} (n : Nw X x i) (s : SetTo Γ i d Γ') (h : N Γ' μ) : WG X (.Name x pos) [i] d Γ μ N := fun Z σ H v en ok tk is => by
  refine toG (pg_name n.nd n.ix n.loc n.fn) ?_
  refine ⟨⟨Γ', μ, Go.refl ok, by rw [s.eq]; exact en.set i is, h⟩, fun ws hw => wipe_set (hw i (by simp))⟩
/-- several targets -/
def WGs (X : Cz) (tgs : List Expr) (vs : List Nat) (ds : List D) (Γ : Gm) (μ : Mu) (N : Gm → Mu → Prop) : Prop := ∀ Z σ H ws, En X.K (Av μ Z) H σ Γ → Ok X.K μ Z H → Tk X Z μ H → IsA X.K (Av μ Z) H ws ds →
  ∃ t, PGs X tgs t ∧ t ws σ H (fun σ' H' => PostN X.K Z μ H N σ' H' ∧ ∀ us, (∀ i ∈ vs, i ∈ us) → wipe σ' us = wipe σ us)
/-- the exact reading of several targets -/
def SGs (X : Cz) (tgs : List Expr) (vs : List V) (σ : L2.St) (H : Hp) (Q : L2.St → Hp → Prop) : Prop := ∀ pins s us, Inv X pins σ H s → Vals vs us →
  wpAny (model X.prog X.w) X.A (assignInOrder ((assignEach tgs X.env).map (·.2)) us) (fun _ s' => ∃ σ' H', Inv X pins σ' H' s' ∧ Q σ' H') X.xe s
theorem pgs_S {tgs : List Expr} : PGs X tgs (SGs X tgs) := ⟨fun _ _ _ _ _ _ _ I r h => h _ _ _ I r⟩
theorem toGs {tgs : List Expr} {t : TGs} {vs : List V} {σ : L2.St} {H : Hp} {Q : L2.St → Hp → Prop} (p : PGs X tgs t) (h : t vs σ H Q) : SGs X tgs vs σ H Q := fun _ _ _ I r => p.run _ _ _ _ _ _ _ I r h
theorem SGs.mono {tgs : List Expr} {vs : List V} {σ : L2.St} {H : Hp} {Q Q' : L2.St → Hp → Prop} (h : SGs X tgs vs σ H Q) (f : ∀ σ' H', Q σ' H' → Q' σ' H') : SGs X tgs vs σ H Q' := fun pins s u I r => thn (h pins s u I r) fun _ _ ⟨σ', H', I', q⟩ => ⟨σ', H', I', f _ _ q⟩
def WGl (X : Cz) (tgs : List Expr) (vs : List Nat) (ds : List D) (Γ : Gm) (μ : Mu) (N : Gm → Mu → Prop) : Prop := ∀ Z σ H ws, En X.K (Av μ Z) H σ Γ → Ok X.K μ Z H → Tk X Z μ H → IsA X.K (Av μ Z) H ws ds →
  SGs X tgs ws σ H (fun σ' H' => PostN X.K Z μ H N σ' H' ∧ ∀ us, (∀ i ∈ vs, i ∈ us) → wipe σ' us = wipe σ us)
theorem wgl_nil {N : Gm → Mu → Prop} (h : N Γ μ) : WGl X [] [] [] Γ μ N := fun Z σ H ws en ok tk is => by
  cases is
  exact toGs pgs_nil ⟨rfl, ⟨Γ, μ, Go.refl ok, en, h⟩, fun _ _ => rfl⟩
theorem wgl_cons {tgs : List Expr} {v w : List Nat} {d : D} {ds : List D} {N : Gm → Mu → Prop} (h : WG X tg v d Γ μ fun Γ1 μ1 => WGl X tgs w ds Γ1 μ1 N)
    (hs : (assignEach (tg :: tgs) X.env).map (·.2) = assign tg X.env :: (assignEach tgs X.env).map (·.2) := by rfl) : WGl X (tg :: tgs) (v ++ w) (d :: ds) Γ μ N := fun Z σ H ws en ok tk is => by
  cases is with
  | cons i1 t1 =>
    refine toGs (pgs_cons pg_S pgs_S hs) ⟨_, _, rfl, ?_⟩
    refine (h Z σ H _ en ok tk i1).mono fun σ1 H1 ⟨⟨Γ1, μ1, g1, en1, q1⟩, w1⟩ => ?_
    refine (q1 Z σ1 H1 _ en1 g1.ok (tk.up g1) (t1.mono g1.fz)).mono fun σ2 H2 ⟨p2, w2⟩ => ⟨p2.up g1, fun us hu => ?_⟩
    rw [w2 us fun i hi => hu i (List.mem_append_right _ hi), w1 us fun i hi => hu i (List.mem_append_left _ hi)]
/-- (a, b, ..) of a tuple -/
theorem wg_tup {tgs : List Expr} {x1} {vs : List Nat} {ds : List D} {N : Gm → Mu → Prop} (hc : X.calm = true) (h : WGl X tgs vs ds Γ μ N) (hl : ds.length = (assignEach tgs X.env).length := by rfl)
    (hst : (assignEach tgs X.env).findIdx? (·.1) = none := by rfl) : WG X (.Tuple tgs x1 pos) vs (.tup ds) Γ μ N := fun Z σ H v en ok tk is => by
  cases is with
  | tup r t => exact toG (pg_tup (n := (assignEach tgs X.env).length) hc pgs_S rfl hst) ⟨_, _, rfl, r.sq, t.length.trans hl, h Z σ H _ en ok tk t⟩
/-- xs[i] = d -/
theorem wg_ix {o i : Expr} {d : D} {N : Gm → Mu → Prop} (h : WE X o Γ μ fun μ1 x => WE X i Γ μ1 fun μ2 y => One y fun n => LstAt μ2 x fun p => LstQ μ2 p fun ds => AtQ ds n fun j => N Γ (updM μ2 p (.lst (ds.set j d))))
    (ha : ∀ v, assign (.Subscript o i pos) X.env v = (do
      let ov ← holding [v] (eval o X.env)
      let iv ← holding [v, ov] (eval i X.env)
      standAt pos
      holding [v, ov, iv] (setItem ov iv v)
      release [v, ov, iv] []) := by intro _; rfl) : WG X (.Subscript o i pos) [] d Γ μ N := fun Z σ H v en ok tk is => by
  refine toG (pg_sub pe_S pe_S set_list ha) ?_
  refine h.use (Go.refl ok) en tk fun ov H1 μ1 d1 g1 _ en1 i1 q1 => ?_
  refine q1.use g1 en1 tk fun iv H2 μ2 d2 g2 _ en2 i2 q2 => ?_
  obtain ⟨n, rfl, p, rfl, _, ds, hp, j, hj, q⟩ := q2
  obtain ⟨vs, e3, t⟩ := g2.ok.at_ p _ hp
  rw [isRef i1, isInt i2]
  have g3 := Go.put g2.ok (.lst (ds.set j d)) (.lst (vs.set j v)) (.inr ⟨_, hp⟩) fun m => ⟨_, upd_same, m (IsA.set (is.mono g2.fz) j t)⟩
  exact ⟨p, vs, n, j, rfl, rfl, e3, by rw [t.length]; exact hj, ⟨Γ, _, g2.trans g3, en2.mono g3.fz, q⟩, fun _ _ => rfl⟩
/-- a target, whatever slots it stores -/
def WGx (X : Cz) (tg : Expr) (d : D) (Γ : Gm) (μ : Mu) (N : Gm → Mu → Prop) : Prop := ∀ Z σ H v, En X.K (Av μ Z) H σ Γ → Ok X.K μ Z H → Tk X Z μ H → Is X.K (Av μ Z) H v d → SG X tg v σ H (PostN X.K Z μ H N)
def WGlx (X : Cz) (tgs : List Expr) (ds : List D) (Γ : Gm) (μ : Mu) (N : Gm → Mu → Prop) : Prop := ∀ Z σ H ws, En X.K (Av μ Z) H σ Γ → Ok X.K μ Z H → Tk X Z μ H → IsA X.K (Av μ Z) H ws ds → SGs X tgs ws σ H (PostN X.K Z μ H N)
theorem WG.x {vs : List Nat} {d : D} {N : Gm → Mu → Prop} (h : WG X tg vs d Γ μ N) : WGx X tg d Γ μ N := fun Z σ H v en ok tk is => (h Z σ H v en ok tk is).mono fun _ _ p => p.1
theorem wx_name {x : Str} {i : Nat} {d : D} {N : Gm → Mu → Prop} (n : Nw X x i) (s : SetTo Γ i d Γ') (h : N Γ' μ) : WGx X (.Name x pos) d Γ μ N := (wg_name n s h).x
theorem wx_ix {o i : Expr} {d : D} {N : Gm → Mu → Prop} (h : WE X o Γ μ fun μ1 x => WE X i Γ μ1 fun μ2 y => One y fun n => LstAt μ2 x fun p => LstQ μ2 p fun ds => AtQ ds n fun j => N Γ (updM μ2 p (.lst (ds.set j d))))
    (ha : ∀ v, assign (.Subscript o i pos) X.env v = (do
      let ov ← holding [v] (eval o X.env)
      let iv ← holding [v, ov] (eval i X.env)
      standAt pos
      holding [v, ov, iv] (setItem ov iv v)
      release [v, ov, iv] []) := by intro _; rfl) : WGx X (.Subscript o i pos) d Γ μ N := (wg_ix h ha).x
theorem wxl_nil {N : Gm → Mu → Prop} (h : N Γ μ) : WGlx X [] [] Γ μ N := fun Z σ H ws en ok tk is => (wgl_nil (N := N) h Z σ H ws en ok tk is).mono fun _ _ p => p.1
theorem wxl_cons {tgs : List Expr} {d : D} {ds : List D} {N : Gm → Mu → Prop} (h : WGx X tg d Γ μ fun Γ1 μ1 => WGlx X tgs ds Γ1 μ1 N)
    (hs : (assignEach (tg :: tgs) X.env).map (·.2) = assign tg X.env :: (assignEach tgs X.env).map (·.2) := by rfl) : WGlx X (tg :: tgs) (d :: ds) Γ μ N := fun Z σ H ws en ok tk is => by
  cases is with
  | cons i1 t1 =>
    refine toGs (pgs_cons pg_S pgs_S hs) ⟨_, _, rfl, ?_⟩
    refine (h Z σ H _ en ok tk i1).mono fun σ1 H1 ⟨Γ1, μ1, g1, en1, q1⟩ => ?_
    exact (q1 Z σ1 H1 _ en1 g1.ok (tk.up g1) (t1.mono g1.fz)).mono fun σ2 H2 p2 => p2.up g1
theorem wx_tup {tgs : List Expr} {x1} {ds : List D} {N : Gm → Mu → Prop} (hc : X.calm = true) (h : WGlx X tgs ds Γ μ N) (hl : ds.length = (assignEach tgs X.env).length := by rfl)
    (hst : (assignEach tgs X.env).findIdx? (·.1) = none := by rfl) : WGx X (.Tuple tgs x1 pos) (.tup ds) Γ μ N := fun Z σ H v en ok tk is => by
  cases is with
  | tup r t => exact toG (pg_tup (n := (assignEach tgs X.env).length) hc pgs_S rfl hst) ⟨_, _, rfl, r.sq, t.length.trans hl, h Z σ H _ en ok tk t⟩
theorem ws_set {x : Str} {i : Nat} (n : Nw X x i) (h : WE X e Γ μ fun μ1 d => SetQ Γ i d fun Γ' => k.nx Γ' μ1) (hs : swapsWith e (some (.Name x p0)) pos.line X.env = pure false := by rfl) : WS X (.Assign [.Name x p0] e pos) Γ μ k := fun Z σ H en ok tk => by
  refine toSS (ps_set n.nd n.ix n.loc pe_S hs n.fn) ?_
  refine h.use (Go.refl ok) en tk fun v H1 μ1 d g1 _ en1 i1 q1 => ?_
  obtain ⟨Γ', s, q⟩ := q1
  exact ⟨Γ', μ1, g1, by rw [s.eq]; exact en1.set i i1, q⟩
theorem ws_asg (h : WE X e Γ μ fun μ1 d => WGx X tg d Γ μ1 k.nx) (hs : swapsWithSole [tg] e pos.line X.env = pure false := by rfl) (hw : swappedStores [tg] e X.env = pure none := by rfl)
    (h1 : (assignEach [tg] X.env).map (·.2) = [assign tg X.env] := by rfl) : WS X (.Assign [tg] e pos) Γ μ k := fun Z σ H en ok tk => by
  refine toSS (ps_asg pe_S pg_S hs hw h1) ?_
  refine h.use (Go.refl ok) en tk fun v H1 μ1 d g1 _ en1 i1 q1 => ?_
  exact (q1 Z σ H1 v en1 g1.ok (tk.up g1) i1).mono fun σ' H' p => p.up g1
/-- a, b = x, y -/
theorem ws_par {x y : Str} {i j : Nat} {a b : Expr} {px py pt : Pos} {kt k2 pt2} (hc : X.calm = true) (n1 : Nw X x i) (n2 : Nw X y j) (l1 : X.env.scope.names.lookup x = some .local) (l2 : X.env.scope.names.lookup y = some .local) (hij : i ≠ j)
    (h : WA X [a, b] Γ μ fun μ1 ds => ∃ d1 d2 Γ1 Γ2, ds = [d1, d2] ∧ SetTo Γ i d1 Γ1 ∧ SetTo Γ1 j d2 Γ2 ∧ k.nx Γ2 μ1)
    (hw : swappedStores [.Tuple [.Name x px, .Name y py] kt pt] (.Tuple [a, b] k2 pt2) X.env = pure (some [x, y]))
    (hs : swapsWithSole [.Tuple [.Name x px, .Name y py] kt pt] (.Tuple [a, b] k2 pt2) pos.line X.env = pure false := by rfl) :
    WS X (.Assign [.Tuple [.Name x px, .Name y py] kt pt] (.Tuple [a, b] k2 pt2) pos) Γ μ k := fun Z σ H en ok tk => by
  refine toSS (ps_par hc n1.nd n1.ix n2.ix hij l1 l2 pa_S hw hs) ?_
  refine h.use (Go.refl ok) en tk fun vs H1 μ1 ds g1 _ en1 i1 q1 => ?_
  obtain ⟨d1, d2, Γ1, Γ2, rfl, s1, s2, q⟩ := q1
  cases i1 with
  | cons r1 t1 =>
    cases t1 with
    | cons r2 t2 =>
      cases t2
      exact ⟨_, _, rfl, Γ2, μ1, g1, by rw [s2.eq, s1.eq]; exact (en1.set i r1).set j r2, q⟩
/-- x += e (ints) -/
theorem ws_augI {x : Str} {i : Nat} {op : Operator} {C : Int → Int → Prop} {g : Int → Int → Int} (n : Nw X x i) (ho : OpR X (inplaceOp op) (rI C fun i j => .int (g i j)))
    (h : ∃ m, Γ[i]? = some (some (.int m)) ∧ WE X e Γ μ fun μ1 y => ∃ j Γ', y = .int j ∧ C m j ∧ SetTo Γ i (.int (g m j)) Γ' ∧ k.nx Γ' μ1) : WS X (.AugAssign (.Name x p0) op e pos) Γ μ k := fun Z σ H en ok tk => by
  refine toSS (ps_aug (ti := rI C fun i j => .int (g i j)) n.nd n.ix n.loc pe_S (fun pins s σ H x y v u Q I r1 r2 q => ho pins s σ H x y v u Q I r1 r2 q) n.fn) ?_
  obtain ⟨m, e1, h⟩ := h
  obtain ⟨v, h1, h2⟩ := en.at_ i _ e1
  rw [isInt h2] at h1
  refine ⟨.int m, h1, ?_⟩
  refine h.use (Go.refl ok) en tk fun w H1 μ1 d g1 _ en1 i1 q1 => ?_
  obtain ⟨j, Γ', rfl, hc, s, q⟩ := q1
  rw [isInt i1]
  exact ⟨m, j, rfl, rfl, hc, Γ', μ1, g1, by rw [s.eq]; exact en1.set i (.int _), q⟩
theorem iop_addX : OpR X (inplaceOp .Add) (rI (fun _ _ => True) fun i j => .int (i + j)) := opI fun _ _ _ _ _ _ _ _ q => iadd_int q
theorem iop_mulX : OpR X (inplaceOp .Mult) (rI MulOk fun i j => .int (i * j)) := opI fun _ _ _ _ _ _ _ hc q => imul_int q hc.ok
theorem iop_divX : OpR X (inplaceOp .FloorDiv) (rI CDivW fun i j => .int (i / j)) := opI fun i j _ _ _ _ _ hc q => by
  have h1 : (0 : Int) < j := hc.1
  exact ifloordiv_int (by omega) (by rw [Int.fdiv_eq_ediv_of_nonneg i (by omega)]; exact q) (.inl (PyProof.noPylong_of_log2 hc.2))
theorem ws_while (hp : PassesOwn (model X.prog X.w) X.A X.env X.xe) (I : Nat → Gm → Mu → Prop) (h0 : ∃ m, I m Γ μ)
    (hs : ∀ m Γ' μ', I m Γ' μ' → WT X c Γ' μ' fun μ1 b => if b = true then WB X body Γ' μ1 ⟨fun Γ2 μ2 => ∃ m', m' < m ∧ I m' Γ2 μ2, k.rt, k.nx, fun Γ2 μ2 => ∃ m', m' < m ∧ I m' Γ2 μ2⟩ else k.nx Γ' μ1) : WS X (.While c body [] pos) Γ μ k := fun Z σ H en ok tk => by
  refine toSS (ps_while hp pt_S pss_S) ?_
  obtain ⟨m0, h0⟩ := h0
  refine ⟨fun m σ' H' => ∃ Γ' μ', Go X.K Z μ H μ' H' ∧ En X.K (Av μ' Z) H' σ' Γ' ∧ I m Γ' μ', ⟨m0, Γ, μ, Go.refl ok, en, h0⟩, fun m σ1 H1 ⟨Γ1, μ1, g1, en1, i1⟩ => ?_⟩
  refine (hs m Γ1 μ1 i1).use g1 en1 tk fun b H2 μ2 g2 _ en2 q2 => ?_
  cases b with
  | true =>
    have q3 : WB X body Γ1 μ2 ⟨fun Γ2 μ2 => ∃ m', m' < m ∧ I m' Γ2 μ2, k.rt, k.nx, fun Γ2 μ2 => ∃ m', m' < m ∧ I m' Γ2 μ2⟩ := q2
    exact ⟨PostN X.K Z μ H fun Γ2 μ2 => ∃ m', m' < m ∧ I m' Γ2 μ2, fun σ' H' ⟨Γ2, μ2, g, en', m', l, i⟩ => ⟨m', l, Γ2, μ2, g, en', i⟩, q3.use g2 en2 tk⟩
  | false => exact ⟨Γ1, μ2, g2, en2, q2⟩
theorem ws_for (hp : PassesOwn (model X.prog X.w) X.A X.env X.xe) (hc : X.calm = true)
    (h : WI X tg iter Γ μ fun μ1 ds G => ∃ I : Nat → Gm → Mu → Prop, I 0 Γ μ1 ∧ (∀ i Γ' μ', i ≤ ds.length → I i Γ' μ' → G μ') ∧
      (∀ i d Γ' μ', ds[i]? = some d → I i Γ' μ' → WGx X tg d Γ' μ' fun Γ2 μ2 => WB X body Γ2 μ2 ⟨I (i + 1), k.rt, k.nx, I (i + 1)⟩) ∧ (∀ Γ' μ', I ds.length Γ' μ' → k.nx Γ' μ'))
    (hs : ∀ x, foldedSetIterable iter X.env x = pure x := by intro _; rfl) : WS X (.For tg iter body [] pos) Γ μ k := fun Z σ H en ok tk => by
  refine toSS (ps_for hp hc pi_S pg_S pss_S hs) ?_
  intro pins s J
  refine thn (h Z σ H en ok tk pins s J) fun v s1 q => thn q fun itv s2 q2 => ?_
  obtain ⟨it, fp, tn, J, H1, e1, I1, T, st, fo, μ1, ds, G, g1, Y, I, h0, hG, hb, hd⟩ := q2
  refine ⟨it, fp, tn, J, H1, e1, I1, T, st, fo, ?_⟩
  refine ⟨fun i m σ' H' => m = ds.length - i ∧ i ≤ ds.length ∧ ∃ Γ' μ', Go X.K Z μ1 H1 μ' H' ∧ En X.K (Av μ' Z) H' σ' Γ' ∧ I i Γ' μ', ⟨ds.length, rfl, Nat.zero_le _, Γ, μ1, Go.refl g1.ok, en.mono g1.fz, h0⟩, ?_⟩
  rintro i m σ' H' ⟨rfl, hi, Γ', μ', g, en', ii⟩
  obtain ⟨y1, y2⟩ := Y Z i μ' H' g.ok g.fz (hG i Γ' μ' hi ii)
  by_cases hlt : i < ds.length
  · refine .inr ⟨(y1 hlt).1, PostN X.K Z μ1 H1 (I (i + 1)), fun σ2 H2 ⟨Γ2, μ2, g2, en2, i2⟩ => ⟨ds.length - (i + 1), by omega, rfl, hlt, Γ2, μ2, g2, en2, i2⟩, fun x H2 hy => ?_⟩
    obtain ⟨d, hd1, g2, is⟩ := (y1 hlt).2 x H2 hy
    refine ((hb i d Γ' μ' hd1 ii) Z σ' H2 x (en'.mono g2.fz) g2.ok (tk.up ((g1.trans g).trans g2)) is).mono fun σ3 H3 ⟨Γ3, μ3, g3, en3, q3⟩ => ?_
    have g13 := (g.trans g2).trans g3
    refine SB.mono ?_ (q3 Z σ3 H3 en3 g3.ok (tk.up (g1.trans g13)))
    exact ⟨fun σ4 H4 p => PostN.up g13 p, fun v H4 p => PostE.up (g1.trans g13) p, fun σ4 H4 p => PostN.up (g1.trans g13) p, fun σ4 H4 p => PostN.up g13 p⟩
  · have e : i = ds.length := by omega
    subst e
    exact .inl ⟨y2 (Nat.le_refl _), Γ', μ', g1.trans g, en', hd Γ' μ' ii⟩
end
end DL

set_option Elab.async false
set_option linter.all false
set_option maxRecDepth 100000
set_option maxHeartbeats 2000000
namespace DL
open PySem PySem.Spec PyProof.Rows L2

section
variable {X : Cz} {Γ Γ' : Gm} {μ : Mu} {a b c e o iter tg : Expr} {es : List Expr} {pos p0 : Pos} {R : Mu → List D → (Mu → Prop) → Prop}
/-- a list to be walked -/
def SeqL (μ : Mu) (x : D) (ds : List D) : Prop := x = .lst ds ∨ x = .scr ds ∨ ∃ p, x = .ref p ∧ μ p = some (.lst ds)
theorem SeqL.l {ds : List D} : SeqL μ (.lst ds) ds := .inl rfl
theorem SeqL.m {ds : List D} {p : Addr} (h : μ p = some (.lst ds)) : SeqL μ (.ref p) ds := .inr (.inr ⟨p, rfl, h⟩)
theorem SeqL.r {ds : List D} : SeqL μ (.scr ds) ds := .inr (.inl rfl)
def SeqLQ (μ : Mu) (x : D) (R : List D → Prop) : Prop := ∃ ds, SeqL μ x ds ∧ R ds
theorem seql_l {ds : List D} {R : List D → Prop} (h : R ds) : SeqLQ μ (.lst ds) R := ⟨ds, .l, h⟩
theorem seql_s {ds : List D} {R : List D → Prop} (h : R ds) : SeqLQ μ (.scr ds) R := ⟨ds, .r, h⟩
theorem seql_m {p : Addr} {ds : List D} {R : List D → Prop} (e : μ p = some (.lst ds)) (h : R ds) : SeqLQ μ (.ref p) R := ⟨ds, .m e, h⟩
/-- it stands still -/
def Still (x : D) (ds : List D) (μ : Mu) : Prop := ∀ p, x = .ref p → μ p = some (.lst ds)
section
variable {K : PySem.W.Frag} {Z Z' : Addr → Prop} {μ' : Mu} {H H' : Hp} {v : V} {x : D} {ds : List D}
/-- such a list, as it stands now and later -/
theorem SeqL.at (s : SeqL μ x ds) (ok : Ok K μ Z H) (h : Is K (Av μ Z) H v x) : ∃ p, v = .ref p ∧ ∀ Z' μ' H', Ok K μ' Z' H' → Fz (Av μ Z) H (Av μ' Z') H' → Still x ds μ' → ∃ vs, SqL K H' p vs ∧ IsA K (Av μ' Z') H' vs ds := by
  rcases s with rfl | rfl | ⟨p, rfl, e⟩
  · cases h with
    | lst h t => exact ⟨_, rfl, fun Z' μ' H' _ f _ => ⟨_, (h.mono f).sq, t.mono f⟩⟩
  · cases h with
    | scr h t => exact ⟨_, rfl, fun Z' μ' H' _ f _ => ⟨_, (h.mono f).sq, t.mono f⟩⟩
  · cases isRef h
    refine ⟨p, rfl, fun Z' μ' H' ok' f st => ?_⟩
    obtain ⟨vs, e1, t⟩ := ok'.at_ p _ (st p rfl)
    exact ⟨vs, .of e1, t⟩
theorem SeqL.still (s : SeqL μ x ds) : Still x ds μ := by
  rcases s with rfl | rfl | ⟨p, rfl, e⟩
  · intro p z; cases z
  · intro p z; cases z
  · intro q z; cases z; exact e
end
theorem Fz.self {A : Addr → Prop} {H : Hp} : Fz A H A H := Fz.refl
theorem wi_list (h : WE X iter Γ μ fun μ1 x => SeqLQ μ1 x fun ds => R μ1 ds (Still x ds)) : WI X tg iter Γ μ R := fun Z σ H en ok tk => by
  refine toI (pi_list pe_S) ?_
  refine h.use (Go.refl ok) en tk fun v H1 μ1 x g1 _ en1 i1 q1 => ?_
  obtain ⟨ds, sq, q⟩ := q1
  obtain ⟨p, rfl, at_⟩ := sq.at g1.ok i1
  obtain ⟨vs, s1, t1⟩ := at_ Z μ1 H1 g1.ok Fz.refl sq.still
  refine ⟨p, rfl, ⟨vs, s1⟩, μ1, ds, _, g1, ?_, q⟩
  intro Z' i μ' H' ok' f st
  obtain ⟨vs', s', t'⟩ := at_ Z' μ' H' ok' f st
  refine ⟨fun hi => ?_, fun hi => ⟨vs', s', by rw [t'.length]; exact hi⟩⟩
  have hv : i < vs'.length := by rw [t'.length]; exact hi
  refine ⟨⟨vs', vs'[i], s', List.getElem?_eq_getElem hv⟩, fun w H2 ⟨e, y⟩ => ?_⟩
  subst e
  obtain ⟨d, h1, h2⟩ := t'.getV (y vs' s')
  exact ⟨d, h1, Go.refl ok', h2⟩
theorem wi_tup (h : WE X iter Γ μ fun μ1 x => ∃ ds, x = .tup ds ∧ R μ1 ds fun _ => True) : WI X tg iter Γ μ R := fun Z σ H en ok tk => by
  refine toI (pi_tup pe_S) ?_
  refine h.use (Go.refl ok) en tk fun v H1 μ1 x g1 _ en1 i1 q1 => ?_
  obtain ⟨ds, rfl, q⟩ := q1
  cases i1 with
  | tup r t =>
    rename_i p vs
    refine ⟨p, rfl, ⟨vs, r.sq⟩, μ1, ds, _, g1, ?_, q⟩
    intro Z' i μ' H' ok' f _
    have s' := (r.mono f).sq
    have t' := t.mono f
    refine ⟨fun hi => ?_, fun hi => ⟨vs, s', by rw [t'.length]; exact hi⟩⟩
    have hv : i < vs.length := by rw [t'.length]; exact hi
    refine ⟨⟨vs, vs[i], s', List.getElem?_eq_getElem hv⟩, fun w H2 ⟨e, y⟩ => ?_⟩
    subst e
    obtain ⟨d, h1, h2⟩ := t'.getV (y vs s')
    exact ⟨d, h1, Go.refl ok', h2⟩
def rangeD (lo : Int) (n : Nat) : List D := (List.range n).map fun (i : Nat) => D.int (lo + i)
theorem rangeD_len {lo : Int} {n : Nat} : (rangeD lo n).length = n := by simp [rangeD]
theorem rangeD_get {lo : Int} {n i : Nat} {d : D} (h : (rangeD lo n)[i]? = some d) : i < n ∧ d = .int (lo + i) := by
  have hi : i < (rangeD lo n).length := (List.getElem?_eq_some_iff.mp h).1
  rw [rangeD_len] at hi
  refine ⟨hi, ?_⟩
  simp only [rangeD, List.getElem?_map, List.getElem?_range hi, Option.map_some, Option.some.injEq] at h
  exact h.symm
theorem rangeD_yields {K : PySem.W.Frag} {Z : Addr → Prop} {H : Hp} {lo : Int} {n : Nat} : Yields K Z μ H (Itr lo n) (rangeD lo n) fun _ => True := by
  intro Z' i μ' H' ok' f _
  rw [rangeD_len]
  refine ⟨fun hi => ⟨hi, fun x H2 ⟨e, y⟩ => ?_⟩, fun hi => hi⟩
  subst e y
  refine ⟨.int (lo + i), ?_, Go.refl ok', .int _⟩
  simp [rangeD, List.getElem?_range hi]
theorem wi_range1 (B : Bl X "range") (h : WE X a Γ μ fun μ1 x => One x fun j => Req (-(2 ^ 62) ≤ j ∧ j < 2 ^ 62) <| R μ1 (rangeD 0 j.toNat) fun _ => True)
    (hs : starEach [a] X.env = [(false, eval a X.env)] := by rfl) (hs' : starEach [a] X.env = (false, eval a X.env) :: starEach [] X.env := by rfl) : WI X tg (.Call (.Name "range" p0) [a] [] pos) Γ μ R := fun Z σ H en ok tk => by
  refine toI (pi_range1 B.gl B.mg (pa_cons pe_S pa_nil hs') hs) ?_
  refine h.use (Go.refl ok) en tk fun v H1 μ1 x g1 _ en1 i1 q1 => ?_
  obtain ⟨j, rfl, ⟨h1, h2⟩, q⟩ := q1
  rw [isInt i1]
  exact ⟨j, rfl, h1, h2, μ1, _, _, g1, rangeD_yields, q⟩
theorem wi_range2 (B : Bl X "range") (h : WE X a Γ μ fun μ1 x => WE X b Γ μ1 fun μ2 y => Two x y fun i j => Req (-(2 ^ 62) ≤ i ∧ i < 2 ^ 62 ∧ -(2 ^ 62) ≤ j ∧ j < 2 ^ 62) <| R μ2 (rangeD i (j - i).toNat) fun _ => True)
    (hs : starEach [a, b] X.env = [(false, eval a X.env), (false, eval b X.env)] := by rfl) (hs2 : starEach [b] X.env = [(false, eval b X.env)] := by rfl)
    (hs' : starEach [a, b] X.env = (false, eval a X.env) :: starEach [b] X.env := by rfl) (hs3 : starEach [b] X.env = (false, eval b X.env) :: starEach [] X.env := by rfl) : WI X tg (.Call (.Name "range" p0) [a, b] [] pos) Γ μ R := fun Z σ H en ok tk => by
  refine toI (pi_range2 B.gl B.mg (pa_cons pe_S (pa_cons pe_S pa_nil hs3) hs') hs hs2) ?_
  refine h.use (Go.refl ok) en tk fun v H1 μ1 x g1 _ en1 i1 q1 => ?_
  refine q1.use g1 en1 tk fun w H2 μ2 y g2 _ en2 i2 q2 => ?_
  obtain ⟨i, j, rfl, rfl, ⟨h1, h2, h3, h4⟩, q⟩ := q2
  rw [isInt i1, isInt i2]
  exact ⟨i, j, rfl, ⟨h1, h2, h3, h4⟩, μ2, _, _, g2, rangeD_yields, q⟩
def enumD : List D → Nat → List D
  | [], _ => []
  | d :: r, n => .tup [.int (n : Int), d] :: enumD r (n + 1)
theorem enumD_len : ∀ (ds : List D) (n : Nat), (enumD ds n).length = ds.length
  | [], _ => rfl
  | _ :: r, n => congrArg (· + 1) (enumD_len r (n + 1))
theorem enumD_get : ∀ (ds : List D) (n i : Nat) (d : D), ds[i]? = some d → (enumD ds n)[i]? = some (.tup [.int ((n + i : Nat) : Int), d])
  | [], _, _, _, h => by simp at h
  | x :: r, n, 0, d, h => by simp at h; subst h; rfl
  | x :: r, n, i + 1, d, h => by
    have := enumD_get r (n + 1) i d (by simpa using h)
    show (enumD r (n + 1))[i]? = _
    rw [this, show n + 1 + i = n + (i + 1) by omega]
theorem enumD_inv {ds : List D} {i : Nat} {d : D} (h : (enumD ds 0)[i]? = some d) : ∃ x, ds[i]? = some x ∧ d = .tup [.int (i : Int), x] := by
  have hi : i < (enumD ds 0).length := (List.getElem?_eq_some_iff.mp h).1
  rw [enumD_len] at hi
  refine ⟨ds[i], List.getElem?_eq_getElem hi, ?_⟩
  have := enumD_get ds 0 i ds[i] (List.getElem?_eq_getElem hi)
  rw [h] at this
  have e := Option.some.inj this
  rw [e, Nat.zero_add]
theorem wi_enum {elts : List Expr} {kk : Nat} {tpos : Pos} (B : Bl X "enumerate") (h : WE X e Γ μ fun μ1 x => SeqLQ μ1 x fun ds => R μ1 (enumD ds 0) (Still x ds))
    (hs : starEach [e] X.env = [(false, eval e X.env)] := by rfl) (hs' : starEach [e] X.env = (false, eval e X.env) :: starEach [] X.env := by rfl) : WI X (.Tuple elts kk tpos) (.Call (.Name "enumerate" p0) [e] [] pos) Γ μ R := fun Z σ H en ok tk => by
  refine toI (pi_enum B.gl B.mg (pa_cons pe_S pa_nil hs') hs) ?_
  refine h.use (Go.refl ok) en tk fun v H1 μ1 x g1 _ en1 i1 q1 => ?_
  obtain ⟨ds, sq, q⟩ := q1
  obtain ⟨p, rfl, at_⟩ := sq.at g1.ok i1
  obtain ⟨vs, s1, t1⟩ := at_ Z μ1 H1 g1.ok Fz.refl sq.still
  refine ⟨p, vs, rfl, s1, μ1, _, _, g1, ?_, q⟩
  intro Z' i μ' H' ok' f st
  obtain ⟨vs', s', t'⟩ := at_ Z' μ' H' ok' f st
  rw [enumD_len]
  refine ⟨fun hi => ?_, fun hi => ⟨vs', s', by rw [t'.length]; exact hi⟩⟩
  have hv : i < vs'.length := by rw [t'.length]; exact hi
  refine ⟨⟨vs', vs'[i], s', List.getElem?_eq_getElem hv⟩, fun w H2 ⟨T, x', e1, hT, e2, y⟩ => ?_⟩
  subst e1 e2
  obtain ⟨d, h1, h2⟩ := t'.getV (y vs' s')
  refine ⟨_, enumD_get ds 0 i d h1, Go.frz ok' hT _, ?_⟩
  rw [Nat.zero_add]
  exact Is.newT ok' hT (.cons (.int _) (.cons h2 .nil))
def zipD : List D → List D → List D
  | a :: r, b :: s => .tup [a, b] :: zipD r s
  | _, _ => []
theorem zipD_len : ∀ (xs ys : List D), (zipD xs ys).length = min xs.length ys.length
  | [], ys => by simp [zipD]
  | _ :: _, [] => by simp [zipD]
  | a :: r, b :: s => by simp [zipD, zipD_len r s, Nat.succ_min_succ]
theorem zipD_get : ∀ (xs ys : List D) (i : Nat) (x y : D), xs[i]? = some x → ys[i]? = some y → (zipD xs ys)[i]? = some (.tup [x, y])
  | [], _, _, _, _, h, _ => by simp at h
  | _ :: _, [], _, _, _, _, h => by simp at h
  | a :: r, b :: s, 0, x, y, h1, h2 => by simp at h1 h2; subst h1 h2; rfl
  | a :: r, b :: s, i + 1, x, y, h1, h2 => zipD_get r s i x y (by simpa using h1) (by simpa using h2)
theorem zipD_inv {xs ys : List D} {i : Nat} {d : D} (h : (zipD xs ys)[i]? = some d) : ∃ x y, xs[i]? = some x ∧ ys[i]? = some y ∧ d = .tup [x, y] := by
  have hi : i < (zipD xs ys).length := (List.getElem?_eq_some_iff.mp h).1
  rw [zipD_len] at hi
  have h1 : i < xs.length := by omega
  have h2 : i < ys.length := by omega
  refine ⟨xs[i], ys[i], List.getElem?_eq_getElem h1, List.getElem?_eq_getElem h2, ?_⟩
  have := zipD_get xs ys i _ _ (List.getElem?_eq_getElem h1) (List.getElem?_eq_getElem h2)
  rw [h] at this
  exact Option.some.inj this
theorem wi_zip {elts : List Expr} {kk : Nat} {tpos : Pos} (B : Bl X "zip") (h : WE X a Γ μ fun μ1 x => WE X b Γ μ1 fun μ2 y => ∃ ds es, SeqL μ2 x ds ∧ SeqL μ2 y es ∧ R μ2 (zipD ds es) fun μ' => Still x ds μ' ∧ Still y es μ')
    (hs : starEach [a, b] X.env = (false, eval a X.env) :: starEach [b] X.env := by rfl) (hpl : (backTo pos (starEach [b] X.env)).any (·.1) = false := by rfl) (hs3 : starEach [b] X.env = (false, eval b X.env) :: starEach [] X.env := by rfl) :
    WI X (.Tuple elts kk tpos) (.Call (.Name "zip" p0) [a, b] [] pos) Γ μ R := fun Z σ H en ok tk => by
  refine toI (pi_zip B.gl B.mg (pa_cons pe_S (pa_cons pe_S pa_nil hs3) hs) hs hpl) ?_
  refine h.use (Go.refl ok) en tk fun v H1 μ1 x g1 _ en1 i1 q1 => ?_
  refine q1.use g1 en1 tk fun w H2 μ2 y g2 g2' en2 i2 q2 => ?_
  obtain ⟨ds, es, sq1, sq2, q⟩ := q2
  obtain ⟨p, rfl, at1⟩ := sq1.at g2.ok (i1.mono g2'.fz)
  obtain ⟨r, rfl, at2⟩ := sq2.at g2.ok i2
  obtain ⟨vs, s1, t1⟩ := at1 Z μ2 H2 g2.ok Fz.refl sq1.still
  obtain ⟨ws, s2, t2⟩ := at2 Z μ2 H2 g2.ok Fz.refl sq2.still
  refine ⟨p, r, vs, ws, rfl, s1, s2, μ2, _, _, g2, ?_, q⟩
  intro Z' i μ' H' ok' f st
  obtain ⟨vs', s1', t1'⟩ := at1 Z' μ' H' ok' f st.1
  obtain ⟨ws', s2', t2'⟩ := at2 Z' μ' H' ok' f st.2
  rw [zipD_len]
  refine ⟨fun hi => ?_, fun hi => ⟨vs', ws', s1', s2', by rw [t1'.length, t2'.length]; omega⟩⟩
  have hv : i < vs'.length := by rw [t1'.length]; omega
  have hw : i < ws'.length := by rw [t2'.length]; omega
  refine ⟨⟨vs', ws', vs'[i], ws'[i], s1', s2', List.getElem?_eq_getElem hv, List.getElem?_eq_getElem hw⟩, fun u H3 ⟨T, x', y', e1, hT, e2, yx, yy⟩ => ?_⟩
  subst e1 e2
  obtain ⟨d, h1, h2⟩ := t1'.getV (yx vs' s1')
  obtain ⟨d', h1', h2'⟩ := t2'.getV (yy ws' s2')
  exact ⟨_, zipD_get ds es i d d' h1 h1', Go.frz ok' hT _, Is.newT ok' hT (.cons h2 (.cons h2' .nil))⟩
end

/-- a comprehension's block -/
def Blk (X : Cz) (scope : Scope) (X' : Cz) : Prop := ∃ (s : Shared) (H : Hp) (C : Addr) (cl : List (Str × Addr)) (fp : List Addr), X' = ⟨X.toCx.blk s H scope (compEnvC scope cl C X.env) fp, fun _ _ _ => False⟩
def NoneAt (Γ : Gm) : List Nat → Prop
  | [] => True
  | i :: r => Γ[i]? = some none ∧ NoneAt Γ r
theorem NoneAt.get {Γ : Gm} : ∀ {ws : List Nat} {i : Nat}, NoneAt Γ ws → i ∈ ws → Γ[i]? = some none
  | w :: ws, i, h, hi => by
    rcases List.mem_cons.mp hi with e | hi
    · subst e; exact h.1
    · exact NoneAt.get h.2 hi
theorem wipe_get {σ : L2.St} {i : Nat} : ∀ {ws : List Nat}, i ∉ ws → (wipe σ ws)[i]? = σ[i]?
  | [], _ => rfl
  | w :: ws, h => by
    unfold wipe
    rw [List.getElem?_set_ne (fun e => h (by rw [e]; exact List.mem_cons_self))]
    exact wipe_get fun z => h (List.mem_cons_of_mem _ z)
theorem wipe_in {σ : L2.St} {i : Nat} : ∀ {ws : List Nat}, i ∈ ws → i < σ.length → (wipe σ ws)[i]? = some none
  | w :: ws, h, hl => by
    unfold wipe
    by_cases e : w = i
    · subst e
      exact List.getElem?_set_self (by rw [wipe_length]; exact hl)
    · rw [List.getElem?_set_ne e]
      rcases List.mem_cons.mp h with z | z
      · exact absurd z.symm e
      · exact wipe_in z hl
theorem wipe_wipe {σ : L2.St} {ws : List Nat} : wipe (wipe σ ws) ws = wipe σ ws := by
  apply List.ext_getElem?
  intro i
  by_cases hi : i ∈ ws
  · by_cases hl : i < σ.length
    · rw [wipe_in hi (by rw [wipe_length]; exact hl), wipe_in hi hl]
    · rw [List.getElem?_eq_none (by rw [wipe_length, wipe_length]; omega), List.getElem?_eq_none (by rw [wipe_length]; omega)]
  · rw [wipe_get hi]
theorem En.wipe {K : PySem.W.Frag} {A : Addr → Prop} {H : Hp} {σ : L2.St} {Γ : Gm} {ws : List Nat} (en : En K A H σ Γ) (n : NoneAt Γ ws) : En K A H (L2.wipe σ ws) Γ := by
  refine ⟨by rw [wipe_length]; exact en.len, fun i d e => ?_⟩
  obtain ⟨v, h1, h2⟩ := en.at_ i d e
  refine ⟨v, ?_, h2⟩
  rw [wipe_get fun z => by rw [n.get z] at e; cases e]
  exact h1
/-- the tests of a comprehension -/
def STs (X : Cx) (ifs : List Expr) (σ : L2.St) (H : Hp) (Q : Bool → Hp → Prop) : Prop := ∀ pins s, Inv X pins σ H s →
  wpAny (model X.prog X.w) X.A (forIn ifs true fun c r => if r = true then do let ok ← isTrue c X.env (eval c X.env); pure (ForInStep.yield ok) else pure (ForInStep.yield r)) (TP X pins σ Q) X.xe s
def WTs (X : Cz) (ifs : List Expr) (Γ : Gm) (μ : Mu) (Q : Mu → Bool → Prop) : Prop := ∀ Z σ H, En X.K (Av μ Z) H σ Γ → Ok X.K μ Z H → Tk X Z μ H → STs X ifs σ H (PostT X.K Z μ H Q)
theorem wts_nil {X : Cz} {Γ : Gm} {μ : Mu} {Q : Mu → Bool → Prop} (q : Q μ true) : WTs X [] Γ μ Q := fun Z σ H en ok tk pins s I => pts_nil.run pins s σ H _ I ⟨μ, Go.refl ok, q⟩
theorem wts_one {X : Cz} {Γ : Gm} {μ : Mu} {c : Expr} {Q : Mu → Bool → Prop} (h : WT X c Γ μ Q) : WTs X [c] Γ μ Q := fun Z σ H en ok tk pins s I => (pts_one pt_S).run pins s σ H _ I (h Z σ H en ok tk)
section
variable {K : PySem.W.Frag} {Z : Addr → Prop} {μ μ' : Mu} {H H' : Hp} {p : Addr}
/-- others' objects and one more -/
def orZ (Z : Addr → Prop) (p : Addr) : Addr → Prop := fun a => Z a ∨ a = p
theorem Fz.drop {A : Addr → Prop} {H : Hp} {B : Addr → Prop} (h : ∀ a, B a → A a) : Fz A H B H := fun a o e n => ⟨e, fun z => n (h a z)⟩
theorem av_orZ : ∀ a, Av μ Z a → Av μ (orZ Z p) a := fun a h => h.elim .inl fun z => .inr (.inl z)
theorem Ok.unhide (ok : Ok K μ (orZ Z p) H) : Ok K μ Z H := ⟨fun a o e => (ok.at_ a o e).mono (Fz.drop av_orZ) rfl, fun a z => ok.hid a (.inl z)⟩
theorem Ok.hide (ok : Ok K μ Z H) (h : H p = none) (u : HO) : Ok K μ (orZ Z p) (upd H p u) ∧ Fz (Av μ Z) H (Av μ (orZ Z p)) (upd H p u) := by
  obtain ⟨n1, n2⟩ := ok.fresh h
  have fz : Fz (Av μ Z) H (Av μ (orZ Z p)) (upd H p u) := fun a o e n => by
    have ne := ne_of_none e h
    exact ⟨by rw [upd_ne ne]; exact e, fun z => z.elim (fun z => n (.inl z)) fun z => z.elim (fun z => n (.inr z)) ne⟩
  refine ⟨⟨fun a o e => (ok.at_ a o e).mono fz (upd_ne fun z => by subst z; rw [n1] at e; cases e), fun a z => ?_⟩, fz⟩
  rcases z with z | z
  · obtain ⟨z1, o, z2⟩ := ok.hid a z
    exact ⟨z1, o, by rw [upd_ne (ne_of_none z2 h)]; exact z2⟩
  · subst z; exact ⟨n1, u, upd_same⟩
/-- the hidden object is written -/
theorem Ok.write (ok : Ok K μ (orZ Z p) H) (hz : ¬ Z p) (u : HO) : Ok K μ (orZ Z p) (upd H p u) ∧ Fz (Av μ (orZ Z p)) H (Av μ (orZ Z p)) (upd H p u) := by
  have ne : ∀ a o, H a = some o → ¬ Av μ (orZ Z p) a → a ≠ p := fun a o _ n z => n (.inr (.inr z))
  have fz : Fz (Av μ (orZ Z p)) H (Av μ (orZ Z p)) (upd H p u) := fun a o e n => ⟨by rw [upd_ne (ne a o e n)]; exact e, n⟩
  refine ⟨⟨fun a o e => (ok.at_ a o e).mono fz (upd_ne fun z => ?_), fun a z => ?_⟩, fz⟩
  · subst z
    rw [(ok.hid a (.inr rfl)).1] at e; cases e
  · obtain ⟨z1, o, z2⟩ := ok.hid a z
    by_cases ha : a = p
    · subst ha; exact ⟨z1, u, upd_same⟩
    · exact ⟨z1, o, by rw [upd_ne ha]; exact z2⟩
end
section
variable {X : Cz} {Γ : Gm} {μ : Mu} {elt tg iter : Expr} {ifs : List Expr} {scope : Scope} {own : List (Str × Nat)} {pos : Pos} {vs : List Nat} {Q : Mu → D → Prop}
/-- what the block is to show: J i acc of the state ahead of turn i; P at the end -/
def Lc (X : Cz) (elt tg : Expr) (ifs : List Expr) (scope : Scope) (vs : List Nat) (Γ : Gm) (μ1 : Mu) (ds : List D) (G : Mu → Prop) (P : List D → Mu → Prop) : Prop :=
  ∃ J : Nat → List D → Mu → Prop, J 0 [] μ1 ∧ (∀ i acc μ', i ≤ ds.length → J i acc μ' → G μ') ∧
    (∀ i d acc μ', ds[i]? = some d → J i acc μ' → ∃ Γ2, (∀ X', Blk X scope X' → WG X' tg vs d Γ μ' fun Γ3 μ3 => Γ3 = Γ2 ∧ μ3 = μ') ∧ ∀ X', Blk X scope X' → WTs X' ifs Γ2 μ' fun μ3 b =>
      if b = true then ∀ X', Blk X scope X' → WE X' elt Γ2 μ3 fun μ4 y => acc.length < sizeLine ∧ J (i + 1) (acc ++ [y]) μ4 else J (i + 1) acc μ3) ∧
    (∀ acc μ', J ds.length acc μ' → P acc μ')
theorem SI.mono {σ : L2.St} {H : Hp} {R R' : It → Hp → Prop} (h : SI X tg iter σ H R) (f : ∀ J H', R J H' → R' J H') : SI X tg iter σ H R' := fun pins s I => thn (h pins s I) fun v s1 q => thn q fun itv s2 q2 => by
  obtain ⟨it, fp, tn, J, H1, e1, I1, T, st, fo, r⟩ := q2
  exact ⟨it, fp, tn, J, H1, e1, I1, T, st, fo, f J H1 r⟩
theorem STs.mono {σ : L2.St} {H : Hp} {Q Q' : Bool → Hp → Prop} (h : STs X ifs σ H Q) (f : ∀ b H', Q b H' → Q' b H') : STs X ifs σ H Q' := fun pins s I => thn (h pins s I) fun _ _ ⟨H', I', q⟩ => ⟨H', I', f _ _ q⟩
theorem lc_read (hn : NoneAt Γ (own.map (·.2))) (hv : ∀ i ∈ vs, i ∈ own.map (·.2)) {σ : L2.St} {Z : Addr → Prop} {H : Hp} {Qv : VK} (en : En X.K (Av μ Z) H σ Γ) (ok : Ok X.K μ Z H) (tk : Tk X Z μ H) {P : List D → Mu → Prop}
    (fin : ∀ D μ1 H1 μ' H' acc ws, H1 D = none → Go X.K Z μ H μ1 H1 → Ok X.K μ' (orZ Z D) H' → Fz (Av μ1 Z) H1 (Av μ' (orZ Z D)) H' → (∀ a, Z a → H' a = H1 a) → H' D = some (.lst ws) → IsA X.K (Av μ' (orZ Z D)) H' ws acc → P acc μ' → Qv (.ref D) H')
    (h : WI X tg iter Γ μ fun μ1 ds G => Lc X elt tg ifs scope vs Γ μ1 ds G P) :
    tLc (SI X tg iter) (fun v σ H Q => ∀ s H0 C cl fp, SG (X.toCx.blk s H0 scope (compEnvC scope cl C X.env) fp) tg v σ H Q) (fun σ H Q => ∀ s H0 C cl fp, STs (X.toCx.blk s H0 scope (compEnvC scope cl C X.env) fp) ifs σ H Q)
      (fun σ H Q => ∀ s H0 C cl fp, SE (X.toCx.blk s H0 scope (compEnvC scope cl C X.env) fp) elt σ H Q) (own.map (·.2)) σ H Qv := by
  refine SI.mono (h Z σ H en ok tk) fun J H1 q1 => ?_
  obtain ⟨μ1, ds, G, g1, Y, Jn, j0, jG, jb, jd⟩ := q1
  intro D hD
  obtain ⟨_, nz⟩ := g1.ok.fresh hD
  obtain ⟨ok0, fz0⟩ := g1.ok.hide hD (.lst [])
  refine ⟨fun i m H' => m = ds.length - i ∧ i ≤ ds.length ∧ ∃ acc ws μ', Ok X.K μ' (orZ Z D) H' ∧ Fz (Av μ1 Z) H1 (Av μ' (orZ Z D)) H' ∧ (∀ a, Z a → H' a = H1 a) ∧ H' D = some (.lst ws) ∧ IsA X.K (Av μ' (orZ Z D)) H' ws acc ∧ Jn i acc μ',
    ⟨ds.length, rfl, Nat.zero_le _, [], [], μ1, ok0, fz0, fun a z => upd_ne fun e => nz (by rw [← e]; exact z), upd_same, .nil, j0⟩, ?_⟩
  rintro i m H' ⟨rfl, hi, acc, ws, μ', ok', fz', zk', hDl, t', hj⟩
  obtain ⟨y1, y2⟩ := Y (orZ Z D) i μ' H' ok' fz' (jG i acc μ' hi hj)
  by_cases hlt : i < ds.length
  · refine .inr ⟨(y1 hlt).1, fun H2 => ∃ acc ws μ', Ok X.K μ' (orZ Z D) H2 ∧ Fz (Av μ1 Z) H1 (Av μ' (orZ Z D)) H2 ∧ (∀ a, Z a → H2 a = H1 a) ∧ H2 D = some (.lst ws) ∧ IsA X.K (Av μ' (orZ Z D)) H2 ws acc ∧ Jn (i + 1) acc μ', fun H2 q => ⟨ds.length - (i + 1), by omega, rfl, hlt, q⟩, fun x H2 hy => ?_⟩
    obtain ⟨d, hd1, g2, is⟩ := (y1 hlt).2 x H2 hy
    obtain ⟨Γ2, hg, ht⟩ := jb i d acc μ' hd1 hj
    have enw : En X.K (Av μ' (orZ Z D)) H2 (L2.wipe σ (own.map (·.2))) Γ := ((en.mono g1.fz).mono (fz'.trans g2.fz)).wipe hn
    intro s0 H0 C0 cl0 fp0
    refine ((hg _ ⟨s0, H0, C0, cl0, fp0, rfl⟩) (orZ Z D) _ H2 x enw g2.ok (Tk.never fun _ _ _ z => z) is).mono fun σ3 H3 ⟨⟨Γ3, μ3, g3, en3, e3, e4⟩, w3⟩ => ?_
    subst e3 e4
    refine ⟨(w3 _ hv).trans wipe_wipe, ?_⟩
    intro s0 H0 C0 cl0 fp0
    refine STs.mono ((ht _ ⟨s0, H0, C0, cl0, fp0, rfl⟩) (orZ Z D) σ3 H3 en3 g3.ok (Tk.never fun _ _ _ z => z)) fun b H4 ⟨μ4, g4, q4⟩ => ?_
    have g24 := (g2.trans g3).trans g4
    cases b with
    | false => exact ⟨acc, ws, μ4, g4.ok, fz'.trans g24.fz, fun a z => (g24.zk a (.inl z)).trans (zk' a z), (g24.zk D (.inr rfl)).trans hDl, t'.mono g24.fz, q4⟩
    | true =>
      show ∀ s H0 C cl fp, SE _ elt σ3 H4 _
      intro s0 H0 C0 cl0 fp0
      refine ((q4 _ ⟨s0, H0, C0, cl0, fp0, rfl⟩) (orZ Z D) σ3 H4 (en3.mono g4.fz) g4.ok (Tk.never fun _ _ _ z => z)).mono fun y H5 ⟨μ5, d5, g5, i5, hl, q5⟩ => ?_
      have g25 := g24.trans g5
      have hD5 : H5 D = some (.lst ws) := (g25.zk D (.inr rfl)).trans hDl
      have t5 := t'.mono g25.fz
      obtain ⟨ok6, fz6⟩ := g5.ok.write nz (.lst (ws ++ [y]))
      refine ⟨ws, hD5, by rw [t5.length]; exact hl, acc ++ [d5], ws ++ [y], μ5, ok6, (fz'.trans g25.fz).trans fz6, fun a z => ?_, upd_same, (t5.append (.cons i5 .nil)).mono fz6, q5⟩
      rw [upd_ne (fun e => nz (by rw [← e]; exact z))]
      exact (g25.zk a (.inl z)).trans (zk' a z)
  · have e : i = ds.length := by omega
    subst e
    exact .inl ⟨y2 (Nat.le_refl _), fin D μ1 H1 μ' H' acc ws hD g1 ok' fz' zk' hDl t' (jd acc μ' hj)⟩
theorem pts_S {scope : Scope} : ∀ (s : Shared) (H : Hp) (C : Addr) (cl : List (Str × Addr)) (fp : List Addr), PTs (X.toCx.blk s H scope (compEnvC scope cl C X.env) fp) ifs (fun σ H Q => ∀ s H0 C cl fp, STs (X.toCx.blk s H0 scope (compEnvC scope cl C X.env) fp) ifs σ H Q) :=
  fun s H C cl fp => ⟨fun _ _ _ _ _ I h => h s H C cl fp _ _ I⟩
theorem pgb_S {scope : Scope} : ∀ (s : Shared) (H : Hp) (C : Addr) (cl : List (Str × Addr)) (fp : List Addr), PG (X.toCx.blk s H scope (compEnvC scope cl C X.env) fp) tg (fun v σ H Q => ∀ s H0 C cl fp, SG (X.toCx.blk s H0 scope (compEnvC scope cl C X.env) fp) tg v σ H Q) :=
  fun s H C cl fp => ⟨fun _ _ _ _ _ _ _ I r h => h s H C cl fp _ _ _ I r⟩
theorem peb_S {scope : Scope} : ∀ (s : Shared) (H : Hp) (C : Addr) (cl : List (Str × Addr)) (fp : List Addr), PE (X.toCx.blk s H scope (compEnvC scope cl C X.env) fp) elt (fun σ H Q => ∀ s H0 C cl fp, SE (X.toCx.blk s H0 scope (compEnvC scope cl C X.env) fp) elt σ H Q) :=
  fun s H C cl fp => ⟨fun _ _ _ _ _ I h => h s H C cl fp _ _ I⟩
/-- the new list, fixed | to be changed -/
theorem lc_fix {K : PySem.W.Frag} {Z : Addr → Prop} {μ μ1 μ' : Mu} {H H1 H' : Hp} {p : Addr} {acc : List D} {ws : List V} (hD : H1 p = none) (g1 : Go K Z μ H μ1 H1) (ok' : Ok K μ' (orZ Z p) H') (fz' : Fz (Av μ1 Z) H1 (Av μ' (orZ Z p)) H') (zk' : ∀ a, Z a → H' a = H1 a)
    (hl : H' p = some (.lst ws)) (t' : IsA K (Av μ' (orZ Z p)) H' ws acc) : Go K Z μ H μ' H' ∧ Is K (Av μ' Z) H' (.ref p) (.lst acc) := by
  have d := Fz.drop (H := H') (av_orZ (μ := μ') (Z := Z) (p := p))
  obtain ⟨_, nz⟩ := g1.ok.fresh hD
  refine ⟨g1.trans ⟨ok'.unhide, fz'.trans d, zk'⟩, .lst ⟨?_, .inl hl⟩ (t'.mono d)⟩
  rintro (z | z)
  · exact z (ok'.hid p (.inr rfl)).1
  · exact nz z
theorem lc_mut {K : PySem.W.Frag} {Z : Addr → Prop} {μ μ1 μ' : Mu} {H H1 H' : Hp} {p : Addr} {acc : List D} {ws : List V} (hD : H1 p = none) (g1 : Go K Z μ H μ1 H1) (ok' : Ok K μ' (orZ Z p) H') (fz' : Fz (Av μ1 Z) H1 (Av μ' (orZ Z p)) H') (zk' : ∀ a, Z a → H' a = H1 a)
    (hl : H' p = some (.lst ws)) (t' : IsA K (Av μ' (orZ Z p)) H' ws acc) : μ' p = none ∧ Go K Z μ H (updM μ' p (.lst acc)) H' := by
  obtain ⟨n1, nz⟩ := g1.ok.fresh hD
  have n' := (ok'.hid p (.inr rfl)).1
  have d : Fz (Av μ' (orZ Z p)) H' (Av (updM μ' p (.lst acc)) Z) H' := fun a o e n => ⟨e, by
    rintro (z | z)
    · by_cases ha : a = p
      · exact n (.inr (.inr ha))
      · rw [updM_ne ha] at z; exact n (.inl z)
    · exact n (.inr (.inl z))⟩
  refine ⟨n', g1.trans ⟨⟨fun a o e => ?_, fun a z => ?_⟩, fz'.trans d, zk'⟩⟩
  · by_cases ha : a = p
    · subst ha
      rw [updM_same] at e; cases e
      exact ⟨ws, hl, t'.mono d⟩
    · rw [updM_ne ha] at e
      exact (ok'.at_ a o e).mono d rfl
  · obtain ⟨z1, z2⟩ := ok'.hid a (.inl z)
    have ha : a ≠ p := fun e => nz (by rw [← e]; exact z)
    exact ⟨by rw [updM_ne ha]; exact z1, z2⟩
theorem we_lc (hc : X.calm = true) (hN : X.N.Nodup) (ok : BlkOk X.N X.env.scope scope own) (hn : NoneAt Γ (own.map (·.2))) (hv : ∀ i ∈ vs, i ∈ own.map (·.2))
    (h : WI X tg iter Γ μ fun μ1 ds G => Lc X elt tg ifs scope vs Γ μ1 ds G fun acc μ' => Q μ' (.lst acc)) (hs : ∀ x, foldedSetIterable iter X.env x = pure x := by intro _; rfl) : WE X (.ListComp elt [⟨tg, iter, ifs, 0⟩] scope pos) Γ μ Q := fun Z σ H en okm tk => by
  refine toS (pe_lc hc hN pi_S ok pgb_S pts_S peb_S hs) ?_
  refine lc_read hn hv en okm tk (fun D μ1 H1 μ' H' acc ws hD g1 ok' fz' zk' hl t' q => ?_) h
  obtain ⟨a1, a2⟩ := lc_fix hD g1 ok' fz' zk' hl t'
  exact ⟨μ', _, a1, a2, q⟩
theorem we_lcM (hc : X.calm = true) (hN : X.N.Nodup) (ok : BlkOk X.N X.env.scope scope own) (hn : NoneAt Γ (own.map (·.2))) (hv : ∀ i ∈ vs, i ∈ own.map (·.2))
    (h : WI X tg iter Γ μ fun μ1 ds G => Lc X elt tg ifs scope vs Γ μ1 ds G fun acc μ' => ∀ p, μ' p = none → Q (updM μ' p (.lst acc)) (.ref p)) (hs : ∀ x, foldedSetIterable iter X.env x = pure x := by intro _; rfl) : WE X (.ListComp elt [⟨tg, iter, ifs, 0⟩] scope pos) Γ μ Q := fun Z σ H en okm tk => by
  refine toS (pe_lc hc hN pi_S ok pgb_S pts_S peb_S hs) ?_
  refine lc_read hn hv en okm tk (fun D μ1 H1 μ' H' acc ws hD g1 ok' fz' zk' hl t' q => ?_) h
  obtain ⟨a1, a2⟩ := lc_mut hD g1 ok' fz' zk' hl t'
  exact ⟨_, _, a2, .ref D, q D a1⟩
/-- x = [..], x a local -/
theorem ws_setLc {k : Kt} {x : Str} {i : Nat} {px spos : Pos} (hc : X.calm = true) (n : Nw X x i) (hl : X.env.scope.names.lookup x = some .local) (hsw : swapsWith (.ListComp elt [⟨tg, iter, ifs, 0⟩] scope pos) (some (.Name x px)) spos.line X.env = pure true)
    (ok : BlkOk X.N X.env.scope scope own) (hn : NoneAt Γ (own.map (·.2))) (hv : ∀ i ∈ vs, i ∈ own.map (·.2))
    (h : WI X tg iter Γ μ fun μ1 ds G => Lc X elt tg ifs scope vs Γ μ1 ds G fun acc μ' => SetQ Γ i (.lst acc) fun Γ' => k.nx Γ' μ') (hs : ∀ x, foldedSetIterable iter X.env x = pure x := by intro _; rfl) : WS X (.Assign [.Name x px] (.ListComp elt [⟨tg, iter, ifs, 0⟩] scope pos) spos) Γ μ k := fun Z σ H en okm tk => by
  refine toSS (ps_setLc hc n.nd n.ix hl hsw pi_S ok pgb_S pts_S peb_S hs) ?_
  refine lc_read hn hv en okm tk (fun D μ1 H1 μ' H' acc ws hD g1 ok' fz' zk' hl t' q => ?_) h
  obtain ⟨a1, a2⟩ := lc_fix hD g1 ok' fz' zk' hl t'
  obtain ⟨Γ', s, q⟩ := q
  exact ⟨Γ', μ', a1, by rw [s.eq]; exact (en.mono a1.fz).set i a2, q⟩
theorem ws_setLcM {k : Kt} {x : Str} {i : Nat} {px spos : Pos} (hc : X.calm = true) (n : Nw X x i) (hl : X.env.scope.names.lookup x = some .local) (hsw : swapsWith (.ListComp elt [⟨tg, iter, ifs, 0⟩] scope pos) (some (.Name x px)) spos.line X.env = pure true)
    (ok : BlkOk X.N X.env.scope scope own) (hn : NoneAt Γ (own.map (·.2))) (hv : ∀ i ∈ vs, i ∈ own.map (·.2))
    (h : WI X tg iter Γ μ fun μ1 ds G => Lc X elt tg ifs scope vs Γ μ1 ds G fun acc μ' => ∀ p, μ' p = none → SetQ Γ i (.ref p) fun Γ' => k.nx Γ' (updM μ' p (.lst acc))) (hs : ∀ x, foldedSetIterable iter X.env x = pure x := by intro _; rfl) : WS X (.Assign [.Name x px] (.ListComp elt [⟨tg, iter, ifs, 0⟩] scope pos) spos) Γ μ k := fun Z σ H en okm tk => by
  refine toSS (ps_setLc hc n.nd n.ix hl hsw pi_S ok pgb_S pts_S peb_S hs) ?_
  refine lc_read hn hv en okm tk (fun D μ1 H1 μ' H' acc ws hD g1 ok' fz' zk' hl t' q => ?_) h
  obtain ⟨a1, a2⟩ := lc_mut hD g1 ok' fz' zk' hl t'
  obtain ⟨Γ', s, q⟩ := q D a1
  exact ⟨Γ', _, a2, by rw [s.eq]; exact (en.mono a2.fz).set i (.ref D), q⟩
end

/-- a def's own frame -/
structure Fr (X : Cz) : Prop where
  fn : ∀ x, X.fn x = true
  stk : X.stack = X.env :: X.outer
  frm : X.env.frame = some X.env.locals
structure Ctx (X : Cz) (P : Program) (w : World) (K : PySem.W.Frag) (mg : Str → Option Value) (base : Heap) (k : Nat) (N : List Str) (sc : Scope) : Prop where
  prog : X.prog = P
  w : X.w = w
  K : X.K = K
  mg : X.mg = mg
  base : X.base = base
  N : X.N = N
  sc : X.env.scope = sc
  calm : X.calm = true
  room : Room k X.A
  pass : PassesOwn (model X.prog X.w) X.A X.env X.xe
  nd : X.N.Nodup
def visB (sc : Scope) (x : Str) : Bool := match sc.names.lookup x with
  | some .local => true
  | some .cell => true
  | some .free => true
  | _ => false
def nmB (N : List Str) (sc : Scope) (x : Str) (i : Nat) : Bool := decide (N[i]? = some x) && visB sc x && !(x == ("__debug__" : Str)) && !(x == ("__classdict__" : Str))
def locB (sc : Scope) (x : Str) : Bool := match sc.names.lookup x with
  | some .local => true
  | _ => false
def celB (sc : Scope) (x : Str) : Bool := match sc.names.lookup x with
  | some .cell => true
  | _ => false
def glB (sc : Scope) (x : Str) : Bool := (match sc.names.lookup x with
  | some .globalImplicit => true
  | _ => false) && !(x == ("__debug__" : Str))
theorem visB_ok {sc : Scope} {x : Str} (h : visB sc x = true) : Vis sc x := by
  unfold visB at h
  split at h
  · exact .inl (by assumption)
  · exact .inr (.inl (by assumption))
  · exact .inr (.inr (by assumption))
  · cases h
theorem locB_ok {sc : Scope} {x : Str} (h : locB sc x = true) : sc.names.lookup x = some .local := by
  unfold locB at h
  split at h
  · assumption
  · cases h
theorem celB_ok {sc : Scope} {x : Str} (h : celB sc x = true) : sc.names.lookup x = some .cell := by
  unfold celB at h
  split at h
  · assumption
  · cases h
theorem glB_ok {sc : Scope} {x : Str} (h : glB sc x = true) : sc.names.lookup x = some .globalImplicit ∧ (x == ("__debug__" : Str)) = false := by
  unfold glB at h
  rw [Bool.and_eq_true] at h
  refine ⟨?_, by simpa using h.2⟩
  have h1 := h.1
  split at h1
  · assumption
  · cases h1
/-- a def that callers find by its name; j its level -/
def GFn (P : Program) (w : World) (K : PySem.W.Frag) (mg : Str → Option Value) (base : Heap) (x : Str) (j : Nat) (s : Spc) : Prop :=
  ∃ f fd ps, FnOk P w K mg base (L2.CX P w) j f fd ps (lift K s) ∧ mg x = some (.ref f) ∧ PySem.W.keepIn K (.ref f) = true ∧ Binds K fd ps [] ∧ s.Mono
def GFk (P : Program) (w : World) (K : PySem.W.Frag) (mg : Str → Option Value) (base : Heap) (x : Str) (j : Nat) (n : Nat) (ks : List Str) (g : {α : Type} → List α → List α → List α) (s : Spc) : Prop :=
  ∃ f fd ps, FnOk P w K mg base (L2.CX P w) j f fd ps (lift K s) ∧ mg x = some (.ref f) ∧ PySem.W.keepIn K (.ref f) = true ∧ KBn K fd ps n ks (fun us ws => g us ws) (fun us ws => g us ws) ∧ s.Mono
section
variable {X : Cz} {P : Program} {w : World} {K : PySem.W.Frag} {mg : Str → Option Value} {base : Heap} {k : Nat} {N : List Str} {sc scope : Scope}
theorem Ctx.nm (h : Ctx X P w K mg base k N sc) {x : Str} {i : Nat} (b : nmB N sc x i = true) : Nm X x i := by
  unfold nmB at b
  simp only [Bool.and_eq_true, decide_eq_true_eq, Bool.not_eq_true'] at b
  obtain ⟨⟨⟨b1, b2⟩, b3⟩, b4⟩ := b
  exact ⟨by rw [h.N]; exact b1, by rw [h.sc]; exact visB_ok b2, b3, b4⟩
theorem Ctx.nl (h : Ctx X P w K mg base k N sc) {x : Str} {i : Nat} (b : nmB N sc x i = true) (l : locB sc x = true) : Nw X x i :=
  ⟨h.nm b, h.nd, .inl (by rw [h.sc]; exact locB_ok l), .inr (by rw [h.sc]; exact locB_ok l)⟩
theorem Ctx.nc (h : Ctx X P w K mg base k N sc) (f : Fr X) {x : Str} {i : Nat} (b : nmB N sc x i = true) (l : celB sc x = true) : Nw X x i :=
  ⟨h.nm b, h.nd, .inr (by rw [h.sc]; exact celB_ok l), .inl (f.fn x)⟩
theorem Ctx.gl (h : Ctx X P w K mg base k N sc) {x : Str} (b : glB sc x = true) : Gl X x := by
  show X.env.scope.names.lookup x = _
  rw [h.sc]
  exact (glB_ok b).1
theorem Ctx.bl (h : Ctx X P w K mg base k N sc) {x : Str} (b : glB sc x = true) (m : mg x = none) : Bl X x := ⟨h.gl b, by rw [h.mg]; exact m⟩
theorem Ctx.cl (h : Ctx X P w K mg base k N sc) {x : Str} {j : Nat} {s : Spc} (c : GFn P w K mg base x j s) (b : glB sc x = true) (l : j ≤ k) : Cl X x s := by
  obtain ⟨f, fd, ps, F, hm, hk, hb, mo⟩ := c
  obtain ⟨rfl, rfl, rfl, rfl, rfl, rfl, rfl, _, hr, _⟩ := h
  exact ⟨mo, ⟨j, f, fd, ps, F, hr.mono l, hm, hk, hb⟩, (glB_ok b).1, (glB_ok b).2⟩
theorem Ctx.clK (h : Ctx X P w K mg base k N sc) {x : Str} {j n : Nat} {ks : List Str} {g : {α : Type} → List α → List α → List α} {s : Spc} (c : GFk P w K mg base x j n ks g s) (b : glB sc x = true) (l : j ≤ k)
    (rel : ∀ {K : PySem.W.Frag} {A : Addr → Prop} {H : Hp} {vs zs : List V} {ds es : List D}, vs.length = n → zs.length = ks.length → IsA K A H vs ds → IsA K A H zs es → IsA K A H (g vs zs) (g ds es)) : ClK X x n ks g s := by
  obtain ⟨f, fd, ps, F, hm, hk, hb, mo⟩ := c
  obtain ⟨rfl, rfl, rfl, rfl, rfl, rfl, rfl, _, hr, _⟩ := h
  exact ⟨mo, ⟨j, f, fd, ps, F, hr.mono l, hm, hk, hb⟩, (glB_ok b).1, (glB_ok b).2, rel⟩
theorem Ctx.blk (h : Ctx X P w K mg base k N sc) {X' : Cz} (b : Blk X scope X') : Ctx X' P w K mg base k N (relS scope sc) := by
  obtain ⟨s, H, C, cl, fp, rfl⟩ := b
  obtain ⟨h1, h2, h3, h4, h5, h6, h7, h8, h9, h10, h11⟩ := h
  exact ⟨h1, h2, h3, h4, h5, h6, by rw [← h7]; rfl, h8, h9, PassesOwn.never, h11⟩
theorem Ctx.blkOk (h : Ctx X P w K mg base k N sc) {own : List (Str × Nat)} (b : blkC N sc scope own = true) : BlkOk X.N X.env.scope scope own := by
  rw [h.N, h.sc]
  exact blkOk_by b
end
def startG (N : List Str) (ds : List D) : Gm := ds.map some ++ List.replicate (N.length - ds.length) none
theorem startG_en {K : PySem.W.Frag} {A : Addr → Prop} {H : Hp} {N : List Str} : ∀ {vs : List V} {ds : List D}, IsA K A H vs ds → En K A H (start N vs) (startG N ds) := by
  intro vs ds t
  refine ⟨by simp [L2.start, startG, t.length], fun i d e => ?_⟩
  unfold startG at e
  by_cases hi : i < ds.length
  · rw [List.getElem?_append_left (by simpa using hi), List.getElem?_map] at e
    cases q : ds[i]? with
    | none => rw [q] at e; cases e
    | some x =>
      rw [q] at e
      cases e
      obtain ⟨v, h1, h2⟩ := t.get q
      refine ⟨v, ?_, h2⟩
      unfold L2.start
      rw [List.getElem?_append_left (by rw [List.length_map, t.length]; exact hi), List.getElem?_map, h1]
      rfl
  · rw [List.getElem?_append_right (by simpa using hi), List.getElem?_replicate] at e
    split at e <;> cases e
section
variable {P : Program} {w : World} {K : PySem.W.Frag} {mg : Str → Option Value} {base : Heap}
abbrev BodyOk (P : Program) (w : World) (K : PySem.W.Frag) (mg : Str → Option Value) (base : Heap) (k : Nat) (N : List Str) (sc : Scope) (body : List Stmt) (sp : Spc) : Prop :=
  ∀ X, Ctx X P w K mg base k N sc → Fr X → ∀ ds μ Q E, (∀ Γ, X.xd Γ = E) → sp ds μ Q E → WB X body (startG N ds) μ ⟨fun _ μ' => Q μ' .non, Q, fun _ _ => False, fun _ _ => False⟩
theorem fn_core {qual : Str} {sc : Scope} {f : Addr} {cdv : Value} {A : Around} {outer : List Env} {s : Shared} {H : Hp} {E : XK} {N : List Str} {k : Nat} {body : List Stmt} {sp : Spc} {vs : List V} {Q : VK} (nd : N.Nodup)
    (hb : BodyOk P w K mg base k N sc body sp)
    (hr : Room k (A.deeper (envOfC qual sc s.heap.objs.size f cdv))) (h : lift K sp vs H Q E) :
    ∃ t, PSs (cxOf (L2.CX P w) P w K mg base N qual sc f cdv A outer s H E) body t ∧ t { nx := fun _ H' => Q .non H', rt := Q } (start N vs) H := by
  obtain ⟨ds, μ, Z, t, ok, h⟩ := h
  refine ⟨SB (cxOf (L2.CX P w) P w K mg base N qual sc f cdv A outer s H E) body, pss_S, ?_⟩
  let X : Cz := ⟨cxOf (L2.CX P w) P w K mg base N qual sc f cdv A outer s H E, fun _ μ' x => ∀ od H', Go K Z μ H μ' H' → XdIs K (Av μ' Z) H' od x → E x.cls od H'⟩
  have c : Ctx X P w K mg base k N sc := ⟨rfl, rfl, rfl, rfl, rfl, rfl, rfl, rfl, hr, passes_of rfl, nd⟩
  have tk : Tk X Z μ H := Takes.imp (takes_of (X := X.toCx) rfl rfl rfl rfl) fun cls od σ' H' ⟨Γ', μ', x, g, en, i, e, q⟩ => by
    subst e
    exact q od H' g i
  refine SB.mono ?_ (hb X c ⟨fun _ => rfl, rfl, rfl⟩ ds μ _ _ (fun _ => rfl) h Z (start N vs) H (startG_en t) ok tk)
  exact ⟨fun σ' H' ⟨Γ', μ', g, en, q⟩ => q .non H' g .non, fun v H' ⟨μ', d, g, i, q⟩ => q v H' g i, fun σ' H' ⟨Γ', μ', g, en, q⟩ => q, fun σ' H' ⟨Γ', μ', g, en, q⟩ => q⟩
theorem fn_dl {x qual : Str} {st : Stmt} {f : Addr} {fd : FuncData} {N ps : List Str} {k : Nat} {sp : Spc} (F : Fun K x qual st f fd) (S : FnScope N ps (defScope st)) (len : ∀ ds μ Q E, sp ds μ Q E → ds.length = ps.length)
    (body : BodyOk P w K mg base k N (defScope st) (defBody st) sp) : FnOk P w K mg base (L2.CX P w) (k + 1) f fd ps (lift K sp) := by
  refine F.okX S (fun vs H Q E h => ?_) fun cdv A outer s H vs Q E hr h => fn_core S.nd body hr h
  obtain ⟨ds, μ, Z, t, ok, h⟩ := h
  exact t.length.trans (len _ _ _ _ h)
theorem fn_dlD {x qual : Str} {st : Stmt} {dvs : List V} {kws : List (Str × V)} {f : Addr} {fd : FuncData} {N ps : List Str} {k : Nat} {sp : Spc} (F : FunD K x qual (defArgs st) (defBody st) (defScope st) dvs kws f fd) (S : FnScope N ps (defScope st)) (len : ∀ ds μ Q E, sp ds μ Q E → ds.length = ps.length)
    (body : BodyOk P w K mg base k N (defScope st) (defBody st) sp) : FnOk P w K mg base (L2.CX P w) (k + 1) f fd ps (lift K sp) := by
  refine F.ok S (fun vs H Q E h => ?_) fun cdv A outer s H vs Q E hr h => fn_core S.nd body hr h
  obtain ⟨ds, μ, Z, t, ok, h⟩ := h
  exact t.length.trans (len _ _ _ _ h)
/-- how keywords bind, where all parameters are written -/
theorem fun_kbn {x qual : Str} {st : Stmt} {f : Addr} {fd : FuncData} {ps ks : List Str} {n : Nat} {g : {α : Type} → List α → List α → List α} (F : Fun K x qual st f fd)
    (h : ∀ (kV doc pm : Value) (an : Option Addr) (cdv ct : Value) (us ws : List Value), us.length = n → ws.length = ks.length → bindArgs (PySem.W.fnOf x qual (defArgs st) (defBody st) (defScope st) .none kV doc pm an cdv ct) ⟨us, ks.zip ws⟩ = pure (ps.zip (g us ws)))
    (rel : ∀ {vs : List V} {us : List Value} {zs : List V} {ws : List Value}, Vals vs us → Vals zs ws → Vals (g vs zs) (g us ws)) : KBn K fd ps n ks (fun us ws => g us ws) (fun us ws => g us ws) := by
  obtain ⟨oc, od, kV, doc, pm, an, cdv, ct, osl, rfl, lk, hcd⟩ := F.ex
  exact ⟨fun s us ws X h1 h2 => .of_eq (h kV doc pm an cdv ct us ws h1 h2), rel⟩
end
def spLaw : Spc := fun ds _ Q _ => ∃ ns : List Int, ds = [.scr (ns.map D.int)] ∧ ns.length ≤ 63 ∧ (∀ z ∈ ns, Builtin.Int.intBits z ≤ 1048576) ∧ ∀ μ', Q μ' (.bl true)
theorem spLaw_start {K : PySem.W.Frag} {H : Hp} {a : Addr} {ns : List Int} (hl : ns.length ≤ 63) (hb : ∀ z ∈ ns, Builtin.Int.intBits z ≤ 1048576) (hS : SqL K H a (ns.map V.int)) : lift K spLaw [.ref a] H (fun v _ => v = .bl true) fun _ _ _ => False := by
  refine ⟨[.scr (ns.map D.int)], fun _ => none, fun _ => False, .cons (.scr ?_ (IsA.ints ns)) .nil, ⟨fun a o e => (nomatch e), fun a (z : False) => False.elim z⟩, ns, rfl, hl, hb, fun μ' v H' g i => isBl i⟩
  rcases hS with h | h
  · exact .inl ⟨fun z => Or.elim z (fun z => z rfl) fun z => z, h⟩
  · exact .inr h
end DL

set_option Elab.async false
set_option linter.all false
set_option maxRecDepth 100000
set_option maxHeartbeats 2000000
namespace DL
open PySem PySem.Spec PyProof.Rows L2

/-- a def that reckons: where f has a value for its arguments (and they are fit) it hands that back and leaves all as it was -/
def pureS (f : List D → Option D) (P : List D → Prop := fun _ => True) : Spc := fun ds μ Q _ => ∃ d, f ds = some d ∧ P ds ∧ Q μ d
theorem pure_i {f : List D → Option D} {P : List D → Prop} {ds : List D} {μ : Mu} {Q : Mu → D → Prop} {E : Mu → Xd → Prop} {d : D} (e : f ds = some d) (p : P ds) (q : Q μ d) : pureS f P ds μ Q E := ⟨d, e, p, q⟩
theorem pureS_mono {f : List D → Option D} {P : List D → Prop} : (pureS f P).Mono := fun ds μ Q E Q' E' h1 h2 ⟨d, e, p, q⟩ => ⟨d, e, p, h1 _ _ q⟩
/-- any def -/
def specS {α : Type} (pre : α → List D → Mu → Prop) (post : α → Mu → D → Prop) (xp : α → Mu → Xd → Prop := fun _ _ _ => False) : Spc := fun ds μ Q E => ∃ a, pre a ds μ ∧ (∀ μ' d, post a μ' d → Q μ' d) ∧ ∀ μ' x, xp a μ' x → E μ' x
theorem specS_mono {α : Type} {pre : α → List D → Mu → Prop} {post : α → Mu → D → Prop} {xp : α → Mu → Xd → Prop} : (specS pre post xp).Mono := fun ds μ Q E Q' E' h1 h2 ⟨a, p, q, x⟩ => ⟨a, p, fun μ' d h => h1 _ _ (q _ _ h), fun μ' d h => h2 _ _ (x _ _ h)⟩

theorem ite_dec {p A B : Prop} [Decidable p] (h1 : p → A) (h2 : ¬ p → B) : if decide p = true then A else B := by
  by_cases h : p
  · rw [if_pos (decide_eq_true h)]; exact h1 h
  · rw [if_neg (by simpa using h)]; exact h2 h
theorem ite_ndec {p A B : Prop} [Decidable p] (h1 : ¬ p → A) (h2 : p → B) : if (!decide p) = true then A else B := by
  by_cases h : p
  · rw [if_neg (by simpa using h)]; exact h2 h
  · rw [if_pos (by simpa using h)]; exact h1 h

theorem ite_nt {A B : Prop} (h : B) : if (!true) = true then A else B := h
theorem ite_nf {A B : Prop} (h : A) : if (!false) = true then A else B := h
theorem ediv_bd {a b M : Int} (hb : 0 < b) (h1 : -M ≤ a) (h2 : a ≤ M) : -M ≤ a / b ∧ a / b ≤ M := by
  have hM : 0 ≤ M := by omega
  have hm : M * 1 ≤ M * b := Int.mul_le_mul_of_nonneg_left hb hM
  rw [Int.mul_one] at hm
  refine ⟨Int.le_ediv_of_mul_le hb ?_, Int.ediv_le_of_le_mul hb (by omega)⟩
  rw [Int.neg_mul]
  omega
theorem MulOk.m {i j : Int} (h1 : -(10 ^ 70) < i) (h2 : i < 10 ^ 70) (h3 : -(10 ^ 70) < j) (h4 : j < 10 ^ 70) : DL.MulOk i j :=
  .inr (wide_mul (a := 240) (b := 240) (by omega) (by omega) (by decide) (by decide) (by decide))
section
variable {X : Cz} {P : Program} {w : World} {K : PySem.W.Frag} {mg : Str → Option Value} {base : Heap} {k : Nat} {N : List Str} {sc : Scope} {Γ : Gm} {μ : Mu} {kt : Kt} {elt tg iter c : Expr} {ifs : List Expr} {scope : Scope} {pos spos px : Pos} {vs : List Nat} {x : Str} {i : Nat} {body : List Stmt}
def kindB (sc : Scope) : Bool := match sc.kind with
  | .function => true
  | _ => false
theorem kindB_ok {sc : Scope} (h : kindB sc = true) : sc.kind = .function := by
  unfold kindB at h
  split at h
  · assumption
  · cases h
theorem ctx_setLc (h : Ctx X P w K mg base k N sc) (own : List (Str × Nat)) (n : Nw X x i) (q : WI X tg iter Γ μ fun μ1 ds G => Lc X elt tg ifs scope vs Γ μ1 ds G fun acc μ' => SetQ Γ i (.lst acc) fun Γ' => kt.nx Γ' μ')
    (bl : locB sc x = true := by decide +kernel) (bk : kindB sc = true := by decide +kernel) (ln : (px.line == pos.line) = true := by decide +kernel) (ha : (scope.names.any fun (n, k) => n == x && (k == .local || k == .cell)) = false := by decide +kernel)
    (bc : blkC N sc scope own = true := by decide +kernel) (hn : NoneAt Γ (own.map (·.2)) := by repeat (first | exact trivial | refine ⟨rfl, ?_⟩)) (hv : ∀ i ∈ vs, i ∈ own.map (·.2) := by decide)
    (hs : ∀ x, foldedSetIterable iter X.env x = pure x := by intro _; rfl) : WS X (.Assign [.Name x px] (.ListComp elt [⟨tg, iter, ifs, 0⟩] scope pos) spos) Γ μ kt :=
  ws_setLc h.calm n (by rw [h.sc]; exact locB_ok bl) (sw_true (by rw [h.sc]; exact kindB_ok bk) (by rw [h.sc]; exact locB_ok bl) ln ha) (h.blkOk bc) hn hv q hs
theorem ctx_setLcM (h : Ctx X P w K mg base k N sc) (own : List (Str × Nat)) (n : Nw X x i) (q : WI X tg iter Γ μ fun μ1 ds G => Lc X elt tg ifs scope vs Γ μ1 ds G fun acc μ' => ∀ p, μ' p = none → SetQ Γ i (.ref p) fun Γ' => kt.nx Γ' (updM μ' p (.lst acc)))
    (bl : locB sc x = true := by decide +kernel) (bk : kindB sc = true := by decide +kernel) (ln : (px.line == pos.line) = true := by decide +kernel) (ha : (scope.names.any fun (n, k) => n == x && (k == .local || k == .cell)) = false := by decide +kernel)
    (bc : blkC N sc scope own = true := by decide +kernel) (hn : NoneAt Γ (own.map (·.2)) := by repeat (first | exact trivial | refine ⟨rfl, ?_⟩)) (hv : ∀ i ∈ vs, i ∈ own.map (·.2) := by decide)
    (hs : ∀ x, foldedSetIterable iter X.env x = pure x := by intro _; rfl) : WS X (.Assign [.Name x px] (.ListComp elt [⟨tg, iter, ifs, 0⟩] scope pos) spos) Γ μ kt :=
  ws_setLcM h.calm n (by rw [h.sc]; exact locB_ok bl) (sw_true (by rw [h.sc]; exact kindB_ok bk) (by rw [h.sc]; exact locB_ok bl) ln ha) (h.blkOk bc) hn hv q hs
theorem ctx_lc {Q : Mu → D → Prop} (h : Ctx X P w K mg base k N sc) (own : List (Str × Nat)) (q : WI X tg iter Γ μ fun μ1 ds G => Lc X elt tg ifs scope vs Γ μ1 ds G fun acc μ' => Q μ' (.lst acc))
    (bc : blkC N sc scope own = true := by decide +kernel) (hn : NoneAt Γ (own.map (·.2)) := by repeat (first | exact trivial | refine ⟨rfl, ?_⟩)) (hv : ∀ i ∈ vs, i ∈ own.map (·.2) := by decide)
    (hs : ∀ x, foldedSetIterable iter X.env x = pure x := by intro _; rfl) : WE X (.ListComp elt [⟨tg, iter, ifs, 0⟩] scope pos) Γ μ Q := we_lc h.calm h.nd (h.blkOk bc) hn hv q hs
theorem ctx_lcM {Q : Mu → D → Prop} (h : Ctx X P w K mg base k N sc) (own : List (Str × Nat)) (q : WI X tg iter Γ μ fun μ1 ds G => Lc X elt tg ifs scope vs Γ μ1 ds G fun acc μ' => ∀ p, μ' p = none → Q (updM μ' p (.lst acc)) (.ref p))
    (bc : blkC N sc scope own = true := by decide +kernel) (hn : NoneAt Γ (own.map (·.2)) := by repeat (first | exact trivial | refine ⟨rfl, ?_⟩)) (hv : ∀ i ∈ vs, i ∈ own.map (·.2) := by decide)
    (hs : ∀ x, foldedSetIterable iter X.env x = pure x := by intro _; rfl) : WE X (.ListComp elt [⟨tg, iter, ifs, 0⟩] scope pos) Γ μ Q := we_lcM h.calm h.nd (h.blkOk bc) hn hv q hs
theorem ctx_for (h : Ctx X P w K mg base k N sc)
    (q : WI X tg iter Γ μ fun μ1 ds G => ∃ I : Nat → Gm → Mu → Prop, I 0 Γ μ1 ∧ (∀ i Γ' μ', i ≤ ds.length → I i Γ' μ' → G μ') ∧
      (∀ i d Γ' μ', ds[i]? = some d → I i Γ' μ' → WGx X tg d Γ' μ' fun Γ2 μ2 => WB X body Γ2 μ2 ⟨I (i + 1), kt.rt, kt.nx, I (i + 1)⟩) ∧ (∀ Γ' μ', I ds.length Γ' μ' → kt.nx Γ' μ'))
    (hs : ∀ x, foldedSetIterable iter X.env x = pure x := by intro _; rfl) : WS X (.For tg iter body [] pos) Γ μ kt := ws_for h.pass h.calm q hs
theorem ctx_while (h : Ctx X P w K mg base k N sc) (I : Nat → Gm → Mu → Prop) (h0 : ∃ m, I m Γ μ)
    (hs : ∀ m Γ' μ', I m Γ' μ' → WT X c Γ' μ' fun μ1 b => if b = true then WB X body Γ' μ1 ⟨fun Γ2 μ2 => ∃ m', m' < m ∧ I m' Γ2 μ2, kt.rt, kt.nx, fun Γ2 μ2 => ∃ m', m' < m ∧ I m' Γ2 μ2⟩ else kt.nx Γ' μ1) : WS X (.While c body [] pos) Γ μ kt := ws_while h.pass I h0 hs
theorem ctx_tupx {tgs : List Expr} {x1} {ds : List D} {M : Gm → Mu → Prop} (h : Ctx X P w K mg base k N sc) (q : WGlx X tgs ds Γ μ M) (hl : ds.length = (assignEach tgs X.env).length := by rfl)
    (hst : (assignEach tgs X.env).findIdx? (·.1) = none := by rfl) : WGx X (.Tuple tgs x1 pos) (.tup ds) Γ μ M := wx_tup h.calm q hl hst
theorem ctx_tup {tgs : List Expr} {x1} {ds : List D} {M : Gm → Mu → Prop} (h : Ctx X P w K mg base k N sc) (q : WGl X tgs vs ds Γ μ M) (hl : ds.length = (assignEach tgs X.env).length := by rfl)
    (hst : (assignEach tgs X.env).findIdx? (·.1) = none := by rfl) : WG X (.Tuple tgs x1 pos) vs (.tup ds) Γ μ M := wg_tup h.calm q hl hst
end
/-- a comprehension that only reckons: T the slots of an item, p the test, f the item made -/
theorem lc_pure {X : Cz} {Γ : Gm} {μ1 : Mu} {elt tg : Expr} {ifs : List Expr} {scope : Scope} {vs : List Nat} {ds : List D} {G : Mu → Prop} {P : List D → Mu → Prop} (T : D → Gm) (p : D → Bool) (f : D → D) (hG : G μ1) (hl : ds.length < sizeLine)
    (ht : ∀ X', Blk X scope X' → ∀ d ∈ ds, WG X' tg vs d Γ μ1 fun Γ3 μ3 => Γ3 = T d ∧ μ3 = μ1) (hp : ∀ X', Blk X scope X' → ∀ d ∈ ds, WTs X' ifs (T d) μ1 fun μ3 b => μ3 = μ1 ∧ b = p d)
    (he : ∀ X', Blk X scope X' → ∀ d ∈ ds, p d = true → WE X' elt (T d) μ1 fun μ4 y => μ4 = μ1 ∧ y = f d) (hP : P ((ds.filter p).map f) μ1) : Lc X elt tg ifs scope vs Γ μ1 ds G P := by
  refine ⟨fun i acc μ' => μ' = μ1 ∧ acc = ((ds.take i).filter p).map f, ⟨rfl, rfl⟩, fun i acc μ' _ h => by rw [h.1]; exact hG, fun i d acc μ' hd h => ?_, fun acc μ' h => ?_⟩
  · obtain ⟨rfl, rfl⟩ := h
    have hm : d ∈ ds := List.mem_of_getElem? hd
    refine ⟨T d, fun X' b => ht X' b d hm, fun X' b Z σ H en ok tkn => ?_⟩
    refine STs.mono (hp X' b d hm Z σ H en ok tkn) fun b H' ⟨μ3, g3, e3, eb⟩ => ⟨μ3, g3, ?_⟩
    subst e3 eb
    have tk : ds.take (i + 1) = ds.take i ++ [d] := by rw [List.take_add_one, hd]; rfl
    cases hb : p d with
    | true =>
      show ∀ X', Blk X scope X' → _
      intro X' b'
      refine (he X' b' d hm hb).mono fun μ4 y h4 => ?_
      obtain ⟨rfl, rfl⟩ := h4
      refine ⟨?_, rfl, ?_⟩
      · refine Nat.lt_of_le_of_lt ?_ hl
        rw [List.length_map]
        exact Nat.le_trans (List.length_filter_le _ _) (by rw [List.length_take]; omega)
      · rw [tk, List.filter_append, List.map_append, List.filter_cons, hb]
        rfl
    | false =>
      refine ⟨rfl, ?_⟩
      rw [tk, List.filter_append, List.filter_cons, hb]
      simp
  · obtain ⟨rfl, rfl⟩ := h
    rw [List.take_length]
    exact hP

theorem atI_ex {α : Type} {ds : List α} {i : Int} (h0 : 0 ≤ i) (h1 : i < (ds.length : Int)) : ∃ d, atI ds i = some d ∧ d ∈ ds ∧ ds[i.toNat]? = some d := by
  have h : i.toNat < ds.length := by omega
  exact ⟨ds[i.toNat], atI_n h0 (List.getElem?_eq_getElem h), List.getElem_mem h, List.getElem?_eq_getElem h⟩
structure Bx where
  great : List Int
  pend : Int
  small : List Int
  cnt : Int
structure BxOk (t : Bx) : Prop where
  g0 : ∀ z ∈ t.great, 0 ≤ z
  p0 : 0 ≤ t.pend
  c0 : 0 ≤ t.cnt
  gl : t.great.length ≤ 63
  sl : t.small.length ≤ 63
def bxM (b g : Addr) (t : Bx) (μ : Mu) : Mu := updM (updM μ g (.lst (t.great.map .int))) b (.lst [.ref g, .int t.pend, .lst (t.small.map .int), .int t.cnt])
section
variable {b g p : Addr} {t : Bx} {μ : Mu}
theorem bxM_b : bxM b g t μ b = some (.lst [.ref g, .int t.pend, .lst (t.small.map .int), .int t.cnt]) := updM_same
theorem bxM_g (h : g ≠ b) : bxM b g t μ g = some (.lst (t.great.map .int)) := by
  unfold bxM
  rw [updM_ne h, updM_same]
theorem bxM_ne (h1 : p ≠ b) (h2 : p ≠ g) : bxM b g t μ p = μ p := by
  unfold bxM
  rw [updM_ne h1, updM_ne h2]
theorem bxM_fresh (h : bxM b g t μ p = none) : p ≠ b ∧ p ≠ g ∧ μ p = none := by
  have h1 : p ≠ b := fun e => by subst e; rw [bxM_b] at h; cases h
  have h2 : p ≠ g := fun e => by subst e; rw [bxM_g h1] at h; cases h
  exact ⟨h1, h2, by rw [bxM_ne h1 h2] at h; exact h⟩
theorem bxM_upd {o : MO} (h1 : p ≠ b) (h2 : p ≠ g) : updM (bxM b g t μ) p o = bxM b g t (updM μ p o) := by
  unfold bxM
  rw [updM_comm (Ne.symm h1), updM_comm (Ne.symm h2)]
theorem bxM_del (h1 : p ≠ b) (h2 : p ≠ g) : delM (bxM b g t μ) p = bxM b g t (delM μ p) := by
  funext a
  unfold bxM delM updM
  by_cases e1 : a = p
  · subst e1; simp [h1, h2]
  · simp [e1]
theorem bxM_setp {k : Int} : updM (bxM b g t μ) b (.lst [.ref g, .int k, .lst (t.small.map .int), .int t.cnt]) = bxM b g { t with pend := k } μ := by
  unfold bxM
  rw [updM_upd]
theorem bxM_setc {k : Int} : updM (bxM b g t μ) b (.lst [.ref g, .int t.pend, .lst (t.small.map .int), .int k]) = bxM b g { t with cnt := k } μ := by
  unfold bxM
  rw [updM_upd]
theorem bxM_setg {ns : List Int} (h : g ≠ b) : updM (bxM b g t μ) g (.lst (ns.map .int)) = bxM b g { t with great := ns } μ := by
  unfold bxM
  rw [updM_comm (Ne.symm h), updM_upd]
end
section
variable {X : Cz} {Γ : Gm} {μ : Mu} {b g : Addr} {t : Bx} {x : Str} {i : Nat} {px pc pos : Pos} {j : Nat} {N : Gm → Mu → Prop} {k : Int}
/-- box[1] = k, box[3] = k -/
theorem wx_box1 (n : Nm X x i) (h : Γ[i]? = some (some (.ref b))) (q : N Γ (bxM b g { t with pend := k } μ)) : WGx X (.Subscript (.Name x px) (.Constant (.int 1) j pc) pos) (.int k) Γ (bxM b g t μ) N :=
  wx_ix (we_name n h (we_int ⟨_, rfl, _, rfl, ⟨_, bxM_b⟩, _, bxM_b, _, rfl, by
    show N Γ (updM (bxM b g t μ) b (.lst [.ref g, .int k, .lst (t.small.map .int), .int t.cnt]))
    rw [bxM_setp]
    exact q⟩))
theorem wx_box3 (n : Nm X x i) (h : Γ[i]? = some (some (.ref b))) (q : N Γ (bxM b g { t with cnt := k } μ)) : WGx X (.Subscript (.Name x px) (.Constant (.int 3) j pc) pos) (.int k) Γ (bxM b g t μ) N :=
  wx_ix (we_name n h (we_int ⟨_, rfl, _, rfl, ⟨_, bxM_b⟩, _, bxM_b, _, rfl, by
    show N Γ (updM (bxM b g t μ) b (.lst [.ref g, .int t.pend, .lst (t.small.map .int), .int k]))
    rw [bxM_setc]
    exact q⟩))
end
section
variable {b g : Addr} {t : Bx} {μ : Mu} {X : Cz} {Γ : Gm} {x : Str} {i : Nat} {px pc pos ap cp pz : Pos} {j jz : Nat} {Q : Mu → D → Prop}
/-- box[0].pop(0) -/
theorem we_boxpop {z : Int} {r : List Int} (hg : g ≠ b) (hz : t.great = z :: r) (n : Nm X x i) (h : Γ[i]? = some (some (.ref b))) (hl : (ap.endLine == cp.line) = true) (q : Q (bxM b g { t with great := r } μ) (.int z)) :
    WE X (.Call (.Attribute (.Subscript (.Name x px) (.Constant (.int 0) j pc) pos) "pop" ap) [.Constant (.int 0) jz pz] [] cp) Γ (bxM b g t μ) Q := by
  refine we_popAt ?_ rfl rfl hl rfl rfl
  refine we_ix (we_name n h (we_int (ix_m bxM_b rfl ?_)))
  refine lst_at (bxM_g hg) (we_int (one_i (lst_q (bxM_g hg) (req (by decide) ⟨0, .int z, seqIndex_of (by decide) (by rw [List.length_map, hz, List.length_cons]; omega), by rw [hz]; rfl, ?_⟩))))
  have hr : (t.great.map D.int).eraseIdx 0 = r.map D.int := by rw [hz]; rfl
  rw [hr, bxM_setg hg]
  exact q
end
/-- a draw: b the box, g its great cells; n the size -/
structure TakeA where
  b : Addr
  g : Addr
  t : Bx
  μ : Mu
  n : Int
abbrev spTake : Spc := specS (α := TakeA) (fun a ds μ => ds = [.ref a.b, .int a.n] ∧ μ = bxM a.b a.g a.t a.μ ∧ a.g ≠ a.b ∧ BxOk a.t ∧ a.t.cnt < 1000000 ∧ 1 ≤ a.n ∧ a.n.natAbs.log2 < 9000)
  (fun a μ' d => ∃ (r : Int) (t : Bx), d = .int r ∧ μ' = bxM a.b a.g t a.μ ∧ 0 ≤ r ∧ r < a.n ∧ BxOk t ∧ t.cnt = a.t.cnt + 1)
/-- one more draw -/
theorem take_use {b g : Addr} {t : Bx} {μ : Mu} {n : Int} {Q : Mu → D → Prop} {E : Mu → Xd → Prop} (hg : g ≠ b) (ht : BxOk t) (hc : t.cnt < 1000000) (h1 : 1 ≤ n) (hn : n.natAbs.log2 < 9000)
    (q : ∀ (r : Int) (t' : Bx), 0 ≤ r → r < n → BxOk t' → t'.cnt = t.cnt + 1 → Q (bxM b g t' μ) (.int r)) : spTake [.ref b, .int n] (bxM b g t μ) Q E := by
  refine ⟨⟨b, g, t, μ, n⟩, ⟨rfl, rfl, hg, ht, hc, h1, hn⟩, fun μ' d h => ?_, fun μ' x z => z.elim⟩
  obtain ⟨r, t', rfl, rfl, h1, h2, h3, h4⟩ := h
  exact q r t' h1 h2 h3 h4
structure BoxA (β : Type) where
  b : Addr
  g : Addr
  t : Bx
  μ : Mu
  x : β
/-- args: the arguments behind the box; k: at most so many draws; post: of what is handed back, which is fixed -/
abbrev boxS {β : Type} (args : β → List D) (pre : β → Prop) (k : Int) (post : β → D → Prop) : Spc := specS (α := BoxA β)
  (fun a ds μ => ds = .ref a.b :: args a.x ∧ μ = bxM a.b a.g a.t a.μ ∧ a.g ≠ a.b ∧ BxOk a.t ∧ a.t.cnt + k < 1000000 ∧ pre a.x)
  (fun a μ' d => ∃ t, μ' = bxM a.b a.g t a.μ ∧ BxOk t ∧ a.t.cnt ≤ t.cnt ∧ t.cnt ≤ a.t.cnt + k ∧ post a.x d)
theorem box_use {β : Type} {args : β → List D} {pre : β → Prop} {k : Int} {post : β → D → Prop} {b g : Addr} {t : Bx} {μ : Mu} {x : β} {Q : Mu → D → Prop} {E : Mu → Xd → Prop} (hg : g ≠ b) (ht : BxOk t) (hc : t.cnt + k < 1000000) (hp : pre x)
    (q : ∀ (d : D) (t' : Bx), BxOk t' → t.cnt ≤ t'.cnt → t'.cnt ≤ t.cnt + k → post x d → Q (bxM b g t' μ) d) : boxS args pre k post (.ref b :: args x) (bxM b g t μ) Q E := by
  refine ⟨⟨b, g, t, μ, x⟩, ⟨rfl, rfl, hg, ht, hc, hp⟩, fun μ' d h => ?_, fun μ' x z => z.elim⟩
  obtain ⟨t', rfl, h1, h2, h3, h4⟩ := h
  exact q d t' h1 h2 h3 h4
/-- .. that hand back an int from lo to hi -/
abbrev boxI {β : Type} (args : β → List D) (pre : β → Prop) (k : Int) (lo hi : β → Int) : Spc := boxS args pre k fun x d => ∃ r : Int, d = .int r ∧ lo x ≤ r ∧ r ≤ hi x
theorem boxi_use {β : Type} {args : β → List D} {pre : β → Prop} {k : Int} {lo hi : β → Int} {b g : Addr} {t : Bx} {μ : Mu} {x : β} {Q : Mu → D → Prop} {E : Mu → Xd → Prop} (hg : g ≠ b) (ht : BxOk t) (hc : t.cnt + k < 1000000) (hp : pre x)
    (q : ∀ (r : Int) (t' : Bx), lo x ≤ r → r ≤ hi x → BxOk t' → t.cnt ≤ t'.cnt → t'.cnt ≤ t.cnt + k → Q (bxM b g t' μ) (.int r)) : boxI args pre k lo hi (.ref b :: args x) (bxM b g t μ) Q E :=
  box_use hg ht hc hp fun d t' h1 h2 h3 ⟨r, e, h4, h5⟩ => by
    subst e
    exact q r t' h4 h5 h1 h2 h3
/-- an item of a written list of ints at a drawn place -/
theorem ix_range {ds : List D} {i : Int} {μ : Mu} {R : D → Prop} (lo hi : Int) (h0 : 0 ≤ i) (h1 : i < (ds.length : Int)) (hd : ∀ d ∈ ds, ∃ z, d = .int z ∧ lo ≤ z ∧ z ≤ hi) (h : ∀ z, lo ≤ z → z ≤ hi → R (.int z)) : IxQ μ (.lst ds) (.int i) R := by
  obtain ⟨d, e, hm, _⟩ := atI_ex h0 h1
  obtain ⟨z, rfl, h2, h3⟩ := hd d hm
  exact ix_l e (h z h2 h3)
theorem forall_nil {P : D → Prop} : ∀ d ∈ ([] : List D), P d := fun _ h => by cases h
theorem forall_cons {P : D → Prop} {x : D} {r : List D} (h1 : P x) (h2 : ∀ d ∈ r, P d) : ∀ d ∈ x :: r, P d := fun d h => by
  rcases List.mem_cons.mp h with e | h
  · rw [e]; exact h1
  · exact h2 d h
def gApp {α : Type} (us ws : List α) : List α := us ++ ws
theorem gApp_rel {vs : List V} {us : List Value} {zs : List V} {ws : List Value} (a : Vals vs us) (b : Vals zs ws) : Vals (gApp vs zs) (gApp us ws) := a.append b
theorem gApp_is {K : PySem.W.Frag} {A : Addr → Prop} {H : Hp} {vs zs : List V} {ds es : List D} {n m : Nat} (_ : vs.length = n) (_ : zs.length = m) (a : IsA K A H vs ds) (b : IsA K A H zs es) : IsA K A H (gApp vs zs) (gApp ds es) := a.append b
def g102 {α : Type} (us ws : List α) : List α := match ws with
  | [a, b, c] => [b, a, c]
  | _ => us ++ ws
theorem g102_rel {vs : List V} {us : List Value} {zs : List V} {ws : List Value} (a : Vals vs us) (b : Vals zs ws) : Vals (g102 vs zs) (g102 us ws) := by
  cases b with
  | nil => exact a.append .nil
  | cons r1 b => cases b with
    | nil => exact a.append (.cons r1 .nil)
    | cons r2 b => cases b with
      | nil => exact a.append (.cons r1 (.cons r2 .nil))
      | cons r3 b => cases b with
        | nil => exact .cons r2 (.cons r1 (.cons r3 .nil))
        | cons r4 b => exact a.append (.cons r1 (.cons r2 (.cons r3 (.cons r4 b))))
theorem g102_is {K : PySem.W.Frag} {A : Addr → Prop} {H : Hp} {vs zs : List V} {ds es : List D} {n m : Nat} (_ : vs.length = n) (_ : zs.length = m) (a : IsA K A H vs ds) (b : IsA K A H zs es) : IsA K A H (g102 vs zs) (g102 ds es) := by
  cases b with
  | nil => exact a.append .nil
  | cons r1 b => cases b with
    | nil => exact a.append (.cons r1 .nil)
    | cons r2 b => cases b with
      | nil => exact a.append (.cons r1 (.cons r2 .nil))
      | cons r3 b => cases b with
        | nil => exact .cons r2 (.cons r1 (.cons r3 .nil))
        | cons r4 b => exact a.append (.cons r1 (.cons r2 (.cons r3 (.cons r4 b))))
abbrev spBox : Spc := specS (α := Mu × List Int) (fun a ds μ => ds = [.scr (a.2.map .int)] ∧ μ = a.1 ∧ a.2.length ≤ 63) (fun a μ' d => ∃ b g t, d = .ref b ∧ μ' = bxM b g t a.1 ∧ g ≠ b ∧ BxOk t ∧ t.cnt = 0)
theorem box_new {ns : List Int} {μ : Mu} {Q : Mu → D → Prop} {E : Mu → Xd → Prop} (hl : ns.length ≤ 63) (q : ∀ b g t, g ≠ b → BxOk t → t.cnt = 0 → Q (bxM b g t μ) (.ref b)) : spBox [.scr (ns.map .int)] μ Q E := by
  refine ⟨(μ, ns), ⟨rfl, rfl, hl⟩, fun μ' d h => ?_, fun μ' x z => z.elim⟩
  obtain ⟨b, g, t, rfl, rfl, h1, h2, h3⟩ := h
  exact q b g t h1 h2 h3
/-- small numbers have few bits -/
theorem log_small {n : Int} (h : n.natAbs < 2 ^ 200) : n.natAbs.log2 < 9000 := Nat.lt_of_lt_of_le (PySem.Flt.log2_lt_of (by decide) h) (by decide)
theorem log_lit {n : Int} (h0 : 0 ≤ n) (h : n ≤ 1000000000000000000000000000000000000000000000000000000000000) : n.natAbs.log2 < 9000 := log_small (by omega)
end DL

set_option Elab.async false
set_option linter.all false
set_option maxRecDepth 100000
set_option maxHeartbeats 2000000
namespace DL
open PySem PySem.Spec PyProof.Rows L2

mutual
inductive Frz : Mu → D → Mu → D → Prop
  | nil {μ : Mu} {d : D} : Frz μ d μ d
  | lst {μ μ' : Mu} {p : Addr} {ds ds' : List D} (h : μ p = some (.lst ds)) (t : FrzA (delM μ p) ds μ' ds') : Frz μ (.ref p) μ' (.lst ds')
  | ins {μ μ' : Mu} {p C : Addr} {gs gs' : List (Str × D)} (h : μ p = some (.ins C gs)) (hk : gs.map (·.1) = gs'.map (·.1)) (t : FrzA (delM μ p) (gs.map (·.2)) μ' (gs'.map (·.2))) : Frz μ (.ref p) μ' (.ins C gs')
inductive FrzA : Mu → List D → Mu → List D → Prop
  | nil {μ : Mu} : FrzA μ [] μ []
  | cons {μ μ1 μ2 : Mu} {d d' : D} {ds ds' : List D} (h : Frz μ d μ1 d') (t : FrzA μ1 ds μ2 ds') : FrzA μ (d :: ds) μ2 (d' :: ds')
end
theorem FrzA.same {μ : Mu} : ∀ {ds : List D}, FrzA μ ds μ ds
  | [] => .nil
  | _ :: _ => .cons .nil FrzA.same
section
variable {K : PySem.W.Frag} {Z : Addr → Prop} {H : Hp}
theorem notAv_del {μ : Mu} {p : Addr} {o : MO} (ok : Ok K μ Z H) (h : μ p = some o) : ¬ Av (delM μ p) Z p := by
  rintro (z | z)
  · exact z delM_same
  · rw [(ok.hid p z).1] at h; cases h
mutual
theorem Frz.ok : ∀ {μ μ' : Mu} {d d' : D} {v : V}, Frz μ d μ' d' → Ok K μ Z H → Is K (Av μ Z) H v d → Go K Z μ H μ' H ∧ Is K (Av μ' Z) H v d'
  | _, _, _, _, _, .nil, ok, i => ⟨Go.refl ok, i⟩
  | _, _, _, _, _, .lst h t, ok, i => by
    cases isRef i
    obtain ⟨vs, hv, a⟩ := ok.at_ _ _ h
    have g1 := Go.fix ok _ ⟨_, h⟩
    obtain ⟨g2, a2⟩ := FrzA.ok t g1.ok (a.mono g1.fz)
    exact ⟨g1.trans g2, .lst ⟨(g2.fz _ _ hv (notAv_del ok h)).2, .inl hv⟩ a2⟩
  | _, _, _, _, _, .ins h hk t, ok, i => by
    cases isRef i
    obtain ⟨dx, fs, hv, hk2, a⟩ := ok.at_ _ _ h
    have g1 := Go.fix ok _ ⟨_, h⟩
    obtain ⟨g2, a2⟩ := FrzA.ok t g1.ok (a.mono g1.fz)
    exact ⟨g1.trans g2, .ins (g2.fz _ _ hv (notAv_del ok h)).2 hv (hk2.trans hk) a2⟩
theorem FrzA.ok : ∀ {μ μ' : Mu} {ds ds' : List D} {vs : List V}, FrzA μ ds μ' ds' → Ok K μ Z H → IsA K (Av μ Z) H vs ds → Go K Z μ H μ' H ∧ IsA K (Av μ' Z) H vs ds'
  | _, _, _, _, _, .nil, ok, i => by
    cases i
    exact ⟨Go.refl ok, .nil⟩
  | _, _, _, _, _, .cons h t, ok, i => by
    cases i with
    | cons i1 i2 =>
      obtain ⟨g1, j1⟩ := Frz.ok h ok i1
      obtain ⟨g2, j2⟩ := FrzA.ok t g1.ok (i2.mono g1.fz)
      exact ⟨g1.trans g2, .cons (j1.mono g2.fz) j2⟩
end
end
section
variable {X : Cz} {Γ Γ' : Gm} {μ μ' : Mu} {a b c e o lo hi : Expr} {es : List Expr} {pos p0 p2 : Pos} {Q : Mu → D → Prop} {k : Kt}
theorem we_frz (h : WE X e Γ μ fun μ1 d => ∃ μ2 d', Frz μ1 d μ2 d' ∧ Q μ2 d') : WE X e Γ μ Q := fun Z σ H en ok tk => by
  refine h.use (Go.refl ok) en tk fun v H1 μ1 d g1 _ en1 i1 q1 => ?_
  obtain ⟨μ2, d', f, q⟩ := q1
  obtain ⟨g2, i2⟩ := f.ok g1.ok i1
  exact ⟨μ2, d', g1.trans g2, i2, q⟩
/-- what stands in slot i is fixed from here on -/
theorem wb_frz {i : Nat} {d d' : D} {sts : List Stmt} (e : Γ[i]? = some (some d)) (f : Frz μ d μ' d') (s : SetTo Γ i d' Γ') (q : WB X sts Γ' μ' k) : WB X sts Γ μ k := fun Z σ H en ok tk => by
  obtain ⟨v, h1, h2⟩ := en.at_ i d e
  obtain ⟨g, i2⟩ := f.ok ok h2
  refine q.use g ?_ tk
  have := (en.mono g.fz).set i i2
  rw [s.eq]
  have e2 : List.set σ i (some v) = σ := by
    apply List.ext_getElem?
    intro j
    by_cases hj : i = j
    · subst hj
      have hl : i < σ.length := (List.getElem?_eq_some_iff.mp h1).1
      rw [List.getElem?_set_self hl, h1]
    · rw [List.getElem?_set_ne hj]
  rwa [e2] at this
theorem we_b1 {x : Str} {id : String} {r : List V → Hp → VK → Prop} (hc : CallR X.toCx (.builtin id) r) (B : Bl X x) (hv : bootBuiltins x = some (.builtin id))
    (h : WE X e Γ μ fun μ1 d => ∀ Z μ0 H0 H v, Go X.K Z μ0 H0 μ1 H → Is X.K (Av μ1 Z) H v d → r [v] H (PostE X.K Z μ0 H0 Q))
    (h1 : x ≠ "__name__" := by decide) (h2 : (x == ("__debug__" : Str)) = false := by decide)
    (he : starEach [e] X.env = (false, eval e X.env) :: starEach [] X.env := by rfl) (hpl : (backTo pos (starEach [] X.env)).any (·.1) = false := by rfl) : WE X (.Call (.Name x p0) [e] [] pos) Γ μ Q := fun Z σ H en ok tk => by
  refine toS (pe_callB hc B.gl B.mg hv (pa_cons pe_S pa_nil he) h1 h2 he hpl) ?_
  exact h.use (Go.refl ok) en tk fun v H1 μ1 d g1 _ en1 i1 q1 => q1 Z _ _ H1 v g1 i1
theorem we_t1 {x : Str} {id : String} {r : List V → Hp → VK → Prop} (hc : CallR X.toCx (.type id) r) (B : Bl X x) (hv : bootBuiltins x = some (.type id))
    (h : WE X e Γ μ fun μ1 d => ∀ Z μ0 H0 H v, Go X.K Z μ0 H0 μ1 H → Is X.K (Av μ1 Z) H v d → r [v] H (PostE X.K Z μ0 H0 Q))
    (h1 : x ≠ "__name__" := by decide) (h2 : (x == ("__debug__" : Str)) = false := by decide)
    (he : starEach [e] X.env = (false, eval e X.env) :: starEach [] X.env := by rfl) (hpl : (backTo pos (starEach [] X.env)).any (·.1) = false := by rfl) : WE X (.Call (.Name x p0) [e] [] pos) Γ μ Q := fun Z σ H en ok tk => by
  refine toS (pe_callTy hc B.gl B.mg hv (pa_cons pe_S pa_nil he) h1 h2 he hpl) ?_
  exact h.use (Go.refl ok) en tk fun v H1 μ1 d g1 _ en1 i1 q1 => q1 Z _ _ H1 v g1 i1
theorem we_b2 {x : Str} {id : String} {r : List V → Hp → VK → Prop} (hc : CallR X.toCx (.builtin id) r) (B : Bl X x) (hv : bootBuiltins x = some (.builtin id))
    (h : WE X a Γ μ fun μ1 d => WE X b Γ μ1 fun μ2 d2 => ∀ Z μ0 H0 H v w, Go X.K Z μ0 H0 μ2 H → Is X.K (Av μ2 Z) H v d → Is X.K (Av μ2 Z) H w d2 → r [v, w] H (PostE X.K Z μ0 H0 Q))
    (h1 : x ≠ "__name__" := by decide) (h2 : (x == ("__debug__" : Str)) = false := by decide)
    (he : starEach [a, b] X.env = (false, eval a X.env) :: starEach [b] X.env := by rfl) (he2 : starEach [b] X.env = (false, eval b X.env) :: starEach [] X.env := by rfl) (hpl : (backTo pos (starEach [b] X.env)).any (·.1) = false := by rfl) : WE X (.Call (.Name x p0) [a, b] [] pos) Γ μ Q := fun Z σ H en ok tk => by
  refine toS (pe_callB hc B.gl B.mg hv (pa_cons pe_S (pa_cons pe_S pa_nil he2) he) h1 h2 he hpl) ?_
  refine h.use (Go.refl ok) en tk fun v H1 μ1 d g1 _ en1 i1 q1 => ?_
  exact q1.use g1 en1 tk fun w H2 μ2 d2 g2 g2' en2 i2 q2 => q2 Z _ _ H2 v w g2 (i1.mono g2'.fz) i2
/-- list(x): a list that stays as it is | one that may be changed -/
theorem we_listF (B : Bl X "list") (h : WE X e Γ μ fun μ1 x => SeqQ μ1 x fun ds => Q μ1 (.lst ds))
    (he : starEach [e] X.env = (false, eval e X.env) :: starEach [] X.env := by rfl) (hpl : (backTo pos (starEach [] X.env)).any (·.1) = false := by rfl) : WE X (.Call (.Name "list" p0) [e] [] pos) Γ μ Q := by
  refine we_t1 call_list_of B (by decide +kernel) ?_ (he := he) (hpl := hpl)
  refine h.mono fun μ1 d q1 => ?_
  intro Z μ0 H0 H v g i
  obtain ⟨ds, sq, q⟩ := q1
  obtain ⟨p, vs, rfl, s, t⟩ := sq.at g.ok i
  exact ⟨p, vs, rfl, s, fun l hl => ⟨μ1, _, g.trans (Go.frz g.ok hl _), Is.newL g.ok hl t, q⟩⟩
theorem we_listM (B : Bl X "list") (h : WE X e Γ μ fun μ1 x => SeqQ μ1 x fun ds => ∀ p, μ1 p = none → Q (updM μ1 p (.lst ds)) (.ref p))
    (he : starEach [e] X.env = (false, eval e X.env) :: starEach [] X.env := by rfl) (hpl : (backTo pos (starEach [] X.env)).any (·.1) = false := by rfl) : WE X (.Call (.Name "list" p0) [e] [] pos) Γ μ Q := by
  refine we_t1 call_list_of B (by decide +kernel) ?_ (he := he) (hpl := hpl)
  refine h.mono fun μ1 d q1 => ?_
  intro Z μ0 H0 H v g i
  obtain ⟨ds, sq, q⟩ := q1
  obtain ⟨p, vs, rfl, s, t⟩ := sq.at g.ok i
  exact ⟨p, vs, rfl, s, fun l hl => ⟨_, _, g.trans (Go.put g.ok (.lst ds) _ (.inl hl) fun m => ⟨vs, upd_same, m t⟩), .ref l, q l (g.ok.fresh hl).1⟩⟩
/-- int(x) of an int or a bool -/
def IntQ (x : D) (R : Int → Prop) : Prop := (∃ i, x = .int i ∧ R i) ∨ ∃ c : Bool, x = .bl c ∧ R (if c then 1 else 0)
theorem int_i {i : Int} {R : Int → Prop} (h : R i) : IntQ (.int i) R := .inl ⟨i, rfl, h⟩
theorem int_b {c : Bool} {R : Int → Prop} (h : R (if c then 1 else 0)) : IntQ (.bl c) R := .inr ⟨c, rfl, h⟩
theorem we_int1 (B : Bl X "int") (h : WE X e Γ μ fun μ1 x => IntQ x fun i => Q μ1 (.int i))
    (he : starEach [e] X.env = (false, eval e X.env) :: starEach [] X.env := by rfl) (hpl : (backTo pos (starEach [] X.env)).any (·.1) = false := by rfl) : WE X (.Call (.Name "int" p0) [e] [] pos) Γ μ Q := by
  refine we_t1 call_int1 B (by decide +kernel) ?_ (he := he) (hpl := hpl)
  refine h.mono fun μ1 d q1 => ?_
  intro Z μ0 H0 H v g i
  rcases q1 with ⟨n, rfl, q⟩ | ⟨n, rfl, q⟩
  · rw [isInt i]; exact .inl ⟨n, rfl, μ1, _, g, .int _, q⟩
  · rw [isBl i]; exact .inr ⟨n, rfl, μ1, _, g, .int _, q⟩
theorem we_abs (B : Bl X "abs") (h : WE X e Γ μ fun μ1 x => One x fun i => Q μ1 (.int (if i < 0 then -i else i)))
    (he : starEach [e] X.env = (false, eval e X.env) :: starEach [] X.env := by rfl) (hpl : (backTo pos (starEach [] X.env)).any (·.1) = false := by rfl) : WE X (.Call (.Name "abs" p0) [e] [] pos) Γ μ Q := by
  refine we_b1 call_abs B (by decide +kernel) ?_ (he := he) (hpl := hpl)
  refine h.mono fun μ1 d q1 => ?_
  intro Z μ0 H0 H v g i
  obtain ⟨n, rfl, q⟩ := q1
  rw [isInt i]; exact ⟨n, rfl, μ1, _, g, .int _, q⟩
theorem we_max2 (hc : X.calm = true) (B : Bl X "max") (h : WE X a Γ μ fun μ1 x => WE X b Γ μ1 fun μ2 y => Two x y fun i j => Q μ2 (.int (if j > i then j else i)))
    (he : starEach [a, b] X.env = (false, eval a X.env) :: starEach [b] X.env := by rfl) (he2 : starEach [b] X.env = (false, eval b X.env) :: starEach [] X.env := by rfl) (hpl : (backTo pos (starEach [b] X.env)).any (·.1) = false := by rfl) : WE X (.Call (.Name "max" p0) [a, b] [] pos) Γ μ Q := by
  refine we_b2 (call_max2 hc) B (by decide +kernel) ?_ (he := he) (he2 := he2) (hpl := hpl)
  refine h.mono fun μ1 d q1 => q1.mono fun μ2 d2 q2 => ?_
  intro Z μ0 H0 H v w g i j
  obtain ⟨n, m, rfl, rfl, q⟩ := q2
  rw [isInt i, isInt j]; exact ⟨n, m, rfl, μ2, _, g, .int _, q⟩
theorem we_min2 (hc : X.calm = true) (B : Bl X "min") (h : WE X a Γ μ fun μ1 x => WE X b Γ μ1 fun μ2 y => Two x y fun i j => Q μ2 (.int (if j < i then j else i)))
    (he : starEach [a, b] X.env = (false, eval a X.env) :: starEach [b] X.env := by rfl) (he2 : starEach [b] X.env = (false, eval b X.env) :: starEach [] X.env := by rfl) (hpl : (backTo pos (starEach [b] X.env)).any (·.1) = false := by rfl) : WE X (.Call (.Name "min" p0) [a, b] [] pos) Γ μ Q := by
  refine we_b2 (call_min2 hc) B (by decide +kernel) ?_ (he := he) (he2 := he2) (hpl := hpl)
  refine h.mono fun μ1 d q1 => q1.mono fun μ2 d2 q2 => ?_
  intro Z μ0 H0 H v w g i j
  obtain ⟨n, m, rfl, rfl, q⟩ := q2
  rw [isInt i, isInt j]; exact ⟨n, m, rfl, μ2, _, g, .int _, q⟩
theorem isInts {K : PySem.W.Frag} {A : Addr → Prop} {H : Hp} : ∀ {ns : List Int} {vs : List V}, IsA K A H vs (ns.map D.int) → vs = ns.map V.int
  | [], _, h => by cases h; rfl
  | n :: ns, _, h => by
    cases h with
    | cons h t => rw [isInt h, isInts t]; rfl
theorem isBls {K : PySem.W.Frag} {A : Addr → Prop} {H : Hp} : ∀ {ns : List Bool} {vs : List V}, IsA K A H vs (ns.map D.bl) → vs = ns.map V.bl
  | [], _, h => by cases h; rfl
  | n :: ns, _, h => by
    cases h with
    | cons h t => rw [isBl h, isBls t]; rfl
/-- a list to be read by a built-in -/
theorem SeqL.sq {K : PySem.W.Frag} {Z : Addr → Prop} {H : Hp} {x : D} {ds : List D} {v : V} (s : SeqL μ x ds) (ok : Ok K μ Z H) (i : Is K (Av μ Z) H v x) : ∃ p vs, v = .ref p ∧ SqL K H p vs ∧ IsA K (Av μ Z) H vs ds := by
  obtain ⟨p, rfl, at_⟩ := s.at ok i
  obtain ⟨vs, s1, t1⟩ := at_ Z μ H ok Fz.refl s.still
  exact ⟨p, vs, rfl, s1, t1⟩
theorem we_minL (hc : X.calm = true) (B : Bl X "min") (h : WE X e Γ μ fun μ1 x => ∃ ns : List Int, SeqL μ1 x (ns.map D.int) ∧ 0 < ns.length ∧ ∀ m, m ∈ ns → (∀ y, y ∈ ns → m ≤ y) → Q μ1 (.int m))
    (he : starEach [e] X.env = (false, eval e X.env) :: starEach [] X.env := by rfl) (hpl : (backTo pos (starEach [] X.env)).any (·.1) = false := by rfl) : WE X (.Call (.Name "min" p0) [e] [] pos) Γ μ Q := by
  refine we_b1 (cr_min hc) B (by decide +kernel) ?_ (he := he) (hpl := hpl)
  refine h.mono fun μ1 d q1 => ?_
  intro Z μ0 H0 H v g i
  obtain ⟨ns, sq, hl, q⟩ := q1
  obtain ⟨p, vs, rfl, s, t⟩ := sq.sq g.ok i
  rw [isInts t] at s
  exact ⟨p, ns, rfl, s, hl, fun m h1 h2 => ⟨μ1, _, g, .int _, q m h1 h2⟩⟩
theorem we_maxL (hc : X.calm = true) (B : Bl X "max") (h : WE X e Γ μ fun μ1 x => ∃ ns : List Int, SeqL μ1 x (ns.map D.int) ∧ 0 < ns.length ∧ ∀ m, m ∈ ns → (∀ y, y ∈ ns → y ≤ m) → Q μ1 (.int m))
    (he : starEach [e] X.env = (false, eval e X.env) :: starEach [] X.env := by rfl) (hpl : (backTo pos (starEach [] X.env)).any (·.1) = false := by rfl) : WE X (.Call (.Name "max" p0) [e] [] pos) Γ μ Q := by
  refine we_b1 (cr_max hc) B (by decide +kernel) ?_ (he := he) (hpl := hpl)
  refine h.mono fun μ1 d q1 => ?_
  intro Z μ0 H0 H v g i
  obtain ⟨ns, sq, hl, q⟩ := q1
  obtain ⟨p, vs, rfl, s, t⟩ := sq.sq g.ok i
  rw [isInts t] at s
  exact ⟨p, ns, rfl, s, hl, fun m h1 h2 => ⟨μ1, _, g, .int _, q m h1 h2⟩⟩
theorem we_allL (hc : X.calm = true) (B : Bl X "all") (h : WE X e Γ μ fun μ1 x => ∃ bs : List Bool, SeqL μ1 x (bs.map D.bl) ∧ Q μ1 (.bl (bs.all id)))
    (he : starEach [e] X.env = (false, eval e X.env) :: starEach [] X.env := by rfl) (hpl : (backTo pos (starEach [] X.env)).any (·.1) = false := by rfl) : WE X (.Call (.Name "all" p0) [e] [] pos) Γ μ Q := by
  refine we_b1 (cr_all hc) B (by decide +kernel) ?_ (he := he) (hpl := hpl)
  refine h.mono fun μ1 d q1 => ?_
  intro Z μ0 H0 H v g i
  obtain ⟨ns, sq, q⟩ := q1
  obtain ⟨p, vs, rfl, s, t⟩ := sq.sq g.ok i
  rw [isBls t] at s
  exact ⟨p, ns, rfl, s, μ1, _, g, .bl _, q⟩
theorem we_anyL (hc : X.calm = true) (B : Bl X "any") (h : WE X e Γ μ fun μ1 x => ∃ bs : List Bool, SeqL μ1 x (bs.map D.bl) ∧ Q μ1 (.bl (bs.any id)))
    (he : starEach [e] X.env = (false, eval e X.env) :: starEach [] X.env := by rfl) (hpl : (backTo pos (starEach [] X.env)).any (·.1) = false := by rfl) : WE X (.Call (.Name "any" p0) [e] [] pos) Γ μ Q := by
  refine we_b1 (cr_any hc) B (by decide +kernel) ?_ (he := he) (hpl := hpl)
  refine h.mono fun μ1 d q1 => ?_
  intro Z μ0 H0 H v g i
  obtain ⟨ns, sq, q⟩ := q1
  obtain ⟨p, vs, rfl, s, t⟩ := sq.sq g.ok i
  rw [isBls t] at s
  exact ⟨p, ns, rfl, s, μ1, _, g, .bl _, q⟩
theorem we_sumL (hc : X.calm = true) (B : Bl X "sum") (h : WE X e Γ μ fun μ1 x => ∃ bs : List Int, SeqL μ1 x (bs.map D.int) ∧ Q μ1 (.int bs.sum))
    (he : starEach [e] X.env = (false, eval e X.env) :: starEach [] X.env := by rfl) (hpl : (backTo pos (starEach [] X.env)).any (·.1) = false := by rfl) : WE X (.Call (.Name "sum" p0) [e] [] pos) Γ μ Q := by
  refine we_b1 (cr_sum hc) B (by decide +kernel) ?_ (he := he) (hpl := hpl)
  refine h.mono fun μ1 d q1 => ?_
  intro Z μ0 H0 H v g i
  obtain ⟨ns, sq, q⟩ := q1
  obtain ⟨p, vs, rfl, s, t⟩ := sq.sq g.ok i
  rw [isInts t] at s
  exact ⟨p, ns, rfl, s, μ1, _, g, .int _, q⟩
end
end DL

set_option Elab.async false
set_option linter.all false
set_option maxRecDepth 100000
set_option maxHeartbeats 2000000
namespace DL
open PySem PySem.Spec PyProof.Rows L2

mutual
def pyD : D → PyData
  | .non => .none
  | .bl b => .bool b
  | .int i => .int i
  | .str x => .str x
  | .lst ds => .list (pyDs ds)
  | .tup ds => .tuple (pyDs ds)
  | _ => .none
def pyDs : List D → List PyData
  | [] => []
  | d :: r => pyD d :: pyDs r
end
/-- scalars, lists and tuples at most n deep -/
def shD : Nat → D → Bool
  | _, .non => true
  | _, .bl _ => true
  | _, .int _ => true
  | _, .str x => PyData.canLay0 (.str x)
  | n + 1, .lst ds => ds.all (shD n)
  | n + 1, .tup ds => ds.all (shD n)
  | _, _ => false
section
variable {K : PySem.W.Frag} {A : Addr → Prop} {H : Hp}
theorem dp_all {n : Nat} (ih : ∀ {d : D} {v : V}, shD n d = true → Is K A H v d → Dp K H v (pyD d)) : ∀ {ds : List D} {vs : List V}, ds.all (shD n) = true → IsA K A H vs ds → DpAll K H vs (pyDs ds)
  | [], _, _, h => by cases h; exact .nil
  | d :: ds, _, s, h => by
    rw [List.all_cons, Bool.and_eq_true] at s
    cases h with
    | cons h t => exact .cons (ih s.1 h) (dp_all ih s.2 t)
theorem dp_of : ∀ (n : Nat) {d : D} {v : V}, shD n d = true → Is K A H v d → Dp K H v (pyD d) := by
  intro n
  induction n with
  | zero =>
    intro d v s i
    cases i <;> first | exact .non | exact .bl _ | exact .int _ | exact .str _ | simp [shD] at s
  | succ n ih =>
    intro d v s i
    cases i with
    | non => exact .non
    | bl => exact .bl _
    | int => exact .int _
    | str => exact .str _
    | lst h t => exact .lst h.sq (dp_all (fun s i => ih s i) (by simpa [shD] using s) t)
    | tup h t => exact .tup h.sq (dp_all (fun s i => ih s i) (by simpa [shD] using s) t)
    | _ => simp [shD] at s
end
theorem lay_all {n : Nat} (ih : ∀ {d : D}, shD n d = true → (pyD d).canLay0 = true ∧ (pyD d).depth ≤ n) : ∀ {ds : List D}, ds.all (shD n) = true → PyData.canLayAll0 (pyDs ds) = true ∧ PyData.depthAll (pyDs ds) ≤ n
  | [], _ => ⟨rfl, Nat.zero_le _⟩
  | d :: ds, s => by
    rw [List.all_cons, Bool.and_eq_true] at s
    obtain ⟨h1, h2⟩ := ih s.1
    obtain ⟨h3, h4⟩ := lay_all ih s.2
    refine ⟨?_, Nat.max_le.mpr ⟨h2, h4⟩⟩
    show (PyData.canLay0 (pyD d) && PyData.canLayAll0 (pyDs ds)) = true
    rw [h1, h3]
    rfl
theorem lay_of : ∀ (n : Nat) {d : D}, shD n d = true → (pyD d).canLay0 = true ∧ (pyD d).depth ≤ n := by
  intro n
  induction n with
  | zero =>
    intro d s
    cases d <;> simp [shD] at s <;> first | exact ⟨rfl, Nat.le_refl _⟩ | exact ⟨s, Nat.le_refl _⟩
  | succ n ih =>
    intro d s
    cases d with
    | lst ds =>
      obtain ⟨h1, h2⟩ := lay_all (fun s => ih s) (by simpa [shD] using s : ds.all (shD n) = true)
      exact ⟨h1, Nat.succ_le_succ h2⟩
    | tup ds =>
      obtain ⟨h1, h2⟩ := lay_all (fun s => ih s) (by simpa [shD] using s : ds.all (shD n) = true)
      exact ⟨h1, Nat.succ_le_succ h2⟩
    | non => exact ⟨rfl, Nat.zero_le _⟩
    | bl => exact ⟨rfl, Nat.zero_le _⟩
    | int => exact ⟨rfl, Nat.zero_le _⟩
    | str => exact ⟨s, Nat.zero_le _⟩
    | _ => simp [shD] at s
theorem shaped_of {n : Nat} {d : D} (h : shD n d = true) (hn : n ≤ 64) : SeqAt.shaped (pyD d) = true := by
  obtain ⟨h1, h2⟩ := lay_of n h
  unfold SeqAt.shaped
  rw [h1, decide_eq_true (Nat.le_trans h2 hn)]
  rfl
/-- d as the fixed data that it is now -/
def Vw (μ : Mu) (x d : D) : Prop := x = d ∨ ∃ p ds, x = .ref p ∧ μ p = some (.lst ds) ∧ d = .lst ds
theorem Vw.m {μ : Mu} {p : Addr} {ds : List D} (h : μ p = some (.lst ds)) : Vw μ (.ref p) (.lst ds) := .inr ⟨p, ds, rfl, h, rfl⟩
theorem Vw.f {μ : Mu} {d : D} : Vw μ d d := .inl rfl
theorem Vw.dp {K : PySem.W.Frag} {Z : Addr → Prop} {H : Hp} {μ : Mu} {x d : D} {v : V} {n : Nat} (h : Vw μ x d) (s : shD n d = true) (ok : Ok K μ Z H) (i : Is K (Av μ Z) H v x) : Dp K H v (pyD d) := by
  rcases h with rfl | ⟨p, ds, rfl, e, rfl⟩
  · exact dp_of n s i
  · cases isRef i
    obtain ⟨vs, hv, t⟩ := ok.at_ _ _ e
    cases n with
    | zero => simp [shD] at s
    | succ n => exact .lst (.of hv) (dp_all (fun s i => dp_of n s i) (by simpa [shD] using s) t)
def eqvD (x y : D) : Bool := PyData.eqv (pyD x) (pyD y)
theorem eqvD_self {n : Nat} {d : D} (h : shD n d = true) : eqvD d d = true := SeqAt.eqv_refl _ (lay_of n h).1
/-- == with its outcome -/
def EqDQ (μ : Mu) (x y : D) (R : Bool → Prop) : Prop := ∃ d e n m, Vw μ x d ∧ Vw μ y e ∧ shD n d = true ∧ shD m e = true ∧ n ≤ 64 ∧ m ≤ 64 ∧ R (eqvD d e)
section
variable {X : Cz} {Γ Γ' : Gm} {μ μ' : Mu} {a b c e o : Expr} {lo hi : Option Expr} {es : List Expr} {pos p0 p2 : Pos} {Q : Mu → D → Prop} {k : Kt}
theorem we_eqD (hu : X.A.units + 64 < cLine) (h : WE X a Γ μ fun μ1 x => WE X b Γ μ1 fun μ2 y => EqDQ μ2 x y fun c => Q μ2 (.bl c)) : WE X (.Compare a [.Eq] [b] pos) Γ μ Q := fun Z σ H en ok tk => by
  refine toS (pe_cmpR (op_eqD hu) pe_S pe_S (nomark _)) ?_
  refine h.use (Go.refl ok) en tk fun v H1 μ1 d g1 _ en1 i1 q1 => ?_
  refine q1.use g1 en1 tk fun w H2 μ2 d2 g2 g2' en2 i2 q2 => ?_
  obtain ⟨d, e, n, m, h1, h2, s1, s2, hn, hm, q⟩ := q2
  exact ⟨_, _, h1.dp s1 g2.ok (i1.mono g2'.fz), h2.dp s2 g2.ok i2, shaped_of s1 hn, shaped_of s2 hm, μ2, _, g2, .bl _, q⟩
theorem we_neD (hu : X.A.units + 64 < cLine) (h : WE X a Γ μ fun μ1 x => WE X b Γ μ1 fun μ2 y => EqDQ μ2 x y fun c => Q μ2 (.bl !c)) : WE X (.Compare a [.NotEq] [b] pos) Γ μ Q := fun Z σ H en ok tk => by
  refine toS (pe_cmpR (op_neD hu) pe_S pe_S (nomark _)) ?_
  refine h.use (Go.refl ok) en tk fun v H1 μ1 d g1 _ en1 i1 q1 => ?_
  refine q1.use g1 en1 tk fun w H2 μ2 d2 g2 g2' en2 i2 q2 => ?_
  obtain ⟨d, e, n, m, h1, h2, s1, s2, hn, hm, q⟩ := q2
  exact ⟨_, _, h1.dp s1 g2.ok (i1.mono g2'.fz), h2.dp s2 g2.ok i2, shaped_of s1 hn, shaped_of s2 hm, μ2, _, g2, .bl _, q⟩
theorem wt_eqD {Q : Mu → Bool → Prop} (hu : X.A.units + 64 < cLine) (h : WE X a Γ μ fun μ1 x => WE X b Γ μ1 fun μ2 y => EqDQ μ2 x y fun c => Q μ2 c) : WT X (.Compare a [.Eq] [b] pos) Γ μ Q := fun Z σ H en ok tk => by
  refine toT (pt_cmpR (op_eqD hu) pe_S pe_S (nomark _)) ?_
  refine h.use (Go.refl ok) en tk fun v H1 μ1 d g1 _ en1 i1 q1 => ?_
  refine q1.use g1 en1 tk fun w H2 μ2 d2 g2 g2' en2 i2 q2 => ?_
  obtain ⟨d, e, n, m, h1, h2, s1, s2, hn, hm, q⟩ := q2
  exact ⟨_, _, h1.dp s1 g2.ok (i1.mono g2'.fz), h2.dp s2 g2.ok i2, shaped_of s1 hn, shaped_of s2 hm, _, rfl, μ2, g2, q⟩
theorem wt_neD {Q : Mu → Bool → Prop} (hu : X.A.units + 64 < cLine) (h : WE X a Γ μ fun μ1 x => WE X b Γ μ1 fun μ2 y => EqDQ μ2 x y fun c => Q μ2 !c) : WT X (.Compare a [.NotEq] [b] pos) Γ μ Q := fun Z σ H en ok tk => by
  refine toT (pt_cmpR (op_neD hu) pe_S pe_S (nomark _)) ?_
  refine h.use (Go.refl ok) en tk fun v H1 μ1 d g1 _ en1 i1 q1 => ?_
  refine q1.use g1 en1 tk fun w H2 μ2 d2 g2 g2' en2 i2 q2 => ?_
  obtain ⟨d, e, n, m, h1, h2, s1, s2, hn, hm, q⟩ := q2
  exact ⟨_, _, h1.dp s1 g2.ok (i1.mono g2'.fz), h2.dp s2 g2.ok i2, shaped_of s1 hn, shaped_of s2 hm, _, rfl, μ2, g2, q⟩
def SO (X : Cx) (e : Option Expr) (σ : L2.St) (H : Hp) (Q : Option Int → Hp → Prop) : Prop := ∀ pins s, Inv X pins σ H s → wpAny (model X.prog X.w) X.A (evalPart e X.env) (fun u s' => ∃ o H', Inv X pins σ H' s' ∧ IsPart u o ∧ Q o H') X.xe s
theorem po_S {X : Cx} {e : Option Expr} : PO X e (SO X e) := ⟨fun _ _ _ _ _ I h => h _ _ I⟩
theorem toO {X : Cx} {e : Option Expr} {t : TO} {σ : L2.St} {H : Hp} {Q : Option Int → Hp → Prop} (p : PO X e t) (h : t σ H Q) : SO X e σ H Q := fun _ _ I => p.run _ _ _ _ _ I h
theorem SO.mono {X : Cx} {e : Option Expr} {σ : L2.St} {H : Hp} {Q Q' : Option Int → Hp → Prop} (h : SO X e σ H Q) (f : ∀ v H', Q v H' → Q' v H') : SO X e σ H Q' := fun pins s I => thn (h pins s I) fun _ _ ⟨v, H', I', r, q⟩ => ⟨v, H', I', r, f _ _ q⟩
def WO (X : Cz) (e : Option Expr) (Γ : Gm) (μ : Mu) (Q : Mu → Option Int → Prop) : Prop := ∀ Z σ H, En X.K (Av μ Z) H σ Γ → Ok X.K μ Z H → Tk X Z μ H → SO X e σ H (fun o H' => ∃ μ', Go X.K Z μ H μ' H' ∧ Q μ' o)
theorem wo_none {Q : Mu → Option Int → Prop} (q : Q μ none) : WO X none Γ μ Q := fun Z σ H en ok tk => toO po_none ⟨μ, Go.refl ok, q⟩
theorem wo_some {Q : Mu → Option Int → Prop} (h : WE X e Γ μ fun μ1 x => One x fun i => Q μ1 (some i)) : WO X (some e) Γ μ Q := fun Z σ H en ok tk => by
  refine toO (po_some pe_S) ?_
  refine h.use (Go.refl ok) en tk fun v H1 μ1 d g1 _ en1 i1 q1 => ?_
  obtain ⟨i, rfl, q⟩ := q1
  rw [isInt i1]
  exact ⟨i, rfl, μ1, g1, q⟩
theorem WO.use {Z : Addr → Prop} {σ : L2.St} {H H0 : Hp} {μ0 : Mu} {Q : Mu → Option Int → Prop} (h : WO X lo Γ μ Q) (g : Go X.K Z μ0 H0 μ H) (en : En X.K (Av μ Z) H σ Γ) (tk : Tk X Z μ0 H0) {R : Option Int → Hp → Prop}
    (k : ∀ b H1 μ1, Go X.K Z μ0 H0 μ1 H1 → Go X.K Z μ H μ1 H1 → En X.K (Av μ1 Z) H1 σ Γ → Q μ1 b → R b H1) : SO X lo σ H R :=
  (h Z σ H en g.ok (tk.up g)).mono fun b H1 ⟨μ1, g1, q⟩ => k b H1 μ1 (g.trans g1) g1 (en.mono g1.fz) q
def cutD (ds : List D) (lo hi : Option Int) : List D := (ds.drop (HT.sIx ds.length 0 lo)).take (HT.sIx ds.length ds.length hi - HT.sIx ds.length 0 lo)
theorem cut_is {K : PySem.W.Frag} {A : Addr → Prop} {H : Hp} {vs : List V} {ds : List D} (t : IsA K A H vs ds) (l u : Option Int) : IsA K A H (cutV vs l u) (cutD ds l u) := by
  unfold cutV cutD
  rw [t.length]
  exact (t.drop _).take _
theorem we_slT (h : WE X a Γ μ fun μ1 x => WO X lo Γ μ1 fun μ2 l => WO X hi Γ μ2 fun μ3 u => ∃ ds, x = .tup ds ∧ Q μ3 (.tup (cutD ds l u))) : WE X (.Subscript a (.Slice lo hi none p2) pos) Γ μ Q := fun Z σ H en ok tk => by
  refine toS (pe_slice sl_tupA pe_S po_S po_S) ?_
  refine h.use (Go.refl ok) en tk fun v H1 μ1 d g1 _ en1 i1 q1 => ?_
  refine q1.use g1 en1 tk fun l H2 μ2 g2 g2' en2 q2 => ?_
  refine q2.use g2 en2 tk fun u H3 μ3 g3 g3' en3 q3 => ?_
  obtain ⟨ds, rfl, q⟩ := q3
  have i3 := (i1.mono g2'.fz).mono g3'.fz
  cases i3 with
  | tup r t =>
    refine ⟨_, _, rfl, r.sq, fun hw => ⟨μ3, _, g3, ?_, q⟩, fun _ p hp => ⟨μ3, _, g3.trans (Go.frz g3.ok hp _), Is.newT g3.ok hp (cut_is t _ _), q⟩⟩
    rw [t.length] at hw
    have e : cutD ds l u = ds := by
      unfold cutD
      rw [hw.1, hw.2]
      simp
    rw [e]
    exact .tup r t
/-- xs[l:u], a list that stays as it is | one that may be changed -/
theorem we_slL (h : WE X a Γ μ fun μ1 x => WO X lo Γ μ1 fun μ2 l => WO X hi Γ μ2 fun μ3 u => ∃ ds, SeqL μ3 x ds ∧ Q μ3 (.lst (cutD ds l u))) : WE X (.Subscript a (.Slice lo hi none p2) pos) Γ μ Q := fun Z σ H en ok tk => by
  refine toS (pe_slice sl_list pe_S po_S po_S) ?_
  refine h.use (Go.refl ok) en tk fun v H1 μ1 d g1 _ en1 i1 q1 => ?_
  refine q1.use g1 en1 tk fun l H2 μ2 g2 g2' en2 q2 => ?_
  refine q2.use g2 en2 tk fun u H3 μ3 g3 g3' en3 q3 => ?_
  obtain ⟨ds, sq, q⟩ := q3
  obtain ⟨p, vs, rfl, s, t⟩ := sq.sq g3.ok ((i1.mono g2'.fz).mono g3'.fz)
  exact ⟨p, vs, rfl, s, fun r hr => ⟨μ3, _, g3.trans (Go.frz g3.ok hr _), Is.newL g3.ok hr (cut_is t _ _), q⟩⟩
theorem we_addT (h : WE X a Γ μ fun μ1 x => WE X b Γ μ1 fun μ2 y => ∃ ds es, x = .tup ds ∧ y = .tup es ∧ Req (ds.length + es.length ≤ sizeLine) (Q μ2 (.tup (ds ++ es)))) : WE X (.BinOp a .Add b pos) Γ μ Q := fun Z σ H en ok tk => by
  refine toS (pe_op op_catA pe_S pe_S) ?_
  refine h.use (Go.refl ok) en tk fun v H1 μ1 d g1 _ en1 i1 q1 => ?_
  refine q1.use g1 en1 tk fun w H2 μ2 d2 g2 g2' en2 i2 q2 => ?_
  obtain ⟨ds, es, rfl, rfl, hl, q⟩ := q2
  cases i1.mono g2'.fz with
  | tup r t =>
    cases i2 with
    | tup r2 t2 =>
      refine ⟨_, _, _, _, rfl, rfl, r.sq, r2.sq, by rw [t.length, t2.length]; exact hl, fun e => ⟨μ2, _, g2, ?_, q⟩, fun _ e => ⟨μ2, _, g2, ?_, q⟩, fun _ _ p hp => ⟨μ2, _, g2.trans (Go.frz g2.ok hp _), Is.newT g2.ok hp (t.append t2), q⟩⟩
      · subst e; cases t; exact .tup r2 t2
      · subst e; cases t2; rw [List.append_nil]; exact .tup r t
def rCatR : R2 := fun x y H Q => ∃ l b xs zs, x = .ref l ∧ y = .ref b ∧ Rd H l (.lst xs) ∧ Rd H b (.lst zs) ∧ xs.length + zs.length ≤ sizeLine ∧ ∀ p, H p = none → Q (.ref p) (upd H p (.lst (xs ++ zs)))
theorem op_catR {X : Cx} : OpR X (binaryOp .Add) rCatR := by
  intro pins s σ H x y v u Q I rx ry h
  obtain ⟨l, b, xs, zs, rfl, rfl, hH, hB, hz, q⟩ := h
  cases rx
  cases ry
  obtain ⟨z, its, n, r, e⟩ := hH.ok I.hok
  obtain ⟨z2, its2, n2, r2, e2⟩ := hB.ok I.hok
  have hl := r.length
  have hl2 := r2.length
  refine PySem.P.add_list e e2 ?_ (by rw [List.size_toArray, List.size_toArray]; omega)
  have ea : its.toArray ++ its2.toArray = (its ++ its2).toArray := by simp
  rw [ea]
  exact ⟨.ref _, _, I.lnew (t' := s.toks) (r.append r2) (by rw [List.length_append]; omega), rfl, q _ I.fresh⟩
/-- a list, not the law's own script -/
def SeqR (μ : Mu) (x : D) (ds : List D) : Prop := x = .lst ds ∨ ∃ p, x = .ref p ∧ μ p = some (.lst ds)
theorem SeqR.rd {K : PySem.W.Frag} {Z : Addr → Prop} {H : Hp} {x : D} {ds : List D} {v : V} (s : SeqR μ x ds) (ok : Ok K μ Z H) (i : Is K (Av μ Z) H v x) : ∃ p vs, v = .ref p ∧ Rd H p (.lst vs) ∧ IsA K (Av μ Z) H vs ds := by
  rcases s with rfl | ⟨p, rfl, e⟩
  · cases i with
    | lst r t => exact ⟨_, _, rfl, r.2, t⟩
  · cases isRef i
    obtain ⟨vs, hv, t⟩ := ok.at_ _ _ e
    exact ⟨p, vs, rfl, .of hv, t⟩
theorem we_addL (h : WE X a Γ μ fun μ1 x => WE X b Γ μ1 fun μ2 y => ∃ ds es, SeqR μ2 x ds ∧ SeqR μ2 y es ∧ Req (ds.length + es.length ≤ sizeLine) (Q μ2 (.lst (ds ++ es)))) : WE X (.BinOp a .Add b pos) Γ μ Q := fun Z σ H en ok tk => by
  refine toS (pe_op op_catR pe_S pe_S) ?_
  refine h.use (Go.refl ok) en tk fun v H1 μ1 d g1 _ en1 i1 q1 => ?_
  refine q1.use g1 en1 tk fun w H2 μ2 d2 g2 g2' en2 i2 q2 => ?_
  obtain ⟨ds, es, s1, s2, hl, q⟩ := q2
  obtain ⟨p, vs, rfl, r1, t1⟩ := s1.rd g2.ok (i1.mono g2'.fz)
  obtain ⟨p', vs', rfl, r2, t2⟩ := s2.rd g2.ok i2
  exact ⟨_, _, _, _, rfl, rfl, r1, r2, by rw [t1.length, t2.length]; exact hl, fun r hr => ⟨μ2, _, g2.trans (Go.frz g2.ok hr _), Is.newL g2.ok hr (t1.append t2), q⟩⟩
theorem we_addLM (h : WE X a Γ μ fun μ1 x => WE X b Γ μ1 fun μ2 y => ∃ ds es, SeqR μ2 x ds ∧ SeqR μ2 y es ∧ Req (ds.length + es.length ≤ sizeLine) (∀ p, μ2 p = none → Q (updM μ2 p (.lst (ds ++ es))) (.ref p))) : WE X (.BinOp a .Add b pos) Γ μ Q := fun Z σ H en ok tk => by
  refine toS (pe_op op_catR pe_S pe_S) ?_
  refine h.use (Go.refl ok) en tk fun v H1 μ1 d g1 _ en1 i1 q1 => ?_
  refine q1.use g1 en1 tk fun w H2 μ2 d2 g2 g2' en2 i2 q2 => ?_
  obtain ⟨ds, es, s1, s2, hl, q⟩ := q2
  obtain ⟨p, vs, rfl, r1, t1⟩ := s1.rd g2.ok (i1.mono g2'.fz)
  obtain ⟨p', vs', rfl, r2, t2⟩ := s2.rd g2.ok i2
  refine ⟨_, _, _, _, rfl, rfl, r1, r2, by rw [t1.length, t2.length]; exact hl, fun r hr => ⟨_, _, g2.trans (Go.put g2.ok (.lst (ds ++ es)) _ (.inl hr) fun m => ⟨_, upd_same, m (t1.append t2)⟩), .ref r, q r (g2.ok.fresh hr).1⟩⟩
/-- xs.clear() -/
theorem we_clear {ap : Pos} (h : WE X o Γ μ fun μ1 x => LstAt μ1 x fun p => Q (updM μ1 p (.lst [])) .non)
    (hbase : attributeBase o "clear" X.env (eval o X.env) = eval o X.env := by rfl) (hline : (ap.endLine == pos.line) = true := by rfl) :
    WE X (.Call (.Attribute o "clear" ap) [] [] pos) Γ μ Q := fun Z σ H en ok tk => by
  refine toS (pe_bm0 PySem.F.plainAttrs_list PySem.F.slot_list_clear PySem.F.type_list_clear mt_clear pe_S hbase hline) ?_
  refine h.use (Go.refl ok) en tk fun v H1 μ1 d g1 _ en1 i1 q1 => ?_
  obtain ⟨p, rfl, ⟨ds1, e1⟩, q⟩ := q1
  obtain ⟨vs1, e2, _⟩ := g1.ok.at_ p _ e1
  rw [isRef i1]
  exact ⟨tyL e2, p, vs1, rfl, rfl, e2, _, .non, g1.trans (Go.put g1.ok (.lst []) (.lst []) (.inr ⟨_, e1⟩) fun m => ⟨_, upd_same, .nil⟩), .non, q⟩
end
end DL

set_option Elab.async false
set_option linter.all false
set_option maxRecDepth 100000
set_option maxHeartbeats 2000000
namespace DL
open PySem PySem.Spec PyProof.Rows L2

/-- the place of a name -/
def ixS (f : Str) : List Str → Option Nat
  | [] => none
  | g :: r => if g = f then some 0 else (ixS f r).map (· + 1)
theorem look_some {α : Type} {f : Str} : ∀ {fs : List (Str × α)} {i : Nat} {d : α}, ixS f (fs.map (·.1)) = some i → (fs.map (·.2))[i]? = some d → fs.lookup f = some d
  | [], i, d, h, _ => by cases h
  | (g, x) :: r, i, d, h, e => by
    change (if g = f then some 0 else (ixS f (r.map (·.1))).map (· + 1)) = _ at h
    by_cases hg : g = f
    · subst hg
      rw [if_pos rfl] at h
      cases h
      simp only [List.map_cons, List.getElem?_cons_zero, Option.some.injEq] at e
      subst e
      simp [List.lookup]
    · rw [if_neg hg] at h
      cases q : ixS f (r.map (·.1)) with
      | none => rw [q] at h; cases h
      | some j =>
        rw [q] at h
        cases h
        have e' : (r.map (·.2))[j]? = some d := by simpa using e
        have := look_some q e'
        have hb : (f == g) = false := by simpa using fun z => hg z.symm
        simp [List.lookup, hb, this]
theorem look_none {α : Type} {f : Str} : ∀ {fs : List (Str × α)}, ixS f (fs.map (·.1)) = none → fs.lookup f = none
  | [], _ => rfl
  | (g, x) :: r, h => by
    change (if g = f then some 0 else (ixS f (r.map (·.1))).map (· + 1)) = _ at h
    by_cases hg : g = f
    · rw [if_pos hg] at h; cases h
    · rw [if_neg hg] at h
      have q : ixS f (r.map (·.1)) = none := by
        cases q : ixS f (r.map (·.1)) with
        | none => rfl
        | some j => rw [q] at h; cases h
      have hb : (f == g) = false := by simpa using fun z => hg z.symm
      simp [List.lookup, hb, look_none q]
theorem putF_new {f : Str} {v : V} : ∀ {fs : List (Str × V)}, ixS f (fs.map (·.1)) = none → putF f v fs = fs ++ [(f, v)]
  | [], _ => rfl
  | (g, x) :: r, h => by
    change (if g = f then some 0 else (ixS f (r.map (·.1))).map (· + 1)) = _ at h
    by_cases hg : g = f
    · rw [if_pos hg] at h; cases h
    · rw [if_neg hg] at h
      have q : ixS f (r.map (·.1)) = none := by
        cases q : ixS f (r.map (·.1)) with
        | none => rfl
        | some j => rw [q] at h; cases h
      unfold putF
      rw [if_neg hg, putF_new q]
      rfl
theorem putF_old {f : Str} {v : V} : ∀ {fs : List (Str × V)} {i : Nat}, ixS f (fs.map (·.1)) = some i → (putF f v fs).map (·.1) = fs.map (·.1) ∧ (putF f v fs).map (·.2) = (fs.map (·.2)).set i v
  | [], _, h => by cases h
  | (g, x) :: r, i, h => by
    change (if g = f then some 0 else (ixS f (r.map (·.1))).map (· + 1)) = _ at h
    unfold putF
    by_cases hg : g = f
    · rw [if_pos hg] at h
      cases h
      rw [if_pos hg]
      exact ⟨rfl, rfl⟩
    · rw [if_neg hg] at h
      cases q : ixS f (r.map (·.1)) with
      | none => rw [q] at h; cases h
      | some j =>
        rw [q] at h
        cases h
        obtain ⟨h1, h2⟩ := putF_old (v := v) q
        rw [if_neg hg]
        exact ⟨by simp [h1], by simp [h2]⟩
/-- what the text says of a class -/
structure Kls (K : PySem.W.Frag) (C : Addr) (names : List Str) : Prop where
  cl : Cls K C
  no : ∀ f ∈ names, NoAttr K C f
/-- an instance, fixed or not -/
def InsAt (μ : Mu) (x : D) (C : Addr) (gs : List (Str × D)) : Prop := x = .ins C gs ∨ ∃ p, x = .ref p ∧ μ p = some (.ins C gs)
theorem InsAt.at {K : PySem.W.Frag} {Z : Addr → Prop} {H : Hp} {μ : Mu} {x : D} {C : Addr} {gs : List (Str × D)} {v : V} (h : InsAt μ x C gs) (ok : Ok K μ Z H) (i : Is K (Av μ Z) H v x) :
    ∃ a dx fs, v = .ref a ∧ H a = some (.ins C dx fs) ∧ fs.map (·.1) = gs.map (·.1) ∧ IsA K (Av μ Z) H (fs.map (·.2)) (gs.map (·.2)) := by
  rcases h with rfl | ⟨p, rfl, e⟩
  · cases i with
    | ins n h hk t => exact ⟨_, _, _, rfl, h, hk, t⟩
  · cases isRef i
    obtain ⟨dx, fs, h, hk, t⟩ := ok.at_ _ _ e
    exact ⟨_, _, _, rfl, h, hk, t⟩
/-- a field read -/
def FldQ (K : PySem.W.Frag) (μ : Mu) (x : D) (f : Str) (R : D → Prop) : Prop := ∃ C gs i d, InsAt μ x C gs ∧ Cls K C ∧ NoAttr K C f ∧ ixS f (gs.map (·.1)) = some i ∧ (gs.map (·.2))[i]? = some d ∧ R d
theorem fld_f {K : PySem.W.Frag} {μ : Mu} {C : Addr} {names : List Str} {gs : List (Str × D)} {f : Str} {i : Nat} {d : D} {R : D → Prop} (T : Kls K C names) (e : ixS f (gs.map (·.1)) = some i) (hf : f ∈ names) (h : (gs.map (·.2))[i]? = some d) (r : R d) : FldQ K μ (.ins C gs) f R :=
  ⟨C, gs, i, d, .inl rfl, T.cl, T.no f hf, e, h, r⟩
theorem fld_m {K : PySem.W.Frag} {μ : Mu} {p C : Addr} {names : List Str} {gs : List (Str × D)} {f : Str} {i : Nat} {d : D} {R : D → Prop} (m : μ p = some (.ins C gs)) (T : Kls K C names) (e : ixS f (gs.map (·.1)) = some i) (hf : f ∈ names) (h : (gs.map (·.2))[i]? = some d) (r : R d) : FldQ K μ (.ref p) f R :=
  ⟨C, gs, i, d, .inr ⟨p, rfl, m⟩, T.cl, T.no f hf, e, h, r⟩
/-- a field stored -/
def PutQ (K : PySem.W.Frag) (μ : Mu) (x : D) (f : Str) (d : D) (R : Mu → Prop) : Prop := ∃ p C gs gs', x = .ref p ∧ μ p = some (.ins C gs) ∧ Cls K C ∧ NoAttr K C f ∧ gs.length < 1000 ∧
  ((ixS f (gs.map (·.1)) = none ∧ gs' = gs ++ [(f, d)]) ∨ ∃ i, ixS f (gs.map (·.1)) = some i ∧ gs'.map (·.1) = gs.map (·.1) ∧ gs'.map (·.2) = (gs.map (·.2)).set i d) ∧ R (updM μ p (.ins C gs'))
theorem put_n {K : PySem.W.Frag} {μ : Mu} {p C : Addr} {names : List Str} {gs : List (Str × D)} {f : Str} {d : D} {R : Mu → Prop} (m : μ p = some (.ins C gs)) (T : Kls K C names) (e : ixS f (gs.map (·.1)) = none) (hf : f ∈ names) (hl : gs.length < 1000) (r : R (updM μ p (.ins C (gs ++ [(f, d)])))) : PutQ K μ (.ref p) f d R :=
  ⟨p, C, gs, _, rfl, m, T.cl, T.no f hf, hl, .inl ⟨e, rfl⟩, r⟩
theorem put_o {K : PySem.W.Frag} {μ : Mu} {p C : Addr} {names : List Str} {gs gs' : List (Str × D)} {f : Str} {i : Nat} {d : D} {R : Mu → Prop} (m : μ p = some (.ins C gs)) (T : Kls K C names) (e : ixS f (gs.map (·.1)) = some i) (hf : f ∈ names) (hl : gs.length < 1000) (h1 : gs'.map (·.1) = gs.map (·.1)) (h2 : gs'.map (·.2) = (gs.map (·.2)).set i d) (r : R (updM μ p (.ins C gs'))) : PutQ K μ (.ref p) f d R :=
  ⟨p, C, gs, gs', rfl, m, T.cl, T.no f hf, hl, .inr ⟨i, e, h1, h2⟩, r⟩
/-- a class called, a method called -/
structure Ck (X : Cz) (x : Str) (C : Addr) (s : Spc) : Prop where
  mono : s.Mono
  ex : ∃ k f fd ps, Mk X.K C f ∧ FnOk X.prog X.w X.K X.mg X.base (L2.CX X.prog X.w) k f fd ps (lift X.K s) ∧ Room (k + 1) X.A ∧ X.mg x = some (.ref C) ∧ Binds X.K fd ps []
  gl : Gl X x
  db : (x == ("__debug__" : Str)) = false
structure Cm (X : Cz) (C : Addr) (m : Str) (s : Spc) : Prop where
  mono : s.Mono
  cl : Cls X.K C
  ex : ∃ k f fd ps, Meth X.K C m f ∧ FnOk X.prog X.w X.K X.mg X.base (L2.CX X.prog X.w) k f fd ps (lift X.K s) ∧ Room k X.A ∧ Binds X.K fd ps []
/-- .. with n values (self among them) and keywords -/
structure CmK (X : Cz) (C : Addr) (m : Str) (n : Nat) (ks : List Str) (g : {α : Type} → List α → List α → List α) (s : Spc) : Prop where
  mono : s.Mono
  cl : Cls X.K C
  ex : ∃ k f fd ps, Meth X.K C m f ∧ FnOk X.prog X.w X.K X.mg X.base (L2.CX X.prog X.w) k f fd ps (lift X.K s) ∧ Room k X.A ∧ KBn X.K fd ps n ks (fun us ws => g us ws) (fun us ws => g us ws)
  rel : ∀ {K : PySem.W.Frag} {A : Addr → Prop} {H : Hp} {vs zs : List V} {ds es : List D}, vs.length = n → zs.length = ks.length → IsA K A H vs ds → IsA K A H zs es → IsA K A H (g vs zs) (g ds es)
section
variable {X : Cz} {Γ Γ' : Gm} {μ μ' : Mu} {a b c e o : Expr} {es : List Expr} {pos p0 p2 : Pos} {Q : Mu → D → Prop} {k : Kt}
theorem we_fld {f : Str} (h : WE X e Γ μ fun μ1 x => FldQ X.K μ1 x f fun d => Q μ1 d) (hb : attributeBase e f X.env (eval e X.env) = eval e X.env := by rfl) : WE X (.Attribute e f pos) Γ μ Q := fun Z σ H en ok tk => by
  refine toS (pe_fld pe_S hb) ?_
  refine h.use (Go.refl ok) en tk fun v H1 μ1 d g1 _ en1 i1 q1 => ?_
  obtain ⟨C, gs, i, d', hi, hc, hn, h1, h2, q⟩ := q1
  obtain ⟨a, dx, fs, rfl, hH, hk, t⟩ := hi.at g1.ok i1
  obtain ⟨v, h3, iv⟩ := t.get h2
  exact ⟨a, C, dx, fs, v, rfl, hH, hc, hn, look_some (by rw [hk]; exact h1) h3, μ1, d', g1, iv, q⟩
theorem ws_fld {f : Str} (h : WE X e Γ μ fun μ1 d => WE X o Γ μ1 fun μ2 x => PutQ X.K μ2 x f d fun μ3 => k.nx Γ μ3) (hs : swapsWith e (some (.Attribute o f p2)) pos.line X.env = pure false := by rfl) : WS X (.Assign [.Attribute o f p2] e pos) Γ μ k := fun Z σ H en ok tk => by
  refine toSS (ps_fld pe_S pe_S hs) ?_
  refine h.use (Go.refl ok) en tk fun v H1 μ1 d g1 _ en1 i1 q1 => ?_
  refine q1.use g1 en1 tk fun w H2 μ2 d2 g2 g2' en2 i2 q2 => ?_
  obtain ⟨p, C, gs, gs', rfl, m, hc, hn, hl, hg, q⟩ := q2
  cases isRef i2
  obtain ⟨dx, fs, hH, hk, t⟩ := g2.ok.at_ _ _ m
  have iv := i1.mono g2'.fz
  have hlen : fs.length = gs.length := by
    have := congrArg List.length hk
    simpa using this
  refine ⟨p, C, dx, fs, rfl, hH, hc, hn, by rw [hlen]; exact hl, ?_⟩
  have g3 := Go.put g2.ok (.ins C gs') (.ins C dx (putF f v fs)) (.inr ⟨_, m⟩) fun mm => ⟨dx, _, upd_same, ?_, ?_⟩
  · exact ⟨Γ, _, g2.trans g3, en2.mono g3.fz, q⟩
  · rcases hg with ⟨e1, e2⟩ | ⟨i, e1, e2, e3⟩
    · rw [putF_new (by rw [hk]; exact e1), e2]
      simp [hk]
    · rw [(putF_old (by rw [hk]; exact e1)).1, hk, e2]
  · rcases hg with ⟨e1, e2⟩ | ⟨i, e1, e2, e3⟩
    · have e3 : (putF f v fs).map (·.2) = fs.map (·.2) ++ [v] := by rw [putF_new (by rw [hk]; exact e1)]; simp
      have e4 : gs'.map (·.2) = gs.map (·.2) ++ [d] := by rw [e2]; simp
      rw [e3, e4]
      exact mm (t.append (.cons iv .nil))
    · rw [(putF_old (by rw [hk]; exact e1)).2, e3]
      exact mm (t.set iv i)
/-- C(e, ..) -/
theorem we_make {x : Str} {C : Addr} {s : Spc} (T : Ck X x C s) (h : WA X (e :: es) Γ μ fun μ1 ds => ∀ p, μ1 p = none → s (.ref p :: ds) (updM μ1 p (.ins C [])) (fun μ2 d => d = .non ∧ Q μ2 (.ref p)) (X.xd Γ))
    (he : starEach (e :: es) X.env = (false, eval e X.env) :: starEach es X.env := by rfl) (hpl : (backTo pos (starEach es X.env)).any (·.1) = false := by rfl) : WE X (.Call (.Name x p0) (e :: es) [] pos) Γ μ Q := fun Z σ H en ok tk => by
  obtain ⟨k, f, fd, ps, M, F, hr, hm, hb⟩ := T.ex
  refine toS (pe_makeS M F hr T.gl hm hb tk.pass pa_S T.db he hpl) ?_
  refine h.use (Go.refl ok) en tk fun vs H1 μ1 ds g1 _ en1 i1 q1 => ?_
  intro x dx hx hdx hne
  have g2 := Go.frz g1.ok hdx (.own x)
  have hx2 : upd H1 dx (.own x) x = none := by rw [upd_ne (Ne.symm hne)]; exact hx
  have g3 := Go.put g2.ok (.ins C []) (.ins C dx []) (.inl hx2) fun mm => ⟨dx, [], upd_same, rfl, .nil⟩
  have g := (g1.trans g2).trans g3
  refine ⟨.ref x :: ds, _, Z, .cons (.ref x) (i1.mono (g2.trans g3).fz), g3.ok, T.mono _ _ _ _ _ _ (fun μ' d q => ?_) (fun μ' x z => ?_) (q1 x (g1.ok.fresh hx).1)⟩
  · intro v H' g' is
    obtain ⟨rfl, q⟩ := q
    exact ⟨isNon is, μ', _, g.trans g', .ref x, q⟩
  · exact fun od H' g' is => ⟨Γ, μ', x, g.trans g', (en1.mono (g2.trans g3).fz).mono g'.fz, is, rfl, z⟩
/-- o.m(e, ..), o.m() -/
def RcvQ (μ : Mu) (x : D) (C : Addr) (m : Str) : Prop := ∃ gs, InsAt μ x C gs ∧ ixS m (gs.map (·.1)) = none
theorem rcv_f {C : Addr} {gs : List (Str × D)} {m : Str} (e : ixS m (gs.map (·.1)) = none) : RcvQ μ (.ins C gs) C m := ⟨gs, .inl rfl, e⟩
theorem rcv_m {C p : Addr} {gs : List (Str × D)} {m : Str} (h : μ p = some (.ins C gs)) (e : ixS m (gs.map (·.1)) = none) : RcvQ μ (.ref p) C m := ⟨gs, .inr ⟨p, rfl, h⟩, e⟩
theorem we_meth {pl : Sem Bool} {m : Str} {C : Addr} {s : Spc} {apos : Pos} (T : Cm X C m s) (h : WE X o Γ μ fun μ1 x => Req (RcvQ μ1 x C m) <| WA X (e :: es) Γ μ1 fun μ2 ds => s (x :: ds) μ2 Q (X.xd Γ))
    (hst : starEach (e :: es) X.env = (false, eval e X.env) :: starEach es X.env := by rfl) (hpl : (backTo pos (starEach es X.env)).any (·.1) = false := by rfl)
    (ht : eval (.Call (.Attribute o m apos) (e :: es) [] pos) X.env = (do
      let ov ← eval o X.env
      standAt apos.atName
      let (f, first) ← holding [ov] (getMethod ov m pl)
      callWith pos f first (backTo pos (starEach (e :: es) X.env)) (backToKw pos (keywordEach [] X.env))) := by rfl) : WE X (.Call (.Attribute o m apos) (e :: es) [] pos) Γ μ Q := fun Z σ H en ok tk => by
  obtain ⟨k, f, fd, ps, M, F, hr, hb⟩ := T.ex
  refine toS (pe_methS pe_S T.cl M F hr hb tk.pass pa_S hst hpl ht) ?_
  refine h.use (Go.refl ok) en tk fun v H1 μ1 x g1 _ en1 i1 q1 => ?_
  obtain ⟨⟨gs, hi, hn⟩, q1⟩ := q1
  obtain ⟨a, dx, fs, rfl, hH, hk, t⟩ := hi.at g1.ok i1
  refine ⟨a, dx, fs, rfl, hH, look_none (by rw [hk]; exact hn), ?_⟩
  refine q1.use g1 en1 tk fun vs H2 μ2 ds g2 g2' en2 i2 q2 => ?_
  exact lift_of T.mono g2 en2 (.cons (i1.mono g2'.fz) i2) q2
theorem we_meth0 {pl : Sem Bool} {m : Str} {C : Addr} {s : Spc} {apos : Pos} (T : Cm X C m s) (h : WE X o Γ μ fun μ1 x => Req (RcvQ μ1 x C m) <| s [x] μ1 Q (X.xd Γ))
    (ht : eval (.Call (.Attribute o m apos) [] [] pos) X.env = (do
      let ov ← eval o X.env
      standAt apos.atName
      let (f, first) ← holding [ov] (getMethod ov m pl)
      callWith pos f first (backTo pos (starEach [] X.env)) (backToKw pos (keywordEach [] X.env))) := by rfl) : WE X (.Call (.Attribute o m apos) [] [] pos) Γ μ Q := fun Z σ H en ok tk => by
  obtain ⟨k, f, fd, ps, M, F, hr, hb⟩ := T.ex
  refine toS (pe_methS0 pe_S T.cl M F hr hb tk.pass ht) ?_
  refine h.use (Go.refl ok) en tk fun v H1 μ1 x g1 _ en1 i1 q1 => ?_
  obtain ⟨⟨gs, hi, hn⟩, q1⟩ := q1
  obtain ⟨a, dx, fs, rfl, hH, hk, t⟩ := hi.at g1.ok i1
  exact ⟨a, dx, fs, rfl, hH, look_none (by rw [hk]; exact hn), lift_of T.mono g1 en1 (.cons i1 .nil) q1⟩
theorem we_methK0 {pl : Sem Bool} {m : Str} {C : Addr} {s : Spc} {apos : Pos} {kws : List Keyword} {g : {α : Type} → List α → List α → List α} (T : CmK X C m 1 (kws.filterMap (·.arg)) g s)
    (h : WE X o Γ μ fun μ1 x => Req (RcvQ μ1 x C m) <| WKw X kws Γ μ1 fun μ2 zs => Req (zs.length = (kws.filterMap (·.arg)).length) <| s (g [x] zs) μ2 Q (X.xd Γ))
    (hall : (backToKw pos (keywordEach kws X.env)).all (·.1.isSome) = true := by rfl) (hks : (backToKw pos (keywordEach kws X.env)).filterMap (·.1) = kws.filterMap (·.arg) := by rfl)
    (hpl : ((backTo pos (starEach [] X.env)).any (·.1) || (backToKw pos (keywordEach kws X.env)).any (·.1.isNone)) = false := by rfl)
    (ht : eval (.Call (.Attribute o m apos) [] kws pos) X.env = (do
      let ov ← eval o X.env
      standAt apos.atName
      let (f, first) ← holding [ov] (getMethod ov m pl)
      callWith pos f first (backTo pos (starEach [] X.env)) (backToKw pos (keywordEach kws X.env))) := by rfl) : WE X (.Call (.Attribute o m apos) [] kws pos) Γ μ Q := fun Z σ H en ok tk => by
  obtain ⟨k, f, fd, ps, M, F, hr, hb⟩ := T.ex
  refine toS (pe_methNS0 pe_S T.cl M F hr hb tk.pass pk_S hall hks hpl ht) ?_
  refine h.use (Go.refl ok) en tk fun v H1 μ1 x g1 _ en1 i1 q1 => ?_
  obtain ⟨⟨gs, hi, hn⟩, q1⟩ := q1
  obtain ⟨a, dx, fs, rfl, hH, hk, t⟩ := hi.at g1.ok i1
  refine ⟨a, dx, fs, rfl, hH, look_none (by rw [hk]; exact hn), ?_⟩
  refine q1.use g1 en1 tk fun zs H2 μ2 ds g2 g2' en2 i2 q2 => ?_
  have l2 : zs.length = (kws.filterMap (·.arg)).length := i2.length.trans q2.1
  exact ⟨rfl, l2, lift_of T.mono g2 en2 (T.rel rfl l2 (.cons (i1.mono g2'.fz) .nil) i2) q2.2⟩
/-- len(x), x an instance whose class has its own -/
def rLenI (C : Addr) (s : Sp) (E : L2.St → XK) (σ : L2.St) : List V → Hp → VK → Prop := fun xs H Q => ∃ a dx fs, xs = [.ref a] ∧ H a = some (.ins C dx fs) ∧ s [.ref a] H (fun z H' => ∃ n : Nat, z = .int n ∧ n < 2 ^ 62 ∧ Q (.int n) H') (E σ)
end
end DL

set_option Elab.async false
set_option linter.all false
set_option maxRecDepth 100000
set_option maxHeartbeats 2000000
namespace DL
open PySem PySem.Spec PyProof.Rows L2

/-- what the text says of it -/
structure XCls (K : PySem.W.Frag) (C : Addr) (f : Str) : Prop where
  T : OexC K C
  no : PySem.W.findIn K (.ref C) f = some none
structure Xk (X : Cz) (x : Str) (C : Addr) (f : Str) : Prop where
  T : OexC X.K C
  ex : ∃ k fI fd ps, PySem.W.findIn X.K (.ref C) "__init__" = some (some (.ref fI)) ∧ PySem.W.typeIn X.K (.ref fI) = some (.type "function") ∧
    FnOk X.prog X.w X.K X.mg X.base CX0 k fI fd ps (fun vs H Q _ => ∃ (a : Addr) (y : V), vs = [.ref a, y] ∧ H a = some (exo a C none) ∧ ∀ dx, H dx = none → dx ≠ a → Q .non (upd (upd H dx (exd dx [(f, y)])) a (exo a C (some dx)))) ∧ Room (k + 1) X.A ∧ Binds X.K fd ps []
  gl : Gl X x
  mg : X.mg x = some (.ref C)
  db : (x == ("__debug__" : Str)) = false
section
variable {X : Cz} {Γ Γ' : Gm} {μ μ' : Mu} {a b c e o : Expr} {es : List Expr} {pos p0 p1 p2 : Pos} {Q : Mu → D → Prop} {k : Kt}
/-- raise C(e) -/
theorem ws_raise1 {x f : Str} {C : Addr} (hc : X.calm = true) (T : Xk X x C f) (h : WE X e Γ μ fun μ1 d => X.xd Γ μ1 ⟨.ref C, [(f, d)]⟩)
    (he : starEach [e] X.env = (false, eval e X.env) :: starEach [] X.env := by rfl) (hpl : (backTo pos (starEach [] X.env)).any (·.1) = false := by rfl) :
    WS X (.Raise (some (.Call (.Name x p0) [e] [] pos)) none p2) Γ μ k := fun Z σ H en ok tk => by
  obtain ⟨j, fI, fd, ps, iC, tI, F, hr, hb⟩ := T.ex
  refine toSS (ps_raise hc tk (pmk_oex T.T iC tI F hr hb .nil pass0 T.gl T.mg (pa_cons pe_S pa_nil he) T.db he hpl)) ?_
  refine h.use (Go.refl ok) en tk fun v H1 μ1 d g1 _ en1 i1 q1 => ?_
  refine ⟨(by show 1 ≤ 1000; decide), fun a ha => ⟨a, v, rfl, upd_same, fun dx hdx hne => ⟨rfl, dx, [(f, v)], upd_same, ?_, ?_, ?_⟩⟩⟩
  · rw [upd_ne hne, upd_same]
  · rw [upd_ne hne] at hdx; exact hdx
  · have hd1 : H1 dx = none := by rw [upd_ne hne] at hdx; exact hdx
    have eq : upd (L2.del (upd (upd (upd H1 a (exo a C none)) dx (exd dx [(f, v)])) a (exo a C (some dx))) a) dx (.xd [(f, v)]) = upd H1 dx (.xd [(f, v)]) := by
      funext b
      by_cases h1 : b = dx
      · subst h1; rw [upd_same, upd_same]
      · rw [upd_ne h1, upd_ne h1]
        by_cases h2 : b = a
        · subst h2; rw [del_same, ha]
        · rw [del_ne h2, upd_ne h2, upd_ne h1, upd_ne h2]
    rw [eq]
    have g2 := Go.frz g1.ok hd1 (.xd [(f, v)])
    refine ⟨Γ, μ1, _, g1.trans g2, en1.mono g2.fz, ?_, rfl, q1⟩
    exact ⟨g1.ok.notAv hd1, _, upd_same, rfl, .cons (i1.mono g2.fz) .nil⟩
/-- a class of the program, named -/
theorem we_cls {x : Str} {C : Addr} (hg : Gl X x) (hm : X.mg x = some (.ref C)) (hd : (x == ("__debug__" : Str)) = false) (q : Q μ (.ref C)) : WE X (.Name x pos) Γ μ Q := fun Z σ H en ok tk => by
  refine toS (t := tC (.ref C)) ⟨fun pins s σ H Q I h => ld_glob I hg hm ⟨.ref C, H, I, rfl, h⟩ hd⟩ ?_
  exact ⟨μ, _, Go.refl ok, .ref C, q⟩
theorem we_bty {x : Str} {n : String} (B : Bl X x) (hv : bootBuiltins x = some (.type n)) (hn : x ≠ "__name__") (hd : (x == ("__debug__" : Str)) = false) (q : Q μ (.ty n)) : WE X (.Name x pos) Γ μ Q := fun Z σ H en ok tk => by
  refine toS (pe_bltn (v := .ty n) B.gl B.mg hv rfl hn hd) ?_
  exact ⟨μ, _, Go.refl ok, .ty n, q⟩
/-- the context of a try's body -/
def TryX (X X' : Cz) (xd : Gm → Mu → Xd → Prop) : Prop := ∃ pn xe, X' = ⟨X.toCx.tr pn xe, xd⟩ ∧ PassesOwn (model X.prog X.w) X.A X.env xe
/-- the context of an except suite; a: the exception -/
structure SuX (X X' : Cz) (a : Addr) (cls : Value) (od : Option Addr) : Prop where
  ex : ∃ oe pn, X' = ⟨X.toCx.suite a ((a, oe) :: pn), fun _ _ _ => False⟩ ∧ Zc cls od oe ∧ ∃ vs, oe.data = .fields vs
theorem En.unset {K : PySem.W.Frag} {A : Addr → Prop} {H : Hp} {σ : L2.St} {Γ : Gm} (h : En K A H σ Γ) (i : Nat) : En K A H (σ.set i none) (Γ.set i none) := by
  refine ⟨by rw [List.length_set, List.length_set]; exact h.len, fun j e q => ?_⟩
  by_cases hj : i = j
  · subst hj
    by_cases hl : i < Γ.length
    · rw [List.getElem?_set_self hl] at q; cases q
    · rw [List.getElem?_eq_none (by rw [List.length_set]; omega)] at q; cases q
  · rw [List.getElem?_set_ne hj] at q ⊢
    exact h.at_ j e q
/-- what the clause does with an exception -/
def Catch (X : Cz) (c : Value) (i : Nat) (suite : List Stmt) (k : Kt) (Γ : Gm) (μ : Mu) (x : Xd) : Prop := ∃ r, PySem.W.exmOne X.K x.cls c = some r ∧
  (r = true → ∀ a od X', SuX X X' a x.cls od → WB X' suite (Γ.set i (some (.exc a od x.fld))) μ ⟨fun Γ2 μ2 => k.nx (Γ2.set i none) μ2, k.rt, fun Γ2 μ2 => k.bk (Γ2.set i none) μ2, fun Γ2 μ2 => k.ct (Γ2.set i none) μ2⟩) ∧ (r = false → X.xd Γ μ x)
theorem ws_try_as {x n : Str} {c : Value} {i : Nat} {body suite : List Stmt} {b₀ : Stmt} {np pos' : Pos} (hs : X.stack = X.env :: X.outer) (hf : X.env.frame = some X.env.locals) (hn : Nw X n i) (hln : X.env.kindOf n = some .local) (hc : Names X x c)
    (h : ∀ X', TryX X X' (Catch X c i (b₀ :: suite) k) → WB X' body Γ μ k) : WS X (.Try body [.ExceptHandler (some (.Name x np)) (some n) (b₀ :: suite) pos'] [] [] pos) Γ μ k := fun Z σ H en ok tk => by
  refine toSS (ps_try_as (tb := fun W D σ H => ∀ pn xe, Takes (X.toCx.tr pn xe) W → PassesOwn (model X.prog X.w) X.A X.env xe → SB (X.toCx.tr pn xe) body D σ H)
    (ts := fun a cls d D σ H => ∀ oe pn, Zc cls d oe → (∃ vs, oe.data = .fields vs) → SB (X.toCx.suite a ((a, oe) :: pn)) (b₀ :: suite) D σ H)
    hs hf hn.nd hn.ix hln hc tk (fun W pn xe tkW ps => ⟨fun pins s σ H D I h => (pss_S (X := X.toCx.tr pn xe)).run pins s σ H D I (h pn xe tkW ps)⟩)
    (fun a oe cls d pn hz hd => ⟨fun pins s σ H D I h => (pss_S (X := X.toCx.suite a ((a, oe) :: pn))).run pins s σ H D I (h oe pn hz hd)⟩)) ?_
  intro pn xe tkW ps
  have tk' : Tk ⟨X.toCx.tr pn xe, Catch X c i (b₀ :: suite) k⟩ Z μ H := Takes.imp tkW fun cls od σ' H' ⟨Γ', μ', xx, g, en', xi, ex, r, hr, hyes, hno⟩ => by
    subst ex
    refine ⟨r, hr, fun hb a ha => ?_, fun hb => ⟨Γ', μ', xx, g, en', xi, rfl, hno hb⟩⟩
    intro oe pn2 hz hd
    have is : Is X.K (Av μ' Z) H' (.ref a) (.exc a od xx.fld) := by
      cases od with
      | none =>
        have e : xx.fld = [] := xi
        rw [e]
        exact .exc0 a
      | some dx =>
        obtain ⟨n1, fs, h1, h2, h3⟩ := xi
        exact .exc n1 h1 h2 h3
    have q := hyes hb a od ⟨X.toCx.suite a ((a, oe) :: pn2), fun _ _ _ => False⟩ ⟨oe, pn2, rfl, hz, hd⟩
    refine SB.mono ?_ (q Z _ H' (en'.set i is) g.ok (Tk.never fun _ _ _ z => z))
    exact ⟨fun σ2 H2 ⟨Γ2, μ2, g2, en2, q2⟩ => ⟨_, μ2, g.trans g2, en2.unset i, q2⟩, fun v H2 p => PostE.up g p, fun σ2 H2 ⟨Γ2, μ2, g2, en2, q2⟩ => ⟨_, μ2, g.trans g2, en2.unset i, q2⟩, fun σ2 H2 ⟨Γ2, μ2, g2, en2, q2⟩ => ⟨_, μ2, g.trans g2, en2.unset i, q2⟩⟩
  exact h ⟨X.toCx.tr pn xe, Catch X c i (b₀ :: suite) k⟩ ⟨pn, xe, rfl, ps⟩ Z σ H en ok tk'
structure XisC (K : PySem.W.Frag) (C : Addr) : Prop where
  hcl : (PySem.W.clsIn K C).isSome = true
  hg : PySem.W.findIn K (.ref C) "__getattribute__" = some (some (.builtin "BaseException.__getattribute__"))
  hk : PySem.W.findIn K (.ref C) "__getattr__" = some none
  hs : PySem.W.subIn K (.ref C) (.type "BaseException") = some true
  ha : PySem.W.findIn K (.ref C) "__class__" = some (some (.builtin "object.__class__"))
  hn : PySem.W.specialIn K (.builtin "object.__class__") "__get__" = some (some (.builtin "getset_descriptor.__get__"))
  ht : PySem.W.takesIn K (.builtin "object.__class__") = some true
  hm : PySem.W.mroIn K C (.type "object") = some true
theorem exc_inst {K : PySem.W.Frag} {A : Addr → Prop} {H : Hp} {X : Cx} {pins : List (Addr × Obj)} {σ : L2.St} {s : Shared} {a a0 C : Addr} {oe : Obj} {pn : List (Addr × Obj)} {od : Option Addr} {gs : List (Str × D)} {v : V} (I : Inv (X.suite a ((a, oe) :: pn)) pins σ H s) (i : Is K A H v (.exc a od gs)) (hz : Zc (.ref C) od oe) (hv : ∃ vs, oe.data = .fields vs) :
    v = .ref a ∧ ∃ oo, PySem.W.InstAt s.heap a oe C oo := by
  obtain ⟨ha, _⟩ := I.pin (a, oe) (List.mem_append_left _ List.mem_cons_self)
  obtain ⟨vs, hd⟩ := hv
  cases i with
  | exc0 => exact ⟨rfl, none, ha, hz.1, by unfold PySem.W.notCls; rw [hd] <;> rfl, by rw [hz.2]; trivial⟩
  | exc n h hk t =>
    rename_i dx fs
    have hx : ObjOk X.prog X.w H s.heap dx (.xd fs) := I.hok dx _ h
    obtain ⟨mA, hns, hr⟩ := hx
    obtain ⟨oo, ho, hl⟩ := lookIn_ns hns
    exact ⟨rfl, some oo, ha, hz.1, by unfold PySem.W.notCls; rw [hd] <;> rfl, by rw [hz.2]; exact ho⟩
/-- a class as data -/
def clsD : D → Option Value
  | .ty n => some (.type n)
  | .ref C => some (.ref C)
  | _ => none
/-- isinstance(e, c): e the exception that the suite holds -/
theorem we_isE {X0 : Cz} {a0 C : Addr} {od : Option Addr} (S : SuX X0 X a0 (.ref C) od) (T : XisC X.K C) (B : Bl X "isinstance")
    (h : WE X e Γ μ fun μ1 x => WE X c Γ μ1 fun μ2 y => ∃ gs cv r, x = .exc a0 od gs ∧ clsD y = some cv ∧ PySem.W.kitOne X.K (.ref C) cv = some r ∧ Q μ2 (.bl r))
    (he : starEach [e, c] X.env = (false, eval e X.env) :: starEach [c] X.env := by rfl) (he2 : starEach [c] X.env = (false, eval c X.env) :: starEach [] X.env := by rfl) (hpl : (backTo pos (starEach [c] X.env)).any (·.1) = false := by rfl) :
    WE X (.Call (.Name "isinstance" p0) [e, c] [] pos) Γ μ Q := by
  obtain ⟨oe, pn, rfl, hz, hv⟩ := S.ex
  refine we_b2 (id := "isinstance") (r := fun xs H Q => ∃ (K : PySem.W.Frag) (A : Addr → Prop) (v w : V) (gs : List (Str × D)) (cv : Value) (r : Bool), xs = [v, w] ∧ Is K A H v (.exc a0 od gs) ∧ (∀ u, RelV w u → u = cv) ∧ PySem.W.kitOne X0.K (.ref C) cv = some r ∧ Q (.bl r) H) ?_ B (by decide +kernel) ?_ (he := he) (he2 := he2) (hpl := hpl)
  · intro pins s σ H xs us Q I r h
    obtain ⟨K, A, v, w, gs, cv, rr, rfl, iv, hw, hk, q⟩ := h
    obtain ⟨rfl, oo, J⟩ := exc_inst (a0 := a0) I iv hz hv
    cases r with
    | cons rx rr =>
      cases rr with
      | cons rt rr =>
        cases rr
        cases rx
        have ec := hw _ rt
        subst ec
        exact PySem.W.kia_one (PySem.W.kitx_exc T.hcl T.hg T.hk T.hs T.ha T.hn T.ht T.hm) I.kIn J hk (fun z => nomatch z) fun tk => ⟨.bl _, H, I.kept (t' := tk) fun _ _ z => z, rfl, q⟩
  · refine h.mono fun μ1 d q1 => q1.mono fun μ2 d2 q2 => ?_
    intro Z μ0 H0 H v w g i1 i2
    obtain ⟨gs, cv, r, rfl, hc, hk, q⟩ := q2
    refine ⟨_, _, v, w, gs, cv, r, rfl, i1, ?_, hk, μ2, _, g, .bl _, q⟩
    intro u ru
    cases i2 <;> simp [clsD] at hc
    · subst hc; exact ru
    · subst hc; exact ru
theorem we_isET {X0 : Cz} {a0 C : Addr} {od : Option Addr} (S : SuX X0 X a0 (.ref C) od) (T : XisC X.K C) (B : Bl X "isinstance")
    (h : WE X e Γ μ fun μ1 x => WE X c Γ μ1 fun μ2 y => ∃ gs cs cvs r, x = .exc a0 od gs ∧ y = .tup cs ∧ cs.map clsD = cvs.map some ∧ PySem.W.kitAny X.K (.ref C) cvs = some r ∧ Q μ2 (.bl r))
    (he : starEach [e, c] X.env = (false, eval e X.env) :: starEach [c] X.env := by rfl) (he2 : starEach [c] X.env = (false, eval c X.env) :: starEach [] X.env := by rfl) (hpl : (backTo pos (starEach [c] X.env)).any (·.1) = false := by rfl) :
    WE X (.Call (.Name "isinstance" p0) [e, c] [] pos) Γ μ Q := by
  obtain ⟨oe, pn, rfl, hz, hv⟩ := S.ex
  refine we_b2 (id := "isinstance") (r := fun xs H Q => ∃ (A : Addr → Prop) (v : V) (tp : Addr) (ws : List V) (gs : List (Str × D)) (cvs : List Value) (r : Bool), xs = [v, .ref tp] ∧ Is X0.K A H v (.exc a0 od gs) ∧ SqT X0.K H tp ws ∧ (∀ us, Vals ws us → us = cvs) ∧ PySem.W.kitAny X0.K (.ref C) cvs = some r ∧ Q (.bl r) H) ?_ B (by decide +kernel) ?_ (he := he) (he2 := he2) (hpl := hpl)
  · intro pins s σ H xs us Q I r h
    obtain ⟨A, v, tp, ws, gs, cvs, rr, rfl, iv, st, hw, hk, q⟩ := h
    obtain ⟨rfl, oo, J⟩ := exc_inst (a0 := a0) I iv hz hv
    obtain ⟨its, rv, ⟨o, h1, h2, n, h3⟩, _⟩ := I.tuple st
    cases r with
    | cons rx rr =>
      cases rr with
      | cons rt rr =>
        cases rr
        cases rx
        cases rt
        have ec := hw _ rv
        subst ec
        obtain ⟨oc, od', dt, sl⟩ := o
        simp only at h2 h3
        subst h2 h3
        exact PySem.W.kia_tup (PySem.W.kitx_exc T.hcl T.hg T.hk T.hs T.ha T.hn T.ht T.hm) I.kIn J h1 hk (fun z => nomatch z) fun tk => ⟨.bl _, H, I.kept (t' := tk) fun _ _ z => z, rfl, q⟩
  · refine h.mono fun μ1 d q1 => q1.mono fun μ2 d2 q2 => ?_
    intro Z μ0 H0 H v w g i1 i2
    obtain ⟨gs, cs, cvs, r, rfl, rfl, hc, hk, q⟩ := q2
    cases i2 with
    | tup hT t =>
      refine ⟨_, v, _, _, gs, cvs, r, rfl, i1, hT.sq, ?_, hk, μ2, _, g, .bl _, q⟩
      clear hk q hT
      intro us hus
      rename_i tp vs
      clear i1 g h
      induction cvs generalizing vs cs us with
      | nil =>
        cases cs with
        | nil => cases t; cases hus; rfl
        | cons _ _ => simp at hc
      | cons cv cvs ih =>
        cases cs with
        | nil => simp at hc
        | cons y cs =>
          simp only [List.map_cons, List.cons.injEq] at hc
          cases t with
          | cons i t =>
            cases hus with
            | cons ru rus =>
              rw [ih cs hc.2 t _ rus]
              have hc1 := hc.1
              cases i <;> simp [clsD] at hc1
              · subst hc1; rw [show _ = _ from ru]
              · subst hc1; rw [show _ = _ from ru]
/-- e.f -/
theorem we_excF {X0 : Cz} {a0 C : Addr} {od : Option Addr} {f : Str} (S : SuX X0 X a0 (.ref C) od) (T : XisC X.K C) (hd : PySem.W.hasDictIn X.K C = true) (hno : PySem.W.findIn X.K (.ref C) f = some none)
    (h : WE X e Γ μ fun μ1 x => ∃ gs i d, x = .exc a0 od gs ∧ ixS f (gs.map (·.1)) = some i ∧ (gs.map (·.2))[i]? = some d ∧ Q μ1 d) (hb : attributeBase e f X.env (eval e X.env) = eval e X.env := by rfl) : WE X (.Attribute e f pos) Γ μ Q := fun Z σ H en ok tk => by
  obtain ⟨oe, pn, rfl, hz, hv⟩ := S.ex
  refine toS (pe_xf ⟨T.hg, T.hk, T.hs, hd⟩ hno hz hv pe_S hb) ?_
  refine h.use (Go.refl ok) en tk fun v H1 μ1 x g1 _ en1 i1 q1 => ?_
  obtain ⟨gs, i, d, rfl, h1, h2, q⟩ := q1
  cases i1 with
  | exc0 => simp at h2
  | exc n hh hk t =>
    obtain ⟨v, h3, iv⟩ := t.get h2
    exact ⟨rfl, rfl, _, _, v, rfl, hh, look_some (by rw [hk]; exact h1) h3, μ1, d, g1, iv, q⟩
theorem call_lenI {X : Cx} {n : Nat} {f C : Addr} {fd : FuncData} {ps : List Str} {sp : Sp} (hs : PySem.W.findIn X.K (.ref C) "__len__" = some (some (.ref f))) (hf : PySem.W.isFn X.K (.ref f) = true) (F : FnOk X.prog X.w X.K X.mg X.base (L2.CX X.prog X.w) n f fd ps sp) (hb : Binds X.K fd ps []) (hr : Room (n + 1) X.A) :
    CallR X (.builtin "len") (fun xs H Q => ∃ a dx fs, xs = [.ref a] ∧ H a = some (.ins C dx fs) ∧ sp [.ref a] H (fun z H' => ∃ i : Int, z = .int i ∧ 0 ≤ i ∧ i < 2 ^ 63 ∧ Q (.int i) H') E0) := by
  intro pins s σ H xs us Q I r h
  obtain ⟨a, dx, fs, rfl, ha, q⟩ := h
  obtain ⟨u, rfl, ru⟩ := r.one
  cases (show u = Value.ref a from ru)
  obtain ⟨mA, O, _⟩ := ins_get I.hok ha
  obtain ⟨od, J, _⟩ := O.look
  obtain ⟨m, hF⟩ := I.fr
  have hl : ([Value.ref a] ++ []).length = ps.length := by
    have := F.len _ _ _ _ q
    simpa using this
  have hbb := hb s [.ref a] I.kIn hl
  rw [List.append_nil] at hbb
  refine PySem.W.len_K hF I.ok.mod.kin J hs hf (wpAny_call (codeAny_mono (F.run X.A.in1 X.stack s H ⟨[.ref a], []⟩ [.ref a] [.ref a] _ E0 hr.in1 I.env0.in1 hbb (.cons rfl .nil) q) fun r s' hq => ?_))
  cases r with
  | error e => exact (passL (X := X) pins σ H s e s' I hq)
  | ok fl =>
    cases fl with
    | ret u =>
      obtain ⟨z, H', I', rz, i, ei, h0, h1, qz⟩ := I.after hq
      subst ei
      obtain ⟨t, e⟩ := (show ∃ t, u = Value.int i t from rz)
      cases e
      exact ⟨⟨h0, h1⟩, .int i, H', I'.tok _, ⟨s'.toks, rfl⟩, qz⟩
    | next => exact False.elim hq
    | brk => exact False.elim hq
    | cont => exact False.elim hq
/-- len(x) of an instance: the class's own method, one room more -/
structure Cl1 (X : Cz) (C : Addr) (s : Spc) : Prop where
  mono : s.Mono
  ex : ∃ k f fd ps, Meth X.K C "__len__" f ∧ FnOk X.prog X.w X.K X.mg X.base (L2.CX X.prog X.w) k f fd ps (lift X.K s) ∧ Room (k + 1) X.A ∧ Binds X.K fd ps []
theorem we_lenI {C : Addr} {s : Spc} (B : Bl X "len") (T : Cl1 X C s) (h : WE X e Γ μ fun μ1 x => ∃ gs, InsAt μ1 x C gs ∧ s [x] μ1 (fun μ2 d => ∃ i : Int, d = .int i ∧ 0 ≤ i ∧ i < 2 ^ 63 ∧ Q μ2 (.int i)) (fun _ _ => False))
    (he : starEach [e] X.env = (false, eval e X.env) :: starEach [] X.env := by rfl) (hpl : (backTo pos (starEach [] X.env)).any (·.1) = false := by rfl) : WE X (.Call (.Name "len" p0) [e] [] pos) Γ μ Q := by
  obtain ⟨k, f, fd, ps, M, F, hr, hb⟩ := T.ex
  refine we_b1 (call_lenI M.at_ M.fn F hb hr) B (by decide +kernel) ?_ (he := he) (hpl := hpl)
  refine h.mono fun μ1 x q1 => ?_
  intro Z μ0 H0 H v g i
  obtain ⟨gs, hi, q⟩ := q1
  obtain ⟨a, dx, fs, rfl, hH, hk, t⟩ := hi.at g.ok i
  refine ⟨a, dx, fs, rfl, hH, [x], μ1, Z, .cons i .nil, g.ok, T.mono _ _ _ _ _ _ (fun μ' d q => ?_) (fun _ _ z => z.elim) q⟩
  intro v H' g' is
  obtain ⟨j, rfl, h0, h1, q⟩ := q
  exact ⟨j, isInt is, h0, h1, μ', _, g.trans g', .int _, q⟩
end
end DL

set_option Elab.async false
set_option linter.all false
set_option maxRecDepth 100000
set_option maxHeartbeats 2000000
namespace DL
open PySem PySem.Spec PyProof.Rows L2

section
variable (P : Program) (w : World) (K : PySem.W.Frag) (mg : Str → Option Value) (base : Heap)
/-- a class that is called by its name x -/
def GMk (x : Str) (C : Addr) (j : Nat) (s : Spc) : Prop := ∃ f fd ps, Mk K C f ∧ FnOk P w K mg base (L2.CX P w) j f fd ps (lift K s) ∧ mg x = some (.ref C) ∧ Binds K fd ps [] ∧ s.Mono
/-- a method -/
def GCm (C : Addr) (m : Str) (j : Nat) (s : Spc) : Prop := ∃ f fd ps, Cls K C ∧ Meth K C m f ∧ FnOk P w K mg base (L2.CX P w) j f fd ps (lift K s) ∧ Binds K fd ps [] ∧ s.Mono
def GCk (C : Addr) (m : Str) (j n : Nat) (ks : List Str) (g : {α : Type} → List α → List α → List α) (s : Spc) : Prop :=
  ∃ f fd ps, Cls K C ∧ Meth K C m f ∧ FnOk P w K mg base (L2.CX P w) j f fd ps (lift K s) ∧ KBn K fd ps n ks (fun us ws => g us ws) (fun us ws => g us ws) ∧ s.Mono
/-- what an exception's __init__ of one argument does -/
def spX (C : Addr) (f : Str) : Sp := fun vs H Q _ => ∃ (a : Addr) (y : V), vs = [.ref a, y] ∧ H a = some (exo a C none) ∧ ∀ dx, H dx = none → dx ≠ a → Q .non (upd (upd H dx (exd dx [(f, y)])) a (exo a C (some dx)))
/-- an exception class -/
def GXk (x : Str) (C : Addr) (f : Str) (j : Nat) : Prop := OexC K C ∧ mg x = some (.ref C) ∧ ∃ fI fd ps, PySem.W.findIn K (.ref C) "__init__" = some (some (.ref fI)) ∧ PySem.W.typeIn K (.ref fI) = some (.type "function") ∧
  FnOk P w K mg base CX0 j fI fd ps (spX C f) ∧ Binds K fd ps []
end
section
variable {X : Cz} {P : Program} {w : World} {K : PySem.W.Frag} {mg : Str → Option Value} {base : Heap} {k : Nat} {N : List Str} {sc scope : Scope}
theorem Ctx.ck (h : Ctx X P w K mg base k N sc) {x : Str} {C : Addr} {j : Nat} {s : Spc} (c : GMk P w K mg base x C j s) (b : glB sc x = true) (l : j + 1 ≤ k) : Ck X x C s := by
  obtain ⟨f, fd, ps, M, F, hm, hb, mo⟩ := c
  obtain ⟨rfl, rfl, rfl, rfl, rfl, rfl, rfl, _, hr, _⟩ := h
  exact ⟨mo, ⟨j, f, fd, ps, M, F, hr.mono l, hm, hb⟩, (glB_ok b).1, (glB_ok b).2⟩
theorem Ctx.cm (h : Ctx X P w K mg base k N sc) {C : Addr} {m : Str} {j : Nat} {s : Spc} (c : GCm P w K mg base C m j s) (l : j ≤ k) : Cm X C m s := by
  obtain ⟨f, fd, ps, cl, M, F, hb, mo⟩ := c
  obtain ⟨rfl, rfl, rfl, rfl, rfl, rfl, rfl, _, hr, _⟩ := h
  exact ⟨mo, cl, ⟨j, f, fd, ps, M, F, hr.mono l, hb⟩⟩
theorem Ctx.cmK (h : Ctx X P w K mg base k N sc) {C : Addr} {m : Str} {j n : Nat} {ks : List Str} {g : {α : Type} → List α → List α → List α} {s : Spc} (c : GCk P w K mg base C m j n ks g s) (l : j ≤ k)
    (rel : ∀ {K : PySem.W.Frag} {A : Addr → Prop} {H : Hp} {vs zs : List V} {ds es : List D}, vs.length = n → zs.length = ks.length → IsA K A H vs ds → IsA K A H zs es → IsA K A H (g vs zs) (g ds es)) : CmK X C m n ks g s := by
  obtain ⟨f, fd, ps, cl, M, F, hb, mo⟩ := c
  obtain ⟨rfl, rfl, rfl, rfl, rfl, rfl, rfl, _, hr, _⟩ := h
  exact ⟨mo, cl, ⟨j, f, fd, ps, M, F, hr.mono l, hb⟩, rel⟩
theorem Ctx.cl1 (h : Ctx X P w K mg base k N sc) {C : Addr} {j : Nat} {s : Spc} (c : GCm P w K mg base C "__len__" j s) (l : j + 1 ≤ k) : Cl1 X C s := by
  obtain ⟨f, fd, ps, cl, M, F, hb, mo⟩ := c
  obtain ⟨rfl, rfl, rfl, rfl, rfl, rfl, rfl, _, hr, _⟩ := h
  exact ⟨mo, ⟨j, f, fd, ps, M, F, hr.mono l, hb⟩⟩
theorem Ctx.xk (h : Ctx X P w K mg base k N sc) {x f : Str} {C : Addr} {j : Nat} (c : GXk P w K mg base x C f j) (b : glB sc x = true) (l : j + 1 ≤ k) : Xk X x C f := by
  obtain ⟨T, hm, fI, fd, ps, iC, tI, F, hb⟩ := c
  obtain ⟨rfl, rfl, rfl, rfl, rfl, rfl, rfl, _, hr, _⟩ := h
  exact ⟨T, ⟨j, fI, fd, ps, iC, tI, F, hr.mono l, hb⟩, (glB_ok b).1, hm, (glB_ok b).2⟩
theorem Ctx.kls (h : Ctx X P w K mg base k N sc) {C : Addr} {ns : List Str} (T : Kls K C ns) : Kls X.K C ns := by rw [h.K]; exact T
theorem Ctx.hu (h : Ctx X P w K mg base k N sc) : X.A.units + 64 < cLine := h.room.units
/-- a class's name, read -/
theorem Ctx.cls (h : Ctx X P w K mg base k N sc) {x : Str} {C : Addr} {Γ : Gm} {μ : Mu} {Q : Mu → D → Prop} {pos : Pos} (m : mg x = some (.ref C)) (b : glB sc x = true) (q : Q μ (.ref C)) : WE X (.Name x pos) Γ μ Q :=
  we_cls (h.gl b) (by rw [h.mg]; exact m) (glB_ok b).2 q
/-- the body of a try -/
theorem Ctx.tryX (h : Ctx X P w K mg base k N sc) {X' : Cz} {xd : Gm → Mu → Xd → Prop} (t : TryX X X' xd) : Ctx X' P w K mg base k N sc ∧ X'.xd = xd := by
  obtain ⟨pn, xe, rfl, ps⟩ := t
  obtain ⟨h1, h2, h3, h4, h5, h6, h7, h8, h9, h10, h11⟩ := h
  exact ⟨⟨h1, h2, h3, h4, h5, h6, h7, h8, h9, ps, h11⟩, rfl⟩
theorem Fr.tryX (h : Fr X) {X' : Cz} {xd : Gm → Mu → Xd → Prop} (t : TryX X X' xd) : Fr X' := by
  obtain ⟨pn, xe, rfl, ps⟩ := t
  exact ⟨h.fn, h.stk, h.frm⟩
/-- an except suite: names alone -/
structure CtxS (X : Cz) (P : Program) (w : World) (K : PySem.W.Frag) (mg : Str → Option Value) (base : Heap) (N : List Str) (sc : Scope) : Prop where
  prog : X.prog = P
  w : X.w = w
  K : X.K = K
  mg : X.mg = mg
  base : X.base = base
  N : X.N = N
  sc : X.env.scope = sc
  nd : X.N.Nodup
theorem Ctx.suX (h : Ctx X P w K mg base k N sc) {X' : Cz} {a : Addr} {cls : Value} {od : Option Addr} (t : SuX X X' a cls od) : CtxS X' P w K mg base N sc := by
  obtain ⟨oe, pn, rfl, _, _⟩ := t.ex
  obtain ⟨h1, h2, h3, h4, h5, h6, h7, h8, h9, h10, h11⟩ := h
  exact ⟨h1, h2, h3, h4, h5, h6, h7, h11⟩
theorem Fr.suX (h : Fr X) {X' : Cz} {a : Addr} {cls : Value} {od : Option Addr} (t : SuX X X' a cls od) : Fr X' := by
  obtain ⟨oe, pn, rfl, _, _⟩ := t.ex
  exact ⟨h.fn, h.stk, h.frm⟩
theorem CtxS.nm (h : CtxS X P w K mg base N sc) {x : Str} {i : Nat} (b : nmB N sc x i = true) : Nm X x i := by
  unfold nmB at b
  simp only [Bool.and_eq_true, decide_eq_true_eq, Bool.not_eq_true'] at b
  obtain ⟨⟨⟨b1, b2⟩, b3⟩, b4⟩ := b
  exact ⟨by rw [h.N]; exact b1, by rw [h.sc]; exact visB_ok b2, b3, b4⟩
theorem CtxS.nl (h : CtxS X P w K mg base N sc) {x : Str} {i : Nat} (b : nmB N sc x i = true) (l : locB sc x = true) : Nw X x i :=
  ⟨h.nm b, h.nd, .inl (by rw [h.sc]; exact locB_ok l), .inr (by rw [h.sc]; exact locB_ok l)⟩
theorem CtxS.bl (h : CtxS X P w K mg base N sc) {x : Str} (b : glB sc x = true) (m : mg x = none) : Bl X x := ⟨by show X.env.scope.names.lookup x = _; rw [h.sc]; exact (glB_ok b).1, by rw [h.mg]; exact m⟩
theorem CtxS.cls (h : CtxS X P w K mg base N sc) {x : Str} {C : Addr} {Γ : Gm} {μ : Mu} {Q : Mu → D → Prop} {pos : Pos} (m : mg x = some (.ref C)) (b : glB sc x = true) (q : Q μ (.ref C)) : WE X (.Name x pos) Γ μ Q :=
  we_cls (by show X.env.scope.names.lookup x = _; rw [h.sc]; exact (glB_ok b).1) (by rw [h.mg]; exact m) (glB_ok b).2 q
/-- try .. except x as n, in a def -/
theorem Ctx.try_as (h : Ctx X P w K mg base k N sc) (hf : Fr X) {x n : Str} {C : Addr} {i : Nat} {body suite : List Stmt} {b₀ : Stmt} {np pos pos' : Pos} {Γ : Gm} {μ : Mu} {kt : Kt} (hn : Nw X n i) (m : mg x = some (.ref C)) (q : ∀ X', TryX X X' (Catch X (.ref C) i (b₀ :: suite) kt) → WB X' body Γ μ kt)
    (hl : locB sc n = true := by decide +kernel) (b : glB sc x = true := by decide +kernel) : WS X (.Try body [.ExceptHandler (some (.Name x np)) (some n) (b₀ :: suite) pos'] [] [] pos) Γ μ kt :=
  ws_try_as hf.stk hf.frm hn (by show X.env.scope.names.lookup n = _; rw [h.sc]; exact locB_ok hl) ⟨h.gl b, (glB_ok b).2, .inl (by rw [h.mg]; exact m)⟩ q
end
section
variable {X : Cz} {Γ : Gm} {μ : Mu} {t1 t2 e : Expr} {pos : Pos} {k : Kt}
theorem ws_asg2 (h : WE X e Γ μ fun μ1 d => WGx X t1 d Γ μ1 fun Γ2 μ2 => WGx X t2 d Γ2 μ2 k.nx)
    (ha : (assignEach [t1, t2] X.env).map (·.2) = [assign t1 X.env, assign t2 X.env] := by rfl) (hw : swappedStores [t1, t2] e X.env = pure none := by rfl) : WS X (.Assign [t1, t2] e pos) Γ μ k := fun Z σ H en ok tk => by
  refine toSS (ps_asg2 pe_S pg_S pg_S ha hw) ?_
  refine h.use (Go.refl ok) en tk fun v H1 μ1 d g1 _ en1 i1 q1 => ?_
  refine (q1 Z σ H1 v en1 g1.ok (tk.up g1) i1).mono fun σ2 H2 ⟨Γ2, μ2, g2, en2, q2⟩ => ?_
  exact (q2 Z σ2 H2 v en2 g2.ok (tk.up (g1.trans g2)) (i1.mono g2.fz)).mono fun σ3 H3 p => p.up (g1.trans g2)
end
/-- dds: the values of what is left out -/
structure ClD (X : Cz) (x : Str) (dds : List D) (s : Spc) : Prop where
  mono : s.Mono
  ex : ∃ k f fd ps ds dvs, FnOk X.prog X.w X.K X.mg X.base (L2.CX X.prog X.w) k f fd ps (lift X.K s) ∧ Room k X.A ∧ X.mg x = some (.ref f) ∧ PySem.W.keepIn X.K (.ref f) = true ∧ Binds X.K fd ps ds ∧ Vals dvs ds ∧ ∀ A H, IsA X.K A H dvs dds
  gl : Gl X x
  db : (x == ("__debug__" : Str)) = false
def GFd (P : Program) (w : World) (K : PySem.W.Frag) (mg : Str → Option Value) (base : Heap) (x : Str) (j : Nat) (dds : List D) (s : Spc) : Prop :=
  ∃ f fd ps ds dvs, FnOk P w K mg base (L2.CX P w) j f fd ps (lift K s) ∧ mg x = some (.ref f) ∧ PySem.W.keepIn K (.ref f) = true ∧ Binds K fd ps ds ∧ Vals dvs ds ∧ (∀ A H, IsA K A H dvs dds) ∧ s.Mono
theorem Ctx.clD {X : Cz} {P : Program} {w : World} {K : PySem.W.Frag} {mg : Str → Option Value} {base : Heap} {k : Nat} {N : List Str} {sc : Scope} (h : Ctx X P w K mg base k N sc) {x : Str} {j : Nat} {dds : List D} {s : Spc} (c : GFd P w K mg base x j dds s) (b : glB sc x = true) (l : j ≤ k) : ClD X x dds s := by
  obtain ⟨f, fd, ps, ds, dvs, F, hm, hk, hb, hv, hi, mo⟩ := c
  obtain ⟨rfl, rfl, rfl, rfl, rfl, rfl, rfl, _, hr, _⟩ := h
  exact ⟨mo, ⟨j, f, fd, ps, ds, dvs, F, hr.mono l, hm, hk, hb, hv, hi⟩, (glB_ok b).1, (glB_ok b).2⟩
section
variable {X : Cz} {Γ : Gm} {μ : Mu} {e : Expr} {es : List Expr} {pos p0 : Pos} {Q : Mu → D → Prop}
theorem we_callD {x : Str} {s : Spc} {dds : List D} (C : ClD X x dds s) (h : WA X (e :: es) Γ μ fun μ1 ds => s (ds ++ dds) μ1 Q (X.xd Γ))
    (he : starEach (e :: es) X.env = (false, eval e X.env) :: starEach es X.env := by rfl) (hpl : (backTo pos (starEach es X.env)).any (·.1) = false := by rfl) : WE X (.Call (.Name x p0) (e :: es) [] pos) Γ μ Q := fun Z σ H en ok tk => by
  obtain ⟨k, f, fd, ps, ds, dvs, F, hr, hm, hk, hb, hv, hi⟩ := C.ex
  refine toS (pe_callSD F hr C.gl hm hk hb hv tk.pass pa_S C.db he hpl) ?_
  refine h.use (Go.refl ok) en tk fun vs H1 μ1 ds g1 _ en1 i1 q1 => ?_
  exact lift_of C.mono g1 en1 (i1.append (hi _ _)) q1
end
end DL

set_option Elab.async false
set_option linter.all false
set_option maxRecDepth 100000
set_option maxHeartbeats 2000000
namespace DL
open PySem PySem.Spec PyProof.Rows L2
def isStar : Expr → Bool
  | .Starred .. => true
  | _ => false
theorem sst_two {x y : Str} {px py pt pt2 : Pos} {k k2} {a b : Expr} {env : Env} (hk : env.scope.kind = .function) (hx : env.scope.names.lookup x = some .local) (hy : env.scope.names.lookup y = some .local) (hxy : (y == x) = false) (hl : (py.line == px.line) = true)
    (hs : ([a, b].any fun | .Starred .. => true | _ => false) = false) (hf : [a, b].all (foldedForSure 8) = false) (hc : [a, b].all (constantsAlone 8) = false) : swappedStores [.Tuple [.Name x px, .Name y py] k pt] (.Tuple [a, b] k2 pt2) env = pure (some [x, y]) := by
  have kx : env.kindOf x = some .local := hx
  have ky : env.kindOf y = some .local := hy
  have hb : env.blockKind = .function := by unfold Env.blockKind; rw [hk]; rfl
  have hl' : (px.line == px.line) = true := beq_self_eq_true _
  have hxy' : (x == y) = false := by
    rw [beq_eq_false_iff_ne] at hxy ⊢
    exact fun e => hxy e.symm
  have e2 : ([x, y] : List Str).eraseDups.length = 2 := by
    simp [List.eraseDups_cons, hxy, hxy']
  unfold swappedStores
  dsimp only
  simp only [hb, hs, hf, hc, kx, ky, Expr.pos, hl, hl', List.head?_cons, Option.map_some, Option.getD_some, List.filterMap_cons, List.filterMap_nil, beq_self_eq_true, Bool.and_self, if_true, List.length_cons, List.length_nil, e2]
  refine Eq.trans (if_neg (by decide)) ?_
  refine Eq.trans (if_neg fun z => ?_) rfl
  have z' : ([a, b].any fun | .Starred .. => true | _ => false) = true := z
  rw [hs] at z'
  cases z'
section
variable {X : Cz} {P : Program} {w : World} {K : PySem.W.Frag} {mg : Str → Option Value} {base : Heap} {k : Nat} {N : List Str} {sc : Scope}
theorem ctx_par (h : Ctx X P w K mg base k N sc) {x y : Str} {i j : Nat} {a b : Expr} {px py pt pos : Pos} {k1 k2 pt2} {Γ : Gm} {μ : Mu} {kt : Kt} (n1 : Nw X x i) (n2 : Nw X y j)
    (q : WE X a Γ μ fun μ1 d1 => WE X b Γ μ1 fun μ2 d2 => SetQ Γ i d1 fun Γ1 => SetQ Γ1 j d2 fun Γ2 => kt.nx Γ2 μ2)
    (hij : i ≠ j := by decide) (l1 : locB sc x = true := by decide +kernel) (l2 : locB sc y = true := by decide +kernel) (bk : kindB sc = true := by decide +kernel) (hxy : (y == x) = false := by decide +kernel) (hl : (py.line == px.line) = true := by decide +kernel)
    (hs : ([a, b].any fun | .Starred .. => true | _ => false) = false := by rfl) (hf : [a, b].all (foldedForSure 8) = false := by rfl) (hc : [a, b].all (constantsAlone 8) = false := by rfl)
    (h1 : starEach [a, b] X.env = (false, eval a X.env) :: starEach [b] X.env := by rfl) (h2 : starEach [b] X.env = (false, eval b X.env) :: starEach [] X.env := by rfl) :
    WS X (.Assign [.Tuple [.Name x px, .Name y py] k1 pt] (.Tuple [a, b] k2 pt2) pos) Γ μ kt := by
  have e1 : X.env.scope.names.lookup x = some .local := by rw [h.sc]; exact locB_ok l1
  have e2 : X.env.scope.names.lookup y = some .local := by rw [h.sc]; exact locB_ok l2
  refine ws_par h.calm n1 n2 e1 e2 hij ?_ (sst_two (by rw [h.sc]; exact kindB_ok bk) e1 e2 hxy hl hs hf hc)
  refine wa_cons ?_ h1
  refine q.mono fun μ1 d1 q1 => ?_
  refine wa_cons ?_ h2
  refine q1.mono fun μ2 d2 q2 => wa_nil ?_
  obtain ⟨Γ1, s1, Γ2, s2, q⟩ := q2
  exact ⟨d1, d2, Γ1, Γ2, rfl, s1, s2, q⟩
end
end DL

set_option Elab.async false
set_option linter.all false
set_option maxRecDepth 100000
set_option maxHeartbeats 2000000
namespace DL
open PySem PySem.Spec PyProof.Rows L2
theorem wb_sub {X : Cz} {Γ Γ' : Gm} {μ : Mu} {k : Kt} {sts : List Stmt} (s : Sub Γ' Γ) (q : WB X sts Γ' μ k) : WB X sts Γ μ k := fun Z σ H en ok tk => q Z σ H (en.sub s) ok tk
/-- an object that nobody asks for any more -/
theorem wb_drop {X : Cz} {Γ : Gm} {μ : Mu} {k : Kt} {sts : List Stmt} {p : Addr} {o : MO} (e : μ p = some o) (q : WB X sts Γ (delM μ p) k) : WB X sts Γ μ k := fun Z σ H en ok tk => by
  have g := Go.fix ok p ⟨o, e⟩
  exact q.use g (en.mono g.fz) tk
theorem sub_nil : Sub [] [] := ⟨rfl, fun _ _ h => h⟩
theorem sub_cons {x : Option D} {Γ Γ' : Gm} (s : Sub Γ' Γ) : Sub (x :: Γ') (x :: Γ) := ⟨by simp [s.1], fun i d h => by
  cases i with
  | zero => exact h
  | succ i => simpa using s.2 i d (by simpa using h)⟩
theorem sub_drop {x : Option D} {Γ Γ' : Gm} (s : Sub Γ' Γ) : Sub (none :: Γ') (x :: Γ) := ⟨by simp [s.1], fun i d h => by
  cases i with
  | zero => simp at h
  | succ i => simpa using s.2 i d (by simpa using h)⟩
/-- a comprehension's own name that an inner block reads -/
theorem Ctx.blkC {X X' : Cz} {P : Program} {w : World} {K : PySem.W.Frag} {mg : Str → Option Value} {base : Heap} {k : Nat} {N : List Str} {sc scope : Scope} (h : Ctx X P w K mg base k N sc) (b : Blk X scope X') {x : Str} {i : Nat}
    (e : nmB N (relS scope sc) x i = true := by decide +kernel) (l : celB (relS scope sc) x = true := by decide +kernel) (f : celB scope x = true := by decide +kernel) : Nw X' x i := by
  have hX' := h.blk b
  refine ⟨hX'.nm e, hX'.nd, .inr (by rw [hX'.sc]; exact celB_ok l), .inl ?_⟩
  obtain ⟨s, H, C, cl, fp, rfl⟩ := b
  show (scope.names.lookup x == some .cell) = true
  rw [celB_ok f]
  rfl
def rowD (n : Nat) (f : Nat → Nat) : List D := (List.range n).map fun j => D.int ((f j : Nat) : Int)
theorem rowD_len {n : Nat} {f : Nat → Nat} : (rowD n f).length = n := by simp [rowD]
theorem rowD_get {n : Nat} {f : Nat → Nat} {j : Nat} (h : j < n) : (rowD n f)[j]? = some (.int (f j)) := by
  simp [rowD, List.getElem?_range h]
theorem rowD_at {n : Nat} {f : Nat → Nat} {j : Nat} (h : j < n) : atI (rowD n f) (j : Int) = some (.int (f j)) := atI_n (by omega) (by rw [Int.toNat_natCast]; exact rowD_get h)
theorem rowD_set {n : Nat} {f : Nat → Nat} {j v : Nat} (h : j < n) : (rowD n f).set j (.int (v : Int)) = rowD n fun k => if k = j then v else f k := by
  apply List.ext_getElem?
  intro i
  by_cases hi : i < n
  · by_cases e : j = i
    · subst e
      rw [List.getElem?_set_self (by rw [rowD_len]; exact hi), rowD_get hi, if_pos rfl]
    · rw [List.getElem?_set_ne e, rowD_get hi, rowD_get hi, if_neg fun z => e z.symm]
  · rw [List.getElem?_eq_none (by rw [List.length_set, rowD_len]; omega), List.getElem?_eq_none (by rw [rowD_len]; omega)]
theorem rowD_congr {n : Nat} {f g : Nat → Nat} (h : ∀ j, j < n → f j = g j) : rowD n f = rowD n g := by
  unfold rowD
  refine List.map_congr_left fun j hj => ?_
  rw [h j (List.mem_range.mp hj)]
def upd2 (M : Nat → Nat → Nat) (i j v : Nat) : Nat → Nat → Nat := fun a b => if a = i ∧ b = j then v else M a b
/-- a table at T, its rows at rs -/
structure MatAt (μ0 : Mu) (T : Addr) (rs : List Addr) (n : Nat) (M : Nat → Nat → Nat) (μ : Mu) : Prop where
  len : rs.length = n
  top : μ T = some (.lst (rs.map .ref))
  row : ∀ i r, rs[i]? = some r → μ r = some (.lst (rowD n (M i)))
  nd : rs.Nodup
  nT : T ∉ rs
  fr : ∀ a, a ≠ T → a ∉ rs → μ a = μ0 a
  f0 : μ0 T = none
  fs : ∀ r ∈ rs, μ0 r = none
section
variable {μ0 μ : Mu} {T : Addr} {rs : List Addr} {n : Nat} {M : Nat → Nat → Nat}
theorem MatAt.get (h : MatAt μ0 T rs n M μ) {i : Nat} (hi : i < n) : ∃ r, rs[i]? = some r ∧ atI (rs.map D.ref) (i : Int) = some (.ref r) ∧ μ r = some (.lst (rowD n (M i))) := by
  have hl : i < rs.length := by rw [h.len]; exact hi
  have e : rs[i]? = some rs[i] := List.getElem?_eq_getElem hl
  refine ⟨rs[i], e, atI_n (by omega) ?_, h.row _ _ e⟩
  rw [Int.toNat_natCast, List.getElem?_map, e]
  rfl
theorem MatAt.set (h : MatAt μ0 T rs n M μ) {i j v : Nat} {r : Addr} (hr : rs[i]? = some r) (hj : j < n) : MatAt μ0 T rs n (upd2 M i j v) (updM μ r (.lst ((rowD n (M i)).set j (.int (v : Int))))) := by
  have hm : r ∈ rs := List.mem_of_getElem? hr
  have hT : T ≠ r := fun e => h.nT (e ▸ hm)
  refine ⟨h.len, by rw [updM_ne hT]; exact h.top, fun k r' hk => ?_, h.nd, h.nT, fun a h1 h2 => ?_, h.f0, h.fs⟩
  · by_cases e : r' = r
    · subst e
      have hki : k = i := by
        have h1 := (List.getElem?_eq_some_iff.mp hk)
        have h2 := (List.getElem?_eq_some_iff.mp hr)
        obtain ⟨l1, e1⟩ := h1
        obtain ⟨l2, e2⟩ := h2
        exact (List.getElem_inj h.nd).mp (e1.trans e2.symm)
      subst hki
      rw [updM_same, rowD_set hj]
      refine congrArg (fun l => some (MO.lst l)) (rowD_congr fun k2 _ => ?_)
      unfold upd2
      by_cases e : k2 = j
      · simp [e]
      · simp [e]
    · rw [updM_ne e]
      have hki : k ≠ i := fun z => by subst z; rw [hr] at hk; exact e (Option.some.inj hk).symm
      rw [h.row k r' hk]
      refine congrArg (fun l => some (MO.lst l)) (rowD_congr fun k2 _ => ?_)
      unfold upd2
      rw [if_neg fun z => hki z.1]
  · have : a ≠ r := fun e => h2 (e ▸ hm)
    rw [updM_ne this]
    exact h.fr a h1 h2
theorem MatAt.congr (h : MatAt μ0 T rs n M μ) {M' : Nat → Nat → Nat} (e : ∀ i j, i < n → j < n → M i j = M' i j) : MatAt μ0 T rs n M' μ := by
  refine ⟨h.len, h.top, fun i r hr => ?_, h.nd, h.nT, h.fr, h.f0, h.fs⟩
  have hi : i < n := by rw [← h.len]; exact (List.getElem?_eq_some_iff.mp hr).1
  rw [h.row i r hr]
  exact congrArg (fun l => some (MO.lst l)) (rowD_congr fun j hj => e i j hi hj)
def matD (n : Nat) (M : Nat → Nat → Nat) : D := .lst ((List.range n).map fun i => .lst (rowD n (M i)))
theorem frz_rows {μ0 : Mu} {n : Nat} {M : Nat → Nat → Nat} : ∀ (rs : List Addr) (k : Nat) (μ : Mu), rs.Nodup → (∀ i r, rs[i]? = some r → μ r = some (.lst (rowD n (M (k + i))))) → (∀ a, a ∉ rs → μ a = μ0 a) → (∀ r ∈ rs, μ0 r = none) →
    FrzA μ (rs.map D.ref) μ0 ((List.range' k rs.length).map fun i => D.lst (rowD n (M i)))
  | [], k, μ, _, _, h2, _ => by
    have e : μ = μ0 := funext fun a => h2 a (by simp)
    subst e
    exact .nil
  | r :: rs, k, μ, nd, h1, h2, h3 => by
    have hr := h1 0 r rfl
    rw [Nat.add_zero] at hr
    obtain ⟨n1, n2⟩ := List.nodup_cons.mp nd
    refine .cons (.lst hr FrzA.same) (frz_rows rs (k + 1) (delM μ r) n2 (fun i r' hi => ?_) (fun a ha => ?_) fun r' hr' => h3 r' (List.mem_cons_of_mem _ hr'))
    · have hne : r' ≠ r := fun e => n1 (e ▸ List.mem_of_getElem? hi)
      rw [delM_ne hne]
      have := h1 (i + 1) r' (by simpa using hi)
      rw [this, show k + 1 + i = k + (i + 1) by omega]
    · by_cases e : a = r
      · subst e
        rw [delM_same, h3 a List.mem_cons_self]
      · rw [delM_ne e]
        exact h2 a (by simp [e, ha])
theorem MatAt.frz (h : MatAt μ0 T rs n M μ) : Frz μ (.ref T) μ0 (matD n M) := by
  refine .lst h.top ?_
  have e : (List.range n).map (fun i => D.lst (rowD n (M i))) = (List.range' 0 rs.length).map fun i => D.lst (rowD n (M i)) := by
    rw [h.len, List.range_eq_range']
  rw [e]
  refine frz_rows rs 0 _ h.nd (fun i r hr => ?_) (fun a ha => ?_) h.fs
  · have hne : r ≠ T := fun e => h.nT (e ▸ List.mem_of_getElem? hr)
    rw [delM_ne hne, h.row i r hr, Nat.zero_add]
  · by_cases e : a = T
    · subst e
      rw [delM_same, h.f0]
    · rw [delM_ne e]
      exact h.fr a e ha
end
theorem at_row {n b : Nat} {f : Nat → Nat} {R : Nat → Prop} (h : b < n) (r : R b) : AtQ (rowD n f) (b : Int) R := by
  refine at_q (by omega) (by rw [rowD_len]; omega) ?_
  rw [Int.toNat_natCast]
  exact r
theorem enum_row {n : Nat} {f : Nat → Nat} : enumD (rowD n f) 0 = (List.range n).map fun (j : Nat) => D.tup [.int ((j : Nat) : Int), .int ((f j : Nat) : Int)] := by
  apply List.ext_getElem?
  intro i
  by_cases hi : i < n
  · rw [enumD_get _ 0 i _ (rowD_get hi), List.getElem?_map, List.getElem?_range hi]
    simp
  · rw [List.getElem?_eq_none (by rw [enumD_len, rowD_len]; omega), List.getElem?_eq_none (by simp; omega)]
def notOne : D → Bool
  | .tup [_, .int v] => !decide (v = 1)
  | _ => false
theorem near_eq {n : Nat} {f : Nat → Nat} : ((enumD (rowD n f) 0).filter notOne).map id = ((List.range n).filter fun j => !decide (f j = 1)).map fun (j : Nat) => D.tup [.int ((j : Nat) : Int), .int ((f j : Nat) : Int)] := by
  rw [List.map_id, enum_row, List.filter_map]
  refine congrArg _ (List.filter_congr fun j _ => ?_)
  show (!decide (((f j : Nat) : Int) = 1)) = _
  congr 1
  exact decide_eq_decide.mpr (by omega)
def mat0 : Nat → Nat → Nat := fun i j => if i = j then 0 else 1
def tieStep (M : Nat → Nat → Nat) (t : Nat × Nat × Nat) : Nat → Nat → Nat :=
  upd2 (upd2 M t.1 t.2.1 (Nat.lcm (M t.1 t.2.1) t.2.2)) t.2.1 t.1 (Nat.lcm (M t.1 t.2.1) t.2.2)
def byStep (M : Nat → Nat → Nat) (b : Nat) : Nat → Nat → Nat := fun i j => Nat.lcm (M i j) (Nat.gcd (M i b) (M b j))
def closeM (n : Nat) (ts : List (Nat × Nat × Nat)) : Nat → Nat → Nat := (List.range n).foldl byStep (ts.foldl tieStep mat0)
/-- rows ahead of k are done; of row k the places in S -/
def midM (M : Nat → Nat → Nat) (b k : Nat) (S : List Nat) : Nat → Nat → Nat := fun i j => if i < k then byStep M b i j else if i = k ∧ j ∈ S then byStep M b i j else M i j
/-- 0, or a divisor of L -/
def Dv (L x : Nat) : Prop := x = 0 ∨ x ∣ L
theorem Dv.lcm {L x y : Nat} (h1 : Dv L x) (h2 : Dv L y) : Dv L (Nat.lcm x y) := by
  rcases h1 with rfl | h1
  · left; exact Nat.lcm_zero_left _
  rcases h2 with rfl | h2
  · left; exact Nat.lcm_zero_right _
  · right; exact Nat.lcm_dvd h1 h2
theorem Dv.gcd {L x y : Nat} (h1 : Dv L x) (h2 : Dv L y) : Dv L (Nat.gcd x y) := by
  rcases h1 with rfl | h1
  · rw [Nat.gcd_zero_left]; exact h2
  · right; exact Nat.dvd_trans (Nat.gcd_dvd_left _ _) h1
theorem Dv.le {L x : Nat} (h : Dv L x) (hL : 0 < L) : x ≤ L := by
  rcases h with rfl | h
  · exact Nat.zero_le _
  · exact Nat.le_of_dvd hL h
structure MatOk (L n : Nat) (M : Nat → Nat → Nat) : Prop where
  dg : ∀ i, M i i = 0
  dv : ∀ i j, Dv L (M i j)
theorem mat0_ok {L n : Nat} : MatOk L n mat0 := ⟨fun i => if_pos rfl, fun i j => by
  unfold mat0
  split
  · left; rfl
  · right; exact Nat.one_dvd _⟩
theorem tie_ok {L n : Nat} {M : Nat → Nat → Nat} {a b r : Nat} (h : MatOk L n M) (hr : Dv L r) : MatOk L n (tieStep M (a, b, r)) := by
  refine ⟨fun i => ?_, fun i j => ?_⟩
  · unfold tieStep upd2
    dsimp only
    split
    · rename_i e
      obtain ⟨rfl, rfl⟩ := e
      rw [h.dg, Nat.lcm_zero_left]
    · split
      · rename_i e
        obtain ⟨rfl, rfl⟩ := e
        rw [h.dg, Nat.lcm_zero_left]
      · exact h.dg i
  · unfold tieStep upd2
    dsimp only
    split
    · exact (h.dv _ _).lcm hr
    · split
      · exact (h.dv _ _).lcm hr
      · exact h.dv _ _
theorem by_ok {L n b : Nat} {M : Nat → Nat → Nat} (h : MatOk L n M) : MatOk L n (byStep M b) :=
  ⟨fun i => by unfold byStep; rw [h.dg, Nat.lcm_zero_left], fun i j => (h.dv _ _).lcm ((h.dv _ _).gcd (h.dv _ _))⟩
theorem by_self {L n b k : Nat} {M : Nat → Nat → Nat} (h : MatOk L n M) : byStep M b k b = M k b := by
  unfold byStep
  rw [h.dg, Nat.gcd_zero_right, Nat.lcm_self]
theorem mid_by {L n b k : Nat} {S : List Nat} {M : Nat → Nat → Nat} (h : MatOk L n M) : midM M b k S k b = M k b := by
  unfold midM
  rw [if_neg (Nat.lt_irrefl _), by_self h]
  split <;> rfl
theorem mid_at {b k j : Nat} {S : List Nat} {M : Nat → Nat → Nat} (h : j ∉ S) : midM M b k S k j = M k j := by
  unfold midM
  rw [if_neg (Nat.lt_irrefl _), if_neg fun z => h z.2]
theorem mid_nil {b k : Nat} {M : Nat → Nat → Nat} : midM M b k [] k b = M k b := mid_at (by simp)
theorem mid_put {b k j : Nat} {S : List Nat} {M : Nat → Nat → Nat} (i j' : Nat) : upd2 (midM M b k S) k j (byStep M b k j) i j' = midM M b k (S ++ [j]) i j' := by
  unfold upd2 midM
  by_cases h1 : i < k
  · rw [if_neg (by omega), if_pos h1, if_pos h1]
  · rw [if_neg h1, if_neg h1]
    by_cases h2 : i = k
    · subst h2
      by_cases h3 : j' = j
      · subst h3; simp
      · simp [h3]
    · simp [h2]
theorem mid_next {n b k : Nat} {M : Nat → Nat → Nat} {i j : Nat} (hj : j < n) : midM M b k ((List.range n).filter fun j => !decide (M b j = 1)) i j = midM M b (k + 1) [] i j := by
  unfold midM
  by_cases h1 : i < k
  · rw [if_pos h1, if_pos (by omega)]
  · rw [if_neg h1]
    by_cases h2 : i = k
    · subst h2
      rw [if_pos (Nat.lt_succ_self _)]
      by_cases h3 : M b j = 1
      · rw [if_neg (by simp [h3])]
        unfold byStep
        rw [h3, Nat.gcd_one_right, Nat.lcm_one_right]
      · rw [if_pos ⟨rfl, by simp [h3, hj]⟩]
    · rw [if_neg (by simp [h2]), if_neg (by omega)]
      simp
theorem mid_skip {b k : Nat} {M : Nat → Nat → Nat} (h : M k b = 1) (i j : Nat) : midM M b k [] i j = midM M b (k + 1) [] i j := by
  unfold midM
  by_cases h1 : i < k
  · rw [if_pos h1, if_pos (by omega)]
  · rw [if_neg h1]
    by_cases h2 : i = k
    · subst h2
      rw [if_pos (Nat.lt_succ_self _)]
      unfold byStep
      rw [h, Nat.gcd_one_left, Nat.lcm_one_right]
      simp
    · rw [if_neg (show ¬ i < k + 1 by omega)]
      simp
theorem mid_all {n b : Nat} {M : Nat → Nat → Nat} {i j : Nat} (hi : i < n) : midM M b n [] i j = byStep M b i j := if_pos hi
theorem mid_none {b : Nat} {M : Nat → Nat → Nat} (i j : Nat) : M i j = midM M b 0 [] i j := by
  unfold midM
  simp
end DL

set_option Elab.async false
set_option linter.all false
set_option maxRecDepth 100000
set_option maxHeartbeats 2000000
namespace DL
open PySem PySem.Spec PyProof.Rows L2
theorem isA_map {K : PySem.W.Frag} {A : Addr → Prop} {H : Hp} {α : Type} {f : α → V} {g : α → D} (h : ∀ x, Is K A H (f x) (g x)) : ∀ l : List α, IsA K A H (l.map f) (l.map g)
  | [] => .nil
  | x :: l => .cons (h x) (isA_map h l)
section
variable {K : PySem.W.Frag}
theorem kit_r {t : Value} {C : Addr} {b : Bool} (hs : PySem.W.subIn K t (.ref C) = some b) (hself : PySem.W.subIn K (.ref C) (.ref C) = some true) (ic : PySem.W.isClsIn K C = true) (tc : PySem.W.typeIn K (.ref C) = some (.type "type")) : PySem.W.kitOne K t (.ref C) = some b := by
  unfold PySem.W.kitOne
  by_cases h : (t == Value.ref C) = true
  · rw [if_pos h]
    have e : t = .ref C := beq_iff_eq.mp h
    subst e
    rw [hself] at hs
    exact hs
  · rw [if_neg h]
    unfold PySem.W.kitCls
    have e2 : ((PySem.W.clsIn K C).isSome && PySem.W.typeIn K (.ref C) == some (.type "type")) = true := by
      rw [show (PySem.W.clsIn K C).isSome = true from ic, tc] <;> rfl
    dsimp only
    rw [if_pos e2]
    exact hs
theorem kit_t {c : Addr} {T : String} {b : Bool} (hs : PySem.W.subIn K (.ref c) (.type T) = some b) (hm : PySem.W.kitMeta T = true) : PySem.W.kitOne K (.ref c) (.type T) = some b := by
  unfold PySem.W.kitOne
  rw [if_neg (show ¬ ((Value.ref c == Value.type T) = true) from fun z => by have := beq_iff_eq.mp z; cases this)]
  unfold PySem.W.kitCls
  dsimp only
  rw [if_pos hm]
  exact hs
theorem kit_nil {t : Value} : PySem.W.kitAny K t [] = some false := rfl
theorem kit_f {t c : Value} {cs : List Value} {r : Bool} (h : PySem.W.kitOne K t c = some false) (hr : PySem.W.kitAny K t cs = some r) : PySem.W.kitAny K t (c :: cs) = some r := by
  unfold PySem.W.kitAny
  rw [h]
  exact hr
theorem exm_r {C : Addr} {cls : Value} {b : Bool} (h1 : PySem.W.subIn K (.ref C) (.type "BaseException") = some true) (ic : PySem.W.isClsIn K C = true) (tc : PySem.W.typeIn K (.ref C) = some (.type "type")) (hs : PySem.W.subIn K cls (.ref C) = some b) : PySem.W.exmOne K cls (.ref C) = some b := by
  have e1 : (PySem.W.subIn K (.ref C) (.type "BaseException") == some true) = true := by rw [h1] <;> rfl
  have e2 : ((PySem.W.clsIn K C).isSome && PySem.W.typeIn K (.ref C) == some (.type "type")) = true := by rw [show (PySem.W.clsIn K C).isSome = true from ic, tc] <;> rfl
  show (if (PySem.W.subIn K (.ref C) (.type "BaseException") == some true) = true then (if ((PySem.W.clsIn K C).isSome && PySem.W.typeIn K (.ref C) == some (.type "type")) = true then PySem.W.subIn K cls (.ref C) else none) else none) = some b
  rw [if_pos e1, if_pos e2]
  exact hs
end
section
variable {X : Cz} {Γ : Gm} {μ : Mu} {a b : Expr} {pos p0 p1 pos1 : Pos} {Q : Mu → D → Prop}
theorem we_listRg1 (hc : X.calm = true) (B : Bl X "list") (BR : Bl X "range") (h : WE X a Γ μ fun μ1 x => One x fun n => Req (0 ≤ n ∧ n ≤ 16777216) (Q μ1 (.lst (rangeD 0 n.toNat))))
    (na : starEach [.Call (.Name "range" p1) [a] [] pos1] X.env = (false, eval (.Call (.Name "range" p1) [a] [] pos1) X.env) :: starEach [] X.env := by rfl) (nb : starEach [a] X.env = (false, eval a X.env) :: starEach [] X.env := by rfl) :
    WE X (.Call (.Name "list" p0) [.Call (.Name "range" p1) [a] [] pos1] [] pos) Γ μ Q := fun Z σ H en ok tk => by
  refine toS (pe_listRg hc B.gl B.mg (prg_1 BR.gl BR.mg pe_S nb) na) ?_
  refine h.use (Go.refl ok) en tk fun v H1 μ1 d g1 _ en1 i1 q1 => ?_
  obtain ⟨n, rfl, ⟨h0, h1⟩, q⟩ := q1
  rw [isInt i1]
  refine ⟨n, rfl, RgOk.of_le (Int.le_refl _) h1 (by omega) h0, fun p hp => ⟨μ1, _, g1.trans (Go.frz g1.ok hp _), Is.newL g1.ok hp ?_, q⟩⟩
  unfold rgV rangeD
  rw [Int.sub_zero]
  exact isA_map (fun i => .int _) _
theorem we_listRg1M (hc : X.calm = true) (B : Bl X "list") (BR : Bl X "range") (h : WE X a Γ μ fun μ1 x => One x fun n => Req (0 ≤ n ∧ n ≤ 16777216) (∀ p, μ1 p = none → Q (updM μ1 p (.lst (rangeD 0 n.toNat))) (.ref p)))
    (na : starEach [.Call (.Name "range" p1) [a] [] pos1] X.env = (false, eval (.Call (.Name "range" p1) [a] [] pos1) X.env) :: starEach [] X.env := by rfl) (nb : starEach [a] X.env = (false, eval a X.env) :: starEach [] X.env := by rfl) :
    WE X (.Call (.Name "list" p0) [.Call (.Name "range" p1) [a] [] pos1] [] pos) Γ μ Q := fun Z σ H en ok tk => by
  refine toS (pe_listRg hc B.gl B.mg (prg_1 BR.gl BR.mg pe_S nb) na) ?_
  refine h.use (Go.refl ok) en tk fun v H1 μ1 d g1 _ en1 i1 q1 => ?_
  obtain ⟨n, rfl, ⟨h0, h1⟩, q⟩ := q1
  rw [isInt i1]
  refine ⟨n, rfl, RgOk.of_le (Int.le_refl _) h1 (by omega) h0, fun p hp => ⟨_, _, g1.trans (Go.put g1.ok (.lst (rangeD 0 n.toNat)) _ (.inl hp) fun m => ⟨_, upd_same, m ?_⟩), .ref p, q p (g1.ok.fresh hp).1⟩⟩
  unfold rgV rangeD
  rw [Int.sub_zero]
  exact isA_map (fun i => .int _) _
end
end DL

set_option Elab.async false
set_option linter.all false
set_option maxRecDepth 100000
set_option maxHeartbeats 2000000
namespace DL
open PySem PySem.Spec PyProof.Rows L2
theorem lc_box {X : Cz} {Γ : Gm} {μ : Mu} {elt tg : Expr} {scope : Scope} {vs : List Nat} {ds : List D} {G : Mu → Prop} {Pf : List D → Mu → Prop} {b g : Addr} {t : Bx} (T : D → Gm) (P : D → Prop) (c : Int) (hc0 : 0 ≤ c) (hG : ∀ t', G (bxM b g t' μ)) (hl : ds.length < sizeLine) (ht0 : BxOk t)
    (ht : ∀ X', Blk X scope X' → ∀ d ∈ ds, ∀ t', WG X' tg vs d Γ (bxM b g t' μ) fun Γ3 μ3 => Γ3 = T d ∧ μ3 = bxM b g t' μ)
    (he : ∀ X', Blk X scope X' → ∀ d ∈ ds, ∀ t', BxOk t' → t'.cnt ≤ t.cnt + c * (ds.length : Int) → WE X' elt (T d) (bxM b g t' μ) fun μ4 y => ∃ t2, μ4 = bxM b g t2 μ ∧ BxOk t2 ∧ t2.cnt ≤ t'.cnt + c ∧ P y)
    (fin : ∀ acc t', acc.length = ds.length → (∀ d ∈ acc, P d) → BxOk t' → t'.cnt ≤ t.cnt + c * (ds.length : Int) → Pf acc (bxM b g t' μ)) : Lc X elt tg [] scope vs Γ (bxM b g t μ) ds G Pf := by
  refine ⟨fun i acc μ' => ∃ t', μ' = bxM b g t' μ ∧ BxOk t' ∧ t'.cnt ≤ t.cnt + c * (i : Int) ∧ acc.length = i ∧ ∀ d ∈ acc, P d, ⟨t, rfl, ht0, by simp, rfl, fun d h => by cases h⟩, fun i acc μ' _ ⟨t', e, _⟩ => by rw [e]; exact hG t', fun i d acc μ' hd h => ?_, fun acc μ' h => ?_⟩
  · obtain ⟨t', rfl, h1, h2, h3, h4⟩ := h
    have hm : d ∈ ds := List.mem_of_getElem? hd
    have hi : i < ds.length := (List.getElem?_eq_some_iff.mp hd).1
    have hle : c * (i : Int) ≤ c * (ds.length : Int) := Int.mul_le_mul_of_nonneg_left (by omega) hc0
    refine ⟨T d, fun X' bl => ht X' bl d hm t', fun X' bl => wts_nil ?_⟩
    rw [if_pos rfl]
    intro X' bl
    refine (he X' bl d hm t' h1 (by omega)).mono fun μ4 y h5 => ?_
    obtain ⟨t2, rfl, h6, h7, h8⟩ := h5
    refine ⟨by omega, t2, rfl, h6, ?_, by rw [List.length_append, List.length_singleton]; omega, fun z hz => ?_⟩
    · have e : c * ((i + 1 : Nat) : Int) = c * (i : Int) + c := by
        rw [Int.natCast_add, Int.mul_add]
        simp
      rw [e]
      omega
    · rcases List.mem_append.mp hz with hz | hz
      · exact h4 z hz
      · simp only [List.mem_cons, List.not_mem_nil, or_false] at hz
        subst hz
        exact h8
  · obtain ⟨t', rfl, h1, h2, h3, h4⟩ := h
    exact fin acc t' h3 h4 h1 h2
/-- a comprehension stored in a name that inner blocks read -/
theorem sw_false {elt : Expr} {gs : List Comprehension} {scope : Scope} {pos py : Pos} {y : Str} {l : Nat} {env : Env} (hy : env.scope.names.lookup y = some .cell) : swapsWith (.ListComp elt gs scope pos) (some (.Name y py)) l env = pure false := by
  have ky : env.kindOf y = some .cell := hy
  unfold swapsWith
  simp only [ky]
  show pure (env.blockKind == .function && false && _ && _) = _
  rw [Bool.and_false, Bool.false_and, Bool.false_and]
theorem ints_of {acc : List D} (h : ∀ d ∈ acc, ∃ i : Int, d = .int i) : ∃ cs : List Int, acc = cs.map D.int := by
  induction acc with
  | nil => exact ⟨[], rfl⟩
  | cons d r ih =>
    obtain ⟨i, rfl⟩ := h d List.mem_cons_self
    obtain ⟨cs, rfl⟩ := ih fun d hd => h d (List.mem_cons_of_mem _ hd)
    exact ⟨i :: cs, rfl⟩
theorem ite_rt {c : Bool} {A B : Prop} (h : c = true) (a : A) : if c = true then A else B := by rw [if_pos h]; exact a
theorem ite_rf {c : Bool} {A B : Prop} (h : c = false) (a : B) : if c = true then A else B := by rw [h]; exact a
end DL

set_option Elab.async false
set_option linter.all false
set_option maxRecDepth 100000
set_option maxHeartbeats 4000000
namespace KK
open PySem PySem.Spec PyProof.Rows L2 DL
def topS (i : Nat) : Stmt := PySem.Challenge.pw_samewell_k02_webs_made.main.body.getD i (.Pass ⟨0, 0, 0, 0⟩)
abbrev s_BadTie_init : Stmt := inClass (topS 3) 0
abbrev N_BadTie_init : List Str := ["self", "at"]
theorem sc_BadTie_init : FnScope N_BadTie_init ["self", "at"] (defScope s_BadTie_init) := ⟨rfl, rfl, rfl, by decide +kernel, rfl, by decide +kernel, by decide +kernel⟩
abbrev s_NoPoint_init : Stmt := inClass (topS 4) 0
abbrev N_NoPoint_init : List Str := ["self", "point"]
theorem sc_NoPoint_init : FnScope N_NoPoint_init ["self", "point"] (defScope s_NoPoint_init) := ⟨rfl, rfl, rfl, by decide +kernel, rfl, by decide +kernel, by decide +kernel⟩
abbrev s_BadRest_init : Stmt := inClass (topS 5) 0
abbrev N_BadRest_init : List Str := ["self", "rest"]
theorem sc_BadRest_init : FnScope N_BadRest_init ["self", "rest"] (defScope s_BadRest_init) := ⟨rfl, rfl, rfl, by decide +kernel, rfl, by decide +kernel, by decide +kernel⟩
abbrev s_is_whole : Stmt := topS 8
abbrev N_is_whole : List Str := ["thing"]
theorem sc_is_whole : FnScope N_is_whole ["thing"] (defScope s_is_whole) := ⟨rfl, rfl, rfl, by decide +kernel, rfl, by decide +kernel, by decide +kernel⟩
abbrev s_is_rest : Stmt := topS 9
abbrev N_is_rest : List Str := ["thing", "most"]
theorem sc_is_rest : FnScope N_is_rest ["thing", "most"] (defScope s_is_rest) := ⟨rfl, rfl, rfl, by decide +kernel, rfl, by decide +kernel, by decide +kernel⟩
abbrev s_divides : Stmt := topS 10
abbrev N_divides : List Str := ["rest", "number"]
theorem sc_divides : FnScope N_divides ["rest", "number"] (defScope s_divides) := ⟨rfl, rfl, rfl, by decide +kernel, rfl, by decide +kernel, by decide +kernel⟩
abbrev s_agree : Stmt := topS 11
abbrev N_agree : List Str := ["one", "two", "rest"]
theorem sc_agree : FnScope N_agree ["one", "two", "rest"] (defScope s_agree) := ⟨rfl, rfl, rfl, by decide +kernel, rfl, by decide +kernel, by decide +kernel⟩
abbrev s_common : Stmt := topS 12
abbrev N_common : List Str := ["one", "two"]
theorem sc_common : FnScope N_common ["one", "two"] (defScope s_common) := ⟨rfl, rfl, rfl, by decide +kernel, rfl, by decide +kernel, by decide +kernel⟩
abbrev s_joined : Stmt := topS 13
abbrev N_joined : List Str := ["one", "two"]
theorem sc_joined : FnScope N_joined ["one", "two"] (defScope s_joined) := ⟨rfl, rfl, rfl, by decide +kernel, rfl, by decide +kernel, by decide +kernel⟩
abbrev s_is_point : Stmt := topS 15
abbrev N_is_point : List Str := ["thing", "many"]
theorem sc_is_point : FnScope N_is_point ["thing", "many"] (defScope s_is_point) := ⟨rfl, rfl, rfl, by decide +kernel, rfl, by decide +kernel, by decide +kernel⟩
abbrev s_closure : Stmt := topS 16
abbrev N_closure : List Str := ["many", "ties", "table", "one", "two", "rest", "by", "near", "row", "bond"]
theorem sc_closure : FnScope N_closure ["many", "ties"] (defScope s_closure) := ⟨rfl, rfl, rfl, by decide +kernel, rfl, by decide +kernel, by decide +kernel⟩
abbrev s_Web_init : Stmt := inClass (topS 17) 0
abbrev N_Web_init : List Str := ["self", "many", "ties", "at", "one", "two", "rest"]
theorem sc_Web_init : FnScope N_Web_init ["self", "many", "ties"] (defScope s_Web_init) := ⟨rfl, rfl, rfl, by decide +kernel, rfl, by decide +kernel, by decide +kernel⟩
abbrev s_Web_many : Stmt := inClass (topS 17) 1
abbrev N_Web_many : List Str := ["self"]
theorem sc_Web_many : FnScope N_Web_many ["self"] (defScope s_Web_many) := ⟨rfl, rfl, rfl, by decide +kernel, rfl, by decide +kernel, by decide +kernel⟩
abbrev s_Web_ties : Stmt := inClass (topS 17) 2
abbrev N_Web_ties : List Str := ["self"]
theorem sc_Web_ties : FnScope N_Web_ties ["self"] (defScope s_Web_ties) := ⟨rfl, rfl, rfl, by decide +kernel, rfl, by decide +kernel, by decide +kernel⟩
abbrev s_Web_fits : Stmt := inClass (topS 17) 3
abbrev N_Web_fits : List Str := ["self", "case", "one", "two", "rest"]
theorem sc_Web_fits : FnScope N_Web_fits ["self", "case"] (defScope s_Web_fits) := ⟨rfl, rfl, rfl, by decide +kernel, rfl, by decide +kernel, by decide +kernel⟩
abbrev s_Web_bond : Stmt := inClass (topS 17) 4
abbrev N_Web_bond : List Str := ["self", "u", "v", "point"]
theorem sc_Web_bond : FnScope N_Web_bond ["self", "u", "v"] (defScope s_Web_bond) := ⟨rfl, rfl, rfl, by decide +kernel, rfl, by decide +kernel, by decide +kernel⟩
abbrev s_Web_bonds : Stmt := inClass (topS 17) 5
abbrev N_Web_bonds : List Str := ["self", "pairs", "u", "v"]
theorem sc_Web_bonds : FnScope N_Web_bonds ["self"] (defScope s_Web_bonds) := ⟨rfl, rfl, rfl, by decide +kernel, rfl, by decide +kernel, by decide +kernel⟩
abbrev s_Web_len : Stmt := inClass (topS 17) 6
abbrev N_Web_len : List Str := ["self"]
theorem sc_Web_len : FnScope N_Web_len ["self"] (defScope s_Web_len) := ⟨rfl, rfl, rfl, by decide +kernel, rfl, by decide +kernel, by decide +kernel⟩
abbrev s_Web_eq : Stmt := inClass (topS 17) 7
abbrev N_Web_eq : List Str := ["self", "other"]
theorem sc_Web_eq : FnScope N_Web_eq ["self", "other"] (defScope s_Web_eq) := ⟨rfl, rfl, rfl, by decide +kernel, rfl, by decide +kernel, by decide +kernel⟩
abbrev s__law_box : Stmt := topS 19
abbrev N__law_box : List Str := ["_law_script", "_law_great", "_law_cell"]
theorem sc__law_box : FnScope N__law_box ["_law_script"] (defScope s__law_box) := ⟨rfl, rfl, rfl, by decide +kernel, rfl, by decide +kernel, by decide +kernel⟩
abbrev s__law_mixed : Stmt := topS 20
abbrev N__law_mixed : List Str := ["_law_cell", "_law_k", "_law_whole"]
theorem sc__law_mixed : FnScope N__law_mixed ["_law_cell", "_law_k"] (defScope s__law_mixed) := ⟨rfl, rfl, rfl, by decide +kernel, rfl, by decide +kernel, by decide +kernel⟩
abbrev s__law_take : Stmt := topS 21
abbrev N__law_take : List Str := ["_law_box_here", "_law_size", "_law_found", "_law_cell", "_law_reach"]
theorem sc__law_take : FnScope N__law_take ["_law_box_here", "_law_size"] (defScope s__law_take) := ⟨rfl, rfl, rfl, by decide +kernel, rfl, by decide +kernel, by decide +kernel⟩
abbrev s__law_rest : Stmt := topS 22
abbrev N__law_rest : List Str := ["_law_box_here", "_law_way", "_law_built", "_law_k"]
theorem sc__law_rest : FnScope N__law_rest ["_law_box_here"] (defScope s__law_rest) := ⟨rfl, rfl, rfl, by decide +kernel, rfl, by decide +kernel, by decide +kernel⟩
abbrev s__law_ties : Stmt := topS 23
abbrev N__law_ties : List Str := ["_law_box_here", "_law_many", "_law_most", "_law_ties_here", "_law_close", "_law_k", "_law_span"]
theorem sc__law_ties : FnScope N__law_ties ["_law_box_here", "_law_many", "_law_most"] (defScope s__law_ties) := ⟨rfl, rfl, rfl, by decide +kernel, rfl, by decide +kernel, by decide +kernel⟩
abbrev s__law_bad : Stmt := topS 24
abbrev N__law_bad : List Str := ["_law_box_here", "_law_many", "_law_tie", "_law_at", "_law_odd"]
theorem sc__law_bad : FnScope N__law_bad ["_law_box_here", "_law_many", "_law_tie"] (defScope s__law_bad) := ⟨rfl, rfl, rfl, by decide +kernel, rfl, by decide +kernel, by decide +kernel⟩
abbrev s__law_made : Stmt := topS 25
abbrev N__law_made : List Str := ["_law_many", "_law_ties_here", "e", "_law_good"]
theorem sc__law_made : FnScope N__law_made ["_law_many", "_law_ties_here"] (defScope s__law_made) := ⟨rfl, rfl, rfl, by decide +kernel, rfl, by decide +kernel, by decide +kernel⟩
abbrev s__law_fits : Stmt := topS 26
abbrev N__law_fits : List Str := ["_law_many", "_law_ties_here", "_law_case_here", "_law_one", "_law_two", "_law_by", "_law_gap"]
theorem sc__law_fits : FnScope N__law_fits ["_law_many", "_law_ties_here", "_law_case_here"] (defScope s__law_fits) := ⟨rfl, rfl, rfl, by decide +kernel, rfl, by decide +kernel, by decide +kernel⟩
abbrev s__law_case : Stmt := topS 27
abbrev N__law_case : List Str := ["_law_box_here", "_law_many", "_law_ties_here", "_law_way", "_law_marks", "_law_step", "_law_one", "_law_two", "_law_by", "_law_begin", "_law_case_here", "_law_at", "_law_k", "_law_point", "_law_mark"]
theorem sc__law_case : FnScope N__law_case ["_law_box_here", "_law_many", "_law_ties_here"] (defScope s__law_case) := ⟨rfl, rfl, rfl, by decide +kernel, rfl, by decide +kernel, by decide +kernel⟩
abbrev s__law_says : Stmt := topS 28
abbrev N__law_says : List Str := ["_law_found", "_law_due"]
theorem sc__law_says : FnScope N__law_says ["_law_found", "_law_due"] (defScope s__law_says) := ⟨rfl, rfl, rfl, by decide +kernel, rfl, by decide +kernel, by decide +kernel⟩
abbrev s_law : Stmt := topS 29
abbrev N_law : List Str := ["_law_script", "_law_box_here", "_law_many", "_law_ties_here", "_law_bad_here", "_law_k", "_law_handed", "_law_web", "_law_at", "_law_again", "_law_told", "_law_case_here"]
theorem sc_law : FnScope N_law ["_law_script"] (defScope s_law) := ⟨rfl, rfl, rfl, by decide +kernel, rfl, by decide +kernel, by decide +kernel⟩
theorem ix_Web_points : ixS "points" ["points", "knots", "grid"] = some 0 := by decide +kernel
theorem ip_Web_points : ixS "points" [] = none := by decide +kernel
theorem ix_Web_knots : ixS "knots" ["points", "knots", "grid"] = some 1 := by decide +kernel
theorem ip_Web_knots : ixS "knots" ["points"] = none := by decide +kernel
theorem ix_Web_grid : ixS "grid" ["points", "knots", "grid"] = some 2 := by decide +kernel
theorem ip_Web_grid : ixS "grid" ["points", "knots"] = none := by decide +kernel
theorem im_Web_many : ixS "many" ["points", "knots", "grid"] = none := by decide +kernel
theorem im_Web_ties : ixS "ties" ["points", "knots", "grid"] = none := by decide +kernel
theorem im_Web_fits : ixS "fits" ["points", "knots", "grid"] = none := by decide +kernel
theorem im_Web_bond : ixS "bond" ["points", "knots", "grid"] = none := by decide +kernel
theorem im_Web_bonds : ixS "bonds" ["points", "knots", "grid"] = none := by decide +kernel
theorem im_Web_len : ixS "__len__" ["points", "knots", "grid"] = none := by decide +kernel
theorem im_Web_eq : ixS "__eq__" ["points", "knots", "grid"] = none := by decide +kernel
theorem ix_BadTie_at : ixS "at" ["at"] = some 0 := by decide +kernel
theorem ix_NoPoint_point : ixS "point" ["point"] = some 0 := by decide +kernel
theorem ix_BadRest_rest : ixS "rest" ["rest"] = some 0 := by decide +kernel
local macro_rules | `(tactic| walk_at "ixf") => `(tactic| first
  | ((with_reducible show ixS "points" _ = some _); exact ix_Web_points)
  | ((with_reducible show ixS "knots" _ = some _); exact ix_Web_knots)
  | ((with_reducible show ixS "grid" _ = some _); exact ix_Web_grid)
  | fail)
local macro_rules | `(tactic| walk_at "ixp") => `(tactic| first
  | ((with_reducible show ixS "points" _ = none); exact ip_Web_points)
  | ((with_reducible show ixS "knots" _ = none); exact ip_Web_knots)
  | ((with_reducible show ixS "grid" _ = none); exact ip_Web_grid)
  | ((with_reducible show ixS "many" _ = none); exact im_Web_many)
  | ((with_reducible show ixS "ties" _ = none); exact im_Web_ties)
  | ((with_reducible show ixS "fits" _ = none); exact im_Web_fits)
  | ((with_reducible show ixS "bond" _ = none); exact im_Web_bond)
  | ((with_reducible show ixS "bonds" _ = none); exact im_Web_bonds)
  | ((with_reducible show ixS "__len__" _ = none); exact im_Web_len)
  | ((with_reducible show ixS "__eq__" _ = none); exact im_Web_eq)
  | fail)
variable {c_SameError c_Apart c_BadTie c_NoPoint c_BadRest c_Web : Addr}
local macro_rules | `(tactic| walk_at "look") => `(tactic| first
  | exact bxM_b
  | exact bxM_g (by assumption)
  | exact updM_same
  | assumption
  | ((refine Eq.trans (bxM_ne (by assumption) (by assumption)) ?_); (walk_at "look"))
  | ((refine Eq.trans (updM_ne (by assumption)) ?_); (walk_at "look")))
local macro_rules | `(tactic| walk_at "d_we") => `(tactic| first
  | ((with_reducible refine' we_name ?m ?h ?_); (case m => with_reducible assumption); (case h => rfl))
  | with_reducible refine we_int ?_
  | with_reducible refine we_bl ?_
  | with_reducible refine we_non ?_
  | with_reducible refine we_str ?_
  | ((with_reducible show DL.WE _ (Expr.BinOp _ _ _ _) _ _ _); (first
    | with_reducible refine we_add ?_
    | with_reducible refine we_sub ?_
    | with_reducible refine we_mul ?_
    | with_reducible refine we_mod ?_
    | with_reducible refine we_div ?_
    | with_reducible refine we_pow ?_))
  | ((with_reducible show DL.WE _ (Expr.Compare _ _ _ _) _ _ _); (first
    | with_reducible refine we_isN ?_
    | with_reducible refine we_notN ?_
    | with_reducible refine we_lt ?_
    | with_reducible refine we_le ?_
    | with_reducible refine we_gt ?_
    | with_reducible refine we_ge ?_
    | with_reducible refine we_eqS ?_
    | with_reducible refine we_neS ?_
    | ((with_reducible refine' we_chI ?o1 ?o2 ?m ?_); (case o1 => first | exact op_lt | exact op_le | exact op_gt | exact op_ge); (case o2 => first | exact op_lt | exact op_le | exact op_gt | exact op_ge); (case m => rfl))))
  | ((with_reducible show DL.WE _ (Expr.Call (Expr.Name _ _) _ _ _) _ _ _); (first
    | ((with_reducible show DL.WE _ (Expr.Call (Expr.Name "len" _) _ [] _) _ _ _); (refine' we_len ?m ?_); (case m => with_reducible assumption))
    | ((with_reducible show DL.WE _ (Expr.Call (Expr.Name "isinstance" _) _ [] _) _ _ _); (refine' we_isi ?m ?h ?k ?_); (case m => with_reducible assumption); (case h => with_reducible assumption); (case k => first | exact PyProof.Rows.boot_int | exact PyProof.Rows.boot_bool | exact PyProof.Rows.boot_str | exact PyProof.Rows.boot_list | exact PyProof.Rows.boot_tuple | exact PyProof.Rows.boot_dict))
    | ((with_reducible show DL.WE _ (Expr.Call (Expr.Name _ _) (_ :: _) [] _) _ _ _); (refine' we_call ?m ?_); (case m => with_reducible assumption))
    | ((with_reducible show DL.WE _ (Expr.Call (Expr.Name _ _) (_ :: _) (_ :: _) _) _ _ _); (refine' we_callK ?m ?_); (case m => assumption))
    | ((with_reducible show DL.WE _ (Expr.Call (Expr.Name _ _) [] (_ :: _) _) _ _ _); (refine' we_callK0 ?m ?_); (case m => assumption))))
  | ((with_reducible show DL.WE _ (Expr.Subscript _ _ _) _ _ _); (refine we_ix ?_))
  | with_reducible refine we_ifE ?_
  | with_reducible refine we_and ?_
  | with_reducible refine we_or ?_
  | with_reducible refine we_one ?_
  | with_reducible refine we_not ?_
  | with_reducible refine we_neg ?_
  | with_reducible refine we_tup ?_
  | ((with_reducible show DL.WE _ (Expr.List (_ :: _) _) _ _ _); (refine we_lst ?_))
  | ((with_reducible show DL.WE _ (Expr.Call (Expr.Attribute _ _ _) _ [] _) _ _ _); (first
    | ((with_reducible show DL.WE _ (Expr.Call (Expr.Attribute _ "pop" _) [_] [] _) _ _ _); (refine we_popAt ?_))
    | ((with_reducible show DL.WE _ (Expr.Call (Expr.Attribute _ "append" _) [_] [] _) _ _ _); (refine we_app ?_)))))
local macro_rules | `(tactic| walk_at "d_wt") => `(tactic| first
  | ((with_reducible show DL.WT _ (Expr.Compare _ _ _ _) _ _ _); (first
    | with_reducible refine wt_isN ?_
    | with_reducible refine wt_notN ?_
    | with_reducible refine wt_lt ?_
    | with_reducible refine wt_le ?_
    | with_reducible refine wt_gt ?_
    | with_reducible refine wt_ge ?_
    | with_reducible refine wt_eqS ?_
    | with_reducible refine wt_neS ?_
    | ((with_reducible refine' wt_chI ?o1 ?o2 ?m ?_); (case o1 => first | exact op_lt | exact op_le | exact op_gt | exact op_ge); (case o2 => first | exact op_lt | exact op_le | exact op_gt | exact op_ge); (case m => rfl))))
  | with_reducible refine wt_not ?_
  | ((with_reducible refine wt_W ?_); (first | with_reducible refine ww_and ?_ | with_reducible refine ww_or ?_))
  | refine wt_val ?_)
local macro_rules | `(tactic| walk_at "d_ws") => `(tactic| first
  | ((with_reducible show DL.WS _ (Stmt.Assign [_] _ _) _ _ _); (first
    | ((with_reducible show DL.WS _ (Stmt.Assign [Expr.Name _ _] _ _) _ _ _); (refine' ws_set ?m ?_); (case m => with_reducible assumption))
    | refine ws_asg ?_))
  | with_reducible refine ws_ret ?_
  | with_reducible refine ws_if ?_
  | with_reducible refine ws_retN ?_
  | with_reducible refine ws_pass ?_
  | with_reducible refine ws_break ?_
  | with_reducible refine ws_cont ?_
  | ((with_reducible show DL.WS _ (Stmt.Expr _ _) _ _ _); (refine ws_expr ?_)))
local macro_rules | `(tactic| walk_at "d_wx") => `(tactic| first
  | ((with_reducible refine' wx_name ?m ?h ?_); (case m => with_reducible assumption); (case h => repeat (first | exact SetTo.z | apply SetTo.s)))
  | ((with_reducible refine' wx_box1 ?m ?h ?_); (case m => with_reducible assumption); (case h => rfl))
  | ((with_reducible refine' wx_box3 ?m ?h ?_); (case m => with_reducible assumption); (case h => rfl))
  | ((with_reducible show DL.WGx _ (Expr.Subscript _ _ _) _ _ _ _); (refine wx_ix ?_))
  | ((with_reducible show DL.WGx _ (Expr.Tuple _ _ _) _ _ _ _); (refine' ctx_tupx ?m ?_); (case m => with_reducible assumption)))
local macro_rules | `(tactic| walk_at "side") => `(tactic| first
  | with_reducible assumption
  | exact True.intro
  | ((with_reducible show List.length _ = _); rfl)
  | ((with_reducible show (0 : Int) < _); first | omega | decide)
  | ((with_reducible show DL.MulOk _ _); (try dsimp only); first | exact DL.MulOk.l (by omega) (by omega) | exact DL.MulOk.r (by omega) (by omega) | exact DL.MulOk.m (by omega) (by omega) (by omega) (by omega))
  | ((with_reducible show CDivW _ _); (try dsimp only); first | exact ⟨by omega, by assumption⟩ | exact ⟨by omega, log_lit (by omega) (by omega)⟩)
  | ((with_reducible show CPow _ _); unfold CPow; first | decide | omega)
  | ((with_reducible show _ ≤ sizeLine); (first | (show _ ≤ 16777216; decide) | (dsimp only [List.length_cons, List.length_nil]; show _ ≤ 16777216; omega)))
  | omega)
local macro_rules | `(tactic| walk_at "d_rest") => `(tactic| first
  | with_reducible refine two_i ?_
  | with_reducible refine one_i ?_
  | with_reducible refine one_b ?_
  | with_reducible refine eq_i ?_
  | with_reducible refine eq_b ?_
  | with_reducible refine eq_s ?_
  | ((with_reducible refine' setq ?h ?_); (case h => repeat (first | exact SetTo.z | apply SetTo.s)))
  | ((with_reducible show DL.Req (CPow _ _) _); (refine req ?c ?_); (case c => walk_at "side"); (try simp only [Int.reduceToNat, Int.reducePow]))
  | ((with_reducible refine req ?c ?_); (case c => walk_at "side"))
  | ((with_reducible refine' kind_q ?e ?f ?_); (case e => rfl); (case f => first | exact kit_NoneType_int | exact kit_NoneType_bool | exact kit_NoneType_str | exact kit_NoneType_list | exact kit_NoneType_tuple | exact kit_bool_int | exact kit_bool_bool | exact kit_bool_str | exact kit_bool_list | exact kit_bool_tuple | exact kit_int_int | exact kit_int_bool | exact kit_int_str | exact kit_int_list | exact kit_int_tuple | exact kit_str_int | exact kit_str_bool | exact kit_str_str | exact kit_str_list | exact kit_str_tuple | exact kit_list_int | exact kit_list_bool | exact kit_list_str | exact kit_list_list | exact kit_list_tuple | exact kit_tuple_int | exact kit_tuple_bool | exact kit_tuple_str | exact kit_tuple_list | exact kit_tuple_tuple))
  | with_reducible refine seql_l ?_
  | with_reducible refine seql_s ?_
  | with_reducible refine seq_l ?_
  | with_reducible refine seq_t ?_
  | ((with_reducible refine' seq_m ?h ?_); (case h => walk_at "look"))
  | ((with_reducible refine' seql_m ?h ?_); (case h => walk_at "look"))
  | ((with_reducible refine' ix_m ?h ?e ?_); (case h => walk_at "look"); (case e => first | with_reducible assumption | rfl))
  | ((with_reducible refine' ix_l ?e ?_); (case e => first | with_reducible assumption | with_reducible rfl | (with_reducible show atI (_ :: _) _ = _); rfl))
  | ((with_reducible refine' ix_t ?e ?_); (case e => first | with_reducible assumption | (with_reducible show atI (_ :: _) _ = _); rfl))
  | ((with_reducible refine' lst_at ?h ?_); (case h => walk_at "look"))
  | ((with_reducible refine' lst_q ?h ?_); (case h => walk_at "look"))
  | ((with_reducible refine at_q ?h1 ?h2 ?_); (case h1 => walk_at "side"); (case h2 => walk_at "side"))
  | ((with_reducible refine box_new ?a ?_); (case a => assumption); (intro _ _ _ _ _ _))
  | ((with_reducible refine take_use ?a ?b ?c ?d ?e ?_); (case a => assumption); (case b => with_reducible assumption); (case c => omega); (case d => omega); (case e => exact log_lit (by omega) (by omega)); (intro _ _ _ _ _ _))
  | ((with_reducible show boxI _ _ _ _ _ _ _ _ _); (first | refine boxi_use (x := ()) ?a ?b ?c ?d ?_ | refine' boxi_use ?a ?b ?c ?d ?_); (case a => assumption); (case b => with_reducible assumption); (case c => omega); (case d => walk_at "side"); (intro _ _ _ _ _ _ _))
  | ((with_reducible refine' pure_i ?e ?p ?_); (case e => rfl); (case p => walk_at "side"))
  | ((with_reducible show ite _ _ _); (first
    | (with_reducible refine ite_dec (fun _ => ?_) (fun _ => ?_))
    | (with_reducible refine ite_ndec (fun _ => ?_) (fun _ => ?_))
    | (with_reducible refine iteT ?_)
    | (with_reducible refine iteF ?_)
    | (with_reducible refine ite_nt ?_)
    | (with_reducible refine ite_nf ?_))))
local macro_rules | `(tactic| walk_at "dx2") => `(tactic| first
  | ((with_reducible show DL.WE _ _ _ _ _); (walk_at "d_we"))
  | ((with_reducible show DL.WT _ _ _ _ _); (walk_at "d_wt"))
  | ((with_reducible show DL.WA _ _ _ _ _); (first | with_reducible refine wa_nil ?_ | refine wa_cons ?_))
  | ((with_reducible show DL.WS _ _ _ _ _); (walk_at "d_ws"))
  | ((with_reducible show DL.WGx _ _ _ _ _ _); (walk_at "d_wx"))
  | with_reducible refine wb_nil ?_
  | ((with_reducible show DL.WW _ _ _ _ _); (first | with_reducible refine ww_and ?_ | with_reducible refine ww_or ?_ | with_reducible refine ww_and1 ?_ | with_reducible refine ww_or1 ?_))
  | ((with_reducible show DL.WKw _ _ _ _ _); (first | with_reducible refine wk_nil ?_ | with_reducible refine wk_cons ?_))
  | with_reducible refine wxl_nil ?_
  | ((with_reducible show DL.WGlx _ (_ :: _) _ _ _ _); (refine wxl_cons ?_))
  | ((with_reducible show DL.WB _ _ _ _ _); fail)
  | walk_at "d_rest")
local macro_rules | `(tactic| walk_at "d_wb") => `(tactic| first
  | ((with_reducible refine' wb_at ?e ?_); (case e => rfl))
  | ((with_reducible refine wb_end ?e ?_); (case e => rfl))
  | with_reducible refine wb_cons ?_)
local macro_rules | `(tactic| walk_at "dl2") => `(tactic| first
  | ((with_reducible show DL.WB _ _ _ _ _); (first | walk_at "d_wb" | with_reducible refine wb_nil ?_))
  | walk_at "dx2")
local macro_rules | `(tactic| walk_at "dl") => `(tactic| first | ((walk_at "dl2"); (all_goals walk_at "dl")) | skip)
local macro_rules | `(tactic| walk_at "dx") => `(tactic| first | ((walk_at "dx2"); (all_goals walk_at "dx")) | skip)
local macro_rules | `(tactic| walk_at "ds") => `(tactic| ((walk_at "d_wb"); (walk_at "dx")))
local macro_rules | `(tactic| walk_at "ix") => `(tactic| (repeat (first | exact forall_nil | refine forall_cons ⟨_, rfl, by first | omega | decide +kernel, by first | omega | decide +kernel⟩ ?_)))
local macro_rules | `(tactic| walk_at "d_we") => `(tactic| first
  | ((with_reducible show DL.WE _ (Expr.Attribute _ _ _) _ _ _); (refine we_fld ?_))
  | ((with_reducible show DL.WE _ (Expr.Call (Expr.Name _ _) (_ :: _) [] _) _ _ _); (first
    | ((with_reducible show DL.WE _ (Expr.Call (Expr.Name "int" _) _ [] _) _ _ _); (refine' we_int1 ?m ?_); (case m => with_reducible assumption))
    | ((with_reducible show DL.WE _ (Expr.Call (Expr.Name "abs" _) _ [] _) _ _ _); (refine' we_abs ?m ?_); (case m => with_reducible assumption))
    | ((with_reducible show DL.WE _ (Expr.Call (Expr.Name "min" _) [_] [] _) _ _ _); (refine' we_minL (Ctx.calm (by with_reducible assumption)) ?m ?_); (case m => with_reducible assumption))
    | ((with_reducible show DL.WE _ (Expr.Call (Expr.Name "max" _) [_] [] _) _ _ _); (refine' we_maxL (Ctx.calm (by with_reducible assumption)) ?m ?_); (case m => with_reducible assumption))
    | ((with_reducible show DL.WE _ (Expr.Call (Expr.Name "max" _) [_, _] [] _) _ _ _); (refine' we_max2 (Ctx.calm (by with_reducible assumption)) ?m ?_); (case m => with_reducible assumption))
    | ((with_reducible show DL.WE _ (Expr.Call (Expr.Name "min" _) [_, _] [] _) _ _ _); (refine' we_min2 (Ctx.calm (by with_reducible assumption)) ?m ?_); (case m => with_reducible assumption))
    | ((refine' we_make ?m ?_); (case m => with_reducible assumption))
    | ((refine' we_callD ?m ?_); (case m => with_reducible assumption))))
  | ((with_reducible show DL.WE _ (Expr.Call (Expr.Attribute _ _ _) (_ :: _) [] _) _ _ _); (refine' we_meth ?m ?_); (case m => with_reducible assumption))
  | ((with_reducible show DL.WE _ (Expr.Call (Expr.Attribute _ _ _) [] [] _) _ _ _); (first
    | ((with_reducible show DL.WE _ (Expr.Call (Expr.Attribute _ "clear" _) [] [] _) _ _ _); (refine we_clear ?_))
    | ((refine' we_meth0 ?m ?_); (case m => with_reducible assumption)))))
local macro_rules | `(tactic| walk_at "d_ws") => `(tactic| first
  | ((with_reducible show DL.WS _ (Stmt.Assign [Expr.Attribute _ _ _] _ _) _ _ _); (refine ws_fld ?_))
  | ((with_reducible show DL.WS _ (Stmt.Assign [_, _] _ _) _ _ _); (refine ws_asg2 ?_))
  | ((with_reducible show DL.WS _ (Stmt.Raise (some (Expr.Call (Expr.Name _ _) [_] [] _)) none _) _ _ _); (refine' ws_raise1 (Ctx.calm (by with_reducible assumption)) ?m ?_); (case m => with_reducible assumption)))
local macro_rules | `(tactic| walk_at "d_rest") => `(tactic| first
  | ((with_reducible show ite (isN _ = true) _ _); first | refine ite_rt rfl ?_ | refine ite_rf rfl ?_)
  | ((with_reducible show ite ((!isN _) = true) _ _); first | refine ite_rt rfl ?_ | refine ite_rf rfl ?_)
  | with_reducible refine int_i ?_
  | with_reducible refine int_b ?_
  | ((with_reducible refine' fld_f ?T ?e ?f ?h ?_); (case T => with_reducible assumption); (case e => walk_at "ixf"); (case f => decide +kernel); (case h => rfl))
  | ((with_reducible refine' fld_m ?m ?T ?e ?f ?h ?_); (case m => walk_at "look"); (case T => with_reducible assumption); (case e => walk_at "ixf"); (case f => decide +kernel); (case h => rfl))
  | ((with_reducible refine' put_n ?m ?T ?e ?f ?l ?_); (case m => walk_at "look"); (case T => with_reducible assumption); (case e => walk_at "ixp"); (case f => decide +kernel); (case l => first | decide | (simp only [List.length_append, List.length_cons, List.length_nil]; omega))))
local macro_rules | `(tactic| walk_at "side") => `(tactic| first
  | ((with_reducible refine rcv_f ?_); (walk_at "ixp"))
  | ((with_reducible refine rcv_m ?_ ?_); (walk_at "look"); (walk_at "ixp")))
section
variable {P : Program} {w : World} {K : PySem.W.Frag} {mg : Str → Option Value} {base : Heap}
def fWhole : List D → Option D
  | [.int _] => some (.bl true)
  | [.bl _] => some (.bl false)
  | _ => none
abbrev spWhole : Spc := pureS fWhole
theorem ok_is_whole {f : Addr} {fd : FuncData} (F : Fun K "is_whole" "is_whole" s_is_whole f fd) (M_isinstance : mg "isinstance" = none) (M_int : mg "int" = none) (M_bool : mg "bool" = none) : FnOk P w K mg base (L2.CX P w) 1 f fd ["thing"] (lift K spWhole) := by
  refine fn_dl F sc_is_whole (fun ds μ Q E h => ?_) fun X hX hf ds μ Q E hE h => ?_
  · unfold spWhole at h; obtain ⟨d, e, _⟩ := h; unfold fWhole at e; split at e <;> first | rfl | cases e
  have w0 : Nw X "thing" 0 := hX.nl (by decide +kernel) (by decide +kernel)
  have m0 : Nm X "thing" 0 := w0.toNm
  have b_isinstance : Bl X "isinstance" := hX.bl (by decide +kernel) M_isinstance
  have b_int : Bl X "int" := hX.bl (by decide +kernel) M_int
  have b_bool : Bl X "bool" := hX.bl (by decide +kernel) M_bool
  obtain ⟨d, e, _, q⟩ := h
  unfold fWhole at e
  split at e <;> cases e
  · rename_i i
    change WB X _ [some (.int i)] μ _
    refine wb_go ?_
    walk_at "d_wb"
    walk_at "dl"
    exact q
  · rename_i i
    change WB X _ [some (.bl i)] μ _
    refine wb_go ?_
    walk_at "d_wb"
    walk_at "dl"
    exact q

def divI (r n : Int) : Bool := if 0 < r then decide (n % r = 0) else decide (n = 0)
def fDivides : List D → Option D
  | [.int r, .int n] => some (.bl (divI r n))
  | _ => none
abbrev spDivides : Spc := pureS fDivides
theorem ok_divides {f : Addr} {fd : FuncData} (F : Fun K "divides" "divides" s_divides f fd)  : FnOk P w K mg base (L2.CX P w) 1 f fd ["rest", "number"] (lift K spDivides) := by
  refine fn_dl F sc_divides (fun ds μ Q E h => ?_) fun X hX hf ds μ Q E hE h => ?_
  · unfold spDivides at h; obtain ⟨d, e, _⟩ := h; unfold fDivides at e; split at e <;> first | rfl | cases e
  have w0 : Nw X "rest" 0 := hX.nl (by decide +kernel) (by decide +kernel)
  have m0 : Nm X "rest" 0 := w0.toNm
  have w1 : Nw X "number" 1 := hX.nl (by decide +kernel) (by decide +kernel)
  have m1 : Nm X "number" 1 := w1.toNm
  obtain ⟨d, e, _, q⟩ := h
  unfold fDivides at e
  split at e <;> cases e
  rename_i r n
  change WB X _ [some (.int r), some (.int n)] μ _
  refine wb_go ?_
  walk_at "d_wb"
  walk_at "dl"
  all_goals (simp only [divI] at q; simp_all)

def fAgree : List D → Option D
  | [.int a, .int b, .int r] => some (.bl (divI r (a - b)))
  | _ => none
abbrev spAgree : Spc := pureS fAgree
theorem ok_agree {f : Addr} {fd : FuncData} (F : Fun K "agree" "agree" s_agree f fd) (G_is_whole : GFn P w K mg base "is_whole" 1 spWhole) (G_divides : GFn P w K mg base "divides" 1 spDivides) : FnOk P w K mg base (L2.CX P w) 2 f fd ["one", "two", "rest"] (lift K spAgree) := by
  refine fn_dl F sc_agree (fun ds μ Q E h => ?_) fun X hX hf ds μ Q E hE h => ?_
  · unfold spAgree at h; obtain ⟨d, e, _⟩ := h; unfold fAgree at e; split at e <;> first | rfl | cases e
  have w0 : Nw X "one" 0 := hX.nl (by decide +kernel) (by decide +kernel)
  have m0 : Nm X "one" 0 := w0.toNm
  have w1 : Nw X "two" 1 := hX.nl (by decide +kernel) (by decide +kernel)
  have m1 : Nm X "two" 1 := w1.toNm
  have w2 : Nw X "rest" 2 := hX.nl (by decide +kernel) (by decide +kernel)
  have m2 : Nm X "rest" 2 := w2.toNm
  have c_is_whole : Cl X "is_whole" spWhole := hX.cl G_is_whole (by decide +kernel) (by decide)
  have c_divides : Cl X "divides" spDivides := hX.cl G_divides (by decide +kernel) (by decide)
  obtain ⟨d, e, _, q⟩ := h
  unfold fAgree at e
  split at e <;> cases e
  rename_i a b r
  change WB X _ [some (.int a), some (.int b), some (.int r)] μ _
  refine wb_go ?_
  walk_at "d_wb"
  walk_at "dl"
  exact q

def fRest : List D → Option D
  | [.int i, .int m] => some (.bl (decide (0 ≤ i ∧ i ≤ m)))
  | [.bl _, .int _] => some (.bl false)
  | _ => none
abbrev spIsRest : Spc := pureS fRest
theorem ok_is_rest {f : Addr} {fd : FuncData} (F : FunD K "is_rest" "is_rest" (defArgs s_is_rest) (defBody s_is_rest) (defScope s_is_rest) [] [("most", V.int 1000000)] f fd) (G_is_whole : GFn P w K mg base "is_whole" 1 spWhole) : FnOk P w K mg base (L2.CX P w) 2 f fd ["thing", "most"] (lift K spIsRest) := by
  refine fn_dlD F sc_is_rest (fun ds μ Q E h => ?_) fun X hX hf ds μ Q E hE h => ?_
  · unfold spIsRest at h; obtain ⟨d, e, _⟩ := h; unfold fRest at e; split at e <;> first | rfl | cases e
  have w0 : Nw X "thing" 0 := hX.nl (by decide +kernel) (by decide +kernel)
  have m0 : Nm X "thing" 0 := w0.toNm
  have w1 : Nw X "most" 1 := hX.nl (by decide +kernel) (by decide +kernel)
  have m1 : Nm X "most" 1 := w1.toNm
  have c_is_whole : Cl X "is_whole" spWhole := hX.cl G_is_whole (by decide +kernel) (by decide)
  obtain ⟨d, e, _, q⟩ := h
  unfold fRest at e
  split at e <;> cases e
  · rename_i i m
    change WB X _ [some (.int i), some (.int m)] μ _
    refine wb_go ?_
    walk_at "dl"
    · rename_i h1
      simp only [h1, true_and] at q
      exact q
    · rename_i h1
      simp only [h1, false_and, decide_false] at q
      exact q
  · rename_i i m
    change WB X _ [some (.bl i), some (.int m)] μ _
    refine wb_go ?_
    walk_at "dl"
    exact q
def fCommon : List D → Option D
  | [.int a, .int b] => some (.int ((Nat.gcd a.toNat b.toNat : Nat) : Int))
  | _ => none
def pCommon (ds : List D) : Prop := ∃ a b : Nat, ds = [.int (a : Int), .int (b : Int)]
abbrev spCommon : Spc := pureS fCommon pCommon
theorem ok_common {f : Addr} {fd : FuncData} (F : Fun K "common" "common" s_common f fd)  : FnOk P w K mg base (L2.CX P w) 1 f fd ["one", "two"] (lift K spCommon) := by
  refine fn_dl F sc_common (fun ds μ Q E h => ?_) fun X hX hf ds μ Q E hE h => ?_
  · unfold spCommon at h; obtain ⟨d, e, _⟩ := h; unfold fCommon at e; split at e <;> first | rfl | cases e
  have w0 : Nw X "one" 0 := hX.nl (by decide +kernel) (by decide +kernel)
  have m0 : Nm X "one" 0 := w0.toNm
  have w1 : Nw X "two" 1 := hX.nl (by decide +kernel) (by decide +kernel)
  have m1 : Nm X "two" 1 := w1.toNm
  obtain ⟨d, e, ⟨a, b, rfl⟩, q⟩ := h
  unfold fCommon at e
  cases e
  rw [Int.toNat_natCast, Int.toNat_natCast] at q
  change WB X _ [some (.int a), some (.int b)] μ _
  refine wb_go ?_
  walk_at "d_wb"
  refine ctx_while hX (fun m Γ' μ' => ∃ x y : Nat, Γ' = [some (.int x), some (.int y)] ∧ μ' = μ ∧ m = y ∧ Nat.gcd x y = Nat.gcd a b) ⟨_, a, b, rfl, rfl, rfl, rfl⟩ ?_
  rintro m _ _ ⟨x, y, rfl, rfl, rfl, hg⟩
  walk_at "dx"
  · walk_at "d_wb"
    refine ctx_par hX w0 w1 ?_
    walk_at "dx"
    refine ⟨x % m, Nat.mod_lt _ (by omega), m, x % m, rfl, rfl, rfl, ?_⟩
    rw [Nat.gcd_comm m, ← Nat.gcd_rec, Nat.gcd_comm]
    exact hg
  · walk_at "dl"
    rename_i h0
    have : m = 0 := by omega
    subst this
    rw [Nat.gcd_zero_right] at hg
    rw [← hg] at q
    exact q
def fJoined : List D → Option D
  | [.int a, .int b] => some (.int ((Nat.lcm a.toNat b.toNat : Nat) : Int))
  | _ => none
structure Big (n : Nat) : Prop where
  lt : n < 2 ^ 2000
theorem lcm_eq (a b : Nat) : (a : Int) / ((Nat.gcd a b : Nat) : Int) * (b : Int) = ((Nat.lcm a b : Nat) : Int) := by
  have e : Nat.lcm a b = a / Nat.gcd a b * b := by
    unfold Nat.lcm
    rw [Nat.mul_comm a b, Nat.mul_div_assoc b (Nat.gcd_dvd_left a b), Nat.mul_comm]
  rw [e, Int.natCast_mul, Int.natCast_ediv]
theorem big_mul {a b : Nat} (g : Nat) (ha : Big a) (hb : Big b) : DL.MulOk ((a : Int) / (g : Int)) (b : Int) := by
  refine .inr (wide_mul (a := 2000) (b := 2000) ?_ ?_ (by decide) (by decide) (by decide))
  · rw [← Int.natCast_ediv, Int.natAbs_natCast]
    exact Nat.lt_of_le_of_lt (Nat.div_le_self _ _) ha.lt
  · rw [Int.natAbs_natCast]; exact hb.lt
theorem big_div {a b : Nat} (h : 0 < b) (hb : Big b) : CDivW (a : Int) (b : Int) := wide_div (by omega) (by rw [Int.natAbs_natCast]; exact hb.lt) (by decide) (by decide)
def pJoined (ds : List D) : Prop := ∃ a b : Nat, ds = [.int (a : Int), .int (b : Int)] ∧ Big a ∧ Big b
abbrev spJoined : Spc := pureS fJoined pJoined
theorem ok_joined {f : Addr} {fd : FuncData} (F : Fun K "joined" "joined" s_joined f fd) (G_common : GFn P w K mg base "common" 1 spCommon) : FnOk P w K mg base (L2.CX P w) 2 f fd ["one", "two"] (lift K spJoined) := by
  refine fn_dl F sc_joined (fun ds μ Q E h => ?_) fun X hX hf ds μ Q E hE h => ?_
  · unfold spJoined at h; obtain ⟨d, e, _⟩ := h; unfold fJoined at e; split at e <;> first | rfl | cases e
  have w0 : Nw X "one" 0 := hX.nl (by decide +kernel) (by decide +kernel)
  have m0 : Nm X "one" 0 := w0.toNm
  have w1 : Nw X "two" 1 := hX.nl (by decide +kernel) (by decide +kernel)
  have m1 : Nm X "two" 1 := w1.toNm
  have c_common : Cl X "common" spCommon := hX.cl G_common (by decide +kernel) (by decide)
  obtain ⟨d, e, ⟨a, b, rfl, ha, hb⟩, q⟩ := h
  unfold fJoined at e
  cases e
  rw [Int.toNat_natCast, Int.toNat_natCast] at q
  change WB X _ [some (.int a), some (.int b)] μ _
  refine wb_go ?_
  walk_at "d_wb"
  walk_at "dl"
  · have : a = 0 := by omega
    subst this
    rw [Nat.lcm_zero_left] at q
    exact q
  · have : b = 0 := by omega
    subst this
    rw [Nat.lcm_zero_right] at q
    exact q
  rename_i h1 h2
  refine pure_i rfl ⟨a, b, rfl⟩ ?_
  rw [Int.toNat_natCast, Int.toNat_natCast]
  have hg : 0 < Nat.gcd a b := Nat.gcd_pos_of_pos_left _ (by omega)
  refine two_i (req (big_div hg ⟨Nat.lt_of_le_of_lt (Nat.gcd_le_left _ (by omega)) ha.lt⟩) ?_)
  walk_at "dx"
  refine req (big_mul _ ha hb) ?_
  rw [lcm_eq]
  exact q
def fIsPoint : List D → Option D
  | [.int i, .int m] => some (.bl (decide (0 ≤ i ∧ i < m)))
  | [.bl _, .int _] => some (.bl false)
  | _ => none
abbrev spIsPoint : Spc := pureS fIsPoint
theorem ok_is_point {f : Addr} {fd : FuncData} (F : Fun K "is_point" "is_point" s_is_point f fd) (G_is_whole : GFn P w K mg base "is_whole" 1 spWhole) : FnOk P w K mg base (L2.CX P w) 2 f fd ["thing", "many"] (lift K spIsPoint) := by
  refine fn_dl F sc_is_point (fun ds μ Q E h => ?_) fun X hX hf ds μ Q E hE h => ?_
  · unfold spIsPoint at h; obtain ⟨d, e, _⟩ := h; unfold fIsPoint at e; split at e <;> first | rfl | cases e
  have w0 : Nw X "thing" 0 := hX.nl (by decide +kernel) (by decide +kernel)
  have m0 : Nm X "thing" 0 := w0.toNm
  have w1 : Nw X "many" 1 := hX.nl (by decide +kernel) (by decide +kernel)
  have m1 : Nm X "many" 1 := w1.toNm
  have c_is_whole : Cl X "is_whole" spWhole := hX.cl G_is_whole (by decide +kernel) (by decide)
  obtain ⟨d, e, _, q⟩ := h
  unfold fIsPoint at e
  split at e <;> cases e
  · rename_i i m
    change WB X _ [some (.int i), some (.int m)] μ _
    refine wb_go ?_
    walk_at "dl"
    · rename_i h1
      simp only [h1, true_and] at q
      exact q
    · rename_i h1
      simp only [h1, false_and, decide_false] at q
      exact q
  · rename_i i m
    change WB X _ [some (.bl i), some (.int m)] μ _
    refine wb_go ?_
    walk_at "dl"
    exact q

def tieD (t : Nat × Nat × Nat) : D := .tup [.int (t.1 : Int), .int (t.2.1 : Int), .int (t.2.2 : Int)]
def TiesOk (n L : Nat) (ts : List (Nat × Nat × Nat)) : Prop := ∀ t ∈ ts, t.1 < n ∧ t.2.1 < n ∧ Dv L t.2.2
structure CloA where
  n : Nat
  ts : List (Nat × Nat × Nat)
  x : D
  L : Nat
  μ : Mu
abbrev spClosure : Spc := specS (α := CloA) (fun a ds μ => ds = [.int a.n, a.x] ∧ μ = a.μ ∧ SeqL a.μ a.x (a.ts.map tieD) ∧ a.n ≤ 1000 ∧ 0 < a.L ∧ Big a.L ∧ TiesOk a.n a.L a.ts)
  (fun a μ' d => μ' = a.μ ∧ d = matD a.n (closeM a.n a.ts))
theorem frame_still {μ0 μ : Mu} {T : Addr} {rs : List Addr} {n : Nat} {M : Nat → Nat → Nat} {x : D} {ds : List D} (h : MatAt μ0 T rs n M μ) (s : SeqL μ0 x ds) : Still x ds μ := by
  intro p e
  have := s.still p e
  have h1 : p ≠ T := fun z => by subst z; rw [h.f0] at this; cases this
  have h2 : p ∉ rs := fun z => by rw [h.fs p z] at this; cases this
  rw [h.fr p h1 h2]
  exact this
theorem frame_seq {μ0 μ : Mu} {T : Addr} {rs : List Addr} {n : Nat} {M : Nat → Nat → Nat} {x : D} {ds : List D} (h : MatAt μ0 T rs n M μ) (s : SeqL μ0 x ds) : SeqL μ x ds := by
  rcases s with rfl | rfl | ⟨p, rfl, e⟩
  · exact .l
  · exact .r
  · exact .m (frame_still h (.m e) p rfl)
theorem dv_big {L x : Nat} (h : Dv L x) (hL : 0 < L) (hb : Big L) : Big x := ⟨Nat.lt_of_le_of_lt (h.le hL) hb.lt⟩
theorem ok_closure {f : Addr} {fd : FuncData} (F : Fun K "closure" "closure" s_closure f fd) (G_joined : GFn P w K mg base "joined" 2 spJoined) (G_common : GFn P w K mg base "common" 1 spCommon) (M_range : mg "range" = none) (M_int : mg "int" = none) (M_enumerate : mg "enumerate" = none) : FnOk P w K mg base (L2.CX P w) 3 f fd ["many", "ties"] (lift K spClosure) := by
  refine fn_dl F sc_closure (fun ds μ Q E h => ?_) fun X hX hf ds μ Q E hE h => ?_
  · obtain ⟨a, ⟨rfl, _⟩, _⟩ := h; rfl
  have w0 : Nw X "many" 0 := hX.nc hf (by decide +kernel) (by decide +kernel)
  have m0 : Nm X "many" 0 := w0.toNm
  have w1 : Nw X "ties" 1 := hX.nl (by decide +kernel) (by decide +kernel)
  have m1 : Nm X "ties" 1 := w1.toNm
  have w2 : Nw X "table" 2 := hX.nl (by decide +kernel) (by decide +kernel)
  have m2 : Nm X "table" 2 := w2.toNm
  have w3 : Nw X "one" 3 := hX.nl (by decide +kernel) (by decide +kernel)
  have m3 : Nm X "one" 3 := w3.toNm
  have w4 : Nw X "two" 4 := hX.nl (by decide +kernel) (by decide +kernel)
  have m4 : Nm X "two" 4 := w4.toNm
  have w5 : Nw X "rest" 5 := hX.nl (by decide +kernel) (by decide +kernel)
  have m5 : Nm X "rest" 5 := w5.toNm
  have w6 : Nw X "by" 6 := hX.nl (by decide +kernel) (by decide +kernel)
  have m6 : Nm X "by" 6 := w6.toNm
  have w7 : Nw X "near" 7 := hX.nl (by decide +kernel) (by decide +kernel)
  have m7 : Nm X "near" 7 := w7.toNm
  have w8 : Nw X "row" 8 := hX.nl (by decide +kernel) (by decide +kernel)
  have m8 : Nm X "row" 8 := w8.toNm
  have w9 : Nw X "bond" 9 := hX.nl (by decide +kernel) (by decide +kernel)
  have m9 : Nm X "bond" 9 := w9.toNm
  have c_joined : Cl X "joined" spJoined := hX.cl G_joined (by decide +kernel) (by decide)
  have c_common : Cl X "common" spCommon := hX.cl G_common (by decide +kernel) (by decide)
  have b_range : Bl X "range" := hX.bl (by decide +kernel) M_range
  have b_enumerate : Bl X "enumerate" := hX.bl (by decide +kernel) M_enumerate
  obtain ⟨⟨n, ts, x, L, μ0⟩, ⟨rfl, rfl, hx, hn, hL, hLb, hts⟩, q, _⟩ := h
  dsimp only at hx hn hL hLb hts q ⊢
  change WB X _ [some (.int n), some x, none, none, none, none, none, none, none, none] μ _
  refine wb_go ?_
  walk_at "d_wb"
  refine ctx_setLcM hX [("one", 3), ("two", 4)] (vs := [3]) w2 ?_
  refine wi_range1 b_range ?_
  walk_at "dl"
  rw [Int.toNat_natCast]
  refine ⟨fun i acc μ' => ∃ rs : List Addr, acc = rs.map D.ref ∧ rs.length = i ∧ rs.Nodup ∧ (∀ k r, rs[k]? = some r → μ' r = some (.lst (rowD n (mat0 k)))) ∧ (∀ a, a ∉ rs → μ' a = μ a) ∧ (∀ r ∈ rs, μ r = none), ⟨[], rfl, rfl, .nil, by simp, fun _ _ => rfl, by simp⟩, fun _ _ _ _ _ => trivial, ?_, ?_⟩
  · rintro i d acc μ' hd ⟨rs, rfl, hrl, hnd, hrow, hfr, hfs⟩
    obtain ⟨hi, rfl⟩ := rangeD_get hd
    rw [Int.zero_add]
    refine ⟨[some (.int n), some x, none, some (.int i), none, none, none, none, none, none], fun X' hb => ?_, fun X' hb => wts_nil ?_⟩
    · have hX' := hX.blk hb
      exact wg_name (i := 3) (hX.blkC hb) (.s (.s (.s .z))) ⟨rfl, rfl⟩
    · rw [if_pos rfl]
      intro X' hb
      have hX' := hX.blk hb
      have m0 : Nm X' "many" 0 := hX'.nm (by decide +kernel)
      have m3 : Nm X' "one" 3 := hX'.nm (by decide +kernel)
      have b_range' : Bl X' "range" := hX'.bl (by decide +kernel) M_range
      refine ctx_lcM hX' [("two", 4)] (vs := [4]) ?_
      refine wi_range1 b_range' ?_
      walk_at "dl"
      rw [Int.toNat_natCast]
      refine lc_pure (fun d => [some (.int n), some x, none, some (.int i), some d, none, none, none, none, none]) (fun _ => true) (fun d => match d with | .int j => .int (if (i : Int) = j then 0 else 1) | d => d) trivial (by rw [rangeD_len]; exact small1000 hn) ?_ ?_ ?_ ?_
      · intro X'' hb2 d hd
        have hX'' := hX'.blk hb2
        exact wg_name (i := 4) (hX''.nl (by decide +kernel) (by decide +kernel)) (.s (.s (.s (.s .z)))) ⟨rfl, rfl⟩
      · intro X'' hb2 d hd
        exact wts_nil ⟨rfl, rfl⟩
      · intro X'' hb2 d hd _
        have hX'' := hX'.blk hb2
        have m3 : Nm X'' "one" 3 := hX''.nm (by decide +kernel)
        have m4 : Nm X'' "two" 4 := hX''.nm (by decide +kernel)
        have b_int' : Bl X'' "int" := hX''.bl (by decide +kernel) M_int
        obtain ⟨j, hj⟩ := List.mem_iff_getElem?.mp hd
        obtain ⟨_, rfl⟩ := rangeD_get hj
        walk_at "dl"
        refine ⟨rfl, ?_⟩
        by_cases e : (i : Int) = 0 + (j : Int)
        · simp [e]
        · simp [e]
      · intro p hp
        have hpf := hp
        have npr : p ∉ rs := fun z => by
          obtain ⟨k, hk⟩ := List.mem_iff_getElem?.mp z
          rw [hrow k p hk] at hp; cases hp
        have he : (((rangeD 0 n).filter fun _ => true).map fun d => match d with | .int j => D.int (if (i : Int) = j then 0 else 1) | d => d) = rowD n (mat0 i) := by
          rw [List.filter_eq_self.mpr fun _ _ => rfl]
          unfold rangeD rowD mat0
          rw [List.map_map]
          refine List.map_congr_left fun j _ => ?_
          show D.int (if (i : Int) = 0 + (j : Int) then 0 else 1) = _
          by_cases e : i = j
          · subst e; simp
          · have : ¬ (i : Int) = 0 + (j : Int) := by omega
            rw [if_neg this, if_neg e]; rfl
        rw [he]
        refine ⟨by rw [List.length_map]; exact small1000 (by omega), rs ++ [p], by simp, by simp [hrl], ?_, ?_, ?_, ?_⟩
        · rw [List.nodup_append]
          refine ⟨hnd, by simp, fun a ha b hb => ?_⟩
          simp only [List.mem_cons, List.not_mem_nil, or_false] at hb
          subst hb
          exact fun e => npr (e ▸ ha)
        · intro k r hk
          by_cases hkl : k < rs.length
          · rw [List.getElem?_append_left hkl] at hk
            have hne : r ≠ p := fun e => npr (e ▸ List.mem_of_getElem? hk)
            rw [updM_ne hne]
            exact hrow k r hk
          · have : k = rs.length := by
              have := (List.getElem?_eq_some_iff.mp hk).1
              rw [List.length_append, List.length_singleton] at this
              omega
            subst this
            rw [List.getElem?_append_right (Nat.le_refl _), Nat.sub_self] at hk
            cases hk
            rw [updM_same, hrl]
        · intro a ha
          have h1 : a ≠ p := fun e => ha (by simp [e])
          rw [updM_ne h1]
          exact hfr a fun z => ha (List.mem_append_left _ z)
        · intro r hr
          rcases List.mem_append.mp hr with hr | hr
          · exact hfs r hr
          · simp only [List.mem_cons, List.not_mem_nil, or_false] at hr
            subst hr
            rw [← hfr r npr]; exact hpf
  rintro acc μ1 ⟨rs, rfl, hrl, hnd, hrow, hfr, hfs⟩ T hT
  rw [rangeD_len] at hrl
  have nTr : T ∉ rs := fun z => by
    obtain ⟨k, hk⟩ := List.mem_iff_getElem?.mp z
    rw [hrow k T hk] at hT; cases hT
  have hM0 : MatAt μ T rs n mat0 (updM μ1 T (.lst (rs.map D.ref))) := ⟨hrl, updM_same, fun k r hk => by
      have hne : r ≠ T := fun e => nTr (e ▸ List.mem_of_getElem? hk)
      rw [updM_ne hne]; exact hrow k r hk, hnd, nTr, fun a h1 h2 => by rw [updM_ne h1]; exact hfr a h2, by rw [← hfr T nTr]; exact hT, hfs⟩
  generalize hμ : updM μ1 T (.lst (rs.map D.ref)) = μ2 at hM0 ⊢
  clear hμ hrow hfr
  walk_at "d_rest"
  walk_at "d_wb"
  refine ctx_for hX ?_
  refine wi_list ?_
  walk_at "dx"
  refine ⟨ts.map tieD, frame_seq hM0 hx, ?_⟩
  refine ⟨fun i Γ' μ' => ∃ o t r : Option D, Γ' = [some (.int n), some x, some (.ref T), o, t, r, none, none, none, none] ∧ MatAt μ T rs n ((ts.take i).foldl tieStep mat0) μ' ∧ MatOk L n ((ts.take i).foldl tieStep mat0), ⟨none, none, none, rfl, hM0, mat0_ok⟩, fun i Γ' μ' _ ⟨_, _, _, _, hM, _⟩ => frame_still hM hx, ?_, ?_⟩
  · rintro i d _ μ' hd ⟨o, t, r, rfl, hM, hO⟩
    rw [List.getElem?_map] at hd
    obtain ⟨⟨a, b, c⟩, ht, rfl⟩ := Option.map_eq_some_iff.mp hd
    obtain ⟨ha, hb, hc⟩ := hts _ (List.mem_of_getElem? ht)
    dsimp only at ha hb hc
    have hs : (ts.take (i + 1)).foldl tieStep mat0 = tieStep ((ts.take i).foldl tieStep mat0) (a, b, c) := by
      rw [List.take_add_one, ht, Option.toList_some, List.foldl_append, List.foldl_cons, List.foldl_nil]
    generalize (ts.take i).foldl tieStep mat0 = M at hM hO hs
    change WGx X _ (.tup [.int a, .int b, .int c]) _ _ _
    obtain ⟨ra, hra, hai, hrow⟩ := hM.get ha
    have htop := hM.top
    have hrb := rowD_at (f := M a) hb
    walk_at "dl"
    refine pure_i rfl ⟨M a b, c, rfl, dv_big (hO.dv a b) hL hLb, dv_big hc hL hLb⟩ ?_
    rw [Int.toNat_natCast, Int.toNat_natCast]
    walk_at "dx"
    refine at_row hb ?_
    have hM1 := hM.set (v := Nat.lcm (M a b) c) hra hb
    generalize updM μ' ra (.lst ((rowD n (M a)).set b (.int ((Nat.lcm (M a b) c : Nat) : Int)))) = μ3 at hM1 ⊢
    clear hai hrow htop hrb hM
    obtain ⟨rb, hrb, hbi, hrow⟩ := hM1.get hb
    have htop := hM1.top
    walk_at "dl"
    refine at_row ha ?_
    have hM2 := hM1.set (v := Nat.lcm (M a b) c) hrb ha
    have hO2 := tie_ok (a := a) (b := b) hO hc
    walk_at "dl"
    exact ⟨_, _, _, rfl, by rw [hs]; exact hM2, by rw [hs]; exact hO2⟩
  rintro _ μ3 ⟨o, t, r, rfl, hM, hO⟩
  rw [List.length_map, List.take_length] at hM hO
  have hfin : closeM n ts = (List.range n).foldl byStep (ts.foldl tieStep mat0) := rfl
  generalize ts.foldl tieStep mat0 = M1 at hM hO hfin
  walk_at "d_wb"
  refine ctx_for hX ?_
  refine wi_range1 b_range ?_
  walk_at "dl"
  rw [Int.toNat_natCast]
  refine ⟨fun i Γ' μ' => ∃ o t r b nr rw bo : Option D, Γ' = [some (.int n), some x, some (.ref T), o, t, r, b, nr, rw, bo] ∧ MatAt μ T rs n ((List.range i).foldl byStep M1) μ' ∧ MatOk L n ((List.range i).foldl byStep M1), ⟨_, _, _, _, _, _, _, rfl, hM, hO⟩, fun _ _ _ _ _ => trivial, ?_, ?_⟩
  · rintro i d _ μ' hd ⟨o, t, r, b, nr, rw, bo, rfl, hM, hO⟩
    obtain ⟨hi, rfl⟩ := rangeD_get hd
    rw [Int.zero_add]
    have hs : (List.range (i + 1)).foldl byStep M1 = byStep ((List.range i).foldl byStep M1) i := by
      rw [List.range_succ, List.foldl_append]
      rfl
    generalize (List.range i).foldl byStep M1 = M at hM hO hs
    obtain ⟨ri, hri, hai, hrow⟩ := hM.get hi
    have htop := hM.top
    walk_at "dx"
    refine wb_sub (Γ' := [some (.int n), some x, some (.ref T), o, none, r, some (.int i), nr, rw, none]) (by repeat (first | exact sub_nil | apply sub_cons | apply sub_drop)) ?_
    walk_at "d_wb"
    refine ctx_setLc hX [("two", 4), ("bond", 9)] (vs := [4, 9]) w7 ?_
    refine wi_enum b_enumerate ?_
    walk_at "dx"
    refine lc_pure (fun d => match d with | .tup [j, v] => [some (.int n), some x, some (.ref T), o, some j, r, some (.int i), nr, rw, some v] | _ => []) notOne id (SeqL.m hrow).still (by rw [enumD_len, rowD_len]; exact small1000 hn) ?_ ?_ ?_ ?_
    · intro X' hb d hd
      have hX' := hX.blk hb
      rw [enum_row] at hd
      obtain ⟨j, hj, rfl⟩ := List.mem_map.mp hd
      refine ctx_tup hX' ?_
      refine wgl_cons (v := [4]) (w := [9]) (wg_name (i := 4) (hX'.nl (by decide +kernel) (by decide +kernel)) (.s (.s (.s (.s .z)))) ?_)
      exact wgl_cons (v := [9]) (w := []) (wg_name (i := 9) (hX'.nl (by decide +kernel) (by decide +kernel)) (.s (.s (.s (.s (.s (.s (.s (.s (.s .z))))))))) (wgl_nil ⟨rfl, rfl⟩))
    · intro X' hb d hd
      have hX' := hX.blk hb
      have m9 : Nm X' "bond" 9 := hX'.nm (by decide +kernel)
      rw [enum_row] at hd
      obtain ⟨j, hj, rfl⟩ := List.mem_map.mp hd
      refine wts_one ?_
      dsimp only
      walk_at "dl"
      first | exact ⟨rfl, rfl⟩ | exact ⟨trivial, rfl⟩
    · intro X' hb d hd _
      have hX' := hX.blk hb
      have m4 : Nm X' "two" 4 := hX'.nm (by decide +kernel)
      have m9 : Nm X' "bond" 9 := hX'.nm (by decide +kernel)
      rw [enum_row] at hd
      obtain ⟨j, hj, rfl⟩ := List.mem_map.mp hd
      dsimp only
      walk_at "dl"
      first | exact ⟨rfl, rfl⟩ | exact ⟨trivial, rfl⟩
    rw [near_eq]
    walk_at "d_rest"
    walk_at "d_wb"
    refine ctx_for hX ?_
    refine wi_list ?_
    walk_at "dx"
    have hnm : ∀ j ∈ (List.range n).filter fun j => !decide (M i j = 1), j < n := fun j hj => List.mem_range.mp (List.mem_filter.mp hj).1
    have hnd2 : ((List.range n).filter fun j => !decide (M i j = 1)).Nodup := List.Pairwise.filter _ List.nodup_range
    refine ⟨fun k Γ' μ' => ∃ t rw bo : Option D, Γ' = [some (.int n), some x, some (.ref T), o, t, r, some (.int i), some (.lst (((List.range n).filter fun j => !decide (M i j = 1)).map fun (j : Nat) => D.tup [.int ((j : Nat) : Int), .int ((M i j : Nat) : Int)])), rw, bo] ∧ MatAt μ T rs n (midM M i k []) μ', ⟨_, _, _, rfl, hM.congr fun a b _ _ => mid_none a b⟩, fun k Γ' μ' _ ⟨_, _, _, _, h⟩ p e => by cases e; exact h.top, ?_, ?_⟩
    · rintro k d _ μ4 hd ⟨t, rw, bo, rfl, hM4⟩
      clear hrow htop hai
      rw [List.getElem?_map] at hd
      obtain ⟨rk, hrk, rfl⟩ := Option.map_eq_some_iff.mp hd
      have hk : k < n := by rw [← hM4.len]; exact (List.getElem?_eq_some_iff.mp hrk).1
      have hrow := hM4.row k rk hrk
      have hat := rowD_at (f := midM M i k [] k) hi
      rw [mid_by hO] at hat
      walk_at "dl"
      · rename_i hne
        refine ctx_for hX ?_
        refine wi_list ?_
        walk_at "dx"
        refine ⟨fun m Γ' μ' => ∃ t bo : Option D, Γ' = [some (.int n), some x, some (.ref T), o, t, r, some (.int i), some (.lst (((List.range n).filter fun j => !decide (M i j = 1)).map fun (j : Nat) => D.tup [.int ((j : Nat) : Int), .int ((M i j : Nat) : Int)])), some (.ref rk), bo] ∧ MatAt μ T rs n (midM M i k (((List.range n).filter fun j => !decide (M i j = 1)).take m)) μ', ⟨_, _, rfl, hM4⟩, fun _ _ _ _ _ => SeqL.l.still, ?_, ?_⟩
        · rintro m d _ μ5 hd ⟨t, bo, rfl, hM5⟩
          clear hrow hat
          rw [List.getElem?_map] at hd
          obtain ⟨j, hj, rfl⟩ := Option.map_eq_some_iff.mp hd
          have hjn := hnm j (List.mem_of_getElem? hj)
          have hjs : j ∉ ((List.range n).filter fun j => !decide (M i j = 1)).take m := fun z => by
            obtain ⟨q, hq⟩ := List.mem_iff_getElem?.mp z
            have hql : q < m := by
              have := (List.getElem?_eq_some_iff.mp hq).1
              rw [List.length_take] at this
              omega
            rw [List.getElem?_take_of_lt hql] at hq
            have := (List.getElem?_inj (List.getElem?_eq_some_iff.mp hq).1 hnd2).mp (hq.trans hj.symm)
            omega
          have hS : ((List.range n).filter fun j => !decide (M i j = 1)).take (m + 1) = ((List.range n).filter fun j => !decide (M i j = 1)).take m ++ [j] := by
            rw [List.take_add_one, hj]; rfl
          have hrow := hM5.row k rk hrk
          have hat := rowD_at (f := midM M i k (((List.range n).filter fun j => !decide (M i j = 1)).take m) k) hi
          rw [mid_by hO] at hat
          have hat2 := rowD_at (f := midM M i k (((List.range n).filter fun j => !decide (M i j = 1)).take m) k) hjn
          rw [mid_at hjs] at hat2
          walk_at "dl"
          refine pure_i rfl ⟨_, _, rfl⟩ ?_
          rw [Int.toNat_natCast, Int.toNat_natCast]
          walk_at "dx"
          refine pure_i rfl ⟨_, _, rfl, dv_big (hO.dv _ _) hL hLb, dv_big ((hO.dv _ _).gcd (hO.dv _ _)) hL hLb⟩ ?_
          rw [Int.toNat_natCast, Int.toNat_natCast]
          walk_at "dx"
          refine at_row hjn ?_
          have hM6 := (hM5.set (v := Nat.lcm (M k j) (Nat.gcd (M k i) (M i j))) hrk hjn).congr fun a b _ _ => mid_put a b
          walk_at "dl"
          exact ⟨_, _, rfl, by rw [hS]; exact hM6⟩
        · rintro _ μ5 ⟨t, bo, rfl, hM5⟩
          rw [List.length_map, List.take_length] at hM5
          walk_at "dl"
          exact ⟨_, _, _, rfl, hM5.congr fun a b _ hb => mid_next hb⟩
      · rename_i he
        have : M k i = 1 := by omega
        exact ⟨_, _, _, rfl, hM4.congr fun a b _ _ => mid_skip this a b⟩
    · rintro _ μ4 ⟨t, rw, bo, rfl, hM4⟩
      rw [List.length_map, hM4.len] at hM4
      walk_at "dl"
      exact ⟨_, _, _, _, _, _, _, rfl, by rw [hs]; exact hM4.congr fun a b ha _ => mid_all ha, by rw [hs]; exact by_ok hO⟩
  rintro _ μ4 ⟨o, t, r, b, nr, rw, bo, rfl, hM, hO⟩
  rw [rangeD_len, ← hfin] at hM
  walk_at "d_wb"
  refine ws_ret (we_frz ?_)
  walk_at "dx"
  exact ⟨_, _, hM.frz, q _ _ ⟨rfl, rfl⟩⟩

def ibD : D → Bool
  | .int _ => true
  | .bl _ => true
  | _ => false
def ptB (n : Nat) : D → Bool
  | .int i => decide (0 ≤ i ∧ i < (n : Int))
  | _ => false
def rsB : D → Bool
  | .int i => decide (0 ≤ i ∧ i ≤ 1000000)
  | _ => false
def good3 (n : Nat) (t : D × D × D) : Bool := ptB n t.1 && ptB n t.2.1 && rsB t.2.2
def ib3 (t : D × D × D) : Bool := ibD t.1 && ibD t.2.1 && ibD t.2.2
def triD (t : D × D × D) : D := .tup [t.1, t.2.1, t.2.2]
def natD : D → Nat
  | .int i => i.toNat
  | _ => 0
def nat3 (t : D × D × D) : Nat × Nat × Nat := (natD t.1, natD t.2.1, natD t.2.2)
def webF (n : Nat) (knots : List D) (M : Nat → Nat → Nat) : List (Str × D) := [("points", .int n), ("knots", .lst knots), ("grid", matD n M)]
theorem good_tie {n : Nat} {t : D × D × D} (h : good3 n t = true) : triD t = tieD (nat3 t) ∧ (nat3 t).1 < n ∧ (nat3 t).2.1 < n ∧ (nat3 t).2.2 ≤ 1000000 := by
  obtain ⟨a, b, c⟩ := t
  unfold good3 at h
  rw [Bool.and_eq_true, Bool.and_eq_true] at h
  obtain ⟨⟨h1, h2⟩, h3⟩ := h
  dsimp only at h1 h2 h3
  cases a <;> simp [ptB] at h1
  cases b <;> simp [ptB] at h2
  cases c <;> simp [rsB] at h3
  rename_i i j k
  refine ⟨?_, ?_, ?_, ?_⟩
  · simp only [triD, tieD, nat3, natD, Int.toNat_of_nonneg h1.1, Int.toNat_of_nonneg h2.1, Int.toNat_of_nonneg h3.1]
  · show i.toNat < n; omega
  · show j.toNat < n; omega
  · show k.toNat ≤ 1000000; omega
def prodL : List (Nat × Nat × Nat) → Nat
  | [] => 1
  | t :: r => max 1 t.2.2 * prodL r
theorem prodL_pos : ∀ ts, 0 < prodL ts
  | [] => Nat.one_pos
  | t :: r => Nat.mul_pos (by omega) (prodL_pos r)
theorem prodL_dv : ∀ {ts : List (Nat × Nat × Nat)} {t : Nat × Nat × Nat}, t ∈ ts → Dv (prodL ts) t.2.2
  | u :: r, t, h => by
    by_cases h0 : t.2.2 = 0
    · exact .inl h0
    rcases List.mem_cons.mp h with e | h
    · subst e
      right
      have : max 1 t.2.2 = t.2.2 := by omega
      unfold prodL
      rw [this]
      exact Nat.dvd_mul_right _ _
    · rcases prodL_dv h with e | e
      · exact absurd e h0
      · right
        exact Nat.dvd_trans e (Nat.dvd_mul_left _ _)
theorem prodL_le : ∀ {ts : List (Nat × Nat × Nat)}, (∀ t ∈ ts, t.2.2 ≤ 1000000) → prodL ts ≤ 1000000 ^ ts.length
  | [], _ => Nat.le_refl _
  | t :: r, h => by
    unfold prodL
    rw [List.length_cons, Nat.pow_succ, Nat.mul_comm]
    exact Nat.mul_le_mul (prodL_le fun t ht => h t (List.mem_cons_of_mem _ ht)) (by have := h t List.mem_cons_self; omega)
theorem prodL_big {ts : List (Nat × Nat × Nat)} (h : ∀ t ∈ ts, t.2.2 ≤ 1000000) (hl : ts.length ≤ 64) : Big (prodL ts) := by
  refine ⟨Nat.lt_of_le_of_lt (prodL_le h) (Nat.lt_of_le_of_lt (Nat.pow_le_pow_right (by decide) hl) (by decide))⟩
theorem seqR_l {μ : Mu} {x : D} {ds : List D} (s : SeqR μ x ds) : SeqL μ x ds := by
  rcases s with rfl | ⟨p, rfl, e⟩
  · exact .l
  · exact .m e
theorem seqR_s {μ : Mu} {x : D} {ds : List D} (s : SeqR μ x ds) : Seq μ x ds := by
  rcases s with rfl | ⟨p, rfl, e⟩
  · exact .l
  · exact .m e
theorem seqR_upd {μ : Mu} {x : D} {ds : List D} {p : Addr} {o : MO} (s : SeqR μ x ds) (h : ∀ l, μ p ≠ some (.lst l)) : SeqR (updM μ p o) x ds := by
  rcases s with rfl | ⟨q, rfl, e⟩
  · exact .inl rfl
  · have : q ≠ p := fun z => by subst z; exact h _ e
    exact .inr ⟨q, rfl, by rw [updM_ne this]; exact e⟩
structure WebA where
  p : Addr
  n : Nat
  xs : List (D × D × D)
  x : D
  μ : Mu
abbrev spWebInit (cB C : Addr) : Spc := specS (α := WebA) (fun a ds μ => ds = [.ref a.p, .int a.n, a.x] ∧ μ = a.μ ∧ a.μ a.p = some (.ins C []) ∧ SeqR a.μ a.x (a.xs.map triD) ∧ a.n ≤ 1000 ∧ a.xs.length ≤ 64 ∧ ∀ t ∈ a.xs, ib3 t = true)
  (fun a μ' d => d = .non ∧ (∀ t ∈ a.xs, good3 a.n t = true) ∧ μ' = updM a.μ a.p (.ins C (webF a.n (a.xs.map triD) (closeM a.n (a.xs.map nat3)))))
  (fun a μ' x => ∃ (i : Nat) (t : D × D × D), a.xs[i]? = some t ∧ good3 a.n t = false ∧ (∀ j u, j < i → a.xs[j]? = some u → good3 a.n u = true) ∧ μ' = a.μ ∧ x = ⟨.ref cB, [("at", .int i)]⟩)
theorem ok_BadTie_init {K : PySem.W.Frag} {f C : Addr} {fd : FuncData} (F : Fun K "__init__" "BadTie.__init__" s_BadTie_init f fd) (T : OexC K C) (no : PySem.W.findIn K (.ref C) "at" = some none) : FnOk P w K mg base CX0 1 f fd ["self", "at"] (spX C "at") := by
  refine F.ok sc_BadTie_init (fun vs H Q E h => ?_) fun cdv A outer s H vs Q E hr h => ?_
  · obtain ⟨a, y, rfl, _⟩ := h; rfl
  · obtain ⟨a, y, rfl, ha, k⟩ := h
    exact ⟨_, pss_one (ps_ost (pv 0) (pv 1)), _, rfl, _, rfl, a, C, rfl, T, no, .inl ⟨ha, k⟩⟩
theorem ok_Web_init {f : Addr} {fd : FuncData} (F : Fun K "__init__" "Web.__init__" s_Web_init f fd) (G_closure : GFn P w K mg base "closure" 3 spClosure) (G_BadTie : GXk P w K mg base "BadTie" c_BadTie "at" 1) (G_is_point : GFn P w K mg base "is_point" 2 spIsPoint) (D_is_rest : GFd P w K mg base "is_rest" 2 [.int 1000000] spIsRest) (T_Web : Kls K c_Web ["points", "knots", "grid"]) (M_enumerate : mg "enumerate" = none) (M_list : mg "list" = none) : FnOk P w K mg base (L2.CX P w) 4 f fd ["self", "many", "ties"] (lift K (spWebInit c_BadTie c_Web)) := by
  refine fn_dl F sc_Web_init (fun ds μ Q E h => ?_) fun X hX hf ds μ Q E hE h => ?_
  · obtain ⟨a, ⟨rfl, _⟩, _⟩ := h; rfl
  have w0 : Nw X "self" 0 := hX.nl (by decide +kernel) (by decide +kernel)
  have m0 : Nm X "self" 0 := w0.toNm
  have w1 : Nw X "many" 1 := hX.nl (by decide +kernel) (by decide +kernel)
  have m1 : Nm X "many" 1 := w1.toNm
  have w2 : Nw X "ties" 2 := hX.nl (by decide +kernel) (by decide +kernel)
  have m2 : Nm X "ties" 2 := w2.toNm
  have w3 : Nw X "at" 3 := hX.nl (by decide +kernel) (by decide +kernel)
  have m3 : Nm X "at" 3 := w3.toNm
  have w4 : Nw X "one" 4 := hX.nl (by decide +kernel) (by decide +kernel)
  have m4 : Nm X "one" 4 := w4.toNm
  have w5 : Nw X "two" 5 := hX.nl (by decide +kernel) (by decide +kernel)
  have m5 : Nm X "two" 5 := w5.toNm
  have w6 : Nw X "rest" 6 := hX.nl (by decide +kernel) (by decide +kernel)
  have m6 : Nm X "rest" 6 := w6.toNm
  have c_closure : Cl X "closure" spClosure := hX.cl G_closure (by decide +kernel) (by decide)
  have k_BadTie : Xk X "BadTie" c_BadTie "at" := hX.xk G_BadTie (by decide +kernel) (by decide)
  have c_is_point : Cl X "is_point" spIsPoint := hX.cl G_is_point (by decide +kernel) (by decide)
  have c_is_rest : ClD X "is_rest" [.int 1000000] spIsRest := hX.clD D_is_rest (by decide +kernel) (by decide)
  have t_Web : Kls X.K c_Web ["points", "knots", "grid"] := hX.kls T_Web
  have b_enumerate : Bl X "enumerate" := hX.bl (by decide +kernel) M_enumerate
  have b_list : Bl X "list" := hX.bl (by decide +kernel) M_list
  obtain ⟨⟨p, n, xs, x, μ0⟩, ⟨rfl, rfl, hp, hx, hn, hl, hib⟩, q, qx⟩ := h
  dsimp only at hp hx hn hl hib q qx ⊢
  change WB X _ [some (.ref p), some (.int n), some x, none, none, none, none] μ _
  refine wb_go ?_
  walk_at "d_wb"
  refine ctx_for hX ?_
  refine wi_enum b_enumerate ?_
  walk_at "dx"
  refine ⟨xs.map triD, seqR_l hx, ?_⟩
  refine ⟨fun i Γ' μ' => ∃ a b c d : Option D, Γ' = [some (.ref p), some (.int n), some x, a, b, c, d] ∧ μ = μ' ∧ ∀ j u, j < i → xs[j]? = some u → good3 n u = true, ⟨_, _, _, _, rfl, rfl, fun j u h => by omega⟩, fun i Γ' μ' _ ⟨_, _, _, _, _, h, _⟩ => by rw [← h]; exact (seqR_l hx).still, ?_, ?_⟩
  · rintro i d _ _ hd ⟨_, _, _, _, rfl, rfl, hgood⟩
    obtain ⟨d', hd', rfl⟩ := enumD_inv hd
    rw [List.getElem?_map] at hd'
    obtain ⟨⟨a, b, c⟩, ht, rfl⟩ := Option.map_eq_some_iff.mp hd'
    have hi3 := hib _ (List.mem_of_getElem? ht)
    have hbad : good3 n (a, b, c) = false → X.xd [some (.ref p), some (.int n), some x, some (.int i), some a, some b, some c] μ ⟨.ref c_BadTie, [("at", .int i)]⟩ := fun h => by
      rw [hE]
      exact qx _ _ ⟨i, _, ht, h, hgood, rfl, rfl⟩
    have hok : good3 n (a, b, c) = true → ∃ a' b' c' d' : Option D, [some (.ref p), some (.int n), some x, some (.int i), some a, some b, some c] = [some (.ref p), some (.int n), some x, a', b', c', d'] ∧ μ = μ ∧ ∀ j u, j < i + 1 → xs[j]? = some u → good3 n u = true := fun h => by
      refine ⟨_, _, _, _, rfl, rfl, fun j u hj hu => ?_⟩
      by_cases e : j = i
      · subst e; rw [ht] at hu; cases hu; exact h
      · exact hgood j u (by omega) hu
    change WGx X _ (.tup [.int i, .tup [a, b, c]]) _ _ _
    unfold ib3 at hi3
    rw [Bool.and_eq_true, Bool.and_eq_true] at hi3
    obtain ⟨⟨h1, h2⟩, h3⟩ := hi3
    dsimp only at h1 h2 h3
    cases a <;> simp only [ibD] at h1 <;> first | cases h1 | skip
    all_goals (cases b <;> simp only [ibD] at h2 <;> first | cases h2 | skip)
    all_goals (cases c <;> simp only [ibD] at h3 <;> first | cases h3 | skip)
    all_goals walk_at "dl"
    all_goals first
      | (refine hbad (Bool.eq_false_iff.mpr fun z => ?_); simp only [good3, ptB, rsB, Bool.and_eq_true, decide_eq_true_eq, Bool.false_eq_true, and_false, false_and] at z; done)
      | (refine hbad (Bool.eq_false_iff.mpr fun z => ?_); simp only [good3, ptB, rsB, Bool.and_eq_true, decide_eq_true_eq] at z; omega)
      | (refine hok ?_; simp only [good3, ptB, rsB, Bool.and_eq_true, decide_eq_true_eq]; omega)
  rintro _ _ ⟨_, _, _, _, rfl, rfl, hgood⟩
  rw [enumD_len, List.length_map] at hgood
  have hall : ∀ t ∈ xs, good3 n t = true := fun t ht => by
    obtain ⟨j, hj⟩ := List.mem_iff_getElem?.mp ht
    exact hgood j t (List.getElem?_eq_some_iff.mp hj).1 hj
  have hts : xs.map triD = (xs.map nat3).map tieD := by
    rw [List.map_map]
    exact List.map_congr_left fun t ht => (good_tie (hall t ht)).1
  walk_at "ds"
  have hx2 := seqR_upd (o := MO.ins c_Web (([] : List (Str × D)) ++ [(("points" : Str), D.int n)])) hx (fun l e => by rw [hp] at e; cases e)
  walk_at "d_wb"
  walk_at "dx"
  refine we_listF b_list ?_
  walk_at "dx"
  refine ⟨_, seqR_s hx2, ?_⟩
  walk_at "dx"
  rw [updM_upd]
  have hx3 := seqR_upd (o := MO.ins c_Web ((([] : List (Str × D)) ++ [(("points" : Str), D.int n)]) ++ [(("knots" : Str), D.lst (xs.map triD))])) hx (fun l e => by rw [hp] at e; cases e)
  walk_at "d_wb"
  walk_at "dx"
  refine ⟨⟨n, xs.map nat3, x, prodL (xs.map nat3), updM μ p (MO.ins c_Web ((([] : List (Str × D)) ++ [(("points" : Str), D.int n)]) ++ [(("knots" : Str), D.lst (xs.map triD))]))⟩, ⟨rfl, rfl, by rw [← hts]; exact seqR_l hx3, hn, prodL_pos _, prodL_big (fun t ht => ?_) (by rw [List.length_map]; exact hl), fun t ht => ?_⟩, ?_, fun _ _ z => z.elim⟩
  · obtain ⟨u, hu, rfl⟩ := List.mem_map.mp ht
    exact (good_tie (hall u hu)).2.2.2
  · have hd := prodL_dv ht
    obtain ⟨u, hu, rfl⟩ := List.mem_map.mp ht
    exact ⟨(good_tie (hall u hu)).2.1, (good_tie (hall u hu)).2.2.1, hd⟩
  rintro _ _ ⟨h1, h2⟩
  dsimp only at h1 h2
  subst h1 h2
  walk_at "dl"
  refine q _ _ ⟨rfl, hall, ?_⟩
  rw [updM_upd]
  rfl

structure WebS where
  n : Nat
  ks : List D
  M : Nat → Nat → Nat
  μ : Mu
abbrev spWebMany (C : Addr) : Spc := specS (α := WebS) (fun a ds μ => ds = [.ins C (webF a.n a.ks a.M)] ∧ μ = a.μ) (fun a μ' d => μ' = a.μ ∧ d = .int a.n)
abbrev spWebTies (C : Addr) : Spc := specS (α := WebS) (fun a ds μ => ds = [.ins C (webF a.n a.ks a.M)] ∧ μ = a.μ) (fun a μ' d => ∃ p, a.μ p = none ∧ μ' = updM a.μ p (.lst a.ks) ∧ d = .ref p)
abbrev spWebLen (C : Addr) : Spc := specS (α := WebS) (fun a ds μ => ds = [.ins C (webF a.n a.ks a.M)] ∧ μ = a.μ) (fun a μ' d => μ' = a.μ ∧ d = .int (a.ks.length : Int))
theorem ok_Web_many {f : Addr} {fd : FuncData} (F : Fun K "many" "Web.many" s_Web_many f fd) (T_Web : Kls K c_Web ["points", "knots", "grid"]) : FnOk P w K mg base (L2.CX P w) 1 f fd ["self"] (lift K (spWebMany c_Web)) := by
  refine fn_dl F sc_Web_many (fun ds μ Q E h => ?_) fun X hX hf ds μ Q E hE h => ?_
  · obtain ⟨a, ⟨rfl, _⟩, _⟩ := h; rfl
  have w0 : Nw X "self" 0 := hX.nl (by decide +kernel) (by decide +kernel)
  have m0 : Nm X "self" 0 := w0.toNm
  have t_Web : Kls X.K c_Web ["points", "knots", "grid"] := hX.kls T_Web
  obtain ⟨⟨n, ks, M, μ0⟩, ⟨rfl, rfl⟩, q, _⟩ := h
  dsimp only at q ⊢
  change WB X _ [some (.ins c_Web (webF n ks M))] μ _
  refine wb_go ?_
  walk_at "dl"
  exact q _ _ ⟨rfl, rfl⟩
theorem ok_Web_ties {f : Addr} {fd : FuncData} (F : Fun K "ties" "Web.ties" s_Web_ties f fd) (T_Web : Kls K c_Web ["points", "knots", "grid"]) (M_list : mg "list" = none) : FnOk P w K mg base (L2.CX P w) 1 f fd ["self"] (lift K (spWebTies c_Web)) := by
  refine fn_dl F sc_Web_ties (fun ds μ Q E h => ?_) fun X hX hf ds μ Q E hE h => ?_
  · obtain ⟨a, ⟨rfl, _⟩, _⟩ := h; rfl
  have w0 : Nw X "self" 0 := hX.nl (by decide +kernel) (by decide +kernel)
  have m0 : Nm X "self" 0 := w0.toNm
  have t_Web : Kls X.K c_Web ["points", "knots", "grid"] := hX.kls T_Web
  have b_list : Bl X "list" := hX.bl (by decide +kernel) M_list
  obtain ⟨⟨n, ks, M, μ0⟩, ⟨rfl, rfl⟩, q, _⟩ := h
  dsimp only at q ⊢
  change WB X _ [some (.ins c_Web (webF n ks M))] μ _
  refine wb_go ?_
  walk_at "d_wb"
  refine ws_ret (we_listM b_list ?_)
  walk_at "dx"
  exact fun p hp => q _ _ ⟨p, hp, rfl, rfl⟩
theorem ok_Web_len {f : Addr} {fd : FuncData} (F : Fun K "__len__" "Web.__len__" s_Web_len f fd) (T_Web : Kls K c_Web ["points", "knots", "grid"]) (M_len : mg "len" = none) : FnOk P w K mg base (L2.CX P w) 1 f fd ["self"] (lift K (spWebLen c_Web)) := by
  refine fn_dl F sc_Web_len (fun ds μ Q E h => ?_) fun X hX hf ds μ Q E hE h => ?_
  · obtain ⟨a, ⟨rfl, _⟩, _⟩ := h; rfl
  have w0 : Nw X "self" 0 := hX.nl (by decide +kernel) (by decide +kernel)
  have m0 : Nm X "self" 0 := w0.toNm
  have t_Web : Kls X.K c_Web ["points", "knots", "grid"] := hX.kls T_Web
  have b_len : Bl X "len" := hX.bl (by decide +kernel) M_len
  obtain ⟨⟨n, ks, M, μ0⟩, ⟨rfl, rfl⟩, q, _⟩ := h
  dsimp only at q ⊢
  change WB X _ [some (.ins c_Web (webF n ks M))] μ _
  refine wb_go ?_
  walk_at "dl"
  exact q _ _ ⟨rfl, rfl⟩
def atZ (cs : List Int) (i : Nat) : Int := cs.getD i 0
def fitsB (n : Nat) (ts : List (Nat × Nat × Nat)) (cs : List Int) : Bool := decide (cs.length = n) && ts.all fun t => divI t.2.2 (atZ cs t.1 - atZ cs t.2.1)
structure FitA where
  n : Nat
  ts : List (Nat × Nat × Nat)
  M : Nat → Nat → Nat
  cs : List Int
  x : D
  μ : Mu
abbrev spWebFits (C : Addr) : Spc := specS (α := FitA) (fun a ds μ => ds = [.ins C (webF a.n (a.ts.map tieD) a.M), a.x] ∧ μ = a.μ ∧ SeqR a.μ a.x (a.cs.map .int) ∧ a.ts.length ≤ 1000 ∧ ∀ t ∈ a.ts, t.1 < a.n ∧ t.2.1 < a.n)
  (fun a μ' d => μ' = a.μ ∧ d = .bl (fitsB a.n a.ts a.cs))
theorem seqR_q {μ : Mu} {x : D} {ds : List D} {R : List D → Prop} (s : SeqR μ x ds) (r : R ds) : SeqQ μ x R := ⟨ds, seqR_s s, r⟩
theorem seqR_ix {μ : Mu} {x : D} {cs : List Int} {i : Nat} {R : D → Prop} (s : SeqR μ x (cs.map .int)) (h : i < cs.length) (r : R (.int (atZ cs i))) : IxQ μ x (.int (i : Int)) R := by
  refine ⟨_, i, _, seqR_s s, rfl, atI_n (by omega) ?_, r⟩
  rw [Int.toNat_natCast, List.getElem?_map, List.getElem?_eq_getElem h]
  unfold atZ
  simp [List.getD_eq_getElem?_getD, List.getElem?_eq_getElem h]
theorem ok_Web_fits {f : Addr} {fd : FuncData} (F : Fun K "fits" "Web.fits" s_Web_fits f fd) (G_agree_k2_rest : GFk P w K mg base "agree" 2 2 ["rest"] gApp spAgree) (T_Web : Kls K c_Web ["points", "knots", "grid"]) (M_len : mg "len" = none) (M_all : mg "all" = none) : FnOk P w K mg base (L2.CX P w) 3 f fd ["self", "case"] (lift K (spWebFits c_Web)) := by
  refine fn_dl F sc_Web_fits (fun ds μ Q E h => ?_) fun X hX hf ds μ Q E hE h => ?_
  · obtain ⟨a, ⟨rfl, _⟩, _⟩ := h; rfl
  have w0 : Nw X "self" 0 := hX.nl (by decide +kernel) (by decide +kernel)
  have m0 : Nm X "self" 0 := w0.toNm
  have w1 : Nw X "case" 1 := hX.nc hf (by decide +kernel) (by decide +kernel)
  have m1 : Nm X "case" 1 := w1.toNm
  have t_Web : Kls X.K c_Web ["points", "knots", "grid"] := hX.kls T_Web
  have b_len : Bl X "len" := hX.bl (by decide +kernel) M_len
  have b_all : Bl X "all" := hX.bl (by decide +kernel) M_all
  obtain ⟨⟨n, ts, M, cs, x, μ0⟩, ⟨rfl, rfl, hx, hl, hts⟩, q, _⟩ := h
  dsimp only at hx hl hts q ⊢
  change WB X _ [some (.ins c_Web (webF n (ts.map tieD) M)), some x, none, none, none] μ _
  refine wb_go ?_
  walk_at "d_wb"
  walk_at "dx"
  refine seqR_q hx ?_
  rw [List.length_map]
  walk_at "dl"
  · rename_i h
    have : fitsB n ts cs = false := by
      unfold fitsB
      rw [decide_eq_false (by omega), Bool.false_and]
    exact q _ _ ⟨rfl, by rw [this]⟩
  rename_i h
  have hcn : cs.length = n := by omega
  refine we_allL hX.calm b_all ?_
  refine ctx_lc hX [("one", 2), ("two", 3), ("rest", 4)] (vs := [2, 3, 4]) ?_
  refine wi_list ?_
  walk_at "dx"
  refine lc_pure (fun d => match d with | .tup [a, b, c] => [some (.ins c_Web (webF n (ts.map tieD) M)), some x, some a, some b, some c] | _ => []) (fun _ => true) (fun d => match d with | .tup [.int a, .int b, .int c] => .bl (divI c (atZ cs a.toNat - atZ cs b.toNat)) | d => d) SeqL.l.still (by rw [List.length_map]; exact small1000 hl) ?_ ?_ ?_ ?_
  · intro X' hb d hd
    have hX' := hX.blk hb
    obtain ⟨⟨a, b, c⟩, ht, rfl⟩ := List.mem_map.mp hd
    refine ctx_tup hX' ?_
    refine wgl_cons (v := [2]) (w := [3, 4]) (wg_name (i := 2) (hX'.nl (by decide +kernel) (by decide +kernel)) (.s (.s .z)) ?_)
    refine wgl_cons (v := [3]) (w := [4]) (wg_name (i := 3) (hX'.nl (by decide +kernel) (by decide +kernel)) (.s (.s (.s .z))) ?_)
    exact wgl_cons (v := [4]) (w := []) (wg_name (i := 4) (hX'.nl (by decide +kernel) (by decide +kernel)) (.s (.s (.s (.s .z)))) (wgl_nil ⟨rfl, rfl⟩))
  · intro X' hb d hd
    exact wts_nil ⟨rfl, rfl⟩
  · intro X' hb d hd _
    have hX' := hX.blk hb
    have m1 : Nm X' "case" 1 := hX'.nm (by decide +kernel)
    have m2 : Nm X' "one" 2 := hX'.nm (by decide +kernel)
    have m3 : Nm X' "two" 3 := hX'.nm (by decide +kernel)
    have m4 : Nm X' "rest" 4 := hX'.nm (by decide +kernel)
    have c_agree_k2_rest : ClK X' "agree" 2 ["rest"] gApp spAgree := hX'.clK G_agree_k2_rest (by decide +kernel) (by decide) (fun h1 h2 a b => gApp_is h1 h2 a b)
    obtain ⟨⟨a, b, c⟩, ht, rfl⟩ := List.mem_map.mp hd
    obtain ⟨ha, hb'⟩ := hts _ ht
    dsimp only [tieD] at ha hb' ⊢
    walk_at "dx"
    refine seqR_ix hx (by omega) ?_
    walk_at "dx"
    refine seqR_ix hx (by omega) ?_
    walk_at "dl"
    exact ⟨rfl, rfl⟩
  refine ⟨ts.map fun t => divI t.2.2 (atZ cs t.1 - atZ cs t.2.1), ?_, ?_⟩
  · rw [List.filter_eq_self.mpr fun _ _ => rfl, List.map_map, List.map_map]
    exact .inl rfl
  · have : fitsB n ts cs = (ts.map fun t => divI t.2.2 (atZ cs t.1 - atZ cs t.2.1)).all id := by
      unfold fitsB
      rw [decide_eq_true hcn, Bool.true_and, List.all_map]
      rfl
    rw [← this]
    exact q _ _ ⟨rfl, rfl⟩

def geD (b : Int) : D → Bool
  | .int z => decide (b ≤ z)
  | _ => false
def ltD (b : Int) : D → Bool
  | .int z => decide (z < b)
  | _ => false
theorem geD_map (b : Int) (ns : List Int) : ((ns.map D.int).filter (geD b)).map id = (ns.filter fun z => decide (b ≤ z)).map D.int := by
  rw [List.map_id, List.filter_map]
  rfl
theorem ltD_map (b : Int) (ns : List Int) : ((ns.map D.int).filter (ltD b)).map id = (ns.filter fun z => decide (z < b)).map D.int := by
  rw [List.map_id, List.filter_map]
  rfl
def mixI (c k : Int) : Int := (((c % 2147483647 + 1009 * k * k + 48611 * k + 17) ^ 5 % 2147483647) * 39373 + 7919 * k) % 1000000007
theorem ok__law_box {f : Addr} {fd : FuncData} (F : Fun K "_law_box" "_law_box" s__law_box f fd)  : FnOk P w K mg base (L2.CX P w) 1 f fd ["_law_script"] (lift K spBox) := by
  refine fn_dl F sc__law_box (fun ds μ Q E h => ?_) fun X hX hf ds μ Q E hE h => ?_
  · obtain ⟨a, ⟨rfl, _⟩, _⟩ := h; rfl
  have w0 : Nw X "_law_script" 0 := hX.nl (by decide +kernel) (by decide +kernel)
  have m0 : Nm X "_law_script" 0 := w0.toNm
  have w1 : Nw X "_law_great" 1 := hX.nl (by decide +kernel) (by decide +kernel)
  have m1 : Nm X "_law_great" 1 := w1.toNm
  obtain ⟨⟨μ0, ns⟩, ⟨rfl, rfl, hl⟩, q, _⟩ := h
  change WB X _ [some (.scr (ns.map .int)), none, none] _ _
  refine wb_go ?_
  walk_at "d_wb"
  refine ctx_setLcM hX [("_law_cell", 2)] (vs := [2]) w1 ?_
  refine wi_list ?_
  walk_at "dl"
  refine lc_pure (fun d => [some (.scr (ns.map .int)), none, some d]) (geD 1000000000000000000) id SeqL.r.still (by rw [List.length_map]; exact small1000 (Nat.le_trans hl (by decide))) ?_ ?_ ?_ ?_
  · intro X' hb d hd
    have hX' := hX.blk hb
    exact wg_name (i := 2) (hX'.nl (by decide +kernel) (by decide +kernel)) (.s (.s .z)) ⟨rfl, rfl⟩
  · intro X' hb d hd
    have hX' := hX.blk hb
    have m2 : Nm X' "_law_cell" 2 := hX'.nm (by decide +kernel)
    obtain ⟨z, hz, rfl⟩ := List.mem_map.mp hd
    refine wts_one ?_
    walk_at "dl"
    first | exact ⟨rfl, rfl⟩ | exact ⟨trivial, rfl⟩
  · intro X' hb d hd _
    have hX' := hX.blk hb
    have m2 : Nm X' "_law_cell" 2 := hX'.nm (by decide +kernel)
    walk_at "dl"
    exact ⟨rfl, rfl⟩
  intro g hg
  rw [geD_map]
  generalize hgr : (ns.filter fun z => decide (1000000000000000000 ≤ z)) = great
  have hgl : great.length ≤ 63 := by rw [← hgr]; exact Nat.le_trans (List.length_filter_le _ _) hl
  have hg0 : ∀ z ∈ great, 0 ≤ z := by
    intro z hz
    rw [← hgr] at hz
    have := of_decide_eq_true (List.mem_filter.mp hz).2
    exact Int.le_trans (by decide) this
  refine ⟨_, .s .z, ?_⟩
  walk_at "d_wb"
  refine ws_ret ?_
  refine we_lstM ?_
  walk_at "dl"
  refine ctx_lc hX [("_law_cell", 2)] (vs := [2]) ?_
  refine wi_list ?_
  walk_at "dl"
  refine lc_pure (fun d => [some (.scr (ns.map .int)), some (.ref g), some d]) (ltD 1000000000000000000) id SeqL.r.still (by rw [List.length_map]; exact small1000 (Nat.le_trans hl (by decide))) ?_ ?_ ?_ ?_
  · intro X' hb d hd
    have hX' := hX.blk hb
    exact wg_name (i := 2) (hX'.nl (by decide +kernel) (by decide +kernel)) (.s (.s .z)) ⟨rfl, rfl⟩
  · intro X' hb d hd
    have hX' := hX.blk hb
    have m2 : Nm X' "_law_cell" 2 := hX'.nm (by decide +kernel)
    obtain ⟨z, hz, rfl⟩ := List.mem_map.mp hd
    refine wts_one ?_
    walk_at "dl"
    first | exact ⟨rfl, rfl⟩ | exact ⟨trivial, rfl⟩
  · intro X' hb d hd _
    have hX' := hX.blk hb
    have m2 : Nm X' "_law_cell" 2 := hX'.nm (by decide +kernel)
    walk_at "dl"
    exact ⟨rfl, rfl⟩
  rw [ltD_map]
  generalize hsm : (ns.filter fun z => decide (z < 1000000000000000000)) = small
  have hsl : small.length ≤ 63 := by rw [← hsm]; exact Nat.le_trans (List.length_filter_le _ _) hl
  walk_at "dl"
  intro b hb
  have hbg : g ≠ b := fun e => by subst e; rw [updM_same] at hb; cases hb
  exact q _ _ ⟨b, g, ⟨great, 0, small, 0⟩, rfl, rfl, hbg, ⟨hg0, Int.le_refl _, Int.le_refl _, hgl, hsl⟩, rfl⟩
def fMixed : List D → Option D
  | [.int c, .int k] => some (.int (mixI c k))
  | _ => none
def pMixed (ds : List D) : Prop := ∃ c k, ds = [.int c, .int k] ∧ 0 ≤ k ∧ k ≤ 2000000
abbrev spMixed : Spc := pureS fMixed pMixed
theorem ok__law_mixed {f : Addr} {fd : FuncData} (F : Fun K "_law_mixed" "_law_mixed" s__law_mixed f fd)  : FnOk P w K mg base (L2.CX P w) 1 f fd ["_law_cell", "_law_k"] (lift K spMixed) := by
  refine fn_dl F sc__law_mixed (fun ds μ Q E h => ?_) fun X hX hf ds μ Q E hE h => ?_
  · unfold spMixed at h; obtain ⟨d, e, _⟩ := h; unfold fMixed at e; split at e <;> first | rfl | cases e
  have w0 : Nw X "_law_cell" 0 := hX.nl (by decide +kernel) (by decide +kernel)
  have m0 : Nm X "_law_cell" 0 := w0.toNm
  have w1 : Nw X "_law_k" 1 := hX.nl (by decide +kernel) (by decide +kernel)
  have m1 : Nm X "_law_k" 1 := w1.toNm
  have w2 : Nw X "_law_whole" 2 := hX.nl (by decide +kernel) (by decide +kernel)
  have m2 : Nm X "_law_whole" 2 := w2.toNm
  obtain ⟨d, e, ⟨c, k, rfl, h0, h1⟩, q⟩ := h
  cases e
  change WB X _ [some (.int c), some (.int k), none] μ _
  refine wb_go ?_
  walk_at "d_wb"
  have hk : 0 ≤ 1009 * k * k ∧ 1009 * k * k ≤ 1009 * 2000000 * 2000000 :=
    ⟨Int.mul_nonneg (by omega) h0, Int.mul_le_mul (by omega) h1 h0 (by decide)⟩
  walk_at "dl"
  exact q
theorem ok__law_take {f : Addr} {fd : FuncData} (F : Fun K "_law_take" "_law_take" s__law_take f fd) (G__law_mixed : GFn P w K mg base "_law_mixed" 1 spMixed) (M_len : mg "len" = none) : FnOk P w K mg base (L2.CX P w) 2 f fd ["_law_box_here", "_law_size"] (lift K spTake) := by
  refine fn_dl F sc__law_take (fun ds μ Q E h => ?_) fun X hX hf ds μ Q E hE h => ?_
  · obtain ⟨a, ⟨rfl, _⟩, _⟩ := h; rfl
  have w0 : Nw X "_law_box_here" 0 := hX.nl (by decide +kernel) (by decide +kernel)
  have m0 : Nm X "_law_box_here" 0 := w0.toNm
  have w1 : Nw X "_law_size" 1 := hX.nl (by decide +kernel) (by decide +kernel)
  have m1 : Nm X "_law_size" 1 := w1.toNm
  have w2 : Nw X "_law_found" 2 := hX.nl (by decide +kernel) (by decide +kernel)
  have m2 : Nm X "_law_found" 2 := w2.toNm
  have w3 : Nw X "_law_cell" 3 := hX.nl (by decide +kernel) (by decide +kernel)
  have m3 : Nm X "_law_cell" 3 := w3.toNm
  have w4 : Nw X "_law_reach" 4 := hX.nl (by decide +kernel) (by decide +kernel)
  have m4 : Nm X "_law_reach" 4 := w4.toNm
  have c__law_mixed : Cl X "_law_mixed" spMixed := hX.cl G__law_mixed (by decide +kernel) (by decide)
  have b_len : Bl X "len" := hX.bl (by decide +kernel) M_len
  obtain ⟨⟨b, g, t, μ0, n⟩, ⟨rfl, rfl, hg, ht, hc, h1, hn⟩, q, _⟩ := h
  change WB X _ [some (.ref b), some (.int n), none, none, none] _ _
  refine wb_go ?_
  have q' : ∀ (r : Int) (t' : Bx), 0 ≤ r → r < n → BxOk t' → t'.cnt = t.cnt + 1 → Q (bxM b g t' μ0) (.int r) := fun r t' a1 a2 a3 a4 => q _ _ ⟨r, t', rfl, rfl, a1, a2, a3, a4⟩
  clear q
  dsimp only at hg hc h1 hn ht ⊢
  obtain ⟨g0, p0, c0, gl, sl⟩ := ht
  walk_at "ds"
  walk_at "d_wb"
  refine ws_join (fun Γ' μ' => Γ' = [some (.ref b), some (.int n), none, none, none] ∧ ∃ t1, μ' = bxM b g t1 μ0 ∧ BxOk t1 ∧ t1.cnt = t.cnt + 1) ?_ ?_
  · walk_at "dl"
    · rename_i hp hgt
      obtain ⟨z, r, hz⟩ : ∃ z r, t.great = z :: r := by
        cases h : t.great with
        | nil => rw [h] at hgt; exact absurd hgt (by decide)
        | cons z r => exact ⟨z, r, rfl⟩
      have hr : (List.map D.int t.great).eraseIdx 0 = r.map D.int := by rw [hz]; rfl
      refine ⟨0, .int z, seqIndex_of (by decide) (by rw [List.length_map, hz, List.length_cons]; omega), by rw [hz]; rfl, ?_⟩
      dsimp only
      rw [hr, bxM_setg hg]
      walk_at "dl"
      refine ⟨rfl, _, rfl, ⟨fun y hy => g0 y (by rw [hz]; exact List.mem_cons_of_mem _ hy), g0 z (by rw [hz]; exact List.mem_cons_self), by dsimp only; omega, ?_, sl⟩, rfl⟩
      rw [hz, List.length_cons] at gl
      dsimp only
      omega
    all_goals exact ⟨rfl, _, rfl, ⟨g0, p0, by dsimp only; omega, gl, sl⟩, rfl⟩
  rintro _ _ ⟨rfl, t1, rfl, ⟨g0, p0, c0, gl, sl⟩, hc1⟩
  walk_at "ds"
  · walk_at "dl"
    refine q' _ _ ?_ ?_ ?_ hc1
    · exact Int.emod_nonneg _ (by omega)
    · exact Int.emod_lt_of_pos _ (by omega)
    · exact ⟨g0, Int.ediv_nonneg p0 (by omega), c0, gl, sl⟩
  walk_at "ds"
  walk_at "d_wb"
  refine ws_join (fun Γ' μ' => ∃ c, Γ' = [some (.ref b), some (.int n), none, some (.int c), none] ∧ μ' = bxM b g t1 μ0) ?_ ?_
  · walk_at "dl"
    · rename_i hs
      obtain ⟨d, hd1, hd2, _⟩ := atI_ex (i := t1.cnt % ((t1.small.map D.int).length : Int)) (Int.emod_nonneg _ (by omega)) (Int.emod_lt_of_pos _ hs)
      obtain ⟨z, _, rfl⟩ := List.mem_map.mp hd2
      refine ix_l hd1 ?_
      walk_at "dl"
      exact ⟨_, rfl, rfl⟩
    · exact ⟨_, rfl, rfl⟩
  rintro _ _ ⟨c, rfl, rfl⟩
  walk_at "ds"
  walk_at "ds"
  walk_at "d_wb"
  refine ctx_while hX (fun m Γ' μ' => ∃ x y, Γ' = [some (.ref b), some (.int n), some (.int x), some (.int c), some (.int y)] ∧ μ' = bxM b g t1 μ0 ∧ 0 ≤ x ∧ 1 ≤ y ∧ m = (n - y).toNat) ⟨_, 0, 1, rfl, rfl, by decide, by decide, rfl⟩ ?_
  rintro m _ _ ⟨x, y, rfl, rfl, hx, hy, rfl⟩
  walk_at "dl"
  · refine pure_i rfl ⟨_, _, rfl, by omega, by omega⟩ ?_
    have hm : 0 ≤ mixI c (t1.cnt + 1000 * (x % 89)) := Int.emod_nonneg _ (by decide)
    walk_at "dl"
    exact ⟨_, by omega, _, _, rfl, rfl, by omega, by omega, rfl⟩
  · exact q' _ _ (Int.emod_nonneg _ (by omega)) (Int.emod_lt_of_pos _ (by omega)) ⟨g0, p0, c0, gl, sl⟩ hc1

abbrev spRest : Spc := boxI (β := Unit) (fun _ => []) (fun _ => True) 20 (fun _ => 0) (fun _ => 1000000)
theorem ok__law_rest {f : Addr} {fd : FuncData} (F : Fun K "_law_rest" "_law_rest" s__law_rest f fd) (G__law_take : GFn P w K mg base "_law_take" 2 spTake) (M_range : mg "range" = none) : FnOk P w K mg base (L2.CX P w) 3 f fd ["_law_box_here"] (lift K spRest) := by
  refine fn_dl F sc__law_rest (fun ds μ Q E h => ?_) fun X hX hf ds μ Q E hE h => ?_
  · obtain ⟨a, ⟨rfl, _⟩, _⟩ := h; rfl
  have w0 : Nw X "_law_box_here" 0 := hX.nl (by decide +kernel) (by decide +kernel)
  have m0 : Nm X "_law_box_here" 0 := w0.toNm
  have w1 : Nw X "_law_way" 1 := hX.nl (by decide +kernel) (by decide +kernel)
  have m1 : Nm X "_law_way" 1 := w1.toNm
  have w2 : Nw X "_law_built" 2 := hX.nl (by decide +kernel) (by decide +kernel)
  have m2 : Nm X "_law_built" 2 := w2.toNm
  have w3 : Nw X "_law_k" 3 := hX.nl (by decide +kernel) (by decide +kernel)
  have m3 : Nm X "_law_k" 3 := w3.toNm
  have c__law_take : Cl X "_law_take" spTake := hX.cl G__law_take (by decide +kernel) (by decide)
  have b_range : Bl X "range" := hX.bl (by decide +kernel) M_range
  obtain ⟨⟨b, g, t, μ0, _⟩, ⟨rfl, rfl, hg, ht, hc, _⟩, q, _⟩ := h
  change WB X _ [some (.ref b), none, none, none] (bxM b g t μ0) _
  refine wb_go ?_
  have q' : ∀ (r : Int) (t' : Bx), 0 ≤ r → r ≤ 1000000 → BxOk t' → t.cnt ≤ t'.cnt → t'.cnt ≤ t.cnt + 20 → Q (bxM b g t' μ0) (.int r) := fun r t' a1 a2 a3 a4 a5 => q _ _ ⟨t', rfl, a3, a4, a5, r, rfl, a1, a2⟩
  clear q
  dsimp only at hg hc ht ⊢
  walk_at "dl"
  · exact q' _ _ (by omega) (by omega) (by assumption) (by omega) (by omega)
  · refine ix_range 0 1000000 (by omega) (by show _ < 6; omega) (by walk_at "ix") fun z _ _ => ?_
    walk_at "dl"
    exact q' _ _ (by omega) (by omega) (by assumption) (by omega) (by omega)
  · rename_i r t1 _ _ _ _ _ _ _
    refine ctx_for hX ?_
    refine wi_range1 b_range ?_
    walk_at "dl"
    rename_i n t2 _ _ _ _
    refine ⟨fun i Γ' μ' => ∃ (v : Int) (kk : Option D) (t3 : Bx), Γ' = [some (.ref b), some (.int r), some (.int v), kk] ∧ μ' = bxM b g t3 μ0 ∧ BxOk t3 ∧ 1 ≤ v ∧ v ≤ 7 ^ i ∧ t2.cnt ≤ t3.cnt ∧ t3.cnt ≤ t2.cnt + i,
      ⟨1, none, t2, rfl, rfl, by assumption, by decide, by decide, by omega, by omega⟩, fun _ _ _ _ _ => trivial, ?_, ?_⟩
    · rintro i d _ _ hd ⟨v, kk, t3, rfl, rfl, ht3, h1, h2, h3, h4⟩
      obtain ⟨hi, rfl⟩ := rangeD_get hd
      walk_at "dl"
      rename_i x t4 _ _ _ _
      refine ix_range 2 7 (by omega) (by show _ < 5; omega) (by walk_at "ix") fun z hz1 hz2 => ?_
      have hm1 : 1 * 1 ≤ v * z := Int.mul_le_mul h1 (by omega) (by omega) (by omega)
      have hm2 : v * z ≤ 7 ^ i * 7 := Int.mul_le_mul h2 hz2 (by omega) (Int.pow_nonneg (by decide))
      walk_at "dl"
      exact ⟨v * z, _, t4, rfl, rfl, by assumption, by omega, by rw [Int.pow_succ]; exact hm2, by omega, by omega⟩
    · rintro _ _ ⟨v, kk, t3, rfl, rfl, ht3, h1, h2, h3, h4⟩
      rw [rangeD_len] at h2 h4
      have hn : n.toNat ≤ 6 := by omega
      have h6 : (7 : Int) ^ n.toNat ≤ 7 ^ 6 := by
        have := Nat.pow_le_pow_right (n := 7) (by decide) hn
        exact_mod_cast this
      have h7 : (7 : Int) ^ 6 = 117649 := by decide
      walk_at "dl"
      exact q' _ _ (by omega) (by omega) (by assumption) (by omega) (by omega)
  · refine ix_range 0 1000000 (by omega) (by show _ < 3; omega) (by walk_at "ix") fun z _ _ => ?_
    walk_at "dl"
    exact q' _ _ (by omega) (by omega) (by assumption) (by omega) (by omega)

structure TieA where
  b : Addr
  g : Addr
  t : Bx
  μ : Mu
  n : Nat
  m : Nat
def TsOk (n : Nat) (ts : List (Nat × Nat × Nat)) : Prop := ∀ t ∈ ts, t.1 < n ∧ t.2.1 < n ∧ t.2.2 ≤ 1000000
abbrev spTies : Spc := specS (α := TieA) (fun a ds μ => ds = [.ref a.b, .int a.n, .int a.m] ∧ μ = bxM a.b a.g a.t a.μ ∧ a.g ≠ a.b ∧ BxOk a.t ∧ a.t.cnt + 2000 < 1000000 ∧ 1 ≤ a.n ∧ a.n ≤ 1000 ∧ a.m ≤ 63)
  (fun a μ' d => ∃ p ts t, d = .ref p ∧ p ≠ a.b ∧ p ≠ a.g ∧ a.μ p = none ∧ μ' = bxM a.b a.g t (updM a.μ p (.lst (ts.map tieD))) ∧ BxOk t ∧ t.cnt ≤ a.t.cnt + 2000 ∧ ts.length ≤ a.m ∧ TsOk a.n ts)
theorem ok__law_ties {f : Addr} {fd : FuncData} (F : Fun K "_law_ties" "_law_ties" s__law_ties f fd) (G__law_take : GFn P w K mg base "_law_take" 2 spTake) (G__law_rest : GFn P w K mg base "_law_rest" 3 spRest) (M_range : mg "range" = none) : FnOk P w K mg base (L2.CX P w) 4 f fd ["_law_box_here", "_law_many", "_law_most"] (lift K spTies) := by
  refine fn_dl F sc__law_ties (fun ds μ Q E h => ?_) fun X hX hf ds μ Q E hE h => ?_
  · obtain ⟨a, ⟨rfl, _⟩, _⟩ := h; rfl
  have w0 : Nw X "_law_box_here" 0 := hX.nl (by decide +kernel) (by decide +kernel)
  have m0 : Nm X "_law_box_here" 0 := w0.toNm
  have w1 : Nw X "_law_many" 1 := hX.nl (by decide +kernel) (by decide +kernel)
  have m1 : Nm X "_law_many" 1 := w1.toNm
  have w2 : Nw X "_law_most" 2 := hX.nl (by decide +kernel) (by decide +kernel)
  have m2 : Nm X "_law_most" 2 := w2.toNm
  have w3 : Nw X "_law_ties_here" 3 := hX.nl (by decide +kernel) (by decide +kernel)
  have m3 : Nm X "_law_ties_here" 3 := w3.toNm
  have w4 : Nw X "_law_close" 4 := hX.nl (by decide +kernel) (by decide +kernel)
  have m4 : Nm X "_law_close" 4 := w4.toNm
  have w5 : Nw X "_law_k" 5 := hX.nl (by decide +kernel) (by decide +kernel)
  have m5 : Nm X "_law_k" 5 := w5.toNm
  have w6 : Nw X "_law_span" 6 := hX.nl (by decide +kernel) (by decide +kernel)
  have m6 : Nm X "_law_span" 6 := w6.toNm
  have c__law_take : Cl X "_law_take" spTake := hX.cl G__law_take (by decide +kernel) (by decide)
  have c__law_rest : Cl X "_law_rest" spRest := hX.cl G__law_rest (by decide +kernel) (by decide)
  have b_range : Bl X "range" := hX.bl (by decide +kernel) M_range
  obtain ⟨⟨b, g, t, μ0, n, m⟩, ⟨rfl, rfl, hg, ht, hc, hn1, hn2, hm⟩, q, _⟩ := h
  dsimp only at hg ht hc hn1 hn2 hm q ⊢
  change WB X _ [some (.ref b), some (.int n), some (.int m), none, none, none, none] (bxM b g t μ0) _
  refine wb_go ?_
  walk_at "d_wb"
  refine ws_set w3 (we_lstM ?_)
  walk_at "dx"
  intro p hp
  obtain ⟨hpb, hpg, hp0⟩ := bxM_fresh hp
  rw [bxM_upd hpb hpg]
  walk_at "dx"
  walk_at "ds"
  rename_i cl t1 _ _ _ _
  walk_at "d_wb"
  refine ctx_for hX ?_
  refine wi_range1 b_range ?_
  walk_at "dx"
  rename_i k t2 _ _ _ _
  refine ⟨fun i Γ' μ' => ∃ (kk sp : Option D) (t3 : Bx) (ts : List (Nat × Nat × Nat)), Γ' = [some (.ref b), some (.int n), some (.int m), some (.ref p), some (.int (1 + cl)), kk, sp] ∧ μ' = bxM b g t3 (updM μ0 p (.lst (ts.map tieD))) ∧ BxOk t3 ∧ t3.cnt ≤ t2.cnt + 23 * i ∧ ts.length = i ∧ TsOk n ts,
    ⟨_, _, t2, [], rfl, rfl, by assumption, by omega, rfl, fun _ h => by cases h⟩, fun _ _ _ _ _ => trivial, ?_, ?_⟩
  · rintro i d _ _ hd ⟨kk, sp, t3, ts, rfl, rfl, ht3, hc3, hl, hts⟩
    obtain ⟨hi, rfl⟩ := rangeD_get hd
    have hlk : updM μ0 p (.lst (ts.map tieD)) p = some (.lst (ts.map tieD)) := updM_same
    walk_at "dl"
    rename_i r1 t4 _ _ _ _
    refine ix_range 1 n (by omega) (by show _ < 2; omega) (by walk_at "ix") fun z hz1 hz2 => ?_
    walk_at "dx"
    walk_at "dl"
    rename_i a t5 ha1 ha2 _ _ b1 t6 hb1 hb2 _ _ c t7 hc1 hc2 _ _ _
    refine req (by rw [List.length_map]; exact small1000 (by omega)) ?_
    rw [bxM_upd hpb hpg, updM_upd]
    have e : ts.map tieD ++ [.tup [.int a, .int b1, .int c]] = (ts ++ [(a.toNat, b1.toNat, c.toNat)]).map tieD := by
      rw [List.map_append]
      simp only [List.map_cons, List.map_nil, tieD, Int.toNat_of_nonneg ha1, Int.toNat_of_nonneg hb1, Int.toNat_of_nonneg hc1]
    rw [e]
    walk_at "dl"
    refine ⟨_, _, t7, _, rfl, rfl, by assumption, by omega, by rw [List.length_append, List.length_singleton]; omega, fun u hu => ?_⟩
    rcases List.mem_append.mp hu with hu | hu
    · exact hts u hu
    · simp only [List.mem_cons, List.not_mem_nil, or_false] at hu
      subst hu
      refine ⟨?_, ?_, ?_⟩
      · show a.toNat < n; omega
      · show b1.toNat < n; omega
      · show c.toNat ≤ 1000000; omega
  rintro _ _ ⟨kk, sp, t3, ts, rfl, rfl, ht3, hc3, hl, hts⟩
  rw [rangeD_len] at hl hc3
  walk_at "dl"
  exact q _ _ ⟨p, ts, t3, rfl, hpb, hpg, hp0, rfl, ht3, by omega, by omega, hts⟩

theorem ix_mem {ds : List D} {i : Int} {μ : Mu} {R : D → Prop} (h0 : 0 ≤ i) (h1 : i < (ds.length : Int)) (h : ∀ d ∈ ds, R d) : IxQ μ (.lst ds) (.int i) R := by
  obtain ⟨d, e, hm, _⟩ := atI_ex h0 h1
  exact ix_l e (h d hm)
theorem ptB_no {n : Nat} {i : Int} (h : ¬ (0 ≤ i ∧ i < (n : Int))) : ptB n (.int i) = false := decide_eq_false h
theorem rsB_no {i : Int} (h : ¬ (0 ≤ i ∧ i ≤ 1000000)) : rsB (.int i) = false := decide_eq_false h
theorem cutD_len (ds : List D) (l u : Option Int) : (DL.cutD ds l u).length ≤ ds.length := by
  unfold DL.cutD
  rw [List.length_take, List.length_drop]
  omega
theorem cut_add1 {a b c d : D} {l u : Option Int} : (DL.cutD [a, b, c] l u).length + [d].length ≤ sizeLine := by
  have := cutD_len [a, b, c] l u
  rw [List.length_cons, List.length_cons, List.length_cons, List.length_nil] at this
  show _ + 1 ≤ 16777216
  omega
theorem cut_add2 {a b c d : D} {l u l' u' : Option Int} : (DL.cutD [a, b, c] l u ++ [d]).length + (DL.cutD [a, b, c] l' u').length ≤ sizeLine := by
  have h1 := cutD_len [a, b, c] l u
  have h2 := cutD_len [a, b, c] l' u'
  rw [List.length_cons, List.length_cons, List.length_cons, List.length_nil] at h1 h2
  rw [List.length_append]
  show _ + 1 + _ ≤ 16777216
  omega
structure BadA where
  b : Addr
  g : Addr
  t : Bx
  μ : Mu
  n : Nat
  u : D × D × D
abbrev spBad : Spc := specS (α := BadA) (fun a ds μ => ds = [.ref a.b, .int a.n, triD a.u] ∧ μ = bxM a.b a.g a.t a.μ ∧ a.g ≠ a.b ∧ BxOk a.t ∧ a.t.cnt + 3 < 1000000 ∧ a.n ≤ 1000 ∧ ib3 a.u = true)
  (fun a μ' d => ∃ t u, d = triD u ∧ μ' = bxM a.b a.g t a.μ ∧ BxOk t ∧ t.cnt ≤ a.t.cnt + 3 ∧ ib3 u = true ∧ good3 a.n u = false)
theorem ok__law_bad {f : Addr} {fd : FuncData} (F : Fun K "_law_bad" "_law_bad" s__law_bad f fd) (G__law_take : GFn P w K mg base "_law_take" 2 spTake) : FnOk P w K mg base (L2.CX P w) 3 f fd ["_law_box_here", "_law_many", "_law_tie"] (lift K spBad) := by
  refine fn_dl F sc__law_bad (fun ds μ Q E h => ?_) fun X hX hf ds μ Q E hE h => ?_
  · obtain ⟨a, ⟨rfl, _⟩, _⟩ := h; rfl
  have w0 : Nw X "_law_box_here" 0 := hX.nl (by decide +kernel) (by decide +kernel)
  have m0 : Nm X "_law_box_here" 0 := w0.toNm
  have w1 : Nw X "_law_many" 1 := hX.nl (by decide +kernel) (by decide +kernel)
  have m1 : Nm X "_law_many" 1 := w1.toNm
  have w2 : Nw X "_law_tie" 2 := hX.nl (by decide +kernel) (by decide +kernel)
  have m2 : Nm X "_law_tie" 2 := w2.toNm
  have w3 : Nw X "_law_at" 3 := hX.nl (by decide +kernel) (by decide +kernel)
  have m3 : Nm X "_law_at" 3 := w3.toNm
  have w4 : Nw X "_law_odd" 4 := hX.nl (by decide +kernel) (by decide +kernel)
  have m4 : Nm X "_law_odd" 4 := w4.toNm
  have c__law_take : Cl X "_law_take" spTake := hX.cl G__law_take (by decide +kernel) (by decide)
  obtain ⟨⟨b, g, t, μ0, n, u⟩, ⟨rfl, rfl, hg, ht, hc, hn, hib⟩, q, _⟩ := h
  obtain ⟨u1, u2, u3⟩ := u
  dsimp only at hg ht hc hn hib q ⊢
  change WB X _ [some (.ref b), some (.int n), some (.tup [u1, u2, u3]), none, none] (bxM b g t μ0) _
  unfold ib3 at hib
  rw [Bool.and_eq_true, Bool.and_eq_true] at hib
  obtain ⟨⟨i1, i2⟩, i3⟩ := hib
  dsimp only at i1 i2 i3
  refine wb_go ?_
  walk_at "ds"
  rename_i r t1 h0 h3 _ _
  walk_at "ds"
  refine ix_mem (by omega) (by show _ < 4; omega) fun d hd => ?_
  have hA : ibD d = true ∧ ptB n d = false := by
    simp only [List.mem_cons, List.not_mem_nil, or_false] at hd
    rcases hd with rfl | rfl | rfl | rfl
    · exact ⟨rfl, ptB_no (by omega)⟩
    · exact ⟨rfl, ptB_no (by omega)⟩
    · exact ⟨rfl, ptB_no (by omega)⟩
    · exact ⟨rfl, rfl⟩
  walk_at "dx"
  rename_i t2 _ _ _ _
  walk_at "d_wb"
  refine ws_join (fun Γ' μ' => ∃ d' t3, Γ' = [some (.ref b), some (.int n), some (.tup [u1, u2, u3]), some (.int r), some d'] ∧ μ' = bxM b g t3 μ0 ∧ BxOk t3 ∧ t3.cnt ≤ t2.cnt + 1 ∧ ibD d' = true ∧ (r = 2 → rsB d' = false) ∧ (r ≠ 2 → ptB n d' = false)) ?_ ?_
  · walk_at "dl"
    · rename_i hr _ _ _ _ _ _
      refine ix_mem (by omega) (by show _ < 4; omega) fun d hd => ?_
      have hB : ibD d = true ∧ rsB d = false := by
        simp only [List.mem_cons, List.not_mem_nil, or_false] at hd
        rcases hd with rfl | rfl | rfl | rfl
        · exact ⟨rfl, rsB_no (by omega)⟩
        · exact ⟨rfl, rsB_no (by omega)⟩
        · exact ⟨rfl, rsB_no (by omega)⟩
        · exact ⟨rfl, rfl⟩
      walk_at "dl"
      exact ⟨_, _, rfl, rfl, by assumption, by omega, hB.1, fun _ => hB.2, fun z => absurd (by assumption) z⟩
    · exact ⟨_, _, rfl, rfl, by assumption, by omega, hA.1, fun z => absurd z (by assumption), fun _ => hA.2⟩
  rintro _ _ ⟨d', t3, rfl, rfl, ht3, hc3, hib', hr2, hr1⟩
  have fin : ∀ u : D × D × D, ib3 u = true → good3 n u = false → Q (bxM b g t3 μ0) (triD u) := fun u h1 h2 => q _ _ ⟨t3, u, rfl, rfl, ht3, by omega, h1, h2⟩
  have hall : r = 0 ∨ r = 1 ∨ r = 2 := by omega
  rcases hall with rfl | rfl | rfl
  all_goals
    walk_at "d_wb"
    refine ws_ret (we_addT (we_addT (we_slT ?_)))
    walk_at "dx"
    refine wo_none (wo_some ?_)
    walk_at "dx"
    refine ⟨_, rfl, ?_⟩
    walk_at "dx"
    refine ⟨_, _, rfl, rfl, req cut_add1 (we_slT ?_)⟩
    walk_at "dx"
    refine wo_some ?_
    walk_at "dx"
    refine wo_none ⟨_, rfl, _, _, rfl, rfl, req cut_add2 ?_⟩
  · exact fin (d', u2, u3) (by unfold ib3; simp [hib', i2, i3]) (by unfold good3; simp [hr1 (by decide)])
  · exact fin (u1, d', u3) (by unfold ib3; simp [hib', i1, i3]) (by unfold good3; simp [hr1 (by decide)])
  · exact fin (u1, u2, d') (by unfold ib3; simp [hib', i1, i2]) (by unfold good3; simp [hr2 rfl])

structure MadeA where
  n : Nat
  xs : List (D × D × D)
  x : D
  μ : Mu
abbrev spMade (C : Addr) : Spc := specS (α := MadeA) (fun a ds μ => ds = [.int a.n, a.x] ∧ μ = a.μ ∧ SeqR a.μ a.x (a.xs.map triD) ∧ a.n ≤ 1000 ∧ a.xs.length ≤ 64 ∧ ∀ t ∈ a.xs, ib3 t = true)
  (fun a μ' d => μ' = a.μ ∧ (((∀ t ∈ a.xs, good3 a.n t = true) ∧ d = .tup [.ins C (webF a.n (a.xs.map triD) (closeM a.n (a.xs.map nat3))), .non]) ∨
    ∃ (i : Nat) (t : D × D × D), a.xs[i]? = some t ∧ good3 a.n t = false ∧ (∀ j u, j < i → a.xs[j]? = some u → good3 a.n u = true) ∧ d = .tup [.non, .int i]))
theorem ok__law_made {f : Addr} {fd : FuncData} (F : Fun K "_law_made" "_law_made" s__law_made f fd) (G_Web : GMk P w K mg base "Web" c_Web 4 (spWebInit c_BadTie c_Web)) (N_BadTie : mg "BadTie" = some (.ref c_BadTie)) (N_SameError : mg "SameError" = some (.ref c_SameError)) (N_Apart : mg "Apart" = some (.ref c_Apart)) (N_BadRest : mg "BadRest" = some (.ref c_BadRest)) (N_NoPoint : mg "NoPoint" = some (.ref c_NoPoint)) (I_BadTie : XisC K c_BadTie) (Y_exm_BadTie_BadTie : PySem.W.exmOne K (.ref c_BadTie) (.ref c_BadTie) = some true) (Y_kit_BadTie_SameError : PySem.W.kitOne K (.ref c_BadTie) (.ref c_SameError) = some true) (Y_kitt_BadTie_ValueError : PySem.W.kitOne K (.ref c_BadTie) (.type "ValueError") = some true) (Y_kita_BadTie_Apart_BadRest_NoPoint : PySem.W.kitAny K (.ref c_BadTie) [.ref c_Apart, .ref c_BadRest, .ref c_NoPoint] = some false) (Ydict : PySem.W.hasDictIn K c_BadTie = true) (Yat : PySem.W.findIn K (.ref c_BadTie) "at" = some none) (M_isinstance : mg "isinstance" = none) (M_ValueError : mg "ValueError" = none) : FnOk P w K mg base (L2.CX P w) 6 f fd ["_law_many", "_law_ties_here"] (lift K (spMade c_Web)) := by
  refine fn_dl F sc__law_made (fun ds μ Q E h => ?_) fun X hX hf ds μ Q E hE h => ?_
  · obtain ⟨a, ⟨rfl, _⟩, _⟩ := h; rfl
  have w0 : Nw X "_law_many" 0 := hX.nl (by decide +kernel) (by decide +kernel)
  have m0 : Nm X "_law_many" 0 := w0.toNm
  have w1 : Nw X "_law_ties_here" 1 := hX.nl (by decide +kernel) (by decide +kernel)
  have m1 : Nm X "_law_ties_here" 1 := w1.toNm
  have w2 : Nw X "e" 2 := hX.nl (by decide +kernel) (by decide +kernel)
  have m2 : Nm X "e" 2 := w2.toNm
  have w3 : Nw X "_law_good" 3 := hX.nl (by decide +kernel) (by decide +kernel)
  have m3 : Nm X "_law_good" 3 := w3.toNm
  have k_Web : Ck X "Web" c_Web (spWebInit c_BadTie c_Web) := hX.ck G_Web (by decide +kernel) (by decide)
  have b_isinstance : Bl X "isinstance" := hX.bl (by decide +kernel) M_isinstance
  have b_ValueError : Bl X "ValueError" := hX.bl (by decide +kernel) M_ValueError
  obtain ⟨⟨n, xs, x, μ0⟩, ⟨rfl, rfl, hx, hn, hl, hib⟩, q, _⟩ := h
  dsimp only at hx hn hl hib q ⊢
  change WB X _ [some (.int n), some x, none, none] μ _
  refine wb_go ?_
  walk_at "d_wb"
  refine hX.try_as hf (i := 2) w2 N_BadTie ?_
  intro X' t
  obtain ⟨hX', hxd⟩ := hX.tryX t
  have m0 : Nm X' "_law_many" 0 := hX'.nm (by decide +kernel)
  have m1 : Nm X' "_law_ties_here" 1 := hX'.nm (by decide +kernel)
  have k_Web : Ck X' "Web" c_Web (spWebInit c_BadTie c_Web) := hX'.ck G_Web (by decide +kernel) (by decide)
  walk_at "d_wb"
  refine ws_ret (we_tup (wa_cons (we_frz ?_)))
  walk_at "dx"
  intro p hp
  refine ⟨⟨p, n, xs, x, updM μ p (.ins c_Web [])⟩, ⟨rfl, rfl, updM_same, seqR_upd hx (fun l e => by rw [hp] at e; cases e), hn, hl, hib⟩, ?_, ?_⟩
  · rintro μ' d ⟨h1, hgood, h2⟩
    dsimp only at h1 hgood h2
    subst h1 h2
    rw [updM_upd]
    refine ⟨rfl, μ, .ins c_Web (webF n (xs.map triD) (closeM n (xs.map nat3))), Frz.ins updM_same rfl ?_, ?_⟩
    · rw [delM_upd hp]
      exact FrzA.same
    walk_at "dx"
    exact q _ _ ⟨rfl, .inl ⟨hgood, rfl⟩⟩
  · rintro μ' xx ⟨i, u, hu, hbad, hfirst, h1, h2⟩
    dsimp only at hu hbad hfirst h1
    subst h1 h2
    rw [hxd]
    refine ⟨true, by rw [hX.K]; exact Y_exm_BadTie_BadTie, fun _ a od X2 S => ?_, fun z => nomatch z⟩
    change WB X2 _ [some (.int n), some x, some (.exc a od [("at", .int i)]), none] _ _
    have hS := hX.suX S
    have m2 : Nm X2 "e" 2 := hS.nm (by decide +kernel)
    have w3 : Nw X2 "_law_good" 3 := hS.nl (by decide +kernel) (by decide +kernel)
    have m3 := w3.toNm
    have b_isinstance : Bl X2 "isinstance" := hS.bl (by decide +kernel) M_isinstance
    have b_ValueError : Bl X2 "ValueError" := hS.bl (by decide +kernel) M_ValueError
    have hI : XisC X2.K c_BadTie := by rw [hS.K]; exact I_BadTie
    refine wb_drop updM_same ?_
    rw [delM_upd hp]
    walk_at "d_wb"
    refine ws_set w3 ?_
    refine we_and ?_
    refine we_isE S hI b_isinstance ?_
    walk_at "dx"
    refine hS.cls N_SameError (by decide +kernel) ?_
    refine ⟨_, _, true, rfl, rfl, by rw [hS.K]; exact Y_kit_BadTie_SameError, ?_⟩
    walk_at "dx"
    refine we_isE S hI b_isinstance ?_
    walk_at "dx"
    refine we_bty (n := "ValueError") b_ValueError (by decide +kernel) (by decide) (by decide) ?_
    refine ⟨_, _, true, rfl, rfl, by rw [hS.K]; exact Y_kitt_BadTie_ValueError, ?_⟩
    walk_at "dx"
    walk_at "d_wb"
    refine ws_set w3 ?_
    refine we_and ?_
    walk_at "dx"
    refine we_isET S hI b_isinstance ?_
    walk_at "dx"
    refine hS.cls N_Apart (by decide +kernel) ?_
    walk_at "dx"
    refine hS.cls N_BadRest (by decide +kernel) ?_
    walk_at "dx"
    refine hS.cls N_NoPoint (by decide +kernel) ?_
    walk_at "dx"
    refine ⟨_, _, [.ref c_Apart, .ref c_BadRest, .ref c_NoPoint], false, rfl, rfl, rfl, by rw [hS.K]; exact Y_kita_BadTie_Apart_BadRest_NoPoint, ?_⟩
    walk_at "dx"
    walk_at "d_wb"
    refine ws_ret (we_tup (wa_cons (we_non (wa_cons (we_ifE (wt_val (we_name m3 rfl (one_b ?_))))))))
    refine ite_nf ?_
    refine we_excF S hI (by rw [hS.K]; exact Ydict) (by rw [hS.K]; exact Yat) ?_
    walk_at "dx"
    refine ⟨_, 0, .int i, rfl, ix_BadTie_at, rfl, ?_⟩
    walk_at "dx"
    exact q _ _ ⟨rfl, .inr ⟨i, u, hu, hbad, hfirst, rfl⟩⟩

structure LFitA where
  n : Nat
  ts : List (Nat × Nat × Nat)
  cs : List Int
  x : D
  y : D
  μ : Mu
abbrev spLFits : Spc := specS (α := LFitA) (fun a ds μ => ds = [.int a.n, a.x, a.y] ∧ μ = a.μ ∧ SeqR a.μ a.x (a.ts.map tieD) ∧ SeqR a.μ a.y (a.cs.map .int) ∧ ∀ t ∈ a.ts, t.1 < a.n ∧ t.2.1 < a.n)
  (fun a μ' d => μ' = a.μ ∧ d = .bl (fitsB a.n a.ts a.cs))
theorem ok__law_fits {f : Addr} {fd : FuncData} (F : Fun K "_law_fits" "_law_fits" s__law_fits f fd) (M_len : mg "len" = none) : FnOk P w K mg base (L2.CX P w) 1 f fd ["_law_many", "_law_ties_here", "_law_case_here"] (lift K spLFits) := by
  refine fn_dl F sc__law_fits (fun ds μ Q E h => ?_) fun X hX hf ds μ Q E hE h => ?_
  · obtain ⟨a, ⟨rfl, _⟩, _⟩ := h; rfl
  have w0 : Nw X "_law_many" 0 := hX.nl (by decide +kernel) (by decide +kernel)
  have m0 : Nm X "_law_many" 0 := w0.toNm
  have w1 : Nw X "_law_ties_here" 1 := hX.nl (by decide +kernel) (by decide +kernel)
  have m1 : Nm X "_law_ties_here" 1 := w1.toNm
  have w2 : Nw X "_law_case_here" 2 := hX.nl (by decide +kernel) (by decide +kernel)
  have m2 : Nm X "_law_case_here" 2 := w2.toNm
  have w3 : Nw X "_law_one" 3 := hX.nl (by decide +kernel) (by decide +kernel)
  have m3 : Nm X "_law_one" 3 := w3.toNm
  have w4 : Nw X "_law_two" 4 := hX.nl (by decide +kernel) (by decide +kernel)
  have m4 : Nm X "_law_two" 4 := w4.toNm
  have w5 : Nw X "_law_by" 5 := hX.nl (by decide +kernel) (by decide +kernel)
  have m5 : Nm X "_law_by" 5 := w5.toNm
  have w6 : Nw X "_law_gap" 6 := hX.nl (by decide +kernel) (by decide +kernel)
  have m6 : Nm X "_law_gap" 6 := w6.toNm
  have b_len : Bl X "len" := hX.bl (by decide +kernel) M_len
  obtain ⟨⟨n, ts, cs, x, y, μ0⟩, ⟨rfl, rfl, hx, hy, hts⟩, q, _⟩ := h
  dsimp only at hx hy hts q ⊢
  change WB X _ [some (.int n), some x, some y, none, none, none, none] μ _
  refine wb_go ?_
  walk_at "d_wb"
  walk_at "dx"
  refine seqR_q hy ?_
  rw [List.length_map]
  walk_at "dl"
  · rename_i h
    have : fitsB n ts cs = false := by
      unfold fitsB
      rw [decide_eq_false (by omega), Bool.false_and]
    exact q _ _ ⟨rfl, by rw [this]⟩
  rename_i h
  have hcn : cs.length = n := by omega
  refine ctx_for hX ?_
  refine wi_list ?_
  walk_at "dx"
  refine ⟨ts.map tieD, seqR_l hx, ?_⟩
  refine ⟨fun i Γ' μ' => ∃ a b c d : Option D, Γ' = [some (.int n), some x, some y, a, b, c, d] ∧ μ = μ' ∧ ∀ j u, j < i → ts[j]? = some u → divI u.2.2 (atZ cs u.1 - atZ cs u.2.1) = true, ⟨_, _, _, _, rfl, rfl, fun j u h => by omega⟩, fun i Γ' μ' _ ⟨_, _, _, _, _, h, _⟩ => by rw [← h]; exact (seqR_l hx).still, ?_, ?_⟩
  · rintro i d _ _ hd ⟨_, _, _, _, rfl, rfl, hgood⟩
    rw [List.getElem?_map] at hd
    obtain ⟨⟨a, b, c⟩, ht, rfl⟩ := Option.map_eq_some_iff.mp hd
    obtain ⟨ha, hb⟩ := hts _ (List.mem_of_getElem? ht)
    dsimp only at ha hb
    have hbad : divI c (atZ cs a - atZ cs b) = false → Q μ (.bl false) := fun h => by
      have : fitsB n ts cs = false := by
        unfold fitsB
        rw [Bool.and_eq_false_iff]
        right
        rw [List.all_eq_false]
        exact ⟨_, List.mem_of_getElem? ht, by rw [h]; decide⟩
      exact q _ _ ⟨rfl, by rw [this]⟩
    have hok : divI c (atZ cs a - atZ cs b) = true → ∀ j u, j < i + 1 → ts[j]? = some u → divI u.2.2 (atZ cs u.1 - atZ cs u.2.1) = true := fun h j u hj hu => by
      by_cases e : j = i
      · subst e; rw [ht] at hu; cases hu; exact h
      · exact hgood j u (by omega) hu
    change WGx X _ (.tup [.int a, .int b, .int c]) _ _ _
    walk_at "dl"
    refine seqR_ix hy (by omega) ?_
    walk_at "dx"
    refine seqR_ix hy (by omega) ?_
    walk_at "dl"
    all_goals first
      | (refine hbad ?_; unfold divI; by_cases hc : (0 : Int) < (c : Int) <;> simp only [hc, if_true, if_false] <;> exact decide_eq_false (by omega))
      | (refine ⟨_, _, _, _, rfl, rfl, hok ?_⟩; unfold divI; by_cases hc : (0 : Int) < (c : Int) <;> simp only [hc, if_true, if_false] <;> exact decide_eq_true (by omega))
      | trace_state
  rintro _ _ ⟨_, _, _, _, rfl, rfl, hgood⟩
  rw [List.length_map] at hgood
  walk_at "dl"
  have : fitsB n ts cs = true := by
    unfold fitsB
    rw [decide_eq_true hcn, Bool.true_and, List.all_eq_true]
    intro t ht
    obtain ⟨j, hj⟩ := List.mem_iff_getElem?.mp ht
    exact hgood j t (List.getElem?_eq_some_iff.mp hj).1 hj
  exact q _ _ ⟨rfl, by rw [this]⟩

structure CaseA where
  b : Addr
  g : Addr
  t : Bx
  μ : Mu
  n : Nat
  ts : List (Nat × Nat × Nat)
  x : D
abbrev spCase : Spc := specS (α := CaseA) (fun a ds μ => ds = [.ref a.b, .int a.n, a.x] ∧ μ = bxM a.b a.g a.t a.μ ∧ a.g ≠ a.b ∧ BxOk a.t ∧ a.t.cnt + 60 < 1000000 ∧ a.n ≤ 24 ∧ (∀ t', SeqR (bxM a.b a.g t' a.μ) a.x (a.ts.map tieD)) ∧ TsOk a.n a.ts)
  (fun a μ' d => ∃ (p : Addr) (cs : List Int) (t : Bx), d = .ref p ∧ p ≠ a.b ∧ p ≠ a.g ∧ a.μ p = none ∧ μ' = bxM a.b a.g t (updM a.μ p (.lst (cs.map D.int))) ∧ BxOk t ∧ t.cnt ≤ a.t.cnt + 60)
theorem ok__law_case {f : Addr} {fd : FuncData} (F : Fun K "_law_case" "_law_case" s__law_case f fd) (G__law_take : GFn P w K mg base "_law_take" 2 spTake) (M_range : mg "range" = none) (M_list : mg "list" = none) (M_max : mg "max" = none) (M_min : mg "min" = none) : FnOk P w K mg base (L2.CX P w) 3 f fd ["_law_box_here", "_law_many", "_law_ties_here"] (lift K spCase) := by
  refine fn_dl F sc__law_case (fun ds μ Q E h => ?_) fun X hX hf ds μ Q E hE h => ?_
  · obtain ⟨a, ⟨rfl, _⟩, _⟩ := h; rfl
  have w0 : Nw X "_law_box_here" 0 := hX.nc hf (by decide +kernel) (by decide +kernel)
  have m0 : Nm X "_law_box_here" 0 := w0.toNm
  have w1 : Nw X "_law_many" 1 := hX.nl (by decide +kernel) (by decide +kernel)
  have m1 : Nm X "_law_many" 1 := w1.toNm
  have w2 : Nw X "_law_ties_here" 2 := hX.nl (by decide +kernel) (by decide +kernel)
  have m2 : Nm X "_law_ties_here" 2 := w2.toNm
  have w3 : Nw X "_law_way" 3 := hX.nl (by decide +kernel) (by decide +kernel)
  have m3 : Nm X "_law_way" 3 := w3.toNm
  have w4 : Nw X "_law_marks" 4 := hX.nc hf (by decide +kernel) (by decide +kernel)
  have m4 : Nm X "_law_marks" 4 := w4.toNm
  have w5 : Nw X "_law_step" 5 := hX.nc hf (by decide +kernel) (by decide +kernel)
  have m5 : Nm X "_law_step" 5 := w5.toNm
  have w6 : Nw X "_law_one" 6 := hX.nc hf (by decide +kernel) (by decide +kernel)
  have m6 : Nm X "_law_one" 6 := w6.toNm
  have w7 : Nw X "_law_two" 7 := hX.nc hf (by decide +kernel) (by decide +kernel)
  have m7 : Nm X "_law_two" 7 := w7.toNm
  have w8 : Nw X "_law_by" 8 := hX.nl (by decide +kernel) (by decide +kernel)
  have m8 : Nm X "_law_by" 8 := w8.toNm
  have w9 : Nw X "_law_begin" 9 := hX.nc hf (by decide +kernel) (by decide +kernel)
  have m9 : Nm X "_law_begin" 9 := w9.toNm
  have w10 : Nw X "_law_case_here" 10 := hX.nl (by decide +kernel) (by decide +kernel)
  have m10 : Nm X "_law_case_here" 10 := w10.toNm
  have w11 : Nw X "_law_at" 11 := hX.nl (by decide +kernel) (by decide +kernel)
  have m11 : Nm X "_law_at" 11 := w11.toNm
  have c__law_take : Cl X "_law_take" spTake := hX.cl G__law_take (by decide +kernel) (by decide)
  have b_range : Bl X "range" := hX.bl (by decide +kernel) M_range
  have b_list : Bl X "list" := hX.bl (by decide +kernel) M_list
  obtain ⟨⟨b, g, t, μ0, n, ts, x⟩, ⟨rfl, rfl, hg, ht, hc, hn, hx, hts⟩, q, _⟩ := h
  dsimp only at hg ht hc hn hx hts q ⊢
  change WB X _ [some (.ref b), some (.int n), some x, none, none, none, none, none, none, none, none, none, none, none, none] (bxM b g t μ0) _
  have fin : ∀ (acc : List D) (t' : Bx) (p : Addr), (∀ d ∈ acc, ∃ i : Int, d = .int i) → BxOk t' → t'.cnt ≤ t.cnt + 60 → bxM b g t' μ0 p = none → Q (updM (bxM b g t' μ0) p (.lst acc)) (.ref p) := fun acc t' p h1 h2 h3 h4 => by
    obtain ⟨hpb, hpg, hp0⟩ := bxM_fresh h4
    obtain ⟨cs, rfl⟩ := ints_of h1
    rw [bxM_upd hpb hpg]
    exact q _ _ ⟨p, cs, t', rfl, hpb, hpg, hp0, rfl, h2, h3⟩
  refine wb_go ?_
  walk_at "ds"
  rename_i way t1 _ _ _ _
  walk_at "ds"
  · walk_at "d_wb"
    refine ws_ret (ctx_lcM hX [("_law_k", 12)] (vs := [12]) ?_)
    refine wi_range1 b_range ?_
    walk_at "dl"
    rename_i r t2 _ _ _ _
    refine lc_box (fun d => [some (.ref b), some (.int n), some x, some (.int way), none, none, none, none, none, none, none, none, some d, none, none]) (fun d => ∃ i : Int, d = .int i) 1 (by omega) (fun _ => trivial) (by rw [rangeD_len]; exact small1000 (by omega)) (by assumption) ?_ ?_ ?_
    · intro X' hb d hd t'
      have hX' := hX.blk hb
      exact wg_name (i := 12) (hX'.nl (by decide +kernel) (by decide +kernel)) (by repeat (first | exact SetTo.z | apply SetTo.s)) ⟨rfl, rfl⟩
    · intro X' hb d hd t' ht' hct
      have hX' := hX.blk hb
      rw [rangeD_len] at hct
      have m0 : Nm X' "_law_box_here" 0 := hX'.nm (by decide +kernel)
      have c__law_take : Cl X' "_law_take" spTake := hX'.cl G__law_take (by decide +kernel) (by decide)
      walk_at "dl"
      exact ⟨_, rfl, by assumption, by omega, _, rfl⟩
    · intro acc t' h1 h2 h3 h4 p hp
      rw [rangeD_len] at h4
      exact fin acc t' p h2 h3 (by omega) hp
  walk_at "ds"
  · walk_at "d_wb"
    refine ws_ret (ctx_lcM hX [("_law_point", 13)] (vs := [13]) ?_)
    refine wi_range1 b_range ?_
    walk_at "dl"
    refine lc_box (fun d => [some (.ref b), some (.int n), some x, some (.int way), none, none, none, none, none, none, none, none, none, some d, none]) (fun d => ∃ i : Int, d = .int i) 1 (by omega) (fun _ => trivial) (by rw [rangeD_len]; exact small1000 (by omega)) (by assumption) ?_ ?_ ?_
    · intro X' hb d hd t'
      have hX' := hX.blk hb
      exact wg_name (i := 13) (hX'.nl (by decide +kernel) (by decide +kernel)) (by repeat (first | exact SetTo.z | apply SetTo.s)) ⟨rfl, rfl⟩
    · intro X' hb d hd t' ht' hct
      have hX' := hX.blk hb
      rw [rangeD_len] at hct
      have m0 : Nm X' "_law_box_here" 0 := hX'.nm (by decide +kernel)
      have c__law_take : Cl X' "_law_take" spTake := hX'.cl G__law_take (by decide +kernel) (by decide)
      walk_at "dl"
      exact ⟨_, rfl, by assumption, by omega, _, rfl⟩
    · intro acc t' h1 h2 h3 h4 p hp
      rw [rangeD_len] at h4
      exact fin acc t' p h2 h3 (by omega) hp
  walk_at "d_wb"
  refine ws_set w4 (we_listRg1 hX.calm b_list b_range ?_)
  walk_at "dx"
  have hr0 : rangeD 0 (n : Int).toNat = ((List.range n).map fun (i : Nat) => (0 : Int) + (i : Int)).map D.int := by
    rw [Int.toNat_natCast, List.map_map]
    rfl
  rw [hr0]
  have hml : ((List.range n).map fun (i : Nat) => (0 : Int) + (i : Int)).length = n := by simp
  generalize ((List.range n).map fun (i : Nat) => (0 : Int) + (i : Int)) = ms0 at hml ⊢
  clear hr0
  walk_at "ds"
  walk_at "d_wb"
  refine ctx_for hX ?_
  refine wi_list ?_
  walk_at "dx"
  refine ⟨ts.map tieD, seqR_l (hx t1), ?_⟩
  refine ⟨fun i Γ' μ' => ∃ (o u v : Option D) (ms : List Int) (st : Int), Γ' = [some (.ref b), some (.int n), some x, some (.int way), some (.lst (ms.map .int)), some (.int st), o, u, v, none, none, none, none, none, none] ∧ bxM b g t1 μ0 = μ' ∧ ms.length = n ∧ 1 ≤ st ∧ st ≤ 1000000000000000000000000000000000000, ⟨_, _, _, ms0, 1, rfl, rfl, hml, by omega, by omega⟩, fun i Γ' μ' _ ⟨_, _, _, _, _, _, h, _⟩ => by rw [← h]; exact (seqR_l (hx t1)).still, ?_, ?_⟩
  · rintro i d _ _ hd ⟨_, _, _, ms, st, rfl, rfl, hl, h1, h2⟩
    rw [List.getElem?_map] at hd
    obtain ⟨⟨a1, a2, a3⟩, htt, rfl⟩ := Option.map_eq_some_iff.mp hd
    obtain ⟨ha, hb, hc3⟩ := hts _ (List.mem_of_getElem? htt)
    dsimp only at ha hb hc3
    change WGx X _ (.tup [.int a1, .int a2, .int a3]) _ _ _
    walk_at "dl"
    · refine ws_set w4 (ctx_lc hX [("_law_mark", 14)] (vs := [14]) ?_) (sw_false (by rw [hX.sc]; exact celB_ok (by decide +kernel)))
      refine wi_list ?_
      walk_at "dx"
      refine lc_pure (fun d => [some (.ref b), some (.int n), some x, some (.int way), some (.lst (ms.map .int)), some (.int st), some (.int a1), some (.int a2), some (.int a3), none, none, none, none, none, some d]) (fun _ => true)
        (fun d => match d with | .int m => .int (if m = (if atZ ms a2 > atZ ms a1 then atZ ms a2 else atZ ms a1) then (if atZ ms a2 < atZ ms a1 then atZ ms a2 else atZ ms a1) else m) | d => d) SeqL.l.still (by rw [List.length_map]; exact small1000 (by omega)) ?_ ?_ ?_ ?_
      · intro X' hb d hd
        have hX' := hX.blk hb
        exact wg_name (i := 14) (hX'.nl (by decide +kernel) (by decide +kernel)) (by repeat (first | exact SetTo.z | apply SetTo.s)) ⟨rfl, rfl⟩
      · intro X' hb d hd
        exact wts_nil ⟨rfl, rfl⟩
      · intro X' hbl d hd _
        have hX' := hX.blk hbl
        have m4 : Nm X' "_law_marks" 4 := hX'.nm (by decide +kernel)
        have m6 : Nm X' "_law_one" 6 := hX'.nm (by decide +kernel)
        have m7 : Nm X' "_law_two" 7 := hX'.nm (by decide +kernel)
        have m14 : Nm X' "_law_mark" 14 := hX'.nm (by decide +kernel)
        have b_max : Bl X' "max" := hX'.bl (by decide +kernel) M_max
        have b_min : Bl X' "min" := hX'.bl (by decide +kernel) M_min
        have i1 : ∀ {R : D → Prop}, R (.int (atZ ms a1)) → IxQ (bxM b g t1 μ0) (.lst (ms.map .int)) (.int a1) R := fun r => seqR_ix (.inl rfl) (by omega) r
        have i2 : ∀ {R : D → Prop}, R (.int (atZ ms a2)) → IxQ (bxM b g t1 μ0) (.lst (ms.map .int)) (.int a2) R := fun r => seqR_ix (.inl rfl) (by omega) r
        obtain ⟨m, hm, rfl⟩ := List.mem_map.mp hd
        walk_at "dx"
        refine i1 ?_
        walk_at "dx"
        refine i2 ?_
        walk_at "dx"
        · rename_i he
          refine i1 ?_
          walk_at "dx"
          refine i2 ?_
          walk_at "dx"
          refine ⟨rfl, ?_⟩
          show _ = D.int _
          rw [if_pos he]
        · rename_i he
          refine ⟨rfl, ?_⟩
          show _ = D.int _
          rw [if_neg he]
      have hms : ∀ (f : Int → Int), ((((ms.map D.int).filter fun _ => true).map fun d => match d with | .int m => D.int (f m) | d => d)) = (ms.map f).map D.int := fun f => by
        rw [List.filter_eq_self.mpr fun _ _ => rfl, List.map_map, List.map_map]
        rfl
      rw [hms fun m => if m = (if atZ ms a2 > atZ ms a1 then atZ ms a2 else atZ ms a1) then (if atZ ms a2 < atZ ms a1 then atZ ms a2 else atZ ms a1) else m]
      walk_at "dl"
      exact ⟨_, _, _, _, st, rfl, rfl, by rw [List.length_map]; exact hl, h1, h2⟩
    · rename_i hz hlt
      have h3 : 1 * 1 ≤ st * (a3 : Int) := Int.mul_le_mul h1 (by omega) (by omega) (by omega)
      exact ⟨_, _, _, ms, st * (a3 : Int), rfl, rfl, hl, by omega, by omega⟩
    · exact ⟨_, _, _, ms, st, rfl, rfl, hl, h1, h2⟩
  rintro _ _ ⟨o, u, v, ms, st, rfl, rfl, hl, h1, h2⟩
  walk_at "ds"
  rename_i bg t2 _ _ _ _
  walk_at "d_wb"
  refine ctx_setLcM hX [("_law_mark", 14)] (vs := [14]) w10 ?_
  refine wi_list ?_
  walk_at "dx"
  refine lc_pure (fun d => [some (.ref b), some (.int n), some x, some (.int way), some (.lst (ms.map .int)), some (.int st), o, u, v, some (.int (bg - 100000000)), none, none, none, none, some d]) (fun _ => true)
    (fun d => match d with | .int m => .int (bg - 100000000 + st * (m % 3)) | d => d) SeqL.l.still (by rw [List.length_map]; exact small1000 (by omega)) ?_ ?_ ?_ ?_
  · intro X' hb d hd
    have hX' := hX.blk hb
    exact wg_name (i := 14) (hX'.nl (by decide +kernel) (by decide +kernel)) (by repeat (first | exact SetTo.z | apply SetTo.s)) ⟨rfl, rfl⟩
  · intro X' hb d hd
    exact wts_nil ⟨rfl, rfl⟩
  · intro X' hbl d hd _
    have hX' := hX.blk hbl
    have m5 : Nm X' "_law_step" 5 := hX'.nm (by decide +kernel)
    have m9 : Nm X' "_law_begin" 9 := hX'.nm (by decide +kernel)
    have m14 : Nm X' "_law_mark" 14 := hX'.nm (by decide +kernel)
    obtain ⟨m, hm, rfl⟩ := List.mem_map.mp hd
    have e1 : 0 ≤ m % 3 := by omega
    have e2 : m % 3 < 3 := by omega
    walk_at "dx"
    exact ⟨rfl, rfl⟩
  have hms : (((ms.map D.int).filter fun _ => true).map fun d => match d with | .int m => D.int (bg - 100000000 + st * (m % 3)) | d => d) = (ms.map fun m => bg - 100000000 + st * (m % 3)).map D.int := by
    rw [List.filter_eq_self.mpr fun _ _ => rfl, List.map_map, List.map_map]
    rfl
  rw [hms]
  have hcl : (ms.map fun m => bg - 100000000 + st * (m % 3)).length = n := by rw [List.length_map]; exact hl
  generalize (ms.map fun m => bg - 100000000 + st * (m % 3)) = cs at hcl ⊢
  intro p hp
  obtain ⟨hpb, hpg, hp0⟩ := bxM_fresh hp
  rw [bxM_upd hpb hpg]
  walk_at "d_rest"
  walk_at "d_wb"
  refine ws_join (fun Γ' μ' => ∃ (w : Option D) (t3 : Bx) (cs : List Int), Γ' = [some (.ref b), some (.int n), some x, some (.int way), some (.lst (ms.map .int)), some (.int st), o, u, v, some (.int (bg - 100000000)), some (.ref p), w, none, none, none] ∧ μ' = bxM b g t3 (updM μ0 p (.lst (cs.map .int))) ∧ BxOk t3 ∧ t3.cnt ≤ t2.cnt + 2) ?_ ?_
  · walk_at "dl"
    · rename_i r t3 hr0 hr1 _ _
      obtain ⟨d, hd1, hd2, _⟩ := atI_ex (ds := cs.map D.int) (i := r) (by omega) (by rw [List.length_map]; omega)
      obtain ⟨z, _, rfl⟩ := List.mem_map.mp hd2
      refine ix_m (Eq.trans (bxM_ne hpb hpg) updM_same) hd1 ?_
      walk_at "dx"
      rename_i s3 t4 _ _ _ _
      refine at_q (by omega) (by rw [List.length_map]; omega) ?_
      rw [bxM_upd hpb hpg, updM_upd, ← List.map_set]
      walk_at "dl"
      exact ⟨_, t4, _, rfl, rfl, by assumption, by omega⟩
    · exact ⟨_, t2, cs, rfl, rfl, by assumption, by omega⟩
    · exact ⟨_, t2, cs, rfl, rfl, by assumption, by omega⟩
  rintro _ _ ⟨w, t3, cs', rfl, rfl, ht3, hc3⟩
  walk_at "dl"
  exact q _ _ ⟨p, cs', t3, rfl, hpb, hpg, hp0, rfl, ht3, by omega⟩

def fSays : List D → Option D
  | [.bl a, .bl b] => some (.bl (decide (a = b)))
  | _ => none
abbrev spSays : Spc := pureS fSays
theorem ok__law_says {f : Addr} {fd : FuncData} (F : Fun K "_law_says" "_law_says" s__law_says f fd) (M_isinstance : mg "isinstance" = none) (M_bool : mg "bool" = none) : FnOk P w K mg base (L2.CX P w) 1 f fd ["_law_found", "_law_due"] (lift K spSays) := by
  refine fn_dl F sc__law_says (fun ds μ Q E h => ?_) fun X hX hf ds μ Q E hE h => ?_
  · unfold spSays at h; obtain ⟨d, e, _⟩ := h; unfold fSays at e; split at e <;> first | rfl | cases e
  have w0 : Nw X "_law_found" 0 := hX.nl (by decide +kernel) (by decide +kernel)
  have m0 : Nm X "_law_found" 0 := w0.toNm
  have w1 : Nw X "_law_due" 1 := hX.nl (by decide +kernel) (by decide +kernel)
  have m1 : Nm X "_law_due" 1 := w1.toNm
  have b_isinstance : Bl X "isinstance" := hX.bl (by decide +kernel) M_isinstance
  have b_bool : Bl X "bool" := hX.bl (by decide +kernel) M_bool
  obtain ⟨d, e, _, q⟩ := h
  unfold fSays at e
  split at e <;> cases e
  rename_i a b
  change WB X _ [some (.bl a), some (.bl b)] μ _
  refine wb_go ?_
  walk_at "dl"
  exact q

theorem ok_law {f : Addr} {fd : FuncData} (F : Fun K "law" "law" s_law f fd) (G__law_box : GFn P w K mg base "_law_box" 1 spBox) (G__law_take : GFn P w K mg base "_law_take" 2 spTake) (G__law_made : GFn P w K mg base "_law_made" 6 (spMade c_Web)) (G__law_ties : GFn P w K mg base "_law_ties" 4 spTies) (G_Web_ties : GCm P w K mg base c_Web "ties" 1 (spWebTies c_Web)) (G__law_case : GFn P w K mg base "_law_case" 3 spCase) (G__law_bad : GFn P w K mg base "_law_bad" 3 spBad) (G__law_says : GFn P w K mg base "_law_says" 1 spSays) (G_Web_many : GCm P w K mg base c_Web "many" 1 (spWebMany c_Web)) (G_Web_fits : GCm P w K mg base c_Web "fits" 3 (spWebFits c_Web)) (G__law_fits : GFn P w K mg base "_law_fits" 1 spLFits) (G_Web_len : GCm P w K mg base c_Web "__len__" 1 (spWebLen c_Web)) (M_range : mg "range" = none) (M_len : mg "len" = none) (M_list : mg "list" = none) (M_min : mg "min" = none) (M_isinstance : mg "isinstance" = none) (M_bool : mg "bool" = none) : FnOk P w K mg base (L2.CX P w) 7 f fd ["_law_script"] (lift K spLaw) := by
  refine fn_dl F sc_law (fun ds μ Q E h => ?_) fun X hX hf ds μ Q E hE h => ?_
  · obtain ⟨ns, rfl, _⟩ := h; rfl
  have w0 : Nw X "_law_script" 0 := hX.nl (by decide +kernel) (by decide +kernel)
  have m0 : Nm X "_law_script" 0 := w0.toNm
  have w1 : Nw X "_law_box_here" 1 := hX.nl (by decide +kernel) (by decide +kernel)
  have m1 : Nm X "_law_box_here" 1 := w1.toNm
  have w2 : Nw X "_law_many" 2 := hX.nl (by decide +kernel) (by decide +kernel)
  have m2 : Nm X "_law_many" 2 := w2.toNm
  have w3 : Nw X "_law_ties_here" 3 := hX.nl (by decide +kernel) (by decide +kernel)
  have m3 : Nm X "_law_ties_here" 3 := w3.toNm
  have w4 : Nw X "_law_bad_here" 4 := hX.nl (by decide +kernel) (by decide +kernel)
  have m4 : Nm X "_law_bad_here" 4 := w4.toNm
  have w5 : Nw X "_law_k" 5 := hX.nl (by decide +kernel) (by decide +kernel)
  have m5 : Nm X "_law_k" 5 := w5.toNm
  have w6 : Nw X "_law_handed" 6 := hX.nl (by decide +kernel) (by decide +kernel)
  have m6 : Nm X "_law_handed" 6 := w6.toNm
  have w7 : Nw X "_law_web" 7 := hX.nl (by decide +kernel) (by decide +kernel)
  have m7 : Nm X "_law_web" 7 := w7.toNm
  have w8 : Nw X "_law_at" 8 := hX.nl (by decide +kernel) (by decide +kernel)
  have m8 : Nm X "_law_at" 8 := w8.toNm
  have w9 : Nw X "_law_again" 9 := hX.nl (by decide +kernel) (by decide +kernel)
  have m9 : Nm X "_law_again" 9 := w9.toNm
  have w10 : Nw X "_law_told" 10 := hX.nl (by decide +kernel) (by decide +kernel)
  have m10 : Nm X "_law_told" 10 := w10.toNm
  have w11 : Nw X "_law_case_here" 11 := hX.nl (by decide +kernel) (by decide +kernel)
  have m11 : Nm X "_law_case_here" 11 := w11.toNm
  have c__law_box : Cl X "_law_box" spBox := hX.cl G__law_box (by decide +kernel) (by decide)
  have c__law_take : Cl X "_law_take" spTake := hX.cl G__law_take (by decide +kernel) (by decide)
  have c__law_made : Cl X "_law_made" (spMade c_Web) := hX.cl G__law_made (by decide +kernel) (by decide)
  have c__law_ties : Cl X "_law_ties" spTies := hX.cl G__law_ties (by decide +kernel) (by decide)
  have c_Web_ties : Cm X c_Web "ties" (spWebTies c_Web) := hX.cm G_Web_ties (by decide)
  have c__law_case : Cl X "_law_case" spCase := hX.cl G__law_case (by decide +kernel) (by decide)
  have c__law_bad : Cl X "_law_bad" spBad := hX.cl G__law_bad (by decide +kernel) (by decide)
  have c__law_says : Cl X "_law_says" spSays := hX.cl G__law_says (by decide +kernel) (by decide)
  have c_Web_many : Cm X c_Web "many" (spWebMany c_Web) := hX.cm G_Web_many (by decide)
  have c_Web_fits : Cm X c_Web "fits" (spWebFits c_Web) := hX.cm G_Web_fits (by decide)
  have c__law_fits : Cl X "_law_fits" spLFits := hX.cl G__law_fits (by decide +kernel) (by decide)
  have c_Web_len : Cl1 X c_Web (spWebLen c_Web) := hX.cl1 G_Web_len (by decide)
  have b_range : Bl X "range" := hX.bl (by decide +kernel) M_range
  have b_len : Bl X "len" := hX.bl (by decide +kernel) M_len
  have b_list : Bl X "list" := hX.bl (by decide +kernel) M_list
  have b_min : Bl X "min" := hX.bl (by decide +kernel) M_min
  have b_isinstance : Bl X "isinstance" := hX.bl (by decide +kernel) M_isinstance
  have b_bool : Bl X "bool" := hX.bl (by decide +kernel) M_bool
  obtain ⟨ns, rfl, hl, _, q⟩ := h
  change WB X _ [some (.scr (ns.map .int)), none, none, none, none, none, none, none, none, none, none, none] μ _
  refine wb_go ?_
  walk_at "ds"
  rename_i b g t0 hg _ h0
  walk_at "ds"
  refine ix_range 9 25 (by omega) (by show _ < 8; omega) (by walk_at "ix") fun z hz1 hz2 => ?_
  walk_at "dx"
  rename_i t1 _ _ many t2 hm0 hm1 _ _
  walk_at "d_wb"
  refine ws_set w3 (we_lstM ?_)
  walk_at "dx"
  obtain ⟨n, rfl⟩ : ∃ n : Nat, many = (n : Int) := ⟨many.toNat, by omega⟩
  intro p0 hp0
  obtain ⟨h1, h2, h3⟩ := bxM_fresh hp0
  rw [bxM_upd h1 h2]
  walk_at "d_rest"
  walk_at "d_wb"
  refine ws_join (fun Γ' μ' => ∃ (p : Addr) (t3 : Bx) (ts : List (Nat × Nat × Nat)) (μx : Mu), Γ' = [some (.scr (ns.map .int)), some (.ref b), some (.int n), some (.ref p), none, none, none, none, none, none, none, none] ∧ μ' = bxM b g t3 (updM μx p (.lst (ts.map tieD))) ∧ p ≠ b ∧ p ≠ g ∧ BxOk t3 ∧ t3.cnt ≤ 3000 ∧ TsOk n ts ∧ ts.length ≤ 60) ?_ ?_
  · walk_at "dl"
    · refine ix_range 12 60 (by omega) (by show _ < 8; omega) (by walk_at "ix") fun y hy1 hy2 => ?_
      walk_at "dx"
      rename_i t3 _ _
      obtain ⟨m, rfl⟩ : ∃ m : Nat, y = (m : Int) := ⟨y.toNat, by omega⟩
      refine ⟨⟨b, g, _, _, n, m⟩, ⟨rfl, rfl, hg, by assumption, by dsimp only; omega, by dsimp only; omega, by dsimp only; omega, by dsimp only; omega⟩, ?_, fun _ _ z => z.elim⟩
      rintro _ _ ⟨p, ts, t4, rfl, hpb, hpg, hpn, rfl, ht4, hc4, hl4, hts4⟩
      dsimp only at hpb hpg hc4 hl4 hts4
      walk_at "dl"
      exact ⟨p, t4, ts, _, rfl, rfl, hpb, hpg, ht4, by omega, hts4, by omega⟩
    · exact ⟨p0, t2, [], _, rfl, rfl, h1, h2, by assumption, by omega, (fun _ h => (by cases h)), by decide⟩
  rintro _ _ ⟨p, t3, ts, μx, rfl, rfl, hpb, hpg, ht3, hc3, hts, hlt⟩
  obtain ⟨xs, hx1, hx2, hx3⟩ : ∃ xs : List (D × D × D), ts.map tieD = xs.map triD ∧ xs.length = ts.length ∧ ∀ u ∈ xs, ib3 u = true ∧ good3 n u = true := by
    refine ⟨ts.map fun u => (.int u.1, .int u.2.1, .int u.2.2), by rw [List.map_map]; rfl, by rw [List.length_map], fun u hu => ?_⟩
    obtain ⟨v, hv, rfl⟩ := List.mem_map.mp hu
    obtain ⟨e1, e2, e3⟩ := hts v hv
    refine ⟨rfl, ?_⟩
    simp only [good3, ptB, rsB, Bool.and_eq_true, decide_eq_true_eq]
    omega
  rw [hx1]
  walk_at "d_wb"
  refine ws_set w4 (we_lstM ?_)
  walk_at "dx"
  intro q0 hq
  obtain ⟨g1, g2, g3⟩ := bxM_fresh hq
  have hqp : q0 ≠ p := fun e => by subst e; rw [updM_same] at g3; cases g3
  rw [bxM_upd g1 g2]
  walk_at "d_rest"
  walk_at "d_wb"
  refine ctx_for hX ?_
  refine wi_range1 b_range ?_
  walk_at "dx"
  rename_i ry ty _ _ _ _
  refine ix_range 0 2 (by omega) (by show _ < 4; omega) (by walk_at "ix") fun y hy1 hy2 => ?_
  walk_at "dx"
  have hpq : p ≠ q0 := fun e => hqp e.symm
  refine ⟨fun i Γ' μ' => ∃ (kk : Option D) (t : Bx) (xs : List (D × D × D)) (bs : List Int), Γ' = [some (.scr (ns.map .int)), some (.ref b), some (.int n), some (.ref p), some (.ref q0), kk, none, none, none, none, none, none] ∧ μ' = bxM b g t (updM (updM μx p (.lst (xs.map triD))) q0 (.lst (bs.map .int))) ∧ BxOk t ∧ t.cnt ≤ ty.cnt + 10 * i ∧ xs.length = ts.length ∧ bs.length ≤ i ∧ (∀ u ∈ xs, ib3 u = true) ∧ (∀ k ∈ bs, 0 ≤ k ∧ ∃ u, xs[k.toNat]? = some u ∧ good3 n u = false) ∧ (∀ (k : Nat) u, xs[k]? = some u → (k : Int) ∉ bs → good3 n u = true),
    ⟨_, _, xs, [], rfl, rfl, by assumption, by omega, hx2, by simp, fun u hu => (hx3 u hu).1, by simp, fun k u hk _ => (hx3 u (List.mem_of_getElem? hk)).2⟩, fun _ _ _ _ _ => trivial, ?_, ?_⟩
  · rintro i d _ _ hd ⟨kk, t5, xs', bs, rfl, rfl, ht5, hc5, hl5, hb5, hi5, hk5, hg5⟩
    obtain ⟨hi, rfl⟩ := rangeD_get hd
    have hxl : (xs'.map triD).length ≤ 60 := by rw [List.length_map]; omega
    walk_at "dl"
    · rename_i hpos r t6 hr0 hr1 _ _
      refine req (by rw [List.length_map]; exact small1000 (by omega)) ?_
      rw [bxM_upd g1 g2, updM_upd]
      have e : bs.map D.int ++ [D.int r] = (bs ++ [r]).map D.int := by rw [List.map_append]; rfl
      rw [e]
      have hlast : atI ((bs ++ [r]).map D.int) (-1) = some (.int r) := by
        rw [List.map_append]
        unfold atI ixN
        simp
        have e3 : ((-1 : Int) + ((bs.length : Int) + 1)).toNat = bs.length := by omega
        rw [if_pos (by omega), Option.bind_some, e3, List.getElem?_append_right (by simp)]
        simp
      rw [List.length_map] at hr1
      have hrl : r.toNat < xs'.length := by omega
      have hat : atI (xs'.map triD) r = some (triD xs'[r.toNat]) := atI_n hr0 (by rw [List.getElem?_map, List.getElem?_eq_getElem hrl]; rfl)
      walk_at "dl"
      refine ⟨⟨b, g, t6, updM (updM μx p (.lst (xs'.map triD))) q0 (.lst ((bs ++ [r]).map .int)), n, xs'[r.toNat]⟩, ⟨rfl, rfl, hg, by assumption, by dsimp only; omega, by dsimp only; omega, hi5 _ (List.getElem_mem hrl)⟩, ?_, fun _ _ z => z.elim⟩
      rintro _ _ ⟨t7, u', rfl, rfl, ht7, hc7, hib7, hgd7⟩
      dsimp only at hc7 hgd7
      walk_at "dl"
      · refine at_q hr0 (by rw [List.length_map]; exact hr1) ?_
        dsimp only
        rw [bxM_upd hpb hpg, updM_comm hqp, updM_upd, ← List.map_set]
        walk_at "dl"
        refine ⟨_, t7, xs'.set r.toNat u', bs ++ [r], rfl, rfl, ht7, by omega, by rw [List.length_set]; exact hl5, by rw [List.length_append]; exact Nat.add_le_add_right hb5 1, fun u hu => ?_, fun k hk => ?_, fun k u hk hn => ?_⟩
        · rcases List.mem_or_eq_of_mem_set hu with h | h
          · exact hi5 u h
          · rw [h]; exact hib7
        · have hk0 : 0 ≤ k := by
            rcases List.mem_append.mp hk with h | h
            · exact (hk5 k h).1
            · rw [List.mem_singleton.mp h]; exact hr0
          refine ⟨hk0, ?_⟩
          by_cases hkr : k = r
          · subst hkr
            exact ⟨u', by rw [List.getElem?_set_self hrl], hgd7⟩
          · rcases List.mem_append.mp hk with h | h
            · obtain ⟨_, u, h1, h2⟩ := hk5 k h
              exact ⟨u, by rw [List.getElem?_set_ne (by omega)]; exact h1, h2⟩
            · exact absurd (List.mem_singleton.mp h) hkr
        · have hkr : ¬ r.toNat = k := fun e => hn (List.mem_append.mpr (.inr (List.mem_singleton.mpr (by omega))))
          rw [List.getElem?_set_ne hkr] at hk
          exact hg5 k u hk fun h => hn (List.mem_append.mpr (.inl h))
    · exact ⟨_, t5, xs', bs, rfl, rfl, ht5, by omega, hl5, by omega, hi5, hk5, hg5⟩
  rintro _ _ ⟨kk, t5, xs', bs, rfl, rfl, ht5, hc5, hl5, hb5, hi5, hk5, hg5⟩
  have hmp : ∀ {o : MO} {t : Bx}, bxM b g t (updM (updM μx p (.lst (xs'.map triD))) q0 o) p = some (.lst (xs'.map triD)) := Eq.trans (bxM_ne hpb hpg) (Eq.trans (updM_ne hpq) updM_same)
  have hxl : (xs'.map triD).length ≤ 60 := by rw [List.length_map]; omega
  rw [rangeD_len] at hc5 hb5
  walk_at "d_wb"
  refine ws_set w6 (we_listM b_list ?_)
  walk_at "dx"
  intro q1 hq1
  obtain ⟨e1, e2, e3⟩ := bxM_fresh hq1
  rw [bxM_upd e1 e2]
  walk_at "d_rest"
  walk_at "ds"
  have hsh : shD 2 (.lst (xs'.map triD)) = true := by
    show (xs'.map triD).all (shD 1) = true
    rw [List.all_eq_true]
    intro d hd
    obtain ⟨⟨u1, u2, u3⟩, hu, rfl⟩ := List.mem_map.mp hd
    have := hi5 _ hu
    unfold ib3 at this
    rw [Bool.and_eq_true, Bool.and_eq_true] at this
    have key : ∀ d, ibD d = true → shD 0 d = true := fun d h => by
      cases d <;> first | rfl | cases h
    show ([u1, u2, u3].all (shD 0)) = true
    simp only [List.all_cons, List.all_nil, key _ this.1.1, key _ this.1.2, key _ this.2]
    rfl
  refine ⟨⟨n, xs', .ref q1, bxM b g t5 (updM (updM (updM μx p (.lst (xs'.map triD))) q0 (.lst (bs.map .int))) q1 (.lst (xs'.map triD)))⟩, ⟨rfl, rfl, .inr ⟨q1, rfl, Eq.trans (bxM_ne e1 e2) updM_same⟩, by dsimp only; omega, by dsimp only; omega, hi5⟩, ?_, fun _ _ z => z.elim⟩
  have hq1p : p ≠ q1 := fun e => by rw [← e, updM_ne hpq, updM_same] at e3; cases e3
  have hq1q : q0 ≠ q1 := fun e => by rw [← e, updM_same] at e3; cases e3
  rintro _ _ ⟨rfl, h⟩
  dsimp only at h
  have hq1l : ∀ {o : MO} {t : Bx}, bxM b g t (updM (updM (updM μx p (.lst (xs'.map triD))) q0 o) q1 (.lst (xs'.map triD))) q1 = some (.lst (xs'.map triD)) := Eq.trans (bxM_ne e1 e2) updM_same
  have hq0l : ∀ {o o' : MO} {t : Bx}, bxM b g t (updM (updM (updM μx p (.lst (xs'.map triD))) q0 o) q1 o') q0 = some o := Eq.trans (bxM_ne g1 g2) (Eq.trans (updM_ne hq1q) updM_same)
  have hpl : ∀ {o o' : MO} {t : Bx}, bxM b g t (updM (updM (updM μx p (.lst (xs'.map triD))) q0 o) q1 o') p = some (.lst (xs'.map triD)) := Eq.trans (bxM_ne hpb hpg) (Eq.trans (updM_ne hq1p) (Eq.trans (updM_ne hpq) updM_same))
  rcases h with ⟨hall, rfl⟩ | ⟨j, u, hj, hju, hjm, rfl⟩
  · have hb0 : bs = [] := by
      cases bs with
      | nil => rfl
      | cons k r =>
        obtain ⟨_, u, a1, a2⟩ := hk5 k List.mem_cons_self
        rw [hall u (List.mem_of_getElem? a1)] at a2
        cases a2
    subst hb0
    walk_at "dx"
    walk_at "d_wb"
    refine ws_if (wt_W (ww_or (wt_neD hX.hu ?_)))
    walk_at "dx"
    refine ⟨_, _, 2, 2, Vw.m hq1l, Vw.m hpl, hsh, hsh, by decide, by decide, ?_⟩
    rw [eqvD_self hsh]
    walk_at "dl"
    · rename_i hh
      exact (hh (by rfl)).elim
    · have hxs : xs'.map triD = (xs'.map nat3).map tieD := by
        rw [List.map_map]
        exact List.map_congr_left fun u hu => (good_tie (hall u hu)).1
      have hts' : TsOk n (xs'.map nat3) := fun v hv => by
        obtain ⟨u, hu, rfl⟩ := List.mem_map.mp hv
        exact (good_tie (hall u hu)).2
      refine ctx_for hX ?_
      refine wi_range1 b_range ?_
      walk_at "dx"
      refine ⟨fun i Γ' μ' => ∃ (o1 o2 : Option D) (μ1 : Mu), Γ' = [some (.scr (ns.map .int)), some (.ref b), some (.int n), some (.ref p), some (.ref q0), kk, some (.ref q1), some (.ins c_Web (webF n (xs'.map triD) (closeM n (xs'.map nat3)))), some .non, o1, o2, none] ∧ μ' = bxM b g t5 μ1 ∧ μ1 p = some (.lst (xs'.map triD)), ⟨_, _, _, rfl, bxM_upd e1 e2, Eq.trans (updM_ne hq1p) (Eq.trans (updM_ne hq1p) (Eq.trans (updM_ne hpq) updM_same))⟩, fun _ _ _ _ _ => trivial, ?_, ?_⟩
      · rintro i d _ _ hd ⟨o1, o2, μ1, rfl, rfl, hμ1⟩
        obtain ⟨hi, rfl⟩ := rangeD_get hd
        walk_at "dl"
        refine ⟨⟨n, xs'.map triD, _, bxM b g t5 μ1⟩, ⟨rfl, rfl⟩, ?_, fun _ _ z => z.elim⟩
        rintro _ _ ⟨p2, hp2, rfl, rfl⟩
        obtain ⟨f1, f2, f3⟩ := bxM_fresh hp2
        have hp2p : p ≠ p2 := fun e => by rw [← e, hμ1] at f3; cases f3
        dsimp only
        rw [bxM_upd f1 f2]
        walk_at "d_rest"
        walk_at "d_wb"
        refine ws_if (wt_W (ww_or ?_))
        walk_at "dx"
        refine ⟨⟨n, xs'.map triD, _, bxM b g t5 (updM μ1 p2 (.lst (xs'.map triD)))⟩, ⟨rfl, rfl⟩, ?_, fun _ _ z => z.elim⟩
        rintro _ _ ⟨rfl, rfl⟩
        dsimp only
        refine we_name m2 rfl (eq_i ?_)
        rw [decide_eq_true rfl]
        refine ite_rf rfl (ww_or (wt_neD hX.hu ?_))
        walk_at "dx"
        have hp2l : ∀ {o : MO}, bxM b g t5 (updM μ1 p2 o) p2 = some o := Eq.trans (bxM_ne f1 f2) updM_same
        have hpl2 : ∀ {o : MO}, bxM b g t5 (updM μ1 p2 o) p = some (.lst (xs'.map triD)) := Eq.trans (bxM_ne hpb hpg) (Eq.trans (updM_ne hp2p) hμ1)
        refine ⟨_, _, 2, 2, Vw.m hp2l, Vw.m hpl2, hsh, hsh, by decide, by decide, ?_⟩
        rw [eqvD_self hsh]
        refine ite_rf rfl (ww_or1 (wt_neS (we_lenI b_len c_Web_len ?_)))
        walk_at "dx"
        refine ⟨_, .inl rfl, ⟨n, xs'.map triD, _, bxM b g t5 (updM μ1 p2 (.lst (xs'.map triD)))⟩, ⟨rfl, rfl⟩, ?_, fun _ _ z => z.elim⟩
        rintro _ _ ⟨rfl, rfl⟩
        refine ⟨_, rfl, by omega, by dsimp only; omega, ?_⟩
        walk_at "dl"
        · rename_i hh
          exact (hh rfl).elim
        · refine req (by show _ < 16777216; omega) ?_
          dsimp only
          rw [bxM_upd f1 f2, updM_upd]
          walk_at "dl"
          exact ⟨_, _, updM μ1 p2 _, rfl, rfl, Eq.trans (updM_ne hp2p) hμ1⟩
      · rintro _ _ ⟨o1, o2, μ1, rfl, rfl, hμ1⟩
        walk_at "d_wb"
        refine ctx_for hX ?_
        refine wi_range1 b_range ?_
        walk_at "dx"
        refine ⟨fun i Γ' μ' => ∃ (kk o3 : Option D) (t : Bx) (μ1 : Mu), Γ' = [some (.scr (ns.map .int)), some (.ref b), some (.int n), some (.ref p), some (.ref q0), kk, some (.ref q1), some (.ins c_Web (webF n (xs'.map triD) (closeM n (xs'.map nat3)))), some .non, o1, o2, o3] ∧ μ' = bxM b g t μ1 ∧ μ1 p = some (.lst (xs'.map triD)) ∧ BxOk t ∧ t.cnt ≤ t5.cnt + 60 * i, ⟨_, _, t5, μ1, rfl, rfl, hμ1, ht5, by omega⟩, fun _ _ _ _ _ => trivial, ?_, ?_⟩
        · rintro i d _ _ hd ⟨kk, o3, t8, μ2, rfl, rfl, hμ2, ht8, hc8⟩
          obtain ⟨hi, rfl⟩ := rangeD_get hd
          have hμ2b : ∀ t', bxM b g t' μ2 p = some (.lst (xs'.map triD)) := fun t' => Eq.trans (bxM_ne hpb hpg) hμ2
          have hi4 : i < 4 := hi
          walk_at "dl"
          refine ⟨⟨b, g, t8, μ2, n, xs'.map nat3, .ref p⟩, ⟨rfl, rfl, hg, ht8, by dsimp only; omega, by dsimp only; omega, fun t' => .inr ⟨p, rfl, by rw [← hxs]; exact hμ2b t'⟩, hts'⟩, ?_, fun _ _ z => z.elim⟩
          rintro _ _ ⟨p3, cs, t9, rfl, h31, h32, h33, rfl, ht9, hc9⟩
          dsimp only at h31 h32 h33 hc9 ⊢
          have hp3 : ∀ {t : Bx}, bxM b g t (updM μ2 p3 (.lst (cs.map .int))) p3 = some (.lst (cs.map .int)) := Eq.trans (bxM_ne h31 h32) updM_same
          have hp3p : p ≠ p3 := fun e => by rw [← e, hμ2] at h33; cases h33
          have hpp : ∀ {t : Bx}, bxM b g t (updM μ2 p3 (.lst (cs.map .int))) p = some (.lst (xs'.map triD)) := Eq.trans (bxM_ne hpb hpg) (Eq.trans (updM_ne hp3p) hμ2)
          walk_at "dl"
          refine we_listF b_list ?_
          walk_at "dl"
          refine ⟨⟨n, xs'.map nat3, _, cs, _, bxM b g t9 (updM μ2 p3 (.lst (cs.map .int)))⟩, ⟨by rw [← hxs], rfl, .inl rfl, by dsimp only; rw [List.length_map]; omega, fun t ht => ⟨(hts' t ht).1, (hts' t ht).2.1⟩⟩, ?_, fun _ _ z => z.elim⟩
          rintro _ _ ⟨rfl, rfl⟩
          dsimp only
          walk_at "dl"
          refine ⟨⟨n, xs'.map nat3, cs, .ref p, .ref p3, bxM b g t9 (updM μ2 p3 (.lst (cs.map .int)))⟩, ⟨rfl, rfl, .inr ⟨p, rfl, by rw [← hxs]; exact hpp⟩, .inr ⟨p3, rfl, hp3⟩, fun t ht => ⟨(hts' t ht).1, (hts' t ht).2.1⟩⟩, ?_, fun _ _ z => z.elim⟩
          rintro _ _ ⟨rfl, rfl⟩
          dsimp only
          walk_at "dl"
          · rename_i hh
            exact (hh rfl).elim
          · exact ⟨_, _, t9, updM μ2 p3 _, rfl, rfl, Eq.trans (updM_ne hp3p) hμ2, ht9, by omega⟩
        · rintro _ _ ⟨kk, o3, t8, μ2, rfl, rfl, hμ2, ht8, hc8⟩
          walk_at "dl"
          exact q _
  · walk_at "dx"
    walk_at "d_wb"
    refine ws_if (wt_W (ww_or (wt_neD hX.hu ?_)))
    walk_at "dx"
    refine ⟨_, _, 2, 2, Vw.m hq1l, Vw.m hpl, hsh, hsh, by decide, by decide, ?_⟩
    rw [eqvD_self hsh]
    have hjb : (j : Int) ∈ bs := Decidable.byContradiction fun z => by
      rw [hg5 j u hj z] at hju
      cases hju
    have hb1 : 0 < bs.length := List.length_pos_of_mem hjb
    walk_at "dl"
    · rename_i hh
      exact (hh (by
        show decide (0 < ((bs.map D.int).length : Int)) = true
        rw [List.length_map]
        exact decide_eq_true (by omega))).elim
    · refine ⟨bs, .m hq0l, hb1, fun m hm1 hm2 => ?_⟩
      have hjle : ∀ k ∈ bs, (j : Int) ≤ k := fun k hk => by
        obtain ⟨a0, u2, a1, a2⟩ := hk5 k hk
        refine Decidable.byContradiction fun z => ?_
        rw [hjm k.toNat u2 (by omega) a1] at a2
        cases a2
      have hmj : m = j := by
        have h1 := hm2 _ hjb
        have h2 := hjle _ hm1
        omega
      subst hmj
      walk_at "dl"
      · exact q _
      · rename_i hh
        exact (hh rfl).elim
end
theorem all_mk {l : PySem.W.OpenLaw} {w : World} {K : PySem.W.Frag} {h : Heap} {mg : Str → Option Value} {fa : Addr} (X : K.In h) (G : h.Ns mainGlobals mg) (hfa : mg "law" = some (.ref fa)) {c_SameError c_Apart c_BadTie c_NoPoint c_BadRest c_Web : Addr}
    {f0 : Addr} {od0 an0 : Option Addr} {sl0 : Array (Option Value)} {oc0 dc0 pm0 cd0 ct0 : Value} {kV0 : Value}
    {f1 : Addr} {od1 an1 : Option Addr} {sl1 : Array (Option Value)} {oc1 dc1 pm1 cd1 ct1 : Value} {kV1 : Value}
    {f2 : Addr} {od2 an2 : Option Addr} {sl2 : Array (Option Value)} {oc2 dc2 pm2 cd2 ct2 : Value} {kV2 : Value}
    {f3 : Addr} {od3 an3 : Option Addr} {sl3 : Array (Option Value)} {oc3 dc3 pm3 cd3 ct3 : Value}
    {kD3 : Addr}
    {tk3_0 : Tok}
    {f4 : Addr} {od4 an4 : Option Addr} {sl4 : Array (Option Value)} {oc4 dc4 pm4 cd4 ct4 : Value} {kV4 : Value}
    {f5 : Addr} {od5 an5 : Option Addr} {sl5 : Array (Option Value)} {oc5 dc5 pm5 cd5 ct5 : Value} {kV5 : Value}
    {f6 : Addr} {od6 an6 : Option Addr} {sl6 : Array (Option Value)} {oc6 dc6 pm6 cd6 ct6 : Value} {kV6 : Value}
    {f7 : Addr} {od7 an7 : Option Addr} {sl7 : Array (Option Value)} {oc7 dc7 pm7 cd7 ct7 : Value} {kV7 : Value}
    {f8 : Addr} {od8 an8 : Option Addr} {sl8 : Array (Option Value)} {oc8 dc8 pm8 cd8 ct8 : Value} {kV8 : Value}
    {f9 : Addr} {od9 an9 : Option Addr} {sl9 : Array (Option Value)} {oc9 dc9 pm9 cd9 ct9 : Value} {kV9 : Value}
    {f10 : Addr} {od10 an10 : Option Addr} {sl10 : Array (Option Value)} {oc10 dc10 pm10 cd10 ct10 : Value} {kV10 : Value}
    {f11 : Addr} {od11 an11 : Option Addr} {sl11 : Array (Option Value)} {oc11 dc11 pm11 cd11 ct11 : Value} {kV11 : Value}
    {f12 : Addr} {od12 an12 : Option Addr} {sl12 : Array (Option Value)} {oc12 dc12 pm12 cd12 ct12 : Value} {kV12 : Value}
    {f13 : Addr} {od13 an13 : Option Addr} {sl13 : Array (Option Value)} {oc13 dc13 pm13 cd13 ct13 : Value} {kV13 : Value}
    {f14 : Addr} {od14 an14 : Option Addr} {sl14 : Array (Option Value)} {oc14 dc14 pm14 cd14 ct14 : Value} {kV14 : Value}
    {f15 : Addr} {od15 an15 : Option Addr} {sl15 : Array (Option Value)} {oc15 dc15 pm15 cd15 ct15 : Value} {kV15 : Value}
    {f16 : Addr} {od16 an16 : Option Addr} {sl16 : Array (Option Value)} {oc16 dc16 pm16 cd16 ct16 : Value} {kV16 : Value}
    {f17 : Addr} {od17 an17 : Option Addr} {sl17 : Array (Option Value)} {oc17 dc17 pm17 cd17 ct17 : Value} {kV17 : Value}
    {f18 : Addr} {od18 an18 : Option Addr} {sl18 : Array (Option Value)} {oc18 dc18 pm18 cd18 ct18 : Value} {kV18 : Value}
    {f19 : Addr} {od19 an19 : Option Addr} {sl19 : Array (Option Value)} {oc19 dc19 pm19 cd19 ct19 : Value} {kV19 : Value}
    {f20 : Addr} {od20 an20 : Option Addr} {sl20 : Array (Option Value)} {oc20 dc20 pm20 cd20 ct20 : Value} {kV20 : Value}
    {f21 : Addr} {od21 an21 : Option Addr} {sl21 : Array (Option Value)} {oc21 dc21 pm21 cd21 ct21 : Value} {kV21 : Value}
    {f22 : Addr} {od22 an22 : Option Addr} {sl22 : Array (Option Value)} {oc22 dc22 pm22 cd22 ct22 : Value} {kV22 : Value}
    {f23 : Addr} {od23 an23 : Option Addr} {sl23 : Array (Option Value)} {oc23 dc23 pm23 cd23 ct23 : Value} {kV23 : Value}
    {f24 : Addr} {od24 an24 : Option Addr} {sl24 : Array (Option Value)} {oc24 dc24 pm24 cd24 ct24 : Value} {kV24 : Value}
    {nm_BadTie q_BadTie : Str} {nN_BadTie : Addr} {bs_BadTie : List Value} {sn_BadTie : List Str} {sb_BadTie : List Value} {ab_BadTie : Bool} {co_BadTie : Option Bool} {dd_BadTie : Option Addr} {m0_BadTie m1_BadTie m2_BadTie m3_BadTie m5_BadTie : Option Value}
    (a0 : PySem.W.nsIn K mainGlobals "is_whole" = some (some (.ref f0)))
    (l0 : K.lookup f0 = some ⟨oc0, od0, .func (PySem.W.fnOf "is_whole" "is_whole" (defArgs s_is_whole) (defBody s_is_whole) (defScope s_is_whole) .none kV0 dc0 pm0 an0 cd0 ct0), sl0⟩)
    (c0 : PySem.W.codeIn K cd0 "is_whole" = true)
    (k0 : PySem.W.keepIn K (.ref f0) = true)
    (a1 : PySem.W.nsIn K mainGlobals "divides" = some (some (.ref f1)))
    (l1 : K.lookup f1 = some ⟨oc1, od1, .func (PySem.W.fnOf "divides" "divides" (defArgs s_divides) (defBody s_divides) (defScope s_divides) .none kV1 dc1 pm1 an1 cd1 ct1), sl1⟩)
    (c1 : PySem.W.codeIn K cd1 "divides" = true)
    (k1 : PySem.W.keepIn K (.ref f1) = true)
    (a2 : PySem.W.nsIn K mainGlobals "agree" = some (some (.ref f2)))
    (l2 : K.lookup f2 = some ⟨oc2, od2, .func (PySem.W.fnOf "agree" "agree" (defArgs s_agree) (defBody s_agree) (defScope s_agree) .none kV2 dc2 pm2 an2 cd2 ct2), sl2⟩)
    (c2 : PySem.W.codeIn K cd2 "agree" = true)
    (k2 : PySem.W.keepIn K (.ref f2) = true)
    (a3 : PySem.W.nsIn K mainGlobals "is_rest" = some (some (.ref f3)))
    (q3_0 : PySem.W.nsIn K kD3 "most" = some (some (.int 1000000 tk3_0)))
    (l3 : K.lookup f3 = some ⟨oc3, od3, .func (PySem.W.fnOf "is_rest" "is_rest" (defArgs s_is_rest) (defBody s_is_rest) (defScope s_is_rest) .none (.ref kD3) dc3 pm3 an3 cd3 ct3), sl3⟩)
    (c3 : PySem.W.codeIn K cd3 "is_rest" = true)
    (k3 : PySem.W.keepIn K (.ref f3) = true)
    (a4 : PySem.W.nsIn K mainGlobals "common" = some (some (.ref f4)))
    (l4 : K.lookup f4 = some ⟨oc4, od4, .func (PySem.W.fnOf "common" "common" (defArgs s_common) (defBody s_common) (defScope s_common) .none kV4 dc4 pm4 an4 cd4 ct4), sl4⟩)
    (c4 : PySem.W.codeIn K cd4 "common" = true)
    (k4 : PySem.W.keepIn K (.ref f4) = true)
    (a5 : PySem.W.nsIn K mainGlobals "joined" = some (some (.ref f5)))
    (l5 : K.lookup f5 = some ⟨oc5, od5, .func (PySem.W.fnOf "joined" "joined" (defArgs s_joined) (defBody s_joined) (defScope s_joined) .none kV5 dc5 pm5 an5 cd5 ct5), sl5⟩)
    (c5 : PySem.W.codeIn K cd5 "joined" = true)
    (k5 : PySem.W.keepIn K (.ref f5) = true)
    (a6 : PySem.W.nsIn K mainGlobals "is_point" = some (some (.ref f6)))
    (l6 : K.lookup f6 = some ⟨oc6, od6, .func (PySem.W.fnOf "is_point" "is_point" (defArgs s_is_point) (defBody s_is_point) (defScope s_is_point) .none kV6 dc6 pm6 an6 cd6 ct6), sl6⟩)
    (c6 : PySem.W.codeIn K cd6 "is_point" = true)
    (k6 : PySem.W.keepIn K (.ref f6) = true)
    (a7 : PySem.W.nsIn K mainGlobals "closure" = some (some (.ref f7)))
    (l7 : K.lookup f7 = some ⟨oc7, od7, .func (PySem.W.fnOf "closure" "closure" (defArgs s_closure) (defBody s_closure) (defScope s_closure) .none kV7 dc7 pm7 an7 cd7 ct7), sl7⟩)
    (c7 : PySem.W.codeIn K cd7 "closure" = true)
    (k7 : PySem.W.keepIn K (.ref f7) = true)
    (a8 : PySem.W.findIn K (.ref c_Web) "__init__" = some (some (.ref f8)))
    (i8 : PySem.W.isFn K (.ref f8) = true)
    (l8 : K.lookup f8 = some ⟨oc8, od8, .func (PySem.W.fnOf "__init__" "Web.__init__" (defArgs s_Web_init) (defBody s_Web_init) (defScope s_Web_init) .none kV8 dc8 pm8 an8 cd8 ct8), sl8⟩)
    (c8 : PySem.W.codeIn K cd8 "Web.__init__" = true)
    (k8 : PySem.W.keepIn K (.ref f8) = true)
    (a9 : PySem.W.findIn K (.ref c_Web) "many" = some (some (.ref f9)))
    (i9 : PySem.W.isFn K (.ref f9) = true)
    (l9 : K.lookup f9 = some ⟨oc9, od9, .func (PySem.W.fnOf "many" "Web.many" (defArgs s_Web_many) (defBody s_Web_many) (defScope s_Web_many) .none kV9 dc9 pm9 an9 cd9 ct9), sl9⟩)
    (c9 : PySem.W.codeIn K cd9 "Web.many" = true)
    (k9 : PySem.W.keepIn K (.ref f9) = true)
    (a10 : PySem.W.findIn K (.ref c_Web) "ties" = some (some (.ref f10)))
    (i10 : PySem.W.isFn K (.ref f10) = true)
    (l10 : K.lookup f10 = some ⟨oc10, od10, .func (PySem.W.fnOf "ties" "Web.ties" (defArgs s_Web_ties) (defBody s_Web_ties) (defScope s_Web_ties) .none kV10 dc10 pm10 an10 cd10 ct10), sl10⟩)
    (c10 : PySem.W.codeIn K cd10 "Web.ties" = true)
    (k10 : PySem.W.keepIn K (.ref f10) = true)
    (a11 : PySem.W.findIn K (.ref c_Web) "__len__" = some (some (.ref f11)))
    (i11 : PySem.W.isFn K (.ref f11) = true)
    (l11 : K.lookup f11 = some ⟨oc11, od11, .func (PySem.W.fnOf "__len__" "Web.__len__" (defArgs s_Web_len) (defBody s_Web_len) (defScope s_Web_len) .none kV11 dc11 pm11 an11 cd11 ct11), sl11⟩)
    (c11 : PySem.W.codeIn K cd11 "Web.__len__" = true)
    (k11 : PySem.W.keepIn K (.ref f11) = true)
    (a12 : PySem.W.findIn K (.ref c_Web) "fits" = some (some (.ref f12)))
    (i12 : PySem.W.isFn K (.ref f12) = true)
    (l12 : K.lookup f12 = some ⟨oc12, od12, .func (PySem.W.fnOf "fits" "Web.fits" (defArgs s_Web_fits) (defBody s_Web_fits) (defScope s_Web_fits) .none kV12 dc12 pm12 an12 cd12 ct12), sl12⟩)
    (c12 : PySem.W.codeIn K cd12 "Web.fits" = true)
    (k12 : PySem.W.keepIn K (.ref f12) = true)
    (a13 : PySem.W.nsIn K mainGlobals "_law_box" = some (some (.ref f13)))
    (l13 : K.lookup f13 = some ⟨oc13, od13, .func (PySem.W.fnOf "_law_box" "_law_box" (defArgs s__law_box) (defBody s__law_box) (defScope s__law_box) .none kV13 dc13 pm13 an13 cd13 ct13), sl13⟩)
    (c13 : PySem.W.codeIn K cd13 "_law_box" = true)
    (k13 : PySem.W.keepIn K (.ref f13) = true)
    (a14 : PySem.W.nsIn K mainGlobals "_law_mixed" = some (some (.ref f14)))
    (l14 : K.lookup f14 = some ⟨oc14, od14, .func (PySem.W.fnOf "_law_mixed" "_law_mixed" (defArgs s__law_mixed) (defBody s__law_mixed) (defScope s__law_mixed) .none kV14 dc14 pm14 an14 cd14 ct14), sl14⟩)
    (c14 : PySem.W.codeIn K cd14 "_law_mixed" = true)
    (k14 : PySem.W.keepIn K (.ref f14) = true)
    (a15 : PySem.W.nsIn K mainGlobals "_law_take" = some (some (.ref f15)))
    (l15 : K.lookup f15 = some ⟨oc15, od15, .func (PySem.W.fnOf "_law_take" "_law_take" (defArgs s__law_take) (defBody s__law_take) (defScope s__law_take) .none kV15 dc15 pm15 an15 cd15 ct15), sl15⟩)
    (c15 : PySem.W.codeIn K cd15 "_law_take" = true)
    (k15 : PySem.W.keepIn K (.ref f15) = true)
    (a16 : PySem.W.nsIn K mainGlobals "_law_rest" = some (some (.ref f16)))
    (l16 : K.lookup f16 = some ⟨oc16, od16, .func (PySem.W.fnOf "_law_rest" "_law_rest" (defArgs s__law_rest) (defBody s__law_rest) (defScope s__law_rest) .none kV16 dc16 pm16 an16 cd16 ct16), sl16⟩)
    (c16 : PySem.W.codeIn K cd16 "_law_rest" = true)
    (k16 : PySem.W.keepIn K (.ref f16) = true)
    (a17 : PySem.W.nsIn K mainGlobals "_law_ties" = some (some (.ref f17)))
    (l17 : K.lookup f17 = some ⟨oc17, od17, .func (PySem.W.fnOf "_law_ties" "_law_ties" (defArgs s__law_ties) (defBody s__law_ties) (defScope s__law_ties) .none kV17 dc17 pm17 an17 cd17 ct17), sl17⟩)
    (c17 : PySem.W.codeIn K cd17 "_law_ties" = true)
    (k17 : PySem.W.keepIn K (.ref f17) = true)
    (a18 : PySem.W.nsIn K mainGlobals "_law_bad" = some (some (.ref f18)))
    (l18 : K.lookup f18 = some ⟨oc18, od18, .func (PySem.W.fnOf "_law_bad" "_law_bad" (defArgs s__law_bad) (defBody s__law_bad) (defScope s__law_bad) .none kV18 dc18 pm18 an18 cd18 ct18), sl18⟩)
    (c18 : PySem.W.codeIn K cd18 "_law_bad" = true)
    (k18 : PySem.W.keepIn K (.ref f18) = true)
    (a19 : PySem.W.nsIn K mainGlobals "_law_made" = some (some (.ref f19)))
    (l19 : K.lookup f19 = some ⟨oc19, od19, .func (PySem.W.fnOf "_law_made" "_law_made" (defArgs s__law_made) (defBody s__law_made) (defScope s__law_made) .none kV19 dc19 pm19 an19 cd19 ct19), sl19⟩)
    (c19 : PySem.W.codeIn K cd19 "_law_made" = true)
    (k19 : PySem.W.keepIn K (.ref f19) = true)
    (a20 : PySem.W.nsIn K mainGlobals "_law_fits" = some (some (.ref f20)))
    (l20 : K.lookup f20 = some ⟨oc20, od20, .func (PySem.W.fnOf "_law_fits" "_law_fits" (defArgs s__law_fits) (defBody s__law_fits) (defScope s__law_fits) .none kV20 dc20 pm20 an20 cd20 ct20), sl20⟩)
    (c20 : PySem.W.codeIn K cd20 "_law_fits" = true)
    (k20 : PySem.W.keepIn K (.ref f20) = true)
    (a21 : PySem.W.nsIn K mainGlobals "_law_case" = some (some (.ref f21)))
    (l21 : K.lookup f21 = some ⟨oc21, od21, .func (PySem.W.fnOf "_law_case" "_law_case" (defArgs s__law_case) (defBody s__law_case) (defScope s__law_case) .none kV21 dc21 pm21 an21 cd21 ct21), sl21⟩)
    (c21 : PySem.W.codeIn K cd21 "_law_case" = true)
    (k21 : PySem.W.keepIn K (.ref f21) = true)
    (a22 : PySem.W.nsIn K mainGlobals "_law_says" = some (some (.ref f22)))
    (l22 : K.lookup f22 = some ⟨oc22, od22, .func (PySem.W.fnOf "_law_says" "_law_says" (defArgs s__law_says) (defBody s__law_says) (defScope s__law_says) .none kV22 dc22 pm22 an22 cd22 ct22), sl22⟩)
    (c22 : PySem.W.codeIn K cd22 "_law_says" = true)
    (k22 : PySem.W.keepIn K (.ref f22) = true)
    (a23 : PySem.W.nsIn K mainGlobals "law" = some (some (.ref f23)))
    (l23 : K.lookup f23 = some ⟨oc23, od23, .func (PySem.W.fnOf "law" "law" (defArgs s_law) (defBody s_law) (defScope s_law) .none kV23 dc23 pm23 an23 cd23 ct23), sl23⟩)
    (c23 : PySem.W.codeIn K cd23 "law" = true)
    (k23 : PySem.W.keepIn K (.ref f23) = true)
    (a24 : PySem.W.findIn K (.ref c_BadTie) "__init__" = some (some (.ref f24)))
    (i24 : PySem.W.isFn K (.ref f24) = true)
    (l24 : K.lookup f24 = some ⟨oc24, od24, .func (PySem.W.fnOf "__init__" "BadTie.__init__" (defArgs s_BadTie_init) (defBody s_BadTie_init) (defScope s_BadTie_init) .none kV24 dc24 pm24 an24 cd24 ct24), sl24⟩)
    (c24 : PySem.W.codeIn K cd24 "BadTie.__init__" = true)
    (k24 : PySem.W.keepIn K (.ref f24) = true)
    (z_isinstance : PySem.W.nsIn K mainGlobals "isinstance" = some none)
    (z_int : PySem.W.nsIn K mainGlobals "int" = some none)
    (z_bool : PySem.W.nsIn K mainGlobals "bool" = some none)
    (z_range : PySem.W.nsIn K mainGlobals "range" = some none)
    (z_enumerate : PySem.W.nsIn K mainGlobals "enumerate" = some none)
    (z_list : PySem.W.nsIn K mainGlobals "list" = some none)
    (z_len : PySem.W.nsIn K mainGlobals "len" = some none)
    (z_all : PySem.W.nsIn K mainGlobals "all" = some none)
    (z_ValueError : PySem.W.nsIn K mainGlobals "ValueError" = some none)
    (z_max : PySem.W.nsIn K mainGlobals "max" = some none)
    (z_min : PySem.W.nsIn K mainGlobals "min" = some none)
    (aC_SameError : PySem.W.nsIn K mainGlobals "SameError" = some (some (.ref c_SameError)))
    (aC_BadTie : PySem.W.nsIn K mainGlobals "BadTie" = some (some (.ref c_BadTie)))
    (xL_BadTie : K.lookup c_BadTie = some (excClassObj nm_BadTie q_BadTie c_BadTie nN_BadTie bs_BadTie [.ref c_SameError, .type "ValueError", .type "Exception", .type "BaseException", .type "object"] true sn_BadTie sb_BadTie ab_BadTie co_BadTie dd_BadTie m0_BadTie m1_BadTie m2_BadTie m3_BadTie m5_BadTie "ValueError.__new__"))
    (sa_BadTie : PySem.W.findIn K (.ref c_BadTie) "__setattr__" = some (some (.builtin "object.__setattr__")))
    (eC_BadTie : PySem.W.subIn K (.ref c_BadTie) (.type "BaseException") = some true)
    (tC_BadTie : PySem.W.typeIn K (.ref c_BadTie) = some (.type "type"))
    (kC_BadTie : PySem.W.keepIn K (.ref c_BadTie) = true)
    (no_BadTie : PySem.W.findIn K (.ref c_BadTie) "at" = some none)
    (tf_BadTie : PySem.W.typeIn K (.ref f24) = some (.type "function"))
    (pg_Web : PySem.W.plainGet K c_Web Str.empty = true)
    (hd_Web : PySem.W.hasDictIn K c_Web = true)
    (po_Web : PySem.W.plainOver K c_Web = true)
    (sa_Web : PySem.W.findIn K (.ref c_Web) "__setattr__" = some (some (.builtin "object.__setattr__")))
    (no_Web_points : PySem.W.findIn K (.ref c_Web) "points" = some none)
    (no_Web_knots : PySem.W.findIn K (.ref c_Web) "knots" = some none)
    (no_Web_grid : PySem.W.findIn K (.ref c_Web) "grid" = some none)
    (aC_Web : PySem.W.nsIn K mainGlobals "Web" = some (some (.ref c_Web)))
    (mk_Web : PySem.W.makesIn K c_Web = true)
    (kc_Web : PySem.W.keepIn K (.ref c_Web) = true)
    (aC_Apart : PySem.W.nsIn K mainGlobals "Apart" = some (some (.ref c_Apart)))
    (aC_BadRest : PySem.W.nsIn K mainGlobals "BadRest" = some (some (.ref c_BadRest)))
    (aC_NoPoint : PySem.W.nsIn K mainGlobals "NoPoint" = some (some (.ref c_NoPoint)))
    (ic_BadTie : PySem.W.isClsIn K c_BadTie = true)
    (ga_BadTie : PySem.W.findIn K (.ref c_BadTie) "__getattribute__" = some (some (.builtin "BaseException.__getattribute__")))
    (gg_BadTie : PySem.W.findIn K (.ref c_BadTie) "__getattr__" = some none)
    (ca_BadTie : PySem.W.findIn K (.ref c_BadTie) "__class__" = some (some (.builtin "object.__class__")))
    (mo_BadTie : PySem.W.mroIn K c_BadTie (.type "object") = some true)
    (cg : PySem.W.specialIn K (.builtin "object.__class__") "__get__" = some (some (.builtin "getset_descriptor.__get__")))
    (ck : PySem.W.takesIn K (.builtin "object.__class__") = some true)
    (sub_BadTie_BadTie : PySem.W.subIn K (.ref c_BadTie) (.ref c_BadTie) = some true)
    (ic_SameError : PySem.W.isClsIn K c_SameError = true)
    (tC_SameError : PySem.W.typeIn K (.ref c_SameError) = some (.type "type"))
    (sub_BadTie_SameError : PySem.W.subIn K (.ref c_BadTie) (.ref c_SameError) = some true)
    (sub_SameError_SameError : PySem.W.subIn K (.ref c_SameError) (.ref c_SameError) = some true)
    (subt_BadTie_ValueError : PySem.W.subIn K (.ref c_BadTie) (.type "ValueError") = some true)
    (ic_NoPoint : PySem.W.isClsIn K c_NoPoint = true)
    (tC_NoPoint : PySem.W.typeIn K (.ref c_NoPoint) = some (.type "type"))
    (sub_BadTie_NoPoint : PySem.W.subIn K (.ref c_BadTie) (.ref c_NoPoint) = some false)
    (sub_NoPoint_NoPoint : PySem.W.subIn K (.ref c_NoPoint) (.ref c_NoPoint) = some true)
    (ic_BadRest : PySem.W.isClsIn K c_BadRest = true)
    (tC_BadRest : PySem.W.typeIn K (.ref c_BadRest) = some (.type "type"))
    (sub_BadTie_BadRest : PySem.W.subIn K (.ref c_BadTie) (.ref c_BadRest) = some false)
    (sub_BadRest_BadRest : PySem.W.subIn K (.ref c_BadRest) (.ref c_BadRest) = some true)
    (ic_Apart : PySem.W.isClsIn K c_Apart = true)
    (tC_Apart : PySem.W.typeIn K (.ref c_Apart) = some (.type "type"))
    (sub_BadTie_Apart : PySem.W.subIn K (.ref c_BadTie) (.ref c_Apart) = some false)
    (sub_Apart_Apart : PySem.W.subIn K (.ref c_Apart) (.ref c_Apart) = some true)
    (Ydict : PySem.W.hasDictIn K c_BadTie = true)
    (Yat : PySem.W.findIn K (.ref c_BadTie) "at" = some none) :
    ∃ fd : FuncData, (∀ (s : Shared) (v : Value), BindsTo s fd ⟨[v], []⟩ [("_law_script", v)]) ∧ ∀ base : Heap, K.In base → base.Ns mainGlobals mg → FnOk l.prog w K mg base (L2.CX l.prog w) 7 fa fd ["_law_script"] (lift K spLaw) := by
  have e := hfa.symm.trans (PySem.W.mg_of X G a23)
  cases e
  refine ⟨PySem.W.fnOf "law" "law" (defArgs s_law) (defBody s_law) (defScope s_law) .none kV23 dc23 pm23 an23 cd23 ct23, fun s v => .of_eq rfl, fun base _ _ => ?_⟩
  have F0 := fun_mk (st := s_is_whole) l0 c0 k0
  have F1 := fun_mk (st := s_divides) l1 c1 k1
  have F2 := fun_mk (st := s_agree) l2 c2 k2
  have F3 : FunD K "is_rest" "is_rest" (defArgs s_is_rest) (defBody s_is_rest) (defScope s_is_rest) [] [("most", V.int 1000000)] f3 _ := ⟨⟨_, _, _, _, _, _, _, _, _, _, rfl, l3, c3, .inl ⟨rfl, rfl⟩, .inr ⟨kD3, rfl, fun q hq => by
    simp only [List.mem_cons, List.not_mem_nil, or_false] at hq
    subst hq
    exact ⟨_, q3_0, ⟨_, rfl⟩⟩⟩⟩, k3⟩
  have F4 := fun_mk (st := s_common) l4 c4 k4
  have F5 := fun_mk (st := s_joined) l5 c5 k5
  have F6 := fun_mk (st := s_is_point) l6 c6 k6
  have F7 := fun_mk (st := s_closure) l7 c7 k7
  have F8 := fun_mk (st := s_Web_init) l8 c8 k8
  have F9 := fun_mk (st := s_Web_many) l9 c9 k9
  have F10 := fun_mk (st := s_Web_ties) l10 c10 k10
  have F11 := fun_mk (st := s_Web_len) l11 c11 k11
  have F12 := fun_mk (st := s_Web_fits) l12 c12 k12
  have F13 := fun_mk (st := s__law_box) l13 c13 k13
  have F14 := fun_mk (st := s__law_mixed) l14 c14 k14
  have F15 := fun_mk (st := s__law_take) l15 c15 k15
  have F16 := fun_mk (st := s__law_rest) l16 c16 k16
  have F17 := fun_mk (st := s__law_ties) l17 c17 k17
  have F18 := fun_mk (st := s__law_bad) l18 c18 k18
  have F19 := fun_mk (st := s__law_made) l19 c19 k19
  have F20 := fun_mk (st := s__law_fits) l20 c20 k20
  have F21 := fun_mk (st := s__law_case) l21 c21 k21
  have F22 := fun_mk (st := s__law_says) l22 c22 k22
  have F23 := fun_mk (st := s_law) l23 c23 k23
  have F24 := fun_mk (st := s_BadTie_init) l24 c24 k24
  have M_isinstance : mg "isinstance" = none := PySem.W.mg_none_of X G z_isinstance
  have M_int : mg "int" = none := PySem.W.mg_none_of X G z_int
  have M_bool : mg "bool" = none := PySem.W.mg_none_of X G z_bool
  have O_is_whole : FnOk l.prog w K mg base (L2.CX l.prog w) 1 f0 _ ["thing"] (lift K spWhole) := ok_is_whole F0 M_isinstance M_int M_bool
  have O_divides : FnOk l.prog w K mg base (L2.CX l.prog w) 1 f1 _ ["rest", "number"] (lift K spDivides) := ok_divides F1
  have G_is_whole : GFn l.prog w K mg base "is_whole" 1 spWhole := ⟨f0, _, _, O_is_whole, PySem.W.mg_of X G a0, k0, F0.binds fun _ _ _ _ _ _ us hl => (match us, hl with | [_], _ => rfl), by first | exact pureS_mono | exact specS_mono⟩
  have G_divides : GFn l.prog w K mg base "divides" 1 spDivides := ⟨f1, _, _, O_divides, PySem.W.mg_of X G a1, k1, F1.binds fun _ _ _ _ _ _ us hl => (match us, hl with | [_, _], _ => rfl), by first | exact pureS_mono | exact specS_mono⟩
  have O_agree : FnOk l.prog w K mg base (L2.CX l.prog w) 2 f2 _ ["one", "two", "rest"] (lift K spAgree) := ok_agree F2 G_is_whole G_divides
  have O_is_rest : FnOk l.prog w K mg base (L2.CX l.prog w) 2 f3 _ ["thing", "most"] (lift K spIsRest) := ok_is_rest F3 G_is_whole
  have O_common : FnOk l.prog w K mg base (L2.CX l.prog w) 1 f4 _ ["one", "two"] (lift K spCommon) := ok_common F4
  have G_common : GFn l.prog w K mg base "common" 1 spCommon := ⟨f4, _, _, O_common, PySem.W.mg_of X G a4, k4, F4.binds fun _ _ _ _ _ _ us hl => (match us, hl with | [_, _], _ => rfl), by first | exact pureS_mono | exact specS_mono⟩
  have O_joined : FnOk l.prog w K mg base (L2.CX l.prog w) 2 f5 _ ["one", "two"] (lift K spJoined) := ok_joined F5 G_common
  have O_is_point : FnOk l.prog w K mg base (L2.CX l.prog w) 2 f6 _ ["thing", "many"] (lift K spIsPoint) := ok_is_point F6 G_is_whole
  have G_joined : GFn l.prog w K mg base "joined" 2 spJoined := ⟨f5, _, _, O_joined, PySem.W.mg_of X G a5, k5, F5.binds fun _ _ _ _ _ _ us hl => (match us, hl with | [_, _], _ => rfl), by first | exact pureS_mono | exact specS_mono⟩
  have M_range : mg "range" = none := PySem.W.mg_none_of X G z_range
  have M_enumerate : mg "enumerate" = none := PySem.W.mg_none_of X G z_enumerate
  have O_closure : FnOk l.prog w K mg base (L2.CX l.prog w) 3 f7 _ ["many", "ties"] (lift K spClosure) := ok_closure F7 G_joined G_common M_range M_int M_enumerate
  have G_closure : GFn l.prog w K mg base "closure" 3 spClosure := ⟨f7, _, _, O_closure, PySem.W.mg_of X G a7, k7, F7.binds fun _ _ _ _ _ _ us hl => (match us, hl with | [_, _], _ => rfl), by first | exact pureS_mono | exact specS_mono⟩
  have O_BadTie : OexC K c_BadTie := ⟨⟨_, _, _, _, _, _, _, _, _, _, _, _, _, _, _, xL_BadTie, rfl⟩, sa_BadTie, eC_BadTie, tC_BadTie, kC_BadTie⟩
  have G_BadTie : GXk l.prog w K mg base "BadTie" c_BadTie "at" 1 := ⟨O_BadTie, PySem.W.mg_of X G aC_BadTie, f24, _, _, a24, tf_BadTie, ok_BadTie_init F24 O_BadTie no_BadTie, F24.binds fun _ _ _ _ _ _ us hl => (match us, hl with | [_, _], _ => rfl)⟩
  have G_is_point : GFn l.prog w K mg base "is_point" 2 spIsPoint := ⟨f6, _, _, O_is_point, PySem.W.mg_of X G a6, k6, F6.binds fun _ _ _ _ _ _ us hl => (match us, hl with | [_, _], _ => rfl), by first | exact pureS_mono | exact specS_mono⟩
  obtain ⟨ds_is_rest, dv_is_rest, db_is_rest⟩ := F3.binds0 (ps := ["thing", "most"]) 1 (by simp) rfl fun D doc pm an cdv ct us ks h1 h2 => (match us, ks, h1, h2 with | [_], [_], _, _ => ⟨_, _, _, _, _, _, rfl, rfl, rfl⟩)
  have D_is_rest : GFd l.prog w K mg base "is_rest" 2 [.int 1000000] spIsRest := ⟨f3, _, _, ds_is_rest, _, O_is_rest, PySem.W.mg_of X G a3, k3, db_is_rest, dv_is_rest, fun A H => .cons (.int _) .nil, by first | exact pureS_mono | exact specS_mono⟩
  have T_Web : Kls K c_Web ["points", "knots", "grid"] := ⟨⟨pg_Web, hd_Web, po_Web, sa_Web⟩, fun f hf => by
    simp only [List.mem_cons, List.not_mem_nil, or_false] at hf
    rcases hf with rfl | rfl | rfl <;> assumption⟩
  have M_list : mg "list" = none := PySem.W.mg_none_of X G z_list
  have O_Web_init : FnOk l.prog w K mg base (L2.CX l.prog w) 4 f8 _ ["self", "many", "ties"] (lift K (spWebInit c_BadTie c_Web)) := ok_Web_init F8 G_closure G_BadTie G_is_point D_is_rest T_Web M_enumerate M_list
  have O_Web_many : FnOk l.prog w K mg base (L2.CX l.prog w) 1 f9 _ ["self"] (lift K (spWebMany c_Web)) := ok_Web_many F9 T_Web
  have O_Web_ties : FnOk l.prog w K mg base (L2.CX l.prog w) 1 f10 _ ["self"] (lift K (spWebTies c_Web)) := ok_Web_ties F10 T_Web M_list
  have M_len : mg "len" = none := PySem.W.mg_none_of X G z_len
  have O_Web_len : FnOk l.prog w K mg base (L2.CX l.prog w) 1 f11 _ ["self"] (lift K (spWebLen c_Web)) := ok_Web_len F11 T_Web M_len
  have G_agree_k2_rest : GFk l.prog w K mg base "agree" 2 2 ["rest"] gApp spAgree := ⟨f2, _, _, O_agree, PySem.W.mg_of X G a2, k2, fun_kbn F2 (fun _ _ _ _ _ _ us ws h1 h2 => (match us, ws, h1, h2 with | [_, _], [_], _, _ => rfl)) (fun a b => gApp_rel a b), by first | exact pureS_mono | exact specS_mono⟩
  have M_all : mg "all" = none := PySem.W.mg_none_of X G z_all
  have O_Web_fits : FnOk l.prog w K mg base (L2.CX l.prog w) 3 f12 _ ["self", "case"] (lift K (spWebFits c_Web)) := ok_Web_fits F12 G_agree_k2_rest T_Web M_len M_all
  have O__law_box : FnOk l.prog w K mg base (L2.CX l.prog w) 1 f13 _ ["_law_script"] (lift K spBox) := ok__law_box F13
  have O__law_mixed : FnOk l.prog w K mg base (L2.CX l.prog w) 1 f14 _ ["_law_cell", "_law_k"] (lift K spMixed) := ok__law_mixed F14
  have G__law_mixed : GFn l.prog w K mg base "_law_mixed" 1 spMixed := ⟨f14, _, _, O__law_mixed, PySem.W.mg_of X G a14, k14, F14.binds fun _ _ _ _ _ _ us hl => (match us, hl with | [_, _], _ => rfl), by first | exact pureS_mono | exact specS_mono⟩
  have O__law_take : FnOk l.prog w K mg base (L2.CX l.prog w) 2 f15 _ ["_law_box_here", "_law_size"] (lift K spTake) := ok__law_take F15 G__law_mixed M_len
  have G__law_take : GFn l.prog w K mg base "_law_take" 2 spTake := ⟨f15, _, _, O__law_take, PySem.W.mg_of X G a15, k15, F15.binds fun _ _ _ _ _ _ us hl => (match us, hl with | [_, _], _ => rfl), by first | exact pureS_mono | exact specS_mono⟩
  have O__law_rest : FnOk l.prog w K mg base (L2.CX l.prog w) 3 f16 _ ["_law_box_here"] (lift K spRest) := ok__law_rest F16 G__law_take M_range
  have G__law_rest : GFn l.prog w K mg base "_law_rest" 3 spRest := ⟨f16, _, _, O__law_rest, PySem.W.mg_of X G a16, k16, F16.binds fun _ _ _ _ _ _ us hl => (match us, hl with | [_], _ => rfl), by first | exact pureS_mono | exact specS_mono⟩
  have O__law_ties : FnOk l.prog w K mg base (L2.CX l.prog w) 4 f17 _ ["_law_box_here", "_law_many", "_law_most"] (lift K spTies) := ok__law_ties F17 G__law_take G__law_rest M_range
  have O__law_bad : FnOk l.prog w K mg base (L2.CX l.prog w) 3 f18 _ ["_law_box_here", "_law_many", "_law_tie"] (lift K spBad) := ok__law_bad F18 G__law_take
  have G_Web : GMk l.prog w K mg base "Web" c_Web 4 (spWebInit c_BadTie c_Web) := ⟨f8, _, _, ⟨mk_Web, a8, i8, kc_Web⟩, O_Web_init, PySem.W.mg_of X G aC_Web, F8.binds fun _ _ _ _ _ _ us hl => (match us, hl with | [_, _, _], _ => rfl), by first | exact pureS_mono | exact specS_mono⟩
  have N_BadTie : mg "BadTie" = some (.ref c_BadTie) := PySem.W.mg_of X G aC_BadTie
  have N_SameError : mg "SameError" = some (.ref c_SameError) := PySem.W.mg_of X G aC_SameError
  have N_Apart : mg "Apart" = some (.ref c_Apart) := PySem.W.mg_of X G aC_Apart
  have N_BadRest : mg "BadRest" = some (.ref c_BadRest) := PySem.W.mg_of X G aC_BadRest
  have N_NoPoint : mg "NoPoint" = some (.ref c_NoPoint) := PySem.W.mg_of X G aC_NoPoint
  have I_BadTie : XisC K c_BadTie := ⟨ic_BadTie, ga_BadTie, gg_BadTie, eC_BadTie, ca_BadTie, cg, ck, mo_BadTie⟩
  have Y_exm_BadTie_BadTie : PySem.W.exmOne K (.ref c_BadTie) (.ref c_BadTie) = some true := exm_r eC_BadTie ic_BadTie tC_BadTie sub_BadTie_BadTie
  have Y_kit_BadTie_SameError : PySem.W.kitOne K (.ref c_BadTie) (.ref c_SameError) = some true := kit_r sub_BadTie_SameError sub_SameError_SameError ic_SameError tC_SameError
  have Y_kitt_BadTie_ValueError : PySem.W.kitOne K (.ref c_BadTie) (.type "ValueError") = some true := kit_t subt_BadTie_ValueError (by decide +kernel)
  have Y_kita_BadTie_Apart_BadRest_NoPoint : PySem.W.kitAny K (.ref c_BadTie) [.ref c_Apart, .ref c_BadRest, .ref c_NoPoint] = some false := kit_f (kit_r sub_BadTie_Apart sub_Apart_Apart ic_Apart tC_Apart) (kit_f (kit_r sub_BadTie_BadRest sub_BadRest_BadRest ic_BadRest tC_BadRest) (kit_f (kit_r sub_BadTie_NoPoint sub_NoPoint_NoPoint ic_NoPoint tC_NoPoint) (kit_nil)))
  have M_ValueError : mg "ValueError" = none := PySem.W.mg_none_of X G z_ValueError
  have O__law_made : FnOk l.prog w K mg base (L2.CX l.prog w) 6 f19 _ ["_law_many", "_law_ties_here"] (lift K (spMade c_Web)) := ok__law_made F19 G_Web N_BadTie N_SameError N_Apart N_BadRest N_NoPoint I_BadTie Y_exm_BadTie_BadTie Y_kit_BadTie_SameError Y_kitt_BadTie_ValueError Y_kita_BadTie_Apart_BadRest_NoPoint Ydict Yat M_isinstance M_ValueError
  have O__law_fits : FnOk l.prog w K mg base (L2.CX l.prog w) 1 f20 _ ["_law_many", "_law_ties_here", "_law_case_here"] (lift K spLFits) := ok__law_fits F20 M_len
  have M_max : mg "max" = none := PySem.W.mg_none_of X G z_max
  have M_min : mg "min" = none := PySem.W.mg_none_of X G z_min
  have O__law_case : FnOk l.prog w K mg base (L2.CX l.prog w) 3 f21 _ ["_law_box_here", "_law_many", "_law_ties_here"] (lift K spCase) := ok__law_case F21 G__law_take M_range M_list M_max M_min
  have O__law_says : FnOk l.prog w K mg base (L2.CX l.prog w) 1 f22 _ ["_law_found", "_law_due"] (lift K spSays) := ok__law_says F22 M_isinstance M_bool
  have G__law_box : GFn l.prog w K mg base "_law_box" 1 spBox := ⟨f13, _, _, O__law_box, PySem.W.mg_of X G a13, k13, F13.binds fun _ _ _ _ _ _ us hl => (match us, hl with | [_], _ => rfl), by first | exact pureS_mono | exact specS_mono⟩
  have G__law_made : GFn l.prog w K mg base "_law_made" 6 (spMade c_Web) := ⟨f19, _, _, O__law_made, PySem.W.mg_of X G a19, k19, F19.binds fun _ _ _ _ _ _ us hl => (match us, hl with | [_, _], _ => rfl), by first | exact pureS_mono | exact specS_mono⟩
  have G__law_ties : GFn l.prog w K mg base "_law_ties" 4 spTies := ⟨f17, _, _, O__law_ties, PySem.W.mg_of X G a17, k17, F17.binds fun _ _ _ _ _ _ us hl => (match us, hl with | [_, _, _], _ => rfl), by first | exact pureS_mono | exact specS_mono⟩
  have G_Web_ties : GCm l.prog w K mg base c_Web "ties" 1 (spWebTies c_Web) := ⟨f10, _, _, ⟨pg_Web, hd_Web, po_Web, sa_Web⟩, ⟨a10, i10, k10⟩, O_Web_ties, F10.binds fun _ _ _ _ _ _ us hl => (match us, hl with | [_], _ => rfl), by first | exact pureS_mono | exact specS_mono⟩
  have G__law_case : GFn l.prog w K mg base "_law_case" 3 spCase := ⟨f21, _, _, O__law_case, PySem.W.mg_of X G a21, k21, F21.binds fun _ _ _ _ _ _ us hl => (match us, hl with | [_, _, _], _ => rfl), by first | exact pureS_mono | exact specS_mono⟩
  have G__law_bad : GFn l.prog w K mg base "_law_bad" 3 spBad := ⟨f18, _, _, O__law_bad, PySem.W.mg_of X G a18, k18, F18.binds fun _ _ _ _ _ _ us hl => (match us, hl with | [_, _, _], _ => rfl), by first | exact pureS_mono | exact specS_mono⟩
  have G__law_says : GFn l.prog w K mg base "_law_says" 1 spSays := ⟨f22, _, _, O__law_says, PySem.W.mg_of X G a22, k22, F22.binds fun _ _ _ _ _ _ us hl => (match us, hl with | [_, _], _ => rfl), by first | exact pureS_mono | exact specS_mono⟩
  have G_Web_many : GCm l.prog w K mg base c_Web "many" 1 (spWebMany c_Web) := ⟨f9, _, _, ⟨pg_Web, hd_Web, po_Web, sa_Web⟩, ⟨a9, i9, k9⟩, O_Web_many, F9.binds fun _ _ _ _ _ _ us hl => (match us, hl with | [_], _ => rfl), by first | exact pureS_mono | exact specS_mono⟩
  have G_Web_fits : GCm l.prog w K mg base c_Web "fits" 3 (spWebFits c_Web) := ⟨f12, _, _, ⟨pg_Web, hd_Web, po_Web, sa_Web⟩, ⟨a12, i12, k12⟩, O_Web_fits, F12.binds fun _ _ _ _ _ _ us hl => (match us, hl with | [_, _], _ => rfl), by first | exact pureS_mono | exact specS_mono⟩
  have G__law_fits : GFn l.prog w K mg base "_law_fits" 1 spLFits := ⟨f20, _, _, O__law_fits, PySem.W.mg_of X G a20, k20, F20.binds fun _ _ _ _ _ _ us hl => (match us, hl with | [_, _, _], _ => rfl), by first | exact pureS_mono | exact specS_mono⟩
  have G_Web_len : GCm l.prog w K mg base c_Web "__len__" 1 (spWebLen c_Web) := ⟨f11, _, _, ⟨pg_Web, hd_Web, po_Web, sa_Web⟩, ⟨a11, i11, k11⟩, O_Web_len, F11.binds fun _ _ _ _ _ _ us hl => (match us, hl with | [_], _ => rfl), by first | exact pureS_mono | exact specS_mono⟩
  exact ok_law F23 G__law_box G__law_take G__law_made G__law_ties G_Web_ties G__law_case G__law_bad G__law_says G_Web_many G_Web_fits G__law_fits G_Web_len M_range M_len M_list M_min M_isinstance M_bool
end KK
open PySem PySem.W PyProof.Rows
set_option maxHeartbeats 0 in
theorem PySem.Challenge.cw_samewell_k02_webs_made_holds : PySem.Challenge.rw_samewell_k02_webs_made.Holds := by
  w_on; o_law; k_head; (case hw => w_witness2)
  k_fill
  refine L2.walk_ofB (l := PySem.Challenge.rw_samewell_k02_webs_made) (n := 63) (k := 7) (x := "_law_script") (CX := fun w => L2.CX PySem.Challenge.rw_samewell_k02_webs_made.prog w) (sp := fun w => DL.lift _ DL.spLaw) rfl (by decide) rfl ⟨rfl, by decide, by decide⟩ (fun w h Y => PySem.W.kIn_of Y) ?F (fun _ _ a ns hl hb _ hS => DL.spLaw_start hl hb hS) (fun _ _ _ _ _ h => by obtain ⟨_, _, _, _, _, _, _, _, _, _, _, _, z⟩ := h; exact z)
  case F =>
    intro w mg fa h KX G hmg
    refine' KK.all_mk KX G hmg ?a0 ?l0 ?c0 ?k0 ?a1 ?l1 ?c1 ?k1 ?a2 ?l2 ?c2 ?k2 ?a3 ?q3_0 ?l3 ?c3 ?k3 ?a4 ?l4 ?c4 ?k4 ?a5 ?l5 ?c5 ?k5 ?a6 ?l6 ?c6 ?k6 ?a7 ?l7 ?c7 ?k7 ?a8 ?i8 ?l8 ?c8 ?k8 ?a9 ?i9 ?l9 ?c9 ?k9 ?a10 ?i10 ?l10 ?c10 ?k10 ?a11 ?i11 ?l11 ?c11 ?k11 ?a12 ?i12 ?l12 ?c12 ?k12 ?a13 ?l13 ?c13 ?k13 ?a14 ?l14 ?c14 ?k14 ?a15 ?l15 ?c15 ?k15 ?a16 ?l16 ?c16 ?k16 ?a17 ?l17 ?c17 ?k17 ?a18 ?l18 ?c18 ?k18 ?a19 ?l19 ?c19 ?k19 ?a20 ?l20 ?c20 ?k20 ?a21 ?l21 ?c21 ?k21 ?a22 ?l22 ?c22 ?k22 ?a23 ?l23 ?c23 ?k23 ?a24 ?i24 ?l24 ?c24 ?k24 ?z_isinstance ?z_int ?z_bool ?z_range ?z_enumerate ?z_list ?z_len ?z_all ?z_ValueError ?z_max ?z_min ?aC_SameError ?aC_BadTie ?xL_BadTie ?sa_BadTie ?eC_BadTie ?tC_BadTie ?kC_BadTie ?no_BadTie ?tf_BadTie ?pg_Web ?hd_Web ?po_Web ?sa_Web ?no_Web_points ?no_Web_knots ?no_Web_grid ?aC_Web ?mk_Web ?kc_Web ?aC_Apart ?aC_BadRest ?aC_NoPoint ?ic_BadTie ?ga_BadTie ?gg_BadTie ?ca_BadTie ?mo_BadTie ?cg ?ck ?sub_BadTie_BadTie ?ic_SameError ?tC_SameError ?sub_BadTie_SameError ?sub_SameError_SameError ?subt_BadTie_ValueError ?ic_NoPoint ?tC_NoPoint ?sub_BadTie_NoPoint ?sub_NoPoint_NoPoint ?ic_BadRest ?tC_BadRest ?sub_BadTie_BadRest ?sub_BadRest_BadRest ?ic_Apart ?tC_Apart ?sub_BadTie_Apart ?sub_Apart_Apart ?Ydict ?Yat
    (case aC_SameError => k_is)
    (case aC_BadTie => k_is)
    (case aC_Web => k_is)
    (case aC_Apart => k_is)
    (case aC_BadRest => k_is)
    (case aC_NoPoint => k_is)
    (case a0 => k_is)
    (case a1 => k_is)
    (case a2 => k_is)
    (case a3 => k_is)
    (case a4 => k_is)
    (case a5 => k_is)
    (case a6 => k_is)
    (case a7 => k_is)
    (case a8 => k_is)
    (case a9 => k_is)
    (case a10 => k_is)
    (case a11 => k_is)
    (case a12 => k_is)
    (case a13 => k_is)
    (case a14 => k_is)
    (case a15 => k_is)
    (case a16 => k_is)
    (case a17 => k_is)
    (case a18 => k_is)
    (case a19 => k_is)
    (case a20 => k_is)
    (case a21 => k_is)
    (case a22 => k_is)
    (case a23 => k_is)
    (case a24 => k_is)
    (case l0 => k_is)
    (case l1 => k_is)
    (case l2 => k_is)
    (case l3 => k_is)
    (case l4 => k_is)
    (case l5 => k_is)
    (case l6 => k_is)
    (case l7 => k_is)
    (case l8 => k_is)
    (case l9 => k_is)
    (case l10 => k_is)
    (case l11 => k_is)
    (case l12 => k_is)
    (case l13 => k_is)
    (case l14 => k_is)
    (case l15 => k_is)
    (case l16 => k_is)
    (case l17 => k_is)
    (case l18 => k_is)
    (case l19 => k_is)
    (case l20 => k_is)
    (case l21 => k_is)
    (case l22 => k_is)
    (case l23 => k_is)
    (case l24 => k_is)
    (case xL_BadTie => k_is)
    (case c0 => k_is)
    (case k0 => k_is)
    (case c1 => k_is)
    (case k1 => k_is)
    (case c2 => k_is)
    (case k2 => k_is)
    (case q3_0 => k_is)
    (case c3 => k_is)
    (case k3 => k_is)
    (case c4 => k_is)
    (case k4 => k_is)
    (case c5 => k_is)
    (case k5 => k_is)
    (case c6 => k_is)
    (case k6 => k_is)
    (case c7 => k_is)
    (case k7 => k_is)
    (case i8 => k_is)
    (case c8 => k_is)
    (case k8 => k_is)
    (case i9 => k_is)
    (case c9 => k_is)
    (case k9 => k_is)
    (case i10 => k_is)
    (case c10 => k_is)
    (case k10 => k_is)
    (case i11 => k_is)
    (case c11 => k_is)
    (case k11 => k_is)
    (case i12 => k_is)
    (case c12 => k_is)
    (case k12 => k_is)
    (case c13 => k_is)
    (case k13 => k_is)
    (case c14 => k_is)
    (case k14 => k_is)
    (case c15 => k_is)
    (case k15 => k_is)
    (case c16 => k_is)
    (case k16 => k_is)
    (case c17 => k_is)
    (case k17 => k_is)
    (case c18 => k_is)
    (case k18 => k_is)
    (case c19 => k_is)
    (case k19 => k_is)
    (case c20 => k_is)
    (case k20 => k_is)
    (case c21 => k_is)
    (case k21 => k_is)
    (case c22 => k_is)
    (case k22 => k_is)
    (case c23 => k_is)
    (case k23 => k_is)
    (case i24 => k_is)
    (case c24 => k_is)
    (case k24 => k_is)
    (case z_isinstance => k_is)
    (case z_int => k_is)
    (case z_bool => k_is)
    (case z_range => k_is)
    (case z_enumerate => k_is)
    (case z_list => k_is)
    (case z_len => k_is)
    (case z_all => k_is)
    (case z_ValueError => k_is)
    (case z_max => k_is)
    (case z_min => k_is)
    (case sa_BadTie => k_is)
    (case eC_BadTie => k_is)
    (case tC_BadTie => k_is)
    (case kC_BadTie => k_is)
    (case no_BadTie => k_is)
    (case tf_BadTie => k_is)
    (case pg_Web => k_is)
    (case hd_Web => k_is)
    (case po_Web => k_is)
    (case sa_Web => k_is)
    (case no_Web_points => k_is)
    (case no_Web_knots => k_is)
    (case no_Web_grid => k_is)
    (case mk_Web => k_is)
    (case kc_Web => k_is)
    (case ic_BadTie => k_is)
    (case ga_BadTie => k_is)
    (case gg_BadTie => k_is)
    (case ca_BadTie => k_is)
    (case mo_BadTie => k_is)
    (case cg => k_is)
    (case ck => k_is)
    (case sub_BadTie_BadTie => k_is)
    (case ic_SameError => k_is)
    (case tC_SameError => k_is)
    (case sub_BadTie_SameError => k_is)
    (case sub_SameError_SameError => k_is)
    (case subt_BadTie_ValueError => k_is)
    (case ic_NoPoint => k_is)
    (case tC_NoPoint => k_is)
    (case sub_BadTie_NoPoint => k_is)
    (case sub_NoPoint_NoPoint => k_is)
    (case ic_BadRest => k_is)
    (case tC_BadRest => k_is)
    (case sub_BadTie_BadRest => k_is)
    (case sub_BadRest_BadRest => k_is)
    (case ic_Apart => k_is)
    (case tC_Apart => k_is)
    (case sub_BadTie_Apart => k_is)
    (case sub_Apart_Apart => k_is)
    (case Ydict => k_is)
    (case Yat => k_is)
