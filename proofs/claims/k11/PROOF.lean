import PyProof.Rows.All
import Wide.All
import OpenK.AllK
import Wide.FinOn
import HandS.ForMost
import HandS.ForExc
import HandS.IsInst
import HandS.Wide
import HandS.Defaults
import HandS.EndBits
import HandS.CallSlots
import HandS.MakeKw
import HandS.Flow
import HandS.TupAny
import HandS.Codes
import HandS.OwnEq
import HandS.SlotsOwn
import OpenK.KOps
import HandS.ExcInit
import HandS.ExcField
import KE.KExcIs
import HandS.Conv
import HandS.NoneIn
import HandS.ListItems
import HandS.DictComp
import HandS.Finally
import HandS.TupMul
import HandS.Text
import HandS.Dict
import HandS.Style
import HandS.DictEq
import HandS.More
import KE.KUnpackStar
import PyProof.InstEq
import HandS.FStr
import HandS.Iter
import HandS.Deep
import HandS.Comp
import HandS.Keys
import HandS.SortRule
import HandS.ExcOwn
import PySem.Challenge.RW_samewell_k11_filled_or_none_of_all
set_option Elab.async false
set_option linter.all false
set_option maxRecDepth 100000
set_option maxHeartbeats 2000000
namespace DL
open PySem PySem.Spec PyProof.Rows L2

inductive D where
  | non | bl (b : Bool) | int (i : Int) | str (x : Str) | ty (n : String) | ref (a : Addr)
  | lst (xs : List D) | scr (xs : List D) | tup (xs : List D) | dK (kvs : List (Key × D)) | dT (kvs : List (List Key × D))
  | ins (C : Addr) (fs : List (Str × D)) | exc (a : Addr) (od : Option Addr) (fs : List (Str × D))
inductive MO where
  | lst (xs : List D) | dK (kvs : List (Key × D)) | dT (kvs : List (List Key × D)) | ins (C : Addr) (fs : List (Str × D))
  /-- dicts while a statement walks them -/
  | lkK (ob : Obj) (vs : List (Key × V)) (kvs : List (Key × D)) | lkT (ob : Obj) (vs : List (List Key × V)) (kvs : List (List Key × D))
  /-- anything else that holds ds, in its way -/
  | ext (φ : List V → Heap → Prop) (ds : List D)
abbrev Mu := Addr → Option MO
abbrev Gm := List (Option D)
def updM (μ : Mu) (a : Addr) (o : MO) : Mu := fun b => if b = a then some o else μ b
def delM (μ : Mu) (a : Addr) : Mu := fun b => if b = a then none else μ b
theorem updM_same {μ : Mu} {a : Addr} {o : MO} : updM μ a o a = some o := by unfold updM; rw [if_pos rfl]
theorem updM_ne {μ : Mu} {a b : Addr} {o : MO} (h : b ≠ a) : updM μ a o b = μ b := by unfold updM; rw [if_neg h]
theorem updM_upd {μ : Mu} {a : Addr} {o u : MO} : updM (updM μ a o) a u = updM μ a u := by
  funext b; unfold updM; split <;> rfl
theorem updM_comm {μ : Mu} {a b : Addr} {o u : MO} (h : a ≠ b) : updM (updM μ a o) b u = updM (updM μ b u) a o := by
  funext c; unfold updM; by_cases h1 : c = a <;> by_cases h2 : c = b <;> simp_all
theorem delM_same {μ : Mu} {a : Addr} : delM μ a a = none := by unfold delM; rw [if_pos rfl]
theorem delM_ne {μ : Mu} {a b : Addr} (h : b ≠ a) : delM μ a b = μ b := by unfold delM; rw [if_neg h]
theorem delM_upd {μ : Mu} {a : Addr} {o : MO} (h : μ a = none) : delM (updM μ a o) a = μ := by
  funext b; unfold delM updM; by_cases e : b = a
  · subst e; simp [h]
  · simp [e]
/-- what must not be read as fixed: what may be changed, what others hold -/
def Av (μ : Mu) (Z : Addr → Prop) : Addr → Prop := fun a => μ a ≠ none ∨ Z a

section
variable (K : PySem.W.Frag) (A : Addr → Prop) (H : Hp)
def KwL (a : Addr) (vs : List V) : Prop := ∃ (o : Obj) (its : Array Value) (n : Nat), K.lookup a = some o ∧ o.cls = .type "list" ∧ o.dict = none ∧ o.data = .seq its n ∧ its.size ≤ sizeLine ∧ Vals vs its.toList
def KwT (a : Addr) (vs : List V) : Prop := ∃ (o : Obj) (its : Array Value) (n : Nat), K.lookup a = some o ∧ o.cls = .type "tuple" ∧ o.data = .seq its n ∧ its.size ≤ sizeLine ∧ Vals vs its.toList
def RdL (a : Addr) (vs : List V) : Prop := ¬ A a ∧ Rd H a (.lst vs)
/-- .. or the list that the law is handed -/
def RdS (a : Addr) (vs : List V) : Prop := RdL A H a vs ∨ KwL K a vs
def RdT (a : Addr) (vs : List V) : Prop := (¬ A a ∧ Rd H a (.tup vs)) ∨ KwT K a vs
mutual
inductive Is : V → D → Prop
  | non : Is .non .non
  | bl (b : Bool) : Is (.bl b) (.bl b)
  | int (i : Int) : Is (.int i) (.int i)
  | str (x : Str) : Is (.str x) (.str x)
  | ty (n : String) : Is (.ty n) (.ty n)
  | ref (a : Addr) : Is (.ref a) (.ref a)
  | lst {a : Addr} {vs : List V} {ds : List D} (h : RdL A H a vs) (t : IsA vs ds) : Is (.ref a) (.lst ds)
  | scr {a : Addr} {vs : List V} {ds : List D} (h : RdS K A H a vs) (t : IsA vs ds) : Is (.ref a) (.scr ds)
  | tup {a : Addr} {vs : List V} {ds : List D} (h : RdT K A H a vs) (t : IsA vs ds) : Is (.ref a) (.tup ds)
  | dK {a : Addr} {kvs : List (Key × V)} {kds : List (Key × D)} (n : ¬ A a) (h : H a = some (.dK kvs)) (hk : kvs.map (·.1) = kds.map (·.1)) (t : IsA (kvs.map (·.2)) (kds.map (·.2))) : Is (.ref a) (.dK kds)
  | dT {a : Addr} {kvs : List (List Key × V)} {kds : List (List Key × D)} (n : ¬ A a) (h : H a = some (.dT kvs)) (hk : kvs.map (·.1) = kds.map (·.1)) (t : IsA (kvs.map (·.2)) (kds.map (·.2))) : Is (.ref a) (.dT kds)
  | ins {a C dx : Addr} {fs : List (Str × V)} {gs : List (Str × D)} (n : ¬ A a) (h : H a = some (.ins C dx fs)) (hk : fs.map (·.1) = gs.map (·.1)) (t : IsA (fs.map (·.2)) (gs.map (·.2))) : Is (.ref a) (.ins C gs)
  | exc0 (a : Addr) : Is (.ref a) (.exc a none [])
  | exc {a dx : Addr} {fs : List (Str × V)} {gs : List (Str × D)} (n : ¬ A dx) (h : H dx = some (.xd fs)) (hk : fs.map (·.1) = gs.map (·.1)) (t : IsA (fs.map (·.2)) (gs.map (·.2))) : Is (.ref a) (.exc a (some dx) gs)
inductive IsA : List V → List D → Prop
  | nil : IsA [] []
  | cons {v : V} {d : D} {vs : List V} {ds : List D} (h : Is v d) (t : IsA vs ds) : IsA (v :: vs) (d :: ds)
end
/-- an object that may be changed -/
def MOk (a : Addr) (o : MO) : Prop := match o with
  | .lst ds => ∃ vs, H a = some (.lst vs) ∧ IsA K A H vs ds
  | .dK kds => ∃ kvs, H a = some (.dK kvs) ∧ kvs.map (·.1) = kds.map (·.1) ∧ IsA K A H (kvs.map (·.2)) (kds.map (·.2))
  | .dT kds => ∃ kvs, H a = some (.dT kvs) ∧ kvs.map (·.1) = kds.map (·.1) ∧ IsA K A H (kvs.map (·.2)) (kds.map (·.2))
  | .ins C gs => ∃ dx fs, H a = some (.ins C dx fs) ∧ fs.map (·.1) = gs.map (·.1) ∧ IsA K A H (fs.map (·.2)) (gs.map (·.2))
  | .lkK ob kvs kds => H a = some (.frz ob (.dK kvs)) ∧ kvs.map (·.1) = kds.map (·.1) ∧ IsA K A H (kvs.map (·.2)) (kds.map (·.2))
  | .lkT ob kvs kds => H a = some (.frz ob (.dT kvs)) ∧ kvs.map (·.1) = kds.map (·.1) ∧ IsA K A H (kvs.map (·.2)) (kds.map (·.2))
  | .ext φ ds => ∃ vs, H a = some (.ext (φ vs)) ∧ IsA K A H vs ds
end
/-- what was fixed stays as it was, and fixed -/
def Fz (A : Addr → Prop) (H : Hp) (A' : Addr → Prop) (H' : Hp) : Prop := ∀ a o, H a = some o → ¬ A a → H' a = some o ∧ ¬ A' a
theorem Fz.refl {A : Addr → Prop} {H : Hp} : Fz A H A H := fun _ _ h n => ⟨h, n⟩
theorem Fz.trans {A A1 A2 : Addr → Prop} {H H1 H2 : Hp} (f : Fz A H A1 H1) (g : Fz A1 H1 A2 H2) : Fz A H A2 H2 := fun a o h n => let ⟨h1, n1⟩ := f a o h n; g a o h1 n1
section
variable {K : PySem.W.Frag} {A A' : Addr → Prop} {H H' : Hp}
theorem RdL.mono (f : Fz A H A' H') {a : Addr} {vs : List V} (h : RdL A H a vs) : RdL A' H' a vs := by
  obtain ⟨n, h | ⟨o, h⟩⟩ := h
  · exact ⟨(f _ _ h n).2, .inl (f _ _ h n).1⟩
  · exact ⟨(f _ _ h n).2, .inr ⟨o, (f _ _ h n).1⟩⟩
theorem RdS.mono (f : Fz A H A' H') {a : Addr} {vs : List V} (h : RdS K A H a vs) : RdS K A' H' a vs := h.elim (fun h => .inl (h.mono f)) .inr
theorem RdT.mono (f : Fz A H A' H') {a : Addr} {vs : List V} (h : RdT K A H a vs) : RdT K A' H' a vs := by
  rcases h with ⟨n, h | ⟨o, h⟩⟩ | h
  · exact .inl ⟨(f _ _ h n).2, .inl (f _ _ h n).1⟩
  · exact .inl ⟨(f _ _ h n).2, .inr ⟨o, (f _ _ h n).1⟩⟩
  · exact .inr h
theorem RdL.sq {a : Addr} {vs : List V} (h : RdL A H a vs) : SqL K H a vs := .inl h.2
theorem RdS.sq {a : Addr} {vs : List V} (h : RdS K A H a vs) : SqL K H a vs := by
  rcases h with ⟨_, h⟩ | h
  · exact .inl h
  · exact .inr h
theorem RdT.sq {a : Addr} {vs : List V} (h : RdT K A H a vs) : SqT K H a vs := by
  rcases h with ⟨_, h⟩ | h
  · exact .inl h
  · exact .inr h
mutual
theorem Is.mono (f : Fz A H A' H') : ∀ {v : V} {d : D}, Is K A H v d → Is K A' H' v d
  | _, _, .non => .non
  | _, _, .bl b => .bl b
  | _, _, .int i => .int i
  | _, _, .str x => .str x
  | _, _, .ty n => .ty n
  | _, _, .ref a => .ref a
  | _, _, .lst h t => .lst (h.mono f) (IsA.mono f t)
  | _, _, .scr h t => .scr (h.mono f) (IsA.mono f t)
  | _, _, .tup h t => .tup (h.mono f) (IsA.mono f t)
  | _, _, .dK n h hk t => .dK (f _ _ h n).2 (f _ _ h n).1 hk (IsA.mono f t)
  | _, _, .dT n h hk t => .dT (f _ _ h n).2 (f _ _ h n).1 hk (IsA.mono f t)
  | _, _, .ins n h hk t => .ins (f _ _ h n).2 (f _ _ h n).1 hk (IsA.mono f t)
  | _, _, .exc0 a => .exc0 a
  | _, _, .exc n h hk t => .exc (f _ _ h n).2 (f _ _ h n).1 hk (IsA.mono f t)
theorem IsA.mono (f : Fz A H A' H') : ∀ {vs : List V} {ds : List D}, IsA K A H vs ds → IsA K A' H' vs ds
  | _, _, .nil => .nil
  | _, _, .cons h t => .cons (Is.mono f h) (IsA.mono f t)
end
theorem IsA.length : ∀ {vs : List V} {ds : List D}, IsA K A H vs ds → vs.length = ds.length
  | _, _, .nil => rfl
  | _, _, .cons _ t => congrArg (· + 1) t.length
theorem IsA.get : ∀ {vs : List V} {ds : List D} {i : Nat} {d : D}, IsA K A H vs ds → ds[i]? = some d → ∃ v, vs[i]? = some v ∧ Is K A H v d
  | _, _, _, _, .nil, e => by simp at e
  | _, _, 0, _, .cons h _, e => by simp at e; subst e; exact ⟨_, rfl, h⟩
  | _, _, i + 1, _, .cons _ t, e => by
    obtain ⟨v, h1, h2⟩ := IsA.get (i := i) t (by simpa using e)
    exact ⟨v, by simpa using h1, h2⟩
theorem IsA.getV : ∀ {vs : List V} {ds : List D} {i : Nat} {v : V}, IsA K A H vs ds → vs[i]? = some v → ∃ d, ds[i]? = some d ∧ Is K A H v d
  | _, _, _, _, .nil, e => by simp at e
  | _, _, 0, _, .cons h _, e => by simp at e; subst e; exact ⟨_, rfl, h⟩
  | _, _, i + 1, _, .cons _ t, e => by
    obtain ⟨v, h1, h2⟩ := IsA.getV (i := i) t (by simpa using e)
    exact ⟨v, by simpa using h1, h2⟩
theorem IsA.append : ∀ {vs ws : List V} {ds es : List D}, IsA K A H vs ds → IsA K A H ws es → IsA K A H (vs ++ ws) (ds ++ es)
  | _, _, _, _, .nil, s => s
  | _, _, _, _, .cons h t, s => .cons h (t.append s)
theorem IsA.set {v : V} {d : D} (r : Is K A H v d) : ∀ {vs : List V} {ds : List D} (i : Nat), IsA K A H vs ds → IsA K A H (vs.set i v) (ds.set i d)
  | _, _, _, .nil => .nil
  | _, _, 0, .cons _ t => .cons r t
  | _, _, i + 1, .cons q t => .cons q (t.set r i)
theorem IsA.take : ∀ {vs : List V} {ds : List D} (n : Nat), IsA K A H vs ds → IsA K A H (vs.take n) (ds.take n)
  | _, _, 0, _ => .nil
  | _, _, _ + 1, .nil => .nil
  | _, _, n + 1, .cons r t => .cons r (t.take n)
theorem IsA.drop : ∀ {vs : List V} {ds : List D} (n : Nat), IsA K A H vs ds → IsA K A H (vs.drop n) (ds.drop n)
  | _, _, 0, r => r
  | _, _, _ + 1, .nil => .nil
  | _, _, n + 1, .cons _ t => t.drop n
theorem IsA.eraseIdx : ∀ {vs : List V} {ds : List D} (i : Nat), IsA K A H vs ds → IsA K A H (vs.eraseIdx i) (ds.eraseIdx i)
  | _, _, _, .nil => .nil
  | _, _, 0, .cons _ t => t
  | _, _, i + 1, .cons q t => .cons q (t.eraseIdx i)
theorem IsA.ints : ∀ (ns : List Int), IsA K A H (ns.map V.int) (ns.map D.int)
  | [] => .nil
  | n :: ns => .cons (.int n) (IsA.ints ns)
theorem MOk.mono (f : Fz A H A' H') {a : Addr} {o : MO} (e : H' a = H a) (h : MOk K A H a o) : MOk K A' H' a o := by
  cases o with
  | lst ds => obtain ⟨vs, h1, h2⟩ := h; exact ⟨vs, e.trans h1, h2.mono f⟩
  | dK ds => obtain ⟨vs, h1, h2, h3⟩ := h; exact ⟨vs, e.trans h1, h2, h3.mono f⟩
  | dT ds => obtain ⟨vs, h1, h2, h3⟩ := h; exact ⟨vs, e.trans h1, h2, h3.mono f⟩
  | ins C ds => obtain ⟨dx, vs, h1, h2, h3⟩ := h; exact ⟨dx, vs, e.trans h1, h2, h3.mono f⟩
  | lkK _ _ ds => obtain ⟨h1, h2, h3⟩ := h; exact ⟨e.trans h1, h2, h3.mono f⟩
  | lkT _ _ ds => obtain ⟨h1, h2, h3⟩ := h; exact ⟨e.trans h1, h2, h3.mono f⟩
  | ext φ ds => obtain ⟨vs, h1, h2⟩ := h; exact ⟨vs, e.trans h1, h2.mono f⟩
theorem MOk.some {a : Addr} {o : MO} (h : MOk K A H a o) : ∃ u, H a = some u := by
  cases o with
  | lst ds => obtain ⟨vs, h1, h2⟩ := h; exact ⟨_, h1⟩
  | dK ds => obtain ⟨vs, h1, h2, h3⟩ := h; exact ⟨_, h1⟩
  | dT ds => obtain ⟨vs, h1, h2, h3⟩ := h; exact ⟨_, h1⟩
  | ins C ds => obtain ⟨dx, vs, h1, h2, h3⟩ := h; exact ⟨_, h1⟩
  | lkK _ _ ds => exact ⟨_, h.1⟩
  | lkT _ _ ds => exact ⟨_, h.1⟩
  | ext φ ds => obtain ⟨vs, h1, h2⟩ := h; exact ⟨_, h1⟩
end
def NoTup (o : HO) : Prop := ∀ vs, o ≠ .tup vs
/-- the state: all objects that may be changed stand as μ says; Z: others' objects, not to be touched -/
structure Ok (K : PySem.W.Frag) (μ : Mu) (Z : Addr → Prop) (H : Hp) : Prop where
  at_ : ∀ a o, μ a = some o → MOk K (Av μ Z) H a o
  hid : ∀ a, Z a → μ a = none ∧ ∃ o, H a = some o ∧ NoTup o
/-- a run's end, by its start -/
structure Go (K : PySem.W.Frag) (Z : Addr → Prop) (μ : Mu) (H : Hp) (μ' : Mu) (H' : Hp) : Prop where
  ok : Ok K μ' Z H'
  fz : Fz (Av μ Z) H (Av μ' Z) H'
  zk : ∀ a, Z a → H' a = H a
section
variable {K : PySem.W.Frag} {Z : Addr → Prop} {μ μ1 μ2 : Mu} {H H1 H2 : Hp} {p : Addr}
theorem Go.refl (ok : Ok K μ Z H) : Go K Z μ H μ H := ⟨ok, Fz.refl, fun _ _ => rfl⟩
theorem Go.trans (f : Go K Z μ H μ1 H1) (g : Go K Z μ1 H1 μ2 H2) : Go K Z μ H μ2 H2 := ⟨g.ok, f.fz.trans g.fz, fun a h => (g.zk a h).trans (f.zk a h)⟩
theorem Ok.fresh (ok : Ok K μ Z H) (h : H p = none) : μ p = none ∧ ¬ Z p := by
  refine ⟨?_, fun z => ?_⟩
  · cases q : μ p with
    | none => rfl
    | some o =>
      obtain ⟨u, e⟩ := (ok.at_ p o q).some
      rw [h] at e; cases e
  · obtain ⟨_, o, e, _⟩ := ok.hid p z
    rw [h] at e; cases e
theorem Ok.notAv (ok : Ok K μ Z H) (h : H p = none) : ¬ Av μ Z p := by
  obtain ⟨h1, h2⟩ := ok.fresh h
  rintro (z | z)
  · exact z h1
  · exact h2 z
/-- a new object, fixed from the start -/
theorem Go.frz (ok : Ok K μ Z H) (h : H p = none) (o : HO) : Go K Z μ H μ (upd H p o) := by
  have fz : Fz (Av μ Z) H (Av μ Z) (upd H p o) := fun a u e n => ⟨by rw [upd_ne (ne_of_none e h)]; exact e, n⟩
  obtain ⟨h1, h2⟩ := ok.fresh h
  refine ⟨⟨fun a u e => (ok.at_ a u e).mono fz (upd_ne fun z => ?_), fun a z => ?_⟩, fz, fun a z => upd_ne fun e => ?_⟩
  · subst z; rw [h1] at e; cases e
  · obtain ⟨z1, u, z2, z3⟩ := ok.hid a z
    exact ⟨z1, u, by rw [upd_ne (ne_of_none z2 h)]; exact z2, z3⟩
  · subst e; exact h2 z
/-- what may be changed is written: new, or there already -/
theorem Go.put (ok : Ok K μ Z H) (o : MO) (u : HO) (h : H p = none ∨ ∃ o', μ p = some o')
    (new : (∀ {vs ds}, IsA K (Av μ Z) H vs ds → IsA K (Av (updM μ p o) Z) (upd H p u) vs ds) → MOk K (Av (updM μ p o) Z) (upd H p u) p o) : Go K Z μ H (updM μ p o) (upd H p u) := by
  have nz : ¬ Z p := fun z => by
    rcases h with h | ⟨o', h⟩
    · exact (ok.fresh h).2 z
    · rw [(ok.hid p z).1] at h; cases h
  have np : ∀ a u', H a = some u' → ¬ Av μ Z a → a ≠ p := fun a u' e n z => by
    subst z
    rcases h with h | ⟨o', h⟩
    · rw [h] at e; cases e
    · exact n (.inl (by rw [h]; exact fun z => by cases z))
  have fz : Fz (Av μ Z) H (Av (updM μ p o) Z) (upd H p u) := fun a u' e n => by
    have ne := np a u' e n
    refine ⟨by rw [upd_ne ne]; exact e, ?_⟩
    rintro (z | z)
    · rw [updM_ne ne] at z; exact n (.inl z)
    · exact n (.inr z)
  refine ⟨⟨fun a o' e => ?_, fun a z => ?_⟩, fz, fun a z => upd_ne fun e => ?_⟩
  · by_cases ha : a = p
    · subst ha
      rw [updM_same] at e; cases e
      exact new fun t => t.mono fz
    · rw [updM_ne ha] at e
      exact (ok.at_ a o' e).mono fz (upd_ne ha)
  · have ha : a ≠ p := fun e => by subst e; exact nz z
    obtain ⟨z1, u', z2, z3⟩ := ok.hid a z
    exact ⟨by rw [updM_ne ha]; exact z1, u', by rw [upd_ne ha]; exact z2, z3⟩
  · subst e; exact nz z
/-- what may be changed is fixed from now on -/
theorem Go.fix (ok : Ok K μ Z H) (p : Addr) (h : ∃ o, μ p = some o) : Go K Z μ H (delM μ p) H := by
  have fz : Fz (Av μ Z) H (Av (delM μ p) Z) H := fun a u e n => ⟨e, by
    rintro (z | z)
    · refine n (.inl fun q => z ?_)
      by_cases ha : a = p
      · subst ha; exact delM_same
      · rw [delM_ne ha]; exact q
    · exact n (.inr z)⟩
  refine ⟨⟨fun a o e => ?_, fun a z => ?_⟩, fz, fun _ _ => rfl⟩
  · by_cases ha : a = p
    · subst ha; rw [delM_same] at e; cases e
    · rw [delM_ne ha] at e
      exact (ok.at_ a o e).mono fz rfl
  · obtain ⟨z1, z2⟩ := ok.hid a z
    refine ⟨?_, z2⟩
    by_cases ha : a = p
    · subst ha; exact delM_same
    · rw [delM_ne ha]; exact z1
end
/-- the slots -/
structure En (K : PySem.W.Frag) (A : Addr → Prop) (H : Hp) (σ : L2.St) (Γ : Gm) : Prop where
  len : σ.length = Γ.length
  at_ : ∀ (i : Nat) (d : D), Γ[i]? = some (some d) → ∃ v, σ[i]? = some (some v) ∧ Is K A H v d
section
variable {K : PySem.W.Frag} {A A' : Addr → Prop} {H H' : Hp} {σ : L2.St} {Γ : Gm}
theorem En.mono (f : Fz A H A' H') (h : En K A H σ Γ) : En K A' H' σ Γ := ⟨h.len, fun i d e => let ⟨v, h1, h2⟩ := h.at_ i d e; ⟨v, h1, h2.mono f⟩⟩
theorem En.set (h : En K A H σ Γ) (i : Nat) {v : V} {d : D} (r : Is K A H v d) : En K A H (σ.set i (some v)) (Γ.set i (some d)) := by
  refine ⟨by rw [List.length_set, List.length_set]; exact h.len, fun j e q => ?_⟩
  by_cases hj : i = j
  · subst hj
    by_cases hl : i < Γ.length
    · rw [List.getElem?_set_self hl] at q
      cases q
      exact ⟨v, List.getElem?_set_self (by rw [h.len]; exact hl), r⟩
    · rw [List.getElem?_eq_none (by rw [List.length_set]; omega)] at q; cases q
  · rw [List.getElem?_set_ne hj] at q
    obtain ⟨v', h1, h2⟩ := h.at_ j e q
    exact ⟨v', by rw [List.getElem?_set_ne hj]; exact h1, h2⟩
/-- slots forgotten -/
def Sub (Γ' Γ : Gm) : Prop := Γ'.length = Γ.length ∧ ∀ (i : Nat) (d : D), Γ'[i]? = some (some d) → Γ[i]? = some (some d)
theorem En.sub {Γ' : Gm} (h : En K A H σ Γ) (s : Sub Γ' Γ) : En K A H σ Γ' := ⟨h.len.trans s.1.symm, fun i d e => h.at_ i d (s.2 i d e)⟩
end
end DL

set_option Elab.async false
set_option linter.all false
set_option maxRecDepth 100000
set_option maxHeartbeats 2000000
namespace DL
open PySem PySem.Spec PyProof.Rows L2

section
variable (X : Cx)
def SE (e : Expr) (σ : L2.St) (H : Hp) (Q : VK) : Prop := ∀ pins s, Inv X pins σ H s → wpAny (model X.prog X.w) X.A (eval e X.env) (EP X pins σ Q) X.xe s
def ST (e : Expr) (σ : L2.St) (H : Hp) (Q : Bool → Hp → Prop) : Prop := ∀ pins s, Inv X pins σ H s → wpAny (model X.prog X.w) X.A (isTrue e X.env (eval e X.env)) (TP X pins σ Q) X.xe s
def SW (e : Expr) (σ : L2.St) (H : Hp) (Q : Bool → Hp → Prop) : Prop := ∀ whole pins s, Inv X pins σ H s → wpAny (model X.prog X.w) X.A (isTrue e X.env whole) (TP X pins σ Q) X.xe s
def SA (es : List Expr) (σ : L2.St) (H : Hp) (Q : List V → Hp → Prop) : Prop := ∀ pos pins s, Inv X pins σ H s → wpAny (model X.prog X.w) X.A (spliced (backTo pos (starEach es X.env))) (AP X pins σ Q) X.xe s
def SKw (kws : List Keyword) (σ : L2.St) (H : Hp) (Q : List V → Hp → Prop) : Prop := ∀ pos pins s, Inv X pins σ H s → wpAny (model X.prog X.w) X.A (evalAll ((backToKw pos (keywordEach kws X.env)).map (·.2))) (AP X pins σ Q) X.xe s
def SS (st : Stmt) (E : Ends) (σ : L2.St) (H : Hp) : Prop := ∀ pins s, Inv X pins σ H s → wpAny (model X.prog X.w) X.A (exec st X.env) (SP X pins E) X.xe s
def SB (sts : List Stmt) (E : Ends) (σ : L2.St) (H : Hp) : Prop := ∀ pins s, Inv X pins σ H s → wpAny (model X.prog X.w) X.A (execs sts X.env) (SP X pins E) X.xe s
def SG (tg : Expr) (v : V) (σ : L2.St) (H : Hp) (Q : L2.St → Hp → Prop) : Prop := ∀ pins s u, Inv X pins σ H s → RelV v u → wpAny (model X.prog X.w) X.A (assign tg X.env u) (fun _ s' => ∃ σ' H', Inv X pins σ' H' s' ∧ Q σ' H') X.xe s
def SI (tg iter : Expr) (σ : L2.St) (H : Hp) (R : It → Hp → Prop) : Prop := ∀ pins s, Inv X pins σ H s → wpAny (model X.prog X.w) X.A (eval iter X.env) (fun v s1 => wpAny (model X.prog X.w) X.A (pyIter v) (PIE X pins σ tg R) X.xe s1) X.xe s
end
section
variable {X : Cx} {e tg iter : Expr} {es : List Expr} {st : Stmt} {sts : List Stmt} {σ : L2.St} {H : Hp} {kws : List Keyword}
theorem pe_S : PE X e (SE X e) := ⟨fun _ _ _ _ _ I h => h _ _ I⟩
theorem pt_S : PT X e (ST X e) := ⟨fun _ _ _ _ _ I h => h _ _ I⟩
theorem pw_S : PW X e (SW X e) := ⟨fun _ _ _ _ _ _ I h => h _ _ _ I⟩
theorem pa_S : PA X es (SA X es) := ⟨fun _ _ _ _ _ _ I h => h _ _ _ I⟩
theorem pk_S : PK X kws (SKw X kws) := ⟨fun _ _ _ _ _ _ I h => h _ _ _ I⟩
theorem ps_S : PS X st (SS X st) := ⟨fun _ _ _ _ _ I h => h _ _ I⟩
theorem pss_S : PSs X sts (SB X sts) := ⟨fun _ _ _ _ _ I h => h _ _ I⟩
theorem pg_S : PG X tg (SG X tg) := ⟨fun _ _ _ _ _ _ _ I r h => h _ _ _ I r⟩
theorem pi_S : PI X tg iter (SI X tg iter) := ⟨fun _ _ _ _ _ I h => h _ _ I⟩
theorem toS {t : TE} {Q : VK} (p : PE X e t) (h : t σ H Q) : SE X e σ H Q := fun _ _ I => p.run _ _ _ _ _ I h
theorem toT {t : TT} {Q : Bool → Hp → Prop} (p : PT X e t) (h : t σ H Q) : ST X e σ H Q := fun _ _ I => p.run _ _ _ _ _ I h
theorem toW {t : TT} {Q : Bool → Hp → Prop} (p : PW X e t) (h : t σ H Q) : SW X e σ H Q := fun _ _ _ I => p.run _ _ _ _ _ _ I h
theorem toA {t : TA} {Q : List V → Hp → Prop} (p : PA X es t) (h : t σ H Q) : SA X es σ H Q := fun _ _ _ I => p.run _ _ _ _ _ _ I h
theorem toK {t : TA} {Q : List V → Hp → Prop} (p : PK X kws t) (h : t σ H Q) : SKw X kws σ H Q := fun _ _ _ I => p.run _ _ _ _ _ _ I h
theorem toSS {t : TS} {D : Ends} (p : PS X st t) (h : t D σ H) : SS X st D σ H := fun _ _ I => p.run _ _ _ _ _ I h
theorem toSB {t : TS} {D : Ends} (p : PSs X sts t) (h : t D σ H) : SB X sts D σ H := fun _ _ I => p.run _ _ _ _ _ I h
theorem toG {t : TG} {v : V} {Q : L2.St → Hp → Prop} (p : PG X tg t) (h : t v σ H Q) : SG X tg v σ H Q := fun _ _ _ I r => p.run _ _ _ _ _ _ _ I r h
theorem toI {t : TI} {R : It → Hp → Prop} (p : PI X tg iter t) (h : t σ H R) : SI X tg iter σ H R := fun _ _ I => p.run _ _ _ _ _ I h
theorem SE.mono {Q Q' : VK} (h : SE X e σ H Q) (f : ∀ v H', Q v H' → Q' v H') : SE X e σ H Q' := fun pins s I => thn (h pins s I) fun _ _ ⟨v, H', I', r, q⟩ => ⟨v, H', I', r, f _ _ q⟩
theorem ST.mono {Q Q' : Bool → Hp → Prop} (h : ST X e σ H Q) (f : ∀ b H', Q b H' → Q' b H') : ST X e σ H Q' := fun pins s I => thn (h pins s I) fun _ _ ⟨H', I', q⟩ => ⟨H', I', f _ _ q⟩
theorem SW.mono {Q Q' : Bool → Hp → Prop} (h : SW X e σ H Q) (f : ∀ b H', Q b H' → Q' b H') : SW X e σ H Q' := fun w pins s I => thn (h w pins s I) fun _ _ ⟨H', I', q⟩ => ⟨H', I', f _ _ q⟩
theorem SA.mono {Q Q' : List V → Hp → Prop} (h : SA X es σ H Q) (f : ∀ v H', Q v H' → Q' v H') : SA X es σ H Q' := fun w pins s I => thn (h w pins s I) fun _ _ ⟨v, H', I', r, q⟩ => ⟨v, H', I', r, f _ _ q⟩
theorem SKw.mono {Q Q' : List V → Hp → Prop} (h : SKw X kws σ H Q) (f : ∀ v H', Q v H' → Q' v H') : SKw X kws σ H Q' := fun w pins s I => thn (h w pins s I) fun _ _ ⟨v, H', I', r, q⟩ => ⟨v, H', I', r, f _ _ q⟩
theorem SG.mono {v : V} {Q Q' : L2.St → Hp → Prop} (h : SG X tg v σ H Q) (f : ∀ σ' H', Q σ' H' → Q' σ' H') : SG X tg v σ H Q' := fun pins s u I r => thn (h pins s u I r) fun _ _ ⟨σ', H', I', q⟩ => ⟨σ', H', I', f _ _ q⟩
structure EndsLe (D D' : Ends) : Prop where
  nx : ∀ σ H, D.nx σ H → D'.nx σ H
  rt : ∀ v H, D.rt v H → D'.rt v H
  bk : ∀ σ H, D.bk σ H → D'.bk σ H
  ct : ∀ σ H, D.ct σ H → D'.ct σ H
theorem SP.le {pins : List (Addr × Obj)} {D D' : Ends} (l : EndsLe D D') {f : Flow} {s' : Shared} (h : SP X pins D f s') : SP X pins D' f s' := by
  cases f with
  | next => obtain ⟨σ', H', I, q⟩ := h; exact ⟨σ', H', I, l.nx _ _ q⟩
  | brk => obtain ⟨σ', H', I, q⟩ := h; exact ⟨σ', H', I, l.bk _ _ q⟩
  | cont => obtain ⟨σ', H', I, q⟩ := h; exact ⟨σ', H', I, l.ct _ _ q⟩
  | ret u => obtain ⟨v, σ', H', I, r, q⟩ := h; exact ⟨v, σ', H', I, r, l.rt _ _ q⟩
theorem SS.mono {D D' : Ends} (l : EndsLe D D') (h : SS X st D σ H) : SS X st D' σ H := fun pins s I => thn (h pins s I) fun _ _ q => SP.le l q
theorem SB.mono {D D' : Ends} (l : EndsLe D D') (h : SB X sts D σ H) : SB X sts D' σ H := fun pins s I => thn (h pins s I) fun _ _ q => SP.le l q
end

/-- what leaves a def by an exception: its class, its attributes -/
structure Xd where
  cls : Value
  fld : List (Str × D)
/-- an exception's own dict -/
def XdIs (K : PySem.W.Frag) (A : Addr → Prop) (H : Hp) (od : Option Addr) (x : Xd) : Prop := match od with
  | none => x.fld = []
  | some a => ¬ A a ∧ ∃ fs, H a = some (.xd fs) ∧ fs.map (·.1) = x.fld.map (·.1) ∧ IsA K A H (fs.map (·.2)) (x.fld.map (·.2))
/-- a context, and what may be raised in it -/
structure Cz extends Cx where
  xd : Gm → Mu → Xd → Prop
instance : Coe Cz Cx := ⟨Cz.toCx⟩
structure Kt where
  nx : Gm → Mu → Prop
  rt : Mu → D → Prop
  bk : Gm → Mu → Prop := fun _ _ => False
  ct : Gm → Mu → Prop := fun _ _ => False
section
variable (K : PySem.W.Frag) (Z : Addr → Prop) (μ : Mu) (H : Hp)
def PostE (Q : Mu → D → Prop) : VK := fun v H' => ∃ μ' d, Go K Z μ H μ' H' ∧ Is K (Av μ' Z) H' v d ∧ Q μ' d
def PostT (Q : Mu → Bool → Prop) : Bool → Hp → Prop := fun b H' => ∃ μ', Go K Z μ H μ' H' ∧ Q μ' b
def PostA (Q : Mu → List D → Prop) : List V → Hp → Prop := fun vs H' => ∃ μ' ds, Go K Z μ H μ' H' ∧ IsA K (Av μ' Z) H' vs ds ∧ Q μ' ds
def PostN (N : Gm → Mu → Prop) : L2.St → Hp → Prop := fun σ' H' => ∃ Γ' μ', Go K Z μ H μ' H' ∧ En K (Av μ' Z) H' σ' Γ' ∧ N Γ' μ'
def toD (k : Kt) : Ends := ⟨PostN K Z μ H k.nx, PostE K Z μ H k.rt, PostN K Z μ H k.bk, PostN K Z μ H k.ct⟩
/-- an exception behind a run -/
def PostX (E : Gm → Mu → Xd → Prop) : WX := fun cls od σ' H' => ∃ Γ' μ' x, Go K Z μ H μ' H' ∧ En K (Av μ' Z) H' σ' Γ' ∧ XdIs K (Av μ' Z) H' od x ∧ x.cls = cls ∧ E Γ' μ' x
/-- an iterator's items: ds, as long as G stands -/
def Yields (J : It) (ds : List D) (G : Mu → Prop) : Prop := ∀ (Z' : Addr → Prop) i μ' H', Ok K μ' Z' H' → Fz (Av μ Z) H (Av μ' Z') H' → G μ' →
  (i < ds.length → J.go i H' ∧ ∀ x H2, J.yld i H' x H2 → ∃ d, ds[i]? = some d ∧ Go K Z' μ' H' μ' H2 ∧ Is K (Av μ' Z') H2 x d) ∧ (ds.length ≤ i → J.stop i H')
end
/-- what is raised from here on is taken -/
def Tk (X : Cz) (Z : Addr → Prop) (μ : Mu) (H : Hp) : Prop := Takes X.toCx (PostX X.K Z μ H X.xd)
section
variable (X : Cz)
def WE (e : Expr) (Γ : Gm) (μ : Mu) (Q : Mu → D → Prop) : Prop := ∀ Z σ H, En X.K (Av μ Z) H σ Γ → Ok X.K μ Z H → Tk X Z μ H → SE X e σ H (PostE X.K Z μ H Q)
def WT (e : Expr) (Γ : Gm) (μ : Mu) (Q : Mu → Bool → Prop) : Prop := ∀ Z σ H, En X.K (Av μ Z) H σ Γ → Ok X.K μ Z H → Tk X Z μ H → ST X e σ H (PostT X.K Z μ H Q)
def WW (e : Expr) (Γ : Gm) (μ : Mu) (Q : Mu → Bool → Prop) : Prop := ∀ Z σ H, En X.K (Av μ Z) H σ Γ → Ok X.K μ Z H → Tk X Z μ H → SW X e σ H (PostT X.K Z μ H Q)
def WA (es : List Expr) (Γ : Gm) (μ : Mu) (Q : Mu → List D → Prop) : Prop := ∀ Z σ H, En X.K (Av μ Z) H σ Γ → Ok X.K μ Z H → Tk X Z μ H → SA X es σ H (PostA X.K Z μ H Q)
def WKw (kws : List Keyword) (Γ : Gm) (μ : Mu) (Q : Mu → List D → Prop) : Prop := ∀ Z σ H, En X.K (Av μ Z) H σ Γ → Ok X.K μ Z H → Tk X Z μ H → SKw X kws σ H (PostA X.K Z μ H Q)
def WS (st : Stmt) (Γ : Gm) (μ : Mu) (k : Kt) : Prop := ∀ Z σ H, En X.K (Av μ Z) H σ Γ → Ok X.K μ Z H → Tk X Z μ H → SS X st (toD X.K Z μ H k) σ H
def WB (sts : List Stmt) (Γ : Gm) (μ : Mu) (k : Kt) : Prop := ∀ Z σ H, En X.K (Av μ Z) H σ Γ → Ok X.K μ Z H → Tk X Z μ H → SB X sts (toD X.K Z μ H k) σ H
/-- a target; vs: the slots that it stores -/
def WG (tg : Expr) (vs : List Nat) (d : D) (Γ : Gm) (μ : Mu) (N : Gm → Mu → Prop) : Prop := ∀ Z σ H v, En X.K (Av μ Z) H σ Γ → Ok X.K μ Z H → Tk X Z μ H → Is X.K (Av μ Z) H v d →
  SG X tg v σ H (fun σ' H' => PostN X.K Z μ H N σ' H' ∧ ∀ ws, (∀ i ∈ vs, i ∈ ws) → wipe σ' ws = wipe σ ws)
def WI (tg iter : Expr) (Γ : Gm) (μ : Mu) (R : Mu → List D → (Mu → Prop) → Prop) : Prop := ∀ Z σ H, En X.K (Av μ Z) H σ Γ → Ok X.K μ Z H → Tk X Z μ H →
  SI X tg iter σ H (fun J H1 => ∃ μ1 ds G, Go X.K Z μ H μ1 H1 ∧ Yields X.K Z μ1 H1 J ds G ∧ R μ1 ds G)
end
section
variable {K : PySem.W.Frag} {Z : Addr → Prop} {μ μ' : Mu} {H H' : Hp}
theorem PostE.up {Q : Mu → D → Prop} (g : Go K Z μ H μ' H') {v : V} {H2 : Hp} (h : PostE K Z μ' H' Q v H2) : PostE K Z μ H Q v H2 := let ⟨a, b, c, d, e⟩ := h; ⟨a, b, g.trans c, d, e⟩
theorem PostT.up {Q : Mu → Bool → Prop} (g : Go K Z μ H μ' H') {v : Bool} {H2 : Hp} (h : PostT K Z μ' H' Q v H2) : PostT K Z μ H Q v H2 := let ⟨a, c, e⟩ := h; ⟨a, g.trans c, e⟩
theorem PostN.up {N : Gm → Mu → Prop} (g : Go K Z μ H μ' H') {σ : L2.St} {H2 : Hp} (h : PostN K Z μ' H' N σ H2) : PostN K Z μ H N σ H2 := let ⟨a, b, c, d, e⟩ := h; ⟨a, b, g.trans c, d, e⟩
theorem toD.up {k : Kt} (g : Go K Z μ H μ' H') : EndsLe (toD K Z μ' H' k) (toD K Z μ H k) := ⟨fun _ _ h => PostN.up g h, fun _ _ h => PostE.up g h, fun _ _ h => PostN.up g h, fun _ _ h => PostN.up g h⟩
end
theorem PostX.up {K : PySem.W.Frag} {Z : Addr → Prop} {μ μ' : Mu} {H H' : Hp} {E : Gm → Mu → Xd → Prop} (g : Go K Z μ H μ' H') {cls : Value} {od : Option Addr} {σ : L2.St} {H2 : Hp} (h : PostX K Z μ' H' E cls od σ H2) : PostX K Z μ H E cls od σ H2 := let ⟨a, b, c, d, e⟩ := h; ⟨a, b, c, g.trans d, e⟩
theorem Tk.up {X : Cz} {Z : Addr → Prop} {μ μ' : Mu} {H H' : Hp} (t : Tk X Z μ H) (g : Go X.K Z μ H μ' H') : Tk X Z μ' H' := Takes.imp t fun _ _ _ _ w => PostX.up g w
/-- around a body that lets nothing out -/
theorem Tk.never {X : Cz} {Z : Addr → Prop} {μ : Mu} {H : Hp} (h : ∀ Γ' μ' x, ¬ X.xd Γ' μ' x) : Tk X Z μ H := fun _ _ x => by
  obtain ⟨_, _, _, _, _, _, _, _, _, _, _, _, _, _, _, _, Γ', μ', x, _, _, _, _, z⟩ := x
  exact (h _ _ _ z).elim
section
variable {X : Cz} {Z : Addr → Prop} {Γ : Gm} {μ0 μ : Mu} {H0 H : Hp} {σ : L2.St} {e : Expr}
/-- use of an evaluation within a longer run -/
theorem WE.use {Q : Mu → D → Prop} (h : WE X e Γ μ Q) (g : Go X.K Z μ0 H0 μ H) (en : En X.K (Av μ Z) H σ Γ) (tk : Tk X Z μ0 H0) {R : VK}
    (k : ∀ v H1 μ1 d, Go X.K Z μ0 H0 μ1 H1 → Go X.K Z μ H μ1 H1 → En X.K (Av μ1 Z) H1 σ Γ → Is X.K (Av μ1 Z) H1 v d → Q μ1 d → R v H1) : SE X e σ H R :=
  (h Z σ H en g.ok (tk.up g)).mono fun v H1 ⟨μ1, d, g1, is, q⟩ => k v H1 μ1 d (g.trans g1) g1 (en.mono g1.fz) is q
theorem WT.use {Q : Mu → Bool → Prop} (h : WT X e Γ μ Q) (g : Go X.K Z μ0 H0 μ H) (en : En X.K (Av μ Z) H σ Γ) (tk : Tk X Z μ0 H0) {R : Bool → Hp → Prop}
    (k : ∀ b H1 μ1, Go X.K Z μ0 H0 μ1 H1 → Go X.K Z μ H μ1 H1 → En X.K (Av μ1 Z) H1 σ Γ → Q μ1 b → R b H1) : ST X e σ H R :=
  (h Z σ H en g.ok (tk.up g)).mono fun b H1 ⟨μ1, g1, q⟩ => k b H1 μ1 (g.trans g1) g1 (en.mono g1.fz) q
theorem WW.use {Q : Mu → Bool → Prop} (h : WW X e Γ μ Q) (g : Go X.K Z μ0 H0 μ H) (en : En X.K (Av μ Z) H σ Γ) (tk : Tk X Z μ0 H0) {R : Bool → Hp → Prop}
    (k : ∀ b H1 μ1, Go X.K Z μ0 H0 μ1 H1 → Go X.K Z μ H μ1 H1 → En X.K (Av μ1 Z) H1 σ Γ → Q μ1 b → R b H1) : SW X e σ H R :=
  (h Z σ H en g.ok (tk.up g)).mono fun b H1 ⟨μ1, g1, q⟩ => k b H1 μ1 (g.trans g1) g1 (en.mono g1.fz) q
theorem WA.use {es : List Expr} {Q : Mu → List D → Prop} (h : WA X es Γ μ Q) (g : Go X.K Z μ0 H0 μ H) (en : En X.K (Av μ Z) H σ Γ) (tk : Tk X Z μ0 H0) {R : List V → Hp → Prop}
    (k : ∀ v H1 μ1 d, Go X.K Z μ0 H0 μ1 H1 → Go X.K Z μ H μ1 H1 → En X.K (Av μ1 Z) H1 σ Γ → IsA X.K (Av μ1 Z) H1 v d → Q μ1 d → R v H1) : SA X es σ H R :=
  (h Z σ H en g.ok (tk.up g)).mono fun v H1 ⟨μ1, d, g1, is, q⟩ => k v H1 μ1 d (g.trans g1) g1 (en.mono g1.fz) is q
theorem WKw.use {kws : List Keyword} {Q : Mu → List D → Prop} (h : WKw X kws Γ μ Q) (g : Go X.K Z μ0 H0 μ H) (en : En X.K (Av μ Z) H σ Γ) (tk : Tk X Z μ0 H0) {R : List V → Hp → Prop}
    (k : ∀ v H1 μ1 d, Go X.K Z μ0 H0 μ1 H1 → Go X.K Z μ H μ1 H1 → En X.K (Av μ1 Z) H1 σ Γ → IsA X.K (Av μ1 Z) H1 v d → Q μ1 d → R v H1) : SKw X kws σ H R :=
  (h Z σ H en g.ok (tk.up g)).mono fun v H1 ⟨μ1, d, g1, is, q⟩ => k v H1 μ1 d (g.trans g1) g1 (en.mono g1.fz) is q
theorem WE.mono {Q Q' : Mu → D → Prop} (h : WE X e Γ μ Q) (f : ∀ μ' d, Q μ' d → Q' μ' d) : WE X e Γ μ Q' := fun Z σ H en ok tk => (h Z σ H en ok tk).mono fun v H1 ⟨μ1, d, g1, is, q⟩ => ⟨μ1, d, g1, is, f _ _ q⟩
theorem WT.mono {Q Q' : Mu → Bool → Prop} (h : WT X e Γ μ Q) (f : ∀ μ' d, Q μ' d → Q' μ' d) : WT X e Γ μ Q' := fun Z σ H en ok tk => (h Z σ H en ok tk).mono fun v H1 ⟨μ1, g1, q⟩ => ⟨μ1, g1, f _ _ q⟩
end

def Two (x y : D) (R : Int → Int → Prop) : Prop := ∃ i j, x = .int i ∧ y = .int j ∧ R i j
def One (x : D) (R : Int → Prop) : Prop := ∃ i, x = .int i ∧ R i
def OneB (x : D) (R : Bool → Prop) : Prop := ∃ c, x = .bl c ∧ R c
def Req (C Q : Prop) : Prop := C ∧ Q
theorem two_i {i j : Int} {R : Int → Int → Prop} (h : R i j) : Two (.int i) (.int j) R := ⟨i, j, rfl, rfl, h⟩
theorem one_i {i : Int} {R : Int → Prop} (h : R i) : One (.int i) R := ⟨i, rfl, h⟩
theorem one_b {i : Bool} {R : Bool → Prop} (h : R i) : OneB (.bl i) R := ⟨i, rfl, h⟩
theorem req {C Q : Prop} (c : C) (q : Q) : Req C Q := ⟨c, q⟩
structure Nm (X : Cz) (x : Str) (i : Nat) : Prop where
  ix : X.N[i]? = some x
  vis : Vis X.env.scope x
  d1 : (x == ("__debug__" : Str)) = false
  d2 : (x == ("__classdict__" : Str)) = false
structure Nw (X : Cz) (x : Str) (i : Nat) : Prop extends Nm X x i where
  nd : X.N.Nodup
  loc : Loc X.env.scope x
  fn : X.fn x = true ∨ X.env.scope.names.lookup x = some .local
/-- slot i becomes d -/
inductive SetTo : Gm → Nat → D → Gm → Prop where
  | z {x : Option D} {r : Gm} {d : D} : SetTo (x :: r) 0 d (some d :: r)
  | s {x : Option D} {r r' : Gm} {i : Nat} {d : D} (h : SetTo r i d r') : SetTo (x :: r) (i + 1) d (x :: r')
def SetQ (Γ : Gm) (i : Nat) (d : D) (R : Gm → Prop) : Prop := ∃ Γ', SetTo Γ i d Γ' ∧ R Γ'
theorem setq {Γ Γ' : Gm} {i : Nat} {d : D} {R : Gm → Prop} (s : SetTo Γ i d Γ') (h : R Γ') : SetQ Γ i d R := ⟨Γ', s, h⟩
theorem SetTo.eq {Γ Γ' : Gm} {i : Nat} {d : D} (h : SetTo Γ i d Γ') : Γ' = Γ.set i (some d) := by
  induction h with
  | z => rfl
  | s _ ih => rw [ih]; rfl
section
variable {X : Cz} {Γ Γ' : Gm} {μ : Mu} {a b c e : Expr} {pos : Pos} {Q : Mu → D → Prop}
theorem we_name {x : Str} {i : Nat} {d : D} (n : Nm X x i) (h : Γ[i]? = some (some d)) (q : Q μ d) : WE X (.Name x pos) Γ μ Q := fun Z σ H en ok tk => by
  obtain ⟨v, h1, h2⟩ := en.at_ i d h
  exact toS (pe_var n.ix n.vis n.d1 n.d2) ⟨v, h1, μ, d, Go.refl ok, h2, q⟩
theorem we_pure {v : V} {d : D} (p : PE X e (tC v)) (i : ∀ K A H, Is K A H v d) (q : Q μ d) : WE X e Γ μ Q := fun Z σ H en ok tk => toS p ⟨μ, d, Go.refl ok, i _ _ _, q⟩
theorem we_int {i : Int} {j} (q : Q μ (.int i)) : WE X (.Constant (.int i) j pos) Γ μ Q := we_pure pe_int (fun _ _ _ => .int i) q
theorem we_bl {i : Bool} {j} (q : Q μ (.bl i)) : WE X (.Constant (.bool i) j pos) Γ μ Q := we_pure pe_bl (fun _ _ _ => .bl i) q
theorem we_non {j} (q : Q μ .non) : WE X (.Constant .none j pos) Γ μ Q := we_pure pe_non (fun _ _ _ => .non) q
theorem we_str {i : Str} {j} (q : Q μ (.str i)) : WE X (.Constant (.str i) j pos) Γ μ Q := we_pure pe_str (fun _ _ _ => .str i) q
theorem isInt {K : PySem.W.Frag} {A : Addr → Prop} {H : Hp} {v : V} {i : Int} (h : Is K A H v (.int i)) : v = .int i := by cases h; rfl
theorem isBl {K : PySem.W.Frag} {A : Addr → Prop} {H : Hp} {v : V} {i : Bool} (h : Is K A H v (.bl i)) : v = .bl i := by cases h; rfl
theorem isStr {K : PySem.W.Frag} {A : Addr → Prop} {H : Hp} {v : V} {i : Str} (h : Is K A H v (.str i)) : v = .str i := by cases h; rfl
theorem isNon {K : PySem.W.Frag} {A : Addr → Prop} {H : Hp} {v : V} (h : Is K A H v .non) : v = .non := by cases h; rfl
theorem isRef {K : PySem.W.Frag} {A : Addr → Prop} {H : Hp} {v : V} {a : Addr} (h : Is K A H v (.ref a)) : v = .ref a := by cases h; rfl
theorem we_opI {op : Operator} {C : Int → Int → Prop} {g : Int → Int → Int} (hr : OpR X (binaryOp op) (rI C fun i j => .int (g i j)))
    (h : WE X a Γ μ fun μ1 x => WE X b Γ μ1 fun μ2 y => Two x y fun i j => Req (C i j) (Q μ2 (.int (g i j)))) : WE X (.BinOp a op b pos) Γ μ Q := fun Z σ H en ok tk => by
  refine toS (pe_op hr pe_S pe_S) ?_
  refine h.use (Go.refl ok) en tk fun v H1 μ1 d g1 _ en1 i1 q1 => ?_
  refine q1.use g1 en1 tk fun w H2 μ2 d2 g2 _ en2 i2 q2 => ?_
  obtain ⟨i, j, rfl, rfl, hc, q⟩ := q2
  rw [isInt i1, isInt i2]
  exact ⟨i, j, rfl, rfl, hc, μ2, _, g2, .int _, q⟩
theorem we_opI0 {op : Operator} {g : Int → Int → Int} (hr : OpR X (binaryOp op) (rI0 fun i j => .int (g i j)))
    (h : WE X a Γ μ fun μ1 x => WE X b Γ μ1 fun μ2 y => Two x y fun i j => Q μ2 (.int (g i j))) : WE X (.BinOp a op b pos) Γ μ Q := fun Z σ H en ok tk => by
  refine toS (pe_op hr pe_S pe_S) ?_
  refine h.use (Go.refl ok) en tk fun v H1 μ1 d g1 _ en1 i1 q1 => ?_
  refine q1.use g1 en1 tk fun w H2 μ2 d2 g2 _ en2 i2 q2 => ?_
  obtain ⟨i, j, rfl, rfl, q⟩ := q2
  rw [isInt i1, isInt i2]
  exact ⟨i, j, rfl, rfl, μ2, _, g2, .int _, q⟩
theorem we_add (h : WE X a Γ μ fun μ1 x => WE X b Γ μ1 fun μ2 y => Two x y fun i j => Q μ2 (.int (i + j))) : WE X (.BinOp a .Add b pos) Γ μ Q := we_opI0 op_add h
theorem we_sub (h : WE X a Γ μ fun μ1 x => WE X b Γ μ1 fun μ2 y => Two x y fun i j => Q μ2 (.int (i - j))) : WE X (.BinOp a .Sub b pos) Γ μ Q := we_opI0 op_sub h
/-- a product: one factor within 64 bits, or both together below a million bits -/
def MulOk (i j : Int) : Prop := CMul i j ∨ CMulW i j
theorem MulOk.ok {i j : Int} (h : MulOk i j) : IntMulOk i j := h.elim (·.ok) (·.ok)
theorem MulOk.l {i j : Int} (h1 : -(2 ^ 64) < i) (h2 : i < 2 ^ 64) : MulOk i j := .inl (.inl ⟨h1, h2⟩)
theorem MulOk.r {i j : Int} (h1 : -(2 ^ 64) < j) (h2 : j < 2 ^ 64) : MulOk i j := .inl (.inr ⟨h1, h2⟩)
theorem op_mulX : OpR X (binaryOp .Mult) (rI MulOk fun i j => .int (i * j)) := opI fun _ _ _ _ _ _ _ hc q => mul_int q hc.ok
theorem we_mul (h : WE X a Γ μ fun μ1 x => WE X b Γ μ1 fun μ2 y => Two x y fun i j => Req (MulOk i j) (Q μ2 (.int (i * j)))) : WE X (.BinOp a .Mult b pos) Γ μ Q := we_opI op_mulX h
theorem we_div (h : WE X a Γ μ fun μ1 x => WE X b Γ μ1 fun μ2 y => Two x y fun i j => Req (CDivW i j) (Q μ2 (.int (i / j)))) : WE X (.BinOp a .FloorDiv b pos) Γ μ Q := we_opI op_fdivW h
theorem we_mod (h : WE X a Γ μ fun μ1 x => WE X b Γ μ1 fun μ2 y => Two x y fun i j => Req (0 < j) (Q μ2 (.int (i % j)))) : WE X (.BinOp a .Mod b pos) Γ μ Q := we_opI op_mod h
theorem we_pow (h : WE X a Γ μ fun μ1 x => WE X b Γ μ1 fun μ2 y => Two x y fun i j => Req (CPow i j) (Q μ2 (.int (i ^ j.toNat)))) : WE X (.BinOp a .Pow b pos) Γ μ Q := we_opI op_pow h
theorem we_neg (h : WE X a Γ μ fun μ1 x => One x fun i => Q μ1 (.int (-i))) : WE X (.UnaryOp .USub a pos) Γ μ Q := fun Z σ H en ok tk => by
  refine toS (pe_un un_neg pe_S) ?_
  refine h.use (Go.refl ok) en tk fun v H1 μ1 d g1 _ en1 i1 q1 => ?_
  obtain ⟨i, rfl, q⟩ := q1
  rw [isInt i1]
  exact ⟨i, rfl, μ1, _, g1, .int _, q⟩
theorem we_cmpI {op : CmpOp} {p : Int → Int → Bool} (hr : OpR X (compareOp op) (rI0 fun i j => .bl (p i j))) (hm : behindInMarks op b = false)
    (h : WE X a Γ μ fun μ1 x => WE X b Γ μ1 fun μ2 y => Two x y fun i j => Q μ2 (.bl (p i j))) : WE X (.Compare a [op] [b] pos) Γ μ Q := fun Z σ H en ok tk => by
  refine toS (pe_cmpR hr pe_S pe_S hm) ?_
  refine h.use (Go.refl ok) en tk fun v H1 μ1 d g1 _ en1 i1 q1 => ?_
  refine q1.use g1 en1 tk fun w H2 μ2 d2 g2 _ en2 i2 q2 => ?_
  obtain ⟨i, j, rfl, rfl, q⟩ := q2
  rw [isInt i1, isInt i2]
  exact ⟨i, j, rfl, rfl, μ2, _, g2, .bl _, q⟩
theorem wt_cmpI {op : CmpOp} {p : Int → Int → Bool} {Q : Mu → Bool → Prop} (hr : OpR X (compareOp op) (rI0 fun i j => .bl (p i j))) (hm : behindInMarks op b = false)
    (h : WE X a Γ μ fun μ1 x => WE X b Γ μ1 fun μ2 y => Two x y fun i j => Q μ2 (p i j)) : WT X (.Compare a [op] [b] pos) Γ μ Q := fun Z σ H en ok tk => by
  refine toT (pt_cmpR hr pe_S pe_S hm) ?_
  refine h.use (Go.refl ok) en tk fun v H1 μ1 d g1 _ en1 i1 q1 => ?_
  refine q1.use g1 en1 tk fun w H2 μ2 d2 g2 _ en2 i2 q2 => ?_
  obtain ⟨i, j, rfl, rfl, q⟩ := q2
  rw [isInt i1, isInt i2]
  exact ⟨i, j, rfl, rfl, _, rfl, μ2, g2, q⟩
theorem we_lt (h : WE X a Γ μ fun μ1 x => WE X b Γ μ1 fun μ2 y => Two x y fun i j => Q μ2 (.bl (decide (i < j)))) : WE X (.Compare a [.Lt] [b] pos) Γ μ Q := we_cmpI op_lt (nomark _) h
theorem we_le (h : WE X a Γ μ fun μ1 x => WE X b Γ μ1 fun μ2 y => Two x y fun i j => Q μ2 (.bl (decide (i ≤ j)))) : WE X (.Compare a [.LtE] [b] pos) Γ μ Q := we_cmpI op_le (nomark _) h
theorem we_gt (h : WE X a Γ μ fun μ1 x => WE X b Γ μ1 fun μ2 y => Two x y fun i j => Q μ2 (.bl (decide (j < i)))) : WE X (.Compare a [.Gt] [b] pos) Γ μ Q := we_cmpI op_gt (nomark _) h
theorem we_ge (h : WE X a Γ μ fun μ1 x => WE X b Γ μ1 fun μ2 y => Two x y fun i j => Q μ2 (.bl (decide (j ≤ i)))) : WE X (.Compare a [.GtE] [b] pos) Γ μ Q := we_cmpI op_ge (nomark _) h
/-- == of scalars -/
def eqS : D → D → Option Bool
  | .int i, .int j => some (decide (i = j))
  | .bl i, .bl j => some (decide (i = j))
  | .str i, .str j => some (decide (i = j))
  | .non, .non => some true
  | .non, .int _ => some false
  | .int _, .non => some false
  | .non, .bl _ => some false
  | .bl _, .non => some false
  | .non, .str _ => some false
  | .str _, .non => some false
  | .int _, .str _ => some false
  | .str _, .int _ => some false
  | .bl _, .str _ => some false
  | .str _, .bl _ => some false
  | _, _ => none
def EqQ (x y : D) (R : Bool → Prop) : Prop := ∃ c, eqS x y = some c ∧ R c
theorem eq_i {i j : Int} {R : Bool → Prop} (h : R (decide (i = j))) : EqQ (.int i) (.int j) R := ⟨_, rfl, h⟩
theorem eq_b {i j : Bool} {R : Bool → Prop} (h : R (decide (i = j))) : EqQ (.bl i) (.bl j) R := ⟨_, rfl, h⟩
theorem eq_s {i j : Str} {R : Bool → Prop} (h : R (decide (i = j))) : EqQ (.str i) (.str j) R := ⟨_, rfl, h⟩
theorem eqS_ok {K : PySem.W.Frag} {A : Addr → Prop} {H : Hp} {v w : V} {x y : D} {c : Bool} (hv : Is K A H v x) (hw : Is K A H w y) (h : eqS x y = some c) : scal v w = true ∧ decide (v = w) = c := by
  cases hv <;> cases hw <;> simp [eqS] at h <;> subst h <;> simp [scal]
theorem we_eqS (h : WE X a Γ μ fun μ1 x => WE X b Γ μ1 fun μ2 y => EqQ x y fun c => Q μ2 (.bl c)) : WE X (.Compare a [.Eq] [b] pos) Γ μ Q := fun Z σ H en ok tk => by
  refine toS (pe_cmpR op_eq pe_S pe_S (nomark _)) ?_
  refine h.use (Go.refl ok) en tk fun v H1 μ1 d g1 _ en1 i1 q1 => ?_
  refine q1.use g1 en1 tk fun w H2 μ2 d2 g2 g2' en2 i2 q2 => ?_
  obtain ⟨c, hc, q⟩ := q2
  obtain ⟨h1, h2⟩ := eqS_ok (i1.mono g2'.fz) i2 hc
  exact ⟨h1, μ2, _, g2, by rw [h2]; exact .bl _, q⟩
theorem we_neS (h : WE X a Γ μ fun μ1 x => WE X b Γ μ1 fun μ2 y => EqQ x y fun c => Q μ2 (.bl !c)) : WE X (.Compare a [.NotEq] [b] pos) Γ μ Q := fun Z σ H en ok tk => by
  refine toS (pe_cmpR op_ne pe_S pe_S (nomark _)) ?_
  refine h.use (Go.refl ok) en tk fun v H1 μ1 d g1 _ en1 i1 q1 => ?_
  refine q1.use g1 en1 tk fun w H2 μ2 d2 g2 g2' en2 i2 q2 => ?_
  obtain ⟨c, hc, q⟩ := q2
  obtain ⟨h1, h2⟩ := eqS_ok (i1.mono g2'.fz) i2 hc
  exact ⟨h1, μ2, _, g2, by rw [h2]; exact .bl _, q⟩
/-- x is None -/
def isN : D → Bool
  | .non => true
  | _ => false
theorem isN_ok {K : PySem.W.Frag} {A : Addr → Prop} {H : Hp} {v : V} {x : D} (hv : Is K A H v x) : decide (v = .non) = isN x := by cases hv <;> simp [isN]
theorem we_isN {j p2} (h : WE X a Γ μ fun μ1 x => Q μ1 (.bl (isN x))) : WE X (.Compare a [.Is] [.Constant .none j p2] pos) Γ μ Q := fun Z σ H en ok tk => by
  refine toS (pe_cmp (pc_isN pe_S) (nomark _)) ?_
  refine h.use (Go.refl ok) en tk fun v H1 μ1 d g1 _ en1 i1 q1 => ?_
  exact ⟨μ1, _, g1, by rw [isN_ok i1]; exact .bl _, q1⟩
theorem we_notN {j p2} (h : WE X a Γ μ fun μ1 x => Q μ1 (.bl (!isN x))) : WE X (.Compare a [.IsNot] [.Constant .none j p2] pos) Γ μ Q := fun Z σ H en ok tk => by
  refine toS (pe_cmp (pc_notN pe_S) (nomark _)) ?_
  refine h.use (Go.refl ok) en tk fun v H1 μ1 d g1 _ en1 i1 q1 => ?_
  exact ⟨μ1, _, g1, by rw [isN_ok i1]; exact .bl _, q1⟩
/-- a op b op' c of ints -/
theorem we_chI {op op' : CmpOp} {p p' : Int → Int → Bool} (hr : OpR X (compareOp op) (rI0 fun i j => .bl (p i j))) (hr' : OpR X (compareOp op') (rI0 fun i j => .bl (p' i j))) (hm : lastMarks [op, op'] [b, c] = false)
    (h : WE X a Γ μ fun μ1 x => WE X b Γ μ1 fun μ2 y => Two x y fun i j => (if p i j = true then WE X c Γ μ2 fun μ3 z => One z fun k => Q μ3 (.bl (p' j k)) else Q μ2 (.bl false))) : WE X (.Compare a [op, op'] [b, c] pos) Γ μ Q := fun Z σ H en ok tk => by
  refine toS (pe_chain hr hr' pe_S pe_S pe_S hm) ?_
  refine h.use (Go.refl ok) en tk fun v H1 μ1 d g1 _ en1 i1 q1 => ?_
  refine q1.use g1 en1 tk fun w H2 μ2 d2 g2 _ en2 i2 q2 => ?_
  obtain ⟨i, j, rfl, rfl, q⟩ := q2
  rw [isInt i1, isInt i2]
  refine ⟨i, j, rfl, rfl, p i j, rfl, ?_⟩
  by_cases hc : p i j = true
  · rw [if_pos hc] at q ⊢
    refine q.use g2 en2 tk fun u H3 μ3 d3 g3 _ en3 i3 q3 => ?_
    obtain ⟨k, rfl, q⟩ := q3
    rw [isInt i3]
    exact ⟨j, k, rfl, rfl, μ3, _, g3, .bl _, q⟩
  · rw [if_neg hc] at q ⊢
    exact ⟨μ2, _, g2, .bl _, q⟩
theorem wt_val {Q : Mu → Bool → Prop} (h : WE X e Γ μ fun μ1 x => OneB x fun c => Q μ1 c) (he : ∀ whole, isTrue e X.env whole = (do let v ← whole; standAt e.pos; holding [v] (truthy v)) := by intro _; rfl) : WT X e Γ μ Q := fun Z σ H en ok tk => by
  refine toT (pt_val pe_S he) ?_
  refine h.use (Go.refl ok) en tk fun v H1 μ1 d g1 _ en1 i1 q1 => ?_
  obtain ⟨c, rfl, q⟩ := q1
  rw [isBl i1]
  exact ⟨c, rfl, μ1, g1, q⟩
theorem wt_lt {Q : Mu → Bool → Prop} (h : WE X a Γ μ fun μ1 x => WE X b Γ μ1 fun μ2 y => Two x y fun i j => Q μ2 (decide (i < j))) : WT X (.Compare a [.Lt] [b] pos) Γ μ Q := wt_cmpI op_lt (nomark _) h
theorem wt_le {Q : Mu → Bool → Prop} (h : WE X a Γ μ fun μ1 x => WE X b Γ μ1 fun μ2 y => Two x y fun i j => Q μ2 (decide (i ≤ j))) : WT X (.Compare a [.LtE] [b] pos) Γ μ Q := wt_cmpI op_le (nomark _) h
theorem wt_gt {Q : Mu → Bool → Prop} (h : WE X a Γ μ fun μ1 x => WE X b Γ μ1 fun μ2 y => Two x y fun i j => Q μ2 (decide (j < i))) : WT X (.Compare a [.Gt] [b] pos) Γ μ Q := wt_cmpI op_gt (nomark _) h
theorem wt_ge {Q : Mu → Bool → Prop} (h : WE X a Γ μ fun μ1 x => WE X b Γ μ1 fun μ2 y => Two x y fun i j => Q μ2 (decide (j ≤ i))) : WT X (.Compare a [.GtE] [b] pos) Γ μ Q := wt_cmpI op_ge (nomark _) h
theorem wt_eqS {Q : Mu → Bool → Prop} (h : WE X a Γ μ fun μ1 x => WE X b Γ μ1 fun μ2 y => EqQ x y fun c => Q μ2 c) : WT X (.Compare a [.Eq] [b] pos) Γ μ Q := fun Z σ H en ok tk => by
  refine toT (pt_cmpR op_eq pe_S pe_S (nomark _)) ?_
  refine h.use (Go.refl ok) en tk fun v H1 μ1 d g1 _ en1 i1 q1 => ?_
  refine q1.use g1 en1 tk fun w H2 μ2 d2 g2 g2' en2 i2 q2 => ?_
  obtain ⟨c, hc, q⟩ := q2
  obtain ⟨h1, h2⟩ := eqS_ok (i1.mono g2'.fz) i2 hc
  exact ⟨h1, _, rfl, μ2, g2, by rw [h2]; exact q⟩
theorem wt_neS {Q : Mu → Bool → Prop} (h : WE X a Γ μ fun μ1 x => WE X b Γ μ1 fun μ2 y => EqQ x y fun c => Q μ2 !c) : WT X (.Compare a [.NotEq] [b] pos) Γ μ Q := fun Z σ H en ok tk => by
  refine toT (pt_cmpR op_ne pe_S pe_S (nomark _)) ?_
  refine h.use (Go.refl ok) en tk fun v H1 μ1 d g1 _ en1 i1 q1 => ?_
  refine q1.use g1 en1 tk fun w H2 μ2 d2 g2 g2' en2 i2 q2 => ?_
  obtain ⟨c, hc, q⟩ := q2
  obtain ⟨h1, h2⟩ := eqS_ok (i1.mono g2'.fz) i2 hc
  exact ⟨h1, _, rfl, μ2, g2, by rw [h2]; exact q⟩
theorem wt_isN {j p2} {Q : Mu → Bool → Prop} (h : WE X a Γ μ fun μ1 x => Q μ1 (isN x)) : WT X (.Compare a [.Is] [.Constant .none j p2] pos) Γ μ Q := fun Z σ H en ok tk => by
  refine toT (pt_cmp (pc_isN pe_S) (nomark _)) ?_
  refine h.use (Go.refl ok) en tk fun v H1 μ1 d g1 _ en1 i1 q1 => ?_
  exact ⟨_, rfl, μ1, g1, by rw [isN_ok i1]; exact q1⟩
theorem wt_notN {j p2} {Q : Mu → Bool → Prop} (h : WE X a Γ μ fun μ1 x => Q μ1 (!isN x)) : WT X (.Compare a [.IsNot] [.Constant .none j p2] pos) Γ μ Q := fun Z σ H en ok tk => by
  refine toT (pt_cmp (pc_notN pe_S) (nomark _)) ?_
  refine h.use (Go.refl ok) en tk fun v H1 μ1 d g1 _ en1 i1 q1 => ?_
  exact ⟨_, rfl, μ1, g1, by rw [isN_ok i1]; exact q1⟩
theorem wt_chI {op op' : CmpOp} {p p' : Int → Int → Bool} {Q : Mu → Bool → Prop} (hr : OpR X (compareOp op) (rI0 fun i j => .bl (p i j))) (hr' : OpR X (compareOp op') (rI0 fun i j => .bl (p' i j))) (hm : lastMarks [op, op'] [b, c] = false)
    (h : WE X a Γ μ fun μ1 x => WE X b Γ μ1 fun μ2 y => Two x y fun i j => (if p i j = true then WE X c Γ μ2 fun μ3 z => One z fun k => Q μ3 (p' j k) else Q μ2 false)) : WT X (.Compare a [op, op'] [b, c] pos) Γ μ Q := fun Z σ H en ok tk => by
  refine toT (pt_chain hr hr' pe_S pe_S pe_S hm) ?_
  refine h.use (Go.refl ok) en tk fun v H1 μ1 d g1 _ en1 i1 q1 => ?_
  refine q1.use g1 en1 tk fun w H2 μ2 d2 g2 _ en2 i2 q2 => ?_
  obtain ⟨i, j, rfl, rfl, q⟩ := q2
  rw [isInt i1, isInt i2]
  refine ⟨i, j, rfl, rfl, p i j, rfl, ?_⟩
  by_cases hc : p i j = true
  · rw [if_pos hc] at q ⊢
    refine q.use g2 en2 tk fun u H3 μ3 d3 g3 _ en3 i3 q3 => ?_
    obtain ⟨k, rfl, q⟩ := q3
    rw [isInt i3]
    exact ⟨j, k, rfl, rfl, _, rfl, μ3, g3, q⟩
  · rw [if_neg hc] at q ⊢
    exact ⟨_, rfl, μ2, g2, q⟩
variable {rest : List Expr}
theorem wt_W {Q : Mu → Bool → Prop} (h : WW X e Γ μ Q) : WT X e Γ μ Q := fun Z σ H en ok tk => toT pw_S.pt (h Z σ H en ok tk)
theorem ww_and1 {Q : Mu → Bool → Prop} (h : WT X a Γ μ Q) : WW X (.BoolOp .And [a] pos) Γ μ Q := fun Z σ H en ok tk => toW (pw_and1 pt_S) (h Z σ H en ok tk)
theorem ww_or1 {Q : Mu → Bool → Prop} (h : WT X a Γ μ Q) : WW X (.BoolOp .Or [a] pos) Γ μ Q := fun Z σ H en ok tk => toW (pw_or1 pt_S) (h Z σ H en ok tk)
theorem ww_and {Q : Mu → Bool → Prop} (h : WT X a Γ μ fun μ1 k => if k = true then WW X (.BoolOp .And (b :: rest) pos) Γ μ1 Q else Q μ1 false) : WW X (.BoolOp .And (a :: b :: rest) pos) Γ μ Q := fun Z σ H en ok tk => by
  refine toW (pw_and pt_S pw_S) ?_
  refine h.use (Go.refl ok) en tk fun k H1 μ1 g1 _ en1 q1 => ?_
  cases k with
  | true => exact q1.use g1 en1 tk fun k2 H2 μ2 g2 _ en2 q2 => ⟨μ2, g2, q2⟩
  | false => exact ⟨μ1, g1, q1⟩
theorem ww_or {Q : Mu → Bool → Prop} (h : WT X a Γ μ fun μ1 k => if k = true then Q μ1 true else WW X (.BoolOp .Or (b :: rest) pos) Γ μ1 Q) : WW X (.BoolOp .Or (a :: b :: rest) pos) Γ μ Q := fun Z σ H en ok tk => by
  refine toW (pw_or pt_S pw_S) ?_
  refine h.use (Go.refl ok) en tk fun k H1 μ1 g1 _ en1 q1 => ?_
  cases k with
  | false => exact q1.use g1 en1 tk fun k2 H2 μ2 g2 _ en2 q2 => ⟨μ2, g2, q2⟩
  | true => exact ⟨μ1, g1, q1⟩
theorem wt_not {Q : Mu → Bool → Prop} (h : WT X a Γ μ fun μ1 k => Q μ1 (!k)) : WT X (.UnaryOp .Not a pos) Γ μ Q := fun Z σ H en ok tk => by
  refine toT (pt_not pt_S) ?_
  exact h.use (Go.refl ok) en tk fun k H1 μ1 g1 _ en1 q1 => ⟨μ1, g1, q1⟩
theorem we_one {op} (h : WE X a Γ μ Q) : WE X (.BoolOp op [a] pos) Γ μ Q := fun Z σ H en ok tk => toS (pe_one pe_S) (h Z σ H en ok tk)
theorem we_and (h : WE X a Γ μ fun μ1 x => OneB x fun k => if k = true then WE X (.BoolOp .And (b :: rest) pos) Γ μ1 Q else Q μ1 (.bl false)) : WE X (.BoolOp .And (a :: b :: rest) pos) Γ μ Q := fun Z σ H en ok tk => by
  refine toS (pe_and pe_S pe_S) ?_
  refine h.use (Go.refl ok) en tk fun v H1 μ1 d g1 _ en1 i1 q1 => ?_
  obtain ⟨k, rfl, q⟩ := q1
  rw [isBl i1]
  refine ⟨k, rfl, ?_⟩
  cases k with
  | true => exact q.use g1 en1 tk fun w H2 μ2 d2 g2 _ en2 i2 q2 => ⟨μ2, d2, g2, i2, q2⟩
  | false => exact ⟨μ1, _, g1, .bl _, q⟩
theorem we_or (h : WE X a Γ μ fun μ1 x => OneB x fun k => if k = true then Q μ1 (.bl true) else WE X (.BoolOp .Or (b :: rest) pos) Γ μ1 Q) : WE X (.BoolOp .Or (a :: b :: rest) pos) Γ μ Q := fun Z σ H en ok tk => by
  refine toS (pe_or pe_S pe_S) ?_
  refine h.use (Go.refl ok) en tk fun v H1 μ1 d g1 _ en1 i1 q1 => ?_
  obtain ⟨k, rfl, q⟩ := q1
  rw [isBl i1]
  refine ⟨k, rfl, ?_⟩
  cases k with
  | false => exact q.use g1 en1 tk fun w H2 μ2 d2 g2 _ en2 i2 q2 => ⟨μ2, d2, g2, i2, q2⟩
  | true => exact ⟨μ1, _, g1, .bl _, q⟩
theorem we_not (h : WE X a Γ μ fun μ1 x => OneB x fun k => Q μ1 (.bl (!k))) : WE X (.UnaryOp .Not a pos) Γ μ Q := fun Z σ H en ok tk => by
  refine toS (pe_not pe_S) ?_
  refine h.use (Go.refl ok) en tk fun v H1 μ1 d g1 _ en1 i1 q1 => ?_
  obtain ⟨k, rfl, q⟩ := q1
  rw [isBl i1]
  exact ⟨k, rfl, μ1, _, g1, .bl _, q⟩
theorem we_ifE (h : WT X c Γ μ fun μ1 k => if k = true then WE X a Γ μ1 Q else WE X b Γ μ1 Q) : WE X (.IfExp c a b pos) Γ μ Q := fun Z σ H en ok tk => by
  refine toS (pe_ifExp pt_S pe_S pe_S) ?_
  refine h.use (Go.refl ok) en tk fun k H1 μ1 g1 _ en1 q1 => ?_
  cases k with
  | true => exact q1.use g1 en1 tk fun w H2 μ2 d2 g2 _ en2 i2 q2 => ⟨μ2, d2, g2, i2, q2⟩
  | false => exact q1.use g1 en1 tk fun w H2 μ2 d2 g2 _ en2 i2 q2 => ⟨μ2, d2, g2, i2, q2⟩
end
end DL

set_option Elab.async false
set_option linter.all false
set_option maxRecDepth 100000
set_option maxHeartbeats 2000000
namespace DL
open PySem PySem.Spec PyProof.Rows L2
section
variable {X : Cx} {CX : CXT} {k n : Nat} {f C : Addr} {fd : FuncData} {ps ks : List Str} {sp : Sp} {E : L2.St → XK} {x m : Str} {p pos apos : Pos} {e o : Expr} {es : List Expr} {kws : List Keyword} {ta : TE} {t tk : TA} {g : List Value → List Value → List Value} {gV : List V → List V → List V}
def tCallNS (n m : Nat) (sp : Sp) (gV : List V → List V → List V) (E : L2.St → XK) (t tk : TA) : TE := fun σ H Q => t σ H fun vs H1 => tk σ H1 fun zs H2 => vs.length = n ∧ zs.length = m ∧ sp (gV vs zs) H2 Q (E σ)
theorem run_NS {pins : List (Addr × Obj)} {σ : L2.St} {H : Hp} {s : Shared} {Q : VK} {us ws : List Value} {vs zs : List V} (F : FnOk X.prog X.w X.K X.mg X.base CX k f fd ps sp) (hr : Room k X.A) (hb : KBn X.K fd ps n ks g gV) (hx : PassesAt CX X σ (E σ))
    (I : Inv X pins σ H s) (r : Vals vs us) (rz : Vals zs ws) (l1 : vs.length = n) (l2 : zs.length = ks.length) (h : sp (gV vs zs) H Q (E σ)) : wpAny (model X.prog X.w) X.A (call (.ref f) us (ks.zip ws)) (EP X pins σ Q) X.xe s := by
  have r2 := hb.rel r rz
  refine wpAny_call (codeAny_mono (F.run X.A X.stack s H ⟨us, ks.zip ws⟩ (g us ws) (gV vs zs) Q (E σ) hr I.env0 (hb.to s us ws I.kIn (r.length.symm.trans l1) (rz.length.symm.trans l2)) r2 h) fun r s' hq => ?_)
  cases r with
  | error e => exact hx pins H s e s' I hq
  | ok fl =>
    cases fl with
    | ret u => exact I.after hq
    | next => exact False.elim hq
    | brk => exact False.elim hq
    | cont => exact False.elim hq
theorem pe_callNS (F : FnOk X.prog X.w X.K X.mg X.base CX k f fd ps sp) (hr : Room k X.A) (hg : Gl X x) (hm : X.mg x = some (.ref f)) (hk : PySem.W.keepIn X.K (.ref f) = true) (hb : KBn X.K fd ps n ks g gV) (hx : ∀ σ, PassesAt CX X σ (E σ))
    (ha : PA X (e :: es) t) (hkw : PK X kws tk) (hall : (backToKw pos (keywordEach kws X.env)).all (·.1.isSome) = true) (hks : (backToKw pos (keywordEach kws X.env)).filterMap (·.1) = ks)
    (hdb : (x == ("__debug__" : Str)) = false) (he : starEach (e :: es) X.env = (false, eval e X.env) :: starEach es X.env)
    (hpl : ((backTo pos (starEach (e :: es) X.env)).any (·.1) || (backToKw pos (keywordEach kws X.env)).any (·.1.isNone)) = false) :
    PE X (.Call (.Name x p) (e :: es) kws pos) (tCallNS n ks.length sp gV E t tk) := by
  refine ⟨fun pins s σ H Q I h => ?_⟩
  refine wpAny_Call_Name_kw (ld_glob I hg hm ?_ hdb)
  refine PySem.W.callWith_KW (h₀ := X.base) I.ok.mod.kin hk hall (thn (ha.run pos pins s σ H _ I h) fun us s1 ⟨vs, H1, I1, r, q⟩ => ?_) hpl he
  refine thn (hkw.run pos pins s1 σ H1 _ I1 q) fun ws s2 ⟨zs, H2, I2, rz, l1, l2, q2⟩ => ⟨I2.kIn, ?_⟩
  rw [hks]
  exact run_NS F hr hb (hx σ) I2 r rz l1 l2 q2
theorem pe_callNS0 (F : FnOk X.prog X.w X.K X.mg X.base CX k f fd ps sp) (hr : Room k X.A) (hg : Gl X x) (hm : X.mg x = some (.ref f)) (hk : PySem.W.keepIn X.K (.ref f) = true) (hb : KBn X.K fd ps 0 ks g gV) (hx : ∀ σ, PassesAt CX X σ (E σ))
    (hkw : PK X kws tk) (hall : (backToKw pos (keywordEach kws X.env)).all (·.1.isSome) = true) (hks : (backToKw pos (keywordEach kws X.env)).filterMap (·.1) = ks)
    (hdb : (x == ("__debug__" : Str)) = false)
    (hpl : ((backTo pos (starEach [] X.env)).any (·.1) || (backToKw pos (keywordEach kws X.env)).any (·.1.isNone)) = false) :
    PE X (.Call (.Name x p) [] kws pos) (tCallNS 0 ks.length sp gV E tNil tk) := by
  refine ⟨fun pins s σ H Q I h => ?_⟩
  refine wpAny_Call_Name_kw (ld_glob I hg hm ?_ hdb)
  refine PySem.W.callWith_KW0 (h₀ := X.base) (first := []) I.ok.mod.kin hk hall (thn (hkw.run pos pins s σ H _ I h) fun ws s2 ⟨zs, H2, I2, rz, l1, l2, q2⟩ => ⟨I2.kIn, ?_⟩) hpl
  rw [hks]
  exact run_NS (us := []) (vs := []) F hr hb (hx σ) I2 .nil rz rfl l2 q2
/-- o.m(e, ..), o.m() -/
def tMethS (C : Addr) (m : Str) (sp : Sp) (E : L2.St → XK) (ta : TE) (t : TA) : TE := fun σ H Q => ta σ H fun x H1 => ∃ a dx fs, x = .ref a ∧ H1 a = some (.ins C dx fs) ∧ fs.lookup m = none ∧ t σ H1 fun vs H2 => sp (x :: vs) H2 Q (E σ)
theorem pe_methS {pl : Sem Bool} (he : PE X o ta) (c : Cls X.K C) (hm : Meth X.K C m f) (F : FnOk X.prog X.w X.K X.mg X.base CX k f fd ps sp) (hr : Room k X.A) (hb : Binds X.K fd ps []) (hx : ∀ σ, PassesAt CX X σ (E σ)) (ha : PA X (e :: es) t)
    (hst : starEach (e :: es) X.env = (false, eval e X.env) :: starEach es X.env) (hpl : (backTo pos (starEach es X.env)).any (·.1) = false)
    (ht : eval (.Call (.Attribute o m apos) (e :: es) [] pos) X.env = (do
      let ov ← eval o X.env
      standAt apos.atName
      let (f, first) ← holding [ov] (getMethod ov m pl)
      callWith pos f first (backTo pos (starEach (e :: es) X.env)) (backToKw pos (keywordEach [] X.env)))) :
    PE X (.Call (.Attribute o m apos) (e :: es) [] pos) (tMethS C m sp E ta t) := by
  refine ⟨fun pins s σ H Q I h => ?_⟩
  refine PySem.W.methodCall_KW (pl := pl) (thn (he.run pins s σ H _ I h) fun u s1 ⟨x, H1, I1, rx, a, dx, fs, ex, ea, l, q⟩ => ?_) ht
  subst ex
  obtain rfl : u = Value.ref a := rx
  refine getmeth_ok I1 ea c hm l ?_
  refine PySem.W.callWith_K (first := [.ref a]) (h₀ := X.base) I.ok.mod.kin hm.kp (thn (ha.run pos pins s1 σ H1 _ I1 q) fun us s2 ⟨vs, H2, I2, r, q2⟩ => ⟨I2.kIn, ?_⟩) hst hpl
  exact run_fnSD (us := .ref a :: us) (vs := .ref a :: vs) F hr hb .nil (hx σ) I2 (.cons rfl r) (by rw [List.append_nil]; exact q2)
theorem pe_methS0 {pl : Sem Bool} (he : PE X o ta) (c : Cls X.K C) (hm : Meth X.K C m f) (F : FnOk X.prog X.w X.K X.mg X.base CX k f fd ps sp) (hr : Room k X.A) (hb : Binds X.K fd ps []) (hx : ∀ σ, PassesAt CX X σ (E σ))
    (ht : eval (.Call (.Attribute o m apos) [] [] pos) X.env = (do
      let ov ← eval o X.env
      standAt apos.atName
      let (f, first) ← holding [ov] (getMethod ov m pl)
      callWith pos f first (backTo pos (starEach [] X.env)) (backToKw pos (keywordEach [] X.env)))) :
    PE X (.Call (.Attribute o m apos) [] [] pos) (tMethS C m sp E ta tNil) := by
  refine ⟨fun pins s σ H Q I h => ?_⟩
  refine PySem.W.methodCall_KW (pl := pl) (thn (he.run pins s σ H _ I h) fun u s1 ⟨x, H1, I1, rx, a, dx, fs, ex, ea, l, q⟩ => ?_) ht
  subst ex
  obtain rfl : u = Value.ref a := rx
  refine getmeth_ok I1 ea c hm l ?_
  exact PySem.W.callWith_K0 (first := [.ref a]) I1.kIn hm.kp (run_fnSD (us := [.ref a]) (vs := [.ref a]) F hr hb .nil (hx σ) I1 (.cons rfl .nil) q)
/-- o.m(e, .., k = v, ..), o.m(k = v, ..) -/
def tMethNS (C : Addr) (m : Str) (n l : Nat) (sp : Sp) (gV : List V → List V → List V) (E : L2.St → XK) (ta : TE) (t tk : TA) : TE := fun σ H Q => ta σ H fun x H1 => ∃ a dx fs, x = .ref a ∧ H1 a = some (.ins C dx fs) ∧ fs.lookup m = none ∧
  t σ H1 fun vs H2 => tk σ H2 fun zs H3 => (x :: vs).length = n ∧ zs.length = l ∧ sp (gV (x :: vs) zs) H3 Q (E σ)
theorem pe_methNS0 {pl : Sem Bool} (he : PE X o ta) (c : Cls X.K C) (hm : Meth X.K C m f) (F : FnOk X.prog X.w X.K X.mg X.base CX k f fd ps sp) (hr : Room k X.A) (hb : KBn X.K fd ps n ks g gV) (hx : ∀ σ, PassesAt CX X σ (E σ)) (hkw : PK X kws tk)
    (hall : (backToKw pos (keywordEach kws X.env)).all (·.1.isSome) = true) (hks : (backToKw pos (keywordEach kws X.env)).filterMap (·.1) = ks)
    (hpl : ((backTo pos (starEach [] X.env)).any (·.1) || (backToKw pos (keywordEach kws X.env)).any (·.1.isNone)) = false)
    (ht : eval (.Call (.Attribute o m apos) [] kws pos) X.env = (do
      let ov ← eval o X.env
      standAt apos.atName
      let (f, first) ← holding [ov] (getMethod ov m pl)
      callWith pos f first (backTo pos (starEach [] X.env)) (backToKw pos (keywordEach kws X.env)))) :
    PE X (.Call (.Attribute o m apos) [] kws pos) (tMethNS C m n ks.length sp gV E ta tNil tk) := by
  refine ⟨fun pins s σ H Q I h => ?_⟩
  refine PySem.W.methodCall_KW (pl := pl) (thn (he.run pins s σ H _ I h) fun u s1 ⟨x, H1, I1, rx, a, dx, fs, ex, ea, l, q⟩ => ?_) ht
  subst ex
  obtain rfl : u = Value.ref a := rx
  refine getmeth_ok I1 ea c hm l ?_
  refine PySem.W.callWith_KW0 (first := [.ref a]) (h₀ := X.base) I.ok.mod.kin hm.kp hall (thn (hkw.run pos pins s1 σ H1 _ I1 q) fun ws s2 ⟨zs, H2, I2, rz, l1, l2, q2⟩ => ⟨I2.kIn, ?_⟩) hpl
  rw [hks]
  exact run_NS (us := [.ref a]) (vs := [.ref a]) F hr hb (hx σ) I2 (.cons rfl .nil) rz l1 l2 q2
/-- C(e, ..) -/
def tMakeS (C : Addr) (sp : Sp) (E : L2.St → XK) (t : TA) : TE := fun σ H Q => t σ H fun vs H1 => ∀ x dx, H1 x = none → H1 dx = none → dx ≠ x →
  sp (.ref x :: vs) (upd (upd H1 dx (.own x)) x (.ins C dx [])) (fun v H2 => v = .non ∧ Q (.ref x) H2) (E σ)
theorem run_makeS {pins : List (Addr × Obj)} {σ : L2.St} {H : Hp} {s : Shared} {Q : VK} {us : List Value} {vs : List V} (M : Mk X.K C f) (F : FnOk X.prog X.w X.K X.mg X.base CX k f fd ps sp) (hr : Room (k + 1) X.A) (hb : Binds X.K fd ps [])
    (hx : PassesAt CX X σ (E σ)) (I : Inv X pins σ H s) (r : Vals vs us)
    (h : ∀ x dx, H x = none → H dx = none → dx ≠ x → sp (.ref x :: vs) (upd (upd H dx (.own x)) x (.ins C dx [])) (fun v H2 => v = .non ∧ Q (.ref x) H2) (E σ)) :
    wpAny (model X.prog X.w) X.A (call (.ref C) us) (EP X pins σ Q) X.xe s := by
  have hq := h (s.heap.objs.size + 1) s.heap.objs.size (I.hok.fresh (Nat.le_succ _)) (I.hok.fresh (Nat.le_refl _)) (Nat.ne_of_lt (Nat.lt_succ_self _))
  have I2 := Inv.made (C := C) I
  have r2 : Vals (V.ref (s.heap.objs.size + 1) :: vs) (Value.ref (s.heap.objs.size + 1) :: us) := .cons rfl r
  have hl : (Value.ref (s.heap.objs.size + 1) :: us ++ []).length = ps.length := by
    have e := r2.length
    rw [F.len _ _ _ _ hq] at e
    rw [List.append_nil]
    exact e.symm
  have hbb := hb _ (Value.ref (s.heap.objs.size + 1) :: us) I2.kIn hl
  rw [List.append_nil] at hbb
  refine wpAny_call (make_map (f := f) I.kIn M.makes M.init (beq_iff_eq.mp M.fn) (codeAny_mono (F.run _ X.stack _ _ ⟨Value.ref (s.heap.objs.size + 1) :: us, []⟩ (Value.ref (s.heap.objs.size + 1) :: us) _ _ (E σ) (hr.make C us [])
    (I2.env0.make C us []) hbb r2 hq) fun r s' hq' => ?_))
  cases r with
  | error e => exact hx pins _ _ e s' I2 hq'
  | ok fl =>
    cases fl with
    | ret u =>
      obtain ⟨v, H', I3, rv, ev, q3⟩ := I2.after hq'
      subst ev
      exact ⟨rv, ⟨V.ref (s.heap.objs.size + 1), H', I3, rfl, q3⟩⟩
    | next => exact False.elim hq'
    | brk => exact False.elim hq'
    | cont => exact False.elim hq'
theorem pe_makeS (M : Mk X.K C f) (F : FnOk X.prog X.w X.K X.mg X.base CX k f fd ps sp) (hr : Room (k + 1) X.A) (hg : Gl X x) (hm : X.mg x = some (.ref C)) (hb : Binds X.K fd ps []) (hx : ∀ σ, PassesAt CX X σ (E σ))
    (ha : PA X (e :: es) t) (hdb : (x == ("__debug__" : Str)) = false) (he : starEach (e :: es) X.env = (false, eval e X.env) :: starEach es X.env) (hpl : (backTo pos (starEach es X.env)).any (·.1) = false) :
    PE X (.Call (.Name x p) (e :: es) [] pos) (tMakeS C sp E t) := by
  refine ⟨fun pins s σ H Q I h => ?_⟩
  refine wpAny_Call_Name_kw (ld_glob I hg hm ?_ hdb)
  refine PySem.W.callWith_K (h₀ := X.base) I.ok.mod.kin M.kp (thn (ha.run pos pins s σ H _ I h) fun us s1 ⟨vs, H1, I1, r, q⟩ => ⟨I1.kIn, ?_⟩) he hpl
  exact run_makeS M F hr hb (hx σ) I1 r q
end
end DL

set_option Elab.async false
set_option linter.all false
set_option maxRecDepth 100000
set_option maxHeartbeats 2000000
namespace DL
open PySem PySem.Spec PyProof.Rows L2

section
variable {X : Cz} {Γ Γ' : Gm} {μ : Mu} {a b c e o : Expr} {es : List Expr} {pos p0 : Pos} {Q : Mu → D → Prop}
theorem wa_nil {Q : Mu → List D → Prop} (q : Q μ []) : WA X [] Γ μ Q := fun Z σ H en ok tk => toA pa_nil ⟨μ, [], Go.refl ok, .nil, q⟩
theorem wa_cons {Q : Mu → List D → Prop} (h : WE X e Γ μ fun μ1 x => WA X es Γ μ1 fun μ2 xs => Q μ2 (x :: xs)) (hs : starEach (e :: es) X.env = (false, eval e X.env) :: starEach es X.env := by rfl) : WA X (e :: es) Γ μ Q := fun Z σ H en ok tk => by
  refine toA (pa_cons pe_S pa_S hs) ?_
  refine h.use (Go.refl ok) en tk fun v H1 μ1 d g1 _ en1 i1 q1 => ?_
  refine q1.use g1 en1 tk fun vs H2 μ2 ds g2 g2' en2 i2 q2 => ⟨μ2, _, g2, .cons (i1.mono g2'.fz) i2, q2⟩
theorem wk_nil {Q : Mu → List D → Prop} (q : Q μ []) : WKw X [] Γ μ Q := fun Z σ H en ok tk => toK pk_nil ⟨μ, [], Go.refl ok, .nil, q⟩
theorem wk_cons {kws : List Keyword} {nm : Option Str} {kpos : Pos} {Q : Mu → List D → Prop} (h : WE X e Γ μ fun μ1 x => WKw X kws Γ μ1 fun μ2 xs => Q μ2 (x :: xs)) : WKw X (⟨nm, e, kpos⟩ :: kws) Γ μ Q := fun Z σ H en ok tk => by
  refine toK (pk_cons pe_S pk_S) ?_
  refine h.use (Go.refl ok) en tk fun v H1 μ1 d g1 _ en1 i1 q1 => ?_
  refine q1.use g1 en1 tk fun vs H2 μ2 ds g2 g2' en2 i2 q2 => ⟨μ2, _, g2, .cons (i1.mono g2'.fz) i2, q2⟩
section
variable {K : PySem.W.Frag} {Z : Addr → Prop} {H : Hp}
theorem Is.newL (ok : Ok K μ Z H) {p : Addr} (hp : H p = none) {vs : List V} {ds : List D} (i : IsA K (Av μ Z) H vs ds) : Is K (Av μ Z) (upd H p (.lst vs)) (.ref p) (.lst ds) :=
  .lst ⟨ok.notAv hp, .inl upd_same⟩ (i.mono (Go.frz ok hp _).fz)
theorem Is.newT (ok : Ok K μ Z H) {p : Addr} (hp : H p = none) {vs : List V} {ds : List D} (i : IsA K (Av μ Z) H vs ds) : Is K (Av μ Z) (upd H p (.tup vs)) (.ref p) (.tup ds) :=
  .tup (.inl ⟨ok.notAv hp, .inl upd_same⟩) (i.mono (Go.frz ok hp _).fz)
end
/-- a list that stays as it is | one that may be changed -/
theorem we_lst (h : WA X es Γ μ fun μ1 ds => Req (ds.length ≤ sizeLine) <| Q μ1 (.lst ds)) : WE X (.List es pos) Γ μ Q := fun Z σ H en ok tk => by
  refine toS (pe_lst pa_S) ?_
  refine h.use (Go.refl ok) en tk fun vs H1 μ1 ds g1 _ en1 i1 q1 => ?_
  refine ⟨by rw [i1.length]; exact q1.1, fun p hp => ⟨μ1, _, g1.trans (Go.frz g1.ok hp _), Is.newL g1.ok hp i1, q1.2⟩⟩
theorem we_lstM (h : WA X es Γ μ fun μ1 ds => Req (ds.length ≤ sizeLine) <| ∀ p, μ1 p = none → Q (updM μ1 p (.lst ds)) (.ref p)) : WE X (.List es pos) Γ μ Q := fun Z σ H en ok tk => by
  refine toS (pe_lst pa_S) ?_
  refine h.use (Go.refl ok) en tk fun vs H1 μ1 ds g1 _ en1 i1 q1 => ?_
  refine ⟨by rw [i1.length]; exact q1.1, fun p hp => ⟨_, _, g1.trans (Go.put g1.ok (.lst ds) _ (.inl hp) fun m => ⟨vs, upd_same, m i1⟩), .ref p, q1.2 p (g1.ok.fresh hp).1⟩⟩
theorem we_tup {x1} (h : WA X es Γ μ fun μ1 ds => Req (ds.length ≤ sizeLine) <| Q μ1 (.tup ds)) : WE X (.Tuple es x1 pos) Γ μ Q := fun Z σ H en ok tk => by
  refine toS (pe_tup pa_S) ?_
  refine h.use (Go.refl ok) en tk fun vs H1 μ1 ds g1 _ en1 i1 q1 => ?_
  refine ⟨by rw [i1.length]; exact q1.1, fun p hp => ⟨μ1, _, g1.trans (Go.frz g1.ok hp _), Is.newT g1.ok hp i1, q1.2⟩⟩
/-- a list or tuple to be read -/
def Seq (μ : Mu) (x : D) (ds : List D) : Prop := x = .lst ds ∨ x = .tup ds ∨ ∃ p, x = .ref p ∧ μ p = some (.lst ds)
theorem Seq.l {ds : List D} : Seq μ (.lst ds) ds := .inl rfl
theorem Seq.t {ds : List D} : Seq μ (.tup ds) ds := .inr (.inl rfl)
theorem Seq.m {ds : List D} {p : Addr} (h : μ p = some (.lst ds)) : Seq μ (.ref p) ds := .inr (.inr ⟨p, rfl, h⟩)
section
variable {K : PySem.W.Frag} {Z : Addr → Prop} {H : Hp} {v : V} {x : D} {ds : List D}
theorem Seq.at (s : Seq μ x ds) (ok : Ok K μ Z H) (h : Is K (Av μ Z) H v x) : ∃ p vs, v = .ref p ∧ (SqL K H p vs ∨ SqT K H p vs) ∧ IsA K (Av μ Z) H vs ds := by
  rcases s with rfl | rfl | ⟨p, rfl, e⟩
  · cases h with
    | lst h t => exact ⟨_, _, rfl, .inl h.sq, t⟩
  · cases h with
    | tup h t => exact ⟨_, _, rfl, .inr h.sq, t⟩
  · cases isRef h
    obtain ⟨vs, e1, t⟩ := ok.at_ p _ e
    exact ⟨p, vs, rfl, .inl (.of e1), t⟩
theorem atI_is {A : Addr → Prop} {vs : List V} {i : Int} {d : D} (t : IsA K A H vs ds) (h : atI ds i = some d) : ∃ v, atI vs i = some v ∧ Is K A H v d := by
  unfold atI at h ⊢
  rw [t.length]
  cases e : ixN ds.length i with
  | none => rw [e] at h; cases h
  | some j =>
    rw [e] at h
    exact t.get h
end
def SeqQ (μ : Mu) (x : D) (R : List D → Prop) : Prop := ∃ ds, Seq μ x ds ∧ R ds
def IxQ (μ : Mu) (x y : D) (R : D → Prop) : Prop := ∃ ds i d, Seq μ x ds ∧ y = .int i ∧ atI ds i = some d ∧ R d
theorem seq_l {ds : List D} {R : List D → Prop} (h : R ds) : SeqQ μ (.lst ds) R := ⟨ds, .l, h⟩
theorem seq_t {ds : List D} {R : List D → Prop} (h : R ds) : SeqQ μ (.tup ds) R := ⟨ds, .t, h⟩
theorem seq_m {p : Addr} {ds : List D} {R : List D → Prop} (e : μ p = some (.lst ds)) (h : R ds) : SeqQ μ (.ref p) R := ⟨ds, .m e, h⟩
theorem ix_l {ds : List D} {i : Int} {d : D} {R : D → Prop} (e : atI ds i = some d) (h : R d) : IxQ μ (.lst ds) (.int i) R := ⟨ds, i, d, .l, rfl, e, h⟩
theorem ix_t {ds : List D} {i : Int} {d : D} {R : D → Prop} (e : atI ds i = some d) (h : R d) : IxQ μ (.tup ds) (.int i) R := ⟨ds, i, d, .t, rfl, e, h⟩
theorem ix_m {p : Addr} {ds : List D} {i : Int} {d : D} {R : D → Prop} (m : μ p = some (.lst ds)) (e : atI ds i = some d) (h : R d) : IxQ μ (.ref p) (.int i) R := ⟨ds, i, d, .m m, rfl, e, h⟩
theorem we_ix (h : WE X a Γ μ fun μ1 x => WE X b Γ μ1 fun μ2 y => IxQ μ2 x y fun d => Q μ2 d) (hp : PlainIx b := by intro _ _; rfl) : WE X (.Subscript a b pos) Γ μ Q := fun Z σ H en ok tk => by
  refine toS (pe_ix (IxR.or ix_list ix_tup) pe_S pe_S hp) ?_
  refine h.use (Go.refl ok) en tk fun v H1 μ1 d g1 _ en1 i1 q1 => ?_
  refine q1.use g1 en1 tk fun w H2 μ2 d2 g2 g2' en2 i2 q2 => ?_
  obtain ⟨ds, i, d, sq, rfl, ha, q⟩ := q2
  obtain ⟨p, vs, rfl, s, t⟩ := sq.at g2.ok (i1.mono g2'.fz)
  obtain ⟨u, hu, iu⟩ := atI_is t ha
  rw [isInt i2]
  rcases s with s | s
  · exact .inl ⟨p, vs, i, u, rfl, rfl, s, hu, μ2, d, g2, iu, q⟩
  · exact .inr ⟨p, vs, i, u, rfl, rfl, s, hu, μ2, d, g2, iu, q⟩
theorem atI_n {α : Type} {xs : List α} {i : Int} {v : α} (h0 : 0 ≤ i) (h : xs[i.toNat]? = some v) : atI xs i = some v := by
  have e : i = (i.toNat : Int) := by omega
  rw [e]
  exact atI_nat h
abbrev Spc := List D → Mu → (Mu → D → Prop) → (Mu → Xd → Prop) → Prop
def lift (K : PySem.W.Frag) (s : Spc) : Sp := fun vs H Q E => ∃ ds μ Z, IsA K (Av μ Z) H vs ds ∧ Ok K μ Z H ∧
  s ds μ (fun μ' d => ∀ v H', Go K Z μ H μ' H' → Is K (Av μ' Z) H' v d → Q v H') (fun μ' x => ∀ od H', Go K Z μ H μ' H' → XdIs K (Av μ' Z) H' od x → E x.cls od H')
/-- a def that lets nothing out, by its name -/
def Spc.Mono (s : Spc) : Prop := ∀ ds μ Q E Q' E', (∀ μ' d, Q μ' d → Q' μ' d) → (∀ μ' x, E μ' x → E' μ' x) → s ds μ Q E → s ds μ Q' E'
structure Cl (X : Cz) (x : Str) (s : Spc) : Prop where
  mono : s.Mono
  ex : ∃ k f fd ps, FnOk X.prog X.w X.K X.mg X.base (L2.CX X.prog X.w) k f fd ps (lift X.K s) ∧ Room k X.A ∧ X.mg x = some (.ref f) ∧ PySem.W.keepIn X.K (.ref f) = true ∧ Binds X.K fd ps []
  gl : Gl X x
  db : (x == ("__debug__" : Str)) = false
theorem lift_of {s : Spc} {Z : Addr → Prop} {μ0 : Mu} {H0 H : Hp} {σ : L2.St} {vs : List V} {ds : List D} (m : s.Mono) (g : Go X.K Z μ0 H0 μ H) (en : En X.K (Av μ Z) H σ Γ) (i : IsA X.K (Av μ Z) H vs ds) (h : s ds μ Q (X.xd Γ)) : lift X.K s vs H (PostE X.K Z μ0 H0 Q) (L2.WE (PostX X.K Z μ0 H0 X.xd) σ) := by
  refine ⟨ds, μ, Z, i, g.ok, m _ _ _ _ _ _ (fun μ' d q => ?_) (fun μ' x z => ?_) h⟩
  · exact fun v H' g' is => ⟨μ', d, g.trans g', is, q⟩
  · exact fun od H' g' is => ⟨Γ, μ', x, g.trans g', en.mono g'.fz, is, rfl, z⟩
/-- what a callee lets out is taken -/
theorem Tk.pass {Z : Addr → Prop} {μ0 : Mu} {H0 : Hp} (t : Tk X Z μ0 H0) (σ : L2.St) : PassesAt (L2.CX X.prog X.w) X.toCx σ (L2.WE (PostX X.K Z μ0 H0 X.xd) σ) := passAt t σ
theorem we_call {x : Str} {s : Spc} (C : Cl X x s) (h : WA X (e :: es) Γ μ fun μ1 ds => s ds μ1 Q (X.xd Γ))
    (he : starEach (e :: es) X.env = (false, eval e X.env) :: starEach es X.env := by rfl) (hpl : (backTo pos (starEach es X.env)).any (·.1) = false := by rfl) : WE X (.Call (.Name x p0) (e :: es) [] pos) Γ μ Q := fun Z σ H en ok tk => by
  obtain ⟨k, f, fd, ps, F, hr, hm, hk, hb⟩ := C.ex
  refine toS (pe_callSD F hr C.gl hm hk hb .nil tk.pass pa_S C.db he hpl) ?_
  refine h.use (Go.refl ok) en tk fun vs H1 μ1 ds g1 _ en1 i1 q1 => ?_
  rw [List.append_nil]
  exact lift_of C.mono g1 en1 i1 q1
/-- .. with n values ahead and keywords ks; g brings all into the parameters' order -/
structure ClK (X : Cz) (x : Str) (n : Nat) (ks : List Str) (g : {α : Type} → List α → List α → List α) (s : Spc) : Prop where
  mono : s.Mono
  ex : ∃ k f fd ps, FnOk X.prog X.w X.K X.mg X.base (L2.CX X.prog X.w) k f fd ps (lift X.K s) ∧ Room k X.A ∧ X.mg x = some (.ref f) ∧ PySem.W.keepIn X.K (.ref f) = true ∧ KBn X.K fd ps n ks (fun us ws => g us ws) (fun us ws => g us ws)
  gl : Gl X x
  db : (x == ("__debug__" : Str)) = false
  rel : ∀ {K : PySem.W.Frag} {A : Addr → Prop} {H : Hp} {vs zs : List V} {ds es : List D}, vs.length = n → zs.length = ks.length → IsA K A H vs ds → IsA K A H zs es → IsA K A H (g vs zs) (g ds es)
theorem we_callK {x : Str} {s : Spc} {g : {α : Type} → List α → List α → List α} {kws : List Keyword} (C : ClK X x (e :: es).length (kws.filterMap (·.arg)) g s)
    (h : WA X (e :: es) Γ μ fun μ1 ds => WKw X kws Γ μ1 fun μ2 zs => Req (ds.length = (e :: es).length) <| Req (zs.length = (kws.filterMap (·.arg)).length) <| s (g ds zs) μ2 Q (X.xd Γ))
    (hall : (backToKw pos (keywordEach kws X.env)).all (·.1.isSome) = true := by rfl) (hks : (backToKw pos (keywordEach kws X.env)).filterMap (·.1) = kws.filterMap (·.arg) := by rfl)
    (he : starEach (e :: es) X.env = (false, eval e X.env) :: starEach es X.env := by rfl)
    (hpl : ((backTo pos (starEach (e :: es) X.env)).any (·.1) || (backToKw pos (keywordEach kws X.env)).any (·.1.isNone)) = false := by rfl) : WE X (.Call (.Name x p0) (e :: es) kws pos) Γ μ Q := fun Z σ H en ok tk => by
  obtain ⟨k, f, fd, ps, F, hr, hm, hk, hb⟩ := C.ex
  refine toS (pe_callNS F hr C.gl hm hk hb tk.pass pa_S pk_S hall hks C.db he hpl) ?_
  refine h.use (Go.refl ok) en tk fun vs H1 μ1 ds g1 _ en1 i1 q1 => ?_
  refine q1.use g1 en1 tk fun zs H2 μ2 ds2 g2 g2' en2 i2 q2 => ?_
  have l1 : vs.length = (e :: es).length := i1.length.trans q2.1
  have l2 : zs.length = (kws.filterMap (·.arg)).length := i2.length.trans q2.2.1
  exact ⟨l1, l2, lift_of C.mono g2 en2 (C.rel l1 l2 (i1.mono g2'.fz) i2) q2.2.2⟩
theorem we_callK0 {x : Str} {s : Spc} {g : {α : Type} → List α → List α → List α} {kws : List Keyword} (C : ClK X x 0 (kws.filterMap (·.arg)) g s)
    (h : WKw X kws Γ μ fun μ2 zs => Req (zs.length = (kws.filterMap (·.arg)).length) <| s (g [] zs) μ2 Q (X.xd Γ))
    (hall : (backToKw pos (keywordEach kws X.env)).all (·.1.isSome) = true := by rfl) (hks : (backToKw pos (keywordEach kws X.env)).filterMap (·.1) = kws.filterMap (·.arg) := by rfl)
    (hpl : ((backTo pos (starEach [] X.env)).any (·.1) || (backToKw pos (keywordEach kws X.env)).any (·.1.isNone)) = false := by rfl) : WE X (.Call (.Name x p0) [] kws pos) Γ μ Q := fun Z σ H en ok tk => by
  obtain ⟨k, f, fd, ps, F, hr, hm, hk, hb⟩ := C.ex
  refine toS (pe_callNS0 F hr C.gl hm hk hb tk.pass pk_S hall hks C.db hpl) ?_
  refine h.use (Go.refl ok) en tk fun zs H2 μ2 es g2 g2' en2 i2 q2 => ?_
  have l2 : zs.length = (kws.filterMap (·.arg)).length := i2.length.trans q2.1
  exact ⟨rfl, l2, lift_of C.mono g2 en2 (C.rel (vs := []) (ds := []) rfl l2 .nil i2) q2.2⟩
structure Bl (X : Cz) (x : Str) : Prop where
  gl : Gl X x
  mg : X.mg x = none
/-- len of a list or tuple -/
theorem we_len (B : Bl X "len") (h : WE X e Γ μ fun μ1 x => SeqQ μ1 x fun ds => Q μ1 (.int (ds.length : Int)))
    (he : starEach [e] X.env = (false, eval e X.env) :: starEach [] X.env := by rfl) (hpl : (backTo pos (starEach [] X.env)).any (·.1) = false := by rfl) : WE X (.Call (.Name "len" p0) [e] [] pos) Γ μ Q := fun Z σ H en ok tk => by
  refine toS (pe_callB call_len_seq B.gl B.mg PySem.boot_len (pa_cons pe_S pa_nil he) (by decide) (by decide) he hpl) ?_
  refine h.use (Go.refl ok) en tk fun v H1 μ1 d g1 _ en1 i1 q1 => ?_
  obtain ⟨ds, sq, q⟩ := q1
  obtain ⟨p, vs, rfl, s, t⟩ := sq.at g1.ok i1
  exact ⟨p, vs, rfl, s, μ1, _, g1, by rw [t.length]; exact .int _, q⟩
/-- isinstance(x, T), T a built-in type, x a scalar -/
def kindD : D → Option String
  | .non => some "NoneType"
  | .bl _ => some "bool"
  | .int _ => some "int"
  | .str _ => some "str"
  | .lst _ => some "list"
  | .tup _ => some "tuple"
  | _ => none
theorem kindD_ok {K : PySem.W.Frag} {A : Addr → Prop} {H : Hp} {v : V} {x : D} {s : String} (h : Is K A H v x) (e : kindD x = some s) : TyX K H v (.type s) := by
  cases h with
  | non => cases e; exact .base .non
  | bl b => cases e; exact .base (.bl b)
  | int i => cases e; exact .base (.int i)
  | str x => cases e; exact .base (.str x)
  | lst h t =>
    cases e
    rcases h with ⟨_, h | ⟨o, h⟩⟩
    · exact .base (.lst h)
    · exact .base (.frz h)
  | tup h t =>
    cases e
    rcases h with ⟨_, h | ⟨o, h⟩⟩ | ⟨o, its, n, h1, h2, _⟩
    · exact .base (.tup h)
    · exact .fTuple h
    · exact .kTuple h1 h2
  | _ => cases e
theorem kit_NoneType_int : kitB "NoneType" "int" = some false := by decide +kernel
theorem kit_NoneType_bool : kitB "NoneType" "bool" = some false := by decide +kernel
theorem kit_NoneType_str : kitB "NoneType" "str" = some false := by decide +kernel
theorem kit_NoneType_list : kitB "NoneType" "list" = some false := by decide +kernel
theorem kit_NoneType_tuple : kitB "NoneType" "tuple" = some false := by decide +kernel
theorem kit_bool_int : kitB "bool" "int" = some true := by decide +kernel
theorem kit_bool_bool : kitB "bool" "bool" = some true := by decide +kernel
theorem kit_bool_str : kitB "bool" "str" = some false := by decide +kernel
theorem kit_bool_list : kitB "bool" "list" = some false := by decide +kernel
theorem kit_bool_tuple : kitB "bool" "tuple" = some false := by decide +kernel
theorem kit_int_int : kitB "int" "int" = some true := by decide +kernel
theorem kit_int_bool : kitB "int" "bool" = some false := by decide +kernel
theorem kit_int_str : kitB "int" "str" = some false := by decide +kernel
theorem kit_int_list : kitB "int" "list" = some false := by decide +kernel
theorem kit_int_tuple : kitB "int" "tuple" = some false := by decide +kernel
theorem kit_str_int : kitB "str" "int" = some false := by decide +kernel
theorem kit_str_bool : kitB "str" "bool" = some false := by decide +kernel
theorem kit_str_str : kitB "str" "str" = some true := by decide +kernel
theorem kit_str_list : kitB "str" "list" = some false := by decide +kernel
theorem kit_str_tuple : kitB "str" "tuple" = some false := by decide +kernel
theorem kit_list_int : kitB "list" "int" = some false := by decide +kernel
theorem kit_list_bool : kitB "list" "bool" = some false := by decide +kernel
theorem kit_list_str : kitB "list" "str" = some false := by decide +kernel
theorem kit_list_list : kitB "list" "list" = some true := by decide +kernel
theorem kit_list_tuple : kitB "list" "tuple" = some false := by decide +kernel
theorem kit_tuple_int : kitB "tuple" "int" = some false := by decide +kernel
theorem kit_tuple_bool : kitB "tuple" "bool" = some false := by decide +kernel
theorem kit_tuple_str : kitB "tuple" "str" = some false := by decide +kernel
theorem kit_tuple_list : kitB "tuple" "list" = some false := by decide +kernel
theorem kit_tuple_tuple : kitB "tuple" "tuple" = some true := by decide +kernel
def KindQ (x : D) (t : String) (R : Bool → Prop) : Prop := ∃ k r, kindD x = some k ∧ kitB k t = some r ∧ R r
theorem kind_q {x : D} {t k : String} {r : Bool} {R : Bool → Prop} (e : kindD x = some k) (e2 : kitB k t = some r) (h : R r) : KindQ x t R := ⟨k, r, e, e2, h⟩
theorem we_isi {T : Str} {t : String} {p1 : Pos} (B : Bl X "isinstance") (BT : Bl X T) (hv : bootBuiltins T = some (.type t)) (h : WE X e Γ μ fun μ1 x => KindQ x t fun r => Q μ1 (.bl r))
    (hn : T ≠ "__name__" := by decide) (hd : (T == ("__debug__" : Str)) = false := by decide)
    (he : starEach [e, .Name T p1] X.env = (false, eval e X.env) :: starEach [.Name T p1] X.env := by rfl) (hpl : (backTo pos (starEach [.Name T p1] X.env)).any (·.1) = false := by rfl) : WE X (.Call (.Name "isinstance" p0) [e, .Name T p1] [] pos) Γ μ Q := fun Z σ H en ok tk => by
  refine toS (pe_callB call_isi B.gl B.mg (by decide +kernel) (pa_cons pe_S (pa_cons (pe_bltn (v := .ty t) BT.gl BT.mg hv rfl hn hd) pa_nil) he) (by decide) (by decide) he hpl) ?_
  refine h.use (Go.refl ok) en tk fun v H1 μ1 d g1 _ en1 i1 q1 => ?_
  obtain ⟨k, r, hk, hr, q⟩ := q1
  exact ⟨v, .ty t, _, _, r, rfl, .ty t, kindD_ok i1 hk, kit_ty hr, μ1, _, g1, .bl _, q⟩
theorem tyL {K : PySem.W.Frag} {H : Hp} {p : Addr} {vs : List V} (h : H p = some (.lst vs)) : tyV K "list" (.ref p) H := .inl ⟨rfl, vs, .of h⟩
/-- a list that may be changed -/
def LstAt (μ : Mu) (x : D) (R : Addr → Prop) : Prop := ∃ p, x = .ref p ∧ (∃ ds, μ p = some (.lst ds)) ∧ R p
def LstQ (μ : Mu) (p : Addr) (R : List D → Prop) : Prop := ∃ ds, μ p = some (.lst ds) ∧ R ds
def AtQ (ds : List D) (k : Int) (R : Nat → Prop) : Prop := ∃ j, ixN ds.length k = some j ∧ R j
theorem lst_at {p : Addr} {ds : List D} {R : Addr → Prop} (e : μ p = some (.lst ds)) (h : R p) : LstAt μ (.ref p) R := ⟨p, rfl, ⟨ds, e⟩, h⟩
theorem lst_q {p : Addr} {ds : List D} {R : List D → Prop} (e : μ p = some (.lst ds)) (h : R ds) : LstQ μ p R := ⟨ds, e, h⟩
theorem at_q {ds : List D} {k : Int} {R : Nat → Prop} (h0 : 0 ≤ k) (h1 : k < (ds.length : Int)) (h : R k.toNat) : AtQ ds k R := ⟨k.toNat, by unfold ixN; rw [if_pos h0, if_pos h1], h⟩
/-- xs.pop(i) -/
theorem we_popAt {i : Expr} {ap : Pos} (h : WE X o Γ μ fun μ1 x => LstAt μ1 x fun p => WE X i Γ μ1 fun μ2 y => One y fun k => LstQ μ2 p fun ds => Req (-(2 ^ 63) ≤ k ∧ k < 2 ^ 63) <| ∃ j d, seqIndex? k ds.length = some j ∧ ds[j]? = some d ∧ Q (updM μ2 p (.lst (ds.eraseIdx j))) d)
    (hbase : attributeBase o "pop" X.env (eval o X.env) = eval o X.env := by rfl)
    (hfew : ((backTo pos (starEach [i] X.env)).all (fun x => !x.1) && (backToKw pos (keywordEach [] X.env)).all (fun x => x.1.isSome)
      && decide ([i].length + ([] : List Keyword).length + (if ([] : List Keyword).isEmpty then 0 else 1) < 30)) = true := by rfl)
    (hline : (ap.endLine == pos.line) = true := by rfl) (hs : starEach [i] X.env = (false, eval i X.env) :: starEach [] X.env := by rfl) (hpl : (backTo pos (starEach [] X.env)).any (·.1) = false := by rfl) :
    WE X (.Call (.Attribute o "pop" ap) [i] [] pos) Γ μ Q := fun Z σ H en ok tk => by
  refine toS (pe_bm PySem.F.plainAttrs_list PySem.F.slot_list_pop PySem.F.type_list_pop mt_popAt pe_S (pa_cons pe_S pa_nil hs) hbase hfew hline hs hpl) ?_
  refine h.use (Go.refl ok) en tk fun v H1 μ1 d g1 _ en1 i1 q1 => ?_
  obtain ⟨p, rfl, ⟨ds1, e1⟩, q1⟩ := q1
  obtain ⟨vs1, e2, _⟩ := g1.ok.at_ p _ e1
  rw [isRef i1]
  refine ⟨tyL e2, ?_⟩
  refine q1.use g1 en1 tk fun w H2 μ2 d2 g2 _ en2 i2 q2 => ?_
  obtain ⟨k, rfl, ds, hp, ⟨h1, h2⟩, j, d, h3, h4, q⟩ := q2
  obtain ⟨vs, e3, t⟩ := g2.ok.at_ p _ hp
  obtain ⟨u, hu, iu⟩ := t.get h4
  rw [isInt i2]
  have g3 := g2.trans (Go.put g2.ok (.lst (ds.eraseIdx j)) (.lst (vs.eraseIdx j)) (.inr ⟨_, hp⟩) fun m => ⟨_, upd_same, m (t.eraseIdx j)⟩)
  refine ⟨p, vs, k, j, u, rfl, rfl, e3, h1, h2, by rw [t.length]; exact h3, hu, _, d, g3, iu.mono ?_, q⟩
  exact (Go.put g2.ok (.lst (ds.eraseIdx j)) (.lst (vs.eraseIdx j)) (.inr ⟨_, hp⟩) fun m => ⟨_, upd_same, m (t.eraseIdx j)⟩).fz
/-- xs.append(e) -/
theorem we_app {ap : Pos} (h : WE X o Γ μ fun μ1 x => LstAt μ1 x fun p => WE X e Γ μ1 fun μ2 y => LstQ μ2 p fun ds => Req (ds.length < sizeLine) <| Q (updM μ2 p (.lst (ds ++ [y]))) .non)
    (hbase : attributeBase o "append" X.env (eval o X.env) = eval o X.env := by rfl)
    (hfew : ((backTo pos (starEach [e] X.env)).all (fun x => !x.1) && (backToKw pos (keywordEach [] X.env)).all (fun x => x.1.isSome)
      && decide ([e].length + ([] : List Keyword).length + (if ([] : List Keyword).isEmpty then 0 else 1) < 30)) = true := by rfl)
    (hline : (ap.endLine == pos.line) = true := by rfl) (hs : starEach [e] X.env = (false, eval e X.env) :: starEach [] X.env := by rfl) (hpl : (backTo pos (starEach [] X.env)).any (·.1) = false := by rfl) :
    WE X (.Call (.Attribute o "append" ap) [e] [] pos) Γ μ Q := fun Z σ H en ok tk => by
  refine toS (pe_bm PySem.F.plainAttrs_list PySem.F.slot_list_append PySem.F.type_list_append mt_append pe_S (pa_cons pe_S pa_nil hs) hbase hfew hline hs hpl) ?_
  refine h.use (Go.refl ok) en tk fun v H1 μ1 d g1 _ en1 i1 q1 => ?_
  obtain ⟨p, rfl, ⟨ds1, e1⟩, q1⟩ := q1
  obtain ⟨vs1, e2, _⟩ := g1.ok.at_ p _ e1
  rw [isRef i1]
  refine ⟨tyL e2, ?_⟩
  refine q1.use g1 en1 tk fun w H2 μ2 d2 g2 _ en2 i2 q2 => ?_
  obtain ⟨ds, hp, h1, q⟩ := q2
  obtain ⟨vs, e3, t⟩ := g2.ok.at_ p _ hp
  refine ⟨p, vs, w, rfl, rfl, e3, by rw [t.length]; exact h1, _, .non, g2.trans (Go.put g2.ok (.lst (ds ++ [d2])) (.lst (vs ++ [w])) (.inr ⟨_, hp⟩) fun m => ⟨_, upd_same, m (t.append (.cons i2 .nil))⟩), .non, q⟩
end

section
variable {X : Cz} {Γ Γ' : Gm} {μ : Mu} {c e iter tg : Expr} {st : Stmt} {sts body els : List Stmt} {pos p0 : Pos} {k : Kt}
theorem wb_nil (h : k.nx Γ μ) : WB X [] Γ μ k := fun Z σ H en ok tk => toSB pss_nil ⟨Γ, μ, Go.refl ok, en, h⟩
theorem WS.use {Z : Addr → Prop} {μ0 : Mu} {H0 H : Hp} {σ : L2.St} (h : WS X st Γ μ k) (g : Go X.K Z μ0 H0 μ H) (en : En X.K (Av μ Z) H σ Γ) (tk : Tk X Z μ0 H0) : SS X st (toD X.K Z μ0 H0 k) σ H := (h Z σ H en g.ok (tk.up g)).mono (toD.up g)
theorem WB.use {Z : Addr → Prop} {μ0 : Mu} {H0 H : Hp} {σ : L2.St} (h : WB X sts Γ μ k) (g : Go X.K Z μ0 H0 μ H) (en : En X.K (Av μ Z) H σ Γ) (tk : Tk X Z μ0 H0) : SB X sts (toD X.K Z μ0 H0 k) σ H := (h Z σ H en g.ok (tk.up g)).mono (toD.up g)
theorem wb_cons (h : WS X st Γ μ { k with nx := fun Γ' μ' => WB X sts Γ' μ' k }) : WB X (st :: sts) Γ μ k := fun Z σ H en ok tk => by
  refine toSB (pss_cons ps_S pss_S) ?_
  show SS X st { toD X.K Z μ H k with nx := SB X sts (toD X.K Z μ H k) } σ H
  refine SS.mono ?_ (h Z σ H en ok tk)
  exact ⟨fun σ' H' ⟨Γ', μ', g, en', q⟩ => q.use g en' tk, fun _ _ z => z, fun _ _ z => z, fun _ _ z => z⟩
/-- a def's body from its n-th statement on, the body a name -/
theorem wb_at {n : Nat} (e : sts[n]? = some st) (h : WS X st Γ μ { k with nx := fun Γ' μ' => WB X (sts.drop (n + 1)) Γ' μ' k }) : WB X (sts.drop n) Γ μ k := by
  have hn : n < sts.length := (List.getElem?_eq_some_iff.mp e).1
  rw [List.drop_eq_getElem_cons hn]
  rw [List.getElem?_eq_getElem hn] at e
  rw [Option.some.inj e]
  exact wb_cons h
theorem wb_end {n : Nat} (e : sts[n]? = none) (h : k.nx Γ μ) : WB X (sts.drop n) Γ μ k := by
  rw [List.drop_eq_nil_iff.mpr (List.getElem?_eq_none_iff.mp e)]
  exact wb_nil h
theorem wb_go (h : WB X (sts.drop 0) Γ μ k) : WB X sts Γ μ k := h
theorem ws_pass (h : k.nx Γ μ) : WS X (.Pass pos) Γ μ k := fun Z σ H en ok tk => toSS ps_pass ⟨Γ, μ, Go.refl ok, en, h⟩
theorem ws_break (h : k.bk Γ μ) : WS X (.Break pos) Γ μ k := fun Z σ H en ok tk => toSS ps_break ⟨Γ, μ, Go.refl ok, en, h⟩
theorem ws_cont (h : k.ct Γ μ) : WS X (.Continue pos) Γ μ k := fun Z σ H en ok tk => toSS ps_continue ⟨Γ, μ, Go.refl ok, en, h⟩
theorem ws_doc {x j p1} (h : k.nx Γ μ) : WS X (.Expr (.Constant (.str x) j p1) pos) Γ μ k := fun Z σ H en ok tk => toSS ps_doc ⟨Γ, μ, Go.refl ok, en, h⟩
theorem ws_expr (h : WE X e Γ μ fun μ1 _ => k.nx Γ μ1) (hs : swapsWith e none pos.line X.env = pure false := by rfl) : WS X (.Expr e pos) Γ μ k := fun Z σ H en ok tk => by
  refine toSS (ps_expr pe_S hs) ?_
  exact h.use (Go.refl ok) en tk fun v H1 μ1 d g1 _ en1 i1 q1 => ⟨Γ, μ1, g1, en1, q1⟩
theorem ws_ret (h : WE X e Γ μ k.rt) : WS X (.Return (some e) pos) Γ μ k := fun Z σ H en ok tk => by
  refine toSS (ps_ret pe_S) ?_
  exact h.use (Go.refl ok) en tk fun v H1 μ1 d g1 _ en1 i1 q1 => ⟨μ1, d, g1, i1, q1⟩
theorem ws_retN (h : k.rt μ .non) : WS X (.Return none pos) Γ μ k := fun Z σ H en ok tk => toSS ps_retN ⟨μ, .non, Go.refl ok, .non, h⟩
theorem ws_if (h : WT X c Γ μ fun μ1 b => if b = true then WB X body Γ μ1 k else WB X els Γ μ1 k) : WS X (.If c body els pos) Γ μ k := fun Z σ H en ok tk => by
  refine toSS (ps_if pt_S pss_S pss_S) ?_
  refine h.use (Go.refl ok) en tk fun b H1 μ1 g1 _ en1 q1 => ?_
  cases b with
  | true => exact q1.use g1 en1 tk
  | false => exact q1.use g1 en1 tk
/-- J holds behind the statement, and all that follows from it -/
theorem ws_join (J : Gm → Mu → Prop) (h : WS X st Γ μ { k with nx := J }) (n : ∀ Γ' μ', J Γ' μ' → k.nx Γ' μ') : WS X st Γ μ k := fun Z σ H en ok tk => by
  refine SS.mono ?_ (h Z σ H en ok tk)
  exact ⟨fun _ _ ⟨a, b, c, d, e⟩ => ⟨a, b, c, d, n _ _ e⟩, fun _ _ z => z, fun _ _ z => z, fun _ _ z => z⟩
theorem wipe_set {σ : L2.St} {i : Nat} {x : Option V} : ∀ {ws : List Nat}, i ∈ ws → wipe (σ.set i x) ws = wipe σ ws
  | w :: ws, h => by
    unfold wipe
    by_cases hi : i ∈ ws
    · rw [wipe_set hi]
    · have e : i = w := by
        rcases List.mem_cons.mp h with e | e
        · exact e
        · exact absurd e hi
      subst e
      -- the slot is wiped last
      have key : ∀ (vs : List Nat) (τ : L2.St), i ∉ vs → (wipe (τ.set i x) vs).set i none = (wipe τ vs).set i none := by
        intro vs
        induction vs with
        | nil => intro τ _; exact List.set_set _
        | cons v vs ih =>
          intro τ hn
          have hv : v ≠ i := fun e => hn (by rw [e]; exact List.mem_cons_self)
          unfold wipe
          rw [List.set_comm _ _ hv, ih τ fun z => hn (List.mem_cons_of_mem _ z), List.set_comm _ _ hv]
      exact key ws σ hi
theorem wg_name {x : Str} {i : Nat} {d : D} {N : Gm → Mu → Prop} (n : Nw X x i) (s : SetTo Γ i d Γ') (h : N Γ' μ) : WG X (.Name x pos) [i] d Γ μ N := fun Z σ H v en ok tk is => by
  refine toG (pg_name n.nd n.ix n.loc n.fn) ?_
  refine ⟨⟨Γ', μ, Go.refl ok, by rw [s.eq]; exact en.set i is, h⟩, fun ws hw => wipe_set (hw i (by simp))⟩
/-- several targets -/
def WGs (X : Cz) (tgs : List Expr) (vs : List Nat) (ds : List D) (Γ : Gm) (μ : Mu) (N : Gm → Mu → Prop) : Prop := ∀ Z σ H ws, En X.K (Av μ Z) H σ Γ → Ok X.K μ Z H → Tk X Z μ H → IsA X.K (Av μ Z) H ws ds →
  ∃ t, PGs X tgs t ∧ t ws σ H (fun σ' H' => PostN X.K Z μ H N σ' H' ∧ ∀ us, (∀ i ∈ vs, i ∈ us) → wipe σ' us = wipe σ us)
/-- the exact reading of several targets -/
def SGs (X : Cz) (tgs : List Expr) (vs : List V) (σ : L2.St) (H : Hp) (Q : L2.St → Hp → Prop) : Prop := ∀ pins s us, Inv X pins σ H s → Vals vs us →
  wpAny (model X.prog X.w) X.A (assignInOrder ((assignEach tgs X.env).map (·.2)) us) (fun _ s' => ∃ σ' H', Inv X pins σ' H' s' ∧ Q σ' H') X.xe s
theorem pgs_S {tgs : List Expr} : PGs X tgs (SGs X tgs) := ⟨fun _ _ _ _ _ _ _ I r h => h _ _ _ I r⟩
theorem toGs {tgs : List Expr} {t : TGs} {vs : List V} {σ : L2.St} {H : Hp} {Q : L2.St → Hp → Prop} (p : PGs X tgs t) (h : t vs σ H Q) : SGs X tgs vs σ H Q := fun _ _ _ I r => p.run _ _ _ _ _ _ _ I r h
theorem SGs.mono {tgs : List Expr} {vs : List V} {σ : L2.St} {H : Hp} {Q Q' : L2.St → Hp → Prop} (h : SGs X tgs vs σ H Q) (f : ∀ σ' H', Q σ' H' → Q' σ' H') : SGs X tgs vs σ H Q' := fun pins s u I r => thn (h pins s u I r) fun _ _ ⟨σ', H', I', q⟩ => ⟨σ', H', I', f _ _ q⟩
def WGl (X : Cz) (tgs : List Expr) (vs : List Nat) (ds : List D) (Γ : Gm) (μ : Mu) (N : Gm → Mu → Prop) : Prop := ∀ Z σ H ws, En X.K (Av μ Z) H σ Γ → Ok X.K μ Z H → Tk X Z μ H → IsA X.K (Av μ Z) H ws ds →
  SGs X tgs ws σ H (fun σ' H' => PostN X.K Z μ H N σ' H' ∧ ∀ us, (∀ i ∈ vs, i ∈ us) → wipe σ' us = wipe σ us)
theorem wgl_nil {N : Gm → Mu → Prop} (h : N Γ μ) : WGl X [] [] [] Γ μ N := fun Z σ H ws en ok tk is => by
  cases is
  exact toGs pgs_nil ⟨rfl, ⟨Γ, μ, Go.refl ok, en, h⟩, fun _ _ => rfl⟩
theorem wgl_cons {tgs : List Expr} {v w : List Nat} {d : D} {ds : List D} {N : Gm → Mu → Prop} (h : WG X tg v d Γ μ fun Γ1 μ1 => WGl X tgs w ds Γ1 μ1 N)
    (hs : (assignEach (tg :: tgs) X.env).map (·.2) = assign tg X.env :: (assignEach tgs X.env).map (·.2) := by rfl) : WGl X (tg :: tgs) (v ++ w) (d :: ds) Γ μ N := fun Z σ H ws en ok tk is => by
  cases is with
  | cons i1 t1 =>
    refine toGs (pgs_cons pg_S pgs_S hs) ⟨_, _, rfl, ?_⟩
    refine (h Z σ H _ en ok tk i1).mono fun σ1 H1 ⟨⟨Γ1, μ1, g1, en1, q1⟩, w1⟩ => ?_
    refine (q1 Z σ1 H1 _ en1 g1.ok (tk.up g1) (t1.mono g1.fz)).mono fun σ2 H2 ⟨p2, w2⟩ => ⟨p2.up g1, fun us hu => ?_⟩
    rw [w2 us fun i hi => hu i (List.mem_append_right _ hi), w1 us fun i hi => hu i (List.mem_append_left _ hi)]
/-- (a, b, ..) of a tuple -/
theorem wg_tup {tgs : List Expr} {x1} {vs : List Nat} {ds : List D} {N : Gm → Mu → Prop} (hc : X.calm = true) (h : WGl X tgs vs ds Γ μ N) (hl : ds.length = (assignEach tgs X.env).length := by rfl)
    (hst : (assignEach tgs X.env).findIdx? (·.1) = none := by rfl) : WG X (.Tuple tgs x1 pos) vs (.tup ds) Γ μ N := fun Z σ H v en ok tk is => by
  cases is with
  | tup r t => exact toG (pg_tup (n := (assignEach tgs X.env).length) hc pgs_S rfl hst) ⟨_, _, rfl, r.sq, t.length.trans hl, h Z σ H _ en ok tk t⟩
/-- xs[i] = d -/
theorem wg_ix {o i : Expr} {d : D} {N : Gm → Mu → Prop} (h : WE X o Γ μ fun μ1 x => WE X i Γ μ1 fun μ2 y => One y fun n => LstAt μ2 x fun p => LstQ μ2 p fun ds => AtQ ds n fun j => N Γ (updM μ2 p (.lst (ds.set j d))))
    (ha : ∀ v, assign (.Subscript o i pos) X.env v = (do
      let ov ← holding [v] (eval o X.env)
      let iv ← holding [v, ov] (eval i X.env)
      standAt pos
      holding [v, ov, iv] (setItem ov iv v)
      release [v, ov, iv] []) := by intro _; rfl) : WG X (.Subscript o i pos) [] d Γ μ N := fun Z σ H v en ok tk is => by
  refine toG (pg_sub pe_S pe_S set_list ha) ?_
  refine h.use (Go.refl ok) en tk fun ov H1 μ1 d1 g1 _ en1 i1 q1 => ?_
  refine q1.use g1 en1 tk fun iv H2 μ2 d2 g2 _ en2 i2 q2 => ?_
  obtain ⟨n, rfl, p, rfl, _, ds, hp, j, hj, q⟩ := q2
  obtain ⟨vs, e3, t⟩ := g2.ok.at_ p _ hp
  rw [isRef i1, isInt i2]
  have g3 := Go.put g2.ok (.lst (ds.set j d)) (.lst (vs.set j v)) (.inr ⟨_, hp⟩) fun m => ⟨_, upd_same, m (IsA.set (is.mono g2.fz) j t)⟩
  exact ⟨p, vs, n, j, rfl, rfl, e3, by rw [t.length]; exact hj, ⟨Γ, _, g2.trans g3, en2.mono g3.fz, q⟩, fun _ _ => rfl⟩
/-- a target, whatever slots it stores -/
def WGx (X : Cz) (tg : Expr) (d : D) (Γ : Gm) (μ : Mu) (N : Gm → Mu → Prop) : Prop := ∀ Z σ H v, En X.K (Av μ Z) H σ Γ → Ok X.K μ Z H → Tk X Z μ H → Is X.K (Av μ Z) H v d → SG X tg v σ H (PostN X.K Z μ H N)
def WGlx (X : Cz) (tgs : List Expr) (ds : List D) (Γ : Gm) (μ : Mu) (N : Gm → Mu → Prop) : Prop := ∀ Z σ H ws, En X.K (Av μ Z) H σ Γ → Ok X.K μ Z H → Tk X Z μ H → IsA X.K (Av μ Z) H ws ds → SGs X tgs ws σ H (PostN X.K Z μ H N)
theorem WG.x {vs : List Nat} {d : D} {N : Gm → Mu → Prop} (h : WG X tg vs d Γ μ N) : WGx X tg d Γ μ N := fun Z σ H v en ok tk is => (h Z σ H v en ok tk is).mono fun _ _ p => p.1
theorem wx_name {x : Str} {i : Nat} {d : D} {N : Gm → Mu → Prop} (n : Nw X x i) (s : SetTo Γ i d Γ') (h : N Γ' μ) : WGx X (.Name x pos) d Γ μ N := (wg_name n s h).x
theorem wx_ix {o i : Expr} {d : D} {N : Gm → Mu → Prop} (h : WE X o Γ μ fun μ1 x => WE X i Γ μ1 fun μ2 y => One y fun n => LstAt μ2 x fun p => LstQ μ2 p fun ds => AtQ ds n fun j => N Γ (updM μ2 p (.lst (ds.set j d))))
    (ha : ∀ v, assign (.Subscript o i pos) X.env v = (do
      let ov ← holding [v] (eval o X.env)
      let iv ← holding [v, ov] (eval i X.env)
      standAt pos
      holding [v, ov, iv] (setItem ov iv v)
      release [v, ov, iv] []) := by intro _; rfl) : WGx X (.Subscript o i pos) d Γ μ N := (wg_ix h ha).x
theorem wxl_nil {N : Gm → Mu → Prop} (h : N Γ μ) : WGlx X [] [] Γ μ N := fun Z σ H ws en ok tk is => (wgl_nil (N := N) h Z σ H ws en ok tk is).mono fun _ _ p => p.1
theorem wxl_cons {tgs : List Expr} {d : D} {ds : List D} {N : Gm → Mu → Prop} (h : WGx X tg d Γ μ fun Γ1 μ1 => WGlx X tgs ds Γ1 μ1 N)
    (hs : (assignEach (tg :: tgs) X.env).map (·.2) = assign tg X.env :: (assignEach tgs X.env).map (·.2) := by rfl) : WGlx X (tg :: tgs) (d :: ds) Γ μ N := fun Z σ H ws en ok tk is => by
  cases is with
  | cons i1 t1 =>
    refine toGs (pgs_cons pg_S pgs_S hs) ⟨_, _, rfl, ?_⟩
    refine (h Z σ H _ en ok tk i1).mono fun σ1 H1 ⟨Γ1, μ1, g1, en1, q1⟩ => ?_
    exact (q1 Z σ1 H1 _ en1 g1.ok (tk.up g1) (t1.mono g1.fz)).mono fun σ2 H2 p2 => p2.up g1
theorem wx_tup {tgs : List Expr} {x1} {ds : List D} {N : Gm → Mu → Prop} (hc : X.calm = true) (h : WGlx X tgs ds Γ μ N) (hl : ds.length = (assignEach tgs X.env).length := by rfl)
    (hst : (assignEach tgs X.env).findIdx? (·.1) = none := by rfl) : WGx X (.Tuple tgs x1 pos) (.tup ds) Γ μ N := fun Z σ H v en ok tk is => by
  cases is with
  | tup r t => exact toG (pg_tup (n := (assignEach tgs X.env).length) hc pgs_S rfl hst) ⟨_, _, rfl, r.sq, t.length.trans hl, h Z σ H _ en ok tk t⟩
theorem ws_set {x : Str} {i : Nat} (n : Nw X x i) (h : WE X e Γ μ fun μ1 d => SetQ Γ i d fun Γ' => k.nx Γ' μ1) (hs : swapsWith e (some (.Name x p0)) pos.line X.env = pure false := by rfl) : WS X (.Assign [.Name x p0] e pos) Γ μ k := fun Z σ H en ok tk => by
  refine toSS (ps_set n.nd n.ix n.loc pe_S hs n.fn) ?_
  refine h.use (Go.refl ok) en tk fun v H1 μ1 d g1 _ en1 i1 q1 => ?_
  obtain ⟨Γ', s, q⟩ := q1
  exact ⟨Γ', μ1, g1, by rw [s.eq]; exact en1.set i i1, q⟩
theorem ws_asg (h : WE X e Γ μ fun μ1 d => WGx X tg d Γ μ1 k.nx) (hs : swapsWithSole [tg] e pos.line X.env = pure false := by rfl) (hw : swappedStores [tg] e X.env = pure none := by rfl)
    (h1 : (assignEach [tg] X.env).map (·.2) = [assign tg X.env] := by rfl) : WS X (.Assign [tg] e pos) Γ μ k := fun Z σ H en ok tk => by
  refine toSS (ps_asg pe_S pg_S hs hw h1) ?_
  refine h.use (Go.refl ok) en tk fun v H1 μ1 d g1 _ en1 i1 q1 => ?_
  exact (q1 Z σ H1 v en1 g1.ok (tk.up g1) i1).mono fun σ' H' p => p.up g1
/-- a, b = x, y -/
theorem ws_par {x y : Str} {i j : Nat} {a b : Expr} {px py pt : Pos} {kt k2 pt2} (hc : X.calm = true) (n1 : Nw X x i) (n2 : Nw X y j) (l1 : X.env.scope.names.lookup x = some .local) (l2 : X.env.scope.names.lookup y = some .local) (hij : i ≠ j)
    (h : WA X [a, b] Γ μ fun μ1 ds => ∃ d1 d2 Γ1 Γ2, ds = [d1, d2] ∧ SetTo Γ i d1 Γ1 ∧ SetTo Γ1 j d2 Γ2 ∧ k.nx Γ2 μ1)
    (hw : swappedStores [.Tuple [.Name x px, .Name y py] kt pt] (.Tuple [a, b] k2 pt2) X.env = pure (some [x, y]))
    (hs : swapsWithSole [.Tuple [.Name x px, .Name y py] kt pt] (.Tuple [a, b] k2 pt2) pos.line X.env = pure false := by rfl) :
    WS X (.Assign [.Tuple [.Name x px, .Name y py] kt pt] (.Tuple [a, b] k2 pt2) pos) Γ μ k := fun Z σ H en ok tk => by
  refine toSS (ps_par hc n1.nd n1.ix n2.ix hij l1 l2 pa_S hw hs) ?_
  refine h.use (Go.refl ok) en tk fun vs H1 μ1 ds g1 _ en1 i1 q1 => ?_
  obtain ⟨d1, d2, Γ1, Γ2, rfl, s1, s2, q⟩ := q1
  cases i1 with
  | cons r1 t1 =>
    cases t1 with
    | cons r2 t2 =>
      cases t2
      exact ⟨_, _, rfl, Γ2, μ1, g1, by rw [s2.eq, s1.eq]; exact (en1.set i r1).set j r2, q⟩
/-- x += e (ints) -/
theorem ws_augI {x : Str} {i : Nat} {op : Operator} {C : Int → Int → Prop} {g : Int → Int → Int} (n : Nw X x i) (ho : OpR X (inplaceOp op) (rI C fun i j => .int (g i j)))
    (h : ∃ m, Γ[i]? = some (some (.int m)) ∧ WE X e Γ μ fun μ1 y => ∃ j Γ', y = .int j ∧ C m j ∧ SetTo Γ i (.int (g m j)) Γ' ∧ k.nx Γ' μ1) : WS X (.AugAssign (.Name x p0) op e pos) Γ μ k := fun Z σ H en ok tk => by
  refine toSS (ps_aug (ti := rI C fun i j => .int (g i j)) n.nd n.ix n.loc pe_S (fun pins s σ H x y v u Q I r1 r2 q => ho pins s σ H x y v u Q I r1 r2 q) n.fn) ?_
  obtain ⟨m, e1, h⟩ := h
  obtain ⟨v, h1, h2⟩ := en.at_ i _ e1
  rw [isInt h2] at h1
  refine ⟨.int m, h1, ?_⟩
  refine h.use (Go.refl ok) en tk fun w H1 μ1 d g1 _ en1 i1 q1 => ?_
  obtain ⟨j, Γ', rfl, hc, s, q⟩ := q1
  rw [isInt i1]
  exact ⟨m, j, rfl, rfl, hc, Γ', μ1, g1, by rw [s.eq]; exact en1.set i (.int _), q⟩
theorem iop_addX : OpR X (inplaceOp .Add) (rI (fun _ _ => True) fun i j => .int (i + j)) := opI fun _ _ _ _ _ _ _ _ q => iadd_int q
theorem iop_mulX : OpR X (inplaceOp .Mult) (rI MulOk fun i j => .int (i * j)) := opI fun _ _ _ _ _ _ _ hc q => imul_int q hc.ok
theorem iop_divX : OpR X (inplaceOp .FloorDiv) (rI CDivW fun i j => .int (i / j)) := opI fun i j _ _ _ _ _ hc q => by
  have h1 : (0 : Int) < j := hc.1
  exact ifloordiv_int (by omega) (by rw [Int.fdiv_eq_ediv_of_nonneg i (by omega)]; exact q) (.inl (PyProof.noPylong_of_log2 hc.2))
theorem ws_while (hp : PassesOwn (model X.prog X.w) X.A X.env X.xe) (I : Nat → Gm → Mu → Prop) (h0 : ∃ m, I m Γ μ)
    (hs : ∀ m Γ' μ', I m Γ' μ' → WT X c Γ' μ' fun μ1 b => if b = true then WB X body Γ' μ1 ⟨fun Γ2 μ2 => ∃ m', m' < m ∧ I m' Γ2 μ2, k.rt, k.nx, fun Γ2 μ2 => ∃ m', m' < m ∧ I m' Γ2 μ2⟩ else k.nx Γ' μ1) : WS X (.While c body [] pos) Γ μ k := fun Z σ H en ok tk => by
  refine toSS (ps_while hp pt_S pss_S) ?_
  obtain ⟨m0, h0⟩ := h0
  refine ⟨fun m σ' H' => ∃ Γ' μ', Go X.K Z μ H μ' H' ∧ En X.K (Av μ' Z) H' σ' Γ' ∧ I m Γ' μ', ⟨m0, Γ, μ, Go.refl ok, en, h0⟩, fun m σ1 H1 ⟨Γ1, μ1, g1, en1, i1⟩ => ?_⟩
  refine (hs m Γ1 μ1 i1).use g1 en1 tk fun b H2 μ2 g2 _ en2 q2 => ?_
  cases b with
  | true =>
    have q3 : WB X body Γ1 μ2 ⟨fun Γ2 μ2 => ∃ m', m' < m ∧ I m' Γ2 μ2, k.rt, k.nx, fun Γ2 μ2 => ∃ m', m' < m ∧ I m' Γ2 μ2⟩ := q2
    exact ⟨PostN X.K Z μ H fun Γ2 μ2 => ∃ m', m' < m ∧ I m' Γ2 μ2, fun σ' H' ⟨Γ2, μ2, g, en', m', l, i⟩ => ⟨m', l, Γ2, μ2, g, en', i⟩, q3.use g2 en2 tk⟩
  | false => exact ⟨Γ1, μ2, g2, en2, q2⟩
theorem ws_for (hp : PassesOwn (model X.prog X.w) X.A X.env X.xe) (hc : X.calm = true)
    (h : WI X tg iter Γ μ fun μ1 ds G => ∃ I : Nat → Gm → Mu → Prop, I 0 Γ μ1 ∧ (∀ i Γ' μ', i ≤ ds.length → I i Γ' μ' → G μ') ∧
      (∀ i d Γ' μ', ds[i]? = some d → I i Γ' μ' → WGx X tg d Γ' μ' fun Γ2 μ2 => WB X body Γ2 μ2 ⟨I (i + 1), k.rt, k.nx, I (i + 1)⟩) ∧ (∀ Γ' μ', I ds.length Γ' μ' → k.nx Γ' μ'))
    (hs : ∀ x, foldedSetIterable iter X.env x = pure x := by intro _; rfl) : WS X (.For tg iter body [] pos) Γ μ k := fun Z σ H en ok tk => by
  refine toSS (ps_for hp hc pi_S pg_S pss_S hs) ?_
  intro pins s J
  refine thn (h Z σ H en ok tk pins s J) fun v s1 q => thn q fun itv s2 q2 => ?_
  obtain ⟨it, fp, tn, J, H1, e1, I1, T, st, fo, μ1, ds, G, g1, Y, I, h0, hG, hb, hd⟩ := q2
  refine ⟨it, fp, tn, J, H1, e1, I1, T, st, fo, ?_⟩
  refine ⟨fun i m σ' H' => m = ds.length - i ∧ i ≤ ds.length ∧ ∃ Γ' μ', Go X.K Z μ1 H1 μ' H' ∧ En X.K (Av μ' Z) H' σ' Γ' ∧ I i Γ' μ', ⟨ds.length, rfl, Nat.zero_le _, Γ, μ1, Go.refl g1.ok, en.mono g1.fz, h0⟩, ?_⟩
  rintro i m σ' H' ⟨rfl, hi, Γ', μ', g, en', ii⟩
  obtain ⟨y1, y2⟩ := Y Z i μ' H' g.ok g.fz (hG i Γ' μ' hi ii)
  by_cases hlt : i < ds.length
  · refine .inr ⟨(y1 hlt).1, PostN X.K Z μ1 H1 (I (i + 1)), fun σ2 H2 ⟨Γ2, μ2, g2, en2, i2⟩ => ⟨ds.length - (i + 1), by omega, rfl, hlt, Γ2, μ2, g2, en2, i2⟩, fun x H2 hy => ?_⟩
    obtain ⟨d, hd1, g2, is⟩ := (y1 hlt).2 x H2 hy
    refine ((hb i d Γ' μ' hd1 ii) Z σ' H2 x (en'.mono g2.fz) g2.ok (tk.up ((g1.trans g).trans g2)) is).mono fun σ3 H3 ⟨Γ3, μ3, g3, en3, q3⟩ => ?_
    have g13 := (g.trans g2).trans g3
    refine SB.mono ?_ (q3 Z σ3 H3 en3 g3.ok (tk.up (g1.trans g13)))
    exact ⟨fun σ4 H4 p => PostN.up g13 p, fun v H4 p => PostE.up (g1.trans g13) p, fun σ4 H4 p => PostN.up (g1.trans g13) p, fun σ4 H4 p => PostN.up g13 p⟩
  · have e : i = ds.length := by omega
    subst e
    exact .inl ⟨y2 (Nat.le_refl _), Γ', μ', g1.trans g, en', hd Γ' μ' ii⟩
end
end DL

set_option Elab.async false
set_option linter.all false
set_option maxRecDepth 100000
set_option maxHeartbeats 2000000
namespace DL
open PySem PySem.Spec PyProof.Rows L2

section
variable {X : Cz} {Γ Γ' : Gm} {μ : Mu} {a b c e o iter tg : Expr} {es : List Expr} {pos p0 : Pos} {R : Mu → List D → (Mu → Prop) → Prop}
/-- a list to be walked -/
def SeqL (μ : Mu) (x : D) (ds : List D) : Prop := x = .lst ds ∨ x = .scr ds ∨ ∃ p, x = .ref p ∧ μ p = some (.lst ds)
theorem SeqL.l {ds : List D} : SeqL μ (.lst ds) ds := .inl rfl
theorem SeqL.m {ds : List D} {p : Addr} (h : μ p = some (.lst ds)) : SeqL μ (.ref p) ds := .inr (.inr ⟨p, rfl, h⟩)
theorem SeqL.r {ds : List D} : SeqL μ (.scr ds) ds := .inr (.inl rfl)
def SeqLQ (μ : Mu) (x : D) (R : List D → Prop) : Prop := ∃ ds, SeqL μ x ds ∧ R ds
theorem seql_l {ds : List D} {R : List D → Prop} (h : R ds) : SeqLQ μ (.lst ds) R := ⟨ds, .l, h⟩
theorem seql_s {ds : List D} {R : List D → Prop} (h : R ds) : SeqLQ μ (.scr ds) R := ⟨ds, .r, h⟩
theorem seql_m {p : Addr} {ds : List D} {R : List D → Prop} (e : μ p = some (.lst ds)) (h : R ds) : SeqLQ μ (.ref p) R := ⟨ds, .m e, h⟩
/-- it stands still -/
def Still (x : D) (ds : List D) (μ : Mu) : Prop := ∀ p, x = .ref p → μ p = some (.lst ds)
section
variable {K : PySem.W.Frag} {Z Z' : Addr → Prop} {μ' : Mu} {H H' : Hp} {v : V} {x : D} {ds : List D}
/-- such a list, as it stands now and later -/
theorem SeqL.at (s : SeqL μ x ds) (ok : Ok K μ Z H) (h : Is K (Av μ Z) H v x) : ∃ p, v = .ref p ∧ ∀ Z' μ' H', Ok K μ' Z' H' → Fz (Av μ Z) H (Av μ' Z') H' → Still x ds μ' → ∃ vs, SqL K H' p vs ∧ IsA K (Av μ' Z') H' vs ds := by
  rcases s with rfl | rfl | ⟨p, rfl, e⟩
  · cases h with
    | lst h t => exact ⟨_, rfl, fun Z' μ' H' _ f _ => ⟨_, (h.mono f).sq, t.mono f⟩⟩
  · cases h with
    | scr h t => exact ⟨_, rfl, fun Z' μ' H' _ f _ => ⟨_, (h.mono f).sq, t.mono f⟩⟩
  · cases isRef h
    refine ⟨p, rfl, fun Z' μ' H' ok' f st => ?_⟩
    obtain ⟨vs, e1, t⟩ := ok'.at_ p _ (st p rfl)
    exact ⟨vs, .of e1, t⟩
theorem SeqL.still (s : SeqL μ x ds) : Still x ds μ := by
  rcases s with rfl | rfl | ⟨p, rfl, e⟩
  · intro p z; cases z
  · intro p z; cases z
  · intro q z; cases z; exact e
end
theorem Fz.self {A : Addr → Prop} {H : Hp} : Fz A H A H := Fz.refl
theorem wi_list (h : WE X iter Γ μ fun μ1 x => SeqLQ μ1 x fun ds => R μ1 ds (Still x ds)) : WI X tg iter Γ μ R := fun Z σ H en ok tk => by
  refine toI (pi_list pe_S) ?_
  refine h.use (Go.refl ok) en tk fun v H1 μ1 x g1 _ en1 i1 q1 => ?_
  obtain ⟨ds, sq, q⟩ := q1
  obtain ⟨p, rfl, at_⟩ := sq.at g1.ok i1
  obtain ⟨vs, s1, t1⟩ := at_ Z μ1 H1 g1.ok Fz.refl sq.still
  refine ⟨p, rfl, ⟨vs, s1⟩, μ1, ds, _, g1, ?_, q⟩
  intro Z' i μ' H' ok' f st
  obtain ⟨vs', s', t'⟩ := at_ Z' μ' H' ok' f st
  refine ⟨fun hi => ?_, fun hi => ⟨vs', s', by rw [t'.length]; exact hi⟩⟩
  have hv : i < vs'.length := by rw [t'.length]; exact hi
  refine ⟨⟨vs', vs'[i], s', List.getElem?_eq_getElem hv⟩, fun w H2 ⟨e, y⟩ => ?_⟩
  subst e
  obtain ⟨d, h1, h2⟩ := t'.getV (y vs' s')
  exact ⟨d, h1, Go.refl ok', h2⟩
theorem wi_tup (h : WE X iter Γ μ fun μ1 x => ∃ ds, x = .tup ds ∧ R μ1 ds fun _ => True) : WI X tg iter Γ μ R := fun Z σ H en ok tk => by
  refine toI (pi_tup pe_S) ?_
  refine h.use (Go.refl ok) en tk fun v H1 μ1 x g1 _ en1 i1 q1 => ?_
  obtain ⟨ds, rfl, q⟩ := q1
  cases i1 with
  | tup r t =>
    rename_i p vs
    refine ⟨p, rfl, ⟨vs, r.sq⟩, μ1, ds, _, g1, ?_, q⟩
    intro Z' i μ' H' ok' f _
    have s' := (r.mono f).sq
    have t' := t.mono f
    refine ⟨fun hi => ?_, fun hi => ⟨vs, s', by rw [t'.length]; exact hi⟩⟩
    have hv : i < vs.length := by rw [t'.length]; exact hi
    refine ⟨⟨vs, vs[i], s', List.getElem?_eq_getElem hv⟩, fun w H2 ⟨e, y⟩ => ?_⟩
    subst e
    obtain ⟨d, h1, h2⟩ := t'.getV (y vs s')
    exact ⟨d, h1, Go.refl ok', h2⟩
def rangeD (lo : Int) (n : Nat) : List D := (List.range n).map fun (i : Nat) => D.int (lo + i)
theorem rangeD_len {lo : Int} {n : Nat} : (rangeD lo n).length = n := by simp [rangeD]
theorem rangeD_get {lo : Int} {n i : Nat} {d : D} (h : (rangeD lo n)[i]? = some d) : i < n ∧ d = .int (lo + i) := by
  have hi : i < (rangeD lo n).length := (List.getElem?_eq_some_iff.mp h).1
  rw [rangeD_len] at hi
  refine ⟨hi, ?_⟩
  simp only [rangeD, List.getElem?_map, List.getElem?_range hi, Option.map_some, Option.some.injEq] at h
  exact h.symm
theorem rangeD_yields {K : PySem.W.Frag} {Z : Addr → Prop} {H : Hp} {lo : Int} {n : Nat} : Yields K Z μ H (Itr lo n) (rangeD lo n) fun _ => True := by
  intro Z' i μ' H' ok' f _
  rw [rangeD_len]
  refine ⟨fun hi => ⟨hi, fun x H2 ⟨e, y⟩ => ?_⟩, fun hi => hi⟩
  subst e y
  refine ⟨.int (lo + i), ?_, Go.refl ok', .int _⟩
  simp [rangeD, List.getElem?_range hi]
theorem wi_range1 (B : Bl X "range") (h : WE X a Γ μ fun μ1 x => One x fun j => Req (-(2 ^ 62) ≤ j ∧ j < 2 ^ 62) <| R μ1 (rangeD 0 j.toNat) fun _ => True)
    (hs : starEach [a] X.env = [(false, eval a X.env)] := by rfl) (hs' : starEach [a] X.env = (false, eval a X.env) :: starEach [] X.env := by rfl) : WI X tg (.Call (.Name "range" p0) [a] [] pos) Γ μ R := fun Z σ H en ok tk => by
  refine toI (pi_range1 B.gl B.mg (pa_cons pe_S pa_nil hs') hs) ?_
  refine h.use (Go.refl ok) en tk fun v H1 μ1 x g1 _ en1 i1 q1 => ?_
  obtain ⟨j, rfl, ⟨h1, h2⟩, q⟩ := q1
  rw [isInt i1]
  exact ⟨j, rfl, h1, h2, μ1, _, _, g1, rangeD_yields, q⟩
theorem wi_range2 (B : Bl X "range") (h : WE X a Γ μ fun μ1 x => WE X b Γ μ1 fun μ2 y => Two x y fun i j => Req (-(2 ^ 62) ≤ i ∧ i < 2 ^ 62 ∧ -(2 ^ 62) ≤ j ∧ j < 2 ^ 62) <| R μ2 (rangeD i (j - i).toNat) fun _ => True)
    (hs : starEach [a, b] X.env = [(false, eval a X.env), (false, eval b X.env)] := by rfl) (hs2 : starEach [b] X.env = [(false, eval b X.env)] := by rfl)
    (hs' : starEach [a, b] X.env = (false, eval a X.env) :: starEach [b] X.env := by rfl) (hs3 : starEach [b] X.env = (false, eval b X.env) :: starEach [] X.env := by rfl) : WI X tg (.Call (.Name "range" p0) [a, b] [] pos) Γ μ R := fun Z σ H en ok tk => by
  refine toI (pi_range2 B.gl B.mg (pa_cons pe_S (pa_cons pe_S pa_nil hs3) hs') hs hs2) ?_
  refine h.use (Go.refl ok) en tk fun v H1 μ1 x g1 _ en1 i1 q1 => ?_
  refine q1.use g1 en1 tk fun w H2 μ2 y g2 _ en2 i2 q2 => ?_
  obtain ⟨i, j, rfl, rfl, ⟨h1, h2, h3, h4⟩, q⟩ := q2
  rw [isInt i1, isInt i2]
  exact ⟨i, j, rfl, ⟨h1, h2, h3, h4⟩, μ2, _, _, g2, rangeD_yields, q⟩
def enumD : List D → Nat → List D
  | [], _ => []
  | d :: r, n => .tup [.int (n : Int), d] :: enumD r (n + 1)
theorem enumD_len : ∀ (ds : List D) (n : Nat), (enumD ds n).length = ds.length
  | [], _ => rfl
  | _ :: r, n => congrArg (· + 1) (enumD_len r (n + 1))
theorem enumD_get : ∀ (ds : List D) (n i : Nat) (d : D), ds[i]? = some d → (enumD ds n)[i]? = some (.tup [.int ((n + i : Nat) : Int), d])
  | [], _, _, _, h => by simp at h
  | x :: r, n, 0, d, h => by simp at h; subst h; rfl
  | x :: r, n, i + 1, d, h => by
    have := enumD_get r (n + 1) i d (by simpa using h)
    show (enumD r (n + 1))[i]? = _
    rw [this, show n + 1 + i = n + (i + 1) by omega]
theorem enumD_inv {ds : List D} {i : Nat} {d : D} (h : (enumD ds 0)[i]? = some d) : ∃ x, ds[i]? = some x ∧ d = .tup [.int (i : Int), x] := by
  have hi : i < (enumD ds 0).length := (List.getElem?_eq_some_iff.mp h).1
  rw [enumD_len] at hi
  refine ⟨ds[i], List.getElem?_eq_getElem hi, ?_⟩
  have := enumD_get ds 0 i ds[i] (List.getElem?_eq_getElem hi)
  rw [h] at this
  have e := Option.some.inj this
  rw [e, Nat.zero_add]
theorem wi_enum {elts : List Expr} {kk : Nat} {tpos : Pos} (B : Bl X "enumerate") (h : WE X e Γ μ fun μ1 x => SeqLQ μ1 x fun ds => R μ1 (enumD ds 0) (Still x ds))
    (hs : starEach [e] X.env = [(false, eval e X.env)] := by rfl) (hs' : starEach [e] X.env = (false, eval e X.env) :: starEach [] X.env := by rfl) : WI X (.Tuple elts kk tpos) (.Call (.Name "enumerate" p0) [e] [] pos) Γ μ R := fun Z σ H en ok tk => by
  refine toI (pi_enum B.gl B.mg (pa_cons pe_S pa_nil hs') hs) ?_
  refine h.use (Go.refl ok) en tk fun v H1 μ1 x g1 _ en1 i1 q1 => ?_
  obtain ⟨ds, sq, q⟩ := q1
  obtain ⟨p, rfl, at_⟩ := sq.at g1.ok i1
  obtain ⟨vs, s1, t1⟩ := at_ Z μ1 H1 g1.ok Fz.refl sq.still
  refine ⟨p, vs, rfl, s1, μ1, _, _, g1, ?_, q⟩
  intro Z' i μ' H' ok' f st
  obtain ⟨vs', s', t'⟩ := at_ Z' μ' H' ok' f st
  rw [enumD_len]
  refine ⟨fun hi => ?_, fun hi => ⟨vs', s', by rw [t'.length]; exact hi⟩⟩
  have hv : i < vs'.length := by rw [t'.length]; exact hi
  refine ⟨⟨vs', vs'[i], s', List.getElem?_eq_getElem hv⟩, fun w H2 ⟨T, x', e1, hT, e2, y⟩ => ?_⟩
  subst e1 e2
  obtain ⟨d, h1, h2⟩ := t'.getV (y vs' s')
  refine ⟨_, enumD_get ds 0 i d h1, Go.frz ok' hT _, ?_⟩
  rw [Nat.zero_add]
  exact Is.newT ok' hT (.cons (.int _) (.cons h2 .nil))
def zipD : List D → List D → List D
  | a :: r, b :: s => .tup [a, b] :: zipD r s
  | _, _ => []
theorem zipD_len : ∀ (xs ys : List D), (zipD xs ys).length = min xs.length ys.length
  | [], ys => by simp [zipD]
  | _ :: _, [] => by simp [zipD]
  | a :: r, b :: s => by simp [zipD, zipD_len r s, Nat.succ_min_succ]
theorem zipD_get : ∀ (xs ys : List D) (i : Nat) (x y : D), xs[i]? = some x → ys[i]? = some y → (zipD xs ys)[i]? = some (.tup [x, y])
  | [], _, _, _, _, h, _ => by simp at h
  | _ :: _, [], _, _, _, _, h => by simp at h
  | a :: r, b :: s, 0, x, y, h1, h2 => by simp at h1 h2; subst h1 h2; rfl
  | a :: r, b :: s, i + 1, x, y, h1, h2 => zipD_get r s i x y (by simpa using h1) (by simpa using h2)
theorem zipD_inv {xs ys : List D} {i : Nat} {d : D} (h : (zipD xs ys)[i]? = some d) : ∃ x y, xs[i]? = some x ∧ ys[i]? = some y ∧ d = .tup [x, y] := by
  have hi : i < (zipD xs ys).length := (List.getElem?_eq_some_iff.mp h).1
  rw [zipD_len] at hi
  have h1 : i < xs.length := by omega
  have h2 : i < ys.length := by omega
  refine ⟨xs[i], ys[i], List.getElem?_eq_getElem h1, List.getElem?_eq_getElem h2, ?_⟩
  have := zipD_get xs ys i _ _ (List.getElem?_eq_getElem h1) (List.getElem?_eq_getElem h2)
  rw [h] at this
  exact Option.some.inj this
theorem wi_zip {elts : List Expr} {kk : Nat} {tpos : Pos} (B : Bl X "zip") (h : WE X a Γ μ fun μ1 x => WE X b Γ μ1 fun μ2 y => ∃ ds es, SeqL μ2 x ds ∧ SeqL μ2 y es ∧ R μ2 (zipD ds es) fun μ' => Still x ds μ' ∧ Still y es μ')
    (hs : starEach [a, b] X.env = (false, eval a X.env) :: starEach [b] X.env := by rfl) (hpl : (backTo pos (starEach [b] X.env)).any (·.1) = false := by rfl) (hs3 : starEach [b] X.env = (false, eval b X.env) :: starEach [] X.env := by rfl) :
    WI X (.Tuple elts kk tpos) (.Call (.Name "zip" p0) [a, b] [] pos) Γ μ R := fun Z σ H en ok tk => by
  refine toI (pi_zip B.gl B.mg (pa_cons pe_S (pa_cons pe_S pa_nil hs3) hs) hs hpl) ?_
  refine h.use (Go.refl ok) en tk fun v H1 μ1 x g1 _ en1 i1 q1 => ?_
  refine q1.use g1 en1 tk fun w H2 μ2 y g2 g2' en2 i2 q2 => ?_
  obtain ⟨ds, es, sq1, sq2, q⟩ := q2
  obtain ⟨p, rfl, at1⟩ := sq1.at g2.ok (i1.mono g2'.fz)
  obtain ⟨r, rfl, at2⟩ := sq2.at g2.ok i2
  obtain ⟨vs, s1, t1⟩ := at1 Z μ2 H2 g2.ok Fz.refl sq1.still
  obtain ⟨ws, s2, t2⟩ := at2 Z μ2 H2 g2.ok Fz.refl sq2.still
  refine ⟨p, r, vs, ws, rfl, s1, s2, μ2, _, _, g2, ?_, q⟩
  intro Z' i μ' H' ok' f st
  obtain ⟨vs', s1', t1'⟩ := at1 Z' μ' H' ok' f st.1
  obtain ⟨ws', s2', t2'⟩ := at2 Z' μ' H' ok' f st.2
  rw [zipD_len]
  refine ⟨fun hi => ?_, fun hi => ⟨vs', ws', s1', s2', by rw [t1'.length, t2'.length]; omega⟩⟩
  have hv : i < vs'.length := by rw [t1'.length]; omega
  have hw : i < ws'.length := by rw [t2'.length]; omega
  refine ⟨⟨vs', ws', vs'[i], ws'[i], s1', s2', List.getElem?_eq_getElem hv, List.getElem?_eq_getElem hw⟩, fun u H3 ⟨T, x', y', e1, hT, e2, yx, yy⟩ => ?_⟩
  subst e1 e2
  obtain ⟨d, h1, h2⟩ := t1'.getV (yx vs' s1')
  obtain ⟨d', h1', h2'⟩ := t2'.getV (yy ws' s2')
  exact ⟨_, zipD_get ds es i d d' h1 h1', Go.frz ok' hT _, Is.newT ok' hT (.cons h2 (.cons h2' .nil))⟩
end

/-- a comprehension's block -/
def Blk (X : Cz) (scope : Scope) (X' : Cz) : Prop := ∃ (s : Shared) (H : Hp) (C : Addr) (cl : List (Str × Addr)) (fp : List Addr), X' = ⟨X.toCx.blk s H scope (compEnvC scope cl C X.env) fp, fun _ _ _ => False⟩
def NoneAt (Γ : Gm) : List Nat → Prop
  | [] => True
  | i :: r => Γ[i]? = some none ∧ NoneAt Γ r
theorem NoneAt.get {Γ : Gm} : ∀ {ws : List Nat} {i : Nat}, NoneAt Γ ws → i ∈ ws → Γ[i]? = some none
  | w :: ws, i, h, hi => by
    rcases List.mem_cons.mp hi with e | hi
    · subst e; exact h.1
    · exact NoneAt.get h.2 hi
theorem wipe_get {σ : L2.St} {i : Nat} : ∀ {ws : List Nat}, i ∉ ws → (wipe σ ws)[i]? = σ[i]?
  | [], _ => rfl
  | w :: ws, h => by
    unfold wipe
    rw [List.getElem?_set_ne (fun e => h (by rw [e]; exact List.mem_cons_self))]
    exact wipe_get fun z => h (List.mem_cons_of_mem _ z)
theorem wipe_in {σ : L2.St} {i : Nat} : ∀ {ws : List Nat}, i ∈ ws → i < σ.length → (wipe σ ws)[i]? = some none
  | w :: ws, h, hl => by
    unfold wipe
    by_cases e : w = i
    · subst e
      exact List.getElem?_set_self (by rw [wipe_length]; exact hl)
    · rw [List.getElem?_set_ne e]
      rcases List.mem_cons.mp h with z | z
      · exact absurd z.symm e
      · exact wipe_in z hl
theorem wipe_wipe {σ : L2.St} {ws : List Nat} : wipe (wipe σ ws) ws = wipe σ ws := by
  apply List.ext_getElem?
  intro i
  by_cases hi : i ∈ ws
  · by_cases hl : i < σ.length
    · rw [wipe_in hi (by rw [wipe_length]; exact hl), wipe_in hi hl]
    · rw [List.getElem?_eq_none (by rw [wipe_length, wipe_length]; omega), List.getElem?_eq_none (by rw [wipe_length]; omega)]
  · rw [wipe_get hi]
theorem En.wipe {K : PySem.W.Frag} {A : Addr → Prop} {H : Hp} {σ : L2.St} {Γ : Gm} {ws : List Nat} (en : En K A H σ Γ) (n : NoneAt Γ ws) : En K A H (L2.wipe σ ws) Γ := by
  refine ⟨by rw [wipe_length]; exact en.len, fun i d e => ?_⟩
  obtain ⟨v, h1, h2⟩ := en.at_ i d e
  refine ⟨v, ?_, h2⟩
  rw [wipe_get fun z => by rw [n.get z] at e; cases e]
  exact h1
/-- the tests of a comprehension -/
def STs (X : Cx) (ifs : List Expr) (σ : L2.St) (H : Hp) (Q : Bool → Hp → Prop) : Prop := ∀ pins s, Inv X pins σ H s →
  wpAny (model X.prog X.w) X.A (forIn ifs true fun c r => if r = true then do let ok ← isTrue c X.env (eval c X.env); pure (ForInStep.yield ok) else pure (ForInStep.yield r)) (TP X pins σ Q) X.xe s
def WTs (X : Cz) (ifs : List Expr) (Γ : Gm) (μ : Mu) (Q : Mu → Bool → Prop) : Prop := ∀ Z σ H, En X.K (Av μ Z) H σ Γ → Ok X.K μ Z H → Tk X Z μ H → STs X ifs σ H (PostT X.K Z μ H Q)
theorem wts_nil {X : Cz} {Γ : Gm} {μ : Mu} {Q : Mu → Bool → Prop} (q : Q μ true) : WTs X [] Γ μ Q := fun Z σ H en ok tk pins s I => pts_nil.run pins s σ H _ I ⟨μ, Go.refl ok, q⟩
theorem wts_one {X : Cz} {Γ : Gm} {μ : Mu} {c : Expr} {Q : Mu → Bool → Prop} (h : WT X c Γ μ Q) : WTs X [c] Γ μ Q := fun Z σ H en ok tk pins s I => (pts_one pt_S).run pins s σ H _ I (h Z σ H en ok tk)
section
variable {K : PySem.W.Frag} {Z : Addr → Prop} {μ μ' : Mu} {H H' : Hp} {p : Addr}
/-- others' objects and one more -/
def orZ (Z : Addr → Prop) (p : Addr) : Addr → Prop := fun a => Z a ∨ a = p
theorem Fz.drop {A : Addr → Prop} {H : Hp} {B : Addr → Prop} (h : ∀ a, B a → A a) : Fz A H B H := fun a o e n => ⟨e, fun z => n (h a z)⟩
theorem av_orZ : ∀ a, Av μ Z a → Av μ (orZ Z p) a := fun a h => h.elim .inl fun z => .inr (.inl z)
theorem Ok.unhide (ok : Ok K μ (orZ Z p) H) : Ok K μ Z H := ⟨fun a o e => (ok.at_ a o e).mono (Fz.drop av_orZ) rfl, fun a z => ok.hid a (.inl z)⟩
theorem Ok.hide (ok : Ok K μ Z H) (h : H p = none) (u : HO) (hu : NoTup u := by intro _; nofun) : Ok K μ (orZ Z p) (upd H p u) ∧ Fz (Av μ Z) H (Av μ (orZ Z p)) (upd H p u) := by
  obtain ⟨n1, n2⟩ := ok.fresh h
  have fz : Fz (Av μ Z) H (Av μ (orZ Z p)) (upd H p u) := fun a o e n => by
    have ne := ne_of_none e h
    exact ⟨by rw [upd_ne ne]; exact e, fun z => z.elim (fun z => n (.inl z)) fun z => z.elim (fun z => n (.inr z)) ne⟩
  refine ⟨⟨fun a o e => (ok.at_ a o e).mono fz (upd_ne fun z => by subst z; rw [n1] at e; cases e), fun a z => ?_⟩, fz⟩
  rcases z with z | z
  · obtain ⟨z1, o, z2, z3⟩ := ok.hid a z
    exact ⟨z1, o, by rw [upd_ne (ne_of_none z2 h)]; exact z2, z3⟩
  · subst z; exact ⟨n1, u, upd_same, hu⟩
/-- the hidden object is written -/
theorem Ok.write (ok : Ok K μ (orZ Z p) H) (hz : ¬ Z p) (u : HO) (hu : NoTup u := by intro _; nofun) : Ok K μ (orZ Z p) (upd H p u) ∧ Fz (Av μ (orZ Z p)) H (Av μ (orZ Z p)) (upd H p u) := by
  have ne : ∀ a o, H a = some o → ¬ Av μ (orZ Z p) a → a ≠ p := fun a o _ n z => n (.inr (.inr z))
  have fz : Fz (Av μ (orZ Z p)) H (Av μ (orZ Z p)) (upd H p u) := fun a o e n => ⟨by rw [upd_ne (ne a o e n)]; exact e, n⟩
  refine ⟨⟨fun a o e => (ok.at_ a o e).mono fz (upd_ne fun z => ?_), fun a z => ?_⟩, fz⟩
  · subst z
    rw [(ok.hid a (.inr rfl)).1] at e; cases e
  · obtain ⟨z1, o, z2, z3⟩ := ok.hid a z
    by_cases ha : a = p
    · subst ha; exact ⟨z1, u, upd_same, hu⟩
    · exact ⟨z1, o, by rw [upd_ne ha]; exact z2, z3⟩
end
section
variable {X : Cz} {Γ : Gm} {μ : Mu} {elt tg iter : Expr} {ifs : List Expr} {scope : Scope} {own : List (Str × Nat)} {pos : Pos} {vs : List Nat} {Q : Mu → D → Prop}
/-- what the block is to show: J i acc of the state ahead of turn i; P at the end -/
def Lc (X : Cz) (elt tg : Expr) (ifs : List Expr) (scope : Scope) (vs : List Nat) (Γ : Gm) (μ1 : Mu) (ds : List D) (G : Mu → Prop) (P : List D → Mu → Prop) : Prop :=
  ∃ J : Nat → List D → Mu → Prop, J 0 [] μ1 ∧ (∀ i acc μ', i ≤ ds.length → J i acc μ' → G μ') ∧
    (∀ i d acc μ', ds[i]? = some d → J i acc μ' → ∃ Γ2, (∀ X', Blk X scope X' → WG X' tg vs d Γ μ' fun Γ3 μ3 => Γ3 = Γ2 ∧ μ3 = μ') ∧ ∀ X', Blk X scope X' → WTs X' ifs Γ2 μ' fun μ3 b =>
      if b = true then ∀ X', Blk X scope X' → WE X' elt Γ2 μ3 fun μ4 y => acc.length < sizeLine ∧ J (i + 1) (acc ++ [y]) μ4 else J (i + 1) acc μ3) ∧
    (∀ acc μ', J ds.length acc μ' → P acc μ')
theorem SI.mono {σ : L2.St} {H : Hp} {R R' : It → Hp → Prop} (h : SI X tg iter σ H R) (f : ∀ J H', R J H' → R' J H') : SI X tg iter σ H R' := fun pins s I => thn (h pins s I) fun v s1 q => thn q fun itv s2 q2 => by
  obtain ⟨it, fp, tn, J, H1, e1, I1, T, st, fo, r⟩ := q2
  exact ⟨it, fp, tn, J, H1, e1, I1, T, st, fo, f J H1 r⟩
theorem STs.mono {σ : L2.St} {H : Hp} {Q Q' : Bool → Hp → Prop} (h : STs X ifs σ H Q) (f : ∀ b H', Q b H' → Q' b H') : STs X ifs σ H Q' := fun pins s I => thn (h pins s I) fun _ _ ⟨H', I', q⟩ => ⟨H', I', f _ _ q⟩
theorem lc_read (hn : NoneAt Γ (own.map (·.2))) (hv : ∀ i ∈ vs, i ∈ own.map (·.2)) {σ : L2.St} {Z : Addr → Prop} {H : Hp} {Qv : VK} (en : En X.K (Av μ Z) H σ Γ) (ok : Ok X.K μ Z H) (tk : Tk X Z μ H) {P : List D → Mu → Prop}
    (fin : ∀ D μ1 H1 μ' H' acc ws, H1 D = none → Go X.K Z μ H μ1 H1 → Ok X.K μ' (orZ Z D) H' → Fz (Av μ1 Z) H1 (Av μ' (orZ Z D)) H' → (∀ a, Z a → H' a = H1 a) → H' D = some (.lst ws) → IsA X.K (Av μ' (orZ Z D)) H' ws acc → P acc μ' → Qv (.ref D) H')
    (h : WI X tg iter Γ μ fun μ1 ds G => Lc X elt tg ifs scope vs Γ μ1 ds G P) :
    tLc (SI X tg iter) (fun v σ H Q => ∀ s H0 C cl fp, SG (X.toCx.blk s H0 scope (compEnvC scope cl C X.env) fp) tg v σ H Q) (fun σ H Q => ∀ s H0 C cl fp, STs (X.toCx.blk s H0 scope (compEnvC scope cl C X.env) fp) ifs σ H Q)
      (fun σ H Q => ∀ s H0 C cl fp, SE (X.toCx.blk s H0 scope (compEnvC scope cl C X.env) fp) elt σ H Q) (own.map (·.2)) σ H Qv := by
  refine SI.mono (h Z σ H en ok tk) fun J H1 q1 => ?_
  obtain ⟨μ1, ds, G, g1, Y, Jn, j0, jG, jb, jd⟩ := q1
  intro D hD
  obtain ⟨_, nz⟩ := g1.ok.fresh hD
  obtain ⟨ok0, fz0⟩ := g1.ok.hide hD (.lst [])
  refine ⟨fun i m H' => m = ds.length - i ∧ i ≤ ds.length ∧ ∃ acc ws μ', Ok X.K μ' (orZ Z D) H' ∧ Fz (Av μ1 Z) H1 (Av μ' (orZ Z D)) H' ∧ (∀ a, Z a → H' a = H1 a) ∧ H' D = some (.lst ws) ∧ IsA X.K (Av μ' (orZ Z D)) H' ws acc ∧ Jn i acc μ',
    ⟨ds.length, rfl, Nat.zero_le _, [], [], μ1, ok0, fz0, fun a z => upd_ne fun e => nz (by rw [← e]; exact z), upd_same, .nil, j0⟩, ?_⟩
  rintro i m H' ⟨rfl, hi, acc, ws, μ', ok', fz', zk', hDl, t', hj⟩
  obtain ⟨y1, y2⟩ := Y (orZ Z D) i μ' H' ok' fz' (jG i acc μ' hi hj)
  by_cases hlt : i < ds.length
  · refine .inr ⟨(y1 hlt).1, fun H2 => ∃ acc ws μ', Ok X.K μ' (orZ Z D) H2 ∧ Fz (Av μ1 Z) H1 (Av μ' (orZ Z D)) H2 ∧ (∀ a, Z a → H2 a = H1 a) ∧ H2 D = some (.lst ws) ∧ IsA X.K (Av μ' (orZ Z D)) H2 ws acc ∧ Jn (i + 1) acc μ', fun H2 q => ⟨ds.length - (i + 1), by omega, rfl, hlt, q⟩, fun x H2 hy => ?_⟩
    obtain ⟨d, hd1, g2, is⟩ := (y1 hlt).2 x H2 hy
    obtain ⟨Γ2, hg, ht⟩ := jb i d acc μ' hd1 hj
    have enw : En X.K (Av μ' (orZ Z D)) H2 (L2.wipe σ (own.map (·.2))) Γ := ((en.mono g1.fz).mono (fz'.trans g2.fz)).wipe hn
    intro s0 H0 C0 cl0 fp0
    refine ((hg _ ⟨s0, H0, C0, cl0, fp0, rfl⟩) (orZ Z D) _ H2 x enw g2.ok (Tk.never fun _ _ _ z => z) is).mono fun σ3 H3 ⟨⟨Γ3, μ3, g3, en3, e3, e4⟩, w3⟩ => ?_
    subst e3 e4
    refine ⟨(w3 _ hv).trans wipe_wipe, ?_⟩
    intro s0 H0 C0 cl0 fp0
    refine STs.mono ((ht _ ⟨s0, H0, C0, cl0, fp0, rfl⟩) (orZ Z D) σ3 H3 en3 g3.ok (Tk.never fun _ _ _ z => z)) fun b H4 ⟨μ4, g4, q4⟩ => ?_
    have g24 := (g2.trans g3).trans g4
    cases b with
    | false => exact ⟨acc, ws, μ4, g4.ok, fz'.trans g24.fz, fun a z => (g24.zk a (.inl z)).trans (zk' a z), (g24.zk D (.inr rfl)).trans hDl, t'.mono g24.fz, q4⟩
    | true =>
      show ∀ s H0 C cl fp, SE _ elt σ3 H4 _
      intro s0 H0 C0 cl0 fp0
      refine ((q4 _ ⟨s0, H0, C0, cl0, fp0, rfl⟩) (orZ Z D) σ3 H4 (en3.mono g4.fz) g4.ok (Tk.never fun _ _ _ z => z)).mono fun y H5 ⟨μ5, d5, g5, i5, hl, q5⟩ => ?_
      have g25 := g24.trans g5
      have hD5 : H5 D = some (.lst ws) := (g25.zk D (.inr rfl)).trans hDl
      have t5 := t'.mono g25.fz
      obtain ⟨ok6, fz6⟩ := g5.ok.write nz (.lst (ws ++ [y]))
      refine ⟨ws, hD5, by rw [t5.length]; exact hl, acc ++ [d5], ws ++ [y], μ5, ok6, (fz'.trans g25.fz).trans fz6, fun a z => ?_, upd_same, (t5.append (.cons i5 .nil)).mono fz6, q5⟩
      rw [upd_ne (fun e => nz (by rw [← e]; exact z))]
      exact (g25.zk a (.inl z)).trans (zk' a z)
  · have e : i = ds.length := by omega
    subst e
    exact .inl ⟨y2 (Nat.le_refl _), fin D μ1 H1 μ' H' acc ws hD g1 ok' fz' zk' hDl t' (jd acc μ' hj)⟩
theorem pts_S {scope : Scope} : ∀ (s : Shared) (H : Hp) (C : Addr) (cl : List (Str × Addr)) (fp : List Addr), PTs (X.toCx.blk s H scope (compEnvC scope cl C X.env) fp) ifs (fun σ H Q => ∀ s H0 C cl fp, STs (X.toCx.blk s H0 scope (compEnvC scope cl C X.env) fp) ifs σ H Q) :=
  fun s H C cl fp => ⟨fun _ _ _ _ _ I h => h s H C cl fp _ _ I⟩
theorem pgb_S {scope : Scope} : ∀ (s : Shared) (H : Hp) (C : Addr) (cl : List (Str × Addr)) (fp : List Addr), PG (X.toCx.blk s H scope (compEnvC scope cl C X.env) fp) tg (fun v σ H Q => ∀ s H0 C cl fp, SG (X.toCx.blk s H0 scope (compEnvC scope cl C X.env) fp) tg v σ H Q) :=
  fun s H C cl fp => ⟨fun _ _ _ _ _ _ _ I r h => h s H C cl fp _ _ _ I r⟩
theorem peb_S {scope : Scope} : ∀ (s : Shared) (H : Hp) (C : Addr) (cl : List (Str × Addr)) (fp : List Addr), PE (X.toCx.blk s H scope (compEnvC scope cl C X.env) fp) elt (fun σ H Q => ∀ s H0 C cl fp, SE (X.toCx.blk s H0 scope (compEnvC scope cl C X.env) fp) elt σ H Q) :=
  fun s H C cl fp => ⟨fun _ _ _ _ _ I h => h s H C cl fp _ _ I⟩
/-- the new list, fixed | to be changed -/
theorem lc_fix {K : PySem.W.Frag} {Z : Addr → Prop} {μ μ1 μ' : Mu} {H H1 H' : Hp} {p : Addr} {acc : List D} {ws : List V} (hD : H1 p = none) (g1 : Go K Z μ H μ1 H1) (ok' : Ok K μ' (orZ Z p) H') (fz' : Fz (Av μ1 Z) H1 (Av μ' (orZ Z p)) H') (zk' : ∀ a, Z a → H' a = H1 a)
    (hl : H' p = some (.lst ws)) (t' : IsA K (Av μ' (orZ Z p)) H' ws acc) : Go K Z μ H μ' H' ∧ Is K (Av μ' Z) H' (.ref p) (.lst acc) := by
  have d := Fz.drop (H := H') (av_orZ (μ := μ') (Z := Z) (p := p))
  obtain ⟨_, nz⟩ := g1.ok.fresh hD
  refine ⟨g1.trans ⟨ok'.unhide, fz'.trans d, zk'⟩, .lst ⟨?_, .inl hl⟩ (t'.mono d)⟩
  rintro (z | z)
  · exact z (ok'.hid p (.inr rfl)).1
  · exact nz z
theorem lc_mut {K : PySem.W.Frag} {Z : Addr → Prop} {μ μ1 μ' : Mu} {H H1 H' : Hp} {p : Addr} {acc : List D} {ws : List V} (hD : H1 p = none) (g1 : Go K Z μ H μ1 H1) (ok' : Ok K μ' (orZ Z p) H') (fz' : Fz (Av μ1 Z) H1 (Av μ' (orZ Z p)) H') (zk' : ∀ a, Z a → H' a = H1 a)
    (hl : H' p = some (.lst ws)) (t' : IsA K (Av μ' (orZ Z p)) H' ws acc) : μ' p = none ∧ Go K Z μ H (updM μ' p (.lst acc)) H' := by
  obtain ⟨n1, nz⟩ := g1.ok.fresh hD
  have n' := (ok'.hid p (.inr rfl)).1
  have d : Fz (Av μ' (orZ Z p)) H' (Av (updM μ' p (.lst acc)) Z) H' := fun a o e n => ⟨e, by
    rintro (z | z)
    · by_cases ha : a = p
      · exact n (.inr (.inr ha))
      · rw [updM_ne ha] at z; exact n (.inl z)
    · exact n (.inr (.inl z))⟩
  refine ⟨n', g1.trans ⟨⟨fun a o e => ?_, fun a z => ?_⟩, fz'.trans d, zk'⟩⟩
  · by_cases ha : a = p
    · subst ha
      rw [updM_same] at e; cases e
      exact ⟨ws, hl, t'.mono d⟩
    · rw [updM_ne ha] at e
      exact (ok'.at_ a o e).mono d rfl
  · obtain ⟨z1, z2⟩ := ok'.hid a (.inl z)
    have ha : a ≠ p := fun e => nz (by rw [← e]; exact z)
    exact ⟨by rw [updM_ne ha]; exact z1, z2⟩
theorem we_lc (hc : X.calm = true) (hN : X.N.Nodup) (ok : BlkOk X.N X.env.scope scope own) (hn : NoneAt Γ (own.map (·.2))) (hv : ∀ i ∈ vs, i ∈ own.map (·.2))
    (h : WI X tg iter Γ μ fun μ1 ds G => Lc X elt tg ifs scope vs Γ μ1 ds G fun acc μ' => Q μ' (.lst acc)) (hs : ∀ x, foldedSetIterable iter X.env x = pure x := by intro _; rfl) : WE X (.ListComp elt [⟨tg, iter, ifs, 0⟩] scope pos) Γ μ Q := fun Z σ H en okm tk => by
  refine toS (pe_lc hc hN pi_S ok pgb_S pts_S peb_S hs) ?_
  refine lc_read hn hv en okm tk (fun D μ1 H1 μ' H' acc ws hD g1 ok' fz' zk' hl t' q => ?_) h
  obtain ⟨a1, a2⟩ := lc_fix hD g1 ok' fz' zk' hl t'
  exact ⟨μ', _, a1, a2, q⟩
theorem we_lcM (hc : X.calm = true) (hN : X.N.Nodup) (ok : BlkOk X.N X.env.scope scope own) (hn : NoneAt Γ (own.map (·.2))) (hv : ∀ i ∈ vs, i ∈ own.map (·.2))
    (h : WI X tg iter Γ μ fun μ1 ds G => Lc X elt tg ifs scope vs Γ μ1 ds G fun acc μ' => ∀ p, μ' p = none → Q (updM μ' p (.lst acc)) (.ref p)) (hs : ∀ x, foldedSetIterable iter X.env x = pure x := by intro _; rfl) : WE X (.ListComp elt [⟨tg, iter, ifs, 0⟩] scope pos) Γ μ Q := fun Z σ H en okm tk => by
  refine toS (pe_lc hc hN pi_S ok pgb_S pts_S peb_S hs) ?_
  refine lc_read hn hv en okm tk (fun D μ1 H1 μ' H' acc ws hD g1 ok' fz' zk' hl t' q => ?_) h
  obtain ⟨a1, a2⟩ := lc_mut hD g1 ok' fz' zk' hl t'
  exact ⟨_, _, a2, .ref D, q D a1⟩
/-- x = [..], x a local -/
theorem ws_setLc {k : Kt} {x : Str} {i : Nat} {px spos : Pos} (hc : X.calm = true) (n : Nw X x i) (hl : X.env.scope.names.lookup x = some .local) (hsw : swapsWith (.ListComp elt [⟨tg, iter, ifs, 0⟩] scope pos) (some (.Name x px)) spos.line X.env = pure true)
    (ok : BlkOk X.N X.env.scope scope own) (hn : NoneAt Γ (own.map (·.2))) (hv : ∀ i ∈ vs, i ∈ own.map (·.2))
    (h : WI X tg iter Γ μ fun μ1 ds G => Lc X elt tg ifs scope vs Γ μ1 ds G fun acc μ' => SetQ Γ i (.lst acc) fun Γ' => k.nx Γ' μ') (hs : ∀ x, foldedSetIterable iter X.env x = pure x := by intro _; rfl) : WS X (.Assign [.Name x px] (.ListComp elt [⟨tg, iter, ifs, 0⟩] scope pos) spos) Γ μ k := fun Z σ H en okm tk => by
  refine toSS (ps_setLc hc n.nd n.ix hl hsw pi_S ok pgb_S pts_S peb_S hs) ?_
  refine lc_read hn hv en okm tk (fun D μ1 H1 μ' H' acc ws hD g1 ok' fz' zk' hl t' q => ?_) h
  obtain ⟨a1, a2⟩ := lc_fix hD g1 ok' fz' zk' hl t'
  obtain ⟨Γ', s, q⟩ := q
  exact ⟨Γ', μ', a1, by rw [s.eq]; exact (en.mono a1.fz).set i a2, q⟩
theorem ws_setLcM {k : Kt} {x : Str} {i : Nat} {px spos : Pos} (hc : X.calm = true) (n : Nw X x i) (hl : X.env.scope.names.lookup x = some .local) (hsw : swapsWith (.ListComp elt [⟨tg, iter, ifs, 0⟩] scope pos) (some (.Name x px)) spos.line X.env = pure true)
    (ok : BlkOk X.N X.env.scope scope own) (hn : NoneAt Γ (own.map (·.2))) (hv : ∀ i ∈ vs, i ∈ own.map (·.2))
    (h : WI X tg iter Γ μ fun μ1 ds G => Lc X elt tg ifs scope vs Γ μ1 ds G fun acc μ' => ∀ p, μ' p = none → SetQ Γ i (.ref p) fun Γ' => k.nx Γ' (updM μ' p (.lst acc))) (hs : ∀ x, foldedSetIterable iter X.env x = pure x := by intro _; rfl) : WS X (.Assign [.Name x px] (.ListComp elt [⟨tg, iter, ifs, 0⟩] scope pos) spos) Γ μ k := fun Z σ H en okm tk => by
  refine toSS (ps_setLc hc n.nd n.ix hl hsw pi_S ok pgb_S pts_S peb_S hs) ?_
  refine lc_read hn hv en okm tk (fun D μ1 H1 μ' H' acc ws hD g1 ok' fz' zk' hl t' q => ?_) h
  obtain ⟨a1, a2⟩ := lc_mut hD g1 ok' fz' zk' hl t'
  obtain ⟨Γ', s, q⟩ := q D a1
  exact ⟨Γ', _, a2, by rw [s.eq]; exact (en.mono a2.fz).set i (.ref D), q⟩
end

/-- a def's own frame -/
structure Fr (X : Cz) : Prop where
  fn : ∀ x, X.fn x = true
  stk : X.stack = X.env :: X.outer
  frm : X.env.frame = some X.env.locals
structure Ctx (X : Cz) (P : Program) (w : World) (K : PySem.W.Frag) (mg : Str → Option Value) (base : Heap) (k : Nat) (N : List Str) (sc : Scope) : Prop where
  prog : X.prog = P
  w : X.w = w
  K : X.K = K
  mg : X.mg = mg
  base : X.base = base
  N : X.N = N
  sc : X.env.scope = sc
  calm : X.calm = true
  room : Room k X.A
  pass : PassesOwn (model X.prog X.w) X.A X.env X.xe
  nd : X.N.Nodup
def visB (sc : Scope) (x : Str) : Bool := match sc.names.lookup x with
  | some .local => true
  | some .cell => true
  | some .free => true
  | _ => false
def nmB (N : List Str) (sc : Scope) (x : Str) (i : Nat) : Bool := decide (N[i]? = some x) && visB sc x && !(x == ("__debug__" : Str)) && !(x == ("__classdict__" : Str))
def locB (sc : Scope) (x : Str) : Bool := match sc.names.lookup x with
  | some .local => true
  | _ => false
def celB (sc : Scope) (x : Str) : Bool := match sc.names.lookup x with
  | some .cell => true
  | _ => false
def glB (sc : Scope) (x : Str) : Bool := (match sc.names.lookup x with
  | some .globalImplicit => true
  | _ => false) && !(x == ("__debug__" : Str))
theorem visB_ok {sc : Scope} {x : Str} (h : visB sc x = true) : Vis sc x := by
  unfold visB at h
  split at h
  · exact .inl (by assumption)
  · exact .inr (.inl (by assumption))
  · exact .inr (.inr (by assumption))
  · cases h
theorem locB_ok {sc : Scope} {x : Str} (h : locB sc x = true) : sc.names.lookup x = some .local := by
  unfold locB at h
  split at h
  · assumption
  · cases h
theorem celB_ok {sc : Scope} {x : Str} (h : celB sc x = true) : sc.names.lookup x = some .cell := by
  unfold celB at h
  split at h
  · assumption
  · cases h
theorem glB_ok {sc : Scope} {x : Str} (h : glB sc x = true) : sc.names.lookup x = some .globalImplicit ∧ (x == ("__debug__" : Str)) = false := by
  unfold glB at h
  rw [Bool.and_eq_true] at h
  refine ⟨?_, by simpa using h.2⟩
  have h1 := h.1
  split at h1
  · assumption
  · cases h1
/-- a def that callers find by its name; j its level -/
def GFn (P : Program) (w : World) (K : PySem.W.Frag) (mg : Str → Option Value) (base : Heap) (x : Str) (j : Nat) (s : Spc) : Prop :=
  ∃ f fd ps, FnOk P w K mg base (L2.CX P w) j f fd ps (lift K s) ∧ mg x = some (.ref f) ∧ PySem.W.keepIn K (.ref f) = true ∧ Binds K fd ps [] ∧ s.Mono
def GFk (P : Program) (w : World) (K : PySem.W.Frag) (mg : Str → Option Value) (base : Heap) (x : Str) (j : Nat) (n : Nat) (ks : List Str) (g : {α : Type} → List α → List α → List α) (s : Spc) : Prop :=
  ∃ f fd ps, FnOk P w K mg base (L2.CX P w) j f fd ps (lift K s) ∧ mg x = some (.ref f) ∧ PySem.W.keepIn K (.ref f) = true ∧ KBn K fd ps n ks (fun us ws => g us ws) (fun us ws => g us ws) ∧ s.Mono
section
variable {X : Cz} {P : Program} {w : World} {K : PySem.W.Frag} {mg : Str → Option Value} {base : Heap} {k : Nat} {N : List Str} {sc scope : Scope}
theorem Ctx.nm (h : Ctx X P w K mg base k N sc) {x : Str} {i : Nat} (b : nmB N sc x i = true) : Nm X x i := by
  unfold nmB at b
  simp only [Bool.and_eq_true, decide_eq_true_eq, Bool.not_eq_true'] at b
  obtain ⟨⟨⟨b1, b2⟩, b3⟩, b4⟩ := b
  exact ⟨by rw [h.N]; exact b1, by rw [h.sc]; exact visB_ok b2, b3, b4⟩
theorem Ctx.nl (h : Ctx X P w K mg base k N sc) {x : Str} {i : Nat} (b : nmB N sc x i = true) (l : locB sc x = true) : Nw X x i :=
  ⟨h.nm b, h.nd, .inl (by rw [h.sc]; exact locB_ok l), .inr (by rw [h.sc]; exact locB_ok l)⟩
theorem Ctx.nc (h : Ctx X P w K mg base k N sc) (f : Fr X) {x : Str} {i : Nat} (b : nmB N sc x i = true) (l : celB sc x = true) : Nw X x i :=
  ⟨h.nm b, h.nd, .inr (by rw [h.sc]; exact celB_ok l), .inl (f.fn x)⟩
theorem Ctx.gl (h : Ctx X P w K mg base k N sc) {x : Str} (b : glB sc x = true) : Gl X x := by
  show X.env.scope.names.lookup x = _
  rw [h.sc]
  exact (glB_ok b).1
theorem Ctx.bl (h : Ctx X P w K mg base k N sc) {x : Str} (b : glB sc x = true) (m : mg x = none) : Bl X x := ⟨h.gl b, by rw [h.mg]; exact m⟩
theorem Ctx.cl (h : Ctx X P w K mg base k N sc) {x : Str} {j : Nat} {s : Spc} (c : GFn P w K mg base x j s) (b : glB sc x = true) (l : j ≤ k) : Cl X x s := by
  obtain ⟨f, fd, ps, F, hm, hk, hb, mo⟩ := c
  obtain ⟨rfl, rfl, rfl, rfl, rfl, rfl, rfl, _, hr, _⟩ := h
  exact ⟨mo, ⟨j, f, fd, ps, F, hr.mono l, hm, hk, hb⟩, (glB_ok b).1, (glB_ok b).2⟩
theorem Ctx.clK (h : Ctx X P w K mg base k N sc) {x : Str} {j n : Nat} {ks : List Str} {g : {α : Type} → List α → List α → List α} {s : Spc} (c : GFk P w K mg base x j n ks g s) (b : glB sc x = true) (l : j ≤ k)
    (rel : ∀ {K : PySem.W.Frag} {A : Addr → Prop} {H : Hp} {vs zs : List V} {ds es : List D}, vs.length = n → zs.length = ks.length → IsA K A H vs ds → IsA K A H zs es → IsA K A H (g vs zs) (g ds es)) : ClK X x n ks g s := by
  obtain ⟨f, fd, ps, F, hm, hk, hb, mo⟩ := c
  obtain ⟨rfl, rfl, rfl, rfl, rfl, rfl, rfl, _, hr, _⟩ := h
  exact ⟨mo, ⟨j, f, fd, ps, F, hr.mono l, hm, hk, hb⟩, (glB_ok b).1, (glB_ok b).2, rel⟩
theorem Ctx.blk (h : Ctx X P w K mg base k N sc) {X' : Cz} (b : Blk X scope X') : Ctx X' P w K mg base k N (relS scope sc) := by
  obtain ⟨s, H, C, cl, fp, rfl⟩ := b
  obtain ⟨h1, h2, h3, h4, h5, h6, h7, h8, h9, h10, h11⟩ := h
  exact ⟨h1, h2, h3, h4, h5, h6, by rw [← h7]; rfl, h8, h9, PassesOwn.never, h11⟩
theorem Ctx.blkOk (h : Ctx X P w K mg base k N sc) {own : List (Str × Nat)} (b : blkC N sc scope own = true) : BlkOk X.N X.env.scope scope own := by
  rw [h.N, h.sc]
  exact blkOk_by b
end
def startG (N : List Str) (ds : List D) : Gm := ds.map some ++ List.replicate (N.length - ds.length) none
theorem startG_en {K : PySem.W.Frag} {A : Addr → Prop} {H : Hp} {N : List Str} : ∀ {vs : List V} {ds : List D}, IsA K A H vs ds → En K A H (start N vs) (startG N ds) := by
  intro vs ds t
  refine ⟨by simp [L2.start, startG, t.length], fun i d e => ?_⟩
  unfold startG at e
  by_cases hi : i < ds.length
  · rw [List.getElem?_append_left (by simpa using hi), List.getElem?_map] at e
    cases q : ds[i]? with
    | none => rw [q] at e; cases e
    | some x =>
      rw [q] at e
      cases e
      obtain ⟨v, h1, h2⟩ := t.get q
      refine ⟨v, ?_, h2⟩
      unfold L2.start
      rw [List.getElem?_append_left (by rw [List.length_map, t.length]; exact hi), List.getElem?_map, h1]
      rfl
  · rw [List.getElem?_append_right (by simpa using hi), List.getElem?_replicate] at e
    split at e <;> cases e
section
variable {P : Program} {w : World} {K : PySem.W.Frag} {mg : Str → Option Value} {base : Heap}
abbrev BodyOk (P : Program) (w : World) (K : PySem.W.Frag) (mg : Str → Option Value) (base : Heap) (k : Nat) (N : List Str) (sc : Scope) (body : List Stmt) (sp : Spc) : Prop :=
  ∀ X, Ctx X P w K mg base k N sc → Fr X → ∀ ds μ Q E, (∀ Γ, X.xd Γ = E) → sp ds μ Q E → WB X body (startG N ds) μ ⟨fun _ μ' => Q μ' .non, Q, fun _ _ => False, fun _ _ => False⟩
theorem fn_core {qual : Str} {sc : Scope} {f : Addr} {cdv : Value} {A : Around} {outer : List Env} {s : Shared} {H : Hp} {E : XK} {N : List Str} {k : Nat} {body : List Stmt} {sp : Spc} {vs : List V} {Q : VK} (nd : N.Nodup)
    (hb : BodyOk P w K mg base k N sc body sp)
    (hr : Room k (A.deeper (envOfC qual sc s.heap.objs.size f cdv))) (h : lift K sp vs H Q E) :
    ∃ t, PSs (cxOf (L2.CX P w) P w K mg base N qual sc f cdv A outer s H E) body t ∧ t { nx := fun _ H' => Q .non H', rt := Q } (start N vs) H := by
  obtain ⟨ds, μ, Z, t, ok, h⟩ := h
  refine ⟨SB (cxOf (L2.CX P w) P w K mg base N qual sc f cdv A outer s H E) body, pss_S, ?_⟩
  let X : Cz := ⟨cxOf (L2.CX P w) P w K mg base N qual sc f cdv A outer s H E, fun _ μ' x => ∀ od H', Go K Z μ H μ' H' → XdIs K (Av μ' Z) H' od x → E x.cls od H'⟩
  have c : Ctx X P w K mg base k N sc := ⟨rfl, rfl, rfl, rfl, rfl, rfl, rfl, rfl, hr, passes_of rfl, nd⟩
  have tk : Tk X Z μ H := Takes.imp (takes_of (X := X.toCx) rfl rfl rfl rfl) fun cls od σ' H' ⟨Γ', μ', x, g, en, i, e, q⟩ => by
    subst e
    exact q od H' g i
  refine SB.mono ?_ (hb X c ⟨fun _ => rfl, rfl, rfl⟩ ds μ _ _ (fun _ => rfl) h Z (start N vs) H (startG_en t) ok tk)
  exact ⟨fun σ' H' ⟨Γ', μ', g, en, q⟩ => q .non H' g .non, fun v H' ⟨μ', d, g, i, q⟩ => q v H' g i, fun σ' H' ⟨Γ', μ', g, en, q⟩ => q, fun σ' H' ⟨Γ', μ', g, en, q⟩ => q⟩
theorem fn_dl {x qual : Str} {st : Stmt} {f : Addr} {fd : FuncData} {N ps : List Str} {k : Nat} {sp : Spc} (F : Fun K x qual st f fd) (S : FnScope N ps (defScope st)) (len : ∀ ds μ Q E, sp ds μ Q E → ds.length = ps.length)
    (body : BodyOk P w K mg base k N (defScope st) (defBody st) sp) : FnOk P w K mg base (L2.CX P w) (k + 1) f fd ps (lift K sp) := by
  refine F.okX S (fun vs H Q E h => ?_) fun cdv A outer s H vs Q E hr h => fn_core S.nd body hr h
  obtain ⟨ds, μ, Z, t, ok, h⟩ := h
  exact t.length.trans (len _ _ _ _ h)
theorem fn_dlD {x qual : Str} {st : Stmt} {dvs : List V} {kws : List (Str × V)} {f : Addr} {fd : FuncData} {N ps : List Str} {k : Nat} {sp : Spc} (F : FunD K x qual (defArgs st) (defBody st) (defScope st) dvs kws f fd) (S : FnScope N ps (defScope st)) (len : ∀ ds μ Q E, sp ds μ Q E → ds.length = ps.length)
    (body : BodyOk P w K mg base k N (defScope st) (defBody st) sp) : FnOk P w K mg base (L2.CX P w) (k + 1) f fd ps (lift K sp) := by
  refine F.ok S (fun vs H Q E h => ?_) fun cdv A outer s H vs Q E hr h => fn_core S.nd body hr h
  obtain ⟨ds, μ, Z, t, ok, h⟩ := h
  exact t.length.trans (len _ _ _ _ h)
/-- how keywords bind, where all parameters are written -/
theorem fun_kbn {x qual : Str} {st : Stmt} {f : Addr} {fd : FuncData} {ps ks : List Str} {n : Nat} {g : {α : Type} → List α → List α → List α} (F : Fun K x qual st f fd)
    (h : ∀ (kV doc pm : Value) (an : Option Addr) (cdv ct : Value) (us ws : List Value), us.length = n → ws.length = ks.length → bindArgs (PySem.W.fnOf x qual (defArgs st) (defBody st) (defScope st) .none kV doc pm an cdv ct) ⟨us, ks.zip ws⟩ = pure (ps.zip (g us ws)))
    (rel : ∀ {vs : List V} {us : List Value} {zs : List V} {ws : List Value}, Vals vs us → Vals zs ws → Vals (g vs zs) (g us ws)) : KBn K fd ps n ks (fun us ws => g us ws) (fun us ws => g us ws) := by
  obtain ⟨oc, od, kV, doc, pm, an, cdv, ct, osl, rfl, lk, hcd⟩ := F.ex
  exact ⟨fun s us ws X h1 h2 => .of_eq (h kV doc pm an cdv ct us ws h1 h2), rel⟩
end
def spLaw : Spc := fun ds _ Q _ => ∃ ns : List Int, ds = [.scr (ns.map D.int)] ∧ ns.length ≤ 63 ∧ (∀ z ∈ ns, Builtin.Int.intBits z ≤ 1048576) ∧ ∀ μ', Q μ' (.bl true)
theorem spLaw_start {K : PySem.W.Frag} {H : Hp} {a : Addr} {ns : List Int} (hl : ns.length ≤ 63) (hb : ∀ z ∈ ns, Builtin.Int.intBits z ≤ 1048576) (hS : SqL K H a (ns.map V.int)) : lift K spLaw [.ref a] H (fun v _ => v = .bl true) fun _ _ _ => False := by
  refine ⟨[.scr (ns.map D.int)], fun _ => none, fun _ => False, .cons (.scr ?_ (IsA.ints ns)) .nil, ⟨fun a o e => (nomatch e), fun a (z : False) => False.elim z⟩, ns, rfl, hl, hb, fun μ' v H' g i => isBl i⟩
  rcases hS with h | h
  · exact .inl ⟨fun z => Or.elim z (fun z => z rfl) fun z => z, h⟩
  · exact .inr h
end DL

set_option Elab.async false
set_option linter.all false
set_option maxRecDepth 100000
set_option maxHeartbeats 2000000
namespace DL
open PySem PySem.Spec PyProof.Rows L2

/-- a def that reckons: where f has a value for its arguments (and they are fit) it hands that back and leaves all as it was -/
def pureS (f : List D → Option D) (P : List D → Prop := fun _ => True) : Spc := fun ds μ Q _ => ∃ d, f ds = some d ∧ P ds ∧ Q μ d
theorem pure_i {f : List D → Option D} {P : List D → Prop} {ds : List D} {μ : Mu} {Q : Mu → D → Prop} {E : Mu → Xd → Prop} {d : D} (e : f ds = some d) (p : P ds) (q : Q μ d) : pureS f P ds μ Q E := ⟨d, e, p, q⟩
theorem pureS_mono {f : List D → Option D} {P : List D → Prop} : (pureS f P).Mono := fun ds μ Q E Q' E' h1 h2 ⟨d, e, p, q⟩ => ⟨d, e, p, h1 _ _ q⟩
/-- any def -/
def specS {α : Type} (pre : α → List D → Mu → Prop) (post : α → Mu → D → Prop) (xp : α → Mu → Xd → Prop := fun _ _ _ => False) : Spc := fun ds μ Q E => ∃ a, pre a ds μ ∧ (∀ μ' d, post a μ' d → Q μ' d) ∧ ∀ μ' x, xp a μ' x → E μ' x
theorem specS_mono {α : Type} {pre : α → List D → Mu → Prop} {post : α → Mu → D → Prop} {xp : α → Mu → Xd → Prop} : (specS pre post xp).Mono := fun ds μ Q E Q' E' h1 h2 ⟨a, p, q, x⟩ => ⟨a, p, fun μ' d h => h1 _ _ (q _ _ h), fun μ' d h => h2 _ _ (x _ _ h)⟩

theorem ite_dec {p A B : Prop} [Decidable p] (h1 : p → A) (h2 : ¬ p → B) : if decide p = true then A else B := by
  by_cases h : p
  · rw [if_pos (decide_eq_true h)]; exact h1 h
  · rw [if_neg (by simpa using h)]; exact h2 h
theorem ite_ndec {p A B : Prop} [Decidable p] (h1 : ¬ p → A) (h2 : p → B) : if (!decide p) = true then A else B := by
  by_cases h : p
  · rw [if_neg (by simpa using h)]; exact h2 h
  · rw [if_pos (by simpa using h)]; exact h1 h

theorem ite_nt {A B : Prop} (h : B) : if (!true) = true then A else B := h
theorem ite_nf {A B : Prop} (h : A) : if (!false) = true then A else B := h
theorem ediv_bd {a b M : Int} (hb : 0 < b) (h1 : -M ≤ a) (h2 : a ≤ M) : -M ≤ a / b ∧ a / b ≤ M := by
  have hM : 0 ≤ M := by omega
  have hm : M * 1 ≤ M * b := Int.mul_le_mul_of_nonneg_left hb hM
  rw [Int.mul_one] at hm
  refine ⟨Int.le_ediv_of_mul_le hb ?_, Int.ediv_le_of_le_mul hb (by omega)⟩
  rw [Int.neg_mul]
  omega
theorem MulOk.m {i j : Int} (h1 : -(10 ^ 70) < i) (h2 : i < 10 ^ 70) (h3 : -(10 ^ 70) < j) (h4 : j < 10 ^ 70) : DL.MulOk i j :=
  .inr (wide_mul (a := 240) (b := 240) (by omega) (by omega) (by decide) (by decide) (by decide))
section
variable {X : Cz} {P : Program} {w : World} {K : PySem.W.Frag} {mg : Str → Option Value} {base : Heap} {k : Nat} {N : List Str} {sc : Scope} {Γ : Gm} {μ : Mu} {kt : Kt} {elt tg iter c : Expr} {ifs : List Expr} {scope : Scope} {pos spos px : Pos} {vs : List Nat} {x : Str} {i : Nat} {body : List Stmt}
def kindB (sc : Scope) : Bool := match sc.kind with
  | .function => true
  | _ => false
theorem kindB_ok {sc : Scope} (h : kindB sc = true) : sc.kind = .function := by
  unfold kindB at h
  split at h
  · assumption
  · cases h
theorem ctx_setLc (h : Ctx X P w K mg base k N sc) (own : List (Str × Nat)) (n : Nw X x i) (q : WI X tg iter Γ μ fun μ1 ds G => Lc X elt tg ifs scope vs Γ μ1 ds G fun acc μ' => SetQ Γ i (.lst acc) fun Γ' => kt.nx Γ' μ')
    (bl : locB sc x = true := by decide +kernel) (bk : kindB sc = true := by decide +kernel) (ln : (px.line == pos.line) = true := by decide +kernel) (ha : (scope.names.any fun (n, k) => n == x && (k == .local || k == .cell)) = false := by decide +kernel)
    (bc : blkC N sc scope own = true := by decide +kernel) (hn : NoneAt Γ (own.map (·.2)) := by repeat (first | exact trivial | refine ⟨rfl, ?_⟩)) (hv : ∀ i ∈ vs, i ∈ own.map (·.2) := by decide)
    (hs : ∀ x, foldedSetIterable iter X.env x = pure x := by intro _; rfl) : WS X (.Assign [.Name x px] (.ListComp elt [⟨tg, iter, ifs, 0⟩] scope pos) spos) Γ μ kt :=
  ws_setLc h.calm n (by rw [h.sc]; exact locB_ok bl) (sw_true (by rw [h.sc]; exact kindB_ok bk) (by rw [h.sc]; exact locB_ok bl) ln ha) (h.blkOk bc) hn hv q hs
theorem ctx_setLcM (h : Ctx X P w K mg base k N sc) (own : List (Str × Nat)) (n : Nw X x i) (q : WI X tg iter Γ μ fun μ1 ds G => Lc X elt tg ifs scope vs Γ μ1 ds G fun acc μ' => ∀ p, μ' p = none → SetQ Γ i (.ref p) fun Γ' => kt.nx Γ' (updM μ' p (.lst acc)))
    (bl : locB sc x = true := by decide +kernel) (bk : kindB sc = true := by decide +kernel) (ln : (px.line == pos.line) = true := by decide +kernel) (ha : (scope.names.any fun (n, k) => n == x && (k == .local || k == .cell)) = false := by decide +kernel)
    (bc : blkC N sc scope own = true := by decide +kernel) (hn : NoneAt Γ (own.map (·.2)) := by repeat (first | exact trivial | refine ⟨rfl, ?_⟩)) (hv : ∀ i ∈ vs, i ∈ own.map (·.2) := by decide)
    (hs : ∀ x, foldedSetIterable iter X.env x = pure x := by intro _; rfl) : WS X (.Assign [.Name x px] (.ListComp elt [⟨tg, iter, ifs, 0⟩] scope pos) spos) Γ μ kt :=
  ws_setLcM h.calm n (by rw [h.sc]; exact locB_ok bl) (sw_true (by rw [h.sc]; exact kindB_ok bk) (by rw [h.sc]; exact locB_ok bl) ln ha) (h.blkOk bc) hn hv q hs
theorem ctx_lc {Q : Mu → D → Prop} (h : Ctx X P w K mg base k N sc) (own : List (Str × Nat)) (q : WI X tg iter Γ μ fun μ1 ds G => Lc X elt tg ifs scope vs Γ μ1 ds G fun acc μ' => Q μ' (.lst acc))
    (bc : blkC N sc scope own = true := by decide +kernel) (hn : NoneAt Γ (own.map (·.2)) := by repeat (first | exact trivial | refine ⟨rfl, ?_⟩)) (hv : ∀ i ∈ vs, i ∈ own.map (·.2) := by decide)
    (hs : ∀ x, foldedSetIterable iter X.env x = pure x := by intro _; rfl) : WE X (.ListComp elt [⟨tg, iter, ifs, 0⟩] scope pos) Γ μ Q := we_lc h.calm h.nd (h.blkOk bc) hn hv q hs
theorem ctx_lcM {Q : Mu → D → Prop} (h : Ctx X P w K mg base k N sc) (own : List (Str × Nat)) (q : WI X tg iter Γ μ fun μ1 ds G => Lc X elt tg ifs scope vs Γ μ1 ds G fun acc μ' => ∀ p, μ' p = none → Q (updM μ' p (.lst acc)) (.ref p))
    (bc : blkC N sc scope own = true := by decide +kernel) (hn : NoneAt Γ (own.map (·.2)) := by repeat (first | exact trivial | refine ⟨rfl, ?_⟩)) (hv : ∀ i ∈ vs, i ∈ own.map (·.2) := by decide)
    (hs : ∀ x, foldedSetIterable iter X.env x = pure x := by intro _; rfl) : WE X (.ListComp elt [⟨tg, iter, ifs, 0⟩] scope pos) Γ μ Q := we_lcM h.calm h.nd (h.blkOk bc) hn hv q hs
theorem ctx_for (h : Ctx X P w K mg base k N sc)
    (q : WI X tg iter Γ μ fun μ1 ds G => ∃ I : Nat → Gm → Mu → Prop, I 0 Γ μ1 ∧ (∀ i Γ' μ', i ≤ ds.length → I i Γ' μ' → G μ') ∧
      (∀ i d Γ' μ', ds[i]? = some d → I i Γ' μ' → WGx X tg d Γ' μ' fun Γ2 μ2 => WB X body Γ2 μ2 ⟨I (i + 1), kt.rt, kt.nx, I (i + 1)⟩) ∧ (∀ Γ' μ', I ds.length Γ' μ' → kt.nx Γ' μ'))
    (hs : ∀ x, foldedSetIterable iter X.env x = pure x := by intro _; rfl) : WS X (.For tg iter body [] pos) Γ μ kt := ws_for h.pass h.calm q hs
theorem ctx_while (h : Ctx X P w K mg base k N sc) (I : Nat → Gm → Mu → Prop) (h0 : ∃ m, I m Γ μ)
    (hs : ∀ m Γ' μ', I m Γ' μ' → WT X c Γ' μ' fun μ1 b => if b = true then WB X body Γ' μ1 ⟨fun Γ2 μ2 => ∃ m', m' < m ∧ I m' Γ2 μ2, kt.rt, kt.nx, fun Γ2 μ2 => ∃ m', m' < m ∧ I m' Γ2 μ2⟩ else kt.nx Γ' μ1) : WS X (.While c body [] pos) Γ μ kt := ws_while h.pass I h0 hs
theorem ctx_tupx {tgs : List Expr} {x1} {ds : List D} {M : Gm → Mu → Prop} (h : Ctx X P w K mg base k N sc) (q : WGlx X tgs ds Γ μ M) (hl : ds.length = (assignEach tgs X.env).length := by rfl)
    (hst : (assignEach tgs X.env).findIdx? (·.1) = none := by rfl) : WGx X (.Tuple tgs x1 pos) (.tup ds) Γ μ M := wx_tup h.calm q hl hst
theorem ctx_tup {tgs : List Expr} {x1} {ds : List D} {M : Gm → Mu → Prop} (h : Ctx X P w K mg base k N sc) (q : WGl X tgs vs ds Γ μ M) (hl : ds.length = (assignEach tgs X.env).length := by rfl)
    (hst : (assignEach tgs X.env).findIdx? (·.1) = none := by rfl) : WG X (.Tuple tgs x1 pos) vs (.tup ds) Γ μ M := wg_tup h.calm q hl hst
end
/-- a comprehension that only reckons: T the slots of an item, p the test, f the item made -/
theorem lc_pure {X : Cz} {Γ : Gm} {μ1 : Mu} {elt tg : Expr} {ifs : List Expr} {scope : Scope} {vs : List Nat} {ds : List D} {G : Mu → Prop} {P : List D → Mu → Prop} (T : D → Gm) (p : D → Bool) (f : D → D) (hG : G μ1) (hl : ds.length < sizeLine)
    (ht : ∀ X', Blk X scope X' → ∀ d ∈ ds, WG X' tg vs d Γ μ1 fun Γ3 μ3 => Γ3 = T d ∧ μ3 = μ1) (hp : ∀ X', Blk X scope X' → ∀ d ∈ ds, WTs X' ifs (T d) μ1 fun μ3 b => μ3 = μ1 ∧ b = p d)
    (he : ∀ X', Blk X scope X' → ∀ d ∈ ds, p d = true → WE X' elt (T d) μ1 fun μ4 y => μ4 = μ1 ∧ y = f d) (hP : P ((ds.filter p).map f) μ1) : Lc X elt tg ifs scope vs Γ μ1 ds G P := by
  refine ⟨fun i acc μ' => μ' = μ1 ∧ acc = ((ds.take i).filter p).map f, ⟨rfl, rfl⟩, fun i acc μ' _ h => by rw [h.1]; exact hG, fun i d acc μ' hd h => ?_, fun acc μ' h => ?_⟩
  · obtain ⟨rfl, rfl⟩ := h
    have hm : d ∈ ds := List.mem_of_getElem? hd
    refine ⟨T d, fun X' b => ht X' b d hm, fun X' b Z σ H en ok tkn => ?_⟩
    refine STs.mono (hp X' b d hm Z σ H en ok tkn) fun b H' ⟨μ3, g3, e3, eb⟩ => ⟨μ3, g3, ?_⟩
    subst e3 eb
    have tk : ds.take (i + 1) = ds.take i ++ [d] := by rw [List.take_add_one, hd]; rfl
    cases hb : p d with
    | true =>
      show ∀ X', Blk X scope X' → _
      intro X' b'
      refine (he X' b' d hm hb).mono fun μ4 y h4 => ?_
      obtain ⟨rfl, rfl⟩ := h4
      refine ⟨?_, rfl, ?_⟩
      · refine Nat.lt_of_le_of_lt ?_ hl
        rw [List.length_map]
        exact Nat.le_trans (List.length_filter_le _ _) (by rw [List.length_take]; omega)
      · rw [tk, List.filter_append, List.map_append, List.filter_cons, hb]
        rfl
    | false =>
      refine ⟨rfl, ?_⟩
      rw [tk, List.filter_append, List.filter_cons, hb]
      simp
  · obtain ⟨rfl, rfl⟩ := h
    rw [List.take_length]
    exact hP

theorem atI_ex {α : Type} {ds : List α} {i : Int} (h0 : 0 ≤ i) (h1 : i < (ds.length : Int)) : ∃ d, atI ds i = some d ∧ d ∈ ds ∧ ds[i.toNat]? = some d := by
  have h : i.toNat < ds.length := by omega
  exact ⟨ds[i.toNat], atI_n h0 (List.getElem?_eq_getElem h), List.getElem_mem h, List.getElem?_eq_getElem h⟩
structure Bx where
  great : List Int
  pend : Int
  small : List Int
  cnt : Int
structure BxOk (t : Bx) : Prop where
  g0 : ∀ z ∈ t.great, 0 ≤ z
  p0 : 0 ≤ t.pend
  c0 : 0 ≤ t.cnt
  gl : t.great.length ≤ 63
  sl : t.small.length ≤ 63
def bxM (b g : Addr) (t : Bx) (μ : Mu) : Mu := updM (updM μ g (.lst (t.great.map .int))) b (.lst [.ref g, .int t.pend, .lst (t.small.map .int), .int t.cnt])
section
variable {b g p : Addr} {t : Bx} {μ : Mu}
theorem bxM_b : bxM b g t μ b = some (.lst [.ref g, .int t.pend, .lst (t.small.map .int), .int t.cnt]) := updM_same
theorem bxM_g (h : g ≠ b) : bxM b g t μ g = some (.lst (t.great.map .int)) := by
  unfold bxM
  rw [updM_ne h, updM_same]
theorem bxM_ne (h1 : p ≠ b) (h2 : p ≠ g) : bxM b g t μ p = μ p := by
  unfold bxM
  rw [updM_ne h1, updM_ne h2]
theorem bxM_fresh (h : bxM b g t μ p = none) : p ≠ b ∧ p ≠ g ∧ μ p = none := by
  have h1 : p ≠ b := fun e => by subst e; rw [bxM_b] at h; cases h
  have h2 : p ≠ g := fun e => by subst e; rw [bxM_g h1] at h; cases h
  exact ⟨h1, h2, by rw [bxM_ne h1 h2] at h; exact h⟩
theorem bxM_upd {o : MO} (h1 : p ≠ b) (h2 : p ≠ g) : updM (bxM b g t μ) p o = bxM b g t (updM μ p o) := by
  unfold bxM
  rw [updM_comm (Ne.symm h1), updM_comm (Ne.symm h2)]
theorem bxM_del (h1 : p ≠ b) (h2 : p ≠ g) : delM (bxM b g t μ) p = bxM b g t (delM μ p) := by
  funext a
  unfold bxM delM updM
  by_cases e1 : a = p
  · subst e1; simp [h1, h2]
  · simp [e1]
theorem bxM_setp {k : Int} : updM (bxM b g t μ) b (.lst [.ref g, .int k, .lst (t.small.map .int), .int t.cnt]) = bxM b g { t with pend := k } μ := by
  unfold bxM
  rw [updM_upd]
theorem bxM_setc {k : Int} : updM (bxM b g t μ) b (.lst [.ref g, .int t.pend, .lst (t.small.map .int), .int k]) = bxM b g { t with cnt := k } μ := by
  unfold bxM
  rw [updM_upd]
theorem bxM_setg {ns : List Int} (h : g ≠ b) : updM (bxM b g t μ) g (.lst (ns.map .int)) = bxM b g { t with great := ns } μ := by
  unfold bxM
  rw [updM_comm (Ne.symm h), updM_upd]
end
section
variable {X : Cz} {Γ : Gm} {μ : Mu} {b g : Addr} {t : Bx} {x : Str} {i : Nat} {px pc pos : Pos} {j : Nat} {N : Gm → Mu → Prop} {k : Int}
/-- box[1] = k, box[3] = k -/
theorem wx_box1 (n : Nm X x i) (h : Γ[i]? = some (some (.ref b))) (q : N Γ (bxM b g { t with pend := k } μ)) : WGx X (.Subscript (.Name x px) (.Constant (.int 1) j pc) pos) (.int k) Γ (bxM b g t μ) N :=
  wx_ix (we_name n h (we_int ⟨_, rfl, _, rfl, ⟨_, bxM_b⟩, _, bxM_b, _, rfl, by
    show N Γ (updM (bxM b g t μ) b (.lst [.ref g, .int k, .lst (t.small.map .int), .int t.cnt]))
    rw [bxM_setp]
    exact q⟩))
theorem wx_box3 (n : Nm X x i) (h : Γ[i]? = some (some (.ref b))) (q : N Γ (bxM b g { t with cnt := k } μ)) : WGx X (.Subscript (.Name x px) (.Constant (.int 3) j pc) pos) (.int k) Γ (bxM b g t μ) N :=
  wx_ix (we_name n h (we_int ⟨_, rfl, _, rfl, ⟨_, bxM_b⟩, _, bxM_b, _, rfl, by
    show N Γ (updM (bxM b g t μ) b (.lst [.ref g, .int t.pend, .lst (t.small.map .int), .int k]))
    rw [bxM_setc]
    exact q⟩))
end
section
variable {b g : Addr} {t : Bx} {μ : Mu} {X : Cz} {Γ : Gm} {x : Str} {i : Nat} {px pc pos ap cp pz : Pos} {j jz : Nat} {Q : Mu → D → Prop}
/-- box[0].pop(0) -/
theorem we_boxpop {z : Int} {r : List Int} (hg : g ≠ b) (hz : t.great = z :: r) (n : Nm X x i) (h : Γ[i]? = some (some (.ref b))) (hl : (ap.endLine == cp.line) = true) (q : Q (bxM b g { t with great := r } μ) (.int z)) :
    WE X (.Call (.Attribute (.Subscript (.Name x px) (.Constant (.int 0) j pc) pos) "pop" ap) [.Constant (.int 0) jz pz] [] cp) Γ (bxM b g t μ) Q := by
  refine we_popAt ?_ rfl rfl hl rfl rfl
  refine we_ix (we_name n h (we_int (ix_m bxM_b rfl ?_)))
  refine lst_at (bxM_g hg) (we_int (one_i (lst_q (bxM_g hg) (req (by decide) ⟨0, .int z, seqIndex_of (by decide) (by rw [List.length_map, hz, List.length_cons]; omega), by rw [hz]; rfl, ?_⟩))))
  have hr : (t.great.map D.int).eraseIdx 0 = r.map D.int := by rw [hz]; rfl
  rw [hr, bxM_setg hg]
  exact q
end
/-- a draw: b the box, g its great cells; n the size -/
structure TakeA where
  b : Addr
  g : Addr
  t : Bx
  μ : Mu
  n : Int
abbrev spTake : Spc := specS (α := TakeA) (fun a ds μ => ds = [.ref a.b, .int a.n] ∧ μ = bxM a.b a.g a.t a.μ ∧ a.g ≠ a.b ∧ BxOk a.t ∧ a.t.cnt < 1000000 ∧ 1 ≤ a.n ∧ a.n.natAbs.log2 < 9000)
  (fun a μ' d => ∃ (r : Int) (t : Bx), d = .int r ∧ μ' = bxM a.b a.g t a.μ ∧ 0 ≤ r ∧ r < a.n ∧ BxOk t ∧ t.cnt = a.t.cnt + 1)
/-- one more draw -/
theorem take_use {b g : Addr} {t : Bx} {μ : Mu} {n : Int} {Q : Mu → D → Prop} {E : Mu → Xd → Prop} (hg : g ≠ b) (ht : BxOk t) (hc : t.cnt < 1000000) (h1 : 1 ≤ n) (hn : n.natAbs.log2 < 9000)
    (q : ∀ (r : Int) (t' : Bx), 0 ≤ r → r < n → BxOk t' → t'.cnt = t.cnt + 1 → Q (bxM b g t' μ) (.int r)) : spTake [.ref b, .int n] (bxM b g t μ) Q E := by
  refine ⟨⟨b, g, t, μ, n⟩, ⟨rfl, rfl, hg, ht, hc, h1, hn⟩, fun μ' d h => ?_, fun μ' x z => z.elim⟩
  obtain ⟨r, t', rfl, rfl, h1, h2, h3, h4⟩ := h
  exact q r t' h1 h2 h3 h4
structure BoxA (β : Type) where
  b : Addr
  g : Addr
  t : Bx
  μ : Mu
  x : β
/-- args: the arguments behind the box; k: at most so many draws; post: of what is handed back, which is fixed -/
abbrev boxS {β : Type} (args : β → List D) (pre : β → Prop) (k : Int) (post : β → D → Prop) : Spc := specS (α := BoxA β)
  (fun a ds μ => ds = .ref a.b :: args a.x ∧ μ = bxM a.b a.g a.t a.μ ∧ a.g ≠ a.b ∧ BxOk a.t ∧ a.t.cnt + k < 1000000 ∧ pre a.x)
  (fun a μ' d => ∃ t, μ' = bxM a.b a.g t a.μ ∧ BxOk t ∧ a.t.cnt ≤ t.cnt ∧ t.cnt ≤ a.t.cnt + k ∧ post a.x d)
theorem box_use {β : Type} {args : β → List D} {pre : β → Prop} {k : Int} {post : β → D → Prop} {b g : Addr} {t : Bx} {μ : Mu} {x : β} {Q : Mu → D → Prop} {E : Mu → Xd → Prop} (hg : g ≠ b) (ht : BxOk t) (hc : t.cnt + k < 1000000) (hp : pre x)
    (q : ∀ (d : D) (t' : Bx), BxOk t' → t.cnt ≤ t'.cnt → t'.cnt ≤ t.cnt + k → post x d → Q (bxM b g t' μ) d) : boxS args pre k post (.ref b :: args x) (bxM b g t μ) Q E := by
  refine ⟨⟨b, g, t, μ, x⟩, ⟨rfl, rfl, hg, ht, hc, hp⟩, fun μ' d h => ?_, fun μ' x z => z.elim⟩
  obtain ⟨t', rfl, h1, h2, h3, h4⟩ := h
  exact q d t' h1 h2 h3 h4
/-- .. that hand back an int from lo to hi -/
abbrev boxI {β : Type} (args : β → List D) (pre : β → Prop) (k : Int) (lo hi : β → Int) : Spc := boxS args pre k fun x d => ∃ r : Int, d = .int r ∧ lo x ≤ r ∧ r ≤ hi x
theorem boxi_use {β : Type} {args : β → List D} {pre : β → Prop} {k : Int} {lo hi : β → Int} {b g : Addr} {t : Bx} {μ : Mu} {x : β} {Q : Mu → D → Prop} {E : Mu → Xd → Prop} (hg : g ≠ b) (ht : BxOk t) (hc : t.cnt + k < 1000000) (hp : pre x)
    (q : ∀ (r : Int) (t' : Bx), lo x ≤ r → r ≤ hi x → BxOk t' → t.cnt ≤ t'.cnt → t'.cnt ≤ t.cnt + k → Q (bxM b g t' μ) (.int r)) : boxI args pre k lo hi (.ref b :: args x) (bxM b g t μ) Q E :=
  box_use hg ht hc hp fun d t' h1 h2 h3 ⟨r, e, h4, h5⟩ => by
    subst e
    exact q r t' h4 h5 h1 h2 h3
/-- an item of a written list of ints at a drawn place -/
theorem ix_range {ds : List D} {i : Int} {μ : Mu} {R : D → Prop} (lo hi : Int) (h0 : 0 ≤ i) (h1 : i < (ds.length : Int)) (hd : ∀ d ∈ ds, ∃ z, d = .int z ∧ lo ≤ z ∧ z ≤ hi) (h : ∀ z, lo ≤ z → z ≤ hi → R (.int z)) : IxQ μ (.lst ds) (.int i) R := by
  obtain ⟨d, e, hm, _⟩ := atI_ex h0 h1
  obtain ⟨z, rfl, h2, h3⟩ := hd d hm
  exact ix_l e (h z h2 h3)
theorem forall_nil {P : D → Prop} : ∀ d ∈ ([] : List D), P d := fun _ h => by cases h
theorem forall_cons {P : D → Prop} {x : D} {r : List D} (h1 : P x) (h2 : ∀ d ∈ r, P d) : ∀ d ∈ x :: r, P d := fun d h => by
  rcases List.mem_cons.mp h with e | h
  · rw [e]; exact h1
  · exact h2 d h
def gApp {α : Type} (us ws : List α) : List α := us ++ ws
theorem gApp_rel {vs : List V} {us : List Value} {zs : List V} {ws : List Value} (a : Vals vs us) (b : Vals zs ws) : Vals (gApp vs zs) (gApp us ws) := a.append b
theorem gApp_is {K : PySem.W.Frag} {A : Addr → Prop} {H : Hp} {vs zs : List V} {ds es : List D} {n m : Nat} (_ : vs.length = n) (_ : zs.length = m) (a : IsA K A H vs ds) (b : IsA K A H zs es) : IsA K A H (gApp vs zs) (gApp ds es) := a.append b
def g102 {α : Type} (us ws : List α) : List α := match ws with
  | [a, b, c] => [b, a, c]
  | _ => us ++ ws
theorem g102_rel {vs : List V} {us : List Value} {zs : List V} {ws : List Value} (a : Vals vs us) (b : Vals zs ws) : Vals (g102 vs zs) (g102 us ws) := by
  cases b with
  | nil => exact a.append .nil
  | cons r1 b => cases b with
    | nil => exact a.append (.cons r1 .nil)
    | cons r2 b => cases b with
      | nil => exact a.append (.cons r1 (.cons r2 .nil))
      | cons r3 b => cases b with
        | nil => exact .cons r2 (.cons r1 (.cons r3 .nil))
        | cons r4 b => exact a.append (.cons r1 (.cons r2 (.cons r3 (.cons r4 b))))
theorem g102_is {K : PySem.W.Frag} {A : Addr → Prop} {H : Hp} {vs zs : List V} {ds es : List D} {n m : Nat} (_ : vs.length = n) (_ : zs.length = m) (a : IsA K A H vs ds) (b : IsA K A H zs es) : IsA K A H (g102 vs zs) (g102 ds es) := by
  cases b with
  | nil => exact a.append .nil
  | cons r1 b => cases b with
    | nil => exact a.append (.cons r1 .nil)
    | cons r2 b => cases b with
      | nil => exact a.append (.cons r1 (.cons r2 .nil))
      | cons r3 b => cases b with
        | nil => exact .cons r2 (.cons r1 (.cons r3 .nil))
        | cons r4 b => exact a.append (.cons r1 (.cons r2 (.cons r3 (.cons r4 b))))
abbrev spBox : Spc := specS (α := Mu × List Int) (fun a ds μ => ds = [.scr (a.2.map .int)] ∧ μ = a.1 ∧ a.2.length ≤ 63) (fun a μ' d => ∃ b g t, d = .ref b ∧ μ' = bxM b g t a.1 ∧ g ≠ b ∧ BxOk t ∧ t.cnt = 0)
theorem box_new {ns : List Int} {μ : Mu} {Q : Mu → D → Prop} {E : Mu → Xd → Prop} (hl : ns.length ≤ 63) (q : ∀ b g t, g ≠ b → BxOk t → t.cnt = 0 → Q (bxM b g t μ) (.ref b)) : spBox [.scr (ns.map .int)] μ Q E := by
  refine ⟨(μ, ns), ⟨rfl, rfl, hl⟩, fun μ' d h => ?_, fun μ' x z => z.elim⟩
  obtain ⟨b, g, t, rfl, rfl, h1, h2, h3⟩ := h
  exact q b g t h1 h2 h3
/-- small numbers have few bits -/
theorem log_small {n : Int} (h : n.natAbs < 2 ^ 200) : n.natAbs.log2 < 9000 := Nat.lt_of_lt_of_le (PySem.Flt.log2_lt_of (by decide) h) (by decide)
theorem log_lit {n : Int} (h0 : 0 ≤ n) (h : n ≤ 1000000000000000000000000000000000000000000000000000000000000) : n.natAbs.log2 < 9000 := log_small (by omega)
end DL

set_option Elab.async false
set_option linter.all false
set_option maxRecDepth 100000
set_option maxHeartbeats 2000000
namespace DL
open PySem PySem.Spec PyProof.Rows L2

mutual
inductive Frz : Mu → D → Mu → D → Prop
  | nil {μ : Mu} {d : D} : Frz μ d μ d
  | lst {μ μ' : Mu} {p : Addr} {ds ds' : List D} (h : μ p = some (.lst ds)) (t : FrzA (delM μ p) ds μ' ds') : Frz μ (.ref p) μ' (.lst ds')
  | ins {μ μ' : Mu} {p C : Addr} {gs gs' : List (Str × D)} (h : μ p = some (.ins C gs)) (hk : gs.map (·.1) = gs'.map (·.1)) (t : FrzA (delM μ p) (gs.map (·.2)) μ' (gs'.map (·.2))) : Frz μ (.ref p) μ' (.ins C gs')
  | tup {μ μ' : Mu} {ds ds' : List D} (t : FrzA μ ds μ' ds') : Frz μ (.tup ds) μ' (.tup ds')
  | lsf {μ μ' : Mu} {ds ds' : List D} (t : FrzA μ ds μ' ds') : Frz μ (.lst ds) μ' (.lst ds')
inductive FrzA : Mu → List D → Mu → List D → Prop
  | nil {μ : Mu} : FrzA μ [] μ []
  | cons {μ μ1 μ2 : Mu} {d d' : D} {ds ds' : List D} (h : Frz μ d μ1 d') (t : FrzA μ1 ds μ2 ds') : FrzA μ (d :: ds) μ2 (d' :: ds')
end
theorem FrzA.same {μ : Mu} : ∀ {ds : List D}, FrzA μ ds μ ds
  | [] => .nil
  | _ :: _ => .cons .nil FrzA.same
section
variable {K : PySem.W.Frag} {Z : Addr → Prop} {H : Hp}
theorem notAv_del {μ : Mu} {p : Addr} {o : MO} (ok : Ok K μ Z H) (h : μ p = some o) : ¬ Av (delM μ p) Z p := by
  rintro (z | z)
  · exact z delM_same
  · rw [(ok.hid p z).1] at h; cases h
mutual
theorem Frz.ok : ∀ {μ μ' : Mu} {d d' : D} {v : V}, Frz μ d μ' d' → Ok K μ Z H → Is K (Av μ Z) H v d → Go K Z μ H μ' H ∧ Is K (Av μ' Z) H v d'
  | _, _, _, _, _, .nil, ok, i => ⟨Go.refl ok, i⟩
  | _, _, _, _, _, .lst h t, ok, i => by
    cases isRef i
    obtain ⟨vs, hv, a⟩ := ok.at_ _ _ h
    have g1 := Go.fix ok _ ⟨_, h⟩
    obtain ⟨g2, a2⟩ := FrzA.ok t g1.ok (a.mono g1.fz)
    exact ⟨g1.trans g2, .lst ⟨(g2.fz _ _ hv (notAv_del ok h)).2, .inl hv⟩ a2⟩
  | _, _, _, _, _, .ins h hk t, ok, i => by
    cases isRef i
    obtain ⟨dx, fs, hv, hk2, a⟩ := ok.at_ _ _ h
    have g1 := Go.fix ok _ ⟨_, h⟩
    obtain ⟨g2, a2⟩ := FrzA.ok t g1.ok (a.mono g1.fz)
    exact ⟨g1.trans g2, .ins (g2.fz _ _ hv (notAv_del ok h)).2 hv (hk2.trans hk) a2⟩
  | _, _, _, _, _, .tup t, ok, i => by
    cases i with
    | tup h a =>
      obtain ⟨g2, a2⟩ := FrzA.ok t ok a
      exact ⟨g2, .tup (h.mono g2.fz) a2⟩
  | _, _, _, _, _, .lsf t, ok, i => by
    cases i with
    | lst h a =>
      obtain ⟨g2, a2⟩ := FrzA.ok t ok a
      exact ⟨g2, .lst (h.mono g2.fz) a2⟩
theorem FrzA.ok : ∀ {μ μ' : Mu} {ds ds' : List D} {vs : List V}, FrzA μ ds μ' ds' → Ok K μ Z H → IsA K (Av μ Z) H vs ds → Go K Z μ H μ' H ∧ IsA K (Av μ' Z) H vs ds'
  | _, _, _, _, _, .nil, ok, i => by
    cases i
    exact ⟨Go.refl ok, .nil⟩
  | _, _, _, _, _, .cons h t, ok, i => by
    cases i with
    | cons i1 i2 =>
      obtain ⟨g1, j1⟩ := Frz.ok h ok i1
      obtain ⟨g2, j2⟩ := FrzA.ok t g1.ok (i2.mono g1.fz)
      exact ⟨g1.trans g2, .cons (j1.mono g2.fz) j2⟩
end
end
section
variable {X : Cz} {Γ Γ' : Gm} {μ μ' : Mu} {a b c e o lo hi : Expr} {es : List Expr} {pos p0 p2 : Pos} {Q : Mu → D → Prop} {k : Kt}
theorem we_frz (h : WE X e Γ μ fun μ1 d => ∃ μ2 d', Frz μ1 d μ2 d' ∧ Q μ2 d') : WE X e Γ μ Q := fun Z σ H en ok tk => by
  refine h.use (Go.refl ok) en tk fun v H1 μ1 d g1 _ en1 i1 q1 => ?_
  obtain ⟨μ2, d', f, q⟩ := q1
  obtain ⟨g2, i2⟩ := f.ok g1.ok i1
  exact ⟨μ2, d', g1.trans g2, i2, q⟩
/-- what stands in slot i is fixed from here on -/
theorem wb_frz {i : Nat} {d d' : D} {sts : List Stmt} (e : Γ[i]? = some (some d)) (f : Frz μ d μ' d') (s : SetTo Γ i d' Γ') (q : WB X sts Γ' μ' k) : WB X sts Γ μ k := fun Z σ H en ok tk => by
  obtain ⟨v, h1, h2⟩ := en.at_ i d e
  obtain ⟨g, i2⟩ := f.ok ok h2
  refine q.use g ?_ tk
  have := (en.mono g.fz).set i i2
  rw [s.eq]
  have e2 : List.set σ i (some v) = σ := by
    apply List.ext_getElem?
    intro j
    by_cases hj : i = j
    · subst hj
      have hl : i < σ.length := (List.getElem?_eq_some_iff.mp h1).1
      rw [List.getElem?_set_self hl, h1]
    · rw [List.getElem?_set_ne hj]
  rwa [e2] at this
theorem we_b1 {x : Str} {id : String} {r : List V → Hp → VK → Prop} (hc : CallR X.toCx (.builtin id) r) (B : Bl X x) (hv : bootBuiltins x = some (.builtin id))
    (h : WE X e Γ μ fun μ1 d => ∀ Z μ0 H0 H v, Go X.K Z μ0 H0 μ1 H → Is X.K (Av μ1 Z) H v d → r [v] H (PostE X.K Z μ0 H0 Q))
    (h1 : x ≠ "__name__" := by decide) (h2 : (x == ("__debug__" : Str)) = false := by decide)
    (he : starEach [e] X.env = (false, eval e X.env) :: starEach [] X.env := by rfl) (hpl : (backTo pos (starEach [] X.env)).any (·.1) = false := by rfl) : WE X (.Call (.Name x p0) [e] [] pos) Γ μ Q := fun Z σ H en ok tk => by
  refine toS (pe_callB hc B.gl B.mg hv (pa_cons pe_S pa_nil he) h1 h2 he hpl) ?_
  exact h.use (Go.refl ok) en tk fun v H1 μ1 d g1 _ en1 i1 q1 => q1 Z _ _ H1 v g1 i1
theorem we_t1 {x : Str} {id : String} {r : List V → Hp → VK → Prop} (hc : CallR X.toCx (.type id) r) (B : Bl X x) (hv : bootBuiltins x = some (.type id))
    (h : WE X e Γ μ fun μ1 d => ∀ Z μ0 H0 H v, Go X.K Z μ0 H0 μ1 H → Is X.K (Av μ1 Z) H v d → r [v] H (PostE X.K Z μ0 H0 Q))
    (h1 : x ≠ "__name__" := by decide) (h2 : (x == ("__debug__" : Str)) = false := by decide)
    (he : starEach [e] X.env = (false, eval e X.env) :: starEach [] X.env := by rfl) (hpl : (backTo pos (starEach [] X.env)).any (·.1) = false := by rfl) : WE X (.Call (.Name x p0) [e] [] pos) Γ μ Q := fun Z σ H en ok tk => by
  refine toS (pe_callTy hc B.gl B.mg hv (pa_cons pe_S pa_nil he) h1 h2 he hpl) ?_
  exact h.use (Go.refl ok) en tk fun v H1 μ1 d g1 _ en1 i1 q1 => q1 Z _ _ H1 v g1 i1
theorem we_b2 {x : Str} {id : String} {r : List V → Hp → VK → Prop} (hc : CallR X.toCx (.builtin id) r) (B : Bl X x) (hv : bootBuiltins x = some (.builtin id))
    (h : WE X a Γ μ fun μ1 d => WE X b Γ μ1 fun μ2 d2 => ∀ Z μ0 H0 H v w, Go X.K Z μ0 H0 μ2 H → Is X.K (Av μ2 Z) H v d → Is X.K (Av μ2 Z) H w d2 → r [v, w] H (PostE X.K Z μ0 H0 Q))
    (h1 : x ≠ "__name__" := by decide) (h2 : (x == ("__debug__" : Str)) = false := by decide)
    (he : starEach [a, b] X.env = (false, eval a X.env) :: starEach [b] X.env := by rfl) (he2 : starEach [b] X.env = (false, eval b X.env) :: starEach [] X.env := by rfl) (hpl : (backTo pos (starEach [b] X.env)).any (·.1) = false := by rfl) : WE X (.Call (.Name x p0) [a, b] [] pos) Γ μ Q := fun Z σ H en ok tk => by
  refine toS (pe_callB hc B.gl B.mg hv (pa_cons pe_S (pa_cons pe_S pa_nil he2) he) h1 h2 he hpl) ?_
  refine h.use (Go.refl ok) en tk fun v H1 μ1 d g1 _ en1 i1 q1 => ?_
  exact q1.use g1 en1 tk fun w H2 μ2 d2 g2 g2' en2 i2 q2 => q2 Z _ _ H2 v w g2 (i1.mono g2'.fz) i2
/-- list(x): a list that stays as it is | one that may be changed -/
theorem we_listF (B : Bl X "list") (h : WE X e Γ μ fun μ1 x => SeqQ μ1 x fun ds => Q μ1 (.lst ds))
    (he : starEach [e] X.env = (false, eval e X.env) :: starEach [] X.env := by rfl) (hpl : (backTo pos (starEach [] X.env)).any (·.1) = false := by rfl) : WE X (.Call (.Name "list" p0) [e] [] pos) Γ μ Q := by
  refine we_t1 call_list_of B (by decide +kernel) ?_ (he := he) (hpl := hpl)
  refine h.mono fun μ1 d q1 => ?_
  intro Z μ0 H0 H v g i
  obtain ⟨ds, sq, q⟩ := q1
  obtain ⟨p, vs, rfl, s, t⟩ := sq.at g.ok i
  exact ⟨p, vs, rfl, s, fun l hl => ⟨μ1, _, g.trans (Go.frz g.ok hl _), Is.newL g.ok hl t, q⟩⟩
theorem we_listM (B : Bl X "list") (h : WE X e Γ μ fun μ1 x => SeqQ μ1 x fun ds => ∀ p, μ1 p = none → Q (updM μ1 p (.lst ds)) (.ref p))
    (he : starEach [e] X.env = (false, eval e X.env) :: starEach [] X.env := by rfl) (hpl : (backTo pos (starEach [] X.env)).any (·.1) = false := by rfl) : WE X (.Call (.Name "list" p0) [e] [] pos) Γ μ Q := by
  refine we_t1 call_list_of B (by decide +kernel) ?_ (he := he) (hpl := hpl)
  refine h.mono fun μ1 d q1 => ?_
  intro Z μ0 H0 H v g i
  obtain ⟨ds, sq, q⟩ := q1
  obtain ⟨p, vs, rfl, s, t⟩ := sq.at g.ok i
  exact ⟨p, vs, rfl, s, fun l hl => ⟨_, _, g.trans (Go.put g.ok (.lst ds) _ (.inl hl) fun m => ⟨vs, upd_same, m t⟩), .ref l, q l (g.ok.fresh hl).1⟩⟩
/-- int(x) of an int or a bool -/
def IntQ (x : D) (R : Int → Prop) : Prop := (∃ i, x = .int i ∧ R i) ∨ ∃ c : Bool, x = .bl c ∧ R (if c then 1 else 0)
theorem int_i {i : Int} {R : Int → Prop} (h : R i) : IntQ (.int i) R := .inl ⟨i, rfl, h⟩
theorem int_b {c : Bool} {R : Int → Prop} (h : R (if c then 1 else 0)) : IntQ (.bl c) R := .inr ⟨c, rfl, h⟩
theorem we_int1 (B : Bl X "int") (h : WE X e Γ μ fun μ1 x => IntQ x fun i => Q μ1 (.int i))
    (he : starEach [e] X.env = (false, eval e X.env) :: starEach [] X.env := by rfl) (hpl : (backTo pos (starEach [] X.env)).any (·.1) = false := by rfl) : WE X (.Call (.Name "int" p0) [e] [] pos) Γ μ Q := by
  refine we_t1 call_int1 B (by decide +kernel) ?_ (he := he) (hpl := hpl)
  refine h.mono fun μ1 d q1 => ?_
  intro Z μ0 H0 H v g i
  rcases q1 with ⟨n, rfl, q⟩ | ⟨n, rfl, q⟩
  · rw [isInt i]; exact .inl ⟨n, rfl, μ1, _, g, .int _, q⟩
  · rw [isBl i]; exact .inr ⟨n, rfl, μ1, _, g, .int _, q⟩
theorem we_abs (B : Bl X "abs") (h : WE X e Γ μ fun μ1 x => One x fun i => Q μ1 (.int (if i < 0 then -i else i)))
    (he : starEach [e] X.env = (false, eval e X.env) :: starEach [] X.env := by rfl) (hpl : (backTo pos (starEach [] X.env)).any (·.1) = false := by rfl) : WE X (.Call (.Name "abs" p0) [e] [] pos) Γ μ Q := by
  refine we_b1 call_abs B (by decide +kernel) ?_ (he := he) (hpl := hpl)
  refine h.mono fun μ1 d q1 => ?_
  intro Z μ0 H0 H v g i
  obtain ⟨n, rfl, q⟩ := q1
  rw [isInt i]; exact ⟨n, rfl, μ1, _, g, .int _, q⟩
theorem we_max2 (hc : X.calm = true) (B : Bl X "max") (h : WE X a Γ μ fun μ1 x => WE X b Γ μ1 fun μ2 y => Two x y fun i j => Q μ2 (.int (if j > i then j else i)))
    (he : starEach [a, b] X.env = (false, eval a X.env) :: starEach [b] X.env := by rfl) (he2 : starEach [b] X.env = (false, eval b X.env) :: starEach [] X.env := by rfl) (hpl : (backTo pos (starEach [b] X.env)).any (·.1) = false := by rfl) : WE X (.Call (.Name "max" p0) [a, b] [] pos) Γ μ Q := by
  refine we_b2 (call_max2 hc) B (by decide +kernel) ?_ (he := he) (he2 := he2) (hpl := hpl)
  refine h.mono fun μ1 d q1 => q1.mono fun μ2 d2 q2 => ?_
  intro Z μ0 H0 H v w g i j
  obtain ⟨n, m, rfl, rfl, q⟩ := q2
  rw [isInt i, isInt j]; exact ⟨n, m, rfl, μ2, _, g, .int _, q⟩
theorem we_min2 (hc : X.calm = true) (B : Bl X "min") (h : WE X a Γ μ fun μ1 x => WE X b Γ μ1 fun μ2 y => Two x y fun i j => Q μ2 (.int (if j < i then j else i)))
    (he : starEach [a, b] X.env = (false, eval a X.env) :: starEach [b] X.env := by rfl) (he2 : starEach [b] X.env = (false, eval b X.env) :: starEach [] X.env := by rfl) (hpl : (backTo pos (starEach [b] X.env)).any (·.1) = false := by rfl) : WE X (.Call (.Name "min" p0) [a, b] [] pos) Γ μ Q := by
  refine we_b2 (call_min2 hc) B (by decide +kernel) ?_ (he := he) (he2 := he2) (hpl := hpl)
  refine h.mono fun μ1 d q1 => q1.mono fun μ2 d2 q2 => ?_
  intro Z μ0 H0 H v w g i j
  obtain ⟨n, m, rfl, rfl, q⟩ := q2
  rw [isInt i, isInt j]; exact ⟨n, m, rfl, μ2, _, g, .int _, q⟩
theorem isInts {K : PySem.W.Frag} {A : Addr → Prop} {H : Hp} : ∀ {ns : List Int} {vs : List V}, IsA K A H vs (ns.map D.int) → vs = ns.map V.int
  | [], _, h => by cases h; rfl
  | n :: ns, _, h => by
    cases h with
    | cons h t => rw [isInt h, isInts t]; rfl
theorem isBls {K : PySem.W.Frag} {A : Addr → Prop} {H : Hp} : ∀ {ns : List Bool} {vs : List V}, IsA K A H vs (ns.map D.bl) → vs = ns.map V.bl
  | [], _, h => by cases h; rfl
  | n :: ns, _, h => by
    cases h with
    | cons h t => rw [isBl h, isBls t]; rfl
/-- a list to be read by a built-in -/
theorem SeqL.sq {K : PySem.W.Frag} {Z : Addr → Prop} {H : Hp} {x : D} {ds : List D} {v : V} (s : SeqL μ x ds) (ok : Ok K μ Z H) (i : Is K (Av μ Z) H v x) : ∃ p vs, v = .ref p ∧ SqL K H p vs ∧ IsA K (Av μ Z) H vs ds := by
  obtain ⟨p, rfl, at_⟩ := s.at ok i
  obtain ⟨vs, s1, t1⟩ := at_ Z μ H ok Fz.refl s.still
  exact ⟨p, vs, rfl, s1, t1⟩
theorem we_minL (hc : X.calm = true) (B : Bl X "min") (h : WE X e Γ μ fun μ1 x => ∃ ns : List Int, SeqL μ1 x (ns.map D.int) ∧ 0 < ns.length ∧ ∀ m, m ∈ ns → (∀ y, y ∈ ns → m ≤ y) → Q μ1 (.int m))
    (he : starEach [e] X.env = (false, eval e X.env) :: starEach [] X.env := by rfl) (hpl : (backTo pos (starEach [] X.env)).any (·.1) = false := by rfl) : WE X (.Call (.Name "min" p0) [e] [] pos) Γ μ Q := by
  refine we_b1 (cr_min hc) B (by decide +kernel) ?_ (he := he) (hpl := hpl)
  refine h.mono fun μ1 d q1 => ?_
  intro Z μ0 H0 H v g i
  obtain ⟨ns, sq, hl, q⟩ := q1
  obtain ⟨p, vs, rfl, s, t⟩ := sq.sq g.ok i
  rw [isInts t] at s
  exact ⟨p, ns, rfl, s, hl, fun m h1 h2 => ⟨μ1, _, g, .int _, q m h1 h2⟩⟩
theorem we_maxL (hc : X.calm = true) (B : Bl X "max") (h : WE X e Γ μ fun μ1 x => ∃ ns : List Int, SeqL μ1 x (ns.map D.int) ∧ 0 < ns.length ∧ ∀ m, m ∈ ns → (∀ y, y ∈ ns → y ≤ m) → Q μ1 (.int m))
    (he : starEach [e] X.env = (false, eval e X.env) :: starEach [] X.env := by rfl) (hpl : (backTo pos (starEach [] X.env)).any (·.1) = false := by rfl) : WE X (.Call (.Name "max" p0) [e] [] pos) Γ μ Q := by
  refine we_b1 (cr_max hc) B (by decide +kernel) ?_ (he := he) (hpl := hpl)
  refine h.mono fun μ1 d q1 => ?_
  intro Z μ0 H0 H v g i
  obtain ⟨ns, sq, hl, q⟩ := q1
  obtain ⟨p, vs, rfl, s, t⟩ := sq.sq g.ok i
  rw [isInts t] at s
  exact ⟨p, ns, rfl, s, hl, fun m h1 h2 => ⟨μ1, _, g, .int _, q m h1 h2⟩⟩
theorem we_allL (hc : X.calm = true) (B : Bl X "all") (h : WE X e Γ μ fun μ1 x => ∃ bs : List Bool, SeqL μ1 x (bs.map D.bl) ∧ Q μ1 (.bl (bs.all id)))
    (he : starEach [e] X.env = (false, eval e X.env) :: starEach [] X.env := by rfl) (hpl : (backTo pos (starEach [] X.env)).any (·.1) = false := by rfl) : WE X (.Call (.Name "all" p0) [e] [] pos) Γ μ Q := by
  refine we_b1 (cr_all hc) B (by decide +kernel) ?_ (he := he) (hpl := hpl)
  refine h.mono fun μ1 d q1 => ?_
  intro Z μ0 H0 H v g i
  obtain ⟨ns, sq, q⟩ := q1
  obtain ⟨p, vs, rfl, s, t⟩ := sq.sq g.ok i
  rw [isBls t] at s
  exact ⟨p, ns, rfl, s, μ1, _, g, .bl _, q⟩
theorem we_anyL (hc : X.calm = true) (B : Bl X "any") (h : WE X e Γ μ fun μ1 x => ∃ bs : List Bool, SeqL μ1 x (bs.map D.bl) ∧ Q μ1 (.bl (bs.any id)))
    (he : starEach [e] X.env = (false, eval e X.env) :: starEach [] X.env := by rfl) (hpl : (backTo pos (starEach [] X.env)).any (·.1) = false := by rfl) : WE X (.Call (.Name "any" p0) [e] [] pos) Γ μ Q := by
  refine we_b1 (cr_any hc) B (by decide +kernel) ?_ (he := he) (hpl := hpl)
  refine h.mono fun μ1 d q1 => ?_
  intro Z μ0 H0 H v g i
  obtain ⟨ns, sq, q⟩ := q1
  obtain ⟨p, vs, rfl, s, t⟩ := sq.sq g.ok i
  rw [isBls t] at s
  exact ⟨p, ns, rfl, s, μ1, _, g, .bl _, q⟩
theorem we_sumL (hc : X.calm = true) (B : Bl X "sum") (h : WE X e Γ μ fun μ1 x => ∃ bs : List Int, SeqL μ1 x (bs.map D.int) ∧ Q μ1 (.int bs.sum))
    (he : starEach [e] X.env = (false, eval e X.env) :: starEach [] X.env := by rfl) (hpl : (backTo pos (starEach [] X.env)).any (·.1) = false := by rfl) : WE X (.Call (.Name "sum" p0) [e] [] pos) Γ μ Q := by
  refine we_b1 (cr_sum hc) B (by decide +kernel) ?_ (he := he) (hpl := hpl)
  refine h.mono fun μ1 d q1 => ?_
  intro Z μ0 H0 H v g i
  obtain ⟨ns, sq, q⟩ := q1
  obtain ⟨p, vs, rfl, s, t⟩ := sq.sq g.ok i
  rw [isInts t] at s
  exact ⟨p, ns, rfl, s, μ1, _, g, .int _, q⟩
end
end DL

set_option Elab.async false
set_option linter.all false
set_option maxRecDepth 100000
set_option maxHeartbeats 2000000
namespace DL
open PySem PySem.Spec PyProof.Rows L2

mutual
def pyD : D → PyData
  | .non => .none
  | .bl b => .bool b
  | .int i => .int i
  | .str x => .str x
  | .lst ds => .list (pyDs ds)
  | .tup ds => .tuple (pyDs ds)
  | _ => .none
def pyDs : List D → List PyData
  | [] => []
  | d :: r => pyD d :: pyDs r
end
/-- scalars, lists and tuples at most n deep -/
def shD : Nat → D → Bool
  | _, .non => true
  | _, .bl _ => true
  | _, .int _ => true
  | _, .str x => PyData.canLay0 (.str x)
  | n + 1, .lst ds => ds.all (shD n)
  | n + 1, .tup ds => ds.all (shD n)
  | _, _ => false
section
variable {K : PySem.W.Frag} {A : Addr → Prop} {H : Hp}
theorem dp_all {n : Nat} (ih : ∀ {d : D} {v : V}, shD n d = true → Is K A H v d → Dp K H v (pyD d)) : ∀ {ds : List D} {vs : List V}, ds.all (shD n) = true → IsA K A H vs ds → DpAll K H vs (pyDs ds)
  | [], _, _, h => by cases h; exact .nil
  | d :: ds, _, s, h => by
    rw [List.all_cons, Bool.and_eq_true] at s
    cases h with
    | cons h t => exact .cons (ih s.1 h) (dp_all ih s.2 t)
theorem dp_of : ∀ (n : Nat) {d : D} {v : V}, shD n d = true → Is K A H v d → Dp K H v (pyD d) := by
  intro n
  induction n with
  | zero =>
    intro d v s i
    cases i <;> first | exact .non | exact .bl _ | exact .int _ | exact .str _ | simp [shD] at s
  | succ n ih =>
    intro d v s i
    cases i with
    | non => exact .non
    | bl => exact .bl _
    | int => exact .int _
    | str => exact .str _
    | lst h t => exact .lst h.sq (dp_all (fun s i => ih s i) (by simpa [shD] using s) t)
    | tup h t => exact .tup h.sq (dp_all (fun s i => ih s i) (by simpa [shD] using s) t)
    | _ => simp [shD] at s
end
theorem lay_all {n : Nat} (ih : ∀ {d : D}, shD n d = true → (pyD d).canLay0 = true ∧ (pyD d).depth ≤ n) : ∀ {ds : List D}, ds.all (shD n) = true → PyData.canLayAll0 (pyDs ds) = true ∧ PyData.depthAll (pyDs ds) ≤ n
  | [], _ => ⟨rfl, Nat.zero_le _⟩
  | d :: ds, s => by
    rw [List.all_cons, Bool.and_eq_true] at s
    obtain ⟨h1, h2⟩ := ih s.1
    obtain ⟨h3, h4⟩ := lay_all ih s.2
    refine ⟨?_, Nat.max_le.mpr ⟨h2, h4⟩⟩
    show (PyData.canLay0 (pyD d) && PyData.canLayAll0 (pyDs ds)) = true
    rw [h1, h3]
    rfl
theorem lay_of : ∀ (n : Nat) {d : D}, shD n d = true → (pyD d).canLay0 = true ∧ (pyD d).depth ≤ n := by
  intro n
  induction n with
  | zero =>
    intro d s
    cases d <;> simp [shD] at s <;> first | exact ⟨rfl, Nat.le_refl _⟩ | exact ⟨s, Nat.le_refl _⟩
  | succ n ih =>
    intro d s
    cases d with
    | lst ds =>
      obtain ⟨h1, h2⟩ := lay_all (fun s => ih s) (by simpa [shD] using s : ds.all (shD n) = true)
      exact ⟨h1, Nat.succ_le_succ h2⟩
    | tup ds =>
      obtain ⟨h1, h2⟩ := lay_all (fun s => ih s) (by simpa [shD] using s : ds.all (shD n) = true)
      exact ⟨h1, Nat.succ_le_succ h2⟩
    | non => exact ⟨rfl, Nat.zero_le _⟩
    | bl => exact ⟨rfl, Nat.zero_le _⟩
    | int => exact ⟨rfl, Nat.zero_le _⟩
    | str => exact ⟨s, Nat.zero_le _⟩
    | _ => simp [shD] at s
theorem shaped_of {n : Nat} {d : D} (h : shD n d = true) (hn : n ≤ 64) : SeqAt.shaped (pyD d) = true := by
  obtain ⟨h1, h2⟩ := lay_of n h
  unfold SeqAt.shaped
  rw [h1, decide_eq_true (Nat.le_trans h2 hn)]
  rfl
mutual
/-- d as the fixed data that it is now -/
inductive Vw (μ : Mu) : D → D → Prop
  | f {d : D} : Vw μ d d
  | r {p : Addr} {xs ds : List D} (h : μ p = some (.lst xs)) (t : VwA μ xs ds) : Vw μ (.ref p) (.lst ds)
  | t {xs ds : List D} (t : VwA μ xs ds) : Vw μ (.tup xs) (.tup ds)
inductive VwA (μ : Mu) : List D → List D → Prop
  | nil : VwA μ [] []
  | cons {x d : D} {xs ds : List D} (h : Vw μ x d) (t : VwA μ xs ds) : VwA μ (x :: xs) (d :: ds)
end
theorem VwA.self {μ : Mu} : ∀ {ds : List D}, VwA μ ds ds
  | [] => .nil
  | _ :: _ => .cons .f VwA.self
theorem Vw.m {μ : Mu} {p : Addr} {ds : List D} (h : μ p = some (.lst ds)) : Vw μ (.ref p) (.lst ds) := .r h VwA.self
theorem VwA.dp {K : PySem.W.Frag} {Z : Addr → Prop} {H : Hp} {μ : Mu} {n : Nat} (ih : ∀ {x d : D} {v : V}, Vw μ x d → shD n d = true → Is K (Av μ Z) H v x → Dp K H v (pyD d)) : ∀ {ds xs : List D} {vs : List V}, VwA μ xs ds → ds.all (shD n) = true → IsA K (Av μ Z) H vs xs → DpAll K H vs (pyDs ds)
  | [], _, _, h, _, i => by cases h; cases i; exact .nil
  | d :: ds, _, _, h, s, i => by
    rw [List.all_cons, Bool.and_eq_true] at s
    cases h with
    | cons h t =>
      cases i with
      | cons i j => exact .cons (ih h s.1 i) (VwA.dp ih t s.2 j)
theorem Vw.dp {K : PySem.W.Frag} {Z : Addr → Prop} {H : Hp} {μ : Mu} (ok : Ok K μ Z H) : ∀ {n : Nat} {x d : D} {v : V}, Vw μ x d → shD n d = true → Is K (Av μ Z) H v x → Dp K H v (pyD d) := by
  intro n
  induction n with
  | zero =>
    intro x d v h s i
    cases h with
    | f => exact dp_of 0 s i
    | r => simp [shD] at s
    | t => simp [shD] at s
  | succ n ih =>
    intro x d v h s i
    cases h with
    | f => exact dp_of _ s i
    | r e t =>
      cases isRef i
      obtain ⟨vs, hv, t2⟩ := ok.at_ _ _ e
      exact .lst (.of hv) (VwA.dp (fun a b c => ih a b c) t (by simpa [shD] using s) t2)
    | t t =>
      cases i with
      | tup h2 t2 => exact .tup h2.sq (VwA.dp (fun a b c => ih a b c) t (by simpa [shD] using s) t2)
def eqvD (x y : D) : Bool := PyData.eqv (pyD x) (pyD y)
theorem eqvD_self {n : Nat} {d : D} (h : shD n d = true) : eqvD d d = true := SeqAt.eqv_refl _ (lay_of n h).1
/-- == with its outcome -/
def EqDQ (μ : Mu) (x y : D) (R : Bool → Prop) : Prop := ∃ d e n m, Vw μ x d ∧ Vw μ y e ∧ shD n d = true ∧ shD m e = true ∧ n ≤ 64 ∧ m ≤ 64 ∧ R (eqvD d e)
section
variable {X : Cz} {Γ Γ' : Gm} {μ μ' : Mu} {a b c e o : Expr} {lo hi : Option Expr} {es : List Expr} {pos p0 p2 : Pos} {Q : Mu → D → Prop} {k : Kt}
theorem we_eqD (hu : X.A.units + 64 < cLine) (h : WE X a Γ μ fun μ1 x => WE X b Γ μ1 fun μ2 y => EqDQ μ2 x y fun c => Q μ2 (.bl c)) : WE X (.Compare a [.Eq] [b] pos) Γ μ Q := fun Z σ H en ok tk => by
  refine toS (pe_cmpR (op_eqD hu) pe_S pe_S (nomark _)) ?_
  refine h.use (Go.refl ok) en tk fun v H1 μ1 d g1 _ en1 i1 q1 => ?_
  refine q1.use g1 en1 tk fun w H2 μ2 d2 g2 g2' en2 i2 q2 => ?_
  obtain ⟨d, e, n, m, h1, h2, s1, s2, hn, hm, q⟩ := q2
  exact ⟨_, _, Vw.dp g2.ok h1 s1 (i1.mono g2'.fz), Vw.dp g2.ok h2 s2 i2, shaped_of s1 hn, shaped_of s2 hm, μ2, _, g2, .bl _, q⟩
theorem we_neD (hu : X.A.units + 64 < cLine) (h : WE X a Γ μ fun μ1 x => WE X b Γ μ1 fun μ2 y => EqDQ μ2 x y fun c => Q μ2 (.bl !c)) : WE X (.Compare a [.NotEq] [b] pos) Γ μ Q := fun Z σ H en ok tk => by
  refine toS (pe_cmpR (op_neD hu) pe_S pe_S (nomark _)) ?_
  refine h.use (Go.refl ok) en tk fun v H1 μ1 d g1 _ en1 i1 q1 => ?_
  refine q1.use g1 en1 tk fun w H2 μ2 d2 g2 g2' en2 i2 q2 => ?_
  obtain ⟨d, e, n, m, h1, h2, s1, s2, hn, hm, q⟩ := q2
  exact ⟨_, _, Vw.dp g2.ok h1 s1 (i1.mono g2'.fz), Vw.dp g2.ok h2 s2 i2, shaped_of s1 hn, shaped_of s2 hm, μ2, _, g2, .bl _, q⟩
theorem wt_eqD {Q : Mu → Bool → Prop} (hu : X.A.units + 64 < cLine) (h : WE X a Γ μ fun μ1 x => WE X b Γ μ1 fun μ2 y => EqDQ μ2 x y fun c => Q μ2 c) : WT X (.Compare a [.Eq] [b] pos) Γ μ Q := fun Z σ H en ok tk => by
  refine toT (pt_cmpR (op_eqD hu) pe_S pe_S (nomark _)) ?_
  refine h.use (Go.refl ok) en tk fun v H1 μ1 d g1 _ en1 i1 q1 => ?_
  refine q1.use g1 en1 tk fun w H2 μ2 d2 g2 g2' en2 i2 q2 => ?_
  obtain ⟨d, e, n, m, h1, h2, s1, s2, hn, hm, q⟩ := q2
  exact ⟨_, _, Vw.dp g2.ok h1 s1 (i1.mono g2'.fz), Vw.dp g2.ok h2 s2 i2, shaped_of s1 hn, shaped_of s2 hm, _, rfl, μ2, g2, q⟩
theorem wt_neD {Q : Mu → Bool → Prop} (hu : X.A.units + 64 < cLine) (h : WE X a Γ μ fun μ1 x => WE X b Γ μ1 fun μ2 y => EqDQ μ2 x y fun c => Q μ2 !c) : WT X (.Compare a [.NotEq] [b] pos) Γ μ Q := fun Z σ H en ok tk => by
  refine toT (pt_cmpR (op_neD hu) pe_S pe_S (nomark _)) ?_
  refine h.use (Go.refl ok) en tk fun v H1 μ1 d g1 _ en1 i1 q1 => ?_
  refine q1.use g1 en1 tk fun w H2 μ2 d2 g2 g2' en2 i2 q2 => ?_
  obtain ⟨d, e, n, m, h1, h2, s1, s2, hn, hm, q⟩ := q2
  exact ⟨_, _, Vw.dp g2.ok h1 s1 (i1.mono g2'.fz), Vw.dp g2.ok h2 s2 i2, shaped_of s1 hn, shaped_of s2 hm, _, rfl, μ2, g2, q⟩
def SO (X : Cx) (e : Option Expr) (σ : L2.St) (H : Hp) (Q : Option Int → Hp → Prop) : Prop := ∀ pins s, Inv X pins σ H s → wpAny (model X.prog X.w) X.A (evalPart e X.env) (fun u s' => ∃ o H', Inv X pins σ H' s' ∧ IsPart u o ∧ Q o H') X.xe s
theorem po_S {X : Cx} {e : Option Expr} : PO X e (SO X e) := ⟨fun _ _ _ _ _ I h => h _ _ I⟩
theorem toO {X : Cx} {e : Option Expr} {t : TO} {σ : L2.St} {H : Hp} {Q : Option Int → Hp → Prop} (p : PO X e t) (h : t σ H Q) : SO X e σ H Q := fun _ _ I => p.run _ _ _ _ _ I h
theorem SO.mono {X : Cx} {e : Option Expr} {σ : L2.St} {H : Hp} {Q Q' : Option Int → Hp → Prop} (h : SO X e σ H Q) (f : ∀ v H', Q v H' → Q' v H') : SO X e σ H Q' := fun pins s I => thn (h pins s I) fun _ _ ⟨v, H', I', r, q⟩ => ⟨v, H', I', r, f _ _ q⟩
def WO (X : Cz) (e : Option Expr) (Γ : Gm) (μ : Mu) (Q : Mu → Option Int → Prop) : Prop := ∀ Z σ H, En X.K (Av μ Z) H σ Γ → Ok X.K μ Z H → Tk X Z μ H → SO X e σ H (fun o H' => ∃ μ', Go X.K Z μ H μ' H' ∧ Q μ' o)
theorem wo_none {Q : Mu → Option Int → Prop} (q : Q μ none) : WO X none Γ μ Q := fun Z σ H en ok tk => toO po_none ⟨μ, Go.refl ok, q⟩
theorem wo_some {Q : Mu → Option Int → Prop} (h : WE X e Γ μ fun μ1 x => One x fun i => Q μ1 (some i)) : WO X (some e) Γ μ Q := fun Z σ H en ok tk => by
  refine toO (po_some pe_S) ?_
  refine h.use (Go.refl ok) en tk fun v H1 μ1 d g1 _ en1 i1 q1 => ?_
  obtain ⟨i, rfl, q⟩ := q1
  rw [isInt i1]
  exact ⟨i, rfl, μ1, g1, q⟩
theorem WO.use {Z : Addr → Prop} {σ : L2.St} {H H0 : Hp} {μ0 : Mu} {Q : Mu → Option Int → Prop} (h : WO X lo Γ μ Q) (g : Go X.K Z μ0 H0 μ H) (en : En X.K (Av μ Z) H σ Γ) (tk : Tk X Z μ0 H0) {R : Option Int → Hp → Prop}
    (k : ∀ b H1 μ1, Go X.K Z μ0 H0 μ1 H1 → Go X.K Z μ H μ1 H1 → En X.K (Av μ1 Z) H1 σ Γ → Q μ1 b → R b H1) : SO X lo σ H R :=
  (h Z σ H en g.ok (tk.up g)).mono fun b H1 ⟨μ1, g1, q⟩ => k b H1 μ1 (g.trans g1) g1 (en.mono g1.fz) q
def cutD (ds : List D) (lo hi : Option Int) : List D := (ds.drop (HT.sIx ds.length 0 lo)).take (HT.sIx ds.length ds.length hi - HT.sIx ds.length 0 lo)
theorem cut_is {K : PySem.W.Frag} {A : Addr → Prop} {H : Hp} {vs : List V} {ds : List D} (t : IsA K A H vs ds) (l u : Option Int) : IsA K A H (cutV vs l u) (cutD ds l u) := by
  unfold cutV cutD
  rw [t.length]
  exact (t.drop _).take _
theorem we_slT (h : WE X a Γ μ fun μ1 x => WO X lo Γ μ1 fun μ2 l => WO X hi Γ μ2 fun μ3 u => ∃ ds, x = .tup ds ∧ Q μ3 (.tup (cutD ds l u))) : WE X (.Subscript a (.Slice lo hi none p2) pos) Γ μ Q := fun Z σ H en ok tk => by
  refine toS (pe_slice sl_tupA pe_S po_S po_S) ?_
  refine h.use (Go.refl ok) en tk fun v H1 μ1 d g1 _ en1 i1 q1 => ?_
  refine q1.use g1 en1 tk fun l H2 μ2 g2 g2' en2 q2 => ?_
  refine q2.use g2 en2 tk fun u H3 μ3 g3 g3' en3 q3 => ?_
  obtain ⟨ds, rfl, q⟩ := q3
  have i3 := (i1.mono g2'.fz).mono g3'.fz
  cases i3 with
  | tup r t =>
    refine ⟨_, _, rfl, r.sq, fun hw => ⟨μ3, _, g3, ?_, q⟩, fun _ p hp => ⟨μ3, _, g3.trans (Go.frz g3.ok hp _), Is.newT g3.ok hp (cut_is t _ _), q⟩⟩
    rw [t.length] at hw
    have e : cutD ds l u = ds := by
      unfold cutD
      rw [hw.1, hw.2]
      simp
    rw [e]
    exact .tup r t
/-- xs[l:u], a list that stays as it is | one that may be changed -/
theorem we_slL (h : WE X a Γ μ fun μ1 x => WO X lo Γ μ1 fun μ2 l => WO X hi Γ μ2 fun μ3 u => ∃ ds, SeqL μ3 x ds ∧ Q μ3 (.lst (cutD ds l u))) : WE X (.Subscript a (.Slice lo hi none p2) pos) Γ μ Q := fun Z σ H en ok tk => by
  refine toS (pe_slice sl_list pe_S po_S po_S) ?_
  refine h.use (Go.refl ok) en tk fun v H1 μ1 d g1 _ en1 i1 q1 => ?_
  refine q1.use g1 en1 tk fun l H2 μ2 g2 g2' en2 q2 => ?_
  refine q2.use g2 en2 tk fun u H3 μ3 g3 g3' en3 q3 => ?_
  obtain ⟨ds, sq, q⟩ := q3
  obtain ⟨p, vs, rfl, s, t⟩ := sq.sq g3.ok ((i1.mono g2'.fz).mono g3'.fz)
  exact ⟨p, vs, rfl, s, fun r hr => ⟨μ3, _, g3.trans (Go.frz g3.ok hr _), Is.newL g3.ok hr (cut_is t _ _), q⟩⟩
theorem we_addT (h : WE X a Γ μ fun μ1 x => WE X b Γ μ1 fun μ2 y => ∃ ds es, x = .tup ds ∧ y = .tup es ∧ Req (ds.length + es.length ≤ sizeLine) (Q μ2 (.tup (ds ++ es)))) : WE X (.BinOp a .Add b pos) Γ μ Q := fun Z σ H en ok tk => by
  refine toS (pe_op op_catA pe_S pe_S) ?_
  refine h.use (Go.refl ok) en tk fun v H1 μ1 d g1 _ en1 i1 q1 => ?_
  refine q1.use g1 en1 tk fun w H2 μ2 d2 g2 g2' en2 i2 q2 => ?_
  obtain ⟨ds, es, rfl, rfl, hl, q⟩ := q2
  cases i1.mono g2'.fz with
  | tup r t =>
    cases i2 with
    | tup r2 t2 =>
      refine ⟨_, _, _, _, rfl, rfl, r.sq, r2.sq, by rw [t.length, t2.length]; exact hl, fun e => ⟨μ2, _, g2, ?_, q⟩, fun _ e => ⟨μ2, _, g2, ?_, q⟩, fun _ _ p hp => ⟨μ2, _, g2.trans (Go.frz g2.ok hp _), Is.newT g2.ok hp (t.append t2), q⟩⟩
      · subst e; cases t; exact .tup r2 t2
      · subst e; cases t2; rw [List.append_nil]; exact .tup r t
def rCatR : R2 := fun x y H Q => ∃ l b xs zs, x = .ref l ∧ y = .ref b ∧ Rd H l (.lst xs) ∧ Rd H b (.lst zs) ∧ xs.length + zs.length ≤ sizeLine ∧ ∀ p, H p = none → Q (.ref p) (upd H p (.lst (xs ++ zs)))
theorem op_catR {X : Cx} : OpR X (binaryOp .Add) rCatR := by
  intro pins s σ H x y v u Q I rx ry h
  obtain ⟨l, b, xs, zs, rfl, rfl, hH, hB, hz, q⟩ := h
  cases rx
  cases ry
  obtain ⟨z, its, n, r, e⟩ := hH.ok I.hok
  obtain ⟨z2, its2, n2, r2, e2⟩ := hB.ok I.hok
  have hl := r.length
  have hl2 := r2.length
  refine PySem.P.add_list e e2 ?_ (by rw [List.size_toArray, List.size_toArray]; omega)
  have ea : its.toArray ++ its2.toArray = (its ++ its2).toArray := by simp
  rw [ea]
  exact ⟨.ref _, _, I.lnew (t' := s.toks) (r.append r2) (by rw [List.length_append]; omega), rfl, q _ I.fresh⟩
/-- a list, not the law's own script -/
def SeqR (μ : Mu) (x : D) (ds : List D) : Prop := x = .lst ds ∨ ∃ p, x = .ref p ∧ μ p = some (.lst ds)
theorem SeqR.rd {K : PySem.W.Frag} {Z : Addr → Prop} {H : Hp} {x : D} {ds : List D} {v : V} (s : SeqR μ x ds) (ok : Ok K μ Z H) (i : Is K (Av μ Z) H v x) : ∃ p vs, v = .ref p ∧ Rd H p (.lst vs) ∧ IsA K (Av μ Z) H vs ds := by
  rcases s with rfl | ⟨p, rfl, e⟩
  · cases i with
    | lst r t => exact ⟨_, _, rfl, r.2, t⟩
  · cases isRef i
    obtain ⟨vs, hv, t⟩ := ok.at_ _ _ e
    exact ⟨p, vs, rfl, .of hv, t⟩
theorem we_addL (h : WE X a Γ μ fun μ1 x => WE X b Γ μ1 fun μ2 y => ∃ ds es, SeqR μ2 x ds ∧ SeqR μ2 y es ∧ Req (ds.length + es.length ≤ sizeLine) (Q μ2 (.lst (ds ++ es)))) : WE X (.BinOp a .Add b pos) Γ μ Q := fun Z σ H en ok tk => by
  refine toS (pe_op op_catR pe_S pe_S) ?_
  refine h.use (Go.refl ok) en tk fun v H1 μ1 d g1 _ en1 i1 q1 => ?_
  refine q1.use g1 en1 tk fun w H2 μ2 d2 g2 g2' en2 i2 q2 => ?_
  obtain ⟨ds, es, s1, s2, hl, q⟩ := q2
  obtain ⟨p, vs, rfl, r1, t1⟩ := s1.rd g2.ok (i1.mono g2'.fz)
  obtain ⟨p', vs', rfl, r2, t2⟩ := s2.rd g2.ok i2
  exact ⟨_, _, _, _, rfl, rfl, r1, r2, by rw [t1.length, t2.length]; exact hl, fun r hr => ⟨μ2, _, g2.trans (Go.frz g2.ok hr _), Is.newL g2.ok hr (t1.append t2), q⟩⟩
theorem we_addLM (h : WE X a Γ μ fun μ1 x => WE X b Γ μ1 fun μ2 y => ∃ ds es, SeqR μ2 x ds ∧ SeqR μ2 y es ∧ Req (ds.length + es.length ≤ sizeLine) (∀ p, μ2 p = none → Q (updM μ2 p (.lst (ds ++ es))) (.ref p))) : WE X (.BinOp a .Add b pos) Γ μ Q := fun Z σ H en ok tk => by
  refine toS (pe_op op_catR pe_S pe_S) ?_
  refine h.use (Go.refl ok) en tk fun v H1 μ1 d g1 _ en1 i1 q1 => ?_
  refine q1.use g1 en1 tk fun w H2 μ2 d2 g2 g2' en2 i2 q2 => ?_
  obtain ⟨ds, es, s1, s2, hl, q⟩ := q2
  obtain ⟨p, vs, rfl, r1, t1⟩ := s1.rd g2.ok (i1.mono g2'.fz)
  obtain ⟨p', vs', rfl, r2, t2⟩ := s2.rd g2.ok i2
  refine ⟨_, _, _, _, rfl, rfl, r1, r2, by rw [t1.length, t2.length]; exact hl, fun r hr => ⟨_, _, g2.trans (Go.put g2.ok (.lst (ds ++ es)) _ (.inl hr) fun m => ⟨_, upd_same, m (t1.append t2)⟩), .ref r, q r (g2.ok.fresh hr).1⟩⟩
/-- xs.clear() -/
theorem we_clear {ap : Pos} (h : WE X o Γ μ fun μ1 x => LstAt μ1 x fun p => Q (updM μ1 p (.lst [])) .non)
    (hbase : attributeBase o "clear" X.env (eval o X.env) = eval o X.env := by rfl) (hline : (ap.endLine == pos.line) = true := by rfl) :
    WE X (.Call (.Attribute o "clear" ap) [] [] pos) Γ μ Q := fun Z σ H en ok tk => by
  refine toS (pe_bm0 PySem.F.plainAttrs_list PySem.F.slot_list_clear PySem.F.type_list_clear mt_clear pe_S hbase hline) ?_
  refine h.use (Go.refl ok) en tk fun v H1 μ1 d g1 _ en1 i1 q1 => ?_
  obtain ⟨p, rfl, ⟨ds1, e1⟩, q⟩ := q1
  obtain ⟨vs1, e2, _⟩ := g1.ok.at_ p _ e1
  rw [isRef i1]
  exact ⟨tyL e2, p, vs1, rfl, rfl, e2, _, .non, g1.trans (Go.put g1.ok (.lst []) (.lst []) (.inr ⟨_, e1⟩) fun m => ⟨_, upd_same, .nil⟩), .non, q⟩
end
end DL

set_option Elab.async false
set_option linter.all false
set_option maxRecDepth 100000
set_option maxHeartbeats 2000000
namespace DL
open PySem PySem.Spec PyProof.Rows L2

/-- the place of a name -/
def ixS (f : Str) : List Str → Option Nat
  | [] => none
  | g :: r => if g = f then some 0 else (ixS f r).map (· + 1)
theorem look_some {α : Type} {f : Str} : ∀ {fs : List (Str × α)} {i : Nat} {d : α}, ixS f (fs.map (·.1)) = some i → (fs.map (·.2))[i]? = some d → fs.lookup f = some d
  | [], i, d, h, _ => by cases h
  | (g, x) :: r, i, d, h, e => by
    change (if g = f then some 0 else (ixS f (r.map (·.1))).map (· + 1)) = _ at h
    by_cases hg : g = f
    · subst hg
      rw [if_pos rfl] at h
      cases h
      simp only [List.map_cons, List.getElem?_cons_zero, Option.some.injEq] at e
      subst e
      simp [List.lookup]
    · rw [if_neg hg] at h
      cases q : ixS f (r.map (·.1)) with
      | none => rw [q] at h; cases h
      | some j =>
        rw [q] at h
        cases h
        have e' : (r.map (·.2))[j]? = some d := by simpa using e
        have := look_some q e'
        have hb : (f == g) = false := by simpa using fun z => hg z.symm
        simp [List.lookup, hb, this]
theorem look_none {α : Type} {f : Str} : ∀ {fs : List (Str × α)}, ixS f (fs.map (·.1)) = none → fs.lookup f = none
  | [], _ => rfl
  | (g, x) :: r, h => by
    change (if g = f then some 0 else (ixS f (r.map (·.1))).map (· + 1)) = _ at h
    by_cases hg : g = f
    · rw [if_pos hg] at h; cases h
    · rw [if_neg hg] at h
      have q : ixS f (r.map (·.1)) = none := by
        cases q : ixS f (r.map (·.1)) with
        | none => rfl
        | some j => rw [q] at h; cases h
      have hb : (f == g) = false := by simpa using fun z => hg z.symm
      simp [List.lookup, hb, look_none q]
theorem putF_new {f : Str} {v : V} : ∀ {fs : List (Str × V)}, ixS f (fs.map (·.1)) = none → putF f v fs = fs ++ [(f, v)]
  | [], _ => rfl
  | (g, x) :: r, h => by
    change (if g = f then some 0 else (ixS f (r.map (·.1))).map (· + 1)) = _ at h
    by_cases hg : g = f
    · rw [if_pos hg] at h; cases h
    · rw [if_neg hg] at h
      have q : ixS f (r.map (·.1)) = none := by
        cases q : ixS f (r.map (·.1)) with
        | none => rfl
        | some j => rw [q] at h; cases h
      unfold putF
      rw [if_neg hg, putF_new q]
      rfl
theorem putF_old {f : Str} {v : V} : ∀ {fs : List (Str × V)} {i : Nat}, ixS f (fs.map (·.1)) = some i → (putF f v fs).map (·.1) = fs.map (·.1) ∧ (putF f v fs).map (·.2) = (fs.map (·.2)).set i v
  | [], _, h => by cases h
  | (g, x) :: r, i, h => by
    change (if g = f then some 0 else (ixS f (r.map (·.1))).map (· + 1)) = _ at h
    unfold putF
    by_cases hg : g = f
    · rw [if_pos hg] at h
      cases h
      rw [if_pos hg]
      exact ⟨rfl, rfl⟩
    · rw [if_neg hg] at h
      cases q : ixS f (r.map (·.1)) with
      | none => rw [q] at h; cases h
      | some j =>
        rw [q] at h
        cases h
        obtain ⟨h1, h2⟩ := putF_old (v := v) q
        rw [if_neg hg]
        exact ⟨by simp [h1], by simp [h2]⟩
/-- what the text says of a class -/
structure Kls (K : PySem.W.Frag) (C : Addr) (names : List Str) : Prop where
  cl : Cls K C
  no : ∀ f ∈ names, NoAttr K C f
/-- an instance, fixed or not -/
def InsAt (μ : Mu) (x : D) (C : Addr) (gs : List (Str × D)) : Prop := x = .ins C gs ∨ ∃ p, x = .ref p ∧ μ p = some (.ins C gs)
theorem InsAt.at {K : PySem.W.Frag} {Z : Addr → Prop} {H : Hp} {μ : Mu} {x : D} {C : Addr} {gs : List (Str × D)} {v : V} (h : InsAt μ x C gs) (ok : Ok K μ Z H) (i : Is K (Av μ Z) H v x) :
    ∃ a dx fs, v = .ref a ∧ H a = some (.ins C dx fs) ∧ fs.map (·.1) = gs.map (·.1) ∧ IsA K (Av μ Z) H (fs.map (·.2)) (gs.map (·.2)) := by
  rcases h with rfl | ⟨p, rfl, e⟩
  · cases i with
    | ins n h hk t => exact ⟨_, _, _, rfl, h, hk, t⟩
  · cases isRef i
    obtain ⟨dx, fs, h, hk, t⟩ := ok.at_ _ _ e
    exact ⟨_, _, _, rfl, h, hk, t⟩
/-- a field read -/
def FldQ (K : PySem.W.Frag) (μ : Mu) (x : D) (f : Str) (R : D → Prop) : Prop := ∃ C gs i d, InsAt μ x C gs ∧ Cls K C ∧ NoAttr K C f ∧ ixS f (gs.map (·.1)) = some i ∧ (gs.map (·.2))[i]? = some d ∧ R d
theorem fld_f {K : PySem.W.Frag} {μ : Mu} {C : Addr} {names : List Str} {gs : List (Str × D)} {f : Str} {i : Nat} {d : D} {R : D → Prop} (T : Kls K C names) (e : ixS f (gs.map (·.1)) = some i) (hf : f ∈ names) (h : (gs.map (·.2))[i]? = some d) (r : R d) : FldQ K μ (.ins C gs) f R :=
  ⟨C, gs, i, d, .inl rfl, T.cl, T.no f hf, e, h, r⟩
theorem fld_m {K : PySem.W.Frag} {μ : Mu} {p C : Addr} {names : List Str} {gs : List (Str × D)} {f : Str} {i : Nat} {d : D} {R : D → Prop} (m : μ p = some (.ins C gs)) (T : Kls K C names) (e : ixS f (gs.map (·.1)) = some i) (hf : f ∈ names) (h : (gs.map (·.2))[i]? = some d) (r : R d) : FldQ K μ (.ref p) f R :=
  ⟨C, gs, i, d, .inr ⟨p, rfl, m⟩, T.cl, T.no f hf, e, h, r⟩
/-- a field stored -/
def PutQ (K : PySem.W.Frag) (μ : Mu) (x : D) (f : Str) (d : D) (R : Mu → Prop) : Prop := ∃ p C gs gs', x = .ref p ∧ μ p = some (.ins C gs) ∧ Cls K C ∧ NoAttr K C f ∧ gs.length < 1000 ∧
  ((ixS f (gs.map (·.1)) = none ∧ gs' = gs ++ [(f, d)]) ∨ ∃ i, ixS f (gs.map (·.1)) = some i ∧ gs'.map (·.1) = gs.map (·.1) ∧ gs'.map (·.2) = (gs.map (·.2)).set i d) ∧ R (updM μ p (.ins C gs'))
theorem put_n {K : PySem.W.Frag} {μ : Mu} {p C : Addr} {names : List Str} {gs : List (Str × D)} {f : Str} {d : D} {R : Mu → Prop} (m : μ p = some (.ins C gs)) (T : Kls K C names) (e : ixS f (gs.map (·.1)) = none) (hf : f ∈ names) (hl : gs.length < 1000) (r : R (updM μ p (.ins C (gs ++ [(f, d)])))) : PutQ K μ (.ref p) f d R :=
  ⟨p, C, gs, _, rfl, m, T.cl, T.no f hf, hl, .inl ⟨e, rfl⟩, r⟩
theorem put_o {K : PySem.W.Frag} {μ : Mu} {p C : Addr} {names : List Str} {gs gs' : List (Str × D)} {f : Str} {i : Nat} {d : D} {R : Mu → Prop} (m : μ p = some (.ins C gs)) (T : Kls K C names) (e : ixS f (gs.map (·.1)) = some i) (hf : f ∈ names) (hl : gs.length < 1000) (h1 : gs'.map (·.1) = gs.map (·.1)) (h2 : gs'.map (·.2) = (gs.map (·.2)).set i d) (r : R (updM μ p (.ins C gs'))) : PutQ K μ (.ref p) f d R :=
  ⟨p, C, gs, gs', rfl, m, T.cl, T.no f hf, hl, .inr ⟨i, e, h1, h2⟩, r⟩
/-- a class called, a method called -/
structure Ck (X : Cz) (x : Str) (C : Addr) (s : Spc) : Prop where
  mono : s.Mono
  ex : ∃ k f fd ps, Mk X.K C f ∧ FnOk X.prog X.w X.K X.mg X.base (L2.CX X.prog X.w) k f fd ps (lift X.K s) ∧ Room (k + 1) X.A ∧ X.mg x = some (.ref C) ∧ Binds X.K fd ps []
  gl : Gl X x
  db : (x == ("__debug__" : Str)) = false
structure Cm (X : Cz) (C : Addr) (m : Str) (s : Spc) : Prop where
  mono : s.Mono
  cl : Cls X.K C
  ex : ∃ k f fd ps, Meth X.K C m f ∧ FnOk X.prog X.w X.K X.mg X.base (L2.CX X.prog X.w) k f fd ps (lift X.K s) ∧ Room k X.A ∧ Binds X.K fd ps []
/-- .. with n values (self among them) and keywords -/
structure CmK (X : Cz) (C : Addr) (m : Str) (n : Nat) (ks : List Str) (g : {α : Type} → List α → List α → List α) (s : Spc) : Prop where
  mono : s.Mono
  cl : Cls X.K C
  ex : ∃ k f fd ps, Meth X.K C m f ∧ FnOk X.prog X.w X.K X.mg X.base (L2.CX X.prog X.w) k f fd ps (lift X.K s) ∧ Room k X.A ∧ KBn X.K fd ps n ks (fun us ws => g us ws) (fun us ws => g us ws)
  rel : ∀ {K : PySem.W.Frag} {A : Addr → Prop} {H : Hp} {vs zs : List V} {ds es : List D}, vs.length = n → zs.length = ks.length → IsA K A H vs ds → IsA K A H zs es → IsA K A H (g vs zs) (g ds es)
section
variable {X : Cz} {Γ Γ' : Gm} {μ μ' : Mu} {a b c e o : Expr} {es : List Expr} {pos p0 p2 : Pos} {Q : Mu → D → Prop} {k : Kt}
theorem we_fld {f : Str} (h : WE X e Γ μ fun μ1 x => FldQ X.K μ1 x f fun d => Q μ1 d) (hb : attributeBase e f X.env (eval e X.env) = eval e X.env := by rfl) : WE X (.Attribute e f pos) Γ μ Q := fun Z σ H en ok tk => by
  refine toS (pe_fld pe_S hb) ?_
  refine h.use (Go.refl ok) en tk fun v H1 μ1 d g1 _ en1 i1 q1 => ?_
  obtain ⟨C, gs, i, d', hi, hc, hn, h1, h2, q⟩ := q1
  obtain ⟨a, dx, fs, rfl, hH, hk, t⟩ := hi.at g1.ok i1
  obtain ⟨v, h3, iv⟩ := t.get h2
  exact ⟨a, C, dx, fs, v, rfl, hH, hc, hn, look_some (by rw [hk]; exact h1) h3, μ1, d', g1, iv, q⟩
theorem ws_fld {f : Str} (h : WE X e Γ μ fun μ1 d => WE X o Γ μ1 fun μ2 x => PutQ X.K μ2 x f d fun μ3 => k.nx Γ μ3) (hs : swapsWith e (some (.Attribute o f p2)) pos.line X.env = pure false := by rfl) : WS X (.Assign [.Attribute o f p2] e pos) Γ μ k := fun Z σ H en ok tk => by
  refine toSS (ps_fld pe_S pe_S hs) ?_
  refine h.use (Go.refl ok) en tk fun v H1 μ1 d g1 _ en1 i1 q1 => ?_
  refine q1.use g1 en1 tk fun w H2 μ2 d2 g2 g2' en2 i2 q2 => ?_
  obtain ⟨p, C, gs, gs', rfl, m, hc, hn, hl, hg, q⟩ := q2
  cases isRef i2
  obtain ⟨dx, fs, hH, hk, t⟩ := g2.ok.at_ _ _ m
  have iv := i1.mono g2'.fz
  have hlen : fs.length = gs.length := by
    have := congrArg List.length hk
    simpa using this
  refine ⟨p, C, dx, fs, rfl, hH, hc, hn, by rw [hlen]; exact hl, ?_⟩
  have g3 := Go.put g2.ok (.ins C gs') (.ins C dx (putF f v fs)) (.inr ⟨_, m⟩) fun mm => ⟨dx, _, upd_same, ?_, ?_⟩
  · exact ⟨Γ, _, g2.trans g3, en2.mono g3.fz, q⟩
  · rcases hg with ⟨e1, e2⟩ | ⟨i, e1, e2, e3⟩
    · rw [putF_new (by rw [hk]; exact e1), e2]
      simp [hk]
    · rw [(putF_old (by rw [hk]; exact e1)).1, hk, e2]
  · rcases hg with ⟨e1, e2⟩ | ⟨i, e1, e2, e3⟩
    · have e3 : (putF f v fs).map (·.2) = fs.map (·.2) ++ [v] := by rw [putF_new (by rw [hk]; exact e1)]; simp
      have e4 : gs'.map (·.2) = gs.map (·.2) ++ [d] := by rw [e2]; simp
      rw [e3, e4]
      exact mm (t.append (.cons iv .nil))
    · rw [(putF_old (by rw [hk]; exact e1)).2, e3]
      exact mm (t.set iv i)
/-- C(e, ..) -/
theorem we_make {x : Str} {C : Addr} {s : Spc} (T : Ck X x C s) (h : WA X (e :: es) Γ μ fun μ1 ds => ∀ p, μ1 p = none → s (.ref p :: ds) (updM μ1 p (.ins C [])) (fun μ2 d => d = .non ∧ Q μ2 (.ref p)) (X.xd Γ))
    (he : starEach (e :: es) X.env = (false, eval e X.env) :: starEach es X.env := by rfl) (hpl : (backTo pos (starEach es X.env)).any (·.1) = false := by rfl) : WE X (.Call (.Name x p0) (e :: es) [] pos) Γ μ Q := fun Z σ H en ok tk => by
  obtain ⟨k, f, fd, ps, M, F, hr, hm, hb⟩ := T.ex
  refine toS (pe_makeS M F hr T.gl hm hb tk.pass pa_S T.db he hpl) ?_
  refine h.use (Go.refl ok) en tk fun vs H1 μ1 ds g1 _ en1 i1 q1 => ?_
  intro x dx hx hdx hne
  have g2 := Go.frz g1.ok hdx (.own x)
  have hx2 : upd H1 dx (.own x) x = none := by rw [upd_ne (Ne.symm hne)]; exact hx
  have g3 := Go.put g2.ok (.ins C []) (.ins C dx []) (.inl hx2) fun mm => ⟨dx, [], upd_same, rfl, .nil⟩
  have g := (g1.trans g2).trans g3
  refine ⟨.ref x :: ds, _, Z, .cons (.ref x) (i1.mono (g2.trans g3).fz), g3.ok, T.mono _ _ _ _ _ _ (fun μ' d q => ?_) (fun μ' x z => ?_) (q1 x (g1.ok.fresh hx).1)⟩
  · intro v H' g' is
    obtain ⟨rfl, q⟩ := q
    exact ⟨isNon is, μ', _, g.trans g', .ref x, q⟩
  · exact fun od H' g' is => ⟨Γ, μ', x, g.trans g', (en1.mono (g2.trans g3).fz).mono g'.fz, is, rfl, z⟩
/-- o.m(e, ..), o.m() -/
def RcvQ (μ : Mu) (x : D) (C : Addr) (m : Str) : Prop := ∃ gs, InsAt μ x C gs ∧ ixS m (gs.map (·.1)) = none
theorem rcv_f {C : Addr} {gs : List (Str × D)} {m : Str} (e : ixS m (gs.map (·.1)) = none) : RcvQ μ (.ins C gs) C m := ⟨gs, .inl rfl, e⟩
theorem rcv_m {C p : Addr} {gs : List (Str × D)} {m : Str} (h : μ p = some (.ins C gs)) (e : ixS m (gs.map (·.1)) = none) : RcvQ μ (.ref p) C m := ⟨gs, .inr ⟨p, rfl, h⟩, e⟩
theorem we_meth {pl : Sem Bool} {m : Str} {C : Addr} {s : Spc} {apos : Pos} (T : Cm X C m s) (h : WE X o Γ μ fun μ1 x => Req (RcvQ μ1 x C m) <| WA X (e :: es) Γ μ1 fun μ2 ds => s (x :: ds) μ2 Q (X.xd Γ))
    (hst : starEach (e :: es) X.env = (false, eval e X.env) :: starEach es X.env := by rfl) (hpl : (backTo pos (starEach es X.env)).any (·.1) = false := by rfl)
    (ht : eval (.Call (.Attribute o m apos) (e :: es) [] pos) X.env = (do
      let ov ← eval o X.env
      standAt apos.atName
      let (f, first) ← holding [ov] (getMethod ov m pl)
      callWith pos f first (backTo pos (starEach (e :: es) X.env)) (backToKw pos (keywordEach [] X.env))) := by rfl) : WE X (.Call (.Attribute o m apos) (e :: es) [] pos) Γ μ Q := fun Z σ H en ok tk => by
  obtain ⟨k, f, fd, ps, M, F, hr, hb⟩ := T.ex
  refine toS (pe_methS pe_S T.cl M F hr hb tk.pass pa_S hst hpl ht) ?_
  refine h.use (Go.refl ok) en tk fun v H1 μ1 x g1 _ en1 i1 q1 => ?_
  obtain ⟨⟨gs, hi, hn⟩, q1⟩ := q1
  obtain ⟨a, dx, fs, rfl, hH, hk, t⟩ := hi.at g1.ok i1
  refine ⟨a, dx, fs, rfl, hH, look_none (by rw [hk]; exact hn), ?_⟩
  refine q1.use g1 en1 tk fun vs H2 μ2 ds g2 g2' en2 i2 q2 => ?_
  exact lift_of T.mono g2 en2 (.cons (i1.mono g2'.fz) i2) q2
theorem we_meth0 {pl : Sem Bool} {m : Str} {C : Addr} {s : Spc} {apos : Pos} (T : Cm X C m s) (h : WE X o Γ μ fun μ1 x => Req (RcvQ μ1 x C m) <| s [x] μ1 Q (X.xd Γ))
    (ht : eval (.Call (.Attribute o m apos) [] [] pos) X.env = (do
      let ov ← eval o X.env
      standAt apos.atName
      let (f, first) ← holding [ov] (getMethod ov m pl)
      callWith pos f first (backTo pos (starEach [] X.env)) (backToKw pos (keywordEach [] X.env))) := by rfl) : WE X (.Call (.Attribute o m apos) [] [] pos) Γ μ Q := fun Z σ H en ok tk => by
  obtain ⟨k, f, fd, ps, M, F, hr, hb⟩ := T.ex
  refine toS (pe_methS0 pe_S T.cl M F hr hb tk.pass ht) ?_
  refine h.use (Go.refl ok) en tk fun v H1 μ1 x g1 _ en1 i1 q1 => ?_
  obtain ⟨⟨gs, hi, hn⟩, q1⟩ := q1
  obtain ⟨a, dx, fs, rfl, hH, hk, t⟩ := hi.at g1.ok i1
  exact ⟨a, dx, fs, rfl, hH, look_none (by rw [hk]; exact hn), lift_of T.mono g1 en1 (.cons i1 .nil) q1⟩
theorem we_methK0 {pl : Sem Bool} {m : Str} {C : Addr} {s : Spc} {apos : Pos} {kws : List Keyword} {g : {α : Type} → List α → List α → List α} (T : CmK X C m 1 (kws.filterMap (·.arg)) g s)
    (h : WE X o Γ μ fun μ1 x => Req (RcvQ μ1 x C m) <| WKw X kws Γ μ1 fun μ2 zs => Req (zs.length = (kws.filterMap (·.arg)).length) <| s (g [x] zs) μ2 Q (X.xd Γ))
    (hall : (backToKw pos (keywordEach kws X.env)).all (·.1.isSome) = true := by rfl) (hks : (backToKw pos (keywordEach kws X.env)).filterMap (·.1) = kws.filterMap (·.arg) := by rfl)
    (hpl : ((backTo pos (starEach [] X.env)).any (·.1) || (backToKw pos (keywordEach kws X.env)).any (·.1.isNone)) = false := by rfl)
    (ht : eval (.Call (.Attribute o m apos) [] kws pos) X.env = (do
      let ov ← eval o X.env
      standAt apos.atName
      let (f, first) ← holding [ov] (getMethod ov m pl)
      callWith pos f first (backTo pos (starEach [] X.env)) (backToKw pos (keywordEach kws X.env))) := by rfl) : WE X (.Call (.Attribute o m apos) [] kws pos) Γ μ Q := fun Z σ H en ok tk => by
  obtain ⟨k, f, fd, ps, M, F, hr, hb⟩ := T.ex
  refine toS (pe_methNS0 pe_S T.cl M F hr hb tk.pass pk_S hall hks hpl ht) ?_
  refine h.use (Go.refl ok) en tk fun v H1 μ1 x g1 _ en1 i1 q1 => ?_
  obtain ⟨⟨gs, hi, hn⟩, q1⟩ := q1
  obtain ⟨a, dx, fs, rfl, hH, hk, t⟩ := hi.at g1.ok i1
  refine ⟨a, dx, fs, rfl, hH, look_none (by rw [hk]; exact hn), ?_⟩
  refine q1.use g1 en1 tk fun zs H2 μ2 ds g2 g2' en2 i2 q2 => ?_
  have l2 : zs.length = (kws.filterMap (·.arg)).length := i2.length.trans q2.1
  exact ⟨rfl, l2, lift_of T.mono g2 en2 (T.rel rfl l2 (.cons (i1.mono g2'.fz) .nil) i2) q2.2⟩
/-- len(x), x an instance whose class has its own -/
def rLenI (C : Addr) (s : Sp) (E : L2.St → XK) (σ : L2.St) : List V → Hp → VK → Prop := fun xs H Q => ∃ a dx fs, xs = [.ref a] ∧ H a = some (.ins C dx fs) ∧ s [.ref a] H (fun z H' => ∃ n : Nat, z = .int n ∧ n < 2 ^ 62 ∧ Q (.int n) H') (E σ)
end
end DL

set_option Elab.async false
set_option linter.all false
set_option maxRecDepth 100000
set_option maxHeartbeats 2000000
namespace DL
open PySem PySem.Spec PyProof.Rows L2

/-- what the text says of it -/
structure XCls (K : PySem.W.Frag) (C : Addr) (f : Str) : Prop where
  T : OexC K C
  no : PySem.W.findIn K (.ref C) f = some none
structure Xk (X : Cz) (x : Str) (C : Addr) (f : Str) : Prop where
  T : OexC X.K C
  ex : ∃ k fI fd ps, PySem.W.findIn X.K (.ref C) "__init__" = some (some (.ref fI)) ∧ PySem.W.typeIn X.K (.ref fI) = some (.type "function") ∧
    FnOk X.prog X.w X.K X.mg X.base CX0 k fI fd ps (fun vs H Q _ => ∃ (a : Addr) (y : V), vs = [.ref a, y] ∧ H a = some (exo a C none) ∧ ∀ dx, H dx = none → dx ≠ a → Q .non (upd (upd H dx (exd dx [(f, y)])) a (exo a C (some dx)))) ∧ Room (k + 1) X.A ∧ Binds X.K fd ps []
  gl : Gl X x
  mg : X.mg x = some (.ref C)
  db : (x == ("__debug__" : Str)) = false
section
variable {X : Cz} {Γ Γ' : Gm} {μ μ' : Mu} {a b c e o : Expr} {es : List Expr} {pos p0 p1 p2 : Pos} {Q : Mu → D → Prop} {k : Kt}
/-- raise C(e) -/
theorem ws_raise1 {x f : Str} {C : Addr} (hc : X.calm = true) (T : Xk X x C f) (h : WE X e Γ μ fun μ1 d => X.xd Γ μ1 ⟨.ref C, [(f, d)]⟩)
    (he : starEach [e] X.env = (false, eval e X.env) :: starEach [] X.env := by rfl) (hpl : (backTo pos (starEach [] X.env)).any (·.1) = false := by rfl) :
    WS X (.Raise (some (.Call (.Name x p0) [e] [] pos)) none p2) Γ μ k := fun Z σ H en ok tk => by
  obtain ⟨j, fI, fd, ps, iC, tI, F, hr, hb⟩ := T.ex
  refine toSS (ps_raise hc tk (pmk_oex T.T iC tI F hr hb .nil pass0 T.gl T.mg (pa_cons pe_S pa_nil he) T.db he hpl)) ?_
  refine h.use (Go.refl ok) en tk fun v H1 μ1 d g1 _ en1 i1 q1 => ?_
  refine ⟨(by show 1 ≤ 1000; decide), fun a ha => ⟨a, v, rfl, upd_same, fun dx hdx hne => ⟨rfl, dx, [(f, v)], upd_same, ?_, ?_, ?_⟩⟩⟩
  · rw [upd_ne hne, upd_same]
  · rw [upd_ne hne] at hdx; exact hdx
  · have hd1 : H1 dx = none := by rw [upd_ne hne] at hdx; exact hdx
    have eq : upd (L2.del (upd (upd (upd H1 a (exo a C none)) dx (exd dx [(f, v)])) a (exo a C (some dx))) a) dx (.xd [(f, v)]) = upd H1 dx (.xd [(f, v)]) := by
      funext b
      by_cases h1 : b = dx
      · subst h1; rw [upd_same, upd_same]
      · rw [upd_ne h1, upd_ne h1]
        by_cases h2 : b = a
        · subst h2; rw [del_same, ha]
        · rw [del_ne h2, upd_ne h2, upd_ne h1, upd_ne h2]
    rw [eq]
    have g2 := Go.frz g1.ok hd1 (.xd [(f, v)])
    refine ⟨Γ, μ1, _, g1.trans g2, en1.mono g2.fz, ?_, rfl, q1⟩
    exact ⟨g1.ok.notAv hd1, _, upd_same, rfl, .cons (i1.mono g2.fz) .nil⟩
/-- a class of the program, named -/
theorem we_cls {x : Str} {C : Addr} (hg : Gl X x) (hm : X.mg x = some (.ref C)) (hd : (x == ("__debug__" : Str)) = false) (q : Q μ (.ref C)) : WE X (.Name x pos) Γ μ Q := fun Z σ H en ok tk => by
  refine toS (t := tC (.ref C)) ⟨fun pins s σ H Q I h => ld_glob I hg hm ⟨.ref C, H, I, rfl, h⟩ hd⟩ ?_
  exact ⟨μ, _, Go.refl ok, .ref C, q⟩
theorem we_bty {x : Str} {n : String} (B : Bl X x) (hv : bootBuiltins x = some (.type n)) (hn : x ≠ "__name__") (hd : (x == ("__debug__" : Str)) = false) (q : Q μ (.ty n)) : WE X (.Name x pos) Γ μ Q := fun Z σ H en ok tk => by
  refine toS (pe_bltn (v := .ty n) B.gl B.mg hv rfl hn hd) ?_
  exact ⟨μ, _, Go.refl ok, .ty n, q⟩
/-- the context of a try's body -/
def TryX (X X' : Cz) (xd : Gm → Mu → Xd → Prop) : Prop := ∃ pn xe, X' = ⟨X.toCx.tr pn xe, xd⟩ ∧ PassesOwn (model X.prog X.w) X.A X.env xe
/-- the context of an except suite; a: the exception -/
structure SuX (X X' : Cz) (a : Addr) (cls : Value) (od : Option Addr) : Prop where
  ex : ∃ oe pn, X' = ⟨X.toCx.suite a ((a, oe) :: pn), fun _ _ _ => False⟩ ∧ Zc cls od oe ∧ ∃ vs, oe.data = .fields vs
theorem En.unset {K : PySem.W.Frag} {A : Addr → Prop} {H : Hp} {σ : L2.St} {Γ : Gm} (h : En K A H σ Γ) (i : Nat) : En K A H (σ.set i none) (Γ.set i none) := by
  refine ⟨by rw [List.length_set, List.length_set]; exact h.len, fun j e q => ?_⟩
  by_cases hj : i = j
  · subst hj
    by_cases hl : i < Γ.length
    · rw [List.getElem?_set_self hl] at q; cases q
    · rw [List.getElem?_eq_none (by rw [List.length_set]; omega)] at q; cases q
  · rw [List.getElem?_set_ne hj] at q ⊢
    exact h.at_ j e q
/-- what the clause does with an exception -/
def Catch (X : Cz) (c : Value) (i : Nat) (suite : List Stmt) (k : Kt) (Γ : Gm) (μ : Mu) (x : Xd) : Prop := ∃ r, PySem.W.exmOne X.K x.cls c = some r ∧
  (r = true → ∀ a od X', SuX X X' a x.cls od → WB X' suite (Γ.set i (some (.exc a od x.fld))) μ ⟨fun Γ2 μ2 => k.nx (Γ2.set i none) μ2, k.rt, fun Γ2 μ2 => k.bk (Γ2.set i none) μ2, fun Γ2 μ2 => k.ct (Γ2.set i none) μ2⟩) ∧ (r = false → X.xd Γ μ x)
theorem ws_try_as {x n : Str} {c : Value} {i : Nat} {body suite : List Stmt} {b₀ : Stmt} {np pos' : Pos} (hs : X.stack = X.env :: X.outer) (hf : X.env.frame = some X.env.locals) (hn : Nw X n i) (hln : X.env.kindOf n = some .local) (hc : Names X x c)
    (h : ∀ X', TryX X X' (Catch X c i (b₀ :: suite) k) → WB X' body Γ μ k) : WS X (.Try body [.ExceptHandler (some (.Name x np)) (some n) (b₀ :: suite) pos'] [] [] pos) Γ μ k := fun Z σ H en ok tk => by
  refine toSS (ps_try_as (tb := fun W D σ H => ∀ pn xe, Takes (X.toCx.tr pn xe) W → PassesOwn (model X.prog X.w) X.A X.env xe → SB (X.toCx.tr pn xe) body D σ H)
    (ts := fun a cls d D σ H => ∀ oe pn, Zc cls d oe → (∃ vs, oe.data = .fields vs) → SB (X.toCx.suite a ((a, oe) :: pn)) (b₀ :: suite) D σ H)
    hs hf hn.nd hn.ix hln hc tk (fun W pn xe tkW ps => ⟨fun pins s σ H D I h => (pss_S (X := X.toCx.tr pn xe)).run pins s σ H D I (h pn xe tkW ps)⟩)
    (fun a oe cls d pn hz hd => ⟨fun pins s σ H D I h => (pss_S (X := X.toCx.suite a ((a, oe) :: pn))).run pins s σ H D I (h oe pn hz hd)⟩)) ?_
  intro pn xe tkW ps
  have tk' : Tk ⟨X.toCx.tr pn xe, Catch X c i (b₀ :: suite) k⟩ Z μ H := Takes.imp tkW fun cls od σ' H' ⟨Γ', μ', xx, g, en', xi, ex, r, hr, hyes, hno⟩ => by
    subst ex
    refine ⟨r, hr, fun hb a ha => ?_, fun hb => ⟨Γ', μ', xx, g, en', xi, rfl, hno hb⟩⟩
    intro oe pn2 hz hd
    have is : Is X.K (Av μ' Z) H' (.ref a) (.exc a od xx.fld) := by
      cases od with
      | none =>
        have e : xx.fld = [] := xi
        rw [e]
        exact .exc0 a
      | some dx =>
        obtain ⟨n1, fs, h1, h2, h3⟩ := xi
        exact .exc n1 h1 h2 h3
    have q := hyes hb a od ⟨X.toCx.suite a ((a, oe) :: pn2), fun _ _ _ => False⟩ ⟨oe, pn2, rfl, hz, hd⟩
    refine SB.mono ?_ (q Z _ H' (en'.set i is) g.ok (Tk.never fun _ _ _ z => z))
    exact ⟨fun σ2 H2 ⟨Γ2, μ2, g2, en2, q2⟩ => ⟨_, μ2, g.trans g2, en2.unset i, q2⟩, fun v H2 p => PostE.up g p, fun σ2 H2 ⟨Γ2, μ2, g2, en2, q2⟩ => ⟨_, μ2, g.trans g2, en2.unset i, q2⟩, fun σ2 H2 ⟨Γ2, μ2, g2, en2, q2⟩ => ⟨_, μ2, g.trans g2, en2.unset i, q2⟩⟩
  exact h ⟨X.toCx.tr pn xe, Catch X c i (b₀ :: suite) k⟩ ⟨pn, xe, rfl, ps⟩ Z σ H en ok tk'
structure XisC (K : PySem.W.Frag) (C : Addr) : Prop where
  hcl : (PySem.W.clsIn K C).isSome = true
  hg : PySem.W.findIn K (.ref C) "__getattribute__" = some (some (.builtin "BaseException.__getattribute__"))
  hk : PySem.W.findIn K (.ref C) "__getattr__" = some none
  hs : PySem.W.subIn K (.ref C) (.type "BaseException") = some true
  ha : PySem.W.findIn K (.ref C) "__class__" = some (some (.builtin "object.__class__"))
  hn : PySem.W.specialIn K (.builtin "object.__class__") "__get__" = some (some (.builtin "getset_descriptor.__get__"))
  ht : PySem.W.takesIn K (.builtin "object.__class__") = some true
  hm : PySem.W.mroIn K C (.type "object") = some true
theorem exc_inst {K : PySem.W.Frag} {A : Addr → Prop} {H : Hp} {X : Cx} {pins : List (Addr × Obj)} {σ : L2.St} {s : Shared} {a a0 C : Addr} {oe : Obj} {pn : List (Addr × Obj)} {od : Option Addr} {gs : List (Str × D)} {v : V} (I : Inv (X.suite a ((a, oe) :: pn)) pins σ H s) (i : Is K A H v (.exc a od gs)) (hz : Zc (.ref C) od oe) (hv : ∃ vs, oe.data = .fields vs) :
    v = .ref a ∧ ∃ oo, PySem.W.InstAt s.heap a oe C oo := by
  obtain ⟨ha, _⟩ := I.pin (a, oe) (List.mem_append_left _ List.mem_cons_self)
  obtain ⟨vs, hd⟩ := hv
  cases i with
  | exc0 => exact ⟨rfl, none, ha, hz.1, by unfold PySem.W.notCls; rw [hd] <;> rfl, by rw [hz.2]; trivial⟩
  | exc n h hk t =>
    rename_i dx fs
    have hx : ObjOk X.prog X.w H s.heap dx (.xd fs) := I.hok dx _ h
    obtain ⟨mA, hns, hr⟩ := hx
    obtain ⟨oo, ho, hl⟩ := lookIn_ns hns
    exact ⟨rfl, some oo, ha, hz.1, by unfold PySem.W.notCls; rw [hd] <;> rfl, by rw [hz.2]; exact ho⟩
/-- a class as data -/
def clsD : D → Option Value
  | .ty n => some (.type n)
  | .ref C => some (.ref C)
  | _ => none
/-- isinstance(e, c): e the exception that the suite holds -/
theorem we_isE {X0 : Cz} {a0 C : Addr} {od : Option Addr} (S : SuX X0 X a0 (.ref C) od) (T : XisC X.K C) (B : Bl X "isinstance")
    (h : WE X e Γ μ fun μ1 x => WE X c Γ μ1 fun μ2 y => ∃ gs cv r, x = .exc a0 od gs ∧ clsD y = some cv ∧ PySem.W.kitOne X.K (.ref C) cv = some r ∧ Q μ2 (.bl r))
    (he : starEach [e, c] X.env = (false, eval e X.env) :: starEach [c] X.env := by rfl) (he2 : starEach [c] X.env = (false, eval c X.env) :: starEach [] X.env := by rfl) (hpl : (backTo pos (starEach [c] X.env)).any (·.1) = false := by rfl) :
    WE X (.Call (.Name "isinstance" p0) [e, c] [] pos) Γ μ Q := by
  obtain ⟨oe, pn, rfl, hz, hv⟩ := S.ex
  refine we_b2 (id := "isinstance") (r := fun xs H Q => ∃ (K : PySem.W.Frag) (A : Addr → Prop) (v w : V) (gs : List (Str × D)) (cv : Value) (r : Bool), xs = [v, w] ∧ Is K A H v (.exc a0 od gs) ∧ (∀ u, RelV w u → u = cv) ∧ PySem.W.kitOne X0.K (.ref C) cv = some r ∧ Q (.bl r) H) ?_ B (by decide +kernel) ?_ (he := he) (he2 := he2) (hpl := hpl)
  · intro pins s σ H xs us Q I r h
    obtain ⟨K, A, v, w, gs, cv, rr, rfl, iv, hw, hk, q⟩ := h
    obtain ⟨rfl, oo, J⟩ := exc_inst (a0 := a0) I iv hz hv
    cases r with
    | cons rx rr =>
      cases rr with
      | cons rt rr =>
        cases rr
        cases rx
        have ec := hw _ rt
        subst ec
        exact PySem.W.kia_one (PySem.W.kitx_exc T.hcl T.hg T.hk T.hs T.ha T.hn T.ht T.hm) I.kIn J hk (fun z => nomatch z) fun tk => ⟨.bl _, H, I.kept (t' := tk) fun _ _ z => z, rfl, q⟩
  · refine h.mono fun μ1 d q1 => q1.mono fun μ2 d2 q2 => ?_
    intro Z μ0 H0 H v w g i1 i2
    obtain ⟨gs, cv, r, rfl, hc, hk, q⟩ := q2
    refine ⟨_, _, v, w, gs, cv, r, rfl, i1, ?_, hk, μ2, _, g, .bl _, q⟩
    intro u ru
    cases i2 <;> simp [clsD] at hc
    · subst hc; exact ru
    · subst hc; exact ru
theorem we_isET {X0 : Cz} {a0 C : Addr} {od : Option Addr} (S : SuX X0 X a0 (.ref C) od) (T : XisC X.K C) (B : Bl X "isinstance")
    (h : WE X e Γ μ fun μ1 x => WE X c Γ μ1 fun μ2 y => ∃ gs cs cvs r, x = .exc a0 od gs ∧ y = .tup cs ∧ cs.map clsD = cvs.map some ∧ PySem.W.kitAny X.K (.ref C) cvs = some r ∧ Q μ2 (.bl r))
    (he : starEach [e, c] X.env = (false, eval e X.env) :: starEach [c] X.env := by rfl) (he2 : starEach [c] X.env = (false, eval c X.env) :: starEach [] X.env := by rfl) (hpl : (backTo pos (starEach [c] X.env)).any (·.1) = false := by rfl) :
    WE X (.Call (.Name "isinstance" p0) [e, c] [] pos) Γ μ Q := by
  obtain ⟨oe, pn, rfl, hz, hv⟩ := S.ex
  refine we_b2 (id := "isinstance") (r := fun xs H Q => ∃ (A : Addr → Prop) (v : V) (tp : Addr) (ws : List V) (gs : List (Str × D)) (cvs : List Value) (r : Bool), xs = [v, .ref tp] ∧ Is X0.K A H v (.exc a0 od gs) ∧ SqT X0.K H tp ws ∧ (∀ us, Vals ws us → us = cvs) ∧ PySem.W.kitAny X0.K (.ref C) cvs = some r ∧ Q (.bl r) H) ?_ B (by decide +kernel) ?_ (he := he) (he2 := he2) (hpl := hpl)
  · intro pins s σ H xs us Q I r h
    obtain ⟨A, v, tp, ws, gs, cvs, rr, rfl, iv, st, hw, hk, q⟩ := h
    obtain ⟨rfl, oo, J⟩ := exc_inst (a0 := a0) I iv hz hv
    obtain ⟨its, rv, ⟨o, h1, h2, n, h3⟩, _⟩ := I.tuple st
    cases r with
    | cons rx rr =>
      cases rr with
      | cons rt rr =>
        cases rr
        cases rx
        cases rt
        have ec := hw _ rv
        subst ec
        obtain ⟨oc, od', dt, sl⟩ := o
        simp only at h2 h3
        subst h2 h3
        exact PySem.W.kia_tup (PySem.W.kitx_exc T.hcl T.hg T.hk T.hs T.ha T.hn T.ht T.hm) I.kIn J h1 hk (fun z => nomatch z) fun tk => ⟨.bl _, H, I.kept (t' := tk) fun _ _ z => z, rfl, q⟩
  · refine h.mono fun μ1 d q1 => q1.mono fun μ2 d2 q2 => ?_
    intro Z μ0 H0 H v w g i1 i2
    obtain ⟨gs, cs, cvs, r, rfl, rfl, hc, hk, q⟩ := q2
    cases i2 with
    | tup hT t =>
      refine ⟨_, v, _, _, gs, cvs, r, rfl, i1, hT.sq, ?_, hk, μ2, _, g, .bl _, q⟩
      clear hk q hT
      intro us hus
      rename_i tp vs
      clear i1 g h
      induction cvs generalizing vs cs us with
      | nil =>
        cases cs with
        | nil => cases t; cases hus; rfl
        | cons _ _ => simp at hc
      | cons cv cvs ih =>
        cases cs with
        | nil => simp at hc
        | cons y cs =>
          simp only [List.map_cons, List.cons.injEq] at hc
          cases t with
          | cons i t =>
            cases hus with
            | cons ru rus =>
              rw [ih cs hc.2 t _ rus]
              have hc1 := hc.1
              cases i <;> simp [clsD] at hc1
              · subst hc1; rw [show _ = _ from ru]
              · subst hc1; rw [show _ = _ from ru]
/-- e.f -/
theorem we_excF {X0 : Cz} {a0 C : Addr} {od : Option Addr} {f : Str} (S : SuX X0 X a0 (.ref C) od) (T : XisC X.K C) (hd : PySem.W.hasDictIn X.K C = true) (hno : PySem.W.findIn X.K (.ref C) f = some none)
    (h : WE X e Γ μ fun μ1 x => ∃ gs i d, x = .exc a0 od gs ∧ ixS f (gs.map (·.1)) = some i ∧ (gs.map (·.2))[i]? = some d ∧ Q μ1 d) (hb : attributeBase e f X.env (eval e X.env) = eval e X.env := by rfl) : WE X (.Attribute e f pos) Γ μ Q := fun Z σ H en ok tk => by
  obtain ⟨oe, pn, rfl, hz, hv⟩ := S.ex
  refine toS (pe_xf ⟨T.hg, T.hk, T.hs, hd⟩ hno hz hv pe_S hb) ?_
  refine h.use (Go.refl ok) en tk fun v H1 μ1 x g1 _ en1 i1 q1 => ?_
  obtain ⟨gs, i, d, rfl, h1, h2, q⟩ := q1
  cases i1 with
  | exc0 => simp at h2
  | exc n hh hk t =>
    obtain ⟨v, h3, iv⟩ := t.get h2
    exact ⟨rfl, rfl, _, _, v, rfl, hh, look_some (by rw [hk]; exact h1) h3, μ1, d, g1, iv, q⟩
theorem call_lenI {X : Cx} {n : Nat} {f C : Addr} {fd : FuncData} {ps : List Str} {sp : Sp} (hs : PySem.W.findIn X.K (.ref C) "__len__" = some (some (.ref f))) (hf : PySem.W.isFn X.K (.ref f) = true) (F : FnOk X.prog X.w X.K X.mg X.base (L2.CX X.prog X.w) n f fd ps sp) (hb : Binds X.K fd ps []) (hr : Room (n + 1) X.A) :
    CallR X (.builtin "len") (fun xs H Q => ∃ a dx fs, xs = [.ref a] ∧ H a = some (.ins C dx fs) ∧ sp [.ref a] H (fun z H' => ∃ i : Int, z = .int i ∧ 0 ≤ i ∧ i < 2 ^ 63 ∧ Q (.int i) H') E0) := by
  intro pins s σ H xs us Q I r h
  obtain ⟨a, dx, fs, rfl, ha, q⟩ := h
  obtain ⟨u, rfl, ru⟩ := r.one
  cases (show u = Value.ref a from ru)
  obtain ⟨mA, O, _⟩ := ins_get I.hok ha
  obtain ⟨od, J, _⟩ := O.look
  obtain ⟨m, hF⟩ := I.fr
  have hl : ([Value.ref a] ++ []).length = ps.length := by
    have := F.len _ _ _ _ q
    simpa using this
  have hbb := hb s [.ref a] I.kIn hl
  rw [List.append_nil] at hbb
  refine PySem.W.len_K hF I.ok.mod.kin J hs hf (wpAny_call (codeAny_mono (F.run X.A.in1 X.stack s H ⟨[.ref a], []⟩ [.ref a] [.ref a] _ E0 hr.in1 I.env0.in1 hbb (.cons rfl .nil) q) fun r s' hq => ?_))
  cases r with
  | error e => exact (passL (X := X) pins σ H s e s' I hq)
  | ok fl =>
    cases fl with
    | ret u =>
      obtain ⟨z, H', I', rz, i, ei, h0, h1, qz⟩ := I.after hq
      subst ei
      obtain ⟨t, e⟩ := (show ∃ t, u = Value.int i t from rz)
      cases e
      exact ⟨⟨h0, h1⟩, .int i, H', I'.tok _, ⟨s'.toks, rfl⟩, qz⟩
    | next => exact False.elim hq
    | brk => exact False.elim hq
    | cont => exact False.elim hq
/-- len(x) of an instance: the class's own method, one room more -/
structure Cl1 (X : Cz) (C : Addr) (s : Spc) : Prop where
  mono : s.Mono
  ex : ∃ k f fd ps, Meth X.K C "__len__" f ∧ FnOk X.prog X.w X.K X.mg X.base (L2.CX X.prog X.w) k f fd ps (lift X.K s) ∧ Room (k + 1) X.A ∧ Binds X.K fd ps []
theorem we_lenI {C : Addr} {s : Spc} (B : Bl X "len") (T : Cl1 X C s) (h : WE X e Γ μ fun μ1 x => ∃ gs, InsAt μ1 x C gs ∧ s [x] μ1 (fun μ2 d => ∃ i : Int, d = .int i ∧ 0 ≤ i ∧ i < 2 ^ 63 ∧ Q μ2 (.int i)) (fun _ _ => False))
    (he : starEach [e] X.env = (false, eval e X.env) :: starEach [] X.env := by rfl) (hpl : (backTo pos (starEach [] X.env)).any (·.1) = false := by rfl) : WE X (.Call (.Name "len" p0) [e] [] pos) Γ μ Q := by
  obtain ⟨k, f, fd, ps, M, F, hr, hb⟩ := T.ex
  refine we_b1 (call_lenI M.at_ M.fn F hb hr) B (by decide +kernel) ?_ (he := he) (hpl := hpl)
  refine h.mono fun μ1 x q1 => ?_
  intro Z μ0 H0 H v g i
  obtain ⟨gs, hi, q⟩ := q1
  obtain ⟨a, dx, fs, rfl, hH, hk, t⟩ := hi.at g.ok i
  refine ⟨a, dx, fs, rfl, hH, [x], μ1, Z, .cons i .nil, g.ok, T.mono _ _ _ _ _ _ (fun μ' d q => ?_) (fun _ _ z => z.elim) q⟩
  intro v H' g' is
  obtain ⟨j, rfl, h0, h1, q⟩ := q
  exact ⟨j, isInt is, h0, h1, μ', _, g.trans g', .int _, q⟩
end
end DL

set_option Elab.async false
set_option linter.all false
set_option maxRecDepth 100000
set_option maxHeartbeats 2000000
namespace DL
open PySem PySem.Spec PyProof.Rows L2

section
variable (P : Program) (w : World) (K : PySem.W.Frag) (mg : Str → Option Value) (base : Heap)
/-- a class that is called by its name x -/
def GMk (x : Str) (C : Addr) (j : Nat) (s : Spc) : Prop := ∃ f fd ps, Mk K C f ∧ FnOk P w K mg base (L2.CX P w) j f fd ps (lift K s) ∧ mg x = some (.ref C) ∧ Binds K fd ps [] ∧ s.Mono
/-- a method -/
def GCm (C : Addr) (m : Str) (j : Nat) (s : Spc) : Prop := ∃ f fd ps, Cls K C ∧ Meth K C m f ∧ FnOk P w K mg base (L2.CX P w) j f fd ps (lift K s) ∧ Binds K fd ps [] ∧ s.Mono
def GCk (C : Addr) (m : Str) (j n : Nat) (ks : List Str) (g : {α : Type} → List α → List α → List α) (s : Spc) : Prop :=
  ∃ f fd ps, Cls K C ∧ Meth K C m f ∧ FnOk P w K mg base (L2.CX P w) j f fd ps (lift K s) ∧ KBn K fd ps n ks (fun us ws => g us ws) (fun us ws => g us ws) ∧ s.Mono
/-- what an exception's __init__ of one argument does -/
def spX (C : Addr) (f : Str) : Sp := fun vs H Q _ => ∃ (a : Addr) (y : V), vs = [.ref a, y] ∧ H a = some (exo a C none) ∧ ∀ dx, H dx = none → dx ≠ a → Q .non (upd (upd H dx (exd dx [(f, y)])) a (exo a C (some dx)))
/-- an exception class -/
def GXk (x : Str) (C : Addr) (f : Str) (j : Nat) : Prop := OexC K C ∧ mg x = some (.ref C) ∧ ∃ fI fd ps, PySem.W.findIn K (.ref C) "__init__" = some (some (.ref fI)) ∧ PySem.W.typeIn K (.ref fI) = some (.type "function") ∧
  FnOk P w K mg base CX0 j fI fd ps (spX C f) ∧ Binds K fd ps []
end
section
variable {X : Cz} {P : Program} {w : World} {K : PySem.W.Frag} {mg : Str → Option Value} {base : Heap} {k : Nat} {N : List Str} {sc scope : Scope}
theorem Ctx.ck (h : Ctx X P w K mg base k N sc) {x : Str} {C : Addr} {j : Nat} {s : Spc} (c : GMk P w K mg base x C j s) (b : glB sc x = true) (l : j + 1 ≤ k) : Ck X x C s := by
  obtain ⟨f, fd, ps, M, F, hm, hb, mo⟩ := c
  obtain ⟨rfl, rfl, rfl, rfl, rfl, rfl, rfl, _, hr, _⟩ := h
  exact ⟨mo, ⟨j, f, fd, ps, M, F, hr.mono l, hm, hb⟩, (glB_ok b).1, (glB_ok b).2⟩
theorem Ctx.cm (h : Ctx X P w K mg base k N sc) {C : Addr} {m : Str} {j : Nat} {s : Spc} (c : GCm P w K mg base C m j s) (l : j ≤ k) : Cm X C m s := by
  obtain ⟨f, fd, ps, cl, M, F, hb, mo⟩ := c
  obtain ⟨rfl, rfl, rfl, rfl, rfl, rfl, rfl, _, hr, _⟩ := h
  exact ⟨mo, cl, ⟨j, f, fd, ps, M, F, hr.mono l, hb⟩⟩
theorem Ctx.cmK (h : Ctx X P w K mg base k N sc) {C : Addr} {m : Str} {j n : Nat} {ks : List Str} {g : {α : Type} → List α → List α → List α} {s : Spc} (c : GCk P w K mg base C m j n ks g s) (l : j ≤ k)
    (rel : ∀ {K : PySem.W.Frag} {A : Addr → Prop} {H : Hp} {vs zs : List V} {ds es : List D}, vs.length = n → zs.length = ks.length → IsA K A H vs ds → IsA K A H zs es → IsA K A H (g vs zs) (g ds es)) : CmK X C m n ks g s := by
  obtain ⟨f, fd, ps, cl, M, F, hb, mo⟩ := c
  obtain ⟨rfl, rfl, rfl, rfl, rfl, rfl, rfl, _, hr, _⟩ := h
  exact ⟨mo, cl, ⟨j, f, fd, ps, M, F, hr.mono l, hb⟩, rel⟩
theorem Ctx.cl1 (h : Ctx X P w K mg base k N sc) {C : Addr} {j : Nat} {s : Spc} (c : GCm P w K mg base C "__len__" j s) (l : j + 1 ≤ k) : Cl1 X C s := by
  obtain ⟨f, fd, ps, cl, M, F, hb, mo⟩ := c
  obtain ⟨rfl, rfl, rfl, rfl, rfl, rfl, rfl, _, hr, _⟩ := h
  exact ⟨mo, ⟨j, f, fd, ps, M, F, hr.mono l, hb⟩⟩
theorem Ctx.xk (h : Ctx X P w K mg base k N sc) {x f : Str} {C : Addr} {j : Nat} (c : GXk P w K mg base x C f j) (b : glB sc x = true) (l : j + 1 ≤ k) : Xk X x C f := by
  obtain ⟨T, hm, fI, fd, ps, iC, tI, F, hb⟩ := c
  obtain ⟨rfl, rfl, rfl, rfl, rfl, rfl, rfl, _, hr, _⟩ := h
  exact ⟨T, ⟨j, fI, fd, ps, iC, tI, F, hr.mono l, hb⟩, (glB_ok b).1, hm, (glB_ok b).2⟩
theorem Ctx.kls (h : Ctx X P w K mg base k N sc) {C : Addr} {ns : List Str} (T : Kls K C ns) : Kls X.K C ns := by rw [h.K]; exact T
theorem Ctx.hu (h : Ctx X P w K mg base k N sc) : X.A.units + 64 < cLine := h.room.units
/-- a class's name, read -/
theorem Ctx.cls (h : Ctx X P w K mg base k N sc) {x : Str} {C : Addr} {Γ : Gm} {μ : Mu} {Q : Mu → D → Prop} {pos : Pos} (m : mg x = some (.ref C)) (b : glB sc x = true) (q : Q μ (.ref C)) : WE X (.Name x pos) Γ μ Q :=
  we_cls (h.gl b) (by rw [h.mg]; exact m) (glB_ok b).2 q
/-- the body of a try -/
theorem Ctx.tryX (h : Ctx X P w K mg base k N sc) {X' : Cz} {xd : Gm → Mu → Xd → Prop} (t : TryX X X' xd) : Ctx X' P w K mg base k N sc ∧ X'.xd = xd := by
  obtain ⟨pn, xe, rfl, ps⟩ := t
  obtain ⟨h1, h2, h3, h4, h5, h6, h7, h8, h9, h10, h11⟩ := h
  exact ⟨⟨h1, h2, h3, h4, h5, h6, h7, h8, h9, ps, h11⟩, rfl⟩
theorem Fr.tryX (h : Fr X) {X' : Cz} {xd : Gm → Mu → Xd → Prop} (t : TryX X X' xd) : Fr X' := by
  obtain ⟨pn, xe, rfl, ps⟩ := t
  exact ⟨h.fn, h.stk, h.frm⟩
/-- an except suite: names alone -/
structure CtxS (X : Cz) (P : Program) (w : World) (K : PySem.W.Frag) (mg : Str → Option Value) (base : Heap) (N : List Str) (sc : Scope) : Prop where
  prog : X.prog = P
  w : X.w = w
  K : X.K = K
  mg : X.mg = mg
  base : X.base = base
  N : X.N = N
  sc : X.env.scope = sc
  nd : X.N.Nodup
theorem Ctx.suX (h : Ctx X P w K mg base k N sc) {X' : Cz} {a : Addr} {cls : Value} {od : Option Addr} (t : SuX X X' a cls od) : CtxS X' P w K mg base N sc := by
  obtain ⟨oe, pn, rfl, _, _⟩ := t.ex
  obtain ⟨h1, h2, h3, h4, h5, h6, h7, h8, h9, h10, h11⟩ := h
  exact ⟨h1, h2, h3, h4, h5, h6, h7, h11⟩
theorem Fr.suX (h : Fr X) {X' : Cz} {a : Addr} {cls : Value} {od : Option Addr} (t : SuX X X' a cls od) : Fr X' := by
  obtain ⟨oe, pn, rfl, _, _⟩ := t.ex
  exact ⟨h.fn, h.stk, h.frm⟩
theorem CtxS.nm (h : CtxS X P w K mg base N sc) {x : Str} {i : Nat} (b : nmB N sc x i = true) : Nm X x i := by
  unfold nmB at b
  simp only [Bool.and_eq_true, decide_eq_true_eq, Bool.not_eq_true'] at b
  obtain ⟨⟨⟨b1, b2⟩, b3⟩, b4⟩ := b
  exact ⟨by rw [h.N]; exact b1, by rw [h.sc]; exact visB_ok b2, b3, b4⟩
theorem CtxS.nl (h : CtxS X P w K mg base N sc) {x : Str} {i : Nat} (b : nmB N sc x i = true) (l : locB sc x = true) : Nw X x i :=
  ⟨h.nm b, h.nd, .inl (by rw [h.sc]; exact locB_ok l), .inr (by rw [h.sc]; exact locB_ok l)⟩
theorem CtxS.bl (h : CtxS X P w K mg base N sc) {x : Str} (b : glB sc x = true) (m : mg x = none) : Bl X x := ⟨by show X.env.scope.names.lookup x = _; rw [h.sc]; exact (glB_ok b).1, by rw [h.mg]; exact m⟩
theorem CtxS.cls (h : CtxS X P w K mg base N sc) {x : Str} {C : Addr} {Γ : Gm} {μ : Mu} {Q : Mu → D → Prop} {pos : Pos} (m : mg x = some (.ref C)) (b : glB sc x = true) (q : Q μ (.ref C)) : WE X (.Name x pos) Γ μ Q :=
  we_cls (by show X.env.scope.names.lookup x = _; rw [h.sc]; exact (glB_ok b).1) (by rw [h.mg]; exact m) (glB_ok b).2 q
/-- try .. except x as n, in a def -/
theorem Ctx.try_as (h : Ctx X P w K mg base k N sc) (hf : Fr X) {x n : Str} {C : Addr} {i : Nat} {body suite : List Stmt} {b₀ : Stmt} {np pos pos' : Pos} {Γ : Gm} {μ : Mu} {kt : Kt} (hn : Nw X n i) (m : mg x = some (.ref C)) (q : ∀ X', TryX X X' (Catch X (.ref C) i (b₀ :: suite) kt) → WB X' body Γ μ kt)
    (hl : locB sc n = true := by decide +kernel) (b : glB sc x = true := by decide +kernel) : WS X (.Try body [.ExceptHandler (some (.Name x np)) (some n) (b₀ :: suite) pos'] [] [] pos) Γ μ kt :=
  ws_try_as hf.stk hf.frm hn (by show X.env.scope.names.lookup n = _; rw [h.sc]; exact locB_ok hl) ⟨h.gl b, (glB_ok b).2, .inl (by rw [h.mg]; exact m)⟩ q
end
section
variable {X : Cz} {Γ : Gm} {μ : Mu} {t1 t2 e : Expr} {pos : Pos} {k : Kt}
theorem ws_asg2 (h : WE X e Γ μ fun μ1 d => WGx X t1 d Γ μ1 fun Γ2 μ2 => WGx X t2 d Γ2 μ2 k.nx)
    (ha : (assignEach [t1, t2] X.env).map (·.2) = [assign t1 X.env, assign t2 X.env] := by rfl) (hw : swappedStores [t1, t2] e X.env = pure none := by rfl) : WS X (.Assign [t1, t2] e pos) Γ μ k := fun Z σ H en ok tk => by
  refine toSS (ps_asg2 pe_S pg_S pg_S ha hw) ?_
  refine h.use (Go.refl ok) en tk fun v H1 μ1 d g1 _ en1 i1 q1 => ?_
  refine (q1 Z σ H1 v en1 g1.ok (tk.up g1) i1).mono fun σ2 H2 ⟨Γ2, μ2, g2, en2, q2⟩ => ?_
  exact (q2 Z σ2 H2 v en2 g2.ok (tk.up (g1.trans g2)) (i1.mono g2.fz)).mono fun σ3 H3 p => p.up (g1.trans g2)
end
/-- dds: the values of what is left out -/
structure ClD (X : Cz) (x : Str) (dds : List D) (s : Spc) : Prop where
  mono : s.Mono
  ex : ∃ k f fd ps ds dvs, FnOk X.prog X.w X.K X.mg X.base (L2.CX X.prog X.w) k f fd ps (lift X.K s) ∧ Room k X.A ∧ X.mg x = some (.ref f) ∧ PySem.W.keepIn X.K (.ref f) = true ∧ Binds X.K fd ps ds ∧ Vals dvs ds ∧ ∀ A H, IsA X.K A H dvs dds
  gl : Gl X x
  db : (x == ("__debug__" : Str)) = false
def GFd (P : Program) (w : World) (K : PySem.W.Frag) (mg : Str → Option Value) (base : Heap) (x : Str) (j : Nat) (dds : List D) (s : Spc) : Prop :=
  ∃ f fd ps ds dvs, FnOk P w K mg base (L2.CX P w) j f fd ps (lift K s) ∧ mg x = some (.ref f) ∧ PySem.W.keepIn K (.ref f) = true ∧ Binds K fd ps ds ∧ Vals dvs ds ∧ (∀ A H, IsA K A H dvs dds) ∧ s.Mono
theorem Ctx.clD {X : Cz} {P : Program} {w : World} {K : PySem.W.Frag} {mg : Str → Option Value} {base : Heap} {k : Nat} {N : List Str} {sc : Scope} (h : Ctx X P w K mg base k N sc) {x : Str} {j : Nat} {dds : List D} {s : Spc} (c : GFd P w K mg base x j dds s) (b : glB sc x = true) (l : j ≤ k) : ClD X x dds s := by
  obtain ⟨f, fd, ps, ds, dvs, F, hm, hk, hb, hv, hi, mo⟩ := c
  obtain ⟨rfl, rfl, rfl, rfl, rfl, rfl, rfl, _, hr, _⟩ := h
  exact ⟨mo, ⟨j, f, fd, ps, ds, dvs, F, hr.mono l, hm, hk, hb, hv, hi⟩, (glB_ok b).1, (glB_ok b).2⟩
section
variable {X : Cz} {Γ : Gm} {μ : Mu} {e : Expr} {es : List Expr} {pos p0 : Pos} {Q : Mu → D → Prop}
theorem we_callD {x : Str} {s : Spc} {dds : List D} (C : ClD X x dds s) (h : WA X (e :: es) Γ μ fun μ1 ds => s (ds ++ dds) μ1 Q (X.xd Γ))
    (he : starEach (e :: es) X.env = (false, eval e X.env) :: starEach es X.env := by rfl) (hpl : (backTo pos (starEach es X.env)).any (·.1) = false := by rfl) : WE X (.Call (.Name x p0) (e :: es) [] pos) Γ μ Q := fun Z σ H en ok tk => by
  obtain ⟨k, f, fd, ps, ds, dvs, F, hr, hm, hk, hb, hv, hi⟩ := C.ex
  refine toS (pe_callSD F hr C.gl hm hk hb hv tk.pass pa_S C.db he hpl) ?_
  refine h.use (Go.refl ok) en tk fun vs H1 μ1 ds g1 _ en1 i1 q1 => ?_
  exact lift_of C.mono g1 en1 (i1.append (hi _ _)) q1
end
end DL

set_option Elab.async false
set_option linter.all false
set_option maxRecDepth 100000
set_option maxHeartbeats 2000000
namespace DL
open PySem PySem.Spec PyProof.Rows L2
def isStar : Expr → Bool
  | .Starred .. => true
  | _ => false
theorem sst_two {x y : Str} {px py pt pt2 : Pos} {k k2} {a b : Expr} {env : Env} (hk : env.scope.kind = .function) (hx : env.scope.names.lookup x = some .local) (hy : env.scope.names.lookup y = some .local) (hxy : (y == x) = false) (hl : (py.line == px.line) = true)
    (hs : ([a, b].any fun | .Starred .. => true | _ => false) = false) (hf : [a, b].all (foldedForSure 8) = false) (hc : [a, b].all (constantsAlone 8) = false) : swappedStores [.Tuple [.Name x px, .Name y py] k pt] (.Tuple [a, b] k2 pt2) env = pure (some [x, y]) := by
  have kx : env.kindOf x = some .local := hx
  have ky : env.kindOf y = some .local := hy
  have hb : env.blockKind = .function := by unfold Env.blockKind; rw [hk]; rfl
  have hl' : (px.line == px.line) = true := beq_self_eq_true _
  have hxy' : (x == y) = false := by
    rw [beq_eq_false_iff_ne] at hxy ⊢
    exact fun e => hxy e.symm
  have e2 : ([x, y] : List Str).eraseDups.length = 2 := by
    simp [List.eraseDups_cons, hxy, hxy']
  unfold swappedStores
  dsimp only
  simp only [hb, hs, hf, hc, kx, ky, Expr.pos, hl, hl', List.head?_cons, Option.map_some, Option.getD_some, List.filterMap_cons, List.filterMap_nil, beq_self_eq_true, Bool.and_self, if_true, List.length_cons, List.length_nil, e2]
  refine Eq.trans (if_neg (by decide)) ?_
  refine Eq.trans (if_neg fun z => ?_) rfl
  have z' : ([a, b].any fun | .Starred .. => true | _ => false) = true := z
  rw [hs] at z'
  cases z'
section
variable {X : Cz} {P : Program} {w : World} {K : PySem.W.Frag} {mg : Str → Option Value} {base : Heap} {k : Nat} {N : List Str} {sc : Scope}
theorem ctx_par (h : Ctx X P w K mg base k N sc) {x y : Str} {i j : Nat} {a b : Expr} {px py pt pos : Pos} {k1 k2 pt2} {Γ : Gm} {μ : Mu} {kt : Kt} (n1 : Nw X x i) (n2 : Nw X y j)
    (q : WE X a Γ μ fun μ1 d1 => WE X b Γ μ1 fun μ2 d2 => SetQ Γ i d1 fun Γ1 => SetQ Γ1 j d2 fun Γ2 => kt.nx Γ2 μ2)
    (hij : i ≠ j := by decide) (l1 : locB sc x = true := by decide +kernel) (l2 : locB sc y = true := by decide +kernel) (bk : kindB sc = true := by decide +kernel) (hxy : (y == x) = false := by decide +kernel) (hl : (py.line == px.line) = true := by decide +kernel)
    (hs : ([a, b].any fun | .Starred .. => true | _ => false) = false := by rfl) (hf : [a, b].all (foldedForSure 8) = false := by rfl) (hc : [a, b].all (constantsAlone 8) = false := by rfl)
    (h1 : starEach [a, b] X.env = (false, eval a X.env) :: starEach [b] X.env := by rfl) (h2 : starEach [b] X.env = (false, eval b X.env) :: starEach [] X.env := by rfl) :
    WS X (.Assign [.Tuple [.Name x px, .Name y py] k1 pt] (.Tuple [a, b] k2 pt2) pos) Γ μ kt := by
  have e1 : X.env.scope.names.lookup x = some .local := by rw [h.sc]; exact locB_ok l1
  have e2 : X.env.scope.names.lookup y = some .local := by rw [h.sc]; exact locB_ok l2
  refine ws_par h.calm n1 n2 e1 e2 hij ?_ (sst_two (by rw [h.sc]; exact kindB_ok bk) e1 e2 hxy hl hs hf hc)
  refine wa_cons ?_ h1
  refine q.mono fun μ1 d1 q1 => ?_
  refine wa_cons ?_ h2
  refine q1.mono fun μ2 d2 q2 => wa_nil ?_
  obtain ⟨Γ1, s1, Γ2, s2, q⟩ := q2
  exact ⟨d1, d2, Γ1, Γ2, rfl, s1, s2, q⟩
end
end DL

set_option Elab.async false
set_option linter.all false
set_option maxRecDepth 100000
set_option maxHeartbeats 2000000
namespace DL
open PySem PySem.Spec PyProof.Rows L2
theorem wb_sub {X : Cz} {Γ Γ' : Gm} {μ : Mu} {k : Kt} {sts : List Stmt} (s : Sub Γ' Γ) (q : WB X sts Γ' μ k) : WB X sts Γ μ k := fun Z σ H en ok tk => q Z σ H (en.sub s) ok tk
/-- an object that nobody asks for any more -/
theorem wb_drop {X : Cz} {Γ : Gm} {μ : Mu} {k : Kt} {sts : List Stmt} {p : Addr} {o : MO} (e : μ p = some o) (q : WB X sts Γ (delM μ p) k) : WB X sts Γ μ k := fun Z σ H en ok tk => by
  have g := Go.fix ok p ⟨o, e⟩
  exact q.use g (en.mono g.fz) tk
theorem sub_nil : Sub [] [] := ⟨rfl, fun _ _ h => h⟩
theorem sub_cons {x : Option D} {Γ Γ' : Gm} (s : Sub Γ' Γ) : Sub (x :: Γ') (x :: Γ) := ⟨by simp [s.1], fun i d h => by
  cases i with
  | zero => exact h
  | succ i => simpa using s.2 i d (by simpa using h)⟩
theorem sub_drop {x : Option D} {Γ Γ' : Gm} (s : Sub Γ' Γ) : Sub (none :: Γ') (x :: Γ) := ⟨by simp [s.1], fun i d h => by
  cases i with
  | zero => simp at h
  | succ i => simpa using s.2 i d (by simpa using h)⟩
/-- a comprehension's own name that an inner block reads -/
theorem Ctx.blkC {X X' : Cz} {P : Program} {w : World} {K : PySem.W.Frag} {mg : Str → Option Value} {base : Heap} {k : Nat} {N : List Str} {sc scope : Scope} (h : Ctx X P w K mg base k N sc) (b : Blk X scope X') {x : Str} {i : Nat}
    (e : nmB N (relS scope sc) x i = true := by decide +kernel) (l : celB (relS scope sc) x = true := by decide +kernel) (f : celB scope x = true := by decide +kernel) : Nw X' x i := by
  have hX' := h.blk b
  refine ⟨hX'.nm e, hX'.nd, .inr (by rw [hX'.sc]; exact celB_ok l), .inl ?_⟩
  obtain ⟨s, H, C, cl, fp, rfl⟩ := b
  show (scope.names.lookup x == some .cell) = true
  rw [celB_ok f]
  rfl
def rowD (n : Nat) (f : Nat → Nat) : List D := (List.range n).map fun j => D.int ((f j : Nat) : Int)
theorem rowD_len {n : Nat} {f : Nat → Nat} : (rowD n f).length = n := by simp [rowD]
theorem rowD_get {n : Nat} {f : Nat → Nat} {j : Nat} (h : j < n) : (rowD n f)[j]? = some (.int (f j)) := by
  simp [rowD, List.getElem?_range h]
theorem rowD_at {n : Nat} {f : Nat → Nat} {j : Nat} (h : j < n) : atI (rowD n f) (j : Int) = some (.int (f j)) := atI_n (by omega) (by rw [Int.toNat_natCast]; exact rowD_get h)
theorem rowD_set {n : Nat} {f : Nat → Nat} {j v : Nat} (h : j < n) : (rowD n f).set j (.int (v : Int)) = rowD n fun k => if k = j then v else f k := by
  apply List.ext_getElem?
  intro i
  by_cases hi : i < n
  · by_cases e : j = i
    · subst e
      rw [List.getElem?_set_self (by rw [rowD_len]; exact hi), rowD_get hi, if_pos rfl]
    · rw [List.getElem?_set_ne e, rowD_get hi, rowD_get hi, if_neg fun z => e z.symm]
  · rw [List.getElem?_eq_none (by rw [List.length_set, rowD_len]; omega), List.getElem?_eq_none (by rw [rowD_len]; omega)]
theorem rowD_congr {n : Nat} {f g : Nat → Nat} (h : ∀ j, j < n → f j = g j) : rowD n f = rowD n g := by
  unfold rowD
  refine List.map_congr_left fun j hj => ?_
  rw [h j (List.mem_range.mp hj)]
def upd2 (M : Nat → Nat → Nat) (i j v : Nat) : Nat → Nat → Nat := fun a b => if a = i ∧ b = j then v else M a b
/-- a table at T, its rows at rs -/
structure MatAt (μ0 : Mu) (T : Addr) (rs : List Addr) (n : Nat) (M : Nat → Nat → Nat) (μ : Mu) : Prop where
  len : rs.length = n
  top : μ T = some (.lst (rs.map .ref))
  row : ∀ i r, rs[i]? = some r → μ r = some (.lst (rowD n (M i)))
  nd : rs.Nodup
  nT : T ∉ rs
  fr : ∀ a, a ≠ T → a ∉ rs → μ a = μ0 a
  f0 : μ0 T = none
  fs : ∀ r ∈ rs, μ0 r = none
section
variable {μ0 μ : Mu} {T : Addr} {rs : List Addr} {n : Nat} {M : Nat → Nat → Nat}
theorem MatAt.get (h : MatAt μ0 T rs n M μ) {i : Nat} (hi : i < n) : ∃ r, rs[i]? = some r ∧ atI (rs.map D.ref) (i : Int) = some (.ref r) ∧ μ r = some (.lst (rowD n (M i))) := by
  have hl : i < rs.length := by rw [h.len]; exact hi
  have e : rs[i]? = some rs[i] := List.getElem?_eq_getElem hl
  refine ⟨rs[i], e, atI_n (by omega) ?_, h.row _ _ e⟩
  rw [Int.toNat_natCast, List.getElem?_map, e]
  rfl
theorem MatAt.set (h : MatAt μ0 T rs n M μ) {i j v : Nat} {r : Addr} (hr : rs[i]? = some r) (hj : j < n) : MatAt μ0 T rs n (upd2 M i j v) (updM μ r (.lst ((rowD n (M i)).set j (.int (v : Int))))) := by
  have hm : r ∈ rs := List.mem_of_getElem? hr
  have hT : T ≠ r := fun e => h.nT (e ▸ hm)
  refine ⟨h.len, by rw [updM_ne hT]; exact h.top, fun k r' hk => ?_, h.nd, h.nT, fun a h1 h2 => ?_, h.f0, h.fs⟩
  · by_cases e : r' = r
    · subst e
      have hki : k = i := by
        have h1 := (List.getElem?_eq_some_iff.mp hk)
        have h2 := (List.getElem?_eq_some_iff.mp hr)
        obtain ⟨l1, e1⟩ := h1
        obtain ⟨l2, e2⟩ := h2
        exact (List.getElem_inj h.nd).mp (e1.trans e2.symm)
      subst hki
      rw [updM_same, rowD_set hj]
      refine congrArg (fun l => some (MO.lst l)) (rowD_congr fun k2 _ => ?_)
      unfold upd2
      by_cases e : k2 = j
      · simp [e]
      · simp [e]
    · rw [updM_ne e]
      have hki : k ≠ i := fun z => by subst z; rw [hr] at hk; exact e (Option.some.inj hk).symm
      rw [h.row k r' hk]
      refine congrArg (fun l => some (MO.lst l)) (rowD_congr fun k2 _ => ?_)
      unfold upd2
      rw [if_neg fun z => hki z.1]
  · have : a ≠ r := fun e => h2 (e ▸ hm)
    rw [updM_ne this]
    exact h.fr a h1 h2
theorem MatAt.congr (h : MatAt μ0 T rs n M μ) {M' : Nat → Nat → Nat} (e : ∀ i j, i < n → j < n → M i j = M' i j) : MatAt μ0 T rs n M' μ := by
  refine ⟨h.len, h.top, fun i r hr => ?_, h.nd, h.nT, h.fr, h.f0, h.fs⟩
  have hi : i < n := by rw [← h.len]; exact (List.getElem?_eq_some_iff.mp hr).1
  rw [h.row i r hr]
  exact congrArg (fun l => some (MO.lst l)) (rowD_congr fun j hj => e i j hi hj)
def matD (n : Nat) (M : Nat → Nat → Nat) : D := .lst ((List.range n).map fun i => .lst (rowD n (M i)))
theorem frz_rows {μ0 : Mu} {n : Nat} {M : Nat → Nat → Nat} : ∀ (rs : List Addr) (k : Nat) (μ : Mu), rs.Nodup → (∀ i r, rs[i]? = some r → μ r = some (.lst (rowD n (M (k + i))))) → (∀ a, a ∉ rs → μ a = μ0 a) → (∀ r ∈ rs, μ0 r = none) →
    FrzA μ (rs.map D.ref) μ0 ((List.range' k rs.length).map fun i => D.lst (rowD n (M i)))
  | [], k, μ, _, _, h2, _ => by
    have e : μ = μ0 := funext fun a => h2 a (by simp)
    subst e
    exact .nil
  | r :: rs, k, μ, nd, h1, h2, h3 => by
    have hr := h1 0 r rfl
    rw [Nat.add_zero] at hr
    obtain ⟨n1, n2⟩ := List.nodup_cons.mp nd
    refine .cons (.lst hr FrzA.same) (frz_rows rs (k + 1) (delM μ r) n2 (fun i r' hi => ?_) (fun a ha => ?_) fun r' hr' => h3 r' (List.mem_cons_of_mem _ hr'))
    · have hne : r' ≠ r := fun e => n1 (e ▸ List.mem_of_getElem? hi)
      rw [delM_ne hne]
      have := h1 (i + 1) r' (by simpa using hi)
      rw [this, show k + 1 + i = k + (i + 1) by omega]
    · by_cases e : a = r
      · subst e
        rw [delM_same, h3 a List.mem_cons_self]
      · rw [delM_ne e]
        exact h2 a (by simp [e, ha])
theorem MatAt.frz (h : MatAt μ0 T rs n M μ) : Frz μ (.ref T) μ0 (matD n M) := by
  refine .lst h.top ?_
  have e : (List.range n).map (fun i => D.lst (rowD n (M i))) = (List.range' 0 rs.length).map fun i => D.lst (rowD n (M i)) := by
    rw [h.len, List.range_eq_range']
  rw [e]
  refine frz_rows rs 0 _ h.nd (fun i r hr => ?_) (fun a ha => ?_) h.fs
  · have hne : r ≠ T := fun e => h.nT (e ▸ List.mem_of_getElem? hr)
    rw [delM_ne hne, h.row i r hr, Nat.zero_add]
  · by_cases e : a = T
    · subst e
      rw [delM_same, h.f0]
    · rw [delM_ne e]
      exact h.fr a e ha
end
theorem at_row {n b : Nat} {f : Nat → Nat} {R : Nat → Prop} (h : b < n) (r : R b) : AtQ (rowD n f) (b : Int) R := by
  refine at_q (by omega) (by rw [rowD_len]; omega) ?_
  rw [Int.toNat_natCast]
  exact r
theorem enum_row {n : Nat} {f : Nat → Nat} : enumD (rowD n f) 0 = (List.range n).map fun (j : Nat) => D.tup [.int ((j : Nat) : Int), .int ((f j : Nat) : Int)] := by
  apply List.ext_getElem?
  intro i
  by_cases hi : i < n
  · rw [enumD_get _ 0 i _ (rowD_get hi), List.getElem?_map, List.getElem?_range hi]
    simp
  · rw [List.getElem?_eq_none (by rw [enumD_len, rowD_len]; omega), List.getElem?_eq_none (by simp; omega)]
def notOne : D → Bool
  | .tup [_, .int v] => !decide (v = 1)
  | _ => false
theorem near_eq {n : Nat} {f : Nat → Nat} : ((enumD (rowD n f) 0).filter notOne).map id = ((List.range n).filter fun j => !decide (f j = 1)).map fun (j : Nat) => D.tup [.int ((j : Nat) : Int), .int ((f j : Nat) : Int)] := by
  rw [List.map_id, enum_row, List.filter_map]
  refine congrArg _ (List.filter_congr fun j _ => ?_)
  show (!decide (((f j : Nat) : Int) = 1)) = _
  congr 1
  exact decide_eq_decide.mpr (by omega)
def mat0 : Nat → Nat → Nat := fun i j => if i = j then 0 else 1
def tieStep (M : Nat → Nat → Nat) (t : Nat × Nat × Nat) : Nat → Nat → Nat :=
  upd2 (upd2 M t.1 t.2.1 (Nat.lcm (M t.1 t.2.1) t.2.2)) t.2.1 t.1 (Nat.lcm (M t.1 t.2.1) t.2.2)
def byStep (M : Nat → Nat → Nat) (b : Nat) : Nat → Nat → Nat := fun i j => Nat.lcm (M i j) (Nat.gcd (M i b) (M b j))
def closeM (n : Nat) (ts : List (Nat × Nat × Nat)) : Nat → Nat → Nat := (List.range n).foldl byStep (ts.foldl tieStep mat0)
/-- rows ahead of k are done; of row k the places in S -/
def midM (M : Nat → Nat → Nat) (b k : Nat) (S : List Nat) : Nat → Nat → Nat := fun i j => if i < k then byStep M b i j else if i = k ∧ j ∈ S then byStep M b i j else M i j
/-- 0, or a divisor of L -/
def Dv (L x : Nat) : Prop := x = 0 ∨ x ∣ L
theorem Dv.lcm {L x y : Nat} (h1 : Dv L x) (h2 : Dv L y) : Dv L (Nat.lcm x y) := by
  rcases h1 with rfl | h1
  · left; exact Nat.lcm_zero_left _
  rcases h2 with rfl | h2
  · left; exact Nat.lcm_zero_right _
  · right; exact Nat.lcm_dvd h1 h2
theorem Dv.gcd {L x y : Nat} (h1 : Dv L x) (h2 : Dv L y) : Dv L (Nat.gcd x y) := by
  rcases h1 with rfl | h1
  · rw [Nat.gcd_zero_left]; exact h2
  · right; exact Nat.dvd_trans (Nat.gcd_dvd_left _ _) h1
theorem Dv.le {L x : Nat} (h : Dv L x) (hL : 0 < L) : x ≤ L := by
  rcases h with rfl | h
  · exact Nat.zero_le _
  · exact Nat.le_of_dvd hL h
structure MatOk (L n : Nat) (M : Nat → Nat → Nat) : Prop where
  dg : ∀ i, M i i = 0
  dv : ∀ i j, Dv L (M i j)
theorem mat0_ok {L n : Nat} : MatOk L n mat0 := ⟨fun i => if_pos rfl, fun i j => by
  unfold mat0
  split
  · left; rfl
  · right; exact Nat.one_dvd _⟩
theorem tie_ok {L n : Nat} {M : Nat → Nat → Nat} {a b r : Nat} (h : MatOk L n M) (hr : Dv L r) : MatOk L n (tieStep M (a, b, r)) := by
  refine ⟨fun i => ?_, fun i j => ?_⟩
  · unfold tieStep upd2
    dsimp only
    split
    · rename_i e
      obtain ⟨rfl, rfl⟩ := e
      rw [h.dg, Nat.lcm_zero_left]
    · split
      · rename_i e
        obtain ⟨rfl, rfl⟩ := e
        rw [h.dg, Nat.lcm_zero_left]
      · exact h.dg i
  · unfold tieStep upd2
    dsimp only
    split
    · exact (h.dv _ _).lcm hr
    · split
      · exact (h.dv _ _).lcm hr
      · exact h.dv _ _
theorem by_ok {L n b : Nat} {M : Nat → Nat → Nat} (h : MatOk L n M) : MatOk L n (byStep M b) :=
  ⟨fun i => by unfold byStep; rw [h.dg, Nat.lcm_zero_left], fun i j => (h.dv _ _).lcm ((h.dv _ _).gcd (h.dv _ _))⟩
theorem by_self {L n b k : Nat} {M : Nat → Nat → Nat} (h : MatOk L n M) : byStep M b k b = M k b := by
  unfold byStep
  rw [h.dg, Nat.gcd_zero_right, Nat.lcm_self]
theorem mid_by {L n b k : Nat} {S : List Nat} {M : Nat → Nat → Nat} (h : MatOk L n M) : midM M b k S k b = M k b := by
  unfold midM
  rw [if_neg (Nat.lt_irrefl _), by_self h]
  split <;> rfl
theorem mid_at {b k j : Nat} {S : List Nat} {M : Nat → Nat → Nat} (h : j ∉ S) : midM M b k S k j = M k j := by
  unfold midM
  rw [if_neg (Nat.lt_irrefl _), if_neg fun z => h z.2]
theorem mid_nil {b k : Nat} {M : Nat → Nat → Nat} : midM M b k [] k b = M k b := mid_at (by simp)
theorem mid_put {b k j : Nat} {S : List Nat} {M : Nat → Nat → Nat} (i j' : Nat) : upd2 (midM M b k S) k j (byStep M b k j) i j' = midM M b k (S ++ [j]) i j' := by
  unfold upd2 midM
  by_cases h1 : i < k
  · rw [if_neg (by omega), if_pos h1, if_pos h1]
  · rw [if_neg h1, if_neg h1]
    by_cases h2 : i = k
    · subst h2
      by_cases h3 : j' = j
      · subst h3; simp
      · simp [h3]
    · simp [h2]
theorem mid_next {n b k : Nat} {M : Nat → Nat → Nat} {i j : Nat} (hj : j < n) : midM M b k ((List.range n).filter fun j => !decide (M b j = 1)) i j = midM M b (k + 1) [] i j := by
  unfold midM
  by_cases h1 : i < k
  · rw [if_pos h1, if_pos (by omega)]
  · rw [if_neg h1]
    by_cases h2 : i = k
    · subst h2
      rw [if_pos (Nat.lt_succ_self _)]
      by_cases h3 : M b j = 1
      · rw [if_neg (by simp [h3])]
        unfold byStep
        rw [h3, Nat.gcd_one_right, Nat.lcm_one_right]
      · rw [if_pos ⟨rfl, by simp [h3, hj]⟩]
    · rw [if_neg (by simp [h2]), if_neg (by omega)]
      simp
theorem mid_skip {b k : Nat} {M : Nat → Nat → Nat} (h : M k b = 1) (i j : Nat) : midM M b k [] i j = midM M b (k + 1) [] i j := by
  unfold midM
  by_cases h1 : i < k
  · rw [if_pos h1, if_pos (by omega)]
  · rw [if_neg h1]
    by_cases h2 : i = k
    · subst h2
      rw [if_pos (Nat.lt_succ_self _)]
      unfold byStep
      rw [h, Nat.gcd_one_left, Nat.lcm_one_right]
      simp
    · rw [if_neg (show ¬ i < k + 1 by omega)]
      simp
theorem mid_all {n b : Nat} {M : Nat → Nat → Nat} {i j : Nat} (hi : i < n) : midM M b n [] i j = byStep M b i j := if_pos hi
theorem mid_none {b : Nat} {M : Nat → Nat → Nat} (i j : Nat) : M i j = midM M b 0 [] i j := by
  unfold midM
  simp
end DL

set_option Elab.async false
set_option linter.all false
set_option maxRecDepth 100000
set_option maxHeartbeats 2000000
namespace DL
open PySem PySem.Spec PyProof.Rows L2
theorem isA_map {K : PySem.W.Frag} {A : Addr → Prop} {H : Hp} {α : Type} {f : α → V} {g : α → D} (h : ∀ x, Is K A H (f x) (g x)) : ∀ l : List α, IsA K A H (l.map f) (l.map g)
  | [] => .nil
  | x :: l => .cons (h x) (isA_map h l)
section
variable {K : PySem.W.Frag}
theorem kit_r {t : Value} {C : Addr} {b : Bool} (hs : PySem.W.subIn K t (.ref C) = some b) (hself : PySem.W.subIn K (.ref C) (.ref C) = some true) (ic : PySem.W.isClsIn K C = true) (tc : PySem.W.typeIn K (.ref C) = some (.type "type")) : PySem.W.kitOne K t (.ref C) = some b := by
  unfold PySem.W.kitOne
  by_cases h : (t == Value.ref C) = true
  · rw [if_pos h]
    have e : t = .ref C := beq_iff_eq.mp h
    subst e
    rw [hself] at hs
    exact hs
  · rw [if_neg h]
    unfold PySem.W.kitCls
    have e2 : ((PySem.W.clsIn K C).isSome && PySem.W.typeIn K (.ref C) == some (.type "type")) = true := by
      rw [show (PySem.W.clsIn K C).isSome = true from ic, tc] <;> rfl
    dsimp only
    rw [if_pos e2]
    exact hs
theorem kit_t {c : Addr} {T : String} {b : Bool} (hs : PySem.W.subIn K (.ref c) (.type T) = some b) (hm : PySem.W.kitMeta T = true) : PySem.W.kitOne K (.ref c) (.type T) = some b := by
  unfold PySem.W.kitOne
  rw [if_neg (show ¬ ((Value.ref c == Value.type T) = true) from fun z => by have := beq_iff_eq.mp z; cases this)]
  unfold PySem.W.kitCls
  dsimp only
  rw [if_pos hm]
  exact hs
theorem kit_nil {t : Value} : PySem.W.kitAny K t [] = some false := rfl
theorem kit_f {t c : Value} {cs : List Value} {r : Bool} (h : PySem.W.kitOne K t c = some false) (hr : PySem.W.kitAny K t cs = some r) : PySem.W.kitAny K t (c :: cs) = some r := by
  unfold PySem.W.kitAny
  rw [h]
  exact hr
theorem exm_r {C : Addr} {cls : Value} {b : Bool} (h1 : PySem.W.subIn K (.ref C) (.type "BaseException") = some true) (ic : PySem.W.isClsIn K C = true) (tc : PySem.W.typeIn K (.ref C) = some (.type "type")) (hs : PySem.W.subIn K cls (.ref C) = some b) : PySem.W.exmOne K cls (.ref C) = some b := by
  have e1 : (PySem.W.subIn K (.ref C) (.type "BaseException") == some true) = true := by rw [h1] <;> rfl
  have e2 : ((PySem.W.clsIn K C).isSome && PySem.W.typeIn K (.ref C) == some (.type "type")) = true := by rw [show (PySem.W.clsIn K C).isSome = true from ic, tc] <;> rfl
  show (if (PySem.W.subIn K (.ref C) (.type "BaseException") == some true) = true then (if ((PySem.W.clsIn K C).isSome && PySem.W.typeIn K (.ref C) == some (.type "type")) = true then PySem.W.subIn K cls (.ref C) else none) else none) = some b
  rw [if_pos e1, if_pos e2]
  exact hs
end
section
variable {X : Cz} {Γ : Gm} {μ : Mu} {a b : Expr} {pos p0 p1 pos1 : Pos} {Q : Mu → D → Prop}
theorem we_listRg1 (hc : X.calm = true) (B : Bl X "list") (BR : Bl X "range") (h : WE X a Γ μ fun μ1 x => One x fun n => Req (0 ≤ n ∧ n ≤ 16777216) (Q μ1 (.lst (rangeD 0 n.toNat))))
    (na : starEach [.Call (.Name "range" p1) [a] [] pos1] X.env = (false, eval (.Call (.Name "range" p1) [a] [] pos1) X.env) :: starEach [] X.env := by rfl) (nb : starEach [a] X.env = (false, eval a X.env) :: starEach [] X.env := by rfl) :
    WE X (.Call (.Name "list" p0) [.Call (.Name "range" p1) [a] [] pos1] [] pos) Γ μ Q := fun Z σ H en ok tk => by
  refine toS (pe_listRg hc B.gl B.mg (prg_1 BR.gl BR.mg pe_S nb) na) ?_
  refine h.use (Go.refl ok) en tk fun v H1 μ1 d g1 _ en1 i1 q1 => ?_
  obtain ⟨n, rfl, ⟨h0, h1⟩, q⟩ := q1
  rw [isInt i1]
  refine ⟨n, rfl, RgOk.of_le (Int.le_refl _) h1 (by omega) h0, fun p hp => ⟨μ1, _, g1.trans (Go.frz g1.ok hp _), Is.newL g1.ok hp ?_, q⟩⟩
  unfold rgV rangeD
  rw [Int.sub_zero]
  exact isA_map (fun i => .int _) _
theorem we_listRg1M (hc : X.calm = true) (B : Bl X "list") (BR : Bl X "range") (h : WE X a Γ μ fun μ1 x => One x fun n => Req (0 ≤ n ∧ n ≤ 16777216) (∀ p, μ1 p = none → Q (updM μ1 p (.lst (rangeD 0 n.toNat))) (.ref p)))
    (na : starEach [.Call (.Name "range" p1) [a] [] pos1] X.env = (false, eval (.Call (.Name "range" p1) [a] [] pos1) X.env) :: starEach [] X.env := by rfl) (nb : starEach [a] X.env = (false, eval a X.env) :: starEach [] X.env := by rfl) :
    WE X (.Call (.Name "list" p0) [.Call (.Name "range" p1) [a] [] pos1] [] pos) Γ μ Q := fun Z σ H en ok tk => by
  refine toS (pe_listRg hc B.gl B.mg (prg_1 BR.gl BR.mg pe_S nb) na) ?_
  refine h.use (Go.refl ok) en tk fun v H1 μ1 d g1 _ en1 i1 q1 => ?_
  obtain ⟨n, rfl, ⟨h0, h1⟩, q⟩ := q1
  rw [isInt i1]
  refine ⟨n, rfl, RgOk.of_le (Int.le_refl _) h1 (by omega) h0, fun p hp => ⟨_, _, g1.trans (Go.put g1.ok (.lst (rangeD 0 n.toNat)) _ (.inl hp) fun m => ⟨_, upd_same, m ?_⟩), .ref p, q p (g1.ok.fresh hp).1⟩⟩
  unfold rgV rangeD
  rw [Int.sub_zero]
  exact isA_map (fun i => .int _) _
end
end DL

set_option Elab.async false
set_option linter.all false
set_option maxRecDepth 100000
set_option maxHeartbeats 2000000
namespace DL
open PySem PySem.Spec PyProof.Rows L2
theorem lc_box {X : Cz} {Γ : Gm} {μ : Mu} {elt tg : Expr} {scope : Scope} {vs : List Nat} {ds : List D} {G : Mu → Prop} {Pf : List D → Mu → Prop} {b g : Addr} {t : Bx} (T : D → Gm) (P : D → Prop) (c : Int) (hc0 : 0 ≤ c) (hG : ∀ t', G (bxM b g t' μ)) (hl : ds.length < sizeLine) (ht0 : BxOk t)
    (ht : ∀ X', Blk X scope X' → ∀ d ∈ ds, ∀ t', WG X' tg vs d Γ (bxM b g t' μ) fun Γ3 μ3 => Γ3 = T d ∧ μ3 = bxM b g t' μ)
    (he : ∀ X', Blk X scope X' → ∀ d ∈ ds, ∀ t', BxOk t' → t'.cnt ≤ t.cnt + c * (ds.length : Int) → WE X' elt (T d) (bxM b g t' μ) fun μ4 y => ∃ t2, μ4 = bxM b g t2 μ ∧ BxOk t2 ∧ t2.cnt ≤ t'.cnt + c ∧ P y)
    (fin : ∀ acc t', acc.length = ds.length → (∀ d ∈ acc, P d) → BxOk t' → t'.cnt ≤ t.cnt + c * (ds.length : Int) → Pf acc (bxM b g t' μ)) : Lc X elt tg [] scope vs Γ (bxM b g t μ) ds G Pf := by
  refine ⟨fun i acc μ' => ∃ t', μ' = bxM b g t' μ ∧ BxOk t' ∧ t'.cnt ≤ t.cnt + c * (i : Int) ∧ acc.length = i ∧ ∀ d ∈ acc, P d, ⟨t, rfl, ht0, by simp, rfl, fun d h => by cases h⟩, fun i acc μ' _ ⟨t', e, _⟩ => by rw [e]; exact hG t', fun i d acc μ' hd h => ?_, fun acc μ' h => ?_⟩
  · obtain ⟨t', rfl, h1, h2, h3, h4⟩ := h
    have hm : d ∈ ds := List.mem_of_getElem? hd
    have hi : i < ds.length := (List.getElem?_eq_some_iff.mp hd).1
    have hle : c * (i : Int) ≤ c * (ds.length : Int) := Int.mul_le_mul_of_nonneg_left (by omega) hc0
    refine ⟨T d, fun X' bl => ht X' bl d hm t', fun X' bl => wts_nil ?_⟩
    rw [if_pos rfl]
    intro X' bl
    refine (he X' bl d hm t' h1 (by omega)).mono fun μ4 y h5 => ?_
    obtain ⟨t2, rfl, h6, h7, h8⟩ := h5
    refine ⟨by omega, t2, rfl, h6, ?_, by rw [List.length_append, List.length_singleton]; omega, fun z hz => ?_⟩
    · have e : c * ((i + 1 : Nat) : Int) = c * (i : Int) + c := by
        rw [Int.natCast_add, Int.mul_add]
        simp
      rw [e]
      omega
    · rcases List.mem_append.mp hz with hz | hz
      · exact h4 z hz
      · simp only [List.mem_cons, List.not_mem_nil, or_false] at hz
        subst hz
        exact h8
  · obtain ⟨t', rfl, h1, h2, h3, h4⟩ := h
    exact fin acc t' h3 h4 h1 h2
/-- a comprehension stored in a name that inner blocks read -/
theorem sw_false {elt : Expr} {gs : List Comprehension} {scope : Scope} {pos py : Pos} {y : Str} {l : Nat} {env : Env} (hy : env.scope.names.lookup y = some .cell) : swapsWith (.ListComp elt gs scope pos) (some (.Name y py)) l env = pure false := by
  have ky : env.kindOf y = some .cell := hy
  unfold swapsWith
  simp only [ky]
  show pure (env.blockKind == .function && false && _ && _) = _
  rw [Bool.and_false, Bool.false_and, Bool.false_and]
theorem ints_of {acc : List D} (h : ∀ d ∈ acc, ∃ i : Int, d = .int i) : ∃ cs : List Int, acc = cs.map D.int := by
  induction acc with
  | nil => exact ⟨[], rfl⟩
  | cons d r ih =>
    obtain ⟨i, rfl⟩ := h d List.mem_cons_self
    obtain ⟨cs, rfl⟩ := ih fun d hd => h d (List.mem_cons_of_mem _ hd)
    exact ⟨i :: cs, rfl⟩
theorem ite_rt {c : Bool} {A B : Prop} (h : c = true) (a : A) : if c = true then A else B := by rw [if_pos h]; exact a
theorem ite_rf {c : Bool} {A B : Prop} (h : c = false) (a : B) : if c = true then A else B := by rw [h]; exact a
end DL

set_option Elab.async false
set_option linter.all false
set_option maxRecDepth 100000
set_option maxHeartbeats 2000000
namespace DL
open PySem PySem.Spec PyProof.Rows L2

section
variable {κ α β : Type} [DecidableEq κ]
def valG (kvs : List (κ × α)) (k : κ) : Option α := (kvs.find? fun kv => decide (kv.1 = k)).map (·.2)
def putG (kvs : List (κ × α)) (k : κ) (v : α) : List (κ × α) :=
  if (kvs.any fun kv => decide (kv.1 = k)) = true then kvs.map (fun kv => if kv.1 = k then (kv.1, v) else kv) else kvs ++ [(k, v)]
def dropG (kvs : List (κ × α)) (k : κ) : List (κ × α) := kvs.filter fun kv => decide (kv.1 ≠ k)
def mergeG (kvs more : List (κ × α)) : List (κ × α) := more.foldl (fun acc kv => putG acc kv.1 kv.2) kvs
theorem valG_nil {k : κ} : valG ([] : List (κ × α)) k = none := rfl
theorem valG_cons {p : κ × α} {r : List (κ × α)} {k : κ} : valG (p :: r) k = if p.1 = k then some p.2 else valG r k := by
  unfold valG
  by_cases e : p.1 = k
  · rw [if_pos e, List.find?_cons, decide_eq_true e] <;> rfl
  · rw [if_neg e, List.find?_cons, decide_eq_false e]
theorem any_val (k : κ) : ∀ kvs : List (κ × α), (kvs.any fun kv => decide (kv.1 = k)) = (valG kvs k).isSome
  | [] => rfl
  | p :: r => by
    rw [List.any_cons, valG_cons, any_val k r]
    by_cases e : p.1 = k
    · rw [if_pos e, decide_eq_true e] <;> rfl
    · rw [if_neg e, decide_eq_false e, Bool.false_or]
theorem valG_map (k j : κ) (y : α) : ∀ kvs : List (κ × α), valG (kvs.map fun kv => if kv.1 = k then (kv.1, y) else kv) j = (valG kvs j).map fun x => if j = k then y else x
  | [] => rfl
  | p :: r => by
    rw [List.map_cons, valG_cons, valG_cons, valG_map k j y r]
    by_cases h : p.1 = k
    · rw [if_pos h]
      show (if p.1 = j then _ else _) = _
      by_cases e : p.1 = j
      · rw [if_pos e, if_pos e, Option.map_some, if_pos (e.symm.trans h)]
      · rw [if_neg e, if_neg e]
    · rw [if_neg h]
      by_cases e : p.1 = j
      · rw [if_pos e, if_pos e, Option.map_some, if_neg (fun z => h (e.trans z))]
      · rw [if_neg e, if_neg e]
theorem valG_app (j : κ) : ∀ (kvs r : List (κ × α)), valG (kvs ++ r) j = (valG kvs j).or (valG r j)
  | [], _ => rfl
  | p :: s, r => by
    rw [List.cons_append, valG_cons, valG_cons, valG_app j s r]
    by_cases e : p.1 = j
    · rw [if_pos e, if_pos e]; rfl
    · rw [if_neg e, if_neg e]
theorem valG_put (kvs : List (κ × α)) (k j : κ) (y : α) : valG (putG kvs k y) j = if j = k then some y else valG kvs j := by
  unfold putG
  by_cases a : (kvs.any fun kv => decide (kv.1 = k)) = true
  · rw [if_pos a, valG_map]
    rw [any_val] at a
    by_cases e : j = k
    · obtain ⟨x, hx⟩ := Option.isSome_iff_exists.mp a
      rw [if_pos e, e, hx, Option.map_some, if_pos rfl]
    · rw [if_neg e]
      cases valG kvs j with
      | none => rfl
      | some x => rw [Option.map_some, if_neg e]
  · rw [if_neg a, valG_app]
    rw [any_val] at a
    have hn : valG kvs k = none := by cases q : valG kvs k with
      | none => rfl
      | some x => rw [q] at a; exact (a rfl).elim
    rw [valG_cons, valG_nil]
    show (valG kvs j).or (if k = j then some y else none) = _
    by_cases e : j = k
    · subst e; simp [hn]
    · rw [if_neg e, if_neg fun z => e z.symm]; cases valG kvs j <;> rfl
theorem valG_drop (k j : κ) : ∀ kvs : List (κ × α), valG (dropG kvs k) j = if j = k then none else valG kvs j
  | [] => by show none = _; split <;> rfl
  | p :: r => by
    have ih := valG_drop k j r
    unfold dropG at ih ⊢
    rw [List.filter_cons]
    by_cases e : p.1 = k
    · rw [if_neg (by simp [e]), ih, valG_cons]
      by_cases q : j = k
      · rw [if_pos q, if_pos q]
      · rw [if_neg q, if_neg q, if_neg fun z => q (z.symm.trans e)]
    · rw [if_pos (by simp [e]), valG_cons, ih, valG_cons]
      by_cases q : p.1 = j
      · rw [if_pos q, if_pos q, if_neg fun z => e (q.trans z)]
      · rw [if_neg q, if_neg q]
theorem putG_new {kvs : List (κ × α)} {k : κ} (v : α) (h : valG kvs k = none) : putG kvs k v = kvs ++ [(k, v)] := by
  unfold putG
  rw [any_val, h]
  exact if_neg (by simp)
theorem putG_keys {kvs : List (κ × α)} {k : κ} {v : α} : (putG kvs k v).map (·.1) = if (valG kvs k).isSome = true then kvs.map (·.1) else kvs.map (·.1) ++ [k] := by
  unfold putG
  rw [any_val]
  by_cases e : (valG kvs k).isSome = true
  · rw [if_pos e, if_pos e, List.map_map]
    refine List.map_congr_left fun p _ => ?_
    show (if p.1 = k then (p.1, v) else p).1 = p.1
    split <;> rfl
  · rw [if_neg e, if_neg e, List.map_append]; rfl
theorem putG_len {kvs : List (κ × α)} {k : κ} {v : α} : (putG kvs k v).length ≤ kvs.length + 1 := by
  unfold putG
  split
  · rw [List.length_map]; omega
  · rw [List.length_append]; exact Nat.le_refl _
theorem dropG_none {k : κ} : ∀ {kvs : List (κ × α)}, valG kvs k = none → dropG kvs k = kvs
  | [], _ => rfl
  | p :: r, h => by
    rw [valG_cons] at h
    by_cases e : p.1 = k
    · rw [if_pos e] at h; cases h
    · rw [if_neg e] at h
      have ih := dropG_none h
      unfold dropG at ih ⊢
      rw [List.filter_cons, if_pos (by simp [e]), ih]
theorem valG_mem {k : κ} {v : α} : ∀ {kvs : List (κ × α)}, valG kvs k = some v → (k, v) ∈ kvs
  | [], h => by cases h
  | p :: r, h => by
    rw [valG_cons] at h
    by_cases e : p.1 = k
    · rw [if_pos e] at h; cases h; subst e; exact List.mem_cons_self
    · rw [if_neg e] at h; exact List.mem_cons_of_mem _ (valG_mem h)
theorem valG_none {k : κ} : ∀ {kvs : List (κ × α)}, valG kvs k = none ↔ k ∉ kvs.map (·.1)
  | [] => by simp [valG_nil]
  | p :: r => by
    rw [valG_cons, List.map_cons, List.mem_cons]
    by_cases e : p.1 = k
    · rw [if_pos e]; simp [e]
    · rw [if_neg e, valG_none (kvs := r)]
      exact ⟨fun h z => z.elim (fun z => e z.symm) h, fun h z => h (.inr z)⟩
theorem valG_some {k : κ} {kvs : List (κ × α)} : (valG kvs k).isSome = true ↔ k ∈ kvs.map (·.1) := by
  rw [← Decidable.not_iff_not, ← valG_none, Bool.not_eq_true]
  cases valG kvs k <;> simp
theorem valG_nodup {k : κ} {v : α} : ∀ {kvs : List (κ × α)}, (kvs.map (·.1)).Nodup → (k, v) ∈ kvs → valG kvs k = some v
  | [], _, h => by cases h
  | p :: r, n, h => by
    rw [List.map_cons, List.nodup_cons] at n
    rw [valG_cons]
    rcases List.mem_cons.mp h with e | h
    · subst e; rw [if_pos rfl]
    · rw [if_neg fun e => n.1 (by rw [e]; exact List.mem_map.mpr ⟨_, h, rfl⟩)]
      exact valG_nodup n.2 h
theorem valG_mapV {γ : Type} {f : α → γ} {k : κ} : ∀ {kvs : List (κ × α)}, valG (kvs.map fun kv => (kv.1, f kv.2)) k = (valG kvs k).map f
  | [] => rfl
  | p :: r => by
    rw [List.map_cons, valG_cons, valG_cons, valG_mapV (kvs := r)]
    show (if p.1 = k then _ else _) = _
    by_cases e : p.1 = k
    · rw [if_pos e, if_pos e]; rfl
    · rw [if_neg e, if_neg e]
variable {R : α → β → Prop}
abbrev P2 (R : α → β → Prop) : List (κ × α) → List (κ × β) → Prop := Paired fun p q => p.1 = q.1 ∧ R p.2 q.2
theorem P2.val {xs : List (κ × α)} {ys : List (κ × β)} (r : P2 R xs ys) (k : κ) : (∃ v d, valG xs k = some v ∧ valG ys k = some d ∧ R v d) ∨ (valG xs k = none ∧ valG ys k = none) := by
  unfold P2 at r
  induction r with
  | nil => exact .inr ⟨rfl, rfl⟩
  | @cons p q ps qs h t ih =>
    rw [valG_cons, valG_cons]
    by_cases e : p.1 = k
    · rw [if_pos e, if_pos (h.1.symm.trans e)]; exact .inl ⟨_, _, rfl, rfl, h.2⟩
    · rw [if_neg e, if_neg fun z => e (h.1.trans z)]; exact ih
theorem P2.put {xs : List (κ × α)} {ys : List (κ × β)} (r : P2 R xs ys) (k : κ) {v : α} {d : β} (h : R v d) : P2 R (putG xs k v) (putG ys k d) := by
  have a : (xs.any fun kv => decide (kv.1 = k)) = ys.any fun kv => decide (kv.1 = k) := by
    rw [any_val, any_val]
    rcases r.val k with ⟨_, _, e1, e2, _⟩ | ⟨e1, e2⟩ <;> rw [e1, e2] <;> rfl
  have m : P2 R (xs.map fun kv => if kv.1 = k then (kv.1, v) else kv) (ys.map fun kv => if kv.1 = k then (kv.1, d) else kv) := by
    clear a
    unfold P2 at r ⊢
    induction r with
    | nil => exact .nil
    | @cons p q ps qs h1 t ih =>
      rw [List.map_cons, List.map_cons]
      refine .cons ?_ ih
      by_cases e : p.1 = k
      · rw [if_pos e, if_pos (h1.1.symm.trans e)]; exact ⟨h1.1, h⟩
      · rw [if_neg e, if_neg fun z => e (h1.1.trans z)]; exact h1
  unfold putG
  rw [a]
  split
  · exact m
  · exact Paired.snoc r ⟨rfl, h⟩
theorem P2.drop {xs : List (κ × α)} {ys : List (κ × β)} (r : P2 R xs ys) (k : κ) : P2 R (dropG xs k) (dropG ys k) := by
  unfold P2 at r ⊢
  unfold dropG
  induction r with
  | nil => exact .nil
  | @cons p q ps qs h t ih =>
    rw [List.filter_cons, List.filter_cons]
    by_cases e : p.1 = k
    · rw [if_neg (by simp [e]), if_neg (by simp [h.1.symm.trans e])]; exact ih
    · rw [if_pos (by simp [e]), if_pos (by simpa using fun z : q.1 = k => e (h.1.trans z))]; exact .cons h ih
theorem P2.merge {zs : List (κ × α)} {ws : List (κ × β)} (m : P2 R zs ws) : ∀ {xs : List (κ × α)} {ys : List (κ × β)}, P2 R xs ys → P2 R (mergeG xs zs) (mergeG ys ws) := by
  unfold P2 at m
  induction m with
  | nil => exact fun r => r
  | @cons p q ps qs h t ih =>
    intro xs ys r
    have := ih (r.put q.1 (v := p.2) h.2)
    show P2 R (mergeG (putG xs p.1 p.2) ps) (mergeG (putG ys q.1 q.2) qs)
    rw [h.1]
    exact this
theorem P2.keys {xs : List (κ × α)} {ys : List (κ × β)} (r : P2 R xs ys) : xs.map (·.1) = ys.map (·.1) := by
  unfold P2 at r
  induction r with
  | nil => rfl
  | cons h t ih => rw [List.map_cons, List.map_cons, ih, h.1]
end
section
variable {κ : Type} [DecidableEq κ] {K : PySem.W.Frag} {A : Addr → Prop} {H : Hp}
abbrev KD (K : PySem.W.Frag) (A : Addr → Prop) (H : Hp) : List (κ × V) → List (κ × D) → Prop := P2 (Is K A H)
theorem kd_of : ∀ {kvs : List (κ × V)} {kds : List (κ × D)}, kvs.map (·.1) = kds.map (·.1) → IsA K A H (kvs.map (·.2)) (kds.map (·.2)) → KD K A H kvs kds
  | [], [], _, _ => .nil
  | [], _ :: _, h, _ => by simp at h
  | _ :: _, [], h, _ => by simp at h
  | p :: r, q :: s, h, t => by
    rw [List.map_cons, List.map_cons] at h t
    injection h with h1 h2
    cases t with
    | cons i t => exact .cons ⟨h1, i⟩ (kd_of h2 t)
theorem KD.is {kvs : List (κ × V)} {kds : List (κ × D)} (r : KD K A H kvs kds) : IsA K A H (kvs.map (·.2)) (kds.map (·.2)) := by
  unfold KD P2 at r
  induction r with
  | nil => exact .nil
  | cons h t ih => exact .cons h.2 ih
theorem KD.mono {A' : Addr → Prop} {H' : Hp} (f : Fz A H A' H') {kvs : List (κ × V)} {kds : List (κ × D)} (r : KD K A H kvs kds) : KD K A' H' kvs kds := Paired.mapP r fun _ _ h => ⟨h.1, h.2.mono f⟩
theorem KD.len {kvs : List (κ × V)} {kds : List (κ × D)} (r : KD K A H kvs kds) : kvs.length = kds.length := Paired.length r
end
def DkAt (μ : Mu) (p : Addr) (kds : List (Key × D)) : Prop := μ p = some (.dK kds) ∨ ∃ ob kvs, μ p = some (.lkK ob kvs kds)
section
variable {K : PySem.W.Frag} {Z : Addr → Prop} {μ : Mu} {H : Hp} {p : Addr} {kds : List (Key × D)}
theorem dk_at (h : DkAt μ p kds) (ok : Ok K μ Z H) : ∃ kvs, Rd H p (.dK kvs) ∧ KD K (Av μ Z) H kvs kds := by
  rcases h with h | h
  · obtain ⟨kvs, h1, h2, h3⟩ := ok.at_ _ _ h
    exact ⟨kvs, .inl h1, kd_of h2 h3⟩
  · obtain ⟨ob, kvs, h⟩ := h
    obtain ⟨h1, h2, h3⟩ := ok.at_ _ _ h
    exact ⟨kvs, .inr ⟨ob, h1⟩, kd_of h2 h3⟩
theorem dk_wr (h : μ p = some (.dK kds)) (ok : Ok K μ Z H) : ∃ kvs, H p = some (.dK kvs) ∧ KD K (Av μ Z) H kvs kds := by
  obtain ⟨kvs, h1, h2, h3⟩ := ok.at_ _ _ h
  exact ⟨kvs, h1, kd_of h2 h3⟩
def keyD : D → Option Key
  | .int i => some (.inl i)
  | .str x => some (.inr x)
  | _ => none
theorem key_is {A : Addr → Prop} {v : V} {d : D} {k : Key} (i : Is K A H v d) (e : keyD d = some k) : v = kV k := by
  cases i <;> first | (cases e; done) | (cases e; rfl)
/-- a dict's object, written -/
theorem Go.putD (ok : Ok K μ Z H) (h : H p = none ∨ ∃ o', μ p = some o') {kvs : List (Key × V)} {kds : List (Key × D)} (r : KD K (Av μ Z) H kvs kds) : Go K Z μ H (updM μ p (.dK kds)) (upd H p (.dK kvs)) :=
  Go.put ok _ _ h fun m => ⟨kvs, upd_same, r.keys, m r.is⟩
end
def keyN : D → Option (Option Key)
  | .non => some none
  | d => (keyD d).map some
def dnP (P : Program) (w : World) (a : Addr) (ks : List (Option Key)) (vs : List V) (h : Heap) : Prop :=
  (a == sysModules) = false ∧ ∃ us, Vals vs us ∧ vs.length = ks.length ∧ ks.length ≤ sizeLine ∧ h.DictOf (noneKind P w) a (ks.zip us)
def dnM (P : Program) (w : World) (a : Addr) (kds : List (Option Key × D)) : MO := .ext (dnP P w a (kds.map (·.1))) (kds.map (·.2))
theorem keyN_is {K : PySem.W.Frag} {H : Hp} {A : Addr → Prop} {v : V} {d : D} {k : Option Key} {P : Program} {w : World} {u : Value} (i : Is K A H v d) (e : keyN d = some k) (r : RelV v u) : (noneKind P w).is k u = true := by
  cases i <;> first
    | (cases e; done)
    | (cases e; cases (show u = Value.none from r); rfl)
    | (cases e; exact kV_is (P := P) (w := w) (k := Sum.inl _) r)
    | (cases e; exact kV_is (P := P) (w := w) (k := Sum.inr _) r)
section
variable {X : Cx} {pins : List (Addr × Obj)} {σ : L2.St} {H : Hp} {s : Shared} {a : Addr} {A : Around} {E : Value → Shared → Prop} {P : Program} {w : World}
theorem zip_kv {κ : Type} : ∀ {ks : List κ} {vs : List V} {us : List Value}, Vals vs us → vs.length = ks.length → KV (ks.zip vs) (ks.zip us)
  | [], [], _, .nil, _ => .nil
  | [], _ :: _, _, _, h => by simp at h
  | _ :: _, [], _, _, h => by simp at h
  | k :: ks, v :: vs, _, .cons r t, h => .cons ⟨rfl, r⟩ (zip_kv t (by simpa using h))
theorem zip_map {κ α : Type} : ∀ {kvs : List (κ × α)}, (kvs.map (·.1)).zip (kvs.map (·.2)) = kvs
  | [] => rfl
  | _ :: r => by rw [List.map_cons, List.map_cons, List.zip_cons_cons, zip_map]
theorem kv_vals {κ : Type} : ∀ {kvs : List (κ × V)} {us : List (κ × Value)}, KV kvs us → Vals (kvs.map (·.2)) (us.map (·.2)) ∧ kvs.map (·.1) = us.map (·.1)
  | _, _, .nil => ⟨.nil, rfl⟩
  | _, _, .cons h t => ⟨.cons h.2 (kv_vals t).1, by rw [List.map_cons, List.map_cons, h.1, (kv_vals t).2]⟩
/-- what is at a -/
theorem dn_rd {ks : List (Option Key)} {vs : List V} (I : Inv X pins σ H s) (e : H a = some (.ext (dnP P w a ks vs))) : (a == sysModules) = false ∧ vs.length = ks.length ∧ ks.length ≤ sizeLine ∧ ∃ us, KV (ks.zip vs) us ∧ s.heap.DictOf (noneKind P w) a us := by
  obtain ⟨⟨h1, us, r, hl, hz, dd⟩, _, _⟩ := (show ObjOk X.prog X.w H s.heap a (.ext (dnP P w a ks vs)) from I.hok a _ e)
  exact ⟨h1, hl, hz, _, zip_kv r hl, dd⟩
theorem dn_ok {P' : Program} {w' : World} {H' : Hp} {h' : Heap} {kvs : List (Option Key × V)} {us : List (Option Key × Value)} (hz : kvs.length ≤ sizeLine) (hd : (a == sysModules) = false) (r : KV kvs us) (dd : h'.DictOf (noneKind P w) a us) :
    ObjOk P' w' H' h' a (.ext (dnP P w a (kvs.map (·.1)) (kvs.map (·.2)))) := by
  have he : ∃ o, h'.get? a = some o := let ⟨o, _, _, q, _⟩ := dd; ⟨o, q⟩
  obtain ⟨v1, v2⟩ := kv_vals r
  refine ⟨⟨hd, us.map (·.2), v1, by rw [List.length_map, List.length_map], by rw [List.length_map]; exact hz, ?_⟩, he, fun h1 h2 p k => ?_⟩
  · rw [v2, zip_map]; exact dd
  · obtain ⟨a1, us', a2, a3, a4, a5⟩ := p
    exact ⟨a1, us', a2, a3, a4, a5.at k⟩
end
/-- x[y] -/
def SubQ (P : Program) (w : World) (μ : Mu) (x y : D) (R : D → Prop) : Prop := IxQ μ x y R ∨ (∃ p kds k d, x = .ref p ∧ DkAt μ p kds ∧ keyD y = some k ∧ valG kds k = some d ∧ R d) ∨
  (∃ z i c, x = .str z ∧ y = .int i ∧ z.length ≤ sizeLine ∧ atI z.cps.toList i = some c ∧ R (.str ⟨#[c]⟩)) ∨ ∃ p kds k d, x = .ref p ∧ μ p = some (dnM P w p kds) ∧ keyN y = some k ∧ valG kds k = some d ∧ R d
section
variable {P : Program} {w : World} {μ : Mu} {x y : D} {R : D → Prop}
theorem sub_ix (h : IxQ μ x y R) : SubQ P w μ x y R := .inl h
theorem sub_d {p : Addr} {kds : List (Key × D)} {k : Key} {d : D} (m : μ p = some (.dK kds)) (e : keyD y = some k) (v : valG kds k = some d) (r : R d) : SubQ P w μ (.ref p) y R := .inr (.inl ⟨p, kds, k, d, rfl, .inl m, e, v, r⟩)
theorem sub_lk {p : Addr} {ob : Obj} {kvs : List (Key × V)} {kds : List (Key × D)} {k : Key} {d : D} (m : μ p = some (.lkK ob kvs kds)) (e : keyD y = some k) (v : valG kds k = some d) (r : R d) : SubQ P w μ (.ref p) y R := .inr (.inl ⟨p, kds, k, d, rfl, .inr ⟨_, _, m⟩, e, v, r⟩)
theorem sub_s {z : Str} {i : Int} {c} (hl : z.length ≤ sizeLine) (e : atI z.cps.toList i = some c) (r : R (.str ⟨#[c]⟩)) : SubQ P w μ (.str z) (.int i) R := .inr (.inr (.inl ⟨z, i, c, rfl, rfl, hl, e, r⟩))
theorem sub_n {p : Addr} {kds : List (Option Key × D)} {k : Option Key} {d : D} (m : μ p = some (dnM P w p kds)) (e : keyN y = some k) (v : valG kds k = some d) (r : R d) : SubQ P w μ (.ref p) y R := .inr (.inr (.inr ⟨p, kds, k, d, rfl, m, e, v, r⟩))
end
def rIxDk : R2 := fun x y H Q => ∃ a v, x = .ref a ∧ DGet H a y (some v) ∧ Q v H
theorem ix_dk {X : Cx} (hu : X.A.units + 1 < cLine) : IxR X rIxDk := by
  intro value slice pins s σ H x y v u Q I rx ry h hs
  obtain ⟨a, r, rfl, g, q⟩ := h
  obtain rfl : v = Value.ref a := rx
  exact tail_any (dict_typeIs I g) PySem.F.slot_dict_getitem.lookup (d_getItem hu I g ry fun w' s3 I3 rw' => ⟨r, H, I3, rw', q⟩) hs
def rIxDn (P : Program) (w : World) : R2 := fun x y H Q => ∃ a ks vs k v, x = .ref a ∧ H a = some (.ext (dnP P w a ks vs)) ∧ (∀ u, RelV y u → (noneKind P w).is k u = true) ∧ valG (ks.zip vs) k = some v ∧ Q v H
theorem ix_dn {X : Cx} : IxR X (rIxDn X.prog X.w) := by
  intro value slice pins s σ H x y v u Q I rx ry h hs
  obtain ⟨a, ks, vs, k, r, rfl, e, hk, hv, q⟩ := h
  obtain rfl : v = Value.ref a := rx
  obtain ⟨_, _, _, us, rel, dd⟩ := dn_rd I e
  obtain ⟨w', hw, rw'⟩ := RelO.some_of (v := r) (o := valueAt us k) (by have := rel.val k; rw [show valV (ks.zip vs) k = some r from hv] at this; exact this)
  exact tail_any dd.typeIs PySem.F.slot_dict_getitem.lookup (wpAny_getItem_of (hk u ry) dd.mapOf hw ⟨r, H, I.tok _, rw', q⟩) hs
section
variable {X : Cz} {Γ Γ' : Gm} {μ μ' : Mu} {a b c e f o : Expr} {es : List Expr} {pos p0 p1 p2 : Pos} {Q : Mu → D → Prop} {k : Kt}
theorem dn_val {K : PySem.W.Frag} {Z : Addr → Prop} {H : Hp} {P : Program} {w : World} {p : Addr} {kds : List (Option Key × D)} (ok : Ok K μ Z H) (h : μ p = some (dnM P w p kds)) : ∃ kvs : List (Option Key × V), H p = some (.ext (dnP P w p (kvs.map (·.1)) (kvs.map (·.2)))) ∧ KD K (Av μ Z) H kvs kds := by
  obtain ⟨vs, h1, h2⟩ := ok.at_ _ _ h
  have hl : vs.length = kds.length := by rw [h2.length, List.length_map]
  refine ⟨(kds.map (·.1)).zip vs, ?_, ?_⟩
  · rw [List.map_fst_zip (by rw [List.length_map]; omega), List.map_snd_zip (by rw [List.length_map]; omega)]
    exact h1
  · refine kd_of ?_ ?_
    · rw [List.map_fst_zip (by rw [List.length_map]; omega)]
    · rw [List.map_snd_zip (by rw [List.length_map]; omega)]; exact h2
theorem we_sbs (hu : X.A.units + 64 < cLine) (h : WE X a Γ μ fun μ1 x => WE X b Γ μ1 fun μ2 y => SubQ X.prog X.w μ2 x y fun d => Q μ2 d) (hp : PlainIx b := by intro _ _; rfl) : WE X (.Subscript a b pos) Γ μ Q := fun Z σ H en ok tk => by
  refine toS (pe_ix (IxR.or (IxR.or ix_list ix_tup) (IxR.or (ix_dk (by omega)) (IxR.or ix_str ix_dn))) pe_S pe_S hp) ?_
  refine h.use (Go.refl ok) en tk fun v H1 μ1 d g1 _ en1 i1 q1 => ?_
  refine q1.use g1 en1 tk fun w H2 μ2 d2 g2 g2' en2 i2 q2 => ?_
  have i1' := i1.mono g2'.fz
  rcases q2 with ⟨ds, i, d, sq, rfl, ha, q⟩ | ⟨p, kds, k, d, rfl, hd, hk, hv, q⟩ | ⟨z, i, c, rfl, rfl, hl, ha, q⟩ | ⟨p, kds, k, d, rfl, hm, hk, hv, q⟩
  · obtain ⟨p, vs, rfl, s, t⟩ := sq.at g2.ok i1'
    obtain ⟨u, hu, iu⟩ := atI_is t ha
    rw [isInt i2]
    rcases s with s | s
    · exact .inl (.inl ⟨p, vs, i, u, rfl, rfl, s, hu, μ2, d, g2, iu, q⟩)
    · exact .inl (.inr ⟨p, vs, i, u, rfl, rfl, s, hu, μ2, d, g2, iu, q⟩)
  · cases isRef i1'
    obtain ⟨kvs, r, rel⟩ := dk_at hd g2.ok
    rcases rel.val k with ⟨v, d', e1, e2, iv⟩ | ⟨_, e2⟩
    · rw [hv] at e2; cases e2
      refine .inr (.inl ⟨p, v, rfl, .inl ⟨kvs, k, r, key_is i2 hk, e1.symm⟩, μ2, d, g2, iv, q⟩)
    · rw [hv] at e2; cases e2
  · rw [isStr i1', isInt i2]
    exact .inr (.inr (.inl ⟨z, i, c, rfl, rfl, hl, ha, μ2, _, g2, .str _, q⟩))
  · cases isRef i1'
    obtain ⟨kvs, r, rel⟩ := dn_val g2.ok hm
    rcases rel.val k with ⟨v, d', e1, e2, iv⟩ | ⟨_, e2⟩
    · rw [hv] at e2; cases e2
      exact .inr (.inr (.inr ⟨p, _, _, k, v, rfl, r, fun u ru => keyN_is i2 hk ru, by rw [zip_map]; exact e1, μ2, d, g2, iv, q⟩))
    · rw [hv] at e2; cases e2
def flatD : D → Bool
  | .non => true
  | .bl _ => true
  | .int _ => true
  | .str _ => true
  | _ => false
def toV : D → V
  | .bl b => .bl b
  | .int i => .int i
  | .str x => .str x
  | _ => .non
def inD (x : D) (ds : List D) : Bool := inV (toV x) (ds.map toV)
theorem flat_is {K : PySem.W.Frag} {A : Addr → Prop} {H : Hp} {v : V} {d : D} (i : Is K A H v d) (f : flatD d = true) : v = toV d ∧ flatV v = true := by
  cases i <;> first | exact ⟨rfl, rfl⟩ | cases f
theorem flat_isA {K : PySem.W.Frag} {A : Addr → Prop} {H : Hp} : ∀ {vs : List V} {ds : List D}, IsA K A H vs ds → ds.all flatD = true → vs = ds.map toV ∧ vs.all flatV = true
  | _, _, .nil, _ => ⟨rfl, rfl⟩
  | _, _, .cons i t, h => by
    rw [List.all_cons, Bool.and_eq_true] at h
    obtain ⟨e1, e2⟩ := flat_is i h.1
    obtain ⟨e3, e4⟩ := flat_isA t h.2
    exact ⟨by rw [List.map_cons, ← e1, ← e3], by rw [List.all_cons, e2, e4]; rfl⟩
theorem inD_strs {x : Str} : ∀ {xs : List Str}, inD (.str x) (xs.map .str) = decide (x ∈ xs)
  | [] => rfl
  | y :: r => by
    have ih := inD_strs (x := x) (xs := r)
    unfold inD inV at ih ⊢
    rw [List.map_cons, List.map_cons, List.any_cons, ih]
    show ((y == x) || _) = _
    by_cases e : y = x
    · subst e; simp
    · rw [beq_eq_false_iff_ne.mpr e, Bool.false_or]
      simp only [List.mem_cons]
      simp [show ¬ x = y from fun z => e z.symm]
/-- y in x -/
def InQ (μ : Mu) (y x : D) (R : Bool → Prop) : Prop := (∃ ds, Seq μ x ds ∧ flatD y = true ∧ ds.all flatD = true ∧ R (inD y ds)) ∨
  (∃ p kds k, x = .ref p ∧ DkAt μ p kds ∧ keyD y = some k ∧ R (valG kds k).isSome) ∨ (∃ p kds, x = .ref p ∧ DkAt μ p kds ∧ y = .non ∧ R false)
theorem in_l {y : D} {ds : List D} {R : Bool → Prop} (h1 : flatD y = true) (h2 : ds.all flatD = true) (r : R (inD y ds)) : InQ μ y (.lst ds) R := .inl ⟨ds, .l, h1, h2, r⟩
theorem in_t {y : D} {ds : List D} {R : Bool → Prop} (h1 : flatD y = true) (h2 : ds.all flatD = true) (r : R (inD y ds)) : InQ μ y (.tup ds) R := .inl ⟨ds, .t, h1, h2, r⟩
theorem in_m {y : D} {p : Addr} {ds : List D} {R : Bool → Prop} (m : μ p = some (.lst ds)) (h1 : flatD y = true) (h2 : ds.all flatD = true) (r : R (inD y ds)) : InQ μ y (.ref p) R := .inl ⟨ds, .m m, h1, h2, r⟩
theorem in_d {y : D} {p : Addr} {kds : List (Key × D)} {k : Key} {R : Bool → Prop} (m : μ p = some (.dK kds)) (h1 : keyD y = some k) (r : R (valG kds k).isSome) : InQ μ y (.ref p) R := .inr (.inl ⟨p, kds, k, rfl, .inl m, h1, r⟩)
theorem in_lk {y : D} {p : Addr} {ob : Obj} {kvs : List (Key × V)} {kds : List (Key × D)} {k : Key} {R : Bool → Prop} (m : μ p = some (.lkK ob kvs kds)) (h1 : keyD y = some k) (r : R (valG kds k).isSome) : InQ μ y (.ref p) R := .inr (.inl ⟨p, kds, k, rfl, .inr ⟨_, _, m⟩, h1, r⟩)
theorem in_n {p : Addr} {kds : List (Key × D)} {R : Bool → Prop} (m : μ p = some (.dK kds)) (r : R false) : InQ μ .non (.ref p) R := .inr (.inr ⟨p, kds, rfl, .inl m, rfl, r⟩)
def rInA (K : PySem.W.Frag) (neg : Bool) : R2 := fun x y H Q => rIn K neg x y H Q ∨ (∃ a o, y = .ref a ∧ DGet H a x o ∧ Q (.bl (if neg then !o.isSome else o.isSome)) H) ∨ ∃ a kvs, y = .ref a ∧ x = .non ∧ Rd H a (.dK kvs) ∧ Q (.bl neg) H
theorem op_inA {X : Cx} (hu : X.A.units + 1 < cLine) : OpR X (compareOp .In) (rInA X.K false) := by
  intro pins s σ H x y v u Q I rx ry h
  rcases h with h | ⟨a, o, rfl, g, q⟩ | ⟨a, kvs, rfl, rfl, g, q⟩
  · exact op_in_seq pins s σ H x y v u Q I rx ry h
  · obtain rfl : u = Value.ref a := ry
    exact d_in hu I g rx fun s3 I3 => ⟨.bl o.isSome, H, I3, rfl, q⟩
  · obtain rfl : u = Value.ref a := ry
    obtain rfl : v = Value.none := rx
    exact d_inNone I g fun s3 I3 => ⟨.bl false, H, I3, rfl, q⟩
theorem op_notInA {X : Cx} (hu : X.A.units + 1 < cLine) : OpR X (compareOp .NotIn) (rInA X.K true) := by
  intro pins s σ H x y v u Q I rx ry h
  rcases h with h | ⟨a, o, rfl, g, q⟩ | ⟨a, kvs, rfl, rfl, g, q⟩
  · exact op_notIn_seq pins s σ H x y v u Q I rx ry h
  · obtain rfl : u = Value.ref a := ry
    exact d_notIn hu I g rx fun s3 I3 => ⟨.bl (!o.isSome), H, I3, rfl, q⟩
  · obtain rfl : u = Value.ref a := ry
    obtain rfl : v = Value.none := rx
    exact d_notInNone I g fun s3 I3 => ⟨.bl true, H, I3, rfl, q⟩
theorem in_read {K : PySem.W.Frag} {Z : Addr → Prop} {H : Hp} {μ : Mu} {x y : D} {v u : V} {neg : Bool} {R : Bool → Prop} {Q : VK} (ok : Ok K μ Z H) (ix : Is K (Av μ Z) H v x) (iy : Is K (Av μ Z) H u y) (h : InQ μ x y R) (q : ∀ c, R c → Q (.bl (if neg then !c else c)) H) : rInA K neg v u H Q := by
  rcases h with ⟨ds, sq, f1, f2, r⟩ | ⟨p, kds, k, rfl, hd, hk, r⟩ | ⟨p, kds, rfl, hd, rfl, r⟩
  · obtain ⟨p, vs, rfl, s, t⟩ := sq.at ok iy
    obtain ⟨e1, e2⟩ := flat_is ix f1
    obtain ⟨e3, e4⟩ := flat_isA t f2
    refine .inl ⟨p, vs, rfl, s, e2, e4, ?_⟩
    have := q _ r
    rw [show inD x ds = inV v vs by rw [e1, e3]; rfl] at this
    cases neg <;> exact this
  · cases isRef iy
    obtain ⟨kvs, r', rel⟩ := dk_at hd ok
    refine .inr (.inl ⟨p, valV kvs k, rfl, .inl ⟨kvs, k, r', key_is ix hk, rfl⟩, ?_⟩)
    have e : (valV kvs k).isSome = (valG kds k).isSome := by
      rcases rel.val k with ⟨v, d, e1, e2, _⟩ | ⟨e1, e2⟩
      · rw [show valV kvs k = some v from e1, e2]; rfl
      · rw [show valV kvs k = none from e1, e2] <;> rfl
    rw [e]
    exact q _ r
  · cases isRef iy
    rw [isNon ix]
    obtain ⟨kvs, r', rel⟩ := dk_at hd ok
    refine .inr (.inr ⟨p, kvs, rfl, rfl, r', ?_⟩)
    have := q _ r
    cases neg <;> exact this
theorem we_in (hu : X.A.units + 64 < cLine) (h : WE X a Γ μ fun μ1 x => WE X b Γ μ1 fun μ2 y => InQ μ2 x y fun c => Q μ2 (.bl c)) (hm : behindInMarks .In b = false := by rfl) : WE X (.Compare a [.In] [b] pos) Γ μ Q := fun Z σ H en ok tk => by
  refine toS (pe_cmpR (op_inA (by omega)) pe_S pe_S hm) ?_
  refine h.use (Go.refl ok) en tk fun v H1 μ1 d g1 _ en1 i1 q1 => ?_
  refine q1.use g1 en1 tk fun w H2 μ2 d2 g2 g2' en2 i2 q2 => ?_
  exact in_read (neg := false) g2.ok (i1.mono g2'.fz) i2 q2 fun c r => ⟨μ2, _, g2, .bl _, r⟩
theorem we_nin (hu : X.A.units + 64 < cLine) (h : WE X a Γ μ fun μ1 x => WE X b Γ μ1 fun μ2 y => InQ μ2 x y fun c => Q μ2 (.bl !c)) (hm : behindInMarks .NotIn b = false := by rfl) : WE X (.Compare a [.NotIn] [b] pos) Γ μ Q := fun Z σ H en ok tk => by
  refine toS (pe_cmpR (op_notInA (by omega)) pe_S pe_S hm) ?_
  refine h.use (Go.refl ok) en tk fun v H1 μ1 d g1 _ en1 i1 q1 => ?_
  refine q1.use g1 en1 tk fun w H2 μ2 d2 g2 g2' en2 i2 q2 => ?_
  exact in_read (neg := true) g2.ok (i1.mono g2'.fz) i2 q2 fun c r => ⟨μ2, _, g2, .bl _, r⟩
theorem wt_in {Q : Mu → Bool → Prop} (hu : X.A.units + 64 < cLine) (h : WE X a Γ μ fun μ1 x => WE X b Γ μ1 fun μ2 y => InQ μ2 x y fun c => Q μ2 c) (hm : behindInMarks .In b = false := by rfl) : WT X (.Compare a [.In] [b] pos) Γ μ Q := fun Z σ H en ok tk => by
  refine toT (pt_cmpR (op_inA (by omega)) pe_S pe_S hm) ?_
  refine h.use (Go.refl ok) en tk fun v H1 μ1 d g1 _ en1 i1 q1 => ?_
  refine q1.use g1 en1 tk fun w H2 μ2 d2 g2 g2' en2 i2 q2 => ?_
  exact in_read (neg := false) g2.ok (i1.mono g2'.fz) i2 q2 fun c r => ⟨_, rfl, μ2, g2, r⟩
theorem wt_nin {Q : Mu → Bool → Prop} (hu : X.A.units + 64 < cLine) (h : WE X a Γ μ fun μ1 x => WE X b Γ μ1 fun μ2 y => InQ μ2 x y fun c => Q μ2 !c) (hm : behindInMarks .NotIn b = false := by rfl) : WT X (.Compare a [.NotIn] [b] pos) Γ μ Q := fun Z σ H en ok tk => by
  refine toT (pt_cmpR (op_notInA (by omega)) pe_S pe_S hm) ?_
  refine h.use (Go.refl ok) en tk fun v H1 μ1 d g1 _ en1 i1 q1 => ?_
  refine q1.use g1 en1 tk fun w H2 μ2 d2 g2 g2' en2 i2 q2 => ?_
  exact in_read (neg := true) g2.ok (i1.mono g2'.fz) i2 q2 fun c r => ⟨_, rfl, μ2, g2, r⟩
/-- x[y] = d of a dict -/
def DPutQ (P : Program) (w : World) (μ : Mu) (x y d : D) (R : Mu → Prop) : Prop := (∃ p kds k, x = .ref p ∧ μ p = some (.dK kds) ∧ keyD y = some k ∧ kds.length < sizeLine ∧ R (updM μ p (.dK (putG kds k d)))) ∨
  ∃ p kds k, x = .ref p ∧ μ p = some (dnM P w p kds) ∧ keyN y = some k ∧ kds.length < sizeLine ∧ R (updM μ p (dnM P w p (putG kds k d)))
theorem dput_k {P : Program} {w : World} {p : Addr} {kds : List (Key × D)} {k : Key} {y d : D} {R : Mu → Prop} (m : μ p = some (.dK kds)) (e : keyD y = some k) (hl : kds.length < sizeLine) (r : R (updM μ p (.dK (putG kds k d)))) : DPutQ P w μ (.ref p) y d R := .inl ⟨p, kds, k, rfl, m, e, hl, r⟩
theorem dput_n {P : Program} {w : World} {p : Addr} {kds : List (Option Key × D)} {k : Option Key} {y d : D} {R : Mu → Prop} (m : μ p = some (dnM P w p kds)) (e : keyN y = some k) (hl : kds.length < sizeLine) (r : R (updM μ p (dnM P w p (putG kds k d)))) : DPutQ P w μ (.ref p) y d R := .inr ⟨p, kds, k, rfl, m, e, hl, r⟩
def rSetA (P : Program) (w : World) : V → V → V → Hp → (Hp → Prop) → Prop := fun o i v H Q => rSetL o i v H Q ∨ (∃ a H', o = .ref a ∧ DPut H a i v H' ∧ Q H') ∨
  ∃ a kvs k, o = .ref a ∧ H a = some (.ext (dnP P w a (kvs.map (·.1)) (kvs.map (·.2)))) ∧ (∀ u, RelV i u → (noneKind P w).is k u = true) ∧ kvs.length < sizeLine ∧ Q (upd H a (.ext (dnP P w a ((putG kvs k v).map (·.1)) ((putG kvs k v).map (·.2)))))
theorem set_any {X : Cx} (hu : X.A.units + 1 < cLine) : PSet X (rSetA X.prog X.w) := by
  intro pins s σ H o i v ov iv u Q I ro ri rv h
  rcases h with h | ⟨a, H', rfl, g, q⟩ | ⟨a, kvs, k, rfl, e, hk, hl, q⟩
  · exact set_list pins s σ H o i v ov iv u Q I ro ri rv h
  · obtain rfl : ov = Value.ref a := ro
    exact d_setItem hu I g ri rv fun s4 I4 => ⟨H', I4, q⟩
  · obtain rfl : ov = Value.ref a := ro
    obtain ⟨hd, _, hz, us, rel, dd⟩ := dn_rd I e
    rw [zip_map] at rel
    have hz' : us.length ≤ sizeLine := by rw [← rel.length]; omega
    refine wpAny_setItem_pairs (hsz := hz') (hk iv ri) dd fun h' dd' hs => ⟨_, ?_, q⟩
    have he : ∃ q, h'.get? a = some q := let ⟨q, _, _, hq, _⟩ := dd'; ⟨q, hq⟩
    have hl2 : (putG kvs k v).length ≤ sizeLine := by have := putG_len (kvs := kvs) (k := k) (v := v); omega
    exact d_write I (by rw [e]; exact True.intro) hs he (dn_ok hl2 hd (rel.put k rv) dd')
theorem wx_put {i : Expr} {d : D} {N : Gm → Mu → Prop} (hu : X.A.units + 64 < cLine) (h : WE X o Γ μ fun μ1 x => WE X i Γ μ1 fun μ2 y => (One y fun n => LstAt μ2 x fun p => LstQ μ2 p fun ds => AtQ ds n fun j => N Γ (updM μ2 p (.lst (ds.set j d)))) ∨ DPutQ X.prog X.w μ2 x y d fun μ3 => N Γ μ3)
    (ha : ∀ v, assign (.Subscript o i pos) X.env v = (do
      let ov ← holding [v] (eval o X.env)
      let iv ← holding [v, ov] (eval i X.env)
      standAt pos
      holding [v, ov, iv] (setItem ov iv v)
      release [v, ov, iv] []) := by intro _; rfl) : WGx X (.Subscript o i pos) d Γ μ N := fun Z σ H v en ok tk is => by
  refine toG (pg_sub pe_S pe_S (set_any (by omega)) ha) ?_
  refine h.use (Go.refl ok) en tk fun ov H1 μ1 d1 g1 _ en1 i1 q1 => ?_
  refine q1.use g1 en1 tk fun iv H2 μ2 d2 g2 g2' en2 i2 q2 => ?_
  have i1' := i1.mono g2'.fz
  rcases q2 with ⟨n, rfl, p, rfl, _, ds, hp, j, hj, q⟩ | ⟨p, kds, k, rfl, hm, hk, hl, q⟩ | ⟨p, kds, k, rfl, hm, hk, hl, q⟩
  · obtain ⟨vs, e3, t⟩ := g2.ok.at_ p _ hp
    rw [isRef i1, isInt i2]
    have g3 := Go.put g2.ok (.lst (ds.set j d)) (.lst (vs.set j v)) (.inr ⟨_, hp⟩) fun m => ⟨_, upd_same, m (IsA.set (is.mono g2.fz) j t)⟩
    exact .inl ⟨p, vs, n, j, rfl, rfl, e3, by rw [t.length]; exact hj, Γ, _, g2.trans g3, en2.mono g3.fz, q⟩
  · cases isRef i1'
    obtain ⟨kvs, hH, rel⟩ := dk_wr hm g2.ok
    have g3 := Go.putD g2.ok (.inr ⟨_, hm⟩) (rel.put k (is.mono g2.fz))
    exact .inr (.inl ⟨p, _, rfl, .inl ⟨kvs, k, hH, key_is i2 hk, by rw [rel.len]; exact hl, rfl⟩, Γ, _, g2.trans g3, en2.mono g3.fz, q⟩)
  · cases isRef i1'
    obtain ⟨kvs, hH, rel⟩ := dn_val g2.ok hm
    have r2 := rel.put k (is.mono g2.fz)
    have g3 := Go.put g2.ok (dnM X.prog X.w p (putG kds k d)) (.ext (dnP X.prog X.w p ((putG kvs k v).map (·.1)) ((putG kvs k v).map (·.2)))) (.inr ⟨_, hm⟩) fun m => ⟨_, by rw [upd_same, r2.keys], m (KD.is r2)⟩
    exact .inr (.inr ⟨p, kvs, k, rfl, hH, fun u ru => keyN_is i2 hk ru, by rw [rel.len]; exact hl, Γ, _, g2.trans g3, en2.mono g3.fz, q⟩)
end
end DL

set_option Elab.async false
set_option linter.all false
set_option maxRecDepth 100000
set_option maxHeartbeats 2000000
namespace DL
open PySem PySem.Spec PyProof.Rows L2

section
variable {X : Cz} {Γ Γ' : Gm} {μ μ' : Mu} {a b c e f o : Expr} {es : List Expr} {pos p0 p1 p2 : Pos} {Q : Mu → D → Prop} {k : Kt}
/-- a new list, as the asker wants it: fixed, or to be changed -/
def NewL (μ : Mu) (ds : List D) (Q : Mu → D → Prop) : Prop := Q μ (.lst ds) ∨ ∀ p, μ p = none → Q (updM μ p (.lst ds)) (.ref p)
theorem NewL.mono {ds : List D} {Q' : Mu → D → Prop} (h : NewL μ ds Q) (f : ∀ μ' d, Q μ' d → Q' μ' d) : NewL μ ds Q' := h.elim (fun h => .inl (f _ _ h)) fun h => .inr fun p hp => f _ _ (h p hp)
theorem we_listN (B : Bl X "list") (h : WE X e Γ μ fun μ1 x => SeqQ μ1 x fun ds => NewL μ1 ds Q)
    (he : starEach [e] X.env = (false, eval e X.env) :: starEach [] X.env := by rfl) (hpl : (backTo pos (starEach [] X.env)).any (·.1) = false := by rfl) : WE X (.Call (.Name "list" p0) [e] [] pos) Γ μ Q := by
  refine we_t1 call_list_of B (by decide +kernel) ?_ (he := he) (hpl := hpl)
  refine h.mono fun μ1 d q1 => ?_
  intro Z μ0 H0 H v g i
  obtain ⟨ds, sq, q⟩ := q1
  obtain ⟨p, vs, rfl, s, t⟩ := sq.at g.ok i
  refine ⟨p, vs, rfl, s, fun l hl => ?_⟩
  rcases q with q | q
  · exact ⟨μ1, _, g.trans (Go.frz g.ok hl _), Is.newL g.ok hl t, q⟩
  · exact ⟨_, _, g.trans (Go.put g.ok (.lst ds) (.lst vs) (.inl hl) fun m => ⟨_, upd_same, m t⟩), .ref l, q l (g.ok.fresh hl).1⟩
theorem ws_faug {f : Str} {op : Operator} {C : Int → Int → Prop} {g : Int → Int → Int} (ho : InOp X.toCx op fun x y H Q => ∃ i j, x = .int i ∧ y = .int j ∧ C i j ∧ Q (.int (g i j)) H)
    (h : WE X o Γ μ fun μ1 x => ∃ p C0 gs i m, x = .ref p ∧ μ1 p = some (.ins C0 gs) ∧ Cls X.K C0 ∧ NoAttr X.K C0 f ∧ ixS f (gs.map (·.1)) = some i ∧ (gs.map (·.2))[i]? = some (.int m) ∧ WE X e Γ μ1 fun μ2 y => ∃ j gs' i' gs2, y = .int j ∧ C m j ∧ μ2 p = some (.ins C0 gs') ∧ gs'.length < 1000 ∧ ixS f (gs'.map (·.1)) = some i' ∧ gs2.map (·.1) = gs'.map (·.1) ∧ gs2.map (·.2) = (gs'.map (·.2)).set i' (.int (g m j)) ∧ k.nx Γ (updM μ2 p (.ins C0 gs2))) : WS X (.AugAssign (.Attribute o f p2) op e pos) Γ μ k := fun Z σ H en ok tk => by
  refine toSS (ps_fldaug pe_S pe_S ho) ?_
  refine h.use (Go.refl ok) en tk fun v H1 μ1 d g1 _ en1 i1 q1 => ?_
  obtain ⟨p, C0, gs, i, m, rfl, hm, hc, hn, h1, h2, q1⟩ := q1
  cases isRef i1
  obtain ⟨dx, fs, hH, hk, t⟩ := g1.ok.at_ _ _ hm
  obtain ⟨v, h3, iv⟩ := t.get h2
  rw [isInt iv] at h3
  refine ⟨p, C0, dx, fs, .int m, rfl, hH, hc, hn, look_some (by rw [hk]; exact h1) h3, ?_⟩
  refine q1.use g1 en1 tk fun w H2 μ2 d2 g2 g2' en2 i2 q2 => ?_
  obtain ⟨j, gs', i', gs2, rfl, hcc, m', hl, e1, e2, e3, q⟩ := q2
  obtain ⟨dx', fs', hH', hk', t'⟩ := g2.ok.at_ _ _ m'
  rw [isInt i2]
  refine ⟨m, j, rfl, rfl, hcc, ?_⟩
  have hlen : fs'.length = gs'.length := by
    have := congrArg List.length hk'
    simpa using this
  refine ⟨dx', fs', hH', by rw [hlen]; exact hl, ?_⟩
  have g3 := Go.put g2.ok (.ins C0 gs2) (.ins C0 dx' (putF f (.int (g m j)) fs')) (.inr ⟨_, m'⟩) fun mm => ⟨dx', _, upd_same, ?_, ?_⟩
  · exact ⟨Γ, _, g2.trans g3, en2.mono g3.fz, q⟩
  · rw [(putF_old (by rw [hk']; exact e1)).1, hk', e2]
  · rw [(putF_old (by rw [hk']; exact e1)).2, e3]
    exact mm (t'.set (.int _) i')
theorem in_addI {X : Cx} : InOp X .Add fun x y H Q => ∃ i j, x = .int i ∧ y = .int j ∧ True ∧ Q (.int (i + j)) H := fun pins s σ H x y u v Q I rx ry ⟨i, j, e1, e2, _, q⟩ => in_add pins s σ H x y u v Q I rx ry ⟨i, j, e1, e2, q⟩
def OrQ (μ : Mu) (x : D) (A B : Prop) : Prop := (x = .non ∧ B) ∨ ∃ ds, (x = .lst ds ∨ x = .tup ds ∨ ∃ p, x = .ref p ∧ μ p = some (.lst ds)) ∧ ((ds ≠ [] ∧ A) ∨ (ds = [] ∧ B))
theorem we_orL (h : WE X a Γ μ fun μ1 x => OrQ μ1 x (Q μ1 x) (WE X b Γ μ1 Q)) : WE X (.BoolOp .Or [a, b] pos) Γ μ Q := fun Z σ H en ok tk => by
  refine toS (pe_orT pe_S (pe_one pe_S)) ?_
  refine h.use (Go.refl ok) en tk fun v H1 μ1 d g1 _ en1 i1 q1 => ?_
  rcases q1 with ⟨rfl, q⟩ | ⟨ds, hd, q⟩
  · rw [isNon i1]
    refine ⟨false, rfl, ?_⟩
    exact q.use g1 en1 tk fun w H2 μ2 d2 g2 _ en2 i2 q2 => ⟨μ2, d2, g2, i2, q2⟩
  · obtain ⟨p, vs, rfl, s, t⟩ := Seq.at (hd : Seq μ1 d ds) g1.ok i1
    have he : vs.isEmpty = ds.isEmpty := by cases t <;> rfl
    have ht : TruV X.K (.ref p) H1 (!ds.isEmpty) := by
      rcases s with s | s
      · exact .inl ⟨vs, s, by rw [he]⟩
      · exact .inr (.inl ⟨vs, s, by rw [he]⟩)
    refine ⟨_, ht, ?_⟩
    rcases q with ⟨hn, q⟩ | ⟨rfl, q⟩
    · have : ds.isEmpty = false := by cases ds with
        | nil => exact absurd rfl hn
        | cons => rfl
      rw [this]
      exact ⟨μ1, d, g1, i1, q⟩
    · exact q.use g1 en1 tk fun w H2 μ2 d2 g2 _ en2 i2 q2 => ⟨μ2, d2, g2, i2, q2⟩
def keyDs (kds : List (Key × D)) : List D := kds.map fun kv => match kv.1 with
  | .inl i => .int i
  | .inr x => .str x
theorem keyDs_is {K : PySem.W.Frag} {A : Addr → Prop} {H : Hp} {kvs : List (Key × V)} {kds : List (Key × D)} (h : kvs.map (·.1) = kds.map (·.1)) : IsA K A H (kvs.map fun kv => kV kv.1) (keyDs kds) := by
  have e : (kvs.map fun kv => kV kv.1) = (kds.map (·.1)).map kV := by rw [← h, List.map_map]; rfl
  rw [e]
  unfold keyDs
  clear e h
  induction kds with
  | nil => exact .nil
  | cons p r ih =>
    refine .cons ?_ ih
    show Is K A H (kV p.1) (match p.1 with | .inl i => .int i | .inr x => .str x)
    cases p.1 with
    | inl i => exact .int i
    | inr x => exact .str x
/-- list(x): of a list, a tuple, a dict -/
def ListQ (μ : Mu) (x : D) (R : List D → Prop) : Prop := SeqQ μ x R ∨ ∃ p kds, x = .ref p ∧ μ p = some (.dK kds) ∧ R (keyDs kds)
theorem CallR.or {X : Cx} {f : Value} {r r' : List V → Hp → VK → Prop} (h : CallR X f r) (h' : CallR X f r') : CallR X f fun xs H Q => r xs H Q ∨ r' xs H Q := fun pins s σ H xs us Q I rx q => q.elim (h pins s σ H xs us Q I rx) (h' pins s σ H xs us Q I rx)
theorem we_listA (hc : X.calm = true) (B : Bl X "list") (h : WE X e Γ μ fun μ1 x => ListQ μ1 x fun ds => NewL μ1 ds Q)
    (he : starEach [e] X.env = (false, eval e X.env) :: starEach [] X.env := by rfl) (hpl : (backTo pos (starEach [] X.env)).any (·.1) = false := by rfl) : WE X (.Call (.Name "list" p0) [e] [] pos) Γ μ Q := by
  refine we_t1 (CallR.or call_list_of (call_list_dK hc)) B (by decide +kernel) ?_ (he := he) (hpl := hpl)
  refine h.mono fun μ1 d q1 => ?_
  intro Z μ0 H0 H v g i
  have fin : ∀ {l : Addr} {vs : List V} {ds : List D}, IsA X.K (Av μ1 Z) H vs ds → H l = none → NewL μ1 ds Q → PostE X.K Z μ0 H0 Q (.ref l) (upd H l (.lst vs)) := fun {l vs ds} t hl q => by
    rcases q with q | q
    · exact ⟨μ1, _, g.trans (Go.frz g.ok hl _), Is.newL g.ok hl t, q⟩
    · exact ⟨_, _, g.trans (Go.put g.ok (.lst ds) (.lst vs) (.inl hl) fun m => ⟨_, upd_same, m t⟩), .ref l, q l (g.ok.fresh hl).1⟩
  rcases q1 with ⟨ds, sq, q⟩ | ⟨p, kds, rfl, hm, q⟩
  · obtain ⟨p, vs, rfl, s, t⟩ := sq.at g.ok i
    exact .inl ⟨p, vs, rfl, s, fun l hl => fin t hl q⟩
  · cases isRef i
    obtain ⟨kvs, hH, rel⟩ := dk_wr hm g.ok
    exact .inr ⟨p, kvs, rfl, hH, fun l hl => fin (keyDs_is rel.keys) hl q⟩
/-- len(x): of a list, a tuple, a dict, a text -/
def LenQ (μ : Mu) (x : D) (R : Int → Prop) : Prop := (SeqQ μ x fun ds => R (ds.length : Int)) ∨ (∃ p kds, x = .ref p ∧ DkAt μ p kds ∧ R (kds.length : Int)) ∨ ∃ z : Str, x = .str z ∧ z.length ≤ sizeLine ∧ R (z.length : Int)
theorem call_len_dk {X : Cx} : CallR X (.builtin "len") fun xs H Q => ∃ p kvs, xs = [.ref p] ∧ Rd H p (.dK kvs) ∧ Q (.int (kvs.length : Int)) H := by
  intro pins s σ H xs us Q I r h
  obtain ⟨p, kvs, e, hk, q⟩ := h
  subst e
  obtain ⟨u, eu, rx⟩ := vals1 r
  subst eu
  obtain rfl : u = Value.ref p := rx
  exact d_len I hk fun t s' I' => ⟨.int (kvs.length : Int), H, I', ⟨t, rfl⟩, q⟩
theorem we_lenA (B : Bl X "len") (h : WE X e Γ μ fun μ1 x => LenQ μ1 x fun n => Q μ1 (.int n))
    (he : starEach [e] X.env = (false, eval e X.env) :: starEach [] X.env := by rfl) (hpl : (backTo pos (starEach [] X.env)).any (·.1) = false := by rfl) : WE X (.Call (.Name "len" p0) [e] [] pos) Γ μ Q := by
  refine we_b1 (CallR.or call_len_seq (CallR.or call_len_dk call_len_str)) B PySem.boot_len ?_ (he := he) (hpl := hpl)
  refine h.mono fun μ1 d q1 => ?_
  intro Z μ0 H0 H v g i
  rcases q1 with ⟨ds, sq, q⟩ | ⟨p, kds, rfl, hm, q⟩ | ⟨z, rfl, hl, q⟩
  · obtain ⟨p, vs, rfl, s, t⟩ := sq.at g.ok i
    exact .inl ⟨p, vs, rfl, s, μ1, _, g, by rw [t.length]; exact .int _, q⟩
  · cases isRef i
    obtain ⟨kvs, r, rel⟩ := dk_at hm g.ok
    exact .inr (.inl ⟨p, kvs, rfl, r, μ1, _, g, by rw [rel.len]; exact .int _, q⟩)
  · rw [isStr i]
    exact .inr (.inr ⟨z, rfl, hl, μ1, _, g, .int _, q⟩)
/-- {}, its keys ints and texts | and None -/
theorem we_dnew (q : ∀ p, μ p = none → Q (updM μ p (.dK [])) (.ref p)) : WE X (.Dict [] [] pos) Γ μ Q := fun Z σ H en ok tk => by
  refine toS pe_dnewK ?_
  intro p hp
  exact ⟨_, _, Go.putD ok (.inl hp) (.nil : KD X.K (Av μ Z) H [] []), .ref p, q p (ok.fresh hp).1⟩
theorem we_dnewT (q : ∀ p, μ p = none → Q (updM μ p (.dT [])) (.ref p)) : WE X (.Dict [] [] pos) Γ μ Q := fun Z σ H en ok tk => by
  refine toS pe_dnewT ?_
  intro p hp
  exact ⟨_, _, Go.put ok (.dT []) (.dT []) (.inl hp) fun m => ⟨[], upd_same, rfl, m .nil⟩, .ref p, q p (ok.fresh hp).1⟩
theorem d_get1N {X : Cx} {pins : List (Addr × Obj)} {σ : L2.St} {H : Hp} {s : Shared} {a : Addr} {kvs : List (Key × V)} {A : Around} {E Q : Value → Shared → Prop} (I : Inv X pins σ H s) (e : Rd H a (.dK kvs)) (h : ∀ s', Inv X pins σ H s' → Q .none s') :
    wpAny (model X.prog X.w) A (call (.builtin "dict.get") [.ref a, .none]) Q E s := by
  obtain ⟨z, hd, vs, rel, dd⟩ := dk_rd I.hok e
  obtain ⟨f, hm, hf⟩ := none_map dd
  refine call_meetsIn PySem.F.slot_dict_get dd.typeIs PySem.F.entry_dict_get (PySem.F.args_dict_get_2 _ _) (meets_dict_get (noneKind X.prog X.w) a (show (noneKind X.prog X.w).is none .none = true from rfl) hd) ⟨_, hm, ?_⟩
  rw [hf]
  exact h _ (I.tok _)
theorem d_get2N {X : Cx} {pins : List (Addr × Obj)} {σ : L2.St} {H : Hp} {s : Shared} {a : Addr} {kvs : List (Key × V)} {A : Around} {E Q : Value → Shared → Prop} {r : Value} (I : Inv X pins σ H s) (e : Rd H a (.dK kvs)) (h : ∀ s', Inv X pins σ H s' → Q r s') :
    wpAny (model X.prog X.w) A (call (.builtin "dict.get") [.ref a, .none, r]) Q E s := by
  obtain ⟨z, hd, vs, rel, dd⟩ := dk_rd I.hok e
  obtain ⟨f, hm, hf⟩ := none_map dd
  refine call_meetsIn PySem.F.slot_dict_get dd.typeIs PySem.F.entry_dict_get (PySem.F.args_dict_get_3 _ _ _) (meets_dict_get_default (noneKind X.prog X.w) a (show (noneKind X.prog X.w).is none .none = true from rfl) hd r) ⟨_, hm, ?_⟩
  rw [hf]
  exact h _ (I.tok _)
def tGet1 (td ty : TE) : TE := fun σ H Q => td σ H fun x H1 => ∃ a, x = .ref a ∧ IsD H1 a ∧ ty σ H1 fun y H2 => (∃ o, DGet H2 a y o ∧ Q (o.getD .non) H2) ∨ ∃ kvs, y = .non ∧ Rd H2 a (.dK kvs) ∧ Q .non H2
def tGet2 (td ty tx : TE) : TE := fun σ H Q => td σ H fun x H1 => ∃ a, x = .ref a ∧ IsD H1 a ∧ ty σ H1 fun y H2 => tx σ H2 fun z H3 => (∃ o, DGet H3 a y o ∧ Q (o.getD z) H3) ∨ ∃ kvs, y = .non ∧ Rd H3 a (.dK kvs) ∧ Q z H3
theorem pe_get1 {X : Cx} {o e : Expr} {apos cpos : Pos} {td ty : TE} (hu : X.A.units + 1 < cLine) (ho : PE X o td) (he : PE X e ty) (m : M1 X o "get" apos e cpos) : PE X (.Call (.Attribute o "get" apos) [e] [] cpos) (tGet1 td ty) := by
  refine ⟨fun pins s σ H Q I h => ?_⟩
  refine wpAny_Call_method m.base m.few m.line PySem.F.plainAttrs_dict PySem.F.slot_dict_get PySem.F.type_dict_get (thn (ho.run pins s σ H _ I h) fun u s1 ⟨x, H1, I1, rx, a, ex, d, q1⟩ => ?_)
  subst ex
  obtain rfl : u = Value.ref a := rx
  obtain ⟨t1, t2, _⟩ := isD_at I1 d
  refine ⟨t1, t2, ?_⟩
  rw [m.trees]
  refine Calls.callWith_builtin rfl (Calls.evalArgs_plain (Calls.spliced_cons (thn (he.run pins s1 σ H1 _ I1 q1) fun iv s2 ⟨y, H2, I2, ry, q2⟩ => Calls.spliced_nil ?_)))
  rcases q2 with ⟨ov, g, q2⟩ | ⟨kvs, rfl, g, q2⟩
  · exact d_get1 hu I2 g ry fun w' s3 I3 rw' => ⟨_, H2, I3, rw', q2⟩
  · obtain rfl : iv = Value.none := ry
    exact d_get1N I2 g fun s3 I3 => ⟨.non, H2, I3, rfl, q2⟩
theorem pe_get2 {X : Cx} {o e f : Expr} {apos cpos : Pos} {td ty tx : TE} (hu : X.A.units + 1 < cLine) (ho : PE X o td) (he : PE X e ty) (hf : PE X f tx) (m : M2 X o "get" apos e f cpos) : PE X (.Call (.Attribute o "get" apos) [e, f] [] cpos) (tGet2 td ty tx) := by
  refine ⟨fun pins s σ H Q I h => ?_⟩
  refine wpAny_Call_method m.base m.few m.line PySem.F.plainAttrs_dict PySem.F.slot_dict_get PySem.F.type_dict_get (thn (ho.run pins s σ H _ I h) fun u s1 ⟨x, H1, I1, rx, a, ex, d, q1⟩ => ?_)
  subst ex
  obtain rfl : u = Value.ref a := rx
  obtain ⟨t1, t2, _⟩ := isD_at I1 d
  refine ⟨t1, t2, ?_⟩
  rw [m.trees]
  refine Calls.callWith_builtin rfl (Calls.evalArgs_plain (Calls.spliced_cons (thn (he.run pins s1 σ H1 _ I1 q1) fun iv s2 ⟨y, H2, I2, ry, q2⟩ =>
    Calls.spliced_cons (thn (hf.run pins s2 σ H2 _ I2 q2) fun fv s3 ⟨z, H3, I3, rz, q3⟩ => Calls.spliced_nil ?_))))
  rcases q3 with ⟨ov, g, q3⟩ | ⟨kvs, rfl, g, q3⟩
  · exact d_get2 hu I3 g ry rz fun w' s4 I4 rw' => ⟨_, H3, I4, rw', q3⟩
  · obtain rfl : iv = Value.none := ry
    exact d_get2N I3 g fun s4 I4 => ⟨z, H3, I4, rz, q3⟩
/-- what d holds at y (None: nothing) -/
def GetQ (μ : Mu) (p : Addr) (y : D) (R : Option D → Prop) : Prop := ∃ kds, DkAt μ p kds ∧ ((∃ k, keyD y = some k ∧ R (valG kds k)) ∨ (y = .non ∧ R none))
theorem get_k {p : Addr} {kds : List (Key × D)} {k : Key} {y : D} {R : Option D → Prop} (m : μ p = some (.dK kds)) (e : keyD y = some k) (r : R (valG kds k)) : GetQ μ p y R := ⟨kds, .inl m, .inl ⟨k, e, r⟩⟩
theorem get_n {p : Addr} {kds : List (Key × D)} {R : Option D → Prop} (m : μ p = some (.dK kds)) (r : R none) : GetQ μ p .non R := ⟨kds, .inl m, .inr ⟨rfl, r⟩⟩
/-- a dict's address -/
def DkQ (μ : Mu) (x : D) (R : Addr → Prop) : Prop := ∃ p, x = .ref p ∧ (∃ kds, DkAt μ p kds) ∧ R p
theorem dk_q {p : Addr} {kds : List (Key × D)} {R : Addr → Prop} (m : μ p = some (.dK kds)) (r : R p) : DkQ μ (.ref p) R := ⟨p, rfl, ⟨kds, .inl m⟩, r⟩
theorem get_read {K : PySem.W.Frag} {Z : Addr → Prop} {H : Hp} {p : Addr} {y : D} {w : V} {R : Option D → Prop} (ok : Ok K μ Z H) (i : Is K (Av μ Z) H w y) (h : GetQ μ p y R) :
    (∃ ov o, DGet H p w ov ∧ R o ∧ ((∃ v d, ov = some v ∧ o = some d ∧ Is K (Av μ Z) H v d) ∨ (ov = none ∧ o = none))) ∨ ∃ kvs, w = .non ∧ Rd H p (.dK kvs) ∧ R none := by
  obtain ⟨kds, hd, h⟩ := h
  obtain ⟨kvs, r, rel⟩ := dk_at hd ok
  rcases h with ⟨k, hk, q⟩ | ⟨rfl, q⟩
  · refine .inl ⟨valV kvs k, valG kds k, .inl ⟨kvs, k, r, key_is i hk, rfl⟩, q, ?_⟩
    rcases rel.val k with ⟨v, d, e1, e2, iv⟩ | ⟨e1, e2⟩
    · exact .inl ⟨v, d, e1, e2, iv⟩
    · exact .inr ⟨e1, e2⟩
  · exact .inr ⟨kvs, isNon i, r, q⟩
theorem isd_of {K : PySem.W.Frag} {Z : Addr → Prop} {H : Hp} {p : Addr} {kds : List (Key × D)} (ok : Ok K μ Z H) (h : DkAt μ p kds) : IsD H p := let ⟨kvs, r, _⟩ := dk_at h ok; .inl ⟨kvs, r⟩
theorem we_get1 {ap cp : Pos} (hu : X.A.units + 64 < cLine) (h : WE X o Γ μ fun μ1 x => DkQ μ1 x fun p => WE X e Γ μ1 fun μ2 y => GetQ μ2 p y fun r => Q μ2 (r.getD .non)) (m : M1 X o "get" ap e cp := by exact ⟨rfl, rfl, rfl, rfl⟩) : WE X (.Call (.Attribute o "get" ap) [e] [] cp) Γ μ Q := fun Z σ H en ok tk => by
  refine toS (pe_get1 (by omega) pe_S pe_S m) ?_
  refine h.use (Go.refl ok) en tk fun v H1 μ1 d g1 _ en1 i1 q1 => ?_
  obtain ⟨p, rfl, ⟨kds, hd⟩, q1⟩ := q1
  cases isRef i1
  refine ⟨p, rfl, isd_of g1.ok hd, ?_⟩
  refine q1.use g1 en1 tk fun w H2 μ2 d2 g2 g2' en2 i2 q2 => ?_
  rcases get_read g2.ok i2 q2 with ⟨ov, o, g, q, hv⟩ | ⟨kvs, rfl, r, q⟩
  · refine .inl ⟨ov, g, μ2, _, g2, ?_, q⟩
    rcases hv with ⟨v, d, rfl, rfl, iv⟩ | ⟨rfl, rfl⟩
    · exact iv
    · exact .non
  · exact .inr ⟨kvs, rfl, r, μ2, _, g2, .non, q⟩
theorem we_get2 {ap cp : Pos} (hu : X.A.units + 64 < cLine) (h : WE X o Γ μ fun μ1 x => DkQ μ1 x fun p => WE X e Γ μ1 fun μ2 y => WE X f Γ μ2 fun μ3 z => GetQ μ3 p y fun r => Q μ3 (r.getD z)) (m : M2 X o "get" ap e f cp := by exact ⟨rfl, rfl, rfl, rfl⟩) : WE X (.Call (.Attribute o "get" ap) [e, f] [] cp) Γ μ Q := fun Z σ H en ok tk => by
  refine toS (pe_get2 (by omega) pe_S pe_S pe_S m) ?_
  refine h.use (Go.refl ok) en tk fun v H1 μ1 d g1 _ en1 i1 q1 => ?_
  obtain ⟨p, rfl, ⟨kds, hd⟩, q1⟩ := q1
  cases isRef i1
  refine ⟨p, rfl, isd_of g1.ok hd, ?_⟩
  refine q1.use g1 en1 tk fun w H2 μ2 d2 g2 g2' en2 i2 q2 => ?_
  refine q2.use g2 en2 tk fun u H3 μ3 d3 g3 g3' en3 i3 q3 => ?_
  rcases get_read g3.ok (i2.mono g3'.fz) q3 with ⟨ov, o, g, q, hv⟩ | ⟨kvs, rfl, r, q⟩
  · refine .inl ⟨ov, g, μ3, _, g3, ?_, q⟩
    rcases hv with ⟨v, d, rfl, rfl, iv⟩ | ⟨rfl, rfl⟩
    · exact iv
    · exact i3
  · exact .inr ⟨kvs, rfl, r, μ3, _, g3, i3, q⟩
/-- d.pop(k, x) -/
def PopQ (μ : Mu) (p : Addr) (y : D) (R : Option D → Mu → Prop) : Prop := ∃ kds k, μ p = some (.dK kds) ∧ keyD y = some k ∧ R (valG kds k) (updM μ p (.dK (dropG kds k)))
theorem pop_k {p : Addr} {kds : List (Key × D)} {k : Key} {y : D} {R : Option D → Mu → Prop} (m : μ p = some (.dK kds)) (e : keyD y = some k) (r : R (valG kds k) (updM μ p (.dK (dropG kds k)))) : PopQ μ p y R := ⟨kds, k, m, e, r⟩
theorem we_pop2 {ap cp : Pos} (h : WE X o Γ μ fun μ1 x => DkQ μ1 x fun p => WE X e Γ μ1 fun μ2 y => WE X f Γ μ2 fun μ3 z => PopQ μ3 p y fun r μ4 => Q μ4 (r.getD z)) (m : M2 X o "pop" ap e f cp := by exact ⟨rfl, rfl, rfl, rfl⟩) : WE X (.Call (.Attribute o "pop" ap) [e, f] [] cp) Γ μ Q := fun Z σ H en ok tk => by
  refine toS (pe_dpop2 pe_S pe_S pe_S m) ?_
  refine h.use (Go.refl ok) en tk fun v H1 μ1 d g1 _ en1 i1 q1 => ?_
  obtain ⟨p, rfl, ⟨kds, hd⟩, q1⟩ := q1
  cases isRef i1
  refine ⟨p, rfl, isd_of g1.ok hd, ?_⟩
  refine q1.use g1 en1 tk fun w H2 μ2 d2 g2 g2' en2 i2 q2 => ?_
  refine q2.use g2 en2 tk fun u H3 μ3 d3 g3 g3' en3 i3 q3 => ?_
  obtain ⟨kds, k, hm, hk, q⟩ := q3
  obtain ⟨kvs, hH, rel⟩ := dk_wr hm g3.ok
  have g4 := Go.putD g3.ok (.inr ⟨_, hm⟩) (rel.drop k)
  refine ⟨kvs, k, hH, key_is (i2.mono g3'.fz) hk, fun v hv => ?_, fun hv => ?_⟩
  · rcases rel.val k with ⟨v', d, e1, e2, iv⟩ | ⟨e1, _⟩
    · rw [show valV kvs k = some v' from e1] at hv; cases hv
      rw [e2] at q
      exact ⟨_, _, g3.trans g4, iv.mono g4.fz, q⟩
    · rw [show valV kvs k = none from e1] at hv; cases hv
  · rcases rel.val k with ⟨v', d, e1, _, _⟩ | ⟨_, e2⟩
    · rw [show valV kvs k = some v' from e1] at hv; cases hv
    · rw [e2, dropG_none e2] at q
      have hu : updM μ3 p (.dK kds) = μ3 := by
        funext b
        by_cases hb : b = p
        · subst hb; rw [updM_same, hm]
        · rw [updM_ne hb]
      rw [hu] at q
      exact ⟨_, _, g3, i3, q⟩
/-- d.clear() -/
def ClrQ (μ : Mu) (x : D) (R : Mu → Prop) : Prop := ∃ p kds, x = .ref p ∧ μ p = some (.dK kds) ∧ R (updM μ p (.dK []))
theorem clr_d {p : Addr} {kds : List (Key × D)} {R : Mu → Prop} (m : μ p = some (.dK kds)) (q : R (updM μ p (.dK []))) : ClrQ μ (.ref p) R := ⟨p, kds, rfl, m, q⟩
theorem we_dclear {ap : Pos} (h : WE X o Γ μ fun μ1 x => ClrQ μ1 x fun μ2 => Q μ2 .non)
    (hbase : attributeBase o "clear" X.env (eval o X.env) = eval o X.env := by rfl) (hline : (ap.endLine == pos.line) = true := by rfl) : WE X (.Call (.Attribute o "clear" ap) [] [] pos) Γ μ Q := fun Z σ H en ok tk => by
  refine toS (pe_dclear pe_S hbase hline) ?_
  refine h.use (Go.refl ok) en tk fun v H1 μ1 d g1 _ en1 i1 q1 => ?_
  obtain ⟨p, kds, rfl, hm, q⟩ := q1
  cases isRef i1
  obtain ⟨kvs, hH, rel⟩ := dk_wr hm g1.ok
  exact ⟨.inr (.inr (.inl ⟨rfl, .inl ⟨kvs, hH⟩⟩)), p, kvs, rfl, rfl, hH, _, _, g1.trans (Go.putD g1.ok (.inr ⟨_, hm⟩) (.nil : KD X.K (Av μ1 Z) H1 [] [])), .non, q⟩
theorem lk_in {K : PySem.W.Frag} {Z : Addr → Prop} {H : Hp} {p : Addr} {kvs : List (Key × V)} {kds : List (Key × D)} (ok : Ok K μ Z H) (m : μ p = some (.dK kds)) (rel : KD K (Av μ Z) H kvs kds) (ob : Obj) : Go K Z μ H (updM μ p (.lkK ob kvs kds)) (upd H p (.frz ob (.dK kvs))) :=
  Go.put ok _ _ (.inr ⟨_, m⟩) fun mm => ⟨upd_same, rel.keys, mm rel.is⟩
theorem lk_out {K : PySem.W.Frag} {Z : Addr → Prop} {H : Hp} {p : Addr} {ob : Obj} {kvs : List (Key × V)} {kds : List (Key × D)} (ok : Ok K μ Z H) (m : μ p = some (.lkK ob kvs kds)) : H p = some (.frz ob (.dK kvs)) ∧ Go K Z μ H (updM μ p (.dK kds)) (upd H p (.dK kvs)) := by
  obtain ⟨h1, h2, h3⟩ := ok.at_ _ _ m
  exact ⟨h1, Go.put ok _ _ (.inr ⟨_, m⟩) fun mm => ⟨kvs, upd_same, h2, mm h3⟩⟩
/-- behind the lock -/
def lkK (k : Kt) (p : Addr) (o : MO) (kds : List (Key × D)) : Kt := ⟨fun Γ' μ' => μ' p = some o ∧ k.nx Γ' (updM μ' p (.dK kds)), fun μ' d => μ' p = some o ∧ k.rt (updM μ' p (.dK kds)) d, fun Γ' μ' => μ' p = some o ∧ k.bk Γ' (updM μ' p (.dK kds)), fun Γ' μ' => μ' p = some o ∧ k.ct Γ' (updM μ' p (.dK kds))⟩
theorem ws_lock {st : Stmt} {p : Addr} {kds : List (Key × D)} (m : μ p = some (.dK kds)) (h : ∀ ob kvs, WS X st Γ (updM μ p (.lkK ob kvs kds)) (lkK k p (.lkK ob kvs kds) kds)) : WS X st Γ μ k := fun Z σ H en ok tk => by
  refine toSS (ps_lock ps_S) ?_
  obtain ⟨kvs, hH, rel⟩ := dk_wr m ok
  refine ⟨p, .dK kvs, hH, True.intro, fun ob => ?_⟩
  have g1 := lk_in ok m rel ob
  refine ((h ob kvs) Z σ _ (en.mono g1.fz) g1.ok (tk.up g1)).mono ⟨fun σ' H' q => ?_, fun v H' q => ?_, fun σ' H' q => ?_, fun σ' H' q => ?_⟩
  · obtain ⟨Γ', μ', g2, en2, hm, q⟩ := q
    obtain ⟨e, g3⟩ := lk_out g2.ok hm
    exact ⟨e, Γ', _, (g1.trans g2).trans g3, en2.mono g3.fz, q⟩
  · obtain ⟨μ', d, g2, i2, hm, q⟩ := q
    obtain ⟨e, g3⟩ := lk_out g2.ok hm
    exact ⟨e, _, d, (g1.trans g2).trans g3, i2.mono g3.fz, q⟩
  · obtain ⟨Γ', μ', g2, en2, hm, q⟩ := q
    obtain ⟨e, g3⟩ := lk_out g2.ok hm
    exact ⟨e, Γ', _, (g1.trans g2).trans g3, en2.mono g3.fz, q⟩
  · obtain ⟨Γ', μ', g2, en2, hm, q⟩ := q
    obtain ⟨e, g3⟩ := lk_out g2.ok hm
    exact ⟨e, Γ', _, (g1.trans g2).trans g3, en2.mono g3.fz, q⟩
theorem we_lock {p : Addr} {kds : List (Key × D)} (m : μ p = some (.dK kds)) (h : ∀ ob kvs, WE X e Γ (updM μ p (.lkK ob kvs kds)) fun μ' d => μ' p = some (.lkK ob kvs kds) ∧ Q (updM μ' p (.dK kds)) d) : WE X e Γ μ Q := fun Z σ H en ok tk => by
  refine toS (pe_lock pe_S) ?_
  obtain ⟨kvs, hH, rel⟩ := dk_wr m ok
  refine ⟨p, .dK kvs, hH, True.intro, fun ob => ?_⟩
  have g1 := lk_in ok m rel ob
  refine ((h ob kvs) Z σ _ (en.mono g1.fz) g1.ok (tk.up g1)).mono fun v H' q => ?_
  obtain ⟨μ', d, g2, i2, hm, q⟩ := q
  obtain ⟨e, g3⟩ := lk_out g2.ok hm
  exact ⟨e, _, d, (g1.trans g2).trans g3, i2.mono g3.fz, q⟩
theorem keyDs_len {kds : List (Key × D)} : (keyDs kds).length = kds.length := by unfold keyDs; rw [List.length_map]
def keyOf : Key → D
  | .inl i => .int i
  | .inr x => .str x
theorem keyOf_is {K : PySem.W.Frag} {A : Addr → Prop} {H : Hp} (k : Key) : Is K A H (kV k) (keyOf k) := by
  cases k with
  | inl i => exact .int i
  | inr x => exact .str x
theorem wi_keys {tg : Expr} {R : Mu → List D → (Mu → Prop) → Prop} (h : WE X e Γ μ fun μ1 x => ∃ p ob kvs kds, x = .ref p ∧ μ1 p = some (.lkK ob kvs kds) ∧ R μ1 (kds.map fun kv => keyOf kv.1) fun μ' => μ' p = some (.lkK ob kvs kds)) : WI X tg e Γ μ R := fun Z σ H en ok tk => by
  refine toI (pi_keys pe_S) ?_
  refine h.use (Go.refl ok) en tk fun v H1 μ1 x g1 _ en1 i1 q1 => ?_
  obtain ⟨p, ob, kvs, kds, rfl, hm, q⟩ := q1
  cases isRef i1
  obtain ⟨hH, _⟩ := lk_out g1.ok hm
  refine ⟨p, ob, rfl, .inl ⟨kvs, hH, μ1, _, _, g1, ?_, q⟩⟩
  intro Z' i μ' H' ok' f st
  obtain ⟨hH', e2, t'⟩ := ok'.at_ _ _ st
  have el : kvs.length = kds.length := by have := congrArg List.length e2; simpa using this
  rw [List.length_map]
  refine ⟨fun hi => ⟨⟨hH', by omega⟩, fun x H2 ⟨e, k, v, hk, ex⟩ => ?_⟩, fun hi => ⟨hH', by omega⟩⟩
  subst e ex
  have e3 : (kds.map (·.1))[i]? = some k := by rw [← e2, List.getElem?_map, hk]; rfl
  rw [List.getElem?_map] at e3
  obtain ⟨pr, e4, e5⟩ := Option.map_eq_some_iff.mp e3
  exact ⟨keyOf k, by rw [List.getElem?_map, e4, ← e5]; rfl, Go.refl ok', keyOf_is k⟩
theorem wi_items {elts : List Expr} {kk : Nat} {tpos ap cp : Pos} {R : Mu → List D → (Mu → Prop) → Prop} (h : WE X e Γ μ fun μ1 x => ∃ p ob kvs kds, x = .ref p ∧ μ1 p = some (.lkK ob kvs kds) ∧ R μ1 (kds.map fun kv => .tup [keyOf kv.1, kv.2]) fun μ' => μ' p = some (.lkK ob kvs kds))
    (hbase : attributeBase e "items" X.env (eval e X.env) = eval e X.env := by rfl) (hline : (ap.endLine == cp.line) = true := by rfl) : WI X (.Tuple elts kk tpos) (.Call (.Attribute e "items" ap) [] [] cp) Γ μ R := fun Z σ H en ok tk => by
  refine toI (pi_items pe_S hbase hline) ?_
  refine h.use (Go.refl ok) en tk fun v H1 μ1 x g1 _ en1 i1 q1 => ?_
  obtain ⟨p, ob, kvs, kds, rfl, hm, q⟩ := q1
  cases isRef i1
  obtain ⟨hH, _⟩ := lk_out g1.ok hm
  refine ⟨p, ob, kvs, rfl, hH, μ1, _, _, g1, ?_, q⟩
  intro Z' i μ' H' ok' f st
  obtain ⟨hH', e2, t'⟩ := ok'.at_ _ _ st
  have rel := kd_of e2 t'
  have el : kvs.length = kds.length := rel.len
  rw [List.length_map]
  refine ⟨fun hi => ⟨⟨hH', by omega⟩, fun x H2 ⟨T, k, v, hk, ex, hT, eH⟩ => ?_⟩, fun hi => ⟨hH', by omega⟩⟩
  subst ex eH
  obtain ⟨d, hd, iv⟩ := t'.get (i := i) (d := (kds[i]'(by omega)).2) (by rw [List.getElem?_map, List.getElem?_eq_getElem (by omega)]; rfl)
  rw [List.getElem?_map, hk] at hd
  cases hd
  have e3 : (kds.map (·.1))[i]? = some k := by rw [← e2, List.getElem?_map, hk]; rfl
  rw [List.getElem?_map, List.getElem?_eq_getElem (by omega)] at e3
  have e5 : (kds[i]'(by omega)).1 = k := Option.some.inj e3
  refine ⟨.tup [keyOf k, (kds[i]'(by omega)).2], by rw [List.getElem?_map, List.getElem?_eq_getElem (by omega)]; show some (D.tup [keyOf (kds[i]'(by omega)).1, _]) = _; rw [e5], Go.frz ok' hT _, Is.newT ok' hT (.cons (keyOf_is k) (.cons iv .nil))⟩
end
end DL

set_option Elab.async false
set_option linter.all false
set_option maxRecDepth 100000
set_option maxHeartbeats 2000000
namespace DL
open PySem PySem.Spec PyProof.Rows L2

theorem for_typ {X : Cz} {Γ : Gm} {μ1 : Mu} {tg : Expr} {body : List Stmt} {k : Kt} {G : Mu → Prop} {α : Type} {xs : List α} {f : α → D} (I : List α → Gm → Mu → Prop) (h0 : I [] Γ μ1) (hG : ∀ pre Γ' μ', I pre Γ' μ' → G μ')
    (hb : ∀ pre x post Γ' μ', xs = pre ++ x :: post → I pre Γ' μ' → WGx X tg (f x) Γ' μ' fun Γ2 μ2 => WB X body Γ2 μ2 ⟨I (pre ++ [x]), k.rt, k.nx, I (pre ++ [x])⟩) (hd : ∀ Γ' μ', I xs Γ' μ' → k.nx Γ' μ') :
    ∃ I : Nat → Gm → Mu → Prop, I 0 Γ μ1 ∧ (∀ i Γ' μ', i ≤ (xs.map f).length → I i Γ' μ' → G μ') ∧
      (∀ i d Γ' μ', (xs.map f)[i]? = some d → I i Γ' μ' → WGx X tg d Γ' μ' fun Γ2 μ2 => WB X body Γ2 μ2 ⟨I (i + 1), k.rt, k.nx, I (i + 1)⟩) ∧ (∀ Γ' μ', I (xs.map f).length Γ' μ' → k.nx Γ' μ') := by
  refine ⟨fun i Γ' μ' => I (xs.take i) Γ' μ', h0, fun i Γ' μ' _ h => hG _ _ _ h, fun i d Γ' μ' hd h => ?_, fun Γ' μ' h => ?_⟩
  · rw [List.getElem?_map] at hd
    obtain ⟨x, hx, rfl⟩ := Option.map_eq_some_iff.mp hd
    have hi : i < xs.length := (List.getElem?_eq_some_iff.mp hx).1
    have e1 : xs = xs.take i ++ x :: xs.drop (i + 1) := by
      have e2 : xs[i] = x := (List.getElem?_eq_some_iff.mp hx).2
      rw [← e2, ← List.drop_eq_getElem_cons hi, List.take_append_drop]
    have e3 : xs.take (i + 1) = xs.take i ++ [x] := by rw [List.take_add_one, hx]; rfl
    dsimp only
    rw [e3]
    exact hb _ _ _ _ _ e1 h
  · rw [List.length_map, List.take_length] at h
    exact hd _ _ h
theorem lc_typ {X : Cz} {Γ : Gm} {μ1 : Mu} {elt tg : Expr} {ifs : List Expr} {scope : Scope} {vs : List Nat} {G : Mu → Prop} {P : List D → Mu → Prop} {α : Type} {xs : List α} {f : α → D} (T : α → Gm) (p : α → Bool) (g : α → D) (hG : G μ1) (hl : xs.length < sizeLine)
    (ht : ∀ X', Blk X scope X' → ∀ x ∈ xs, WG X' tg vs (f x) Γ μ1 fun Γ3 μ3 => Γ3 = T x ∧ μ3 = μ1) (hp : ∀ X', Blk X scope X' → ∀ x ∈ xs, WTs X' ifs (T x) μ1 fun μ3 b => μ3 = μ1 ∧ b = p x)
    (he : ∀ X', Blk X scope X' → ∀ x ∈ xs, p x = true → WE X' elt (T x) μ1 fun μ4 y => μ4 = μ1 ∧ y = g x) (hP : P ((xs.filter p).map g) μ1) : Lc X elt tg ifs scope vs Γ μ1 (xs.map f) G P := by
  refine ⟨fun i acc μ' => μ' = μ1 ∧ acc = ((xs.take i).filter p).map g, ⟨rfl, rfl⟩, fun i acc μ' _ h => by rw [h.1]; exact hG, fun i d acc μ' hd h => ?_, fun acc μ' h => ?_⟩
  · obtain ⟨rfl, rfl⟩ := h
    rw [List.getElem?_map] at hd
    obtain ⟨x, hx, rfl⟩ := Option.map_eq_some_iff.mp hd
    have hm : x ∈ xs := List.mem_of_getElem? hx
    refine ⟨T x, fun X' b => ht X' b x hm, fun X' b Z σ H en ok tkn => ?_⟩
    refine STs.mono (hp X' b x hm Z σ H en ok tkn) fun b H' ⟨μ3, g3, e3, eb⟩ => ⟨μ3, g3, ?_⟩
    subst e3 eb
    have tk : xs.take (i + 1) = xs.take i ++ [x] := by rw [List.take_add_one, hx]; rfl
    cases hb : p x with
    | true =>
      show ∀ X', Blk X scope X' → _
      intro X' b'
      refine (he X' b' x hm hb).mono fun μ4 y h4 => ?_
      obtain ⟨rfl, rfl⟩ := h4
      refine ⟨?_, rfl, ?_⟩
      · refine Nat.lt_of_le_of_lt ?_ hl
        rw [List.length_map]
        exact Nat.le_trans (List.length_filter_le _ _) (by rw [List.length_take]; omega)
      · rw [tk, List.filter_append, List.map_append, List.filter_cons, hb]
        rfl
    | false =>
      refine ⟨rfl, ?_⟩
      rw [tk, List.filter_append, List.filter_cons, hb]
      simp
  · obtain ⟨rfl, rfl⟩ := h
    rw [List.length_map, List.take_length]
    exact hP
/-- .. without tests -/
theorem lc_map {X : Cz} {Γ : Gm} {μ1 : Mu} {elt tg : Expr} {scope : Scope} {vs : List Nat} {G : Mu → Prop} {P : List D → Mu → Prop} {α : Type} {xs : List α} {f : α → D} (T : α → Gm) (g : α → D) (hG : G μ1) (hl : xs.length < sizeLine)
    (ht : ∀ X', Blk X scope X' → ∀ x ∈ xs, WG X' tg vs (f x) Γ μ1 fun Γ3 μ3 => Γ3 = T x ∧ μ3 = μ1)
    (he : ∀ X', Blk X scope X' → ∀ x ∈ xs, WE X' elt (T x) μ1 fun μ4 y => μ4 = μ1 ∧ y = g x) (hP : P (xs.map g) μ1) : Lc X elt tg [] scope vs Γ μ1 (xs.map f) G P :=
  lc_typ T (fun _ => true) g hG hl ht (fun _ _ _ _ => wts_nil ⟨rfl, rfl⟩) (fun X' b x hx _ => he X' b x hx) (by rw [List.filter_eq_self.mpr fun _ _ => rfl]; exact hP)
theorem eqv_l {xs ys : List D} : eqvD (.lst xs) (.lst ys) = PyData.eqvAll (pyDs xs) (pyDs ys) := by
  show PyData.eqv (pyD (.lst xs)) (pyD (.lst ys)) = _
  rw [show pyD (.lst xs) = .list (pyDs xs) by rw [pyD], show pyD (.lst ys) = .list (pyDs ys) by rw [pyD], PyData.eqv]
theorem eqv_t {xs ys : List D} : eqvD (.tup xs) (.tup ys) = PyData.eqvAll (pyDs xs) (pyDs ys) := by
  show PyData.eqv (pyD (.tup xs)) (pyD (.tup ys)) = _
  rw [show pyD (.tup xs) = .tuple (pyDs xs) by rw [pyD], show pyD (.tup ys) = .tuple (pyDs ys) by rw [pyD], PyData.eqv]
def eqvDs (xs ys : List D) : Bool := PyData.eqvAll (pyDs xs) (pyDs ys)
theorem eqvDs_nil : eqvDs [] [] = true := by unfold eqvDs; rw [pyDs, PyData.eqvAll]
theorem eqvDs_nc {y : D} {ys : List D} : eqvDs [] (y :: ys) = false := by unfold eqvDs; rw [pyDs, pyDs, PyData.eqvAll]
theorem eqvDs_cn {y : D} {ys : List D} : eqvDs (y :: ys) [] = false := by unfold eqvDs; rw [pyDs, pyDs, PyData.eqvAll]
theorem eqvDs_cc {x y : D} {xs ys : List D} : eqvDs (x :: xs) (y :: ys) = (eqvD x y && eqvDs xs ys) := by unfold eqvDs eqvD; rw [pyDs, pyDs, PyData.eqvAll]
/-- == of what f makes is equality -/
def EI {α : Type} (f : α → D) : Prop := ∀ a b, eqvD (f a) (f b) = true ↔ a = b
theorem EI.int : EI D.int := fun a b => by
  show PyData.eqv (pyD (.int a)) (pyD (.int b)) = true ↔ _
  rw [pyD, pyD, PyData.eqv]
  simp
theorem EI.str : EI D.str := fun a b => by
  show PyData.eqv (pyD (.str a)) (pyD (.str b)) = true ↔ _
  rw [pyD, pyD, PyData.eqv]
  simp
theorem EI.bl : EI D.bl := fun a b => by
  show PyData.eqv (pyD (.bl a)) (pyD (.bl b)) = true ↔ _
  rw [pyD, pyD, PyData.eqv]
  simp
@[reducible] def optS : Option Str → D
  | none => .non
  | some x => .str x
theorem EI.optS : EI optS := fun a b => by
  cases a <;> cases b
  · show PyData.eqv (pyD .non) (pyD .non) = true ↔ _
    rw [pyD, PyData.eqv]; simp
  · rename_i x
    show PyData.eqv (pyD .non) (pyD (.str x)) = true ↔ _
    rw [pyD, pyD, PyData.eqv]; simp
  · rename_i x
    show PyData.eqv (pyD (.str x)) (pyD .non) = true ↔ _
    rw [pyD, pyD, PyData.eqv]; simp
  · rename_i x y
    have := EI.str x y
    show eqvD (.str x) (.str y) = true ↔ _
    rw [this]; simp
@[reducible] def optI : Option Int → D
  | none => .non
  | some x => .int x
theorem EI.optI : EI optI := fun a b => by
  cases a <;> cases b
  · show PyData.eqv (pyD .non) (pyD .non) = true ↔ _
    rw [pyD, PyData.eqv]; simp
  · rename_i x
    show PyData.eqv (pyD .non) (pyD (.int x)) = true ↔ _
    rw [pyD, pyD, PyData.eqv]; simp
  · rename_i x
    show PyData.eqv (pyD (.int x)) (pyD .non) = true ↔ _
    rw [pyD, pyD, PyData.eqv]; simp
  · rename_i x y
    have := EI.int x y
    show eqvD (.int x) (.int y) = true ↔ _
    rw [this]; simp
theorem EI.all {α : Type} {f : α → D} (h : EI f) : ∀ xs ys : List α, eqvDs (xs.map f) (ys.map f) = true ↔ xs = ys
  | [], [] => by rw [List.map_nil, eqvDs_nil]; simp
  | [], y :: ys => by rw [List.map_nil, List.map_cons, eqvDs_nc]; simp
  | y :: ys, [] => by rw [List.map_nil, List.map_cons, eqvDs_cn]; simp
  | x :: xs, y :: ys => by rw [List.map_cons, List.map_cons, eqvDs_cc, Bool.and_eq_true, h x y, EI.all h xs ys]; simp
theorem EI.lst {α : Type} {f : α → D} (h : EI f) : EI fun xs : List α => .lst (xs.map f) := fun a b => by rw [eqv_l]; exact h.all a b
theorem EI.tup {α : Type} {f : α → D} (h : EI f) : EI fun xs : List α => .tup (xs.map f) := fun a b => by rw [eqv_t]; exact h.all a b
theorem EI.t2 {α β : Type} {f : α → D} {g : β → D} (hf : EI f) (hg : EI g) : EI fun p : α × β => .tup [f p.1, g p.2] := fun a b => by
  obtain ⟨a1, a2⟩ := a
  obtain ⟨b1, b2⟩ := b
  show eqvD (.tup [f a1, g a2]) (.tup [f b1, g b2]) = true ↔ _
  rw [eqv_t]
  show eqvDs [f a1, g a2] [f b1, g b2] = true ↔ _
  rw [eqvDs_cc, eqvDs_cc, eqvDs_nil, Bool.and_true, Bool.and_eq_true, hf, hg]
  simp
theorem EI.t3 {α β γ : Type} {f : α → D} {g : β → D} {k : γ → D} (hf : EI f) (hg : EI g) (hk : EI k) : EI fun p : α × β × γ => .tup [f p.1, g p.2.1, k p.2.2] := fun a b => by
  obtain ⟨a1, a2, a3⟩ := a
  obtain ⟨b1, b2, b3⟩ := b
  show eqvD (.tup [f a1, g a2, k a3]) (.tup [f b1, g b2, k b3]) = true ↔ _
  rw [eqv_t]
  show eqvDs [f a1, g a2, k a3] [f b1, g b2, k b3] = true ↔ _
  rw [eqvDs_cc, eqvDs_cc, eqvDs_cc, eqvDs_nil, Bool.and_true, Bool.and_eq_true, Bool.and_eq_true, hf, hg, hk]
  simp
theorem EI.dec {α : Type} [DecidableEq α] {f : α → D} (h : EI f) (a b : α) : eqvD (f a) (f b) = decide (a = b) := by
  by_cases e : a = b
  · rw [decide_eq_true e]; exact (h a b).mpr e
  · rw [decide_eq_false e]
    cases q : eqvD (f a) (f b) with
    | false => rfl
    | true => exact absurd ((h a b).mp q) e
/-- any equality -/
def EqA (μ : Mu) (x y : D) (R : Bool → Prop) : Prop := EqQ x y R ∨ EqDQ μ x y R
theorem eqa_s {μ : Mu} {x y : D} {c : Bool} {R : Bool → Prop} (e : eqS x y = some c) (r : R c) : EqA μ x y R := .inl ⟨c, e, r⟩
theorem eqa_d {μ : Mu} {x y d e : D} {n m : Nat} {R : Bool → Prop} (hx : Vw μ x d) (hy : Vw μ y e) (h1 : shD n d = true) (h2 : shD m e = true) (hn : n ≤ 64) (hm : m ≤ 64) (r : R (eqvD d e)) : EqA μ x y R := .inr ⟨d, e, n, m, hx, hy, h1, h2, hn, hm, r⟩
section
variable {X : Cz} {Γ Γ' : Gm} {μ μ' : Mu} {a b c e f o : Expr} {es : List Expr} {pos p0 p1 p2 : Pos} {Q : Mu → D → Prop} {k : Kt}
theorem OpR.or {X : Cx} {f : Value → Value → Sem Value} {r r' : R2} (h : OpR X f r) (h' : OpR X f r') : OpR X f fun x y H Q => r x y H Q ∨ r' x y H Q := fun pins s σ H x y v u Q I rx ry q => q.elim (h pins s σ H x y v u Q I rx ry) (h' pins s σ H x y v u Q I rx ry)
theorem op_eqA {X : Cz} (hu : X.A.units + 64 < cLine) : OpR X (compareOp .Eq) fun x y H Q => (scal x y = true ∧ Q (.bl (decide (x = y))) H) ∨ (∃ d e, Dp X.K H x d ∧ Dp X.K H y e ∧ SeqAt.shaped d = true ∧ SeqAt.shaped e = true ∧ Q (.bl (PyData.eqv d e)) H) := OpR.or op_eq (op_eqD hu)
theorem op_neA {X : Cz} (hu : X.A.units + 64 < cLine) : OpR X (compareOp .NotEq) fun x y H Q => (scal x y = true ∧ Q (.bl !(decide (x = y))) H) ∨ (∃ d e, Dp X.K H x d ∧ Dp X.K H y e ∧ SeqAt.shaped d = true ∧ SeqAt.shaped e = true ∧ Q (.bl !(PyData.eqv d e)) H) := OpR.or op_ne (op_neD hu)
theorem eqa_read {K : PySem.W.Frag} {Z : Addr → Prop} {H : Hp} {v w : V} {x y : D} {R : Bool → Prop} {Q : Bool → Prop} (ok : Ok K μ Z H) (iv : Is K (Av μ Z) H v x) (iw : Is K (Av μ Z) H w y) (h : EqA μ x y R) (q : ∀ c, R c → Q c) :
    (scal v w = true ∧ Q (decide (v = w))) ∨ ∃ d e, Dp K H v d ∧ Dp K H w e ∧ SeqAt.shaped d = true ∧ SeqAt.shaped e = true ∧ Q (PyData.eqv d e) := by
  rcases h with ⟨c, hc, r⟩ | ⟨d, e, n, m, h1, h2, s1, s2, hn, hm, r⟩
  · obtain ⟨h1, h2⟩ := eqS_ok iv iw hc
    exact .inl ⟨h1, by rw [h2]; exact q _ r⟩
  · exact .inr ⟨_, _, Vw.dp ok h1 s1 iv, Vw.dp ok h2 s2 iw, shaped_of s1 hn, shaped_of s2 hm, q _ r⟩
theorem we_eqA (hu : X.A.units + 64 < cLine) (h : WE X a Γ μ fun μ1 x => WE X b Γ μ1 fun μ2 y => EqA μ2 x y fun c => Q μ2 (.bl c)) : WE X (.Compare a [.Eq] [b] pos) Γ μ Q := fun Z σ H en ok tk => by
  refine toS (pe_cmpR (op_eqA hu) pe_S pe_S (nomark _)) ?_
  refine h.use (Go.refl ok) en tk fun v H1 μ1 d g1 _ en1 i1 q1 => ?_
  refine q1.use g1 en1 tk fun w H2 μ2 d2 g2 g2' en2 i2 q2 => ?_
  exact eqa_read (Q := fun c => PostE X.K Z μ H Q (.bl c) H2) g2.ok (i1.mono g2'.fz) i2 q2 fun c r => ⟨μ2, _, g2, .bl _, r⟩
theorem we_neA (hu : X.A.units + 64 < cLine) (h : WE X a Γ μ fun μ1 x => WE X b Γ μ1 fun μ2 y => EqA μ2 x y fun c => Q μ2 (.bl !c)) : WE X (.Compare a [.NotEq] [b] pos) Γ μ Q := fun Z σ H en ok tk => by
  refine toS (pe_cmpR (op_neA hu) pe_S pe_S (nomark _)) ?_
  refine h.use (Go.refl ok) en tk fun v H1 μ1 d g1 _ en1 i1 q1 => ?_
  refine q1.use g1 en1 tk fun w H2 μ2 d2 g2 g2' en2 i2 q2 => ?_
  exact eqa_read (Q := fun c => PostE X.K Z μ H Q (.bl !c) H2) g2.ok (i1.mono g2'.fz) i2 q2 fun c r => ⟨μ2, _, g2, .bl _, r⟩
theorem wt_eqA {Q : Mu → Bool → Prop} (hu : X.A.units + 64 < cLine) (h : WE X a Γ μ fun μ1 x => WE X b Γ μ1 fun μ2 y => EqA μ2 x y fun c => Q μ2 c) : WT X (.Compare a [.Eq] [b] pos) Γ μ Q := fun Z σ H en ok tk => by
  refine toT (pt_cmpR (op_eqA hu) pe_S pe_S (nomark _)) ?_
  refine h.use (Go.refl ok) en tk fun v H1 μ1 d g1 _ en1 i1 q1 => ?_
  refine q1.use g1 en1 tk fun w H2 μ2 d2 g2 g2' en2 i2 q2 => ?_
  exact eqa_read (Q := fun c => ∃ k, V.bl c = V.bl k ∧ PostT X.K Z μ H Q k H2) g2.ok (i1.mono g2'.fz) i2 q2 fun c r => ⟨c, rfl, μ2, g2, r⟩
theorem wt_neA {Q : Mu → Bool → Prop} (hu : X.A.units + 64 < cLine) (h : WE X a Γ μ fun μ1 x => WE X b Γ μ1 fun μ2 y => EqA μ2 x y fun c => Q μ2 !c) : WT X (.Compare a [.NotEq] [b] pos) Γ μ Q := fun Z σ H en ok tk => by
  refine toT (pt_cmpR (op_neA hu) pe_S pe_S (nomark _)) ?_
  refine h.use (Go.refl ok) en tk fun v H1 μ1 d g1 _ en1 i1 q1 => ?_
  refine q1.use g1 en1 tk fun w H2 μ2 d2 g2 g2' en2 i2 q2 => ?_
  exact eqa_read (Q := fun c => ∃ k, V.bl (!c) = V.bl k ∧ PostT X.K Z μ H Q k H2) g2.ok (i1.mono g2'.fz) i2 q2 fun c r => ⟨!c, rfl, μ2, g2, r⟩
def dispP : List (Option Expr) → List Expr → List (Expr × Expr)
  | some a :: ks, b :: vs => (a, b) :: dispP ks vs
  | _, _ => []
def WD (X : Cz) : List (Expr × Expr) → Gm → Mu → (Mu → List (D × D) → Prop) → Prop
  | [], _, μ, Q => Q μ []
  | (a, b) :: r, Γ, μ, Q => WE X a Γ μ fun μ1 x => WE X b Γ μ1 fun μ2 y => WD X r Γ μ2 fun μ3 ps => Q μ3 ((x, y) :: ps)
theorem pps_S {X : Cx} {pos : Pos} : ∀ kvs : List (Expr × Expr), PPs X pos (kvs.map fun p => some p.1) (kvs.map (·.2)) (kvs.map fun p => (SE X p.1, SE X p.2))
  | [] => pps_nil
  | _ :: r => pps_cons pe_S pe_S (pps_S r)
theorem wd_read {Z : Addr → Prop} {σ : L2.St} {μ0 : Mu} {H0 : Hp} {R : List (V × V) → Hp → Prop} (tk : Tk X Z μ0 H0) : ∀ (kvs : List (Expr × Expr)) {μ : Mu} {H : Hp} {Q : Mu → List (D × D) → Prop}, WD X kvs Γ μ Q → Go X.K Z μ0 H0 μ H → En X.K (Av μ Z) H σ Γ →
    (∀ μ' H' ps qs, Go X.K Z μ0 H0 μ' H' → Go X.K Z μ H μ' H' → Paired (fun (p : V × V) (q : D × D) => Is X.K (Av μ' Z) H' p.1 q.1 ∧ Is X.K (Av μ' Z) H' p.2 q.2) ps qs → Q μ' qs → R ps H') →
    tPairs (kvs.map fun p => (SE X p.1, SE X p.2)) σ H R
  | [], μ, H, Q, h, g, en, k => k μ H [] [] g (Go.refl g.ok) .nil h
  | (a, b) :: r, μ, H, Q, h, g, en, k => by
    show SE X a σ H _
    refine WE.use h g en tk fun v H1 μ1 d g1 g1' en1 i1 q1 => ?_
    refine q1.use g1 en1 tk fun w H2 μ2 d2 g2 g2' en2 i2 q2 => ?_
    refine wd_read tk r q2 g2 en2 fun μ' H' ps qs g3 g3' rel q3 => ?_
    exact k μ' H' _ _ g3 ((g1'.trans g2').trans g3') (.cons ⟨i1.mono (g2'.trans g3').fz, i2.mono g3'.fz⟩ rel) q3
theorem pairs_keys {K : PySem.W.Frag} {A : Addr → Prop} {H : Hp} : ∀ {ps : List (V × V)} {qs : List (D × D)} {kds : List (Key × D)}, Paired (fun (p : V × V) (q : D × D) => Is K A H p.1 q.1 ∧ Is K A H p.2 q.2) ps qs → qs.map (fun q => (keyD q.1, q.2)) = kds.map (fun kv => (some kv.1, kv.2)) →
    ∃ kvs : List (Key × V), ps = kvs.map (fun kv => (kV kv.1, kv.2)) ∧ KD K A H kvs kds
  | _, _, [], .nil, _ => ⟨[], rfl, .nil⟩
  | _, _, _ :: _, .nil, h => by simp at h
  | _, _, [], .cons _ _, h => by simp at h
  | _, _, (k, d) :: r, .cons (a := p) (b := q) i t, h => by
    rw [List.map_cons, List.map_cons] at h
    injection h with h1 h2
    injection h1 with h3 h4
    obtain ⟨kvs, e, rel⟩ := pairs_keys t h2
    obtain ⟨p1, p2⟩ := p
    obtain ⟨q1, q2⟩ := q
    dsimp only at h3 h4 i
    subst h4
    exact ⟨(k, p2) :: kvs, by rw [List.map_cons, e, key_is i.1 h3], .cons ⟨rfl, i.2⟩ rel⟩
/-- {k: v, ..}, its keys ints and texts -/
theorem we_disp {keys : List (Option Expr)} {values : List Expr} (h : ∀ p, μ p = none → WD X (dispP keys values) Γ (updM μ p (.dK [])) fun μ2 qs => μ2 p = some (.dK []) ∧ ∃ kds : List (Key × D), qs.map (fun q => (keyD q.1, q.2)) = kds.map (fun kv => (some kv.1, kv.2)) ∧ kds.length ≤ 15 ∧ Q (updM μ2 p (.dK (mergeG [] kds))) (.ref p))
    (hk : keys = (dispP keys values).map fun p => some p.1 := by rfl) (hv : values = (dispP keys values).map (·.2) := by rfl) (hall : keys.all (·.isSome) = true := by rfl) (hl : keys.length = values.length := by rfl) (h0 : keys ≠ [] := by (intro z; cases z)) (h15 : keys.length ≤ 15 := by decide) : WE X (.Dict keys values pos) Γ μ Q := fun Z σ H en ok tk => by
  have pp : PPs X pos keys values ((dispP keys values).map fun p => (SE X p.1, SE X p.2)) := by
    have := pps_S (X := X.toCx) (pos := pos) (dispP keys values)
    rw [← hk, ← hv] at this
    exact this
  refine toS (pe_disp pp hall hl h0 h15) ?_
  intro p hp
  have g1 := Go.putD ok (.inl hp) (.nil : KD X.K (Av μ Z) H [] [])
  refine wd_read tk _ (h p (ok.fresh hp).1) g1 (en.mono g1.fz) fun μ' H' ps qs g g' rel q => ?_
  obtain ⟨hm, kds, e, hlen, q⟩ := q
  obtain ⟨kvs0, hH, r0⟩ := dk_wr hm g.ok
  obtain ⟨kvs, e2, r⟩ := pairs_keys rel e
  cases r0
  exact ⟨hH, kvs, e2, by rw [r.len]; exact hlen, _, _, g.trans (Go.putD g.ok (.inr ⟨_, hm⟩) (r.merge .nil)), .ref p, q⟩
/-- {None: v} -/
theorem pe_dispN {X : Cx} {v : Expr} {tv : TE} {j pn pos} (hv : PE X v tv) : PE X (.Dict [some (.Constant .none j pn)] [v] pos) (fun σ H Q => ∀ p, H p = none → tv σ (upd H p (.dK [])) fun y H2 => H2 p = some (.dK []) ∧ Q (.ref p) (upd H2 p (.ext (dnP X.prog X.w p [none] [y])))) := by
  refine ⟨fun pins s σ H Q I q => ?_⟩
  have hn := I.hok.fresh (Nat.le_refl s.heap.objs.size)
  have I1 := I.laid (a := s.heap.objs.size) (o := .dK []) (h' := s.heap.push { cls := .type "dict", data := .dict #[] }) (t' := s.toks) (fun _ _ q => Heap.get?_push_of_some _ q) (Nat.le_refl _) (dk_empty s.heap I.big)
  refine wpAny_Dict_walk (knd := noneKind X.prog X.w) rfl rfl (fun z => by cases z) (by show 1 ≤ 15; omega) ?_
  refine pairTrees_cons_walk (thn (pe_non.run pins _ σ _ (fun x H' => x = V.non ∧ H' = upd H s.heap.objs.size (.dK [])) I1 ⟨rfl, rfl⟩) fun u s1 hx => ?_)
  obtain ⟨x, H1, I1', rx, ex, eH⟩ := hx
  subst ex eH
  obtain rfl : u = Value.none := rx
  refine thn (hv.run pins s1 σ _ _ I1' (q _ hn)) fun w2 s2 ⟨y, H2, I2, ry, e, q2⟩ => ?_
  refine pairTrees_nil_walk ?_
  obtain ⟨z, hd, vs0, r0, dd⟩ := dk_of I2.hok e
  cases r0
  have dd' : s2.heap.DictOf (noneKind X.prog X.w) s.heap.objs.size [] := by
    obtain ⟨o, es, ep, h1, h2, h3, h4, h5, h6⟩ := dd
    have he : es = #[] := by
      cases es with
      | mk l => cases l with
        | nil => rfl
        | cons a b => cases h5
    subst he
    exact ⟨o, #[], ep, h1, h2, h3, (fun e h => absurd h (by simp)), .nil, List.nodup_nil⟩
  refine ⟨[(none, w2)], ⟨rfl, rfl, True.intro⟩, dd', fun h' dh hs => ⟨.ref s.heap.objs.size, _, ?_, rfl, q2⟩⟩
  have he : ∃ q, h'.get? s.heap.objs.size = some q := let ⟨q, _, _, hq, _⟩ := dh; ⟨q, hq⟩
  exact d_write I2 (by rw [e]; exact True.intro) hs he (dn_ok (kvs := [(none, y)]) (by show 1 ≤ sizeLine; decide) hd (.cons ⟨rfl, ry⟩ .nil) dh)
theorem we_dispN {v : Expr} {j pn} (h : ∀ p, μ p = none → WE X v Γ (updM μ p (.dK [])) fun μ2 y => μ2 p = some (.dK []) ∧ Q (updM μ2 p (dnM X.prog X.w p [(none, y)])) (.ref p)) : WE X (.Dict [some (.Constant .none j pn)] [v] pos) Γ μ Q := fun Z σ H en ok tk => by
  refine toS (pe_dispN pe_S) ?_
  intro p hp
  have g1 := Go.putD ok (.inl hp) (.nil : KD X.K (Av μ Z) H [] [])
  refine (h p (ok.fresh hp).1).use g1 (en.mono g1.fz) tk fun w H2 μ2 d2 g2 g2' en2 i2 q2 => ?_
  obtain ⟨hm, q⟩ := q2
  obtain ⟨kvs0, hH, r0⟩ := dk_wr hm g2.ok
  cases r0
  exact ⟨hH, _, _, g2.trans (Go.put g2.ok (dnM X.prog X.w p [(none, d2)]) (.ext (dnP X.prog X.w p [none] [w])) (.inr ⟨_, hm⟩) fun m => ⟨[w], upd_same, m (.cons i2 .nil)⟩), .ref p, q⟩
end
end DL

set_option Elab.async false
set_option linter.all false
set_option maxRecDepth 100000
set_option maxHeartbeats 2000000
namespace DL
open PySem PySem.Spec PyProof.Rows L2

section
variable {α β : Type}
def sKV (f : α → D) (kvs : List (Str × α)) : List (Key × D) := kvs.map fun kv => (.inr kv.1, f kv.2)
theorem sKV_val {f : α → D} {x : Str} : ∀ {kvs : List (Str × α)}, valG (sKV f kvs) (.inr x) = (valG kvs x).map f
  | [] => rfl
  | p :: r => by
    show valG ((Sum.inr p.1, f p.2) :: sKV f r) _ = _
    rw [valG_cons, valG_cons, sKV_val (kvs := r)]
    show (if (Sum.inr p.1 : Key) = Sum.inr x then _ else _) = _
    by_cases e : p.1 = x
    · rw [if_pos e, if_pos (by rw [e])]; rfl
    · rw [if_neg e, if_neg fun z => e (Sum.inr.inj z)]
theorem sKV_put {f : α → D} {x : Str} {a : α} {kvs : List (Str × α)} : putG (sKV f kvs) (.inr x) (f a) = sKV f (putG kvs x a) := by
  unfold putG
  rw [any_val, any_val, sKV_val, Option.isSome_map]
  by_cases e : (valG kvs x).isSome = true
  · rw [if_pos e, if_pos e]
    unfold sKV
    rw [List.map_map, List.map_map]
    refine List.map_congr_left fun p _ => ?_
    show (if (Sum.inr p.1 : Key) = Sum.inr x then _ else _) = (fun kv : Str × α => ((Sum.inr kv.1 : Key), f kv.2)) (if p.1 = x then (p.1, a) else p)
    by_cases h : p.1 = x
    · rw [if_pos (by rw [h]), if_pos h]
    · rw [if_neg fun z => h (Sum.inr.inj z), if_neg h]
  · rw [if_neg e, if_neg e]
    unfold sKV
    rw [List.map_append]; rfl
theorem sKV_drop {f : α → D} {x : Str} {kvs : List (Str × α)} : dropG (sKV f kvs) (.inr x) = sKV f (dropG kvs x) := by
  unfold dropG sKV
  rw [List.filter_map]
  congr 1
  refine List.filter_congr fun p _ => ?_
  show decide ((Sum.inr p.1 : Key) ≠ Sum.inr x) = decide (p.1 ≠ x)
  by_cases h : p.1 = x
  · simp [h]
  · simp [h]
theorem sKV_len {f : α → D} {kvs : List (Str × α)} : (sKV f kvs).length = kvs.length := by unfold sKV; rw [List.length_map]
theorem sKV_keys {f : α → D} {kvs : List (Str × α)} : keyDs (sKV f kvs) = (kvs.map (·.1)).map .str := by
  unfold keyDs sKV
  rw [List.map_map, List.map_map]; rfl
theorem sKV_map {f : α → D} {g : β → α} {kvs : List (Str × β)} : sKV f (kvs.map fun kv => (kv.1, g kv.2)) = sKV (fun b => f (g b)) kvs := by
  unfold sKV; rw [List.map_map]; rfl
variable {μ : Mu} {P : Program} {w : World} {p : Addr} {x : Str} {kvs : List (Str × α)} {f : α → D}
theorem sub_dS {R : D → Prop} {a : α} (m : μ p = some (.dK (sKV f kvs))) (v : valG kvs x = some a) (r : R (f a)) : SubQ P w μ (.ref p) (.str x) R := sub_d m rfl (by rw [sKV_val, v]; rfl) r
theorem sub_lkS {R : D → Prop} {a : α} {ob : Obj} {vs : List (Key × V)} (m : μ p = some (.lkK ob vs (sKV f kvs))) (v : valG kvs x = some a) (r : R (f a)) : SubQ P w μ (.ref p) (.str x) R := sub_lk m rfl (by rw [sKV_val, v]; rfl) r
theorem in_dS {R : Bool → Prop} (m : μ p = some (.dK (sKV f kvs))) (r : R (valG kvs x).isSome) : InQ μ (.str x) (.ref p) R := in_d m rfl (by rw [sKV_val, Option.isSome_map]; exact r)
theorem dput_S {R : Mu → Prop} {a : α} {d : D} (m : μ p = some (.dK (sKV f kvs))) (hd : d = f a) (hl : kvs.length < sizeLine) (r : R (updM μ p (.dK (sKV f (putG kvs x a))))) : DPutQ P w μ (.ref p) (.str x) d R := by subst hd; exact dput_k m rfl (by rw [sKV_len]; exact hl) (by rw [sKV_put]; exact r)
theorem get_kS {R : Option D → Prop} (m : μ p = some (.dK (sKV f kvs))) (r : R ((valG kvs x).map f)) : GetQ μ p (.str x) R := get_k m rfl (by rw [sKV_val]; exact r)
theorem pop_kS {R : Option D → Mu → Prop} (m : μ p = some (.dK (sKV f kvs))) (r : R ((valG kvs x).map f) (updM μ p (.dK (sKV f (dropG kvs x))))) : PopQ μ p (.str x) R := pop_k m rfl (by rw [sKV_val, sKV_drop]; exact r)
theorem flat_strs : ∀ xs : List Str, (xs.map D.str).all flatD = true
  | [] => rfl
  | x :: r => by rw [List.map_cons, List.all_cons, flat_strs r]; rfl
theorem in_ms {xs : List Str} {R : Bool → Prop} (m : μ p = some (.lst (xs.map .str))) (r : R (decide (x ∈ xs))) : InQ μ (.str x) (.ref p) R := in_m m rfl (flat_strs xs) (by rw [inD_strs]; exact r)
theorem in_ls {xs : List Str} {R : Bool → Prop} (r : R (decide (x ∈ xs))) : InQ μ (.str x) (.lst (xs.map .str)) R := in_l rfl (flat_strs xs) (by rw [inD_strs]; exact r)
end
inductive AD where
  | pass | never | yes (ls : List (D × D × D))
abbrev tri (t : D × D × D) : D := .tup [t.1, t.2.1, t.2.2]
@[reducible] def adD : AD → D
  | .pass => .non
  | .never => .bl false
  | .yes ls => .lst (ls.map tri)
abbrev Rw := Str × AD
abbrev rwD (r : Rw) : D := .tup [.str r.1, adD r.2]
def bodyD (b : List Rw) : D := .lst (b.map rwD)
abbrev partD (p : D × D) : D := .tup [p.1, p.2]
def partsD (b : List (D × D)) : D := .lst (b.map partD)
abbrev Frm := Option Str × Int
abbrev frmD (e : Frm) : D := .tup [optS e.1, .int e.2]
structure Tab where
  forms : List (Str × Frm)
  bodies : List (Str × List Rw) := []
  scores : List (Str × List (D × D)) := []
  turns : List (Str × Int) := []
  turn : Int := 0
def Tab.names (T : Tab) : List Str := T.forms.map (·.1)
/-- a kind's line, the list of kinds backwards -/
@[reducible] def optL (e : Option Str) (g : Str → List Str) : List Str := match e with
  | none => []
  | some y => g y
def lineR : List (Str × Frm) → Str → List Str
  | [], _ => []
  | p :: r, x => if p.1 = x then x :: optL p.2.1 (lineR r) else lineR r x
theorem lineR_cons {n : Str} {e : Frm} {r : List (Str × Frm)} {x : Str} : lineR ((n, e) :: r) x = if n = x then x :: optL e.1 (lineR r) else lineR r x := rfl
theorem nodup_rev {α : Type} {l : List α} : l.reverse.Nodup ↔ l.Nodup := (List.reverse_perm l).nodup_iff
def lineF (fs : List (Str × Frm)) (x : Str) : List Str := lineR fs.reverse x
def Tab.line (T : Tab) (x : Str) : List Str := lineF T.forms x
def ownF (fs : List (Str × Frm)) (x : Str) : Int := ((valG fs x).map (·.2)).getD 0
def fieldsF (fs : List (Str × Frm)) (x : Str) : Int := ((lineF fs x).map (ownF fs)).sum
def Tab.fields (T : Tab) (x : Str) : Int := fieldsF T.forms x
/-- a list of kinds that stands: unlike names, elders ahead, counts from 0 -/
def FmR : List (Str × Frm) → Prop
  | [] => True
  | (n, e, c) :: r => n ∉ r.map (·.1) ∧ (∀ y, e = some y → y ∈ r.map (·.1)) ∧ 0 ≤ c ∧ FmR r
def FmOk (fs : List (Str × Frm)) : Prop := FmR fs.reverse
theorem FmR.nodup : ∀ {r : List (Str × Frm)}, FmR r → (r.map (·.1)).Nodup
  | [], _ => List.nodup_nil
  | (n, e, c) :: r, h => List.nodup_cons.mpr ⟨h.1, FmR.nodup h.2.2.2⟩
theorem FmOk.nodup {fs : List (Str × Frm)} (h : FmOk fs) : (fs.map (·.1)).Nodup := by
  have := FmR.nodup h
  rw [List.map_reverse] at this
  exact (nodup_rev (l := fs.map (·.1))).mp this
theorem lineR_mem : ∀ {r : List (Str × Frm)} {x y : Str}, y ∈ lineR r x → y ∈ r.map (·.1)
  | [], _, _, h => by cases h
  | (n, e, c) :: r, x, y, h => by
    rw [lineR_cons] at h
    by_cases hn : n = x
    · rw [if_pos hn] at h
      rcases List.mem_cons.mp h with e1 | h
      · subst e1 hn; exact List.mem_cons_self
      · cases e with
        | none => cases h
        | some z => exact List.mem_cons_of_mem _ (lineR_mem (x := z) h)
    · rw [if_neg hn] at h
      exact List.mem_cons_of_mem _ (lineR_mem h)
theorem lineF_mem {fs : List (Str × Frm)} {x y : Str} (h : y ∈ lineF fs x) : y ∈ fs.map (·.1) := by
  have := lineR_mem h
  rw [List.map_reverse] at this
  exact List.mem_reverse.mp this
theorem valG_rev {x : Str} {r : List (Str × Frm)} (n : (r.map (·.1)).Nodup) : valG r.reverse x = valG r x := by
  have n2 : (r.reverse.map (·.1)).Nodup := by rw [List.map_reverse]; exact (nodup_rev).mpr n
  cases q : valG r x with
  | some v => exact valG_nodup n2 (List.mem_reverse.mpr (valG_mem q))
  | none =>
    rw [valG_none] at q ⊢
    rw [List.map_reverse, List.mem_reverse]; exact q
/-- one step of a line -/
theorem lineR_step : ∀ {r : List (Str × Frm)} {x : Str} {e : Option Str} {c : Int}, FmR r → valG r x = some (e, c) → lineR r x = x :: optL e (lineR r) ∧ ∀ y, e = some y → y ∈ r.map (·.1) ∧ (lineR r y).length < (lineR r x).length
  | [], _, _, _, _, h => by cases h
  | (n, e', c') :: r, x, e, c, ok, h => by
    obtain ⟨h1, h2, h3, h4⟩ := ok
    rw [valG_cons] at h
    have skip : ∀ {y}, y ∈ r.map (·.1) → lineR ((n, e', c') :: r) y = lineR r y := fun {y} hy => by
      rw [lineR_cons, if_neg fun z => h1 (by rw [z]; exact hy)]
    by_cases hn : n = x
    · rw [if_pos hn] at h
      have h' : (e', c') = (e, c) := Option.some.inj h
      cases h'
      have e0 : lineR ((n, e', c') :: r) x = x :: optL e' (lineR r) := by rw [lineR_cons, if_pos hn]
      cases e' with
      | none => exact ⟨e0, fun y z => by cases z⟩
      | some y =>
        have hy := h2 y rfl
        refine ⟨by rw [e0]; show _ = x :: lineR _ y; rw [skip hy], fun y' z => ?_⟩
        cases z
        exact ⟨List.mem_cons_of_mem _ hy, by rw [e0, skip hy]; exact Nat.lt_succ_self _⟩
    · rw [if_neg hn] at h
      obtain ⟨a1, a2⟩ := lineR_step h4 h
      have e0 : lineR ((n, e', c') :: r) x = lineR r x := by rw [lineR_cons, if_neg hn]
      cases e with
      | none => exact ⟨by rw [e0, a1], fun y z => by cases z⟩
      | some y =>
        obtain ⟨b1, b2⟩ := a2 y rfl
        refine ⟨by rw [e0, a1]; show _ = x :: lineR _ y; rw [skip b1], fun y' z => ?_⟩
        cases z
        exact ⟨List.mem_cons_of_mem _ b1, by rw [e0, skip b1]; exact b2⟩
theorem lineF_step {fs : List (Str × Frm)} {x : Str} {e : Option Str} {c : Int} (ok : FmOk fs) (h : valG fs x = some (e, c)) : lineF fs x = x :: optL e (lineF fs) ∧ ∀ y, e = some y → y ∈ fs.map (·.1) ∧ (lineF fs y).length < (lineF fs x).length := by
  have n := ok.nodup
  have h' : valG fs.reverse x = some (e, c) := by rw [valG_rev n]; exact h
  obtain ⟨a, b⟩ := lineR_step ok h'
  refine ⟨a, fun y z => ?_⟩
  obtain ⟨b1, b2⟩ := b y z
  rw [List.map_reverse, List.mem_reverse] at b1
  exact ⟨b1, b2⟩
theorem val_of_mem {fs : List (Str × Frm)} {x : Str} (h : x ∈ fs.map (·.1)) : ∃ e c, valG fs x = some (e, c) := by
  obtain ⟨⟨e, c⟩, q⟩ := Option.isSome_iff_exists.mp (valG_some.mpr h)
  exact ⟨e, c, q⟩
theorem FmR.own : ∀ {r : List (Str × Frm)} {x : Str} {v : Frm}, FmR r → (x, v) ∈ r → 0 ≤ v.2
  | (n, e, c) :: r, x, v, h, hm => by
    rcases List.mem_cons.mp hm with z | hm
    · cases z; exact h.2.2.1
    · exact FmR.own h.2.2.2 hm
theorem FmOk.own {fs : List (Str × Frm)} {x : Str} (h : FmOk fs) : 0 ≤ ownF fs x := by
  unfold ownF
  cases q : valG fs x with
  | none => exact Int.le_refl 0
  | some v => exact FmR.own h (List.mem_reverse.mpr (valG_mem q))
theorem sum_nn {α : Type} {f : α → Int} (h : ∀ a, 0 ≤ f a) : ∀ l : List α, 0 ≤ (l.map f).sum
  | [] => Int.le_refl 0
  | a :: r => by rw [List.map_cons, List.sum_cons]; have := h a; have := sum_nn h r; omega
theorem FmOk.fields {fs : List (Str × Frm)} {x : Str} (h : FmOk fs) : 0 ≤ fieldsF fs x := sum_nn (fun _ => h.own) _
theorem FmOk.add {fs : List (Str × Frm)} {x : Str} {e : Option Str} {c : Int} (h : FmOk fs) (h1 : x ∉ fs.map (·.1)) (h2 : ∀ y, e = some y → y ∈ fs.map (·.1)) (h3 : 0 ≤ c) : FmOk (fs ++ [(x, e, c)]) := by
  unfold FmOk
  rw [List.reverse_append]
  show FmR ((x, e, c) :: fs.reverse)
  refine ⟨?_, fun y z => ?_, h3, h⟩
  · rw [List.map_reverse, List.mem_reverse]; exact h1
  · rw [List.map_reverse, List.mem_reverse]; exact h2 y z
/-- a kind behind changes nothing of those ahead -/
theorem lineF_add {fs : List (Str × Frm)} {x y : Str} {e : Frm} (h : y ≠ x) : lineF (fs ++ [(x, e)]) y = lineF fs y := by
  unfold lineF
  rw [List.reverse_append]
  show lineR ((x, e.1, e.2) :: fs.reverse) y = _
  rw [lineR_cons, if_neg fun z => h z.symm]
structure KA where
  a : Addr
  f : Addr
  b : Addr
  s : Addr
  t : Addr
  n : Addr
def KA.objs (k : KA) : List Addr := [k.a, k.f, k.b, k.s, k.t, k.n]
def kinF (k : KA) (turn : Int) : List (Str × D) := [("forms", .ref k.f), ("bodies", .ref k.b), ("scores", .ref k.s), ("turns", .ref k.t), ("turn", .int turn), ("notes", .ref k.n)]
def ptB2 (n : Int) : D → Bool
  | .int i => decide (0 ≤ i ∧ i < n)
  | _ => false
def rsB2 : D → Bool
  | .int i => decide (0 ≤ i ∧ i ≤ 1000000)
  | _ => false
def okLink (fs : List (Str × Frm)) (x under : Str) (t : D × D × D) : Bool := ptB2 (fieldsF fs x) t.1 && ptB2 (fieldsF fs under) t.2.1 && rsB2 t.2.2
def AD.links : AD → List (D × D × D)
  | .yes ls => ls
  | _ => []
def okRow (fs : List (Str × Frm)) (x : Str) (r : Rw) : Bool := if r.1 = Str.ofString "" then r.2.links.isEmpty else decide (r.1 ∈ fs.map (·.1)) && r.2.links.all (okLink fs x r.1)
def okPart (fs : List (Str × Frm)) (x : Str) (p : D × D) : Bool := ptB2 (fieldsF fs x) p.1 && rsB2 p.2
def KeysIn {α : Type} (kvs : List (Str × α)) (xs : List Str) : Prop := (kvs.map (·.1)).Nodup ∧ ∀ x ∈ kvs.map (·.1), x ∈ xs
theorem nodup_len {α : Type} [DecidableEq α] : ∀ {l m : List α}, l.Nodup → (∀ x ∈ l, x ∈ m) → l.length ≤ m.length
  | [], _, _, _ => Nat.zero_le _
  | x :: r, m, n, h => by
    rw [List.nodup_cons] at n
    have hx := h x List.mem_cons_self
    have h2 : r.length ≤ (m.erase x).length := nodup_len n.2 fun y hy => (List.mem_erase_of_ne (fun e => n.1 (by rw [← e]; exact hy))).mpr (h y (List.mem_cons_of_mem _ hy))
    rw [List.length_erase_of_mem hx] at h2
    have := List.length_pos_of_mem hx
    rw [List.length_cons]
    omega
structure TabOk (T : Tab) : Prop where
  fm : FmOk T.forms
  len : T.forms.length ≤ 100000
  bk : KeysIn T.bodies T.names
  sk : KeysIn T.scores T.names
  tk : KeysIn T.turns T.names
  ro : ∀ x b, (x, b) ∈ T.bodies → b.length ≤ 1000 ∧ ∀ r ∈ b, okRow T.forms x r = true ∧ r.2.links.length ≤ 1000
  po : ∀ x b, (x, b) ∈ T.scores → b.length ≤ 1000 ∧ ∀ r ∈ b, okPart T.forms x r = true
theorem KeysIn.len {α : Type} {kvs : List (Str × α)} {xs : List Str} (h : KeysIn kvs xs) : kvs.length ≤ xs.length := by
  have := nodup_len h.1 h.2
  rw [List.length_map] at this
  exact this
theorem KeysIn.put {α : Type} {kvs : List (Str × α)} {xs : List Str} {x : Str} {a : α} (h : KeysIn kvs xs) (hx : x ∈ xs) : KeysIn (putG kvs x a) xs := by
  unfold KeysIn
  rw [putG_keys]
  by_cases e : (valG kvs x).isSome = true
  · rw [if_pos e]; exact h
  · rw [if_neg e]
    have hn : x ∉ kvs.map (·.1) := fun z => e (valG_some.mpr z)
    refine ⟨List.nodup_append.mpr ⟨h.1, by simp, fun a ha b hb => ?_⟩, fun y hy => ?_⟩
    · rw [List.mem_singleton.mp hb]; intro z; exact hn (by rw [← z]; exact ha)
    · rcases List.mem_append.mp hy with hy | hy
      · exact h.2 y hy
      · rw [List.mem_singleton.mp hy]; exact hx
theorem KeysIn.drop {α : Type} {kvs : List (Str × α)} {xs : List Str} {x : Str} (h : KeysIn kvs xs) : KeysIn (dropG kvs x) xs := by
  have hs : (dropG kvs x).Sublist kvs := List.filter_sublist
  exact ⟨h.1.sublist (hs.map _), fun y hy => h.2 y ((hs.map _).subset hy)⟩
theorem KeysIn.more {α : Type} {kvs : List (Str × α)} {xs ys : List Str} (h : KeysIn kvs xs) (s : ∀ x ∈ xs, x ∈ ys) : KeysIn kvs ys := ⟨h.1, fun y hy => s y (h.2 y hy)⟩
theorem putG_mem {α : Type} {kvs : List (Str × α)} {x y : Str} {a b : α} (h : (y, b) ∈ putG kvs x a) : (y, b) ∈ kvs ∨ (y = x ∧ b = a) := by
  unfold putG at h
  split at h
  · obtain ⟨p, hp, e⟩ := List.mem_map.mp h
    by_cases hx : p.1 = x
    · rw [if_pos hx] at e
      cases e
      exact .inr ⟨hx, rfl⟩
    · rw [if_neg hx] at e
      subst e
      exact .inl hp
  · rcases List.mem_append.mp h with h | h
    · exact .inl h
    · have := List.mem_singleton.mp h
      cases this
      exact .inr ⟨rfl, rfl⟩
/-- the table at k is T -/
structure KndAt (C : Addr) (μ : Mu) (k : KA) (T : Tab) : Prop where
  a : μ k.a = some (.ins C (kinF k T.turn))
  f : μ k.f = some (.dK (sKV frmD T.forms))
  b : μ k.b = some (.dK (sKV bodyD T.bodies))
  s : μ k.s = some (.dK (sKV partsD T.scores))
  t : μ k.t = some (.dK (sKV .int T.turns))
  n : ∃ nts, μ k.n = some (.dK nts)
  ne : k.objs.Nodup
  ok : TabOk T
def kndM (C : Addr) (k : KA) (T : Tab) (nts : List (Key × D)) (μ : Mu) : Mu := updM (updM (updM (updM (updM (updM μ k.n (.dK nts)) k.t (.dK (sKV .int T.turns))) k.s (.dK (sKV partsD T.scores))) k.b (.dK (sKV bodyD T.bodies))) k.f (.dK (sKV frmD T.forms))) k.a (.ins C (kinF k T.turn))
section
variable {C : Addr} {μ : Mu} {k : KA} {T T' : Tab} {nts nts' : List (Key × D)} {p b g : Addr} {o : MO} {t : Bx}
theorem kndM_at (ne : k.objs.Nodup) (ok : TabOk T) : KndAt C (kndM C k T nts μ) k T := by
  have h := ne
  unfold KA.objs at h
  simp only [List.nodup_cons, List.mem_cons, List.not_mem_nil, or_false, not_or] at h
  obtain ⟨⟨h1, h2, h3, h4, h5⟩, ⟨h6, h7, h8, h9⟩, ⟨h10, h11, h12⟩, ⟨h13, h14⟩, h15, _⟩ := h
  refine ⟨updM_same, ?_, ?_, ?_, ?_, ⟨nts, ?_⟩, ne, ok⟩ <;> unfold kndM
  · rw [updM_ne fun e => h1 e.symm, updM_same]
  · rw [updM_ne fun e => h2 e.symm, updM_ne fun e => h6 e.symm, updM_same]
  · rw [updM_ne fun e => h3 e.symm, updM_ne fun e => h7 e.symm, updM_ne fun e => h10 e.symm, updM_same]
  · rw [updM_ne fun e => h4 e.symm, updM_ne fun e => h8 e.symm, updM_ne fun e => h11 e.symm, updM_ne fun e => h13 e.symm, updM_same]
  · rw [updM_ne fun e => h5 e.symm, updM_ne fun e => h9 e.symm, updM_ne fun e => h12 e.symm, updM_ne fun e => h14 e.symm, updM_ne fun e => h15 e.symm, updM_same]
theorem kndM_ne (h : p ∉ k.objs) : kndM C k T nts μ p = μ p := by
  unfold KA.objs at h
  simp only [List.mem_cons, List.not_mem_nil, or_false, not_or] at h
  obtain ⟨h1, h2, h3, h4, h5, h6⟩ := h
  unfold kndM
  rw [updM_ne h1, updM_ne h2, updM_ne h3, updM_ne h4, updM_ne h5, updM_ne h6]
/-- all objects of the table, written -/
theorem kndM_ext {μ' : Mu} (ne : k.objs.Nodup) (h1 : μ' k.a = some (.ins C (kinF k T.turn))) (h2 : μ' k.f = some (.dK (sKV frmD T.forms))) (h3 : μ' k.b = some (.dK (sKV bodyD T.bodies))) (h4 : μ' k.s = some (.dK (sKV partsD T.scores))) (h5 : μ' k.t = some (.dK (sKV .int T.turns))) (h6 : μ' k.n = some (.dK nts))
    (h7 : ∀ p, p ∉ k.objs → μ' p = μ p) : μ' = kndM C k T nts μ := by
  have h := ne
  unfold KA.objs at h
  simp only [List.nodup_cons, List.mem_cons, List.not_mem_nil, or_false, not_or] at h
  obtain ⟨⟨a1, a2, a3, a4, a5⟩, ⟨a6, a7, a8, a9⟩, ⟨a10, a11, a12⟩, ⟨a13, a14⟩, a15, _⟩ := h
  funext p
  by_cases hp : p ∈ k.objs
  · unfold KA.objs at hp
    simp only [List.mem_cons, List.not_mem_nil, or_false] at hp
    unfold kndM
    rcases hp with e | e | e | e | e | e
    · subst e; rw [updM_same, h1]
    · subst e; rw [updM_ne fun e => a1 e.symm, updM_same, h2]
    · subst e; rw [updM_ne fun e => a2 e.symm, updM_ne fun e => a6 e.symm, updM_same, h3]
    · subst e; rw [updM_ne fun e => a3 e.symm, updM_ne fun e => a7 e.symm, updM_ne fun e => a10 e.symm, updM_same, h4]
    · subst e; rw [updM_ne fun e => a4 e.symm, updM_ne fun e => a8 e.symm, updM_ne fun e => a11 e.symm, updM_ne fun e => a13 e.symm, updM_same, h5]
    · subst e; rw [updM_ne fun e => a5 e.symm, updM_ne fun e => a9 e.symm, updM_ne fun e => a12 e.symm, updM_ne fun e => a14 e.symm, updM_ne fun e => a15 e.symm, updM_same, h6]
  · rw [h7 p hp, kndM_ne hp]
theorem KndAt.upd (h : KndAt C μ k T) (hp : p ∉ k.objs) : KndAt C (updM μ p o) k T := by
  have f : ∀ q ∈ k.objs, updM μ p o q = μ q := fun q hq => updM_ne fun e => hp (by rw [← e]; exact hq)
  obtain ⟨nts, hn⟩ := h.n
  exact ⟨(f _ (by simp [KA.objs])).trans h.a, (f _ (by simp [KA.objs])).trans h.f, (f _ (by simp [KA.objs])).trans h.b, (f _ (by simp [KA.objs])).trans h.s, (f _ (by simp [KA.objs])).trans h.t, ⟨nts, (f _ (by simp [KA.objs])).trans hn⟩, h.ne, h.ok⟩
theorem KndAt.sm (h : KndAt C μ k T) (hp : p ∈ k.objs) : μ p ≠ none ∧ ∀ l, μ p ≠ some (.lst l) := by
  unfold KA.objs at hp
  simp only [List.mem_cons, List.not_mem_nil, or_false] at hp
  obtain ⟨nts, hn⟩ := h.n
  rcases hp with e | e | e | e | e | e <;> subst e
  · rw [h.a]; exact ⟨fun z => (by cases z), fun l z => (by cases z)⟩
  · rw [h.f]; exact ⟨fun z => (by cases z), fun l z => (by cases z)⟩
  · rw [h.b]; exact ⟨fun z => (by cases z), fun l z => (by cases z)⟩
  · rw [h.s]; exact ⟨fun z => (by cases z), fun l z => (by cases z)⟩
  · rw [h.t]; exact ⟨fun z => (by cases z), fun l z => (by cases z)⟩
  · rw [hn]; exact ⟨fun z => (by cases z), fun l z => (by cases z)⟩
theorem KndAt.off (h : KndAt C μ k T) (hp : μ p = none) : p ∉ k.objs := fun z => (h.sm z).1 hp
theorem KndAt.offL {l : List D} (h : KndAt C μ k T) (hp : μ p = some (.lst l)) : p ∉ k.objs := fun z => (h.sm z).2 _ hp
theorem KndAt.new (h : KndAt C μ k T) (hp : μ p = none) : KndAt C (updM μ p o) k T := h.upd (h.off hp)
theorem KndAt.bx (h : KndAt C μ k T) (hb : μ b = none) (hg : μ g = none) : KndAt C (bxM b g t μ) k T := by
  unfold bxM
  exact (h.upd (h.off hg)).upd (h.off hb)
theorem updM_kndM (hp : p ∉ k.objs) : updM (kndM C k T nts μ) p o = kndM C k T nts (updM μ p o) := by
  unfold KA.objs at hp
  simp only [List.mem_cons, List.not_mem_nil, or_false, not_or] at hp
  obtain ⟨h1, h2, h3, h4, h5, h6⟩ := hp
  unfold kndM
  rw [updM_comm (fun e => h1 e.symm), updM_comm (fun e => h2 e.symm), updM_comm (fun e => h3 e.symm), updM_comm (fun e => h4 e.symm), updM_comm (fun e => h5 e.symm), updM_comm (fun e => h6 e.symm)]
theorem kndM_bx (hb : b ∉ k.objs) (hg : g ∉ k.objs) : kndM C k T nts (bxM b g t μ) = bxM b g t (kndM C k T nts μ) := by
  unfold bxM
  rw [updM_kndM hg, updM_kndM hb]
end
/-- a new list: fixed, or to be changed -/
def newP (fz : Bool) (μ : Mu) (ds : List D) (μ' : Mu) (d : D) : Prop := if fz = true then μ' = μ ∧ d = .lst ds else ∃ p, μ p = none ∧ μ' = updM μ p (.lst ds) ∧ d = .ref p
theorem newP_L {fz : Bool} {μ : Mu} {ds : List D} {Q : Mu → D → Prop} (q : ∀ μ' d, newP fz μ ds μ' d → Q μ' d) : NewL μ ds Q := by
  cases fz with
  | true => exact .inl (q _ _ ⟨rfl, rfl⟩)
  | false => exact .inr fun p hp => q _ _ ⟨p, hp, rfl, rfl⟩
section
variable {μ : Mu} {p q b g : Addr} {o o' : MO} {t : Bx}
theorem bxM_off (h : μ p = some o) (hb : μ b = none) (hg : μ g = none) : bxM b g t μ p = some o := by
  rw [bxM_ne (fun e => by rw [e, hb] at h; cases h) (fun e => by rw [e, hg] at h; cases h)]
  exact h
theorem updM_off (h : μ p = some o) (hq : μ q = none) : updM μ q o' p = some o := by
  rw [updM_ne fun e => by rw [e, hq] at h; cases h]
  exact h
theorem updM_offL {l : List D} (h : μ p = some o) (hq : μ q = some (.lst l)) (hne : ∀ l, o = .lst l → False) : updM μ q o' p = some o := by
  rw [updM_ne fun e => by rw [e, hq] at h; cases h; exact hne _ rfl]
  exact h
end
theorem sub_ixm {P : Program} {w : World} {μ : Mu} {p : Addr} {ds : List D} {y : D} {R : D → Prop} (m : μ p = some (.lst ds)) (h : IxQ μ (.ref p) y R) : SubQ P w μ (.ref p) y R := .inl h
def ixK (k : Key) : List Key → Option Nat
  | [] => none
  | g :: r => if g = k then some 0 else (ixK k r).map (· + 1)
theorem ixK_val {k : Key} {α : Type} : ∀ {kds : List (Key × α)} {i : Nat} {d : α}, ixK k (kds.map (·.1)) = some i → (kds.map (·.2))[i]? = some d → valG kds k = some d
  | [], _, _, h, _ => by cases h
  | (g, x) :: r, i, d, h, e => by
    change (if g = k then some 0 else (ixK k (r.map (·.1))).map (· + 1)) = _ at h
    rw [valG_cons]
    by_cases hg : g = k
    · rw [if_pos hg] at h
      cases h
      rw [if_pos hg]
      simpa using e
    · rw [if_neg hg] at h ⊢
      cases q : ixK k (r.map (·.1)) with
      | none => rw [q] at h; cases h
      | some j =>
        rw [q] at h
        cases h
        exact ixK_val q (by simpa using e)
theorem sub_dl {P : Program} {w : World} {μ : Mu} {p : Addr} {kds : List (Key × D)} {y d : D} {k : Key} {R : D → Prop} (i : Nat) (m : μ p = some (.dK kds)) (e : keyD y = some k) (h1 : ixK k (kds.map (·.1)) = some i) (h2 : (kds.map (·.2))[i]? = some d) (r : R d) : SubQ P w μ (.ref p) y R := sub_d m e (ixK_val h1 h2) r
theorem len_l {μ : Mu} {ds : List D} {R : Int → Prop} (r : R (ds.length : Int)) : LenQ μ (.lst ds) R := .inl (seq_l r)
theorem len_t {μ : Mu} {ds : List D} {R : Int → Prop} (r : R (ds.length : Int)) : LenQ μ (.tup ds) R := .inl (seq_t r)
theorem len_m {μ : Mu} {p : Addr} {ds : List D} {R : Int → Prop} (m : μ p = some (.lst ds)) (r : R (ds.length : Int)) : LenQ μ (.ref p) R := .inl (seq_m m r)
theorem len_d {μ : Mu} {p : Addr} {kds : List (Key × D)} {R : Int → Prop} (m : μ p = some (.dK kds)) (r : R (kds.length : Int)) : LenQ μ (.ref p) R := .inr (.inl ⟨p, kds, rfl, .inl m, r⟩)
theorem len_s {μ : Mu} {z : Str} {R : Int → Prop} (h : z.length ≤ sizeLine) (r : R (z.length : Int)) : LenQ μ (.str z) R := .inr (.inr ⟨z, rfl, h, r⟩)
theorem list_l {μ : Mu} {ds : List D} {R : List D → Prop} (r : R ds) : ListQ μ (.lst ds) R := .inl (seq_l r)
theorem list_t {μ : Mu} {ds : List D} {R : List D → Prop} (r : R ds) : ListQ μ (.tup ds) R := .inl (seq_t r)
theorem list_m {μ : Mu} {p : Addr} {ds : List D} {R : List D → Prop} (m : μ p = some (.lst ds)) (r : R ds) : ListQ μ (.ref p) R := .inl (seq_m m r)
theorem list_d {α : Type} {f : α → D} {μ : Mu} {p : Addr} {kvs : List (Str × α)} {R : List D → Prop} (m : μ p = some (.dK (sKV f kvs))) (r : R ((kvs.map (·.1)).map .str)) : ListQ μ (.ref p) R := .inr ⟨p, _, rfl, m, by rw [sKV_keys]; exact r⟩
theorem or_non {μ : Mu} {A B : Prop} (h : B) : OrQ μ .non A B := .inl ⟨rfl, h⟩
theorem ite_bb {c : Bool} {A B : Prop} (h1 : c = true → A) (h2 : c = false → B) : if c = true then A else B := by
  cases c with
  | true => exact h1 rfl
  | false => exact h2 rfl
theorem ite_nn {c : Bool} {A B : Prop} (h1 : c = false → A) (h2 : c = true → B) : if (!c) = true then A else B := by
  cases c with
  | true => exact h2 rfl
  | false => exact h1 rfl
theorem isSome_names {fs : List (Str × Frm)} {x : Str} : (valG fs x).isSome = decide (x ∈ fs.map (·.1)) := by
  by_cases h : x ∈ fs.map (·.1)
  · rw [decide_eq_true h]; exact valG_some.mpr h
  · rw [decide_eq_false h]
    cases q : valG fs x with
    | none => rfl
    | some v => exact absurd (valG_some.mp (by rw [q]; rfl)) h
end DL
namespace DL
open PySem PySem.Spec PyProof.Rows L2
def Tab.elder (T : Tab) (x : Str) : Option Str := ((valG T.forms x).map (·.1)).getD none
def Tab.own (T : Tab) (x : Str) : Int := ownF T.forms x
def Tab.add (T : Tab) (x : Str) (e : Option Str) (c : Int) : Tab := { T with forms := T.forms ++ [(x, e, c)] }
theorem Tab.val {T : Tab} {x : Str} (h : x ∈ T.names) : valG T.forms x = some (T.elder x, T.own x) := by
  obtain ⟨e, c, q⟩ := val_of_mem h
  unfold Tab.elder Tab.own ownF
  rw [q]; rfl
theorem TabOk.line {T : Tab} {x : Str} (ok : TabOk T) (h : x ∈ T.names) : T.line x = x :: optL (T.elder x) T.line ∧ ∀ y, T.elder x = some y → y ∈ T.names ∧ (T.line y).length < (T.line x).length := lineF_step ok.fm (Tab.val h)
theorem TabOk.elder {T : Tab} {x y : Str} (ok : TabOk T) (h : T.elder x = some y) : y ∈ T.names := by
  by_cases hx : x ∈ T.names
  · exact ((ok.line hx).2 y h).1
  · unfold Tab.elder at h
    rw [show valG T.forms x = none from valG_none.mpr hx] at h
    cases h
theorem TabOk.nodup {T : Tab} (ok : TabOk T) : T.names.Nodup := ok.fm.nodup
theorem lineR_len : ∀ {r : List (Str × Frm)} {x : Str}, (lineR r x).length ≤ r.length
  | [], _ => Nat.le_refl _
  | (n, e, c) :: r, x => by
    rw [lineR_cons]
    by_cases h : n = x
    · rw [if_pos h, List.length_cons, List.length_cons]
      cases e with
      | none => exact Nat.succ_le_succ (Nat.zero_le _)
      | some y => exact Nat.succ_le_succ lineR_len
    · rw [if_neg h, List.length_cons]
      exact Nat.le_succ_of_le lineR_len
theorem TabOk.line_len {T : Tab} {x : Str} (ok : TabOk T) : (T.line x).length ≤ 100000 := by
  have := lineR_len (r := T.forms.reverse) (x := x)
  rw [List.length_reverse] at this
  exact Nat.le_trans this ok.len
theorem Tab.line_mem {T : Tab} {x y : Str} (h : y ∈ T.line x) : y ∈ T.names := lineF_mem h
/-- what a row, or an answer, is at a time -/
def AdAt (μ : Mu) (d : D) : AD → Prop
  | .pass => d = .non
  | .never => d = .bl false
  | .yes ls => SeqR μ d (ls.map tri)
def RwAt (μ : Mu) (d : D) (r : Rw) : Prop := ∃ a, d = .tup [.str r.1, a] ∧ AdAt μ a r.2
theorem rwAt_self {μ : Mu} {r : Rw} : RwAt μ (rwD r) r := by
  obtain ⟨u, a⟩ := r
  cases a with
  | pass => exact ⟨.non, rfl, rfl⟩
  | never => exact ⟨.bl false, rfl, rfl⟩
  | yes ls => exact ⟨.lst (ls.map tri), rfl, .inl rfl⟩
theorem we_newP {X : Cz} {Γ : Gm} {μ : Mu} {x : Str} {i : Nat} {p : Addr} {ds : List D} {pos : Pos} {Q : Mu → D → Prop} (n : Nm X x i) (h : Γ[i]? = some (some (.ref p))) (hp : μ p = none) (q : NewL μ ds Q) : WE X (.Name x pos) Γ (updM μ p (.lst ds)) Q := by
  rcases q with q | q
  · exact we_frz (we_name n h ⟨_, _, Frz.lst updM_same FrzA.same, by rw [delM_upd hp]; exact q⟩)
  · exact we_name n h (q p hp)
end DL
namespace DL
open PySem PySem.Spec PyProof.Rows L2
theorem sum_ints {xs : List Str} {f : Str → Int} : (xs.map fun x => f x).map D.int = (xs.map fun x => D.int (f x)) := by rw [List.map_map]; rfl
theorem TabOk.add {T : Tab} {x : Str} {e : Option Str} {c : Int} (ok : TabOk T) (h1 : x ∉ T.names) (h2 : ∀ y, e = some y → y ∈ T.names) (h3 : 0 ≤ c) (hl : T.forms.length < 100000) : TabOk (T.add x e c) := by
  have hn : (T.add x e c).names = T.names ++ [x] := by unfold Tab.add Tab.names; rw [List.map_append]; rfl
  have sub : ∀ y ∈ T.names, y ∈ (T.add x e c).names := fun y hy => by rw [hn]; exact List.mem_append.mpr (.inl hy)
  have hf : ∀ y, y ∈ T.names → fieldsF (T.add x e c).forms y = fieldsF T.forms y := fun y hy => by
    have hyx : y ≠ x := fun z => h1 (by rw [← z]; exact hy)
    unfold fieldsF Tab.add
    rw [lineF_add hyx]
    congr 1
    refine List.map_congr_left fun z hz => ?_
    have hz2 : z ∈ T.names := lineF_mem hz
    unfold ownF
    rw [valG_app]
    obtain ⟨e', c', q⟩ := val_of_mem hz2
    rw [q]; rfl
  refine ⟨ok.fm.add h1 h2 h3, by unfold Tab.add; rw [List.length_append]; exact hl, ok.bk.more sub, ok.sk.more sub, ok.tk.more sub, fun y b hb => ?_, fun y b hb => ?_⟩
  · obtain ⟨a1, a2⟩ := ok.ro y b hb
    refine ⟨a1, fun r hr => ⟨?_, (a2 r hr).2⟩⟩
    have hy : y ∈ T.names := ok.bk.2 y (List.mem_map.mpr ⟨_, hb, rfl⟩)
    have h := (a2 r hr).1
    unfold okRow at h ⊢
    by_cases hu : r.1 = Str.ofString ""
    · rw [if_pos hu] at h ⊢; exact h
    · rw [if_neg hu, Bool.and_eq_true] at h ⊢
      obtain ⟨m1, m2⟩ := h
      have m1' := of_decide_eq_true m1
      refine ⟨decide_eq_true (sub _ m1'), ?_⟩
      rw [List.all_eq_true] at m2 ⊢
      intro t ht
      have := m2 t ht
      unfold okLink at this ⊢
      rw [hf y hy, hf r.1 m1']
      exact this
  · obtain ⟨a1, a2⟩ := ok.po y b hb
    refine ⟨a1, fun r hr => ?_⟩
    have hy : y ∈ T.names := ok.sk.2 y (List.mem_map.mpr ⟨_, hb, rfl⟩)
    have h := a2 r hr
    unfold okPart at h ⊢
    rw [hf y hy]
    exact h
theorem small1000000 {n : Nat} (h : n ≤ 100000) : n < sizeLine := by show n < 16777216; omega
theorem fld_m2 {K : PySem.W.Frag} {μ : Mu} {p C : Addr} {names : List Str} {gs : List (Str × D)} {f f' : Str} {i : Nat} {d : D} {R : D → Prop} (m : μ p = some (.ins C gs)) (T : Kls K C names) (e : ixS f (gs.map (·.1)) = some i) (hf : f ∈ names) (h : gs[i]? = some (f', d)) (r : R d) : FldQ K μ (.ref p) f R :=
  fld_m m T e hf (by rw [List.getElem?_map, h]; rfl) r
theorem fld_f2 {K : PySem.W.Frag} {μ : Mu} {C : Addr} {names : List Str} {gs : List (Str × D)} {f f' : Str} {i : Nat} {d : D} {R : D → Prop} (T : Kls K C names) (e : ixS f (gs.map (·.1)) = some i) (hf : f ∈ names) (h : gs[i]? = some (f', d)) (r : R d) : FldQ K μ (.ins C gs) f R :=
  fld_f T e hf (by rw [List.getElem?_map, h]; rfl) r
end DL

set_option Elab.async false
set_option linter.all false
set_option maxRecDepth 100000
set_option maxHeartbeats 2000000
namespace DL
open PySem PySem.Spec PyProof.Rows L2
section
variable {X : Cx} {o e : Expr} {es : List Expr} {kws : List Keyword} {ta : TE} {t tk : TA} {C f : Addr} {fd : FuncData} {ps ks : List Str} {k n : Nat} {sp : Sp} {CX : CXT} {E : L2.St → XK} {m : Str} {apos pos : Pos} {g : List Value → List Value → List Value} {gV : List V → List V → List V}
theorem pe_methNS {pl : Sem Bool} (he : PE X o ta) (c : Cls X.K C) (hm : Meth X.K C m f) (F : FnOk X.prog X.w X.K X.mg X.base CX k f fd ps sp) (hr : Room k X.A) (hb : KBn X.K fd ps n ks g gV) (hx : ∀ σ, PassesAt CX X σ (E σ)) (ha : PA X (e :: es) t) (hkw : PK X kws tk)
    (hall : (backToKw pos (keywordEach kws X.env)).all (·.1.isSome) = true) (hks : (backToKw pos (keywordEach kws X.env)).filterMap (·.1) = ks)
    (hst : starEach (e :: es) X.env = (false, eval e X.env) :: starEach es X.env) (hpl : ((backTo pos (starEach (e :: es) X.env)).any (·.1) || (backToKw pos (keywordEach kws X.env)).any (·.1.isNone)) = false)
    (ht : eval (.Call (.Attribute o m apos) (e :: es) kws pos) X.env = (do
      let ov ← eval o X.env
      standAt apos.atName
      let (f, first) ← holding [ov] (getMethod ov m pl)
      callWith pos f first (backTo pos (starEach (e :: es) X.env)) (backToKw pos (keywordEach kws X.env)))) :
    PE X (.Call (.Attribute o m apos) (e :: es) kws pos) (tMethNS C m n ks.length sp gV E ta t tk) := by
  refine ⟨fun pins s σ H Q I h => ?_⟩
  refine PySem.W.methodCall_KW (pl := pl) (thn (he.run pins s σ H _ I h) fun u s1 ⟨x, H1, I1, rx, a, dx, fs, ex, ea, l, q⟩ => ?_) ht
  subst ex
  obtain rfl : u = Value.ref a := rx
  refine getmeth_ok I1 ea c hm l ?_
  refine PySem.W.callWith_KW (first := [.ref a]) (h₀ := X.base) I.ok.mod.kin hm.kp hall (thn (ha.run pos pins s1 σ H1 _ I1 q) fun us s2 ⟨vs, H2, I2, r, q2⟩ => thn (hkw.run pos pins s2 σ H2 _ I2 q2) fun ws s3 ⟨zs, H3, I3, rz, l1, l2, q3⟩ => ⟨I3.kIn, ?_⟩) hpl hst
  rw [hks]
  exact run_NS (us := .ref a :: us) (vs := .ref a :: vs) F hr hb (hx σ) I3 (.cons rfl r) rz l1 l2 q3
end
section
variable {X : Cz} {Γ Γ' : Gm} {μ μ' : Mu} {a b c e o : Expr} {es : List Expr} {pos p0 p2 : Pos} {Q : Mu → D → Prop} {k : Kt}
theorem we_methK {pl : Sem Bool} {m : Str} {C : Addr} {s : Spc} {apos : Pos} {kws : List Keyword} {g : {α : Type} → List α → List α → List α} (T : CmK X C m ((e :: es).length + 1) (kws.filterMap (·.arg)) g s)
    (h : WE X o Γ μ fun μ1 x => Req (RcvQ μ1 x C m) <| WA X (e :: es) Γ μ1 fun μ2 ds => WKw X kws Γ μ2 fun μ3 zs => Req (ds.length = (e :: es).length) <| Req (zs.length = (kws.filterMap (·.arg)).length) <| s (g (x :: ds) zs) μ3 Q (X.xd Γ))
    (hall : (backToKw pos (keywordEach kws X.env)).all (·.1.isSome) = true := by rfl) (hks : (backToKw pos (keywordEach kws X.env)).filterMap (·.1) = kws.filterMap (·.arg) := by rfl)
    (hst : starEach (e :: es) X.env = (false, eval e X.env) :: starEach es X.env := by rfl) (hpl : ((backTo pos (starEach (e :: es) X.env)).any (·.1) || (backToKw pos (keywordEach kws X.env)).any (·.1.isNone)) = false := by rfl)
    (ht : eval (.Call (.Attribute o m apos) (e :: es) kws pos) X.env = (do
      let ov ← eval o X.env
      standAt apos.atName
      let (f, first) ← holding [ov] (getMethod ov m pl)
      callWith pos f first (backTo pos (starEach (e :: es) X.env)) (backToKw pos (keywordEach kws X.env))) := by rfl) : WE X (.Call (.Attribute o m apos) (e :: es) kws pos) Γ μ Q := fun Z σ H en ok tk => by
  obtain ⟨k, f, fd, ps, M, F, hr, hb⟩ := T.ex
  refine toS (pe_methNS pe_S T.cl M F hr hb tk.pass pa_S pk_S hall hks hst hpl ht) ?_
  refine h.use (Go.refl ok) en tk fun v H1 μ1 x g1 _ en1 i1 q1 => ?_
  obtain ⟨⟨gs, hi, hn⟩, q1⟩ := q1
  obtain ⟨a, dx, fs, rfl, hH, hk, t⟩ := hi.at g1.ok i1
  refine ⟨a, dx, fs, rfl, hH, look_none (by rw [hk]; exact hn), ?_⟩
  refine q1.use g1 en1 tk fun vs H2 μ2 ds g2 g2' en2 i2 q2 => ?_
  refine q2.use g2 en2 tk fun zs H3 μ3 es' g3 g3' en3 i3 q3 => ?_
  obtain ⟨l1, l2, q3⟩ := q3
  have l1' : vs.length = (e :: es).length := i2.length.trans l1
  have l2' : zs.length = (kws.filterMap (·.arg)).length := i3.length.trans l2
  exact ⟨by rw [List.length_cons, l1'], l2', lift_of T.mono g3 en3 (T.rel (by rw [List.length_cons, l1']) l2' (.cons (i1.mono (g2'.trans g3').fz) (i2.mono g3'.fz)) i3) q3⟩
end
theorem updM_none {μ : Mu} {p q : Addr} {o : MO} (h : updM μ p o q = none) : q ≠ p ∧ μ q = none := by
  have hne : q ≠ p := fun e => by rw [e, updM_same] at h; cases h
  rw [updM_ne hne] at h
  exact ⟨hne, h⟩
theorem ws_mu {X : Cz} {st : Stmt} {Γ : Gm} {μ μ' : Mu} {k : Kt} (e : μ = μ') (h : WS X st Γ μ' k) : WS X st Γ μ k := by rw [e]; exact h
theorem wb_mu {X : Cz} {st : List Stmt} {Γ : Gm} {μ μ' : Mu} {k : Kt} (e : μ = μ') (h : WB X st Γ μ' k) : WB X st Γ μ k := by rw [e]; exact h
theorem SeqL.kn {C : Addr} {k : KA} {T : Tab} {nts : List (Key × D)} {μ : Mu} {x : D} {ds : List D} (h : SeqL μ x ds) (fr : ∀ p ∈ k.objs, μ p = none) : SeqL (kndM C k T nts μ) x ds := by
  rcases h with h | h | ⟨p, h, m⟩
  · exact .inl h
  · exact .inr (.inl h)
  · exact .inr (.inr ⟨p, h, by rw [kndM_ne fun z => by rw [fr p z] at m; cases m]; exact m⟩)
theorem kndM_kndM {C : Addr} {k : KA} {T T' : Tab} {n n' : List (Key × D)} {μ : Mu} (ne : k.objs.Nodup) (ok : TabOk T) : kndM C k T n (kndM C k T' n' μ) = kndM C k T n μ := by
  have h := kndM_at (C := C) (k := k) (T := T) (nts := n) (μ := kndM C k T' n' μ) ne ok
  refine kndM_ext ne h.a h.f h.b h.s h.t ?_ fun p hp => ?_
  · unfold kndM
    have h := ne
    unfold KA.objs at h
    simp only [List.nodup_cons, List.mem_cons, List.not_mem_nil, or_false, not_or] at h
    obtain ⟨⟨h1, h2, h3, h4, h5⟩, ⟨h6, h7, h8, h9⟩, ⟨h10, h11, h12⟩, ⟨h13, h14⟩, h15, _⟩ := h
    rw [updM_ne fun e => h5 e.symm, updM_ne fun e => h9 e.symm, updM_ne fun e => h12 e.symm, updM_ne fun e => h14 e.symm, updM_ne fun e => h15 e.symm, updM_same]
  · rw [kndM_ne hp, kndM_ne hp]
/-- isinstance(x, T), x an object that may be changed, too -/
def KindA (μ : Mu) (x : D) (t : String) (R : Bool → Prop) : Prop := KindQ x t R ∨ ∃ p ds r, x = .ref p ∧ μ p = some (.lst ds) ∧ kitB "list" t = some r ∧ R r
theorem kinda_q {μ : Mu} {x : D} {t k : String} {r : Bool} {R : Bool → Prop} (e : kindD x = some k) (e2 : kitB k t = some r) (h : R r) : KindA μ x t R := .inl ⟨k, r, e, e2, h⟩
theorem kinda_m {μ : Mu} {p : Addr} {ds : List D} {t : String} {r : Bool} {R : Bool → Prop} (m : μ p = some (.lst ds)) (e2 : kitB "list" t = some r) (h : R r) : KindA μ (.ref p) t R := .inr ⟨p, ds, r, rfl, m, e2, h⟩
theorem we_isiA {X : Cz} {Γ : Gm} {μ : Mu} {e : Expr} {pos p0 : Pos} {Q : Mu → D → Prop} {T : Str} {t : String} {p1 : Pos} (B : Bl X "isinstance") (BT : Bl X T) (hv : bootBuiltins T = some (.type t)) (h : WE X e Γ μ fun μ1 x => KindA μ1 x t fun r => Q μ1 (.bl r))
    (hn : T ≠ "__name__" := by decide) (hd : (T == ("__debug__" : Str)) = false := by decide)
    (he : starEach [e, .Name T p1] X.env = (false, eval e X.env) :: starEach [.Name T p1] X.env := by rfl) (hpl : (backTo pos (starEach [.Name T p1] X.env)).any (·.1) = false := by rfl) : WE X (.Call (.Name "isinstance" p0) [e, .Name T p1] [] pos) Γ μ Q := fun Z σ H en ok tk => by
  refine toS (pe_callB call_isi B.gl B.mg (by decide +kernel) (pa_cons pe_S (pa_cons (pe_bltn (v := .ty t) BT.gl BT.mg hv rfl hn hd) pa_nil) he) (by decide) (by decide) he hpl) ?_
  refine h.use (Go.refl ok) en tk fun v H1 μ1 d g1 _ en1 i1 q1 => ?_
  rcases q1 with ⟨k, r, hk, hr, q⟩ | ⟨p, ds, r, rfl, m, hr, q⟩
  · exact ⟨v, .ty t, _, _, r, rfl, .ty t, kindD_ok i1 hk, kit_ty hr, μ1, _, g1, .bl _, q⟩
  · cases isRef i1
    obtain ⟨vs, hH, _⟩ := g1.ok.at_ _ _ m
    exact ⟨_, .ty t, _, _, r, rfl, .ty t, .base (.lst hH), kit_ty hr, μ1, _, g1, .bl _, q⟩
theorem we_lcN {X : Cz} {Γ : Gm} {μ : Mu} {elt tg iter : Expr} {ifs : List Expr} {scope : Scope} {own : List (Str × Nat)} {pos : Pos} {vs : List Nat} {Q : Mu → D → Prop} (hc : X.calm = true) (hN : X.N.Nodup) (ok : BlkOk X.N X.env.scope scope own) (hn : NoneAt Γ (own.map (·.2))) (hv : ∀ i ∈ vs, i ∈ own.map (·.2))
    (h : WI X tg iter Γ μ fun μ1 ds G => Lc X elt tg ifs scope vs Γ μ1 ds G fun acc μ' => NewL μ' acc Q) (hs : ∀ x, foldedSetIterable iter X.env x = pure x := by intro _; rfl) : WE X (.ListComp elt [⟨tg, iter, ifs, 0⟩] scope pos) Γ μ Q := fun Z σ H en okm tk => by
  refine toS (pe_lc hc hN pi_S ok pgb_S pts_S peb_S hs) ?_
  refine lc_read hn hv en okm tk (fun D μ1 H1 μ' H' acc ws hD g1 ok' fz' zk' hl t' q => ?_) h
  rcases q with q | q
  · obtain ⟨a1, a2⟩ := lc_fix hD g1 ok' fz' zk' hl t'
    exact ⟨μ', _, a1, a2, q⟩
  · obtain ⟨a1, a2⟩ := lc_mut hD g1 ok' fz' zk' hl t'
    exact ⟨_, _, a2, .ref D, q D a1⟩
theorem wg_sub {X : Cz} {tg : Expr} {vs vs' : List Nat} {d : D} {Γ : Gm} {μ : Mu} {N : Gm → Mu → Prop} (h : WG X tg vs d Γ μ N) (s : ∀ i ∈ vs, i ∈ vs') : WG X tg vs' d Γ μ N := fun Z σ H v en ok tk is => (h Z σ H v en ok tk is).mono fun σ' H' ⟨p, q⟩ => ⟨p, fun ws hw => q ws fun i hi => hw i (s i hi)⟩
section
variable {X : Cz} {P : Program} {w : World} {K : PySem.W.Frag} {mg : Str → Option Value} {base : Heap} {k : Nat} {N : List Str} {sc : Scope} {Γ : Gm} {μ : Mu} {kt : Kt} {elt tg iter c : Expr} {ifs : List Expr} {scope : Scope} {pos spos px : Pos} {vs : List Nat} {x : Str} {i : Nat} {body : List Stmt}
theorem ctx_lcN {Q : Mu → D → Prop} (h : Ctx X P w K mg base k N sc) (own : List (Str × Nat)) (q : WI X tg iter Γ μ fun μ1 ds G => Lc X elt tg ifs scope vs Γ μ1 ds G fun acc μ' => NewL μ' acc Q)
    (bc : blkC N sc scope own = true := by decide +kernel) (hn : NoneAt Γ (own.map (·.2)) := by repeat (first | exact trivial | refine ⟨rfl, ?_⟩)) (hv : ∀ i ∈ vs, i ∈ own.map (·.2) := by decide)
    (hs : ∀ x, foldedSetIterable iter X.env x = pure x := by intro _; rfl) : WE X (.ListComp elt [⟨tg, iter, ifs, 0⟩] scope pos) Γ μ Q := we_lcN h.calm h.nd (h.blkOk bc) hn hv q hs
end
theorem wgl_sub {X : Cz} {tgs : List Expr} {vs vs' : List Nat} {ds : List D} {Γ : Gm} {μ : Mu} {N : Gm → Mu → Prop} (h : WGl X tgs vs ds Γ μ N) (s : ∀ i ∈ vs, i ∈ vs') : WGl X tgs vs' ds Γ μ N := fun Z σ H ws en ok tk is => (h Z σ H ws en ok tk is).mono fun σ' H' ⟨p, q⟩ => ⟨p, fun us hu => q us fun i hi => hu i (s i hi)⟩
theorem wg_nameV {X : Cz} {x : Str} {pos : Pos} {i : Nat} {vs : List Nat} {d : D} {Γ Γ' : Gm} {μ : Mu} {N : Gm → Mu → Prop} (n : Nw X x i) (s : SetTo Γ i d Γ') (hi : i ∈ vs) (h : N Γ' μ) : WG X (.Name x pos) vs d Γ μ N := wg_sub (wg_name n s h) fun j hj => by rw [List.mem_singleton.mp hj]; exact hi
theorem wgl_consV {X : Cz} {tg : Expr} {tgs : List Expr} {vs : List Nat} {d : D} {ds : List D} {Γ : Gm} {μ : Mu} {N : Gm → Mu → Prop} (h : WG X tg vs d Γ μ fun Γ1 μ1 => WGl X tgs vs ds Γ1 μ1 N)
    (hs : (assignEach (tg :: tgs) X.env).map (·.2) = assign tg X.env :: (assignEach tgs X.env).map (·.2) := by rfl) : WGl X (tg :: tgs) vs (d :: ds) Γ μ N := wgl_sub (wgl_cons h hs) fun i hi => (List.mem_append.mp hi).elim id id
theorem wgl_nilV {X : Cz} {vs : List Nat} {Γ : Gm} {μ : Mu} {N : Gm → Mu → Prop} (h : N Γ μ) : WGl X [] vs [] Γ μ N := wgl_sub (wgl_nil h) fun i hi => by cases hi
end DL

set_option Elab.async false
set_option linter.all false
set_option maxRecDepth 100000
set_option maxHeartbeats 2000000
namespace DL
open PySem PySem.Spec PyProof.Rows L2
section
variable {X : Cz} {Γ Γ' : Gm} {μ μ' : Mu} {a b c e f o : Expr} {lo hi : Option Expr} {es : List Expr} {pos p0 p1 p2 : Pos} {Q : Mu → D → Prop} {k : Kt}
theorem newl_go {K : PySem.W.Frag} {Z : Addr → Prop} {μ0 μ1 : Mu} {H0 H : Hp} {l : Addr} {vs : List V} {ds : List D} (g : Go K Z μ0 H0 μ1 H) (t : IsA K (Av μ1 Z) H vs ds) (hl : H l = none) (q : NewL μ1 ds Q) : PostE K Z μ0 H0 Q (.ref l) (upd H l (.lst vs)) := by
  rcases q with q | q
  · exact ⟨μ1, _, g.trans (Go.frz g.ok hl _), Is.newL g.ok hl t, q⟩
  · exact ⟨_, _, g.trans (Go.put g.ok (.lst ds) (.lst vs) (.inl hl) fun m => ⟨_, upd_same, m t⟩), .ref l, q l (g.ok.fresh hl).1⟩
/-- x[l:u] of a tuple, of a list -/
def SlQ (μ : Mu) (x : D) (l u : Option Int) (Q : Mu → D → Prop) : Prop := (∃ ds, x = .tup ds ∧ Q μ (.tup (cutD ds l u))) ∨ ∃ ds, SeqL μ x ds ∧ NewL μ (cutD ds l u) Q
theorem sl_t {ds : List D} {l u : Option Int} (q : Q μ (.tup (cutD ds l u))) : SlQ μ (.tup ds) l u Q := .inl ⟨ds, rfl, q⟩
theorem sl_l {ds : List D} {l u : Option Int} (q : NewL μ (cutD ds l u) Q) : SlQ μ (.lst ds) l u Q := .inr ⟨ds, .l, q⟩
theorem we_slA (h : WE X a Γ μ fun μ1 x => WO X lo Γ μ1 fun μ2 l => WO X hi Γ μ2 fun μ3 u => SlQ μ3 x l u Q) : WE X (.Subscript a (.Slice lo hi none p2) pos) Γ μ Q := fun Z σ H en ok tk => by
  refine toS (pe_slice (SlR.or sl_tupA sl_list) pe_S po_S po_S) ?_
  refine h.use (Go.refl ok) en tk fun v H1 μ1 d g1 _ en1 i1 q1 => ?_
  refine q1.use g1 en1 tk fun l H2 μ2 g2 g2' en2 q2 => ?_
  refine q2.use g2 en2 tk fun u H3 μ3 g3 g3' en3 q3 => ?_
  have i3 := (i1.mono g2'.fz).mono g3'.fz
  rcases q3 with ⟨ds, rfl, q⟩ | ⟨ds, sq, q⟩
  · refine .inl ?_
    cases i3 with
    | tup r t =>
      refine ⟨_, _, rfl, r.sq, fun hw => ⟨μ3, _, g3, ?_, q⟩, fun _ p hp => ⟨μ3, _, g3.trans (Go.frz g3.ok hp _), Is.newT g3.ok hp (cut_is t _ _), q⟩⟩
      rw [t.length] at hw
      have e : cutD ds l u = ds := by
        unfold cutD
        rw [hw.1, hw.2]
        simp
      rw [e]
      exact .tup r t
  · obtain ⟨p, vs, rfl, s, t⟩ := sq.sq g3.ok i3
    exact .inr ⟨p, vs, rfl, s, fun r hr => newl_go g3 (cut_is t _ _) hr q⟩
/-- xs + ys, lists -/
theorem we_addN (h : WE X a Γ μ fun μ1 x => WE X b Γ μ1 fun μ2 y => ∃ ds es, SeqR μ2 x ds ∧ SeqR μ2 y es ∧ Req (ds.length + es.length ≤ sizeLine) (NewL μ2 (ds ++ es) Q)) : WE X (.BinOp a .Add b pos) Γ μ Q := fun Z σ H en ok tk => by
  refine toS (pe_op op_catR pe_S pe_S) ?_
  refine h.use (Go.refl ok) en tk fun v H1 μ1 d g1 _ en1 i1 q1 => ?_
  refine q1.use g1 en1 tk fun w H2 μ2 d2 g2 g2' en2 i2 q2 => ?_
  obtain ⟨ds, es, s1, s2, hl, q⟩ := q2
  obtain ⟨p, vs, rfl, r1, t1⟩ := s1.rd g2.ok (i1.mono g2'.fz)
  obtain ⟨p', vs', rfl, r2, t2⟩ := s2.rd g2.ok i2
  exact ⟨_, _, _, _, rfl, rfl, r1, r2, by rw [t1.length, t2.length]; exact hl, fun r hr => newl_go g2 (t1.append t2) hr q⟩
/-- xs * n -/
def rRepR : R2 := fun x y H Q => ∃ l k xs, x = .ref l ∧ y = .int k ∧ Rd H l (.lst xs) ∧ -(2 ^ 63) ≤ k ∧ k < 2 ^ 63 ∧ xs.length * k.toNat ≤ sizeLine ∧
  ∀ p, H p = none → Q (.ref p) (upd H p (.lst (List.replicate k.toNat xs).flatten))
theorem op_repR {X : Cx} : OpR X (binaryOp .Mult) rRepR := by
  intro pins s σ H x y v u Q I rx ry h
  obtain ⟨l, k, xs, rfl, rfl, hH, h1, h2, hz, q⟩ := h
  cases rx
  obtain ⟨t, rfl⟩ := ry
  obtain ⟨z, its, n, r, e⟩ := hH.ok I.hok
  have hl := r.length
  have hlen : its.toArray.size * k.toNat ≤ sizeLine := by rw [List.size_toArray, ← hl]; exact hz
  have hcap : ¬ its.toArray.size * k.toNat > (2 ^ 63 - 1) / 8 := by
    have : (sizeLine : Nat) ≤ (2 ^ 63 - 1) / 8 := by decide
    omega
  have hfit : ¬ (!Builtin.List.listFitsIndex k) = true := by
    rw [fitsIndex_both h1 h2]
    exact Bool.false_ne_true
  have hlong : ¬ Builtin.List.listTooLong (its.toArray.size * k.toNat) = true := by
    rw [notLongL hlen]
    exact Bool.false_ne_true
  have hnew : List.foldl (fun x1 x2 => x1 ++ x2) #[] (List.replicate (if its.toArray.isEmpty = true then 0 else k.toNat) its.toArray) = (List.replicate k.toNat its).flatten.toArray := by
    have f0 : ∀ m : Nat, List.foldl (fun x1 x2 => x1 ++ x2) #[] (List.replicate m its.toArray) = (List.replicate m its).flatten.toArray := fun m => by
      have := foldl_rep its m []
      rw [List.nil_append] at this
      exact this
    rw [f0]
    cases its with
    | nil => simp
    | cons a r' => rw [if_neg (by simp)]
  refine wpAny_binaryOp_repeat_ref (T := "list") (U := "int") (by decide) ⟨_, e, rfl⟩ (fun s' => typeIs_int s' k t) noFill_list_mul F.fills_int_mul F.slot_int_rmul repeat_list F.slot_int_index.lookup
    (call_meets F.slot_int_rmul (typeIs_int s k t) F.entry_int_rmul (F.args_int_rmul_2 _ _) (int___rmul___int_list k t l its.toArray n)
      ⟨e, rfl, ⟨_, e, rfl⟩, call_meets F.slot_list_mul ⟨_, e, rfl⟩ F.entry_list_mul (F.args_list_mul_2 _ _) (AutoListH.list___mul___list_int_3 l its.toArray n k t hfit hcap hlong) ⟨e, ?_⟩⟩)
  rw [hnew]
  exact ⟨.ref _, _, I.lnew (t' := s.toks) (r.rep k.toNat) (by rw [PyProof.Rows.lm_len_rep_flat, Nat.mul_comm]; exact hz), rfl, q _ I.fresh⟩
theorem isA_rep {K : PySem.W.Frag} {A : Addr → Prop} {H : Hp} {vs : List V} {ds : List D} (t : IsA K A H vs ds) : ∀ n : Nat, IsA K A H (List.replicate n vs).flatten (List.replicate n ds).flatten
  | 0 => .nil
  | n + 1 => by
    rw [List.replicate_succ, List.replicate_succ, List.flatten_cons, List.flatten_cons]
    exact t.append (isA_rep t n)
/-- [x] * n, n from 0 -/
theorem we_repN (h : WE X a Γ μ fun μ1 x => WE X b Γ μ1 fun μ2 y => ∃ d, SeqR μ2 x [d] ∧ One y fun i => Req (0 ≤ i ∧ i ≤ 1000000) (NewL μ2 (List.replicate i.toNat d) Q)) : WE X (.BinOp a .Mult b pos) Γ μ Q := fun Z σ H en ok tk => by
  refine toS (pe_op op_repR pe_S pe_S) ?_
  refine h.use (Go.refl ok) en tk fun v H1 μ1 d g1 _ en1 i1 q1 => ?_
  refine q1.use g1 en1 tk fun w H2 μ2 d2 g2 g2' en2 i2 q2 => ?_
  obtain ⟨x, s1, i, rfl, ⟨h0, h1⟩, q⟩ := q2
  obtain ⟨p, vs, rfl, r1, t1⟩ := s1.rd g2.ok (i1.mono g2'.fz)
  rw [isInt i2]
  have e : (List.replicate i.toNat [x]).flatten = List.replicate i.toNat x := by simp
  have t := isA_rep t1 i.toNat
  rw [e] at t
  refine ⟨_, _, _, rfl, rfl, r1, by omega, by omega, ?_, fun r hr => newl_go g2 t hr q⟩
  rw [t1.length]
  show 1 * i.toNat ≤ 16777216
  omega
/-- sep.join(xs), xs a list of texts -/
theorem isStrs {K : PySem.W.Frag} {A : Addr → Prop} {H : Hp} : ∀ {ns : List Str} {vs : List V}, IsA K A H vs (ns.map D.str) → vs = ns.map V.str
  | [], _, h => by cases h; rfl
  | n :: ns, _, h => by
    cases h with
    | cons h t => rw [isStr h, isStrs t]; rfl
def StrQ (x : D) (R : Str → Prop) : Prop := ∃ z, x = .str z ∧ R z
theorem str_q {z : Str} {R : Str → Prop} (h : R z) : StrQ (.str z) R := ⟨z, rfl, h⟩
def StrsQ (μ : Mu) (x : D) (R : List Str → Prop) : Prop := ∃ ys : List Str, Seq μ x (ys.map .str) ∧ R ys
theorem strs_l {ys : List Str} {R : List Str → Prop} (h : R ys) : StrsQ μ (.lst (ys.map .str)) R := ⟨ys, .inl rfl, h⟩
theorem strs_m {p : Addr} {ys : List Str} {R : List Str → Prop} (m : μ p = some (.lst (ys.map .str))) (h : R ys) : StrsQ μ (.ref p) R := ⟨ys, .m m, h⟩
theorem we_join {ap : Pos} (h : WE X o Γ μ fun μ1 x => StrQ x fun z => WE X e Γ μ1 fun μ2 y => StrsQ μ2 y fun ys => Req ((ys.map (·.length)).sum + ys.length * z.length ≤ 16777216) (Q μ2 (.str (Txt.join z ys))))
    (hs : starEach [e] X.env = [(false, eval e X.env)] := by rfl) (hbase : attributeBase o "join" X.env (eval o X.env) = eval o X.env := by rfl) (hline : (ap.endLine == pos.line) = true := by rfl) : WE X (.Call (.Attribute o "join" ap) [e] [] pos) Γ μ Q := fun Z σ H en ok tk => by
  refine toS (pe_join pe_S pe_S hs hbase hline) ?_
  refine h.use (Go.refl ok) en tk fun v H1 μ1 d g1 _ en1 i1 q1 => ?_
  obtain ⟨z, rfl, q1⟩ := q1
  rw [isStr i1]
  refine ⟨⟨z, rfl⟩, ?_⟩
  refine q1.use g1 en1 tk fun w H2 μ2 d2 g2 g2' en2 i2 q2 => ?_
  obtain ⟨ys, sq, hb, q⟩ := q2
  obtain ⟨p, vs, rfl, s, t⟩ := sq.at g2.ok i2
  rw [isStrs t] at s
  exact ⟨z, p, ys, rfl, rfl, s, hb, μ2, _, g2, .str _, q⟩
/-- dict(pairs) -/
def pairD (kv : Key × D) : D := .tup [keyOf kv.1, kv.2]
theorem pairs_at {K : PySem.W.Frag} {A : Addr → Prop} {H : Hp} : ∀ {kds : List (Key × D)} {vs : List V}, IsA K A H vs (kds.map pairD) → ∃ (ps : List Addr) (kvs : List (Key × V)), vs = ps.map V.ref ∧ Paired (fun p kv => SqT K H p [kV kv.1, kv.2]) ps kvs ∧ KD K A H kvs kds
  | [], _, h => by cases h; exact ⟨[], [], rfl, .nil, .nil⟩
  | (k, d) :: r, _, h => by
    cases h with
    | cons i t =>
      obtain ⟨ps, kvs, e1, e2, e3⟩ := pairs_at t
      cases i with
      | tup rt ts =>
        cases ts with
        | cons i1 t2 => cases t2 with
          | cons i2 t3 =>
            cases t3
            have ek := key_is (k := k) i1 (by cases k <;> rfl)
            subst ek
            exact ⟨_ :: ps, (k, _) :: kvs, by rw [e1]; rfl, .cons rt.sq e2, .cons ⟨rfl, i2⟩ e3⟩
def PairsQ (μ : Mu) (x : D) (R : List (Key × D) → Prop) : Prop := ∃ kds, SeqL μ x (kds.map pairD) ∧ R kds
theorem we_dictP (hc : X.calm = true) (B : Bl X "dict") (h : WE X e Γ μ fun μ1 x => PairsQ μ1 x fun kds => ∀ p, μ1 p = none → Q (updM μ1 p (.dK (mergeG [] kds))) (.ref p))
    (he : starEach [e] X.env = (false, eval e X.env) :: starEach [] X.env := by rfl) (hpl : (backTo pos (starEach [] X.env)).any (·.1) = false := by rfl) : WE X (.Call (.Name "dict" p0) [e] [] pos) Γ μ Q := by
  refine we_t1 (call_dictP hc) B (by decide +kernel) ?_ (he := he) (hpl := hpl)
  refine h.mono fun μ1 d q1 => ?_
  intro Z μ0 H0 H v g i
  obtain ⟨kds, sq, q⟩ := q1
  obtain ⟨p, vs, rfl, s, t⟩ := sq.sq g.ok i
  obtain ⟨ps, kvs, rfl, hp, rel⟩ := pairs_at t
  exact ⟨p, ps, kvs, rfl, s, hp, fun l hl => ⟨_, _, g.trans (Go.putD g.ok (.inl hl) (rel.merge .nil)), .ref l, q l (g.ok.fresh hl).1⟩⟩
end
theorem mergeG_nodup {κ α : Type} [DecidableEq κ] : ∀ (more acc : List (κ × α)), ((acc ++ more).map (·.1)).Nodup → mergeG acc more = acc ++ more
  | [], acc, _ => by rw [List.append_nil]; rfl
  | p :: r, acc, h => by
    have hn : valG acc p.1 = none := by
      refine valG_none.mpr fun z => ?_
      rw [List.map_append, List.nodup_append] at h
      exact h.2.2 _ z _ (by rw [List.map_cons]; exact List.mem_cons_self) rfl
    show mergeG (putG acc p.1 p.2) r = _
    rw [putG_new _ hn, mergeG_nodup r, List.append_assoc]
    · rfl
    · rw [List.append_assoc]; exact h
theorem sKV_nodup {α : Type} {f : α → D} {kvs : List (Str × α)} (h : (kvs.map (·.1)).Nodup) : mergeG [] (sKV f kvs) = sKV f kvs := by
  rw [mergeG_nodup _ _ ?_, List.nil_append]
  rw [List.nil_append]
  have e : (sKV f kvs).map (·.1) = (kvs.map (·.1)).map Sum.inr := by unfold sKV; rw [List.map_map, List.map_map]; rfl
  rw [e]
  exact h.map _ fun a b h z => h (Sum.inr.inj z)
/-- a list of pairs with texts ahead -/
theorem pairs_S {α : Type} {f : α → D} {μ : Mu} {x : D} {kvs : List (Str × α)} {R : List (Key × D) → Prop} (s : SeqL μ x (kvs.map fun kv => .tup [.str kv.1, f kv.2])) (n : (kvs.map (·.1)).Nodup) (h : R (sKV f kvs)) (hR : R (sKV f kvs) → R (sKV f kvs) := id) : PairsQ μ x R := by
  refine ⟨sKV f kvs, ?_, h⟩
  have e : (sKV f kvs).map pairD = kvs.map fun kv => .tup [.str kv.1, f kv.2] := by unfold sKV; rw [List.map_map]; rfl
  rw [e]; exact s
theorem sub_letter {P : Program} {w : World} {μ : Mu} {z : Str} {i : Int} {R : D → Prop} (hl : z.length ≤ sizeLine) (h0 : 0 ≤ i) (h1 : i < (z.length : Int)) (r : ∀ c ∈ z.cps.toList, R (.str ⟨#[c]⟩)) : SubQ P w μ (.str z) (.int i) R := by
  obtain ⟨c, e, hc, _⟩ := atI_ex (ds := z.cps.toList) h0 (by rw [Array.length_toList]; exact h1)
  exact sub_s hl e (r c hc)
theorem ix_any {μ : Mu} {α : Type} {f : α → D} {xs : List α} {i : Int} {R : D → Prop} (h0 : 0 ≤ i) (h1 : i < ((xs.map f).length : Int)) (r : ∀ x ∈ xs, R (f x)) : IxQ μ (.lst (xs.map f)) (.int i) R := by
  obtain ⟨c, e, hc, _⟩ := atI_ex (ds := xs.map f) h0 h1
  obtain ⟨z, hz, rfl⟩ := List.mem_map.mp hc
  exact ix_l e (r z hz)
def NameOk (x : Str) : Prop := 1 ≤ x.length ∧ x.length ≤ 8 ∧ ∀ c ∈ x.cps.toList, 97 ≤ c ∧ c ≤ 122
instance (x : Str) : Decidable (NameOk x) := by unfold NameOk; infer_instance
theorem NameOk.ne {x : Str} (h : NameOk x) : x ≠ Str.ofString "" := fun z => by
  have := h.1
  rw [z] at this
  exact absurd this (by decide)
theorem join_cps : ∀ zs : List Str, (∀ z ∈ zs, ∃ c, z = ⟨#[c]⟩ ∧ 97 ≤ c ∧ c ≤ 122) → (Txt.join (Str.ofString "") zs).length = zs.length ∧ ∀ c ∈ (Txt.join (Str.ofString "") zs).cps.toList, 97 ≤ c ∧ c ≤ 122 := by
  intro zs
  have e : Txt.join (Str.ofString "") zs = Str.join (Str.ofString "") zs := by
    show Builtin.Str.glued (Str.ofString "") zs = _
    rw [StrLaws.glued_eq_join]
  rw [e]
  have ez : (Str.ofString "") = Str.empty := by decide
  rw [ez]
  clear e ez
  induction zs with
  | nil => intro _; exact ⟨rfl, fun c hc => by cases hc⟩
  | cons z r ih =>
    intro h
    obtain ⟨c, rfl, h1, h2⟩ := h z List.mem_cons_self
    obtain ⟨i1, i2⟩ := ih fun y hy => h y (List.mem_cons_of_mem _ hy)
    cases r with
    | nil => exact ⟨rfl, fun d hd => by
        have : d = c := by simpa [Str.join] using hd
        subst this; exact ⟨h1, h2⟩⟩
    | cons y r =>
      have e2 : Str.join Str.empty ((⟨#[c]⟩ : Str) :: y :: r) = (⟨#[c]⟩ : Str) ++ (Str.join Str.empty (y :: r)) := by
        show (⟨#[c]⟩ : Str) ++ Str.empty ++ _ = _
        rw [Str.append_empty]
      rw [e2]
      refine ⟨?_, fun d hd => ?_⟩
      · rw [Str.length_append, i1]
        show 1 + _ = _
        simp only [List.length_cons]; omega
      · rw [Str.cps_append, Array.toList_append] at hd
        rcases List.mem_append.mp hd with hd | hd
        · have : d = c := by simpa using hd
          subst this; exact ⟨h1, h2⟩
        · exact i2 d hd
theorem strs_of {P : Str → Prop} : ∀ {acc : List D}, (∀ d ∈ acc, ∃ z, d = .str z ∧ P z) → ∃ ys : List Str, acc = ys.map .str ∧ ys.length = acc.length ∧ ∀ z ∈ ys, P z
  | [], _ => ⟨[], rfl, rfl, fun _ h => by cases h⟩
  | d :: r, h => by
    obtain ⟨z, rfl, hz⟩ := h d List.mem_cons_self
    obtain ⟨ys, rfl, hl, hy⟩ := strs_of fun y hy => h y (List.mem_cons_of_mem _ hy)
    refine ⟨z :: ys, rfl, by rw [List.length_cons, List.length_cons, hl], fun y hm => ?_⟩
    rcases List.mem_cons.mp hm with e | hm
    · rw [e]; exact hz
    · exact hy y hm
section
variable {X : Cz} {Γ : Gm} {μ : Mu} {k : Kt} {sts : List Stmt} {p b g : Addr} {t : Bx} {o : MO}
theorem wb_dropU (hp : μ p = none) (q : WB X sts Γ μ k) : WB X sts Γ (updM μ p o) k := wb_drop updM_same (by rw [delM_upd hp]; exact q)
theorem wb_dropB (h1 : p ≠ b) (h2 : p ≠ g) (hp : μ p = none) (q : WB X sts Γ (bxM b g t μ) k) : WB X sts Γ (bxM b g t (updM μ p o)) k := wb_drop ((bxM_ne h1 h2).trans updM_same) (by rw [bxM_del h1 h2, delM_upd hp]; exact q)
theorem we_newPB {x : Str} {i : Nat} {ds : List D} {pos : Pos} {Q : Mu → D → Prop} (n : Nm X x i) (h : Γ[i]? = some (some (.ref p))) (h1 : p ≠ b) (h2 : p ≠ g) (hp : μ p = none) (q : NewL (bxM b g t μ) ds Q) : WE X (.Name x pos) Γ (bxM b g t (updM μ p (.lst ds))) Q := by
  rw [← bxM_upd h1 h2]
  exact we_newP n h (by rw [bxM_ne h1 h2]; exact hp) q
end
theorem fieldsF_add {fs : List (Str × Frm)} {x y : Str} {e : Option Str} {c : Int} (h1 : x ∉ fs.map (·.1)) (hy : y ∈ fs.map (·.1)) : fieldsF (fs ++ [(x, e, c)]) y = fieldsF fs y := by
  have hyx : y ≠ x := fun z => h1 (by rw [← z]; exact hy)
  unfold fieldsF
  rw [lineF_add hyx]
  congr 1
  refine List.map_congr_left fun z hz => ?_
  unfold ownF
  rw [valG_app]
  obtain ⟨e', c', q⟩ := val_of_mem (lineF_mem hz)
  rw [q]; rfl
theorem lineF_new {fs : List (Str × Frm)} {x : Str} {e : Option Str} {c : Int} : lineF (fs ++ [(x, e, c)]) x = x :: optL e (lineF fs) := by
  unfold lineF
  rw [List.reverse_append]
  show lineR ((x, e, c) :: fs.reverse) x = _
  rw [lineR_cons, if_pos rfl]
def sizeO (fs : List (Str × Frm)) : Option Str → Int
  | none => 0
  | some y => fieldsF fs y
theorem fieldsF_new {fs : List (Str × Frm)} {x : Str} {e : Option Str} {c : Int} (h1 : x ∉ fs.map (·.1)) : fieldsF (fs ++ [(x, e, c)]) x = c + sizeO fs e := by
  have o : ∀ {y}, y ∈ fs.map (·.1) → ownF (fs ++ [(x, e, c)]) y = ownF fs y := fun {y} hy => by
    unfold ownF
    rw [valG_app]
    obtain ⟨e', c', q⟩ := val_of_mem hy
    rw [q]; rfl
  have ox : ownF (fs ++ [(x, e, c)]) x = c := by
    unfold ownF
    rw [valG_app, show valG fs x = none from valG_none.mpr h1]
    rw [valG_cons, if_pos rfl]; rfl
  unfold fieldsF
  rw [lineF_new, List.map_cons, List.sum_cons, ox]
  congr 1
  cases e with
  | none => rfl
  | some y =>
    show ((lineF fs y).map _).sum = ((lineF fs y).map _).sum
    congr 1
    exact List.map_congr_left fun z hz => o (lineF_mem hz)
def szF (fs : List (Str × Frm)) : List (Option Key × D) := (none, .int 0) :: fs.map fun f => (some (.inr f.1), .int (fieldsF fs f.1))
def optK : Option Str → Option Key := Option.map .inr
theorem keyN_opt {e : Option Str} : keyN (optS e) = some (optK e) := by cases e <;> rfl
theorem szF_val {fs : List (Str × Frm)} {e : Option Str} (h : ∀ y, e = some y → y ∈ fs.map (·.1)) : valG (szF fs) (optK e) = some (.int (sizeO fs e)) := by
  unfold szF
  rw [valG_cons]
  cases e with
  | none => rw [if_pos (show ((none : Option Key), D.int 0).1 = optK none from rfl)]; rfl
  | some x =>
    rw [if_neg (by intro z; cases z)]
    show valG _ (some (Sum.inr x)) = some (D.int (fieldsF fs x))
    have hx := h x rfl
    generalize fieldsF fs = g
    clear h
    induction fs with
    | nil => cases hx
    | cons p r ih =>
      rw [List.map_cons, valG_cons]
      by_cases e : p.1 = x
      · rw [if_pos (by rw [e])]; rw [e]
      · rw [if_neg fun z => e (Sum.inr.inj (Option.some.inj z))]
        rcases List.mem_cons.mp hx with z | hx
        · exact absurd z.symm e
        · exact ih hx
theorem szF_put {fs : List (Str × Frm)} {x : Str} {e : Option Str} {c : Int} (h1 : x ∉ fs.map (·.1)) : putG (szF fs) (some (.inr x)) (.int (sizeO fs e + c)) = szF (fs ++ [(x, e, c)]) := by
  rw [Int.add_comm, ← fieldsF_new h1]
  rw [putG_new]
  · unfold szF
    rw [List.map_append, List.cons_append]
    congr 2
    refine List.map_congr_left fun f hf => ?_
    rw [fieldsF_add h1 (List.mem_map.mpr ⟨f, hf, rfl⟩)]
  · refine valG_none.mpr fun z => ?_
    unfold szF at z
    rw [List.map_cons, List.map_map] at z
    rcases List.mem_cons.mp z with z | z
    · cases z
    · obtain ⟨f, hf, hz⟩ := List.mem_map.mp z
      exact h1 (List.mem_map.mpr ⟨f, hf, Sum.inr.inj (Option.some.inj hz)⟩)
theorem szF_len {fs : List (Str × Frm)} : (szF fs).length = fs.length + 1 := by unfold szF; rw [List.length_cons, List.length_map]
@[reducible] def kndD (f : Str × Frm) : D := .tup [.str f.1, optS f.2.1, .int f.2.2]
/-- a list of kinds that the laws draw -/
structure CrewOk (fs : List (Str × Frm)) (n : Nat) : Prop where
  fm : FmOk fs
  len : fs.length ≤ n
  nm : ∀ f ∈ fs, NameOk f.1
  sz : ∀ x ∈ fs.map (·.1), fieldsF fs x ≤ 4
  ow : ∀ f ∈ fs, f.2.2 ≤ 4
/-- an object that nobody asks for once the value is there -/
theorem we_drop {X : Cz} {e : Expr} {Γ : Gm} {μ : Mu} {Q : Mu → D → Prop} (h : WE X e Γ μ fun μ1 d => ∃ p o, μ1 p = some o ∧ Q (delM μ1 p) d) : WE X e Γ μ Q := fun Z σ H en ok tk => by
  refine h.use (Go.refl ok) en tk fun v H1 μ1 d g1 _ en1 i1 q1 => ?_
  obtain ⟨p, o, hm, q⟩ := q1
  have g := Go.fix g1.ok p ⟨o, hm⟩
  exact ⟨_, d, g1.trans g, i1.mono g.fz, q⟩
theorem we_dropU {X : Cz} {e : Expr} {Γ : Gm} {μ : Mu} {Q : Mu → D → Prop} {p : Addr} {o : MO} (hp : μ p = none) (h : WE X e Γ (updM μ p o) fun μ1 d => μ1 = updM μ p o ∧ Q μ d) : WE X e Γ (updM μ p o) Q :=
  we_drop (h.mono fun μ1 d ⟨e, q⟩ => ⟨p, o, by rw [e]; exact updM_same, by rw [e, delM_upd hp]; exact q⟩)
theorem crew_names {fs : List (Str × Frm)} : (fs.map fun f => D.str f.1) = (fs.map (·.1)).map D.str := by rw [List.map_map]; rfl
theorem crew_elders {fs : List (Str × Frm)} : [D.non] ++ (fs.map fun f => D.str f.1) = ((none : Option Str) :: fs.map fun f => some f.1).map optS := by
  rw [List.map_cons, List.map_map]; rfl
theorem sum_line {fs : List (Str × Frm)} {x : Str} : ((lineF fs x).map fun y => ownF fs y).sum = fieldsF fs x := rfl
theorem val_own {fs : List (Str × Frm)} {x : Str} (h : x ∈ fs.map (·.1)) : ∃ e, valG fs x = some (e, ownF fs x) := by
  obtain ⟨e, c, q⟩ := val_of_mem h
  exact ⟨e, by unfold ownF; rw [q]; rfl⟩
theorem lineF_len {fs : List (Str × Frm)} {x : Str} : (lineF fs x).length ≤ fs.length := by
  have := lineR_len (r := fs.reverse) (x := x)
  rw [List.length_reverse] at this
  exact this
/-- more spare names than kinds -/
theorem spare_left {xs zs : List Str} (h : xs.length < zs.length) (n : zs.Nodup) : ∃ z ∈ zs, z ∉ xs := by
  refine Classical.byContradiction fun c => ?_
  have : zs.length ≤ xs.length := nodup_len n fun z hz => Classical.byContradiction fun hx => c ⟨z, hz, hx⟩
  omega
theorem fs_list {es : List Expr} {pos : Pos} {env : Env} : ∀ x, foldedSetIterable (.List es pos) env x = pure x := fun _ => rfl
theorem lc_box2 {X : Cz} {Γ : Gm} {μ : Mu} {elt tg : Expr} {scope : Scope} {vs : List Nat} {ds : List D} {G : Mu → Prop} {Pf : List D → Mu → Prop} {b g : Addr} {t : Bx} (T : D → Gm) (P : D → Prop) (c : Int) (hc0 : 0 ≤ c) (hG : ∀ t', G (bxM b g t' μ)) (hl : ds.length < sizeLine) (ht0 : BxOk t)
    (ht : ∀ X', Blk X scope X' → ∀ d ∈ ds, ∀ t', WG X' tg vs d Γ (bxM b g t' μ) fun Γ3 μ3 => Γ3 = T d ∧ μ3 = bxM b g t' μ)
    (he : ∀ X', Blk X scope X' → ∀ d ∈ ds, ∀ t', BxOk t' → t.cnt ≤ t'.cnt → t'.cnt ≤ t.cnt + c * (ds.length : Int) → WE X' elt (T d) (bxM b g t' μ) fun μ4 y => ∃ t2, μ4 = bxM b g t2 μ ∧ BxOk t2 ∧ t'.cnt ≤ t2.cnt ∧ t2.cnt ≤ t'.cnt + c ∧ P y)
    (fin : ∀ acc t', acc.length = ds.length → (∀ d ∈ acc, P d) → BxOk t' → t.cnt ≤ t'.cnt → t'.cnt ≤ t.cnt + c * (ds.length : Int) → Pf acc (bxM b g t' μ)) : Lc X elt tg [] scope vs Γ (bxM b g t μ) ds G Pf := by
  refine ⟨fun i acc μ' => ∃ t', μ' = bxM b g t' μ ∧ BxOk t' ∧ t.cnt ≤ t'.cnt ∧ t'.cnt ≤ t.cnt + c * (i : Int) ∧ acc.length = i ∧ ∀ d ∈ acc, P d, ⟨t, rfl, ht0, Int.le_refl _, by simp, rfl, fun d h => by cases h⟩, fun i acc μ' _ ⟨t', e, _⟩ => by rw [e]; exact hG t', fun i d acc μ' hd h => ?_, fun acc μ' h => ?_⟩
  · obtain ⟨t', rfl, h1, h0, h2, h3, h4⟩ := h
    have hm : d ∈ ds := List.mem_of_getElem? hd
    have hi : i < ds.length := (List.getElem?_eq_some_iff.mp hd).1
    have hle : c * (i : Int) ≤ c * (ds.length : Int) := Int.mul_le_mul_of_nonneg_left (by omega) hc0
    refine ⟨T d, fun X' bl => ht X' bl d hm t', fun X' bl => wts_nil ?_⟩
    rw [if_pos rfl]
    intro X' bl
    refine (he X' bl d hm t' h1 h0 (by omega)).mono fun μ4 y h5 => ?_
    obtain ⟨t2, rfl, h6, h9, h7, h8⟩ := h5
    refine ⟨by omega, t2, rfl, h6, by omega, ?_, by rw [List.length_append, List.length_singleton]; omega, fun z hz => ?_⟩
    · have e : c * ((i + 1 : Nat) : Int) = c * (i : Int) + c := by
        rw [Int.natCast_add, Int.mul_add]
        simp
      rw [e]
      omega
    · rcases List.mem_append.mp hz with hz | hz
      · exact h4 z hz
      · simp only [List.mem_cons, List.not_mem_nil, or_false] at hz
        subst hz
        exact h8
  · obtain ⟨t', rfl, h1, h0, h2, h3, h4⟩ := h
    exact fin acc t' h3 h4 h1 h0 h2
def SubO (P : Program) (w : World) (μ : Mu) (p : Addr) (o : MO) (y : D) (R : D → Prop) : Prop := μ p = some o → SubQ P w μ (.ref p) y R
def InO (μ : Mu) (p : Addr) (o : MO) (x : D) (R : Bool → Prop) : Prop := μ p = some o → InQ μ x (.ref p) R
def LenO (μ : Mu) (p : Addr) (o : MO) (R : Int → Prop) : Prop := μ p = some o → LenQ μ (.ref p) R
def ListO (μ : Mu) (p : Addr) (o : MO) (R : List D → Prop) : Prop := μ p = some o → ListQ μ (.ref p) R
section
variable {P : Program} {w : World} {μ : Mu} {p : Addr} {o : MO} {y d : D} {ds : List D} {i : Int} {x : Str} {α : Type} {f : α → D} {kvs : List (Str × α)} {xs : List Str}
theorem sub_at {R : D → Prop} (m : μ p = some o) (h : SubO P w μ p o y R) : SubQ P w μ (.ref p) y R := h m
theorem in_at {R : Bool → Prop} (m : μ p = some o) (h : InO μ p o y R) : InQ μ y (.ref p) R := h m
theorem len_at {R : Int → Prop} (m : μ p = some o) (h : LenO μ p o R) : LenQ μ (.ref p) R := h m
theorem list_at {R : List D → Prop} (m : μ p = some o) (h : ListO μ p o R) : ListQ μ (.ref p) R := h m
theorem so_l {R : D → Prop} (e : atI ds i = some d) (r : R d) : SubO P w μ p (.lst ds) (.int i) R := fun m => sub_ix (ix_m m e r)
theorem so_S {R : D → Prop} {a : α} (v : valG kvs x = some a) (r : R (f a)) : SubO P w μ p (.dK (sKV f kvs)) (.str x) R := fun m => sub_dS m v r
theorem so_lkS {R : D → Prop} {ob : Obj} {vs : List (Key × V)} {a : α} (v : valG kvs x = some a) (r : R (f a)) : SubO P w μ p (.lkK ob vs (sKV f kvs)) (.str x) R := fun m => sub_lkS m v r
theorem so_n {R : D → Prop} {kds : List (Option Key × D)} {k : Option Key} (e : keyN y = some k) (v : valG kds k = some d) (r : R d) : SubO P w μ p (dnM P w p kds) y R := fun m => sub_n m e v r
theorem so_dl {R : D → Prop} {kds : List (Key × D)} {k : Key} (j : Nat) (e : keyD y = some k) (h1 : ixK k (kds.map (·.1)) = some j) (h2 : (kds.map (·.2))[j]? = some d) (r : R d) : SubO P w μ p (.dK kds) y R := fun m => sub_dl j m e h1 h2 r
theorem io_S {R : Bool → Prop} (r : R (valG kvs x).isSome) : InO μ p (.dK (sKV f kvs)) (.str x) R := fun m => in_dS m r
theorem io_s {R : Bool → Prop} (r : R (decide (x ∈ xs))) : InO μ p (.lst (xs.map .str)) (.str x) R := fun m => in_ms m r
theorem lo_l {R : Int → Prop} (r : R (ds.length : Int)) : LenO μ p (.lst ds) R := fun m => len_m m r
theorem lo_d {R : Int → Prop} {kds : List (Key × D)} (r : R (kds.length : Int)) : LenO μ p (.dK kds) R := fun m => len_d m r
theorem to_l {R : List D → Prop} (r : R ds) : ListO μ p (.lst ds) R := fun m => list_m m r
theorem to_d {R : List D → Prop} (r : R ((kvs.map (·.1)).map .str)) : ListO μ p (.dK (sKV f kvs)) R := fun m => list_d m r
end
end DL

set_option Elab.async false
set_option linter.all false
set_option maxRecDepth 100000
set_option maxHeartbeats 2000000
namespace DL
open PySem PySem.Spec PyProof.Rows L2
section
variable {X : Cx} {f C : Addr} {fd : FuncData} {ps : List Str} {ds : List Value} {dvs : List V} {k : Nat} {sp : Sp} {CX : CXT} {E : L2.St → XK} {x : Str} {p pos : Pos}
theorem run_makeSD {pins : List (Addr × Obj)} {σ : L2.St} {H : Hp} {s : Shared} {Q : VK} (M : Mk X.K C f) (F : FnOk X.prog X.w X.K X.mg X.base CX k f fd ps sp) (hr : Room (k + 1) X.A) (hb : Binds X.K fd ps ds) (hd : Vals dvs ds)
    (hx : PassesAt CX X σ (E σ)) (I : Inv X pins σ H s)
    (h : ∀ x dx, H x = none → H dx = none → dx ≠ x → sp (.ref x :: dvs) (upd (upd H dx (.own x)) x (.ins C dx [])) (fun v H2 => v = .non ∧ Q (.ref x) H2) (E σ)) :
    wpAny (model X.prog X.w) X.A (call (.ref C) []) (EP X pins σ Q) X.xe s := by
  have hq := h (s.heap.objs.size + 1) s.heap.objs.size (I.hok.fresh (Nat.le_succ _)) (I.hok.fresh (Nat.le_refl _)) (Nat.ne_of_lt (Nat.lt_succ_self _))
  have I2 := Inv.made (C := C) I
  have r2 : Vals (V.ref (s.heap.objs.size + 1) :: dvs) (Value.ref (s.heap.objs.size + 1) :: ds) := .cons rfl hd
  have hl : ([Value.ref (s.heap.objs.size + 1)] ++ ds).length = ps.length := by
    have e := r2.length
    rw [F.len _ _ _ _ hq] at e
    exact e.symm
  have hbb := hb _ [Value.ref (s.heap.objs.size + 1)] I2.kIn hl
  refine wpAny_call (make_map (f := f) I.kIn M.makes M.init (beq_iff_eq.mp M.fn) (codeAny_mono (F.run _ X.stack _ _ ⟨[Value.ref (s.heap.objs.size + 1)], []⟩ (Value.ref (s.heap.objs.size + 1) :: ds) _ _ (E σ) (hr.make C [] [])
    (I2.env0.make C [] []) hbb r2 hq) fun r s' hq' => ?_))
  cases r with
  | error e => exact hx pins _ _ e s' I2 hq'
  | ok fl =>
    cases fl with
    | ret u =>
      obtain ⟨v, H', I3, rv, ev, q3⟩ := I2.after hq'
      subst ev
      exact ⟨rv, ⟨V.ref (s.heap.objs.size + 1), H', I3, rfl, q3⟩⟩
    | next => exact False.elim hq'
    | brk => exact False.elim hq'
    | cont => exact False.elim hq'
theorem pe_make0S (M : Mk X.K C f) (F : FnOk X.prog X.w X.K X.mg X.base CX k f fd ps sp) (hr : Room (k + 1) X.A) (hg : Gl X x) (hm : X.mg x = some (.ref C)) (hb : Binds X.K fd ps ds) (hd : Vals dvs ds) (hx : ∀ σ, PassesAt CX X σ (E σ)) (hdb : (x == ("__debug__" : Str)) = false) :
    PE X (.Call (.Name x p) [] [] pos) (fun σ H Q => ∀ x dx, H x = none → H dx = none → dx ≠ x → sp (.ref x :: dvs) (upd (upd H dx (.own x)) x (.ins C dx [])) (fun v H2 => v = .non ∧ Q (.ref x) H2) (E σ)) := by
  refine ⟨fun pins s σ H Q I h => ?_⟩
  refine wpAny_Call_Name_kw (ld_glob I hg hm ?_ hdb)
  exact PySem.W.callWith_K0 I.kIn M.kp (run_makeSD M F hr hb hd (hx σ) I h)
end
/-- C(), what is left out taken from the defaults -/
structure CkD (X : Cz) (x : Str) (C : Addr) (dds : List D) (s : Spc) : Prop where
  mono : s.Mono
  ex : ∃ k f fd ps ds dvs, Mk X.K C f ∧ FnOk X.prog X.w X.K X.mg X.base (L2.CX X.prog X.w) k f fd ps (lift X.K s) ∧ Room (k + 1) X.A ∧ X.mg x = some (.ref C) ∧ Binds X.K fd ps ds ∧ Vals dvs ds ∧ ∀ A H, IsA X.K A H dvs dds
  gl : Gl X x
  db : (x == ("__debug__" : Str)) = false
def GMd (P : Program) (w : World) (K : PySem.W.Frag) (mg : Str → Option Value) (base : Heap) (x : Str) (C : Addr) (j : Nat) (dds : List D) (s : Spc) : Prop :=
  ∃ f fd ps ds dvs, Mk K C f ∧ FnOk P w K mg base (L2.CX P w) j f fd ps (lift K s) ∧ mg x = some (.ref C) ∧ Binds K fd ps ds ∧ Vals dvs ds ∧ (∀ A H, IsA K A H dvs dds) ∧ s.Mono
theorem Ctx.ckD {X : Cz} {P : Program} {w : World} {K : PySem.W.Frag} {mg : Str → Option Value} {base : Heap} {k : Nat} {N : List Str} {sc : Scope} (h : Ctx X P w K mg base k N sc) {x : Str} {C : Addr} {j : Nat} {dds : List D} {s : Spc} (c : GMd P w K mg base x C j dds s) (b : glB sc x = true) (l : j + 1 ≤ k) : CkD X x C dds s := by
  obtain ⟨f, fd, ps, ds, dvs, M, F, hm, hb, hv, hi, mo⟩ := c
  obtain ⟨rfl, rfl, rfl, rfl, rfl, rfl, rfl, _, hr, _⟩ := h
  exact ⟨mo, ⟨j, f, fd, ps, ds, dvs, M, F, hr.mono l, hm, hb, hv, hi⟩, (glB_ok b).1, (glB_ok b).2⟩
section
variable {X : Cz} {Γ : Gm} {μ : Mu} {pos p0 : Pos} {Q : Mu → D → Prop}
theorem we_make0 {x : Str} {C : Addr} {dds : List D} {s : Spc} (T : CkD X x C dds s) (h : ∀ p, μ p = none → s (.ref p :: dds) (updM μ p (.ins C [])) (fun μ2 d => d = .non ∧ Q μ2 (.ref p)) (X.xd Γ)) : WE X (.Call (.Name x p0) [] [] pos) Γ μ Q := fun Z σ H en ok tk => by
  obtain ⟨k, f, fd, ps, ds, dvs, M, F, hr, hm, hb, hv, hi⟩ := T.ex
  refine toS (pe_make0S M F hr T.gl hm hb hv tk.pass T.db) ?_
  intro x dx hx hdx hne
  have g2 := Go.frz ok hdx (.own x)
  have hx2 : upd H dx (.own x) x = none := by rw [upd_ne (Ne.symm hne)]; exact hx
  have g3 := Go.put g2.ok (.ins C []) (.ins C dx []) (.inl hx2) fun mm => ⟨dx, [], upd_same, rfl, .nil⟩
  have g := g2.trans g3
  refine ⟨.ref x :: dds, _, Z, .cons (.ref x) (hi _ _), g3.ok, T.mono _ _ _ _ _ _ (fun μ' d q => ?_) (fun μ' x z => ?_) (h x (ok.fresh hx).1)⟩
  · intro v H' g' is
    obtain ⟨rfl, q⟩ := q
    exact ⟨isNon is, μ', _, g.trans g', .ref x, q⟩
  · exact fun od H' g' is => ⟨Γ, μ', x, g.trans g', (en.mono g.fz).mono g'.fz, is, rfl, z⟩
end
theorem cutD_take {ds : List D} {n : Nat} (h : n ≤ ds.length) : cutD ds none (some (n : Int)) = ds.take n := by
  unfold cutD
  have e0 : HT.sIx ds.length 0 none = 0 := rfl
  have e1 : HT.sIx ds.length ds.length (some (n : Int)) = n := by rw [HT.sIx_nat]; omega
  rw [e0, e1]; rfl
theorem FmR.tail : ∀ {a b : List (Str × Frm)}, FmR (a ++ b) → FmR b
  | [], _, h => h
  | (n, e, c) :: r, b, h => FmR.tail h.2.2.2
theorem FmOk.pre {a b : List (Str × Frm)} (h : FmOk (a ++ b)) : FmOk a := by
  unfold FmOk at h ⊢
  rw [List.reverse_append] at h
  exact h.tail
theorem FmOk.take {fs : List (Str × Frm)} (h : FmOk fs) (n : Nat) : FmOk (fs.take n) := by
  have : FmOk (fs.take n ++ fs.drop n) := by rw [List.take_append_drop]; exact h
  exact this.pre
theorem FmOk.at {a b : List (Str × Frm)} {n : Str} {e : Option Str} {c : Int} (h : FmOk (a ++ (n, e, c) :: b)) : n ∉ a.map (·.1) ∧ (∀ y, e = some y → y ∈ a.map (·.1)) ∧ 0 ≤ c := by
  unfold FmOk at h
  rw [List.reverse_append, List.reverse_cons, List.append_assoc] at h
  have h2 : FmR ((n, e, c) :: a.reverse) := h.tail
  obtain ⟨h1, h3, h4, _⟩ := h2
  rw [List.map_reverse] at h1 h3
  exact ⟨fun z => h1 (List.mem_reverse.mpr z), fun y z => List.mem_reverse.mp (h3 y z), h4⟩
end DL

set_option Elab.async false
set_option linter.all false
set_option maxRecDepth 100000
set_option maxHeartbeats 2000000
namespace DL
open PySem PySem.Spec PyProof.Rows L2
theorem SeqR.keep {μ μ' : Mu} {x : D} {ds : List D} (h : SeqR μ x ds) (f : ∀ p l, μ p = some (.lst l) → μ' p = some (.lst l)) : SeqR μ' x ds := h.elim .inl fun ⟨p, e, m⟩ => .inr ⟨p, e, f _ _ m⟩
theorem SeqR.toL {μ : Mu} {x : D} {ds : List D} (h : SeqR μ x ds) : SeqL μ x ds := h.elim .inl fun h => .inr (.inr h)
theorem wi_enumO {X : Cz} {Γ : Gm} {μ : Mu} {a : Expr} {elts : List Expr} {kk : Nat} {tpos p0 pl po pos : Pos} {l : List D} {R : Mu → List D → (Mu → Prop) → Prop} (B : Bl X "enumerate")
    (h : WE X a Γ μ fun μ1 x => ((x = .non ∧ l = []) ∨ SeqR μ1 x l) ∧ ∀ x', SeqL μ1 x' l → R μ1 (enumD l 0) (Still x' l))
    (hs : starEach [Expr.BoolOp .Or [a, .List [] pl] po] X.env = [(false, eval (Expr.BoolOp .Or [a, .List [] pl] po) X.env)] := by rfl) (hs' : starEach [Expr.BoolOp .Or [a, .List [] pl] po] X.env = (false, eval (Expr.BoolOp .Or [a, .List [] pl] po) X.env) :: starEach [] X.env := by rfl) : WI X (.Tuple elts kk tpos) (.Call (.Name "enumerate" p0) [.BoolOp .Or [a, .List [] pl] po] [] pos) Γ μ R := by
  refine wi_enum B (we_orL ?_) hs hs'
  refine h.mono fun μ1 x ⟨hx, q⟩ => ?_
  have hnil : l = [] → WE X (.List [] pl) Γ μ1 fun μ2 y => SeqLQ μ2 y fun ds => R μ2 (enumD ds 0) (Still y ds) := fun e => by
    refine we_lst (wa_nil (req (by decide) ?_))
    subst e
    exact ⟨[], .l, q _ .l⟩
  rcases hx with ⟨rfl, e⟩ | hx
  · exact .inl ⟨rfl, hnil e⟩
  · refine .inr ⟨l, hx.elim .inl fun h => .inr (.inr h), ?_⟩
    cases l with
    | nil => exact .inr ⟨rfl, hnil rfl⟩
    | cons d r => exact .inl ⟨(by intro z; cases z), _, hx.toL, q _ hx.toL⟩
theorem for_en {X : Cz} {Γ : Gm} {μ1 : Mu} {tg : Expr} {body : List Stmt} {k : Kt} {G : Mu → Prop} {α : Type} {xs : List α} {f : α → D} (I : List α → Gm → Mu → Prop) (h0 : I [] Γ μ1) (hG : ∀ pre Γ' μ', I pre Γ' μ' → G μ')
    (hb : ∀ pre x post Γ' μ', xs = pre ++ x :: post → I pre Γ' μ' → WGx X tg (.tup [.int (pre.length : Int), f x]) Γ' μ' fun Γ2 μ2 => WB X body Γ2 μ2 ⟨I (pre ++ [x]), k.rt, k.nx, I (pre ++ [x])⟩) (hd : ∀ Γ' μ', I xs Γ' μ' → k.nx Γ' μ') :
    ∃ I : Nat → Gm → Mu → Prop, I 0 Γ μ1 ∧ (∀ i Γ' μ', i ≤ (enumD (xs.map f) 0).length → I i Γ' μ' → G μ') ∧
      (∀ i d Γ' μ', (enumD (xs.map f) 0)[i]? = some d → I i Γ' μ' → WGx X tg d Γ' μ' fun Γ2 μ2 => WB X body Γ2 μ2 ⟨I (i + 1), k.rt, k.nx, I (i + 1)⟩) ∧ (∀ Γ' μ', I (enumD (xs.map f) 0).length Γ' μ' → k.nx Γ' μ') := by
  refine ⟨fun i Γ' μ' => I (xs.take i) Γ' μ', h0, fun i Γ' μ' _ h => hG _ _ _ h, fun i d Γ' μ' hd h => ?_, fun Γ' μ' h => ?_⟩
  · obtain ⟨d', hd', rfl⟩ := enumD_inv hd
    rw [List.getElem?_map] at hd'
    obtain ⟨x, hx, rfl⟩ := Option.map_eq_some_iff.mp hd'
    have hi : i < xs.length := (List.getElem?_eq_some_iff.mp hx).1
    have e1 : xs = xs.take i ++ x :: xs.drop (i + 1) := by
      have e2 : xs[i] = x := (List.getElem?_eq_some_iff.mp hx).2
      rw [← e2, ← List.drop_eq_getElem_cons hi, List.take_append_drop]
    have e3 : xs.take (i + 1) = xs.take i ++ [x] := by rw [List.take_add_one, hx]; rfl
    have e4 : (xs.take i).length = i := by rw [List.length_take]; omega
    dsimp only
    rw [e3]
    have := hb _ _ _ _ _ e1 h
    rw [e4] at this
    exact this
  · rw [enumD_len, List.length_map, List.take_length] at h
    exact hd _ _ h
def Tab.say (T : Tab) (x : Str) (b : Option (List Rw)) : Tab := { T with bodies := (match b with | none => dropG T.bodies x | some b => putG (dropG T.bodies x) x b), turns := putG T.turns x (T.turn + 1), turn := T.turn + 1 }
def Tab.mark (T : Tab) (x : Str) (b : Option (List (D × D))) : Tab := { T with scores := (match b with | none => dropG T.scores x | some b => putG (dropG T.scores x) x b) }
theorem dropG_mem {α : Type} {kvs : List (Str × α)} {x : Str} {p : Str × α} (h : p ∈ dropG kvs x) : p ∈ kvs := (List.mem_filter.mp h).1
theorem TabOk.say {T : Tab} {x : Str} {b : Option (List Rw)} (ok : TabOk T) (hx : x ∈ T.names) (hb : ∀ l, b = some l → l.length ≤ 1000 ∧ ∀ r ∈ l, okRow T.forms x r = true ∧ r.2.links.length ≤ 1000) : TabOk (T.say x b) := by
  refine ⟨ok.fm, ok.len, ?_, ok.sk, ok.tk.put hx, ?_, ok.po⟩
  · cases b with
    | none => exact ok.bk.drop
    | some l => exact ok.bk.drop.put hx
  · intro y c hc
    cases b with
    | none => exact ok.ro y c (dropG_mem hc)
    | some l =>
      rcases putG_mem hc with h | ⟨rfl, rfl⟩
      · exact ok.ro y c (dropG_mem h)
      · exact hb _ rfl
theorem TabOk.mark {T : Tab} {x : Str} {b : Option (List (D × D))} (ok : TabOk T) (hx : x ∈ T.names) (hb : ∀ l, b = some l → l.length ≤ 1000 ∧ ∀ r ∈ l, okPart T.forms x r = true) : TabOk (T.mark x b) := by
  refine ⟨ok.fm, ok.len, ok.bk, ?_, ok.tk, ok.ro, ?_⟩
  · cases b with
    | none => exact ok.sk.drop
    | some l => exact ok.sk.drop.put hx
  · intro y c hc
    cases b with
    | none => exact ok.po y c (dropG_mem hc)
    | some l =>
      rcases putG_mem hc with h | ⟨rfl, rfl⟩
      · exact ok.po y c (dropG_mem h)
      · exact hb _ rfl
end DL
namespace DL
open PySem PySem.Spec PyProof.Rows L2
structure DA where
  p : Addr
  q : Addr
  r : Addr
def DA.objs (a : DA) : List Addr := [a.p, a.q, a.r]
@[reducible] def dealKV (crew : D) (q r : Addr) : List (Key × D) := [(.inr "crew", crew), (.inr "bodies", .ref q), (.inr "marks", .ref r)]
structure DealAt (μ : Mu) (a : DA) (fs : List (Str × Frm)) (B : List (Str × List Rw)) (M : List (Str × List (D × D))) : Prop where
  p : μ a.p = some (.dK (dealKV (.lst (fs.map kndD)) a.q a.r))
  q : μ a.q = some (.dK (sKV bodyD B))
  r : μ a.r = some (.dK (sKV partsD M))
  ne : a.objs.Nodup
def dealM (a : DA) (fs : List (Str × Frm)) (B : List (Str × List Rw)) (M : List (Str × List (D × D))) (μ : Mu) : Mu := updM (updM (updM μ a.q (.dK (sKV bodyD B))) a.r (.dK (sKV partsD M))) a.p (.dK (dealKV (.lst (fs.map kndD)) a.q a.r))
section
variable {μ : Mu} {a : DA} {fs : List (Str × Frm)} {B B' : List (Str × List Rw)} {M M' : List (Str × List (D × D))} {x b g : Addr} {o : MO} {t : Bx} {C : Addr} {k : KA} {T : Tab} {nts : List (Key × D)}
theorem DA.nes (h : a.objs.Nodup) : a.p ≠ a.q ∧ a.p ≠ a.r ∧ a.q ≠ a.r := by
  unfold DA.objs at h
  simp only [List.nodup_cons, List.mem_cons, List.not_mem_nil, or_false, not_or] at h
  exact ⟨h.1.1, h.1.2, h.2.1⟩
theorem DA.off (h : x ∉ a.objs) : x ≠ a.p ∧ x ≠ a.q ∧ x ≠ a.r := by
  unfold DA.objs at h
  simp only [List.mem_cons, List.not_mem_nil, or_false, not_or] at h
  exact h
theorem dealM_at (ne : a.objs.Nodup) : DealAt (dealM a fs B M μ) a fs B M := by
  obtain ⟨h1, h2, h3⟩ := DA.nes ne
  refine ⟨updM_same, ?_, ?_, ne⟩ <;> unfold dealM
  · rw [updM_ne h1.symm, updM_ne h3, updM_same]
  · rw [updM_ne h2.symm, updM_same]
theorem dealM_ne (h : x ∉ a.objs) : dealM a fs B M μ x = μ x := by
  obtain ⟨h1, h2, h3⟩ := DA.off h
  unfold dealM
  rw [updM_ne h1, updM_ne h3, updM_ne h2]
theorem deal_q (ne : a.objs.Nodup) : updM (dealM a fs B M μ) a.q (.dK (sKV bodyD B')) = dealM a fs B' M μ := by
  obtain ⟨h1, h2, h3⟩ := DA.nes ne
  unfold dealM
  rw [updM_comm h1, updM_comm h3.symm, updM_upd]
theorem deal_r (ne : a.objs.Nodup) : updM (dealM a fs B M μ) a.r (.dK (sKV partsD M')) = dealM a fs B M' μ := by
  obtain ⟨h1, h2, h3⟩ := DA.nes ne
  unfold dealM
  rw [updM_comm h2, updM_upd]
theorem updM_dealM (h : x ∉ a.objs) : updM (dealM a fs B M μ) x o = dealM a fs B M (updM μ x o) := by
  obtain ⟨h1, h2, h3⟩ := DA.off h
  unfold dealM
  rw [updM_comm h1.symm, updM_comm h3.symm, updM_comm h2.symm]
theorem DealAt.upd (h : DealAt μ a fs B M) (hx : x ∉ a.objs) : DealAt (updM μ x o) a fs B M := by
  obtain ⟨h1, h2, h3⟩ := DA.off hx
  exact ⟨(updM_ne h1.symm).trans h.p, (updM_ne h2.symm).trans h.q, (updM_ne h3.symm).trans h.r, h.ne⟩
theorem DealAt.bx (h : DealAt μ a fs B M) (hb : b ∉ a.objs) (hg : g ∉ a.objs) : DealAt (bxM b g t μ) a fs B M := (h.upd hg).upd hb
theorem DealAt.sm (h : DealAt μ a fs B M) (hx : x ∈ a.objs) : μ x ≠ none ∧ ∀ l, μ x ≠ some (.lst l) := by
  unfold DA.objs at hx
  simp only [List.mem_cons, List.not_mem_nil, or_false] at hx
  rcases hx with e | e | e <;> subst e
  · rw [h.p]; exact ⟨fun z => (by cases z), fun l z => (by cases z)⟩
  · rw [h.q]; exact ⟨fun z => (by cases z), fun l z => (by cases z)⟩
  · rw [h.r]; exact ⟨fun z => (by cases z), fun l z => (by cases z)⟩
theorem DealAt.off (h : DealAt μ a fs B M) (hx : μ x = none) : x ∉ a.objs := fun z => (h.sm z).1 hx
theorem DealAt.offL {l : List D} (h : DealAt μ a fs B M) (hx : μ x = some (.lst l)) : x ∉ a.objs := fun z => (h.sm z).2 _ hx
theorem DealAt.new (h : DealAt μ a fs B M) (hx : μ x = none) : DealAt (updM μ x o) a fs B M := h.upd (h.off hx)
theorem DealAt.kn (h : DealAt μ a fs B M) (hx : ∀ p ∈ k.objs, p ∉ a.objs) : DealAt (kndM C k T nts μ) a fs B M := by
  have m : ∀ p, p ∈ k.objs → p ∉ a.objs := hx
  unfold kndM
  exact (((((h.upd (m _ (by simp [KA.objs]))).upd (m _ (by simp [KA.objs]))).upd (m _ (by simp [KA.objs]))).upd (m _ (by simp [KA.objs]))).upd (m _ (by simp [KA.objs]))).upd (m _ (by simp [KA.objs]))
end
section
variable {P : Program} {w : World} {μ : Mu} {p q r : Addr} {c : D} {R : D → Prop}
theorem so_crew (h : R c) : SubO P w μ p (.dK (dealKV c q r)) (.str (Str.ofString "crew")) R := fun m => sub_d m rfl (by rw [valG_cons, if_pos rfl]) h
theorem so_bodies (h : R (.ref q)) : SubO P w μ p (.dK (dealKV c q r)) (.str (Str.ofString "bodies")) R := fun m => sub_d m rfl (by rw [valG_cons, if_neg (show ¬(.inr (Str.ofString "crew") : Key) = .inr (Str.ofString "bodies") by decide +kernel), valG_cons, if_pos rfl]) h
theorem so_marks (h : R (.ref r)) : SubO P w μ p (.dK (dealKV c q r)) (.str (Str.ofString "marks")) R := fun m => sub_d m rfl (by rw [valG_cons, if_neg (show ¬(.inr (Str.ofString "crew") : Key) = .inr (Str.ofString "marks") by decide +kernel), valG_cons, if_neg (show ¬(.inr (Str.ofString "bodies") : Key) = .inr (Str.ofString "marks") by decide +kernel), valG_cons, if_pos rfl]) h
end
end DL
namespace DL
open PySem PySem.Spec PyProof.Rows L2
def rIsBR : R2 := fun x y H Q => (∃ a b : Bool, x = .bl a ∧ y = .bl b ∧ Q (.bl (decide (a = b))) H) ∨ ∃ (p : Addr) (b : Bool), x = .ref p ∧ y = .bl b ∧ Q (.bl false) H
theorem op_isBR {X : Cx} : OpR X (compareOp .Is) rIsBR := by
  intro pins s σ H x y v u Q I rx ry h
  rcases h with h | ⟨p, b, rfl, rfl, q⟩
  · exact op_isBl pins s σ H x y v u Q I rx ry h
  · cases (show v = Value.ref p from rx)
    cases (show u = Value.bool b from ry)
    exact wpAny_is_other rfl (fun z => by cases z) ⟨.bl false, H, I, rfl, q⟩
def IsBQ (x : D) (R : Bool → Prop) : Prop := (∃ b, x = .bl b ∧ R b) ∨ (∃ ds, x = .lst ds ∧ R true) ∨ ∃ p, x = .ref p ∧ R true
theorem isb_b {b : Bool} {R : Bool → Prop} (r : R b) : IsBQ (.bl b) R := .inl ⟨b, rfl, r⟩
theorem isb_l {ds : List D} {R : Bool → Prop} (r : R true) : IsBQ (.lst ds) R := .inr (.inl ⟨ds, rfl, r⟩)
theorem isb_r {p : Addr} {R : Bool → Prop} (r : R true) : IsBQ (.ref p) R := .inr (.inr ⟨p, rfl, r⟩)
theorem wt_isF {X : Cz} {Γ : Gm} {μ : Mu} {a : Expr} {j} {p2 pos : Pos} {Q : Mu → Bool → Prop} (h : WE X a Γ μ fun μ1 x => IsBQ x fun b => Q μ1 (!b)) : WT X (.Compare a [.Is] [.Constant (.bool false) j p2] pos) Γ μ Q := fun Z σ H en ok tk => by
  refine toT (pt_cmpR op_isBR pe_S pe_S (nomark _)) ?_
  refine h.use (Go.refl ok) en tk fun v H1 μ1 d g1 _ en1 i1 q1 => ?_
  have hb : WE X (.Constant (.bool false) j p2) Γ μ1 fun μ2 y => μ2 = μ1 ∧ y = D.bl false := we_bl ⟨rfl, rfl⟩
  refine hb.use g1 en1 tk fun w H2 μ2 d2 g2 g2' en2 i2 q2 => ?_
  obtain ⟨rfl, rfl⟩ := q2
  rw [isBl i2]
  have i1' := i1.mono g2'.fz
  rcases q1 with ⟨b, rfl, q⟩ | ⟨ds, rfl, q⟩ | ⟨p, rfl, q⟩
  · rw [isBl i1']
    exact .inl ⟨b, false, rfl, rfl, _, rfl, μ2, g2, by cases b <;> exact q⟩
  · cases i1' with
    | lst => exact .inr ⟨_, false, rfl, rfl, _, rfl, μ2, g2, q⟩
  · cases isRef i1'
    exact .inr ⟨_, false, rfl, rfl, _, rfl, μ2, g2, q⟩
end DL
namespace DL
open PySem PySem.Spec PyProof.Rows L2
theorem tuple_mul1 (l : Addr) (items : Array Value) (n : Nat) (dd : Option Addr) (sl : Array (Option Value)) (x : Int) (u : Tok) (c0 : (decide (x < -(2 ^ 63)) || decide (x ≥ 2 ^ 63)) = false) (c1 : (items.isEmpty || x == 1) = true) :
    Meets (Builtin.«tuple.__mul__» ⟨[.ref l, .int x u], []⟩) (fun _ R s => s.heap.get? l = some { cls := .type "tuple", dict := dd, data := .seq items n, slots := sl } ∧ R (.ok (.ret (.ref l))) s) :=
  .of_wp fun prog w A R s h => by
    obtain ⟨hp, g, d, tk, os⟩ := s
    obtain ⟨hl, h⟩ := h
    have f1 := AutoSeq1.idx_int
    wp_walk using wpAny_loadPart' hl
    repeat (first
      | (refine wpAny_ite_false (decide_eq_false (by rw [c0]; exact Bool.false_ne_true)) ?_; wp_walk using wpAny_loadPart' hl)
      | (refine wpAny_ite_true (decide_eq_true (by rw [c1])) ?_; wp_walk using wpAny_loadPart' hl))
    exact ⟨_, rfl, h⟩
theorem tuple_mul0 (l : Addr) (items : Array Value) (n : Nat) (dd : Option Addr) (sl : Array (Option Value)) (x : Int) (u : Tok) (c0 : (decide (x < -(2 ^ 63)) || decide (x ≥ 2 ^ 63)) = false) (c1 : (items.isEmpty || x == 1) = false) (c2 : (decide (x ≤ 0) || items.isEmpty) = true) :
    Meets (Builtin.«tuple.__mul__» ⟨[.ref l, .int x u], []⟩) (fun _ R s => s.heap.get? l = some { cls := .type "tuple", dict := dd, data := .seq items n, slots := sl } ∧
      R (.ok (.ret (Value.ref s.heap.objs.size))) { s with heap := s.heap.push { cls := Value.type "tuple", data := Data.seq #[] }, toks := s.toks }) :=
  .of_wp fun prog w A R s h => by
    obtain ⟨hp, g, d, tk, os⟩ := s
    obtain ⟨hl, h⟩ := h
    have f1 := AutoSeq1.idx_int
    wp_walk using wpAny_loadPart' hl
    repeat (first
      | (refine wpAny_ite_false (decide_eq_false (by rw [c0]; exact Bool.false_ne_true)) ?_; wp_walk using wpAny_loadPart' hl)
      | (refine wpAny_ite_false (decide_eq_false (by rw [c1]; exact Bool.false_ne_true)) ?_; wp_walk using wpAny_loadPart' hl)
      | (refine wpAny_ite_true (decide_eq_true (by rw [c2])) ?_; wp_walk using wpAny_loadPart' hl))
    exact ⟨_, rfl, h⟩
def rRepT3 (K : PySem.W.Frag) : R2 := fun x y H Q => ∃ l k xs, x = .ref l ∧ y = .int k ∧ SqT K H l xs ∧ xs ≠ [] ∧ 0 ≤ k ∧ k ≤ 1000 ∧ xs.length ≤ 1000 ∧ (k = 1 → Q (.ref l) H) ∧ (k ≠ 1 → ∀ p, H p = none → Q (.ref p) (upd H p (.tup (List.replicate k.toNat xs).flatten)))
theorem op_repT3 {X : Cx} : OpR X (binaryOp .Mult) (rRepT3 X.K) := by
  intro pins s σ H x y v u Q I rx ry h
  obtain ⟨l, k, xs, rfl, rfl, hT, hne, h0, h2, hz, q1, q⟩ := h
  by_cases hk2 : 2 ≤ k
  · exact op_repT pins s σ H _ _ v u Q I rx ry ⟨l, k, xs, rfl, rfl, hT, hne, hk2, h2, hz, q (by omega)⟩
  cases rx
  obtain ⟨t, rfl⟩ := ry
  obtain ⟨its, r, ⟨⟨cls, dd, data, sl⟩, ho, hc, n, hd⟩, hs⟩ := I.tuple hT
  simp only at hc hd
  subst hc hd
  have hle : its.length = xs.length := r.length.symm
  have hn : its ≠ [] := fun e => hne (by
    rw [e] at hle
    exact List.eq_nil_of_length_eq_zero hle.symm)
  have hi : its.toArray.isEmpty = false := by
    cases its with
    | nil => exact absurd rfl hn
    | cons a b => rfl
  have c0 : (decide (k < -(2 ^ 63)) || decide (k ≥ 2 ^ 63)) = false := by
    rw [decide_eq_false (by omega), decide_eq_false (by omega)] <;> rfl
  by_cases hk1 : k = 1
  · subst hk1
    refine wpAny_binaryOp_repeat_ref (T := "tuple") (U := "int") (by decide) ⟨_, ho, rfl⟩ (fun s' => typeIs_int s' 1 t) noFill_tuple_mul F.fills_int_mul F.slot_int_rmul repeat_tuple F.slot_int_index.lookup
      (call_meets F.slot_int_rmul (typeIs_int s 1 t) F.entry_int_rmul (F.args_int_rmul_2 _ _) (int_rmul_tuple 1 t l its.toArray n dd sl)
        ⟨ho, rfl, ⟨_, ho, rfl⟩, call_meets F.slot_tuple_mul ⟨_, ho, rfl⟩ F.entry_tuple_mul (F.args_tuple_mul_2 _ _) (tuple_mul1 l its.toArray n dd sl 1 t c0 (by rw [hi]; rfl)) ⟨ho, ?_⟩⟩)
    exact ⟨.ref l, H, I, rfl, q1 rfl⟩
  · have hk0 : k = 0 := by omega
    subst hk0
    refine wpAny_binaryOp_repeat_ref (T := "tuple") (U := "int") (by decide) ⟨_, ho, rfl⟩ (fun s' => typeIs_int s' 0 t) noFill_tuple_mul F.fills_int_mul F.slot_int_rmul repeat_tuple F.slot_int_index.lookup
      (call_meets F.slot_int_rmul (typeIs_int s 0 t) F.entry_int_rmul (F.args_int_rmul_2 _ _) (int_rmul_tuple 0 t l its.toArray n dd sl)
        ⟨ho, rfl, ⟨_, ho, rfl⟩, call_meets F.slot_tuple_mul ⟨_, ho, rfl⟩ F.entry_tuple_mul (F.args_tuple_mul_2 _ _) (tuple_mul0 l its.toArray n dd sl 0 t c0 (by rw [hi]; rfl) (by rfl)) ⟨ho, ?_⟩⟩)
    refine ⟨.ref s.heap.objs.size, _, I.laid (t' := s.toks) (o := .tup []) (fun b ob q => Heap.get?_push_of_some _ q) (Nat.le_refl _) ?_, rfl, q hk1 _ (I.hok.fresh (Nat.le_refl _))⟩
    exact ⟨by show 0 ≤ 16777216; decide, [], .nil, IsTup.new _ _⟩
section
variable {X : Cz} {Γ : Gm} {μ : Mu} {a b e : Expr} {pos p0 : Pos} {Q : Mu → D → Prop}
theorem we_repT (h : WE X a Γ μ fun μ1 x => WE X b Γ μ1 fun μ2 y => ∃ ds k, x = .tup ds ∧ y = .int k ∧ ds ≠ [] ∧ 0 ≤ k ∧ k ≤ 1000 ∧ ds.length ≤ 1000 ∧ Q μ2 (.tup (List.replicate k.toNat ds).flatten)) : WE X (.BinOp a .Mult b pos) Γ μ Q := fun Z σ H en ok tk => by
  refine toS (pe_op op_repT3 pe_S pe_S) ?_
  refine h.use (Go.refl ok) en tk fun v H1 μ1 d g1 _ en1 i1 q1 => ?_
  refine q1.use g1 en1 tk fun w H2 μ2 d2 g2 g2' en2 i2 q2 => ?_
  obtain ⟨ds, k, rfl, rfl, hne, h0, h1, hl, q⟩ := q2
  have i1' := i1.mono g2'.fz
  rw [isInt i2]
  cases i1' with
  | tup r t =>
    refine ⟨_, k, _, rfl, rfl, r.sq, fun e => hne (by have := t.length; rw [e] at this; exact List.eq_nil_of_length_eq_zero this.symm), h0, h1, by rw [t.length]; exact hl, fun e => ?_, fun _ p hp => ?_⟩
    · subst e
      have e2 : (List.replicate (1 : Int).toNat ds).flatten = ds := by simp
      rw [e2] at q
      exact ⟨μ2, _, g2, .tup r t, q⟩
    · exact ⟨μ2, _, g2.trans (Go.frz g2.ok hp _), Is.newT g2.ok hp (isA_rep t k.toNat), q⟩
/-- tuple(x) of a list -/
theorem we_tupL (B : Bl X "tuple") (h : WE X e Γ μ fun μ1 x => ∃ ds, SeqR μ1 x ds ∧ Q μ1 (.tup ds))
    (he : starEach [e] X.env = (false, eval e X.env) :: starEach [] X.env := by rfl) (hpl : (backTo pos (starEach [] X.env)).any (·.1) = false := by rfl) : WE X (.Call (.Name "tuple" p0) [e] [] pos) Γ μ Q := by
  refine we_t1 call_tuple_of B (by decide +kernel) ?_ (he := he) (hpl := hpl)
  refine h.mono fun μ1 d q1 => ?_
  intro Z μ0 H0 H v g i
  obtain ⟨ds, sq, q⟩ := q1
  obtain ⟨p, vs, rfl, r, t⟩ := sq.rd g.ok i
  exact ⟨p, vs, rfl, .inl ⟨.inl r, fun l hl => ⟨μ1, _, g.trans (Go.frz g.ok hl _), Is.newT g.ok hl t, q⟩⟩⟩
end
end DL

set_option Elab.async false
set_option linter.all false
set_option maxRecDepth 100000
set_option maxHeartbeats 2000000
namespace DL
open PySem PySem.Spec PyProof.Rows L2
abbrev Fs := List (Str × Frm)
abbrev Bs := List (Str × List Rw)
abbrev Ask := Int × Option Str × Option Int × AD
@[reducible] def askD (a : Ask) : D := .tup [.int a.1, optS a.2.1, optI a.2.2.1, adD a.2.2.2]
def AD.isPass : AD → Bool
  | .pass => true
  | _ => false
def serverF (fs : Fs) (B : Bs) (x : Str) : Option Str := (lineF fs x).find? fun y => (valG B y).isSome
def rowHit (fs : Fs) (y : Str) (r : Rw) : Bool := decide (r.1 = Str.ofString "") || decide (r.1 ∈ lineF fs y)
def bodyO (B : Bs) (s : Option Str) : List Rw := match s with
  | none => []
  | some x => (valG B x).getD []
def rowF (fs : Fs) (B : Bs) (s : Option Str) (y : Str) : Option Nat := (bodyO B s).findIdx? (rowHit fs y)
def answerF (fs : Fs) (B : Bs) (s : Option Str) (y : Str) : AD := match rowF fs B s y with
  | none => .pass
  | some i => ((bodyO B s)[i]?.map (·.2)).getD .pass
def natO (o : Option Nat) : Option Int := o.map fun i => (i : Int)
/-- a's server is asked about b -/
def ask0 (fs : Fs) (B : Bs) (side : Int) (a b : Str) : Ask := (side, serverF fs B a, natO (rowF fs B (serverF fs B a) b), answerF fs B (serverF fs B a) b)
def askS (fs : Fs) (B : Bs) (x y : Str) (s : Bool) : Ask := if s = true then ask0 fs B 1 y x else ask0 fs B 0 x y
def orderF (fs : Fs) (B : Bs) (x y : Str) : Bool := decide (y ≠ x) && decide (x ∈ lineF fs y) && (serverF fs B y).isSome && decide (serverF fs B y ≠ serverF fs B x)
def askedF (fs : Fs) (B : Bs) (x y : Str) : List Ask := if (askS fs B x y (orderF fs B x y)).2.2.2.isPass = true then [askS fs B x y (orderF fs B x y), askS fs B x y (!orderF fs B x y)] else [askS fs B x y (orderF fs B x y)]
def lastF (fs : Fs) (B : Bs) (x y : Str) : Ask := if (askS fs B x y (orderF fs B x y)).2.2.2.isPass = true then askS fs B x y (!orderF fs B x y) else askS fs B x y (orderF fs B x y)
inductive RuleV where
  | itself | never | links (ls : List (D × D × D))
@[reducible] def ruleD : RuleV → D
  | .itself => .tup [.str (Str.ofString "itself")]
  | .never => .tup [.str (Str.ofString "never")]
  | .links ls => .tup [.str (Str.ofString "links"), .lst (ls.map tri)]
def flipL (t : D × D × D) : D × D × D := (t.2.1, t.1, t.2.2)
def ruleOf (a : Ask) : RuleV := match a.2.2.2 with
  | .pass => .itself
  | .never => .never
  | .yes ls => .links (if a.1 = 1 then ls.map flipL else ls)
def ruleF (fs : Fs) (B : Bs) (x y : Str) : RuleV := ruleOf (lastF fs B x y)
abbrev Thing := Int × Str × List Int
@[reducible] def thD (t : Thing) : D := .tup [.int t.1, .str t.2.1, .tup (t.2.2.map .int)]
def ThOk (fs : Fs) (t : Thing) : Prop := t.2.1 ∈ fs.map (·.1) ∧ (t.2.2.length : Int) = fieldsF fs t.2.1
abbrev IL := Int × Int × Int
@[reducible] def lnk (t : IL) : D × D × D := (.int t.1, .int t.2.1, .int t.2.2)
def dInt : D → Int
  | .int i => i
  | _ => 0
def divB (r n : Int) : Bool := if 0 < r then decide (n % r = 0) else decide (n = 0)
def atL (u : List Int) (i : Int) : Int := u.getD i.toNat 0
def sameL (ts : List IL) (u v : List Int) : Bool := ts.all fun t => divB t.2.2 (atL u t.1 - atL v t.2.1)
def sameV (r : RuleV) (ts : List IL) (a b : Thing) : Bool := match r with
  | .itself => decide (a.1 = b.1)
  | .never => false
  | .links _ => sameL ts a.2.2 b.2.2
theorem lineF_suffix {fs : Fs} (ok : FmOk fs) : ∀ (n : Nat) {x y : Str}, (lineF fs x).length ≤ n → x ∈ fs.map (·.1) → y ∈ lineF fs x → ∃ pre, lineF fs x = pre ++ lineF fs y
  | 0, x, y, hn, hx, hy => by
    obtain ⟨e, c, hv⟩ := val_of_mem hx
    rw [(lineF_step ok hv).1] at hn
    exact absurd hn (by simp)
  | n + 1, x, y, hn, hx, hy => by
    obtain ⟨e, c, hv⟩ := val_of_mem hx
    obtain ⟨h1, h2⟩ := lineF_step ok hv
    rw [h1] at hy
    rcases List.mem_cons.mp hy with z | hy
    · subst z; exact ⟨[], rfl⟩
    · cases e with
      | none => cases hy
      | some z =>
        obtain ⟨h3, h4⟩ := h2 z rfl
        obtain ⟨pre, hp⟩ := lineF_suffix ok n (by omega) h3 hy
        exact ⟨x :: pre, by rw [h1]; show x :: lineF fs z = _; rw [hp]; rfl⟩
theorem line_fields {fs : Fs} (ok : FmOk fs) {x y : Str} (hx : x ∈ fs.map (·.1)) (hy : y ∈ lineF fs x) : fieldsF fs y ≤ fieldsF fs x := by
  obtain ⟨pre, e⟩ := lineF_suffix ok _ (Nat.le_refl _) hx hy
  unfold fieldsF
  rw [e, List.map_append, List.sum_append]
  have := sum_nn (fun a => ok.own (x := a)) pre
  omega
theorem server_mem {fs : Fs} {B : Bs} {x s : Str} (h : serverF fs B x = some s) : s ∈ lineF fs x ∧ ∃ b, valG B s = some b := by
  have h1 := List.mem_of_find?_eq_some h
  have h2 := List.find?_some h
  exact ⟨h1, Option.isSome_iff_exists.mp h2⟩
/-- links that two kinds' things can be asked by -/
def LkIn (n m : Int) (t : IL) : Prop := 0 ≤ t.1 ∧ t.1 < n ∧ 0 ≤ t.2.1 ∧ t.2.1 < m ∧ 0 ≤ t.2.2 ∧ t.2.2 ≤ 1000000
theorem ptB2_int {n : Int} {d : D} (h : ptB2 n d = true) : ∃ i, d = .int i ∧ 0 ≤ i ∧ i < n := by
  cases d <;> simp [ptB2] at h
  exact ⟨_, rfl, h⟩
theorem rsB2_int {d : D} (h : rsB2 d = true) : ∃ i, d = .int i ∧ 0 ≤ i ∧ i ≤ 1000000 := by
  cases d <;> simp [rsB2] at h
  exact ⟨_, rfl, h⟩
theorem links_of {n m : Int} : ∀ {ls : List (D × D × D)}, (∀ t ∈ ls, ptB2 n t.1 = true ∧ ptB2 m t.2.1 = true ∧ rsB2 t.2.2 = true) → ∃ ts : List IL, ls = ts.map lnk ∧ ∀ t ∈ ts, LkIn n m t
  | [], _ => ⟨[], rfl, fun _ z => by cases z⟩
  | (a, b, c) :: r, h => by
    obtain ⟨h1, h2, h3⟩ := h _ List.mem_cons_self
    obtain ⟨i, rfl, i1, i2⟩ := ptB2_int h1
    obtain ⟨j, rfl, j1, j2⟩ := ptB2_int h2
    obtain ⟨k, rfl, k1, k2⟩ := rsB2_int h3
    obtain ⟨ts, rfl, ht⟩ := links_of fun t ht => h t (List.mem_cons_of_mem _ ht)
    refine ⟨(i, j, k) :: ts, rfl, fun t hm => ?_⟩
    rcases List.mem_cons.mp hm with e | hm
    · subst e; exact ⟨i1, i2, j1, j2, k1, k2⟩
    · exact ht t hm
/-- bodies that stand in a table -/
def BsOk (fs : Fs) (B : Bs) : Prop := ∀ x b, (x, b) ∈ B → ∀ r ∈ b, okRow fs x r = true
theorem ptB2_mono {n m : Int} {d : D} (h : n ≤ m) (p : ptB2 n d = true) : ptB2 m d = true := by
  obtain ⟨i, rfl, h1, h2⟩ := ptB2_int p
  exact decide_eq_true ⟨h1, by omega⟩
theorem row_hit {fs : Fs} {B : Bs} {s : Option Str} {y : Str} {i : Nat} (h : rowF fs B s y = some i) : ∃ x b r, s = some x ∧ valG B x = some b ∧ b[i]? = some r ∧ r ∈ b ∧ rowHit fs y r = true := by
  unfold rowF at h
  cases s with
  | none => simp [bodyO] at h
  | some x =>
    cases hb : valG B x with
    | none => simp [bodyO, hb] at h
    | some b =>
      simp only [bodyO, hb, Option.getD_some] at h
      obtain ⟨hi, hp, _⟩ := List.findIdx?_eq_some_iff_getElem.mp h
      exact ⟨x, b, b[i], rfl, hb, List.getElem?_eq_getElem hi, List.getElem_mem hi, hp⟩
theorem ask0_links {fs : Fs} {B : Bs} (ok : FmOk fs) (hB : BsOk fs B) {side : Int} {a b : Str} (ha : a ∈ fs.map (·.1)) (hb : b ∈ fs.map (·.1)) {ls : List (D × D × D)} (h : (ask0 fs B side a b).2.2.2 = .yes ls) : ∃ ts : List IL, ls = ts.map lnk ∧ ∀ t ∈ ts, LkIn (fieldsF fs a) (fieldsF fs b) t := by
  change answerF fs B (serverF fs B a) b = _ at h
  unfold answerF at h
  cases hr : rowF fs B (serverF fs B a) b with
  | none => rw [hr] at h; cases h
  | some i =>
    rw [hr] at h
    dsimp only at h
    obtain ⟨x, bd, r, hs, hv, hi, hm, hp⟩ := row_hit hr
    have hbo : bodyO B (serverF fs B a) = bd := by rw [hs]; simp [bodyO, hv]
    rw [hbo, hi] at h
    simp only [Option.map_some, Option.getD_some] at h
    obtain ⟨u, ad⟩ := r
    dsimp only at h
    subst h
    have hok := hB x bd (valG_mem hv) _ hm
    obtain ⟨hxl, _⟩ := server_mem hs
    have hxf := line_fields ok ha hxl
    unfold okRow at hok
    by_cases hu : u = Str.ofString ""
    · rw [if_pos hu] at hok
      have : ls = [] := by simpa [AD.links] using hok
      subst this
      exact ⟨[], rfl, fun _ z => by cases z⟩
    · rw [if_neg hu, Bool.and_eq_true] at hok
      have hul : u ∈ lineF fs b := by
        unfold rowHit at hp
        rw [Bool.or_eq_true] at hp
        rcases hp with hp | hp
        · exact absurd (of_decide_eq_true hp) hu
        · exact of_decide_eq_true hp
      have huf := line_fields ok hb hul
      refine links_of fun t ht => ?_
      have := List.all_eq_true.mp hok.2 t ht
      unfold okLink at this
      simp only [Bool.and_eq_true] at this
      exact ⟨ptB2_mono hxf this.1.1, ptB2_mono huf this.1.2, this.2⟩
theorem flip_lnk {ts : List IL} : (ts.map lnk).map flipL = (ts.map fun t => (t.2.1, t.1, t.2.2)).map lnk := by rw [List.map_map, List.map_map]; rfl
theorem askS_links {fs : Fs} {B : Bs} (ok : FmOk fs) (hB : BsOk fs B) {x y : Str} (hx : x ∈ fs.map (·.1)) (hy : y ∈ fs.map (·.1)) {s : Bool} {ls : List (D × D × D)} (h : ruleOf (askS fs B x y s) = .links ls) : ∃ ts : List IL, ls = ts.map lnk ∧ ∀ t ∈ ts, LkIn (fieldsF fs x) (fieldsF fs y) t := by
  unfold ruleOf at h
  cases s with
  | true =>
    change (match (ask0 fs B 1 y x).2.2.2 with | .pass => RuleV.itself | .never => .never | .yes ls => .links (if (1 : Int) = 1 then ls.map flipL else ls)) = _ at h
    cases ha : (ask0 fs B 1 y x).2.2.2 with
    | pass => rw [ha] at h; cases h
    | never => rw [ha] at h; cases h
    | yes l =>
      rw [ha] at h
      obtain ⟨ts, rfl, ht⟩ := ask0_links ok hB hy hx ha
      simp only [if_true] at h
      cases h
      refine ⟨_, flip_lnk, fun t hm => ?_⟩
      obtain ⟨t', ht', rfl⟩ := List.mem_map.mp hm
      obtain ⟨a1, a2, a3, a4, a5, a6⟩ := ht t' ht'
      exact ⟨a3, a4, a1, a2, a5, a6⟩
  | false =>
    change (match (ask0 fs B 0 x y).2.2.2 with | .pass => RuleV.itself | .never => .never | .yes ls => .links (if (0 : Int) = 1 then ls.map flipL else ls)) = _ at h
    cases ha : (ask0 fs B 0 x y).2.2.2 with
    | pass => rw [ha] at h; cases h
    | never => rw [ha] at h; cases h
    | yes l =>
      rw [ha] at h
      obtain ⟨ts, rfl, ht⟩ := ask0_links ok hB hx hy ha
      change RuleV.links (if (0 : Int) = 1 then _ else _) = _ at h
      rw [if_neg (show ¬(0 : Int) = 1 by decide)] at h
      cases h
      exact ⟨ts, rfl, ht⟩
theorem ruleF_links {fs : Fs} {B : Bs} (ok : FmOk fs) (hB : BsOk fs B) {x y : Str} (hx : x ∈ fs.map (·.1)) (hy : y ∈ fs.map (·.1)) {ls : List (D × D × D)} (h : ruleF fs B x y = .links ls) : ∃ ts : List IL, ls = ts.map lnk ∧ ∀ t ∈ ts, LkIn (fieldsF fs x) (fieldsF fs y) t := by
  unfold ruleF lastF at h
  split at h
  · exact askS_links ok hB hx hy h
  · exact askS_links ok hB hx hy h
theorem ans_mem {fs : Fs} {B : Bs} {s : Option Str} {y : Str} {ls : List (D × D × D)} (h : answerF fs B s y = .yes ls) : ∃ x b r, valG B x = some b ∧ r ∈ b ∧ r.2 = .yes ls := by
  unfold answerF at h
  cases hr : rowF fs B s y with
  | none => rw [hr] at h; cases h
  | some i =>
    rw [hr] at h
    obtain ⟨x, b, r, hs, hb, hi, hm, _⟩ := row_hit hr
    have hbo : bodyO B s = b := by rw [hs]; simp [bodyO, hb]
    dsimp only at h
    rw [hbo, hi] at h
    exact ⟨x, b, r, hb, hm, h⟩
theorem last_mem {fs : Fs} {B : Bs} {x y : Str} {ls : List (D × D × D)} (h : (lastF fs B x y).2.2.2 = .yes ls) : ∃ x b r, valG B x = some b ∧ r ∈ b ∧ r.2 = .yes ls := by
  have h2 : ∃ s, (askS fs B x y s).2.2.2 = .yes ls := by
    unfold lastF at h
    split at h
    · exact ⟨_, h⟩
    · exact ⟨_, h⟩
  obtain ⟨s, h2⟩ := h2
  cases s
  · exact ans_mem h2
  · exact ans_mem h2
theorem line_nodup_tail {fs : Fs} (ok : FmOk fs) {x y : Str} (hy : y ∈ fs.map (·.1)) : decide (x ∈ (lineF fs y).drop 1) = (decide (y ≠ x) && decide (x ∈ lineF fs y)) := by
  obtain ⟨e, c, hv⟩ := val_of_mem hy
  obtain ⟨h1, h2⟩ := lineF_step ok hv
  have hself : y ∉ (lineF fs y).drop 1 := by
    rw [h1]
    show y ∉ optL e (lineF fs)
    cases e with
    | none => simp
    | some z =>
      intro hm
      obtain ⟨h3, h4⟩ := h2 z rfl
      obtain ⟨pre, hp⟩ := lineF_suffix ok _ (Nat.le_refl _) h3 hm
      have h5 := congrArg List.length hp
      rw [List.length_append] at h5
      omega
  by_cases hxy : y = x
  · subst hxy
    rw [decide_eq_false hself]
    simp
  · rw [decide_eq_true (show y ≠ x from hxy), Bool.true_and]
    rw [h1]
    show decide (x ∈ optL e (lineF fs)) = decide (x ∈ y :: optL e (lineF fs))
    have : (x ∈ y :: optL e (lineF fs)) ↔ x ∈ optL e (lineF fs) := by simp [show ¬x = y from fun z => hxy z.symm]
    simp [this]
theorem enumD_zip {α : Type} {f : α → D} : ∀ (l : List α) (n : Nat), enumD (l.map f) n = (l.zipIdx n).map fun p => .tup [.int (p.2 : Int), f p.1]
  | [], _ => rfl
  | a :: r, n => by
    rw [List.map_cons, List.zipIdx_cons, List.map_cons]
    show D.tup _ :: enumD (r.map f) (n + 1) = _
    rw [enumD_zip r (n + 1)]
theorem zip_none {α : Type} {p : α → Bool} : ∀ (l : List α) (n : Nat), l.findIdx? p = none → (l.zipIdx n).filter (fun q => p q.1) = []
  | [], _, _ => rfl
  | a :: r, n, h => by
    rw [List.findIdx?_cons] at h
    rw [List.zipIdx_cons, List.filter_cons]
    cases ha : p a with
    | true => rw [ha] at h; cases h
    | false =>
      rw [ha] at h
      simp only [if_neg Bool.false_ne_true, Option.map_eq_none_iff] at h
      rw [if_neg Bool.false_ne_true]
      exact zip_none r (n + 1) h
theorem zip_some {α : Type} {p : α → Bool} : ∀ (l : List α) (n i : Nat), l.findIdx? p = some i → ∃ a rest, (l.zipIdx n).filter (fun q => p q.1) = (a, n + i) :: rest ∧ l[i]? = some a
  | [], _, _, h => by simp at h
  | a :: r, n, i, h => by
    rw [List.findIdx?_cons] at h
    rw [List.zipIdx_cons, List.filter_cons]
    cases ha : p a with
    | true =>
      rw [ha] at h
      simp at h
      subst h
      exact ⟨a, _, rfl, rfl⟩
    | false =>
      rw [ha] at h
      simp only [if_neg Bool.false_ne_true, Option.map_eq_some_iff] at h
      obtain ⟨j, hj, rfl⟩ := h
      rw [if_neg Bool.false_ne_true]
      obtain ⟨b, rest, h1, h2⟩ := zip_some r (n + 1) j hj
      exact ⟨b, rest, by rw [h1, show n + 1 + j = n + (j + 1) by omega], by simpa using h2⟩
theorem cutD_drop1 {ds : List D} : cutD ds (some 1) none = ds.drop 1 := by
  unfold cutD
  have e0 : HT.sIx ds.length 0 (some 1) = min 1 ds.length := HT.sIx_nat ds.length 0 1
  have e1 : HT.sIx ds.length ds.length none = ds.length := rfl
  rw [e0, e1]
  cases ds with
  | nil => rfl
  | cons a r => simp
theorem asked_head {fs : Fs} {B : Bs} {x y : Str} : ∃ tl, askedF fs B x y = askS fs B x y (orderF fs B x y) :: tl := by
  unfold askedF
  split
  · exact ⟨[_], rfl⟩
  · exact ⟨[], rfl⟩
theorem asked_one {fs : Fs} {B : Bs} {x y : Str} (h : (askedF fs B x y).length = 1) : lastF fs B x y = askS fs B x y (orderF fs B x y) := by
  unfold askedF at h
  unfold lastF
  split at h
  · cases h
  · rename_i hp
    rw [if_neg hp]
theorem askS_swap {fs : Fs} {B : Bs} {x y : Str} {s : Bool} : (askS fs B y x (!s)).2.2.2 = (askS fs B x y s).2.2.2 := by cases s <;> rfl
theorem askS_side {fs : Fs} {B : Bs} {x y : Str} {s : Bool} : (askS fs B x y s).1 = if s = true then 1 else 0 := by cases s <;> rfl
theorem flip_flip {ls : List (D × D × D)} : (ls.map flipL).map flipL = ls := by
  rw [List.map_map]
  exact List.map_id'' (fun _ => rfl) ls
theorem back_rule {fs : Fs} {B : Bs} {x y : Str} {ls : List (D × D × D)} (h1 : (askedF fs B x y).length = 1) (h2 : (askedF fs B y x).length = 1) (h3 : orderF fs B x y ≠ orderF fs B y x) (h : ruleF fs B x y = .links ls) : ruleF fs B y x = .links (ls.map flipL) := by
  have e : orderF fs B y x = !orderF fs B x y := by
    revert h3
    cases orderF fs B x y <;> cases orderF fs B y x <;> simp
  unfold ruleF at h ⊢
  rw [asked_one h1] at h
  rw [asked_one h2, e]
  unfold ruleOf at h ⊢
  rw [askS_swap, askS_side]
  rw [askS_side] at h
  cases ha : (askS fs B x y (orderF fs B x y)).2.2.2 with
  | pass => rw [ha] at h; cases h
  | never => rw [ha] at h; cases h
  | yes l =>
    rw [ha] at h
    cases hs : orderF fs B x y with
    | true =>
      rw [hs] at h
      change RuleV.links (if (1 : Int) = 1 then l.map flipL else l) = _ at h
      rw [if_pos rfl] at h
      cases h
      show RuleV.links (if (0 : Int) = 1 then _ else _) = _
      rw [if_neg (by decide), flip_flip]
    | false =>
      rw [hs] at h
      change RuleV.links (if (0 : Int) = 1 then l.map flipL else l) = _ at h
      rw [if_neg (by decide)] at h
      cases h
      show RuleV.links (if (1 : Int) = 1 then _ else _) = _
      rw [if_pos rfl]
theorem asked_srv {fs : Fs} {B : Bs} {x y : Str} {a : Ask} (h : a ∈ askedF fs B x y) : ∃ z, a.2.1 = serverF fs B z := by
  have h2 : ∃ s, a = askS fs B x y s := by
    unfold askedF at h
    split at h
    · rcases List.mem_cons.mp h with h | h
      · exact ⟨_, h⟩
      · exact ⟨_, List.mem_singleton.mp h⟩
    · exact ⟨_, List.mem_singleton.mp h⟩
  obtain ⟨s, rfl⟩ := h2
  cases s
  · exact ⟨x, rfl⟩
  · exact ⟨y, rfl⟩
end DL

set_option Elab.async false
set_option linter.all false
set_option maxRecDepth 100000
set_option maxHeartbeats 2000000
namespace DL
open PySem PySem.Spec PyProof.Rows L2
def rInsert : V → List V → Hp → VK → Prop := fun x vs H Q => ∃ l xs y, ∃ j : Nat, x = .ref l ∧ vs = [.int (j : Int), y] ∧ H l = some (.lst xs) ∧ j ≤ xs.length ∧ xs.length < sizeLine ∧ Q .non (upd H l (.lst (xs.take j ++ y :: xs.drop j)))
theorem mt_ins {X : Cx} : MtM X "list.insert" rInsert := by
  intro pins s σ H xs vs v us Q I rx rv h
  obtain ⟨l, ys, y, j, rfl, rfl, hH, hj, hz, q⟩ := h
  refine L2.mt_insert pins s σ H _ _ v us Q I rx rv ⟨l, ys, (j : Int), y, rfl, rfl, hH, hz, by omega, by have : sizeLine = 16777216 := rfl; omega, ?_⟩
  rw [show ((j : Int)).toNat = j from Int.toNat_natCast j, List.append_assoc]
  exact q
section
variable {X : Cz} {Γ : Gm} {μ : Mu} {o e f : Expr} {pos : Pos} {Q : Mu → D → Prop}
/-- xs.insert(i, x) -/
theorem we_ins {ap : Pos} (h : WE X o Γ μ fun μ1 x => LstAt μ1 x fun p => WE X e Γ μ1 fun μ2 i => WE X f Γ μ2 fun μ3 y => ∃ (j : Nat) (ds : List D), i = .int (j : Int) ∧ μ3 p = some (.lst ds) ∧ j ≤ ds.length ∧ ds.length < sizeLine ∧ Q (updM μ3 p (.lst (ds.take j ++ y :: ds.drop j))) .non)
    (hbase : attributeBase o "insert" X.env (eval o X.env) = eval o X.env := by rfl)
    (hfew : ((backTo pos (starEach [e, f] X.env)).all (fun x => !x.1) && (backToKw pos (keywordEach [] X.env)).all (fun x => x.1.isSome)
      && decide ([e, f].length + ([] : List Keyword).length + (if ([] : List Keyword).isEmpty then 0 else 1) < 30)) = true := by rfl)
    (hline : (ap.endLine == pos.line) = true := by rfl) (hs : starEach [e, f] X.env = (false, eval e X.env) :: starEach [f] X.env := by rfl) (hs2 : starEach [f] X.env = (false, eval f X.env) :: starEach [] X.env := by rfl) (hpl : (backTo pos (starEach [f] X.env)).any (·.1) = false := by rfl) :
    WE X (.Call (.Attribute o "insert" ap) [e, f] [] pos) Γ μ Q := fun Z σ H en ok tk => by
  refine toS (pe_bm PySem.F.plainAttrs_list PySem.F.slot_list_insert PySem.F.type_list_insert mt_ins pe_S (pa_cons pe_S (pa_cons pe_S pa_nil hs2) hs) hbase hfew hline hs hpl) ?_
  refine h.use (Go.refl ok) en tk fun v H1 μ1 d g1 _ en1 i1 q1 => ?_
  obtain ⟨p, rfl, ⟨ds1, e1⟩, q1⟩ := q1
  obtain ⟨vs1, e2, _⟩ := g1.ok.at_ p _ e1
  rw [isRef i1]
  refine ⟨tyL e2, ?_⟩
  refine q1.use g1 en1 tk fun w H2 μ2 d2 g2 g2' en2 i2 q2 => ?_
  refine q2.use g2 en2 tk fun u H3 μ3 d3 g3 g3' en3 i3 q3 => ?_
  obtain ⟨j, ds, rfl, hp, h1, h2, q⟩ := q3
  obtain ⟨vs, e3, t⟩ := g3.ok.at_ p _ hp
  rw [isInt i2]
  exact ⟨p, vs, u, j, rfl, rfl, e3, by rw [t.length]; exact h1, by rw [t.length]; exact h2, _, .non, g3.trans (Go.put g3.ok (.lst (ds.take j ++ d3 :: ds.drop j)) (.lst (vs.take j ++ u :: vs.drop j)) (.inr ⟨_, hp⟩) fun m => ⟨_, upd_same, m ((t.take j).append (.cons i3 (t.drop j)))⟩), .non, q⟩
end
end DL

set_option Elab.async false
set_option linter.all false
set_option maxRecDepth 100000
set_option maxHeartbeats 2000000
namespace DL
open PySem PySem.Spec PyProof.Rows L2

def Dc (X : Cz) (kx vx tg : Expr) (ifs : List Expr) (scope : Scope) (vs : List Nat) (Γ : Gm) (μ1 : Mu) (ds : List D) (G : Mu → Prop) (P : List (Key × D) → Mu → Prop) : Prop :=
  ∃ J : Nat → List (Key × D) → Mu → Prop, J 0 [] μ1 ∧ (∀ i acc μ', i ≤ ds.length → J i acc μ' → G μ') ∧
    (∀ i d acc μ', ds[i]? = some d → J i acc μ' → ∃ Γ2, (∀ X', Blk X scope X' → WG X' tg vs d Γ μ' fun Γ3 μ3 => Γ3 = Γ2 ∧ μ3 = μ') ∧ ∀ X', Blk X scope X' → WTs X' ifs Γ2 μ' fun μ3 b =>
      if b = true then ∀ X', Blk X scope X' → WE X' kx Γ2 μ3 fun μ4 y => ∀ X', Blk X scope X' → WE X' vx Γ2 μ4 fun μ5 z => ∃ k, keyD y = some k ∧ acc.length < sizeLine ∧ J (i + 1) (putG acc k z) μ5 else J (i + 1) acc μ3) ∧
    (∀ acc μ', J ds.length acc μ' → P acc μ')
section
variable {X : Cz} {Γ : Gm} {μ : Mu} {kx vx tg iter : Expr} {ifs : List Expr} {scope : Scope} {own : List (Str × Nat)} {pos : Pos} {vs : List Nat} {Q : Mu → D → Prop}
theorem dc_read (hn : NoneAt Γ (own.map (·.2))) (hv : ∀ i ∈ vs, i ∈ own.map (·.2)) {σ : L2.St} {Z : Addr → Prop} {H : Hp} {Qv : VK} (en : En X.K (Av μ Z) H σ Γ) (ok : Ok X.K μ Z H) (tk : Tk X Z μ H) {P : List (Key × D) → Mu → Prop}
    (fin : ∀ D μ1 H1 μ' H' acc ws, H1 D = none → Go X.K Z μ H μ1 H1 → Ok X.K μ' (orZ Z D) H' → Fz (Av μ1 Z) H1 (Av μ' (orZ Z D)) H' → (∀ a, Z a → H' a = H1 a) → H' D = some (.dK ws) → KD X.K (Av μ' (orZ Z D)) H' ws acc → P acc μ' → Qv (.ref D) H')
    (h : WI X tg iter Γ μ fun μ1 ds G => Dc X kx vx tg ifs scope vs Γ μ1 ds G P) :
    tDc (SI X tg iter) (fun v σ H Q => ∀ s H0 C cl fp, SG (X.toCx.blk s H0 scope (compEnvC scope cl C X.env) fp) tg v σ H Q) (fun σ H Q => ∀ s H0 C cl fp, STs (X.toCx.blk s H0 scope (compEnvC scope cl C X.env) fp) ifs σ H Q)
      (fun σ H Q => ∀ s H0 C cl fp, SE (X.toCx.blk s H0 scope (compEnvC scope cl C X.env) fp) kx σ H Q) (fun σ H Q => ∀ s H0 C cl fp, SE (X.toCx.blk s H0 scope (compEnvC scope cl C X.env) fp) vx σ H Q) (own.map (·.2)) σ H Qv := by
  refine SI.mono (h Z σ H en ok tk) fun J H1 q1 => ?_
  obtain ⟨μ1, ds, G, g1, Y, Jn, j0, jG, jb, jd⟩ := q1
  intro D hD
  obtain ⟨_, nz⟩ := g1.ok.fresh hD
  obtain ⟨ok0, fz0⟩ := g1.ok.hide hD (.dK [])
  refine ⟨fun i m H' => m = ds.length - i ∧ i ≤ ds.length ∧ ∃ acc ws μ', Ok X.K μ' (orZ Z D) H' ∧ Fz (Av μ1 Z) H1 (Av μ' (orZ Z D)) H' ∧ (∀ a, Z a → H' a = H1 a) ∧ H' D = some (.dK ws) ∧ KD X.K (Av μ' (orZ Z D)) H' ws acc ∧ Jn i acc μ',
    ⟨ds.length, rfl, Nat.zero_le _, [], [], μ1, ok0, fz0, fun a z => upd_ne fun e => nz (by rw [← e]; exact z), upd_same, .nil, j0⟩, ?_⟩
  rintro i m H' ⟨rfl, hi, acc, ws, μ', ok', fz', zk', hDl, t', hj⟩
  obtain ⟨y1, y2⟩ := Y (orZ Z D) i μ' H' ok' fz' (jG i acc μ' hi hj)
  by_cases hlt : i < ds.length
  · refine .inr ⟨(y1 hlt).1, fun H2 => ∃ acc ws μ', Ok X.K μ' (orZ Z D) H2 ∧ Fz (Av μ1 Z) H1 (Av μ' (orZ Z D)) H2 ∧ (∀ a, Z a → H2 a = H1 a) ∧ H2 D = some (.dK ws) ∧ KD X.K (Av μ' (orZ Z D)) H2 ws acc ∧ Jn (i + 1) acc μ', fun H2 q => ⟨ds.length - (i + 1), by omega, rfl, hlt, q⟩, fun x H2 hy => ?_⟩
    obtain ⟨d, hd1, g2, is⟩ := (y1 hlt).2 x H2 hy
    obtain ⟨Γ2, hg, ht⟩ := jb i d acc μ' hd1 hj
    have enw : En X.K (Av μ' (orZ Z D)) H2 (L2.wipe σ (own.map (·.2))) Γ := ((en.mono g1.fz).mono (fz'.trans g2.fz)).wipe hn
    intro s0 H0 C0 cl0 fp0
    refine ((hg _ ⟨s0, H0, C0, cl0, fp0, rfl⟩) (orZ Z D) _ H2 x enw g2.ok (Tk.never fun _ _ _ z => z) is).mono fun σ3 H3 ⟨⟨Γ3, μ3, g3, en3, e3, e4⟩, w3⟩ => ?_
    subst e3 e4
    refine ⟨(w3 _ hv).trans wipe_wipe, ?_⟩
    intro s0 H0 C0 cl0 fp0
    refine STs.mono ((ht _ ⟨s0, H0, C0, cl0, fp0, rfl⟩) (orZ Z D) σ3 H3 en3 g3.ok (Tk.never fun _ _ _ z => z)) fun b H4 ⟨μ4, g4, q4⟩ => ?_
    have g24 := (g2.trans g3).trans g4
    cases b with
    | false => exact ⟨acc, ws, μ4, g4.ok, fz'.trans g24.fz, fun a z => (g24.zk a (.inl z)).trans (zk' a z), (g24.zk D (.inr rfl)).trans hDl, t'.mono g24.fz, q4⟩
    | true =>
      show ∀ s H0 C cl fp, SE _ kx σ3 H4 _
      intro s0 H0 C0 cl0 fp0
      refine ((q4 _ ⟨s0, H0, C0, cl0, fp0, rfl⟩) (orZ Z D) σ3 H4 (en3.mono g4.fz) g4.ok (Tk.never fun _ _ _ z => z)).mono fun y H5 ⟨μ5, d5, g5, i5, q5⟩ => ?_
      show ∀ s H0 C cl fp, SE _ vx σ3 H5 _
      intro s0 H0 C0 cl0 fp0
      refine ((q5 _ ⟨s0, H0, C0, cl0, fp0, rfl⟩) (orZ Z D) σ3 H5 (en3.mono (g4.fz.trans g5.fz)) g5.ok (Tk.never fun _ _ _ z => z)).mono fun z H6 ⟨μ6, d6, g6, i6, k, hk, hl, q6⟩ => ?_
      have g26 := (g24.trans g5).trans g6
      have hD6 : H6 D = some (.dK ws) := (g26.zk D (.inr rfl)).trans hDl
      have t6 := t'.mono g26.fz
      obtain ⟨ok7, fz7⟩ := g6.ok.write nz (.dK (putK ws k z))
      refine ⟨ws, k, key_is i5 hk, hD6, by rw [t6.len]; exact hl, putG acc k d6, putK ws k z, μ6, ok7, (fz'.trans g26.fz).trans fz7, fun a z => ?_, upd_same, KD.mono fz7 (show KD X.K (Av μ6 (orZ Z D)) H6 (putG ws k z) (putG acc k d6) from P2.put t6 k i6), q6⟩
      rw [upd_ne (fun e => nz (by rw [← e]; exact z))]
      exact (g26.zk a (.inl z)).trans (zk' a z)
  · have e : i = ds.length := by omega
    subst e
    exact .inl ⟨y2 (Nat.le_refl _), fin D μ1 H1 μ' H' acc ws hD g1 ok' fz' zk' hDl t' (jd acc μ' hj)⟩
theorem dc_mut {K : PySem.W.Frag} {Z : Addr → Prop} {μ μ1 μ' : Mu} {H H1 H' : Hp} {p : Addr} {acc : List (Key × D)} {ws : List (Key × V)} (hD : H1 p = none) (g1 : Go K Z μ H μ1 H1) (ok' : Ok K μ' (orZ Z p) H') (fz' : Fz (Av μ1 Z) H1 (Av μ' (orZ Z p)) H') (zk' : ∀ a, Z a → H' a = H1 a)
    (hl : H' p = some (.dK ws)) (t' : KD K (Av μ' (orZ Z p)) H' ws acc) : μ' p = none ∧ Go K Z μ H (updM μ' p (.dK acc)) H' := by
  obtain ⟨n1, nz⟩ := g1.ok.fresh hD
  have n' := (ok'.hid p (.inr rfl)).1
  have d : Fz (Av μ' (orZ Z p)) H' (Av (updM μ' p (.dK acc)) Z) H' := fun a o e n => ⟨e, by
    rintro (z | z)
    · by_cases ha : a = p
      · exact n (.inr (.inr ha))
      · rw [updM_ne ha] at z; exact n (.inl z)
    · exact n (.inr (.inl z))⟩
  refine ⟨n', g1.trans ⟨⟨fun a o e => ?_, fun a z => ?_⟩, fz'.trans d, zk'⟩⟩
  · by_cases ha : a = p
    · subst ha
      rw [updM_same] at e; cases e
      have t2 := KD.mono d t'
      exact ⟨ws, hl, t2.keys, t2.is⟩
    · rw [updM_ne ha] at e
      exact (ok'.at_ a o e).mono d rfl
  · obtain ⟨z1, z2⟩ := ok'.hid a (.inl z)
    have ha : a ≠ p := fun e => nz (by rw [← e]; exact z)
    exact ⟨by rw [updM_ne ha]; exact z1, z2⟩
theorem we_dc (hc : X.calm = true) (hN : X.N.Nodup) (ok : BlkOk X.N X.env.scope scope own) (hn : NoneAt Γ (own.map (·.2))) (hv : ∀ i ∈ vs, i ∈ own.map (·.2))
    (h : WI X tg iter Γ μ fun μ1 ds G => Dc X kx vx tg ifs scope vs Γ μ1 ds G fun acc μ' => ∀ p, μ' p = none → Q (updM μ' p (.dK acc)) (.ref p)) (hs : ∀ x, foldedSetIterable iter X.env x = pure x := by intro _; rfl) : WE X (.DictComp kx vx [⟨tg, iter, ifs, 0⟩] scope pos) Γ μ Q := fun Z σ H en okm tk => by
  refine toS (pe_dc hc hN pi_S ok pgb_S pts_S peb_S peb_S hs) ?_
  refine dc_read hn hv en okm tk (fun D μ1 H1 μ' H' acc ws hD g1 ok' fz' zk' hl t' q => ?_) h
  obtain ⟨a1, a2⟩ := dc_mut hD g1 ok' fz' zk' hl t'
  exact ⟨_, _, a2, .ref D, q D a1⟩
end
section
variable {X : Cz} {P : Program} {w : World} {K : PySem.W.Frag} {mg : Str → Option Value} {base : Heap} {k : Nat} {N : List Str} {sc : Scope} {Γ : Gm} {μ : Mu} {kx vx tg iter : Expr} {ifs : List Expr} {scope : Scope} {pos : Pos} {vs : List Nat}
theorem ctx_dc {Q : Mu → D → Prop} (h : Ctx X P w K mg base k N sc) (own : List (Str × Nat)) (q : WI X tg iter Γ μ fun μ1 ds G => Dc X kx vx tg ifs scope vs Γ μ1 ds G fun acc μ' => ∀ p, μ' p = none → Q (updM μ' p (.dK acc)) (.ref p))
    (bc : blkC N sc scope own = true := by decide +kernel) (hn : NoneAt Γ (own.map (·.2)) := by repeat (first | exact trivial | refine ⟨rfl, ?_⟩)) (hv : ∀ i ∈ vs, i ∈ own.map (·.2) := by decide)
    (hs : ∀ x, foldedSetIterable iter X.env x = pure x := by intro _; rfl) : WE X (.DictComp kx vx [⟨tg, iter, ifs, 0⟩] scope pos) Γ μ Q := we_dc h.calm h.nd (h.blkOk bc) hn hv q hs
end
/-- a dict made of typed items, keys texts that differ -/
theorem dc_map {X : Cz} {Γ : Gm} {μ1 : Mu} {kx vx tg : Expr} {scope : Scope} {vs : List Nat} {G : Mu → Prop} {P : List (Key × D) → Mu → Prop} {α β : Type} {xs : List α} {f : α → D} {g : β → D} (T : α → Gm) (v : α → Str × β) (hG : G μ1) (hl : xs.length < sizeLine) (hnd : (xs.map fun x => (v x).1).Nodup)
    (ht : ∀ X', Blk X scope X' → ∀ x ∈ xs, WG X' tg vs (f x) Γ μ1 fun Γ3 μ3 => Γ3 = T x ∧ μ3 = μ1) (hk : ∀ X', Blk X scope X' → ∀ x ∈ xs, WE X' kx (T x) μ1 fun μ4 y => μ4 = μ1 ∧ y = .str (v x).1)
    (hv : ∀ X', Blk X scope X' → ∀ x ∈ xs, WE X' vx (T x) μ1 fun μ4 y => μ4 = μ1 ∧ y = g (v x).2) (hP : P (sKV g (xs.map v)) μ1) : Dc X kx vx tg [] scope vs Γ μ1 (xs.map f) G P := by
  refine ⟨fun i acc μ' => μ' = μ1 ∧ acc = sKV g ((xs.map v).take i), ⟨rfl, by simp [sKV]⟩, fun i acc μ' _ ⟨e, _⟩ => by subst e; exact hG, fun i d acc μ' hd ⟨e1, e2⟩ => ?_, fun acc μ' ⟨e1, e2⟩ => ?_⟩
  · subst e1 e2
    rw [List.getElem?_map] at hd
    obtain ⟨x, hx, rfl⟩ := Option.map_eq_some_iff.mp hd
    have hm : x ∈ xs := List.mem_of_getElem? hx
    obtain ⟨hlt, hxe⟩ := List.getElem?_eq_some_iff.mp hx
    refine ⟨T x, fun X' hb => ht X' hb x hm, fun X' hb => wts_nil ?_⟩
    rw [if_pos rfl]
    intro X' hb
    refine (hk X' hb x hm).mono fun μ4 y ⟨e1, e2⟩ => ?_
    subst e1 e2
    intro X' hb
    refine (hv X' hb x hm).mono fun μ5 z ⟨e1, e2⟩ => ?_
    subst e1 e2
    refine ⟨.inr (v x).1, rfl, ?_, rfl, ?_⟩
    · unfold sKV; rw [List.length_map, List.length_take, List.length_map]; exact Nat.lt_of_le_of_lt (Nat.min_le_left _ _) (Nat.lt_trans hlt hl)
    · rw [sKV_put]
      have hn : valG ((xs.map v).take i) (v x).1 = none := by
        rw [valG_none]
        intro z
        rw [List.map_take, List.map_map] at z
        obtain ⟨j, hj, e⟩ := List.getElem_of_mem z
        rw [List.getElem_take] at e
        have hj' : j < i := by rw [List.length_take] at hj; omega
        have hji : (xs.map ((fun x => x.1) ∘ v))[j]'(by rw [List.length_map]; omega) = (xs.map ((fun x => x.1) ∘ v))[i]'(by rw [List.length_map]; exact hlt) := by
          rw [e, List.getElem_map, hxe]; rfl
        exact List.pairwise_iff_getElem.mp hnd j i (by rw [List.length_map]; omega) (by rw [List.length_map]; exact hlt) hj' hji
      rw [putG_new _ hn]
      congr 1
      rw [List.take_succ, List.getElem?_map, hx]
      rfl
  · subst e1 e2
    rw [List.length_map, List.take_of_length_le (by rw [List.length_map]; exact Nat.le_refl _)]
    exact hP

def hitB {κ : Type} [DecidableEq κ] : List (κ × D) → List (κ × D) → Bool
  | [], _ => true
  | (k, d) :: r, ls => match valG ls k with
    | none => false
    | some e => eqvD d e && hitB r ls
def dEq {κ : Type} [DecidableEq κ] (ks ls : List (κ × D)) : Bool := (ks.length == ls.length) && hitB ks ls
/-- d at most n deep, all of it -/
def shKV {κ : Type} (n : Nat) (kds : List (κ × D)) : Prop := ∀ p ∈ kds, shD n p.2 = true
theorem eqP_dp {X : Cx} {pins : List (Addr × Obj)} {σ : L2.St} {H : Hp} {s : Shared} (I : Inv X pins σ H s) {A : Around} {x y : V} {u v : Value} {d e : PyData} {n : Nat} (hu : A.units + n < cLine) (hd : Dp X.K H x d) (he : Dp X.K H y e) (rx : RelV x u) (ry : RelV y v) (sd : d.canLay0 = true ∧ d.depth ≤ n) (se : e.canLay0 = true ∧ e.depth ≤ n) :
    SeqAt.EqP X.prog X.w A s u v (PyData.eqv d e) := by
  obtain ⟨as, r1⟩ := Dp.reads I d x u hd rx
  obtain ⟨bs, r2⟩ := Dp.reads I e y v he ry
  have hm : min d.depth e.depth ≤ d.depth := Nat.min_le_left _ _
  exact (SeqAt.eqAt_reads d e A s u v as bs r1 r2 sd.1 se.1 (by have := sd.2; omega)).eqP
theorem hits_of {X : Cx} {pins : List (Addr × Obj)} {σ : L2.St} {H : Hp} {s : Shared} (I : Inv X pins σ H s) {Z : Addr → Prop} {A : Around} {n : Nat} (hu : A.units + n < cLine) {ls : List (Key × V)} {lds : List (Key × D)} {us2 : List (Key × Value)} (r2 : KD X.K Z H ls lds) (v2 : KV ls us2) (s2 : shKV n lds) :
    ∀ {ks : List (Key × V)} {kds : List (Key × D)} {us : List (Key × Value)}, KD X.K Z H ks kds → KV ks us → shKV n kds → PySem.W.KeqHitsP X.prog X.w A s us2 us (hitB kds lds)
  | [], [], [], .nil, .nil, _ => .nil
  | (k, v) :: ks, (k', d) :: kds, (k'', u) :: us, .cons h t, .cons h' t', sh => by
    obtain ⟨e1, i1⟩ := h
    obtain ⟨e2, rv⟩ := h'
    dsimp only at e1 i1 e2 rv
    subst e1 e2
    have ih := hits_of I hu r2 v2 s2 t t' fun p hp => sh p (List.mem_cons_of_mem _ hp)
    show PySem.W.KeqHitsP X.prog X.w A s us2 _ (match valG lds k with | none => false | some e => eqvD d e && hitB kds lds)
    have hv := v2.val k
    rcases r2.val k with ⟨v', e, h1, h2, is⟩ | ⟨h1, h2⟩
    · rw [h2]
      rw [show valV ls k = some v' from h1] at hv
      obtain ⟨y, hy, ry⟩ : ∃ y, valueAt us2 k = some y ∧ RelV v' y := by
        cases hq : valueAt us2 k with
        | none => rw [hq] at hv; exact (show False from hv).elim
        | some y => rw [hq] at hv; exact ⟨y, rfl, hv⟩
      have hs1 := sh (k, d) List.mem_cons_self
      have hs2 : shD n e = true := s2 (k, e) (valG_mem h2)
      exact .hit hy (eqP_dp I hu (dp_of n hs1 i1) (dp_of n hs2 is) rv ry (lay_of n hs1) (lay_of n hs2)) ih
    · rw [h2]
      rw [show valV ls k = none from h1] at hv
      refine .miss ?_
      cases hq : valueAt us2 k with
      | none => rfl
      | some y => rw [hq] at hv; exact (show False from hv).elim
def rEqK (X : Cx) : R2 := fun x y H Q => ∃ (Z : Addr → Prop) (a b : Addr) (ks ls : List (Key × V)) (kds lds : List (Key × D)) (n : Nat), x = .ref a ∧ y = .ref b ∧ H a = some (.dK ks) ∧ H b = some (.dK ls) ∧ KD X.K Z H ks kds ∧ KD X.K Z H ls lds ∧ shKV n kds ∧ shKV n lds ∧ n ≤ 60 ∧ Q (.bl (dEq kds lds)) H
theorem op_eqK {X : Cx} (hu : X.A.units + 64 < cLine) : OpR X (compareOp .Eq) (rEqK X) := by
  intro pins s σ H x y v u Q I rx ry h
  obtain ⟨Z, a, b, ks, ls, kds, lds, n, rfl, rfl, ea, eb, k1, k2, s1, s2, hn, q⟩ := h
  obtain rfl : v = Value.ref a := rx
  obtain rfl : u = Value.ref b := ry
  obtain ⟨_, ya, va, ra, da⟩ := (show ObjOk X.prog X.w H s.heap a (.dK ks) from I.hok a _ ea)
  obtain ⟨_, yb, vb, rb, db⟩ := (show ObjOk X.prog X.w H s.heap b (.dK ls) from I.hok b _ eb)
  have hA : X.A.in1.units + n < cLine := by
    have : X.A.in1.units = X.A.units + 1 := rfl
    omega
  have e1 : va.length = kds.length := by rw [← ra.length]; exact k1.len
  have e2 : vb.length = lds.length := by rw [← rb.length]; exact k2.len
  refine PySem.W.rcP_dicts (knd := mixKind X.prog X.w) ya yb da db (by omega) (fun _ => hits_of I hA k2 rb s2 k1 ra s1) _ _ ?_
  rw [e1, e2]
  exact ⟨.bl _, H, I, rfl, q⟩
/-- x == y of dicts | of anything else -/
def EqX (μ : Mu) (x y : D) (R : Bool → Prop) : Prop := EqA μ x y R ∨ ∃ p q kds lds n, x = .ref p ∧ y = .ref q ∧ μ p = some (.dK kds) ∧ μ q = some (.dK lds) ∧ shKV n kds ∧ shKV n lds ∧ n ≤ 60 ∧ R (dEq kds lds)
theorem op_eqX {X : Cz} (hu : X.A.units + 64 < cLine) : OpR X (compareOp .Eq) fun x y H Q => ((scal x y = true ∧ Q (.bl (decide (x = y))) H) ∨ (∃ d e, Dp X.K H x d ∧ Dp X.K H y e ∧ SeqAt.shaped d = true ∧ SeqAt.shaped e = true ∧ Q (.bl (PyData.eqv d e)) H)) ∨ rEqK X x y H Q := OpR.or (op_eqA hu) (op_eqK hu)
section
variable {X : Cz} {Γ : Gm} {μ : Mu} {a b e c : Expr} {pos p0 : Pos} {Q : Mu → D → Prop}
theorem we_eqX (hu : X.A.units + 64 < cLine) (h : WE X a Γ μ fun μ1 x => WE X b Γ μ1 fun μ2 y => EqX μ2 x y fun c => Q μ2 (.bl c)) : WE X (.Compare a [.Eq] [b] pos) Γ μ Q := fun Z σ H en ok tk => by
  refine toS (pe_cmpR (op_eqX hu) pe_S pe_S (nomark _)) ?_
  refine h.use (Go.refl ok) en tk fun v H1 μ1 d g1 _ en1 i1 q1 => ?_
  refine q1.use g1 en1 tk fun w H2 μ2 d2 g2 g2' en2 i2 q2 => ?_
  rcases q2 with q2 | ⟨p, q, kds, lds, n, rfl, rfl, m1, m2, s1, s2, hn, r⟩
  · exact .inl (eqa_read (Q := fun c => PostE X.K Z μ H Q (.bl c) H2) g2.ok (i1.mono g2'.fz) i2 q2 fun c r => ⟨μ2, _, g2, .bl _, r⟩)
  · cases isRef i1
    cases isRef i2
    obtain ⟨ks, h1, k1⟩ := dk_wr m1 g2.ok
    obtain ⟨ls, h2, k2⟩ := dk_wr m2 g2.ok
    exact .inr ⟨_, _, _, ks, ls, kds, lds, n, rfl, rfl, h1, h2, k1, k2, s1, s2, hn, μ2, _, g2, .bl _, r⟩
theorem wt_eqX {Q : Mu → Bool → Prop} (hu : X.A.units + 64 < cLine) (h : WE X a Γ μ fun μ1 x => WE X b Γ μ1 fun μ2 y => EqX μ2 x y fun c => Q μ2 c) : WT X (.Compare a [.Eq] [b] pos) Γ μ Q := fun Z σ H en ok tk => by
  refine toT (pt_cmpR (op_eqX hu) pe_S pe_S (nomark _)) ?_
  refine h.use (Go.refl ok) en tk fun v H1 μ1 d g1 _ en1 i1 q1 => ?_
  refine q1.use g1 en1 tk fun w H2 μ2 d2 g2 g2' en2 i2 q2 => ?_
  rcases q2 with q2 | ⟨p, q, kds, lds, n, rfl, rfl, m1, m2, s1, s2, hn, r⟩
  · exact .inl (eqa_read (Q := fun c => ∃ k, V.bl c = .bl k ∧ PostT X.K Z μ H Q k H2) g2.ok (i1.mono g2'.fz) i2 q2 fun c r => ⟨c, rfl, μ2, g2, r⟩)
  · cases isRef i1
    cases isRef i2
    obtain ⟨ks, h1, k1⟩ := dk_wr m1 g2.ok
    obtain ⟨ls, h2, k2⟩ := dk_wr m2 g2.ok
    exact .inr ⟨_, _, _, ks, ls, kds, lds, n, rfl, rfl, h1, h2, k1, k2, s1, s2, hn, _, rfl, μ2, g2, r⟩
end
/-- typed dicts -/
def tEq {α : Type} [DecidableEq α] (xs ys : List (Str × α)) : Bool := (xs.length == ys.length) && xs.all fun kv => decide (valG ys kv.1 = some kv.2)
theorem hitB_typ {α : Type} [DecidableEq α] {f : α → D} (hf : EI f) {ys : List (Str × α)} : ∀ xs : List (Str × α), hitB (sKV f xs) (sKV f ys) = xs.all fun kv => decide (valG ys kv.1 = some kv.2)
  | [] => rfl
  | (k, v) :: r => by
    show (match valG (sKV f ys) (.inr k) with | none => false | some e => eqvD (f v) e && hitB (sKV f r) (sKV f ys)) = _
    rw [sKV_val, List.all_cons, hitB_typ hf r]
    cases h : valG ys k with
    | none => simp
    | some e =>
      show (eqvD (f v) (f e) && _) = _
      rw [hf.dec v e]
      congr 1
      simp only [Option.some.injEq]
      exact decide_eq_decide.mpr ⟨fun h => h.symm, fun h => h.symm⟩
theorem dEq_typ {α : Type} [DecidableEq α] {f : α → D} (hf : EI f) {xs ys : List (Str × α)} : dEq (sKV f xs) (sKV f ys) = tEq xs ys := by
  unfold dEq tEq
  rw [hitB_typ hf, sKV_len, sKV_len]
theorem eqx_typ {α : Type} [DecidableEq α] {f : α → D} (hf : EI f) {μ : Mu} {p q : Addr} {xs ys : List (Str × α)} {n : Nat} {R : Bool → Prop} (m1 : μ p = some (.dK (sKV f xs))) (m2 : μ q = some (.dK (sKV f ys))) (s1 : ∀ x ∈ xs, shD n (f x.2) = true) (s2 : ∀ x ∈ ys, shD n (f x.2) = true) (hn : n ≤ 60) (r : R (tEq xs ys)) : EqX μ (.ref p) (.ref q) R :=
  .inr ⟨p, q, _, _, n, rfl, rfl, m1, m2, fun z hz => by
    obtain ⟨x, hx, rfl⟩ := List.mem_map.mp hz
    exact s1 x hx, fun z hz => by
    obtain ⟨x, hx, rfl⟩ := List.mem_map.mp hz
    exact s2 x hx, hn, by rw [dEq_typ hf]; exact r⟩
structure Ceq (X : Cz) (C : Addr) (s : Spc) : Prop where
  mono : s.Mono
  ex : ∃ k f fd ps, Meth X.K C "__eq__" f ∧ FnOk X.prog X.w X.K X.mg X.base (L2.CX X.prog X.w) k f fd ps (lift X.K s) ∧ Room k X.A ∧ Binds X.K fd ps []
theorem Ctx.ceq {X : Cz} {P : Program} {w : World} {K : PySem.W.Frag} {mg : Str → Option Value} {base : Heap} {k : Nat} {N : List Str} {sc : Scope} (h : Ctx X P w K mg base k N sc) {C : Addr} {j : Nat} {s : Spc} (c : GCm P w K mg base C "__eq__" j s) (l : j ≤ k) : Ceq X C s := by
  obtain ⟨f, fd, ps, cl, M, F, hb, mo⟩ := c
  obtain ⟨rfl, rfl, rfl, rfl, rfl, rfl, rfl, _, hr, _⟩ := h
  exact ⟨mo, ⟨j, f, fd, ps, M, F, hr.mono l, hb⟩⟩
def rEqI (C : Addr) (sp : Sp) : R2 := fun x y H Q => ∃ a b dx dy fs gs, x = .ref a ∧ y = .ref b ∧ H a = some (.ins C dx fs) ∧ H b = some (.ins C dy gs) ∧ sp [x, y] H (fun z H' => ∃ c, z = .bl c ∧ Q (.bl c) H') E0
theorem op_eqI {X : Cx} {n : Nat} {f C : Addr} {fd : FuncData} {ps : List Str} {sp : Sp} (hs : PySem.W.findIn X.K (.ref C) "__eq__" = some (some (.ref f))) (hf : PySem.W.isFn X.K (.ref f) = true) (F : FnOk X.prog X.w X.K X.mg X.base (L2.CX X.prog X.w) n f fd ps sp) (hb : Binds X.K fd ps []) (hr : Room n X.A) : OpR X (compareOp .Eq) (rEqI C sp) := by
  intro pins s σ H x y v u Q I rx ry h
  obtain ⟨a, b, dx, dy, fs, gs, rfl, rfl, ha, hb', hsp⟩ := h
  cases rx
  cases ry
  show wpAny (model X.prog X.w) X.A (richCompare .Eq (.ref a) (.ref b)) (EP X pins σ Q) X.xe s
  obtain ⟨mA, J, _⟩ := ins_get I.hok ha
  obtain ⟨mB, J', _⟩ := ins_get I.hok hb'
  obtain ⟨od, J, _⟩ := J.look
  obtain ⟨od', J', _⟩ := J'.look
  obtain ⟨m, hF⟩ := I.fr
  refine PySem.W.cmp_K (op := .Eq) (tb := .ref C) hr.units0 hF I.ok.mod.kin J J'.type (by simp [PySem.W.notFirst]) hs hf ?_
  have hl := F.len _ _ _ _ hsp
  have r2 : Vals [V.ref a, V.ref b] [Value.ref a, Value.ref b] := .cons rfl (.cons rfl .nil)
  refine wpAny_call (codeAny_mono (F.run X.A X.stack s H ⟨[.ref a, .ref b], []⟩ [.ref a, .ref b] [.ref a, .ref b] _ E0 hr I.env0 (by
    have := hb s [.ref a, .ref b] I.kIn (by simpa using hl)
    simpa using this) r2 hsp) fun r s' hq => ?_)
  cases r with
  | error e => exact (passL (X := X) pins σ H s e s' I hq)
  | ok fl =>
    cases fl with
    | ret w =>
      obtain ⟨z, H', I', rz, c, ez, q⟩ := I.after hq
      subst ez
      cases rz
      exact ⟨.bl c, H', I', rfl, q⟩
    | next => exact False.elim hq
    | brk => exact False.elim hq
    | cont => exact False.elim hq
section
variable {X : Cz} {Γ : Gm} {μ : Mu} {a b e c : Expr} {pos p0 : Pos} {Q : Mu → D → Prop}
theorem we_eqI {C : Addr} {s : Spc} (T : Ceq X C s) (h : WE X a Γ μ fun μ1 x => WE X b Γ μ1 fun μ2 y => ∃ gs gs', InsAt μ2 x C gs ∧ InsAt μ2 y C gs' ∧ s [x, y] μ2 (fun μ3 d => ∃ c, d = .bl c ∧ Q μ3 (.bl c)) (fun _ _ => False)) : WE X (.Compare a [.Eq] [b] pos) Γ μ Q := fun Z σ H en ok tk => by
  obtain ⟨k, f, fd, ps, M, F, hr, hb⟩ := T.ex
  refine toS (pe_cmpR (op_eqI M.at_ M.fn F hb hr) pe_S pe_S (nomark _)) ?_
  refine h.use (Go.refl ok) en tk fun v H1 μ1 d g1 _ en1 i1 q1 => ?_
  refine q1.use g1 en1 tk fun w H2 μ2 d2 g2 g2' en2 i2 q2 => ?_
  obtain ⟨gs, gs', m1, m2, q⟩ := q2
  have i1' := i1.mono g2'.fz
  obtain ⟨x, dx, fs, rfl, hH, _, _⟩ := m1.at g2.ok i1'
  obtain ⟨y, dy, fs', rfl, hH', _, _⟩ := m2.at g2.ok i2
  refine ⟨x, y, dx, dy, fs, fs', rfl, rfl, hH, hH', [d, d2], μ2, Z, .cons i1' (.cons i2 .nil), g2.ok, T.mono _ _ _ _ _ _ (fun μ' d q => ?_) (fun _ _ z => z.elim) q⟩
  intro v H' g' is
  obtain ⟨j, rfl, q⟩ := q
  exact ⟨j, isBl is, μ', _, g2.trans g', .bl _, q⟩
theorem wt_eqI {C : Addr} {s : Spc} {Q : Mu → Bool → Prop} (T : Ceq X C s) (h : WE X a Γ μ fun μ1 x => WE X b Γ μ1 fun μ2 y => ∃ gs gs', InsAt μ2 x C gs ∧ InsAt μ2 y C gs' ∧ s [x, y] μ2 (fun μ3 d => ∃ c, d = .bl c ∧ Q μ3 c) (fun _ _ => False)) : WT X (.Compare a [.Eq] [b] pos) Γ μ Q := fun Z σ H en ok tk => by
  obtain ⟨k, f, fd, ps, M, F, hr, hb⟩ := T.ex
  refine toT (pt_cmpR (op_eqI M.at_ M.fn F hb hr) pe_S pe_S (nomark _)) ?_
  refine h.use (Go.refl ok) en tk fun v H1 μ1 d g1 _ en1 i1 q1 => ?_
  refine q1.use g1 en1 tk fun w H2 μ2 d2 g2 g2' en2 i2 q2 => ?_
  obtain ⟨gs, gs', m1, m2, q⟩ := q2
  have i1' := i1.mono g2'.fz
  obtain ⟨x, dx, fs, rfl, hH, _, _⟩ := m1.at g2.ok i1'
  obtain ⟨y, dy, fs', rfl, hH', _, _⟩ := m2.at g2.ok i2
  refine ⟨x, y, dx, dy, fs, fs', rfl, rfl, hH, hH', [d, d2], μ2, Z, .cons i1' (.cons i2 .nil), g2.ok, T.mono _ _ _ _ _ _ (fun μ' d q => ?_) (fun _ _ z => z.elim) q⟩
  intro v H' g' is
  obtain ⟨j, rfl, q⟩ := q
  exact ⟨j, isBl is, j, rfl, μ', g2.trans g', q⟩
structure XinC (K : PySem.W.Frag) (C : Addr) : Prop where
  cl : Cls K C
  ha : PySem.W.findIn K (.ref C) "__class__" = some (some (.builtin "object.__class__"))
  hn : PySem.W.specialIn K (.builtin "object.__class__") "__get__" = some (some (.builtin "getset_descriptor.__get__"))
  ht : PySem.W.takesIn K (.builtin "object.__class__") = some true
  hm : PySem.W.mroIn K C (.type "object") = some true
def TyD (K : PySem.W.Frag) (μ : Mu) (x : D) (t : Value) : Prop := (∃ n, kindD x = some n ∧ t = .type n) ∨ (∃ p ds, x = .ref p ∧ μ p = some (.lst ds) ∧ t = .type "list") ∨ ∃ C gs, InsAt μ x C gs ∧ XinC K C ∧ t = .ref C
theorem TyD.tyX {K : PySem.W.Frag} {Z : Addr → Prop} {H : Hp} {μ : Mu} {x : D} {t : Value} {v : V} (h : TyD K μ x t) (ok : Ok K μ Z H) (i : Is K (Av μ Z) H v x) : TyX K H v t := by
  rcases h with ⟨n, h1, rfl⟩ | ⟨p, ds, rfl, m, rfl⟩ | ⟨C, gs, m, c, rfl⟩
  · exact kindD_ok i h1
  · cases isRef i
    obtain ⟨vs, hH, _⟩ := ok.at_ _ _ m
    exact .base (.lst hH)
  · obtain ⟨a, dx, fs, rfl, hH, _, _⟩ := m.at ok i
    exact .base (.ins hH c.cl c.ha c.hn c.ht c.hm)
theorem we_isiC (B : Bl X "isinstance") (h : WE X e Γ μ fun μ1 x => WE X c Γ μ1 fun μ2 y => ∃ t C r, y = .ref C ∧ TyD X.K μ2 x t ∧ PySem.W.kitOne X.K t (.ref C) = some r ∧ Q μ2 (.bl r))
    (he : starEach [e, c] X.env = (false, eval e X.env) :: starEach [c] X.env := by rfl) (he2 : starEach [c] X.env = (false, eval c X.env) :: starEach [] X.env := by rfl) (hpl : (backTo pos (starEach [c] X.env)).any (·.1) = false := by rfl) :
    WE X (.Call (.Name "isinstance" p0) [e, c] [] pos) Γ μ Q := by
  refine we_b2 (call_isi) B (by decide +kernel) ?_ (he := he) (he2 := he2) (hpl := hpl)
  refine h.mono fun μ1 d q1 => q1.mono fun μ2 d2 q2 => ?_
  intro Z μ0 H0 H v w g i1 i2
  obtain ⟨t, C, r, rfl, hT, hk, q⟩ := q2
  cases isRef i2
  exact ⟨v, .ref C, t, .ref C, r, rfl, .own C, hT.tyX g.ok i1, hk, μ2, _, g, .bl _, q⟩
theorem we_listItems {ap cp : Pos} (hc : X.calm = true) (B : Bl X "list") (h : WE X e Γ μ fun μ1 x => ∃ p kds, x = .ref p ∧ μ1 p = some (.dK kds) ∧ Q μ1 (.lst (kds.map fun kv => .tup [keyOf kv.1, kv.2])))
    (hbase : attributeBase e "items" X.env (eval e X.env) = eval e X.env := by rfl) (hline : (ap.endLine == cp.line) = true := by rfl)
    (hs : starEach [.Call (.Attribute e "items" ap) [] [] cp] X.env = (false, eval (.Call (.Attribute e "items" ap) [] [] cp) X.env) :: starEach [] X.env := by rfl) :
    WE X (.Call (.Name "list" p0) [.Call (.Attribute e "items" ap) [] [] cp] [] pos) Γ μ Q := fun Z σ H en ok tk => by
  refine toS (LiI.pe_listItems hc pe_S B.gl B.mg (by decide +kernel) hbase hline hs) ?_
  refine h.use (Go.refl ok) en tk fun v H1 μ1 x g1 _ en1 i1 q1 => ?_
  obtain ⟨p, kds, rfl, m, q⟩ := q1
  cases isRef i1
  obtain ⟨kvs, hH, rel⟩ := dk_wr m g1.ok
  refine ⟨p, kvs, rfl, hH, fun H' l ts ext hl hts hlt hL hP => ?_⟩
  have fz : Fz (Av μ1 Z) H1 (Av μ1 Z) H' := fun a o e n => ⟨ext a o e, n⟩
  have okH : Ok X.K μ1 Z H' := ⟨fun a o e => by
    obtain ⟨u, hu⟩ := (g1.ok.at_ a o e).some
    exact (g1.ok.at_ a o e).mono fz ((ext a u hu).trans hu.symm), fun a z => ⟨(g1.ok.hid a z).1, by obtain ⟨u, hu, hn⟩ := (g1.ok.hid a z).2; exact ⟨u, ext a u hu, hn⟩⟩⟩
  have g2 : Go X.K Z μ1 H1 μ1 H' := ⟨okH, fz, fun a z => by obtain ⟨u, hu, _⟩ := (g1.ok.hid a z).2; rw [hu]; exact ext a u hu⟩
  refine ⟨μ1, _, g1.trans g2, .lst ⟨g1.ok.notAv hl, .inl hL⟩ ?_, q⟩
  have hk : ∀ {ts : List Addr} {kvs : List (Key × V)} {kds : List (Key × D)}, (∀ t ∈ ts, H1 t = none) → Paired (fun (t : Addr) (q : Key × V) => H' t = some (.tup [kV q.1, q.2])) ts kvs → KD X.K (Av μ1 Z) H1 kvs kds → IsA X.K (Av μ1 Z) H' (ts.map V.ref) (kds.map fun kv => .tup [keyOf kv.1, kv.2]) := by
    intro ts kvs kds hn hp hr
    unfold KD P2 at hr
    induction hp generalizing kds with
    | nil => cases hr; exact .nil
    | @cons t q ts kvs h1 t1 ih =>
      cases hr with
      | cons h2 t2 =>
        refine .cons (.tup (.inl ⟨g1.ok.notAv (hn _ List.mem_cons_self), .inl h1⟩) (.cons ?_ (.cons (h2.2.mono fz) .nil))) (ih (fun t ht => hn t (List.mem_cons_of_mem _ ht)) t2)
        rw [← h2.1]
        exact keyOf_is _
  exact hk hts hP rel
end
end DL

set_option Elab.async false
set_option linter.all false
set_option maxRecDepth 100000
set_option maxHeartbeats 2000000
namespace DL
open PySem PySem.Spec PyProof.Rows L2

section
variable {K : PySem.W.Frag} {μ μ2 : Mu} {Z : Addr → Prop} {H : Hp} {q : Addr} {o o' : MO}
/-- an object told otherwise -/
theorem Go.re (ok : Ok K μ Z H) (m : μ q = some o) (h : MOk K (Av μ Z) H q o') : Go K Z μ H (updM μ q o') H := by
  have fz : Fz (Av μ Z) H (Av (updM μ q o') Z) H := fun a u e n => ⟨e, by
    rintro (z | z)
    · by_cases ha : a = q
      · exact n (.inl (by rw [ha, m]; exact fun z => by cases z))
      · rw [updM_ne ha] at z; exact n (.inl z)
    · exact n (.inr z)⟩
  refine ⟨⟨fun a u e => ?_, fun a z => ?_⟩, fz, fun _ _ => rfl⟩
  · by_cases ha : a = q
    · subst ha
      rw [updM_same] at e; cases e
      exact h.mono fz rfl
    · rw [updM_ne ha] at e
      exact (ok.at_ a u e).mono fz rfl
  · obtain ⟨z1, z2⟩ := ok.hid a z
    have ha : a ≠ q := fun e => by rw [e, m] at z1; cases z1
    exact ⟨by rw [updM_ne ha]; exact z1, z2⟩
end
/-- what a dict holds is fixed from here on -/
theorem wb_frzD {X : Cz} {Γ : Gm} {μ μ2 : Mu} {k : Kt} {sts : List Stmt} {q : Addr} {kds kds' : List (Key × D)} (mq : μ q = some (.dK kds)) (hk : kds.map (·.1) = kds'.map (·.1)) (f : FrzA μ (kds.map (·.2)) μ2 (kds'.map (·.2))) (mq2 : μ2 q = some (.dK kds)) (h : WB X sts Γ (updM μ2 q (.dK kds')) k) : WB X sts Γ μ k := fun Z σ H en ok tk => by
  obtain ⟨kvs, h1, h2, h3⟩ := ok.at_ _ _ mq
  obtain ⟨g, i⟩ := f.ok ok h3
  have g2 := Go.re (q := q) g.ok mq2 (o' := .dK kds') ⟨kvs, h1, h2.trans hk, i⟩
  exact h.use (g.trans g2) (en.mono (g.trans g2).fz) tk
/-- dict(d) -/
theorem we_dictD {X : Cz} {Γ : Gm} {μ : Mu} {e : Expr} {pos p0 : Pos} {Q : Mu → D → Prop} (B : Bl X "dict") (h : WE X e Γ μ fun μ1 x => ∃ p kds, x = .ref p ∧ DkAt μ1 p kds ∧ ∀ q, μ1 q = none → Q (updM μ1 q (.dK kds)) (.ref q))
    (he : starEach [e] X.env = (false, eval e X.env) :: starEach [] X.env := by rfl) (hpl : (backTo pos (starEach [] X.env)).any (·.1) = false := by rfl) : WE X (.Call (.Name "dict" p0) [e] [] pos) Γ μ Q := by
  refine we_t1 call_dictD B (by decide +kernel) ?_ (he := he) (hpl := hpl)
  refine h.mono fun μ1 d q1 => ?_
  intro Z μ0 H0 H v g i
  obtain ⟨p, kds, rfl, m, q⟩ := q1
  cases isRef i
  obtain ⟨kvs, hH, rel⟩ := dk_at m g.ok
  exact ⟨p, kvs, rfl, hH, fun l hl => ⟨_, _, g.trans (Go.putD g.ok (.inl hl) rel), .ref l, q l (g.ok.fresh hl).1⟩⟩
theorem shD_up : ∀ {n : Nat} {d : D}, shD n d = true → shD (n + 1) d = true := by
  intro n
  induction n with
  | zero =>
    intro d h
    cases d <;> first | exact h | simp [shD] at h
  | succ n ih =>
    intro d h
    have all : ∀ ds : List D, ds.all (shD n) = true → ds.all (shD (n + 1)) = true := fun ds h => by
      rw [List.all_eq_true] at h ⊢
      exact fun x hx => ih (h x hx)
    cases d <;> first | exact h | exact all _ h | simp [shD] at h
/-- all that stood stands, but S; new things may have come -/
def Keep (S : List Addr) (μ μ1 : Mu) : Prop := ∀ p, p ∉ S → μ p ≠ none → μ1 p = μ p
section
variable {S S2 : List Addr} {μ μ1 μ2 : Mu} {p : Addr} {o : MO} {C : Addr} {k : KA} {T : Tab} {nts : List (Key × D)} {a : DA} {fs : List (Str × Frm)} {B : List (Str × List Rw)} {M : List (Str × List (D × D))}
theorem KndAt.bx2 {b g : Addr} {t : Bx} (h : KndAt C μ k T) (hb : b ∉ k.objs) (hg : g ∉ k.objs) : KndAt C (bxM b g t μ) k T := (h.upd hg).upd hb
theorem Keep.refl : Keep S μ μ := fun _ _ _ => rfl
theorem Keep.trans (h : Keep S μ μ1) (g : Keep S μ1 μ2) : Keep S μ μ2 := fun p hp hn => (g p hp (by rw [h p hp hn]; exact hn)).trans (h p hp hn)
theorem Keep.mono (h : Keep S μ μ1) (s : ∀ p ∈ S, p ∈ S2) : Keep S2 μ μ1 := fun p hp => h p fun z => hp (s p z)
theorem Keep.upd (h : Keep S μ μ1) (hp : μ p = none ∨ p ∈ S) : Keep S μ (updM μ1 p o) := fun q hq hn => by
  have : q ≠ p := fun e => by
    rcases hp with hp | hp
    · rw [e] at hn; exact hn hp
    · rw [e] at hq; exact hq hp
  rw [updM_ne this]
  exact h q hq hn
theorem Keep.del (h : Keep S μ μ1) (hp : μ p = none ∨ p ∈ S) : Keep S μ (delM μ1 p) := fun q hq hn => by
  have : q ≠ p := fun e => by
    rcases hp with hp | hp
    · rw [e] at hn; exact hn hp
    · rw [e] at hq; exact hq hp
  rw [delM_ne this]
  exact h q hq hn
theorem Keep.kn (h : Keep S μ μ1) (hp : ∀ p ∈ k.objs, μ p = none ∨ p ∈ S) : Keep S μ (kndM C k T nts μ1) := fun q hq hn => by
  rw [kndM_ne (fun z => (hp q z).elim hn hq)]
  exact h q hq hn
theorem Keep.deal (h : Keep S μ μ1) (hp : ∀ p ∈ a.objs, μ p = none ∨ p ∈ S) : Keep S μ (dealM a fs B M μ1) := fun q hq hn => by
  rw [dealM_ne (fun z => (hp q z).elim hn hq)]
  exact h q hq hn
theorem KndAt.keep (h : KndAt C μ k T) (f : Keep S μ μ1) (hd : ∀ p ∈ k.objs, p ∉ S) : KndAt C μ1 k T := by
  have m : ∀ p ∈ k.objs, μ1 p = μ p := fun p hp => f p (hd p hp) (h.sm hp).1
  have e : ∀ p, p ∈ k.objs ↔ p = k.a ∨ p = k.f ∨ p = k.b ∨ p = k.s ∨ p = k.t ∨ p = k.n := fun p => by unfold KA.objs; simp
  refine ⟨(m _ ((e _).mpr (by simp))).trans h.a, (m _ ((e _).mpr (by simp))).trans h.f, (m _ ((e _).mpr (by simp))).trans h.b, (m _ ((e _).mpr (by simp))).trans h.s, (m _ ((e _).mpr (by simp))).trans h.t, ?_, h.ne, h.ok⟩
  obtain ⟨n, hn⟩ := h.n
  exact ⟨n, (m _ ((e _).mpr (by simp))).trans hn⟩
theorem DealAt.keep (h : DealAt μ a fs B M) (f : Keep S μ μ1) (hd : ∀ p ∈ a.objs, p ∉ S) : DealAt μ1 a fs B M := by
  have m : ∀ p ∈ a.objs, μ1 p = μ p := fun p hp => f p (hd p hp) (h.sm hp).1
  have e : ∀ p, p ∈ a.objs ↔ p = a.p ∨ p = a.q ∨ p = a.r := fun p => by unfold DA.objs; simp
  exact ⟨(m _ ((e _).mpr (by simp))).trans h.p, (m _ ((e _).mpr (by simp))).trans h.q, (m _ ((e _).mpr (by simp))).trans h.r, h.ne⟩
end
structure TabIs (T : Tab) (fs : List (Str × Frm)) (B : List (Str × List Rw)) (M : List (Str × List (D × D))) : Prop where
  f : T.forms = fs
  b : ∀ x, valG T.bodies x = valG B x
  s : ∀ x, valG T.scores x = valG M x
section
variable {T : Tab} {fs : List (Str × Frm)} {B : List (Str × List Rw)} {M : List (Str × List (D × D))} {x : Str}
theorem TabIs.say (h : TabIs T fs B M) (c : List Rw) : TabIs (T.say x (some c)) fs (putG B x c) M := ⟨h.f, fun y => by
  show valG (putG (dropG T.bodies x) x c) y = _
  rw [valG_put, valG_put, valG_drop, h.b]
  split <;> rfl, h.s⟩
theorem TabIs.say0 (h : TabIs T fs B M) : TabIs (T.say x none) fs (dropG B x) M := ⟨h.f, fun y => by
  show valG (dropG T.bodies x) y = _
  rw [valG_drop, valG_drop, h.b], h.s⟩
theorem TabIs.mark (h : TabIs T fs B M) (c : List (D × D)) : TabIs (T.mark x (some c)) fs B (putG M x c) := ⟨h.f, h.b, fun y => by
  show valG (putG (dropG T.scores x) x c) y = _
  rw [valG_put, valG_put, valG_drop, h.s]
  split <;> rfl⟩
theorem TabIs.mark0 (h : TabIs T fs B M) : TabIs (T.mark x none) fs B (dropG M x) := ⟨h.f, h.b, fun y => by
  show valG (dropG T.scores x) y = _
  rw [valG_drop, valG_drop, h.s]⟩
theorem TabIs.add (h : TabIs T fs B M) (e : Option Str) (c : Int) : TabIs (T.add x e c) (fs ++ [(x, e, c)]) B M := ⟨by show T.forms ++ _ = _; rw [h.f], h.b, h.s⟩
theorem okRow_add {e : Option Str} {c : Int} {y : Str} {r : Rw} (hf : FmOk fs) (hl : fs.length < 100000) (h1 : x ∉ fs.map (·.1)) (h2 : ∀ y, e = some y → y ∈ fs.map (·.1)) (h3 : 0 ≤ c) (hy : y ∈ fs.map (·.1)) (hr : okRow fs y r = true) (hb : r.2.links.length ≤ 1000) : okRow (fs ++ [(x, e, c)]) y r = true := by
  have ok : TabOk ⟨fs, [(y, [r])], [], [], 0⟩ := ⟨hf, by show fs.length ≤ 100000; omega, ⟨by simp, fun z hz => by rw [List.mem_singleton.mp hz]; exact hy⟩, ⟨List.nodup_nil, fun _ z => (by cases z)⟩, ⟨List.nodup_nil, fun _ z => (by cases z)⟩, fun z b hb' => by
    cases List.mem_singleton.mp hb'
    exact ⟨by show 1 ≤ 1000; decide, fun r' hr' => by rw [List.mem_singleton.mp hr']; exact ⟨hr, hb⟩⟩, fun _ _ z => (by cases z)⟩
  exact (((ok.add h1 h2 h3 hl).ro y [r] (List.mem_singleton.mpr rfl)).2 r (List.mem_singleton.mpr rfl)).1
theorem okPart_add {e : Option Str} {c : Int} {y : Str} {r : D × D} (hf : FmOk fs) (hl : fs.length < 100000) (h1 : x ∉ fs.map (·.1)) (h2 : ∀ y, e = some y → y ∈ fs.map (·.1)) (h3 : 0 ≤ c) (hy : y ∈ fs.map (·.1)) (hr : okPart fs y r = true) : okPart (fs ++ [(x, e, c)]) y r = true := by
  have ok : TabOk ⟨fs, [], [(y, [r])], [], 0⟩ := ⟨hf, by show fs.length ≤ 100000; omega, ⟨List.nodup_nil, fun _ z => (by cases z)⟩, ⟨by simp, fun z hz => by rw [List.mem_singleton.mp hz]; exact hy⟩, ⟨List.nodup_nil, fun _ z => (by cases z)⟩, fun _ _ z => (by cases z), fun z b hb' => by
    cases List.mem_singleton.mp hb'
    exact ⟨by show 1 ≤ 1000; decide, fun r' hr' => by rw [List.mem_singleton.mp hr']; exact hr⟩⟩
  exact ((ok.add h1 h2 h3 hl).po y [r] (List.mem_singleton.mpr rfl)).2 r (List.mem_singleton.mpr rfl)
end
end DL

set_option Elab.async false
set_option linter.all false
set_option maxRecDepth 100000
set_option maxHeartbeats 2000000
namespace DL
open PySem PySem.Spec PyProof.Rows L2

section
variable {prog : Program} {w : World} {A : Around} {E : Value → Shared → Prop} {s : Shared} {l : Addr} {its : Array Value} {n i : Nat} {Q : List Value → Shared → Prop}
/-- behind the walk: the middle's list is made -/
def StarEnd (prog : Program) (w : World) (A : Around) (E : Value → Shared → Prop) (s : Shared) (its : Array Value) (n i : Nat) (Q : List Value → Shared → Prop) : Prop := ∀ (h' : Heap) (tk : Nat), (∀ b o, s.heap.get? b = some o → h'.get? b = some o) →
  wpAny (model prog w) A (newList ((its.toList.drop i).take (its.size + 1 - n)) >>= fun d => pure (its.toList.take i ++ [d] ++ (its.toList.drop i).drop (its.size + 1 - n))) Q E { s with heap := h', toks := tk }
theorem star_rest {I : Addr} {h1 : Heap} {tk : Nat} {bad : Sem (List Value)} (hI : I = s.heap.objs.size) (hi : i < n) (hn : n ≤ its.size + 1) (e1 : Heap.ExtBut I s.heap h1) (fin : StarEnd prog w A E s its n i Q) :
    wpAny (model prog w) A (if (its.toList.drop i).length < n - 1 - i then bad else
      (newList ((its.toList.drop i).take ((its.toList.drop i).length - (n - 1 - i))) >>= fun d => pure (its.toList.take i ++ [d] ++ (its.toList.drop i).drop ((its.toList.drop i).length - (n - 1 - i))))) Q E { s with heap := h1, toks := tk } := by
  have hlen : (its.toList.drop i).length = its.size - i := by rw [List.length_drop, Array.length_toList]
  have hm : (its.toList.drop i).length - (n - 1 - i) = its.size + 1 - n := by omega
  rw [if_neg (by omega), hm]
  exact fin h1 tk fun b o e => e1 b o (by rw [hI]; exact Nat.ne_of_lt (Heap.lt_size e)) e
theorem star_tup (tp : IsTup s.heap l its) (hh : A.handled = none) (hi : i < n) (hn : n ≤ its.size + 1) (hz : its.size ≤ 16384) (fin : StarEnd prog w A E s its n i Q) : wpAny (model prog w) A (unpackItems (.ref l) n (some i)) Q E s := by
  obtain ⟨ol, hol, _⟩ := id tp
  have below : l < s.heap.objs.size := Heap.lt_size hol
  have other := Nat.ne_of_lt below
  have first : (its.toList.take i).length = i := by rw [List.length_take, Array.length_toList]; omega
  show wpAny _ _ (notIterableAtAll (.ref l) >>= _) _ _ _
  unfold notIterableAtAll
  refine wpAny_bind (wpAny_bind (wpAny_specialOf tp.typeIs slot_tuple_iter.lookup (wpAny_pure ?_)))
  rw [if_neg (by simp)]
  refine wpAny_bind (wpAny_holding (iter_tuple tp ?_))
  dsimp only
  refine wpAny_bind (wpAny_holding (draw_tuple other i 0 _ _ ⟨_, Heap.get?_push_size _ rfl, rfl, rfl⟩ (tp.push _) (by omega) fun h1 it1 sm => ?_))
  rw [Nat.zero_add] at it1
  rw [List.drop_zero, if_neg (by omega)]
  have tp1 : IsTup h1 l its := (tp.push _).extBut sm.extBut other
  obtain ⟨oi, hoi, _⟩ := id it1
  obtain ⟨om, hom, _⟩ := id tp1
  refine wpAny_bind (wpAny_holding (PySem.W.kun_collect (s := { s with heap := h1 }) (T := "tuple_iterator") (by simp) (Walks.tuple (A := A.in1) hh _ l other its) (fun j u st => st.1.typeIs) (k := i) (by omega) ⟨it1, tp1⟩ (Heap.lt_size hoi) (Heap.lt_size hom) (fun h2 tk k2 => ?_) (by rw [sizeLine_eq]; omega)))
  exact star_rest (s := s) rfl hi hn (fun b o hb e => k2 b o hb (sm.extBut b o hb (Heap.get?_push_of_some _ e))) fin
theorem star_lst (tp : s.heap.IsList l its) (hh : A.handled = none) (hi : i < n) (hn : n ≤ its.size + 1) (hz : its.size ≤ 16384) (fin : StarEnd prog w A E s its n i Q) : wpAny (model prog w) A (unpackItems (.ref l) n (some i)) Q E s := by
  obtain ⟨ol, hol, _⟩ := id tp
  have below : l < s.heap.objs.size := Heap.lt_size hol
  have other := Nat.ne_of_lt below
  have first : (its.toList.take i).length = i := by rw [List.length_take, Array.length_toList]; omega
  show wpAny _ _ (notIterableAtAll (.ref l) >>= _) _ _ _
  unfold notIterableAtAll
  refine wpAny_bind (wpAny_bind (wpAny_specialOf tp.typeIs slot_list_iter.lookup (wpAny_pure ?_)))
  rw [if_neg (by simp)]
  refine wpAny_bind (wpAny_holding (wpAny_pyIter_list tp ?_))
  dsimp only
  refine wpAny_bind (wpAny_holding (PySem.W.kun_draw other i 0 _ _ ⟨_, Heap.get?_push_size _ rfl, rfl, rfl⟩ (tp.push _) (by omega) fun h1 it1 sm => ?_))
  rw [Nat.zero_add] at it1
  rw [List.drop_zero, if_neg (by omega)]
  have tp1 : h1.IsList l its := (tp.push _).extBut sm.extBut other
  obtain ⟨oi, hoi, _⟩ := id it1
  obtain ⟨om, hom, _⟩ := id tp1
  refine wpAny_bind (wpAny_holding (PySem.W.kun_collect (s := { s with heap := h1 }) (T := "list_iterator") (by simp) (Walks.list (A := A.in1) hh _ l other its) (fun j u st => st.1.typeIs) (k := i) (by omega) ⟨it1, tp1⟩ (Heap.lt_size hoi) (Heap.lt_size hom) (fun h2 tk k2 => ?_) (by rw [sizeLine_eq]; omega)))
  exact star_rest (s := s) rfl hi hn (fun b o hb e => k2 b o hb (sm.extBut b o hb (Heap.get?_push_of_some _ e))) fin
end
def midV {α : Type} (xs : List α) (n i : Nat) : List α := (xs.drop i).take (xs.length + 1 - n)
def starV {α : Type} (xs : List α) (n i : Nat) (m : α) : List α := xs.take i ++ [m] ++ (xs.drop i).drop (xs.length + 1 - n)
theorem sg_star {X : Cz} {tgs : List Expr} {k : Nat} {pos : Pos} {a : Addr} {xs : List V} {σ : L2.St} {H : Hp} {n i : Nat} {Q : L2.St → Hp → Prop} (hc : X.calm = true) (hln : (assignEach tgs X.env).length = n) (hs : (assignEach tgs X.env).findIdx? (·.1) = some i) (hi : i < n) (hl : n ≤ xs.length + 1) (hz : xs.length ≤ 16384)
    (ha : SqL X.K H a xs ∨ SqT X.K H a xs) (q : ∀ p, H p = none → SGs X tgs (starV xs n i (.ref p)) σ (upd H p (.lst (midV xs n i))) Q) : SG X.toCx (.Tuple tgs k pos) (.ref a) σ H Q := by
  intro pins s u I r
  obtain rfl : u = Value.ref a := r
  show wpAny _ _ (standAt pos >>= fun _ => unpack (.ref a) (assignEach tgs X.env)) _ _ _
  refine wpAny_bind (wpAny_standAt ?_)
  unfold unpack
  rw [hln, hs]
  refine wpAny_bind (wpAny_holding ?_)
  have fin : ∀ (its : List Value), Vals xs its → StarEnd X.prog X.w X.A X.xe s its.toArray n i fun us s' => wpAny (model X.prog X.w) X.A (assignInOrder ((assignEach tgs X.env).map (·.2)) us) (fun _ s' => ∃ σ' H', Inv X.toCx pins σ' H' s' ∧ Q σ' H') X.xe s' := by
    intro its rv h' tk kp
    have I1 : Inv X.toCx pins σ H { s with heap := h', toks := tk } := I.kept kp
    have el : its.length = xs.length := rv.length.symm
    have ml : ((its.drop i).take (its.length + 1 - n)).length ≤ sizeLine := by
      rw [List.length_take, List.length_drop, sizeLine_eq]; omega
    have mv : Vals (midV xs n i) ((its.drop i).take (its.length + 1 - n)) := by
      unfold midV; rw [el]; exact (rv.drop i).take _
    show wpAny _ _ (newList ((its.drop i).take (its.length + 1 - n)) >>= fun d => pure (its.take i ++ [d] ++ (its.drop i).drop (its.length + 1 - n))) _ _ _
    refine wpAny_bind (wpAny_newList (wpAny_pure ?_) ml)
    refine q h'.objs.size (I1.hok.fresh (Nat.le_refl _)) pins _ _ (I1.laid (t' := tk) (fun b u e => Heap.get?_push_of_some _ e) (Nat.le_refl _) ⟨by rw [mv.length]; exact ml, _, 0, mv, Heap.get?_push_size _ rfl⟩) ?_
    unfold starV
    rw [el]
    exact ((rv.take i).append (.cons (show RelV (V.ref h'.objs.size) (Value.ref h'.objs.size) from rfl) .nil)).append ((rv.drop i).drop _)
  rcases ha with ha | ha
  · obtain ⟨its, rv, ht, hz2⟩ := I.list ha
    obtain ⟨o, m, z1, z2, z3, z4⟩ := ht
    exact star_lst ⟨o, z1, z2, m, z4⟩ (I.ok.hd hc) hi (by rw [List.size_toArray, ← rv.length]; exact hl) (by rw [List.size_toArray, ← rv.length]; exact hz) (fin its rv)
  · obtain ⟨its, rv, ht, hz2⟩ := I.tuple ha
    exact star_tup ht (I.ok.hd hc) hi (by rw [List.size_toArray, ← rv.length]; exact hl) (by rw [List.size_toArray, ← rv.length]; exact hz) (fin its rv)
section
variable {X : Cz} {Γ : Gm} {μ : Mu} {tgs : List Expr} {tg : Expr} {pos sp : Pos} {x1 : Nat} {vs : List Nat} {ds : List D} {x d : D} {N : Gm → Mu → Prop} {n i : Nat}
theorem IsA.mid {K : PySem.W.Frag} {A : Addr → Prop} {H : Hp} {ws : List V} (t : IsA K A H ws ds) : IsA K A H (midV ws n i) (midV ds n i) := by unfold midV; rw [t.length]; exact (t.drop i).take _
theorem IsA.star {K : PySem.W.Frag} {A : Addr → Prop} {H : Hp} {ws : List V} {m : V} {e : D} (t : IsA K A H ws ds) (h : Is K A H m e) : IsA K A H (starV ws n i m) (starV ds n i e) := by unfold starV; rw [t.length]; exact ((t.take i).append (.cons h .nil)).append ((t.drop i).drop _)
/-- the middle, fixed or to be changed -/
def StarQ (μ : Mu) (ds : List D) (n i : Nat) (R : Mu → List D → Prop) : Prop := NewL μ (midV ds n i) fun μ' m => R μ' (starV ds n i m)
theorem seq_sq {K : PySem.W.Frag} {Z : Addr → Prop} {H : Hp} {v : V} (s : Seq μ x ds) (ok : Ok K μ Z H) (h : Is K (Av μ Z) H v x) : ∃ p ws, v = .ref p ∧ (SqL K H p ws ∨ SqT K H p ws) ∧ IsA K (Av μ Z) H ws ds := s.at ok h
theorem wg_star (hc : X.calm = true) (h : ∃ ds, Seq μ x ds ∧ (assignEach tgs X.env).length ≤ ds.length + 1 ∧ ds.length ≤ 16384 ∧ StarQ μ ds (assignEach tgs X.env).length i fun μ' es => WGl X tgs vs es Γ μ' N)
    (hs : (assignEach tgs X.env).findIdx? (·.1) = some i := by rfl) (hi : i < (assignEach tgs X.env).length := by decide) : WG X (.Tuple tgs x1 pos) vs x Γ μ N := fun Z σ H v en ok tk is => by
  obtain ⟨ds, sq, hl, hz, q⟩ := h
  obtain ⟨a, ws, rfl, s, t⟩ := sq.at ok is
  refine sg_star hc rfl hs hi (by rw [t.length]; exact hl) (by rw [t.length]; exact hz) s fun p hp => ?_
  rcases q with q | q
  · have g := Go.frz ok hp (.lst (midV ws (assignEach tgs X.env).length i))
    exact (q Z σ _ _ (en.mono g.fz) g.ok (tk.up g) ((t.mono g.fz).star (Is.newL ok hp t.mid))).mono fun σ' H' ⟨p2, w2⟩ => ⟨p2.up g, w2⟩
  · have g := Go.put ok (.lst (midV ds (assignEach tgs X.env).length i)) (.lst (midV ws (assignEach tgs X.env).length i)) (.inl hp) fun m => ⟨_, upd_same, m t.mid⟩
    exact (q p (ok.fresh hp).1 Z σ _ _ (en.mono g.fz) g.ok (tk.up g) ((t.mono g.fz).star (.ref p))).mono fun σ' H' ⟨p2, w2⟩ => ⟨p2.up g, w2⟩
theorem wx_star (hc : X.calm = true) (h : ∃ ds, Seq μ x ds ∧ (assignEach tgs X.env).length ≤ ds.length + 1 ∧ ds.length ≤ 16384 ∧ StarQ μ ds (assignEach tgs X.env).length i fun μ' es => WGlx X tgs es Γ μ' N)
    (hs : (assignEach tgs X.env).findIdx? (·.1) = some i := by rfl) (hi : i < (assignEach tgs X.env).length := by decide) : WGx X (.Tuple tgs x1 pos) x Γ μ N := fun Z σ H v en ok tk is => by
  obtain ⟨ds, sq, hl, hz, q⟩ := h
  obtain ⟨a, ws, rfl, s, t⟩ := sq.at ok is
  refine sg_star hc rfl hs hi (by rw [t.length]; exact hl) (by rw [t.length]; exact hz) s fun p hp => ?_
  rcases q with q | q
  · have g := Go.frz ok hp (.lst (midV ws (assignEach tgs X.env).length i))
    exact (q Z σ _ _ (en.mono g.fz) g.ok (tk.up g) ((t.mono g.fz).star (Is.newL ok hp t.mid))).mono fun σ' H' p2 => p2.up g
  · have g := Go.put ok (.lst (midV ds (assignEach tgs X.env).length i)) (.lst (midV ws (assignEach tgs X.env).length i)) (.inl hp) fun m => ⟨_, upd_same, m t.mid⟩
    exact (q p (ok.fresh hp).1 Z σ _ _ (en.mono g.fz) g.ok (tk.up g) ((t.mono g.fz).star (.ref p))).mono fun σ' H' p2 => p2.up g
/-- *b among the targets -/
theorem wgl_consS (h : WG X tg vs d Γ μ fun Γ1 μ1 => WGl X tgs vs ds Γ1 μ1 N) (hs : (assignEach (.Starred tg sp :: tgs) X.env).map (·.2) = (assignEach (tg :: tgs) X.env).map (·.2) := by rfl)
    (hs2 : (assignEach (tg :: tgs) X.env).map (·.2) = assign tg X.env :: (assignEach tgs X.env).map (·.2) := by rfl) : WGl X (.Starred tg sp :: tgs) vs (d :: ds) Γ μ N := fun Z σ H ws en ok tk is => by
  have := wgl_consV h hs2 Z σ H ws en ok tk is
  unfold SGs at this ⊢
  rw [hs]
  exact this
theorem wxl_consS (h : WGx X tg d Γ μ fun Γ1 μ1 => WGlx X tgs ds Γ1 μ1 N) (hs : (assignEach (.Starred tg sp :: tgs) X.env).map (·.2) = (assignEach (tg :: tgs) X.env).map (·.2) := by rfl)
    (hs2 : (assignEach (tg :: tgs) X.env).map (·.2) = assign tg X.env :: (assignEach tgs X.env).map (·.2) := by rfl) : WGlx X (.Starred tg sp :: tgs) (d :: ds) Γ μ N := fun Z σ H ws en ok tk is => by
  have := wxl_cons h hs2 Z σ H ws en ok tk is
  unfold SGs at this ⊢
  rw [hs]
  exact this
end
theorem keys_is {K : PySem.W.Frag} {A : Addr → Prop} {H : Hp} : ∀ {vs : List V} {ds : List D} {ks : List Key}, IsA K A H vs ds → ds.map keyD = ks.map some → vs = ks.map kV
  | [], [], ks, _, e => by
    cases ks with
    | nil => rfl
    | cons _ _ => simp at e
  | v :: vs, d :: ds, ks, h, e => by
    cases ks with
    | nil => simp at e
    | cons k ks =>
      rw [List.map_cons, List.map_cons] at e
      injection e with e1 e2
      cases h with
      | cons i t => rw [key_is i e1, keys_is t e2]; rfl
section
variable {X : Cz} {Γ : Gm} {μ : Mu} {a b e o : Expr} {es : List Expr} {pos tp : Pos} {x1 : Nat} {Q : Mu → D → Prop}
theorem dt_at {K : PySem.W.Frag} {Z : Addr → Prop} {H : Hp} {p : Addr} {kds : List (List Key × D)} (h : μ p = some (.dT kds)) (ok : Ok K μ Z H) : ∃ kvs, H p = some (.dT kvs) ∧ KD K (Av μ Z) H kvs kds := by
  obtain ⟨kvs, h1, h2, h3⟩ := ok.at_ _ _ h
  exact ⟨kvs, h1, kd_of h2 h3⟩
theorem wt_ninT {Q : Mu → Bool → Prop} (hu : X.A.units + 64 < cLine) (h : WA X es Γ μ fun μ1 ds => Req (ds.length ≤ sizeLine) <| WE X b Γ μ1 fun μ2 y => ∃ p kds ks, y = .ref p ∧ μ2 p = some (.dT kds) ∧ ds.map keyD = ks.map some ∧ Q μ2 (!(valG kds ks).isSome)) (hm : behindInMarks .NotIn b = false := by rfl) : WT X (.Compare (.Tuple es x1 tp) [.NotIn] [b] pos) Γ μ Q := fun Z σ H en ok tk => by
  refine toT (pt_cmpR (op_notInA (by omega)) (pe_tup pa_S) pe_S hm) ?_
  refine h.use (Go.refl ok) en tk fun vs H1 μ1 ds g1 _ en1 i1 q1 => ?_
  refine ⟨by rw [i1.length]; exact q1.1, fun t ht => ?_⟩
  have g1' := g1.trans (Go.frz g1.ok ht (.tup vs))
  refine q1.2.use g1' (en1.mono (Go.frz g1.ok ht (.tup vs)).fz) tk fun w H2 μ2 d2 g2 g2' en2 i2 q2 => ?_
  obtain ⟨p, kds, ks, rfl, m, hk, q⟩ := q2
  cases isRef i2
  have ev := keys_is i1 hk
  have et : H2 t = some (.tup (ks.map kV)) := by
    rw [← ev]
    exact (g2'.fz t _ upd_same (g1.ok.notAv ht)).1
  obtain ⟨kvs, hH, rel⟩ := dt_at m g2.ok
  have es : (valG kvs ks).isSome = (valG kds ks).isSome := by
    rcases rel.val ks with ⟨v, d, e1, e2, _⟩ | ⟨e1, e2⟩ <;> rw [e1, e2] <;> rfl
  refine .inr (.inl ⟨p, valG kvs ks, rfl, .inr ⟨kvs, ks, t, .inl hH, rfl, et, rfl⟩, _, rfl, μ2, g2, ?_⟩)
  rw [show (if (true : Bool) = true then !(valG kvs ks).isSome else (valG kvs ks).isSome) = !(valG kvs ks).isSome from rfl, es]
  exact q
theorem we_subT (hu : X.A.units + 64 < cLine) (h : WE X a Γ μ fun μ1 x => WA X es Γ μ1 fun μ2 ds => Req (ds.length ≤ sizeLine) <| ∃ p kds ks d, x = .ref p ∧ μ2 p = some (.dT kds) ∧ ds.map keyD = ks.map some ∧ valG kds ks = some d ∧ Q μ2 d) (hp : PlainIx (.Tuple es x1 tp) := by intro _ _; rfl) : WE X (.Subscript a (.Tuple es x1 tp) pos) Γ μ Q := fun Z σ H en ok tk => by
  refine toS (pe_ix (ix_dk (by omega)) pe_S (pe_tup pa_S) hp) ?_
  refine h.use (Go.refl ok) en tk fun v H1 μ1 d g1 _ en1 i1 q1 => ?_
  refine q1.use g1 en1 tk fun vs H2 μ2 ds g2 g2' en2 i2 q2 => ?_
  refine ⟨by rw [i2.length]; exact q2.1, fun t ht => ?_⟩
  obtain ⟨p, kds, ks, d, rfl, m, hk, hv, q⟩ := q2.2
  cases isRef (i1.mono g2'.fz)
  have ev := keys_is i2 hk
  have g3 := Go.frz g2.ok ht (.tup vs)
  obtain ⟨kvs, hH, rel⟩ := dt_at m g3.ok
  rcases rel.val ks with ⟨v, d', e1, e2, iv⟩ | ⟨_, e2⟩
  · rw [hv] at e2; cases e2
    exact ⟨p, v, rfl, .inr ⟨kvs, ks, t, .inl hH, rfl, by rw [← ev]; exact upd_same, e1.symm⟩, μ2, d, g2.trans g3, iv, q⟩
  · rw [hv] at e2; cases e2
theorem wx_putT {d : D} {N : Gm → Mu → Prop} (hu : X.A.units + 64 < cLine) (h : WE X o Γ μ fun μ1 x => WA X es Γ μ1 fun μ2 ds => Req (ds.length ≤ sizeLine) <| ∃ p kds ks, x = .ref p ∧ μ2 p = some (.dT kds) ∧ ds.map keyD = ks.map some ∧ kds.length < sizeLine ∧ N Γ (updM μ2 p (.dT (putG kds ks d))))
    (ha : ∀ v, assign (.Subscript o (.Tuple es x1 tp) pos) X.env v = (do
      let ov ← holding [v] (eval o X.env)
      let iv ← holding [v, ov] (eval (.Tuple es x1 tp) X.env)
      standAt pos
      holding [v, ov, iv] (setItem ov iv v)
      release [v, ov, iv] []) := by intro _; rfl) : WGx X (.Subscript o (.Tuple es x1 tp) pos) d Γ μ N := fun Z σ H v en ok tk is => by
  refine toG (pg_sub pe_S (pe_tup pa_S) (set_any (by omega)) ha) ?_
  refine h.use (Go.refl ok) en tk fun ov H1 μ1 d1 g1 _ en1 i1 q1 => ?_
  refine q1.use g1 en1 tk fun vs H2 μ2 ds g2 g2' en2 i2 q2 => ?_
  refine ⟨by rw [i2.length]; exact q2.1, fun t ht => ?_⟩
  obtain ⟨p, kds, ks, rfl, m, hk, hl, q⟩ := q2.2
  cases isRef (i1.mono g2'.fz)
  have ev := keys_is i2 hk
  have g3 := Go.frz g2.ok ht (.tup vs)
  obtain ⟨kvs, hH, rel⟩ := dt_at m g3.ok
  have r2 := rel.put ks ((is.mono g2.fz).mono g3.fz)
  have g4 := Go.put g3.ok (.dT (putG kds ks d)) (.dT (putG kvs ks v)) (.inr ⟨_, m⟩) fun mm => ⟨_, upd_same, r2.keys, mm (KD.is r2)⟩
  exact .inr (.inl ⟨p, _, rfl, .inr ⟨kvs, ks, t, hH, rfl, by rw [← ev]; exact upd_same, by rw [rel.len]; exact hl, rfl⟩, Γ, _, (g2.trans g3).trans g4, en2.mono (g3.fz.trans g4.fz), q⟩)
end
end DL

set_option Elab.async false
set_option linter.all false
set_option maxRecDepth 100000
set_option maxHeartbeats 2000000
namespace DL
open PySem PySem.Spec PyProof.Rows L2

theorem find_congr {α : Type} {p q : α → Bool} : ∀ {l : List α}, (∀ x ∈ l, p x = q x) → l.find? p = l.find? q
  | [], _ => rfl
  | x :: l, h => by
    rw [List.find?_cons, List.find?_cons, h x List.mem_cons_self, find_congr fun y hy => h y (List.mem_cons_of_mem _ hy)]
section
variable {fs : Fs} {B B' : Bs} {x y : Str}
theorem server_local (h : ∀ z ∈ lineF fs x, valG B z = valG B' z) : serverF fs B x = serverF fs B' x := find_congr fun z hz => by rw [h z hz]
theorem bodyO_local {s : Option Str} (h : ∀ z, s = some z → valG B z = valG B' z) : bodyO B s = bodyO B' s := by
  cases s with
  | none => rfl
  | some z => show (valG B z).getD [] = (valG B' z).getD []; rw [h z rfl]
theorem ask0_local {i : Int} (h : ∀ z ∈ lineF fs x, valG B z = valG B' z) : ask0 fs B i x y = ask0 fs B' i x y := by
  have e : bodyO B (serverF fs B' x) = bodyO B' (serverF fs B' x) := bodyO_local fun z hz => h z (server_mem hz).1
  unfold ask0 answerF rowF
  rw [server_local h, e]
theorem askS_local {s : Bool} (h1 : ∀ z ∈ lineF fs x, valG B z = valG B' z) (h2 : ∀ z ∈ lineF fs y, valG B z = valG B' z) : askS fs B x y s = askS fs B' x y s := by unfold askS; rw [ask0_local h1, ask0_local h2]
theorem order_local (h1 : ∀ z ∈ lineF fs x, valG B z = valG B' z) (h2 : ∀ z ∈ lineF fs y, valG B z = valG B' z) : orderF fs B x y = orderF fs B' x y := by unfold orderF; rw [server_local h1, server_local h2]
theorem rule_local (h1 : ∀ z ∈ lineF fs x, valG B z = valG B' z) (h2 : ∀ z ∈ lineF fs y, valG B z = valG B' z) : ruleF fs B x y = ruleF fs B' x y := by unfold ruleF lastF; rw [order_local h1 h2, askS_local h1 h2, askS_local h1 h2]
variable {f : Str × Frm}
theorem line_add (h : f.1 ∉ fs.map (·.1)) (hx : x ∈ fs.map (·.1)) : lineF (fs ++ [f]) x = lineF fs x := lineF_add (e := f.2) fun z => h (by rw [← z]; exact hx)
theorem server_add (h : f.1 ∉ fs.map (·.1)) (hx : x ∈ fs.map (·.1)) : serverF (fs ++ [f]) B x = serverF fs B x := by unfold serverF; rw [line_add h hx]
theorem rowF_add {s : Option Str} (h : f.1 ∉ fs.map (·.1)) (hx : x ∈ fs.map (·.1)) : rowF (fs ++ [f]) B s x = rowF fs B s x := by
  unfold rowF
  congr 1
  funext r
  unfold rowHit
  rw [line_add h hx]
theorem ask0_add {i : Int} (h : f.1 ∉ fs.map (·.1)) (hx : x ∈ fs.map (·.1)) (hy : y ∈ fs.map (·.1)) : ask0 (fs ++ [f]) B i x y = ask0 fs B i x y := by unfold ask0 answerF; rw [server_add h hx, rowF_add h hy]
theorem rule_add (h : f.1 ∉ fs.map (·.1)) (hx : x ∈ fs.map (·.1)) (hy : y ∈ fs.map (·.1)) : ruleF (fs ++ [f]) B x y = ruleF fs B x y := by
  have e : orderF (fs ++ [f]) B x y = orderF fs B x y := by unfold orderF; rw [line_add h hy, server_add h hx, server_add h hy]
  have s : ∀ s, askS (fs ++ [f]) B x y s = askS fs B x y s := fun s => by unfold askS; rw [ask0_add h hy hx, ask0_add h hx hy]
  unfold ruleF lastF
  rw [e, s, s]
end
inductive TStep (T : Tab) : Tab → Prop
  | same : TStep T T
  | say (x : Str) (b : Option (List Rw)) (hx : x ∈ T.names) : TStep T (T.say x b)
  | mark (x : Str) (b : Option (List (D × D))) : TStep T (T.mark x b)
  | add (x : Str) (e : Option Str) (c : Int) (hx : x ∉ T.names) : TStep T (T.add x e c)
def saidF (T : Tab) (y : Str) : Int := (valG T.turns y).getD 0
def lateB (T : Tab) (a b : Str) (t : Int) : Bool := (T.line a ++ T.line b).any fun y => decide (t < saidF T y)
abbrev RS := List ((Str × Str) × (RuleV × Int))
def staleB (T : Tab) (R : RS) (a b : Str) : Bool := match valG R (a, b) with
  | none => true
  | some e => lateB T a b e.2
def knownF (T : Tab) (R : RS) (n : Int) (a b : Str) : RS × Int := if staleB T R a b = true then (putG R (a, b) (ruleF T.forms T.bodies a b, T.turn), n + 1) else (R, n)
structure RsOk (T : Tab) (R : RS) : Prop where
  t : ∀ q ∈ R, q.2.2 ≤ T.turn
  r : ∀ q ∈ R, lateB T q.1.1 q.1.2 q.2.2 = false → q.2.1 = ruleF T.forms T.bodies q.1.1 q.1.2
  n : ∀ q ∈ R, q.1.1 ∈ T.names ∧ q.1.2 ∈ T.names
theorem putG_memG {κ α : Type} [DecidableEq κ] {kvs : List (κ × α)} {x : κ} {a : α} {p : κ × α} (h : p ∈ putG kvs x a) : p ∈ kvs ∨ p = (x, a) := by
  unfold putG at h
  split at h
  · obtain ⟨q, hq, e⟩ := List.mem_map.mp h
    by_cases hx : q.1 = x
    · rw [if_pos hx] at e; rw [hx] at e; exact .inr e.symm
    · rw [if_neg hx] at e; rw [← e]; exact .inl hq
  · rcases List.mem_append.mp h with h | h
    · exact .inl h
    · exact .inr (List.mem_singleton.mp h)
theorem RsOk.nil {T : Tab} : RsOk T [] := ⟨fun _ z => (by cases z), fun _ z => (by cases z), fun _ z => (by cases z)⟩
theorem RsOk.known {T : Tab} {R : RS} {n : Int} {a b : Str} (h : RsOk T R) (ha : a ∈ T.names) (hb : b ∈ T.names) : RsOk T (knownF T R n a b).1 := by
  unfold knownF
  split
  · refine ⟨fun q hq => ?_, fun q hq hl => ?_, fun q hq => ?_⟩
    · rcases putG_memG hq with hq | rfl
      · exact h.t q hq
      · exact Int.le_refl _
    · rcases putG_memG hq with hq | rfl
      · exact h.r q hq hl
      · rfl
    · rcases putG_memG hq with hq | rfl
      · exact h.n q hq
      · exact ⟨ha, hb⟩
  · exact h
theorem RsOk.step {T T' : Tab} {R : RS} (h : RsOk T R) (s : TStep T T') : RsOk T' R := by
  cases s with
  | same => exact h
  | say x b hx =>
    have hs : ∀ y, saidF (T.say x b) y = if y = x then T.turn + 1 else saidF T y := fun y => by
      show (valG (putG T.turns x (T.turn + 1)) y).getD 0 = _
      rw [valG_put]
      split <;> rfl
    refine ⟨fun q hq => by show q.2.2 ≤ T.turn + 1; have := h.t q hq; omega, fun q hq hl => ?_, h.n⟩
    have hn : ∀ y ∈ T.line q.1.1 ++ T.line q.1.2, y ≠ x ∧ ¬ q.2.2 < saidF T y := fun y hy => by
      have h1 := List.any_eq_false.mp hl y hy
      rw [hs] at h1
      by_cases hyx : y = x
      · rw [if_pos hyx] at h1
        have := h.t q hq
        exact absurd (decide_eq_true (show q.2.2 < T.turn + 1 by omega)) h1
      · rw [if_neg hyx] at h1
        exact ⟨hyx, fun z => h1 (decide_eq_true z)⟩
    have e : q.2.1 = ruleF T.forms T.bodies q.1.1 q.1.2 := h.r q hq (List.any_eq_false.mpr fun y hy z => (hn y hy).2 (of_decide_eq_true z))
    rw [e]
    have hv : ∀ y, y ≠ x → valG T.bodies y = valG (T.say x b).bodies y := fun y hy => by
      cases b with
      | none => show _ = valG (dropG T.bodies x) y; rw [valG_drop, if_neg hy]
      | some c => show _ = valG (putG (dropG T.bodies x) x c) y; rw [valG_put, if_neg hy, valG_drop, if_neg hy]
    exact rule_local (fun z hz => hv z (hn z (List.mem_append.mpr (.inl hz))).1) fun z hz => hv z (hn z (List.mem_append.mpr (.inr hz))).1
  | mark x b => exact ⟨h.t, h.r, h.n⟩
  | add x e c hx =>
    have hl : ∀ y ∈ T.names, (T.add x e c).line y = T.line y := fun y hy => line_add hx hy
    refine ⟨h.t, fun q hq hq2 => ?_, fun q hq => ?_⟩
    · obtain ⟨n1, n2⟩ := h.n q hq
      have e1 : lateB T q.1.1 q.1.2 q.2.2 = false := by
        rw [← hq2]
        unfold lateB
        rw [hl _ n1, hl _ n2]
        rfl
      rw [h.r q hq e1]
      exact (rule_add (f := (x, e, c)) hx n1 n2).symm
    · obtain ⟨n1, n2⟩ := h.n q hq
      have sub : ∀ y ∈ T.names, y ∈ (T.add x e c).names := fun y hy => by show y ∈ (T.forms ++ [(x, e, c)]).map (·.1); rw [List.map_append]; exact List.mem_append.mpr (.inl hy)
      exact ⟨sub _ n1, sub _ n2⟩
structure AK where
  a : Addr
  r : Addr
def AK.objs (x : AK) : List Addr := [x.a, x.r]
def rsV (e : RuleV × Int) : D := .tup [ruleD e.1, .int e.2]
def rsKV (R : RS) : List (List Key × D) := R.map fun q => ([.inr q.1.1, .inr q.1.2], rsV q.2)
def askFs (k : KA) (x : AK) (n : Int) : List (Str × D) := [("kinds", .ref k.a), ("rules", .ref x.r), ("count", .int n)]
structure AskAt (C : Addr) (μ : Mu) (x : AK) (k : KA) (R : RS) (n : Int) : Prop where
  a : μ x.a = some (.ins C (askFs k x n))
  r : μ x.r = some (.dT (rsKV R))
  ne : x.a ≠ x.r
  dj : ∀ p ∈ x.objs, p ∉ k.objs
theorem key2_inj {a b c d : Str} : (([.inr a, .inr b] : List Key) = [.inr c, .inr d]) ↔ (a, b) = (c, d) := ⟨fun h => by
  injection h with h1 h2
  injection h2 with h2 h3
  injection h1 with h1
  injection h2 with h2
  rw [h1, h2], fun h => by
  injection h with h1 h2
  rw [h1, h2]⟩
theorem rsKV_val {a b : Str} : ∀ {R : RS}, valG (rsKV R) [.inr a, .inr b] = (valG R (a, b)).map rsV
  | [] => rfl
  | q :: R => by
    show valG (([.inr q.1.1, .inr q.1.2], rsV q.2) :: rsKV R) _ = _
    rw [valG_cons, valG_cons, rsKV_val]
    by_cases h : q.1 = (a, b)
    · rw [if_pos h, if_pos (key2_inj.mpr h)]; rfl
    · rw [if_neg h, if_neg fun z => h (key2_inj.mp z)]
theorem rsKV_put {a b : Str} {e : RuleV × Int} {R : RS} : putG (rsKV R) [.inr a, .inr b] (rsV e) = rsKV (putG R (a, b) e) := by
  have h1 : (valG (rsKV R) [.inr a, .inr b]).isSome = (valG R (a, b)).isSome := by rw [rsKV_val, Option.isSome_map]
  unfold putG
  rw [any_val, any_val, h1]
  split
  · unfold rsKV
    rw [List.map_map, List.map_map]
    refine List.map_congr_left fun q _ => ?_
    show (if ([.inr q.1.1, .inr q.1.2] : List Key) = [.inr a, .inr b] then _ else _) = _
    by_cases h : q.1 = (a, b)
    · rw [if_pos (key2_inj.mpr h)]
      show _ = (fun q : (Str × Str) × (RuleV × Int) => (([.inr q.1.1, .inr q.1.2] : List Key), rsV q.2)) (if q.1 = (a, b) then (q.1, e) else q)
      rw [if_pos h]
    · rw [if_neg fun z => h (key2_inj.mp z)]
      show _ = (fun q : (Str × Str) × (RuleV × Int) => (([.inr q.1.1, .inr q.1.2] : List Key), rsV q.2)) (if q.1 = (a, b) then (q.1, e) else q)
      rw [if_neg h]
  · unfold rsKV
    rw [List.map_append]
    rfl
section
variable {C : Addr} {μ μ1 : Mu} {x : AK} {k : KA} {R : RS} {n : Int} {S : List Addr} {p b g : Addr} {t : Bx} {o : MO}
theorem AskAt.keep (h : AskAt C μ x k R n) (f : Keep S μ μ1) (hd : ∀ p ∈ x.objs, p ∉ S) : AskAt C μ1 x k R n := by
  have e : ∀ p, p ∈ x.objs ↔ p = x.a ∨ p = x.r := fun p => by unfold AK.objs; simp
  exact ⟨(f _ (hd _ ((e _).mpr (by simp))) (by rw [h.a]; exact fun z => by cases z)).trans h.a, (f _ (hd _ ((e _).mpr (by simp))) (by rw [h.r]; exact fun z => by cases z)).trans h.r, h.ne, h.dj⟩
theorem AskAt.sm (h : AskAt C μ x k R n) (hp : p ∈ x.objs) : μ p ≠ none ∧ ∀ l, μ p ≠ some (.lst l) := by
  unfold AK.objs at hp
  simp only [List.mem_cons, List.not_mem_nil, or_false] at hp
  rcases hp with rfl | rfl
  · rw [h.a]; exact ⟨fun z => (by cases z), fun l z => (by cases z)⟩
  · rw [h.r]; exact ⟨fun z => (by cases z), fun l z => (by cases z)⟩
theorem AskAt.upd (h : AskAt C μ x k R n) (hp : p ∉ x.objs) : AskAt C (updM μ p o) x k R n := by
  have e : ∀ p, p ∈ x.objs ↔ p = x.a ∨ p = x.r := fun p => by unfold AK.objs; simp
  rw [e, not_or] at hp
  exact ⟨(updM_ne fun z => hp.1 z.symm).trans h.a, (updM_ne fun z => hp.2 z.symm).trans h.r, h.ne, h.dj⟩
theorem AskAt.bx2 (h : AskAt C μ x k R n) (hb : b ∉ x.objs) (hg : g ∉ x.objs) : AskAt C (bxM b g t μ) x k R n := (h.upd hg).upd hb
theorem AskAt.new (h : AskAt C μ x k R n) (hp : μ p = none) : AskAt C (updM μ p o) x k R n := h.upd fun z => (h.sm z).1 hp
end
theorem lc_one {X : Cz} {Γ : Gm} {μ1 : Mu} {elt tg : Expr} {scope : Scope} {vs : List Nat} {G : Mu → Prop} {P : List D → Mu → Prop} {d : D} (T : Gm) (hG : G μ1)
    (ht : ∀ X', Blk X scope X' → WG X' tg vs d Γ μ1 fun Γ3 μ3 => Γ3 = T ∧ μ3 = μ1) (he : ∀ X', Blk X scope X' → WE X' elt T μ1 fun μ4 y => G μ4 ∧ P [y] μ4) : Lc X elt tg [] scope vs Γ μ1 [d] G P := by
  refine ⟨fun i acc μ' => (i = 0 ∧ acc = [] ∧ μ' = μ1) ∨ (i = 1 ∧ G μ' ∧ P acc μ'), .inl ⟨rfl, rfl, rfl⟩, fun i acc μ' _ h => ?_, fun i d' acc μ' hd h => ?_, fun acc μ' h => ?_⟩
  · rcases h with ⟨_, _, rfl⟩ | ⟨_, h, _⟩
    · exact hG
    · exact h
  · rcases h with ⟨rfl, rfl, rfl⟩ | ⟨rfl, _, _⟩
    · cases hd
      refine ⟨T, ht, fun X' bl => wts_nil ?_⟩
      rw [if_pos rfl]
      intro X' bl
      exact (he X' bl).mono fun μ4 y ⟨h1, h2⟩ => ⟨by show 0 < 16777216; decide, .inr ⟨rfl, h1, h2⟩⟩
    · cases hd
  · rcases h with ⟨h, _, _⟩ | ⟨_, _, h⟩
    · cases h
    · exact h
theorem lc_zero {X : Cz} {Γ : Gm} {μ1 : Mu} {elt tg : Expr} {scope : Scope} {vs : List Nat} {G : Mu → Prop} {P : List D → Mu → Prop} (hG : G μ1) (hP : P [] μ1) : Lc X elt tg [] scope vs Γ μ1 [] G P :=
  ⟨fun i acc μ' => acc = [] ∧ μ' = μ1, ⟨rfl, rfl⟩, fun i acc μ' _ ⟨_, h⟩ => by rw [h]; exact hG, fun i d acc μ' hd _ => (by cases hd), fun acc μ' ⟨h1, h2⟩ => by rw [h1, h2]; exact hP⟩
end DL

set_option Elab.async false
set_option linter.all false
set_option maxRecDepth 100000
set_option maxHeartbeats 2000000
namespace DL
open PySem PySem.Spec PyProof.Rows L2
section
open PySem.W
variable {prog : Program} {w : World} {A : Around} {E : Value → Shared → Prop} {s : Shared} {h₀ : Heap} {K : PySem.W.Frag} {x y f C : Addr} {ox oy : Obj} {od od' : Option Obj}
theorem ne_K {L : Addr} {m : Array (Option Value)} {Q : Value → Shared → Prop} (hu : A.units + 1 < cLine) (X : K.In s.heap) (I : InstAt s.heap x ox C od) (J : InstAt s.heap y oy C od')
    (hn : findIn K (.ref C) "__ne__" = some (some (.builtin "object.__ne__"))) (hm : mroIn K C (.type "object") = some true) (hs : findIn K (.ref C) "__eq__" = some (some (.ref f))) (hf : isFn K (.ref f) = true)
    (h : wpAny (model prog w) A.in1 (call (.ref f) [.ref x, .ref y]) (fun v s' => ∃ b, v = .bool b ∧ Q (.bool (!b)) s') E s) : wpAny (model prog w) A (richCompare .NotEq (.ref x) (.ref y)) Q E s := by
  have sub : PySem.W.Looks (model prog w) s.heap (isInstance (.ref x) (.type "object")) true := I.type.andThen (PySem.W.looks_mroIn X hm)
  have S := PySem.F.cmp_object.ne
  have entry : wpAny (model prog w) A.in1 (Builtin.«object.__ne__» ⟨[.ref x, .ref y], []⟩) (fun fin s' => ∃ b, fin = .done (.ret (.bool b)) ∧ Q (.bool b) s') E s := by
    unfold Builtin.«object.__ne__»
    repeat (first
      | with_reducible refine wpAny_cRoomFor hu ?_
      | (refine wpAny_bind (m := callSpecialIfBound? (.ref x) (Str.ofString "__eq__") [.ref y])
          (ifBound_K X I hs hf (wpAny_mono h (fun r s' hr => by
            obtain ⟨b, rfl, hq⟩ := hr
            have hq' : ∃ b', Fin.done (.ret (.bool (!b))) = Fin.done (.ret (.bool b')) ∧ Q (.bool b') s' := ⟨_, rfl, hq⟩
            repeat (first | exact hq' | exact wpAny_pure hq' | exact wpAny_truthy_bool hq' | (refine wpAny_bind (m := truthy (.bool _)) (wpAny_truthy_bool ?_)) | wp_step)) fun _ _ e => e)))
      | wp_step)
  have called : wpAny (model prog w) A (call (.builtin "object.__ne__") [.ref x, .ref y]) (fun v s' => ∃ b, v = .bool b ∧ Q (.bool b) s') E s :=
    wpAny_call (codeAny_call_builtin S.plain PySem.F.cmpEntry_ne (PySem.W.check_slot PySem.F.cmpKind_ne PySem.F.cmpSplit_ne sub (PySem.F.cmpArgs_ne _ _) (wpAny_mono entry (fun v s' hv => by
      obtain ⟨b, rfl, hq⟩ := hv
      have h3 : ∃ b', Value.bool b = .bool b' ∧ Q (.bool b') s' := ⟨b, rfl, hq⟩
      first | exact h3 | exact wpAny_pure h3 | exact wpAny_pure (wpAny_pure h3)) fun _ _ e => e)))
  have one : wpAny (model prog w) A (tryCompare (.ref x) "__ne__" (.ref y)) (fun r s' => ∃ b, r = some (.bool b) ∧ Q (.bool b) s') E s := by
    simp only [tryCompare]
    refine wpAny_bind ?_
    simp only [callSpecialIfBound?, bindSpecialIfBound?]
    refine wpAny_holding (wpAny_bind (wpAny_bind (wpAny_bind (I.type.here ((looks_findIn X hn).here ?_)))))
    simp only [S.bind]
    refine wpAny_bind (wpAny_askSetting (wpAny_ite ?_))
    have fin : wpAny (model prog w) A (call (.builtin "object.__ne__") ([.ref x] ++ [.ref y]) >>= fun v => pure (some v)) (fun v s' => wpAny (model prog w) A (match v with
      | some .notImplemented | none => pure none
      | some v => pure (some v)) (fun r s' => ∃ b, r = some (.bool b) ∧ Q (.bool b) s') E s') E s :=
      wpAny_bind (wpAny_mono called (fun v s' h' => by
        obtain ⟨b, rfl, hq⟩ := h'
        exact wpAny_pure (wpAny_pure ⟨b, rfl, hq⟩)) fun _ _ h' => h')
    split
    · exact wpAny_bind (wpAny_pure (wpAny_pure fin))
    · exact wpAny_tryCatch (wpAny_bind (wpAny_pure (wpAny_pure fin)))
  unfold richCompare
  simp only [oneThing_ref]
  refine wpAny_holding ?_
  refine wpAny_bind (wpAny_cRoomFor (Nat.lt_of_succ_lt hu) ?_)
  rw [cmpInfo_NotEq]
  dsimp only
  refine wpAny_bind (I.type.here (wpAny_bind (J.type.here ?_)))
  rw [show (Value.ref C != Value.ref C) = false from by simp]
  simp only [Bool.false_eq_true, if_false]
  refine wpAny_bind (wpAny_pure ?_)
  simp only [Bool.false_eq_true, if_false]
  refine wpAny_bind (wpAny_mono one (fun v s' hv => ?_) fun _ _ e => e)
  obtain ⟨b, rfl, hq⟩ := hv
  exact wpAny_pure hq
end
structure XneC (K : PySem.W.Frag) (C : Addr) : Prop where
  hn : PySem.W.findIn K (.ref C) "__ne__" = some (some (.builtin "object.__ne__"))
  hm : PySem.W.mroIn K C (.type "object") = some true
structure Cne (X : Cz) (C : Addr) (s : Spc) : Prop where
  mono : s.Mono
  xne : XneC X.K C
  ex : ∃ k f fd ps, Meth X.K C "__eq__" f ∧ FnOk X.prog X.w X.K X.mg X.base (L2.CX X.prog X.w) k f fd ps (lift X.K s) ∧ Room (k + 1) X.A ∧ Binds X.K fd ps []
theorem Ctx.cne {X : Cz} {P : Program} {w : World} {K : PySem.W.Frag} {mg : Str → Option Value} {base : Heap} {k : Nat} {N : List Str} {sc : Scope} (h : Ctx X P w K mg base k N sc) {C : Addr} {j : Nat} {s : Spc} (c : GCm P w K mg base C "__eq__" j s) (n : XneC K C) (l : j + 1 ≤ k) : Cne X C s := by
  obtain ⟨f, fd, ps, cl, M, F, hb, mo⟩ := c
  obtain ⟨rfl, rfl, rfl, rfl, rfl, rfl, rfl, _, hr, _⟩ := h
  exact ⟨mo, n, ⟨j, f, fd, ps, M, F, hr.mono l, hb⟩⟩
theorem op_neI {X : Cx} {n : Nat} {f C : Addr} {fd : FuncData} {ps : List Str} {sp : Sp} (hx : XneC X.K C) (hs : PySem.W.findIn X.K (.ref C) "__eq__" = some (some (.ref f))) (hf : PySem.W.isFn X.K (.ref f) = true) (F : FnOk X.prog X.w X.K X.mg X.base (L2.CX X.prog X.w) n f fd ps sp) (hb : Binds X.K fd ps []) (hr : Room (n + 1) X.A) : OpR X (compareOp .NotEq) (fun x y H Q => rEqI C sp x y H fun z H' => ∃ c, z = .bl c ∧ Q (.bl (!c)) H') := by
  intro pins s σ H x y v u Q I rx ry h
  obtain ⟨a, b, dx, dy, fs, gs, rfl, rfl, ha, hb', hsp⟩ := h
  cases rx
  cases ry
  show wpAny (model X.prog X.w) X.A (richCompare .NotEq (.ref a) (.ref b)) (EP X pins σ Q) X.xe s
  obtain ⟨mA, J, _⟩ := ins_get I.hok ha
  obtain ⟨mB, J', _⟩ := ins_get I.hok hb'
  obtain ⟨od, J, _⟩ := J.look
  obtain ⟨od', J', _⟩ := J'.look
  obtain ⟨m, hF⟩ := I.fr
  refine ne_K (L := a) (m := #[]) (by have := hr.un; omega) (I.ok.mod.kin.keeps hF.keep) J J' hx.hn hx.hm hs hf ?_
  have hl := F.len _ _ _ _ hsp
  have r2 : Vals [V.ref a, V.ref b] [Value.ref a, Value.ref b] := .cons rfl (.cons rfl .nil)
  refine wpAny_call (codeAny_mono (F.run X.A.in1 X.stack s H ⟨[.ref a, .ref b], []⟩ [.ref a, .ref b] [.ref a, .ref b] _ E0 hr.in1 I.env0.in1 (by
    have := hb s [.ref a, .ref b] I.kIn (by simpa using hl)
    simpa using this) r2 hsp) fun r s' hq => ?_)
  cases r with
  | error e => exact (passL (X := X) pins σ H s e s' I hq)
  | ok fl =>
    cases fl with
    | ret w =>
      obtain ⟨z, H', I', rz, c, ez, c2, ec, q⟩ := I.after hq
      subst ez
      cases ec
      cases rz
      exact ⟨_, rfl, .bl (!c), H', I', rfl, q⟩
    | next => exact False.elim hq
    | brk => exact False.elim hq
    | cont => exact False.elim hq
section
variable {X : Cz} {Γ : Gm} {μ : Mu} {a b : Expr} {pos : Pos} {Q : Mu → D → Prop}
theorem wt_neI {C : Addr} {s : Spc} {Q : Mu → Bool → Prop} (T : Cne X C s) (h : WE X a Γ μ fun μ1 x => WE X b Γ μ1 fun μ2 y => ∃ gs gs', InsAt μ2 x C gs ∧ InsAt μ2 y C gs' ∧ s [x, y] μ2 (fun μ3 d => ∃ c, d = .bl c ∧ Q μ3 (!c)) (fun _ _ => False)) : WT X (.Compare a [.NotEq] [b] pos) Γ μ Q := fun Z σ H en ok tk => by
  obtain ⟨k, f, fd, ps, M, F, hr, hb⟩ := T.ex
  refine toT (pt_cmpR (op_neI T.xne M.at_ M.fn F hb hr) pe_S pe_S (nomark _)) ?_
  refine h.use (Go.refl ok) en tk fun v H1 μ1 d g1 _ en1 i1 q1 => ?_
  refine q1.use g1 en1 tk fun w H2 μ2 d2 g2 g2' en2 i2 q2 => ?_
  obtain ⟨gs, gs', m1, m2, q⟩ := q2
  have i1' := i1.mono g2'.fz
  obtain ⟨x, dx, fs, rfl, hH, _, _⟩ := m1.at g2.ok i1'
  obtain ⟨y, dy, fs', rfl, hH', _, _⟩ := m2.at g2.ok i2
  refine ⟨x, y, dx, dy, fs, fs', rfl, rfl, hH, hH', [d, d2], μ2, Z, .cons i1' (.cons i2 .nil), g2.ok, T.mono _ _ _ _ _ _ (fun μ' d q => ?_) (fun _ _ z => z.elim) q⟩
  intro v H' g' is
  obtain ⟨j, rfl, q⟩ := q
  exact ⟨j, isBl is, j, rfl, !j, rfl, μ', g2.trans g', q⟩
end
theorem Keep.bx {S : List Addr} {b g : Addr} {t : Bx} {μ μ1 : Mu} (h : Keep S (bxM b g t μ) μ1) (hg : g ≠ b) (hb : b ∉ S) (hgS : g ∉ S) : μ1 = bxM b g t μ1 := by
  funext p
  have e1 := h b hb (by rw [bxM_b]; exact fun z => by cases z)
  have e2 := h g hgS (by rw [bxM_g hg]; exact fun z => by cases z)
  rw [bxM_b] at e1
  rw [bxM_g hg] at e2
  by_cases h1 : p = b
  · rw [h1, bxM_b, e1]
  · by_cases h2 : p = g
    · rw [h2, bxM_g hg, e2]
    · rw [bxM_ne h1 h2]
theorem Keep.unbx {S : List Addr} {b g : Addr} {t : Bx} {μ μ1 : Mu} (h : Keep S (bxM b g t μ) μ1) : Keep (b :: g :: S) μ μ1 := fun p hp hn => by
  simp only [List.mem_cons, not_or] at hp
  have e : bxM b g t μ p = μ p := bxM_ne hp.1 hp.2.1
  rw [h p hp.2.2 (by rw [e]; exact hn), e]
theorem Keep.none {S : List Addr} {μ μ1 : Mu} {p : Addr} (h : Keep S μ μ1) (hp : μ1 p = none) (hS : p ∉ S) : μ p = none := by
  cases e : μ p with
  | none => rfl
  | some o => rw [h p hS (by rw [e]; exact fun z => by cases z), e] at hp; cases hp
end DL

set_option Elab.async false
set_option linter.all false
set_option maxRecDepth 100000
set_option maxHeartbeats 2000000
namespace DL
open PySem PySem.Spec PyProof.Rows L2
abbrev S (s : String) : Str := Str.ofString s
def orT (z d : Str) : Str := if z = S "" then d else z
def intS (i : Int) : Str := Str.ofString (toString i)
section
variable {X : Cz} {Γ : Gm} {μ : Mu} {a b e v1 v2 : Expr} {es rest : List Expr} {pos p0 : Pos} {Q : Mu → D → Prop} {k : Kt}
/-- str(i) -/
theorem we_strI (B : Bl X "str") (h : WE X e Γ μ fun μ1 x => One x fun i => Req (i.natAbs.log2 < 1920) (Q μ1 (.str (intS i))))
    (he : starEach [e] X.env = (false, eval e X.env) :: starEach [] X.env := by rfl) (hpl : (backTo pos (starEach [] X.env)).any (·.1) = false := by rfl) : WE X (.Call (.Name "str" p0) [e] [] pos) Γ μ Q := by
  refine we_t1 call_str_int B (by decide +kernel) ?_ (he := he) (hpl := hpl)
  refine h.mono fun μ1 d q1 => ?_
  intro Z μ0 H0 H v g i
  obtain ⟨n, rfl, hz, q⟩ := q1
  rw [isInt i]
  exact ⟨n, rfl, hz, μ1, _, g, .str _, q⟩
def FmtQ (x : D) (R : Str → Prop) : Prop := (∃ y, x = .str y ∧ y.length ≤ sizeLine ∧ R y) ∨ ∃ i, x = .int i ∧ i.natAbs.log2 < 1920 ∧ R (intS i)
theorem fmt_s {y : Str} {R : Str → Prop} (h : y.length ≤ sizeLine) (r : R y) : FmtQ (.str y) R := .inl ⟨y, rfl, h, r⟩
theorem fmt_i {i : Int} {R : Str → Prop} (h : i.natAbs.log2 < 1920) (r : R (intS i)) : FmtQ (.int i) R := .inr ⟨i, rfl, h, r⟩
theorem we_fmt (h : WE X e Γ μ fun μ1 x => FmtQ x fun y => Q μ1 (.str y)) : WE X (.FormattedValue e (-1) none pos) Γ μ Q := fun Z σ H en ok tk => by
  refine toS (pe_fmt pe_S) ?_
  refine h.use (Go.refl ok) en tk fun v H1 μ1 d g1 _ en1 i1 q1 => ?_
  rcases q1 with ⟨y, rfl, hz, q⟩ | ⟨i, rfl, hz, q⟩
  · rw [isStr i1]; exact .inl ⟨y, rfl, hz, μ1, _, g1, .str _, q⟩
  · rw [isInt i1]; exact .inr ⟨i, rfl, hz, μ1, _, g1, .str _, q⟩
/-- the parts of an f-string -/
def WJ (X : Cz) : List Expr → Gm → Mu → Str → (Mu → Str → Prop) → Prop
  | [], _, μ, acc, Q => Q μ acc
  | e :: es, Γ, μ, acc, Q => WE X e Γ μ fun μ1 x => StrQ x fun y => Req ((acc ++ y).length ≤ sizeLine) (WJ X es Γ μ1 (acc ++ y) Q)
theorem pj_S : ∀ {es : List Expr}, PJ X.toCx es (es.map fun e => SE X.toCx e)
  | [] => .nil
  | _ :: _ => .cons pe_S pj_S
theorem wj_run {Z : Addr → Prop} {σ : L2.St} {μ0 : Mu} {H0 : Hp} {Q : Mu → Str → Prop} {R : Str → Hp → Prop} (tk : Tk X Z μ0 H0) (kk : ∀ μ' H' out, Go X.K Z μ0 H0 μ' H' → Q μ' out → R out H') : ∀ {es : List Expr} {μ : Mu} {H : Hp} {acc : Str}, WJ X es Γ μ acc Q → Go X.K Z μ0 H0 μ H → En X.K (Av μ Z) H σ Γ → tJs (es.map fun e => SE X.toCx e) acc σ H R
  | [], μ, H, acc, h, g, en => kk μ H acc g h
  | e :: es, μ, H, acc, h, g, en => by
    refine WE.use h g en tk fun v H1 μ1 d g1 _ en1 i1 q1 => ?_
    obtain ⟨y, rfl, hz, q⟩ := q1
    exact ⟨y, isStr i1, hz, wj_run tk kk q g1 en1⟩
theorem we_joined (h : WJ X (v1 :: v2 :: rest) Γ μ Str.empty fun μ1 z => Q μ1 (.str z)) : WE X (.JoinedStr (v1 :: v2 :: rest) pos) Γ μ Q := fun Z σ H en ok tk => by
  refine toS (pe_joined pj_S) ?_
  exact wj_run tk (fun μ' H' out g q => ⟨μ', _, g, .str _, q⟩) h (Go.refl ok) en
/-- x or y, x a text -/
theorem we_orS (h : WE X a Γ μ fun μ1 x => StrQ x fun y => Req (y.length ≤ sizeLine) (if y = Str.ofString "" then WE X b Γ μ1 Q else Q μ1 (.str y))) : WE X (.BoolOp .Or [a, b] pos) Γ μ Q := fun Z σ H en ok tk => by
  refine toS (pe_orT pe_S (pe_one pe_S)) ?_
  refine h.use (Go.refl ok) en tk fun v H1 μ1 d g1 _ en1 i1 q1 => ?_
  obtain ⟨y, rfl, hz, q⟩ := q1
  rw [isStr i1]
  refine ⟨(y.length : Int) != 0, ⟨hz, rfl⟩, ?_⟩
  by_cases hy : y = Str.ofString ""
  · rw [if_pos hy] at q
    subst hy
    rw [show (((Str.ofString "").length : Int) != 0) = false by decide +kernel]
    exact q.use g1 en1 tk fun w H2 μ2 d2 g2 _ en2 i2 q2 => ⟨μ2, d2, g2, i2, q2⟩
  · rw [if_neg hy] at q
    have hl : ((y.length : Int) != 0) = true := by
      rw [bne_iff_ne]
      intro z
      refine hy ?_
      obtain ⟨⟨l⟩⟩ := y
      have : l = [] := List.length_eq_zero_iff.mp (by have : ((l.length : Nat) : Int) = 0 := z; omega)
      subst this
      decide +kernel
    rw [hl]
    exact ⟨μ1, _, g1, .str _, q⟩
theorem we_orD {d : Str} (h : WE X a Γ μ fun μ1 x => StrQ x fun y => y.length ≤ sizeLine ∧ WE X b Γ μ1 (fun μ2 z => μ2 = μ1 ∧ z = .str d) ∧ Q μ1 (.str (orT y d))) : WE X (.BoolOp .Or [a, b] pos) Γ μ Q := we_orS <| h.mono fun μ1 x ⟨y, e, hl, hb, q⟩ => ⟨y, e, hl, by
  by_cases hy : y = Str.ofString ""
  · rw [if_pos hy]
    unfold orT at q
    rw [if_pos hy] at q
    exact hb.mono fun μ2 z ⟨e1, e2⟩ => by rw [e1, e2]; exact q
  · rw [if_neg hy]
    unfold orT at q
    rw [if_neg hy] at q
    exact q⟩
theorem wj_cons {acc : Str} {Q : Mu → Str → Prop} (h : WE X e Γ μ fun μ1 x => StrQ x fun y => Req ((acc ++ y).length ≤ sizeLine) (WJ X es Γ μ1 (acc ++ y) Q)) : WJ X (e :: es) Γ μ acc Q := h
theorem wj_nil {acc : Str} {Q : Mu → Str → Prop} (h : Q μ acc) : WJ X [] Γ μ acc Q := h
/-- x + y of texts -/
theorem we_addS (h : WE X a Γ μ fun μ1 x => StrQ x fun y => WE X b Γ μ1 fun μ2 z => StrQ z fun w => Req (y.length + w.length ≤ sizeLine) (Q μ2 (.str (y ++ w)))) : WE X (.BinOp a .Add b pos) Γ μ Q := fun Z σ H en ok tk => by
  refine toS (pe_op op_add_str pe_S pe_S) ?_
  refine h.use (Go.refl ok) en tk fun v H1 μ1 d g1 _ en1 i1 q1 => ?_
  obtain ⟨y, rfl, q1⟩ := q1
  refine q1.use g1 en1 tk fun w H2 μ2 d2 g2 g2' en2 i2 q2 => ?_
  obtain ⟨z, rfl, hz, q⟩ := q2
  rw [isStr i1, isStr i2]
  exact ⟨y, z, rfl, rfl, hz, μ2, _, g2, .str _, q⟩
/-- xs += ys of lists -/
theorem ws_extL {x : Str} {i : Nat} (n : Nw X x i) (h : ∃ p, Γ[i]? = some (some (.ref p)) ∧ WE X e Γ μ fun μ1 y => ∃ q ds es, y = .ref q ∧ μ1 p = some (.lst ds) ∧ μ1 q = some (.lst es) ∧ Req (ds.length + es.length ≤ sizeLine) (k.nx Γ (updM μ1 p (.lst (ds ++ es))))) : WS X (.AugAssign (.Name x p0) .Add e pos) Γ μ k := fun Z σ H en ok tk => by
  refine toSS (ps_aug (ti := rExt2) n.nd n.ix n.loc pe_S (fun pins s σ H x y v u Q I r1 r2 q => iop_ext pins s σ H x y v u Q I r1 r2 q) n.fn) ?_
  obtain ⟨p, e1, h⟩ := h
  obtain ⟨v, h1, h2⟩ := en.at_ i _ e1
  cases isRef h2
  refine ⟨.ref p, h1, ?_⟩
  refine h.use (Go.refl ok) en tk fun w H1 μ1 d g1 _ en1 i1 q1 => ?_
  obtain ⟨q, ds, es, rfl, m1, m2, hl, qq⟩ := q1
  cases isRef i1
  obtain ⟨xs, hx, tx⟩ := g1.ok.at_ _ _ m1
  obtain ⟨zs, hz, tz⟩ := g1.ok.at_ _ _ m2
  have g2 := Go.put g1.ok (.lst (ds ++ es)) (.lst (xs ++ zs)) (.inr ⟨_, m1⟩) fun m => ⟨_, upd_same, (m tx).append (m tz)⟩
  have hset : Γ.set i (some (.ref p)) = Γ := by
    refine List.ext_getElem? fun j => ?_
    rw [List.getElem?_set]
    by_cases hj : i = j
    · subst hj
      rw [if_pos rfl, e1]
      have := (List.getElem?_eq_some_iff.mp e1).1
      rw [if_pos this]
    · rw [if_neg hj]
  refine ⟨p, q, xs, zs, rfl, rfl, hx, hz, by rw [tx.length, tz.length]; exact hl, Γ, _, g1.trans g2, ?_, qq⟩
  have := (en1.mono g2.fz).set i (.ref p)
  rw [hset] at this
  exact this
/-- x is False, as a value -/
def rIsN : R2 := fun x y H Q => rIsBR x y H Q ∨ ∃ b : Bool, x = .non ∧ y = .bl b ∧ Q (.bl false) H
theorem op_isN {X : Cx} : OpR X (compareOp .Is) rIsN := by
  intro pins s σ H x y v u Q I rx ry h
  rcases h with h | ⟨b, rfl, rfl, q⟩
  · exact op_isBR pins s σ H x y v u Q I rx ry h
  · cases (show v = Value.none from rx)
    cases (show u = Value.bool b from ry)
    exact wpAny_is_other rfl (fun z => by cases z) ⟨.bl false, H, I, rfl, q⟩
def IsBV (x : D) (R : Bool → Prop) : Prop := (x = .non ∧ R false) ∨ IsBQ x fun b => R (!b)
theorem isv_n {R : Bool → Prop} (r : R false) : IsBV .non R := .inl ⟨rfl, r⟩
theorem isv_b {b : Bool} {R : Bool → Prop} (r : R (!b)) : IsBV (.bl b) R := .inr (isb_b r)
theorem isv_l {ds : List D} {R : Bool → Prop} (r : R false) : IsBV (.lst ds) R := .inr (isb_l r)
theorem we_isF {j} {p2 : Pos} (h : WE X a Γ μ fun μ1 x => IsBV x fun b => Q μ1 (.bl b)) : WE X (.Compare a [.Is] [.Constant (.bool false) j p2] pos) Γ μ Q := fun Z σ H en ok tk => by
  refine toS (pe_cmpR op_isN pe_S pe_S (nomark _)) ?_
  refine h.use (Go.refl ok) en tk fun v H1 μ1 d g1 _ en1 i1 q1 => ?_
  have hb : WE X (.Constant (.bool false) j p2) Γ μ1 fun μ2 y => μ2 = μ1 ∧ y = D.bl false := we_bl ⟨rfl, rfl⟩
  refine hb.use g1 en1 tk fun w H2 μ2 d2 g2 g2' en2 i2 q2 => ?_
  obtain ⟨rfl, rfl⟩ := q2
  rw [isBl i2]
  have i1' := i1.mono g2'.fz
  rcases q1 with ⟨rfl, q⟩ | ⟨b, rfl, q⟩ | ⟨ds, rfl, q⟩ | ⟨p, rfl, q⟩
  · rw [isNon i1']
    exact .inr ⟨false, rfl, rfl, μ2, _, g2, .bl _, q⟩
  · rw [isBl i1']
    exact .inl (.inl ⟨b, false, rfl, rfl, μ2, _, g2, .bl _, by cases b <;> exact q⟩)
  · cases i1' with
    | lst => exact .inl (.inr ⟨_, false, rfl, rfl, μ2, _, g2, .bl _, q⟩)
  · cases isRef i1'
    exact .inl (.inr ⟨_, false, rfl, rfl, μ2, _, g2, .bl _, q⟩)
/-- a text that the module holds -/
structure Gs (X : Cz) (x z : Str) : Prop where
  gl : Gl X.toCx x
  mg : ∃ t, X.mg x = some (.str z t)
theorem we_globS {x z : Str} (B : Gs X x z) (q : Q μ (.str z)) (hd : (x == ("__debug__" : Str)) = false := by decide) : WE X (.Name x pos) Γ μ Q := by
  obtain ⟨t, ht⟩ := B.mg
  exact we_pure (pe_glob B.gl ht (show RelV (.str z) (.str z t) from ⟨t, rfl⟩) hd) (fun _ _ _ => .str _) q
end
theorem Ctx.gs {X : Cz} {P : Program} {w : World} {K : PySem.W.Frag} {mg : Str → Option Value} {base : Heap} {k : Nat} {N : List Str} {sc : Scope} (h : Ctx X P w K mg base k N sc) {x z : Str} (b : glB sc x = true) (m : ∃ t, mg x = some (.str z t)) : Gs X x z := ⟨h.gl b, by rw [h.mg]; exact m⟩
end DL

set_option Elab.async false
set_option linter.all false
set_option maxRecDepth 100000
set_option maxHeartbeats 2000000
namespace DL
open PySem PySem.Spec PyProof.Rows L2
theorem sum_le {α : Type} {f : α → Nat} {c : Nat} : ∀ {l : List α}, (∀ x ∈ l, f x ≤ c) → (l.map f).sum ≤ l.length * c
  | [], _ => Nat.zero_le _
  | x :: l, h => by
    rw [List.map_cons, List.sum_cons, List.length_cons, Nat.succ_mul]
    have h1 := h x List.mem_cons_self
    have h2 := sum_le fun y hy => h y (List.mem_cons_of_mem x hy)
    omega
theorem join_def {z : Str} {ys : List Str} : Txt.join z ys = Str.join z ys := StrLaws.glued_eq_join z ys
theorem join_len {z : Str} : ∀ {ys : List Str}, (Txt.join z ys).length ≤ (ys.map (·.length)).sum + ys.length * z.length
  | [] => by rw [join_def]; exact Nat.zero_le _
  | [x] => by
    rw [join_def]
    show x.length ≤ x.length + 0 + 1 * z.length
    omega
  | x :: y :: r => by
    have h := join_len (z := z) (ys := y :: r)
    rw [join_def] at h ⊢
    show (x ++ z ++ Str.join z (y :: r)).length ≤ _
    rw [Str.length_append, Str.length_append]
    rw [List.map_cons, List.sum_cons, List.length_cons, Nat.succ_mul]
    omega
theorem join_le {z : Str} {c : Nat} {ys : List Str} (h : ∀ y ∈ ys, y.length ≤ c) : (Txt.join z ys).length ≤ ys.length * (c + z.length) := by
  have h1 := join_len (z := z) (ys := ys)
  have h2 : (ys.map (·.length)).sum ≤ ys.length * c := sum_le h
  rw [Nat.mul_add]
  exact Nat.le_trans h1 (Nat.add_le_add_right h2 _)
theorem join_room {z : Str} {c : Nat} {ys : List Str} (h : ∀ y ∈ ys, y.length ≤ c) (hl : ys.length * (c + z.length) ≤ 16777216) : (ys.map (·.length)).sum + ys.length * z.length ≤ 16777216 := by
  have h2 : (ys.map (·.length)).sum ≤ ys.length * c := sum_le h
  rw [Nat.mul_add] at hl
  exact Nat.le_trans (Nat.add_le_add_right h2 _) hl
theorem join_pos {z : Str} : ∀ {ys : List Str}, ys ≠ [] → (∀ y ∈ ys, 0 < y.length) → 0 < (Txt.join z ys).length
  | [], h, _ => absurd rfl h
  | [x], _, h => by rw [join_def]; exact h x List.mem_cons_self
  | x :: y :: r, _, h => by
    rw [join_def]
    show 0 < (x ++ z ++ Str.join z (y :: r)).length
    rw [Str.length_append, Str.length_append]
    have := h x List.mem_cons_self
    omega
theorem ne_empty {y : Str} (h : 0 < y.length) : y ≠ Str.ofString "" := fun z => by rw [z] at h; exact absurd h (by decide)
/-- of at most seven figures -/
def Few (i : Int) : Prop := i.natAbs < 10 ^ 7
theorem intS_len {i : Int} (h : Few i) : (intS i).length ≤ 8 := by
  unfold intS
  rw [PySem.ofString_length]
  exact int_text_length_le10 (k := 7) (by decide) h
theorem few_log {i : Int} (h : Few i) : i.natAbs.log2 < 1920 := by
  unfold Few at h
  rcases Nat.eq_zero_or_pos i.natAbs with e | e
  · rw [e]; decide
  · exact (Nat.log2_lt (by omega)).mpr (Nat.lt_trans h (Nat.lt_trans (show 10 ^ 7 < 2 ^ 24 by decide) (Nat.pow_lt_pow_right (by decide) (by decide))))
theorem intS_pos {i : Int} : 0 < (intS i).length := by
  unfold intS
  rw [PySem.ofString_length]
  cases i with
  | ofNat n =>
    show 0 < (Nat.repr n).length
    exact Nat.length_repr_pos
  | negSucc n =>
    show 0 < ("-" ++ Nat.repr (n + 1)).length
    rw [String.length_append]
    exact Nat.lt_of_lt_of_le (by decide : 0 < "-".length) (Nat.le_add_right _ _)
def linkT (t : IL) : Str := Txt.join (S " ") [intS t.1, intS t.2.1, intS t.2.2]
def ilOf (t : D × D × D) : IL := (dInt t.1, dInt t.2.1, dInt t.2.2)
def ansT : AD → Str
  | .pass => S "pass"
  | .never => S "never"
  | .yes ls => orT (Txt.join (S ", ") (ls.map fun t => linkT (ilOf t))) (S "yes")
def rowT (r : Rw) : Str := orT r.1 (S "*") ++ S " " ++ ansT r.2
def bodyT (b : List Rw) : Str := orT (Txt.join (S "; ") (b.map rowT)) (S "-")
def partT (p : D × D) : Str := intS (dInt p.1) ++ S " " ++ intS (dInt p.2)
def partsT (b : List (D × D)) : Str := orT (Txt.join (S ", ") (b.map partT)) (S "-")
def kindT (f : Str × Frm) : Str := S "kind " ++ f.1 ++ S " " ++ intS f.2.2 ++ (match f.2.1 with | none => S "" | some e => S " of " ++ e)
def bodyLn (vb : Str → Option (List Rw)) (x : Str) : Str := S "body " ++ x ++ S " " ++ bodyT ((vb x).getD [])
def markLn (vm : Str → Option (List (D × D))) (x : Str) : Str := S "mark " ++ x ++ S " " ++ partsT ((vm x).getD [])
def showL (fs : Fs) (vb : Str → Option (List Rw)) (vm : Str → Option (List (D × D))) : List Str :=
  fs.map kindT ++ (((fs.map (·.1)).filter fun x => (vb x).isSome).map (bodyLn vb)) ++ (((fs.map (·.1)).filter fun x => (vm x).isSome).map (markLn vm))
theorem showL_congr {fs : Fs} {vb vb' : Str → Option (List Rw)} {vm vm' : Str → Option (List (D × D))} (hb : ∀ x, vb x = vb' x) (hm : ∀ x, vm x = vm' x) : showL fs vb vm = showL fs vb' vm' := by rw [show vb = vb' from funext hb, show vm = vm' from funext hm]
def FewL (t : IL) : Prop := Few t.1 ∧ Few t.2.1 ∧ Few t.2.2
theorem linkT_len {t : IL} (h : FewL t) : (linkT t).length ≤ 27 := by
  have h1 := join_le (z := S " ") (c := 8) (ys := [intS t.1, intS t.2.1, intS t.2.2]) fun y hy => by
    simp only [List.mem_cons, List.not_mem_nil, or_false] at hy
    rcases hy with rfl | rfl | rfl
    · exact intS_len h.1
    · exact intS_len h.2.1
    · exact intS_len h.2.2
  exact h1
theorem linkT_pos {t : IL} : 0 < (linkT t).length := join_pos (by simp) fun y hy => by
  simp only [List.mem_cons, List.not_mem_nil, or_false] at hy
  rcases hy with rfl | rfl | rfl <;> exact intS_pos
theorem orT_len {z d : Str} {c : Nat} (h1 : z.length ≤ c) (h2 : d.length ≤ c) : (orT z d).length ≤ c := by
  unfold orT
  split
  · exact h2
  · exact h1
theorem orT_pos {z d : Str} (h2 : 0 < d.length) : 0 < (orT z d).length := by
  unfold orT
  split
  · exact h2
  · rename_i h
    obtain ⟨⟨l⟩⟩ := z
    cases l with
    | nil => exact absurd (by decide +kernel) h
    | cons => exact Nat.succ_pos _
structure AnsF (a : AD) : Prop where
  l : a.links.length ≤ 1000
  f : ∀ t ∈ a.links, FewL (ilOf t)
theorem ansT_len {a : AD} (h : AnsF a) : (ansT a).length ≤ 30000 := by
  cases a with
  | pass => show (S "pass").length ≤ 30000; decide +kernel
  | never => show (S "never").length ≤ 30000; decide +kernel
  | yes ls =>
    refine orT_len (Nat.le_trans (join_le (c := 27) fun y hy => ?_) ?_) (by decide +kernel)
    · obtain ⟨t, ht, rfl⟩ := List.mem_map.mp hy
      exact linkT_len (h.f t ht)
    · rw [List.length_map]
      have := h.l
      show ls.length * (27 + 2) ≤ 30000
      have : ls.length ≤ 1000 := this
      omega
theorem ansT_pos {a : AD} : 0 < (ansT a).length := by
  cases a with
  | pass => show 0 < (S "pass").length; decide +kernel
  | never => show 0 < (S "never").length; decide +kernel
  | yes ls => exact orT_pos (by decide +kernel)
structure RowF (r : Rw) : Prop where
  u : r.1.length ≤ 16
  a : AnsF r.2
theorem rowT_len {r : Rw} (h : RowF r) : (rowT r).length ≤ 30100 := by
  unfold rowT
  rw [Str.length_append, Str.length_append]
  have h1 := orT_len (c := 16) h.u (show (S "*").length ≤ 16 by decide +kernel)
  have h2 := ansT_len h.a
  have h3 : (S " ").length = 1 := by decide +kernel
  omega
theorem rowT_pos {r : Rw} : 0 < (rowT r).length := by
  unfold rowT
  rw [Str.length_append, Str.length_append]
  have := ansT_pos (a := r.2)
  omega
structure BodyF (b : List Rw) : Prop where
  l : b.length ≤ 6
  f : ∀ r ∈ b, RowF r
theorem bodyT_len {b : List Rw} (h : BodyF b) : (bodyT b).length ≤ 200000 := by
  refine orT_len (Nat.le_trans (join_le (c := 30100) fun y hy => ?_) ?_) (by decide +kernel)
  · obtain ⟨t, ht, rfl⟩ := List.mem_map.mp hy
    exact rowT_len (h.f t ht)
  · rw [List.length_map]
    have := h.l
    show b.length * (30100 + 2) ≤ 200000
    omega
structure PartsF (b : List (D × D)) : Prop where
  l : b.length ≤ 4
  f : ∀ r ∈ b, Few (dInt r.1) ∧ Few (dInt r.2)
theorem partT_len {p : D × D} (h : Few (dInt p.1) ∧ Few (dInt p.2)) : (partT p).length ≤ 17 := by
  unfold partT
  rw [Str.length_append, Str.length_append]
  have h1 := intS_len h.1
  have h2 := intS_len h.2
  have h3 : (S " ").length = 1 := by decide +kernel
  omega
theorem partT_pos {p : D × D} : 0 < (partT p).length := by
  unfold partT
  rw [Str.length_append, Str.length_append]
  have := intS_pos (i := dInt p.2)
  omega
theorem partsT_len {b : List (D × D)} (h : PartsF b) : (partsT b).length ≤ 200000 := by
  refine orT_len (Nat.le_trans (join_le (c := 17) fun y hy => ?_) ?_) (by decide +kernel)
  · obtain ⟨t, ht, rfl⟩ := List.mem_map.mp hy
    exact partT_len (h.f t ht)
  · rw [List.length_map]
    have := h.l
    show b.length * (17 + 2) ≤ 200000
    omega
structure FormF (f : Str × Frm) : Prop where
  n : f.1.length ≤ 16
  e : ∀ y, f.2.1 = some y → y.length ≤ 16
  o : Few f.2.2
theorem kindT_len {f : Str × Frm} (h : FormF f) : (kindT f).length ≤ 100 := by
  unfold kindT
  rw [Str.length_append, Str.length_append, Str.length_append, Str.length_append]
  have h1 := intS_len h.o
  have h3 : (S " ").length = 1 := by decide +kernel
  have h4 : (S "kind ").length = 5 := by decide +kernel
  have h5 := h.n
  cases he : f.2.1 with
  | none =>
    have h6 : (S "").length = 0 := by decide +kernel
    dsimp only
    omega
  | some y =>
    have h6 : (S " of ").length = 4 := by decide +kernel
    have h7 := h.e y he
    dsimp only
    rw [Str.length_append]
    omega
structure TextF (fs : Fs) (vb : Str → Option (List Rw)) (vm : Str → Option (List (D × D))) : Prop where
  l : fs.length ≤ 6
  f : ∀ f ∈ fs, FormF f
  b : ∀ x ∈ fs.map (·.1), ∀ b, vb x = some b → BodyF b
  m : ∀ x ∈ fs.map (·.1), ∀ b, vm x = some b → PartsF b
section
variable {fs : Fs} {vb : Str → Option (List Rw)} {vm : Str → Option (List (D × D))}
theorem showL_len (h : TextF fs vb vm) : ∀ y ∈ showL fs vb vm, y.length ≤ 200100 := by
  intro y hy
  have hn : ∀ x ∈ fs.map (·.1), x.length ≤ 16 := fun x hx => by
    obtain ⟨f, hf, rfl⟩ := List.mem_map.mp hx
    exact (h.f f hf).n
  unfold showL at hy
  rcases List.mem_append.mp hy with hy | hy
  · rcases List.mem_append.mp hy with hy | hy
    · obtain ⟨f, hf, rfl⟩ := List.mem_map.mp hy
      have := kindT_len (h.f f hf)
      omega
    · obtain ⟨x, hx, rfl⟩ := List.mem_map.mp hy
      obtain ⟨hx1, hx2⟩ := List.mem_filter.mp hx
      unfold bodyLn
      rw [Str.length_append, Str.length_append, Str.length_append]
      have h1 := hn x hx1
      have h3 : (S " ").length = 1 := by decide +kernel
      have h4 : (S "body ").length = 5 := by decide +kernel
      cases hb : vb x with
      | none => rw [hb] at hx2; cases hx2
      | some b =>
        have := bodyT_len (h.b x hx1 b hb)
        show _ + (bodyT b).length ≤ _
        omega
  · obtain ⟨x, hx, rfl⟩ := List.mem_map.mp hy
    obtain ⟨hx1, hx2⟩ := List.mem_filter.mp hx
    unfold markLn
    rw [Str.length_append, Str.length_append, Str.length_append]
    have h1 := hn x hx1
    have h3 : (S " ").length = 1 := by decide +kernel
    have h4 : (S "mark ").length = 5 := by decide +kernel
    cases hb : vm x with
    | none => rw [hb] at hx2; cases hx2
    | some b =>
      have := partsT_len (h.m x hx1 b hb)
      show _ + (partsT b).length ≤ _
      omega
theorem showL_size (h : TextF fs vb vm) : (showL fs vb vm).length ≤ 18 := by
  unfold showL
  rw [List.length_append, List.length_append, List.length_map, List.length_map, List.length_map]
  have h1 := h.l
  have h2 := List.length_filter_le (fun x => (vb x).isSome) (fs.map (·.1))
  have h3 := List.length_filter_le (fun x => (vm x).isSome) (fs.map (·.1))
  rw [List.length_map] at h2 h3
  omega
theorem showL_room (h : TextF fs vb vm) : ((showL fs vb vm).map (·.length)).sum + (showL fs vb vm).length * (S "\n").length ≤ 16777216 := by
  refine join_room (c := 200100) (showL_len h) ?_
  have h1 := showL_size h
  have h3 : (S "\n").length = 1 := by decide +kernel
  rw [h3]
  omega
theorem showT_len (h : TextF fs vb vm) : (Txt.join (S "\n") (showL fs vb vm)).length ≤ 16777216 := Nat.le_trans join_len (showL_room h)
end
end DL

set_option Elab.async false
set_option linter.all false
set_option maxRecDepth 100000
set_option maxHeartbeats 2000000
namespace DL
open PySem PySem.Spec PyProof.Rows L2
section
variable {X : Cz} {Γ : Gm} {μ : Mu} {a b e o tg iter : Expr} {es rest : List Expr} {pos p0 : Pos} {Q : Mu → D → Prop} {k : Kt} {R : Mu → List D → (Mu → Prop) → Prop}
/-- one sign -/
def sgn (c : Nat) : D := .str ⟨#[c]⟩
def sgns (z : Str) : List Nat := z.cps.toList
theorem signs_yields {K : PySem.W.Frag} {Z : Addr → Prop} {H : Hp} {z : Str} : Yields K Z μ H (Its z) ((sgns z).map sgn) fun _ => True := by
  intro Z' i μ' H' ok' f _
  rw [List.length_map]
  refine ⟨fun hi => ⟨(show i < z.cps.size by simpa [sgns] using hi), fun x H2 ⟨e, c, y, hv⟩ => ?_⟩, fun hi => (show z.cps.size ≤ i by simpa [sgns] using hi)⟩
  subst e hv
  refine ⟨sgn c, ?_, Go.refl ok', .str _⟩
  rw [List.getElem?_map]
  unfold sgns
  rw [Array.getElem?_toList, y]
  rfl
theorem wi_str (h : WE X iter Γ μ fun μ1 x => StrQ x fun z => R μ1 ((sgns z).map sgn) fun _ => True) : WI X tg iter Γ μ R := fun Z σ H en ok tk => by
  refine toI (pi_str pe_S) ?_
  refine h.use (Go.refl ok) en tk fun v H1 μ1 x g1 _ en1 i1 q1 => ?_
  obtain ⟨z, rfl, q⟩ := q1
  exact ⟨z, isStr i1, μ1, _, _, g1, signs_yields, q⟩
/-- a sign in a text, as a value -/
theorem we_inSign (h : WE X a Γ μ fun μ1 x => WE X b Γ μ1 fun μ2 y => ∃ c z, x = sgn c ∧ y = .str z ∧ Q μ2 (.bl (decide (c ∈ z.cps.toList)))) (hm : behindInMarks .In b = false := by rfl) : WE X (.Compare a [.In] [b] pos) Γ μ Q := fun Z σ H en ok tk => by
  refine toS (pe_cmpR op_in_sign pe_S pe_S hm) ?_
  refine h.use (Go.refl ok) en tk fun v H1 μ1 d g1 _ en1 i1 q1 => ?_
  refine q1.use g1 en1 tk fun w H2 μ2 d2 g2 g2' en2 i2 q2 => ?_
  obtain ⟨c, z, rfl, rfl, q⟩ := q2
  exact ⟨c, z, isStr i1, isStr i2, μ2, _, g2, .bl _, q⟩
/-- x.split(sep) -/
theorem we_split {ap : Pos} (h : WE X o Γ μ fun μ1 x => StrQ x fun z => WE X e Γ μ1 fun μ2 y => StrQ y fun w => (w.length == 0) = false ∧ z.length + 2 ≤ sizeLine ∧ NewL μ2 ((Txt.split z w).map .str) Q)
    (hs : starEach [e] X.env = [(false, eval e X.env)] := by rfl) (hbase : attributeBase o "split" X.env (eval o X.env) = eval o X.env := by rfl) (hline : (ap.endLine == pos.line) = true := by rfl) : WE X (.Call (.Attribute o "split" ap) [e] [] pos) Γ μ Q := fun Z σ H en ok tk => by
  refine toS (pe_split pe_S pe_S hs hbase hline) ?_
  refine h.use (Go.refl ok) en tk fun v H1 μ1 d g1 _ en1 i1 q1 => ?_
  obtain ⟨z, rfl, q1⟩ := q1
  rw [isStr i1]
  refine ⟨⟨z, rfl⟩, ?_⟩
  refine q1.use g1 en1 tk fun w H2 μ2 d2 g2 g2' en2 i2 q2 => ?_
  obtain ⟨y, rfl, h1, h2, q⟩ := q2
  rw [isStr i2]
  refine ⟨z, y, rfl, rfl, h1, h2, fun p hp => ?_⟩
  have is : ∀ {A : Addr → Prop} {H : Hp} (ys : List Str), IsA X.K A H (ys.map V.str) (ys.map .str) := fun {A H} ys => by
    induction ys with
    | nil => exact .nil
    | cons y ys ih => exact .cons (.str y) ih
  exact newl_go g2 (is _) hp q
/-- x.partition(sep) -/
theorem we_part {ap : Pos} (h : WE X o Γ μ fun μ1 x => StrQ x fun z => WE X e Γ μ1 fun μ2 y => StrQ y fun w => (w.length == 0) = false ∧ z.length ≤ sizeLine ∧ Q μ2 (.tup [.str (Txt.partition z w).1, .str (Txt.partition z w).2.1, .str (Txt.partition z w).2.2]))
    (hs : starEach [e] X.env = [(false, eval e X.env)] := by rfl) (hbase : attributeBase o "partition" X.env (eval o X.env) = eval o X.env := by rfl) (hline : (ap.endLine == pos.line) = true := by rfl) : WE X (.Call (.Attribute o "partition" ap) [e] [] pos) Γ μ Q := fun Z σ H en ok tk => by
  refine toS (pe_partition pe_S pe_S hs hbase hline) ?_
  refine h.use (Go.refl ok) en tk fun v H1 μ1 d g1 _ en1 i1 q1 => ?_
  obtain ⟨z, rfl, q1⟩ := q1
  rw [isStr i1]
  refine ⟨⟨z, rfl⟩, ?_⟩
  refine q1.use g1 en1 tk fun w H2 μ2 d2 g2 g2' en2 i2 q2 => ?_
  obtain ⟨y, rfl, h1, h2, q⟩ := q2
  rw [isStr i2]
  refine ⟨z, y, rfl, rfl, h1, h2, fun p hp => ?_⟩
  exact ⟨μ2, _, g2.trans (Go.frz g2.ok hp _), Is.newT g2.ok hp (.cons (.str _) (.cons (.str _) (.cons (.str _) .nil))), q⟩
/-- int(text) -/
theorem we_intT (B : Bl X "int") (h : WE X e Γ μ fun μ1 x => StrQ x fun z => ∃ n, PySem.intText? z = some n ∧ z.length ≤ 640 ∧ Q μ1 (.int n))
    (he : starEach [e] X.env = (false, eval e X.env) :: starEach [] X.env := by rfl) (hpl : (backTo pos (starEach [] X.env)).any (·.1) = false := by rfl) : WE X (.Call (.Name "int" p0) [e] [] pos) Γ μ Q := by
  refine we_t1 call_int_str B (by decide +kernel) ?_ (he := he) (hpl := hpl)
  refine h.mono fun μ1 d q1 => ?_
  intro Z μ0 H0 H v g i
  obtain ⟨z, rfl, n, h1, h2, q⟩ := q1
  rw [isStr i]
  exact ⟨z, n, rfl, h1, h2, μ1, _, g, .int _, q⟩
end
theorem any_py {d : D} : ∀ {ds : List D}, ((pyDs ds).any fun z => PyData.eqv z (pyD d)) = ds.any fun z => eqvD z d
  | [] => by rw [pyDs]; rfl
  | x :: ds => by
    rw [pyDs, List.any_cons, List.any_cons, any_py]
    rfl
/-- x in a list of data of any depth -/
theorem wt_inD {X : Cz} {Γ : Gm} {μ : Mu} {a b : Expr} {pos : Pos} {Q : Mu → Bool → Prop} (hu : X.A.units + 65 < cLine) (h : WE X a Γ μ fun μ1 x => WE X b Γ μ1 fun μ2 y => ∃ d ds n m, Vw μ2 x d ∧ Vw μ2 y (.lst ds) ∧ shD n d = true ∧ shD m (.lst ds) = true ∧ n ≤ 64 ∧ m ≤ 64 ∧ Q μ2 (ds.any fun z => eqvD z d)) (hm : behindInMarks .In b = false := by rfl) : WT X (.Compare a [.In] [b] pos) Γ μ Q := fun Z σ H en ok tk => by
  refine toT (pt_cmpR (op_inD hu) pe_S pe_S hm) ?_
  refine h.use (Go.refl ok) en tk fun v H1 μ1 x g1 _ en1 i1 q1 => ?_
  refine q1.use g1 en1 tk fun w H2 μ2 y g2 g2' en2 i2 q2 => ?_
  obtain ⟨d, ds, n, m, h1, h2, s1, s2, hn, hm2, q⟩ := q2
  have e : pyD (.lst ds) = .list (pyDs ds) := by rw [pyD]
  refine ⟨pyD d, pyDs ds, Vw.dp g2.ok h1 s1 (i1.mono g2'.fz), e ▸ Vw.dp g2.ok h2 s2 i2, shaped_of s1 hn, e ▸ shaped_of s2 hm2, _, rfl, μ2, g2, ?_⟩
  rw [any_py]
  exact q
theorem eqvD_tn {xs : List D} : eqvD (.tup xs) .non = false := by
  show PyData.eqv (pyD (.tup xs)) (pyD .non) = false
  rw [show pyD (.tup xs) = .tuple (pyDs xs) by rw [pyD], show pyD .non = .none by rw [pyD], PyData.eqv]
theorem none_tups {α : Type} {f : α → List D} {xs : List α} : ((xs.map fun x => D.tup (f x)).any fun z => eqvD z .non) = false := by
  rw [List.any_map, List.any_eq_false]
  intro x _
  show ¬(eqvD (.tup (f x)) .non = true)
  rw [eqvD_tn]
  decide
theorem Ctx.hu65 {X : Cz} {P : Program} {w : World} {K : PySem.W.Frag} {mg : Str → Option Value} {base : Heap} {k : Nat} {N : List Str} {sc : Scope} (h : Ctx X P w K mg base k N sc) : X.A.units + 65 < cLine := by
  obtain ⟨rfl, rfl, rfl, rfl, rfl, rfl, rfl, _, hr, _⟩ := h
  have := hr.un
  omega
/-- a, b = a list -/
theorem wx_lst {X : Cz} {Γ : Gm} {μ : Mu} {tgs : List Expr} {x1} {pos : Pos} {ds : List D} {N : Gm → Mu → Prop} (hc : X.calm = true) (h : WGlx X tgs ds Γ μ N) (hl : ds.length = (assignEach tgs X.env).length := by rfl)
    (hst : (assignEach tgs X.env).findIdx? (·.1) = none := by rfl) : WGx X (.Tuple tgs x1 pos) (.lst ds) Γ μ N := fun Z σ H v en ok tk is => by
  cases is with
  | lst r t => exact toG (pg_unl (n := (assignEach tgs X.env).length) hc pgs_S rfl hst) ⟨_, _, rfl, r.sq, t.length.trans hl, h Z σ H _ en ok tk t⟩
end DL

set_option Elab.async false
set_option linter.all false
set_option maxRecDepth 100000
set_option maxHeartbeats 2000000
namespace DL
open PySem PySem.Spec PyProof.Rows L2
open TL (tl numL)
def Chs (P : Nat → Prop) (z : Str) : Prop := ∀ c ∈ tl z, P c
section
variable {P P' : Nat → Prop} {x y z : Str}
theorem Chs.mono (h : Chs P z) (f : ∀ c, P c → P' c) : Chs P' z := fun c hc => f c (h c hc)
theorem Chs.app (h1 : Chs P x) (h2 : Chs P y) : Chs P (x ++ y) := fun c hc => by
  rw [TL.tl_append] at hc
  exact (List.mem_append.mp hc).elim (h1 c) (h2 c)
theorem Chs.join (h1 : Chs P z) : ∀ {ys : List Str}, (∀ y ∈ ys, Chs P y) → Chs P (Txt.join z ys)
  | [], _ => by rw [join_def]; exact fun c hc => (by cases hc)
  | [x], h => by rw [join_def]; exact h x List.mem_cons_self
  | x :: y :: r, h => by
    have ih := Chs.join h1 (ys := y :: r) fun w hw => h w (List.mem_cons_of_mem _ hw)
    rw [join_def] at ih ⊢
    show Chs P (x ++ z ++ Str.join z (y :: r))
    exact ((h x List.mem_cons_self).app h1).app ih
theorem Chs.no {s : Nat} (h : Chs P z) (hs : ¬P s) : s ∉ tl z := fun hm => hs (h s hm)
instance [DecidablePred P] : Decidable (Chs P z) := by unfold Chs; infer_instance
end
/-- the signs of lines -/
def Dg (c : Nat) : Prop := 48 ≤ c ∧ c ≤ 57
def Lt (c : Nat) : Prop := 97 ≤ c ∧ c ≤ 122
instance : DecidablePred Dg := fun c => by unfold Dg; infer_instance
instance : DecidablePred Lt := fun c => by unfold Lt; infer_instance
theorem tl_int {i : Int} (h : 0 ≤ i) : tl (intS i) = numL i.toNat := by
  obtain ⟨n, rfl⟩ := Int.eq_ofNat_of_zero_le h
  exact TL.tl_num n
theorem chs_int {i : Int} (h : 0 ≤ i) : Chs Dg (intS i) := fun c hc => by
  rw [tl_int h] at hc
  have := TL.numL_digits i.toNat c hc
  exact ⟨by omega, by omega⟩
theorem int_back {i : Int} (h0 : 0 ≤ i) (h : Few i) : PySem.intText? (intS i) = some i := by
  obtain ⟨n, rfl⟩ := Int.eq_ofNat_of_zero_le h0
  refine TL.int_num (Nat.le_trans (TL.numL_len (k := 7) (by decide) ?_) (by decide))
  have : ((n : Int)).natAbs < 10 ^ 7 := h
  simpa using this
theorem int_len7 {i : Int} (h0 : 0 ≤ i) (h : Few i) : (intS i).length ≤ 7 := by
  show (tl (intS i)).length ≤ 7
  rw [tl_int h0]
  refine TL.numL_len (k := 7) (by decide) ?_
  obtain ⟨n, rfl⟩ := Int.eq_ofNat_of_zero_le h0
  have : ((n : Int)).natAbs < 10 ^ 7 := h
  simpa using this
theorem numL_head (n : Nat) : ∃ d r, numL n = d :: r ∧ 48 ≤ d ∧ d ≤ 57 ∧ (d = 48 → n = 0) := by
  induction n using Nat.strongRecOn with
  | _ n ih =>
    by_cases h : n < 10
    · exact ⟨48 + n, [], TL.numL_lt h, by omega, by omega, by omega⟩
    · obtain ⟨d, r, e, h1, h2, h3⟩ := ih (n / 10) (by omega)
      exact ⟨d, r ++ [48 + n % 10], by rw [TL.numL_step (by omega), e]; rfl, h1, h2, fun hd => by have := h3 hd; omega⟩
theorem int_head {i : Int} (h : 0 ≤ i) : ∃ d r, tl (intS i) = d :: r ∧ Dg d ∧ (d = 48 → i = 0) := by
  obtain ⟨d, r, e, h1, h2, h3⟩ := numL_head i.toNat
  exact ⟨d, r, by rw [tl_int h]; exact e, ⟨h1, h2⟩, fun hd => by have := h3 hd; omega⟩
/-- a text that begins with a sign of P -/
def Beg (P : Nat → Prop) (z : Str) : Prop := ∃ c r, tl z = c :: r ∧ P c
section
variable {P : Nat → Prop} {x y z : Str}
theorem Beg.app (h : Beg P x) : Beg P (x ++ y) := by
  obtain ⟨c, r, e, hc⟩ := h
  exact ⟨c, r ++ tl y, by rw [TL.tl_append, e]; rfl, hc⟩
theorem Beg.join {ys : List Str} (h : Beg P x) : Beg P (Txt.join z (x :: ys)) := by
  cases ys with
  | nil => rw [join_def]; exact h
  | cons y r => rw [join_def]; exact (h.app (y := z)).app (y := Str.join z (y :: r))
theorem Beg.ne {w : Str} (h : Beg P z) (hw : ∀ c r, tl w = c :: r → ¬P c) : z ≠ w := fun e => by
  obtain ⟨c, r, e1, hc⟩ := h
  exact hw c r (by rw [← e]; exact e1) hc
theorem Beg.pos (h : Beg P z) : z ≠ S "" := fun e => by
  obtain ⟨c, r, e1, _⟩ := h
  rw [e] at e1
  cases (show ([] : List Nat) = c :: r from e1)
end
theorem beg_int {i : Int} (h : 0 ≤ i) : Beg Dg (intS i) := by
  obtain ⟨d, r, e, h1, _⟩ := int_head h
  exact ⟨d, r, e, h1⟩
def numsT (ns : List Int) : Str := Txt.join (S " ") (ns.map intS)
theorem linkT_nums {t : IL} : linkT t = numsT [t.1, t.2.1, t.2.2] := rfl
theorem partT_nums {a b : Int} : partT (.int a, .int b) = numsT [a, b] := by
  unfold numsT
  rw [join_def]
  rfl
def NumsOk (ns : List Int) : Prop := ns ≠ [] ∧ ∀ i ∈ ns, 0 ≤ i ∧ Few i
theorem nums_split {ns : List Int} (h : NumsOk ns) : Txt.split (numsT ns) (S " ") = ns.map intS := by
  refine TL.split_join (s := 32) (S := []) (by decide +kernel) (by decide +kernel) (fun z => h.1 (List.map_eq_nil_iff.mp z)) fun p hp => ?_
  obtain ⟨i, hi, rfl⟩ := List.mem_map.mp hp
  exact (chs_int (h.2 i hi).1).no (by unfold Dg; omega)
def DgB (c : Nat) : Prop := Dg c ∨ c = 32
instance : DecidablePred DgB := fun c => by unfold DgB; infer_instance
theorem chs_nums {ns : List Int} (h : NumsOk ns) : Chs DgB (numsT ns) := Chs.join (by decide +kernel) fun y hy => by
  obtain ⟨i, hi, rfl⟩ := List.mem_map.mp hy
  exact (chs_int (h.2 i hi).1).mono fun c hc => .inl hc
theorem beg_nums {ns : List Int} (h : NumsOk ns) : Beg Dg (numsT ns) := by
  cases ns with
  | nil => exact absurd rfl h.1
  | cons i r => exact (beg_int (h.2 i List.mem_cons_self).1).join
theorem nums_len {ns : List Int} (h : NumsOk ns) : (numsT ns).length ≤ ns.length * 8 := by
  have h1 := join_le (z := S " ") (c := 7) (ys := ns.map intS) fun y hy => by
    obtain ⟨i, hi, rfl⟩ := List.mem_map.mp hy
    exact int_len7 (h.2 i hi).1 (h.2 i hi).2
  rw [List.length_map] at h1
  exact h1
def listT (ls : List (List Int)) : Str := Txt.join (S ", ") (ls.map numsT)
theorem list_split {ls : List (List Int)} (hne : ls ≠ []) (h : ∀ ns ∈ ls, NumsOk ns) : Txt.split (listT ls) (S ", ") = ls.map numsT := by
  refine TL.split_join (s := 44) (S := [32]) (by decide +kernel) (by decide +kernel) (fun z => hne (List.map_eq_nil_iff.mp z)) fun p hp => ?_
  obtain ⟨ns, hn, rfl⟩ := List.mem_map.mp hp
  exact (chs_nums (h ns hn)).no (by unfold DgB Dg; omega)
def LnC (c : Nat) : Prop := Dg c ∨ Lt c ∨ c = 32 ∨ c = 42 ∨ c = 44 ∨ c = 45
instance : DecidablePred LnC := fun c => by unfold LnC; infer_instance
theorem chs_list {ls : List (List Int)} (h : ∀ ns ∈ ls, NumsOk ns) : Chs LnC (listT ls) := Chs.join (by decide +kernel) fun y hy => by
  obtain ⟨ns, hn, rfl⟩ := List.mem_map.mp hy
  exact (chs_nums (h ns hn)).mono fun c hc => hc.elim .inl fun e => .inr (.inr (.inl e))
theorem beg_list {ls : List (List Int)} (hne : ls ≠ []) (h : ∀ ns ∈ ls, NumsOk ns) : Beg Dg (listT ls) := by
  cases ls with
  | nil => exact absurd rfl hne
  | cons ns r => exact (beg_nums (h ns List.mem_cons_self)).join
end DL

set_option Elab.async false
set_option linter.all false
set_option maxRecDepth 100000
set_option maxHeartbeats 2000000
namespace DL
open PySem PySem.Spec PyProof.Rows L2
section
variable {X : Cz} {Γ : Gm} {μ : Mu} {a b c e o : Expr} {pos : Pos} {Q : Mu → D → Prop}
theorem isA_strs {K : PySem.W.Frag} {A : Addr → Prop} {H : Hp} : ∀ {zs : List Str} {vs : List V}, IsA K A H vs (zs.map D.str) → vs = zs.map V.str
  | [], _, h => by cases h; rfl
  | z :: zs, _, h => by
    cases h with
    | cons i t => rw [isStr i, isA_strs t]; rfl
/-- xs.index(y), of texts -/
theorem we_index {ap : Pos} (h : WE X o Γ μ fun μ1 x => ∃ zs : List Str, SeqL μ1 x (zs.map .str) ∧ WE X e Γ μ1 fun μ2 y => Still x (zs.map .str) μ2 ∧ ∃ w j, y = .str w ∧ zs[j]? = some w ∧ (∀ m, m < j → zs[m]? ≠ some w) ∧ Q μ2 (.int ((j : Nat) : Int)))
    (hbase : attributeBase o "index" X.env (eval o X.env) = eval o X.env := by rfl)
    (hfew : ((backTo pos (starEach [e] X.env)).all (fun x => !x.1) && (backToKw pos (keywordEach [] X.env)).all (fun x => x.1.isSome)
      && decide ([e].length + ([] : List Keyword).length + (if ([] : List Keyword).isEmpty then 0 else 1) < 30)) = true := by rfl)
    (hline : (ap.endLine == pos.line) = true := by rfl) (hs : starEach [e] X.env = (false, eval e X.env) :: starEach [] X.env := by rfl) (hpl : (backTo pos (starEach [] X.env)).any (·.1) = false := by rfl) :
    WE X (.Call (.Attribute o "index" ap) [e] [] pos) Γ μ Q := fun Z σ H en ok tk => by
  refine toS (pe_bm PySem.F.plainAttrs_list PySem.F.slot_list_index PySem.F.type_list_index mt_index pe_S (pa_cons pe_S pa_nil hs) hbase hfew hline hs hpl) ?_
  refine h.use (Go.refl ok) en tk fun v H1 μ1 d g1 _ en1 i1 q1 => ?_
  obtain ⟨zs, sq, q1⟩ := q1
  obtain ⟨p, rfl, hat⟩ := sq.at g1.ok i1
  obtain ⟨vs0, s0, _⟩ := hat _ _ _ g1.ok .self sq.still
  refine ⟨.inl ⟨rfl, vs0, s0⟩, ?_⟩
  refine q1.use g1 en1 tk fun w H2 μ2 d2 g2 g2' en2 i2 q2 => ?_
  obtain ⟨st, w, j, rfl, hj, hno, q⟩ := q2
  obtain ⟨vs, s2, t2⟩ := hat _ _ _ g2.ok g2'.fz st
  rw [isStr i2]
  have e := isA_strs t2
  subst e
  refine ⟨p, _, _, j, .str w, rfl, rfl, s2, rfl, ?_, by rw [List.getElem?_map, hj]; rfl, ?_, fun m z' hm hz => ?_, μ2, _, g2, .int _, q⟩
  · rw [List.all_map, List.all_eq_true]
    exact fun _ _ => rfl
  · simp [eqV]
  · rw [List.getElem?_map] at hz
    obtain ⟨y, hy, rfl⟩ := Option.map_eq_some_iff.mp hz
    have : y ≠ w := fun e => hno m hm (by rw [hy, e])
    simp [eqV, this]
/-- a == b == c -/
theorem we_chE (hu : X.A.units + 64 < cLine) (h : WE X a Γ μ fun μ1 x => WE X b Γ μ1 fun μ2 y => EqA μ2 x y fun k => (if k = true then WE X c Γ μ2 fun μ3 z => EqA μ3 y z fun r => Q μ3 (.bl r) else Q μ2 (.bl false)))
    (hm : lastMarks [.Eq, .Eq] [b, c] = false := by rfl) : WE X (.Compare a [.Eq, .Eq] [b, c] pos) Γ μ Q := fun Z σ H en ok tk => by
  refine toS (pe_chain (op_eqA hu) (op_eqA hu) pe_S pe_S pe_S hm) ?_
  refine h.use (Go.refl ok) en tk fun v H1 μ1 d g1 _ en1 i1 q1 => ?_
  refine q1.use g1 en1 tk fun w H2 μ2 d2 g2 g2' en2 i2 q2 => ?_
  refine eqa_read (Q := fun r => ∃ k, V.bl r = V.bl k ∧ (if k = true then SE X.toCx c σ H2 (fun w' H4 => (scal w w' = true ∧ PostE X.K Z μ H Q (V.bl (decide (w = w'))) H4) ∨ ∃ d e, Dp X.K H4 w d ∧ Dp X.K H4 w' e ∧ SeqAt.shaped d = true ∧ SeqAt.shaped e = true ∧ PostE X.K Z μ H Q (V.bl (d.eqv e)) H4) else PostE X.K Z μ H Q (V.bl false) H2)) g2.ok (i1.mono g2'.fz) i2 q2 fun c r => ⟨c, rfl, ?_⟩
  by_cases hc : c = true
  · rw [if_pos hc] at r ⊢
    refine r.use g2 en2 tk fun u H3 μ3 d3 g3 g3' en3 i3 q3 => ?_
    exact eqa_read (Q := fun c => PostE X.K Z μ H Q (.bl c) H3) g3.ok (i2.mono g3'.fz) i3 q3 fun c r => ⟨μ3, _, g3, .bl _, r⟩
  · rw [if_neg hc] at r ⊢
    exact ⟨μ2, _, g2, .bl _, by rw [Bool.not_eq_true] at hc; exact r⟩
end
/-- a comprehension whose elements are drawn, each one of its own thing -/
theorem lc_boxT {X : Cz} {Γ : Gm} {μ : Mu} {elt tg : Expr} {scope : Scope} {vs : List Nat} {G : Mu → Prop} {Pf : List D → Mu → Prop} {b g : Addr} {t : Bx} {α : Type} {xs : List α} {f : α → D} (T : α → Gm) (P : α → D → Prop) (c : Int) (hc0 : 0 ≤ c) (hG : ∀ t', G (bxM b g t' μ)) (hl : xs.length < sizeLine) (ht0 : BxOk t)
    (ht : ∀ X', Blk X scope X' → ∀ x ∈ xs, ∀ t', WG X' tg vs (f x) Γ (bxM b g t' μ) fun Γ3 μ3 => Γ3 = T x ∧ μ3 = bxM b g t' μ)
    (he : ∀ X', Blk X scope X' → ∀ x ∈ xs, ∀ t', BxOk t' → t.cnt ≤ t'.cnt → t'.cnt ≤ t.cnt + c * (xs.length : Int) → WE X' elt (T x) (bxM b g t' μ) fun μ4 y => ∃ t2, μ4 = bxM b g t2 μ ∧ BxOk t2 ∧ t'.cnt ≤ t2.cnt ∧ t2.cnt ≤ t'.cnt + c ∧ P x y)
    (fin : ∀ acc t', acc.length = xs.length → (∀ (i : Nat) x d, xs[i]? = some x → acc[i]? = some d → P x d) → BxOk t' → t.cnt ≤ t'.cnt → t'.cnt ≤ t.cnt + c * (xs.length : Int) → Pf acc (bxM b g t' μ)) : Lc X elt tg [] scope vs Γ (bxM b g t μ) (xs.map f) G Pf := by
  refine ⟨fun i acc μ' => ∃ t', μ' = bxM b g t' μ ∧ BxOk t' ∧ t.cnt ≤ t'.cnt ∧ t'.cnt ≤ t.cnt + c * (i : Int) ∧ acc.length = i ∧ ∀ (j : Nat) x d, xs[j]? = some x → acc[j]? = some d → P x d, ⟨t, rfl, ht0, Int.le_refl _, by simp, rfl, fun j x d _ h => by cases h⟩, fun i acc μ' _ ⟨t', e, _⟩ => by rw [e]; exact hG t', fun i d acc μ' hd h => ?_, fun acc μ' h => ?_⟩
  · obtain ⟨t', rfl, h1, h0, h2, h3, h4⟩ := h
    rw [List.getElem?_map] at hd
    obtain ⟨x, hx, rfl⟩ := Option.map_eq_some_iff.mp hd
    have hm : x ∈ xs := List.mem_of_getElem? hx
    have hi : i < xs.length := (List.getElem?_eq_some_iff.mp hx).1
    have hle : c * (i : Int) ≤ c * (xs.length : Int) := Int.mul_le_mul_of_nonneg_left (by omega) hc0
    refine ⟨T x, fun X' bl => ht X' bl x hm t', fun X' bl => wts_nil ?_⟩
    rw [if_pos rfl]
    intro X' bl
    refine (he X' bl x hm t' h1 h0 (by omega)).mono fun μ4 y h5 => ?_
    obtain ⟨t2, rfl, h6, h9, h7, h8⟩ := h5
    refine ⟨by omega, t2, rfl, h6, by omega, ?_, by rw [List.length_append, List.length_singleton]; omega, fun j z d hz hj => ?_⟩
    · have e : c * ((i + 1 : Nat) : Int) = c * (i : Int) + c := by
        rw [Int.natCast_add, Int.mul_add]
        simp
      rw [e]
      omega
    · by_cases hji : j < acc.length
      · rw [List.getElem?_append_left hji] at hj
        exact h4 j z d hz hj
      · rw [List.getElem?_append_right (by omega)] at hj
        have h0 : j - acc.length = 0 := by
          have := (List.getElem?_eq_some_iff.mp hj).1
          rw [List.length_singleton] at this
          omega
        rw [h0] at hj
        cases hj
        have : j = i := by omega
        subst this
        rw [hx] at hz
        cases hz
        exact h8
  · obtain ⟨t', rfl, h1, h0, h2, h3, h4⟩ := h
    rw [List.length_map] at h2 h3
    exact fin acc t' h3 h4 h1 h0 h2
/-- .. typed -/
theorem all2_typ {α β : Type} {h : α → β → D} {R : α → β → Prop} : ∀ {xs : List α} {acc : List D}, acc.length = xs.length → (∀ (i : Nat) x d, xs[i]? = some x → acc[i]? = some d → ∃ y, d = h x y ∧ R x y) → ∃ ps : List (α × β), acc = ps.map (fun p => h p.1 p.2) ∧ ps.map (·.1) = xs ∧ ∀ p ∈ ps, R p.1 p.2
  | [], [], _, _ => ⟨[], rfl, rfl, fun _ z => by cases z⟩
  | [], _ :: _, e, _ => by cases e
  | _ :: _, [], e, _ => by cases e
  | x :: xs, d :: acc, e, hh => by
    obtain ⟨y, hd, hr⟩ := hh 0 x d rfl rfl
    obtain ⟨ps, h1, h2, h3⟩ := all2_typ (h := h) (R := R) (xs := xs) (acc := acc) (by simpa using e) fun i x' d' h1 h2 => hh (i + 1) x' d' h1 h2
    refine ⟨(x, y) :: ps, by rw [hd, h1]; rfl, by rw [List.map_cons, h2], fun p hp => ?_⟩
    rcases List.mem_cons.mp hp with z | hp
    · subst z; exact hr
    · exact h3 p hp
/-- a comprehension's own name that an inner one captures -/
theorem Ctx.nk {X X' : Cz} {P : Program} {w : World} {K : PySem.W.Frag} {mg : Str → Option Value} {base : Heap} {k : Nat} {N : List Str} {sc scope : Scope} (h : Ctx X' P w K mg base k N sc) (b : Blk X scope X') {x : Str} {i : Nat} (n : nmB N sc x i = true) (l : celB sc x = true) (s : (scope.names.lookup x == some .cell) = true) : Nw X' x i :=
  ⟨h.nm n, h.nd, .inr (by rw [h.sc]; exact celB_ok l), .inl (by obtain ⟨_, _, _, _, _, rfl⟩ := b; exact s)⟩
end DL

set_option Elab.async false
set_option linter.all false
set_option maxRecDepth 100000
set_option maxHeartbeats 2000000
namespace PySem.W
open PySem PySem.Calls PyProof.Rows PyProof.V PySem.Spec
section
variable {prog : Program} {w : World} {K : Type} [DecidableEq K] {knd : KeyKind prog w K} {A : Around} {s : Shared}
theorem rcN_dicts {a b : Addr} {ka kb : List (K × Value)} {r : Bool} (ha : (a == sysModules) = false) (hb : (b == sysModules) = false)
    (da : s.heap.DictOf knd a ka) (db : s.heap.DictOf knd b kb) (hu : A.units < cLine) (hits : ka.length = kb.length → KeqHitsP prog w A.in1 s kb ka r) (E Q : Value → Shared → Prop) (h : Q (.bool !(ka.length == kb.length && r)) s) : wpAny (model prog w) A (richCompare .NotEq (.ref a) (.ref b)) Q E s := by
  refine wpAny_richCompare_same_room (op := .NotEq) da.typeIs db.typeIs PySem.F.slot_dict_ne (wpAny_call_entry PySem.F.slot_dict_ne da.typeIs PySem.F.entry_dict_ne ?_ (PySem.F.args_dict_ne_2 _ _)) hu
  show wpAny _ _ (Builtin.Dict.dictSlotArgs "__ne__" ⟨[.ref a, .ref b], []⟩ >>= _) _ _ s
  refine wpAny_bind ?_
  unfold Builtin.Dict.dictSlotArgs
  refine wpAny_bind (wpAny_notOrdered_dict da.typeIs ?_)
  show wpAny _ _ (pure (Value.ref a, Value.ref b)) _ _ s
  refine wpAny_pure ?_
  refine wpAny_bind (wpAny_isInstance (T := "dict") db.typeIs PySem.F.sub_dict_dict ?_)
  simp only [Bool.not_true, Bool.false_eq_true, if_false]
  refine wpAny_bind (wpAny_pure (wpAny_bind (wpAny_pure ?_)))
  refine wpAny_bind (samePairsP ha hb da db hits ?_)
  refine wpAny_pure ⟨_, rfl, ?_, ?_⟩
  · exact fun x => nomatch x
  · simpa using h
end
end PySem.W
namespace DL
open PySem PySem.Spec PyProof.Rows L2
/-- a value equal to another one, or not -/
def VQ (X : Cx) (Z : Addr → Prop) (H : Hp) (x y : V) (c : Bool) : Prop :=
  (∃ d e n, Dp X.K H x d ∧ Dp X.K H y e ∧ (d.canLay0 = true ∧ d.depth ≤ n) ∧ (e.canLay0 = true ∧ e.depth ≤ n) ∧ n ≤ 50 ∧ c = PyData.eqv d e) ∨
  (∃ a, x = .ref a ∧ y = .ref a ∧ c = true) ∨
  (∃ (a b : Addr) (ks ls : List (Key × V)) (kds lds : List (Key × D)) (n : Nat), a ≠ b ∧ x = .ref a ∧ y = .ref b ∧ H a = some (.dK ks) ∧ H b = some (.dK ls) ∧ KD X.K Z H ks kds ∧ KD X.K Z H ls lds ∧ shKV n kds ∧ shKV n lds ∧ n ≤ 50 ∧ c = dEq kds lds)
theorem VQ.eqP {X : Cx} {pins : List (Addr × Obj)} {σ : L2.St} {H : Hp} {s : Shared} (I : Inv X pins σ H s) {Z : Addr → Prop} {A : Around} (hu : A.units + 60 < cLine) {x y : V} {c : Bool} (h : VQ X Z H x y c) {u v : Value} (rx : RelV x u) (ry : RelV y v) : SeqAt.EqP X.prog X.w A s u v c := by
  rcases h with ⟨d, e, n, h1, h2, h3, h4, hn, rfl⟩ | ⟨a, rfl, rfl, rfl⟩ | ⟨a, b, ks, ls, kds, lds, n, hab, rfl, rfl, ea, eb, k1, k2, s1, s2, hn, rfl⟩
  · exact eqP_dp I (by omega) h1 h2 rx ry h3 h4
  · obtain rfl : u = Value.ref a := rx
    obtain rfl : v = Value.ref a := ry
    exact (SeqAt.EqAt.same _).eqP
  · obtain rfl : u = Value.ref a := rx
    obtain rfl : v = Value.ref b := ry
    obtain ⟨_, ya, va, ra, da⟩ := (show ObjOk X.prog X.w H s.heap a (.dK ks) from I.hok a _ ea)
    obtain ⟨_, yb, vb, rb, db⟩ := (show ObjOk X.prog X.w H s.heap b (.dK ls) from I.hok b _ eb)
    have hA : A.in1.units + n < cLine := by
      have : A.in1.units = A.units + 1 := rfl
      omega
    have e1 : va.length = kds.length := by rw [← ra.length]; exact k1.len
    have e2 : vb.length = lds.length := by rw [← rb.length]; exact k2.len
    refine SeqAt.eqP_refs hab fun E Q q => ?_
    refine PySem.W.rcP_dicts (knd := mixKind X.prog X.w) ya yb da db (by omega) (fun _ => hits_of I hA k2 rb s2 k1 ra s1) E Q ?_
    rw [e1, e2]
    exact q
inductive HQ (X : Cx) (Z : Addr → Prop) (H : Hp) (ls : List (Key × V)) : List (Key × V) → Bool → Prop
  | nil : HQ X Z H ls [] true
  | cons {k : Key} {v v' : V} {r : List (Key × V)} {c b : Bool} (h1 : valV ls k = some v') (h2 : VQ X Z H v v' c) (t : HQ X Z H ls r b) : HQ X Z H ls ((k, v) :: r) (c && b)
theorem HQ.hits {X : Cx} {pins : List (Addr × Obj)} {σ : L2.St} {H : Hp} {s : Shared} (I : Inv X pins σ H s) {Z : Addr → Prop} {A : Around} (hu : A.units + 60 < cLine) {ls : List (Key × V)} {us2 : List (Key × Value)} (v2 : KV ls us2) :
    ∀ {ks : List (Key × V)} {us : List (Key × Value)} {c : Bool}, HQ X Z H ls ks c → KV ks us → PySem.W.KeqHitsP X.prog X.w A s us2 us c
  | [], [], _, .nil, .nil => .nil
  | (k, v) :: ks, (k', u) :: us, _, .cons (v' := v') h1 h2 t, .cons h' t' => by
    obtain ⟨e2, rv⟩ := h'
    dsimp only at e2 rv
    subst e2
    have hv := v2.val k
    rw [h1] at hv
    obtain ⟨y, hy, ry⟩ : ∃ y, valueAt us2 k = some y ∧ RelV v' y := by
      cases hq : valueAt us2 k with
      | none => rw [hq] at hv; exact (show False from hv).elim
      | some y => rw [hq] at hv; exact ⟨y, rfl, hv⟩
    exact .hit hy (h2.eqP I hu rv ry) (HQ.hits I hu v2 t t')
def rEqN (X : Cx) : R2 := fun x y H Q => ∃ (Z : Addr → Prop) (a b : Addr) (ks ls : List (Key × V)) (c : Bool), x = .ref a ∧ y = .ref b ∧ H a = some (.dK ks) ∧ H b = some (.dK ls) ∧ ks.length = ls.length ∧ HQ X Z H ls ks c ∧ Q (.bl c) H
theorem op_eqN {X : Cx} (hu : X.A.units + 64 < cLine) : OpR X (compareOp .Eq) (rEqN X) := by
  intro pins s σ H x y v u Q I rx ry h
  obtain ⟨Z, a, b, ks, ls, c, rfl, rfl, ea, eb, hl, hq, q⟩ := h
  obtain rfl : v = Value.ref a := rx
  obtain rfl : u = Value.ref b := ry
  obtain ⟨_, ya, va, ra, da⟩ := (show ObjOk X.prog X.w H s.heap a (.dK ks) from I.hok a _ ea)
  obtain ⟨_, yb, vb, rb, db⟩ := (show ObjOk X.prog X.w H s.heap b (.dK ls) from I.hok b _ eb)
  have hA : X.A.in1.units + 60 < cLine := by
    have : X.A.in1.units = X.A.units + 1 := rfl
    omega
  refine PySem.W.rcP_dicts (knd := mixKind X.prog X.w) ya yb da db (by omega) (fun _ => hq.hits I hA rb ra) _ _ ?_
  rw [show (va.length == vb.length && c) = c by rw [← ra.length, ← rb.length, hl]; simp]
  exact ⟨.bl _, H, I, rfl, q⟩
def rNeN (X : Cx) : R2 := fun x y H Q => ∃ (Z : Addr → Prop) (a b : Addr) (ks ls : List (Key × V)) (c : Bool), x = .ref a ∧ y = .ref b ∧ H a = some (.dK ks) ∧ H b = some (.dK ls) ∧ ks.length = ls.length ∧ HQ X Z H ls ks c ∧ Q (.bl !c) H
theorem op_neN {X : Cx} (hu : X.A.units + 64 < cLine) : OpR X (compareOp .NotEq) (rNeN X) := by
  intro pins s σ H x y v u Q I rx ry h
  obtain ⟨Z, a, b, ks, ls, c, rfl, rfl, ea, eb, hl, hq, q⟩ := h
  obtain rfl : v = Value.ref a := rx
  obtain rfl : u = Value.ref b := ry
  obtain ⟨_, ya, va, ra, da⟩ := (show ObjOk X.prog X.w H s.heap a (.dK ks) from I.hok a _ ea)
  obtain ⟨_, yb, vb, rb, db⟩ := (show ObjOk X.prog X.w H s.heap b (.dK ls) from I.hok b _ eb)
  have hA : X.A.in1.units + 60 < cLine := by
    have : X.A.in1.units = X.A.units + 1 := rfl
    omega
  refine PySem.W.rcN_dicts (knd := mixKind X.prog X.w) ya yb da db (by omega) (fun _ => hq.hits I hA rb ra) _ _ ?_
  rw [show (va.length == vb.length && c) = c by rw [← ra.length, ← rb.length, hl]; simp]
  exact ⟨.bl _, H, I, rfl, q⟩
/-- .. at the level of data -/
def VN (μ : Mu) (d e : D) (c : Bool) : Prop := (∃ n, shD n d = true ∧ shD n e = true ∧ n ≤ 50 ∧ c = eqvD d e) ∨ (∃ p, d = .ref p ∧ e = .ref p ∧ c = true) ∨
  (∃ (p q : Addr) (kds lds : List (Key × D)) (n : Nat), p ≠ q ∧ d = .ref p ∧ e = .ref q ∧ μ p = some (.dK kds) ∧ μ q = some (.dK lds) ∧ shKV n kds ∧ shKV n lds ∧ n ≤ 50 ∧ c = dEq kds lds)
inductive HN (μ : Mu) (lds : List (Key × D)) : List (Key × D) → Bool → Prop
  | nil : HN μ lds [] true
  | cons {k : Key} {d e : D} {r : List (Key × D)} {c b : Bool} (h1 : valG lds k = some e) (h2 : VN μ d e c) (t : HN μ lds r b) : HN μ lds ((k, d) :: r) (c && b)
theorem HN.q {X : Cz} {Z : Addr → Prop} {μ : Mu} {H : Hp} (ok : Ok X.K μ Z H) {ls : List (Key × V)} {lds : List (Key × D)} (k2 : KD X.K (Av μ Z) H ls lds) : ∀ {kds : List (Key × D)} {ks : List (Key × V)} {c : Bool}, HN μ lds kds c → KD X.K (Av μ Z) H ks kds → HQ X.toCx (Av μ Z) H ls ks c
  | [], [], _, .nil, .nil => .nil
  | (k, d) :: kds, (k', v) :: ks, _, .cons (e := e) h1 h2 t, .cons h t' => by
    obtain ⟨e1, i1⟩ := h
    dsimp only at e1 i1
    subst e1
    rcases k2.val k' with ⟨v', e', g1, g2, is⟩ | ⟨g1, g2⟩
    · rw [h1] at g2
      cases g2
      refine .cons g1 ?_ (HN.q ok k2 t t')
      rcases h2 with ⟨n, s1, s2, hn, rfl⟩ | ⟨p, rfl, rfl, rfl⟩ | ⟨p, q, kds', lds', n, hpq, rfl, rfl, m1, m2, s1, s2, hn, rfl⟩
      · exact .inl ⟨_, _, n, dp_of n s1 i1, dp_of n s2 is, lay_of n s1, lay_of n s2, hn, rfl⟩
      · cases isRef i1
        cases isRef is
        exact .inr (.inl ⟨p, rfl, rfl, rfl⟩)
      · cases isRef i1
        cases isRef is
        obtain ⟨ks', a1, a2⟩ := dk_wr m1 ok
        obtain ⟨ls', b1, b2⟩ := dk_wr m2 ok
        exact .inr (.inr ⟨p, q, ks', ls', kds', lds', n, hpq, rfl, rfl, a1, b1, a2, b2, s1, s2, hn, rfl⟩)
    · rw [h1] at g2
      cases g2
def EqN (μ : Mu) (x y : D) (R : Bool → Prop) : Prop := ∃ p q kds lds c, x = .ref p ∧ y = .ref q ∧ μ p = some (.dK kds) ∧ μ q = some (.dK lds) ∧ kds.length = lds.length ∧ HN μ lds kds c ∧ R c
section
variable {X : Cz} {Γ : Gm} {μ : Mu} {a b e c : Expr} {pos p0 : Pos} {Q : Mu → D → Prop}
theorem we_eqN (hu : X.A.units + 64 < cLine) (h : WE X a Γ μ fun μ1 x => WE X b Γ μ1 fun μ2 y => EqN μ2 x y fun c => Q μ2 (.bl c)) : WE X (.Compare a [.Eq] [b] pos) Γ μ Q := fun Z σ H en ok tk => by
  refine toS (pe_cmpR (op_eqN hu) pe_S pe_S (nomark _)) ?_
  refine h.use (Go.refl ok) en tk fun v H1 μ1 d g1 _ en1 i1 q1 => ?_
  refine q1.use g1 en1 tk fun w H2 μ2 d2 g2 g2' en2 i2 q2 => ?_
  obtain ⟨p, q, kds, lds, c, rfl, rfl, m1, m2, hl, hn, r⟩ := q2
  cases isRef i1
  cases isRef i2
  obtain ⟨ks, h1, k1⟩ := dk_wr m1 g2.ok
  obtain ⟨ls, h2, k2⟩ := dk_wr m2 g2.ok
  exact ⟨_, _, _, ks, ls, c, rfl, rfl, h1, h2, by rw [k1.len, k2.len, hl], hn.q g2.ok k2 k1, μ2, _, g2, .bl _, r⟩
theorem we_neN (hu : X.A.units + 64 < cLine) (h : WE X a Γ μ fun μ1 x => WE X b Γ μ1 fun μ2 y => EqN μ2 x y fun c => Q μ2 (.bl !c)) : WE X (.Compare a [.NotEq] [b] pos) Γ μ Q := fun Z σ H en ok tk => by
  refine toS (pe_cmpR (op_neN hu) pe_S pe_S (nomark _)) ?_
  refine h.use (Go.refl ok) en tk fun v H1 μ1 d g1 _ en1 i1 q1 => ?_
  refine q1.use g1 en1 tk fun w H2 μ2 d2 g2 g2' en2 i2 q2 => ?_
  obtain ⟨p, q, kds, lds, c, rfl, rfl, m1, m2, hl, hn, r⟩ := q2
  cases isRef i1
  cases isRef i2
  obtain ⟨ks, h1, k1⟩ := dk_wr m1 g2.ok
  obtain ⟨ls, h2, k2⟩ := dk_wr m2 g2.ok
  exact ⟨_, _, _, ks, ls, c, rfl, rfl, h1, h2, by rw [k1.len, k2.len, hl], hn.q g2.ok k2 k1, μ2, _, g2, .bl _, r⟩
/-- != of own classes by object.__ne__, as a value -/
theorem we_neI {C : Addr} {s : Spc} (T : Cne X C s) (h : WE X a Γ μ fun μ1 x => WE X b Γ μ1 fun μ2 y => ∃ gs gs', InsAt μ2 x C gs ∧ InsAt μ2 y C gs' ∧ s [x, y] μ2 (fun μ3 d => ∃ c, d = .bl c ∧ Q μ3 (.bl !c)) (fun _ _ => False)) : WE X (.Compare a [.NotEq] [b] pos) Γ μ Q := fun Z σ H en ok tk => by
  obtain ⟨k, f, fd, ps, M, F, hr, hb⟩ := T.ex
  refine toS (pe_cmpR (op_neI T.xne M.at_ M.fn F hb hr) pe_S pe_S (nomark _)) ?_
  refine h.use (Go.refl ok) en tk fun v H1 μ1 d g1 _ en1 i1 q1 => ?_
  refine q1.use g1 en1 tk fun w H2 μ2 d2 g2 g2' en2 i2 q2 => ?_
  obtain ⟨gs, gs', m1, m2, q⟩ := q2
  have i1' := i1.mono g2'.fz
  obtain ⟨x, dx, fs, rfl, hH, _, _⟩ := m1.at g2.ok i1'
  obtain ⟨y, dy, fs', rfl, hH', _, _⟩ := m2.at g2.ok i2
  refine ⟨x, y, dx, dy, fs, fs', rfl, rfl, hH, hH', [d, d2], μ2, Z, .cons i1' (.cons i2 .nil), g2.ok, T.mono _ _ _ _ _ _ (fun μ' d q => ?_) (fun _ _ z => z.elim) q⟩
  intro v H' g' is
  obtain ⟨j, rfl, q⟩ := q
  exact ⟨j, isBl is, j, rfl, μ', _, g2.trans g', .bl _, q⟩
end
end DL

set_option Elab.async false
set_option linter.all false
set_option maxRecDepth 100000
set_option maxHeartbeats 1000000
namespace DL
theorem dvd_two {d b c : Nat} (h : d ∣ Nat.lcm b c) : d ∣ Nat.lcm (Nat.gcd d b) (Nat.gcd d c) := by
  have hG : Nat.gcd (Nat.gcd d b) (Nat.gcd d c) = Nat.gcd d (Nat.gcd b c) := by
    refine Nat.dvd_antisymm ?_ ?_
    · refine Nat.dvd_gcd (Nat.dvd_trans (Nat.gcd_dvd_left _ _) (Nat.gcd_dvd_left _ _)) (Nat.dvd_gcd (Nat.dvd_trans (Nat.gcd_dvd_left _ _) (Nat.gcd_dvd_right _ _)) (Nat.dvd_trans (Nat.gcd_dvd_right _ _) (Nat.gcd_dvd_right _ _)))
    · refine Nat.dvd_gcd (Nat.dvd_gcd (Nat.gcd_dvd_left _ _) (Nat.dvd_trans (Nat.gcd_dvd_right _ _) (Nat.gcd_dvd_left _ _))) (Nat.dvd_gcd (Nat.gcd_dvd_left _ _) (Nat.dvd_trans (Nat.gcd_dvd_right _ _) (Nat.gcd_dvd_right _ _)))
  have hm : Nat.gcd d b * Nat.gcd d c = Nat.gcd d (Nat.gcd b c) * Nat.lcm (Nat.gcd d b) (Nat.gcd d c) := by
    rw [← hG, Nat.gcd_mul_lcm]
  have hd : d * Nat.gcd d (Nat.gcd b c) ∣ Nat.gcd d b * Nat.gcd d c := by
    rw [← Nat.gcd_mul_right]
    refine Nat.dvd_gcd ?_ ?_
    · exact Nat.mul_dvd_mul (Nat.dvd_refl _) (Nat.dvd_gcd (Nat.gcd_dvd_left _ _) (Nat.dvd_trans (Nat.gcd_dvd_right _ _) (Nat.gcd_dvd_right _ _)))
    · rw [show b * Nat.gcd d c = Nat.gcd (b * d) (b * c) from (Nat.gcd_mul_left b d c).symm]
      refine Nat.dvd_gcd ?_ ?_
      · rw [Nat.mul_comm b d]
        exact Nat.mul_dvd_mul (Nat.dvd_refl _) (Nat.dvd_trans (Nat.gcd_dvd_right _ _) (Nat.gcd_dvd_left _ _))
      · rw [← Nat.gcd_mul_lcm b c, Nat.mul_comm]
        exact Nat.mul_dvd_mul (Nat.gcd_dvd_right _ _) h
  by_cases h0 : Nat.gcd d (Nat.gcd b c) = 0
  · have h1 : d = 0 := Nat.eq_zero_of_gcd_eq_zero_left h0
    have h2 : Nat.gcd b c = 0 := Nat.eq_zero_of_gcd_eq_zero_right h0
    have h3 : b = 0 := Nat.eq_zero_of_gcd_eq_zero_left h2
    subst h1 h3
    simp
  · rw [hm, Nat.mul_comm] at hd
    exact Nat.dvd_of_mul_dvd_mul_left (Nat.pos_of_ne_zero h0) hd
theorem meet_join {a b c x : Nat} (h1 : Nat.gcd a b ∣ x) (h2 : Nat.gcd a c ∣ x) : Nat.gcd a (Nat.lcm b c) ∣ x := by
  refine Nat.dvd_trans (dvd_two (d := Nat.gcd a (Nat.lcm b c)) (b := b) (c := c) (Nat.gcd_dvd_right _ _)) (Nat.lcm_dvd (Nat.dvd_trans ?_ h1) (Nat.dvd_trans ?_ h2))
  · exact Nat.dvd_gcd (Nat.dvd_trans (Nat.gcd_dvd_left _ _) (Nat.gcd_dvd_left _ _)) (Nat.gcd_dvd_right _ _)
  · exact Nat.dvd_gcd (Nat.dvd_trans (Nat.gcd_dvd_left _ _) (Nat.gcd_dvd_left _ _)) (Nat.gcd_dvd_right _ _)
theorem join_meet {a b c x : Nat} (h1 : Nat.gcd b a ∣ x) (h2 : Nat.gcd c a ∣ x) : Nat.gcd (Nat.lcm b c) a ∣ x := by
  rw [Nat.gcd_comm]
  exact meet_join (by rw [Nat.gcd_comm]; exact h1) (by rw [Nat.gcd_comm]; exact h2)
theorem meet4 {a b c d x : Nat} (h1 : Nat.gcd a c ∣ x) (h2 : Nat.gcd a d ∣ x) (h3 : Nat.gcd b c ∣ x) (h4 : Nat.gcd b d ∣ x) : Nat.gcd (Nat.lcm a b) (Nat.lcm c d) ∣ x :=
  join_meet (meet_join h1 h2) (meet_join h3 h4)
theorem gcd_mono {a b c d : Nat} (h1 : a ∣ c) (h2 : b ∣ d) : Nat.gcd a b ∣ Nat.gcd c d := Nat.dvd_gcd (Nat.dvd_trans (Nat.gcd_dvd_left _ _) h1) (Nat.dvd_trans (Nat.gcd_dvd_right _ _) h2)
theorem lcm_mono {a b c d : Nat} (h1 : a ∣ c) (h2 : b ∣ d) : Nat.lcm a b ∣ Nat.lcm c d := Nat.lcm_dvd (Nat.dvd_trans h1 (Nat.dvd_lcm_left _ _)) (Nat.dvd_trans h2 (Nat.dvd_lcm_right _ _))
/-- a matrix that all ways through it are beneath -/
structure Clo (n : Nat) (C : Nat → Nat → Nat) : Prop where
  dg : ∀ i, i < n → C i i = 0
  sy : ∀ i j, i < n → j < n → C i j = C j i
  tr : ∀ i b j, i < n → b < n → j < n → Nat.gcd (C i b) (C b j) ∣ C i j
def Tied (ts : List (Nat × Nat × Nat)) (C : Nat → Nat → Nat) : Prop := ∀ t ∈ ts, t.2.2 ∣ C t.1 t.2.1
def InN (n : Nat) (ts : List (Nat × Nat × Nat)) : Prop := ∀ t ∈ ts, t.1 < n ∧ t.2.1 < n
theorem tie_at {M : Nat → Nat → Nat} {a b r i j : Nat} : tieStep M (a, b, r) i j = if (i = b ∧ j = a) ∨ (i = a ∧ j = b) then Nat.lcm (M a b) r else M i j := by
  unfold tieStep upd2
  dsimp only
  by_cases h1 : i = b ∧ j = a
  · rw [if_pos h1, if_pos (.inl h1)]
  · rw [if_neg h1]
    by_cases h2 : i = a ∧ j = b
    · rw [if_pos h2, if_pos (.inr h2)]
    · rw [if_neg h2, if_neg (by rintro (z | z) <;> contradiction)]
structure PreM (n : Nat) (M : Nat → Nat → Nat) : Prop where
  dg : ∀ i, M i i = 0
  sy : ∀ i j, M i j = M j i
theorem pre_mat0 {n : Nat} : PreM n mat0 := ⟨fun i => if_pos rfl, fun i j => by
  unfold mat0
  by_cases h : i = j
  · rw [if_pos h, if_pos h.symm]
  · rw [if_neg h, if_neg fun z => h z.symm]⟩
theorem pre_tie {n : Nat} {M : Nat → Nat → Nat} {t : Nat × Nat × Nat} (h : PreM n M) : PreM n (tieStep M t) := by
  obtain ⟨a, b, r⟩ := t
  refine ⟨fun i => ?_, fun i j => ?_⟩
  · rw [tie_at]
    split
    · rename_i e
      have : a = b := by rcases e with ⟨e1, e2⟩ | ⟨e1, e2⟩ <;> omega
      subst this
      rw [h.dg, Nat.lcm_zero_left]
    · exact h.dg i
  · rw [tie_at, tie_at]
    by_cases e : (i = b ∧ j = a) ∨ (i = a ∧ j = b)
    · rw [if_pos e, if_pos (by rcases e with ⟨e1, e2⟩ | ⟨e1, e2⟩ <;> simp [e1, e2])]
    · rw [if_neg e, if_neg (fun z => e (by rcases z with ⟨e1, e2⟩ | ⟨e1, e2⟩ <;> simp [e1, e2])), h.sy]
theorem pre_ties {n : Nat} : ∀ {ts : List (Nat × Nat × Nat)} {M : Nat → Nat → Nat}, PreM n M → PreM n (ts.foldl tieStep M)
  | [], _, h => h
  | t :: ts, M, h => pre_ties (ts := ts) (pre_tie h)
theorem ties_le {n : Nat} {C : Nat → Nat → Nat} (hC : Clo n C) : ∀ {ts : List (Nat × Nat × Nat)} {M : Nat → Nat → Nat}, PreM n M → InN n ts → Tied ts C → (∀ i j, i < n → j < n → M i j ∣ C i j) → ∀ i j, i < n → j < n → ts.foldl tieStep M i j ∣ C i j
  | [], _, _, _, _, h => h
  | (a, b, r) :: ts, M, hM, hn, ht, h => by
    refine ties_le hC (ts := ts) (pre_tie hM) (fun t z => hn t (List.mem_cons_of_mem _ z)) (fun t z => ht t (List.mem_cons_of_mem _ z)) fun i j hi hj => ?_
    obtain ⟨ha, hb⟩ := hn _ List.mem_cons_self
    have hr := ht _ List.mem_cons_self
    dsimp only at ha hb hr
    rw [tie_at]
    split
    · rename_i e
      rcases e with ⟨rfl, rfl⟩ | ⟨rfl, rfl⟩
      · rw [hC.sy _ _ hi hj]
        exact Nat.lcm_dvd (h _ _ ha hb) hr
      · exact Nat.lcm_dvd (h _ _ ha hb) hr
    · exact h i j hi hj
theorem ties_ge : ∀ {ts : List (Nat × Nat × Nat)} {M : Nat → Nat → Nat} {i j : Nat}, (∀ i j, M i j = M j i) → M i j ∣ ts.foldl tieStep M i j
  | [], _, _, _, _ => Nat.dvd_refl _
  | (a, b, r) :: ts, M, i, j, hs => by
    have h1 : ∀ i j, tieStep M (a, b, r) i j = tieStep M (a, b, r) j i := fun i j => by
      rw [tie_at, tie_at]
      by_cases e : (i = b ∧ j = a) ∨ (i = a ∧ j = b)
      · rw [if_pos e, if_pos (by rcases e with ⟨e1, e2⟩ | ⟨e1, e2⟩ <;> simp [e1, e2])]
      · rw [if_neg e, if_neg (fun z => e (by rcases z with ⟨e1, e2⟩ | ⟨e1, e2⟩ <;> simp [e1, e2])), hs]
    refine Nat.dvd_trans ?_ (ties_ge (ts := ts) (M := tieStep M (a, b, r)) h1)
    rw [tie_at]
    split
    · rename_i e
      rcases e with ⟨rfl, rfl⟩ | ⟨rfl, rfl⟩
      · rw [hs]; exact Nat.dvd_lcm_left _ _
      · exact Nat.dvd_lcm_left _ _
    · exact Nat.dvd_refl _
theorem ties_tied : ∀ {ts : List (Nat × Nat × Nat)} {M : Nat → Nat → Nat}, (∀ i j, M i j = M j i) → Tied ts (ts.foldl tieStep M)
  | [], _, _, _, h => (by cases h)
  | (a, b, r) :: ts, M, hs, t, h => by
    have h1 : ∀ i j, tieStep M (a, b, r) i j = tieStep M (a, b, r) j i := fun i j => by
      rw [tie_at, tie_at]
      by_cases e : (i = b ∧ j = a) ∨ (i = a ∧ j = b)
      · rw [if_pos e, if_pos (by rcases e with ⟨e1, e2⟩ | ⟨e1, e2⟩ <;> simp [e1, e2])]
      · rw [if_neg e, if_neg (fun z => e (by rcases z with ⟨e1, e2⟩ | ⟨e1, e2⟩ <;> simp [e1, e2])), hs]
    rcases List.mem_cons.mp h with rfl | h
    · refine Nat.dvd_trans ?_ (ties_ge (ts := ts) h1)
      rw [tie_at, if_pos (.inr ⟨rfl, rfl⟩)]
      exact Nat.dvd_lcm_right _ _
    · exact ties_tied (ts := ts) h1 t h
theorem by_le {n : Nat} {C : Nat → Nat → Nat} (hC : Clo n C) {M : Nat → Nat → Nat} {b : Nat} (hb : b < n) (h : ∀ i j, i < n → j < n → M i j ∣ C i j) : ∀ i j, i < n → j < n → byStep M b i j ∣ C i j := fun i j hi hj =>
  Nat.lcm_dvd (h i j hi hj) (Nat.dvd_trans (gcd_mono (h i b hi hb) (h b j hb hj)) (hC.tr i b j hi hb hj))
theorem bys_le {n : Nat} {C : Nat → Nat → Nat} (hC : Clo n C) : ∀ {bs : List Nat} {M : Nat → Nat → Nat}, (∀ b ∈ bs, b < n) → (∀ i j, i < n → j < n → M i j ∣ C i j) → ∀ i j, i < n → j < n → bs.foldl byStep M i j ∣ C i j
  | [], _, _, h => h
  | b :: bs, M, hb, h => bys_le hC (bs := bs) (fun x hx => hb x (List.mem_cons_of_mem _ hx)) (by_le hC (hb b List.mem_cons_self) h)
/-- the matrix of bonds is beneath all closed ones that keep the ties -/
theorem close_le {n : Nat} {ts : List (Nat × Nat × Nat)} {C : Nat → Nat → Nat} (hn : InN n ts) (hC : Clo n C) (ht : Tied ts C) : ∀ i j, i < n → j < n → closeM n ts i j ∣ C i j := by
  refine bys_le hC (fun b hb => List.mem_range.mp hb) (ties_le hC pre_mat0 hn ht fun i j hi hj => ?_)
  unfold mat0
  split
  · rename_i e; subst e; rw [hC.dg i hi]; exact Nat.dvd_refl _
  · exact Nat.one_dvd _
theorem pre_by {n b : Nat} {M : Nat → Nat → Nat} (h : PreM n M) : PreM n (byStep M b) := ⟨fun i => by unfold byStep; rw [h.dg, Nat.lcm_zero_left], fun i j => by
  unfold byStep
  rw [h.sy i j, h.sy i b, h.sy b j, Nat.gcd_comm]⟩
/-- ways through some points -/
def Thru (M : Nat → Nat → Nat) (k : Nat) : Prop := ∀ b, b < k → ∀ i j, Nat.gcd (M i b) (M b j) ∣ M i j
theorem thru_by {n k : Nat} {M : Nat → Nat → Nat} (hM : PreM n M) (h : Thru M k) : Thru (byStep M k) (k + 1) := fun b hb i j => by
  have x1 : Nat.gcd (M i k) (M k j) ∣ byStep M k i j := Nat.dvd_lcm_right _ _
  by_cases e : b = k
  · subst e
    have e1 : byStep M b i b = M i b := by unfold byStep; rw [hM.dg, Nat.gcd_zero_right, Nat.lcm_self]
    have e2 : byStep M b b j = M b j := by unfold byStep; rw [hM.dg, Nat.gcd_zero_left, Nat.lcm_self]
    rw [e1, e2]
    exact x1
  · have hb : b < k := by omega
    refine meet4 (Nat.dvd_trans (h b hb i j) (Nat.dvd_lcm_left _ _)) (Nat.dvd_trans ?_ x1) (Nat.dvd_trans ?_ x1) (Nat.dvd_trans ?_ x1)
    · exact Nat.dvd_gcd (Nat.dvd_trans (Nat.dvd_gcd (Nat.gcd_dvd_left _ _) (Nat.dvd_trans (Nat.gcd_dvd_right _ _) (Nat.gcd_dvd_left _ _))) (h b hb i k)) (Nat.dvd_trans (Nat.gcd_dvd_right _ _) (Nat.gcd_dvd_right _ _))
    · exact Nat.dvd_gcd (Nat.dvd_trans (Nat.gcd_dvd_left _ _) (Nat.gcd_dvd_left _ _)) (Nat.dvd_trans (Nat.dvd_gcd (Nat.dvd_trans (Nat.gcd_dvd_left _ _) (Nat.gcd_dvd_right _ _)) (Nat.gcd_dvd_right _ _)) (h b hb k j))
    · exact Nat.dvd_gcd (Nat.dvd_trans (Nat.gcd_dvd_left _ _) (Nat.gcd_dvd_left _ _)) (Nat.dvd_trans (Nat.gcd_dvd_right _ _) (Nat.gcd_dvd_right _ _))
theorem thru_all {n : Nat} : ∀ {k : Nat} {M : Nat → Nat → Nat}, PreM n M → PreM n ((List.range k).foldl byStep M) ∧ Thru ((List.range k).foldl byStep M) k
  | 0, M, hM => ⟨hM, fun b hb => by omega⟩
  | k + 1, M, hM => by
    rw [List.range_succ, List.foldl_append]
    obtain ⟨h1, h2⟩ := thru_all (k := k) hM
    exact ⟨pre_by h1, thru_by h1 h2⟩
theorem bys_ge : ∀ {bs : List Nat} {M : Nat → Nat → Nat} {i j : Nat}, M i j ∣ bs.foldl byStep M i j
  | [], _, _, _ => Nat.dvd_refl _
  | b :: bs, M, i, j => Nat.dvd_trans (Nat.dvd_lcm_left _ _) (bys_ge (bs := bs) (M := byStep M b))
theorem close_pre {n : Nat} {ts : List (Nat × Nat × Nat)} : PreM n (closeM n ts) := (thru_all (pre_ties pre_mat0)).1
theorem close_clo {n : Nat} {ts : List (Nat × Nat × Nat)} : Clo n (closeM n ts) := by
  obtain ⟨h1, h2⟩ := thru_all (n := n) (k := n) (M := ts.foldl tieStep mat0) (pre_ties pre_mat0)
  exact ⟨fun i _ => h1.dg i, fun i j _ _ => h1.sy i j, fun i b j _ hb _ => h2 b hb i j⟩
theorem close_tied {n : Nat} {ts : List (Nat × Nat × Nat)} : Tied ts (closeM n ts) := fun t ht => Nat.dvd_trans (ties_tied (pre_mat0 (n := n)).sy t ht) bys_ge
/-- the least one is one alone -/
theorem close_eq {n : Nat} {ts : List (Nat × Nat × Nat)} {C : Nat → Nat → Nat} (hn : InN n ts) (hC : Clo n C) (ht : Tied ts C) (hl : ∀ C', Clo n C' → Tied ts C' → ∀ i j, i < n → j < n → C i j ∣ C' i j) : ∀ i j, i < n → j < n → closeM n ts i j = C i j := fun i j hi hj =>
  Nat.dvd_antisymm (close_le hn hC ht i j hi hj) (hl _ close_clo close_tied i j hi hj)
/-- a tie more -/
def grownM (C : Nat → Nat → Nat) (a b r : Nat) : Nat → Nat → Nat := fun i j => Nat.lcm (C i j) (Nat.lcm (Nat.gcd (Nat.gcd (C i a) r) (C b j)) (Nat.gcd (Nat.gcd (C i b) r) (C a j)))
theorem grown_clo {n a b r : Nat} {C : Nat → Nat → Nat} (h : Clo n C) (ha : a < n) (hb : b < n) : Clo n (grownM C a b r) := by
  refine ⟨fun i hi => by unfold grownM; rw [h.dg i hi, Nat.lcm_zero_left], fun i j hi hj => ?_, fun i p j hi hp hj => ?_⟩
  · unfold grownM
    rw [h.sy i j hi hj, h.sy i a hi ha, h.sy b j hb hj, h.sy i b hi hb, h.sy a j ha hj]
    rw [Nat.lcm_comm (Nat.gcd (Nat.gcd (C a i) r) (C j b)) _]
    congr 2
    · rw [Nat.gcd_comm (C b i), Nat.gcd_comm (Nat.gcd r (C b i)), ← Nat.gcd_assoc]
    · rw [Nat.gcd_comm (C a i), Nat.gcd_comm (Nat.gcd r (C a i)), ← Nat.gcd_assoc]
  · -- three summands on either side
    have t : ∀ {x y z}, x < n → y < n → z < n → Nat.gcd (C x y) (C y z) ∣ C x z := fun hx hy hz => h.tr _ _ _ hx hy hz
    have s0 : C i j ∣ grownM C a b r i j := Nat.dvd_lcm_left _ _
    have s1 : Nat.gcd (Nat.gcd (C i a) r) (C b j) ∣ grownM C a b r i j := Nat.dvd_trans (Nat.dvd_lcm_left _ _) (Nat.dvd_lcm_right _ _)
    have s2 : Nat.gcd (Nat.gcd (C i b) r) (C a j) ∣ grownM C a b r i j := Nat.dvd_trans (Nat.dvd_lcm_right _ _) (Nat.dvd_lcm_right _ _)
    have mk : ∀ {d x y z}, d ∣ x → d ∣ y → d ∣ z → d ∣ Nat.gcd (Nat.gcd x y) z := fun h1 h2 h3 => Nat.dvd_gcd (Nat.dvd_gcd h1 h2) h3
    have go : ∀ {d x y z}, d ∣ C x y → d ∣ C y z → x < n → y < n → z < n → d ∣ C x z := fun h1 h2 hx hy hz => Nat.dvd_trans (Nat.dvd_gcd h1 h2) (t hx hy hz)
    have l1 : ∀ {x y z : Nat}, Nat.gcd (Nat.gcd x y) z ∣ x := Nat.dvd_trans (Nat.gcd_dvd_left _ _) (Nat.gcd_dvd_left _ _)
    have l2 : ∀ {x y z : Nat}, Nat.gcd (Nat.gcd x y) z ∣ y := Nat.dvd_trans (Nat.gcd_dvd_left _ _) (Nat.gcd_dvd_right _ _)
    have l3 : ∀ {x y z : Nat}, Nat.gcd (Nat.gcd x y) z ∣ z := Nat.gcd_dvd_right _ _
    have pl : ∀ {x y z : Nat}, x ∣ z → Nat.gcd x y ∣ z := fun h => Nat.dvd_trans (Nat.gcd_dvd_left _ _) h
    have pr : ∀ {x y z : Nat}, y ∣ z → Nat.gcd x y ∣ z := fun h => Nat.dvd_trans (Nat.gcd_dvd_right _ _) h
    have dd : ∀ {x : Nat}, x ∣ x := Nat.dvd_refl _
    refine meet4 (Nat.dvd_trans (t hi hp hj) s0) (meet_join ?_ ?_) (join_meet ?_ ?_) (meet4 ?_ ?_ ?_ ?_)
    · exact Nat.dvd_trans (mk (go (pl dd) (pr l1) hi hp ha) (pr l2) (pr l3)) s1
    · exact Nat.dvd_trans (mk (go (pl dd) (pr l1) hi hp hb) (pr l2) (pr l3)) s2
    · exact Nat.dvd_trans (mk (pl l1) (pl l2) (go (pl l3) (pr dd) hb hp hj)) s1
    · exact Nat.dvd_trans (mk (pl l1) (pl l2) (go (pl l3) (pr dd) ha hp hj)) s2
    · exact Nat.dvd_trans (mk (pl l1) (pl l2) (pr l3)) s1
    · exact Nat.dvd_trans (go (pl l1) (pr l3) hi ha hj) s0
    · exact Nat.dvd_trans (go (pl l1) (pr l3) hi hb hj) s0
    · exact Nat.dvd_trans (mk (pl l1) (pl l2) (pr l3)) s2
theorem close_snoc {n a b r : Nat} {ts : List (Nat × Nat × Nat)} (hn : InN n (ts ++ [(a, b, r)])) : ∀ i j, i < n → j < n → closeM n (ts ++ [(a, b, r)]) i j = grownM (closeM n ts) a b r i j := by
  obtain ⟨ha, hb⟩ := hn (a, b, r) (List.mem_append.mpr (.inr (List.mem_singleton.mpr rfl)))
  have hn1 : InN n ts := fun t ht => hn t (List.mem_append.mpr (.inl ht))
  dsimp only at ha hb
  refine close_eq hn (grown_clo close_clo ha hb) (fun t ht => ?_) fun C' hC' ht' i j hi hj => ?_
  · rcases List.mem_append.mp ht with ht | ht
    · exact Nat.dvd_trans (close_tied t ht) (Nat.dvd_lcm_left _ _)
    · rw [List.mem_singleton] at ht
      subst ht
      refine Nat.dvd_trans ?_ (Nat.dvd_trans (Nat.dvd_lcm_left _ _) (Nat.dvd_lcm_right _ _))
      rw [close_clo.dg a ha, close_clo.dg b hb, Nat.gcd_zero_left, Nat.gcd_zero_right]
      exact Nat.dvd_refl _
  · have hle := close_le hn1 hC' (fun t ht => ht' t (List.mem_append.mpr (.inl ht)))
    have hr : r ∣ C' a b := ht' _ (List.mem_append.mpr (.inr (List.mem_singleton.mpr rfl)))
    refine Nat.lcm_dvd (hle i j hi hj) (Nat.lcm_dvd ?_ ?_)
    · exact Nat.dvd_trans (gcd_mono (Nat.dvd_trans (gcd_mono (hle i a hi ha) hr) (hC'.tr i a b hi ha hb)) (hle b j hb hj)) (hC'.tr i b j hi hb hj)
    · rw [hC'.sy a b ha hb] at hr
      exact Nat.dvd_trans (gcd_mono (Nat.dvd_trans (gcd_mono (hle i b hi hb) hr) (hC'.tr i b a hi hb ha)) (hle a j ha hj)) (hC'.tr i a j hi ha hj)
/-- what is borne changes nothing -/
theorem grown_same {n a b r : Nat} {C : Nat → Nat → Nat} (h : Clo n C) (ha : a < n) (hb : b < n) (hr : r ∣ C a b) : ∀ i j, i < n → j < n → grownM C a b r i j = C i j := fun i j hi hj => by
  refine Nat.dvd_antisymm (Nat.lcm_dvd (Nat.dvd_refl _) (Nat.lcm_dvd ?_ ?_)) (Nat.dvd_lcm_left _ _)
  · exact Nat.dvd_trans (gcd_mono (Nat.dvd_trans (gcd_mono (Nat.dvd_refl _) hr) (h.tr i a b hi ha hb)) (Nat.dvd_refl _)) (h.tr i b j hi hb hj)
  · rw [h.sy a b ha hb] at hr
    exact Nat.dvd_trans (gcd_mono (Nat.dvd_trans (gcd_mono (Nat.dvd_refl _) hr) (h.tr i b a hi hb ha)) (Nat.dvd_refl _)) (h.tr i a j hi ha hj)
theorem close_mono {n : Nat} {ts us : List (Nat × Nat × Nat)} (hn : InN n ts) (h : ∀ t ∈ ts, t ∈ us) : ∀ i j, i < n → j < n → closeM n ts i j ∣ closeM n us i j := close_le hn close_clo fun t ht => close_tied t (h t ht)
end DL

set_option Elab.async false
set_option linter.all false
set_option maxRecDepth 100000
set_option maxHeartbeats 2000000
namespace DL
open PySem PySem.Spec PyProof.Rows L2
section
variable {X : Cz} {Γ : Gm} {μ : Mu} {elt tg iter tg1 iter1 : Expr} {scope : Scope} {own : List (Str × Nat)} {pos : Pos} {vs vs1 : List Nat} {Q : Mu → D → Prop}
def Lc2 (X : Cz) (elt tg tg1 iter1 : Expr) (scope : Scope) (vs vs1 : List Nat) (Γ : Gm) (μ1 : Mu) (ds : List D) (G : Mu → Prop) (P : List D → Mu → Prop) : Prop :=
  ∃ J : Nat → List D → Mu → Prop, J 0 [] μ1 ∧ (∀ i acc μ', i ≤ ds.length → J i acc μ' → G μ') ∧
    (∀ i d acc μ', ds[i]? = some d → J i acc μ' → ∃ Γ2, NoneAt Γ2 vs1 ∧ (∀ X', Blk X scope X' → WG X' tg vs d Γ μ' fun Γ3 μ3 => Γ3 = Γ2 ∧ μ3 = μ') ∧
      ∀ X', Blk X scope X' → WI X' tg1 iter1 Γ2 μ' fun μ2 es G1 =>
        ∃ K : Nat → List D → Mu → Prop, K 0 acc μ2 ∧ (∀ j acc μ', j ≤ es.length → K j acc μ' → G1 μ') ∧
          (∀ j e acc μ', es[j]? = some e → K j acc μ' → ∃ Γ4, (∀ X', Blk X scope X' → WG X' tg1 vs1 e Γ2 μ' fun Γ3 μ3 => Γ3 = Γ4 ∧ μ3 = μ') ∧
            ∀ X', Blk X scope X' → WE X' elt Γ4 μ' fun μ4 y => acc.length < sizeLine ∧ K (j + 1) (acc ++ [y]) μ4) ∧
          (∀ acc μ', K es.length acc μ' → J (i + 1) acc μ')) ∧
    (∀ acc μ', J ds.length acc μ' → P acc μ')
theorem pib_S {scope : Scope} : ∀ (s : Shared) (H : Hp) (C : Addr) (cl : List (Str × Addr)) (fp : List Addr), PI (X.toCx.blk s H scope (compEnvC scope cl C X.env) fp) tg iter (fun σ H R => ∀ s H0 C cl fp, SI (X.toCx.blk s H0 scope (compEnvC scope cl C X.env) fp) tg iter σ H R) :=
  fun s H C cl fp => ⟨fun _ _ _ _ _ I h => h s H C cl fp _ _ I⟩
theorem sts_nil {X : Cx} {σ : L2.St} {H : Hp} {Q : Bool → Hp → Prop} (q : Q true H) : STs X [] σ H Q := fun pins s I => pts_nil.run pins s σ H _ I q
theorem lc2_read (hn : NoneAt Γ (own.map (·.2))) (hv : ∀ i ∈ vs, i ∈ own.map (·.2)) {σ : L2.St} {Z : Addr → Prop} {H : Hp} {Qv : VK} (en : En X.K (Av μ Z) H σ Γ) (ok : Ok X.K μ Z H) (tk : Tk X Z μ H) {P : List D → Mu → Prop}
    (fin : ∀ D μ1 H1 μ' H' acc ws, H1 D = none → Go X.K Z μ H μ1 H1 → Ok X.K μ' (orZ Z D) H' → Fz (Av μ1 Z) H1 (Av μ' (orZ Z D)) H' → (∀ a, Z a → H' a = H1 a) → H' D = some (.lst ws) → IsA X.K (Av μ' (orZ Z D)) H' ws acc → P acc μ' → Qv (.ref D) H')
    (h : WI X tg iter Γ μ fun μ1 ds G => Lc2 X elt tg tg1 iter1 scope vs vs1 Γ μ1 ds G P) :
    tLc2 (SI X tg iter) (fun v σ H Q => ∀ s H0 C cl fp, SG (X.toCx.blk s H0 scope (compEnvC scope cl C X.env) fp) tg v σ H Q) (fun σ H Q => ∀ s H0 C cl fp, STs (X.toCx.blk s H0 scope (compEnvC scope cl C X.env) fp) [] σ H Q)
      (fun σ H R => ∀ s H0 C cl fp, SI (X.toCx.blk s H0 scope (compEnvC scope cl C X.env) fp) tg1 iter1 σ H R) (fun v σ H Q => ∀ s H0 C cl fp, SG (X.toCx.blk s H0 scope (compEnvC scope cl C X.env) fp) tg1 v σ H Q) (fun σ H Q => ∀ s H0 C cl fp, STs (X.toCx.blk s H0 scope (compEnvC scope cl C X.env) fp) [] σ H Q)
      (fun σ H Q => ∀ s H0 C cl fp, SE (X.toCx.blk s H0 scope (compEnvC scope cl C X.env) fp) elt σ H Q) (own.map (·.2)) vs1 σ H Qv := by
  refine SI.mono (h Z σ H en ok tk) fun J H1 q1 => ?_
  obtain ⟨μ1, ds, G, g1, Y, Jn, j0, jG, jb, jd⟩ := q1
  intro D hD
  obtain ⟨_, nz⟩ := g1.ok.fresh hD
  obtain ⟨ok0, fz0⟩ := g1.ok.hide hD (.lst [])
  refine ⟨fun i m H' => m = ds.length - i ∧ i ≤ ds.length ∧ ∃ acc ws μ', Ok X.K μ' (orZ Z D) H' ∧ Fz (Av μ1 Z) H1 (Av μ' (orZ Z D)) H' ∧ (∀ a, Z a → H' a = H1 a) ∧ H' D = some (.lst ws) ∧ IsA X.K (Av μ' (orZ Z D)) H' ws acc ∧ Jn i acc μ',
    ⟨ds.length, rfl, Nat.zero_le _, [], [], μ1, ok0, fz0, fun a z => upd_ne fun e => nz (by rw [← e]; exact z), upd_same, .nil, j0⟩, ?_⟩
  rintro i m H' ⟨rfl, hi, acc, ws, μ', ok', fz', zk', hDl, t', hj⟩
  obtain ⟨y1, y2⟩ := Y (orZ Z D) i μ' H' ok' fz' (jG i acc μ' hi hj)
  by_cases hlt : i < ds.length
  · refine .inr ⟨(y1 hlt).1, fun H2 => ∃ acc ws μ', Ok X.K μ' (orZ Z D) H2 ∧ Fz (Av μ1 Z) H1 (Av μ' (orZ Z D)) H2 ∧ (∀ a, Z a → H2 a = H1 a) ∧ H2 D = some (.lst ws) ∧ IsA X.K (Av μ' (orZ Z D)) H2 ws acc ∧ Jn (i + 1) acc μ', fun H2 q => ⟨ds.length - (i + 1), by omega, rfl, hlt, q⟩, fun x H2 hy => ?_⟩
    obtain ⟨d, hd1, g2, is⟩ := (y1 hlt).2 x H2 hy
    obtain ⟨Γ2, hn1, hg, hw⟩ := jb i d acc μ' hd1 hj
    have enw : En X.K (Av μ' (orZ Z D)) H2 (L2.wipe σ (own.map (·.2))) Γ := ((en.mono g1.fz).mono (fz'.trans g2.fz)).wipe hn
    intro s0 H0 C0 cl0 fp0
    refine ((hg _ ⟨s0, H0, C0, cl0, fp0, rfl⟩) (orZ Z D) _ H2 x enw g2.ok (Tk.never fun _ _ _ z => z) is).mono fun σ3 H3 ⟨⟨Γ3, μ3, g3, en3, e3, e4⟩, w3⟩ => ?_
    subst e3 e4
    refine ⟨(w3 _ hv).trans wipe_wipe, ?_⟩
    intro s0 H0 C0 cl0 fp0
    refine sts_nil ?_
    rw [if_pos rfl]
    intro s1 H01 C1 cl1 fp1
    refine SI.mono ((hw _ ⟨s1, H01, C1, cl1, fp1, rfl⟩) (orZ Z D) σ3 H3 en3 g3.ok (Tk.never fun _ _ _ z => z)) fun J1 H5 q5 => ?_
    obtain ⟨μ5, es, G1, g5, Y1, Kn, k0, kG, kb, kd⟩ := q5
    have g25 := (g2.trans g3).trans g5
    refine ⟨fun j k H' => k = es.length - j ∧ j ≤ es.length ∧ ∃ acc ws μ', Ok X.K μ' (orZ Z D) H' ∧ Fz (Av μ5 (orZ Z D)) H5 (Av μ' (orZ Z D)) H' ∧ (∀ a, Z a → H' a = H1 a) ∧ H' D = some (.lst ws) ∧ IsA X.K (Av μ' (orZ Z D)) H' ws acc ∧ Kn j acc μ',
      ⟨es.length, rfl, Nat.zero_le _, acc, ws, μ5, g5.ok, Fz.drop fun _ z => z, fun a z => (g25.zk a (.inl z)).trans (zk' a z), (g25.zk D (.inr rfl)).trans hDl, t'.mono g25.fz, k0⟩, ?_⟩
    rintro j k H6 ⟨rfl, hj1, acc6, ws6, μ6, ok6, fz6, zk6, hD6, t6, hk6⟩
    obtain ⟨y3, y4⟩ := Y1 (orZ Z D) j μ6 H6 ok6 fz6 (kG j acc6 μ6 hj1 hk6)
    have fz16 : Fz (Av μ1 Z) H1 (Av μ6 (orZ Z D)) H6 := (fz'.trans g25.fz).trans fz6
    by_cases hlt1 : j < es.length
    · refine .inr ⟨(y3 hlt1).1, fun H2 => ∃ acc ws μ', Ok X.K μ' (orZ Z D) H2 ∧ Fz (Av μ5 (orZ Z D)) H5 (Av μ' (orZ Z D)) H2 ∧ (∀ a, Z a → H2 a = H1 a) ∧ H2 D = some (.lst ws) ∧ IsA X.K (Av μ' (orZ Z D)) H2 ws acc ∧ Kn (j + 1) acc μ', fun H2 q => ⟨es.length - (j + 1), by omega, rfl, hlt1, q⟩, fun x H7 hy => ?_⟩
      obtain ⟨d7, hd7, g7, is7⟩ := (y3 hlt1).2 x H7 hy
      obtain ⟨Γ4, hg4, he4⟩ := kb j d7 acc6 μ6 hd7 hk6
      have enw : En X.K (Av μ6 (orZ Z D)) H7 (L2.wipe σ3 vs1) Γ3 := ((en3.mono g5.fz).mono (fz6.trans g7.fz)).wipe hn1
      intro s0 H0 C0 cl0 fp0
      refine ((hg4 _ ⟨s0, H0, C0, cl0, fp0, rfl⟩) (orZ Z D) _ H7 x enw g7.ok (Tk.never fun _ _ _ z => z) is7).mono fun σ8 H8 ⟨⟨Γ5, μ8, g8, en8, e3, e4⟩, w8⟩ => ?_
      subst e3 e4
      refine ⟨(w8 _ fun _ h => h).trans wipe_wipe, ?_⟩
      intro s0 H0 C0 cl0 fp0
      refine sts_nil ?_
      rw [if_pos rfl]
      intro s0 H0 C0 cl0 fp0
      refine ((he4 _ ⟨s0, H0, C0, cl0, fp0, rfl⟩) (orZ Z D) σ8 H8 en8 g8.ok (Tk.never fun _ _ _ z => z)).mono fun y H9 ⟨μ9, d9, g9, i9, hl, q9⟩ => ?_
      have g79 := (g7.trans g8).trans g9
      have hD9 : H9 D = some (.lst ws6) := (g79.zk D (.inr rfl)).trans hD6
      have t9 := t6.mono g79.fz
      obtain ⟨okA, fzA⟩ := g9.ok.write nz (.lst (ws6 ++ [y]))
      refine ⟨ws6, hD9, by rw [t9.length]; exact hl, acc6 ++ [d9], ws6 ++ [y], μ9, okA, (fz6.trans g79.fz).trans fzA, fun a z => ?_, upd_same, (t9.append (.cons i9 .nil)).mono fzA, q9⟩
      rw [upd_ne (fun e => nz (by rw [← e]; exact z))]
      exact (g79.zk a (.inl z)).trans (zk6 a z)
    · have e : j = es.length := by omega
      subst e
      exact .inl ⟨y4 (Nat.le_refl _), acc6, ws6, μ6, ok6, fz16, zk6, hD6, t6, kd acc6 μ6 hk6⟩
  · have e : i = ds.length := by omega
    subst e
    exact .inl ⟨y2 (Nat.le_refl _), fin D μ1 H1 μ' H' acc ws hD g1 ok' fz' zk' hDl t' (jd acc μ' hj)⟩
theorem we_lc2 (hc : X.calm = true) (hN : X.N.Nodup) (ok : BlkOk X.N X.env.scope scope own) (hn : NoneAt Γ (own.map (·.2))) (hv : ∀ i ∈ vs, i ∈ own.map (·.2)) (hv1 : ∀ i ∈ vs1, i ∈ own.map (·.2))
    (h : WI X tg iter Γ μ fun μ1 ds G => Lc2 X elt tg tg1 iter1 scope vs vs1 Γ μ1 ds G fun acc μ' => Q μ' (.lst acc)) (hs : ∀ x, foldedSetIterable iter X.env x = pure x := by intro _; rfl) (hs1 : ∀ (env : Env) x, foldedSetIterable iter1 env x = pure x := by intro _ _; rfl) : WE X (.ListComp elt [⟨tg, iter, [], 0⟩, ⟨tg1, iter1, [], 0⟩] scope pos) Γ μ Q := fun Z σ H en okm tk => by
  refine toS (pe_lc2 hc hN pi_S ok hv1 pgb_S pts_S pib_S pgb_S pts_S peb_S hs hs1) ?_
  refine lc2_read hn hv en okm tk (fun D μ1 H1 μ' H' acc ws hD g1 ok' fz' zk' hl t' q => ?_) h
  obtain ⟨a1, a2⟩ := lc_fix hD g1 ok' fz' zk' hl t'
  exact ⟨μ', _, a1, a2, q⟩
theorem ws_setLc2 {k : Kt} {x : Str} {i : Nat} {px spos : Pos} (hc : X.calm = true) (n : Nw X x i) (hl : X.env.scope.names.lookup x = some .local) (hsw : swapsWith (.ListComp elt [⟨tg, iter, [], 0⟩, ⟨tg1, iter1, [], 0⟩] scope pos) (some (.Name x px)) spos.line X.env = pure true)
    (ok : BlkOk X.N X.env.scope scope own) (hn : NoneAt Γ (own.map (·.2))) (hv : ∀ i ∈ vs, i ∈ own.map (·.2)) (hv1 : ∀ i ∈ vs1, i ∈ own.map (·.2))
    (h : WI X tg iter Γ μ fun μ1 ds G => Lc2 X elt tg tg1 iter1 scope vs vs1 Γ μ1 ds G fun acc μ' => SetQ Γ i (.lst acc) fun Γ' => k.nx Γ' μ') (hs : ∀ x, foldedSetIterable iter X.env x = pure x := by intro _; rfl) (hs1 : ∀ (env : Env) x, foldedSetIterable iter1 env x = pure x := by intro _ _; rfl) : WS X (.Assign [.Name x px] (.ListComp elt [⟨tg, iter, [], 0⟩, ⟨tg1, iter1, [], 0⟩] scope pos) spos) Γ μ k := fun Z σ H en okm tk => by
  refine toSS (ps_setLc2 hc n.nd n.ix hl hsw pi_S ok hv1 pgb_S pts_S pib_S pgb_S pts_S peb_S hs hs1) ?_
  refine lc2_read hn hv en okm tk (fun D μ1 H1 μ' H' acc ws hD g1 ok' fz' zk' hl t' q => ?_) h
  obtain ⟨a1, a2⟩ := lc_fix hD g1 ok' fz' zk' hl t'
  obtain ⟨Γ', s, q⟩ := q
  exact ⟨Γ', μ', a1, by rw [s.eq]; exact (en.mono a1.fz).set i a2, q⟩
end
section
variable {X : Cz} {P : Program} {w : World} {K : PySem.W.Frag} {mg : Str → Option Value} {base : Heap} {k : Nat} {N : List Str} {sc : Scope} {Γ : Gm} {μ : Mu} {elt tg iter tg1 iter1 : Expr} {scope : Scope} {pos : Pos} {vs vs1 : List Nat}
theorem ctx_lc2 {Q : Mu → D → Prop} (h : Ctx X P w K mg base k N sc) (own : List (Str × Nat)) (q : WI X tg iter Γ μ fun μ1 ds G => Lc2 X elt tg tg1 iter1 scope vs vs1 Γ μ1 ds G fun acc μ' => Q μ' (.lst acc))
    (bc : blkC N sc scope own = true := by decide +kernel) (hn : NoneAt Γ (own.map (·.2)) := by repeat (first | exact trivial | refine ⟨rfl, ?_⟩)) (hv : ∀ i ∈ vs, i ∈ own.map (·.2) := by decide) (hv1 : ∀ i ∈ vs1, i ∈ own.map (·.2) := by decide)
    (hs : ∀ x, foldedSetIterable iter X.env x = pure x := by intro _; rfl) (hs1 : ∀ (env : Env) x, foldedSetIterable iter1 env x = pure x := by intro _ _; rfl) : WE X (.ListComp elt [⟨tg, iter, [], 0⟩, ⟨tg1, iter1, [], 0⟩] scope pos) Γ μ Q := we_lc2 h.calm h.nd (h.blkOk bc) hn hv hv1 q hs hs1
theorem ctx_setLc2 {kt : Kt} {x : Str} {i : Nat} {px spos : Pos} (h : Ctx X P w K mg base k N sc) (own : List (Str × Nat)) (n : Nw X x i) (q : WI X tg iter Γ μ fun μ1 ds G => Lc2 X elt tg tg1 iter1 scope vs vs1 Γ μ1 ds G fun acc μ' => SetQ Γ i (.lst acc) fun Γ' => kt.nx Γ' μ')
    (bl : locB sc x = true := by decide +kernel) (bk : kindB sc = true := by decide +kernel) (ln : (px.line == pos.line) = true := by decide +kernel) (ha : (scope.names.any fun (n, k) => n == x && (k == .local || k == .cell)) = false := by decide +kernel)
    (bc : blkC N sc scope own = true := by decide +kernel) (hn : NoneAt Γ (own.map (·.2)) := by repeat (first | exact trivial | refine ⟨rfl, ?_⟩)) (hv : ∀ i ∈ vs, i ∈ own.map (·.2) := by decide) (hv1 : ∀ i ∈ vs1, i ∈ own.map (·.2) := by decide)
    (hs : ∀ x, foldedSetIterable iter X.env x = pure x := by intro _; rfl) (hs1 : ∀ (env : Env) x, foldedSetIterable iter1 env x = pure x := by intro _ _; rfl) : WS X (.Assign [.Name x px] (.ListComp elt [⟨tg, iter, [], 0⟩, ⟨tg1, iter1, [], 0⟩] scope pos) spos) Γ μ kt :=
  ws_setLc2 h.calm n (by rw [h.sc]; exact locB_ok bl) (sw_true (by rw [h.sc]; exact kindB_ok bk) (by rw [h.sc]; exact locB_ok bl) ln ha) (h.blkOk bc) hn hv hv1 q hs hs1
end
/-- two fors over data that stays, the elements reckoned without a change -/
theorem lc2_map {X : Cz} {Γ : Gm} {μ1 : Mu} {elt tg tg1 iter1 : Expr} {scope : Scope} {vs vs1 : List Nat} {G : Mu → Prop} {P : List D → Mu → Prop} {α β : Type} {xs : List α} {f : α → D} (ys : α → List β) (h : β → D) (T : α → Gm) (U : α → β → Gm) (g : α → β → D) (hG : G μ1) (hl : (xs.flatMap ys).length < sizeLine) (hN : ∀ x ∈ xs, NoneAt (T x) vs1)
    (ht : ∀ X', Blk X scope X' → ∀ x ∈ xs, WG X' tg vs (f x) Γ μ1 fun Γ3 μ3 => Γ3 = T x ∧ μ3 = μ1)
    (hi : ∀ X', Blk X scope X' → ∀ x ∈ xs, ∀ R : Mu → List D → (Mu → Prop) → Prop, (∀ G1 : Mu → Prop, G1 μ1 → R μ1 ((ys x).map h) G1) → WI X' tg1 iter1 (T x) μ1 R)
    (hu : ∀ X', Blk X scope X' → ∀ x ∈ xs, ∀ y ∈ ys x, WG X' tg1 vs1 (h y) (T x) μ1 fun Γ3 μ3 => Γ3 = U x y ∧ μ3 = μ1)
    (he : ∀ X', Blk X scope X' → ∀ x ∈ xs, ∀ y ∈ ys x, WE X' elt (U x y) μ1 fun μ4 z => μ4 = μ1 ∧ z = g x y)
    (hP : P (xs.flatMap fun x => (ys x).map (g x)) μ1) : Lc2 X elt tg tg1 iter1 scope vs vs1 Γ μ1 (xs.map f) G P := by
  have len : ∀ pre : List α, (pre.flatMap fun x => (ys x).map (g x)).length = (pre.flatMap ys).length := fun pre => by
    rw [List.length_flatMap, List.length_flatMap]
    congr 1
    exact List.map_congr_left fun x _ => List.length_map ..
  have take1 : ∀ {γ : Type} {l : List γ} {i : Nat} {x : γ}, l[i]? = some x → l.take (i + 1) = l.take i ++ [x] := fun h => by rw [List.take_add_one, h]; rfl
  refine ⟨fun i acc μ' => μ1 = μ' ∧ acc = (xs.take i).flatMap fun x => (ys x).map (g x), ⟨rfl, rfl⟩, fun i acc μ' _ ⟨h, _⟩ => by rw [← h]; exact hG, fun i d acc μ' hd ⟨e1, e2⟩ => ?_, fun acc μ' ⟨e1, e2⟩ => ?_⟩
  · subst e1 e2
    rw [List.getElem?_map] at hd
    obtain ⟨x, hx, rfl⟩ := Option.map_eq_some_iff.mp hd
    have hm : x ∈ xs := List.mem_of_getElem? hx
    refine ⟨T x, hN x hm, fun X' bl => ht X' bl x hm, fun X' bl => hi X' bl x hm _ fun G1 hG1 => ?_⟩
    refine ⟨fun j acc μ' => μ1 = μ1 ∧ μ1 = μ' ∧ acc = ((xs.take i).flatMap fun x => (ys x).map (g x)) ++ ((ys x).take j).map (g x), ⟨rfl, rfl, by simp⟩, fun j acc μ' _ ⟨_, h, _⟩ => by rw [← h]; exact hG1, fun j d acc μ' hd ⟨_, e1, e2⟩ => ?_, fun acc μ' ⟨_, e1, e2⟩ => ?_⟩
    · subst e1 e2
      rw [List.getElem?_map] at hd
      obtain ⟨y, hy, rfl⟩ := Option.map_eq_some_iff.mp hd
      have hmy : y ∈ ys x := List.mem_of_getElem? hy
      refine ⟨U x y, fun X' bl => hu X' bl x hm y hmy, fun X' bl => (he X' bl x hm y hmy).mono fun μ4 z ⟨z1, z2⟩ => ⟨?_, rfl, z1.symm, ?_⟩⟩
      · have hlt : ((xs.take i).flatMap ys).length + ((ys x).take j).length ≤ (xs.flatMap ys).length := by
          have e3 : xs = xs.take i ++ x :: xs.drop (i + 1) := by
            have e2 : xs[i]'(List.getElem?_eq_some_iff.mp hx).1 = x := (List.getElem?_eq_some_iff.mp hx).2
            rw [← e2, ← List.drop_eq_getElem_cons, List.take_append_drop]
          have e4 : (xs.flatMap ys).length = ((xs.take i).flatMap ys).length + ((ys x).length + ((xs.drop (i + 1)).flatMap ys).length) := by
            conv => lhs; rw [e3]
            rw [List.flatMap_append, List.flatMap_cons, List.length_append, List.length_append]
          rw [e4, List.length_take]
          omega
        rw [List.length_append, len, List.length_map]
        exact Nat.lt_of_le_of_lt hlt hl
      · rw [take1 hy, List.map_append, z2, ← List.append_assoc]
        rfl
    · rw [List.length_map, List.take_length] at e2
      refine ⟨e1, ?_⟩
      rw [take1 hx, List.flatMap_append, e2]
      simp
  · rw [List.length_map, List.take_length] at e2
    rw [← e1, e2]
    exact hP
end DL

set_option Elab.async false
set_option linter.all false
set_option maxRecDepth 100000
set_option maxHeartbeats 1000000
namespace DL
open PySem PySem.Spec PyProof.Rows L2
def arcF (l : List Nat) : Nat := l.foldl Nat.gcd 0
theorem arc_from : ∀ {l : List Nat} {a : Nat}, l.foldl Nat.gcd a = Nat.gcd a (arcF l)
  | [], a => by show a = Nat.gcd a 0; rw [Nat.gcd_zero_right]
  | x :: l, a => by
    show l.foldl Nat.gcd (Nat.gcd a x) = Nat.gcd a (l.foldl Nat.gcd (Nat.gcd 0 x))
    rw [arc_from, arc_from (a := Nat.gcd 0 x), Nat.gcd_zero_left, Nat.gcd_assoc]
theorem arc_app {l m : List Nat} : arcF (l ++ m) = Nat.gcd (arcF l) (arcF m) := by
  unfold arcF
  rw [List.foldl_append, arc_from]
  rfl
theorem arc_one {x : Nat} : arcF [x] = x := Nat.gcd_zero_left x
/-- gcd of the rests from i to j less 1 -/
def arcA (ρ : List Nat) (i j : Nat) : Nat := arcF ((ρ.take j).drop i)
theorem arc_nil {ρ : List Nat} {i : Nat} : arcA ρ i i = 0 := by
  unfold arcA
  rw [List.drop_of_length_le (by rw [List.length_take]; omega)]
  rfl
theorem arc_split {ρ : List Nat} {i b j : Nat} (h1 : i ≤ b) (h2 : b ≤ j) (h3 : b ≤ ρ.length) : arcA ρ i j = Nat.gcd (arcA ρ i b) (arcA ρ b j) := by
  unfold arcA
  rw [← arc_app]
  congr 1
  have e : ρ.take j = ρ.take b ++ (ρ.take j).drop b := by
    have : ρ.take b = (ρ.take j).take b := by rw [List.take_take, Nat.min_eq_left h2]
    rw [this, List.take_append_drop]
  conv => lhs; rw [e]
  rw [List.drop_append_of_le_length (by rw [List.length_take]; omega)]
theorem arc_step {ρ : List Nat} {i : Nat} (h : i < ρ.length) : arcA ρ i (i + 1) = ρ.getD i 0 := by
  unfold arcA
  have e : ρ.take (i + 1) = ρ.take i ++ [ρ[i]] := by rw [List.take_add_one, List.getElem?_eq_getElem h]; rfl
  rw [e, List.drop_append_of_le_length (by rw [List.length_take]; omega), List.drop_of_length_le (by rw [List.length_take]; omega), List.nil_append, arc_one, List.getD_eq_getElem?_getD, List.getElem?_eq_getElem h]
  rfl
theorem arc_end {ρ : List Nat} {i : Nat} : arcA ρ i ρ.length = arcF (ρ.drop i) := by unfold arcA; rw [List.take_length]
theorem arc_start {ρ : List Nat} {i : Nat} : arcA ρ 0 i = arcF (ρ.take i) := by unfold arcA; rw [List.drop_zero]
/-- the bond of two points of a ring, the lower one first -/
def ringF (ρ : List Nat) (lo hi : Nat) : Nat := Nat.lcm (arcA ρ lo hi) (Nat.gcd (arcA ρ hi ρ.length) (arcA ρ 0 lo))
def ringR (ρ : List Nat) (i j : Nat) : Nat := ringF ρ (min i j) (max i j)
theorem ring3 {x y z : Nat} : Nat.gcd (Nat.lcm x (Nat.gcd y z)) (Nat.lcm y (Nat.gcd x z)) ∣ Nat.lcm (Nat.gcd x y) z := by
  have hz : z ∣ Nat.lcm (Nat.gcd x y) z := Nat.dvd_lcm_right _ _
  refine meet4 (Nat.dvd_lcm_left _ _) (Nat.dvd_trans ?_ hz) (Nat.dvd_trans ?_ hz) (Nat.dvd_trans ?_ hz)
  · exact Nat.dvd_trans (Nat.gcd_dvd_right _ _) (Nat.gcd_dvd_right _ _)
  · exact Nat.dvd_trans (Nat.gcd_dvd_left _ _) (Nat.gcd_dvd_right _ _)
  · exact Nat.dvd_trans (Nat.gcd_dvd_left _ _) (Nat.gcd_dvd_right _ _)
theorem ring_three {ρ : List Nat} {a b c : Nat} (h1 : a ≤ b) (h2 : b ≤ c) (h3 : c ≤ ρ.length) : ∃ x y z, ringF ρ a b = Nat.lcm x (Nat.gcd y z) ∧ ringF ρ b c = Nat.lcm y (Nat.gcd x z) ∧ ringF ρ a c = Nat.lcm (Nat.gcd x y) z := by
  refine ⟨arcA ρ a b, arcA ρ b c, Nat.gcd (arcA ρ c ρ.length) (arcA ρ 0 a), ?_, ?_, ?_⟩
  · unfold ringF
    rw [arc_split h2 h3 h3, Nat.gcd_assoc]
  · unfold ringF
    rw [arc_split (Nat.zero_le _) h1 (by omega), ← Nat.gcd_assoc, Nat.gcd_comm _ (arcA ρ a b)]
  · unfold ringF
    rw [arc_split h1 h2 (by omega)]
theorem ring_sy {ρ : List Nat} {i j : Nat} : ringR ρ i j = ringR ρ j i := by unfold ringR; rw [Nat.min_comm, Nat.max_comm]
theorem ring_dg {ρ : List Nat} {i : Nat} : ringR ρ i i = 0 := by unfold ringR ringF; rw [Nat.min_self, Nat.max_self, arc_nil, Nat.lcm_zero_left]
theorem ring_le {ρ : List Nat} {i j : Nat} (h : i ≤ j) : ringR ρ i j = ringF ρ i j := by unfold ringR; rw [Nat.min_eq_left h, Nat.max_eq_right h]
theorem ring_ge {ρ : List Nat} {i j : Nat} (h : j ≤ i) : ringR ρ i j = ringF ρ j i := by unfold ringR; rw [Nat.min_eq_right h, Nat.max_eq_left h]
theorem ring_tr {ρ : List Nat} {i b j : Nat} (hi : i ≤ ρ.length) (hb : b ≤ ρ.length) (hj : j ≤ ρ.length) : Nat.gcd (ringR ρ i b) (ringR ρ b j) ∣ ringR ρ i j := by
  have r3 : ∀ {x y z : Nat}, Nat.gcd (Nat.lcm x (Nat.gcd y z)) (Nat.lcm (Nat.gcd x y) z) ∣ Nat.lcm y (Nat.gcd x z) := fun {x y z} => by
    have := ring3 (x := x) (y := z) (z := y)
    rw [Nat.gcd_comm z y, Nat.lcm_comm z, Nat.lcm_comm (Nat.gcd x z)] at this
    exact this
  have r4 : ∀ {x y z : Nat}, Nat.gcd (Nat.lcm y (Nat.gcd x z)) (Nat.lcm (Nat.gcd x y) z) ∣ Nat.lcm x (Nat.gcd y z) := fun {x y z} => by
    have := r3 (x := y) (y := x) (z := z)
    rw [Nat.gcd_comm y x] at this
    exact this
  have key : ∀ a b c, a ≤ b → b ≤ c → c ≤ ρ.length → (Nat.gcd (ringF ρ a b) (ringF ρ b c) ∣ ringF ρ a c) ∧ (Nat.gcd (ringF ρ a b) (ringF ρ a c) ∣ ringF ρ b c) ∧ Nat.gcd (ringF ρ b c) (ringF ρ a c) ∣ ringF ρ a b := fun a b c h1 h2 h3 => by
    obtain ⟨x, y, z, e1, e2, e3⟩ := ring_three h1 h2 h3
    rw [e1, e2, e3]
    exact ⟨ring3, r3, r4⟩
  rcases Nat.le_total i b with h1 | h1 <;> rcases Nat.le_total b j with h2 | h2 <;> rcases Nat.le_total i j with h3 | h3
  · rw [ring_le h1, ring_le h2, ring_le h3]; exact (key i b j h1 h2 hj).1
  · have e1 : i = b := by omega
    have e2 : b = j := by omega
    subst e1 e2
    rw [ring_dg]; exact Nat.dvd_zero _
  · rw [ring_le h1, ring_ge h2, ring_le h3, Nat.gcd_comm]; exact (key i j b h3 h2 hb).2.2
  · rw [ring_le h1, ring_ge h2, ring_ge h3]; exact (key j i b h3 h1 hb).2.2
  · rw [ring_ge h1, ring_le h2, ring_le h3]; exact (key b i j h1 h3 hj).2.1
  · rw [ring_ge h1, ring_le h2, ring_ge h3]
    have := (key b j i h2 h3 hi).2.2
    have h4 := (key b j i h2 h3 hi).2.1
    rw [Nat.gcd_comm] at h4
    exact h4
  · have e1 : i = b := by omega
    have e2 : b = j := by omega
    subst e1 e2
    rw [ring_dg]; exact Nat.dvd_zero _
  · rw [ring_ge h1, ring_ge h2, ring_ge h3, Nat.gcd_comm]; exact (key j b i h2 h1 hi).1
/-- a lonely point beside -/
def lonR (ρ : List Nat) (i j : Nat) : Nat := if i = ρ.length ∨ j = ρ.length then (if i = j then 0 else 1) else ringR ρ i j
theorem lon_in {ρ : List Nat} {i j : Nat} (hi : i < ρ.length) (hj : j < ρ.length) : lonR ρ i j = ringR ρ i j := by unfold lonR; rw [if_neg (by omega)]
theorem lon_out {ρ : List Nat} {j : Nat} (hj : j < ρ.length) : lonR ρ ρ.length j = 1 := by unfold lonR; rw [if_pos (.inl rfl), if_neg (by omega)]
theorem lon_out2 {ρ : List Nat} {j : Nat} (hj : j < ρ.length) : lonR ρ j ρ.length = 1 := by unfold lonR; rw [if_pos (.inr rfl), if_neg (by omega)]
theorem lon_dg {ρ : List Nat} {i : Nat} : lonR ρ i i = 0 := by
  unfold lonR
  split
  · rw [if_pos rfl]
  · exact ring_dg
theorem lon_clo {ρ : List Nat} : Clo (ρ.length + 1) (lonR ρ) := by
  refine ⟨fun i _ => lon_dg, fun i j hi hj => ?_, fun i b j hi hb hj => ?_⟩
  · unfold lonR
    rw [ring_sy]
    by_cases h : i = ρ.length ∨ j = ρ.length
    · rw [if_pos h, if_pos h.symm]
      by_cases e : i = j
      · rw [if_pos e, if_pos e.symm]
      · rw [if_neg e, if_neg fun z => e z.symm]
    · rw [if_neg h, if_neg fun z => h z.symm]
  · by_cases e1 : i = b
    · subst e1; rw [lon_dg, Nat.gcd_zero_left]; exact Nat.dvd_refl _
    by_cases e2 : b = j
    · subst e2; rw [lon_dg, Nat.gcd_zero_right]; exact Nat.dvd_refl _
    by_cases h1 : i = ρ.length
    · subst h1; rw [lon_out (by omega), Nat.gcd_one_left]; exact Nat.one_dvd _
    by_cases h2 : j = ρ.length
    · subst h2; rw [lon_out2 (by omega), Nat.gcd_one_right]; exact Nat.one_dvd _
    by_cases h3 : b = ρ.length
    · subst h3; rw [lon_out (by omega), Nat.gcd_one_right]; exact Nat.one_dvd _
    rw [lon_in (by omega) (by omega), lon_in (by omega) (by omega), lon_in (by omega) (by omega)]
    exact ring_tr (by omega) (by omega) (by omega)
/-- names of the points: a list of all of them -/
structure NamesOk (ν : List Nat) : Prop where
  nd : ν.Nodup
  al : ∀ u, u < ν.length → u ∈ ν
  lt : ∀ u ∈ ν, u < ν.length
def nm (ν : List Nat) (k : Nat) : Nat := ν.getD k 0
theorem nm_at {ν : List Nat} {k : Nat} (h : k < ν.length) : nm ν k = ν[k] := by unfold nm; rw [List.getD_eq_getElem?_getD, List.getElem?_eq_getElem h]; rfl
theorem nm_lt {ν : List Nat} {k : Nat} (hν : NamesOk ν) (h : k < ν.length) : nm ν k < ν.length := by rw [nm_at h]; exact hν.lt _ (List.getElem_mem h)
theorem idx_nm {ν : List Nat} {k : Nat} (hν : NamesOk ν) (h : k < ν.length) : ν.idxOf (nm ν k) = k := by
  rw [nm_at h]
  exact hν.nd.idxOf_getElem k h
theorem idx_lt {ν : List Nat} {u : Nat} (hν : NamesOk ν) (h : u < ν.length) : ν.idxOf u < ν.length := List.idxOf_lt_length_of_mem (hν.al u h)
/-- the next place of a ring -/
def nxt (n k : Nat) : Nat := (k + 1) % n
structure RingOk (ν ρ : List Nat) (ts : List (Nat × Nat × Nat)) : Prop where
  ln : ν.length = ρ.length + 1
  n2 : 2 ≤ ρ.length
  nu : NamesOk ν
  ti : ∀ t ∈ ts, ∃ k, k < ρ.length ∧ t.2.2 ∣ ρ.getD k 0 ∧ ((t.1 = nm ν k ∧ t.2.1 = nm ν (nxt ρ.length k)) ∨ (t.1 = nm ν (nxt ρ.length k) ∧ t.2.1 = nm ν k))
  al : ∀ C, Clo ν.length C → Tied ts C → ∀ k, k < ρ.length → ρ.getD k 0 ∣ C (nm ν k) (nm ν (nxt ρ.length k))
theorem RingOk.inn {ν ρ : List Nat} {ts : List (Nat × Nat × Nat)} (h : RingOk ν ρ ts) : InN ν.length ts := fun t ht => by
  obtain ⟨k, hk, _, e⟩ := h.ti t ht
  have h1 : nm ν k < ν.length := nm_lt h.nu (by have := h.ln; omega)
  have h2 : nm ν (nxt ρ.length k) < ν.length := nm_lt h.nu (by have := h.ln; have : nxt ρ.length k < ρ.length := Nat.mod_lt _ (by omega); omega)
  rcases e with ⟨e1, e2⟩ | ⟨e1, e2⟩ <;> (rw [e1, e2]; exact ⟨by assumption, by assumption⟩)
theorem ring_next {ρ : List Nat} {k : Nat} (h2 : 2 ≤ ρ.length) (hk : k < ρ.length) : ρ.getD k 0 ∣ ringR ρ k (nxt ρ.length k) := by
  unfold nxt
  by_cases h : k + 1 < ρ.length
  · rw [Nat.mod_eq_of_lt h, ring_le (by omega)]
    unfold ringF
    rw [arc_step hk]
    exact Nat.dvd_lcm_left _ _
  · have e : k + 1 = ρ.length := by omega
    rw [e, Nat.mod_self, ring_ge (Nat.zero_le _)]
    unfold ringF
    rw [arc_nil, Nat.gcd_zero_right, ← e, arc_step hk]
    exact Nat.dvd_lcm_right _ _
/-- the web of a ring -/
theorem ring_web {ν ρ : List Nat} {ts : List (Nat × Nat × Nat)} (h : RingOk ν ρ ts) : ∀ i j, i < ν.length → j < ν.length → closeM ν.length ts (nm ν i) (nm ν j) = lonR ρ i j := by
  have hn := h.inn
  have hln := h.ln
  have hν := h.nu
  intro i j hi hj
  refine Nat.dvd_antisymm ?_ ?_
  · have hC : Clo ν.length fun u v => lonR ρ (ν.idxOf u) (ν.idxOf v) := by
      refine ⟨fun u _ => lon_dg, fun u v hu hv => ?_, fun u w v hu hw hv => ?_⟩
      · exact lon_clo.sy _ _ (by rw [← hln]; exact idx_lt hν hu) (by rw [← hln]; exact idx_lt hν hv)
      · exact lon_clo.tr _ _ _ (by rw [← hln]; exact idx_lt hν hu) (by rw [← hln]; exact idx_lt hν hw) (by rw [← hln]; exact idx_lt hν hv)
    have := close_le hn hC (fun t ht => ?_) (nm ν i) (nm ν j) (nm_lt hν hi) (nm_lt hν hj)
    · rw [idx_nm hν hi, idx_nm hν hj] at this
      exact this
    · obtain ⟨k, hk, hr, e⟩ := h.ti t ht
      have hx : nxt ρ.length k < ρ.length := Nat.mod_lt _ (by omega)
      have h3 := Nat.dvd_trans hr (ring_next h.n2 hk)
      rcases e with ⟨e1, e2⟩ | ⟨e1, e2⟩
      · show t.2.2 ∣ lonR ρ (ν.idxOf t.1) (ν.idxOf t.2.1)
        rw [e1, e2, idx_nm hν (by omega), idx_nm hν (by omega), lon_in hk hx]
        exact h3
      · show t.2.2 ∣ lonR ρ (ν.idxOf t.1) (ν.idxOf t.2.1)
        rw [e1, e2, idx_nm hν (by omega), idx_nm hν (by omega), lon_in hx hk, ring_sy]
        exact h3
  · have C := close_clo (n := ν.length) (ts := ts)
    have hst := h.al _ C close_tied
    have lt : ∀ {k}, k ≤ ρ.length → nm ν k < ν.length := fun hk => nm_lt hν (by omega)
    have arc : ∀ a c, a ≤ c → c < ρ.length → arcA ρ a c ∣ closeM ν.length ts (nm ν a) (nm ν c) := fun a c => by
      induction c with
      | zero =>
        intro h1 h2
        have : a = 0 := by omega
        subst this
        rw [C.dg _ (lt (by omega))]
        exact Nat.dvd_zero _
      | succ c ih =>
        intro h1 h2
        by_cases e : a = c + 1
        · subst e
          rw [C.dg _ (lt (by omega))]
          exact Nat.dvd_zero _
        · rw [arc_split (b := c) (by omega) (by omega) (by omega), arc_step (by omega)]
          have h5 := hst c (by omega)
          unfold nxt at h5
          rw [Nat.mod_eq_of_lt h2] at h5
          exact Nat.dvd_trans (gcd_mono (ih (by omega) (by omega)) h5) (C.tr _ _ _ (lt (by omega)) (lt (by omega)) (lt (by omega)))
    have back : ∀ c, c < ρ.length → arcA ρ c ρ.length ∣ closeM ν.length ts (nm ν c) (nm ν 0) := fun c hc => by
      have h5 := hst (ρ.length - 1) (by omega)
      unfold nxt at h5
      rw [show ρ.length - 1 + 1 = ρ.length by omega, Nat.mod_self] at h5
      rw [arc_split (b := ρ.length - 1) (by omega) (by omega) (by omega)]
      have h6 : arcA ρ (ρ.length - 1) ρ.length = ρ.getD (ρ.length - 1) 0 := by
        have := arc_step (ρ := ρ) (i := ρ.length - 1) (by omega)
        rwa [show ρ.length - 1 + 1 = ρ.length by omega] at this
      rw [h6]
      exact Nat.dvd_trans (gcd_mono (arc c (ρ.length - 1) (by omega) (by omega)) h5) (C.tr _ _ _ (lt (by omega)) (lt (by omega)) (lt (by omega)))
    have main : ∀ a c, a ≤ c → c < ρ.length → ringF ρ a c ∣ closeM ν.length ts (nm ν a) (nm ν c) := fun a c h1 h2 => by
      refine Nat.lcm_dvd (arc a c h1 h2) ?_
      rw [C.sy _ _ (lt (by omega)) (lt (by omega))]
      exact Nat.dvd_trans (gcd_mono (back c h2) (arc 0 a (Nat.zero_le _) (by omega))) (C.tr _ _ _ (lt (by omega)) (lt (by omega)) (lt (by omega)))
    unfold lonR
    split
    · split
      · rename_i e; subst e; rw [C.dg _ (lt (by omega))]; exact Nat.dvd_refl _
      · exact Nat.one_dvd _
    · rcases Nat.le_total i j with h1 | h1
      · rw [ring_le h1]; exact main i j h1 (by omega)
      · rw [ring_ge h1, C.sy _ _ (lt (by omega)) (lt (by omega))]; exact main j i h1 (by omega)
/-- a comprehension that changes what is held -/
theorem lc_inv {X : Cz} {Γ : Gm} {μ1 : Mu} {elt tg : Expr} {scope : Scope} {vs : List Nat} {G : Mu → Prop} {Pf : List D → Mu → Prop} {α : Type} {xs : List α} {f : α → D} (T : α → Gm) (I : List α → List D → Mu → Prop) (h0 : I [] [] μ1) (hG : ∀ pre acc μ', I pre acc μ' → G μ') (hl : xs.length < sizeLine) (hacc : ∀ pre acc μ', I pre acc μ' → acc.length = pre.length)
    (ht : ∀ X', Blk X scope X' → ∀ x ∈ xs, ∀ pre acc μ', I pre acc μ' → WG X' tg vs (f x) Γ μ' fun Γ3 μ3 => Γ3 = T x ∧ μ3 = μ')
    (he : ∀ X', Blk X scope X' → ∀ pre x post acc μ', xs = pre ++ x :: post → I pre acc μ' → WE X' elt (T x) μ' fun μ4 y => I (pre ++ [x]) (acc ++ [y]) μ4)
    (fin : ∀ acc μ', I xs acc μ' → Pf acc μ') : Lc X elt tg [] scope vs Γ μ1 (xs.map f) G Pf := by
  refine ⟨fun i acc μ' => I (xs.take i) acc μ', h0, fun i acc μ' _ h => hG _ _ _ h, fun i d acc μ' hd h => ?_, fun acc μ' h => ?_⟩
  · rw [List.getElem?_map] at hd
    obtain ⟨x, hx, rfl⟩ := Option.map_eq_some_iff.mp hd
    have hi : i < xs.length := (List.getElem?_eq_some_iff.mp hx).1
    have e1 : xs = xs.take i ++ x :: xs.drop (i + 1) := by
      have e2 : xs[i] = x := (List.getElem?_eq_some_iff.mp hx).2
      rw [← e2, ← List.drop_eq_getElem_cons hi, List.take_append_drop]
    have e3 : xs.take (i + 1) = xs.take i ++ [x] := by rw [List.take_add_one, hx]; rfl
    refine ⟨T x, fun X' bl => ht X' bl x (List.mem_of_getElem? hx) _ _ _ h, fun X' bl => wts_nil ?_⟩
    rw [if_pos rfl]
    intro X' bl
    have hlen := hacc _ _ _ h
    rw [List.length_take] at hlen
    refine (he X' bl _ _ _ _ _ e1 h).mono fun μ4 y h5 => ⟨by omega, ?_⟩
    show I (xs.take (i + 1)) _ _
    rw [e3]
    exact h5
  · rw [List.length_map, List.take_length] at h
    exact fin _ _ h
theorem nats_of {P : Nat → Prop} : ∀ {acc : List D}, (∀ d ∈ acc, ∃ r : Nat, d = .int (r : Int) ∧ P r) → ∃ l : List Nat, acc = l.map (fun r : Nat => D.int (r : Int)) ∧ ∀ r ∈ l, P r
  | [], _ => ⟨[], rfl, fun _ z => (by cases z)⟩
  | d :: acc, h => by
    obtain ⟨r, rfl, hr⟩ := h d List.mem_cons_self
    obtain ⟨l, rfl, hl⟩ := nats_of (acc := acc) fun x hx => h x (List.mem_cons_of_mem _ hx)
    refine ⟨r :: l, rfl, fun x hx => ?_⟩
    rcases List.mem_cons.mp hx with rfl | hx
    · exact hr
    · exact hl x hx
theorem ix_nat {l : List Nat} {k : Nat} {μ : Mu} {R : D → Prop} (hk : k < l.length) (r : R (.int ((l.getD k 0 : Nat) : Int))) : IxQ μ (.lst (l.map fun r : Nat => D.int (r : Int))) (.int (k : Int)) R :=
  ix_l (atI_n (by omega) (by rw [Int.toNat_natCast, List.getElem?_map, List.getElem?_eq_getElem hk]; rfl)) (by rw [List.getD_eq_getElem?_getD, List.getElem?_eq_getElem hk] at r; exact r)
theorem ix_natm {l : List Nat} {k : Nat} {μ : Mu} {p : Addr} {R : D → Prop} (m : μ p = some (.lst (l.map fun r : Nat => D.int (r : Int)))) (hk : k < l.length) (r : R (.int ((l.getD k 0 : Nat) : Int))) : IxQ μ (.ref p) (.int (k : Int)) R :=
  ix_m m (atI_n (by omega) (by rw [Int.toNat_natCast, List.getElem?_map, List.getElem?_eq_getElem hk]; rfl)) (by rw [List.getD_eq_getElem?_getD, List.getElem?_eq_getElem hk] at r; exact r)
/-- the ring's ties as they are drawn -/
def RingT (ν ρ : List Nat) (k : Nat) (t : Nat × Nat × Nat) : Prop := t.2.2 = ρ.getD k 0 ∧ ((t.1 = nm ν k ∧ t.2.1 = nm ν (nxt ρ.length k)) ∨ (t.1 = nm ν (nxt ρ.length k) ∧ t.2.1 = nm ν k))
theorem ringT_dv {ν ρ : List Nat} {k : Nat} {t : Nat × Nat × Nat} {C : Nat → Nat → Nat} (hC : Clo ν.length C) (h1 : nm ν k < ν.length) (h2 : nm ν (nxt ρ.length k) < ν.length) (h : RingT ν ρ k t) (ht : t.2.2 ∣ C t.1 t.2.1) : ρ.getD k 0 ∣ C (nm ν k) (nm ν (nxt ρ.length k)) := by
  obtain ⟨e, ⟨e1, e2⟩ | ⟨e1, e2⟩⟩ := h
  · rw [e, e1, e2] at ht; exact ht
  · rw [e, e1, e2, hC.sy _ _ h2 h1] at ht; exact ht
theorem ring_one {ν ρ : List Nat} {ts : List (Nat × Nat × Nat)} (ln : ν.length = ρ.length + 1) (n2 : 2 ≤ ρ.length) (nu : NamesOk ν) (h1 : ∀ t ∈ ts, ∃ k, k < ρ.length ∧ RingT ν ρ k t) (h2 : ∀ k, k < ρ.length → ∃ t ∈ ts, RingT ν ρ k t) : RingOk ν ρ ts := by
  have hlt : ∀ {k}, k < ρ.length → nm ν k < ν.length := fun hk => nm_lt nu (by omega)
  refine ⟨ln, n2, nu, fun t ht => ?_, fun C hC hT k hk => ?_⟩
  · obtain ⟨k, hk, e, h⟩ := h1 t ht
    exact ⟨k, hk, by rw [e]; exact Nat.dvd_refl _, h⟩
  · obtain ⟨t, ht, h⟩ := h2 k hk
    exact ringT_dv hC (hlt hk) (hlt (Nat.mod_lt _ (by omega))) h (hT t ht)
theorem getD_set {ρ : List Nat} {i k v : Nat} (hi : i < ρ.length) : (ρ.set i v).getD k 0 = if k = i then v else ρ.getD k 0 := by
  rw [List.getD_eq_getElem?_getD, List.getD_eq_getElem?_getD]
  by_cases h : k = i
  · subst h; rw [if_pos rfl, List.getElem?_set_self hi]; rfl
  · rw [if_neg h, List.getElem?_set_ne (fun z => h z.symm)]
theorem ring_two {ν ρ : List Nat} {ts : List (Nat × Nat × Nat)} {i m : Nat} (hi : i < ρ.length) (ln : ν.length = ρ.length + 1) (n2 : 2 ≤ ρ.length) (nu : NamesOk ν) (h1 : ∀ t ∈ ts, ∃ k, k < ρ.length ∧ RingT ν ρ k t) (h2 : ∀ k, k < ρ.length → ∃ t ∈ ts, RingT ν ρ k t) : RingOk ν (ρ.set i (Nat.lcm (ρ.getD i 0) m)) (ts ++ [(nm ν i, nm ν (nxt ρ.length i), m)]) := by
  have hlt : ∀ {k}, k < ρ.length → nm ν k < ν.length := fun hk => nm_lt nu (by omega)
  have hle : (ρ.set i (Nat.lcm (ρ.getD i 0) m)).length = ρ.length := List.length_set
  have hdv : ∀ k, ρ.getD k 0 ∣ (ρ.set i (Nat.lcm (ρ.getD i 0) m)).getD k 0 := fun k => by
    rw [getD_set hi]
    split
    · rename_i e; subst e; exact Nat.dvd_lcm_left _ _
    · exact Nat.dvd_refl _
  refine ⟨by rw [hle]; exact ln, by rw [hle]; exact n2, nu, fun t ht => ?_, fun C hC hT k hk => ?_⟩
  · rw [hle]
    rcases List.mem_append.mp ht with ht | ht
    · obtain ⟨k, hk, e, h⟩ := h1 t ht
      exact ⟨k, hk, by rw [e]; exact hdv k, h⟩
    · rw [List.mem_singleton] at ht
      subst ht
      exact ⟨i, hi, by rw [getD_set hi, if_pos rfl]; exact Nat.dvd_lcm_right _ _, .inl ⟨rfl, rfl⟩⟩
  · rw [hle] at hk ⊢
    have hold : ∀ k, k < ρ.length → ρ.getD k 0 ∣ C (nm ν k) (nm ν (nxt ρ.length k)) := fun k hk => by
      obtain ⟨t, ht, h⟩ := h2 k hk
      exact ringT_dv hC (hlt hk) (hlt (Nat.mod_lt _ (by omega))) h (hT t (List.mem_append.mpr (.inl ht)))
    rw [getD_set hi]
    split
    · rename_i e
      subst e
      exact Nat.lcm_dvd (hold k hk) (hT (nm ν k, nm ν (nxt ρ.length k), m) (List.mem_append.mpr (.inr (List.mem_singleton.mpr rfl))))
    · exact hold k hk
theorem arc_lt {B : Nat} : ∀ {l : List Nat}, 0 < B → (∀ x ∈ l, x < B) → arcF l < B
  | [], h, _ => h
  | x :: l, h, hx => by
    have e : arcF (x :: l) = Nat.gcd x (arcF l) := by
      show l.foldl Nat.gcd (Nat.gcd 0 x) = _
      rw [arc_from, Nat.gcd_zero_left]
    rw [e]
    have h1 := hx x List.mem_cons_self
    by_cases hz : x = 0
    · subst hz; rw [Nat.gcd_zero_left]; exact arc_lt h fun y hy => hx y (List.mem_cons_of_mem _ hy)
    · exact Nat.lt_of_le_of_lt (Nat.gcd_le_left _ (Nat.pos_of_ne_zero hz)) h1
/-- the lonely point tied to one of the ring -/
theorem ring_knit {ν ρ : List Nat} {ts : List (Nat × Nat × Nat)} {a : Nat} (h : RingOk ν ρ ts) (ha : a < ρ.length) : (∀ i j, i < ρ.length → j < ρ.length → closeM ν.length (ts ++ [(nm ν ρ.length, nm ν a, 0)]) (nm ν i) (nm ν j) = ringR ρ i j) ∧ (∀ j, j < ρ.length → closeM ν.length (ts ++ [(nm ν ρ.length, nm ν a, 0)]) (nm ν ρ.length) (nm ν j) = ringR ρ a j) := by
  have hln := h.ln
  have lt : ∀ {k}, k ≤ ρ.length → nm ν k < ν.length := fun hk => nm_lt h.nu (by omega)
  have hin : InN ν.length (ts ++ [(nm ν ρ.length, nm ν a, 0)]) := fun t ht => by
    rcases List.mem_append.mp ht with ht | ht
    · exact h.inn t ht
    · rw [List.mem_singleton] at ht; subst ht; exact ⟨lt (Nat.le_refl _), lt (by omega)⟩
  have hs := close_snoc hin
  have hw := ring_web h
  refine ⟨fun i j hi hj => ?_, fun j hj => ?_⟩
  · rw [hs _ _ (lt (by omega)) (lt (by omega))]
    unfold grownM
    rw [hw _ _ (by omega) (by omega), hw _ _ (by omega) (by omega), hw _ _ (by omega) (by omega), hw _ _ (by omega) (by omega), hw _ _ (by omega) (by omega), lon_out2 hi, lon_out hj, lon_in hi hj]
    rw [Nat.gcd_one_left, Nat.gcd_one_left, Nat.gcd_one_right, Nat.lcm_self, Nat.lcm_one_right]
  · rw [hs _ _ (lt (by omega)) (lt (by omega))]
    unfold grownM
    rw [hw _ _ (by omega) (by omega), hw _ _ (by omega) (by omega), hw _ _ (by omega) (by omega), hw _ _ (by omega) (by omega), lon_out hj, lon_dg, lon_in ha hj]
    rw [Nat.gcd_zero_left, Nat.gcd_zero_left, Nat.gcd_one_right, Nat.lcm_one_right, Nat.lcm_one_left]
end DL

set_option Elab.async false
set_option linter.all false
set_option maxRecDepth 100000
set_option maxHeartbeats 1000000
namespace DL
def Pr (p : Nat) : Prop := 2 ≤ p ∧ ∀ d, d ∣ p → d = 1 ∨ d = p
/-- a power of a prime -/
def PP (q : Nat) : Prop := ∃ p e, Pr p ∧ q = p ^ (e + 1)
theorem pr_of : ∀ (n : Nat), 2 ≤ n → ∃ p, Pr p ∧ p ∣ n := fun n => by
  induction n using Nat.strongRecOn with
  | _ n ih =>
    intro h
    by_cases hp : ∀ d, d ∣ n → d = 1 ∨ d = n
    · exact ⟨n, ⟨h, hp⟩, Nat.dvd_refl _⟩
    · have : ∃ d, d ∣ n ∧ d ≠ 1 ∧ d ≠ n := by
        refine Classical.byContradiction fun hc => hp fun d hd => ?_
        by_cases h1 : d = 1
        · exact .inl h1
        · by_cases h2 : d = n
          · exact .inr h2
          · exact absurd ⟨d, hd, h1, h2⟩ hc
      obtain ⟨d, hd, h1, h2⟩ := this
      have hle : d ≤ n := Nat.le_of_dvd (by omega) hd
      have h0 : d ≠ 0 := fun e => by rw [e] at hd; have := Nat.eq_zero_of_zero_dvd hd; omega
      obtain ⟨p, hp1, hp2⟩ := ih d (by omega) (by omega)
      exact ⟨p, hp1, Nat.dvd_trans hp2 hd⟩
theorem Pr.cop {p k : Nat} (h : Pr p) (hk : ¬ p ∣ k) : Nat.gcd p k = 1 := by
  rcases h.2 _ (Nat.gcd_dvd_left p k) with e | e
  · exact e
  · exact absurd (by rw [← e]; exact Nat.gcd_dvd_right p k) hk
theorem Pr.cop_pow {p k : Nat} (h : Pr p) (hk : ¬ p ∣ k) : ∀ e, Nat.gcd (p ^ e) k = 1
  | 0 => by rw [Nat.pow_zero, Nat.gcd_one_left]
  | e + 1 => by
    rw [Nat.pow_succ]
    have h1 : Nat.Coprime (p ^ e) k := h.cop_pow hk e
    have h2 : Nat.Coprime p k := h.cop hk
    exact Nat.Coprime.mul_left h1 h2
/-- what divides a power of a prime and is not the whole divides the next lower one -/
theorem Pr.down {p d e : Nat} (h : Pr p) (hd : d ∣ p ^ (e + 1)) (hn : d ≠ p ^ (e + 1)) : d ∣ p ^ e := by
  obtain ⟨k, hk⟩ := hd
  by_cases hp : p ∣ k
  · obtain ⟨m, rfl⟩ := hp
    refine ⟨m, ?_⟩
    have : p * p ^ e = p * (d * m) := by rw [Nat.mul_comm p (p ^ e), ← Nat.pow_succ, hk, ← Nat.mul_assoc, ← Nat.mul_assoc, Nat.mul_comm d p]
    exact Nat.eq_of_mul_eq_mul_left (by have := h.1; omega) this
  · have h1 := h.cop_pow hp (e + 1)
    have h2 : k ∣ p ^ (e + 1) := ⟨d, by rw [hk, Nat.mul_comm]⟩
    rw [Nat.gcd_comm, Nat.gcd_eq_left h2] at h1
    rw [h1, Nat.mul_one] at hk
    exact absurd hk.symm hn
theorem PP.pos {q : Nat} (h : PP q) : 0 < q := by
  obtain ⟨p, e, hp, rfl⟩ := h
  exact Nat.pow_pos (by have := hp.1; omega)
theorem PP.lcm {q a b : Nat} (h : PP q) (hd : q ∣ Nat.lcm a b) : q ∣ a ∨ q ∣ b := by
  by_cases ha : q ∣ a
  · exact .inl ha
  by_cases hb : q ∣ b
  · exact .inr hb
  exfalso
  obtain ⟨p, e, hp, rfl⟩ := h
  have h1 := dvd_two hd
  have down : ∀ x, ¬ p ^ (e + 1) ∣ x → Nat.gcd (p ^ (e + 1)) x ∣ p ^ e := fun x hx => hp.down (Nat.gcd_dvd_left _ _) fun z => hx (by rw [← z]; exact Nat.gcd_dvd_right _ _)
  have h2 := Nat.dvd_trans h1 (Nat.lcm_dvd (down a ha) (down b hb))
  have h3 := Nat.le_of_dvd (Nat.pow_pos (by have := hp.1; omega)) h2
  have h4 : p ^ e < p ^ (e + 1) := Nat.pow_lt_pow_right (by have := hp.1; omega) (Nat.lt_succ_self e)
  omega
/-- powers of primes tell who divides whom -/
theorem pp_dvd {a b : Nat} (ha : 0 < a) (h : ∀ q, PP q → q ∣ a → q ∣ b) : a ∣ b := by
  refine Classical.byContradiction fun hn => ?_
  obtain ⟨k, hk⟩ := Nat.gcd_dvd_left a b
  have hg : 0 < Nat.gcd a b := Nat.gcd_pos_of_pos_left _ ha
  have hk1 : k ≠ 1 := fun e => hn (by rw [e, Nat.mul_one] at hk; rw [hk]; exact Nat.gcd_dvd_right _ _)
  have hk0 : k ≠ 0 := fun e => by rw [e, Nat.mul_zero] at hk; omega
  obtain ⟨p, hp, m, hm⟩ := pr_of k (by omega)
  have key : ∀ f, p ^ f ∣ Nat.gcd a b := fun f => by
    induction f with
    | zero => rw [Nat.pow_zero]; exact Nat.one_dvd _
    | succ f ih =>
      have h1 : p ^ (f + 1) ∣ a := by
        rw [hk, hm, Nat.pow_succ, ← Nat.mul_assoc]
        exact Nat.dvd_trans (Nat.mul_dvd_mul ih (Nat.dvd_refl p)) (Nat.dvd_mul_right _ _)
      exact Nat.dvd_gcd h1 (h _ ⟨p, f, hp, rfl⟩ h1)
  have h1 := Nat.le_of_dvd hg (key (Nat.gcd a b))
  have h2 : Nat.gcd a b < p ^ Nat.gcd a b := Nat.lt_pow_self hp.1
  omega
theorem pp_two (p : Nat) (h : Pr p) : PP p := ⟨p, 0, h, by rw [Nat.pow_one]⟩
/-- lcm of some numbers -/
def lcmL (l : List Nat) : Nat := l.foldr Nat.lcm 1
theorem lcmL_dv : ∀ {l : List Nat} {x : Nat}, x ∈ l → x ∣ lcmL l
  | y :: l, x, h => by
    rcases List.mem_cons.mp h with rfl | h
    · exact Nat.dvd_lcm_left _ _
    · exact Nat.dvd_trans (lcmL_dv h) (Nat.dvd_lcm_right _ _)
theorem lcmL_le : ∀ {l : List Nat} {m : Nat}, (∀ x ∈ l, x ∣ m) → lcmL l ∣ m
  | [], _, _ => Nat.one_dvd _
  | y :: l, m, h => Nat.lcm_dvd (h y List.mem_cons_self) (lcmL_le fun x hx => h x (List.mem_cons_of_mem _ hx))
theorem lcmL_pp {q : Nat} (hq : PP q) : ∀ {l : List Nat}, q ∣ lcmL l → ∃ x ∈ l, q ∣ x
  | [], h => by
    have h1 : q ≤ 1 := Nat.le_of_dvd (by decide) h
    obtain ⟨p, e, hp, rfl⟩ := hq
    have h4 : 1 < p ^ (e + 1) := Nat.one_lt_pow (by omega) (by have := hp.1; omega)
    omega
  | y :: l, h => by
    rcases hq.lcm h with h | h
    · exact ⟨y, List.mem_cons_self, h⟩
    · obtain ⟨x, hx, hd⟩ := lcmL_pp hq h
      exact ⟨x, List.mem_cons_of_mem _ hx, hd⟩
/-- a case that fits -/
def FitsC (ts : List (Nat × Nat × Nat)) (c : Nat → Int) : Prop := ∀ t ∈ ts, (t.2.2 : Int) ∣ c t.1 - c t.2.1
theorem fits_bond {n : Nat} {ts : List (Nat × Nat × Nat)} (hn : InN n ts) {c : Nat → Int} (h : FitsC ts c) : ∀ i j, i < n → j < n → ((closeM n ts i j : Nat) : Int) ∣ c i - c j := by
  intro i j hi hj
  have hC : Clo n fun i j => (c i - c j).natAbs := by
    refine ⟨fun i _ => by simp, fun i j _ _ => by rw [← Int.natAbs_neg]; congr 1; omega, fun i b j _ _ _ => ?_⟩
    have h1 : ((Nat.gcd (c i - c b).natAbs (c b - c j).natAbs : Nat) : Int) ∣ c i - c b := Int.ofNat_dvd_left.mpr (Nat.gcd_dvd_left _ _)
    have h2 : ((Nat.gcd (c i - c b).natAbs (c b - c j).natAbs : Nat) : Int) ∣ c b - c j := Int.ofNat_dvd_left.mpr (Nat.gcd_dvd_right _ _)
    have h3 := Int.dvd_add h1 h2
    rw [show c i - c b + (c b - c j) = c i - c j by omega] at h3
    exact Int.ofNat_dvd_left.mp h3
  have := close_le hn hC (fun t ht => Int.ofNat_dvd_left.mp (h t ht)) i j hi hj
  exact Int.ofNat_dvd_left.mpr this
/-- the case that parts two points by a power that their bond has not -/
theorem apart_case {n q u v : Nat} {ts : List (Nat × Nat × Nat)} (hn : InN n ts) (hu : u < n) (hv : v < n) (hq : PP q) (hd : ¬ q ∣ closeM n ts u v) : ∃ (S : Nat → Bool) (step : Nat), S u = true ∧ S v = false ∧ ¬ q ∣ step ∧ (∀ m, (∀ t ∈ ts, ¬ q ∣ t.2.2 → t.2.2 ∣ m) → step ∣ m) ∧ ∀ t ∈ ts, S t.1 ≠ S t.2.1 → t.2.2 ∣ step := by
  have C := close_clo (n := n) (ts := ts)
  let S : Nat → Bool := fun i => decide (q ∣ closeM n ts u i)
  let l := (ts.filter fun t => S t.1 != S t.2.1).map fun t => t.2.2
  have hl : ∀ t ∈ ts, S t.1 ≠ S t.2.1 → ¬ q ∣ t.2.2 := fun t ht hs hq2 => by
    obtain ⟨h1, h2⟩ := hn t ht
    have h3 := Nat.dvd_trans hq2 (close_tied (n := n) t ht)
    refine hs (decide_eq_decide.mpr ⟨fun h => ?_, fun h => ?_⟩)
    · exact Nat.dvd_trans (Nat.dvd_gcd h h3) (C.tr _ _ _ hu h1 h2)
    · rw [C.sy _ _ h1 h2] at h3
      exact Nat.dvd_trans (Nat.dvd_gcd h h3) (C.tr _ _ _ hu h2 h1)
  refine ⟨S, lcmL l, decide_eq_true (by rw [C.dg u hu]; exact Nat.dvd_zero _), decide_eq_false hd, fun h => ?_, fun m hm => lcmL_le fun x hx => ?_, fun t ht hs => lcmL_dv ?_⟩
  · obtain ⟨x, hx, hqx⟩ := lcmL_pp hq h
    obtain ⟨t, ht, rfl⟩ := List.mem_map.mp hx
    obtain ⟨ht, hs⟩ := List.mem_filter.mp ht
    exact hl t ht (by simpa using hs) hqx
  · obtain ⟨t, ht, rfl⟩ := List.mem_map.mp hx
    obtain ⟨ht, hs⟩ := List.mem_filter.mp ht
    exact hm t ht (hl t ht (by simpa using hs))
  · exact List.mem_map.mpr ⟨t, List.mem_filter.mpr ⟨ht, by simpa using hs⟩, rfl⟩
end DL

set_option Elab.async false
set_option linter.all false
set_option maxRecDepth 100000
set_option maxHeartbeats 1000000
namespace DL
/-- by ties whose rests q divides -/
inductive Conn (ts : List (Nat × Nat × Nat)) (q : Nat) : Nat → Nat → Prop
  | refl (i : Nat) : Conn ts q i i
  | to {i : Nat} (t : Nat × Nat × Nat) : t ∈ ts → q ∣ t.2.2 → Conn ts q i t.1 → Conn ts q i t.2.1
  | fro {i : Nat} (t : Nat × Nat × Nat) : t ∈ ts → q ∣ t.2.2 → Conn ts q i t.2.1 → Conn ts q i t.1
section
variable {ts : List (Nat × Nat × Nat)} {q n : Nat}
theorem Conn.trans {i j k : Nat} (h : Conn ts q i j) (g : Conn ts q j k) : Conn ts q i k := by
  induction g with
  | refl => exact h
  | to t ht hq _ ih => exact .to t ht hq ih
  | fro t ht hq _ ih => exact .fro t ht hq ih
theorem Conn.symm {i j : Nat} (h : Conn ts q i j) : Conn ts q j i := by
  induction h with
  | refl => exact .refl _
  | to t ht hq _ ih => exact (Conn.fro t ht hq (.refl _)).trans ih
  | fro t ht hq _ ih => exact (Conn.to t ht hq (.refl _)).trans ih
theorem Conn.mono {us : List (Nat × Nat × Nat)} {i j : Nat} (h : Conn ts q i j) (s : ∀ t ∈ ts, t ∈ us) : Conn us q i j := by
  induction h with
  | refl => exact .refl _
  | to t ht hq _ ih => exact .to t (s t ht) hq ih
  | fro t ht hq _ ih => exact .fro t (s t ht) hq ih
theorem Conn.lt (hn : InN n ts) {i j : Nat} (h : Conn ts q i j) (hi : i < n) : j < n := by
  induction h with
  | refl => exact hi
  | to t ht _ _ _ => exact (hn t ht).2
  | fro t ht _ _ _ => exact (hn t ht).1
theorem Conn.dvd (hn : InN n ts) {i j : Nat} (h : Conn ts q i j) (hi : i < n) : q ∣ closeM n ts i j := by
  have C := close_clo (n := n) (ts := ts)
  induction h with
  | refl => rw [C.dg _ hi]; exact Nat.dvd_zero _
  | to t ht hq _ ih =>
    obtain ⟨h1, h2⟩ := hn t ht
    exact Nat.dvd_trans (Nat.dvd_gcd ih (Nat.dvd_trans hq (close_tied (n := n) t ht))) (C.tr _ _ _ hi h1 h2)
  | fro t ht hq _ ih =>
    obtain ⟨h1, h2⟩ := hn t ht
    have h3 := Nat.dvd_trans hq (close_tied (n := n) t ht)
    rw [C.sy _ _ h1 h2] at h3
    exact Nat.dvd_trans (Nat.dvd_gcd ih h3) (C.tr _ _ _ hi h2 h1)
end
/-- 0, or a power of a prime -/
def PQ (q : Nat) : Prop := q = 0 ∨ PP q
theorem lcmL_pq {q : Nat} (hq : PQ q) {l : List Nat} (h : q ∣ lcmL l) : ∃ x ∈ l, q ∣ x := by
  rcases hq with rfl | hq
  · have h0 : lcmL l = 0 := Nat.eq_zero_of_zero_dvd h
    clear h
    induction l with
    | nil => exact absurd h0 (by decide)
    | cons x l ih =>
      have h1 : Nat.lcm x (lcmL l) = 0 := h0
      by_cases hx : x = 0
      · exact ⟨x, List.mem_cons_self, by rw [hx]; exact Nat.dvd_refl _⟩
      · have h2 : lcmL l = 0 := by
          refine Classical.byContradiction fun hn => ?_
          have := Nat.lcm_ne_zero hx hn
          exact this h1
        obtain ⟨y, hy, hd⟩ := ih h2
        exact ⟨y, List.mem_cons_of_mem _ hy, hd⟩
  · exact lcmL_pp hq h
open Classical in
theorem conn_of {ts : List (Nat × Nat × Nat)} {q n i j : Nat} (hq : PQ q) (hn : InN n ts) (hi : i < n) (hj : j < n) (h : q ∣ closeM n ts i j) : Conn ts q i j := by
  refine Classical.byContradiction fun hc => ?_
  let L := lcmL ((ts.filter fun t => !decide (q ∣ t.2.2)).map fun t => t.2.2)
  have hL : ¬ q ∣ L := fun hd => by
    obtain ⟨x, hx, hqx⟩ := lcmL_pq hq hd
    obtain ⟨t, ht, rfl⟩ := List.mem_map.mp hx
    have := (List.mem_filter.mp ht).2
    simp at this
    exact this hqx
  have hC : Clo n fun i j => if Conn ts q i j then 0 else L := by
    refine ⟨fun i _ => if_pos (.refl i), fun i j _ _ => ?_, fun i b j _ _ _ => ?_⟩
    · by_cases e : Conn ts q i j
      · rw [if_pos e, if_pos e.symm]
      · rw [if_neg e, if_neg fun z => e z.symm]
    · by_cases e : Conn ts q i j
      · rw [if_pos e]; exact Nat.dvd_zero _
      · rw [if_neg e]
        by_cases e1 : Conn ts q i b
        · rw [if_neg fun z => e (e1.trans z)]
          exact Nat.gcd_dvd_right _ _
        · rw [if_neg e1]
          exact Nat.gcd_dvd_left _ _
  have hle := close_le hn hC (fun t ht => ?_) i j hi hj
  · rw [if_neg hc] at hle
    exact hL (Nat.dvd_trans h hle)
  · by_cases e : q ∣ t.2.2
    · show t.2.2 ∣ (if Conn ts q t.1 t.2.1 then 0 else L)
      rw [if_pos (Conn.to t ht e (.refl _))]; exact Nat.dvd_zero _
    · show t.2.2 ∣ (if Conn ts q t.1 t.2.1 then 0 else L)
      split
      · exact Nat.dvd_zero _
      · exact lcmL_dv (List.mem_map.mpr ⟨t, List.mem_filter.mpr ⟨ht, by simp [e]⟩, rfl⟩)
theorem conn_iff {ts : List (Nat × Nat × Nat)} {q n i j : Nat} (hq : PQ q) (hn : InN n ts) (hi : i < n) (hj : j < n) : q ∣ closeM n ts i j ↔ Conn ts q i j := ⟨conn_of hq hn hi hj, fun h => h.dvd hn hi⟩
def markS (m : Nat → Nat) (a b : Nat) : Nat → Nat := fun i => if m i = max (m a) (m b) then min (m a) (m b) else m i
def markF (q : Nat) (ts : List (Nat × Nat × Nat)) (m : Nat → Nat) : Nat → Nat := ts.foldl (fun m t => if q ∣ t.2.2 then markS m t.1 t.2.1 else m) m
theorem markS_eq {m : Nat → Nat} {a b i j : Nat} : markS m a b i = markS m a b j ↔ m i = m j ∨ ((m i = m a ∨ m i = m b) ∧ (m j = m a ∨ m j = m b)) := by
  unfold markS
  split <;> split <;> omega
theorem conn_nil {q i j : Nat} : Conn [] q i j ↔ i = j := by
  constructor
  · intro h
    cases h with
    | refl => rfl
    | to t ht _ _ => cases ht
    | fro t ht _ _ => cases ht
  · intro h
    subst h
    exact .refl _
/-- a tie more -/
theorem conn_snoc {ts : List (Nat × Nat × Nat)} {q i j : Nat} {t : Nat × Nat × Nat} (hq : q ∣ t.2.2) : Conn (ts ++ [t]) q i j ↔ Conn ts q i j ∨ ((Conn ts q i t.1 ∨ Conn ts q i t.2.1) ∧ (Conn ts q j t.1 ∨ Conn ts q j t.2.1)) := by
  have sub : ∀ u ∈ ts, u ∈ ts ++ [t] := fun u hu => List.mem_append.mpr (.inl hu)
  have htm : t ∈ ts ++ [t] := List.mem_append.mpr (.inr (List.mem_singleton.mpr rfl))
  constructor
  · intro h
    induction h with
    | refl => exact .inl (.refl _)
    | to u hu hqu _ ih =>
      rcases List.mem_append.mp hu with hu | hu
      · have st : Conn ts q u.2.1 u.1 := .fro u hu hqu (.refl _)
        rcases ih with ih | ⟨h1, h2⟩
        · exact .inl (.to u hu hqu ih)
        · exact .inr ⟨h1, h2.imp (fun h => st.trans h) fun h => st.trans h⟩
      · rw [List.mem_singleton] at hu
        subst hu
        rcases ih with ih | ⟨h1, _⟩
        · exact .inr ⟨.inl ih, .inr (.refl _)⟩
        · exact .inr ⟨h1, .inr (.refl _)⟩
    | fro u hu hqu _ ih =>
      rcases List.mem_append.mp hu with hu | hu
      · have st : Conn ts q u.1 u.2.1 := .to u hu hqu (.refl _)
        rcases ih with ih | ⟨h1, h2⟩
        · exact .inl (.fro u hu hqu ih)
        · exact .inr ⟨h1, h2.imp (fun h => st.trans h) fun h => st.trans h⟩
      · rw [List.mem_singleton] at hu
        subst hu
        rcases ih with ih | ⟨h1, _⟩
        · exact .inr ⟨.inr ih, .inl (.refl _)⟩
        · exact .inr ⟨h1, .inl (.refl _)⟩
  · have st : Conn (ts ++ [t]) q t.1 t.2.1 := .to t htm hq (.refl _)
    rintro (h | ⟨h1 | h1, h2 | h2⟩)
    · exact h.mono sub
    · exact (h1.mono sub).trans (h2.mono sub).symm
    · exact ((h1.mono sub).trans st).trans (h2.mono sub).symm
    · exact ((h1.mono sub).trans st.symm).trans (h2.mono sub).symm
    · exact (h1.mono sub).trans (h2.mono sub).symm
theorem conn_skip {ts : List (Nat × Nat × Nat)} {q i j : Nat} {t : Nat × Nat × Nat} (hq : ¬ q ∣ t.2.2) : Conn (ts ++ [t]) q i j ↔ Conn ts q i j := by
  constructor
  · intro h
    induction h with
    | refl => exact .refl _
    | to u hu hqu _ ih =>
      rcases List.mem_append.mp hu with hu | hu
      · exact .to u hu hqu ih
      · rw [List.mem_singleton] at hu; subst hu; exact absurd hqu hq
    | fro u hu hqu _ ih =>
      rcases List.mem_append.mp hu with hu | hu
      · exact .fro u hu hqu ih
      · rw [List.mem_singleton] at hu; subst hu; exact absurd hqu hq
  · exact fun h => h.mono fun u hu => List.mem_append.mpr (.inl hu)
/-- alike marks where points hang together -/
structure MarkOk (ts : List (Nat × Nat × Nat)) (q : Nat) (m : Nat → Nat) : Prop where
  eq : ∀ i j, m i = m j ↔ Conn ts q i j
theorem MarkOk.nil {q : Nat} : MarkOk [] q fun i => i := ⟨fun i j => conn_nil.symm⟩
theorem MarkOk.snoc {ts : List (Nat × Nat × Nat)} {q : Nat} {m : Nat → Nat} {t : Nat × Nat × Nat} (h : MarkOk ts q m) (hq : q ∣ t.2.2) : MarkOk (ts ++ [t]) q (markS m t.1 t.2.1) := ⟨fun i j => by
  rw [markS_eq, conn_snoc hq, h.eq, h.eq, h.eq, h.eq, h.eq]⟩
theorem MarkOk.skip {ts : List (Nat × Nat × Nat)} {q : Nat} {m : Nat → Nat} {t : Nat × Nat × Nat} (h : MarkOk ts q m) (hq : ¬ q ∣ t.2.2) : MarkOk (ts ++ [t]) q m := ⟨fun i j => by rw [conn_skip hq, h.eq]⟩
end DL

set_option Elab.async false
set_option linter.all false
set_option maxRecDepth 100000
set_option maxHeartbeats 1000000
namespace DL
def prodP (l : List (Nat × Nat)) : Nat := l.foldr (fun x a => x.1 * a) 1
theorem prodP_perm {l m : List (Nat × Nat)} (h : l.Perm m) : prodP l = prodP m := by
  induction h with
  | nil => rfl
  | cons x _ ih => show x.1 * prodP _ = x.1 * prodP _; rw [ih]
  | swap x y l => show y.1 * (x.1 * prodP l) = x.1 * (y.1 * prodP l); rw [← Nat.mul_assoc, ← Nat.mul_assoc, Nat.mul_comm y.1]
  | trans _ _ h1 h2 => exact h1.trans h2
theorem prodP_foldl : ∀ {l : List (Nat × Nat)} {a : Nat}, l.foldl (fun a x => a * x.1) a = a * prodP l
  | [], a => (Nat.mul_one a).symm
  | x :: l, a => by
    show l.foldl (fun a x => a * x.1) (a * x.1) = a * (x.1 * prodP l)
    rw [prodP_foldl, Nat.mul_assoc]
/-- the pairs of a prime and a power of it that divides c -/
structure PPs (c : Nat) (l : List (Nat × Nat)) : Prop where
  nd : l.Nodup
  mem : ∀ p q, (p, q) ∈ l ↔ Pr p ∧ (∃ e, q = p ^ (e + 1)) ∧ q ∣ c
theorem pr_ne {p p2 : Nat} (h : Pr p) (h2 : Pr p2) (hn : p ≠ p2) : ¬ p ∣ p2 := fun hd => by
  rcases h2.2 p hd with e | e
  · have := h.1; omega
  · exact hn e
theorem pow_max {p c : Nat} (hp : Pr p) (hc : 0 < c) (hd : p ∣ c) : ∃ f, p ^ (f + 1) ∣ c ∧ ¬ p ^ (f + 2) ∣ c := by
  refine Classical.byContradiction fun hn => ?_
  have key : ∀ f, p ^ (f + 1) ∣ c := fun f => by
    induction f with
    | zero => rw [Nat.zero_add, Nat.pow_one]; exact hd
    | succ f ih => exact Classical.byContradiction fun h => hn ⟨f, ih, h⟩
  have h1 := Nat.le_of_dvd hc (key c)
  have h2 : c + 1 < p ^ (c + 1) := Nat.lt_pow_self hp.1
  omega
theorem pps_prod : ∀ (c : Nat), 0 < c → ∀ l, PPs c l → prodP l = c := fun c => by
  induction c using Nat.strongRecOn with
  | _ c ih =>
    intro hc l hl
    by_cases h1 : c = 1
    · subst h1
      have : l = [] := by
        cases l with
        | nil => rfl
        | cons x l =>
          obtain ⟨hp, ⟨e, he⟩, hd⟩ := (hl.mem x.1 x.2).mp List.mem_cons_self
          have h2 := Nat.le_of_dvd (by decide) hd
          have h4 : 1 < x.1 ^ (e + 1) := Nat.one_lt_pow (by omega) (by have := hp.1; omega)
          omega
      rw [this]
      rfl
    · obtain ⟨p, hp, hpd⟩ := pr_of c (by omega)
      obtain ⟨f, hf1, hf2⟩ := pow_max hp hc hpd
      obtain ⟨c', hc'⟩ := hpd
      have hp0 : 0 < p := by have := hp.1; omega
      have hc0 : 0 < c' := Nat.pos_of_ne_zero fun e => by rw [e, Nat.mul_zero] at hc'; omega
      have hlt : c' < c := by
        rw [hc']
        have : 1 * c' < p * c' := Nat.mul_lt_mul_of_pos_right (by have := hp.1; omega) hc0
        omega
      have hx : (p, p ^ (f + 1)) ∈ l := (hl.mem _ _).mpr ⟨hp, ⟨f, rfl⟩, hf1⟩
      have hl' : PPs c' (l.erase (p, p ^ (f + 1))) := by
        refine ⟨hl.nd.erase _, fun p2 q => ?_⟩
        rw [hl.nd.mem_erase_iff, hl.mem]
        constructor
        · rintro ⟨hne, hp2, ⟨e, rfl⟩, hd⟩
          refine ⟨hp2, ⟨e, rfl⟩, ?_⟩
          by_cases hpp : p2 = p
          · subst hpp
            have hef : e ≠ f := fun z => hne (by rw [z])
            have hlef : e + 1 ≤ f := by
              refine Classical.byContradiction fun hg => hf2 ?_
              exact Nat.dvd_trans (Nat.pow_dvd_pow p2 (show f + 2 ≤ e + 1 by omega)) hd
            have h3 : p2 ^ (e + 2) ∣ c := Nat.dvd_trans (Nat.pow_dvd_pow p2 (by omega)) hf1
            rw [hc', Nat.pow_succ, Nat.mul_comm] at h3
            exact Nat.dvd_of_mul_dvd_mul_left hp0 h3
          · have hcop : Nat.Coprime (p2 ^ (e + 1)) p := hp2.cop_pow (pr_ne hp2 hp hpp) (e + 1)
            rw [hc'] at hd
            exact hcop.dvd_of_dvd_mul_left hd
        · rintro ⟨hp2, ⟨e, rfl⟩, hd⟩
          refine ⟨fun z => ?_, hp2, ⟨e, rfl⟩, by rw [hc']; exact Nat.dvd_trans hd (Nat.dvd_mul_left _ _)⟩
          injection z with z1 z2
          subst z1
          rw [z2] at hd
          refine hf2 ?_
          rw [hc', show f + 2 = (f + 1) + 1 from rfl, Nat.pow_succ, Nat.mul_comm]
          exact Nat.mul_dvd_mul (Nat.dvd_refl _) hd
      rw [prodP_perm (List.perm_cons_erase hx)]
      show p * prodP _ = c
      rw [ih c' hlt hc0 _ hl', ← hc']
/-- the bond of two points, reckoned by all powers of primes that divide a rest -/
theorem bond_primes {ts : List (Nat × Nat × Nat)} {n i j : Nat} {l : List (Nat × Nat)} (hn : InN n ts) (hi : i < n) (hj : j < n) (hl : l.Nodup) (hm : ∀ p q, (p, q) ∈ l ↔ Pr p ∧ (∃ e, q = p ^ (e + 1)) ∧ ∃ t ∈ ts, t.2.2 ≠ 0 ∧ q ∣ t.2.2) (f : Nat → Bool) (hf : ∀ x ∈ l, f x.2 = true ↔ Conn ts x.2 i j) (h0 : ¬ Conn ts 0 i j) : prodP (l.filter fun x => f x.2) = closeM n ts i j := by
  have hz : closeM n ts i j ≠ 0 := fun e => h0 (conn_of (.inl rfl) hn hi hj (by rw [e]; exact Nat.dvd_refl _))
  refine pps_prod _ (Nat.pos_of_ne_zero hz) _ ⟨hl.filter _, fun p q => ?_⟩
  rw [List.mem_filter]
  constructor
  · rintro ⟨hx, hfx⟩
    obtain ⟨hp, he, _⟩ := (hm p q).mp hx
    exact ⟨hp, he, ((hf _ hx).mp hfx).dvd hn hi⟩
  · rintro ⟨hp, ⟨e, rfl⟩, hd⟩
    have hq : PP (p ^ (e + 1)) := ⟨p, e, hp, rfl⟩
    have hc := conn_of (.inr hq) hn hi hj hd
    have hex : ∃ t ∈ ts, t.2.2 ≠ 0 ∧ p ^ (e + 1) ∣ t.2.2 := by
      refine Classical.byContradiction fun hne => h0 ?_
      clear hd
      have hall : ∀ t ∈ ts, p ^ (e + 1) ∣ t.2.2 → 0 ∣ t.2.2 := fun t ht hqt => by
        refine Classical.byContradiction fun z => hne ⟨t, ht, fun e => z (by rw [e]; exact Nat.dvd_refl _), hqt⟩
      have go : ∀ {a b : Nat}, Conn ts (p ^ (e + 1)) a b → Conn ts 0 a b := fun h => by
        induction h with
        | refl => exact .refl _
        | to t ht hq _ ih => exact .to t ht (hall t ht hq) ih
        | fro t ht hq _ ih => exact .fro t ht (hall t ht hq) ih
      exact go hc
    have hx : (p, p ^ (e + 1)) ∈ l := (hm _ _).mpr ⟨hp, ⟨e, rfl⟩, hex⟩
    exact ⟨hx, (hf _ hx).mpr hc⟩
theorem bond_zero {ts : List (Nat × Nat × Nat)} {n i j : Nat} (hn : InN n ts) (hi : i < n) (h : Conn ts 0 i j) : closeM n ts i j = 0 := Nat.eq_zero_of_zero_dvd (h.dvd hn hi)
end DL

set_option Elab.async false
set_option linter.all false
set_option maxRecDepth 100000
set_option maxHeartbeats 1000000
namespace DL
open PySem
/-- p is as far as one has come: the primes below are divided out -/
structure PowI (c m p : Nat) (l : List (Nat × Nat)) : Prop where
  c0 : 0 < c
  m0 : 0 < m
  p2 : 2 ≤ p
  md : m ∣ c
  lo : ∀ d, Pr d → d ∣ m → p ≤ d
  nd : l.Nodup
  mem : ∀ d q, (d, q) ∈ l ↔ Pr d ∧ (∃ e, q = d ^ (e + 1)) ∧ q ∣ c ∧ ¬ d ∣ m
  up : ∀ d e, Pr d → d ∣ m → d ^ e ∣ c → d ^ e ∣ m
theorem PowI.start {c : Nat} (h : 0 < c) : PowI c c 2 [] := ⟨h, h, Nat.le_refl _, Nat.dvd_refl _, fun d hd _ => hd.1, .nil, fun d q => ⟨fun z => (by cases z), fun ⟨h1, ⟨e, h2⟩, h3, h4⟩ => by
  refine absurd (Nat.dvd_trans ?_ h3) h4
  rw [h2, Nat.pow_succ]
  exact Nat.dvd_mul_left _ _⟩, fun _ _ _ _ h => h⟩
theorem PowI.done {c p : Nat} {l : List (Nat × Nat)} (h : PowI c 1 p l) : PPs c l := ⟨h.nd, fun d q => by
  rw [h.mem]
  constructor
  · rintro ⟨h1, h2, h3, _⟩; exact ⟨h1, h2, h3⟩
  · rintro ⟨h1, h2, h3⟩
    refine ⟨h1, h2, h3, fun z => ?_⟩
    have := Nat.le_of_dvd (by decide) z
    have := h1.1
    omega⟩
/-- the least divisor is a prime -/
theorem PowI.pr {c m p : Nat} {l : List (Nat × Nat)} (h : PowI c m p l) (hd : p ∣ m) : Pr p := by
  obtain ⟨d, h1, h2⟩ := pr_of p h.p2
  have h3 := h.lo d h1 (Nat.dvd_trans h2 hd)
  have h4 := Nat.le_of_dvd (by have := h.p2; omega) h2
  have e : d = p := by omega
  rw [← e]; exact h1
/-- what is left is a prime -/
theorem PowI.sq {c m p : Nat} {l : List (Nat × Nat)} (h : PowI c m p l) (hm : 1 < m) (hp : m < p * p) : PowI c m m l := by
  have key : ∀ d, Pr d → d ∣ m → m ≤ d := fun d hd hdm => by
    obtain ⟨k, hk⟩ := hdm
    refine Classical.byContradiction fun hlt => ?_
    have hk1 : k ≠ 1 := fun e => by rw [e, Nat.mul_one] at hk; omega
    have hk0 : k ≠ 0 := fun e => by rw [e, Nat.mul_zero] at hk; omega
    obtain ⟨r, hr, hrk⟩ := pr_of k (by omega)
    have h1 := h.lo d hd ⟨k, hk⟩
    have h2 := h.lo r hr (Nat.dvd_trans hrk ⟨d, by rw [hk, Nat.mul_comm]⟩)
    have h3 := Nat.le_of_dvd (by omega) hrk
    have h4 : p * p ≤ d * k := Nat.mul_le_mul h1 (by omega)
    omega
  exact ⟨h.c0, h.m0, hm, h.md, key, h.nd, h.mem, h.up⟩
theorem PowI.next {c m p : Nat} {l : List (Nat × Nat)} (h : PowI c m p l) (hd : ¬ p ∣ m) : PowI c m (p + 1) l := ⟨h.c0, h.m0, by have := h.p2; omega, h.md, fun d h1 h2 => by
  have := h.lo d h1 h2
  have : d ≠ p := fun e => hd (by rw [← e]; exact h2)
  omega, h.nd, h.mem, h.up⟩
/-- within: k powers of p are divided out -/
structure PowJ (c m p k m2 : Nat) (l l2 : List (Nat × Nat)) : Prop where
  I : PowI c m p l
  hm : m = p ^ k * m2
  hl : l2 = l ++ (List.range k).map fun i => (p, p ^ (i + 1))
  hd : 0 < k → p ∣ m
theorem PowJ.start {c m p : Nat} {l : List (Nat × Nat)} (h : PowI c m p l) : PowJ c m p 0 m l l := ⟨h, by rw [Nat.pow_zero, Nat.one_mul], by simp, fun z => absurd z (by decide)⟩
theorem PowJ.step {c m p k m2 : Nat} {l l2 : List (Nat × Nat)} (h : PowJ c m p k m2 l l2) (hd : p ∣ m2) : PowJ c m p (k + 1) (m2 / p) l (l2 ++ [(p, p ^ (k + 1))]) := by
  have hp0 : 0 < p := by have := h.I.p2; omega
  refine ⟨h.I, ?_, ?_, fun _ => ?_⟩
  · rw [h.hm, Nat.pow_succ, Nat.mul_assoc, Nat.mul_div_cancel' hd]
  · rw [h.hl, List.range_succ, List.map_append, List.append_assoc]; rfl
  · rw [h.hm]; exact Nat.dvd_trans hd (Nat.dvd_mul_left _ _)
theorem PowJ.out {c m p k m2 : Nat} {l l2 : List (Nat × Nat)} (h : PowJ c m p k m2 l l2) (hn : ¬ p ∣ m2) : PowI c m2 (p + 1) l2 := by
  have I := h.I
  have hp0 : 0 < p := by have := I.p2; omega
  by_cases hk : k = 0
  · have e1 := h.hm
    have e2 := h.hl
    rw [hk, Nat.pow_zero, Nat.one_mul] at e1
    rw [hk] at e2
    simp at e2
    rw [e2, ← e1]
    rw [← e1] at hn
    exact I.next hn
  · have hdm := h.hd (by omega)
    have hp : Pr p := I.pr hdm
    have m20 : 0 < m2 := Nat.pos_of_ne_zero fun e => by have := h.hm; rw [e, Nat.mul_zero] at this; have := I.m0; omega
    have hm2m : m2 ∣ m := by rw [h.hm]; exact Nat.dvd_mul_left _ _
    have cop : ∀ d e, Pr d → d ≠ p → d ^ e ∣ m → d ^ e ∣ m2 := fun d e hd hne hdv => by
      have hc : Nat.Coprime (d ^ e) (p ^ k) := by
        have h1 : Nat.Coprime p (d ^ e) := by
          have := hd.cop_pow (pr_ne hd hp hne) e
          exact Nat.Coprime.symm this
        exact Nat.Coprime.symm (Nat.Coprime.pow_left k h1)
      rw [h.hm] at hdv
      exact hc.dvd_of_dvd_mul_left hdv
    have cop1 : ∀ d, Pr d → d ≠ p → d ∣ m → d ∣ m2 := fun d hd hne hdv => by
      have := cop d 1 hd hne (by rw [Nat.pow_one]; exact hdv)
      rwa [Nat.pow_one] at this
    refine ⟨I.c0, m20, by omega, Nat.dvd_trans hm2m I.md, fun d h1 h2 => ?_, ?_, fun d q => ?_, fun d e h1 h2 h3 => ?_⟩
    · have h3 := I.lo d h1 (Nat.dvd_trans h2 hm2m)
      have : d ≠ p := fun e => hn (by rw [← e]; exact h2)
      omega
    · rw [h.hl, List.nodup_append]
      refine ⟨I.nd, ?_, fun x hx y hy e => ?_⟩
      · rw [List.nodup_iff_pairwise_ne, List.pairwise_map]
        refine List.pairwise_lt_range.imp fun {a b} hab z => ?_
        injection z with _ z
        have := Nat.pow_lt_pow_right hp.1 (show a + 1 < b + 1 by omega)
        omega
      · obtain ⟨i, _, rfl⟩ := List.mem_map.mp hy
        subst e
        exact ((I.mem _ _).mp hx).2.2.2 hdm
    · rw [h.hl, List.mem_append, I.mem]
      constructor
      · rintro (⟨h1, h2, h3, h4⟩ | hx)
        · exact ⟨h1, h2, h3, fun z => h4 (Nat.dvd_trans z hm2m)⟩
        · obtain ⟨i, hi, e⟩ := List.mem_map.mp hx
          rw [List.mem_range] at hi
          injection e with e1 e2
          subst e1
          refine ⟨hp, ⟨i, e2.symm⟩, ?_, hn⟩
          rw [← e2]
          refine Nat.dvd_trans ?_ I.md
          rw [h.hm]
          exact Nat.dvd_trans (Nat.pow_dvd_pow p (by omega)) (Nat.dvd_mul_right _ _)
      · rintro ⟨h1, ⟨e, rfl⟩, h3, h4⟩
        by_cases hdp : d = p
        · subst hdp
          right
          have h5 := I.up d (e + 1) hp hdm h3
          refine List.mem_map.mpr ⟨e, List.mem_range.mpr (Classical.byContradiction fun hg => hn ?_), rfl⟩
          have h6 : d ^ (k + 1) ∣ m := Nat.dvd_trans (Nat.pow_dvd_pow d (by omega)) h5
          rw [h.hm, Nat.pow_succ] at h6
          exact Nat.dvd_of_mul_dvd_mul_left (Nat.pow_pos hp0) h6
        · exact .inl ⟨h1, ⟨e, rfl⟩, h3, fun z => h4 (cop1 d h1 hdp z)⟩
    · have hne : d ≠ p := fun z => hn (by rw [← z]; exact h2)
      exact cop d e h1 hne (I.up d e h1 (Nat.dvd_trans h2 hm2m) h3)
end DL

set_option Elab.async false
set_option linter.all false
set_option maxRecDepth 100000
set_option maxHeartbeats 2000000
namespace DL
open PySem PySem.Spec PyProof.Rows L2

/-- a key that is a pair of numbers -/
def prK (z : Int × Int) : List Key := [.inl z.1, .inl z.2]
def numPairD (z : Int × Int) : D := .tup [.int z.1, .int z.2]
section
variable {X : Cx}
theorem tup_pair {P : Program} {w : World} {H : Hp} {h : Heap} {b : Addr} {z : Int × Int} (ok : HOk P w H h) (e : H b = some (.tup ((prK z).map kV))) : Srt.IsPair h (.ref b) z.1 z.2 := by
  obtain ⟨_, its2, r2, o, ho, hc, n, hd⟩ := ok _ _ e
  obtain ⟨u1, u2, rfl, ri, rj⟩ := vals2 r2
  obtain ⟨t1, rfl⟩ := ri
  obtain ⟨t2, rfl⟩ := rj
  exact ⟨b, o, t1, t2, n, rfl, ho, hc, hd⟩
theorem call_sortedT (hc : X.calm = true) : CallR X (.builtin "sorted") (fun xs H Q => ∃ (d : Addr) (kvs : List (List Key × V)) (ps : List (Int × Int)), xs = [V.ref d] ∧ Rd H d (.dT kvs) ∧ kvs.map (·.1) = ps.map prK ∧
    ∀ (p : Addr) (zs : List ((Int × Int) × Addr)), H p = none → (zs.map (·.1)).Perm ps → (∀ z ∈ zs, H z.2 = some (.tup ((prK z.1).map kV))) → Q (.ref p) (upd H p (.lst (zs.map fun z => V.ref z.2)))) := by
  intro pins s σ H xs us Q I r h
  obtain ⟨d, kvs, ps, rfl, hd, hps, q⟩ := h
  obtain ⟨u, rfl, rx⟩ := r.one
  cases rx
  obtain ⟨z, hs, ks, pr, o, es, ep, ho, hx, hdt, he, hn⟩ := (show ObjOk X.prog X.w H s.heap d (.dT kvs) from hd.ok I.hok)
  have l1 : es.size = ks.length := size_of_entries he
  have l2 : kvs.length = ks.length := Paired.length pr
  have l3 : ps.length = ks.length := by
    have e := congrArg List.length hps
    rw [List.length_map, List.length_map] at e
    omega
  refine Calls.call_function_entry PyProof.Rows.kind_sorted PyProof.Rows.plain_sorted PyProof.Rows.entry_sorted (PyProof.Rows.args_sorted1 _) ?_
  unfold Builtin.«sorted»
  refine wpAny_bind (m := checkCount "sorted" 1 1 _) (wpAny_pure ?_)
  refine wpAny_bind (PySem.W.kdu_collect (A := X.A.in1) (kdl_raw hs hx hdt) (I.ok.hd hc) ho (by omega) fun h' tk acc hk it => ?_)
  have ea : acc.toList = ks.map fun x => Value.ref x.2.1 := by
    have hl : acc.toList.length = ks.length := by rw [Array.length_toList, it.1]; exact l1
    apply List.ext_getElem?
    intro j
    rw [List.getElem?_map]
    cases hj : acc.toList[j]? with
    | none =>
      have h1 := List.getElem?_eq_none_iff.mp hj
      rw [List.getElem?_eq_none (by omega)]
      all_goals rfl
    | some v =>
      obtain ⟨en, hen, hv⟩ := it.2 j v (by rw [← Array.getElem?_toList]; exact hj)
      have qe := entry_at he j
      rw [hen] at qe
      cases hb : ks[j]? with
      | none =>
        rw [hb] at qe
        exact nomatch (show some en = none from qe)
      | some b =>
        rw [hb] at qe
        have e2 : en = entryOfKey (tupleKind (mixKind X.prog X.w)) b := Option.some.inj qe
        rw [hv, e2]
        all_goals rfl
  have hal : acc.toList.length = ks.length := by rw [ea, List.length_map]
  -- the pairs, with their objects
  have key : ∀ {kvs : List (List Key × V)} {ks : List (List Key × Addr × Value)} {ps : List (Int × Int)}, KT H kvs ks → kvs.map (·.1) = ps.map prK →
      ∃ zs : List ((Int × Int) × Addr), zs.map (·.1) = ps ∧ zs.map (fun z => Value.ref z.2) = ks.map (fun x => Value.ref x.2.1) ∧ ∀ z ∈ zs, H z.2 = some (.tup ((prK z.1).map kV)) := by
    intro kvs ks ps r
    induction r generalizing ps with
    | nil =>
      intro e
      cases ps with
      | nil => exact ⟨[], rfl, rfl, fun _ m => nomatch m⟩
      | cons _ _ => simp at e
    | @cons kv x kvs ks h t ih =>
      intro e
      cases ps with
      | nil => simp at e
      | cons p ps =>
        rw [List.map_cons, List.map_cons] at e
        injection e with e1 e2
        obtain ⟨zs, z1, z2, z3⟩ := ih e2
        refine ⟨(p, x.2.1) :: zs, by rw [List.map_cons, z1], by rw [List.map_cons, List.map_cons, z2], fun z m => ?_⟩
        rcases List.mem_cons.mp m with rfl | m
        · rw [← e1]; exact h.2.1
        · exact z3 z m
  obtain ⟨zs, z1, z2, z3⟩ := key pr hps
  have I1 : Inv X pins σ H { s with heap := h', toks := tk } := I.kept hk
  refine wpAny_bind (wpAny_newList ?_ (by rw [hal]; omega))
  have hoL : (h'.push (seqObj "list" acc.toList.toArray 0)).get? h'.objs.size = some (seqObj "list" acc.toList.toArray 0) := Heap.get?_push_size _ rfl
  show wpAny _ _ _ _ _ { s with heap := h'.push (seqObj "list" acc.toList.toArray 0), toks := tk }
  have hp : ∀ v ∈ acc.toList, ∃ x y, Srt.IsPair (h'.push (seqObj "list" acc.toList.toArray 0)) v x y := fun v hv => by
    rw [ea, ← z2] at hv
    obtain ⟨zz, hm, rfl⟩ := List.mem_map.mp hv
    exact ⟨_, _, (tup_pair I1.hok (z3 zz hm)).keeps fun b o e _ => Heap.get?_push_of_some _ e⟩
  refine wpAny_bind (wpAny_holding (wpAny_call_entry PyProof.Rows.slot_list_sort ⟨_, hoL, rfl⟩ PyProof.Rows.entry_list_sort
    (Srt.list_sort_any (s := { s with heap := h'.push (seqObj "list" acc.toList.toArray 0), toks := tk }) hoL (by rw [hal]; omega) (fun h2 => Srt.pairs_sortable (by omega) hp fun o e => ?_) fun out ho => ⟨_, rfl, ?_⟩) (PyProof.Rows.args_list_sort _)))
  · have e' : some o = some (seqObj "list" acc.toList.toArray 0) := e.symm.trans hoL
    cases e'
    intro c
    exact absurd (Value.type.inj c) (by decide)
  · obtain ⟨ws, w1, w2⟩ := L2.perm_lift (fun z : (Int × Int) × Addr => Value.ref z.2) ho zs (by rw [z2, ← ea])
    obtain ⟨e', he'⟩ := PyProof.Rows.sortedHeap_at (vs := acc.toList) (out := out.toArray) hoL
    have hlen : (ws.map fun z => V.ref z.2).length ≤ sizeLine := by
      have e1 := w1.length_eq
      have e2 := congrArg List.length z1
      rw [List.length_map] at e2
      rw [List.length_map]
      omega
    refine wpAny_pure ⟨_, rfl, .ref h'.objs.size, upd H h'.objs.size (.lst (ws.map fun z => V.ref z.2)), I1.laid (t' := tk) (fun b u e => ?_) (Nat.le_refl _)
      (show ObjOk X.prog X.w _ _ _ (.lst (ws.map fun z => V.ref z.2)) from ⟨hlen, out, e', ?_, he'⟩), rfl, q _ ws (I1.hok.fresh (Nat.le_refl _)) (by rw [← z1]; exact w1.map _) fun z m => z3 z (w1.mem_iff.mp m)⟩
    · have hb : b < h'.objs.size := Heap.lt_size e
      rw [PyProof.Rows.sortedHeap_old (Nat.ne_of_lt hb) (by rw [size_push']; exact Nat.lt_succ_of_lt hb)]
      exact Heap.get?_push_of_some _ e
    · rw [← w2]
      have hv : ∀ l : List ((Int × Int) × Addr), Vals (l.map fun z => V.ref z.2) (l.map fun z => Value.ref z.2) := fun l => by
        induction l with
        | nil => exact .nil
        | cons z l ih => exact .cons rfl ih
      exact hv ws
end
/-- a tuple is fixed, whoever holds it -/
theorem Ok.tupAv {K : PySem.W.Frag} {μ : Mu} {Z : Addr → Prop} {H : Hp} {b : Addr} {vs : List V} (ok : Ok K μ Z H) (h : H b = some (.tup vs)) : ¬ Av μ Z b := by
  rintro (z | z)
  · cases q : μ b with
    | none => exact z q
    | some o =>
      have m := ok.at_ _ _ q
      cases o with
      | lst ds => obtain ⟨_, e, _⟩ := m; rw [h] at e; cases e
      | dK ds => obtain ⟨_, e, _⟩ := m; rw [h] at e; cases e
      | dT ds => obtain ⟨_, e, _⟩ := m; rw [h] at e; cases e
      | ins C gs => obtain ⟨_, _, e, _⟩ := m; rw [h] at e; cases e
      | lkK ob kvs kds => obtain ⟨e, _⟩ := m; rw [h] at e; cases e
      | lkT ob kvs kds => obtain ⟨e, _⟩ := m; rw [h] at e; cases e
      | ext φ ds => obtain ⟨_, e, _⟩ := m; rw [h] at e; cases e
  · obtain ⟨_, o, e, n⟩ := ok.hid b z
    rw [h] at e
    cases e
    exact n vs rfl
section
variable {X : Cz} {Γ : Gm} {μ : Mu} {e : Expr} {p0 pos : Pos} {Q : Mu → D → Prop}
theorem we_sortedT (hc : X.calm = true) (B : Bl X "sorted") (h : WE X e Γ μ fun μ1 x => ∃ p kds ps, x = .ref p ∧ μ1 p = some (.dT kds) ∧ kds.map (·.1) = ps.map prK ∧ ∀ qs : List (Int × Int), qs.Perm ps → Q μ1 (.lst (qs.map numPairD)))
    (he : starEach [e] X.env = (false, eval e X.env) :: starEach [] X.env := by rfl) (hpl : (backTo pos (starEach [] X.env)).any (·.1) = false := by rfl) : WE X (.Call (.Name "sorted" p0) [e] [] pos) Γ μ Q := by
  refine we_b1 (call_sortedT hc) B (by decide +kernel) ?_ (he := he) (hpl := hpl)
  refine h.mono fun μ1 d q1 => ?_
  intro Z μ0 H0 H v g i
  obtain ⟨p, kds, ps, rfl, m, hps, q⟩ := q1
  cases isRef i
  obtain ⟨kvs, hH, rel⟩ := dt_at m g.ok
  refine ⟨p, kvs, ps, rfl, .inl hH, by rw [P2.keys rel]; exact hps, fun l zs hl hz ht => ?_⟩
  have g2 := Go.frz g.ok hl (.lst (zs.map fun z => V.ref z.2))
  refine ⟨_, _, g.trans g2, Is.newL g.ok hl ?_, q _ hz⟩
  clear hz hl g2
  induction zs with
  | nil => exact .nil
  | cons z zs ih =>
    have hz := ht z List.mem_cons_self
    refine .cons (.tup (.inl ⟨g.ok.tupAv hz, .inl hz⟩) ?_) (ih fun y m => ht y (List.mem_cons_of_mem _ m))
    exact .cons (.int _) (.cons (.int _) .nil)
end
end DL

set_option Elab.async false
set_option linter.all false
set_option maxRecDepth 100000
set_option maxHeartbeats 1000000
namespace DL
open PySem PySem.Spec PyProof.Rows L2
def ppD (x : Nat × Nat) : D := .tup [.int (x.1 : Int), .int (x.2 : Int)]
theorem pps_len {c : Nat} {l : List (Nat × Nat)} (hc : 0 < c) (h : PPs c l) : 2 ^ l.length ≤ c := by
  have hp := pps_prod c hc l h
  have key : ∀ l : List (Nat × Nat), (∀ x ∈ l, 2 ≤ x.1) → 2 ^ l.length ≤ prodP l := fun l => by
    induction l with
    | nil => intro _; exact Nat.le_refl _
    | cons x l ih =>
      intro hx
      show 2 ^ (l.length + 1) ≤ x.1 * prodP l
      rw [Nat.pow_succ, Nat.mul_comm]
      exact Nat.mul_le_mul (hx x List.mem_cons_self) (ih fun y hy => hx y (List.mem_cons_of_mem _ hy))
  rw [← hp]
  exact key l fun x hx => ((h.mem x.1 x.2).mp hx).1.1
theorem pps_short {c : Nat} {l : List (Nat × Nat)} (hc : 0 < c) (h1 : c ≤ 1000000) (h : PPs c l) : l.length ≤ 20 := by
  refine Classical.byContradiction fun z => ?_
  have h2 : 2 ^ 20 ≤ 2 ^ l.length := Nat.pow_le_pow_right (by decide) (by omega)
  have := pps_len hc h
  have : 2 ^ 20 = 1048576 := by decide
  omega
/-- the rests known so far, with their powers -/
abbrev Kn := List (Nat × List (Nat × Nat))
def knD (kn : Kn) : List (Key × D) := kn.map fun z => (.inl (z.1 : Int), .lst (z.2.map ppD))
theorem knD_len {kn : Kn} : (knD kn).length = kn.length := by unfold knD; rw [List.length_map]
theorem knD_val {c : Nat} : ∀ kn : Kn, valG (knD kn) (.inl (c : Int)) = (valG kn c).map fun l => D.lst (l.map ppD)
  | [] => rfl
  | z :: kn => by
    show valG (((.inl (z.1 : Int) : Key), D.lst (z.2.map ppD)) :: knD kn) (.inl (c : Int)) = _
    rw [valG_cons, valG_cons, knD_val kn]
    by_cases e : z.1 = c
    · rw [if_pos e, if_pos (by rw [e])]; rfl
    · rw [if_neg e, if_neg fun q => e (by have := Sum.inl.inj q; omega)]
theorem knD_put {c : Nat} {l : List (Nat × Nat)} {kn : Kn} (h : valG kn c = none) : putG (knD kn) (.inl (c : Int)) (.lst (l.map ppD)) = knD (kn ++ [(c, l)]) := by
  rw [putG_new _ (by rw [knD_val, h]; rfl)]
  unfold knD
  rw [List.map_append]
  rfl
structure KnI (pre : List (Nat × Nat × Nat)) (kn : Kn) : Prop where
  nd : (kn.map (·.1)).Nodup
  ok : ∀ z ∈ kn, 0 < z.1 ∧ z.1 ≤ 1000000 ∧ PPs z.1 z.2 ∧ ∃ t ∈ pre, t.2.2 = z.1
  al : ∀ t ∈ pre, t.2.2 ≠ 0 → ∃ z ∈ kn, z.1 = t.2.2
  ln : kn.length ≤ pre.length
theorem KnI.nil : KnI [] [] := ⟨.nil, fun _ h => (nomatch h), fun _ h => (nomatch h), Nat.le_refl _⟩
theorem KnI.skip {pre : List (Nat × Nat × Nat)} {kn : Kn} {t : Nat × Nat × Nat} (h : KnI pre kn) (ht : t.2.2 = 0 ∨ (valG kn t.2.2).isSome = true) : KnI (pre ++ [t]) kn := by
  refine ⟨h.nd, fun z hz => ?_, fun u hu hn => ?_, by rw [List.length_append]; have := h.ln; omega⟩
  · obtain ⟨h1, h2, h3, u, hu, e⟩ := h.ok z hz
    exact ⟨h1, h2, h3, u, List.mem_append_left _ hu, e⟩
  · rcases List.mem_append.mp hu with hu | hu
    · exact h.al u hu hn
    · rw [List.mem_singleton.mp hu] at hn ⊢
      rcases ht with e | e
      · exact absurd e hn
      · obtain ⟨z, hz, e2⟩ := List.mem_map.mp (valG_some.mp e)
        exact ⟨z, hz, e2⟩
theorem KnI.add {pre : List (Nat × Nat × Nat)} {kn : Kn} {t : Nat × Nat × Nat} {l : List (Nat × Nat)} (h : KnI pre kn) (h0 : 0 < t.2.2) (h1 : t.2.2 ≤ 1000000) (hn : valG kn t.2.2 = none) (hl : PPs t.2.2 l) : KnI (pre ++ [t]) (kn ++ [(t.2.2, l)]) := by
  refine ⟨?_, fun z hz => ?_, fun u hu hn => ?_, by rw [List.length_append, List.length_append, List.length_singleton, List.length_singleton]; have := h.ln; omega⟩
  · rw [List.map_append, List.nodup_append]
    refine ⟨h.nd, by simp, fun a ha b hb e => ?_⟩
    have hb' : b = t.2.2 := by simpa using hb
    subst e
    rw [hb'] at ha
    exact valG_none.mp hn ha
  · rcases List.mem_append.mp hz with hz | hz
    · obtain ⟨h1, h2, h3, u, hu, e⟩ := h.ok z hz
      exact ⟨h1, h2, h3, u, List.mem_append_left _ hu, e⟩
    · rw [List.mem_singleton.mp hz]
      exact ⟨h0, h1, hl, t, List.mem_append_right _ List.mem_cons_self, rfl⟩
  · rcases List.mem_append.mp hu with hu | hu
    · obtain ⟨z, hz, e⟩ := h.al u hu hn
      exact ⟨z, List.mem_append_left _ hz, e⟩
    · rw [List.mem_singleton.mp hu]
      exact ⟨_, List.mem_append_right _ List.mem_cons_self, rfl⟩
theorem KnI.val {pre : List (Nat × Nat × Nat)} {kn : Kn} {z : Nat × List (Nat × Nat)} (h : KnI pre kn) (hz : z ∈ kn) : valG kn z.1 = some z.2 := valG_nodup h.nd hz
/-- every power of a prime -/
def prN (x : Nat × Nat) : Int × Int := ((x.1 : Int), (x.2 : Int))
theorem prN_inj {x y : Nat × Nat} (h : prN x = prN y) : x = y := by
  have h1 := congrArg Prod.fst h
  have h2 := congrArg Prod.snd h
  exact Prod.ext (Int.ofNat_inj.mp h1) (Int.ofNat_inj.mp h2)
theorem prK_inj {x y : Int × Int} (h : prK x = prK y) : x = y := by
  unfold prK at h
  injection h with h1 h2
  injection h2 with h2 _
  exact Prod.ext (Sum.inl.inj h1) (Sum.inl.inj h2)
def evD (ev : List (Nat × Nat)) : List (List Key × D) := ev.map fun x => (prK (prN x), .bl true)
theorem evD_len {ev : List (Nat × Nat)} : (evD ev).length = ev.length := by unfold evD; rw [List.length_map]
theorem evD_keys {ev : List (Nat × Nat)} : (evD ev).map (·.1) = (ev.map prN).map prK := by unfold evD; rw [List.map_map, List.map_map]; rfl
def insN (ev : List (Nat × Nat)) (x : Nat × Nat) : List (Nat × Nat) := if x ∈ ev then ev else ev ++ [x]
theorem evD_put {ev : List (Nat × Nat)} {x : Nat × Nat} : putG (evD ev) (prK (prN x)) (.bl true) = evD (insN ev x) := by
  unfold putG insN
  by_cases e : x ∈ ev
  · rw [if_pos e, if_pos]
    · unfold evD
      rw [List.map_map]
      refine List.map_congr_left fun y _ => ?_
      show (if prK (prN y) = prK (prN x) then (prK (prN y), D.bl true) else (prK (prN y), D.bl true)) = _
      split <;> rfl
    · rw [List.any_eq_true]
      exact ⟨(prK (prN x), .bl true), List.mem_map.mpr ⟨x, e, rfl⟩, decide_eq_true rfl⟩
  · rw [if_neg e, if_neg]
    · unfold evD
      rw [List.map_append]
      rfl
    · rw [List.any_eq_true]
      rintro ⟨p, hp, e2⟩
      obtain ⟨y, hy, rfl⟩ := List.mem_map.mp hp
      have e3 : prK (prN y) = prK (prN x) := of_decide_eq_true e2
      exact e (prN_inj (prK_inj e3) ▸ hy)
structure EvI (zs : Kn) (xs : List (Nat × Nat)) (ev : List (Nat × Nat)) : Prop where
  nd : ev.Nodup
  mem : ∀ x, x ∈ ev ↔ (∃ z ∈ zs, x ∈ z.2) ∨ x ∈ xs
  len : ev.length ≤ 20 * zs.length + xs.length
  pos : ∀ x ∈ ev, 0 < x.1
  prod : prodP ev ≤ 1000000 ^ zs.length * prodP xs
theorem prodP_app : ∀ (a b : List (Nat × Nat)), prodP (a ++ b) = prodP a * prodP b
  | [], b => by show prodP b = 1 * prodP b; rw [Nat.one_mul]
  | x :: a, b => by
    show x.1 * prodP (a ++ b) = x.1 * prodP a * prodP b
    rw [prodP_app a b, Nat.mul_assoc]
theorem prodP_pos : ∀ {l : List (Nat × Nat)}, (∀ x ∈ l, 0 < x.1) → 0 < prodP l
  | [], _ => Nat.one_pos
  | x :: l, h => Nat.mul_pos (h x List.mem_cons_self) (prodP_pos fun y hy => h y (List.mem_cons_of_mem _ hy))
theorem prodP_filter {p : Nat × Nat → Bool} : ∀ {l : List (Nat × Nat)}, (∀ x ∈ l, 0 < x.1) → prodP (l.filter p) ≤ prodP l
  | [], _ => Nat.le_refl _
  | x :: l, h => by
    have ih := prodP_filter (p := p) (l := l) fun y hy => h y (List.mem_cons_of_mem _ hy)
    rw [List.filter_cons]
    split
    · exact Nat.mul_le_mul (Nat.le_refl _) ih
    · exact Nat.le_trans ih (Nat.le_mul_of_pos_left _ (h x List.mem_cons_self))
theorem EvI.nil : EvI [] [] [] := ⟨.nil, fun x => by simp, by simp, fun _ h => (nomatch h), by simp [prodP]⟩
theorem EvI.step {zs : Kn} {xs ev : List (Nat × Nat)} {x : Nat × Nat} (h : EvI zs xs ev) (hx : 0 < x.1) : EvI zs (xs ++ [x]) (insN ev x) := by
  have hp : prodP (xs ++ [x]) = prodP xs * x.1 := by rw [prodP_app]; show _ * (x.1 * 1) = _; rw [Nat.mul_one]
  unfold insN
  by_cases e : x ∈ ev
  · rw [if_pos e]
    refine ⟨h.nd, fun y => ?_, by rw [List.length_append]; have := h.len; omega, h.pos, ?_⟩
    · rw [h.mem, List.mem_append, List.mem_singleton]
      constructor
      · rintro (z | z)
        · exact .inl z
        · exact .inr (.inl z)
      · rintro (z | z | z)
        · exact .inl z
        · exact .inr z
        · rw [z]; exact (h.mem x).mp e
    · rw [hp, ← Nat.mul_assoc]
      exact Nat.le_trans h.prod (Nat.le_mul_of_pos_right _ hx)
  · rw [if_neg e]
    refine ⟨?_, fun y => ?_, ?_, fun y hy => ?_, ?_⟩
    · rw [List.nodup_append]
      refine ⟨h.nd, by simp, fun a ha b hb q => ?_⟩
      rw [List.mem_singleton.mp hb] at q
      exact e (q ▸ ha)
    · rw [List.mem_append, h.mem, List.mem_append, List.mem_singleton, or_assoc]
    · rw [List.length_append, List.length_append, List.length_singleton]
      have := h.len
      omega
    · rcases List.mem_append.mp hy with hy | hy
      · exact h.pos y hy
      · rw [List.mem_singleton.mp hy]; exact hx
    · rw [hp, prodP_app, ← Nat.mul_assoc]
      show prodP ev * (x.1 * 1) ≤ _
      rw [Nat.mul_one]
      exact Nat.mul_le_mul h.prod (Nat.le_refl _)
theorem EvI.next {zs : Kn} {z : Nat × List (Nat × Nat)} {ev : List (Nat × Nat)} (h : EvI zs z.2 ev) (h0 : 0 < z.1) (h1 : z.1 ≤ 1000000) (hz : PPs z.1 z.2) : EvI (zs ++ [z]) [] ev := by
  refine ⟨h.nd, fun y => ?_, ?_, h.pos, ?_⟩
  · rw [h.mem]
    constructor
    · rintro (⟨u, hu, q⟩ | q)
      · exact .inl ⟨u, List.mem_append_left _ hu, q⟩
      · exact .inl ⟨z, List.mem_append_right _ List.mem_cons_self, q⟩
    · rintro (⟨u, hu, q⟩ | q)
      · rcases List.mem_append.mp hu with hu | hu
        · exact .inl ⟨u, hu, q⟩
        · rw [List.mem_singleton.mp hu] at q; exact .inr q
      · cases q
  · have := h.len
    have := pps_short h0 h1 hz
    rw [List.length_append, List.length_singleton]
    show _ ≤ _ + 0
    omega
  · rw [List.length_append, List.length_singleton, Nat.pow_succ]
    show prodP ev ≤ 1000000 ^ zs.length * 1000000 * 1
    rw [Nat.mul_one]
    refine Nat.le_trans h.prod (Nat.mul_le_mul (Nat.le_refl _) ?_)
    rw [pps_prod z.1 h0 z.2 hz]
    exact h1
/-- the table: the product of the primes whose powers tie the two points -/
noncomputable def cB (ts : List (Nat × Nat × Nat)) (q i j : Nat) : Bool := @decide (Conn ts q i j) (Classical.propDecidable _)
theorem cB_iff {ts : List (Nat × Nat × Nat)} {q i j : Nat} : cB ts q i j = true ↔ Conn ts q i j := @decide_eq_true_iff _ (Classical.propDecidable _)
theorem cB_no {ts : List (Nat × Nat × Nat)} {q i j : Nat} (h : ¬ Conn ts q i j) : cB ts q i j = false := by
  cases e : cB ts q i j with
  | false => rfl
  | true => exact absurd (cB_iff.mp e) h
noncomputable def tblM (ts : List (Nat × Nat × Nat)) (l : List (Nat × Nat)) : Nat → Nat → Nat := fun i j => prodP (l.filter fun x => cB ts x.2 i j)
noncomputable def endM (ts : List (Nat × Nat × Nat)) (l : List (Nat × Nat)) : Nat → Nat → Nat := fun i j => if cB ts 0 i j = true then 0 else tblM ts l i j
theorem tblM_nil {ts : List (Nat × Nat × Nat)} : tblM ts [] = fun _ _ => 1 := rfl
theorem tblM_hit {ts : List (Nat × Nat × Nat)} {l : List (Nat × Nat)} {x : Nat × Nat} {i j : Nat} (h : Conn ts x.2 i j) : tblM ts (l ++ [x]) i j = tblM ts l i j * x.1 := by
  unfold tblM
  rw [List.filter_append, prodP_app, List.filter_cons, if_pos (cB_iff.mpr h)]
  show _ * (x.1 * 1) = _
  rw [Nat.mul_one]
theorem tblM_miss {ts : List (Nat × Nat × Nat)} {l : List (Nat × Nat)} {x : Nat × Nat} {i j : Nat} (h : ¬ Conn ts x.2 i j) : tblM ts (l ++ [x]) i j = tblM ts l i j := by
  unfold tblM
  rw [List.filter_append, prodP_app, List.filter_cons, if_neg (by rw [cB_no h]; decide)]
  show _ * 1 = _
  rw [Nat.mul_one]
theorem tblM_le {ts : List (Nat × Nat × Nat)} {pre post : List (Nat × Nat)} {i j : Nat} (h : ∀ x ∈ pre ++ post, 0 < x.1) : tblM ts pre i j ≤ prodP (pre ++ post) := by
  refine Nat.le_trans (prodP_filter fun x hx => h x (List.mem_append_left _ hx)) ?_
  rw [prodP_app]
  exact Nat.le_mul_of_pos_right _ (prodP_pos fun x hx => h x (List.mem_append_right _ hx))
theorem endM_is {n i j : Nat} {ts : List (Nat × Nat × Nat)} {kn : Kn} {ev l : List (Nat × Nat)} (hn : InN n ts) (hi : i < n) (hj : j < n) (hk : KnI ts kn) (he : EvI kn [] ev) (hl : l.Perm ev) : endM ts l i j = closeM n ts i j := by
  unfold endM
  by_cases h0 : Conn ts 0 i j
  · rw [if_pos (cB_iff.mpr h0), bond_zero hn hi h0]
  · rw [if_neg (by rw [cB_no h0]; decide)]
    unfold tblM
    refine bond_primes hn hi hj (hl.nodup_iff.mpr he.nd) (fun p q => ?_) (fun q => cB ts q i j) (fun x _ => cB_iff) h0
    rw [hl.mem_iff, he.mem]
    constructor
    · rintro (⟨z, hz, hx⟩ | hx)
      · obtain ⟨h1, h2, h3, t, ht, e⟩ := hk.ok z hz
        obtain ⟨a, b, c⟩ := (h3.mem p q).mp hx
        exact ⟨a, b, t, ht, by omega, by rw [e]; exact c⟩
      · cases hx
    · rintro ⟨a, b, t, ht, h1, h2⟩
      obtain ⟨z, hz, e⟩ := hk.al t ht h1
      exact .inl ⟨z, hz, ((hk.ok z hz).2.2.1.mem p q).mpr ⟨a, b, by rw [e]; exact h2⟩⟩
def scanM (i j : Nat) (M N : Nat → Nat → Nat) : Nat → Nat → Nat := fun a b => if a < i ∨ (a = i ∧ b < j) then N a b else M a b
theorem scan_0 {M N : Nat → Nat → Nat} : scanM 0 0 M N = M := by funext a b; unfold scanM; rw [if_neg (by omega)]
theorem scan_here {i j : Nat} {M N : Nat → Nat → Nat} : scanM i j M N i j = M i j := by unfold scanM; rw [if_neg (by omega)]
theorem scan_put {i j v : Nat} {M N : Nat → Nat → Nat} (h : v = N i j) : upd2 (scanM i j M N) i j v = scanM i (j + 1) M N := by
  subst h
  funext a b
  unfold upd2 scanM
  by_cases e : a = i ∧ b = j
  · obtain ⟨rfl, rfl⟩ := e
    rw [if_pos ⟨rfl, rfl⟩, if_pos (by omega)]
  · rw [if_neg e]
    by_cases h : a < i ∨ (a = i ∧ b < j)
    · rw [if_pos h, if_pos (by omega)]
    · rw [if_neg h, if_neg (by omega)]
theorem scan_skip {i j : Nat} {M N : Nat → Nat → Nat} (h : M i j = N i j) : scanM i (j + 1) M N = scanM i j M N := by
  funext a b
  unfold scanM
  by_cases e : a = i ∧ b = j
  · obtain ⟨rfl, rfl⟩ := e
    rw [if_pos (by omega), if_neg (by omega), h]
  · by_cases h : a < i ∨ (a = i ∧ b < j)
    · rw [if_pos h, if_pos (by omega)]
    · rw [if_neg h, if_neg (by omega)]
theorem scan_row {n i : Nat} {M N : Nat → Nat → Nat} (a b : Nat) (hb : b < n) : scanM i n M N a b = scanM (i + 1) 0 M N a b := by
  unfold scanM
  by_cases h : a < i ∨ (a = i ∧ b < n)
  · rw [if_pos h, if_pos (by omega)]
  · rw [if_neg h, if_neg (by omega)]
theorem scan_end {n : Nat} {M N : Nat → Nat → Nat} (a b : Nat) (ha : a < n) : scanM n 0 M N a b = N a b := by unfold scanM; rw [if_pos (by omega)]
end DL

set_option Elab.async false
set_option linter.all false
set_option maxRecDepth 100000
set_option maxHeartbeats 2000000
namespace DL
open PySem PySem.Spec PyProof.Rows L2
structure XoC (K : PySem.W.Frag) (C : Addr) : Prop where
  q : PySem.W.excIn K C [.type "ValueError", .type "Exception", .type "BaseException", .type "object"] "ValueError.__new__" = true
  k : PySem.W.keepIn K (.ref C) = true
  b : PySem.W.subIn K (.ref C) (.type "BaseException") = some true
  t : PySem.W.typeIn K (.ref C) = some (.type "type")
structure Xo (X : Cz) (x : Str) (C : Addr) : Prop where
  T : XoC X.K C
  gl : Gl X x
  mg : X.mg x = some (.ref C)
theorem Ctx.xo {X : Cz} {P : Program} {w : World} {K : PySem.W.Frag} {mg : Str → Option Value} {base : Heap} {k : Nat} {N : List Str} {sc : Scope} (h : Ctx X P w K mg base k N sc) {x : Str} {C : Addr} (c : XoC K C) (m : mg x = some (.ref C)) (b : glB sc x = true) : Xo X x C :=
  ⟨by rw [h.K]; exact c, by show X.env.scope.names.lookup x = _; rw [h.sc]; exact (glB_ok b).1, by rw [h.mg]; exact m⟩
theorem ws_raise0 {X : Cz} {Γ : Gm} {μ : Mu} {k : Kt} {x m : Str} {C : Addr} {j : Nat} {p0 p1 pos p2 : Pos} (hc : X.calm = true) (T : Xo X x C) (q : X.xd Γ μ ⟨.ref C, []⟩) (db : (x == ("__debug__" : Str)) = false := by decide) :
    WS X (.Raise (some (.Call (.Name x p0) [.Constant (.str m) j p1] [] pos)) none p2) Γ μ k := fun Z σ H en ok tk => by
  refine toSS (ps_raise hc tk (pmk_own PySem.F.excBase_ValueError T.T.q T.mg T.T.k (raises_own T.T.b T.T.t) T.gl db)) ?_
  exact ⟨Γ, μ, ⟨.ref C, []⟩, Go.refl ok, en, (rfl : ([] : List (Str × D)) = []), rfl, q⟩
end DL

set_option Elab.async false
set_option linter.all false
set_option maxRecDepth 100000
set_option maxHeartbeats 2000000
namespace InI
open PySem PySem.W PySem.Calls PyProof.Rows AutoSeq1
section
variable {prog : Program} {w : World} {A : Around} {E : Value → Shared → Prop} {s : Shared} {K : Frag} {h₀ : Heap} {L : Addr} {m : Str → Option Value} {x C f : Addr} {ox : Obj} {od : Option Obj}
theorem rc_decl {y : Value} {T id : String} {Q : Value → Shared → Prop} (hu : A.units < cLine) (F : Fr h₀ L s.heap m) (X₀ : K.In h₀) (I : PySem.W.InstAt s.heap x ox C od) (hT : s.TypeIs y T)
    (h1 : oneThing? .Eq y (.ref x) = none) (hsub : subIn K (.ref C) (.type T) = some false) (slot : Slot T (cmpInfo .Eq).2.1 id)
    (dec : ∀ Q' : Value → Shared → Prop, Q' .notImplemented s → wpAny (model prog w) A (call (.builtin id) [y, .ref x]) Q' E s)
    (hs : findIn K (.ref C) "__eq__" = some (some (.ref f))) (hf : isFn K (.ref f) = true)
    (h : wpAny (model prog w) A (call (.ref f) [.ref x, y]) (PySem.W.CmpBack Q) E s) : wpAny (model prog w) A (richCompare .Eq y (.ref x)) Q E s := by
  have X := X₀.keeps F.keep
  have one : wpAny (model prog w) A (tryCompare (.ref x) (cmpInfo .Eq).2.2 y) (fun r s' => ∃ v, r = some v ∧ Q v s') E s := by
    unfold tryCompare
    refine wpAny_bind (ifBound_K X I hs hf (wpAny_mono h (fun v s' hv => ?_) fun _ _ e => e))
    cases v <;> first | exact hv.elim | exact wpAny_pure ⟨_, rfl, hv⟩
  unfold richCompare
  simp only [h1]
  refine wpAny_holding (wpAny_bind (wpAny_cRoomFor hu ?_))
  refine wpAny_bind (wpAny_typeOf hT (wpAny_bind (I.type.here ?_)))
  have hne : (Value.type T != Value.ref C) = true ∨ (Value.ref C != Value.type T) = true := .inr (by simp)
  split
  · refine wpAny_bind ((looks_subIn X hsub).here ?_)
    simp only [Bool.false_eq_true, if_false, Bool.not_false, if_true]
    refine wpAny_bind (wpAny_tryCompare_declines hT slot (dec _ ⟨rfl, ?_⟩))
    refine wpAny_bind (wpAny_mono one (fun r s' z => ?_) fun _ _ e => e)
    obtain ⟨v, rfl, hq⟩ := z
    exact wpAny_pure hq
  · rename_i q
    exact (q (by simp)).elim
/-- y is no instance: == is asked of x -/
theorem eq_decl {y : Value} {Q : Bool → Shared → Prop} (hne : (y == Value.ref x) = false)
    (h : wpAny (model prog w) A (richCompare .Eq y (.ref x)) (fun v s' => ∃ r, v = .bool r ∧ Q r s') E s) : wpAny (model prog w) A (eqBool y (.ref x)) Q E s := by
  unfold eqBool
  refine wpAny_holding ?_
  rw [if_neg (by rw [hne]; decide)]
  cases y
  all_goals
    refine wpAny_bind (wpAny_mono h (fun v s' hv => ?_) fun _ _ x => x)
    obtain ⟨r, rfl, q⟩ := hv
    exact wpAny_truthy_bool q
theorem dec_none {Q' : Value → Shared → Prop} (h : Q' .notImplemented s) : wpAny (model prog w) A (call (.builtin "NoneType.__eq__") [.none, .ref x]) Q' E s := by
  refine GQ.call_here F.slot_NoneType_eq rfl F.entry_NoneType_eq (F.args_NoneType_eq_2 _ _) ?_
  obtain ⟨hp, g, d, tk, os⟩ := s
  wp_walk
  exact h
theorem dec_int {i : Int} {t : Tok} {o : Obj} (ho : s.heap.get? x = some o) (hi : ∀ j u, o.data ≠ .prim (.int j u)) {Q' : Value → Shared → Prop} (h : Q' .notImplemented s) : wpAny (model prog w) A (call (.builtin "int.__eq__") [.int i t, .ref x]) Q' E s := by
  refine GQ.call_here F.slot_int_eq rfl F.entry_int_eq (F.args_int_eq_2 _ _) ?_
  obtain ⟨hp, g, d, tk, os⟩ := s
  wp_walk using wpAny_loadPart' ho, wpAny_load ho
  split
  · rename_i q
    exact (hi _ _ q).elim
  · wp_walk
    exact h
theorem dec_list {l : Addr} {items : Array Value} {n : Nat} (hl : s.heap.get? l = some { cls := .type "list", data := .seq items n }) (hx : Looks (model prog w) s.heap (isInstance (.ref x) (.type "list")) false) {Q' : Value → Shared → Prop} (h : Q' .notImplemented s) : wpAny (model prog w) A (call (.builtin "list.__eq__") [.ref l, .ref x]) Q' E s := by
  refine GQ.call_here F.slot_list_eq ⟨_, hl, rfl⟩ F.entry_list_eq (F.args_list_eq_2 _ _) ?_
  obtain ⟨hp, g, d, tk, os⟩ := s
  have hx' : ∀ {A : Around} {Q : Bool → Shared → Prop} {E : Value → Shared → Prop}, Q false ⟨hp, g, d, tk, os⟩ → wpAny (model prog w) A (isInstance (.ref x) (.type "list")) Q E ⟨hp, g, d, tk, os⟩ := fun q => hx.here q
  wp_walk using wpAny_loadPart' hl, hx'
  exact h
end
section
variable {prog : Program} {w : World} {A : Around} {R : Result → Shared → Prop}
theorem in_loopG (l : Addr) (x : Value) (N : Nat) (I : Nat → Shared → Prop)
    (hl : ∀ i s, I i s → ∃ (items : Array Value) (n : Nat), s.heap.get? l = some { cls := .type "list", data := .seq items n } ∧ items.size = N ∧
      ∀ h1 : i < items.size, wpAny (model prog w) A.in1 (eqBool items[i] x) (fun r s' => r = false ∧ I (i + 1) s') (fun e s' => R (.error e) s') s)
    (fin : ∀ s, I N s → R (.ok (.ret (.bool false))) s) (k : Nat) :
    ∀ i : Nat, N - i = k → i ≤ N → ∀ s, I i s →
      wpAny (model prog w) A.in1 (Builtin.«list.__contains__.loop» ⟨[.ref l, x, rawInt i], []⟩) (GQ.FinOf prog w A R) (fun e s' => R (.error e) s') s := by
  induction k with
  | zero =>
    intro i hk hi s h
    obtain ⟨items, n, hl1, hs1, _⟩ := hl _ _ h
    have hi' : i = N := by omega
    have hR : R (.ok (.ret (.bool false))) s := fin s (hi' ▸ h)
    obtain ⟨hp, g, d, tk, os⟩ := s
    wp_walk using wpAny_loadPart' hl1
    have hi1 : items[((i : Nat) : Int).toNat]? = none := by simp; omega
    rw [hi1]
    wp_walk
    exact hR
  | succ k ih =>
    intro i hk hi s h
    obtain ⟨items, n, hl1, hs1, turn⟩ := hl _ _ h
    have hlt : i < items.size := by omega
    have ht := turn hlt
    obtain ⟨hp, g, d, tk, os⟩ := s
    wp_walk using wpAny_loadPart' hl1
    have hi1 : items[((i : Nat) : Int).toNat]? = some items[i] := by simp [hlt]
    have hc : ((i : Int) + 1) = ((i + 1 : Nat) : Int) := by omega
    rw [hi1]
    refine wpAny_bind (wpAny_mono ht (fun r s2 h2 => ?_) fun _ _ x => x)
    obtain ⟨hr, h2⟩ := h2
    subst hr
    have hrec := ih (i + 1) (by omega) (by omega) s2 h2
    obtain ⟨hp2, g2, d2, tk2, os2⟩ := s2
    wp_walk
    rw [hc]
    exact ⟨plainId_quiet MeetsSeq.plain_contains_loop _, codeAny_builtin MeetsSeq.entry_contains_loop (by
      rw [Around.under_plainId MeetsSeq.plain_contains_loop _]
      exact hrec)⟩
theorem in_listG (l : Addr) (x : Value) (N : Nat) (I : Nat → Shared → Prop)
    (hl : ∀ i s, I i s → ∃ (items : Array Value) (n : Nat), s.heap.get? l = some { cls := .type "list", data := .seq items n } ∧ items.size = N ∧
      ∀ h1 : i < items.size, wpAny (model prog w) A.in1 (eqBool items[i] x) (fun r s' => r = false ∧ I (i + 1) s') (fun e s' => R (.error e) s') s)
    (fin : ∀ s, I N s → R (.ok (.ret (.bool false))) s) {s : Shared} (h : I 0 s) :
    wpAny (model prog w) A.in1 (Builtin.«list.__contains__» ⟨[.ref l, x], []⟩) (GQ.FinOf prog w A R) (fun e s' => R (.error e) s') s := by
  obtain ⟨items, n, hl1, hs1, _⟩ := hl _ _ h
  have hrec := in_loopG (A := A) (R := R) l x N I hl fin _ 0 rfl (Nat.zero_le _) s h
  obtain ⟨hp, g, d, tk, os⟩ := s
  wp_walk using wpAny_loadPart' hl1
  exact ⟨plainId_quiet MeetsSeq.plain_contains_loop _, codeAny_builtin MeetsSeq.entry_contains_loop (by
    rw [Around.under_plainId MeetsSeq.plain_contains_loop _]
    exact hrec)⟩
end
end InI
namespace DL
open PySem PySem.Spec PyProof.Rows L2
/-- what is no instance -/
def OthV (H : Hp) (z : V) : Prop := z = .non ∨ (∃ i, z = .int i) ∨ ∃ p xs, z = .ref p ∧ Rd H p (.lst xs)
structure SubF (K : PySem.W.Frag) (C : Addr) : Prop where
  hl : PySem.W.subIn K (.ref C) (.type "list") = some false
  hn : PySem.W.subIn K (.ref C) (.type "NoneType") = some false
  hi : PySem.W.subIn K (.ref C) (.type "int") = some false
def rInI (C : Addr) (sp : Sp) : R2 := fun x y H Q => ∃ (a l : Addr) (xs : List V) (J : Hp → Prop), x = .ref a ∧ y = .ref l ∧ J H ∧ (∀ H, J H → (∃ dx fs, H a = some (.ins C dx fs)) ∧ Rd H l (.lst xs) ∧ ∀ z ∈ xs, OthV H z ∧ sp [.ref a, z] H (fun v H' => v = .bl false ∧ J H') E0) ∧ ∀ H, J H → Q (.bl false) H
theorem op_inI {X : Cx} {n : Nat} {f C : Addr} {fd : FuncData} {ps : List Str} {sp : Sp} (S : SubF X.K C) (hs : PySem.W.findIn X.K (.ref C) "__eq__" = some (some (.ref f))) (hf : PySem.W.isFn X.K (.ref f) = true) (F : FnOk X.prog X.w X.K X.mg X.base (L2.CX X.prog X.w) n f fd ps sp) (hb : Binds X.K fd ps []) (hr : Room (n + 1) X.A) : OpR X (compareOp .In) (rInI C sp) := by
  intro pins s σ H x y v u Q I rx ry h
  obtain ⟨a, l, xs, J, rfl, rfl, h0, hJ, q⟩ := h
  cases rx
  cases ry
  have hz0 : ∃ its n, Vals xs its ∧ s.heap.get? l = some { cls := .type "list", data := .seq its.toArray n } := by
    obtain ⟨_, hl, _⟩ := hJ H h0
    obtain ⟨z, its, n, r, e⟩ := hl.ok I.hok
    exact ⟨its, n, r, e⟩
  obtain ⟨its0, n0, rv0, e0⟩ := hz0
  show wpAny _ _ (do return Value.bool (← contains (Value.ref l) (Value.ref a))) _ _ s
  refine wpAny_bind (wpAny_contains_slot ⟨_, e0, rfl⟩ PySem.F.slot_list_contains (GQ.call_here PySem.F.slot_list_contains ⟨_, e0, rfl⟩ PySem.F.entry_list_contains (PySem.F.args_list_contains_2 _ _) ?_))
  refine InI.in_listG (A := X.A) l (.ref a) xs.length (fun i s' => ∃ H', Inv X pins σ H' s' ∧ J H') (fun i s' hs' => ?_) (fun s' hs' => ?_) ⟨H, I, h0⟩
  · obtain ⟨H', I', hJ'⟩ := hs'
    obtain ⟨⟨dx, fs, ha⟩, hl, hx⟩ := hJ H' hJ'
    obtain ⟨z, its, cap, r, e⟩ := hl.ok I'.hok
    refine ⟨its.toArray, cap, e, by rw [List.size_toArray, ← r.length], fun h1 => ?_⟩
    have hil : i < xs.length := by rw [r.length]; simpa using h1
    obtain ⟨u, hu, ru⟩ := r.get (List.getElem?_eq_getElem hil)
    have hu' : its.toArray[i] = u := by
      have h1' : i < its.length := by simpa using h1
      rw [List.getElem?_eq_getElem h1'] at hu
      simpa using Option.some.inj hu
    rw [hu']
    obtain ⟨ho, hsp⟩ := hx _ (List.getElem_mem hil)
    obtain ⟨mA, Jx, _⟩ := ins_get I'.hok ha
    obtain ⟨od, Jx, _⟩ := Jx.look
    obtain ⟨m, hF⟩ := I'.fr
    have hrA : Room n X.A.in1 := hr.in1
    have hl2 := F.len _ _ _ _ hsp
    have ev : Env0 X.prog X.w X.K X.mg X.base X.A.in1 X.stack s' H' := by
      have e := I'.env0
      exact ⟨e.frames, e.mod, e.bs, e.bsz, e.funs, e.frf, e.hok, e.bare⟩
    have hcall : ∀ {T id : String}, RelV xs[i] u → wpAny (model X.prog X.w) X.A.in1 (call (.ref f) [.ref a, u]) (PySem.W.CmpBack fun v s2 => ∃ r, v = .bool r ∧ r = false ∧ ∃ H', Inv X pins σ H' s2 ∧ J H') X.xe s' := fun {T id} rz => by
      have r2 : Vals [V.ref a, xs[i]] [Value.ref a, u] := .cons rfl (.cons rz .nil)
      refine wpAny_call (codeAny_mono (F.run X.A.in1 X.stack s' H' ⟨[.ref a, u], []⟩ [.ref a, u] [.ref a, xs[i]] _ E0 hrA ev (by
        have := hb s' [.ref a, u] I'.kIn (by simpa using hl2)
        simpa using this) r2 hsp) fun r s2 hq => ?_)
      cases r with
      | error e => exact (passL (X := X) pins σ H' s' e s2 I' hq)
      | ok fl =>
        cases fl with
        | ret w =>
          obtain ⟨z, H2, I2, rz2, ez, hj⟩ := I'.after hq
          subst ez
          cases rz2
          exact ⟨false, rfl, rfl, H2, I2, hj⟩
        | next => exact False.elim hq
        | brk => exact False.elim hq
        | cont => exact False.elim hq
    have hu0 : X.A.in1.units < cLine := hrA.units0
    have hxi : PySem.W.Looks (model X.prog X.w) s'.heap (isInstance (.ref a) (.type "list")) false := Jx.type.andThen (PySem.W.looks_subIn I'.kIn S.hl)
    rcases ho with ho | ⟨j, ho⟩ | ⟨p, ys, ho, hp⟩
    · rw [ho] at ru
      cases ru
      refine InI.eq_decl (by rfl) (InI.rc_decl hu0 hF I'.ok.mod.kin Jx rfl rfl S.hn PySem.F.slot_NoneType_eq (fun Q' h => InI.dec_none h) hs hf ?_)
      exact hcall (T := "") (id := "") (by rw [ho]; exact rfl)
    · rw [ho] at ru
      obtain ⟨t, rfl⟩ := ru
      obtain ⟨_, _, _, ea, _⟩ := (show ObjOk X.prog X.w H' s'.heap a (.ins C dx fs) from I'.hok a _ ha)
      refine InI.eq_decl (by rfl) (InI.rc_decl hu0 hF I'.ok.mod.kin Jx rfl rfl S.hi PySem.F.slot_int_eq (fun Q' h => InI.dec_int ea (fun _ _ z => by cases z) h) hs hf ?_)
      exact hcall (T := "") (id := "") (by rw [ho]; exact ⟨t, rfl⟩)
    · rw [ho] at ru
      cases ru
      obtain ⟨_, _, _, ea, _⟩ := (show ObjOk X.prog X.w H' s'.heap a (.ins C dx fs) from I'.hok a _ ha)
      obtain ⟨_, its2, cap2, _, ep⟩ := hp.ok I'.hok
      have hne : p ≠ a := fun e => by
        rw [e, ea] at ep
        have := congrArg Obj.cls (Option.some.inj ep)
        cases this
      refine InI.eq_decl (by simpa using hne) (InI.rc_decl hu0 hF I'.ok.mod.kin Jx ⟨_, ep, rfl⟩ rfl S.hl PySem.F.slot_list_eq (fun Q' h => InI.dec_list ep hxi h) hs hf ?_)
      exact hcall (T := "") (id := "") (by rw [ho]; exact rfl)
  · obtain ⟨H', I', hJ'⟩ := hs'
    exact wpAny_truthy_bool (wpAny_pure ⟨.bl false, H', I', rfl, q H' hJ'⟩)
structure Cin (X : Cz) (C : Addr) (s : Spc) : Prop where
  mono : s.Mono
  F : SubF X.K C
  ex : ∃ k f fd ps, Meth X.K C "__eq__" f ∧ FnOk X.prog X.w X.K X.mg X.base (L2.CX X.prog X.w) k f fd ps (lift X.K s) ∧ Room (k + 1) X.A ∧ Binds X.K fd ps []
theorem Ctx.cin {X : Cz} {P : Program} {w : World} {K : PySem.W.Frag} {mg : Str → Option Value} {base : Heap} {k : Nat} {N : List Str} {sc : Scope} (h : Ctx X P w K mg base k N sc) {C : Addr} {j : Nat} {s : Spc} (S : SubF K C) (c : GCm P w K mg base C "__eq__" j s) (l : j + 1 ≤ k) : Cin X C s := by
  obtain ⟨f, fd, ps, cl, M, F, hb, mo⟩ := c
  obtain ⟨rfl, rfl, rfl, rfl, rfl, rfl, rfl, _, hr, _⟩ := h
  exact ⟨mo, S, ⟨j, f, fd, ps, M, F, hr.mono l, hb⟩⟩
def othD (d : D) : Bool := match d with
  | .non => true
  | .int _ => true
  | .lst _ => true
  | _ => false
theorem oth_is {K : PySem.W.Frag} {A : Addr → Prop} {H : Hp} {v : V} {d : D} (i : Is K A H v d) (h : othD d = true) : OthV H v := by
  cases i with
  | non => exact .inl rfl
  | int j => exact .inr (.inl ⟨_, rfl⟩)
  | lst hl t => exact .inr (.inr ⟨_, _, rfl, hl.2⟩)
  | _ => simp [othD] at h
theorem isA_mem {K : PySem.W.Frag} {A : Addr → Prop} {H : Hp} : ∀ {vs : List V} {ds : List D}, IsA K A H vs ds → ∀ v ∈ vs, ∃ d ∈ ds, Is K A H v d
  | _, _, .nil, _, m => nomatch m
  | _, _, .cons h t, v, m => by
    rcases List.mem_cons.mp m with rfl | m
    · exact ⟨_, List.mem_cons_self, h⟩
    · obtain ⟨d, h1, h2⟩ := isA_mem t v m
      exact ⟨d, List.mem_cons_of_mem _ h1, h2⟩
theorem wt_inI {X : Cz} {Γ : Gm} {μ : Mu} {a b : Expr} {pos : Pos} {Q : Mu → Bool → Prop} {C : Addr} {s : Spc} (T : Cin X C s) (h : WE X a Γ μ fun μ1 x => WE X b Γ μ1 fun μ2 y => ∃ gs ds, InsAt μ2 x C gs ∧ y = .lst ds ∧ (∀ z ∈ ds, othD z = true ∧ ∀ R : Mu → D → Prop, R μ2 (.bl false) → s [x, z] μ2 R (fun _ _ => False)) ∧ Q μ2 false)
    (hm : behindInMarks .In b = false := by rfl) : WT X (.Compare a [.In] [b] pos) Γ μ Q := fun Z σ H en ok tk => by
  obtain ⟨k, f, fd, ps, M, F, hr, hb⟩ := T.ex
  refine toT (pt_cmpR (op_inI T.F M.at_ M.fn F hb hr) pe_S pe_S hm) ?_
  refine h.use (Go.refl ok) en tk fun v H1 μ1 d g1 _ en1 i1 q1 => ?_
  refine q1.use g1 en1 tk fun w H2 μ2 d2 g2 g2' en2 i2 q2 => ?_
  obtain ⟨gs, ds, m1, rfl, hz, q⟩ := q2
  have i1' := i1.mono g2'.fz
  obtain ⟨x, dx, fs, rfl, hH, _, _⟩ := m1.at g2.ok i1'
  cases i2 with
  | lst hl t =>
    rename_i l vs
    refine ⟨x, l, vs, fun H' => Go X.K Z μ2 H2 μ2 H', rfl, rfl, Go.refl g2.ok, fun H' g => ?_, fun H' g => ?_⟩
    · have i3 := i1'.mono g.fz
      obtain ⟨y, dy, fs', e, hH', _, _⟩ := m1.at g.ok i3
      cases e
      refine ⟨⟨_, _, hH'⟩, (hl.mono g.fz).2, fun z mz => ?_⟩
      obtain ⟨dz, md, iz⟩ := isA_mem (t.mono g.fz) z mz
      obtain ⟨ho, hs⟩ := hz dz md
      refine ⟨oth_is iz ho, [d, dz], μ2, Z, .cons i3 (.cons iz .nil), g.ok, T.mono _ _ _ _ _ _ (fun μ' d q => q) (fun _ _ z => z.elim) (hs (fun μ' d => ∀ v H3, Go X.K Z μ2 H' μ' H3 → Is X.K (Av μ' Z) H3 v d → v = .bl false ∧ Go X.K Z μ2 H2 μ2 H3) ?_)⟩
      intro v H3 g' is
      exact ⟨isBl is, g.trans g'⟩
    · exact ⟨false, rfl, μ2, g2.trans g, q⟩
end DL

set_option Elab.async false
set_option linter.all false
set_option maxRecDepth 100000
set_option maxHeartbeats 2000000
namespace DL
open PySem PySem.Spec PyProof.Rows L2
theorem IsA.rev {K : PySem.W.Frag} {A : Addr → Prop} {H : Hp} : ∀ {vs : List V} {ds : List D}, IsA K A H vs ds → IsA K A H vs.reverse ds.reverse
  | _, _, .nil => .nil
  | _, _, .cons h t => by
    rw [List.reverse_cons, List.reverse_cons]
    exact (IsA.rev t).append (.cons h .nil)
theorem we_revL {X : Cz} {Γ : Gm} {μ : Mu} {e : Expr} {k : Nat} {p1 p2 p3 pos : Pos} {Q : Mu → D → Prop} (h : WE X e Γ μ fun μ1 x => ∃ ds, SeqL μ1 x ds ∧ NewL μ1 ds.reverse Q) : WE X (.Subscript e (.Slice none none (some (.UnaryOp .USub (.Constant (.int 1) k p1) p2)) p3) pos) Γ μ Q := fun Z σ H en ok tk => by
  refine toS (pe_revL pe_S) ?_
  refine h.use (Go.refl ok) en tk fun v H1 μ1 d g1 _ en1 i1 q1 => ?_
  obtain ⟨ds, sq, q⟩ := q1
  obtain ⟨p, vs, rfl, s, t⟩ := sq.sq g1.ok i1
  refine ⟨p, vs, rfl, s, fun r hr => ?_⟩
  rcases q with q | q
  · exact ⟨μ1, _, g1.trans (Go.frz g1.ok hr _), Is.newL g1.ok hr t.rev, q⟩
  · exact ⟨_, _, g1.trans (Go.put g1.ok (.lst ds.reverse) (.lst vs.reverse) (.inl hr) fun m => ⟨_, upd_same, m t.rev⟩), .ref r, q r (g1.ok.fresh hr).1⟩
end DL

set_option Elab.async false
set_option linter.all false
set_option maxRecDepth 100000
set_option maxHeartbeats 1000000
namespace DL
/-- the walk to the greatest common divisor, with its factors -/
structure InvI (a r : Nat) (one two : Nat) (h t : Int) : Prop where
  g : Nat.gcd one two = 1
  h1 : (r : Int) ∣ h * (a : Int) - (one : Int)
  t1 : (r : Int) ∣ t * (a : Int) - (two : Int)
  s : h.natAbs * two + t.natAbs * one = r
  sg : (0 ≤ h ∧ t ≤ 0) ∨ (h ≤ 0 ∧ 0 ≤ t)
theorem InvI.start {a r : Nat} (hg : Nat.gcd a r = 1) : InvI a r (a % r) r 1 0 := by
  refine ⟨?_, ?_, ?_, ?_, .inl ⟨by decide, by decide⟩⟩
  · rw [← Nat.gcd_rec, Nat.gcd_comm]; exact hg
  · rw [Int.one_mul, Int.natCast_emod]
    exact Int.dvd_self_sub_emod
  · rw [Int.zero_mul, Int.zero_sub]
    exact Int.dvd_neg.mpr (Int.dvd_refl _)
  · simp
theorem InvI.next {a r one two : Nat} {h t : Int} (I : InvI a r one two h t) (h2 : 0 < two) : InvI a r two (one % two) t (h - ((one / two : Nat) : Int) * t) := by
  have hq : (one : Int) = ((one / two : Nat) : Int) * (two : Int) + ((one % two : Nat) : Int) := by
    rw [← Int.natCast_mul, ← Int.natCast_add, Nat.mul_comm, Nat.div_add_mod]
  have habs : (h - ((one / two : Nat) : Int) * t).natAbs = h.natAbs + (one / two) * t.natAbs := by
    have e2 : (((one / two : Nat) : Int) * t).natAbs = (one / two) * t.natAbs := by rw [Int.natAbs_mul, Int.natAbs_natCast]
    rcases I.sg with ⟨x1, x2⟩ | ⟨x1, x2⟩
    · have : ((one / two : Nat) : Int) * t ≤ 0 := Int.mul_nonpos_of_nonneg_of_nonpos (Int.natCast_nonneg _) x2
      omega
    · have : 0 ≤ ((one / two : Nat) : Int) * t := Int.mul_nonneg (Int.natCast_nonneg _) x2
      omega
  refine ⟨?_, I.t1, ?_, ?_, ?_⟩
  · rw [Nat.gcd_comm, ← Nat.gcd_rec, Nat.gcd_comm]; exact I.g
  · have e : (h - ((one / two : Nat) : Int) * t) * (a : Int) - ((one % two : Nat) : Int) = (h * (a : Int) - (one : Int)) - ((one / two : Nat) : Int) * (t * (a : Int) - (two : Int)) := by
      rw [Int.sub_mul, Int.mul_sub, Int.mul_assoc]
      omega
    rw [e]
    exact Int.dvd_sub I.h1 (Int.dvd_mul_of_dvd_right I.t1)
  · rw [habs]
    have hs := I.s
    have hm : one = two * (one / two) + one % two := (Nat.div_add_mod _ _).symm
    generalize one / two = q at hm ⊢
    generalize one % two = m at hm ⊢
    subst hm
    rw [← hs, Nat.mul_add, Nat.add_mul]
    have e1 : q * t.natAbs * two = t.natAbs * (two * q) := by rw [Nat.mul_comm q, Nat.mul_assoc, Nat.mul_comm q]
    omega
  · rcases I.sg with ⟨x1, x2⟩ | ⟨x1, x2⟩
    · have : ((one / two : Nat) : Int) * t ≤ 0 := Int.mul_nonpos_of_nonneg_of_nonpos (Int.natCast_nonneg _) x2
      exact .inr ⟨x2, by omega⟩
    · have : 0 ≤ ((one / two : Nat) : Int) * t := Int.mul_nonneg (Int.natCast_nonneg _) x2
      exact .inl ⟨x2, by omega⟩
theorem InvI.done {a r one : Nat} {h t : Int} (I : InvI a r one 0 h t) : (r : Int) ∣ (h % (r : Int)) * (a : Int) - 1 := by
  have e1 : one = 1 := by have := I.g; rwa [Nat.gcd_zero_right] at this
  have h1 := I.h1
  rw [e1] at h1
  have e : (h % (r : Int)) * (a : Int) - 1 = (h * (a : Int) - 1) - (h - h % (r : Int)) * (a : Int) := by
    rw [Int.sub_mul]
    omega
  rw [e]
  exact Int.dvd_sub h1 (Int.dvd_mul_of_dvd_left Int.dvd_self_sub_emod)
theorem InvI.bound {a r one two : Nat} {h t : Int} (I : InvI a r one two h t) (h1 : 0 < one) : t.natAbs ≤ r := by
  have hs := I.s
  have : t.natAbs * 1 ≤ t.natAbs * one := Nat.mul_le_mul (Nat.le_refl _) h1
  omega
/-- two pairs met -/
theorem met_is {x1 x2 v : Int} {m1 m2 : Nat} (h1 : 0 < m1) (h2 : 0 < m2) (hd : ((Nat.gcd m1 m2 : Nat) : Int) ∣ x2 - x1) (hv : ((m2 / Nat.gcd m1 m2 : Nat) : Int) ∣ v * ((m1 / Nat.gcd m1 m2 : Nat) : Int) - 1) :
    let part : Nat := m2 / Nat.gcd m1 m2
    let x := (x1 + (m1 : Int) * ((x2 - x1) / ((Nat.gcd m1 m2 : Nat) : Int) * v % (part : Int))) % ((m1 : Int) * (part : Int))
    m1 * part = Nat.lcm m1 m2 ∧ (m1 : Int) ∣ x - x1 ∧ (m2 : Int) ∣ x - x2 := by
  intro part x
  have hg : 0 < Nat.gcd m1 m2 := Nat.gcd_pos_of_pos_left _ h1
  have hl : m1 * part = Nat.lcm m1 m2 := by
    show m1 * (m2 / Nat.gcd m1 m2) = m1 * m2 / Nat.gcd m1 m2
    rw [Nat.mul_div_assoc _ (Nat.gcd_dvd_right m1 m2)]
  obtain ⟨k, hk⟩ := hd
  have hkd : (x2 - x1) / ((Nat.gcd m1 m2 : Nat) : Int) = k := by
    rw [hk]
    exact Int.mul_ediv_cancel_left _ (by omega)
  have hm1 : (m1 : Int) = ((Nat.gcd m1 m2 : Nat) : Int) * ((m1 / Nat.gcd m1 m2 : Nat) : Int) := by
    rw [← Int.natCast_mul, Nat.mul_div_cancel' (Nat.gcd_dvd_left m1 m2)]
  have hm2 : (m2 : Int) = ((Nat.gcd m1 m2 : Nat) : Int) * (part : Int) := by
    show (m2 : Int) = ((Nat.gcd m1 m2 : Nat) : Int) * ((m2 / Nat.gcd m1 m2 : Nat) : Int)
    rw [← Int.natCast_mul, Nat.mul_div_cancel' (Nat.gcd_dvd_right m1 m2)]
  have hx : ((m1 : Int) * (part : Int)) ∣ (x1 + (m1 : Int) * (k * v % (part : Int))) - x := by
    show ((m1 : Int) * (part : Int)) ∣ (x1 + (m1 : Int) * (k * v % (part : Int))) - (x1 + (m1 : Int) * ((x2 - x1) / ((Nat.gcd m1 m2 : Nat) : Int) * v % (part : Int))) % ((m1 : Int) * (part : Int))
    rw [hkd]
    exact Int.dvd_self_sub_emod
  generalize x = x0 at hx ⊢
  have hmw : (m2 : Int) ∣ (m1 : Int) * (part : Int) := by
    rw [← Int.natCast_mul, hl]
    exact Int.natCast_dvd_natCast.mpr (Nat.dvd_lcm_right _ _)
  refine ⟨hl, ?_, ?_⟩
  · have e : x0 - x1 = (m1 : Int) * (k * v % (part : Int)) - ((x1 + (m1 : Int) * (k * v % (part : Int))) - x0) := by omega
    rw [e]
    exact Int.dvd_sub (Int.dvd_mul_right _ _) (Int.dvd_trans (Int.dvd_mul_right _ _) hx)
  · have e : x0 - x2 = ((m1 : Int) * (k * v % (part : Int)) - (x2 - x1)) - ((x1 + (m1 : Int) * (k * v % (part : Int))) - x0) := by omega
    rw [e]
    refine Int.dvd_sub ?_ (Int.dvd_trans hmw hx)
    rw [hk]
    have e2 : (m1 : Int) * (k * v % (part : Int)) - ((Nat.gcd m1 m2 : Nat) : Int) * k = ((Nat.gcd m1 m2 : Nat) : Int) * (((m1 / Nat.gcd m1 m2 : Nat) : Int) * (k * v % (part : Int)) - k) := by
      rw [Int.mul_sub, ← Int.mul_assoc, ← hm1]
    rw [e2, hm2]
    refine Int.mul_dvd_mul_left _ ?_
    have e3 : ((m1 / Nat.gcd m1 m2 : Nat) : Int) * (k * v % (part : Int)) - k = k * (v * ((m1 / Nat.gcd m1 m2 : Nat) : Int) - 1) - ((m1 / Nat.gcd m1 m2 : Nat) : Int) * (k * v - k * v % (part : Int)) := by
      rw [Int.mul_sub, Int.mul_sub, Int.mul_one, ← Int.mul_assoc k v, Int.mul_comm (k * v)]
      omega
    rw [e3]
    exact Int.dvd_sub (Int.dvd_mul_of_dvd_right hv) (Int.dvd_mul_of_dvd_right Int.dvd_self_sub_emod)
/-- what is asked of a point by the points that are known -/
structure PairI (C : Nat → Nat → Nat) (LL : Nat) (p : Nat) (pre : List (Nat × Int)) (x : Int) (L : Nat) : Prop where
  dv : ∀ z ∈ pre, C p z.1 ∣ L
  ag : ∀ z ∈ pre, ((C p z.1 : Nat) : Int) ∣ x - z.2
  le : ∀ m t : Nat, (∀ z ∈ pre, Nat.gcd (C p z.1) m ∣ t) → Nat.gcd L m ∣ t
  bd : Dv LL L
  sz : x.natAbs < 2 ^ 3000
structure KnF (C : Nat → Nat → Nat) (n : Nat) (kn : List (Nat × Int)) : Prop where
  nd : (kn.map (·.1)).Nodup
  lt : ∀ z ∈ kn, z.1 < n
  ag : ∀ y ∈ kn, ∀ z ∈ kn, ((C y.1 z.1 : Nat) : Int) ∣ y.2 - z.2
  sz : ∀ z ∈ kn, z.2.natAbs < 2 ^ 3000
theorem PairI.nil {C : Nat → Nat → Nat} {LL p : Nat} : PairI C LL p [] 0 1 := ⟨fun _ h => (nomatch h), fun _ h => (nomatch h), fun m t _ => by rw [Nat.gcd_one_left]; exact Nat.one_dvd _, .inr (Nat.one_dvd _), by decide⟩
theorem PairI.meets {C : Nat → Nat → Nat} {LL n p : Nat} {pre : List (Nat × Int)} {x : Int} {L : Nat} {kn : List (Nat × Int)} {z : Nat × Int} (hC : Clo n C) (K : KnF C n kn) (hp : p < n) (I : PairI C LL p pre x L) (hpre : ∀ y ∈ pre, y ∈ kn) (hz : z ∈ kn) : ((Nat.gcd L (C p z.1) : Nat) : Int) ∣ x - z.2 := by
  rw [← Int.natAbs_dvd_natAbs, Int.natAbs_natCast]
  refine I.le _ _ fun y hy => ?_
  have h1 := hC.tr y.1 p z.1 (K.lt y (hpre y hy)) hp (K.lt z hz)
  rw [hC.sy y.1 p (K.lt y (hpre y hy)) hp] at h1
  have h2 : ((Nat.gcd (C p y.1) (C p z.1) : Nat) : Int) ∣ y.2 - z.2 := Int.dvd_trans (Int.natCast_dvd_natCast.mpr h1) (K.ag y (hpre y hy) z hz)
  have h3 : ((Nat.gcd (C p y.1) (C p z.1) : Nat) : Int) ∣ x - y.2 := Int.dvd_trans (Int.natCast_dvd_natCast.mpr (Nat.gcd_dvd_left _ _)) (I.ag y hy)
  have h4 : ((Nat.gcd (C p y.1) (C p z.1) : Nat) : Int) ∣ x - z.2 := by
    have e : x - z.2 = (x - y.2) + (y.2 - z.2) := by omega
    rw [e]
    exact Int.dvd_add h3 h2
  rw [← Int.natAbs_dvd_natAbs, Int.natAbs_natCast] at h4
  exact h4
theorem PairI.step {C : Nat → Nat → Nat} {LL p : Nat} {pre : List (Nat × Int)} {x x' : Int} {L : Nat} {z : Nat × Int} (I : PairI C LL p pre x L) (h1 : (L : Int) ∣ x' - x) (h2 : ((C p z.1 : Nat) : Int) ∣ x' - z.2) (hb : Dv LL (C p z.1)) (hs : x'.natAbs < 2 ^ 3000) : PairI C LL p (pre ++ [z]) x' (Nat.lcm L (C p z.1)) := by
  refine ⟨fun y hy => ?_, fun y hy => ?_, fun m t h => ?_, I.bd.lcm hb, hs⟩
  · rcases List.mem_append.mp hy with hy | hy
    · exact Nat.dvd_trans (I.dv y hy) (Nat.dvd_lcm_left _ _)
    · rw [List.mem_singleton.mp hy]; exact Nat.dvd_lcm_right _ _
  · rcases List.mem_append.mp hy with hy | hy
    · have e : x' - y.2 = (x' - x) + (x - y.2) := by omega
      rw [e]
      exact Int.dvd_add (Int.dvd_trans (Int.natCast_dvd_natCast.mpr (I.dv y hy)) h1) (I.ag y hy)
    · rw [List.mem_singleton.mp hy]; exact h2
  · exact join_meet (I.le m t fun y hy => h y (List.mem_append_left _ hy)) (h z (List.mem_append_right _ List.mem_cons_self))
theorem KnF.add {C : Nat → Nat → Nat} {LL n p : Nat} {kn : List (Nat × Int)} {x : Int} {L : Nat} (hC : Clo n C) (K : KnF C n kn) (hp : p < n) (hn : p ∉ kn.map (·.1)) (I : PairI C LL p kn x L) : KnF C n (kn ++ [(p, x)]) := by
  refine ⟨?_, fun z hz => ?_, fun y hy z hz => ?_, fun z hz => ?_⟩
  · rw [List.map_append, List.nodup_append]
    refine ⟨K.nd, by simp, fun a ha b hb e => ?_⟩
    have hb' : b = p := by simpa using hb
    rw [e, hb'] at ha
    exact hn ha
  · rcases List.mem_append.mp hz with hz | hz
    · exact K.lt z hz
    · rw [List.mem_singleton.mp hz]; exact hp
  · rcases List.mem_append.mp hy with hy | hy <;> rcases List.mem_append.mp hz with hz | hz
    · exact K.ag y hy z hz
    · rw [List.mem_singleton.mp hz]
      show ((C y.1 p : Nat) : Int) ∣ y.2 - x
      rw [hC.sy y.1 p (K.lt y hy) hp]
      have := I.ag y hy
      rw [← Int.dvd_neg] at this
      rwa [show -(x - y.2) = y.2 - x by omega] at this
    · rw [List.mem_singleton.mp hy]
      exact I.ag z hz
    · rw [List.mem_singleton.mp hy, List.mem_singleton.mp hz]
      show ((C p p : Nat) : Int) ∣ x - x
      rw [Int.sub_self]
      exact Int.dvd_zero _
  · rcases List.mem_append.mp hz with hz | hz
    · exact K.sz z hz
    · rw [List.mem_singleton.mp hz]; exact I.sz
end DL

set_option Elab.async false
set_option linter.all false
set_option maxRecDepth 100000
set_option maxHeartbeats 2000000
namespace DL
open PySem PySem.Spec PyProof.Rows L2
theorem sst_con {ts vs : List Expr} {k k2 : Nat} {pt pt2 : Pos} {env : Env} (hf : vs.all (foldedForSure 8) = true) : swappedStores [.Tuple ts k pt] (.Tuple vs k2 pt2) env = pure none := by
  unfold swappedStores
  dsimp only
  simp only [hf, if_true]
  repeat' split
  all_goals rfl
theorem ws_con {X : Cz} {Γ : Gm} {μ : Mu} {kt : Kt} {ts vs : List Expr} {k k2 : Nat} {pt pt2 pos : Pos} (h : WE X (.Tuple vs k2 pt2) Γ μ fun μ1 d => WGx X (.Tuple ts k pt) d Γ μ1 kt.nx) (hf : vs.all (foldedForSure 8) = true := by rfl) (hs : swapsWithSole [.Tuple ts k pt] (.Tuple vs k2 pt2) pos.line X.env = pure false := by rfl)
    (h1 : (assignEach [.Tuple ts k pt] X.env).map (·.2) = [assign (.Tuple ts k pt) X.env] := by rfl) : WS X (.Assign [.Tuple ts k pt] (.Tuple vs k2 pt2) pos) Γ μ kt := ws_asg h hs (sst_con hf) h1
theorem sst_tt {a d : List Expr} {b e k k2 : Nat} {c f pt pt2 : Pos} {vs : List Expr} {env : Env} : swappedStores [.Tuple [.Tuple a b c, .Tuple d e f] k pt] (.Tuple vs k2 pt2) env = pure none := by
  unfold swappedStores
  dsimp only
  simp only [List.filterMap_cons, List.filterMap_nil, List.length_nil, List.length_cons]
  repeat' split
  all_goals first | rfl | (rename_i q; exact absurd rfl (by simpa using q))
theorem ws_tt {X : Cz} {Γ : Gm} {μ : Mu} {kt : Kt} {a d : List Expr} {b e k k2 : Nat} {c f pt pt2 pos : Pos} {vs : List Expr} (h : WE X (.Tuple vs k2 pt2) Γ μ fun μ1 x => WGx X (.Tuple [.Tuple a b c, .Tuple d e f] k pt) x Γ μ1 kt.nx) (hs : swapsWithSole [.Tuple [.Tuple a b c, .Tuple d e f] k pt] (.Tuple vs k2 pt2) pos.line X.env = pure false := by rfl)
    (h1 : (assignEach [.Tuple [.Tuple a b c, .Tuple d e f] k pt] X.env).map (·.2) = [assign (.Tuple [.Tuple a b c, .Tuple d e f] k pt) X.env] := by rfl) : WS X (.Assign [.Tuple [.Tuple a b c, .Tuple d e f] k pt] (.Tuple vs k2 pt2) pos) Γ μ kt := ws_asg h hs sst_tt h1
/-- sorted(d), d's keys fewer than 64 numbers -/
theorem we_sortedDI {X : Cz} {Γ : Gm} {μ : Mu} {e : Expr} {p0 pos : Pos} {Q : Mu → D → Prop} (hc : X.calm = true) (B : Bl X "sorted") (h : WE X e Γ μ fun μ1 x => ∃ p kds ks, x = .ref p ∧ DkAt μ1 p kds ∧ kds.map (·.1) = ks.map Sum.inl ∧ ks.length < 64 ∧ ∀ ys : List Int, ys.Perm ks → ys.Pairwise (· ≤ ·) → Q μ1 (.lst (ys.map .int)))
    (he : starEach [e] X.env = (false, eval e X.env) :: starEach [] X.env := by rfl) (hpl : (backTo pos (starEach [] X.env)).any (·.1) = false := by rfl) : WE X (.Call (.Name "sorted" p0) [e] [] pos) Γ μ Q := by
  refine we_b1 (call_sortedDI hc) B (by decide +kernel) ?_ (he := he) (hpl := hpl)
  refine h.mono fun μ1 d q1 => ?_
  intro Z μ0 H0 H v g i
  obtain ⟨p, kds, ks, rfl, m, hk, hl, q⟩ := q1
  cases isRef i
  obtain ⟨kvs, hH, rel⟩ := dk_at m g.ok
  refine ⟨p, kvs, ks, rfl, hH, by rw [P2.keys rel]; exact hk, hl, fun ys l h1 h2 hl => ?_⟩
  refine ⟨_, _, g.trans (Go.frz g.ok hl _), Is.newL g.ok hl ?_, q _ h1 h2⟩
  clear h1 h2 q
  induction ys with
  | nil => exact .nil
  | cons y ys ih => exact .cons (.int y) ih
end DL

set_option Elab.async false
set_option linter.all false
set_option maxRecDepth 100000
set_option maxHeartbeats 1000000
namespace DL
open PySem PySem.Spec PyProof.Rows L2
def fitB (ts : List (Nat × Nat × Nat)) (c : List Int) : Bool := ts.all fun t => decide ((t.2.2 : Int) ∣ c.getD t.1 0 - c.getD t.2.1 0)
def nearT (i : Nat) (ts : List (Nat × Nat × Nat)) : List (Nat × Nat × Nat) := ts.filter fun t => decide (max t.1 t.2.1 ≤ i)
def okC (so : List (Nat × Int)) (ts : List (Nat × Nat × Nat)) (i : Nat) (c : List Int) (k : Nat) : Bool := decide ((valG so i).getD (k : Int) = (k : Int)) && fitB (nearT i ts) (c ++ [(k : Int)])
def rowC (so : List (Nat × Int)) (ts : List (Nat × Nat × Nat)) (i : Nat) (c : List Int) (l : List Nat) : List (List Int) := (l.filter (okC so ts i c)).map fun k : Nat => c ++ [(k : Int)]
def stepC (so : List (Nat × Int)) (ts : List (Nat × Nat × Nat)) (i : Nat) (cs : List (List Int)) : List (List Int) := cs.flatMap fun c => rowC so ts i c (List.range 12)
def casesC (so : List (Nat × Int)) (ts : List (Nat × Nat × Nat)) : Nat → List (List Int)
  | 0 => [[]]
  | i + 1 => stepC so ts i (casesC so ts i)
theorem rowC_len {so : List (Nat × Int)} {ts : List (Nat × Nat × Nat)} {i : Nat} {c : List Int} {l : List Nat} : (rowC so ts i c l).length ≤ l.length := by
  unfold rowC
  rw [List.length_map]
  exact List.length_filter_le _ _
theorem stepC_len {so : List (Nat × Int)} {ts : List (Nat × Nat × Nat)} {i : Nat} : ∀ {cs : List (List Int)}, (stepC so ts i cs).length ≤ 12 * cs.length
  | [] => Nat.le_refl _
  | c :: cs => by
    have h1 := rowC_len (so := so) (ts := ts) (i := i) (c := c) (l := List.range 12)
    have h2 := stepC_len (so := so) (ts := ts) (i := i) (cs := cs)
    rw [List.length_range] at h1
    have e : stepC so ts i (c :: cs) = rowC so ts i c (List.range 12) ++ stepC so ts i cs := List.flatMap_cons ..
    rw [e, List.length_append, List.length_cons]
    omega
theorem casesC_len {so : List (Nat × Int)} {ts : List (Nat × Nat × Nat)} : ∀ {i : Nat}, (casesC so ts i).length ≤ 12 ^ i
  | 0 => Nat.le_refl _
  | i + 1 => by
    have h1 := stepC_len (so := so) (ts := ts) (i := i) (cs := casesC so ts i)
    have h2 := casesC_len (so := so) (ts := ts) (i := i)
    rw [Nat.pow_succ]
    show (stepC so ts i (casesC so ts i)).length ≤ _
    omega
structure CaseI (so : List (Nat × Int)) (ts : List (Nat × Nat × Nat)) (i : Nat) (c : List Int) : Prop where
  ln : c.length = i
  lo : ∀ j, j < i → 0 ≤ c.getD j 0 ∧ c.getD j 0 < 12
  so : ∀ j v, j < i → valG so j = some v → c.getD j 0 = v
  ti : ∀ t ∈ ts, t.1 < i → t.2.1 < i → (t.2.2 : Int) ∣ c.getD t.1 0 - c.getD t.2.1 0
theorem getD_l {c : List Int} {k : Int} {j : Nat} (h : j < c.length) : (c ++ [k]).getD j 0 = c.getD j 0 := by
  rw [List.getD_eq_getElem?_getD, List.getD_eq_getElem?_getD, List.getElem?_append_left h]
theorem getD_e {c : List Int} {k : Int} : (c ++ [k]).getD c.length 0 = k := by
  rw [List.getD_eq_getElem?_getD, List.getElem?_append_right (Nat.le_refl _), Nat.sub_self]
  rfl
theorem cases_mem {so : List (Nat × Int)} {ts : List (Nat × Nat × Nat)} : ∀ {i : Nat} {c : List Int}, c ∈ casesC so ts i ↔ CaseI so ts i c
  | 0, c => by
    constructor
    · intro h
      have e : c = [] := List.mem_singleton.mp h
      subst e
      exact ⟨rfl, fun _ h => absurd h (Nat.not_lt_zero _), fun _ _ h => absurd h (Nat.not_lt_zero _), fun _ _ h => absurd h (Nat.not_lt_zero _)⟩
    · intro h
      have e : c = [] := List.length_eq_zero_iff.mp h.ln
      rw [e]
      exact List.mem_singleton.mpr rfl
  | i + 1, c => by
    show c ∈ (casesC so ts i).flatMap _ ↔ _
    rw [List.mem_flatMap]
    constructor
    · rintro ⟨c0, h0, hc⟩
      obtain ⟨k, hk, rfl⟩ := List.mem_map.mp hc
      obtain ⟨hk1, hk2⟩ := List.mem_filter.mp hk
      rw [List.mem_range] at hk1
      have I := cases_mem.mp h0
      unfold okC at hk2
      obtain ⟨h1, h2⟩ := Bool.and_eq_true_iff.mp hk2
      have h1 := of_decide_eq_true h1
      have hln := I.ln
      refine ⟨by rw [List.length_append, hln]; rfl, fun j hj => ?_, fun j v hj hv => ?_, fun t ht ha hb => ?_⟩
      · by_cases e : j < i
        · rw [getD_l (by omega)]; exact I.lo j e
        · have e2 : j = c0.length := by omega
          rw [e2, getD_e]
          omega
      · by_cases e : j < i
        · rw [getD_l (by omega)]; exact I.so j v e hv
        · have e2 : j = i := by omega
          rw [e2] at hv ⊢
          rw [hv] at h1
          rw [← hln, getD_e]
          exact h1.symm
      · unfold fitB nearT at h2
        have h3 := List.all_eq_true.mp h2 t (List.mem_filter.mpr ⟨ht, decide_eq_true (by omega)⟩)
        exact of_decide_eq_true h3
    · intro I
      have hne : c ≠ [] := fun e => by have := I.ln; rw [e] at this; cases this
      have hln := I.ln
      have hd : c = c.dropLast ++ [c.getLast hne] := (List.dropLast_concat_getLast hne).symm
      obtain ⟨c0, x, rfl⟩ : ∃ c0 x, c = c0 ++ [x] := ⟨_, _, hd⟩
      have hl0 : c0.length = i := by rw [List.length_append] at hln; exact Nat.succ.inj hln
      have hx := I.lo i (Nat.lt_succ_self _)
      rw [← hl0, getD_e] at hx
      obtain ⟨k, rfl⟩ : ∃ k : Nat, x = (k : Int) := ⟨x.toNat, by omega⟩
      refine ⟨c0, cases_mem.mpr ⟨hl0, fun j hj => ?_, fun j v hj hv => ?_, fun t ht ha hb => ?_⟩, List.mem_map.mpr ⟨k, List.mem_filter.mpr ⟨List.mem_range.mpr (show k < 12 by omega), ?_⟩, rfl⟩⟩
      · have := I.lo j (by omega)
        rwa [getD_l (by omega)] at this
      · have := I.so j v (by omega) hv
        rwa [getD_l (by omega)] at this
      · have := I.ti t ht (by omega) (by omega)
        rwa [getD_l (by omega), getD_l (by omega)] at this
      · unfold okC
        refine Bool.and_eq_true_iff.mpr ⟨decide_eq_true ?_, ?_⟩
        · cases hv : valG so i with
          | none => rfl
          | some v =>
            have := I.so i v (Nat.lt_succ_self _) hv
            rw [← hl0, getD_e] at this
            exact this.symm
        · unfold fitB nearT
          rw [List.all_eq_true]
          intro t ht
          obtain ⟨h1, h2⟩ := List.mem_filter.mp ht
          have h2 := of_decide_eq_true h2
          exact decide_eq_true (I.ti t h1 (by omega) (by omega))
/-- a case told one by one has all bonds -/
theorem case_bond {so : List (Nat × Int)} {ts : List (Nat × Nat × Nat)} {n : Nat} {c : List Int} (hn : InN n ts) (I : CaseI so ts n c) {u v : Nat} {x y : Int} (hu : u < n) (hv : v < n) (h1 : valG so u = some x) (h2 : valG so v = some y) : ((closeM n ts u v : Nat) : Int) ∣ x - y := by
  have hf : FitsC ts fun j => c.getD j 0 := fun t ht => I.ti t ht (hn t ht).1 (hn t ht).2
  have : ((closeM n ts u v : Nat) : Int) ∣ c.getD u 0 - c.getD v 0 := fits_bond hn hf u v hu hv
  rwa [I.so u x hu h1, I.so v y hv h2] at this
/-- a case that fits, by 12 -/
theorem case_made {so : List (Nat × Int)} {ts : List (Nat × Nat × Nat)} {n : Nat} {f : Nat → Int} (h12 : ∀ t ∈ ts, t.2.2 = 0 ∨ t.2.2 ∣ 12) (hf : ∀ t ∈ ts, (t.2.2 : Int) ∣ f t.1 - f t.2.1) (hs : ∀ j v, valG so j = some v → f j = v ∧ 0 ≤ v ∧ v < 12) : casesC so ts n ≠ [] := by
  have key : ∀ j, j < n → ((List.range n).map fun i => f i % 12).getD j 0 = f j % 12 := fun j hj => by
    rw [List.getD_eq_getElem?_getD, List.getElem?_map, List.getElem?_range hj]
    rfl
  have hm : ((List.range n).map fun i => f i % 12) ∈ casesC so ts n := cases_mem.mpr ⟨by rw [List.length_map, List.length_range], fun j hj => by rw [key j hj]; omega, fun j v hj hv => by
    obtain ⟨h1, h2, h3⟩ := hs j v hv
    rw [key j hj, h1]
    omega, fun t ht ha hb => by
    rw [key _ ha, key _ hb]
    rcases h12 t ht with e | ⟨m, e⟩
    · have := hf t ht
      rw [e] at this ⊢
      have h0 := Int.zero_dvd.mp this
      have : f t.1 = f t.2.1 := by omega
      rw [this, Int.sub_self]
      exact Int.dvd_refl _
    · have e12 : ((12 : Nat) : Int) = (t.2.2 : Int) * (m : Int) := by rw [← Int.natCast_mul, ← e]
      have e1 : f t.1 % 12 - f t.2.1 % 12 = (f t.1 - f t.2.1) - 12 * (f t.1 / 12 - f t.2.1 / 12) := by omega
      rw [e1]
      refine Int.dvd_sub (hf t ht) (Int.dvd_mul_of_dvd_left ?_)
      exact ⟨(m : Int), e12⟩⟩
  intro e
  rw [e] at hm
  cases hm
end DL

set_option Elab.async false
set_option linter.all false
set_option maxRecDepth 100000
set_option maxHeartbeats 4000000
namespace KK
open PySem PySem.Spec PyProof.Rows L2 DL
def topS (i : Nat) : Stmt := PySem.Challenge.pw_samewell_k11_filled_or_none_of_all.main.body.getD i (.Pass ⟨0, 0, 0, 0⟩)
abbrev s_BadTie_init : Stmt := inClass (topS 2) 0
abbrev N_BadTie_init : List Str := ["self", "at"]
theorem sc_BadTie_init : FnScope N_BadTie_init ["self", "at"] (defScope s_BadTie_init) := ⟨rfl, rfl, rfl, by decide +kernel, rfl, by decide +kernel, by decide +kernel⟩
abbrev s_NoPoint_init : Stmt := inClass (topS 3) 0
abbrev N_NoPoint_init : List Str := ["self", "point"]
theorem sc_NoPoint_init : FnScope N_NoPoint_init ["self", "point"] (defScope s_NoPoint_init) := ⟨rfl, rfl, rfl, by decide +kernel, rfl, by decide +kernel, by decide +kernel⟩
abbrev s_is_whole : Stmt := topS 6
abbrev N_is_whole : List Str := ["thing"]
theorem sc_is_whole : FnScope N_is_whole ["thing"] (defScope s_is_whole) := ⟨rfl, rfl, rfl, by decide +kernel, rfl, by decide +kernel, by decide +kernel⟩
abbrev s_is_rest : Stmt := topS 7
abbrev N_is_rest : List Str := ["thing", "most"]
theorem sc_is_rest : FnScope N_is_rest ["thing", "most"] (defScope s_is_rest) := ⟨rfl, rfl, rfl, by decide +kernel, rfl, by decide +kernel, by decide +kernel⟩
abbrev s_divides : Stmt := topS 8
abbrev N_divides : List Str := ["rest", "number"]
theorem sc_divides : FnScope N_divides ["rest", "number"] (defScope s_divides) := ⟨rfl, rfl, rfl, by decide +kernel, rfl, by decide +kernel, by decide +kernel⟩
abbrev s_agree : Stmt := topS 9
abbrev N_agree : List Str := ["one", "two", "rest"]
theorem sc_agree : FnScope N_agree ["one", "two", "rest"] (defScope s_agree) := ⟨rfl, rfl, rfl, by decide +kernel, rfl, by decide +kernel, by decide +kernel⟩
abbrev s_common : Stmt := topS 10
abbrev N_common : List Str := ["one", "two"]
theorem sc_common : FnScope N_common ["one", "two"] (defScope s_common) := ⟨rfl, rfl, rfl, by decide +kernel, rfl, by decide +kernel, by decide +kernel⟩
abbrev s_joined : Stmt := topS 11
abbrev N_joined : List Str := ["one", "two"]
theorem sc_joined : FnScope N_joined ["one", "two"] (defScope s_joined) := ⟨rfl, rfl, rfl, by decide +kernel, rfl, by decide +kernel, by decide +kernel⟩
abbrev s_inverse : Stmt := topS 12
abbrev N_inverse : List Str := ["number", "rest", "one", "two", "here", "there", "times"]
theorem sc_inverse : FnScope N_inverse ["number", "rest"] (defScope s_inverse) := ⟨rfl, rfl, rfl, by decide +kernel, rfl, by decide +kernel, by decide +kernel⟩
abbrev s_met : Stmt := topS 13
abbrev N_met : List Str := ["one", "two", "first", "by", "second", "other", "both", "part", "times", "whole"]
theorem sc_met : FnScope N_met ["one", "two"] (defScope s_met) := ⟨rfl, rfl, rfl, by decide +kernel, rfl, by decide +kernel, by decide +kernel⟩
abbrev s_is_point : Stmt := topS 15
abbrev N_is_point : List Str := ["thing", "many"]
theorem sc_is_point : FnScope N_is_point ["thing", "many"] (defScope s_is_point) := ⟨rfl, rfl, rfl, by decide +kernel, rfl, by decide +kernel, by decide +kernel⟩
abbrev s_closure : Stmt := topS 16
abbrev N_closure : List Str := ["many", "ties", "table", "one", "two", "rest", "by", "near", "row", "bond"]
theorem sc_closure : FnScope N_closure ["many", "ties"] (defScope s_closure) := ⟨rfl, rfl, rfl, by decide +kernel, rfl, by decide +kernel, by decide +kernel⟩
abbrev s_Web_init : Stmt := inClass (topS 17) 0
abbrev N_Web_init : List Str := ["self", "many", "ties", "at", "one", "two", "rest"]
theorem sc_Web_init : FnScope N_Web_init ["self", "many", "ties"] (defScope s_Web_init) := ⟨rfl, rfl, rfl, by decide +kernel, rfl, by decide +kernel, by decide +kernel⟩
abbrev s_Web_many : Stmt := inClass (topS 17) 1
abbrev N_Web_many : List Str := ["self"]
theorem sc_Web_many : FnScope N_Web_many ["self"] (defScope s_Web_many) := ⟨rfl, rfl, rfl, by decide +kernel, rfl, by decide +kernel, by decide +kernel⟩
abbrev s_Web_ties : Stmt := inClass (topS 17) 2
abbrev N_Web_ties : List Str := ["self"]
theorem sc_Web_ties : FnScope N_Web_ties ["self"] (defScope s_Web_ties) := ⟨rfl, rfl, rfl, by decide +kernel, rfl, by decide +kernel, by decide +kernel⟩
abbrev s_Web_fits : Stmt := inClass (topS 17) 3
abbrev N_Web_fits : List Str := ["self", "case", "one", "two", "rest"]
theorem sc_Web_fits : FnScope N_Web_fits ["self", "case"] (defScope s_Web_fits) := ⟨rfl, rfl, rfl, by decide +kernel, rfl, by decide +kernel, by decide +kernel⟩
abbrev s_Web_bond : Stmt := inClass (topS 17) 4
abbrev N_Web_bond : List Str := ["self", "u", "v", "point"]
theorem sc_Web_bond : FnScope N_Web_bond ["self", "u", "v"] (defScope s_Web_bond) := ⟨rfl, rfl, rfl, by decide +kernel, rfl, by decide +kernel, by decide +kernel⟩
abbrev s_Web_bonds : Stmt := inClass (topS 17) 5
abbrev N_Web_bonds : List Str := ["self", "pairs", "u", "v"]
theorem sc_Web_bonds : FnScope N_Web_bonds ["self"] (defScope s_Web_bonds) := ⟨rfl, rfl, rfl, by decide +kernel, rfl, by decide +kernel, by decide +kernel⟩
abbrev s_Web_len : Stmt := inClass (topS 17) 6
abbrev N_Web_len : List Str := ["self"]
theorem sc_Web_len : FnScope N_Web_len ["self"] (defScope s_Web_len) := ⟨rfl, rfl, rfl, by decide +kernel, rfl, by decide +kernel, by decide +kernel⟩
abbrev s_Web_eq : Stmt := inClass (topS 17) 7
abbrev N_Web_eq : List Str := ["self", "other"]
theorem sc_Web_eq : FnScope N_Web_eq ["self", "other"] (defScope s_Web_eq) := ⟨rfl, rfl, rfl, by decide +kernel, rfl, by decide +kernel, by decide +kernel⟩
abbrev s_need_points : Stmt := topS 19
abbrev N_need_points : List Str := ["web", "some", "point"]
theorem sc_need_points : FnScope N_need_points ["web", "some"] (defScope s_need_points) := ⟨rfl, rfl, rfl, by decide +kernel, rfl, by decide +kernel, by decide +kernel⟩
abbrev s_clash_of : Stmt := topS 20
abbrev N_clash_of : List Str := ["web", "some", "points", "u", "v"]
theorem sc_clash_of : FnScope N_clash_of ["web", "some"] (defScope s_clash_of) := ⟨rfl, rfl, rfl, by decide +kernel, rfl, by decide +kernel, by decide +kernel⟩
abbrev s_filled : Stmt := topS 21
abbrev N_filled : List Str := ["web", "some", "known", "point", "pair", "other"]
theorem sc_filled : FnScope N_filled ["web", "some"] (defScope s_filled) := ⟨rfl, rfl, rfl, by decide +kernel, rfl, by decide +kernel, by decide +kernel⟩
abbrev s__law_box : Stmt := topS 23
abbrev N__law_box : List Str := ["_law_script", "_law_great", "_law_cell"]
theorem sc__law_box : FnScope N__law_box ["_law_script"] (defScope s__law_box) := ⟨rfl, rfl, rfl, by decide +kernel, rfl, by decide +kernel, by decide +kernel⟩
abbrev s__law_mixed : Stmt := topS 24
abbrev N__law_mixed : List Str := ["_law_cell", "_law_k", "_law_whole"]
theorem sc__law_mixed : FnScope N__law_mixed ["_law_cell", "_law_k"] (defScope s__law_mixed) := ⟨rfl, rfl, rfl, by decide +kernel, rfl, by decide +kernel, by decide +kernel⟩
abbrev s__law_take : Stmt := topS 25
abbrev N__law_take : List Str := ["_law_box_here", "_law_size", "_law_found", "_law_cell", "_law_reach"]
theorem sc__law_take : FnScope N__law_take ["_law_box_here", "_law_size"] (defScope s__law_take) := ⟨rfl, rfl, rfl, by decide +kernel, rfl, by decide +kernel, by decide +kernel⟩
abbrev s__law_fits : Stmt := topS 26
abbrev N__law_fits : List Str := ["_law_many", "_law_ties", "_law_case", "_law_one", "_law_two", "_law_by", "_law_gap"]
theorem sc__law_fits : FnScope N__law_fits ["_law_many", "_law_ties", "_law_case"] (defScope s__law_fits) := ⟨rfl, rfl, rfl, by decide +kernel, rfl, by decide +kernel, by decide +kernel⟩
abbrev s__law_all_cases : Stmt := topS 27
abbrev N__law_all_cases : List Str := ["_law_many", "_law_ties", "_law_some", "_law_cases", "_law_point", "_law_more", "_law_case", "_law_k", "_law_near", "_law_tie"]
theorem sc__law_all_cases : FnScope N__law_all_cases ["_law_many", "_law_ties", "_law_some"] (defScope s__law_all_cases) := ⟨rfl, rfl, rfl, by decide +kernel, rfl, by decide +kernel, by decide +kernel⟩
abbrev s_law : Stmt := topS 28
abbrev N_law : List Str := ["_law_script", "_law_box_here", "_law_many", "_law_ties", "_law_k", "_law_by", "_law_web", "_law_turn", "_law_some", "_law_point", "_law_cases", "_law_case", "_law_clash", "_law_low", "_law_high"]
theorem sc_law : FnScope N_law ["_law_script"] (defScope s_law) := ⟨rfl, rfl, rfl, by decide +kernel, rfl, by decide +kernel, by decide +kernel⟩
theorem ix_Web_points : ixS "points" ["points", "knots", "grid"] = some 0 := by decide +kernel
theorem ip_Web_points : ixS "points" [] = none := by decide +kernel
theorem ix_Web_knots : ixS "knots" ["points", "knots", "grid"] = some 1 := by decide +kernel
theorem ip_Web_knots : ixS "knots" ["points"] = none := by decide +kernel
theorem ix_Web_grid : ixS "grid" ["points", "knots", "grid"] = some 2 := by decide +kernel
theorem ip_Web_grid : ixS "grid" ["points", "knots"] = none := by decide +kernel
theorem im_Web_many : ixS "many" ["points", "knots", "grid"] = none := by decide +kernel
theorem im_Web_ties : ixS "ties" ["points", "knots", "grid"] = none := by decide +kernel
theorem im_Web_fits : ixS "fits" ["points", "knots", "grid"] = none := by decide +kernel
theorem im_Web_bond : ixS "bond" ["points", "knots", "grid"] = none := by decide +kernel
theorem im_Web_bonds : ixS "bonds" ["points", "knots", "grid"] = none := by decide +kernel
theorem im_Web_len : ixS "__len__" ["points", "knots", "grid"] = none := by decide +kernel
theorem im_Web_eq : ixS "__eq__" ["points", "knots", "grid"] = none := by decide +kernel
theorem ix_BadTie_at : ixS "at" ["at"] = some 0 := by decide +kernel
theorem ix_NoPoint_point : ixS "point" ["point"] = some 0 := by decide +kernel
local macro_rules | `(tactic| walk_at "ixf") => `(tactic| first
  | ((with_reducible show ixS "points" _ = some _); exact ix_Web_points)
  | ((with_reducible show ixS "knots" _ = some _); exact ix_Web_knots)
  | ((with_reducible show ixS "grid" _ = some _); exact ix_Web_grid)
  | fail)
local macro_rules | `(tactic| walk_at "ixp") => `(tactic| first
  | ((with_reducible show ixS "points" _ = none); exact ip_Web_points)
  | ((with_reducible show ixS "knots" _ = none); exact ip_Web_knots)
  | ((with_reducible show ixS "grid" _ = none); exact ip_Web_grid)
  | ((with_reducible show ixS "many" _ = none); exact im_Web_many)
  | ((with_reducible show ixS "ties" _ = none); exact im_Web_ties)
  | ((with_reducible show ixS "fits" _ = none); exact im_Web_fits)
  | ((with_reducible show ixS "bond" _ = none); exact im_Web_bond)
  | ((with_reducible show ixS "bonds" _ = none); exact im_Web_bonds)
  | ((with_reducible show ixS "__len__" _ = none); exact im_Web_len)
  | ((with_reducible show ixS "__eq__" _ = none); exact im_Web_eq)
  | fail)
variable {c_SameError c_BadTie c_NoPoint c_Web : Addr}
local macro_rules | `(tactic| walk_at "look") => `(tactic| first
  | with_reducible exact bxM_b
  | with_reducible exact bxM_g (by assumption)
  | with_reducible exact updM_same
  | with_reducible assumption
  | ((with_reducible refine Eq.trans (bxM_ne (by assumption) (by assumption)) ?_); (walk_at "look"))
  | ((with_reducible refine Eq.trans (updM_ne (by assumption)) ?_); (walk_at "look")))
local macro_rules | `(tactic| walk_at "d_we") => `(tactic| first
  | ((with_reducible refine' we_name ?m ?h ?_); (case m => with_reducible assumption); (case h => rfl))
  | with_reducible refine we_int ?_
  | with_reducible refine we_bl ?_
  | with_reducible refine we_non ?_
  | with_reducible refine we_str ?_
  | ((with_reducible show DL.WE _ (Expr.BinOp _ _ _ _) _ _ _); (first
    | with_reducible refine we_add ?_
    | with_reducible refine we_sub ?_
    | with_reducible refine we_mul ?_
    | with_reducible refine we_mod ?_
    | with_reducible refine we_div ?_
    | with_reducible refine we_pow ?_))
  | ((with_reducible show DL.WE _ (Expr.Compare _ _ _ _) _ _ _); (first
    | with_reducible refine we_isN ?_
    | with_reducible refine we_notN ?_
    | with_reducible refine we_lt ?_
    | with_reducible refine we_le ?_
    | with_reducible refine we_gt ?_
    | with_reducible refine we_ge ?_
    | with_reducible refine we_eqS ?_
    | with_reducible refine we_neS ?_
    | ((with_reducible refine' we_chI ?o1 ?o2 ?m ?_); (case o1 => first | exact op_lt | exact op_le | exact op_gt | exact op_ge); (case o2 => first | exact op_lt | exact op_le | exact op_gt | exact op_ge); (case m => rfl))))
  | ((with_reducible show DL.WE _ (Expr.Call (Expr.Name _ _) _ _ _) _ _ _); (first
    | ((with_reducible show DL.WE _ (Expr.Call (Expr.Name "len" _) _ [] _) _ _ _); (refine' we_len ?m ?_); (case m => with_reducible assumption))
    | ((with_reducible show DL.WE _ (Expr.Call (Expr.Name "isinstance" _) _ [] _) _ _ _); (refine' we_isi ?m ?h ?k ?_); (case m => with_reducible assumption); (case h => with_reducible assumption); (case k => first | exact PyProof.Rows.boot_int | exact PyProof.Rows.boot_bool | exact PyProof.Rows.boot_str | exact PyProof.Rows.boot_list | exact PyProof.Rows.boot_tuple | exact PyProof.Rows.boot_dict))
    | ((with_reducible show DL.WE _ (Expr.Call (Expr.Name _ _) (_ :: _) [] _) _ _ _); (refine' we_call ?m ?_); (case m => with_reducible assumption))
    | ((with_reducible show DL.WE _ (Expr.Call (Expr.Name _ _) (_ :: _) (_ :: _) _) _ _ _); (refine' we_callK ?m ?_); (case m => assumption))
    | ((with_reducible show DL.WE _ (Expr.Call (Expr.Name _ _) [] (_ :: _) _) _ _ _); (refine' we_callK0 ?m ?_); (case m => assumption))))
  | ((with_reducible show DL.WE _ (Expr.Subscript _ _ _) _ _ _); (refine we_ix ?_))
  | with_reducible refine we_ifE ?_
  | with_reducible refine we_and ?_
  | with_reducible refine we_or ?_
  | with_reducible refine we_one ?_
  | with_reducible refine we_not ?_
  | with_reducible refine we_neg ?_
  | with_reducible refine we_tup ?_
  | ((with_reducible show DL.WE _ (Expr.List (_ :: _) _) _ _ _); (refine we_lst ?_))
  | ((with_reducible show DL.WE _ (Expr.Call (Expr.Attribute _ _ _) _ [] _) _ _ _); (first
    | ((with_reducible show DL.WE _ (Expr.Call (Expr.Attribute _ "pop" _) [_] [] _) _ _ _); (refine we_popAt ?_))
    | ((with_reducible show DL.WE _ (Expr.Call (Expr.Attribute _ "append" _) [_] [] _) _ _ _); (refine we_app ?_)))))
local macro_rules | `(tactic| walk_at "d_wt") => `(tactic| first
  | ((with_reducible show DL.WT _ (Expr.Compare _ _ _ _) _ _ _); (first
    | with_reducible refine wt_isN ?_
    | with_reducible refine wt_notN ?_
    | with_reducible refine wt_lt ?_
    | with_reducible refine wt_le ?_
    | with_reducible refine wt_gt ?_
    | with_reducible refine wt_ge ?_
    | with_reducible refine wt_eqS ?_
    | with_reducible refine wt_neS ?_
    | ((with_reducible refine' wt_chI ?o1 ?o2 ?m ?_); (case o1 => first | exact op_lt | exact op_le | exact op_gt | exact op_ge); (case o2 => first | exact op_lt | exact op_le | exact op_gt | exact op_ge); (case m => rfl))))
  | with_reducible refine wt_not ?_
  | ((with_reducible refine wt_W ?_); (first | with_reducible refine ww_and ?_ | with_reducible refine ww_or ?_))
  | refine wt_val ?_)
local macro_rules | `(tactic| walk_at "d_ws") => `(tactic| first
  | ((with_reducible show DL.WS _ (Stmt.Assign [_] _ _) _ _ _); (first
    | ((with_reducible show DL.WS _ (Stmt.Assign [Expr.Name _ _] _ _) _ _ _); (refine' ws_set ?m ?_); (case m => with_reducible assumption))
    | refine ws_asg ?_))
  | with_reducible refine ws_ret ?_
  | with_reducible refine ws_if ?_
  | with_reducible refine ws_retN ?_
  | with_reducible refine ws_pass ?_
  | with_reducible refine ws_break ?_
  | with_reducible refine ws_cont ?_
  | ((with_reducible show DL.WS _ (Stmt.Expr _ _) _ _ _); (refine ws_expr ?_)))
local macro_rules | `(tactic| walk_at "d_wx") => `(tactic| first
  | ((with_reducible refine' wx_name ?m ?h ?_); (case m => with_reducible assumption); (case h => repeat (first | exact SetTo.z | apply SetTo.s)))
  | ((with_reducible refine' wx_box1 ?m ?h ?_); (case m => with_reducible assumption); (case h => rfl))
  | ((with_reducible refine' wx_box3 ?m ?h ?_); (case m => with_reducible assumption); (case h => rfl))
  | ((with_reducible show DL.WGx _ (Expr.Subscript _ _ _) _ _ _ _); (refine wx_ix ?_))
  | ((with_reducible show DL.WGx _ (Expr.Tuple _ _ _) _ _ _ _); (refine' ctx_tupx ?m ?_); (case m => with_reducible assumption)))
local macro_rules | `(tactic| walk_at "side") => `(tactic| first
  | with_reducible assumption
  | exact True.intro
  | ((with_reducible show List.length _ = _); rfl)
  | ((with_reducible show (0 : Int) < _); first | omega | decide)
  | ((with_reducible show DL.MulOk _ _); (try dsimp only); first | exact DL.MulOk.l (by omega) (by omega) | exact DL.MulOk.r (by omega) (by omega) | exact DL.MulOk.m (by omega) (by omega) (by omega) (by omega))
  | ((with_reducible show CDivW _ _); (try dsimp only); first | exact ⟨by omega, by assumption⟩ | exact ⟨by omega, log_lit (by omega) (by omega)⟩)
  | ((with_reducible show CPow _ _); unfold CPow; first | decide | omega)
  | ((with_reducible show _ ≤ sizeLine); (first | (show _ ≤ 16777216; decide) | (dsimp only [List.length_cons, List.length_nil]; show _ ≤ 16777216; omega)))
  | omega)
local macro_rules | `(tactic| walk_at "d_rest") => `(tactic| first
  | with_reducible refine two_i ?_
  | with_reducible refine one_i ?_
  | with_reducible refine one_b ?_
  | with_reducible refine eq_i ?_
  | with_reducible refine eq_b ?_
  | with_reducible refine eq_s ?_
  | ((with_reducible refine' setq ?h ?_); (case h => repeat (first | exact SetTo.z | apply SetTo.s)))
  | ((with_reducible show DL.Req (CPow _ _) _); (refine req ?c ?_); (case c => walk_at "side"); (try simp only [Int.reduceToNat, Int.reducePow]))
  | ((with_reducible refine req ?c ?_); (case c => walk_at "side"))
  | ((with_reducible refine' kind_q ?e ?f ?_); (case e => rfl); (case f => first | exact kit_NoneType_int | exact kit_NoneType_bool | exact kit_NoneType_str | exact kit_NoneType_list | exact kit_NoneType_tuple | exact kit_bool_int | exact kit_bool_bool | exact kit_bool_str | exact kit_bool_list | exact kit_bool_tuple | exact kit_int_int | exact kit_int_bool | exact kit_int_str | exact kit_int_list | exact kit_int_tuple | exact kit_str_int | exact kit_str_bool | exact kit_str_str | exact kit_str_list | exact kit_str_tuple | exact kit_list_int | exact kit_list_bool | exact kit_list_str | exact kit_list_list | exact kit_list_tuple | exact kit_tuple_int | exact kit_tuple_bool | exact kit_tuple_str | exact kit_tuple_list | exact kit_tuple_tuple))
  | with_reducible refine seql_l ?_
  | with_reducible refine seql_s ?_
  | with_reducible refine seq_l ?_
  | with_reducible refine seq_t ?_
  | ((with_reducible refine' seq_m ?h ?_); (case h => walk_at "look"))
  | ((with_reducible refine' seql_m ?h ?_); (case h => walk_at "look"))
  | ((with_reducible refine' ix_m ?h ?e ?_); (case h => walk_at "look"); (case e => first | with_reducible assumption | rfl))
  | ((with_reducible refine' ix_l ?e ?_); (case e => first | with_reducible assumption | with_reducible rfl | (with_reducible show atI (_ :: _) _ = _); rfl))
  | ((with_reducible refine' ix_t ?e ?_); (case e => first | with_reducible assumption | (with_reducible show atI (_ :: _) _ = _); rfl))
  | ((with_reducible refine' lst_at ?h ?_); (case h => walk_at "look"))
  | ((with_reducible refine' lst_q ?h ?_); (case h => walk_at "look"))
  | ((with_reducible refine at_q ?h1 ?h2 ?_); (case h1 => walk_at "side"); (case h2 => walk_at "side"))
  | ((with_reducible refine box_new ?a ?_); (case a => assumption); (intro _ _ _ _ _ _))
  | ((with_reducible refine take_use ?a ?b ?c ?d ?e ?_); (case a => assumption); (case b => with_reducible assumption); (case c => omega); (case d => omega); (case e => exact log_lit (by omega) (by omega)); (intro _ _ _ _ _ _))
  | ((with_reducible show boxI _ _ _ _ _ _ _ _ _); (first | refine boxi_use (x := ()) ?a ?b ?c ?d ?_ | refine' boxi_use ?a ?b ?c ?d ?_); (case a => assumption); (case b => with_reducible assumption); (case c => omega); (case d => walk_at "side"); (intro _ _ _ _ _ _ _))
  | ((with_reducible refine' pure_i ?e ?p ?_); (case e => rfl); (case p => walk_at "side"))
  | ((with_reducible show ite _ _ _); (first
    | (with_reducible refine ite_dec (fun _ => ?_) (fun _ => ?_))
    | (with_reducible refine ite_ndec (fun _ => ?_) (fun _ => ?_))
    | (with_reducible refine iteT ?_)
    | (with_reducible refine iteF ?_)
    | (with_reducible refine ite_nt ?_)
    | (with_reducible refine ite_nf ?_))))
local macro_rules | `(tactic| walk_at "dx2") => `(tactic| first
  | ((with_reducible show DL.WE _ _ _ _ _); (walk_at "d_we"))
  | ((with_reducible show DL.WT _ _ _ _ _); (walk_at "d_wt"))
  | ((with_reducible show DL.WA _ _ _ _ _); (first | with_reducible refine wa_nil ?_ | refine wa_cons ?_))
  | ((with_reducible show DL.WS _ _ _ _ _); (walk_at "d_ws"))
  | ((with_reducible show DL.WGx _ _ _ _ _ _); (walk_at "d_wx"))
  | with_reducible refine wb_nil ?_
  | ((with_reducible show DL.WW _ _ _ _ _); (first | with_reducible refine ww_and ?_ | with_reducible refine ww_or ?_ | with_reducible refine ww_and1 ?_ | with_reducible refine ww_or1 ?_))
  | ((with_reducible show DL.WKw _ _ _ _ _); (first | with_reducible refine wk_nil ?_ | with_reducible refine wk_cons ?_))
  | with_reducible refine wxl_nil ?_
  | ((with_reducible show DL.WGlx _ (_ :: _) _ _ _ _); (refine wxl_cons ?_))
  | ((with_reducible show DL.WB _ _ _ _ _); fail)
  | walk_at "d_rest")
local macro_rules | `(tactic| walk_at "d_wb") => `(tactic| first
  | ((with_reducible refine' wb_at ?e ?_); (case e => rfl))
  | ((with_reducible refine wb_end ?e ?_); (case e => rfl))
  | with_reducible refine wb_cons ?_)
local macro_rules | `(tactic| walk_at "dl2") => `(tactic| first
  | ((with_reducible show DL.WB _ _ _ _ _); (first | walk_at "d_wb" | with_reducible refine wb_nil ?_))
  | walk_at "dx2")
local macro_rules | `(tactic| walk_at "dl") => `(tactic| first | ((walk_at "dl2"); (all_goals walk_at "dl")) | skip)
local macro_rules | `(tactic| walk_at "dx") => `(tactic| first | ((walk_at "dx2"); (all_goals walk_at "dx")) | skip)
local macro_rules | `(tactic| walk_at "ds") => `(tactic| ((walk_at "d_wb"); (walk_at "dx")))
local macro_rules | `(tactic| walk_at "ix") => `(tactic| (repeat (first | exact forall_nil | refine forall_cons ⟨_, rfl, by first | omega | decide +kernel, by first | omega | decide +kernel⟩ ?_)))
local macro_rules | `(tactic| walk_at "d_we") => `(tactic| first
  | ((with_reducible show DL.WE _ (Expr.Attribute _ _ _) _ _ _); (refine we_fld ?_))
  | ((with_reducible show DL.WE _ (Expr.Call (Expr.Name _ _) (_ :: _) [] _) _ _ _); (first
    | ((with_reducible show DL.WE _ (Expr.Call (Expr.Name "int" _) _ [] _) _ _ _); (refine' we_int1 ?m ?_); (case m => with_reducible assumption))
    | ((with_reducible show DL.WE _ (Expr.Call (Expr.Name "abs" _) _ [] _) _ _ _); (refine' we_abs ?m ?_); (case m => with_reducible assumption))
    | ((with_reducible show DL.WE _ (Expr.Call (Expr.Name "min" _) [_] [] _) _ _ _); (refine' we_minL (Ctx.calm (by with_reducible assumption)) ?m ?_); (case m => with_reducible assumption))
    | ((with_reducible show DL.WE _ (Expr.Call (Expr.Name "max" _) [_] [] _) _ _ _); (refine' we_maxL (Ctx.calm (by with_reducible assumption)) ?m ?_); (case m => with_reducible assumption))
    | ((with_reducible show DL.WE _ (Expr.Call (Expr.Name "max" _) [_, _] [] _) _ _ _); (refine' we_max2 (Ctx.calm (by with_reducible assumption)) ?m ?_); (case m => with_reducible assumption))
    | ((with_reducible show DL.WE _ (Expr.Call (Expr.Name "min" _) [_, _] [] _) _ _ _); (refine' we_min2 (Ctx.calm (by with_reducible assumption)) ?m ?_); (case m => with_reducible assumption))
    | ((refine' we_make ?m ?_); (case m => with_reducible assumption))
    | ((refine' we_callD ?m ?_); (case m => with_reducible assumption))))
  | ((with_reducible show DL.WE _ (Expr.Call (Expr.Attribute _ _ _) (_ :: _) [] _) _ _ _); (refine' we_meth ?m ?_); (case m => with_reducible assumption))
  | ((with_reducible show DL.WE _ (Expr.Call (Expr.Attribute _ _ _) [] [] _) _ _ _); (first
    | ((with_reducible show DL.WE _ (Expr.Call (Expr.Attribute _ "clear" _) [] [] _) _ _ _); (refine we_clear ?_))
    | ((refine' we_meth0 ?m ?_); (case m => with_reducible assumption)))))
local macro_rules | `(tactic| walk_at "d_ws") => `(tactic| first
  | ((with_reducible show DL.WS _ (Stmt.Assign [Expr.Attribute _ _ _] _ _) _ _ _); (refine ws_fld ?_))
  | ((with_reducible show DL.WS _ (Stmt.Assign [_, _] _ _) _ _ _); (refine ws_asg2 ?_))
  | ((with_reducible show DL.WS _ (Stmt.Raise (some (Expr.Call (Expr.Name _ _) [_] [] _)) none _) _ _ _); (refine' ws_raise1 (Ctx.calm (by with_reducible assumption)) ?m ?_); (case m => with_reducible assumption)))
local macro_rules | `(tactic| walk_at "d_rest") => `(tactic| first
  | ((with_reducible show ite (isN _ = true) _ _); first | refine ite_rt rfl ?_ | refine ite_rf rfl ?_)
  | ((with_reducible show ite ((!isN _) = true) _ _); first | refine ite_rt rfl ?_ | refine ite_rf rfl ?_)
  | with_reducible refine int_i ?_
  | with_reducible refine int_b ?_
  | ((with_reducible refine' fld_f ?T ?e ?f ?h ?_); (case T => with_reducible assumption); (case e => walk_at "ixf"); (case f => decide +kernel); (case h => rfl))
  | ((with_reducible refine' fld_m ?m ?T ?e ?f ?h ?_); (case m => walk_at "look"); (case T => with_reducible assumption); (case e => walk_at "ixf"); (case f => decide +kernel); (case h => rfl))
  | ((with_reducible refine' put_n ?m ?T ?e ?f ?l ?_); (case m => walk_at "look"); (case T => with_reducible assumption); (case e => walk_at "ixp"); (case f => decide +kernel); (case l => first | decide | (simp only [List.length_append, List.length_cons, List.length_nil]; omega))))
local macro_rules | `(tactic| walk_at "side") => `(tactic| first
  | ((with_reducible refine rcv_f ?_); (walk_at "ixp"))
  | ((with_reducible refine' rcv_m ?h ?e); (case h => walk_at "look"); (case e => walk_at "ixp")))
section
variable {P : Program} {w : World} {K : PySem.W.Frag} {mg : Str → Option Value} {base : Heap}
def fWhole : List D → Option D
  | [.int _] => some (.bl true)
  | [.bl _] => some (.bl false)
  | _ => none
abbrev spWhole : Spc := pureS fWhole
theorem ok_is_whole {f : Addr} {fd : FuncData} (F : Fun K "is_whole" "is_whole" s_is_whole f fd) (M_isinstance : mg "isinstance" = none) (M_int : mg "int" = none) (M_bool : mg "bool" = none) : FnOk P w K mg base (L2.CX P w) 1 f fd ["thing"] (lift K spWhole) := by
  refine fn_dl F sc_is_whole (fun ds μ Q E h => ?_) fun X hX hf ds μ Q E hE h => ?_
  · unfold spWhole at h; obtain ⟨d, e, _⟩ := h; unfold fWhole at e; split at e <;> first | rfl | cases e
  have w0 : Nw X "thing" 0 := hX.nl (by decide +kernel) (by decide +kernel)
  have m0 : Nm X "thing" 0 := w0.toNm
  have b_isinstance : Bl X "isinstance" := hX.bl (by decide +kernel) M_isinstance
  have b_int : Bl X "int" := hX.bl (by decide +kernel) M_int
  have b_bool : Bl X "bool" := hX.bl (by decide +kernel) M_bool
  obtain ⟨d, e, _, q⟩ := h
  unfold fWhole at e
  split at e <;> cases e
  · rename_i i
    change WB X _ [some (.int i)] μ _
    refine wb_go ?_
    walk_at "d_wb"
    walk_at "dl"
    exact q
  · rename_i i
    change WB X _ [some (.bl i)] μ _
    refine wb_go ?_
    walk_at "d_wb"
    walk_at "dl"
    exact q

def divI (r n : Int) : Bool := if 0 < r then decide (n % r = 0) else decide (n = 0)
def fDivides : List D → Option D
  | [.int r, .int n] => some (.bl (divI r n))
  | _ => none
abbrev spDivides : Spc := pureS fDivides
theorem ok_divides {f : Addr} {fd : FuncData} (F : Fun K "divides" "divides" s_divides f fd)  : FnOk P w K mg base (L2.CX P w) 1 f fd ["rest", "number"] (lift K spDivides) := by
  refine fn_dl F sc_divides (fun ds μ Q E h => ?_) fun X hX hf ds μ Q E hE h => ?_
  · unfold spDivides at h; obtain ⟨d, e, _⟩ := h; unfold fDivides at e; split at e <;> first | rfl | cases e
  have w0 : Nw X "rest" 0 := hX.nl (by decide +kernel) (by decide +kernel)
  have m0 : Nm X "rest" 0 := w0.toNm
  have w1 : Nw X "number" 1 := hX.nl (by decide +kernel) (by decide +kernel)
  have m1 : Nm X "number" 1 := w1.toNm
  obtain ⟨d, e, _, q⟩ := h
  unfold fDivides at e
  split at e <;> cases e
  rename_i r n
  change WB X _ [some (.int r), some (.int n)] μ _
  refine wb_go ?_
  walk_at "d_wb"
  walk_at "dl"
  all_goals (simp only [divI] at q; simp_all)

def fAgree : List D → Option D
  | [.int a, .int b, .int r] => some (.bl (divI r (a - b)))
  | _ => none
abbrev spAgree : Spc := pureS fAgree
theorem ok_agree {f : Addr} {fd : FuncData} (F : Fun K "agree" "agree" s_agree f fd) (G_is_whole : GFn P w K mg base "is_whole" 1 spWhole) (G_divides : GFn P w K mg base "divides" 1 spDivides) : FnOk P w K mg base (L2.CX P w) 2 f fd ["one", "two", "rest"] (lift K spAgree) := by
  refine fn_dl F sc_agree (fun ds μ Q E h => ?_) fun X hX hf ds μ Q E hE h => ?_
  · unfold spAgree at h; obtain ⟨d, e, _⟩ := h; unfold fAgree at e; split at e <;> first | rfl | cases e
  have w0 : Nw X "one" 0 := hX.nl (by decide +kernel) (by decide +kernel)
  have m0 : Nm X "one" 0 := w0.toNm
  have w1 : Nw X "two" 1 := hX.nl (by decide +kernel) (by decide +kernel)
  have m1 : Nm X "two" 1 := w1.toNm
  have w2 : Nw X "rest" 2 := hX.nl (by decide +kernel) (by decide +kernel)
  have m2 : Nm X "rest" 2 := w2.toNm
  have c_is_whole : Cl X "is_whole" spWhole := hX.cl G_is_whole (by decide +kernel) (by decide)
  have c_divides : Cl X "divides" spDivides := hX.cl G_divides (by decide +kernel) (by decide)
  obtain ⟨d, e, _, q⟩ := h
  unfold fAgree at e
  split at e <;> cases e
  rename_i a b r
  change WB X _ [some (.int a), some (.int b), some (.int r)] μ _
  refine wb_go ?_
  walk_at "d_wb"
  walk_at "dl"
  exact q

def fRest : List D → Option D
  | [.int i, .int m] => some (.bl (decide (0 ≤ i ∧ i ≤ m)))
  | [.bl _, .int _] => some (.bl false)
  | _ => none
abbrev spIsRest : Spc := pureS fRest
theorem ok_is_rest {f : Addr} {fd : FuncData} (F : FunD K "is_rest" "is_rest" (defArgs s_is_rest) (defBody s_is_rest) (defScope s_is_rest) [] [("most", V.int 1000000)] f fd) (G_is_whole : GFn P w K mg base "is_whole" 1 spWhole) : FnOk P w K mg base (L2.CX P w) 2 f fd ["thing", "most"] (lift K spIsRest) := by
  refine fn_dlD F sc_is_rest (fun ds μ Q E h => ?_) fun X hX hf ds μ Q E hE h => ?_
  · unfold spIsRest at h; obtain ⟨d, e, _⟩ := h; unfold fRest at e; split at e <;> first | rfl | cases e
  have w0 : Nw X "thing" 0 := hX.nl (by decide +kernel) (by decide +kernel)
  have m0 : Nm X "thing" 0 := w0.toNm
  have w1 : Nw X "most" 1 := hX.nl (by decide +kernel) (by decide +kernel)
  have m1 : Nm X "most" 1 := w1.toNm
  have c_is_whole : Cl X "is_whole" spWhole := hX.cl G_is_whole (by decide +kernel) (by decide)
  obtain ⟨d, e, _, q⟩ := h
  unfold fRest at e
  split at e <;> cases e
  · rename_i i m
    change WB X _ [some (.int i), some (.int m)] μ _
    refine wb_go ?_
    walk_at "dl"
    · rename_i h1
      simp only [h1, true_and] at q
      exact q
    · rename_i h1
      simp only [h1, false_and, decide_false] at q
      exact q
  · rename_i i m
    change WB X _ [some (.bl i), some (.int m)] μ _
    refine wb_go ?_
    walk_at "dl"
    exact q

def fCommon : List D → Option D
  | [.int a, .int b] => some (.int ((Nat.gcd a.toNat b.toNat : Nat) : Int))
  | _ => none
def pCommon (ds : List D) : Prop := ∃ a b : Nat, ds = [.int (a : Int), .int (b : Int)]
abbrev spCommon : Spc := pureS fCommon pCommon
theorem ok_common {f : Addr} {fd : FuncData} (F : Fun K "common" "common" s_common f fd)  : FnOk P w K mg base (L2.CX P w) 1 f fd ["one", "two"] (lift K spCommon) := by
  refine fn_dl F sc_common (fun ds μ Q E h => ?_) fun X hX hf ds μ Q E hE h => ?_
  · unfold spCommon at h; obtain ⟨d, e, _⟩ := h; unfold fCommon at e; split at e <;> first | rfl | cases e
  have w0 : Nw X "one" 0 := hX.nl (by decide +kernel) (by decide +kernel)
  have m0 : Nm X "one" 0 := w0.toNm
  have w1 : Nw X "two" 1 := hX.nl (by decide +kernel) (by decide +kernel)
  have m1 : Nm X "two" 1 := w1.toNm
  obtain ⟨d, e, ⟨a, b, rfl⟩, q⟩ := h
  unfold fCommon at e
  cases e
  rw [Int.toNat_natCast, Int.toNat_natCast] at q
  change WB X _ [some (.int a), some (.int b)] μ _
  refine wb_go ?_
  walk_at "d_wb"
  refine ctx_while hX (fun m Γ' μ' => ∃ x y : Nat, Γ' = [some (.int x), some (.int y)] ∧ μ' = μ ∧ m = y ∧ Nat.gcd x y = Nat.gcd a b) ⟨_, a, b, rfl, rfl, rfl, rfl⟩ ?_
  rintro m _ _ ⟨x, y, rfl, rfl, rfl, hg⟩
  walk_at "dx"
  · walk_at "d_wb"
    refine ctx_par hX w0 w1 ?_
    walk_at "dx"
    refine ⟨x % m, Nat.mod_lt _ (by omega), m, x % m, rfl, rfl, rfl, ?_⟩
    rw [Nat.gcd_comm m, ← Nat.gcd_rec, Nat.gcd_comm]
    exact hg
  · walk_at "dl"
    rename_i h0
    have : m = 0 := by omega
    subst this
    rw [Nat.gcd_zero_right] at hg
    rw [← hg] at q
    exact q
def fJoined : List D → Option D
  | [.int a, .int b] => some (.int ((Nat.lcm a.toNat b.toNat : Nat) : Int))
  | _ => none
structure Big (n : Nat) : Prop where
  lt : n < 2 ^ 2000
theorem lcm_eq (a b : Nat) : (a : Int) / ((Nat.gcd a b : Nat) : Int) * (b : Int) = ((Nat.lcm a b : Nat) : Int) := by
  have e : Nat.lcm a b = a / Nat.gcd a b * b := by
    unfold Nat.lcm
    rw [Nat.mul_comm a b, Nat.mul_div_assoc b (Nat.gcd_dvd_left a b), Nat.mul_comm]
  rw [e, Int.natCast_mul, Int.natCast_ediv]
theorem big_mul {a b : Nat} (g : Nat) (ha : Big a) (hb : Big b) : DL.MulOk ((a : Int) / (g : Int)) (b : Int) := by
  refine .inr (wide_mul (a := 2000) (b := 2000) ?_ ?_ (by decide) (by decide) (by decide))
  · rw [← Int.natCast_ediv, Int.natAbs_natCast]
    exact Nat.lt_of_le_of_lt (Nat.div_le_self _ _) ha.lt
  · rw [Int.natAbs_natCast]; exact hb.lt
theorem big_div {a b : Nat} (h : 0 < b) (hb : Big b) : CDivW (a : Int) (b : Int) := wide_div (by omega) (by rw [Int.natAbs_natCast]; exact hb.lt) (by decide) (by decide)
def pJoined (ds : List D) : Prop := ∃ a b : Nat, ds = [.int (a : Int), .int (b : Int)] ∧ Big a ∧ Big b
abbrev spJoined : Spc := pureS fJoined pJoined
theorem ok_joined {f : Addr} {fd : FuncData} (F : Fun K "joined" "joined" s_joined f fd) (G_common : GFn P w K mg base "common" 1 spCommon) : FnOk P w K mg base (L2.CX P w) 2 f fd ["one", "two"] (lift K spJoined) := by
  refine fn_dl F sc_joined (fun ds μ Q E h => ?_) fun X hX hf ds μ Q E hE h => ?_
  · unfold spJoined at h; obtain ⟨d, e, _⟩ := h; unfold fJoined at e; split at e <;> first | rfl | cases e
  have w0 : Nw X "one" 0 := hX.nl (by decide +kernel) (by decide +kernel)
  have m0 : Nm X "one" 0 := w0.toNm
  have w1 : Nw X "two" 1 := hX.nl (by decide +kernel) (by decide +kernel)
  have m1 : Nm X "two" 1 := w1.toNm
  have c_common : Cl X "common" spCommon := hX.cl G_common (by decide +kernel) (by decide)
  obtain ⟨d, e, ⟨a, b, rfl, ha, hb⟩, q⟩ := h
  unfold fJoined at e
  cases e
  rw [Int.toNat_natCast, Int.toNat_natCast] at q
  change WB X _ [some (.int a), some (.int b)] μ _
  refine wb_go ?_
  walk_at "d_wb"
  walk_at "dl"
  · have : a = 0 := by omega
    subst this
    rw [Nat.lcm_zero_left] at q
    exact q
  · have : b = 0 := by omega
    subst this
    rw [Nat.lcm_zero_right] at q
    exact q
  rename_i h1 h2
  refine pure_i rfl ⟨a, b, rfl⟩ ?_
  rw [Int.toNat_natCast, Int.toNat_natCast]
  have hg : 0 < Nat.gcd a b := Nat.gcd_pos_of_pos_left _ (by omega)
  refine two_i (req (big_div hg ⟨Nat.lt_of_le_of_lt (Nat.gcd_le_left _ (by omega)) ha.lt⟩) ?_)
  walk_at "dx"
  refine req (big_mul _ ha hb) ?_
  rw [lcm_eq]
  exact q
def fIsPoint : List D → Option D
  | [.int i, .int m] => some (.bl (decide (0 ≤ i ∧ i < m)))
  | [.bl _, .int _] => some (.bl false)
  | _ => none
abbrev spIsPoint : Spc := pureS fIsPoint
theorem ok_is_point {f : Addr} {fd : FuncData} (F : Fun K "is_point" "is_point" s_is_point f fd) (G_is_whole : GFn P w K mg base "is_whole" 1 spWhole) : FnOk P w K mg base (L2.CX P w) 2 f fd ["thing", "many"] (lift K spIsPoint) := by
  refine fn_dl F sc_is_point (fun ds μ Q E h => ?_) fun X hX hf ds μ Q E hE h => ?_
  · unfold spIsPoint at h; obtain ⟨d, e, _⟩ := h; unfold fIsPoint at e; split at e <;> first | rfl | cases e
  have w0 : Nw X "thing" 0 := hX.nl (by decide +kernel) (by decide +kernel)
  have m0 : Nm X "thing" 0 := w0.toNm
  have w1 : Nw X "many" 1 := hX.nl (by decide +kernel) (by decide +kernel)
  have m1 : Nm X "many" 1 := w1.toNm
  have c_is_whole : Cl X "is_whole" spWhole := hX.cl G_is_whole (by decide +kernel) (by decide)
  obtain ⟨d, e, _, q⟩ := h
  unfold fIsPoint at e
  split at e <;> cases e
  · rename_i i m
    change WB X _ [some (.int i), some (.int m)] μ _
    refine wb_go ?_
    walk_at "dl"
    · rename_i h1
      simp only [h1, true_and] at q
      exact q
    · rename_i h1
      simp only [h1, false_and, decide_false] at q
      exact q
  · rename_i i m
    change WB X _ [some (.bl i), some (.int m)] μ _
    refine wb_go ?_
    walk_at "dl"
    exact q

def tieD (t : Nat × Nat × Nat) : D := .tup [.int (t.1 : Int), .int (t.2.1 : Int), .int (t.2.2 : Int)]
def TiesOk (n L : Nat) (ts : List (Nat × Nat × Nat)) : Prop := ∀ t ∈ ts, t.1 < n ∧ t.2.1 < n ∧ Dv L t.2.2
structure CloA where
  n : Nat
  ts : List (Nat × Nat × Nat)
  x : D
  L : Nat
  μ : Mu
abbrev spClosure : Spc := specS (α := CloA) (fun a ds μ => ds = [.int a.n, a.x] ∧ μ = a.μ ∧ SeqL a.μ a.x (a.ts.map tieD) ∧ a.n ≤ 1000 ∧ 0 < a.L ∧ Big a.L ∧ TiesOk a.n a.L a.ts)
  (fun a μ' d => μ' = a.μ ∧ d = matD a.n (closeM a.n a.ts))
theorem frame_still {μ0 μ : Mu} {T : Addr} {rs : List Addr} {n : Nat} {M : Nat → Nat → Nat} {x : D} {ds : List D} (h : MatAt μ0 T rs n M μ) (s : SeqL μ0 x ds) : Still x ds μ := by
  intro p e
  have := s.still p e
  have h1 : p ≠ T := fun z => by subst z; rw [h.f0] at this; cases this
  have h2 : p ∉ rs := fun z => by rw [h.fs p z] at this; cases this
  rw [h.fr p h1 h2]
  exact this
theorem frame_seq {μ0 μ : Mu} {T : Addr} {rs : List Addr} {n : Nat} {M : Nat → Nat → Nat} {x : D} {ds : List D} (h : MatAt μ0 T rs n M μ) (s : SeqL μ0 x ds) : SeqL μ x ds := by
  rcases s with rfl | rfl | ⟨p, rfl, e⟩
  · exact .l
  · exact .r
  · exact .m (frame_still h (.m e) p rfl)
theorem dv_big {L x : Nat} (h : Dv L x) (hL : 0 < L) (hb : Big L) : Big x := ⟨Nat.lt_of_le_of_lt (h.le hL) hb.lt⟩
theorem ok_closure {f : Addr} {fd : FuncData} (F : Fun K "closure" "closure" s_closure f fd) (G_joined : GFn P w K mg base "joined" 2 spJoined) (G_common : GFn P w K mg base "common" 1 spCommon) (M_range : mg "range" = none) (M_int : mg "int" = none) (M_enumerate : mg "enumerate" = none) : FnOk P w K mg base (L2.CX P w) 3 f fd ["many", "ties"] (lift K spClosure) := by
  refine fn_dl F sc_closure (fun ds μ Q E h => ?_) fun X hX hf ds μ Q E hE h => ?_
  · obtain ⟨a, ⟨rfl, _⟩, _⟩ := h; rfl
  have w0 : Nw X "many" 0 := hX.nc hf (by decide +kernel) (by decide +kernel)
  have m0 : Nm X "many" 0 := w0.toNm
  have w1 : Nw X "ties" 1 := hX.nl (by decide +kernel) (by decide +kernel)
  have m1 : Nm X "ties" 1 := w1.toNm
  have w2 : Nw X "table" 2 := hX.nl (by decide +kernel) (by decide +kernel)
  have m2 : Nm X "table" 2 := w2.toNm
  have w3 : Nw X "one" 3 := hX.nl (by decide +kernel) (by decide +kernel)
  have m3 : Nm X "one" 3 := w3.toNm
  have w4 : Nw X "two" 4 := hX.nl (by decide +kernel) (by decide +kernel)
  have m4 : Nm X "two" 4 := w4.toNm
  have w5 : Nw X "rest" 5 := hX.nl (by decide +kernel) (by decide +kernel)
  have m5 : Nm X "rest" 5 := w5.toNm
  have w6 : Nw X "by" 6 := hX.nl (by decide +kernel) (by decide +kernel)
  have m6 : Nm X "by" 6 := w6.toNm
  have w7 : Nw X "near" 7 := hX.nl (by decide +kernel) (by decide +kernel)
  have m7 : Nm X "near" 7 := w7.toNm
  have w8 : Nw X "row" 8 := hX.nl (by decide +kernel) (by decide +kernel)
  have m8 : Nm X "row" 8 := w8.toNm
  have w9 : Nw X "bond" 9 := hX.nl (by decide +kernel) (by decide +kernel)
  have m9 : Nm X "bond" 9 := w9.toNm
  have c_joined : Cl X "joined" spJoined := hX.cl G_joined (by decide +kernel) (by decide)
  have c_common : Cl X "common" spCommon := hX.cl G_common (by decide +kernel) (by decide)
  have b_range : Bl X "range" := hX.bl (by decide +kernel) M_range
  have b_enumerate : Bl X "enumerate" := hX.bl (by decide +kernel) M_enumerate
  obtain ⟨⟨n, ts, x, L, μ0⟩, ⟨rfl, rfl, hx, hn, hL, hLb, hts⟩, q, _⟩ := h
  dsimp only at hx hn hL hLb hts q ⊢
  change WB X _ [some (.int n), some x, none, none, none, none, none, none, none, none] μ _
  refine wb_go ?_
  walk_at "d_wb"
  refine ctx_setLcM hX [("one", 3), ("two", 4)] (vs := [3]) w2 ?_
  refine wi_range1 b_range ?_
  walk_at "dl"
  rw [Int.toNat_natCast]
  refine ⟨fun i acc μ' => ∃ rs : List Addr, acc = rs.map D.ref ∧ rs.length = i ∧ rs.Nodup ∧ (∀ k r, rs[k]? = some r → μ' r = some (.lst (rowD n (mat0 k)))) ∧ (∀ a, a ∉ rs → μ' a = μ a) ∧ (∀ r ∈ rs, μ r = none), ⟨[], rfl, rfl, .nil, by simp, fun _ _ => rfl, by simp⟩, fun _ _ _ _ _ => trivial, ?_, ?_⟩
  · rintro i d acc μ' hd ⟨rs, rfl, hrl, hnd, hrow, hfr, hfs⟩
    obtain ⟨hi, rfl⟩ := rangeD_get hd
    rw [Int.zero_add]
    refine ⟨[some (.int n), some x, none, some (.int i), none, none, none, none, none, none], fun X' hb => ?_, fun X' hb => wts_nil ?_⟩
    · have hX' := hX.blk hb
      exact wg_name (i := 3) (hX.blkC hb) (.s (.s (.s .z))) ⟨rfl, rfl⟩
    · rw [if_pos rfl]
      intro X' hb
      have hX' := hX.blk hb
      have m0 : Nm X' "many" 0 := hX'.nm (by decide +kernel)
      have m3 : Nm X' "one" 3 := hX'.nm (by decide +kernel)
      have b_range' : Bl X' "range" := hX'.bl (by decide +kernel) M_range
      refine ctx_lcM hX' [("two", 4)] (vs := [4]) ?_
      refine wi_range1 b_range' ?_
      walk_at "dl"
      rw [Int.toNat_natCast]
      refine lc_pure (fun d => [some (.int n), some x, none, some (.int i), some d, none, none, none, none, none]) (fun _ => true) (fun d => match d with | .int j => .int (if (i : Int) = j then 0 else 1) | d => d) trivial (by rw [rangeD_len]; exact small1000 hn) ?_ ?_ ?_ ?_
      · intro X'' hb2 d hd
        have hX'' := hX'.blk hb2
        exact wg_name (i := 4) (hX''.nl (by decide +kernel) (by decide +kernel)) (.s (.s (.s (.s .z)))) ⟨rfl, rfl⟩
      · intro X'' hb2 d hd
        exact wts_nil ⟨rfl, rfl⟩
      · intro X'' hb2 d hd _
        have hX'' := hX'.blk hb2
        have m3 : Nm X'' "one" 3 := hX''.nm (by decide +kernel)
        have m4 : Nm X'' "two" 4 := hX''.nm (by decide +kernel)
        have b_int' : Bl X'' "int" := hX''.bl (by decide +kernel) M_int
        obtain ⟨j, hj⟩ := List.mem_iff_getElem?.mp hd
        obtain ⟨_, rfl⟩ := rangeD_get hj
        walk_at "dl"
        refine ⟨rfl, ?_⟩
        by_cases e : (i : Int) = 0 + (j : Int)
        · simp [e]
        · simp [e]
      · intro p hp
        have hpf := hp
        have npr : p ∉ rs := fun z => by
          obtain ⟨k, hk⟩ := List.mem_iff_getElem?.mp z
          rw [hrow k p hk] at hp; cases hp
        have he : (((rangeD 0 n).filter fun _ => true).map fun d => match d with | .int j => D.int (if (i : Int) = j then 0 else 1) | d => d) = rowD n (mat0 i) := by
          rw [List.filter_eq_self.mpr fun _ _ => rfl]
          unfold rangeD rowD mat0
          rw [List.map_map]
          refine List.map_congr_left fun j _ => ?_
          show D.int (if (i : Int) = 0 + (j : Int) then 0 else 1) = _
          by_cases e : i = j
          · subst e; simp
          · have : ¬ (i : Int) = 0 + (j : Int) := by omega
            rw [if_neg this, if_neg e]; rfl
        rw [he]
        refine ⟨by rw [List.length_map]; exact small1000 (by omega), rs ++ [p], by simp, by simp [hrl], ?_, ?_, ?_, ?_⟩
        · rw [List.nodup_append]
          refine ⟨hnd, by simp, fun a ha b hb => ?_⟩
          simp only [List.mem_cons, List.not_mem_nil, or_false] at hb
          subst hb
          exact fun e => npr (e ▸ ha)
        · intro k r hk
          by_cases hkl : k < rs.length
          · rw [List.getElem?_append_left hkl] at hk
            have hne : r ≠ p := fun e => npr (e ▸ List.mem_of_getElem? hk)
            rw [updM_ne hne]
            exact hrow k r hk
          · have : k = rs.length := by
              have := (List.getElem?_eq_some_iff.mp hk).1
              rw [List.length_append, List.length_singleton] at this
              omega
            subst this
            rw [List.getElem?_append_right (Nat.le_refl _), Nat.sub_self] at hk
            cases hk
            rw [updM_same, hrl]
        · intro a ha
          have h1 : a ≠ p := fun e => ha (by simp [e])
          rw [updM_ne h1]
          exact hfr a fun z => ha (List.mem_append_left _ z)
        · intro r hr
          rcases List.mem_append.mp hr with hr | hr
          · exact hfs r hr
          · simp only [List.mem_cons, List.not_mem_nil, or_false] at hr
            subst hr
            rw [← hfr r npr]; exact hpf
  rintro acc μ1 ⟨rs, rfl, hrl, hnd, hrow, hfr, hfs⟩ T hT
  rw [rangeD_len] at hrl
  have nTr : T ∉ rs := fun z => by
    obtain ⟨k, hk⟩ := List.mem_iff_getElem?.mp z
    rw [hrow k T hk] at hT; cases hT
  have hM0 : MatAt μ T rs n mat0 (updM μ1 T (.lst (rs.map D.ref))) := ⟨hrl, updM_same, fun k r hk => by
      have hne : r ≠ T := fun e => nTr (e ▸ List.mem_of_getElem? hk)
      rw [updM_ne hne]; exact hrow k r hk, hnd, nTr, fun a h1 h2 => by rw [updM_ne h1]; exact hfr a h2, by rw [← hfr T nTr]; exact hT, hfs⟩
  generalize hμ : updM μ1 T (.lst (rs.map D.ref)) = μ2 at hM0 ⊢
  clear hμ hrow hfr
  walk_at "d_rest"
  walk_at "d_wb"
  refine ctx_for hX ?_
  refine wi_list ?_
  walk_at "dx"
  refine ⟨ts.map tieD, frame_seq hM0 hx, ?_⟩
  refine ⟨fun i Γ' μ' => ∃ o t r : Option D, Γ' = [some (.int n), some x, some (.ref T), o, t, r, none, none, none, none] ∧ MatAt μ T rs n ((ts.take i).foldl tieStep mat0) μ' ∧ MatOk L n ((ts.take i).foldl tieStep mat0), ⟨none, none, none, rfl, hM0, mat0_ok⟩, fun i Γ' μ' _ ⟨_, _, _, _, hM, _⟩ => frame_still hM hx, ?_, ?_⟩
  · rintro i d _ μ' hd ⟨o, t, r, rfl, hM, hO⟩
    rw [List.getElem?_map] at hd
    obtain ⟨⟨a, b, c⟩, ht, rfl⟩ := Option.map_eq_some_iff.mp hd
    obtain ⟨ha, hb, hc⟩ := hts _ (List.mem_of_getElem? ht)
    dsimp only at ha hb hc
    have hs : (ts.take (i + 1)).foldl tieStep mat0 = tieStep ((ts.take i).foldl tieStep mat0) (a, b, c) := by
      rw [List.take_add_one, ht, Option.toList_some, List.foldl_append, List.foldl_cons, List.foldl_nil]
    generalize (ts.take i).foldl tieStep mat0 = M at hM hO hs
    change WGx X _ (.tup [.int a, .int b, .int c]) _ _ _
    obtain ⟨ra, hra, hai, hrow⟩ := hM.get ha
    have htop := hM.top
    have hrb := rowD_at (f := M a) hb
    walk_at "dl"
    refine pure_i rfl ⟨M a b, c, rfl, dv_big (hO.dv a b) hL hLb, dv_big hc hL hLb⟩ ?_
    rw [Int.toNat_natCast, Int.toNat_natCast]
    walk_at "dx"
    refine at_row hb ?_
    have hM1 := hM.set (v := Nat.lcm (M a b) c) hra hb
    generalize updM μ' ra (.lst ((rowD n (M a)).set b (.int ((Nat.lcm (M a b) c : Nat) : Int)))) = μ3 at hM1 ⊢
    clear hai hrow htop hrb hM
    obtain ⟨rb, hrb, hbi, hrow⟩ := hM1.get hb
    have htop := hM1.top
    walk_at "dl"
    refine at_row ha ?_
    have hM2 := hM1.set (v := Nat.lcm (M a b) c) hrb ha
    have hO2 := tie_ok (a := a) (b := b) hO hc
    walk_at "dl"
    exact ⟨_, _, _, rfl, by rw [hs]; exact hM2, by rw [hs]; exact hO2⟩
  rintro _ μ3 ⟨o, t, r, rfl, hM, hO⟩
  rw [List.length_map, List.take_length] at hM hO
  have hfin : closeM n ts = (List.range n).foldl byStep (ts.foldl tieStep mat0) := rfl
  generalize ts.foldl tieStep mat0 = M1 at hM hO hfin
  walk_at "d_wb"
  refine ctx_for hX ?_
  refine wi_range1 b_range ?_
  walk_at "dl"
  rw [Int.toNat_natCast]
  refine ⟨fun i Γ' μ' => ∃ o t r b nr rw bo : Option D, Γ' = [some (.int n), some x, some (.ref T), o, t, r, b, nr, rw, bo] ∧ MatAt μ T rs n ((List.range i).foldl byStep M1) μ' ∧ MatOk L n ((List.range i).foldl byStep M1), ⟨_, _, _, _, _, _, _, rfl, hM, hO⟩, fun _ _ _ _ _ => trivial, ?_, ?_⟩
  · rintro i d _ μ' hd ⟨o, t, r, b, nr, rw, bo, rfl, hM, hO⟩
    obtain ⟨hi, rfl⟩ := rangeD_get hd
    rw [Int.zero_add]
    have hs : (List.range (i + 1)).foldl byStep M1 = byStep ((List.range i).foldl byStep M1) i := by
      rw [List.range_succ, List.foldl_append]
      rfl
    generalize (List.range i).foldl byStep M1 = M at hM hO hs
    obtain ⟨ri, hri, hai, hrow⟩ := hM.get hi
    have htop := hM.top
    walk_at "dx"
    refine wb_sub (Γ' := [some (.int n), some x, some (.ref T), o, none, r, some (.int i), nr, rw, none]) (by repeat (first | exact sub_nil | apply sub_cons | apply sub_drop)) ?_
    walk_at "d_wb"
    refine ctx_setLc hX [("two", 4), ("bond", 9)] (vs := [4, 9]) w7 ?_
    refine wi_enum b_enumerate ?_
    walk_at "dx"
    refine lc_pure (fun d => match d with | .tup [j, v] => [some (.int n), some x, some (.ref T), o, some j, r, some (.int i), nr, rw, some v] | _ => []) notOne id (SeqL.m hrow).still (by rw [enumD_len, rowD_len]; exact small1000 hn) ?_ ?_ ?_ ?_
    · intro X' hb d hd
      have hX' := hX.blk hb
      rw [enum_row] at hd
      obtain ⟨j, hj, rfl⟩ := List.mem_map.mp hd
      refine ctx_tup hX' ?_
      refine wgl_cons (v := [4]) (w := [9]) (wg_name (i := 4) (hX'.nl (by decide +kernel) (by decide +kernel)) (.s (.s (.s (.s .z)))) ?_)
      exact wgl_cons (v := [9]) (w := []) (wg_name (i := 9) (hX'.nl (by decide +kernel) (by decide +kernel)) (.s (.s (.s (.s (.s (.s (.s (.s (.s .z))))))))) (wgl_nil ⟨rfl, rfl⟩))
    · intro X' hb d hd
      have hX' := hX.blk hb
      have m9 : Nm X' "bond" 9 := hX'.nm (by decide +kernel)
      rw [enum_row] at hd
      obtain ⟨j, hj, rfl⟩ := List.mem_map.mp hd
      refine wts_one ?_
      dsimp only
      walk_at "dl"
      first | exact ⟨rfl, rfl⟩ | exact ⟨trivial, rfl⟩
    · intro X' hb d hd _
      have hX' := hX.blk hb
      have m4 : Nm X' "two" 4 := hX'.nm (by decide +kernel)
      have m9 : Nm X' "bond" 9 := hX'.nm (by decide +kernel)
      rw [enum_row] at hd
      obtain ⟨j, hj, rfl⟩ := List.mem_map.mp hd
      dsimp only
      walk_at "dl"
      first | exact ⟨rfl, rfl⟩ | exact ⟨trivial, rfl⟩
    rw [near_eq]
    walk_at "d_rest"
    walk_at "d_wb"
    refine ctx_for hX ?_
    refine wi_list ?_
    walk_at "dx"
    have hnm : ∀ j ∈ (List.range n).filter fun j => !decide (M i j = 1), j < n := fun j hj => List.mem_range.mp (List.mem_filter.mp hj).1
    have hnd2 : ((List.range n).filter fun j => !decide (M i j = 1)).Nodup := List.Pairwise.filter _ List.nodup_range
    refine ⟨fun k Γ' μ' => ∃ t rw bo : Option D, Γ' = [some (.int n), some x, some (.ref T), o, t, r, some (.int i), some (.lst (((List.range n).filter fun j => !decide (M i j = 1)).map fun (j : Nat) => D.tup [.int ((j : Nat) : Int), .int ((M i j : Nat) : Int)])), rw, bo] ∧ MatAt μ T rs n (midM M i k []) μ', ⟨_, _, _, rfl, hM.congr fun a b _ _ => mid_none a b⟩, fun k Γ' μ' _ ⟨_, _, _, _, h⟩ p e => by cases e; exact h.top, ?_, ?_⟩
    · rintro k d _ μ4 hd ⟨t, rw, bo, rfl, hM4⟩
      clear hrow htop hai
      rw [List.getElem?_map] at hd
      obtain ⟨rk, hrk, rfl⟩ := Option.map_eq_some_iff.mp hd
      have hk : k < n := by rw [← hM4.len]; exact (List.getElem?_eq_some_iff.mp hrk).1
      have hrow := hM4.row k rk hrk
      have hat := rowD_at (f := midM M i k [] k) hi
      rw [mid_by hO] at hat
      walk_at "dl"
      · rename_i hne
        refine ctx_for hX ?_
        refine wi_list ?_
        walk_at "dx"
        refine ⟨fun m Γ' μ' => ∃ t bo : Option D, Γ' = [some (.int n), some x, some (.ref T), o, t, r, some (.int i), some (.lst (((List.range n).filter fun j => !decide (M i j = 1)).map fun (j : Nat) => D.tup [.int ((j : Nat) : Int), .int ((M i j : Nat) : Int)])), some (.ref rk), bo] ∧ MatAt μ T rs n (midM M i k (((List.range n).filter fun j => !decide (M i j = 1)).take m)) μ', ⟨_, _, rfl, hM4⟩, fun _ _ _ _ _ => SeqL.l.still, ?_, ?_⟩
        · rintro m d _ μ5 hd ⟨t, bo, rfl, hM5⟩
          clear hrow hat
          rw [List.getElem?_map] at hd
          obtain ⟨j, hj, rfl⟩ := Option.map_eq_some_iff.mp hd
          have hjn := hnm j (List.mem_of_getElem? hj)
          have hjs : j ∉ ((List.range n).filter fun j => !decide (M i j = 1)).take m := fun z => by
            obtain ⟨q, hq⟩ := List.mem_iff_getElem?.mp z
            have hql : q < m := by
              have := (List.getElem?_eq_some_iff.mp hq).1
              rw [List.length_take] at this
              omega
            rw [List.getElem?_take_of_lt hql] at hq
            have := (List.getElem?_inj (List.getElem?_eq_some_iff.mp hq).1 hnd2).mp (hq.trans hj.symm)
            omega
          have hS : ((List.range n).filter fun j => !decide (M i j = 1)).take (m + 1) = ((List.range n).filter fun j => !decide (M i j = 1)).take m ++ [j] := by
            rw [List.take_add_one, hj]; rfl
          have hrow := hM5.row k rk hrk
          have hat := rowD_at (f := midM M i k (((List.range n).filter fun j => !decide (M i j = 1)).take m) k) hi
          rw [mid_by hO] at hat
          have hat2 := rowD_at (f := midM M i k (((List.range n).filter fun j => !decide (M i j = 1)).take m) k) hjn
          rw [mid_at hjs] at hat2
          walk_at "dl"
          refine pure_i rfl ⟨_, _, rfl⟩ ?_
          rw [Int.toNat_natCast, Int.toNat_natCast]
          walk_at "dx"
          refine pure_i rfl ⟨_, _, rfl, dv_big (hO.dv _ _) hL hLb, dv_big ((hO.dv _ _).gcd (hO.dv _ _)) hL hLb⟩ ?_
          rw [Int.toNat_natCast, Int.toNat_natCast]
          walk_at "dx"
          refine at_row hjn ?_
          have hM6 := (hM5.set (v := Nat.lcm (M k j) (Nat.gcd (M k i) (M i j))) hrk hjn).congr fun a b _ _ => mid_put a b
          walk_at "dl"
          exact ⟨_, _, rfl, by rw [hS]; exact hM6⟩
        · rintro _ μ5 ⟨t, bo, rfl, hM5⟩
          rw [List.length_map, List.take_length] at hM5
          walk_at "dl"
          exact ⟨_, _, _, rfl, hM5.congr fun a b _ hb => mid_next hb⟩
      · rename_i he
        have : M k i = 1 := by omega
        exact ⟨_, _, _, rfl, hM4.congr fun a b _ _ => mid_skip this a b⟩
    · rintro _ μ4 ⟨t, rw, bo, rfl, hM4⟩
      rw [List.length_map, hM4.len] at hM4
      walk_at "dl"
      exact ⟨_, _, _, _, _, _, _, rfl, by rw [hs]; exact hM4.congr fun a b ha _ => mid_all ha, by rw [hs]; exact by_ok hO⟩
  rintro _ μ4 ⟨o, t, r, b, nr, rw, bo, rfl, hM, hO⟩
  rw [rangeD_len, ← hfin] at hM
  walk_at "d_wb"
  refine ws_ret (we_frz ?_)
  walk_at "dx"
  exact ⟨_, _, hM.frz, q _ _ ⟨rfl, rfl⟩⟩

def TsOk (n : Nat) (ts : List (Nat × Nat × Nat)) : Prop := ∀ t ∈ ts, t.1 < n ∧ t.2.1 < n ∧ t.2.2 ≤ 1000000
def ibD : D → Bool
  | .int _ => true
  | .bl _ => true
  | _ => false
def ptB (n : Nat) : D → Bool
  | .int i => decide (0 ≤ i ∧ i < (n : Int))
  | _ => false
def rsB : D → Bool
  | .int i => decide (0 ≤ i ∧ i ≤ 1000000)
  | _ => false
def good3 (n : Nat) (t : D × D × D) : Bool := ptB n t.1 && ptB n t.2.1 && rsB t.2.2
def ib3 (t : D × D × D) : Bool := ibD t.1 && ibD t.2.1 && ibD t.2.2
def triD (t : D × D × D) : D := .tup [t.1, t.2.1, t.2.2]
def natD : D → Nat
  | .int i => i.toNat
  | _ => 0
def nat3 (t : D × D × D) : Nat × Nat × Nat := (natD t.1, natD t.2.1, natD t.2.2)
def webF (n : Nat) (knots : List D) (M : Nat → Nat → Nat) : List (Str × D) := [("points", .int n), ("knots", .lst knots), ("grid", matD n M)]
theorem good_tie {n : Nat} {t : D × D × D} (h : good3 n t = true) : triD t = tieD (nat3 t) ∧ (nat3 t).1 < n ∧ (nat3 t).2.1 < n ∧ (nat3 t).2.2 ≤ 1000000 := by
  obtain ⟨a, b, c⟩ := t
  unfold good3 at h
  rw [Bool.and_eq_true, Bool.and_eq_true] at h
  obtain ⟨⟨h1, h2⟩, h3⟩ := h
  dsimp only at h1 h2 h3
  cases a <;> simp [ptB] at h1
  cases b <;> simp [ptB] at h2
  cases c <;> simp [rsB] at h3
  rename_i i j k
  refine ⟨?_, ?_, ?_, ?_⟩
  · simp only [triD, tieD, nat3, natD, Int.toNat_of_nonneg h1.1, Int.toNat_of_nonneg h2.1, Int.toNat_of_nonneg h3.1]
  · show i.toNat < n; omega
  · show j.toNat < n; omega
  · show k.toNat ≤ 1000000; omega
def prodL : List (Nat × Nat × Nat) → Nat
  | [] => 1
  | t :: r => max 1 t.2.2 * prodL r
theorem prodL_pos : ∀ ts, 0 < prodL ts
  | [] => Nat.one_pos
  | t :: r => Nat.mul_pos (by omega) (prodL_pos r)
theorem prodL_dv : ∀ {ts : List (Nat × Nat × Nat)} {t : Nat × Nat × Nat}, t ∈ ts → Dv (prodL ts) t.2.2
  | u :: r, t, h => by
    by_cases h0 : t.2.2 = 0
    · exact .inl h0
    rcases List.mem_cons.mp h with e | h
    · subst e
      right
      have : max 1 t.2.2 = t.2.2 := by omega
      unfold prodL
      rw [this]
      exact Nat.dvd_mul_right _ _
    · rcases prodL_dv h with e | e
      · exact absurd e h0
      · right
        exact Nat.dvd_trans e (Nat.dvd_mul_left _ _)
theorem prodL_le : ∀ {ts : List (Nat × Nat × Nat)}, (∀ t ∈ ts, t.2.2 ≤ 1000000) → prodL ts ≤ 1000000 ^ ts.length
  | [], _ => Nat.le_refl _
  | t :: r, h => by
    unfold prodL
    rw [List.length_cons, Nat.pow_succ, Nat.mul_comm]
    exact Nat.mul_le_mul (prodL_le fun t ht => h t (List.mem_cons_of_mem _ ht)) (by have := h t List.mem_cons_self; omega)
theorem prodL_big {ts : List (Nat × Nat × Nat)} (h : ∀ t ∈ ts, t.2.2 ≤ 1000000) (hl : ts.length ≤ 64) : Big (prodL ts) := by
  refine ⟨Nat.lt_of_le_of_lt (prodL_le h) (Nat.lt_of_le_of_lt (Nat.pow_le_pow_right (by decide) hl) (by decide))⟩
theorem seqR_l {μ : Mu} {x : D} {ds : List D} (s : SeqR μ x ds) : SeqL μ x ds := by
  rcases s with rfl | ⟨p, rfl, e⟩
  · exact .l
  · exact .m e
theorem seqR_s {μ : Mu} {x : D} {ds : List D} (s : SeqR μ x ds) : Seq μ x ds := by
  rcases s with rfl | ⟨p, rfl, e⟩
  · exact .l
  · exact .m e
theorem seqR_upd {μ : Mu} {x : D} {ds : List D} {p : Addr} {o : MO} (s : SeqR μ x ds) (h : ∀ l, μ p ≠ some (.lst l)) : SeqR (updM μ p o) x ds := by
  rcases s with rfl | ⟨q, rfl, e⟩
  · exact .inl rfl
  · have : q ≠ p := fun z => by subst z; exact h _ e
    exact .inr ⟨q, rfl, by rw [updM_ne this]; exact e⟩
structure WebA where
  p : Addr
  n : Nat
  xs : List (D × D × D)
  x : D
  μ : Mu
abbrev spWebInit (cB C : Addr) : Spc := specS (α := WebA) (fun a ds μ => ds = [.ref a.p, .int a.n, a.x] ∧ μ = a.μ ∧ a.μ a.p = some (.ins C []) ∧ SeqR a.μ a.x (a.xs.map triD) ∧ a.n ≤ 1000 ∧ a.xs.length ≤ 64 ∧ ∀ t ∈ a.xs, ib3 t = true)
  (fun a μ' d => d = .non ∧ (∀ t ∈ a.xs, good3 a.n t = true) ∧ μ' = updM a.μ a.p (.ins C (webF a.n (a.xs.map triD) (closeM a.n (a.xs.map nat3)))))
  (fun a μ' x => ∃ (i : Nat) (t : D × D × D), a.xs[i]? = some t ∧ good3 a.n t = false ∧ (∀ j u, j < i → a.xs[j]? = some u → good3 a.n u = true) ∧ μ' = a.μ ∧ x = ⟨.ref cB, [("at", .int i)]⟩)
theorem ok_BadTie_init {K : PySem.W.Frag} {f C : Addr} {fd : FuncData} (F : Fun K "__init__" "BadTie.__init__" s_BadTie_init f fd) (T : OexC K C) (no : PySem.W.findIn K (.ref C) "at" = some none) : FnOk P w K mg base CX0 1 f fd ["self", "at"] (spX C "at") := by
  refine F.ok sc_BadTie_init (fun vs H Q E h => ?_) fun cdv A outer s H vs Q E hr h => ?_
  · obtain ⟨a, y, rfl, _⟩ := h; rfl
  · obtain ⟨a, y, rfl, ha, k⟩ := h
    exact ⟨_, pss_one (ps_ost (pv 0) (pv 1)), _, rfl, _, rfl, a, C, rfl, T, no, .inl ⟨ha, k⟩⟩
theorem ok_Web_init {f : Addr} {fd : FuncData} (F : Fun K "__init__" "Web.__init__" s_Web_init f fd) (G_closure : GFn P w K mg base "closure" 3 spClosure) (G_BadTie : GXk P w K mg base "BadTie" c_BadTie "at" 1) (G_is_point : GFn P w K mg base "is_point" 2 spIsPoint) (D_is_rest : GFd P w K mg base "is_rest" 2 [.int 1000000] spIsRest) (T_Web : Kls K c_Web ["points", "knots", "grid"]) (M_enumerate : mg "enumerate" = none) (M_list : mg "list" = none) : FnOk P w K mg base (L2.CX P w) 4 f fd ["self", "many", "ties"] (lift K (spWebInit c_BadTie c_Web)) := by
  refine fn_dl F sc_Web_init (fun ds μ Q E h => ?_) fun X hX hf ds μ Q E hE h => ?_
  · obtain ⟨a, ⟨rfl, _⟩, _⟩ := h; rfl
  have w0 : Nw X "self" 0 := hX.nl (by decide +kernel) (by decide +kernel)
  have m0 : Nm X "self" 0 := w0.toNm
  have w1 : Nw X "many" 1 := hX.nl (by decide +kernel) (by decide +kernel)
  have m1 : Nm X "many" 1 := w1.toNm
  have w2 : Nw X "ties" 2 := hX.nl (by decide +kernel) (by decide +kernel)
  have m2 : Nm X "ties" 2 := w2.toNm
  have w3 : Nw X "at" 3 := hX.nl (by decide +kernel) (by decide +kernel)
  have m3 : Nm X "at" 3 := w3.toNm
  have w4 : Nw X "one" 4 := hX.nl (by decide +kernel) (by decide +kernel)
  have m4 : Nm X "one" 4 := w4.toNm
  have w5 : Nw X "two" 5 := hX.nl (by decide +kernel) (by decide +kernel)
  have m5 : Nm X "two" 5 := w5.toNm
  have w6 : Nw X "rest" 6 := hX.nl (by decide +kernel) (by decide +kernel)
  have m6 : Nm X "rest" 6 := w6.toNm
  have c_closure : Cl X "closure" spClosure := hX.cl G_closure (by decide +kernel) (by decide)
  have k_BadTie : Xk X "BadTie" c_BadTie "at" := hX.xk G_BadTie (by decide +kernel) (by decide)
  have c_is_point : Cl X "is_point" spIsPoint := hX.cl G_is_point (by decide +kernel) (by decide)
  have c_is_rest : ClD X "is_rest" [.int 1000000] spIsRest := hX.clD D_is_rest (by decide +kernel) (by decide)
  have t_Web : Kls X.K c_Web ["points", "knots", "grid"] := hX.kls T_Web
  have b_enumerate : Bl X "enumerate" := hX.bl (by decide +kernel) M_enumerate
  have b_list : Bl X "list" := hX.bl (by decide +kernel) M_list
  obtain ⟨⟨p, n, xs, x, μ0⟩, ⟨rfl, rfl, hp, hx, hn, hl, hib⟩, q, qx⟩ := h
  dsimp only at hp hx hn hl hib q qx ⊢
  change WB X _ [some (.ref p), some (.int n), some x, none, none, none, none] μ _
  refine wb_go ?_
  walk_at "d_wb"
  refine ctx_for hX ?_
  refine wi_enum b_enumerate ?_
  walk_at "dx"
  refine ⟨xs.map triD, seqR_l hx, ?_⟩
  refine ⟨fun i Γ' μ' => ∃ a b c d : Option D, Γ' = [some (.ref p), some (.int n), some x, a, b, c, d] ∧ μ = μ' ∧ ∀ j u, j < i → xs[j]? = some u → good3 n u = true, ⟨_, _, _, _, rfl, rfl, fun j u h => by omega⟩, fun i Γ' μ' _ ⟨_, _, _, _, _, h, _⟩ => by rw [← h]; exact (seqR_l hx).still, ?_, ?_⟩
  · rintro i d _ _ hd ⟨_, _, _, _, rfl, rfl, hgood⟩
    obtain ⟨d', hd', rfl⟩ := enumD_inv hd
    rw [List.getElem?_map] at hd'
    obtain ⟨⟨a, b, c⟩, ht, rfl⟩ := Option.map_eq_some_iff.mp hd'
    have hi3 := hib _ (List.mem_of_getElem? ht)
    have hbad : good3 n (a, b, c) = false → X.xd [some (.ref p), some (.int n), some x, some (.int i), some a, some b, some c] μ ⟨.ref c_BadTie, [("at", .int i)]⟩ := fun h => by
      rw [hE]
      exact qx _ _ ⟨i, _, ht, h, hgood, rfl, rfl⟩
    have hok : good3 n (a, b, c) = true → ∃ a' b' c' d' : Option D, [some (.ref p), some (.int n), some x, some (.int i), some a, some b, some c] = [some (.ref p), some (.int n), some x, a', b', c', d'] ∧ μ = μ ∧ ∀ j u, j < i + 1 → xs[j]? = some u → good3 n u = true := fun h => by
      refine ⟨_, _, _, _, rfl, rfl, fun j u hj hu => ?_⟩
      by_cases e : j = i
      · subst e; rw [ht] at hu; cases hu; exact h
      · exact hgood j u (by omega) hu
    change WGx X _ (.tup [.int i, .tup [a, b, c]]) _ _ _
    unfold ib3 at hi3
    rw [Bool.and_eq_true, Bool.and_eq_true] at hi3
    obtain ⟨⟨h1, h2⟩, h3⟩ := hi3
    dsimp only at h1 h2 h3
    cases a <;> simp only [ibD] at h1 <;> first | cases h1 | skip
    all_goals (cases b <;> simp only [ibD] at h2 <;> first | cases h2 | skip)
    all_goals (cases c <;> simp only [ibD] at h3 <;> first | cases h3 | skip)
    all_goals walk_at "dl"
    all_goals first
      | (refine hbad (Bool.eq_false_iff.mpr fun z => ?_); simp only [good3, ptB, rsB, Bool.and_eq_true, decide_eq_true_eq, Bool.false_eq_true, and_false, false_and] at z; done)
      | (refine hbad (Bool.eq_false_iff.mpr fun z => ?_); simp only [good3, ptB, rsB, Bool.and_eq_true, decide_eq_true_eq] at z; omega)
      | (refine hok ?_; simp only [good3, ptB, rsB, Bool.and_eq_true, decide_eq_true_eq]; omega)
  rintro _ _ ⟨_, _, _, _, rfl, rfl, hgood⟩
  rw [enumD_len, List.length_map] at hgood
  have hall : ∀ t ∈ xs, good3 n t = true := fun t ht => by
    obtain ⟨j, hj⟩ := List.mem_iff_getElem?.mp ht
    exact hgood j t (List.getElem?_eq_some_iff.mp hj).1 hj
  have hts : xs.map triD = (xs.map nat3).map tieD := by
    rw [List.map_map]
    exact List.map_congr_left fun t ht => (good_tie (hall t ht)).1
  walk_at "ds"
  have hx2 := seqR_upd (o := MO.ins c_Web (([] : List (Str × D)) ++ [(("points" : Str), D.int n)])) hx (fun l e => by rw [hp] at e; cases e)
  walk_at "d_wb"
  walk_at "dx"
  refine we_listF b_list ?_
  walk_at "dx"
  refine ⟨_, seqR_s hx2, ?_⟩
  walk_at "dx"
  rw [updM_upd]
  have hx3 := seqR_upd (o := MO.ins c_Web ((([] : List (Str × D)) ++ [(("points" : Str), D.int n)]) ++ [(("knots" : Str), D.lst (xs.map triD))])) hx (fun l e => by rw [hp] at e; cases e)
  walk_at "d_wb"
  walk_at "dx"
  refine ⟨⟨n, xs.map nat3, x, prodL (xs.map nat3), updM μ p (MO.ins c_Web ((([] : List (Str × D)) ++ [(("points" : Str), D.int n)]) ++ [(("knots" : Str), D.lst (xs.map triD))]))⟩, ⟨rfl, rfl, by rw [← hts]; exact seqR_l hx3, hn, prodL_pos _, prodL_big (fun t ht => ?_) (by rw [List.length_map]; exact hl), fun t ht => ?_⟩, ?_, fun _ _ z => z.elim⟩
  · obtain ⟨u, hu, rfl⟩ := List.mem_map.mp ht
    exact (good_tie (hall u hu)).2.2.2
  · have hd := prodL_dv ht
    obtain ⟨u, hu, rfl⟩ := List.mem_map.mp ht
    exact ⟨(good_tie (hall u hu)).2.1, (good_tie (hall u hu)).2.2.1, hd⟩
  rintro _ _ ⟨h1, h2⟩
  dsimp only at h1 h2
  subst h1 h2
  walk_at "dl"
  refine q _ _ ⟨rfl, hall, ?_⟩
  rw [updM_upd]
  rfl

structure WebS where
  n : Nat
  ks : List D
  M : Nat → Nat → Nat
  μ : Mu
abbrev spWebMany (C : Addr) : Spc := specS (α := WebS) (fun a ds μ => ds = [.ins C (webF a.n a.ks a.M)] ∧ μ = a.μ) (fun a μ' d => μ' = a.μ ∧ d = .int a.n)
abbrev spWebTies (C : Addr) : Spc := specS (α := WebS) (fun a ds μ => ds = [.ins C (webF a.n a.ks a.M)] ∧ μ = a.μ) (fun a μ' d => ∃ p, a.μ p = none ∧ μ' = updM a.μ p (.lst a.ks) ∧ d = .ref p)
abbrev spWebLen (C : Addr) : Spc := specS (α := WebS) (fun a ds μ => ds = [.ins C (webF a.n a.ks a.M)] ∧ μ = a.μ) (fun a μ' d => μ' = a.μ ∧ d = .int (a.ks.length : Int))
theorem ok_Web_many {f : Addr} {fd : FuncData} (F : Fun K "many" "Web.many" s_Web_many f fd) (T_Web : Kls K c_Web ["points", "knots", "grid"]) : FnOk P w K mg base (L2.CX P w) 1 f fd ["self"] (lift K (spWebMany c_Web)) := by
  refine fn_dl F sc_Web_many (fun ds μ Q E h => ?_) fun X hX hf ds μ Q E hE h => ?_
  · obtain ⟨a, ⟨rfl, _⟩, _⟩ := h; rfl
  have w0 : Nw X "self" 0 := hX.nl (by decide +kernel) (by decide +kernel)
  have m0 : Nm X "self" 0 := w0.toNm
  have t_Web : Kls X.K c_Web ["points", "knots", "grid"] := hX.kls T_Web
  obtain ⟨⟨n, ks, M, μ0⟩, ⟨rfl, rfl⟩, q, _⟩ := h
  dsimp only at q ⊢
  change WB X _ [some (.ins c_Web (webF n ks M))] μ _
  refine wb_go ?_
  walk_at "dl"
  exact q _ _ ⟨rfl, rfl⟩
theorem ok_Web_ties {f : Addr} {fd : FuncData} (F : Fun K "ties" "Web.ties" s_Web_ties f fd) (T_Web : Kls K c_Web ["points", "knots", "grid"]) (M_list : mg "list" = none) : FnOk P w K mg base (L2.CX P w) 1 f fd ["self"] (lift K (spWebTies c_Web)) := by
  refine fn_dl F sc_Web_ties (fun ds μ Q E h => ?_) fun X hX hf ds μ Q E hE h => ?_
  · obtain ⟨a, ⟨rfl, _⟩, _⟩ := h; rfl
  have w0 : Nw X "self" 0 := hX.nl (by decide +kernel) (by decide +kernel)
  have m0 : Nm X "self" 0 := w0.toNm
  have t_Web : Kls X.K c_Web ["points", "knots", "grid"] := hX.kls T_Web
  have b_list : Bl X "list" := hX.bl (by decide +kernel) M_list
  obtain ⟨⟨n, ks, M, μ0⟩, ⟨rfl, rfl⟩, q, _⟩ := h
  dsimp only at q ⊢
  change WB X _ [some (.ins c_Web (webF n ks M))] μ _
  refine wb_go ?_
  walk_at "d_wb"
  refine ws_ret (we_listM b_list ?_)
  walk_at "dx"
  exact fun p hp => q _ _ ⟨p, hp, rfl, rfl⟩
theorem ok_Web_len {f : Addr} {fd : FuncData} (F : Fun K "__len__" "Web.__len__" s_Web_len f fd) (T_Web : Kls K c_Web ["points", "knots", "grid"]) (M_len : mg "len" = none) : FnOk P w K mg base (L2.CX P w) 1 f fd ["self"] (lift K (spWebLen c_Web)) := by
  refine fn_dl F sc_Web_len (fun ds μ Q E h => ?_) fun X hX hf ds μ Q E hE h => ?_
  · obtain ⟨a, ⟨rfl, _⟩, _⟩ := h; rfl
  have w0 : Nw X "self" 0 := hX.nl (by decide +kernel) (by decide +kernel)
  have m0 : Nm X "self" 0 := w0.toNm
  have t_Web : Kls X.K c_Web ["points", "knots", "grid"] := hX.kls T_Web
  have b_len : Bl X "len" := hX.bl (by decide +kernel) M_len
  obtain ⟨⟨n, ks, M, μ0⟩, ⟨rfl, rfl⟩, q, _⟩ := h
  dsimp only at q ⊢
  change WB X _ [some (.ins c_Web (webF n ks M))] μ _
  refine wb_go ?_
  walk_at "dl"
  exact q _ _ ⟨rfl, rfl⟩
def atZ (cs : List Int) (i : Nat) : Int := cs.getD i 0
def fitsB (n : Nat) (ts : List (Nat × Nat × Nat)) (cs : List Int) : Bool := decide (cs.length = n) && ts.all fun t => divI t.2.2 (atZ cs t.1 - atZ cs t.2.1)
structure FitA where
  n : Nat
  ts : List (Nat × Nat × Nat)
  M : Nat → Nat → Nat
  cs : List Int
  x : D
  μ : Mu
abbrev spWebFits (C : Addr) : Spc := specS (α := FitA) (fun a ds μ => ds = [.ins C (webF a.n (a.ts.map tieD) a.M), a.x] ∧ μ = a.μ ∧ SeqR a.μ a.x (a.cs.map .int) ∧ a.ts.length ≤ 1000 ∧ ∀ t ∈ a.ts, t.1 < a.n ∧ t.2.1 < a.n)
  (fun a μ' d => μ' = a.μ ∧ d = .bl (fitsB a.n a.ts a.cs))
theorem seqR_q {μ : Mu} {x : D} {ds : List D} {R : List D → Prop} (s : SeqR μ x ds) (r : R ds) : SeqQ μ x R := ⟨ds, seqR_s s, r⟩
theorem seqR_ix {μ : Mu} {x : D} {cs : List Int} {i : Nat} {R : D → Prop} (s : SeqR μ x (cs.map .int)) (h : i < cs.length) (r : R (.int (atZ cs i))) : IxQ μ x (.int (i : Int)) R := by
  refine ⟨_, i, _, seqR_s s, rfl, atI_n (by omega) ?_, r⟩
  rw [Int.toNat_natCast, List.getElem?_map, List.getElem?_eq_getElem h]
  unfold atZ
  simp [List.getD_eq_getElem?_getD, List.getElem?_eq_getElem h]
theorem ok_Web_fits {f : Addr} {fd : FuncData} (F : Fun K "fits" "Web.fits" s_Web_fits f fd) (G_agree_k2_rest : GFk P w K mg base "agree" 2 2 ["rest"] gApp spAgree) (T_Web : Kls K c_Web ["points", "knots", "grid"]) (M_len : mg "len" = none) (M_all : mg "all" = none) : FnOk P w K mg base (L2.CX P w) 3 f fd ["self", "case"] (lift K (spWebFits c_Web)) := by
  refine fn_dl F sc_Web_fits (fun ds μ Q E h => ?_) fun X hX hf ds μ Q E hE h => ?_
  · obtain ⟨a, ⟨rfl, _⟩, _⟩ := h; rfl
  have w0 : Nw X "self" 0 := hX.nl (by decide +kernel) (by decide +kernel)
  have m0 : Nm X "self" 0 := w0.toNm
  have w1 : Nw X "case" 1 := hX.nc hf (by decide +kernel) (by decide +kernel)
  have m1 : Nm X "case" 1 := w1.toNm
  have t_Web : Kls X.K c_Web ["points", "knots", "grid"] := hX.kls T_Web
  have b_len : Bl X "len" := hX.bl (by decide +kernel) M_len
  have b_all : Bl X "all" := hX.bl (by decide +kernel) M_all
  obtain ⟨⟨n, ts, M, cs, x, μ0⟩, ⟨rfl, rfl, hx, hl, hts⟩, q, _⟩ := h
  dsimp only at hx hl hts q ⊢
  change WB X _ [some (.ins c_Web (webF n (ts.map tieD) M)), some x, none, none, none] μ _
  refine wb_go ?_
  walk_at "d_wb"
  walk_at "dx"
  refine seqR_q hx ?_
  rw [List.length_map]
  walk_at "dl"
  · rename_i h
    have : fitsB n ts cs = false := by
      unfold fitsB
      rw [decide_eq_false (by omega), Bool.false_and]
    exact q _ _ ⟨rfl, by rw [this]⟩
  rename_i h
  have hcn : cs.length = n := by omega
  refine we_allL hX.calm b_all ?_
  refine ctx_lc hX [("one", 2), ("two", 3), ("rest", 4)] (vs := [2, 3, 4]) ?_
  refine wi_list ?_
  walk_at "dx"
  refine lc_pure (fun d => match d with | .tup [a, b, c] => [some (.ins c_Web (webF n (ts.map tieD) M)), some x, some a, some b, some c] | _ => []) (fun _ => true) (fun d => match d with | .tup [.int a, .int b, .int c] => .bl (divI c (atZ cs a.toNat - atZ cs b.toNat)) | d => d) SeqL.l.still (by rw [List.length_map]; exact small1000 hl) ?_ ?_ ?_ ?_
  · intro X' hb d hd
    have hX' := hX.blk hb
    obtain ⟨⟨a, b, c⟩, ht, rfl⟩ := List.mem_map.mp hd
    refine ctx_tup hX' ?_
    refine wgl_cons (v := [2]) (w := [3, 4]) (wg_name (i := 2) (hX'.nl (by decide +kernel) (by decide +kernel)) (.s (.s .z)) ?_)
    refine wgl_cons (v := [3]) (w := [4]) (wg_name (i := 3) (hX'.nl (by decide +kernel) (by decide +kernel)) (.s (.s (.s .z))) ?_)
    exact wgl_cons (v := [4]) (w := []) (wg_name (i := 4) (hX'.nl (by decide +kernel) (by decide +kernel)) (.s (.s (.s (.s .z)))) (wgl_nil ⟨rfl, rfl⟩))
  · intro X' hb d hd
    exact wts_nil ⟨rfl, rfl⟩
  · intro X' hb d hd _
    have hX' := hX.blk hb
    have m1 : Nm X' "case" 1 := hX'.nm (by decide +kernel)
    have m2 : Nm X' "one" 2 := hX'.nm (by decide +kernel)
    have m3 : Nm X' "two" 3 := hX'.nm (by decide +kernel)
    have m4 : Nm X' "rest" 4 := hX'.nm (by decide +kernel)
    have c_agree_k2_rest : ClK X' "agree" 2 ["rest"] gApp spAgree := hX'.clK G_agree_k2_rest (by decide +kernel) (by decide) (fun h1 h2 a b => gApp_is h1 h2 a b)
    obtain ⟨⟨a, b, c⟩, ht, rfl⟩ := List.mem_map.mp hd
    obtain ⟨ha, hb'⟩ := hts _ ht
    dsimp only [tieD] at ha hb' ⊢
    walk_at "dx"
    refine seqR_ix hx (by omega) ?_
    walk_at "dx"
    refine seqR_ix hx (by omega) ?_
    walk_at "dl"
    exact ⟨rfl, rfl⟩
  refine ⟨ts.map fun t => divI t.2.2 (atZ cs t.1 - atZ cs t.2.1), ?_, ?_⟩
  · rw [List.filter_eq_self.mpr fun _ _ => rfl, List.map_map, List.map_map]
    exact .inl rfl
  · have : fitsB n ts cs = (ts.map fun t => divI t.2.2 (atZ cs t.1 - atZ cs t.2.1)).all id := by
      unfold fitsB
      rw [decide_eq_true hcn, Bool.true_and, List.all_map]
      rfl
    rw [← this]
    exact q _ _ ⟨rfl, rfl⟩

def geD (b : Int) : D → Bool
  | .int z => decide (b ≤ z)
  | _ => false
def ltD (b : Int) : D → Bool
  | .int z => decide (z < b)
  | _ => false
theorem geD_map (b : Int) (ns : List Int) : ((ns.map D.int).filter (geD b)).map id = (ns.filter fun z => decide (b ≤ z)).map D.int := by
  rw [List.map_id, List.filter_map]
  rfl
theorem ltD_map (b : Int) (ns : List Int) : ((ns.map D.int).filter (ltD b)).map id = (ns.filter fun z => decide (z < b)).map D.int := by
  rw [List.map_id, List.filter_map]
  rfl
def mixI (c k : Int) : Int := (((c % 2147483647 + 1009 * k * k + 48611 * k + 17) ^ 5 % 2147483647) * 39373 + 7919 * k) % 1000000007
theorem ok__law_box {f : Addr} {fd : FuncData} (F : Fun K "_law_box" "_law_box" s__law_box f fd)  : FnOk P w K mg base (L2.CX P w) 1 f fd ["_law_script"] (lift K spBox) := by
  refine fn_dl F sc__law_box (fun ds μ Q E h => ?_) fun X hX hf ds μ Q E hE h => ?_
  · obtain ⟨a, ⟨rfl, _⟩, _⟩ := h; rfl
  have w0 : Nw X "_law_script" 0 := hX.nl (by decide +kernel) (by decide +kernel)
  have m0 : Nm X "_law_script" 0 := w0.toNm
  have w1 : Nw X "_law_great" 1 := hX.nl (by decide +kernel) (by decide +kernel)
  have m1 : Nm X "_law_great" 1 := w1.toNm
  obtain ⟨⟨μ0, ns⟩, ⟨rfl, rfl, hl⟩, q, _⟩ := h
  change WB X _ [some (.scr (ns.map .int)), none, none] _ _
  refine wb_go ?_
  walk_at "d_wb"
  refine ctx_setLcM hX [("_law_cell", 2)] (vs := [2]) w1 ?_
  refine wi_list ?_
  walk_at "dl"
  refine lc_pure (fun d => [some (.scr (ns.map .int)), none, some d]) (geD 1000000000000000000) id SeqL.r.still (by rw [List.length_map]; exact small1000 (Nat.le_trans hl (by decide))) ?_ ?_ ?_ ?_
  · intro X' hb d hd
    have hX' := hX.blk hb
    exact wg_name (i := 2) (hX'.nl (by decide +kernel) (by decide +kernel)) (.s (.s .z)) ⟨rfl, rfl⟩
  · intro X' hb d hd
    have hX' := hX.blk hb
    have m2 : Nm X' "_law_cell" 2 := hX'.nm (by decide +kernel)
    obtain ⟨z, hz, rfl⟩ := List.mem_map.mp hd
    refine wts_one ?_
    walk_at "dl"
    first | exact ⟨rfl, rfl⟩ | exact ⟨trivial, rfl⟩
  · intro X' hb d hd _
    have hX' := hX.blk hb
    have m2 : Nm X' "_law_cell" 2 := hX'.nm (by decide +kernel)
    walk_at "dl"
    exact ⟨rfl, rfl⟩
  intro g hg
  rw [geD_map]
  generalize hgr : (ns.filter fun z => decide (1000000000000000000 ≤ z)) = great
  have hgl : great.length ≤ 63 := by rw [← hgr]; exact Nat.le_trans (List.length_filter_le _ _) hl
  have hg0 : ∀ z ∈ great, 0 ≤ z := by
    intro z hz
    rw [← hgr] at hz
    have := of_decide_eq_true (List.mem_filter.mp hz).2
    exact Int.le_trans (by decide) this
  refine ⟨_, .s .z, ?_⟩
  walk_at "d_wb"
  refine ws_ret ?_
  refine we_lstM ?_
  walk_at "dl"
  refine ctx_lc hX [("_law_cell", 2)] (vs := [2]) ?_
  refine wi_list ?_
  walk_at "dl"
  refine lc_pure (fun d => [some (.scr (ns.map .int)), some (.ref g), some d]) (ltD 1000000000000000000) id SeqL.r.still (by rw [List.length_map]; exact small1000 (Nat.le_trans hl (by decide))) ?_ ?_ ?_ ?_
  · intro X' hb d hd
    have hX' := hX.blk hb
    exact wg_name (i := 2) (hX'.nl (by decide +kernel) (by decide +kernel)) (.s (.s .z)) ⟨rfl, rfl⟩
  · intro X' hb d hd
    have hX' := hX.blk hb
    have m2 : Nm X' "_law_cell" 2 := hX'.nm (by decide +kernel)
    obtain ⟨z, hz, rfl⟩ := List.mem_map.mp hd
    refine wts_one ?_
    walk_at "dl"
    first | exact ⟨rfl, rfl⟩ | exact ⟨trivial, rfl⟩
  · intro X' hb d hd _
    have hX' := hX.blk hb
    have m2 : Nm X' "_law_cell" 2 := hX'.nm (by decide +kernel)
    walk_at "dl"
    exact ⟨rfl, rfl⟩
  rw [ltD_map]
  generalize hsm : (ns.filter fun z => decide (z < 1000000000000000000)) = small
  have hsl : small.length ≤ 63 := by rw [← hsm]; exact Nat.le_trans (List.length_filter_le _ _) hl
  walk_at "dl"
  intro b hb
  have hbg : g ≠ b := fun e => by subst e; rw [updM_same] at hb; cases hb
  exact q _ _ ⟨b, g, ⟨great, 0, small, 0⟩, rfl, rfl, hbg, ⟨hg0, Int.le_refl _, Int.le_refl _, hgl, hsl⟩, rfl⟩
def fMixed : List D → Option D
  | [.int c, .int k] => some (.int (mixI c k))
  | _ => none
def pMixed (ds : List D) : Prop := ∃ c k, ds = [.int c, .int k] ∧ 0 ≤ k ∧ k ≤ 2000000
abbrev spMixed : Spc := pureS fMixed pMixed
theorem ok__law_mixed {f : Addr} {fd : FuncData} (F : Fun K "_law_mixed" "_law_mixed" s__law_mixed f fd)  : FnOk P w K mg base (L2.CX P w) 1 f fd ["_law_cell", "_law_k"] (lift K spMixed) := by
  refine fn_dl F sc__law_mixed (fun ds μ Q E h => ?_) fun X hX hf ds μ Q E hE h => ?_
  · unfold spMixed at h; obtain ⟨d, e, _⟩ := h; unfold fMixed at e; split at e <;> first | rfl | cases e
  have w0 : Nw X "_law_cell" 0 := hX.nl (by decide +kernel) (by decide +kernel)
  have m0 : Nm X "_law_cell" 0 := w0.toNm
  have w1 : Nw X "_law_k" 1 := hX.nl (by decide +kernel) (by decide +kernel)
  have m1 : Nm X "_law_k" 1 := w1.toNm
  have w2 : Nw X "_law_whole" 2 := hX.nl (by decide +kernel) (by decide +kernel)
  have m2 : Nm X "_law_whole" 2 := w2.toNm
  obtain ⟨d, e, ⟨c, k, rfl, h0, h1⟩, q⟩ := h
  cases e
  change WB X _ [some (.int c), some (.int k), none] μ _
  refine wb_go ?_
  walk_at "d_wb"
  have hk : 0 ≤ 1009 * k * k ∧ 1009 * k * k ≤ 1009 * 2000000 * 2000000 :=
    ⟨Int.mul_nonneg (by omega) h0, Int.mul_le_mul (by omega) h1 h0 (by decide)⟩
  walk_at "dl"
  exact q
theorem ok__law_take {f : Addr} {fd : FuncData} (F : Fun K "_law_take" "_law_take" s__law_take f fd) (G__law_mixed : GFn P w K mg base "_law_mixed" 1 spMixed) (M_len : mg "len" = none) : FnOk P w K mg base (L2.CX P w) 2 f fd ["_law_box_here", "_law_size"] (lift K spTake) := by
  refine fn_dl F sc__law_take (fun ds μ Q E h => ?_) fun X hX hf ds μ Q E hE h => ?_
  · obtain ⟨a, ⟨rfl, _⟩, _⟩ := h; rfl
  have w0 : Nw X "_law_box_here" 0 := hX.nl (by decide +kernel) (by decide +kernel)
  have m0 : Nm X "_law_box_here" 0 := w0.toNm
  have w1 : Nw X "_law_size" 1 := hX.nl (by decide +kernel) (by decide +kernel)
  have m1 : Nm X "_law_size" 1 := w1.toNm
  have w2 : Nw X "_law_found" 2 := hX.nl (by decide +kernel) (by decide +kernel)
  have m2 : Nm X "_law_found" 2 := w2.toNm
  have w3 : Nw X "_law_cell" 3 := hX.nl (by decide +kernel) (by decide +kernel)
  have m3 : Nm X "_law_cell" 3 := w3.toNm
  have w4 : Nw X "_law_reach" 4 := hX.nl (by decide +kernel) (by decide +kernel)
  have m4 : Nm X "_law_reach" 4 := w4.toNm
  have c__law_mixed : Cl X "_law_mixed" spMixed := hX.cl G__law_mixed (by decide +kernel) (by decide)
  have b_len : Bl X "len" := hX.bl (by decide +kernel) M_len
  obtain ⟨⟨b, g, t, μ0, n⟩, ⟨rfl, rfl, hg, ht, hc, h1, hn⟩, q, _⟩ := h
  change WB X _ [some (.ref b), some (.int n), none, none, none] _ _
  refine wb_go ?_
  have q' : ∀ (r : Int) (t' : Bx), 0 ≤ r → r < n → BxOk t' → t'.cnt = t.cnt + 1 → Q (bxM b g t' μ0) (.int r) := fun r t' a1 a2 a3 a4 => q _ _ ⟨r, t', rfl, rfl, a1, a2, a3, a4⟩
  clear q
  dsimp only at hg hc h1 hn ht ⊢
  obtain ⟨g0, p0, c0, gl, sl⟩ := ht
  walk_at "ds"
  walk_at "d_wb"
  refine ws_join (fun Γ' μ' => Γ' = [some (.ref b), some (.int n), none, none, none] ∧ ∃ t1, μ' = bxM b g t1 μ0 ∧ BxOk t1 ∧ t1.cnt = t.cnt + 1) ?_ ?_
  · walk_at "dl"
    · rename_i hp hgt
      obtain ⟨z, r, hz⟩ : ∃ z r, t.great = z :: r := by
        cases h : t.great with
        | nil => rw [h] at hgt; exact absurd hgt (by decide)
        | cons z r => exact ⟨z, r, rfl⟩
      have hr : (List.map D.int t.great).eraseIdx 0 = r.map D.int := by rw [hz]; rfl
      refine ⟨0, .int z, seqIndex_of (by decide) (by rw [List.length_map, hz, List.length_cons]; omega), by rw [hz]; rfl, ?_⟩
      dsimp only
      rw [hr, bxM_setg hg]
      walk_at "dl"
      refine ⟨rfl, _, rfl, ⟨fun y hy => g0 y (by rw [hz]; exact List.mem_cons_of_mem _ hy), g0 z (by rw [hz]; exact List.mem_cons_self), by dsimp only; omega, ?_, sl⟩, rfl⟩
      rw [hz, List.length_cons] at gl
      dsimp only
      omega
    all_goals exact ⟨rfl, _, rfl, ⟨g0, p0, by dsimp only; omega, gl, sl⟩, rfl⟩
  rintro _ _ ⟨rfl, t1, rfl, ⟨g0, p0, c0, gl, sl⟩, hc1⟩
  walk_at "ds"
  · walk_at "dl"
    refine q' _ _ ?_ ?_ ?_ hc1
    · exact Int.emod_nonneg _ (by omega)
    · exact Int.emod_lt_of_pos _ (by omega)
    · exact ⟨g0, Int.ediv_nonneg p0 (by omega), c0, gl, sl⟩
  walk_at "ds"
  walk_at "d_wb"
  refine ws_join (fun Γ' μ' => ∃ c, Γ' = [some (.ref b), some (.int n), none, some (.int c), none] ∧ μ' = bxM b g t1 μ0) ?_ ?_
  · walk_at "dl"
    · rename_i hs
      obtain ⟨d, hd1, hd2, _⟩ := atI_ex (i := t1.cnt % ((t1.small.map D.int).length : Int)) (Int.emod_nonneg _ (by omega)) (Int.emod_lt_of_pos _ hs)
      obtain ⟨z, _, rfl⟩ := List.mem_map.mp hd2
      refine ix_l hd1 ?_
      walk_at "dl"
      exact ⟨_, rfl, rfl⟩
    · exact ⟨_, rfl, rfl⟩
  rintro _ _ ⟨c, rfl, rfl⟩
  walk_at "ds"
  walk_at "ds"
  walk_at "d_wb"
  refine ctx_while hX (fun m Γ' μ' => ∃ x y, Γ' = [some (.ref b), some (.int n), some (.int x), some (.int c), some (.int y)] ∧ μ' = bxM b g t1 μ0 ∧ 0 ≤ x ∧ 1 ≤ y ∧ m = (n - y).toNat) ⟨_, 0, 1, rfl, rfl, by decide, by decide, rfl⟩ ?_
  rintro m _ _ ⟨x, y, rfl, rfl, hx, hy, rfl⟩
  walk_at "dl"
  · refine pure_i rfl ⟨_, _, rfl, by omega, by omega⟩ ?_
    have hm : 0 ≤ mixI c (t1.cnt + 1000 * (x % 89)) := Int.emod_nonneg _ (by decide)
    walk_at "dl"
    exact ⟨_, by omega, _, _, rfl, rfl, by omega, by omega, rfl⟩
  · exact q' _ _ (Int.emod_nonneg _ (by omega)) (Int.emod_lt_of_pos _ (by omega)) ⟨g0, p0, c0, gl, sl⟩ hc1

local macro_rules | `(tactic| walk_at "look") => `(tactic| first
  | with_reducible assumption
  | ((with_reducible refine bxM_off ?_ (by assumption) (by assumption)); (walk_at "look"))
  | ((with_reducible refine updM_off ?_ (by assumption)); (walk_at "look"))
  | ((with_reducible refine updM_offL ?_ (by assumption) (by intro l z; cases z)); (walk_at "look"))
  | ((with_reducible refine updM_offL ?_ updM_same (by intro l z; cases z)); (walk_at "look")))
local macro_rules | `(tactic| walk_at "d_we") => `(tactic| first
  | ((with_reducible show DL.WE _ (Expr.Subscript _ _ _) _ _ _); (refine we_sbs (Ctx.hu (by with_reducible assumption)) ?_))
  | ((with_reducible show DL.WE _ (Expr.Compare _ [CmpOp.In] [_] _) _ _ _); (refine we_in (Ctx.hu (by with_reducible assumption)) ?_))
  | ((with_reducible show DL.WE _ (Expr.Compare _ [CmpOp.NotIn] [_] _) _ _ _); (refine we_nin (Ctx.hu (by with_reducible assumption)) ?_))
  | ((with_reducible show DL.WE _ (Expr.Compare _ [CmpOp.Eq] [_] _) _ _ _); (refine we_eqA (Ctx.hu (by with_reducible assumption)) ?_))
  | ((with_reducible show DL.WE _ (Expr.Compare _ [CmpOp.NotEq] [_] _) _ _ _); (refine we_neA (Ctx.hu (by with_reducible assumption)) ?_))
  | ((with_reducible show DL.WE _ (Expr.Call (Expr.Name "len" _) _ [] _) _ _ _); (refine' we_lenA ?m ?_); (case m => with_reducible assumption))
  | ((with_reducible show DL.WE _ (Expr.Call (Expr.Name "list" _) [_] [] _) _ _ _); (refine' we_listA (Ctx.calm (by with_reducible assumption)) ?m ?_); (case m => with_reducible assumption))
  | ((with_reducible show DL.WE _ (Expr.Dict [] [] _) _ _ _); (refine we_dnew ?_))
  | ((with_reducible show DL.WE _ (Expr.Call (Expr.Name "isinstance" _) _ [] _) _ _ _); (refine' we_isiA ?m ?h ?k ?_); (case m => with_reducible assumption); (case h => with_reducible assumption); (case k => first | exact PyProof.Rows.boot_int | exact PyProof.Rows.boot_bool | exact PyProof.Rows.boot_str | exact PyProof.Rows.boot_list | exact PyProof.Rows.boot_tuple | exact PyProof.Rows.boot_dict))
  | ((with_reducible show DL.WE _ (Expr.Call (Expr.Attribute _ _ _) (_ :: _) (_ :: _) _) _ _ _); (refine' we_methK ?m ?_); (case m => assumption))
  | ((with_reducible show DL.WE _ (Expr.Call (Expr.Attribute _ _ _) [] (_ :: _) _) _ _ _); (refine' we_methK0 ?m ?_); (case m => assumption))
  | ((with_reducible show DL.WE _ (Expr.Call (Expr.Attribute (Expr.Attribute _ "notes" _) "clear" _) [] [] _) _ _ _); (refine we_dclear ?_))
  | ((with_reducible show DL.WE _ (Expr.List [] _) _ _ _); (refine we_lstM ?_))
  | ((with_reducible show DL.WE _ (Expr.Call (Expr.Attribute _ "get" _) [_] [] _) _ _ _); (refine we_get1 (Ctx.hu (by with_reducible assumption)) ?_))
  | ((with_reducible show DL.WE _ (Expr.Call (Expr.Attribute _ "get" _) [_, _] [] _) _ _ _); (refine we_get2 (Ctx.hu (by with_reducible assumption)) ?_))
  | ((with_reducible show DL.WE _ (Expr.Call (Expr.Attribute _ "pop" _) [_, _] [] _) _ _ _); (refine we_pop2 ?_)))
local macro_rules | `(tactic| walk_at "d_wt") => `(tactic| first
  | ((with_reducible show DL.WT _ (Expr.Compare _ [CmpOp.In] [_] _) _ _ _); (refine wt_in (Ctx.hu (by with_reducible assumption)) ?_))
  | ((with_reducible show DL.WT _ (Expr.Compare _ [CmpOp.NotIn] [_] _) _ _ _); (refine wt_nin (Ctx.hu (by with_reducible assumption)) ?_))
  | ((with_reducible show DL.WT _ (Expr.Compare _ [CmpOp.Eq] [_] _) _ _ _); (refine wt_eqA (Ctx.hu (by with_reducible assumption)) ?_))
  | ((with_reducible show DL.WT _ (Expr.Compare _ [CmpOp.NotEq] [_] _) _ _ _); (refine wt_neA (Ctx.hu (by with_reducible assumption)) ?_)))
local macro_rules | `(tactic| walk_at "d_wx") => `(tactic| first
  | ((with_reducible refine' wx_box1 ?m ?h ?_); (case m => with_reducible assumption); (case h => rfl))
  | ((with_reducible refine' wx_box3 ?m ?h ?_); (case m => with_reducible assumption); (case h => rfl))
  | ((with_reducible show DL.WGx _ (Expr.Subscript _ _ _) _ _ _ _); (refine wx_put (Ctx.hu (by with_reducible assumption)) ?_)))
local macro_rules | `(tactic| walk_at "d_rest") => `(tactic| first
  | ((with_reducible show DL.SubQ _ _ _ _ _ _); (first
    | ((with_reducible refine' sub_dS ?m ?v ?_); (case m => walk_at "look"); (case v => with_reducible assumption))
    | ((with_reducible refine' sub_lkS ?m ?v ?_); (case m => walk_at "look"); (case v => with_reducible assumption))
    | ((with_reducible refine' sub_dl 0 ?m ?e ?h1 ?h2 ?_); (case m => walk_at "look"); (case e => rfl); (case h1 => decide +kernel); (case h2 => rfl))
    | ((with_reducible refine' sub_dl 1 ?m ?e ?h1 ?h2 ?_); (case m => walk_at "look"); (case e => rfl); (case h1 => decide +kernel); (case h2 => rfl))
    | ((with_reducible refine' sub_dl 2 ?m ?e ?h1 ?h2 ?_); (case m => walk_at "look"); (case e => rfl); (case h1 => decide +kernel); (case h2 => rfl))
    | ((with_reducible show DL.SubQ _ _ _ (D.lst _) _ _); (refine sub_ix ?_))
    | ((with_reducible show DL.SubQ _ _ _ (D.tup _) _ _); (refine sub_ix ?_))
    | ((with_reducible refine' sub_ixm ?m ?_); (case m => walk_at "look"))))
  | ((with_reducible show DL.InQ _ _ _ _); (first
    | ((with_reducible refine' in_dS ?m ?_); (case m => walk_at "look"))
    | ((with_reducible refine' in_ms ?m ?_); (case m => walk_at "look"))
    | with_reducible refine in_ls ?_))
  | ((with_reducible show DL.EqA _ _ _ _); (refine' eqa_s ?e ?_); (case e => rfl))
  | ((with_reducible show DL.LenQ _ _ _); (first
    | with_reducible refine len_l ?_
    | with_reducible refine len_t ?_
    | ((with_reducible refine' len_m ?m ?_); (case m => walk_at "look"))
    | ((with_reducible refine' len_d ?m ?_); (case m => walk_at "look"))))
  | ((with_reducible show DL.ListQ _ _ _); (first
    | with_reducible refine list_l ?_
    | with_reducible refine list_t ?_
    | ((with_reducible refine' list_m ?m ?_); (case m => walk_at "look"))
    | ((with_reducible refine' list_d ?m ?_); (case m => walk_at "look"))))
  | ((with_reducible refine' fld_f2 ?T ?e ?f ?h ?_); (case T => with_reducible assumption); (case e => walk_at "ixf"); (case f => decide +kernel); (case h => rfl))
  | ((with_reducible refine' fld_m2 ?m ?T ?e ?f ?h ?_); (case m => walk_at "look"); (case T => with_reducible assumption); (case e => walk_at "ixf"); (case f => decide +kernel); (case h => rfl))
  | ((with_reducible refine' kinda_q ?e ?f ?_); (case e => rfl); (case f => first | exact kit_NoneType_int | exact kit_NoneType_bool | exact kit_NoneType_str | exact kit_NoneType_list | exact kit_NoneType_tuple | exact kit_bool_int | exact kit_bool_bool | exact kit_bool_str | exact kit_bool_list | exact kit_bool_tuple | exact kit_int_int | exact kit_int_bool | exact kit_int_str | exact kit_int_list | exact kit_int_tuple | exact kit_str_int | exact kit_str_bool | exact kit_str_str | exact kit_str_list | exact kit_str_tuple | exact kit_list_int | exact kit_list_bool | exact kit_list_str | exact kit_list_list | exact kit_list_tuple | exact kit_tuple_int | exact kit_tuple_bool | exact kit_tuple_str | exact kit_tuple_list | exact kit_tuple_tuple))
  | ((with_reducible refine' kinda_m ?m ?f ?_); (case m => walk_at "look"); (case f => first | exact kit_list_int | exact kit_list_bool | exact kit_list_str | exact kit_list_list | exact kit_list_tuple))
  | ((with_reducible refine' dk_q ?m ?_); (case m => walk_at "look"))
  | ((with_reducible refine' clr_d ?m ?_); (case m => walk_at "look"))
  | ((with_reducible refine' get_kS ?m ?_); (case m => walk_at "look"))
  | ((with_reducible refine' get_n ?m ?_); (case m => walk_at "look"))
  | ((with_reducible refine' pop_kS ?m ?_); (case m => walk_at "look"))
  | ((with_reducible show _ ∨ DL.DPutQ _ _ _ _ _ _); (first
    | ((with_reducible refine' Or.inr (dput_S ?m ?d ?l ?_)); (case m => walk_at "look"); (case d => rfl); (case l => walk_at "side"))
    | (with_reducible refine Or.inl (one_i (lst_at (by walk_at "look") ?_)))))
  | with_reducible refine or_non ?_
  | ((with_reducible show ite (Option.isSome _ = true) _ _); (first | (refine ite_rt (by assumption) ?_) | (refine ite_rf (by assumption) ?_) | (refine ite_bb (fun _ => ?_) (fun _ => ?_))))
  | ((with_reducible show ite ((!Option.isSome _) = true) _ _); (refine ite_nn (fun _ => ?_) (fun _ => ?_))))
local macro_rules | `(tactic| walk_at "side") => `(tactic| first
  | ((with_reducible show _ < sizeLine); ((try simp only [List.length_map, List.length_append, List.length_cons, List.length_nil]); (show _ < 16777216); omega))
  | ((with_reducible show _ ≤ sizeLine); ((try simp only [List.length_map, List.length_append, List.length_cons, List.length_nil]); (show _ ≤ 16777216); omega)))
local macro_rules | `(tactic| walk_at "wg") => `(tactic| first
  | ((with_reducible refine' wg_nameV ?n ?s ?i ?_); (case n => with_reducible assumption); (case s => repeat (first | exact SetTo.z | apply SetTo.s)); (case i => simp); (walk_at "wg"))
  | ((refine wg_tup (Ctx.calm (by with_reducible assumption)) ?_); (walk_at "wg"))
  | ((refine wgl_consV ?_); (walk_at "wg"))
  | ((refine wgl_nilV ?_); (walk_at "wg"))
  | exact ⟨rfl, rfl⟩)
local macro_rules | `(tactic| walk_at "d_we") => `(tactic| first
  | ((with_reducible show DL.WE _ (Expr.Subscript _ (Expr.Slice _ _ none _) _) _ _ _); (refine we_slA ?_))
  | ((with_reducible show DL.WE _ (Expr.BinOp (Expr.List _ _) Operator.Add _ _) _ _ _); (refine we_addN ?_))
  | ((with_reducible show DL.WE _ (Expr.BinOp (Expr.ListComp _ _ _ _) Operator.Add _ _) _ _ _); (refine we_addN ?_))
  | ((with_reducible show DL.WE _ (Expr.BinOp _ Operator.Add (Expr.ListComp _ _ _ _) _) _ _ _); (refine we_addN ?_))
  | ((with_reducible show DL.WE _ (Expr.BinOp _ Operator.Add (Expr.List _ _) _) _ _ _); (refine we_addN ?_))
  | ((with_reducible show DL.WE _ (Expr.BinOp (Expr.List _ _) Operator.Mult _ _) _ _ _); (refine we_repN ?_))
  | ((with_reducible show DL.WE _ (Expr.Call (Expr.Attribute _ "join" _) [_] [] _) _ _ _); (refine we_join ?_))
  | ((with_reducible show DL.WE _ (Expr.Call (Expr.Name "dict" _) [_] [] _) _ _ _); (refine' we_dictP (Ctx.calm (by with_reducible assumption)) ?m ?_); (case m => with_reducible assumption)))
local macro_rules | `(tactic| walk_at "dx2") => `(tactic| first
  | ((with_reducible show DL.WO _ _ _ _ _); (first | with_reducible refine wo_none ?_ | with_reducible refine wo_some ?_)))
local macro_rules | `(tactic| walk_at "d_rest") => `(tactic| first
  | ((with_reducible show DL.SlQ _ _ _ _ _); (first | with_reducible refine sl_t ?_ | with_reducible refine sl_l ?_))
  | with_reducible refine str_q ?_)
local macro_rules | `(tactic| walk_at "d_rest") => `(tactic| first
  | ((with_reducible refine' sub_at ?m ?_); (case m => walk_at "look"))
  | ((with_reducible refine' in_at ?m ?_); (case m => walk_at "look"))
  | ((with_reducible refine' len_at ?m ?_); (case m => walk_at "look"))
  | ((with_reducible refine' list_at ?m ?_); (case m => walk_at "look"))
  | ((with_reducible show DL.SubO _ _ _ _ _ _ _); (first
    | ((with_reducible refine' so_l ?e ?_); (case e => first | with_reducible assumption | ((with_reducible show atI (_ :: _) _ = _); rfl)))
    | ((with_reducible refine' so_S ?v ?_); (case v => with_reducible assumption))
    | ((with_reducible refine' so_lkS ?v ?_); (case v => with_reducible assumption))
    | ((with_reducible refine' so_n ?e ?v ?_); (case e => first | exact keyN_opt | rfl); (case v => with_reducible assumption))
    | ((with_reducible refine' so_dl 0 ?e ?h1 ?h2 ?_); (case e => rfl); (case h1 => decide +kernel); (case h2 => rfl))
    | ((with_reducible refine' so_dl 1 ?e ?h1 ?h2 ?_); (case e => rfl); (case h1 => decide +kernel); (case h2 => rfl))
    | ((with_reducible refine' so_dl 2 ?e ?h1 ?h2 ?_); (case e => rfl); (case h1 => decide +kernel); (case h2 => rfl))))
  | with_reducible refine io_S ?_
  | with_reducible refine io_s ?_
  | with_reducible refine lo_l ?_
  | with_reducible refine lo_d ?_
  | with_reducible refine to_l ?_
  | with_reducible refine to_d ?_)
local macro_rules | `(tactic| walk_at "d_wt") => `(tactic| first
  | ((with_reducible show DL.WT _ (Expr.Compare _ [CmpOp.Is] [Expr.Constant (Const.bool false) _ _] _) _ _ _); (refine wt_isF ?_)))
local macro_rules | `(tactic| walk_at "d_rest") => `(tactic| first
  | with_reducible refine isb_b ?_
  | with_reducible refine isb_l ?_
  | with_reducible refine isb_r ?_)
local macro_rules | `(tactic| walk_at "d_rest") => `(tactic| first
  | ((with_reducible show ite (decide (Str.ofString _ = Str.ofString _) = true) _ _); (first | (refine ite_rt (decide_eq_true (by decide +kernel)) ?_) | (refine ite_rf (decide_eq_false (by decide +kernel)) ?_))))
local macro_rules | `(tactic| walk_at "d_we") => `(tactic| first
  | ((with_reducible show DL.WE _ (Expr.BinOp (Expr.Tuple _ _ _) Operator.Mult _ _) _ _ _); (refine we_repT ?_)))
local macro_rules | `(tactic| walk_at "d_we") => `(tactic| first
  | ((with_reducible show DL.WE _ (Expr.Call (Expr.Attribute _ "insert" _) [_, _] [] _) _ _ _); (refine we_ins ?_)))
local macro_rules | `(tactic| walk_at "kna") => `(tactic| first
  | with_reducible assumption
  | ((with_reducible apply KndAt.bx2); (walk_at "kna"); (with_reducible assumption); (with_reducible assumption)))
theorem range0n {n : Nat} : rangeD 0 n = (List.range n).map fun i : Nat => D.int (i : Int) := List.map_congr_left fun i _ => by rw [Int.zero_add]
structure BondA where
  n : Nat
  ks : List D
  M : Nat → Nat → Nat
  u : D
  v : D
  μ : Mu
abbrev spBond (cN C : Addr) : Spc := specS (α := BondA) (fun a ds μ => ds = [.ins C (webF a.n a.ks a.M), a.u, a.v] ∧ μ = a.μ ∧ ibD a.u = true ∧ ibD a.v = true)
  (fun a μ' d => a.μ = μ' ∧ ptB a.n a.u = true ∧ ptB a.n a.v = true ∧ d = .int ((a.M (natD a.u) (natD a.v) : Nat) : Int))
  (fun a μ' x => a.μ = μ' ∧ ((ptB a.n a.u = false ∧ x = ⟨.ref cN, [("point", a.u)]⟩) ∨ (ptB a.n a.u = true ∧ ptB a.n a.v = false ∧ x = ⟨.ref cN, [("point", a.v)]⟩)))
theorem mat_at {n i : Nat} {M : Nat → Nat → Nat} {μ : Mu} {R : D → Prop} (hi : i < n) (r : R (.lst (rowD n (M i)))) : IxQ μ (matD n M) (.int (i : Int)) R := ix_l (atI_n (by omega) (by rw [Int.toNat_natCast, List.getElem?_map, List.getElem?_range hi]; rfl)) r
theorem row_at {n j : Nat} {f : Nat → Nat} {μ : Mu} {R : D → Prop} (hj : j < n) (r : R (.int ((f j : Nat) : Int))) : IxQ μ (.lst (rowD n f)) (.int (j : Int)) R := ix_l (rowD_at hj) r
theorem pt_int {n : Nat} {d : D} (h : ptB n d = true) : ∃ i : Nat, d = .int (i : Int) ∧ i < n := by
  cases d <;> simp [ptB] at h
  rename_i i
  exact ⟨i.toNat, by rw [Int.toNat_of_nonneg h.1], by omega⟩
theorem ok_NoPoint_init {K : PySem.W.Frag} {f C : Addr} {fd : FuncData} (F : Fun K "__init__" "NoPoint.__init__" s_NoPoint_init f fd) (T : OexC K C) (no : PySem.W.findIn K (.ref C) "point" = some none) : FnOk P w K mg base CX0 1 f fd ["self", "point"] (spX C "point") := by
  refine F.ok sc_NoPoint_init (fun vs H Q E h => ?_) fun cdv A outer s H vs Q E hr h => ?_
  · obtain ⟨a, y, rfl, _⟩ := h; rfl
  · obtain ⟨a, y, rfl, ha, k⟩ := h
    exact ⟨_, pss_one (ps_ost (pv 0) (pv 1)), _, rfl, _, rfl, a, C, rfl, T, no, .inl ⟨ha, k⟩⟩
theorem ok_Web_bond {f : Addr} {fd : FuncData} (F : Fun K "bond" "Web.bond" s_Web_bond f fd) (G_is_point : GFn P w K mg base "is_point" 2 spIsPoint) (G_NoPoint : GXk P w K mg base "NoPoint" c_NoPoint "point" 1) (T_Web : Kls K c_Web ["points", "knots", "grid"]) : FnOk P w K mg base (L2.CX P w) 3 f fd ["self", "u", "v"] (lift K (spBond c_NoPoint c_Web)) := by
  refine fn_dl F sc_Web_bond (fun ds μ Q E h => ?_) fun X hX hf ds μ Q E hE h => ?_
  · obtain ⟨a, ⟨rfl, _⟩, _⟩ := h; rfl
  have w0 : Nw X "self" 0 := hX.nl (by decide +kernel) (by decide +kernel)
  have m0 : Nm X "self" 0 := w0.toNm
  have w1 : Nw X "u" 1 := hX.nl (by decide +kernel) (by decide +kernel)
  have m1 : Nm X "u" 1 := w1.toNm
  have w2 : Nw X "v" 2 := hX.nl (by decide +kernel) (by decide +kernel)
  have m2 : Nm X "v" 2 := w2.toNm
  have w3 : Nw X "point" 3 := hX.nl (by decide +kernel) (by decide +kernel)
  have m3 : Nm X "point" 3 := w3.toNm
  have c_is_point : Cl X "is_point" spIsPoint := hX.cl G_is_point (by decide +kernel) (by decide)
  have k_NoPoint : Xk X "NoPoint" c_NoPoint "point" := hX.xk G_NoPoint (by decide +kernel) (by decide)
  have t_Web : Kls X.K c_Web ["points", "knots", "grid"] := hX.kls T_Web
  obtain ⟨⟨n, ks, M, u, v, μ0⟩, ⟨rfl, rfl, hu, hv⟩, q, qx⟩ := h
  dsimp only at hu hv q qx ⊢
  change WB X _ [some (.ins c_Web (webF n ks M)), some u, some v, none] μ _
  refine wb_go ?_
  have step : ∀ d : D, ibD d = true → ptB n d = true → ∃ i : Nat, d = .int (i : Int) ∧ i < n := fun d _ h => pt_int h
  walk_at "d_wb"
  refine ctx_for hX ?_
  refine wi_tup ?_
  walk_at "dx"
  refine ⟨[u, v], rfl, ?_⟩
  refine for_typ (xs := [u, v]) (f := id) (fun pre Γ' μ' => ∃ o : Option D, Γ' = [some (.ins c_Web (webF n ks M)), some u, some v, o] ∧ μ = μ' ∧ ∀ d ∈ pre, ptB n d = true) ⟨_, rfl, rfl, fun _ z => (by cases z)⟩ (fun _ _ _ _ => True.intro) ?_ ?_
  · rintro pre d post _ _ hpp ⟨o, rfl, rfl, hpre⟩
    have hd : ibD d = true := by
      have hm : d ∈ [u, v] := by rw [hpp]; simp
      simp only [List.mem_cons, List.not_mem_nil, or_false] at hm
      rcases hm with rfl | rfl <;> assumption
    have hbad : ptB n d = false → X.xd [some (.ins c_Web (webF n ks M)), some u, some v, some d] μ ⟨.ref c_NoPoint, [("point", d)]⟩ := fun h => by
      rw [hE]
      refine qx _ _ ⟨rfl, ?_⟩
      match pre, hpp with
      | [], e => cases e; exact .inl ⟨h, rfl⟩
      | [a], e => cases e; exact .inr ⟨hpre u (by simp), h, rfl⟩
      | a :: b :: pre, e =>
        have := congrArg List.length e
        simp at this
    have hok : ptB n d = true → ∃ o' : Option D, [some (.ins c_Web (webF n ks M)), some u, some v, some d] = [some (.ins c_Web (webF n ks M)), some u, some v, o'] ∧ μ = μ ∧ ∀ x ∈ pre ++ [d], ptB n x = true := fun h => ⟨_, rfl, rfl, fun x hx => by
      rcases List.mem_append.mp hx with hx | hx
      · exact hpre x hx
      · rw [List.mem_singleton.mp hx]; exact h⟩
    cases d <;> simp only [ibD] at hd <;> first | cases hd | skip
    all_goals show WGx X _ _ _ _ _
    all_goals walk_at "dl"
    all_goals first
      | exact hbad rfl
      | (refine hbad (decide_eq_false ?_); omega)
      | (refine hok (decide_eq_true ?_); omega)
  · rintro _ _ ⟨o, rfl, rfl, hpre⟩
    have pu := hpre u (by simp)
    have pv := hpre v (by simp)
    obtain ⟨i, rfl, hi⟩ := pt_int pu
    obtain ⟨j, rfl, hj⟩ := pt_int pv
    have q' : Q μ (.int ((M i j : Nat) : Int)) := q _ _ ⟨rfl, pu, pv, by rfl⟩
    walk_at "dl"
    first | refine sub_ix (mat_at hi ?_) | refine mat_at hi ?_
    walk_at "dx"
    first | refine sub_ix (row_at hj ?_) | refine row_at hj ?_
    walk_at "dl"
    exact q'
theorem bond_use {cN C : Addr} {n u v : Nat} {ks : List D} {M : Nat → Nat → Nat} {μ : Mu} {Q : Mu → D → Prop} {E : Mu → Xd → Prop} (hu : u < n) (hv : v < n) (h : Q μ (.int ((M u v : Nat) : Int))) : spBond cN C [.ins C (webF n ks M), .int (u : Int), .int (v : Int)] μ Q E := by
  have pu : ptB n (.int (u : Int)) = true := decide_eq_true (by omega)
  have pv : ptB n (.int (v : Int)) = true := decide_eq_true (by omega)
  refine ⟨⟨n, ks, M, .int u, .int v, μ⟩, ⟨rfl, rfl, rfl, rfl⟩, fun _ _ ⟨h1, _, _, h2⟩ => ?_, fun _ _ ⟨_, z⟩ => ?_⟩
  · dsimp only [natD] at h1 h2
    rw [Int.toNat_natCast, Int.toNat_natCast] at h2
    subst h1 h2; exact h
  · rcases z with ⟨z, _⟩ | ⟨_, z, _⟩
    · dsimp only at z; rw [pu] at z; cases z
    · dsimp only at z; rw [pv] at z; cases z
/-- all bonds but 1 -/
def aboveN (n u : Nat) : List Nat := (List.range (n - (u + 1))).map fun v => u + 1 + v
def pairsN (n : Nat) : List (Nat × Nat) := (List.range n).flatMap fun u => (aboveN n u).map fun v => (u, v)
def bondP (M : Nat → Nat → Nat) (p : Nat × Nat) : D := tieD (p.1, p.2, M p.1 p.2)
def bondL (n : Nat) (M : Nat → Nat → Nat) : List (Nat × Nat) := (pairsN n).filter fun p => !decide (M p.1 p.2 = 1)
def bondsD (n : Nat) (M : Nat → Nat → Nat) : List D := (bondL n M).map (bondP M)
theorem mem_above {n u v : Nat} : v ∈ aboveN n u ↔ u < v ∧ v < n := by
  unfold aboveN
  rw [List.mem_map]
  constructor
  · rintro ⟨w, hw, rfl⟩
    rw [List.mem_range] at hw
    omega
  · rintro ⟨h1, h2⟩
    exact ⟨v - (u + 1), List.mem_range.mpr (by omega), by omega⟩
theorem pairs_in {n : Nat} {p : Nat × Nat} (h : p ∈ pairsN n) : p.1 < p.2 ∧ p.2 < n := by
  obtain ⟨u, hu, h⟩ := List.mem_flatMap.mp h
  obtain ⟨v, hv, rfl⟩ := List.mem_map.mp h
  exact mem_above.mp hv
theorem pairs_of {n u v : Nat} (h : u < v) (hv : v < n) : (u, v) ∈ pairsN n := List.mem_flatMap.mpr ⟨u, List.mem_range.mpr (by omega), List.mem_map.mpr ⟨v, mem_above.mpr ⟨h, hv⟩, rfl⟩⟩
theorem above_len {n : Nat} : ((List.range n).flatMap (aboveN n)).length ≤ n * n := by
  have h : ∀ l : List Nat, (l.flatMap (aboveN n)).length ≤ l.length * n := fun l => by
    induction l with
    | nil => simp
    | cons u l ih =>
      have h1 : (aboveN n u).length ≤ n := by unfold aboveN; rw [List.length_map, List.length_range]; omega
      rw [List.flatMap_cons, List.length_append, List.length_cons, Nat.succ_mul]
      omega
  have := h (List.range n)
  rw [List.length_range] at this
  exact this
structure BondsA where
  n : Nat
  ks : List D
  M : Nat → Nat → Nat
  fz : Bool
  μ : Mu
abbrev spBonds (C : Addr) : Spc := specS (α := BondsA) (fun a ds μ => ds = [.ins C (webF a.n a.ks a.M)] ∧ μ = a.μ ∧ a.n ≤ 1000) (fun a μ' d => newP a.fz a.μ (bondsD a.n a.M) μ' d)
theorem range2 {a n : Nat} : rangeD (0 + (a : Int) + 1) ((n : Int) - (0 + (a : Int) + 1)).toNat = (aboveN n a).map fun v : Nat => D.int (v : Int) := by
  have e : (((n : Int) - (0 + (a : Int) + 1)).toNat) = n - (a + 1) := by omega
  rw [e]
  unfold rangeD aboveN
  rw [List.map_map]
  refine List.map_congr_left fun v _ => ?_
  show D.int (0 + (a : Int) + 1 + (v : Int)) = D.int ((a + 1 + v : Nat) : Int)
  congr 1
  omega
theorem ok_Web_bonds {f : Addr} {fd : FuncData} (F : Fun K "bonds" "Web.bonds" s_Web_bonds f fd) (T_Web : Kls K c_Web ["points", "knots", "grid"]) (M_range : mg "range" = none) : FnOk P w K mg base (L2.CX P w) 2 f fd ["self"] (lift K (spBonds c_Web)) := by
  refine fn_dl F sc_Web_bonds (fun ds μ Q E h => ?_) fun X hX hf ds μ Q E hE h => ?_
  · obtain ⟨a, ⟨rfl, _⟩, _⟩ := h; rfl
  have w0 : Nw X "self" 0 := hX.nc hf (by decide +kernel) (by decide +kernel)
  have m0 : Nm X "self" 0 := w0.toNm
  have w1 : Nw X "pairs" 1 := hX.nl (by decide +kernel) (by decide +kernel)
  have m1 : Nm X "pairs" 1 := w1.toNm
  have t_Web : Kls X.K c_Web ["points", "knots", "grid"] := hX.kls T_Web
  have b_range : Bl X "range" := hX.bl (by decide +kernel) M_range
  obtain ⟨⟨n, ks, M, fz, μ0⟩, ⟨rfl, rfl, hn⟩, q, _⟩ := h
  dsimp only at hn q ⊢
  change WB X _ [some (.ins c_Web (webF n ks M)), none, none, none] μ _
  refine wb_go ?_
  walk_at "d_wb"
  refine ctx_setLc2 hX [("u", 2), ("v", 3)] (vs := [2]) (vs1 := [3]) w1 ?_
  refine wi_range1 b_range ?_
  walk_at "dx"
  rw [Int.toNat_natCast]
  have hsq : n * n ≤ 1000 * 1000 := Nat.mul_le_mul hn hn
  refine lc2_map (xs := List.range n) (f := fun i : Nat => D.int (0 + (i : Int))) (aboveN n) (fun v : Nat => D.int (v : Int)) (fun u => [some (.ins c_Web (webF n ks M)), none, some (.int (0 + (u : Int))), none]) (fun u v => [some (.ins c_Web (webF n ks M)), none, some (.int (0 + (u : Int))), some (.int (v : Int))]) (fun u v => .tup [.int (0 + (u : Int)), .int (v : Int)]) True.intro (Nat.lt_of_le_of_lt above_len (by show n * n < 16777216; omega)) (fun u _ => ⟨rfl, True.intro⟩) ?_ ?_ ?_ ?_ ?_
  · intro X' hb u hu
    have hX' := hX.blk hb
    have w2 : Nw X' "u" 2 := hX'.nl (by decide +kernel) (by decide +kernel)
    have m2 : Nm X' "u" 2 := w2.toNm
    have w3 : Nw X' "v" 3 := hX'.nl (by decide +kernel) (by decide +kernel)
    have m3 : Nm X' "v" 3 := w3.toNm
    have m0 : Nm X' "self" 0 := hX'.nm (by decide +kernel)
    have t_Web : Kls X'.K c_Web ["points", "knots", "grid"] := hX'.kls T_Web
    have b_range : Bl X' "range" := hX'.bl (by decide +kernel) M_range
    walk_at "wg"
  · intro X' hb u hu R hR
    have hX' := hX.blk hb
    have w2 : Nw X' "u" 2 := hX'.nl (by decide +kernel) (by decide +kernel)
    have m2 : Nm X' "u" 2 := w2.toNm
    have w3 : Nw X' "v" 3 := hX'.nl (by decide +kernel) (by decide +kernel)
    have m3 : Nm X' "v" 3 := w3.toNm
    have m0 : Nm X' "self" 0 := hX'.nm (by decide +kernel)
    have t_Web : Kls X'.K c_Web ["points", "knots", "grid"] := hX'.kls T_Web
    have b_range : Bl X' "range" := hX'.bl (by decide +kernel) M_range
    rw [List.mem_range] at hu
    refine wi_range2 b_range ?_
    walk_at "dx"
    rw [range2]
    exact hR (fun _ => True) True.intro
  · intro X' hb u hu v hv
    have hX' := hX.blk hb
    have w2 : Nw X' "u" 2 := hX'.nl (by decide +kernel) (by decide +kernel)
    have m2 : Nm X' "u" 2 := w2.toNm
    have w3 : Nw X' "v" 3 := hX'.nl (by decide +kernel) (by decide +kernel)
    have m3 : Nm X' "v" 3 := w3.toNm
    have m0 : Nm X' "self" 0 := hX'.nm (by decide +kernel)
    have t_Web : Kls X'.K c_Web ["points", "knots", "grid"] := hX'.kls T_Web
    have b_range : Bl X' "range" := hX'.bl (by decide +kernel) M_range
    walk_at "wg"
  · intro X' hb u hu v hv
    have hX' := hX.blk hb
    have w2 : Nw X' "u" 2 := hX'.nl (by decide +kernel) (by decide +kernel)
    have m2 : Nm X' "u" 2 := w2.toNm
    have w3 : Nw X' "v" 3 := hX'.nl (by decide +kernel) (by decide +kernel)
    have m3 : Nm X' "v" 3 := w3.toNm
    have m0 : Nm X' "self" 0 := hX'.nm (by decide +kernel)
    have t_Web : Kls X'.K c_Web ["points", "knots", "grid"] := hX'.kls T_Web
    have b_range : Bl X' "range" := hX'.bl (by decide +kernel) M_range
    walk_at "dx"
    exact ⟨rfl, rfl⟩
  have hps : ((List.range n).flatMap fun x => (aboveN n x).map fun v : Nat => D.tup [.int (0 + (x : Int)), .int (v : Int)]) = (pairsN n).map fun p => D.tup [.int (p.1 : Int), .int (p.2 : Int)] := by
    unfold pairsN
    rw [List.map_flatMap]
    congr 1
    funext x
    rw [List.map_map]
    refine List.map_congr_left fun v _ => ?_
    show D.tup _ = D.tup _
    rw [Int.zero_add]
  rw [hps]
  walk_at "dx"
  walk_at "d_wb"
  refine ws_ret ?_
  refine ctx_lcN hX [("u", 2), ("v", 3)] (vs := [2, 3]) ?_
  refine wi_list ?_
  walk_at "dx"
  have hpl : (pairsN n).length < 16777216 := by
    have h1 := above_len (n := n)
    have h2 : (pairsN n).length = ((List.range n).flatMap (aboveN n)).length := by
      unfold pairsN
      rw [List.length_flatMap, List.length_flatMap]
      congr 1
      exact List.map_congr_left fun x _ => List.length_map ..
    omega
  refine lc_typ (xs := pairsN n) (f := fun p => D.tup [.int (p.1 : Int), .int (p.2 : Int)]) (fun p => [some (.ins c_Web (webF n ks M)), some (.lst ((pairsN n).map fun p => D.tup [.int (p.1 : Int), .int (p.2 : Int)])), some (.int (p.1 : Int)), some (.int (p.2 : Int))]) (fun p => !decide (M p.1 p.2 = 1)) (bondP M) SeqL.l.still hpl ?_ ?_ ?_ ?_
  · intro X' hb p hp
    have hX' := hX.blk hb
    have w2 : Nw X' "u" 2 := hX'.nl (by decide +kernel) (by decide +kernel)
    have m2 : Nm X' "u" 2 := w2.toNm
    have w3 : Nw X' "v" 3 := hX'.nl (by decide +kernel) (by decide +kernel)
    have m3 : Nm X' "v" 3 := w3.toNm
    have m0 : Nm X' "self" 0 := hX'.nm (by decide +kernel)
    have t_Web : Kls X'.K c_Web ["points", "knots", "grid"] := hX'.kls T_Web
    walk_at "wg"
  · intro X' hb p hp
    have hX' := hX.blk hb
    have w2 : Nw X' "u" 2 := hX'.nl (by decide +kernel) (by decide +kernel)
    have m2 : Nm X' "u" 2 := w2.toNm
    have w3 : Nw X' "v" 3 := hX'.nl (by decide +kernel) (by decide +kernel)
    have m3 : Nm X' "v" 3 := w3.toNm
    have m0 : Nm X' "self" 0 := hX'.nm (by decide +kernel)
    have t_Web : Kls X'.K c_Web ["points", "knots", "grid"] := hX'.kls T_Web
    obtain ⟨h1, h2⟩ := pairs_in hp
    refine wts_one ?_
    walk_at "dx"
    first | refine sub_ix (mat_at (by omega) ?_) | refine mat_at (by omega) ?_
    walk_at "dx"
    first | refine sub_ix (row_at (by omega) ?_) | refine row_at (by omega) ?_
    walk_at "dx"
    exact ⟨rfl, by congr 1; exact decide_eq_decide.mpr (by omega)⟩
  · intro X' hb p hp _
    have hX' := hX.blk hb
    have w2 : Nw X' "u" 2 := hX'.nl (by decide +kernel) (by decide +kernel)
    have m2 : Nm X' "u" 2 := w2.toNm
    have w3 : Nw X' "v" 3 := hX'.nl (by decide +kernel) (by decide +kernel)
    have m3 : Nm X' "v" 3 := w3.toNm
    have m0 : Nm X' "self" 0 := hX'.nm (by decide +kernel)
    have t_Web : Kls X'.K c_Web ["points", "knots", "grid"] := hX'.kls T_Web
    obtain ⟨h1, h2⟩ := pairs_in hp
    walk_at "dx"
    first | refine sub_ix (mat_at (by omega) ?_) | refine mat_at (by omega) ?_
    walk_at "dx"
    first | refine sub_ix (row_at (by omega) ?_) | refine row_at (by omega) ?_
    walk_at "dx"
    exact ⟨rfl, rfl⟩
  · exact newP_L q
theorem bonds_use {C : Addr} {n : Nat} {ks : List D} {M : Nat → Nat → Nat} {μ : Mu} {Q : Mu → D → Prop} {E : Mu → Xd → Prop} (hn : n ≤ 1000) (h : Q μ (.lst (bondsD n M))) : spBonds C [.ins C (webF n ks M)] μ Q E := ⟨⟨n, ks, M, true, μ⟩, ⟨rfl, rfl, hn⟩, fun _ _ ⟨h1, h2⟩ => by dsimp only at h1 h2; subst h1 h2; exact h, fun _ _ z => z.elim⟩
theorem many_use {C : Addr} {n : Nat} {ks : List D} {M : Nat → Nat → Nat} {μ : Mu} {Q : Mu → D → Prop} {E : Mu → Xd → Prop} (h : Q μ (.int (n : Int))) : spWebMany C [.ins C (webF n ks M)] μ Q E := ⟨⟨n, ks, M, μ⟩, ⟨rfl, rfl⟩, fun _ _ ⟨h1, h2⟩ => by dsimp only at h1; subst h1 h2; exact h, fun _ _ z => z.elim⟩
theorem wties_use {C : Addr} {n : Nat} {ks : List D} {M : Nat → Nat → Nat} {μ : Mu} {Q : Mu → D → Prop} {E : Mu → Xd → Prop} (h : ∀ p, μ p = none → Q (updM μ p (.lst ks)) (.ref p)) : spWebTies C [.ins C (webF n ks M)] μ Q E := ⟨⟨n, ks, M, μ⟩, ⟨rfl, rfl⟩, fun _ _ ⟨p, h0, h1, h2⟩ => by dsimp only at h0 h1; subst h1 h2; exact h p h0, fun _ _ z => z.elim⟩
def bondT (n : Nat) (M : Nat → Nat → Nat) : List (Nat × Nat × Nat) := (bondL n M).map fun p => (p.1, p.2, M p.1 p.2)
theorem bondsD_T {n : Nat} {M : Nat → Nat → Nat} : bondsD n M = (bondT n M).map tieD := by
  unfold bondsD bondT
  rw [List.map_map]
  rfl
theorem EI.nat : EI fun n : Nat => D.int (n : Int) := fun a b => by
  rw [EI.int (a : Int) (b : Int)]
  omega
theorem ei_tie : EI tieD := EI.t3 EI.nat EI.nat EI.nat
theorem sh_tie {ts : List (Nat × Nat × Nat)} : shD 2 (.lst (ts.map tieD)) = true := by
  show (ts.map tieD).all (shD 1) = true
  rw [List.all_map, List.all_eq_true]
  exact fun _ _ => rfl
structure WEqA where
  n : Nat
  ks : List D
  M : Nat → Nat → Nat
  n2 : Nat
  ks2 : List D
  M2 : Nat → Nat → Nat
  o : Option D
  μ : Mu
def webEq (n : Nat) (M : Nat → Nat → Nat) (n2 : Nat) (M2 : Nat → Nat → Nat) : Bool := decide (n = n2) && decide (bondT n M = bondT n2 M2)
def webOr (o : Option D) (d : D) : D := match o with
  | none => d
  | some y => y
def eqOr (o : Option D) (b : Bool) : Bool := match o with
  | none => b
  | some _ => false
abbrev spWEq (C : Addr) : Spc := specS (α := WEqA) (fun a ds μ => ds = [.ins C (webF a.n a.ks a.M), webOr a.o (.ins C (webF a.n2 a.ks2 a.M2))] ∧ μ = a.μ ∧ a.n ≤ 1000 ∧ a.n2 ≤ 1000 ∧ ∀ y, a.o = some y → othD y = true) (fun a μ' d => a.μ = μ' ∧ d = .bl (eqOr a.o (webEq a.n a.M a.n2 a.M2)))
theorem ok_Web_eq {f : Addr} {fd : FuncData} (F : Fun K "__eq__" "Web.__eq__" s_Web_eq f fd) (G_Web_bonds : GCm P w K mg base c_Web "bonds" 2 (spBonds c_Web)) (N_Web : mg "Web" = some (.ref c_Web)) (T_Web : Kls K c_Web ["points", "knots", "grid"]) (J_Web : XinC K c_Web) (Y_kit_Web_Web : PySem.W.kitOne K (.ref c_Web) (.ref c_Web) = some true) (Y_kitb_list_Web : PySem.W.kitOne K (.type "list") (.ref c_Web) = some false) (Y_kitb_NoneType_Web : PySem.W.kitOne K (.type "NoneType") (.ref c_Web) = some false) (Y_kitb_int_Web : PySem.W.kitOne K (.type "int") (.ref c_Web) = some false) (M_isinstance : mg "isinstance" = none) : FnOk P w K mg base (L2.CX P w) 3 f fd ["self", "other"] (lift K (spWEq c_Web)) := by
  refine fn_dl F sc_Web_eq (fun ds μ Q E h => ?_) fun X hX hf ds μ Q E hE h => ?_
  · obtain ⟨a, ⟨rfl, _⟩, _⟩ := h; rfl
  have w0 : Nw X "self" 0 := hX.nl (by decide +kernel) (by decide +kernel)
  have m0 : Nm X "self" 0 := w0.toNm
  have w1 : Nw X "other" 1 := hX.nl (by decide +kernel) (by decide +kernel)
  have m1 : Nm X "other" 1 := w1.toNm
  have c_Web_bonds : Cm X c_Web "bonds" (spBonds c_Web) := hX.cm G_Web_bonds (by decide)
  have t_Web : Kls X.K c_Web ["points", "knots", "grid"] := hX.kls T_Web
  have j_Web : XinC X.K c_Web := by rw [hX.K]; exact J_Web
  have b_isinstance : Bl X "isinstance" := hX.bl (by decide +kernel) M_isinstance
  obtain ⟨⟨n, ks, M, n2, ks2, M2, o, μ0⟩, ⟨rfl, rfl, hn, hn2, ho⟩, q, _⟩ := h
  dsimp only at hn hn2 ho q ⊢
  cases o with
  | some y =>
    have hy := ho y rfl
    have q' : Q μ (.bl false) := q _ _ ⟨rfl, rfl⟩
    change WB X _ [some (.ins c_Web (webF n ks M)), some y] μ _
    refine wb_go ?_
    walk_at "d_wb"
    refine ws_ret (we_and ?_)
    refine we_isiC b_isinstance ?_
    walk_at "dx"
    refine hX.cls N_Web (by decide +kernel) ?_
    cases y with
    | non =>
      refine ⟨.type "NoneType", c_Web, false, rfl, .inl ⟨_, rfl, rfl⟩, by rw [hX.K]; exact Y_kitb_NoneType_Web, ?_⟩
      walk_at "dx"
      exact q'
    | int i =>
      refine ⟨.type "int", c_Web, false, rfl, .inl ⟨_, rfl, rfl⟩, by rw [hX.K]; exact Y_kitb_int_Web, ?_⟩
      walk_at "dx"
      exact q'
    | lst ds =>
      refine ⟨.type "list", c_Web, false, rfl, .inl ⟨_, rfl, rfl⟩, by rw [hX.K]; exact Y_kitb_list_Web, ?_⟩
      walk_at "dx"
      exact q'
    | _ => cases hy
  | none =>
    change WB X _ [some (.ins c_Web (webF n ks M)), some (.ins c_Web (webF n2 ks2 M2))] μ _
    refine wb_go ?_
    walk_at "d_wb"
    refine ws_ret (we_and ?_)
    refine we_isiC b_isinstance ?_
    walk_at "dx"
    refine hX.cls N_Web (by decide +kernel) ?_
    refine ⟨.ref c_Web, c_Web, true, rfl, .inr (.inr ⟨c_Web, _, .inl rfl, j_Web, rfl⟩), by rw [hX.K]; exact Y_kit_Web_Web, ?_⟩
    have q2 : Q μ (.bl (webEq n M n2 M2)) := q _ _ ⟨rfl, rfl⟩
    unfold webEq at q2
    walk_at "dx"
    · rename_i e
      have e' : n = n2 := by omega
      subst e'
      refine bonds_use hn ?_
      walk_at "dx"
      refine bonds_use hn2 ?_
      rw [bondsD_T, bondsD_T]
      refine eqa_d (n := 2) (m := 2) Vw.f Vw.f sh_tie sh_tie (by decide) (by decide) ?_
      rw [(EI.lst ei_tie).dec]
      rw [decide_eq_true rfl, Bool.true_and] at q2
      exact q2
    · rename_i e
      rw [decide_eq_false (show ¬ n = n2 by omega), Bool.false_and] at q2
      exact q2
theorem weq_use {C : Addr} {n n2 : Nat} {ks ks2 : List D} {M M2 : Nat → Nat → Nat} {μ : Mu} {Q : Mu → D → Prop} {E : Mu → Xd → Prop} (hn : n ≤ 1000) (hn2 : n2 ≤ 1000) (h : Q μ (.bl (webEq n M n2 M2))) : spWEq C [.ins C (webF n ks M), .ins C (webF n2 ks2 M2)] μ Q E := ⟨⟨n, ks, M, n2, ks2, M2, none, μ⟩, ⟨rfl, rfl, hn, hn2, fun _ z => (by cases z)⟩, fun _ _ ⟨h1, h2⟩ => by dsimp only at h1; subst h1 h2; exact h, fun _ _ z => z.elim⟩
theorem weq_oth {C : Addr} {n : Nat} {ks : List D} {M : Nat → Nat → Nat} {y : D} {μ : Mu} {Q : Mu → D → Prop} {E : Mu → Xd → Prop} (hn : n ≤ 1000) (hy : othD y = true) (h : Q μ (.bl false)) : spWEq C [.ins C (webF n ks M), y] μ Q E := ⟨⟨n, ks, M, n, ks, M, some y, μ⟩, ⟨rfl, rfl, hn, hn, fun _ e => by cases e; exact hy⟩, fun _ _ ⟨h1, h2⟩ => by dsimp only at h1; subst h1 h2; exact h, fun _ _ z => z.elim⟩
def divN (r m : Nat) : Bool := divI (r : Int) (m : Int)
theorem divN_eq {r m : Nat} : divN r m = decide (r ∣ m) := by
  unfold divN divI
  by_cases h : (0 : Int) < (r : Int)
  · rw [if_pos h]
    refine decide_eq_decide.mpr ?_
    rw [← Int.natCast_emod]
    constructor
    · intro e; exact Nat.dvd_of_mod_eq_zero (by omega)
    · intro e; have := Nat.mod_eq_zero_of_dvd e; omega
  · rw [if_neg h]
    have h0 : r = 0 := by omega
    subst h0
    refine decide_eq_decide.mpr ?_
    rw [Nat.zero_dvd]
    omega
def unbF (M : Nat → Nat → Nat) (ts : List (Nat × Nat × Nat)) : Option Nat := ts.findIdx? fun t => !divN t.2.2 (M t.1 t.2.1)
structure UnbA where
  n : Nat
  ks : List D
  M : Nat → Nat → Nat
  n2 : Nat
  ts : List (Nat × Nat × Nat)
  M2 : Nat → Nat → Nat
  μ : Mu
abbrev spUnb (cA C : Addr) : Spc := specS (α := UnbA) (fun a ds μ => ds = [.ins C (webF a.n a.ks a.M), .ins C (webF a.n2 (a.ts.map tieD) a.M2)] ∧ μ = a.μ ∧ (a.n = a.n2 → InN a.n a.ts)) (fun a μ' d => a.μ = μ' ∧ a.n = a.n2 ∧ d = optI (natO (unbF a.M a.ts))) (fun a μ' x => a.μ = μ' ∧ a.n ≠ a.n2 ∧ x = ⟨.ref cA, []⟩)
theorem idx_hit2 {α : Type} {p : α → Bool} {pre post : List α} {r : α} (h : ∀ x ∈ pre, p x = false) (hr : p r = true) : (pre ++ r :: post).findIdx? p = some pre.length := by
  rw [List.findIdx?_append, List.findIdx?_eq_none_iff.mpr h, List.findIdx?_cons, hr]
  simp
theorem unb_use {cA C : Addr} {n : Nat} {ks : List D} {M M2 : Nat → Nat → Nat} {ts : List (Nat × Nat × Nat)} {μ : Mu} {Q : Mu → D → Prop} {E : Mu → Xd → Prop} (hts : InN n ts) (h : Q μ (optI (natO (unbF M ts)))) : spUnb cA C [.ins C (webF n ks M), .ins C (webF n (ts.map tieD) M2)] μ Q E := ⟨⟨n, ks, M, n, ts, M2, μ⟩, ⟨rfl, rfl, fun _ => hts⟩, fun _ _ ⟨h1, _, h2⟩ => by dsimp only at h1; subst h1 h2; exact h, fun _ _ ⟨_, z, _⟩ => absurd rfl z⟩
theorem unb_apart {cA C : Addr} {n n2 : Nat} {ks : List D} {M M2 : Nat → Nat → Nat} {ts : List (Nat × Nat × Nat)} {μ : Mu} {Q : Mu → D → Prop} {E : Mu → Xd → Prop} (hn : n ≠ n2) (h : E μ ⟨.ref cA, []⟩) : spUnb cA C [.ins C (webF n ks M), .ins C (webF n2 (ts.map tieD) M2)] μ Q E := ⟨⟨n, ks, M, n2, ts, M2, μ⟩, ⟨rfl, rfl, fun z => absurd z hn⟩, fun _ _ ⟨_, z, _⟩ => absurd z hn, fun _ _ ⟨h1, _, h2⟩ => by dsimp only at h1; subst h1 h2; exact h⟩

theorem tsok_in {n : Nat} {ts : List (Nat × Nat × Nat)} (h : TsOk n ts) : InN n ts := fun t ht => ⟨(h t ht).1, (h t ht).2.1⟩
theorem wmake_use {cB C : Addr} {p : Addr} {n : Nat} {ts : List (Nat × Nat × Nat)} {μ : Mu} {Q : Mu → D → Prop} {E : Mu → Xd → Prop} (hn : n ≤ 1000) (hl : ts.length ≤ 64) (hts : TsOk n ts) (hp : μ p = none) (h : Q (updM μ p (.ins C (webF n (ts.map tieD) (closeM n ts)))) .non) : spWebInit cB C [.ref p, .int (n : Int), .lst (ts.map tieD)] (updM μ p (.ins C [])) Q E := by
  have e1 : (ts.map fun u => ((.int u.1, .int u.2.1, .int u.2.2) : D × D × D)).map triD = ts.map tieD := by rw [List.map_map]; rfl
  have e2 : (ts.map fun u => ((.int u.1, .int u.2.1, .int u.2.2) : D × D × D)).map nat3 = ts := by
    rw [List.map_map]
    conv => rhs; rw [← List.map_id ts]
    refine List.map_congr_left fun u _ => ?_
    obtain ⟨a, b, c⟩ := u
    simp [nat3, natD]
  have hg : ∀ u ∈ (ts.map fun u => ((.int u.1, .int u.2.1, .int u.2.2) : D × D × D)), ib3 u = true ∧ good3 n u = true := fun u hu => by
    obtain ⟨v, hv, rfl⟩ := List.mem_map.mp hu
    obtain ⟨e1, e2, e3⟩ := hts v hv
    refine ⟨rfl, ?_⟩
    simp only [good3, ptB, rsB, Bool.and_eq_true, decide_eq_true_eq]
    omega
  refine ⟨⟨p, n, ts.map fun u => (.int u.1, .int u.2.1, .int u.2.2), .lst (ts.map tieD), updM μ p (.ins C [])⟩, ⟨rfl, rfl, updM_same, .inl (by rw [e1]), hn, by rw [List.length_map]; exact hl, fun u hu => (hg u hu).1⟩, ?_, ?_⟩
  · rintro _ _ ⟨h1, _, h2⟩
    dsimp only at h1 h2
    rw [e1, e2, updM_upd] at h2
    subst h1 h2
    exact h
  · rintro _ _ ⟨i, u, hu, hb, _⟩
    have := (hg u (List.mem_of_getElem? hu)).2
    dsimp only at hb
    rw [hb] at this
    cases this
theorem cut_take {ts : List (Nat × Nat × Nat)} {k : Nat} : DL.cutD (ts.map tieD) none (some (k : Int)) = (ts.take k).map tieD := by
  unfold DL.cutD
  have e0 : HT.sIx (ts.map tieD).length 0 none = 0 := rfl
  have e1 : HT.sIx (ts.map tieD).length (ts.map tieD).length (some (k : Int)) = min k (ts.map tieD).length := HT.sIx_nat _ _ _
  rw [e0, e1, List.drop_zero, Nat.sub_zero, List.map_take, List.length_map]
  by_cases h : k ≤ ts.length
  · rw [Nat.min_eq_left h]
  · rw [Nat.min_eq_right (by omega), List.take_of_length_le (by rw [List.length_map]; omega), List.take_of_length_le (by rw [List.length_map]; omega)]
theorem cut_drop {ts : List (Nat × Nat × Nat)} {k : Nat} : DL.cutD (ts.map tieD) (some (k : Int)) none = (ts.drop k).map tieD := by
  unfold DL.cutD
  have e0 : HT.sIx (ts.map tieD).length (ts.map tieD).length none = (ts.map tieD).length := rfl
  have e1 : HT.sIx (ts.map tieD).length 0 (some (k : Int)) = min k (ts.map tieD).length := HT.sIx_nat _ _ _
  rw [e0, e1, List.take_of_length_le (by rw [List.length_drop]; omega), List.map_drop, List.length_map]
  by_cases h : k ≤ ts.length
  · rw [Nat.min_eq_left h]
  · rw [Nat.min_eq_right (by omega), List.drop_of_length_le (by rw [List.length_map]; omega), List.drop_of_length_le (by rw [List.length_map]; omega)]
theorem range_split {n i : Nat} {pre post : List Nat} (h : List.range n = pre ++ i :: post) : i = pre.length ∧ i < n := by
  have h1 : (List.range n)[pre.length]? = some i := by rw [h, List.getElem?_append_right (Nat.le_refl _), Nat.sub_self]; rfl
  have hl : pre.length < n := by
    have := (List.getElem?_eq_some_iff.mp h1).1
    rwa [List.length_range] at this
  rw [List.getElem?_range hl] at h1
  exact ⟨(Option.some.inj h1).symm, by rw [← Option.some.inj h1]; exact hl⟩

structure InvA where
  a : Nat
  r : Nat
  μ : Mu
abbrev spInv : Spc := specS (α := InvA) (fun x ds μ => ds = [.int x.a, .int x.r] ∧ μ = x.μ ∧ 0 < x.r ∧ x.r < 2 ^ 2000 ∧ Nat.gcd x.a x.r = 1) (fun x μ' d => x.μ = μ' ∧ ∃ h : Int, 0 ≤ h ∧ h < (x.r : Int) ∧ (x.r : Int) ∣ h * (x.a : Int) - 1 ∧ d = .int h)
theorem ok_inverse {f : Addr} {fd : FuncData} (F : Fun K "inverse" "inverse" s_inverse f fd)  : FnOk P w K mg base (L2.CX P w) 1 f fd ["number", "rest"] (lift K spInv) := by
  refine fn_dl F sc_inverse (fun ds μ Q E h => ?_) fun X hX hf ds μ Q E hE h => ?_
  · obtain ⟨a, ⟨rfl, _⟩, _⟩ := h; rfl
  have w0 : Nw X "number" 0 := hX.nl (by decide +kernel) (by decide +kernel)
  have m0 : Nm X "number" 0 := w0.toNm
  have w1 : Nw X "rest" 1 := hX.nl (by decide +kernel) (by decide +kernel)
  have m1 : Nm X "rest" 1 := w1.toNm
  have w2 : Nw X "one" 2 := hX.nl (by decide +kernel) (by decide +kernel)
  have m2 : Nm X "one" 2 := w2.toNm
  have w3 : Nw X "two" 3 := hX.nl (by decide +kernel) (by decide +kernel)
  have m3 : Nm X "two" 3 := w3.toNm
  have w4 : Nw X "here" 4 := hX.nl (by decide +kernel) (by decide +kernel)
  have m4 : Nm X "here" 4 := w4.toNm
  have w5 : Nw X "there" 5 := hX.nl (by decide +kernel) (by decide +kernel)
  have m5 : Nm X "there" 5 := w5.toNm
  have w6 : Nw X "times" 6 := hX.nl (by decide +kernel) (by decide +kernel)
  have m6 : Nm X "times" 6 := w6.toNm
  obtain ⟨⟨a, r, μ0⟩, ⟨rfl, rfl, hr, hrb, hg⟩, q, _⟩ := h
  dsimp only at hr hrb hg q ⊢
  change WB X _ [some (.int a), some (.int r), none, none, none, none, none] μ _
  refine wb_go ?_
  walk_at "d_wb"
  refine ctx_par hX w2 w3 ?_
  walk_at "dx"
  walk_at "d_wb"
  refine ws_con ?_
  walk_at "dx"
  rw [← Int.natCast_emod]
  show WB X _ _ _ _
  walk_at "d_wb"
  refine ctx_while hX (fun mm Γ' μ' => ∃ (x y : Nat) (h t : Int) (o : Option D), Γ' = [some (.int a), some (.int r), some (.int (x : Int)), some (.int (y : Int)), some (.int h), some (.int t), o] ∧ μ = μ' ∧ mm = y ∧ InvI a r x y h t ∧ x ≤ r ∧ y ≤ r) ⟨_, a % r, r, 1, 0, _, rfl, rfl, rfl, InvI.start hg, Nat.le_of_lt (Nat.mod_lt _ hr), Nat.le_refl _⟩ ?_
  rintro mm _ _ ⟨x, y, h, t, o, rfl, rfl, rfl, hI, hx, hy⟩
  have hlog : ∀ {m : Nat}, m ≤ r → (m : Int).natAbs < 2 ^ 2000 := fun h => by rw [Int.natAbs_natCast]; exact Nat.lt_of_le_of_lt h hrb
  have hmul : ∀ {u v : Int}, u.natAbs < 2 ^ 2000 → v.natAbs < 2 ^ 2000 → DL.MulOk u v := fun h1 h2 => .inr (wide_mul (a := 2000) (b := 2000) h1 h2 (by decide) (by decide) (by decide))
  have hq : (x : Int) / (mm : Int) = ((x / mm : Nat) : Int) := (Int.natCast_ediv _ _).symm
  have hqr : x / mm ≤ r := Nat.le_trans (Nat.div_le_self _ _) hx
  have ht : x = 0 ∨ t.natAbs < 2 ^ 2000 := by
    by_cases h0 : x = 0
    · exact .inl h0
    · exact .inr (Nat.lt_of_le_of_lt (hI.bound (by omega)) hrb)
  have hcd : 0 < mm → CDivW (x : Int) (mm : Int) := fun h => wide_div (by omega) (hlog hy) (by decide) (by decide)
  have hm1 : DL.MulOk ((x / mm : Nat) : Int) (mm : Int) := hmul (hlog hqr) (hlog hy)
  have hm2 : DL.MulOk ((x / mm : Nat) : Int) t := by
    rcases ht with h0 | h0
    · rw [h0, Nat.zero_div]
      exact DL.MulOk.l (by decide) (by decide)
    · exact hmul (hlog hqr) h0
  walk_at "dx"
  · rename_i hpos
    have hcd1 := hcd (by omega)
    walk_at "d_wb"
    refine ws_set w6 ?_
    walk_at "dx"
    rw [hq]
    walk_at "dx"
    walk_at "d_wb"
    refine ctx_par hX w2 w3 ?_
    walk_at "dx"
    walk_at "d_wb"
    refine ctx_par hX w4 w5 ?_
    walk_at "dx"
    have e2 : (x : Int) - ((x / mm : Nat) : Int) * (mm : Int) = ((x % mm : Nat) : Int) := by
      have h1 : ((x / mm : Nat) : Int) * (mm : Int) = ((mm * (x / mm) : Nat) : Int) := by rw [Int.natCast_mul, Int.mul_comm]
      have h2 := Nat.div_add_mod x mm
      rw [h1]
      omega
    rw [e2]
    exact ⟨x % mm, Nat.mod_lt _ (by omega), mm, x % mm, t, _, _, rfl, rfl, rfl, hI.next (by omega), hy, Nat.le_trans (Nat.le_of_lt (Nat.mod_lt _ (by omega))) hy⟩
  · rename_i hpos
    have h0 : mm = 0 := by omega
    subst h0
    walk_at "dl"
    exact q _ _ ⟨rfl, _, Int.emod_nonneg _ (by omega), Int.emod_lt_of_pos _ (by omega), hI.done, rfl⟩
theorem inv_use {a r : Nat} {μ : Mu} {Q : Mu → D → Prop} {E : Mu → Xd → Prop} (hr : 0 < r) (hb : r < 2 ^ 2000) (hg : Nat.gcd a r = 1) (h : ∀ v : Int, 0 ≤ v → v < (r : Int) → (r : Int) ∣ v * (a : Int) - 1 → Q μ (.int v)) : spInv [.int (a : Int), .int (r : Int)] μ Q E := ⟨⟨a, r, μ⟩, ⟨rfl, rfl, hr, hb, hg⟩, fun _ _ ⟨h1, v, h2, h3, h4, h5⟩ => by dsimp only at h1; subst h1 h5; exact h v h2 h3 h4, fun _ _ z => z.elim⟩
structure MetA where
  x1 : Int
  m1 : Nat
  x2 : Int
  m2 : Nat
  μ : Mu
abbrev spMet : Spc := specS (α := MetA) (fun a ds μ => ds = [.tup [.int a.x1, .int a.m1], .tup [.int a.x2, .int a.m2]] ∧ μ = a.μ ∧ a.m1 < 2 ^ 2000 ∧ a.m2 < 2 ^ 2000 ∧ Nat.lcm a.m1 a.m2 < 2 ^ 2000 ∧ a.x1.natAbs < 2 ^ 3000 ∧ a.x2.natAbs < 2 ^ 3000 ∧ ((Nat.gcd a.m1 a.m2 : Nat) : Int) ∣ a.x1 - a.x2)
  (fun a μ' d => a.μ = μ' ∧ ∃ x : Int, (a.m1 : Int) ∣ x - a.x1 ∧ (a.m2 : Int) ∣ x - a.x2 ∧ x.natAbs < 2 ^ 3000 ∧ d = .tup [.int x, .int ((Nat.lcm a.m1 a.m2 : Nat) : Int)])
theorem ok_met {f : Addr} {fd : FuncData} (F : Fun K "met" "met" s_met f fd) (G_common : GFn P w K mg base "common" 1 spCommon) (G_inverse : GFn P w K mg base "inverse" 1 spInv) : FnOk P w K mg base (L2.CX P w) 2 f fd ["one", "two"] (lift K spMet) := by
  refine fn_dl F sc_met (fun ds μ Q E h => ?_) fun X hX hf ds μ Q E hE h => ?_
  · obtain ⟨a, ⟨rfl, _⟩, _⟩ := h; rfl
  have w0 : Nw X "one" 0 := hX.nl (by decide +kernel) (by decide +kernel)
  have m0 : Nm X "one" 0 := w0.toNm
  have w1 : Nw X "two" 1 := hX.nl (by decide +kernel) (by decide +kernel)
  have m1 : Nm X "two" 1 := w1.toNm
  have w2 : Nw X "first" 2 := hX.nl (by decide +kernel) (by decide +kernel)
  have m2 : Nm X "first" 2 := w2.toNm
  have w3 : Nw X "by" 3 := hX.nl (by decide +kernel) (by decide +kernel)
  have m3 : Nm X "by" 3 := w3.toNm
  have w4 : Nw X "second" 4 := hX.nl (by decide +kernel) (by decide +kernel)
  have m4 : Nm X "second" 4 := w4.toNm
  have w5 : Nw X "other" 5 := hX.nl (by decide +kernel) (by decide +kernel)
  have m5 : Nm X "other" 5 := w5.toNm
  have w6 : Nw X "both" 6 := hX.nl (by decide +kernel) (by decide +kernel)
  have m6 : Nm X "both" 6 := w6.toNm
  have w7 : Nw X "part" 7 := hX.nl (by decide +kernel) (by decide +kernel)
  have m7 : Nm X "part" 7 := w7.toNm
  have w8 : Nw X "times" 8 := hX.nl (by decide +kernel) (by decide +kernel)
  have m8 : Nm X "times" 8 := w8.toNm
  have w9 : Nw X "whole" 9 := hX.nl (by decide +kernel) (by decide +kernel)
  have m9 : Nm X "whole" 9 := w9.toNm
  have c_common : Cl X "common" spCommon := hX.cl G_common (by decide +kernel) (by decide)
  have c_inverse : Cl X "inverse" spInv := hX.cl G_inverse (by decide +kernel) (by decide)
  obtain ⟨⟨x1, m1, x2, m2, μ0⟩, ⟨rfl, rfl, b1, b2, bl, s1, s2, hd⟩, q, _⟩ := h
  dsimp only at b1 b2 bl s1 s2 hd q ⊢
  change WB X _ [some (.tup [.int x1, .int m1]), some (.tup [.int x2, .int m2]), none, none, none, none, none, none, none, none] μ _
  refine wb_go ?_
  walk_at "d_wb"
  refine ws_tt ?_
  walk_at "dx"
  have hdv : (m1 = 0 ∨ m2 = 0) ∨ (0 < m1 ∧ 0 < m2) := by omega
  walk_at "d_wb"
  with_reducible refine ws_join (fun Γ' μ' => 0 < m1 ∧ 0 < m2 ∧ Γ' = [some (.tup [.int x1, .int m1]), some (.tup [.int x2, .int m2]), some (.int x1), some (.int m1), some (.int x2), some (.int m2), none, none, none, none] ∧ μ = μ') ?_ ?_
  · have qa : m1 = 0 → Q μ (.tup [.int x1, .int (m1 : Int)]) := fun e => by
      subst e
      rw [Nat.gcd_zero_left] at hd
      exact q _ _ ⟨rfl, x1, by rw [Int.sub_self]; exact Int.dvd_zero _, hd, s1, by rw [Nat.lcm_zero_left]⟩
    have qb : m2 = 0 → Q μ (.tup [.int x2, .int (m2 : Int)]) := fun e => by
      subst e
      rw [Nat.gcd_zero_right] at hd
      refine q _ _ ⟨rfl, x2, ?_, by rw [Int.sub_self]; exact Int.dvd_zero _, s2, by rw [Nat.lcm_zero_right]⟩
      rw [← Int.dvd_neg] at hd
      rwa [show -(x1 - x2) = x2 - x1 by omega] at hd
    walk_at "dl"
    all_goals first
      | exact ⟨by omega, by omega, rfl, rfl⟩
      | exact qa (by omega)
      | exact qb (by omega)
      | (exfalso; omega)
  rintro _ _ ⟨h1, h2, rfl, rfl⟩
  have hg : 0 < Nat.gcd m1 m2 := Nat.gcd_pos_of_pos_left _ h1
  obtain ⟨g, hgd⟩ : ∃ g, g = Nat.gcd m1 m2 := ⟨_, rfl⟩
  rw [← hgd] at hg hd
  have hg1 : g ≤ m1 := by rw [hgd]; exact Nat.gcd_le_left _ h1
  have hlog : ∀ {m : Nat}, m < 2 ^ 2000 → (m : Int).natAbs < 2 ^ 2000 := fun h => by rw [Int.natAbs_natCast]; exact h
  have hgb : g < 2 ^ 2000 := Nat.lt_of_le_of_lt hg1 b1
  have hgc : ∀ {z : Int}, CDivW z (g : Int) := wide_div (by omega) (hlog hgb) (by decide) (by decide)
  have hgl : (g : Int).natAbs.log2 < 9000 := (hgc (z := 0)).2
  have hq1 : (m1 : Int) / (g : Int) = ((m1 / g : Nat) : Int) := (Int.natCast_ediv _ _).symm
  have hq2 : (m2 : Int) / (g : Int) = ((m2 / g : Nat) : Int) := (Int.natCast_ediv _ _).symm
  obtain ⟨pt, hpt⟩ : ∃ pt, pt = m2 / g := ⟨_, rfl⟩
  have hpt0 : 0 < pt := by rw [hpt, hgd]; exact Nat.div_pos (Nat.gcd_le_right _ h2) (by rw [← hgd]; exact hg)
  have hptb : pt < 2 ^ 2000 := by rw [hpt]; exact Nat.lt_of_le_of_lt (Nat.div_le_self _ _) b2
  walk_at "d_wb"
  refine ws_set w6 ?_
  walk_at "dx"
  refine pure_i rfl ⟨_, _, rfl⟩ ?_
  rw [Int.toNat_natCast, Int.toNat_natCast, ← hgd]
  walk_at "dx"
  walk_at "d_wb"
  refine ws_set w7 ?_
  walk_at "dx"
  rw [hq2, ← hpt]
  walk_at "dx"
  walk_at "d_wb"
  refine ws_set w8 ?_
  walk_at "dx"
  rw [hq1]
  refine inv_use hpt0 hptb (by rw [hpt, hgd]; exact Nat.gcd_div_gcd_div_gcd_of_pos_left h1) fun v hv0 hv1 hv2 => ?_
  have hnat : ∀ {z : Int}, 0 ≤ z → z < (pt : Int) → z.natAbs < 2 ^ 2000 := fun h1 h2 => Nat.lt_of_lt_of_le (show _ < pt by omega) (Nat.le_of_lt hptb)
  have hk : ((x2 - x1) / (g : Int)).natAbs < 2 ^ 3001 := by
    have e1 : (x2 - x1).natAbs < 2 ^ 3001 := by
      have e2 : (x2 - x1).natAbs ≤ x2.natAbs + x1.natAbs := by omega
      have e3 : 2 ^ 3001 = 2 ^ 3000 + 2 ^ 3000 := by rw [Nat.pow_succ, Nat.mul_two]
      rw [e3]
      exact Nat.lt_of_le_of_lt e2 (Nat.add_lt_add s2 s1)
    refine Nat.lt_of_le_of_lt ?_ e1
    rw [Int.natAbs_ediv_of_dvd (by
      rw [← Int.dvd_neg] at hd
      rwa [show -(x1 - x2) = x2 - x1 by omega] at hd)]
    exact Nat.div_le_self _ _
  have hmk : DL.MulOk ((x2 - x1) / (g : Int)) v := .inr (wide_mul (a := 3001) (b := 2000) hk (hnat hv0 hv1) (by decide) (by decide) (by decide))
  walk_at "dx"
  have hmp : DL.MulOk (m1 : Int) (pt : Int) := .inr (wide_mul (a := 2000) (b := 2000) (hlog b1) (hlog hptb) (by decide) (by decide) (by decide))
  walk_at "dx"
  walk_at "d_wb"
  refine ws_set w9 ?_
  walk_at "dx"
  have hw0 := Int.emod_nonneg ((x2 - x1) / (g : Int) * v) (show (pt : Int) ≠ 0 by omega)
  have hw1 := Int.emod_lt_of_pos ((x2 - x1) / (g : Int) * v) (show (0 : Int) < (pt : Int) by omega)
  have hmw : DL.MulOk (m1 : Int) ((x2 - x1) / (g : Int) * v % (pt : Int)) := .inr (wide_mul (a := 2000) (b := 2000) (hlog b1) (hnat hw0 hw1) (by decide) (by decide) (by decide))
  have hpos : (0 : Int) < (m1 : Int) * (pt : Int) := Int.mul_pos (by omega) (by omega)
  obtain ⟨f1, f2, f3⟩ := met_is (x1 := x1) (x2 := x2) (v := v) h1 h2 (by
    rw [← hgd]
    rw [← Int.dvd_neg] at hd
    rwa [show -(x1 - x2) = x2 - x1 by omega] at hd) (by rw [← hgd, ← hpt]; exact hv2)
  rw [← hgd, ← hpt] at f1 f2 f3
  walk_at "dl"
  have hx0 := Int.emod_nonneg (x1 + (m1 : Int) * ((x2 - x1) / (g : Int) * v % (pt : Int))) (show (m1 : Int) * (pt : Int) ≠ 0 by omega)
  have hx1 := Int.emod_lt_of_pos (x1 + (m1 : Int) * ((x2 - x1) / (g : Int) * v % (pt : Int))) hpos
  refine q _ _ ⟨rfl, _, f2, f3, ?_, by rw [← f1, Int.natCast_mul]⟩
  rw [← f1] at bl
  generalize (x1 + (m1 : Int) * ((x2 - x1) / (g : Int) * v % (pt : Int))) % ((m1 : Int) * (pt : Int)) = X0 at hx0 hx1 ⊢
  have hx2 : X0 < ((m1 * pt : Nat) : Int) := by rw [Int.natCast_mul]; exact hx1
  generalize m1 * pt = W at hx2 bl
  clear hx1
  exact Nat.lt_trans (Nat.lt_trans (show X0.natAbs < W by omega) bl) (Nat.pow_lt_pow_right (by decide) (by decide))
theorem met_use {x1 x2 : Int} {m1 m2 : Nat} {μ : Mu} {Q : Mu → D → Prop} {E : Mu → Xd → Prop} (b1 : m1 < 2 ^ 2000) (b2 : m2 < 2 ^ 2000) (bl : Nat.lcm m1 m2 < 2 ^ 2000) (s1 : x1.natAbs < 2 ^ 3000) (s2 : x2.natAbs < 2 ^ 3000) (hd : ((Nat.gcd m1 m2 : Nat) : Int) ∣ x1 - x2) (h : ∀ x : Int, (m1 : Int) ∣ x - x1 → (m2 : Int) ∣ x - x2 → x.natAbs < 2 ^ 3000 → Q μ (.tup [.int x, .int ((Nat.lcm m1 m2 : Nat) : Int)])) : spMet [.tup [.int x1, .int (m1 : Int)], .tup [.int x2, .int (m2 : Int)]] μ Q E := ⟨⟨x1, m1, x2, m2, μ⟩, ⟨rfl, rfl, b1, b2, bl, s1, s2, hd⟩, fun _ _ ⟨h1, x, h2, h3, h4, h5⟩ => by dsimp only at h1; subst h1 h5; exact h x h2 h3 h4, fun _ _ z => z.elim⟩

def smD (so : List (Nat × Int)) : List (Key × D) := so.map fun z => (.inl (z.1 : Int), .int z.2)
theorem smD_keys {so : List (Nat × Int)} : (smD so).map (·.1) = (so.map fun z => (z.1 : Int)).map Sum.inl := by unfold smD; rw [List.map_map, List.map_map]; rfl
theorem smD_val {k : Nat} : ∀ so : List (Nat × Int), valG (smD so) (.inl (k : Int)) = (valG so k).map fun x => D.int x
  | [] => rfl
  | z :: so => by
    show valG (((.inl (z.1 : Int) : Key), D.int z.2) :: smD so) (.inl (k : Int)) = _
    rw [valG_cons, valG_cons, smD_val so]
    by_cases e : z.1 = k
    · rw [if_pos e, if_pos (by rw [e])]; rfl
    · rw [if_neg e, if_neg fun q => e (by have := Sum.inl.inj q; omega)]
theorem smD_put {k : Nat} {x : Int} {so : List (Nat × Int)} (h : valG so k = none) : putG (smD so) (.inl (k : Int)) (.int x) = smD (so ++ [(k, x)]) := by
  rw [putG_new _ (by rw [smD_val, h]; rfl)]
  unfold smD
  rw [List.map_append]
  rfl
theorem divI_dvd {r : Nat} {z : Int} : divI (r : Int) z = decide ((r : Int) ∣ z) := by
  unfold divI
  by_cases h : (0 : Int) < (r : Int)
  · rw [if_pos h]
    exact decide_eq_decide.mpr ⟨Int.dvd_of_emod_eq_zero, Int.emod_eq_zero_of_dvd⟩
  · rw [if_neg h]
    have h0 : r = 0 := by omega
    subst h0
    exact decide_eq_decide.mpr ⟨fun e => by rw [e]; exact Int.dvd_zero _, fun e => Int.zero_dvd.mp e⟩
structure FilA where
  n : Nat
  ks : List D
  M : Nat → Nat → Nat
  pd : Addr
  so : List (Nat × Int)
  μ : Mu
def FilPre (a : FilA) : Prop := a.μ a.pd = some (.dK (smD a.so)) ∧ a.n ≤ 1000 ∧ a.so.length < 64 ∧ (∀ z ∈ a.so, z.1 < a.n) ∧ (a.so.map (·.1)).Nodup
abbrev spNeed (C : Addr) : Spc := specS (α := FilA) (fun a ds μ => ds = [.ins C (webF a.n a.ks a.M), .ref a.pd] ∧ μ = a.μ ∧ FilPre a) (fun a μ' d => a.μ = μ' ∧ d = .non)
section
local macro_rules | `(tactic| walk_at "d_we") => `(tactic| first
  | ((with_reducible show DL.WE _ (Expr.Call (Expr.Name "sorted" _) [_] [] _) _ _ _); (refine we_sortedDI (Ctx.calm (by with_reducible assumption)) (by with_reducible assumption) ?_))
  | ((with_reducible show DL.WE _ (Expr.Call (Expr.Name "dict" _) [Expr.Name _ _] [] _) _ _ _); (refine' we_dictD ?m ?_); (case m => with_reducible assumption)))
theorem ok_need_points {f : Addr} {fd : FuncData} (F : Fun K "need_points" "need_points" s_need_points f fd) (G_is_point : GFn P w K mg base "is_point" 2 spIsPoint) (G_NoPoint : GXk P w K mg base "NoPoint" c_NoPoint "point" 1) (G_Web_many : GCm P w K mg base c_Web "many" 1 (spWebMany c_Web)) (M_sorted : mg "sorted" = none) : FnOk P w K mg base (L2.CX P w) 4 f fd ["web", "some"] (lift K (spNeed c_Web)) := by
  refine fn_dl F sc_need_points (fun ds μ Q E h => ?_) fun X hX hf ds μ Q E hE h => ?_
  · obtain ⟨a, ⟨rfl, _⟩, _⟩ := h; rfl
  have w0 : Nw X "web" 0 := hX.nl (by decide +kernel) (by decide +kernel)
  have m0 : Nm X "web" 0 := w0.toNm
  have w1 : Nw X "some" 1 := hX.nl (by decide +kernel) (by decide +kernel)
  have m1 : Nm X "some" 1 := w1.toNm
  have w2 : Nw X "point" 2 := hX.nl (by decide +kernel) (by decide +kernel)
  have m2 : Nm X "point" 2 := w2.toNm
  have c_is_point : Cl X "is_point" spIsPoint := hX.cl G_is_point (by decide +kernel) (by decide)
  have k_NoPoint : Xk X "NoPoint" c_NoPoint "point" := hX.xk G_NoPoint (by decide +kernel) (by decide)
  have c_Web_many : Cm X c_Web "many" (spWebMany c_Web) := hX.cm G_Web_many (by decide)
  have b_sorted : Bl X "sorted" := hX.bl (by decide +kernel) M_sorted
  obtain ⟨⟨n, ks, M, pd, so, μ0⟩, ⟨rfl, rfl, hm, hn, hl, hlt, hnd⟩, q, _⟩ := h
  dsimp only at hm hn hl hlt hnd q ⊢
  change WB X _ [some (.ins c_Web (webF n ks M)), some (.ref pd), none] μ _
  refine wb_go ?_
  walk_at "d_wb"
  refine ctx_for hX ?_
  with_reducible refine wi_list ?_
  walk_at "dx"
  refine ⟨pd, smD so, so.map fun z => (z.1 : Int), rfl, .inl hm, smD_keys, by rw [List.length_map]; exact hl, fun ys hp hs => ?_⟩
  walk_at "dx"
  refine for_typ (xs := ys) (f := fun y => D.int y) (fun pre Γ' μ' => ∃ o : Option D, Γ' = [some (.ins c_Web (webF n ks M)), some (.ref pd), o] ∧ μ = μ') ⟨_, rfl, rfl⟩ (fun _ _ _ _ => SeqL.l.still) ?_ ?_
  · rintro pre y post _ _ hpp ⟨o, rfl, rfl⟩
    obtain ⟨k, hk, rfl⟩ : ∃ k : Nat, k < n ∧ (k : Int) = y := by
      have hy : y ∈ so.map fun z => (z.1 : Int) := hp.mem_iff.mp (by rw [hpp]; exact List.mem_append.mpr (.inr List.mem_cons_self))
      obtain ⟨z, hz, rfl⟩ := List.mem_map.mp hy
      exact ⟨z.1, hlt z hz, rfl⟩
    walk_at "dl"
    refine many_use ?_
    walk_at "dl"
    · rename_i h
      exact absurd (show 0 ≤ (k : Int) ∧ (k : Int) < (n : Int) by omega) h
    · exact ⟨_, rfl, rfl⟩
  · rintro _ _ ⟨o, rfl, rfl⟩
    walk_at "dl"
    exact q _ _ ⟨rfl, rfl⟩
theorem need_use {C pd : Addr} {n : Nat} {ks : List D} {M : Nat → Nat → Nat} {so : List (Nat × Int)} {μ : Mu} {Q : Mu → D → Prop} {E : Mu → Xd → Prop} (h : FilPre ⟨n, ks, M, pd, so, μ⟩) (q : Q μ .non) : spNeed C [.ins C (webF n ks M), .ref pd] μ Q E := ⟨⟨n, ks, M, pd, so, μ⟩, ⟨rfl, rfl, h⟩, fun _ _ ⟨h1, h2⟩ => by dsimp only at h1; subst h1 h2; exact q, fun _ _ z => z.elim⟩
def AgS (M : Nat → Nat → Nat) (so : List (Nat × Int)) : Prop := ∀ y ∈ so, ∀ z ∈ so, ((M y.1 z.1 : Nat) : Int) ∣ y.2 - z.2
def ClS (M : Nat → Nat → Nat) (so : List (Nat × Int)) (d : D) : Prop := ∃ y ∈ so, ∃ z ∈ so, y.1 < z.1 ∧ ¬ ((M y.1 z.1 : Nat) : Int) ∣ y.2 - z.2 ∧ d = .tup [.int (y.1 : Int), .int (z.1 : Int)]
abbrev spClash (C : Addr) : Spc := specS (α := FilA) (fun a ds μ => ds = [.ins C (webF a.n a.ks a.M), .ref a.pd] ∧ μ = a.μ ∧ FilPre a ∧ Clo a.n a.M) (fun a μ' d => a.μ = μ' ∧ ((d = .non ∧ AgS a.M a.so) ∨ ClS a.M a.so d))
theorem ok_clash_of {f : Addr} {fd : FuncData} (F : Fun K "clash_of" "clash_of" s_clash_of f fd) (G_need_points : GFn P w K mg base "need_points" 4 (spNeed c_Web)) (G_agree_k2_rest : GFk P w K mg base "agree" 2 2 ["rest"] gApp spAgree) (G_Web_bond : GCm P w K mg base c_Web "bond" 3 (spBond c_NoPoint c_Web)) (M_sorted : mg "sorted" = none) : FnOk P w K mg base (L2.CX P w) 5 f fd ["web", "some"] (lift K (spClash c_Web)) := by
  refine fn_dl F sc_clash_of (fun ds μ Q E h => ?_) fun X hX hf ds μ Q E hE h => ?_
  · obtain ⟨a, ⟨rfl, _⟩, _⟩ := h; rfl
  have w0 : Nw X "web" 0 := hX.nl (by decide +kernel) (by decide +kernel)
  have m0 : Nm X "web" 0 := w0.toNm
  have w1 : Nw X "some" 1 := hX.nl (by decide +kernel) (by decide +kernel)
  have m1 : Nm X "some" 1 := w1.toNm
  have w2 : Nw X "points" 2 := hX.nl (by decide +kernel) (by decide +kernel)
  have m2 : Nm X "points" 2 := w2.toNm
  have w3 : Nw X "u" 3 := hX.nl (by decide +kernel) (by decide +kernel)
  have m3 : Nm X "u" 3 := w3.toNm
  have w4 : Nw X "v" 4 := hX.nl (by decide +kernel) (by decide +kernel)
  have m4 : Nm X "v" 4 := w4.toNm
  have c_need_points : Cl X "need_points" (spNeed c_Web) := hX.cl G_need_points (by decide +kernel) (by decide)
  have c_agree_k2_rest : ClK X "agree" 2 ["rest"] gApp spAgree := hX.clK G_agree_k2_rest (by decide +kernel) (by decide) (fun h1 h2 a b => gApp_is h1 h2 a b)
  have c_Web_bond : Cm X c_Web "bond" (spBond c_NoPoint c_Web) := hX.cm G_Web_bond (by decide)
  have b_sorted : Bl X "sorted" := hX.bl (by decide +kernel) M_sorted
  obtain ⟨⟨n, ks, M, pd, so, μ0⟩, ⟨rfl, rfl, hpre, hC⟩, q, _⟩ := h
  dsimp only at hC q ⊢
  obtain ⟨hm, hn, hl, hlt, hnd⟩ := id hpre
  dsimp only at hm hn hl hlt hnd
  change WB X _ [some (.ins c_Web (webF n ks M)), some (.ref pd), none, none, none] μ _
  refine wb_go ?_
  walk_at "dl"
  refine need_use hpre ?_
  walk_at "d_wb"
  refine ws_set w2 ?_
  walk_at "dx"
  refine ⟨pd, smD so, so.map fun z => (z.1 : Int), rfl, .inl hm, smD_keys, by rw [List.length_map]; exact hl, fun ys hp hs => ?_⟩
  have hys : ∀ y ∈ ys, ∃ z ∈ so, (z.1 : Int) = y := fun y hy => List.mem_map.mp (hp.mem_iff.mp hy)
  have hsy : ∀ z ∈ so, (z.1 : Int) ∈ ys := fun z hz => hp.mem_iff.mpr (List.mem_map.mpr ⟨z, hz, rfl⟩)
  have hval : ∀ z ∈ so, valG (smD so) (.inl (z.1 : Int)) = some (.int z.2) := fun z hz => by rw [smD_val, valG_nodup hnd hz]; rfl
  walk_at "dx"
  walk_at "d_wb"
  refine ctx_for hX ?_
  with_reducible refine wi_list ?_
  walk_at "dx"
  refine for_typ (xs := ys) (f := fun y => D.int y) (fun pre Γ' μ' => ∃ o3 o4 : Option D, Γ' = [some (.ins c_Web (webF n ks M)), some (.ref pd), some (.lst (ys.map fun y => D.int y)), o3, o4] ∧ μ = μ' ∧ ∀ y ∈ so, (y.1 : Int) ∈ pre → ∀ z ∈ so, y.1 < z.1 → ((M y.1 z.1 : Nat) : Int) ∣ y.2 - z.2) ⟨_, _, rfl, rfl, fun _ _ h => by cases h⟩ (fun _ _ _ _ => SeqL.l.still) ?_ ?_
  · rintro pre u post _ _ hpp ⟨o3, o4, rfl, rfl, hI⟩
    obtain ⟨y, hy, rfl⟩ := hys u (by rw [hpp]; exact List.mem_append.mpr (.inr List.mem_cons_self))
    have hyn := hlt y hy
    have hvy := hval y hy
    walk_at "dl"
    refine ctx_for hX ?_
    with_reducible refine wi_list ?_
    walk_at "dx"
    refine for_typ (xs := ys) (f := fun y => D.int y) (fun pr2 Γ' μ' => ∃ o4 : Option D, Γ' = [some (.ins c_Web (webF n ks M)), some (.ref pd), some (.lst (ys.map fun y => D.int y)), some (.int (y.1 : Int)), o4] ∧ μ = μ' ∧ ∀ z ∈ so, (z.1 : Int) ∈ pr2 → y.1 < z.1 → ((M y.1 z.1 : Nat) : Int) ∣ y.2 - z.2) ⟨_, rfl, rfl, fun _ _ h => by cases h⟩ (fun _ _ _ _ => SeqL.l.still) ?_ ?_
    · rintro pr2 v ps2 _ _ hpp2 ⟨o4, rfl, rfl, hI2⟩
      obtain ⟨z, hz, rfl⟩ := hys v (by rw [hpp2]; exact List.mem_append.mpr (.inr List.mem_cons_self))
      have hzn := hlt z hz
      have hvz := hval z hz
      walk_at "dl"
      · rename_i hlt2
        refine fun mm => sub_d mm rfl hvy ?_
        walk_at "dx"
        refine fun mm => sub_d mm rfl hvz ?_
        walk_at "dx"
        refine bond_use hyn hzn ?_
        walk_at "dx"
        rw [divI_dvd]
        by_cases hdz : ((M y.1 z.1 : Nat) : Int) ∣ y.2 - z.2
        · rw [decide_eq_true hdz]
          rw [if_neg (by decide)]
          walk_at "dl"
          refine ⟨_, rfl, rfl, fun z' hz' hm' hlt' => ?_⟩
          rcases List.mem_append.mp hm' with hm' | hm'
          · exact hI2 z' hz' hm' hlt'
          · have e1 : z'.1 = z.1 := by have := List.mem_singleton.mp hm'; omega
            have e2 : z' = z := by
              have h1 := valG_nodup hnd hz'
              have h2 := valG_nodup hnd hz
              rw [e1, h2] at h1
              exact Prod.ext e1 (Option.some.inj h1).symm
            rw [e2]
            exact hdz
        · rw [decide_eq_false hdz]
          rw [if_pos (by decide)]
          walk_at "dl"
          exact q _ _ ⟨rfl, .inr ⟨y, hy, z, hz, by omega, hdz, rfl⟩⟩
      · rename_i hlt2
        refine ⟨_, rfl, rfl, fun z' hz' hm' hlt' => ?_⟩
        rcases List.mem_append.mp hm' with hm' | hm'
        · exact hI2 z' hz' hm' hlt'
        · have e1 := List.mem_singleton.mp hm'
          omega
    · rintro _ _ ⟨o4, rfl, rfl, hI2⟩
      walk_at "dl"
      refine ⟨_, _, rfl, rfl, fun y' hy' hm' z hz hlt' => ?_⟩
      rcases List.mem_append.mp hm' with hm' | hm'
      · exact hI y' hy' hm' z hz hlt'
      · have e1 : y'.1 = y.1 := by have := List.mem_singleton.mp hm'; omega
        have e2 : y' = y := by
          have h1 := valG_nodup hnd hy'
          have h2 := valG_nodup hnd hy
          rw [e1, h2] at h1
          exact Prod.ext e1 (Option.some.inj h1).symm
        rw [e2] at hlt' ⊢
        exact hI2 z hz (hsy z hz) hlt'
  · rintro _ _ ⟨o3, o4, rfl, rfl, hI⟩
    walk_at "dl"
    refine q _ _ ⟨rfl, .inl ⟨rfl, fun y hy z hz => ?_⟩⟩
    rcases Nat.lt_trichotomy y.1 z.1 with e | e | e
    · exact hI y hy (hsy y hy) z hz e
    · have e2 : y = z := by
        have h1 := valG_nodup hnd hy
        have h2 := valG_nodup hnd hz
        rw [e, h2] at h1
        exact Prod.ext e (Option.some.inj h1).symm
      rw [e2, Int.sub_self]
      exact Int.dvd_zero _
    · have h1 := hI z hz (hsy z hz) y hy e
      rw [← Int.dvd_neg] at h1
      rw [hC.sy y.1 z.1 (hlt y hy) (hlt z hz)]
      rwa [show -(z.2 - y.2) = y.2 - z.2 by omega] at h1
theorem clash_use {C pd : Addr} {n : Nat} {ks : List D} {M : Nat → Nat → Nat} {so : List (Nat × Int)} {μ : Mu} {Q : Mu → D → Prop} {E : Mu → Xd → Prop} (h : FilPre ⟨n, ks, M, pd, so, μ⟩) (hC : Clo n M) (q : ∀ d, (d = .non ∧ AgS M so) ∨ ClS M so d → Q μ d) : spClash C [.ins C (webF n ks M), .ref pd] μ Q E := ⟨⟨n, ks, M, pd, so, μ⟩, ⟨rfl, rfl, h, hC⟩, fun _ _ ⟨h1, h2⟩ => by dsimp only at h1; subst h1; exact q _ h2, fun _ _ z => z.elim⟩
def FdS (n : Nat) (M : Nat → Nat → Nat) (so : List (Nat × Int)) (d : D) : Prop := ∃ f : Nat → Int, d = .lst ((List.range n).map fun i => .int (f i)) ∧ (∀ i j, i < n → j < n → ((M i j : Nat) : Int) ∣ f i - f j) ∧ ∀ z ∈ so, f z.1 = z.2
abbrev spFill (C : Addr) : Spc := specS (α := FilA × Nat) (fun a ds μ => ds = [.ins C (webF a.1.n a.1.ks a.1.M), .ref a.1.pd] ∧ μ = a.1.μ ∧ FilPre a.1 ∧ Clo a.1.n a.1.M ∧ 0 < a.2 ∧ a.2 < 2 ^ 2000 ∧ (∀ i j, Dv a.2 (a.1.M i j)) ∧ a.1.n ≤ 60 ∧ ∀ z ∈ a.1.so, z.2.natAbs < 2 ^ 3000) (fun a μ' d => a.1.μ = μ' ∧ ((d = .non ∧ ¬ AgS a.1.M a.1.so) ∨ FdS a.1.n a.1.M a.1.so d))
theorem clS_no {M : Nat → Nat → Nat} {so : List (Nat × Int)} {d : D} (h : ClS M so d) : ¬ AgS M so := fun g => by
  obtain ⟨y, hy, z, hz, _, hn, _⟩ := h
  exact hn (g y hy z hz)
theorem ok_filled {f : Addr} {fd : FuncData} (F : Fun K "filled" "filled" s_filled f fd) (G_clash_of : GFn P w K mg base "clash_of" 5 (spClash c_Web)) (G_Web_many : GCm P w K mg base c_Web "many" 1 (spWebMany c_Web)) (G_met : GFn P w K mg base "met" 2 spMet) (G_Web_bond : GCm P w K mg base c_Web "bond" 3 (spBond c_NoPoint c_Web)) (M_dict : mg "dict" = none) (M_range : mg "range" = none) : FnOk P w K mg base (L2.CX P w) 6 f fd ["web", "some"] (lift K (spFill c_Web)) := by
  refine fn_dl F sc_filled (fun ds μ Q E h => ?_) fun X hX hf ds μ Q E hE h => ?_
  · obtain ⟨a, ⟨rfl, _⟩, _⟩ := h; rfl
  have w0 : Nw X "web" 0 := hX.nl (by decide +kernel) (by decide +kernel)
  have m0 : Nm X "web" 0 := w0.toNm
  have w1 : Nw X "some" 1 := hX.nl (by decide +kernel) (by decide +kernel)
  have m1 : Nm X "some" 1 := w1.toNm
  have w2 : Nw X "known" 2 := hX.nc hf (by decide +kernel) (by decide +kernel)
  have m2 : Nm X "known" 2 := w2.toNm
  have w3 : Nw X "point" 3 := hX.nl (by decide +kernel) (by decide +kernel)
  have m3 : Nm X "point" 3 := w3.toNm
  have w4 : Nw X "pair" 4 := hX.nl (by decide +kernel) (by decide +kernel)
  have m4 : Nm X "pair" 4 := w4.toNm
  have w5 : Nw X "other" 5 := hX.nl (by decide +kernel) (by decide +kernel)
  have m5 : Nm X "other" 5 := w5.toNm
  have c_clash_of : Cl X "clash_of" (spClash c_Web) := hX.cl G_clash_of (by decide +kernel) (by decide)
  have c_Web_many : Cm X c_Web "many" (spWebMany c_Web) := hX.cm G_Web_many (by decide)
  have c_met : Cl X "met" spMet := hX.cl G_met (by decide +kernel) (by decide)
  have c_Web_bond : Cm X c_Web "bond" (spBond c_NoPoint c_Web) := hX.cm G_Web_bond (by decide)
  have b_dict : Bl X "dict" := hX.bl (by decide +kernel) M_dict
  have b_range : Bl X "range" := hX.bl (by decide +kernel) M_range
  obtain ⟨⟨⟨n, ks, M, pd, so, μ0⟩, LL⟩, ⟨rfl, rfl, hpre, hC, hL0, hL1, hdv, hn60, hsz⟩, q, _⟩ := h
  dsimp only at hC hL0 hL1 hdv hn60 hsz q ⊢
  obtain ⟨hm, hn, hl, hlt, hnd⟩ := id hpre
  dsimp only at hm hn hl hlt hnd
  change WB X _ [some (.ins c_Web (webF n ks M)), some (.ref pd), none, none, none, none] μ _
  refine wb_go ?_
  walk_at "dl"
  refine clash_use hpre hC fun d hd => ?_
  rcases hd with ⟨rfl, hA⟩ | hcl
  rotate_left
  · have hno := clS_no hcl
    obtain ⟨y, hy, z, hz, h1, h2, rfl⟩ := hcl
    walk_at "dl"
    exact q _ _ ⟨rfl, .inl ⟨rfl, hno⟩⟩
  · walk_at "dl"
    refine ⟨pd, smD so, rfl, .inl hm, fun qd hqd => ?_⟩
    walk_at "dx"
    walk_at "d_wb"
    refine ctx_for hX ?_
    refine wi_range1 b_range ?_
    walk_at "dx"
    refine many_use ?_
    walk_at "dx"
    rw [Int.toNat_natCast, range0n]
    have hbig : ∀ {m : Nat}, Dv LL m → m < 2 ^ 2000 := fun h => Nat.lt_of_le_of_lt (h.le hL0) hL1
    refine for_typ (xs := List.range n) (f := fun i : Nat => D.int (i : Int)) (fun pre Γ' μ' => ∃ (kn : List (Nat × Int)) (o3 o4 o5 : Option D), Γ' = [some (.ins c_Web (webF n ks M)), some (.ref pd), some (.ref qd), o3, o4, o5] ∧ updM μ qd (.dK (smD kn)) = μ' ∧ KnF M n kn ∧ (∀ z ∈ so, z ∈ kn) ∧ (∀ i ∈ pre, i ∈ kn.map (·.1)) ∧ kn.length ≤ so.length + pre.length) ⟨so, _, _, _, rfl, rfl, ⟨hnd, hlt, hA, hsz⟩, fun _ h => h, fun _ h => (by cases h), Nat.le_refl _⟩ (fun _ _ _ _ => True.intro) ?_ ?_
    · rintro pre i post _ _ hpp ⟨kn, o3, o4, o5, rfl, rfl, hK, hso, hkn, hkl⟩
      obtain ⟨hip, hi⟩ := range_split hpp
      clear hpp
      show WGx X _ (.int (i : Int)) _ _ _
      walk_at "dl"
      refine fun hmm => in_d hmm rfl ?_
      rw [smD_val]
      cases hv : valG kn i with
      | some x =>
        show WB X _ _ _ _
        walk_at "dl"
        refine ⟨kn, _, _, _, rfl, rfl, hK, hso, fun j hj => ?_, by rw [List.length_append]; omega⟩
        rcases List.mem_append.mp hj with hj | hj
        · exact hkn j hj
        · rw [List.mem_singleton.mp hj]
          exact valG_some.mp (by rw [hv]; rfl)
      | none =>
        show WB X _ _ _ _
        walk_at "ds"
        walk_at "d_wb"
        refine ws_lock (p := qd) (kds := smD kn) updM_same fun ob kvs => ?_
        rw [updM_upd]
        have hkeys : (smD kn).map (fun kv => keyOf kv.1) = kn.map fun z => D.int (z.1 : Int) := by unfold smD; rw [List.map_map]; rfl
        refine ctx_for hX ?_
        refine wi_keys ?_
        walk_at "dx"
        refine ⟨qd, ob, kvs, smD kn, rfl, updM_same, ?_⟩
        rw [hkeys]
        refine for_typ (xs := kn) (f := fun z => D.int (z.1 : Int)) (fun pre2 Γ' μ' => ∃ (x : Int) (L : Nat) (o5 : Option D), Γ' = [some (.ins c_Web (webF n ks M)), some (.ref pd), some (.ref qd), some (.int (i : Int)), some (.tup [.int x, .int (L : Int)]), o5] ∧ updM μ qd (.lkK ob kvs (smD kn)) = μ' ∧ PairI M LL i pre2 x L) ⟨0, 1, _, rfl, rfl, PairI.nil⟩ (fun _ _ _ ⟨_, _, _, _, h, _⟩ => by rw [← h]; exact updM_same) ?_ ?_
        · rintro pre2 z post2 _ _ hpp2 ⟨x, L, o5, rfl, rfl, hP⟩
          have hz : z ∈ kn := by rw [hpp2]; exact List.mem_append.mpr (.inr List.mem_cons_self)
          have hz1 := hK.lt z hz
          have hvz : valG (smD kn) (.inl (z.1 : Int)) = some (.int z.2) := by rw [smD_val, valG_nodup hK.nd hz]; rfl
          show WGx X _ (.int (z.1 : Int)) _ _ _
          walk_at "dl"
          refine fun hlk => sub_lk hlk rfl hvz ?_
          walk_at "dx"
          refine bond_use hi hz1 ?_
          walk_at "dx"
          refine met_use (hbig hP.bd) (hbig (hdv _ _)) (hbig (hP.bd.lcm (hdv _ _))) hP.sz (hK.sz z hz) (hP.meets hC hK hi (fun y hy => by rw [hpp2]; exact List.mem_append.mpr (.inl hy)) hz) fun x' g1 g2 g3 => ?_
          walk_at "dl"
          exact ⟨x', _, _, rfl, rfl, hP.step g1 g2 (hdv _ _) g3⟩
        rintro _ _ ⟨x, L, o5, rfl, rfl, hP⟩
        refine ⟨updM_same, ?_⟩
        rw [updM_upd]
        show WB X _ _ _ _
        walk_at "dl"
        refine .inr (dput_k updM_same rfl (by unfold smD; rw [List.length_map]; exact Nat.lt_trans (show kn.length < 2000 by omega) (by decide)) ?_)
        rw [updM_upd, smD_put hv]
        walk_at "dl"
        refine ⟨kn ++ [(i, x)], _, _, _, rfl, rfl, hK.add hC hi (valG_none.mp hv) hP, fun z hz => List.mem_append.mpr (.inl (hso z hz)), fun j hj => ?_, by rw [List.length_append, List.length_append, List.length_singleton, List.length_singleton]; omega⟩
        rw [List.map_append, List.mem_append]
        rcases List.mem_append.mp hj with hj | hj
        · exact .inl (hkn j hj)
        · rw [List.mem_singleton.mp hj]
          exact .inr (by simp)
    rintro _ _ ⟨kn, o3, o4, o5, rfl, rfl, hK, hso, hkn, hkl⟩
    have hex : ∀ i, i < n → ∃ x, (i, x) ∈ kn := fun i hi => by
      obtain ⟨z, hz, e⟩ := List.mem_map.mp (hkn i (List.mem_range.mpr hi))
      exact ⟨z.2, by rw [← e]; exact hz⟩
    obtain ⟨f, hf⟩ : ∃ f : Nat → Int, ∀ i, i < n → (i, f i) ∈ kn := by
      refine ⟨fun i => if h : i < n then Classical.choose (hex i h) else 0, fun i h => ?_⟩
      dsimp only
      rw [dif_pos h]
      exact Classical.choose_spec (hex i h)
    have hq := q μ (.lst ((List.range n).map fun i => .int (f i))) ⟨rfl, .inr ⟨f, rfl, fun i j hi hj => hK.ag _ (hf i hi) _ (hf j hj), fun z hz => by
      have h1 := valG_nodup hK.nd (hf z.1 (hlt z hz))
      have h2 := valG_nodup hK.nd (hso z hz)
      rw [h2] at h1
      exact (Option.some.inj h1).symm⟩⟩
    show WB X _ _ _ _
    refine wb_sub (Γ' := [some (.ins c_Web (webF n ks M)), some (.ref pd), some (.ref qd), none, o4, o5]) (by repeat (first | exact sub_nil | apply sub_cons | apply sub_drop)) ?_
    walk_at "d_wb"
    refine ws_ret (we_dropU hqd ?_)
    refine ctx_lc hX [("point", 3)] (vs := [3]) ?_
    refine wi_range1 b_range ?_
    walk_at "dx"
    refine many_use ?_
    walk_at "dx"
    rw [Int.toNat_natCast, range0n]
    refine lc_map (fun i : Nat => [some (.ins c_Web (webF n ks M)), some (.ref pd), some (.ref qd), some (.int (i : Int)), o4, o5]) (fun i => .int (f i)) True.intro (by rw [List.length_range]; exact small1000 (by omega)) ?_ ?_ ?_
    · intro X' hb i hi
      have hX' := hX.blk hb
      have w3 : Nw X' "point" 3 := hX'.nl (by decide +kernel) (by decide +kernel)
      have m3 : Nm X' "point" 3 := w3.toNm
      have m2 : Nm X' "known" 2 := hX'.nm (by decide +kernel)
      walk_at "wg"
    · intro X' hb i hi
      have hX' := hX.blk hb
      have w3 : Nw X' "point" 3 := hX'.nl (by decide +kernel) (by decide +kernel)
      have m3 : Nm X' "point" 3 := w3.toNm
      have m2 : Nm X' "known" 2 := hX'.nm (by decide +kernel)
      rw [List.mem_range] at hi
      walk_at "dx"
      refine fun hmm => sub_d hmm rfl (by rw [smD_val, valG_nodup hK.nd (hf i hi)]; rfl) ?_
      exact ⟨rfl, rfl⟩
    · exact ⟨rfl, hq⟩
theorem fill_use {C pd : Addr} {n LL : Nat} {ks : List D} {M : Nat → Nat → Nat} {so : List (Nat × Int)} {μ : Mu} {Q : Mu → D → Prop} {E : Mu → Xd → Prop} (h : FilPre ⟨n, ks, M, pd, so, μ⟩) (hC : Clo n M) (h0 : 0 < LL) (h1 : LL < 2 ^ 2000) (hd : ∀ i j, Dv LL (M i j)) (hn : n ≤ 60) (hs : ∀ z ∈ so, z.2.natAbs < 2 ^ 3000) (q : ∀ d, (d = .non ∧ ¬ AgS M so) ∨ FdS n M so d → Q μ d) : spFill C [.ins C (webF n ks M), .ref pd] μ Q E := ⟨⟨⟨n, ks, M, pd, so, μ⟩, LL⟩, ⟨rfl, rfl, h, hC, h0, h1, hd, hn, hs⟩, fun _ _ ⟨h1, h2⟩ => by dsimp only at h1; subst h1; exact q _ h2, fun _ _ z => z.elim⟩
end

def csD (c : List Int) : D := .lst (c.map fun x => .int x)
theorem ix_c {c : List Int} {a : Nat} {μ : Mu} {R : D → Prop} (h : a < c.length) (r : R (.int (c.getD a 0))) : IxQ μ (.lst (c.map fun x => .int x)) (.int (a : Int)) R :=
  ix_l (atI_n (by omega) (by rw [Int.toNat_natCast, List.getElem?_map, List.getElem?_eq_getElem h]; rfl)) (by rw [List.getD_eq_getElem?_getD, List.getElem?_eq_getElem h] at r; exact r)
structure FtA where
  n : Nat
  ts : List (Nat × Nat × Nat)
  c : List Int
  μ : Mu
abbrev spFt : Spc := specS (α := FtA) (fun a ds μ => ds = [.int a.n, .lst (a.ts.map tieD), csD a.c] ∧ μ = a.μ ∧ a.c.length = a.n ∧ a.n ≤ 1000 ∧ InN a.n a.ts) (fun a μ' d => a.μ = μ' ∧ d = .bl (fitB a.ts a.c))
theorem ok__law_fits {f : Addr} {fd : FuncData} (F : Fun K "_law_fits" "_law_fits" s__law_fits f fd) (M_len : mg "len" = none) (M_all : mg "all" = none) (M_isinstance : mg "isinstance" = none) (M_int : mg "int" = none) (M_bool : mg "bool" = none) : FnOk P w K mg base (L2.CX P w) 1 f fd ["_law_many", "_law_ties", "_law_case"] (lift K spFt) := by
  refine fn_dl F sc__law_fits (fun ds μ Q E h => ?_) fun X hX hf ds μ Q E hE h => ?_
  · obtain ⟨a, ⟨rfl, _⟩, _⟩ := h; rfl
  have w0 : Nw X "_law_many" 0 := hX.nl (by decide +kernel) (by decide +kernel)
  have m0 : Nm X "_law_many" 0 := w0.toNm
  have w1 : Nw X "_law_ties" 1 := hX.nl (by decide +kernel) (by decide +kernel)
  have m1 : Nm X "_law_ties" 1 := w1.toNm
  have w2 : Nw X "_law_case" 2 := hX.nl (by decide +kernel) (by decide +kernel)
  have m2 : Nm X "_law_case" 2 := w2.toNm
  have w3 : Nw X "_law_one" 3 := hX.nl (by decide +kernel) (by decide +kernel)
  have m3 : Nm X "_law_one" 3 := w3.toNm
  have w4 : Nw X "_law_two" 4 := hX.nl (by decide +kernel) (by decide +kernel)
  have m4 : Nm X "_law_two" 4 := w4.toNm
  have w5 : Nw X "_law_by" 5 := hX.nl (by decide +kernel) (by decide +kernel)
  have m5 : Nm X "_law_by" 5 := w5.toNm
  have w6 : Nw X "_law_gap" 6 := hX.nl (by decide +kernel) (by decide +kernel)
  have m6 : Nm X "_law_gap" 6 := w6.toNm
  have b_len : Bl X "len" := hX.bl (by decide +kernel) M_len
  have b_all : Bl X "all" := hX.bl (by decide +kernel) M_all
  obtain ⟨⟨n, ts, c, μ0⟩, ⟨rfl, rfl, hl, hn, hin⟩, q, _⟩ := h
  dsimp only at hl hn hin q ⊢
  generalize hL : (c.map fun x => D.int x) = L
  have hLl : L.length = n := by rw [← hL, List.length_map, hl]
  change WB X _ [some (.int n), some (.lst (ts.map tieD)), some (.lst (c.map fun x => D.int x)), none, none, none, none] μ _
  rw [hL]
  refine wb_go ?_
  walk_at "d_wb"
  walk_at "dl"
  · rename_i h
    exact absurd (show ((L.length : Nat) : Int) = (n : Int) by omega) h
  refine we_allL hX.calm b_all ?_
  refine ctx_lc hX [("_law_one", 3)] (vs := [3]) ?_
  with_reducible refine wi_list ?_
  walk_at "dx"
  subst hL
  refine lc_map (xs := c) (f := fun x => D.int x) (fun x => [some (.int n), some (.lst (ts.map tieD)), some (.lst (c.map fun x => D.int x)), some (.int x), none, none, none]) (fun _ => .bl true) SeqL.l.still (by rw [hl]; exact small1000 hn) ?_ ?_ ?_
  · intro X' hb x hx
    have hX' := hX.blk hb
    have w3 : Nw X' "_law_one" 3 := hX'.nl (by decide +kernel) (by decide +kernel)
    have m3 : Nm X' "_law_one" 3 := w3.toNm
    have b_isinstance : Bl X' "isinstance" := hX'.bl (by decide +kernel) M_isinstance
    have b_int : Bl X' "int" := hX'.bl (by decide +kernel) M_int
    have b_bool : Bl X' "bool" := hX'.bl (by decide +kernel) M_bool
    walk_at "wg"
  · intro X' hb x hx
    have hX' := hX.blk hb
    have w3 : Nw X' "_law_one" 3 := hX'.nl (by decide +kernel) (by decide +kernel)
    have m3 : Nm X' "_law_one" 3 := w3.toNm
    have b_isinstance : Bl X' "isinstance" := hX'.bl (by decide +kernel) M_isinstance
    have b_int : Bl X' "int" := hX'.bl (by decide +kernel) M_int
    have b_bool : Bl X' "bool" := hX'.bl (by decide +kernel) M_bool
    walk_at "dx"
    exact ⟨rfl, rfl⟩
  refine ⟨c.map fun _ => true, by rw [List.map_map]; exact .inl rfl, one_b ?_⟩
  rw [show (c.map fun _ => true).all id = true by rw [List.all_map, List.all_eq_true]; exact fun _ _ => rfl]
  rw [if_neg (by decide)]
  walk_at "dl"
  refine ctx_for hX ?_
  with_reducible refine wi_list ?_
  walk_at "dx"
  refine for_typ (xs := ts) (f := tieD) (fun pre Γ' μ' => ∃ o3 o4 o5 o6 : Option D, Γ' = [some (.int n), some (.lst (ts.map tieD)), some (.lst (c.map fun x => D.int x)), o3, o4, o5, o6] ∧ μ = μ' ∧ ∀ t ∈ pre, (t.2.2 : Int) ∣ c.getD t.1 0 - c.getD t.2.1 0) ⟨_, _, _, _, rfl, rfl, fun _ h => by cases h⟩ (fun _ _ _ _ => SeqL.l.still) ?_ ?_
  · rintro pre ⟨a, b, r⟩ post _ _ hpp ⟨o3, o4, o5, o6, rfl, rfl, hI⟩
    have ht : (a, b, r) ∈ ts := by rw [hpp]; exact List.mem_append.mpr (.inr List.mem_cons_self)
    obtain ⟨ha, hb⟩ := hin _ ht
    dsimp only at ha hb
    have hno : ¬ (r : Int) ∣ c.getD a 0 - c.getD b 0 → Q μ (.bl false) := fun h => q _ _ ⟨rfl, congrArg D.bl (by
      symm
      refine Bool.eq_false_iff.mpr fun z => h ?_
      unfold fitB at z
      exact of_decide_eq_true (List.all_eq_true.mp z _ ht))⟩
    have hyes : (r : Int) ∣ c.getD a 0 - c.getD b 0 → ∀ t ∈ pre ++ [(a, b, r)], (t.2.2 : Int) ∣ c.getD t.1 0 - c.getD t.2.1 0 := fun h t ht => by
      rcases List.mem_append.mp ht with ht | ht
      · exact hI t ht
      · rw [List.mem_singleton.mp ht]; exact h
    show WGx X _ (.tup [.int (a : Int), .int (b : Int), .int (r : Int)]) _ _ _
    walk_at "dl"
    refine ix_c (by omega) ?_
    walk_at "dx"
    refine ix_c (by omega) ?_
    walk_at "dl"
    all_goals first
      | (exfalso; omega)
      | (refine hno fun z => ?_
         first
           | (have h3 : r = 0 := by omega
              rw [h3] at z
              have := Int.zero_dvd.mp z
              omega)
           | (have := Int.emod_eq_zero_of_dvd z
              omega))
      | exact ⟨_, _, _, _, rfl, rfl, hyes (Int.dvd_of_emod_eq_zero (by assumption))⟩
      | exact ⟨_, _, _, _, rfl, rfl, hyes (by rw [show c.getD a 0 - c.getD b 0 = 0 by omega]; exact Int.dvd_zero _)⟩
  · rintro _ _ ⟨o3, o4, o5, o6, rfl, rfl, hI⟩
    walk_at "dl"
    refine q _ _ ⟨rfl, congrArg D.bl ?_⟩
    symm
    unfold fitB
    rw [List.all_eq_true]
    exact fun t ht => decide_eq_true (hI t ht)
theorem ft_use {n : Nat} {ts : List (Nat × Nat × Nat)} {c : List Int} {μ : Mu} {Q : Mu → D → Prop} {E : Mu → Xd → Prop} (hl : c.length = n) (hn : n ≤ 1000) (hi : InN n ts) (h : Q μ (.bl (fitB ts c))) : spFt [.int (n : Int), .lst (ts.map tieD), csD c] μ Q E := ⟨⟨n, ts, c, μ⟩, ⟨rfl, rfl, hl, hn, hi⟩, fun _ _ ⟨h1, h2⟩ => by dsimp only at h1; subst h1 h2; exact h, fun _ _ z => z.elim⟩
theorem star_lst11 {elts : List Expr} {pos : Pos} {es : List Expr} {env : Env} : starEach (.List elts pos :: es) env = (false, eval (.List elts pos) env) :: starEach es env := rfl
theorem get_so {so : List (Nat × Int)} {i k : Nat} : ((valG so i).map fun x => D.int x).getD (.int (k : Int)) = .int ((valG so i).getD (k : Int)) := by
  cases valG so i <;> rfl
structure AcA where
  n : Nat
  ts : List (Nat × Nat × Nat)
  pd : Addr
  so : List (Nat × Int)
  μ : Mu
abbrev spAc : Spc := specS (α := AcA) (fun a ds μ => ds = [.int a.n, .lst (a.ts.map tieD), .ref a.pd] ∧ μ = a.μ ∧ a.n ≤ 3 ∧ a.ts.length ≤ 100 ∧ InN a.n a.ts ∧ a.μ a.pd = some (.dK (smD a.so))) (fun a μ' d => a.μ = μ' ∧ d = .lst ((casesC a.so a.ts a.n).map csD))
theorem ok__law_all_cases {f : Addr} {fd : FuncData} (F : Fun K "_law_all_cases" "_law_all_cases" s__law_all_cases f fd) (G__law_fits : GFn P w K mg base "_law_fits" 1 spFt) (M_range : mg "range" = none) (M_max : mg "max" = none) : FnOk P w K mg base (L2.CX P w) 2 f fd ["_law_many", "_law_ties", "_law_some"] (lift K spAc) := by
  refine fn_dl F sc__law_all_cases (fun ds μ Q E h => ?_) fun X hX hf ds μ Q E hE h => ?_
  · obtain ⟨a, ⟨rfl, _⟩, _⟩ := h; rfl
  have w0 : Nw X "_law_many" 0 := hX.nl (by decide +kernel) (by decide +kernel)
  have m0 : Nm X "_law_many" 0 := w0.toNm
  have w1 : Nw X "_law_ties" 1 := hX.nl (by decide +kernel) (by decide +kernel)
  have m1 : Nm X "_law_ties" 1 := w1.toNm
  have w2 : Nw X "_law_some" 2 := hX.nl (by decide +kernel) (by decide +kernel)
  have m2 : Nm X "_law_some" 2 := w2.toNm
  have w3 : Nw X "_law_cases" 3 := hX.nl (by decide +kernel) (by decide +kernel)
  have m3 : Nm X "_law_cases" 3 := w3.toNm
  have w4 : Nw X "_law_point" 4 := hX.nc hf (by decide +kernel) (by decide +kernel)
  have m4 : Nm X "_law_point" 4 := w4.toNm
  have w5 : Nw X "_law_more" 5 := hX.nl (by decide +kernel) (by decide +kernel)
  have m5 : Nm X "_law_more" 5 := w5.toNm
  have w6 : Nw X "_law_case" 6 := hX.nl (by decide +kernel) (by decide +kernel)
  have m6 : Nm X "_law_case" 6 := w6.toNm
  have w7 : Nw X "_law_k" 7 := hX.nl (by decide +kernel) (by decide +kernel)
  have m7 : Nm X "_law_k" 7 := w7.toNm
  have w8 : Nw X "_law_near" 8 := hX.nl (by decide +kernel) (by decide +kernel)
  have m8 : Nm X "_law_near" 8 := w8.toNm
  have c__law_fits : Cl X "_law_fits" spFt := hX.cl G__law_fits (by decide +kernel) (by decide)
  have b_range : Bl X "range" := hX.bl (by decide +kernel) M_range
  obtain ⟨⟨n, ts, pd, so, μ0⟩, ⟨rfl, rfl, hn, htl, hin, hm⟩, q, _⟩ := h
  dsimp only at hn htl hin hm q ⊢
  change WB X _ [some (.int n), some (.lst (ts.map tieD)), some (.ref pd), none, none, none, none, none, none, none] μ _
  refine wb_go ?_
  walk_at "d_wb"
  refine ws_set w3 (we_lst (wa_cons (we_lst (wa_nil (req (by decide) ?_))) star_lst11)) (by rfl)
  walk_at "dx"
  walk_at "d_wb"
  refine ctx_for hX ?_
  refine wi_range1 b_range ?_
  walk_at "dx"
  rw [Int.toNat_natCast, range0n]
  refine for_typ (xs := List.range n) (f := fun i : Nat => D.int (i : Int)) (fun pre Γ' μ' => ∃ o4 o5 o6 o7 o8 : Option D, Γ' = [some (.int n), some (.lst (ts.map tieD)), some (.ref pd), some (.lst ((casesC so ts pre.length).map csD)), o4, o5, o6, o7, o8, none] ∧ μ = μ') ⟨_, _, _, _, _, rfl, rfl⟩ (fun _ _ _ _ => True.intro) ?_ ?_
  · rintro pre i post _ _ hpp ⟨o4, o5, o6, o7, o8, rfl, rfl⟩
    obtain ⟨hip, hi⟩ := range_split hpp
    rw [← hip]
    have hpl : (pre ++ [i]).length = i + 1 := by rw [List.length_append, ← hip]; rfl
    rw [hpl]
    clear hpp hpl
    have hcl := casesC_len (so := so) (ts := ts) (i := i)
    have hcl2 : (casesC so ts i).length ≤ 12 ^ 3 := Nat.le_trans hcl (Nat.pow_le_pow_right (by decide) (by omega))
    show WGx X _ (.int (i : Int)) _ _ _
    walk_at "dx"
    walk_at "d_wb"
    refine ws_set w5 (we_lstM ?_)
    walk_at "dx"
    intro pm hpm
    have hpp : pd ≠ pm := fun e => by rw [e, hpm] at hm; cases hm
    have hmd : ∀ {l : List (List Int)}, updM μ pm (.lst (l.map csD)) pd = some (.dK (smD so)) := fun {l} => (updM_ne hpp).trans hm
    walk_at "dx"
    walk_at "d_wb"
    refine ctx_for hX ?_
    with_reducible refine wi_list ?_
    walk_at "dx"
    refine for_typ (xs := casesC so ts i) (f := csD) (fun pre Γ' μ' => ∃ o6 o7 o8 : Option D, Γ' = [some (.int n), some (.lst (ts.map tieD)), some (.ref pd), some (.lst ((casesC so ts i).map csD)), some (.int (i : Int)), some (.ref pm), o6, o7, o8, none] ∧ updM μ pm (.lst ((stepC so ts i pre).map csD)) = μ') ⟨_, _, _, rfl, rfl⟩ (fun _ _ _ _ => SeqL.l.still) ?_ ?_
    · rintro pr1 c ps1 _ _ hp1 ⟨o6, o7, o8, rfl, rfl⟩
      have hci : c ∈ casesC so ts i := by rw [hp1]; exact List.mem_append.mpr (.inr List.mem_cons_self)
      have hcn := (cases_mem.mp hci).ln
      have hp1l : pr1.length ≤ 12 ^ 3 := by have := congrArg List.length hp1; rw [List.length_append] at this; omega
      have hst : stepC so ts i (pr1 ++ [c]) = stepC so ts i pr1 ++ rowC so ts i c (List.range 12) := by
        unfold stepC
        rw [List.flatMap_append, List.flatMap_singleton]
      rw [hst]
      clear hp1
      walk_at "dx"
      walk_at "d_wb"
      refine ctx_for hX ?_
      refine wi_range1 b_range ?_
      walk_at "dx"
      rw [show (12 : Int).toNat = 12 from rfl, range0n]
      refine for_typ (xs := List.range 12) (f := fun k : Nat => D.int (k : Int)) (fun pr2 Γ' μ' => ∃ o7 o8 : Option D, Γ' = [some (.int n), some (.lst (ts.map tieD)), some (.ref pd), some (.lst ((casesC so ts i).map csD)), some (.int (i : Int)), some (.ref pm), some (csD c), o7, o8, none] ∧ updM μ pm (.lst ((stepC so ts i pr1 ++ rowC so ts i c pr2).map csD)) = μ') ⟨_, _, rfl, by rw [show rowC so ts i c [] = [] from rfl, List.append_nil]⟩ (fun _ _ _ _ => True.intro) ?_ ?_
      · rintro pr2 k ps2 _ _ hp2 ⟨o7, o8, rfl, rfl⟩
        obtain ⟨hk1, hk2⟩ := range_split hp2
        clear hp2
        have hrl := rowC_len (so := so) (ts := ts) (i := i) (c := c) (l := pr2)
        have hsl := stepC_len (so := so) (ts := ts) (i := i) (cs := pr1)
        show WGx X _ (.int (k : Int)) _ _ _
        walk_at "dx"
        walk_at "d_wb"
        refine ctx_setLc hX [("_law_tie", 9)] (vs := [9]) w8 ?_
        with_reducible refine wi_list ?_
        walk_at "dx"
        refine lc_typ (xs := ts) (f := tieD) (fun t => [some (.int n), some (.lst (ts.map tieD)), some (.ref pd), some (.lst ((casesC so ts i).map csD)), some (.int (i : Int)), some (.ref pm), some (csD c), some (.int (k : Int)), o8, some (tieD t)]) (fun t => decide (max t.1 t.2.1 ≤ i)) tieD SeqL.l.still (small1000000 (by omega)) ?_ ?_ ?_ ?_
        · intro X' hb t ht
          have hX' := hX.blk hb
          have w9 : Nw X' "_law_tie" 9 := hX'.nl (by decide +kernel) (by decide +kernel)
          have m9 : Nm X' "_law_tie" 9 := w9.toNm
          have m4 : Nm X' "_law_point" 4 := hX'.nm (by decide +kernel)
          have b_max : Bl X' "max" := hX'.bl (by decide +kernel) M_max
          walk_at "wg"
        · rintro X' hb ⟨a, b, r⟩ ht
          have hX' := hX.blk hb
          have w9 : Nw X' "_law_tie" 9 := hX'.nl (by decide +kernel) (by decide +kernel)
          have m9 : Nm X' "_law_tie" 9 := w9.toNm
          have m4 : Nm X' "_law_point" 4 := hX'.nm (by decide +kernel)
          have b_max : Bl X' "max" := hX'.bl (by decide +kernel) M_max
          refine wts_one ?_
          show WT X' _ [some (.int n), some (.lst (ts.map tieD)), some (.ref pd), some (.lst ((casesC so ts i).map csD)), some (.int (i : Int)), some (.ref pm), some (csD c), some (.int (k : Int)), o8, some (.tup [.int (a : Int), .int (b : Int), .int (r : Int)])] _ _
          walk_at "dx"
          refine ⟨rfl, decide_eq_decide.mpr ?_⟩
          have hmx : (if (b : Int) > (a : Int) then (b : Int) else (a : Int)) = ((max a b : Nat) : Int) := by split <;> omega
          rw [hmx]
          show ((max a b : Nat) : Int) ≤ (i : Int) ↔ max a b ≤ i
          omega
        · intro X' hb t ht _
          have hX' := hX.blk hb
          have w9 : Nw X' "_law_tie" 9 := hX'.nl (by decide +kernel) (by decide +kernel)
          have m9 : Nm X' "_law_tie" 9 := w9.toNm
          have m4 : Nm X' "_law_point" 4 := hX'.nm (by decide +kernel)
          have b_max : Bl X' "max" := hX'.bl (by decide +kernel) M_max
          walk_at "dx"
          exact ⟨rfl, rfl⟩
        show SetQ _ _ (.lst ((nearT i ts).map tieD)) _
        walk_at "dx"
        have hmd2 := hmd (l := stepC so ts i pr1 ++ rowC so ts i c pr2)
        show WB X _ _ _ _
        have hrow : rowC so ts i c (pr2 ++ [k]) = rowC so ts i c pr2 ++ (if okC so ts i c k = true then [c ++ [(k : Int)]] else []) := by
          unfold rowC
          rw [List.filter_append, List.map_append, List.filter_cons]
          split <;> rfl
        have hnin : InN (i + 1) (nearT i ts) := fun t ht => by
          have := of_decide_eq_true (List.mem_filter.mp ht).2
          exact ⟨by omega, by omega⟩
        have hmiss : okC so ts i c k = false → ∃ o7 o8 : Option D, [some (.int n), some (.lst (ts.map tieD)), some (.ref pd), some (.lst ((casesC so ts i).map csD)), some (.int (i : Int)), some (.ref pm), some (csD c), some (.int (k : Int)), some (.lst ((nearT i ts).map tieD)), none] = [some (.int n), some (.lst (ts.map tieD)), some (.ref pd), some (.lst ((casesC so ts i).map csD)), some (.int (i : Int)), some (.ref pm), some (csD c), o7, o8, none] ∧ updM μ pm (.lst ((stepC so ts i pr1 ++ rowC so ts i c (pr2 ++ [k])).map csD)) = updM μ pm (.lst ((stepC so ts i pr1 ++ rowC so ts i c pr2).map csD)) := fun h => ⟨_, _, rfl, by rw [hrow, h, if_neg (by decide), List.append_nil]⟩
        walk_at "dl"
        refine get_k hmd2 rfl ?_
        rw [smD_val]
        walk_at "dx"
        rw [get_so]
        walk_at "dl"
        · rename_i hge
          have hcat : c.map (fun x => D.int x) ++ [.int (k : Int)] = (c ++ [(k : Int)]).map fun x => D.int x := by rw [List.map_append]; rfl
          have hlen : (c.map fun x => D.int x).length + ([D.int (k : Int)] : List D).length ≤ 16777216 := by
            rw [List.length_map, hcn]
            show i + 1 ≤ 16777216
            omega
          refine ⟨_, _, .inl rfl, .inl rfl, hlen, .inl ?_⟩
          rw [hcat]
          walk_at "dx"
          refine ft_use (n := i + 1) (by rw [List.length_append, hcn]; rfl) (by omega) hnin ?_
          refine one_b ?_
          cases hfb : fitB (nearT i ts) (c ++ [(k : Int)]) with
          | false =>
            rw [if_neg (by decide)]
            walk_at "dl"
            exact hmiss (by unfold okC; rw [hfb, Bool.and_false])
          | true =>
            rw [if_pos rfl]
            walk_at "dl"
            refine ⟨_, _, .inl rfl, .inl rfl, hlen, .inl ?_⟩
            rw [hcat]
            walk_at "dl"
            have hok : okC so ts i c k = true := by unfold okC; rw [hfb, Bool.and_true]; exact decide_eq_true hge
            refine ⟨_, _, rfl, ?_⟩
            rw [hrow, hok, if_pos rfl, ← List.append_assoc, List.map_append]
            first
              | rfl
              | (rw [updM_upd]; rfl)
              | (rw [updM_upd, List.map_append]; rfl)
        · rename_i hge
          exact hmiss (by unfold okC; rw [decide_eq_false hge, Bool.false_and])
      · rintro _ _ ⟨o7, o8, rfl, rfl⟩
        walk_at "dl"
        exact ⟨_, _, _, rfl, rfl⟩
    · rintro _ _ ⟨o6, o7, o8, rfl, rfl⟩
      walk_at "d_wb"
      refine ws_set w3 (we_frz ?_)
      walk_at "dx"
      refine ⟨_, _, Frz.lst updM_same FrzA.same, ?_⟩
      rw [delM_upd hpm]
      walk_at "dl"
      exact ⟨_, _, _, _, _, rfl, rfl⟩
  · rintro _ _ ⟨o4, o5, o6, o7, o8, rfl, rfl⟩
    rw [List.length_range]
    walk_at "dl"
    exact q _ _ ⟨rfl, rfl⟩
theorem ac_use {n : Nat} {ts : List (Nat × Nat × Nat)} {pd : Addr} {so : List (Nat × Int)} {μ : Mu} {Q : Mu → D → Prop} {E : Mu → Xd → Prop} (hn : n ≤ 3) (hl : ts.length ≤ 100) (hi : InN n ts) (hm : μ pd = some (.dK (smD so))) (h : Q μ (.lst ((casesC so ts n).map csD))) : spAc [.int (n : Int), .lst (ts.map tieD), .ref pd] μ Q E := ⟨⟨n, ts, pd, so, μ⟩, ⟨rfl, rfl, hn, hl, hi, hm⟩, fun _ _ ⟨h1, h2⟩ => by dsimp only at h1; subst h1 h2; exact h, fun _ _ z => z.elim⟩

theorem ix_of {ds : List D} {i : Int} {μ : Mu} {R : D → Prop} (h0 : 0 ≤ i) (h1 : i < (ds.length : Int)) (h : ∀ d ∈ ds, R d) : IxQ μ (.lst ds) (.int i) R := by
  obtain ⟨d, e, hm, _⟩ := atI_ex h0 h1
  exact ix_l e (h d hm)
theorem agS_of {so : List (Nat × Int)} {ts : List (Nat × Nat × Nat)} {n : Nat} {c : List Int} (hn : InN n ts) (hlt : ∀ z ∈ so, z.1 < n) (hnd : (so.map (·.1)).Nodup) (h : c ∈ casesC so ts n) : AgS (closeM n ts) so := fun y hy z hz =>
  case_bond hn (cases_mem.mp h) (hlt y hy) (hlt z hz) (valG_nodup hnd hy) (valG_nodup hnd hz)
theorem cases_none {ts : List (Nat × Nat × Nat)} {n : Nat} {y z : Nat × Int} (hn : InN n ts) (hy : y.1 < n) (hz : z.1 < n) (hlt : y.1 < z.1) (hd : ¬ ((closeM n ts y.1 z.1 : Nat) : Int) ∣ y.2 - z.2) : casesC [y, z] ts n = [] := by
  cases e : casesC [y, z] ts n with
  | nil => rfl
  | cons c cs =>
    have hc : c ∈ casesC [y, z] ts n := by rw [e]; exact List.mem_cons_self
    refine absurd (case_bond hn (cases_mem.mp hc) hy hz ?_ ?_) hd
    · rw [valG_cons, if_pos rfl]
    · rw [valG_cons, if_neg (by omega), valG_cons, if_pos rfl]
theorem close_dv {n L : Nat} {ts : List (Nat × Nat × Nat)} (h : ∀ t ∈ ts, Dv L t.2.2) (i j : Nat) : Dv L (closeM n ts i j) := by
  have h1 : ∀ {us : List (Nat × Nat × Nat)} {M : Nat → Nat → Nat}, (∀ t ∈ us, Dv L t.2.2) → MatOk L n M → MatOk L n (us.foldl tieStep M) := fun {us} => by
    induction us with
    | nil => exact fun _ h => h
    | cons t us ih =>
      intro M ht hM
      exact ih (fun u hu => ht u (List.mem_cons_of_mem _ hu)) (tie_ok hM (ht t List.mem_cons_self))
  have h2 : ∀ {bs : List Nat} {M : Nat → Nat → Nat}, MatOk L n M → MatOk L n (bs.foldl byStep M) := fun {bs} => by
    induction bs with
    | nil => exact fun h => h
    | cons b bs ih => intro M hM; exact ih (by_ok hM)
  exact (h2 (h1 h mat0_ok)).dv i j
section
local macro_rules | `(tactic| walk_at "d_we") => `(tactic| first
  | ((with_reducible show DL.WE _ (Expr.Dict (_ :: _) _ _) _ _ _); (refine we_disp ?_))
  | ((with_reducible show DL.WE _ (Expr.List [] _) _ _ _); (refine we_lst (wa_nil (req (by decide) ?_))))
  | ((with_reducible show DL.WE _ (Expr.Call (Expr.Name "Web" _) [_, _] [] _) _ _ _); (refine we_frz ?_); (refine' we_make ?m ?_); (case m => with_reducible assumption)))
theorem ok_law {f : Addr} {fd : FuncData} (F : Fun K "law" "law" s_law f fd) (G__law_box : GFn P w K mg base "_law_box" 1 spBox) (G_Web : GMk P w K mg base "Web" c_Web 4 (spWebInit c_BadTie c_Web)) (G__law_take : GFn P w K mg base "_law_take" 2 spTake) (G__law_all_cases : GFn P w K mg base "_law_all_cases" 2 spAc) (G_filled : GFn P w K mg base "filled" 6 (spFill c_Web)) (G_clash_of : GFn P w K mg base "clash_of" 5 (spClash c_Web)) (G__law_fits : GFn P w K mg base "_law_fits" 1 spFt) (M_range : mg "range" = none) (M_any : mg "any" = none) : FnOk P w K mg base (L2.CX P w) 8 f fd ["_law_script"] (lift K spLaw) := by
  refine fn_dl F sc_law (fun ds μ Q E h => ?_) fun X hX hf ds μ Q E hE h => ?_
  · obtain ⟨ns, rfl, _⟩ := h; rfl
  have w0 : Nw X "_law_script" 0 := hX.nl (by decide +kernel) (by decide +kernel)
  have m0 : Nm X "_law_script" 0 := w0.toNm
  have w1 : Nw X "_law_box_here" 1 := hX.nl (by decide +kernel) (by decide +kernel)
  have m1 : Nm X "_law_box_here" 1 := w1.toNm
  have w2 : Nw X "_law_many" 2 := hX.nl (by decide +kernel) (by decide +kernel)
  have m2 : Nm X "_law_many" 2 := w2.toNm
  have w3 : Nw X "_law_ties" 3 := hX.nl (by decide +kernel) (by decide +kernel)
  have m3 : Nm X "_law_ties" 3 := w3.toNm
  have w4 : Nw X "_law_k" 4 := hX.nl (by decide +kernel) (by decide +kernel)
  have m4 : Nm X "_law_k" 4 := w4.toNm
  have w5 : Nw X "_law_by" 5 := hX.nl (by decide +kernel) (by decide +kernel)
  have m5 : Nm X "_law_by" 5 := w5.toNm
  have w6 : Nw X "_law_web" 6 := hX.nl (by decide +kernel) (by decide +kernel)
  have m6 : Nm X "_law_web" 6 := w6.toNm
  have w7 : Nw X "_law_turn" 7 := hX.nl (by decide +kernel) (by decide +kernel)
  have m7 : Nm X "_law_turn" 7 := w7.toNm
  have w8 : Nw X "_law_some" 8 := hX.nc hf (by decide +kernel) (by decide +kernel)
  have m8 : Nm X "_law_some" 8 := w8.toNm
  have w9 : Nw X "_law_point" 9 := hX.nl (by decide +kernel) (by decide +kernel)
  have m9 : Nm X "_law_point" 9 := w9.toNm
  have w10 : Nw X "_law_cases" 10 := hX.nl (by decide +kernel) (by decide +kernel)
  have m10 : Nm X "_law_cases" 10 := w10.toNm
  have w11 : Nw X "_law_case" 11 := hX.nc hf (by decide +kernel) (by decide +kernel)
  have m11 : Nm X "_law_case" 11 := w11.toNm
  have w12 : Nw X "_law_clash" 12 := hX.nl (by decide +kernel) (by decide +kernel)
  have m12 : Nm X "_law_clash" 12 := w12.toNm
  have w13 : Nw X "_law_low" 13 := hX.nl (by decide +kernel) (by decide +kernel)
  have m13 : Nm X "_law_low" 13 := w13.toNm
  have w14 : Nw X "_law_high" 14 := hX.nl (by decide +kernel) (by decide +kernel)
  have m14 : Nm X "_law_high" 14 := w14.toNm
  have c__law_box : Cl X "_law_box" spBox := hX.cl G__law_box (by decide +kernel) (by decide)
  have k_Web : Ck X "Web" c_Web (spWebInit c_BadTie c_Web) := hX.ck G_Web (by decide +kernel) (by decide)
  have c__law_take : Cl X "_law_take" spTake := hX.cl G__law_take (by decide +kernel) (by decide)
  have c__law_all_cases : Cl X "_law_all_cases" spAc := hX.cl G__law_all_cases (by decide +kernel) (by decide)
  have c_filled : Cl X "filled" (spFill c_Web) := hX.cl G_filled (by decide +kernel) (by decide)
  have c_clash_of : Cl X "clash_of" (spClash c_Web) := hX.cl G_clash_of (by decide +kernel) (by decide)
  have c__law_fits : Cl X "_law_fits" spFt := hX.cl G__law_fits (by decide +kernel) (by decide)
  have b_range : Bl X "range" := hX.bl (by decide +kernel) M_range
  have b_any : Bl X "any" := hX.bl (by decide +kernel) M_any
  obtain ⟨ns, rfl, hl, _, q⟩ := h
  change WB X _ [some (.scr (ns.map .int)), none, none, none, none, none, none, none, none, none, none, none, none, none, none] μ _
  refine wb_go ?_
  walk_at "ds"
  rename_i b g t0 hg ht0 h0
  walk_at "d_wb"
  refine ws_set w2 ?_
  walk_at "dx"
  rename_i r1 t1 hr1 hr2 ht1 hc1
  obtain ⟨n, rfl⟩ : ∃ n : Nat, r1 = (n : Int) := ⟨r1.toNat, by omega⟩
  have en : (1 : Int) + (n : Int) = ((n + 1 : Nat) : Int) := by omega
  rw [en]
  obtain ⟨N, hN⟩ : ∃ N, N = n + 1 := ⟨_, rfl⟩
  rw [← hN]
  have hN1 : 1 ≤ N := by omega
  have hN3 : N ≤ 3 := by omega
  clear en hN
  walk_at "dx"
  walk_at "d_wb"
  refine ws_set w3 (we_lstM ?_)
  walk_at "dx"
  intro p hp
  obtain ⟨hpb, hpg, hp0⟩ := bxM_fresh hp
  rw [bxM_upd hpb hpg]
  walk_at "dx"
  walk_at "d_wb"
  refine ctx_for hX ?_
  refine wi_range1 b_range ?_
  walk_at "dx"
  rename_i k t2 hk1 hk2 ht2 hc2
  refine ⟨fun i Γ' μ' => ∃ (o4 o5 : Option D) (t6 : Bx) (us : List (Nat × Nat × Nat)), Γ' = [some (.scr (ns.map .int)), some (.ref b), some (.int N), some (.ref p), o4, o5, none, none, none, none, none, none, none, none, none] ∧ μ' = bxM b g t6 (updM μ p (.lst (us.map tieD))) ∧ BxOk t6 ∧ t6.cnt ≤ t2.cnt + 3 * i ∧ us.length = i ∧ TsOk N us ∧ ∀ t ∈ us, t.2.2 = 0 ∨ t.2.2 ∣ 12,
      ⟨_, _, t2, [], rfl, rfl, ht2, by omega, rfl, fun _ h => (by cases h), fun _ h => (by cases h)⟩, fun _ _ _ _ _ => trivial, ?_, ?_⟩
  · rintro i d _ _ hd ⟨u4, u5, t6, us, rfl, rfl, ht6, hc6, hul, hus, h12⟩
    obtain ⟨hi, rfl⟩ := rangeD_get hd
    have hF : bxM b g t6 (updM μ p (.lst (us.map tieD))) p = some (.lst (us.map tieD)) := (bxM_ne hpb hpg).trans updM_same
    walk_at "dl"
    rename_i ry ty hy1 hy2 hty hcy
    refine ix_of hy1 (by show _ < 8; omega) fun d hd => ?_
    obtain ⟨m, rfl, hm1, hm2⟩ : ∃ m : Nat, d = .int (m : Int) ∧ m ≤ 12 ∧ (m = 0 ∨ m ∣ 12) := by
      simp only [List.mem_cons, List.not_mem_nil, or_false] at hd
      rcases hd with rfl | rfl | rfl | rfl | rfl | rfl | rfl | rfl
      · exact ⟨0, rfl, by decide, .inl rfl⟩
      · exact ⟨1, rfl, by decide, .inr (by decide)⟩
      · exact ⟨2, rfl, by decide, .inr (by decide)⟩
      · exact ⟨3, rfl, by decide, .inr (by decide)⟩
      · exact ⟨4, rfl, by decide, .inr (by decide)⟩
      · exact ⟨6, rfl, by decide, .inr (by decide)⟩
      · exact ⟨12, rfl, by decide, .inr (by decide)⟩
      · exact ⟨4, rfl, by decide, .inr (by decide)⟩
    clear hd
    walk_at "dl"
    rename_i ra ta ha1 ha2 hta hca rc tc hc1' hc2' htc hcc
    obtain ⟨a, rfl⟩ : ∃ a : Nat, ra = (a : Int) := ⟨ra.toNat, by omega⟩
    obtain ⟨c, rfl⟩ : ∃ c : Nat, rc = (c : Int) := ⟨rc.toNat, by omega⟩
    refine ⟨_, _, tc, us ++ [(a, c, m)], rfl, by rw [bxM_upd hpb hpg, updM_upd, List.map_append]; rfl, htc, by omega, by rw [List.length_append, hul]; rfl, fun t ht => ?_, fun t ht => ?_⟩
    · rcases List.mem_append.mp ht with ht | ht
      · exact hus t ht
      · rw [List.mem_singleton.mp ht]
        exact ⟨by show a < N; omega, by show c < N; omega, by show m ≤ 1000000; omega⟩
    · rcases List.mem_append.mp ht with ht | ht
      · exact h12 t ht
      · rw [List.mem_singleton.mp ht]
        exact hm2
  rintro _ _ ⟨u4, u5, t6, us, rfl, rfl, ht6, hc6, hul, hus, h12⟩
  rw [rangeD_len] at hul hc6
  show WB X _ _ _ _
  refine wb_frz (i := 3) rfl (Frz.lst ((bxM_ne hpb hpg).trans updM_same) FrzA.same) (.s (.s (.s .z))) ?_
  rw [bxM_del hpb hpg, delM_upd hp0]
  have hin := tsok_in hus
  obtain ⟨C, hC⟩ : ∃ C, C = closeM N us := ⟨_, rfl⟩
  have hClo : Clo N C := by rw [hC]; exact close_clo
  have hTd : Tied us C := by rw [hC]; exact close_tied
  have hdv : ∀ i j, Dv 12 (C i j) := fun i j => by rw [hC]; exact close_dv (fun t ht => h12 t ht) i j
  walk_at "dl"
  intro pw hpw
  refine wmake_use (by omega) (by omega) hus hpw ?_
  refine ⟨rfl, bxM b g t6 μ, _, Frz.ins updM_same rfl (by rw [delM_upd hpw]; exact FrzA.same), ?_⟩
  rw [← hC]
  walk_at "dx"
  walk_at "d_wb"
  refine ctx_for hX ?_
  refine wi_range1 b_range ?_
  walk_at "dx"
  refine ⟨fun i Γ' μ' => ∃ (o7 o8 o9 o10 o11 o12 o13 o14 : Option D) (t7 : Bx) (ν : Mu), Γ' = [some (.scr (ns.map .int)), some (.ref b), some (.int N), some (.lst (us.map tieD)), u4, u5, some (.ins c_Web (webF N (us.map tieD) C)), o7, o8, o9, o10, o11, o12, o13, o14] ∧ μ' = bxM b g t7 ν ∧ BxOk t7 ∧ t7.cnt ≤ t6.cnt + 20 * i,
      ⟨_, _, _, _, _, _, _, _, t6, μ, rfl, rfl, ht6, by omega⟩, fun _ _ _ _ _ => trivial, ?_, ?_⟩
  · rintro i d _ _ hd ⟨o7, o8, o9, o10, o11, o12, o13, o14, t7, ν, rfl, rfl, ht7, hc7⟩
    obtain ⟨hi, rfl⟩ := rangeD_get hd
    walk_at "dx"
    walk_at "d_wb"
    refine ws_set w8 (we_dnew fun pd hpd => ?_) (by rfl)
    obtain ⟨pd1, pd2, pd3⟩ := bxM_fresh hpd
    rw [bxM_upd pd1 pd2]
    walk_at "dx"
    walk_at "d_wb"
    refine ctx_for hX ?_
    refine wi_range1 b_range ?_
    walk_at "dx"
    rw [Int.toNat_natCast, range0n]
    refine for_typ (xs := List.range N) (f := fun i : Nat => D.int (i : Int)) (fun pre Γ' μ' => ∃ (so : List (Nat × Int)) (o9 : Option D) (t8 : Bx), Γ' = [some (.scr (ns.map .int)), some (.ref b), some (.int N), some (.lst (us.map tieD)), u4, u5, some (.ins c_Web (webF N (us.map tieD) C)), some (.int (0 + i)), some (.ref pd), o9, o10, o11, o12, o13, o14] ∧ bxM b g t8 (updM ν pd (.dK (smD so))) = μ' ∧ BxOk t8 ∧ t8.cnt ≤ t7.cnt + 2 * pre.length ∧ so.length ≤ pre.length ∧ (∀ z ∈ so, z.1 < pre.length ∧ z.1 < N ∧ 0 ≤ z.2 ∧ z.2 < 12) ∧ (so.map (·.1)).Nodup) ⟨[], _, t7, rfl, rfl, ht7, by simp, Nat.le_refl _, fun _ h => (by cases h), .nil⟩ (fun _ _ _ _ => True.intro) ?_ ?_
    · rintro pre j post _ _ hpp ⟨so, o9, t8, rfl, rfl, ht8, hc8, hsl, hso, hnd⟩
      obtain ⟨hjp, hj⟩ := range_split hpp
      have hpl : (pre ++ [j]).length = pre.length + 1 := by rw [List.length_append]; rfl
      walk_at "dl"
      · rename_i rq tq hq1 hq2 htq hcq hqp rv tv hv1 hv2 htv hcv
        have hvn : valG so j = none := valG_none.mpr fun hm => by
          obtain ⟨z, hz, e⟩ := List.mem_map.mp hm
          have := (hso z hz).1
          omega
        refine .inr (dput_k ((bxM_ne pd1 pd2).trans updM_same) rfl (by unfold smD; rw [List.length_map]; exact Nat.lt_trans (show so.length < 2000 by omega) (by decide)) ?_)
        rw [bxM_upd pd1 pd2, updM_upd, smD_put hvn]
        walk_at "dl"
        refine ⟨so ++ [(j, rv)], _, tv, rfl, rfl, htv, by rw [hpl]; omega, by rw [List.length_append, hpl, List.length_singleton]; omega, fun z hz => ?_, ?_⟩
        · rw [hpl]
          rcases List.mem_append.mp hz with hz | hz
          · have := hso z hz
            exact ⟨by omega, this.2⟩
          · rw [List.mem_singleton.mp hz]
            exact ⟨by show j < _; omega, hj, hv1, hv2⟩
        · rw [List.map_append, List.nodup_append]
          refine ⟨hnd, by simp, fun a ha b hb e => ?_⟩
          have hb' : b = j := by simpa using hb
          rw [e, hb'] at ha
          exact valG_none.mp hvn ha
      · rename_i rq tq hq1 hq2 htq hcq hqp
        exact ⟨so, _, tq, rfl, rfl, htq, by rw [hpl]; omega, by rw [hpl]; omega, fun z hz => by rw [hpl]; have := hso z hz; exact ⟨by omega, this.2⟩, hnd⟩
    rintro _ _ ⟨so, o9, t8, rfl, rfl, ht8, hc8, hsl, hso, hnd⟩
    rw [List.length_range] at hc8 hsl
    refine wb_sub (Γ' := [some (.scr (ns.map .int)), some (.ref b), some (.int N), some (.lst (us.map tieD)), u4, u5, some (.ins c_Web (webF N (us.map tieD) C)), some (.int (0 + i)), some (.ref pd), none, o10, o11, o12, o13, o14]) (by repeat (first | exact sub_nil | apply sub_cons | apply sub_drop)) ?_
    have hmd : bxM b g t8 (updM ν pd (.dK (smD so))) pd = some (.dK (smD so)) := (bxM_ne pd1 pd2).trans updM_same
    have hlt : ∀ z ∈ so, z.1 < N := fun z hz => (hso z hz).2.1
    have hpre : FilPre ⟨N, us.map tieD, C, pd, so, bxM b g t8 (updM ν pd (.dK (smD so)))⟩ := ⟨hmd, by dsimp only; omega, by dsimp only; omega, hlt, hnd⟩
    have hsz : ∀ z ∈ so, z.2.natAbs < 2 ^ 3000 := fun z hz => Nat.lt_of_lt_of_le (show z.2.natAbs < 12 by have := hso z hz; omega) (Nat.le_trans (show 12 ≤ 2 ^ 4 by decide) (Nat.pow_le_pow_right (by decide) (by decide)))
    walk_at "dl"
    refine ac_use hN3 (by omega) hin hmd ?_
    walk_at "dl"
    refine fill_use (LL := 12) hpre hClo (by decide) (Nat.lt_of_le_of_lt (show 12 ≤ 2 ^ 4 by decide) (Nat.pow_lt_pow_right (by decide) (by decide))) hdv (by omega) hsz fun dc hdc => ?_
    walk_at "dl"
    refine clash_use hpre hClo fun dl hdl => ?_
    have hcase : (dc = .non ∧ ¬ AgS C so ∧ ClS C so dl) ∨ (FdS N C so dc ∧ dl = .non ∧ AgS C so) := by
      by_cases hA : AgS C so
      · rcases hdc with ⟨_, h⟩ | h
        · exact absurd hA h
        · rcases hdl with ⟨e, _⟩ | h2
          · exact .inr ⟨h, e, hA⟩
          · exact absurd hA (clS_no h2)
      · rcases hdc with ⟨e, _⟩ | ⟨f, _, h2, h3⟩
        · rcases hdl with ⟨_, h⟩ | h2
          · exact absurd h hA
          · exact .inl ⟨e, hA, h2⟩
        · exact absurd (fun y hy z hz => by rw [← h3 y hy, ← h3 z hz]; exact h2 _ _ (hlt y hy) (hlt z hz)) hA
    clear hdc hdl
    rcases hcase with ⟨rfl, hA, hcl⟩ | ⟨hF, rfl, hA⟩
    · have hc0 : casesC so us N = [] := by
        cases e : casesC so us N with
        | nil => rfl
        | cons c cs =>
          have := agS_of hin hlt hnd (show c ∈ casesC so us N by rw [e]; exact List.mem_cons_self)
          rw [← hC] at this
          exact absurd this hA
      rw [hc0]
      obtain ⟨y, hy, z, hz, hyz, hnd2, rfl⟩ := hcl
      walk_at "dl"
      refine eqa_d (x := .lst []) (n := 1) (m := 1) Vw.f Vw.f (by rfl) (by rfl) (by decide) (by decide) ?_
      rw [show eqvD (.lst []) (.lst []) = true from eqvD_self (n := 1) rfl]
      walk_at "dl"
      · rename_i h
        exact absurd rfl h
      · rename_i h h2
        exact absurd rfl h2
      · rename_i h h2 h3
        exact absurd (show (y.1 : Int) < (z.1 : Int) by omega) h3
      have vy := valG_nodup hnd hy
      have vz := valG_nodup hnd hz
      refine fun hm => in_d hm rfl ?_
      rw [smD_val, vy, show (Option.map (fun x => D.int x) (some y.2)).isSome = true from rfl, if_neg (by decide)]
      walk_at "dl"
      refine fun hm => in_d hm rfl ?_
      rw [smD_val, vz, show (Option.map (fun x => D.int x) (some z.2)).isSome = true from rfl, if_neg (by decide)]
      walk_at "dl"
      intro pz hpz
      have hnep : pd ≠ pz := fun e => by rw [← e, hmd] at hpz; cases hpz
      have hm2 : updM (bxM b g t8 (updM ν pd (.dK (smD so)))) pz (.dK []) pd = some (.dK (smD so)) := (updM_ne hnep).trans hmd
      show WE X _ _ _ _
      walk_at "dx"
      refine fun hm => sub_d hm rfl (by rw [smD_val, vy]; rfl) ?_
      show WE X _ _ _ _
      walk_at "dx"
      refine fun hm => sub_d hm rfl (by rw [smD_val, vz]; rfl) ?_
      refine ⟨updM_same, [(.inl (y.1 : Int), .int y.2), (.inl (z.1 : Int), .int z.2)], rfl, show 2 ≤ 15 by decide, ?_⟩
      rw [updM_upd, show mergeG [] [((.inl (y.1 : Int) : Key), D.int y.2), (.inl (z.1 : Int), .int z.2)] = smD [y, z] from mergeG_nodup _ _ (by simp; omega)]
      obtain ⟨z1, z2, z3⟩ := bxM_fresh hpz
      rw [bxM_upd z1 z2]
      walk_at "dx"
      refine ac_use hN3 (by omega) hin ((bxM_ne z1 z2).trans updM_same) ?_
      rw [cases_none hin (hlt y hy) (hlt z hz) hyz (by rw [← hC]; exact hnd2)]
      walk_at "dx"
      refine eqa_d (x := .lst []) (n := 1) (m := 1) Vw.f Vw.f (by rfl) (by rfl) (by decide) (by decide) ?_
      rw [show eqvD (.lst []) (.lst []) = true from eqvD_self (n := 1) rfl]
      walk_at "dl"
      exact ⟨_, _, _, _, _, _, _, _, t8, _, rfl, rfl, ht8, by omega⟩
    · obtain ⟨f, rfl, hf1, hf2⟩ := hF
      obtain ⟨c0, cs, hcs⟩ : ∃ c0 cs, casesC so us N = c0 :: cs := by
        have hne := case_made (so := so) (ts := us) (n := N) (f := f) h12 (fun t ht => Int.dvd_trans (Int.natCast_dvd_natCast.mpr (hTd t ht)) (hf1 _ _ (hin t ht).1 (hin t ht).2)) fun j v hv => by
          have hz := valG_mem hv
          exact ⟨hf2 _ hz, (hso _ hz).2.2⟩
        cases e : casesC so us N with
        | nil => exact absurd e hne
        | cons c0 cs => exact ⟨c0, cs, rfl⟩
      walk_at "dl"
      refine eqa_d (x := .lst ((casesC so us N).map csD)) (n := 2) (m := 1) Vw.f Vw.f (by show ((casesC so us N).map csD).all (shD 1) = true; rw [List.all_map, List.all_eq_true]; exact fun c _ => by show (c.map _).all _ = true; rw [List.all_map, List.all_eq_true]; exact fun _ _ => rfl) (by rfl) (by decide) (by decide) ?_
      rw [show eqvD (.lst ((casesC so us N).map csD)) (.lst []) = false from by
        rw [hcs]
        exact Bool.eq_false_iff.mpr fun z => by cases ((EI.lst (EI.lst EI.int)) (c0 :: cs) []).mp z]
      walk_at "dl"
      · rename_i h
        exact absurd rfl h
      · rename_i h h2
        exact absurd rfl h2
      have e : csD ((List.range N).map f) = .lst ((List.range N).map fun i => D.int (f i)) := by unfold csD; rw [List.map_map]; rfl
      have hft : ∀ {μ : Mu} {Q : Mu → D → Prop} {E : Mu → Xd → Prop}, Q μ (.bl (fitB us ((List.range N).map f))) → spFt [.int (N : Int), .lst (us.map tieD), .lst ((List.range N).map fun i => D.int (f i))] μ Q E := fun h => by rw [← e]; exact ft_use (by rw [List.length_map, List.length_range]) (by omega) hin h
      refine hft ?_
      rw [show fitB us ((List.range N).map f) = true from by
        unfold fitB
        rw [List.all_eq_true]
        intro t ht
        have hg : ∀ j, j < N → ((List.range N).map f).getD j 0 = f j := fun j hj => by
          rw [List.getD_eq_getElem?_getD, List.getElem?_map, List.getElem?_range hj]
          rfl
        rw [hg _ (hin t ht).1, hg _ (hin t ht).2]
        exact decide_eq_true (Int.dvd_trans (Int.natCast_dvd_natCast.mpr (hTd t ht)) (hf1 _ _ (hin t ht).1 (hin t ht).2))]
      refine one_b ?_
      rw [if_neg (by decide)]
      walk_at "dl"
      refine we_anyL hX.calm b_any ?_
      refine we_lock hmd fun ob kvs => ?_
      have hl1 : bxM b g t8 (updM ν pd (.lkK ob kvs (smD so))) pd = some (.lkK ob kvs (smD so)) := (bxM_ne pd1 pd2).trans updM_same
      rw [bxM_upd pd1 pd2, updM_upd]
      refine ctx_lc hX [("_law_point", 9)] (vs := [9]) ?_
      refine wi_keys ?_
      walk_at "dx"
      refine ⟨pd, ob, kvs, _, rfl, hl1, ?_⟩
      rw [show (smD so).map (fun kv => keyOf kv.1) = so.map fun z => D.int (z.1 : Int) from by unfold smD; rw [List.map_map]; rfl]
      refine lc_map (xs := so) (f := fun z => D.int (z.1 : Int)) (fun z => [some (.scr (ns.map .int)), some (.ref b), some (.int N), some (.lst (us.map tieD)), u4, u5, some (.ins c_Web (webF N (us.map tieD) C)), some (.int (0 + i)), some (.ref pd), some (.int (z.1 : Int)), some (.lst ((casesC so us N).map csD)), some (.lst ((List.range N).map fun i => .int (f i))), some .non, o13, o14]) (fun _ => .bl false) hl1 (small1000000 (by omega)) ?_ ?_ ?_
      · intro X' hb z hz
        have hX' := hX.blk hb
        have w9 : Nw X' "_law_point" 9 := hX'.nl (by decide +kernel) (by decide +kernel)
        have m9 : Nm X' "_law_point" 9 := w9.toNm
        have m11 : Nm X' "_law_case" 11 := hX'.nm (by decide +kernel)
        have m8 : Nm X' "_law_some" 8 := hX'.nm (by decide +kernel)
        walk_at "wg"
      · intro X' hb z hz
        have hX' := hX.blk hb
        have w9 : Nw X' "_law_point" 9 := hX'.nl (by decide +kernel) (by decide +kernel)
        have m9 : Nm X' "_law_point" 9 := w9.toNm
        have m11 : Nm X' "_law_case" 11 := hX'.nm (by decide +kernel)
        have m8 : Nm X' "_law_some" 8 := hX'.nm (by decide +kernel)
        walk_at "dx"
        refine ix_l (d := .int (f z.1)) (atI_n (by omega) (by rw [Int.toNat_natCast, List.getElem?_map, List.getElem?_range (hlt z hz)]; rfl)) ?_
        rw [hf2 z hz]
        walk_at "dx"
        refine fun hm => sub_lk hm rfl (by rw [smD_val, valG_nodup hnd hz]; rfl) ?_
        walk_at "dx"
        exact ⟨rfl, by rw [decide_eq_true rfl]; rfl⟩
      refine ⟨hl1, ?_⟩
      rw [bxM_upd pd1 pd2, updM_upd]
      refine ⟨so.map fun _ => false, .inl (by rw [List.map_map]; rfl), ?_⟩
      rw [show ((so.map fun _ => false).any id) = false by rw [List.any_map]; simp]
      walk_at "dl"
      exact ⟨_, _, _, _, _, _, _, _, t8, _, rfl, rfl, ht8, by omega⟩
  rintro _ _ ⟨o7, o8, o9, o10, o11, o12, o13, o14, t7, ν, rfl, rfl, ht7, hc7⟩
  walk_at "dl"
  exact q _
end

end
theorem all_mk {l : PySem.W.OpenLaw} {w : World} {K : PySem.W.Frag} {h : Heap} {mg : Str → Option Value} {fa : Addr} (X : K.In h) (G : h.Ns mainGlobals mg) (hfa : mg "law" = some (.ref fa)) {c_SameError c_BadTie c_NoPoint c_Web : Addr}
    {f0 : Addr} {od0 an0 : Option Addr} {sl0 : Array (Option Value)} {oc0 dc0 pm0 cd0 ct0 : Value} {kV0 : Value}
    {f1 : Addr} {od1 an1 : Option Addr} {sl1 : Array (Option Value)} {oc1 dc1 pm1 cd1 ct1 : Value} {kV1 : Value}
    {f2 : Addr} {od2 an2 : Option Addr} {sl2 : Array (Option Value)} {oc2 dc2 pm2 cd2 ct2 : Value} {kV2 : Value}
    {f3 : Addr} {od3 an3 : Option Addr} {sl3 : Array (Option Value)} {oc3 dc3 pm3 cd3 ct3 : Value}
    {kD3 : Addr}
    {tk3_0 : Tok}
    {f4 : Addr} {od4 an4 : Option Addr} {sl4 : Array (Option Value)} {oc4 dc4 pm4 cd4 ct4 : Value} {kV4 : Value}
    {f5 : Addr} {od5 an5 : Option Addr} {sl5 : Array (Option Value)} {oc5 dc5 pm5 cd5 ct5 : Value} {kV5 : Value}
    {f6 : Addr} {od6 an6 : Option Addr} {sl6 : Array (Option Value)} {oc6 dc6 pm6 cd6 ct6 : Value} {kV6 : Value}
    {f7 : Addr} {od7 an7 : Option Addr} {sl7 : Array (Option Value)} {oc7 dc7 pm7 cd7 ct7 : Value} {kV7 : Value}
    {f8 : Addr} {od8 an8 : Option Addr} {sl8 : Array (Option Value)} {oc8 dc8 pm8 cd8 ct8 : Value} {kV8 : Value}
    {f9 : Addr} {od9 an9 : Option Addr} {sl9 : Array (Option Value)} {oc9 dc9 pm9 cd9 ct9 : Value} {kV9 : Value}
    {f10 : Addr} {od10 an10 : Option Addr} {sl10 : Array (Option Value)} {oc10 dc10 pm10 cd10 ct10 : Value} {kV10 : Value}
    {f11 : Addr} {od11 an11 : Option Addr} {sl11 : Array (Option Value)} {oc11 dc11 pm11 cd11 ct11 : Value} {kV11 : Value}
    {f12 : Addr} {od12 an12 : Option Addr} {sl12 : Array (Option Value)} {oc12 dc12 pm12 cd12 ct12 : Value} {kV12 : Value}
    {f13 : Addr} {od13 an13 : Option Addr} {sl13 : Array (Option Value)} {oc13 dc13 pm13 cd13 ct13 : Value} {kV13 : Value}
    {f14 : Addr} {od14 an14 : Option Addr} {sl14 : Array (Option Value)} {oc14 dc14 pm14 cd14 ct14 : Value} {kV14 : Value}
    {f15 : Addr} {od15 an15 : Option Addr} {sl15 : Array (Option Value)} {oc15 dc15 pm15 cd15 ct15 : Value} {kV15 : Value}
    {f16 : Addr} {od16 an16 : Option Addr} {sl16 : Array (Option Value)} {oc16 dc16 pm16 cd16 ct16 : Value} {kV16 : Value}
    {f17 : Addr} {od17 an17 : Option Addr} {sl17 : Array (Option Value)} {oc17 dc17 pm17 cd17 ct17 : Value} {kV17 : Value}
    {f18 : Addr} {od18 an18 : Option Addr} {sl18 : Array (Option Value)} {oc18 dc18 pm18 cd18 ct18 : Value} {kV18 : Value}
    {f19 : Addr} {od19 an19 : Option Addr} {sl19 : Array (Option Value)} {oc19 dc19 pm19 cd19 ct19 : Value} {kV19 : Value}
    {f20 : Addr} {od20 an20 : Option Addr} {sl20 : Array (Option Value)} {oc20 dc20 pm20 cd20 ct20 : Value} {kV20 : Value}
    {f21 : Addr} {od21 an21 : Option Addr} {sl21 : Array (Option Value)} {oc21 dc21 pm21 cd21 ct21 : Value} {kV21 : Value}
    {f22 : Addr} {od22 an22 : Option Addr} {sl22 : Array (Option Value)} {oc22 dc22 pm22 cd22 ct22 : Value} {kV22 : Value}
    {f23 : Addr} {od23 an23 : Option Addr} {sl23 : Array (Option Value)} {oc23 dc23 pm23 cd23 ct23 : Value} {kV23 : Value}
    {f24 : Addr} {od24 an24 : Option Addr} {sl24 : Array (Option Value)} {oc24 dc24 pm24 cd24 ct24 : Value} {kV24 : Value}
    {f25 : Addr} {od25 an25 : Option Addr} {sl25 : Array (Option Value)} {oc25 dc25 pm25 cd25 ct25 : Value} {kV25 : Value}
    {f26 : Addr} {od26 an26 : Option Addr} {sl26 : Array (Option Value)} {oc26 dc26 pm26 cd26 ct26 : Value} {kV26 : Value}
    {f27 : Addr} {od27 an27 : Option Addr} {sl27 : Array (Option Value)} {oc27 dc27 pm27 cd27 ct27 : Value} {kV27 : Value}
    {f28 : Addr} {od28 an28 : Option Addr} {sl28 : Array (Option Value)} {oc28 dc28 pm28 cd28 ct28 : Value} {kV28 : Value}
    {nm_BadTie q_BadTie : Str} {nN_BadTie : Addr} {bs_BadTie : List Value} {sn_BadTie : List Str} {sb_BadTie : List Value} {ab_BadTie : Bool} {co_BadTie : Option Bool} {dd_BadTie : Option Addr} {m0_BadTie m1_BadTie m2_BadTie m3_BadTie m5_BadTie : Option Value}
    {nm_NoPoint q_NoPoint : Str} {nN_NoPoint : Addr} {bs_NoPoint : List Value} {sn_NoPoint : List Str} {sb_NoPoint : List Value} {ab_NoPoint : Bool} {co_NoPoint : Option Bool} {dd_NoPoint : Option Addr} {m0_NoPoint m1_NoPoint m2_NoPoint m3_NoPoint m5_NoPoint : Option Value}
    (a0 : PySem.W.nsIn K mainGlobals "is_whole" = some (some (.ref f0)))
    (l0 : K.lookup f0 = some ⟨oc0, od0, .func (PySem.W.fnOf "is_whole" "is_whole" (defArgs s_is_whole) (defBody s_is_whole) (defScope s_is_whole) .none kV0 dc0 pm0 an0 cd0 ct0), sl0⟩)
    (c0 : PySem.W.codeIn K cd0 "is_whole" = true)
    (k0 : PySem.W.keepIn K (.ref f0) = true)
    (a1 : PySem.W.nsIn K mainGlobals "divides" = some (some (.ref f1)))
    (l1 : K.lookup f1 = some ⟨oc1, od1, .func (PySem.W.fnOf "divides" "divides" (defArgs s_divides) (defBody s_divides) (defScope s_divides) .none kV1 dc1 pm1 an1 cd1 ct1), sl1⟩)
    (c1 : PySem.W.codeIn K cd1 "divides" = true)
    (k1 : PySem.W.keepIn K (.ref f1) = true)
    (a2 : PySem.W.nsIn K mainGlobals "agree" = some (some (.ref f2)))
    (l2 : K.lookup f2 = some ⟨oc2, od2, .func (PySem.W.fnOf "agree" "agree" (defArgs s_agree) (defBody s_agree) (defScope s_agree) .none kV2 dc2 pm2 an2 cd2 ct2), sl2⟩)
    (c2 : PySem.W.codeIn K cd2 "agree" = true)
    (k2 : PySem.W.keepIn K (.ref f2) = true)
    (a3 : PySem.W.nsIn K mainGlobals "is_rest" = some (some (.ref f3)))
    (q3_0 : PySem.W.nsIn K kD3 "most" = some (some (.int 1000000 tk3_0)))
    (l3 : K.lookup f3 = some ⟨oc3, od3, .func (PySem.W.fnOf "is_rest" "is_rest" (defArgs s_is_rest) (defBody s_is_rest) (defScope s_is_rest) .none (.ref kD3) dc3 pm3 an3 cd3 ct3), sl3⟩)
    (c3 : PySem.W.codeIn K cd3 "is_rest" = true)
    (k3 : PySem.W.keepIn K (.ref f3) = true)
    (a4 : PySem.W.nsIn K mainGlobals "common" = some (some (.ref f4)))
    (l4 : K.lookup f4 = some ⟨oc4, od4, .func (PySem.W.fnOf "common" "common" (defArgs s_common) (defBody s_common) (defScope s_common) .none kV4 dc4 pm4 an4 cd4 ct4), sl4⟩)
    (c4 : PySem.W.codeIn K cd4 "common" = true)
    (k4 : PySem.W.keepIn K (.ref f4) = true)
    (a5 : PySem.W.nsIn K mainGlobals "joined" = some (some (.ref f5)))
    (l5 : K.lookup f5 = some ⟨oc5, od5, .func (PySem.W.fnOf "joined" "joined" (defArgs s_joined) (defBody s_joined) (defScope s_joined) .none kV5 dc5 pm5 an5 cd5 ct5), sl5⟩)
    (c5 : PySem.W.codeIn K cd5 "joined" = true)
    (k5 : PySem.W.keepIn K (.ref f5) = true)
    (a6 : PySem.W.nsIn K mainGlobals "is_point" = some (some (.ref f6)))
    (l6 : K.lookup f6 = some ⟨oc6, od6, .func (PySem.W.fnOf "is_point" "is_point" (defArgs s_is_point) (defBody s_is_point) (defScope s_is_point) .none kV6 dc6 pm6 an6 cd6 ct6), sl6⟩)
    (c6 : PySem.W.codeIn K cd6 "is_point" = true)
    (k6 : PySem.W.keepIn K (.ref f6) = true)
    (a7 : PySem.W.nsIn K mainGlobals "closure" = some (some (.ref f7)))
    (l7 : K.lookup f7 = some ⟨oc7, od7, .func (PySem.W.fnOf "closure" "closure" (defArgs s_closure) (defBody s_closure) (defScope s_closure) .none kV7 dc7 pm7 an7 cd7 ct7), sl7⟩)
    (c7 : PySem.W.codeIn K cd7 "closure" = true)
    (k7 : PySem.W.keepIn K (.ref f7) = true)
    (a8 : PySem.W.findIn K (.ref c_Web) "__init__" = some (some (.ref f8)))
    (i8 : PySem.W.isFn K (.ref f8) = true)
    (l8 : K.lookup f8 = some ⟨oc8, od8, .func (PySem.W.fnOf "__init__" "Web.__init__" (defArgs s_Web_init) (defBody s_Web_init) (defScope s_Web_init) .none kV8 dc8 pm8 an8 cd8 ct8), sl8⟩)
    (c8 : PySem.W.codeIn K cd8 "Web.__init__" = true)
    (k8 : PySem.W.keepIn K (.ref f8) = true)
    (a9 : PySem.W.findIn K (.ref c_Web) "many" = some (some (.ref f9)))
    (i9 : PySem.W.isFn K (.ref f9) = true)
    (l9 : K.lookup f9 = some ⟨oc9, od9, .func (PySem.W.fnOf "many" "Web.many" (defArgs s_Web_many) (defBody s_Web_many) (defScope s_Web_many) .none kV9 dc9 pm9 an9 cd9 ct9), sl9⟩)
    (c9 : PySem.W.codeIn K cd9 "Web.many" = true)
    (k9 : PySem.W.keepIn K (.ref f9) = true)
    (a10 : PySem.W.findIn K (.ref c_Web) "ties" = some (some (.ref f10)))
    (i10 : PySem.W.isFn K (.ref f10) = true)
    (l10 : K.lookup f10 = some ⟨oc10, od10, .func (PySem.W.fnOf "ties" "Web.ties" (defArgs s_Web_ties) (defBody s_Web_ties) (defScope s_Web_ties) .none kV10 dc10 pm10 an10 cd10 ct10), sl10⟩)
    (c10 : PySem.W.codeIn K cd10 "Web.ties" = true)
    (k10 : PySem.W.keepIn K (.ref f10) = true)
    (a11 : PySem.W.findIn K (.ref c_Web) "__len__" = some (some (.ref f11)))
    (i11 : PySem.W.isFn K (.ref f11) = true)
    (l11 : K.lookup f11 = some ⟨oc11, od11, .func (PySem.W.fnOf "__len__" "Web.__len__" (defArgs s_Web_len) (defBody s_Web_len) (defScope s_Web_len) .none kV11 dc11 pm11 an11 cd11 ct11), sl11⟩)
    (c11 : PySem.W.codeIn K cd11 "Web.__len__" = true)
    (k11 : PySem.W.keepIn K (.ref f11) = true)
    (a12 : PySem.W.findIn K (.ref c_Web) "fits" = some (some (.ref f12)))
    (i12 : PySem.W.isFn K (.ref f12) = true)
    (l12 : K.lookup f12 = some ⟨oc12, od12, .func (PySem.W.fnOf "fits" "Web.fits" (defArgs s_Web_fits) (defBody s_Web_fits) (defScope s_Web_fits) .none kV12 dc12 pm12 an12 cd12 ct12), sl12⟩)
    (c12 : PySem.W.codeIn K cd12 "Web.fits" = true)
    (k12 : PySem.W.keepIn K (.ref f12) = true)
    (a13 : PySem.W.nsIn K mainGlobals "_law_box" = some (some (.ref f13)))
    (l13 : K.lookup f13 = some ⟨oc13, od13, .func (PySem.W.fnOf "_law_box" "_law_box" (defArgs s__law_box) (defBody s__law_box) (defScope s__law_box) .none kV13 dc13 pm13 an13 cd13 ct13), sl13⟩)
    (c13 : PySem.W.codeIn K cd13 "_law_box" = true)
    (k13 : PySem.W.keepIn K (.ref f13) = true)
    (a14 : PySem.W.nsIn K mainGlobals "_law_mixed" = some (some (.ref f14)))
    (l14 : K.lookup f14 = some ⟨oc14, od14, .func (PySem.W.fnOf "_law_mixed" "_law_mixed" (defArgs s__law_mixed) (defBody s__law_mixed) (defScope s__law_mixed) .none kV14 dc14 pm14 an14 cd14 ct14), sl14⟩)
    (c14 : PySem.W.codeIn K cd14 "_law_mixed" = true)
    (k14 : PySem.W.keepIn K (.ref f14) = true)
    (a15 : PySem.W.nsIn K mainGlobals "_law_take" = some (some (.ref f15)))
    (l15 : K.lookup f15 = some ⟨oc15, od15, .func (PySem.W.fnOf "_law_take" "_law_take" (defArgs s__law_take) (defBody s__law_take) (defScope s__law_take) .none kV15 dc15 pm15 an15 cd15 ct15), sl15⟩)
    (c15 : PySem.W.codeIn K cd15 "_law_take" = true)
    (k15 : PySem.W.keepIn K (.ref f15) = true)
    (a16 : PySem.W.findIn K (.ref c_Web) "bond" = some (some (.ref f16)))
    (i16 : PySem.W.isFn K (.ref f16) = true)
    (l16 : K.lookup f16 = some ⟨oc16, od16, .func (PySem.W.fnOf "bond" "Web.bond" (defArgs s_Web_bond) (defBody s_Web_bond) (defScope s_Web_bond) .none kV16 dc16 pm16 an16 cd16 ct16), sl16⟩)
    (c16 : PySem.W.codeIn K cd16 "Web.bond" = true)
    (k16 : PySem.W.keepIn K (.ref f16) = true)
    (a17 : PySem.W.findIn K (.ref c_Web) "bonds" = some (some (.ref f17)))
    (i17 : PySem.W.isFn K (.ref f17) = true)
    (l17 : K.lookup f17 = some ⟨oc17, od17, .func (PySem.W.fnOf "bonds" "Web.bonds" (defArgs s_Web_bonds) (defBody s_Web_bonds) (defScope s_Web_bonds) .none kV17 dc17 pm17 an17 cd17 ct17), sl17⟩)
    (c17 : PySem.W.codeIn K cd17 "Web.bonds" = true)
    (k17 : PySem.W.keepIn K (.ref f17) = true)
    (a18 : PySem.W.findIn K (.ref c_Web) "__eq__" = some (some (.ref f18)))
    (i18 : PySem.W.isFn K (.ref f18) = true)
    (l18 : K.lookup f18 = some ⟨oc18, od18, .func (PySem.W.fnOf "__eq__" "Web.__eq__" (defArgs s_Web_eq) (defBody s_Web_eq) (defScope s_Web_eq) .none kV18 dc18 pm18 an18 cd18 ct18), sl18⟩)
    (c18 : PySem.W.codeIn K cd18 "Web.__eq__" = true)
    (k18 : PySem.W.keepIn K (.ref f18) = true)
    (a19 : PySem.W.nsIn K mainGlobals "inverse" = some (some (.ref f19)))
    (l19 : K.lookup f19 = some ⟨oc19, od19, .func (PySem.W.fnOf "inverse" "inverse" (defArgs s_inverse) (defBody s_inverse) (defScope s_inverse) .none kV19 dc19 pm19 an19 cd19 ct19), sl19⟩)
    (c19 : PySem.W.codeIn K cd19 "inverse" = true)
    (k19 : PySem.W.keepIn K (.ref f19) = true)
    (a20 : PySem.W.nsIn K mainGlobals "met" = some (some (.ref f20)))
    (l20 : K.lookup f20 = some ⟨oc20, od20, .func (PySem.W.fnOf "met" "met" (defArgs s_met) (defBody s_met) (defScope s_met) .none kV20 dc20 pm20 an20 cd20 ct20), sl20⟩)
    (c20 : PySem.W.codeIn K cd20 "met" = true)
    (k20 : PySem.W.keepIn K (.ref f20) = true)
    (a21 : PySem.W.nsIn K mainGlobals "need_points" = some (some (.ref f21)))
    (l21 : K.lookup f21 = some ⟨oc21, od21, .func (PySem.W.fnOf "need_points" "need_points" (defArgs s_need_points) (defBody s_need_points) (defScope s_need_points) .none kV21 dc21 pm21 an21 cd21 ct21), sl21⟩)
    (c21 : PySem.W.codeIn K cd21 "need_points" = true)
    (k21 : PySem.W.keepIn K (.ref f21) = true)
    (a22 : PySem.W.nsIn K mainGlobals "clash_of" = some (some (.ref f22)))
    (l22 : K.lookup f22 = some ⟨oc22, od22, .func (PySem.W.fnOf "clash_of" "clash_of" (defArgs s_clash_of) (defBody s_clash_of) (defScope s_clash_of) .none kV22 dc22 pm22 an22 cd22 ct22), sl22⟩)
    (c22 : PySem.W.codeIn K cd22 "clash_of" = true)
    (k22 : PySem.W.keepIn K (.ref f22) = true)
    (a23 : PySem.W.nsIn K mainGlobals "filled" = some (some (.ref f23)))
    (l23 : K.lookup f23 = some ⟨oc23, od23, .func (PySem.W.fnOf "filled" "filled" (defArgs s_filled) (defBody s_filled) (defScope s_filled) .none kV23 dc23 pm23 an23 cd23 ct23), sl23⟩)
    (c23 : PySem.W.codeIn K cd23 "filled" = true)
    (k23 : PySem.W.keepIn K (.ref f23) = true)
    (a24 : PySem.W.nsIn K mainGlobals "_law_fits" = some (some (.ref f24)))
    (l24 : K.lookup f24 = some ⟨oc24, od24, .func (PySem.W.fnOf "_law_fits" "_law_fits" (defArgs s__law_fits) (defBody s__law_fits) (defScope s__law_fits) .none kV24 dc24 pm24 an24 cd24 ct24), sl24⟩)
    (c24 : PySem.W.codeIn K cd24 "_law_fits" = true)
    (k24 : PySem.W.keepIn K (.ref f24) = true)
    (a25 : PySem.W.nsIn K mainGlobals "_law_all_cases" = some (some (.ref f25)))
    (l25 : K.lookup f25 = some ⟨oc25, od25, .func (PySem.W.fnOf "_law_all_cases" "_law_all_cases" (defArgs s__law_all_cases) (defBody s__law_all_cases) (defScope s__law_all_cases) .none kV25 dc25 pm25 an25 cd25 ct25), sl25⟩)
    (c25 : PySem.W.codeIn K cd25 "_law_all_cases" = true)
    (k25 : PySem.W.keepIn K (.ref f25) = true)
    (a26 : PySem.W.nsIn K mainGlobals "law" = some (some (.ref f26)))
    (l26 : K.lookup f26 = some ⟨oc26, od26, .func (PySem.W.fnOf "law" "law" (defArgs s_law) (defBody s_law) (defScope s_law) .none kV26 dc26 pm26 an26 cd26 ct26), sl26⟩)
    (c26 : PySem.W.codeIn K cd26 "law" = true)
    (k26 : PySem.W.keepIn K (.ref f26) = true)
    (a27 : PySem.W.findIn K (.ref c_BadTie) "__init__" = some (some (.ref f27)))
    (i27 : PySem.W.isFn K (.ref f27) = true)
    (l27 : K.lookup f27 = some ⟨oc27, od27, .func (PySem.W.fnOf "__init__" "BadTie.__init__" (defArgs s_BadTie_init) (defBody s_BadTie_init) (defScope s_BadTie_init) .none kV27 dc27 pm27 an27 cd27 ct27), sl27⟩)
    (c27 : PySem.W.codeIn K cd27 "BadTie.__init__" = true)
    (k27 : PySem.W.keepIn K (.ref f27) = true)
    (a28 : PySem.W.findIn K (.ref c_NoPoint) "__init__" = some (some (.ref f28)))
    (i28 : PySem.W.isFn K (.ref f28) = true)
    (l28 : K.lookup f28 = some ⟨oc28, od28, .func (PySem.W.fnOf "__init__" "NoPoint.__init__" (defArgs s_NoPoint_init) (defBody s_NoPoint_init) (defScope s_NoPoint_init) .none kV28 dc28 pm28 an28 cd28 ct28), sl28⟩)
    (c28 : PySem.W.codeIn K cd28 "NoPoint.__init__" = true)
    (k28 : PySem.W.keepIn K (.ref f28) = true)
    (z_isinstance : PySem.W.nsIn K mainGlobals "isinstance" = some none)
    (z_int : PySem.W.nsIn K mainGlobals "int" = some none)
    (z_bool : PySem.W.nsIn K mainGlobals "bool" = some none)
    (z_range : PySem.W.nsIn K mainGlobals "range" = some none)
    (z_enumerate : PySem.W.nsIn K mainGlobals "enumerate" = some none)
    (z_list : PySem.W.nsIn K mainGlobals "list" = some none)
    (z_len : PySem.W.nsIn K mainGlobals "len" = some none)
    (z_all : PySem.W.nsIn K mainGlobals "all" = some none)
    (z_sorted : PySem.W.nsIn K mainGlobals "sorted" = some none)
    (z_dict : PySem.W.nsIn K mainGlobals "dict" = some none)
    (z_max : PySem.W.nsIn K mainGlobals "max" = some none)
    (z_any : PySem.W.nsIn K mainGlobals "any" = some none)
    (aC_SameError : PySem.W.nsIn K mainGlobals "SameError" = some (some (.ref c_SameError)))
    (aC_BadTie : PySem.W.nsIn K mainGlobals "BadTie" = some (some (.ref c_BadTie)))
    (aC_NoPoint : PySem.W.nsIn K mainGlobals "NoPoint" = some (some (.ref c_NoPoint)))
    (aC_Web : PySem.W.nsIn K mainGlobals "Web" = some (some (.ref c_Web)))
    (xL_BadTie : K.lookup c_BadTie = some (excClassObj nm_BadTie q_BadTie c_BadTie nN_BadTie bs_BadTie [.ref c_SameError, .type "ValueError", .type "Exception", .type "BaseException", .type "object"] true sn_BadTie sb_BadTie ab_BadTie co_BadTie dd_BadTie m0_BadTie m1_BadTie m2_BadTie m3_BadTie m5_BadTie "ValueError.__new__"))
    (sa_BadTie : PySem.W.findIn K (.ref c_BadTie) "__setattr__" = some (some (.builtin "object.__setattr__")))
    (eC_BadTie : PySem.W.subIn K (.ref c_BadTie) (.type "BaseException") = some true)
    (tC_BadTie : PySem.W.typeIn K (.ref c_BadTie) = some (.type "type"))
    (kC_BadTie : PySem.W.keepIn K (.ref c_BadTie) = true)
    (no_BadTie : PySem.W.findIn K (.ref c_BadTie) "at" = some none)
    (tf_BadTie : PySem.W.typeIn K (.ref f27) = some (.type "function"))
    (pg_Web : PySem.W.plainGet K c_Web Str.empty = true)
    (hd_Web : PySem.W.hasDictIn K c_Web = true)
    (po_Web : PySem.W.plainOver K c_Web = true)
    (sa_Web : PySem.W.findIn K (.ref c_Web) "__setattr__" = some (some (.builtin "object.__setattr__")))
    (no_Web_points : PySem.W.findIn K (.ref c_Web) "points" = some none)
    (no_Web_knots : PySem.W.findIn K (.ref c_Web) "knots" = some none)
    (no_Web_grid : PySem.W.findIn K (.ref c_Web) "grid" = some none)
    (xL_NoPoint : K.lookup c_NoPoint = some (excClassObj nm_NoPoint q_NoPoint c_NoPoint nN_NoPoint bs_NoPoint [.ref c_SameError, .type "ValueError", .type "Exception", .type "BaseException", .type "object"] true sn_NoPoint sb_NoPoint ab_NoPoint co_NoPoint dd_NoPoint m0_NoPoint m1_NoPoint m2_NoPoint m3_NoPoint m5_NoPoint "ValueError.__new__"))
    (sa_NoPoint : PySem.W.findIn K (.ref c_NoPoint) "__setattr__" = some (some (.builtin "object.__setattr__")))
    (eC_NoPoint : PySem.W.subIn K (.ref c_NoPoint) (.type "BaseException") = some true)
    (tC_NoPoint : PySem.W.typeIn K (.ref c_NoPoint) = some (.type "type"))
    (kC_NoPoint : PySem.W.keepIn K (.ref c_NoPoint) = true)
    (no_NoPoint : PySem.W.findIn K (.ref c_NoPoint) "point" = some none)
    (tf_NoPoint : PySem.W.typeIn K (.ref f28) = some (.type "function"))
    (ca_Web : PySem.W.findIn K (.ref c_Web) "__class__" = some (some (.builtin "object.__class__")))
    (mo_Web : PySem.W.mroIn K c_Web (.type "object") = some true)
    (cg : PySem.W.specialIn K (.builtin "object.__class__") "__get__" = some (some (.builtin "getset_descriptor.__get__")))
    (ck : PySem.W.takesIn K (.builtin "object.__class__") = some true)
    (ic_Web : PySem.W.isClsIn K c_Web = true)
    (tC_Web : PySem.W.typeIn K (.ref c_Web) = some (.type "type"))
    (sub_Web_Web : PySem.W.subIn K (.ref c_Web) (.ref c_Web) = some true)
    (subb_list_Web : PySem.W.subIn K (.type "list") (.ref c_Web) = some false)
    (subb_NoneType_Web : PySem.W.subIn K (.type "NoneType") (.ref c_Web) = some false)
    (subb_int_Web : PySem.W.subIn K (.type "int") (.ref c_Web) = some false)
    (mk_Web : PySem.W.makesIn K c_Web = true)
    (kc_Web : PySem.W.keepIn K (.ref c_Web) = true) :
    ∃ fd : FuncData, (∀ (s : Shared) (v : Value), BindsTo s fd ⟨[v], []⟩ [("_law_script", v)]) ∧ ∀ base : Heap, K.In base → base.Ns mainGlobals mg → FnOk l.prog w K mg base (L2.CX l.prog w) 8 fa fd ["_law_script"] (lift K spLaw) := by
  have e := hfa.symm.trans (PySem.W.mg_of X G a26)
  cases e
  refine ⟨PySem.W.fnOf "law" "law" (defArgs s_law) (defBody s_law) (defScope s_law) .none kV26 dc26 pm26 an26 cd26 ct26, fun s v => .of_eq rfl, fun base _ _ => ?_⟩
  have F0 := fun_mk (st := s_is_whole) l0 c0 k0
  have F1 := fun_mk (st := s_divides) l1 c1 k1
  have F2 := fun_mk (st := s_agree) l2 c2 k2
  have F3 : FunD K "is_rest" "is_rest" (defArgs s_is_rest) (defBody s_is_rest) (defScope s_is_rest) [] [("most", V.int 1000000)] f3 _ := ⟨⟨_, _, _, _, _, _, _, _, _, _, rfl, l3, c3, .inl ⟨rfl, rfl⟩, .inr ⟨kD3, rfl, fun q hq => by
    simp only [List.mem_cons, List.not_mem_nil, or_false] at hq
    subst hq
    exact ⟨_, q3_0, ⟨_, rfl⟩⟩⟩⟩, k3⟩
  have F4 := fun_mk (st := s_common) l4 c4 k4
  have F5 := fun_mk (st := s_joined) l5 c5 k5
  have F6 := fun_mk (st := s_is_point) l6 c6 k6
  have F7 := fun_mk (st := s_closure) l7 c7 k7
  have F8 := fun_mk (st := s_Web_init) l8 c8 k8
  have F9 := fun_mk (st := s_Web_many) l9 c9 k9
  have F10 := fun_mk (st := s_Web_ties) l10 c10 k10
  have F11 := fun_mk (st := s_Web_len) l11 c11 k11
  have F12 := fun_mk (st := s_Web_fits) l12 c12 k12
  have F13 := fun_mk (st := s__law_box) l13 c13 k13
  have F14 := fun_mk (st := s__law_mixed) l14 c14 k14
  have F15 := fun_mk (st := s__law_take) l15 c15 k15
  have F16 := fun_mk (st := s_Web_bond) l16 c16 k16
  have F17 := fun_mk (st := s_Web_bonds) l17 c17 k17
  have F18 := fun_mk (st := s_Web_eq) l18 c18 k18
  have F19 := fun_mk (st := s_inverse) l19 c19 k19
  have F20 := fun_mk (st := s_met) l20 c20 k20
  have F21 := fun_mk (st := s_need_points) l21 c21 k21
  have F22 := fun_mk (st := s_clash_of) l22 c22 k22
  have F23 := fun_mk (st := s_filled) l23 c23 k23
  have F24 := fun_mk (st := s__law_fits) l24 c24 k24
  have F25 := fun_mk (st := s__law_all_cases) l25 c25 k25
  have F26 := fun_mk (st := s_law) l26 c26 k26
  have F27 := fun_mk (st := s_BadTie_init) l27 c27 k27
  have F28 := fun_mk (st := s_NoPoint_init) l28 c28 k28
  have M_isinstance : mg "isinstance" = none := PySem.W.mg_none_of X G z_isinstance
  have M_int : mg "int" = none := PySem.W.mg_none_of X G z_int
  have M_bool : mg "bool" = none := PySem.W.mg_none_of X G z_bool
  have O_is_whole : FnOk l.prog w K mg base (L2.CX l.prog w) 1 f0 _ ["thing"] (lift K spWhole) := ok_is_whole F0 M_isinstance M_int M_bool
  have O_divides : FnOk l.prog w K mg base (L2.CX l.prog w) 1 f1 _ ["rest", "number"] (lift K spDivides) := ok_divides F1
  have G_is_whole : GFn l.prog w K mg base "is_whole" 1 spWhole := ⟨f0, _, _, O_is_whole, PySem.W.mg_of X G a0, k0, F0.binds fun _ _ _ _ _ _ us hl => (match us, hl with | [_], _ => rfl), by first | exact pureS_mono | exact specS_mono⟩
  have G_divides : GFn l.prog w K mg base "divides" 1 spDivides := ⟨f1, _, _, O_divides, PySem.W.mg_of X G a1, k1, F1.binds fun _ _ _ _ _ _ us hl => (match us, hl with | [_, _], _ => rfl), by first | exact pureS_mono | exact specS_mono⟩
  have O_agree : FnOk l.prog w K mg base (L2.CX l.prog w) 2 f2 _ ["one", "two", "rest"] (lift K spAgree) := ok_agree F2 G_is_whole G_divides
  have O_is_rest : FnOk l.prog w K mg base (L2.CX l.prog w) 2 f3 _ ["thing", "most"] (lift K spIsRest) := ok_is_rest F3 G_is_whole
  have O_common : FnOk l.prog w K mg base (L2.CX l.prog w) 1 f4 _ ["one", "two"] (lift K spCommon) := ok_common F4
  have G_common : GFn l.prog w K mg base "common" 1 spCommon := ⟨f4, _, _, O_common, PySem.W.mg_of X G a4, k4, F4.binds fun _ _ _ _ _ _ us hl => (match us, hl with | [_, _], _ => rfl), by first | exact pureS_mono | exact specS_mono⟩
  have O_joined : FnOk l.prog w K mg base (L2.CX l.prog w) 2 f5 _ ["one", "two"] (lift K spJoined) := ok_joined F5 G_common
  have O_is_point : FnOk l.prog w K mg base (L2.CX l.prog w) 2 f6 _ ["thing", "many"] (lift K spIsPoint) := ok_is_point F6 G_is_whole
  have G_joined : GFn l.prog w K mg base "joined" 2 spJoined := ⟨f5, _, _, O_joined, PySem.W.mg_of X G a5, k5, F5.binds fun _ _ _ _ _ _ us hl => (match us, hl with | [_, _], _ => rfl), by first | exact pureS_mono | exact specS_mono⟩
  have M_range : mg "range" = none := PySem.W.mg_none_of X G z_range
  have M_enumerate : mg "enumerate" = none := PySem.W.mg_none_of X G z_enumerate
  have O_closure : FnOk l.prog w K mg base (L2.CX l.prog w) 3 f7 _ ["many", "ties"] (lift K spClosure) := ok_closure F7 G_joined G_common M_range M_int M_enumerate
  have G_closure : GFn l.prog w K mg base "closure" 3 spClosure := ⟨f7, _, _, O_closure, PySem.W.mg_of X G a7, k7, F7.binds fun _ _ _ _ _ _ us hl => (match us, hl with | [_, _], _ => rfl), by first | exact pureS_mono | exact specS_mono⟩
  have O_BadTie : OexC K c_BadTie := ⟨⟨_, _, _, _, _, _, _, _, _, _, _, _, _, _, _, xL_BadTie, rfl⟩, sa_BadTie, eC_BadTie, tC_BadTie, kC_BadTie⟩
  have G_BadTie : GXk l.prog w K mg base "BadTie" c_BadTie "at" 1 := ⟨O_BadTie, PySem.W.mg_of X G aC_BadTie, f27, _, _, a27, tf_BadTie, ok_BadTie_init F27 O_BadTie no_BadTie, F27.binds fun _ _ _ _ _ _ us hl => (match us, hl with | [_, _], _ => rfl)⟩
  have G_is_point : GFn l.prog w K mg base "is_point" 2 spIsPoint := ⟨f6, _, _, O_is_point, PySem.W.mg_of X G a6, k6, F6.binds fun _ _ _ _ _ _ us hl => (match us, hl with | [_, _], _ => rfl), by first | exact pureS_mono | exact specS_mono⟩
  obtain ⟨ds_is_rest, dv_is_rest, db_is_rest⟩ := F3.binds0 (ps := ["thing", "most"]) 1 (by simp) rfl fun D doc pm an cdv ct us ks h1 h2 => (match us, ks, h1, h2 with | [_], [_], _, _ => ⟨_, _, _, _, _, _, rfl, rfl, rfl⟩)
  have D_is_rest : GFd l.prog w K mg base "is_rest" 2 [.int 1000000] spIsRest := ⟨f3, _, _, ds_is_rest, _, O_is_rest, PySem.W.mg_of X G a3, k3, db_is_rest, dv_is_rest, fun A H => .cons (.int _) .nil, by first | exact pureS_mono | exact specS_mono⟩
  have T_Web : Kls K c_Web ["points", "knots", "grid"] := ⟨⟨pg_Web, hd_Web, po_Web, sa_Web⟩, fun f hf => by
    simp only [List.mem_cons, List.not_mem_nil, or_false] at hf
    rcases hf with rfl | rfl | rfl <;> assumption⟩
  have M_list : mg "list" = none := PySem.W.mg_none_of X G z_list
  have O_Web_init : FnOk l.prog w K mg base (L2.CX l.prog w) 4 f8 _ ["self", "many", "ties"] (lift K (spWebInit c_BadTie c_Web)) := ok_Web_init F8 G_closure G_BadTie G_is_point D_is_rest T_Web M_enumerate M_list
  have O_Web_many : FnOk l.prog w K mg base (L2.CX l.prog w) 1 f9 _ ["self"] (lift K (spWebMany c_Web)) := ok_Web_many F9 T_Web
  have O_Web_ties : FnOk l.prog w K mg base (L2.CX l.prog w) 1 f10 _ ["self"] (lift K (spWebTies c_Web)) := ok_Web_ties F10 T_Web M_list
  have M_len : mg "len" = none := PySem.W.mg_none_of X G z_len
  have O_Web_len : FnOk l.prog w K mg base (L2.CX l.prog w) 1 f11 _ ["self"] (lift K (spWebLen c_Web)) := ok_Web_len F11 T_Web M_len
  have G_agree_k2_rest : GFk l.prog w K mg base "agree" 2 2 ["rest"] gApp spAgree := ⟨f2, _, _, O_agree, PySem.W.mg_of X G a2, k2, fun_kbn F2 (fun _ _ _ _ _ _ us ws h1 h2 => (match us, ws, h1, h2 with | [_, _], [_], _, _ => rfl)) (fun a b => gApp_rel a b), by first | exact pureS_mono | exact specS_mono⟩
  have M_all : mg "all" = none := PySem.W.mg_none_of X G z_all
  have O_Web_fits : FnOk l.prog w K mg base (L2.CX l.prog w) 3 f12 _ ["self", "case"] (lift K (spWebFits c_Web)) := ok_Web_fits F12 G_agree_k2_rest T_Web M_len M_all
  have O__law_box : FnOk l.prog w K mg base (L2.CX l.prog w) 1 f13 _ ["_law_script"] (lift K spBox) := ok__law_box F13
  have O__law_mixed : FnOk l.prog w K mg base (L2.CX l.prog w) 1 f14 _ ["_law_cell", "_law_k"] (lift K spMixed) := ok__law_mixed F14
  have G__law_mixed : GFn l.prog w K mg base "_law_mixed" 1 spMixed := ⟨f14, _, _, O__law_mixed, PySem.W.mg_of X G a14, k14, F14.binds fun _ _ _ _ _ _ us hl => (match us, hl with | [_, _], _ => rfl), by first | exact pureS_mono | exact specS_mono⟩
  have O__law_take : FnOk l.prog w K mg base (L2.CX l.prog w) 2 f15 _ ["_law_box_here", "_law_size"] (lift K spTake) := ok__law_take F15 G__law_mixed M_len
  have O_NoPoint : OexC K c_NoPoint := ⟨⟨_, _, _, _, _, _, _, _, _, _, _, _, _, _, _, xL_NoPoint, rfl⟩, sa_NoPoint, eC_NoPoint, tC_NoPoint, kC_NoPoint⟩
  have G_NoPoint : GXk l.prog w K mg base "NoPoint" c_NoPoint "point" 1 := ⟨O_NoPoint, PySem.W.mg_of X G aC_NoPoint, f28, _, _, a28, tf_NoPoint, ok_NoPoint_init F28 O_NoPoint no_NoPoint, F28.binds fun _ _ _ _ _ _ us hl => (match us, hl with | [_, _], _ => rfl)⟩
  have O_Web_bond : FnOk l.prog w K mg base (L2.CX l.prog w) 3 f16 _ ["self", "u", "v"] (lift K (spBond c_NoPoint c_Web)) := ok_Web_bond F16 G_is_point G_NoPoint T_Web
  have O_Web_bonds : FnOk l.prog w K mg base (L2.CX l.prog w) 2 f17 _ ["self"] (lift K (spBonds c_Web)) := ok_Web_bonds F17 T_Web M_range
  have G_Web_bonds : GCm l.prog w K mg base c_Web "bonds" 2 (spBonds c_Web) := ⟨f17, _, _, ⟨pg_Web, hd_Web, po_Web, sa_Web⟩, ⟨a17, i17, k17⟩, O_Web_bonds, F17.binds fun _ _ _ _ _ _ us hl => (match us, hl with | [_], _ => rfl), by first | exact pureS_mono | exact specS_mono⟩
  have N_Web : mg "Web" = some (.ref c_Web) := PySem.W.mg_of X G aC_Web
  have J_Web : XinC K c_Web := ⟨⟨pg_Web, hd_Web, po_Web, sa_Web⟩, ca_Web, cg, ck, mo_Web⟩
  have Y_kit_Web_Web : PySem.W.kitOne K (.ref c_Web) (.ref c_Web) = some true := kit_r sub_Web_Web sub_Web_Web ic_Web tC_Web
  have Y_kitb_list_Web : PySem.W.kitOne K (.type "list") (.ref c_Web) = some false := kit_r subb_list_Web sub_Web_Web ic_Web tC_Web
  have Y_kitb_NoneType_Web : PySem.W.kitOne K (.type "NoneType") (.ref c_Web) = some false := kit_r subb_NoneType_Web sub_Web_Web ic_Web tC_Web
  have Y_kitb_int_Web : PySem.W.kitOne K (.type "int") (.ref c_Web) = some false := kit_r subb_int_Web sub_Web_Web ic_Web tC_Web
  have O_Web_eq : FnOk l.prog w K mg base (L2.CX l.prog w) 3 f18 _ ["self", "other"] (lift K (spWEq c_Web)) := ok_Web_eq F18 G_Web_bonds N_Web T_Web J_Web Y_kit_Web_Web Y_kitb_list_Web Y_kitb_NoneType_Web Y_kitb_int_Web M_isinstance
  have O_inverse : FnOk l.prog w K mg base (L2.CX l.prog w) 1 f19 _ ["number", "rest"] (lift K spInv) := ok_inverse F19
  have G_inverse : GFn l.prog w K mg base "inverse" 1 spInv := ⟨f19, _, _, O_inverse, PySem.W.mg_of X G a19, k19, F19.binds fun _ _ _ _ _ _ us hl => (match us, hl with | [_, _], _ => rfl), by first | exact pureS_mono | exact specS_mono⟩
  have O_met : FnOk l.prog w K mg base (L2.CX l.prog w) 2 f20 _ ["one", "two"] (lift K spMet) := ok_met F20 G_common G_inverse
  have G_Web_many : GCm l.prog w K mg base c_Web "many" 1 (spWebMany c_Web) := ⟨f9, _, _, ⟨pg_Web, hd_Web, po_Web, sa_Web⟩, ⟨a9, i9, k9⟩, O_Web_many, F9.binds fun _ _ _ _ _ _ us hl => (match us, hl with | [_], _ => rfl), by first | exact pureS_mono | exact specS_mono⟩
  have M_sorted : mg "sorted" = none := PySem.W.mg_none_of X G z_sorted
  have O_need_points : FnOk l.prog w K mg base (L2.CX l.prog w) 4 f21 _ ["web", "some"] (lift K (spNeed c_Web)) := ok_need_points F21 G_is_point G_NoPoint G_Web_many M_sorted
  have G_need_points : GFn l.prog w K mg base "need_points" 4 (spNeed c_Web) := ⟨f21, _, _, O_need_points, PySem.W.mg_of X G a21, k21, F21.binds fun _ _ _ _ _ _ us hl => (match us, hl with | [_, _], _ => rfl), by first | exact pureS_mono | exact specS_mono⟩
  have G_Web_bond : GCm l.prog w K mg base c_Web "bond" 3 (spBond c_NoPoint c_Web) := ⟨f16, _, _, ⟨pg_Web, hd_Web, po_Web, sa_Web⟩, ⟨a16, i16, k16⟩, O_Web_bond, F16.binds fun _ _ _ _ _ _ us hl => (match us, hl with | [_, _, _], _ => rfl), by first | exact pureS_mono | exact specS_mono⟩
  have O_clash_of : FnOk l.prog w K mg base (L2.CX l.prog w) 5 f22 _ ["web", "some"] (lift K (spClash c_Web)) := ok_clash_of F22 G_need_points G_agree_k2_rest G_Web_bond M_sorted
  have G_clash_of : GFn l.prog w K mg base "clash_of" 5 (spClash c_Web) := ⟨f22, _, _, O_clash_of, PySem.W.mg_of X G a22, k22, F22.binds fun _ _ _ _ _ _ us hl => (match us, hl with | [_, _], _ => rfl), by first | exact pureS_mono | exact specS_mono⟩
  have G_met : GFn l.prog w K mg base "met" 2 spMet := ⟨f20, _, _, O_met, PySem.W.mg_of X G a20, k20, F20.binds fun _ _ _ _ _ _ us hl => (match us, hl with | [_, _], _ => rfl), by first | exact pureS_mono | exact specS_mono⟩
  have M_dict : mg "dict" = none := PySem.W.mg_none_of X G z_dict
  have O_filled : FnOk l.prog w K mg base (L2.CX l.prog w) 6 f23 _ ["web", "some"] (lift K (spFill c_Web)) := ok_filled F23 G_clash_of G_Web_many G_met G_Web_bond M_dict M_range
  have O__law_fits : FnOk l.prog w K mg base (L2.CX l.prog w) 1 f24 _ ["_law_many", "_law_ties", "_law_case"] (lift K spFt) := ok__law_fits F24 M_len M_all M_isinstance M_int M_bool
  have G__law_fits : GFn l.prog w K mg base "_law_fits" 1 spFt := ⟨f24, _, _, O__law_fits, PySem.W.mg_of X G a24, k24, F24.binds fun _ _ _ _ _ _ us hl => (match us, hl with | [_, _, _], _ => rfl), by first | exact pureS_mono | exact specS_mono⟩
  have M_max : mg "max" = none := PySem.W.mg_none_of X G z_max
  have O__law_all_cases : FnOk l.prog w K mg base (L2.CX l.prog w) 2 f25 _ ["_law_many", "_law_ties", "_law_some"] (lift K spAc) := ok__law_all_cases F25 G__law_fits M_range M_max
  have G__law_box : GFn l.prog w K mg base "_law_box" 1 spBox := ⟨f13, _, _, O__law_box, PySem.W.mg_of X G a13, k13, F13.binds fun _ _ _ _ _ _ us hl => (match us, hl with | [_], _ => rfl), by first | exact pureS_mono | exact specS_mono⟩
  have G_Web : GMk l.prog w K mg base "Web" c_Web 4 (spWebInit c_BadTie c_Web) := ⟨f8, _, _, ⟨mk_Web, a8, i8, kc_Web⟩, O_Web_init, PySem.W.mg_of X G aC_Web, F8.binds fun _ _ _ _ _ _ us hl => (match us, hl with | [_, _, _], _ => rfl), by first | exact pureS_mono | exact specS_mono⟩
  have G__law_take : GFn l.prog w K mg base "_law_take" 2 spTake := ⟨f15, _, _, O__law_take, PySem.W.mg_of X G a15, k15, F15.binds fun _ _ _ _ _ _ us hl => (match us, hl with | [_, _], _ => rfl), by first | exact pureS_mono | exact specS_mono⟩
  have G__law_all_cases : GFn l.prog w K mg base "_law_all_cases" 2 spAc := ⟨f25, _, _, O__law_all_cases, PySem.W.mg_of X G a25, k25, F25.binds fun _ _ _ _ _ _ us hl => (match us, hl with | [_, _, _], _ => rfl), by first | exact pureS_mono | exact specS_mono⟩
  have G_filled : GFn l.prog w K mg base "filled" 6 (spFill c_Web) := ⟨f23, _, _, O_filled, PySem.W.mg_of X G a23, k23, F23.binds fun _ _ _ _ _ _ us hl => (match us, hl with | [_, _], _ => rfl), by first | exact pureS_mono | exact specS_mono⟩
  have M_any : mg "any" = none := PySem.W.mg_none_of X G z_any
  exact ok_law F26 G__law_box G_Web G__law_take G__law_all_cases G_filled G_clash_of G__law_fits M_range M_any
end KK
open PySem PySem.W PyProof.Rows
set_option maxHeartbeats 0 in
theorem PySem.Challenge.cw_samewell_k11_filled_or_none_of_all_holds : PySem.Challenge.rw_samewell_k11_filled_or_none_of_all.Holds := by
  w_on; o_law; k_head; (case hw => w_witness2)
  k_fill
  refine L2.walk_ofB (l := PySem.Challenge.rw_samewell_k11_filled_or_none_of_all) (n := 63) (k := 8) (x := "_law_script") (CX := fun w => L2.CX PySem.Challenge.rw_samewell_k11_filled_or_none_of_all.prog w) (sp := fun w => DL.lift _ DL.spLaw) rfl (by decide) rfl ⟨rfl, by decide, by decide⟩ (fun w h Y => PySem.W.kIn_of Y) ?F (fun _ _ a ns hl hb _ hS => DL.spLaw_start hl hb hS) (fun _ _ _ _ _ h => by obtain ⟨_, _, _, _, _, _, _, _, _, _, _, _, z⟩ := h; exact z)
  case F =>
    intro w mg fa h KX G hmg
    refine' KK.all_mk KX G hmg ?a0 ?l0 ?c0 ?k0 ?a1 ?l1 ?c1 ?k1 ?a2 ?l2 ?c2 ?k2 ?a3 ?q3_0 ?l3 ?c3 ?k3 ?a4 ?l4 ?c4 ?k4 ?a5 ?l5 ?c5 ?k5 ?a6 ?l6 ?c6 ?k6 ?a7 ?l7 ?c7 ?k7 ?a8 ?i8 ?l8 ?c8 ?k8 ?a9 ?i9 ?l9 ?c9 ?k9 ?a10 ?i10 ?l10 ?c10 ?k10 ?a11 ?i11 ?l11 ?c11 ?k11 ?a12 ?i12 ?l12 ?c12 ?k12 ?a13 ?l13 ?c13 ?k13 ?a14 ?l14 ?c14 ?k14 ?a15 ?l15 ?c15 ?k15 ?a16 ?i16 ?l16 ?c16 ?k16 ?a17 ?i17 ?l17 ?c17 ?k17 ?a18 ?i18 ?l18 ?c18 ?k18 ?a19 ?l19 ?c19 ?k19 ?a20 ?l20 ?c20 ?k20 ?a21 ?l21 ?c21 ?k21 ?a22 ?l22 ?c22 ?k22 ?a23 ?l23 ?c23 ?k23 ?a24 ?l24 ?c24 ?k24 ?a25 ?l25 ?c25 ?k25 ?a26 ?l26 ?c26 ?k26 ?a27 ?i27 ?l27 ?c27 ?k27 ?a28 ?i28 ?l28 ?c28 ?k28 ?z_isinstance ?z_int ?z_bool ?z_range ?z_enumerate ?z_list ?z_len ?z_all ?z_sorted ?z_dict ?z_max ?z_any ?aC_SameError ?aC_BadTie ?aC_NoPoint ?aC_Web ?xL_BadTie ?sa_BadTie ?eC_BadTie ?tC_BadTie ?kC_BadTie ?no_BadTie ?tf_BadTie ?pg_Web ?hd_Web ?po_Web ?sa_Web ?no_Web_points ?no_Web_knots ?no_Web_grid ?xL_NoPoint ?sa_NoPoint ?eC_NoPoint ?tC_NoPoint ?kC_NoPoint ?no_NoPoint ?tf_NoPoint ?ca_Web ?mo_Web ?cg ?ck ?ic_Web ?tC_Web ?sub_Web_Web ?subb_list_Web ?subb_NoneType_Web ?subb_int_Web ?mk_Web ?kc_Web
    (case aC_SameError => k_is)
    (case aC_BadTie => k_is)
    (case aC_NoPoint => k_is)
    (case aC_Web => k_is)
    (case a0 => k_is)
    (case a1 => k_is)
    (case a2 => k_is)
    (case a3 => k_is)
    (case a4 => k_is)
    (case a5 => k_is)
    (case a6 => k_is)
    (case a7 => k_is)
    (case a8 => k_is)
    (case a9 => k_is)
    (case a10 => k_is)
    (case a11 => k_is)
    (case a12 => k_is)
    (case a13 => k_is)
    (case a14 => k_is)
    (case a15 => k_is)
    (case a16 => k_is)
    (case a17 => k_is)
    (case a18 => k_is)
    (case a19 => k_is)
    (case a20 => k_is)
    (case a21 => k_is)
    (case a22 => k_is)
    (case a23 => k_is)
    (case a24 => k_is)
    (case a25 => k_is)
    (case a26 => k_is)
    (case a27 => k_is)
    (case a28 => k_is)
    (case l0 => k_is)
    (case l1 => k_is)
    (case l2 => k_is)
    (case l3 => k_is)
    (case l4 => k_is)
    (case l5 => k_is)
    (case l6 => k_is)
    (case l7 => k_is)
    (case l8 => k_is)
    (case l9 => k_is)
    (case l10 => k_is)
    (case l11 => k_is)
    (case l12 => k_is)
    (case l13 => k_is)
    (case l14 => k_is)
    (case l15 => k_is)
    (case l16 => k_is)
    (case l17 => k_is)
    (case l18 => k_is)
    (case l19 => k_is)
    (case l20 => k_is)
    (case l21 => k_is)
    (case l22 => k_is)
    (case l23 => k_is)
    (case l24 => k_is)
    (case l25 => k_is)
    (case l26 => k_is)
    (case l27 => k_is)
    (case l28 => k_is)
    (case xL_BadTie => k_is)
    (case xL_NoPoint => k_is)
    (case c0 => k_is)
    (case k0 => k_is)
    (case c1 => k_is)
    (case k1 => k_is)
    (case c2 => k_is)
    (case k2 => k_is)
    (case q3_0 => k_is)
    (case c3 => k_is)
    (case k3 => k_is)
    (case c4 => k_is)
    (case k4 => k_is)
    (case c5 => k_is)
    (case k5 => k_is)
    (case c6 => k_is)
    (case k6 => k_is)
    (case c7 => k_is)
    (case k7 => k_is)
    (case i8 => k_is)
    (case c8 => k_is)
    (case k8 => k_is)
    (case i9 => k_is)
    (case c9 => k_is)
    (case k9 => k_is)
    (case i10 => k_is)
    (case c10 => k_is)
    (case k10 => k_is)
    (case i11 => k_is)
    (case c11 => k_is)
    (case k11 => k_is)
    (case i12 => k_is)
    (case c12 => k_is)
    (case k12 => k_is)
    (case c13 => k_is)
    (case k13 => k_is)
    (case c14 => k_is)
    (case k14 => k_is)
    (case c15 => k_is)
    (case k15 => k_is)
    (case i16 => k_is)
    (case c16 => k_is)
    (case k16 => k_is)
    (case i17 => k_is)
    (case c17 => k_is)
    (case k17 => k_is)
    (case i18 => k_is)
    (case c18 => k_is)
    (case k18 => k_is)
    (case c19 => k_is)
    (case k19 => k_is)
    (case c20 => k_is)
    (case k20 => k_is)
    (case c21 => k_is)
    (case k21 => k_is)
    (case c22 => k_is)
    (case k22 => k_is)
    (case c23 => k_is)
    (case k23 => k_is)
    (case c24 => k_is)
    (case k24 => k_is)
    (case c25 => k_is)
    (case k25 => k_is)
    (case c26 => k_is)
    (case k26 => k_is)
    (case i27 => k_is)
    (case c27 => k_is)
    (case k27 => k_is)
    (case i28 => k_is)
    (case c28 => k_is)
    (case k28 => k_is)
    (case z_isinstance => k_is)
    (case z_int => k_is)
    (case z_bool => k_is)
    (case z_range => k_is)
    (case z_enumerate => k_is)
    (case z_list => k_is)
    (case z_len => k_is)
    (case z_all => k_is)
    (case z_sorted => k_is)
    (case z_dict => k_is)
    (case z_max => k_is)
    (case z_any => k_is)
    (case sa_BadTie => k_is)
    (case eC_BadTie => k_is)
    (case tC_BadTie => k_is)
    (case kC_BadTie => k_is)
    (case no_BadTie => k_is)
    (case tf_BadTie => k_is)
    (case pg_Web => k_is)
    (case hd_Web => k_is)
    (case po_Web => k_is)
    (case sa_Web => k_is)
    (case no_Web_points => k_is)
    (case no_Web_knots => k_is)
    (case no_Web_grid => k_is)
    (case sa_NoPoint => k_is)
    (case eC_NoPoint => k_is)
    (case tC_NoPoint => k_is)
    (case kC_NoPoint => k_is)
    (case no_NoPoint => k_is)
    (case tf_NoPoint => k_is)
    (case ca_Web => k_is)
    (case mo_Web => k_is)
    (case cg => k_is)
    (case ck => k_is)
    (case ic_Web => k_is)
    (case tC_Web => k_is)
    (case sub_Web_Web => k_is)
    (case subb_list_Web => k_is)
    (case subb_NoneType_Web => k_is)
    (case subb_int_Web => k_is)
    (case mk_Web => k_is)
    (case kc_Web => k_is)
