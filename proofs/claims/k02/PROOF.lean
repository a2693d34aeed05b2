import PyProof.Rows.All
import Wide.All
import OpenK.AllK
import Wide.FinOn
import HandS.ForMost
import HandS.Zip
import HandS.SortInts
import HandS.Wide
import HandS.OwnEq
import HandS.Property
import HandS.TupAny
import HandS.Deep
import HandS.Conv
import HandS.Codes
import HandS.Style
import HandS.IsInst
import HandS.Small
import HandS.TupLen
import HandS.DictComp
import HandS.ForDict
import PyProof.ReprLen
import KE.KStateDown
import HandS.Head0
import HandS.Head1
import HandS.Head2
import HandS.HeadHook1
import PySem.Challenge.RW_cellwebs_k02_webs_made
set_option Elab.async false
set_option linter.all false
set_option maxRecDepth 100000
set_option maxHeartbeats 8000000
/-! Cw: data without the heap, and how the heap bears it. -/
namespace Cw
open PySem PySem.Spec PyProof.Rows L2

/-- a value told without the heap -/
inductive D where
  | non | bl (b : Bool) | int (i : Int) | str (s : Str)
  | tup (ds : List D) | lst (ds : List D)
  | dk (ks : List Key) (ds : List D) | dt (ks : List (List Key)) (ds : List D)
  | ins (c : Nat) (fs : List D) | scr (ns : List Int)
  deriving Inhabited

/-- the classes: where they stand, their attributes in the order of the stores -/
structure Tbl where
  K : PySem.W.Frag
  cls : Nat → Addr
  fld : Nat → List Str

def Ex (G H : Hp) : Prop := ∀ a o, G a = some o → H a = some o
theorem Ex.refl (H : Hp) : Ex H H := fun _ _ h => h
theorem Ex.trans {H H1 H2 : Hp} (a : Ex H H1) (b : Ex H1 H2) : Ex H H2 := fun x o h => b x o (a x o h)
theorem Ex.new {H : Hp} {p : Addr} {o : HO} (h : H p = none) : Ex H (upd H p o) := fun a u e => by
  rw [upd_ne (ne_of_none e h)]; exact e
theorem Ex.none {G H : Hp} (e : Ex G H) {p : Addr} (h : H p = Option.none) : G p = Option.none := by
  cases q : G p with
  | none => rfl
  | some o => rw [e p o q] at h; cases h
theorem ex_rd {H H' : Hp} {a : Addr} {u : HO} (e : Ex H H') (h : Rd H a u) : Rd H' a u := by
  rcases h with h | ⟨o, h⟩
  · exact .inl (e a _ h)
  · exact .inr ⟨o, e a _ h⟩
theorem ex_l {K : PySem.W.Frag} {H H' : Hp} {a : Addr} {xs : List V} (e : Ex H H') (h : SqL K H a xs) : SqL K H' a xs := by
  rcases h with h | h
  · exact .inl (ex_rd e h)
  · exact .inr h
theorem ex_t {K : PySem.W.Frag} {H H' : Hp} {a : Addr} {xs : List V} (e : Ex H H') (h : SqT K H a xs) : SqT K H' a xs := by
  rcases h with h | h
  · exact .inl (ex_rd e h)
  · exact .inr h

mutual
def Rep (T : Tbl) (G : Hp) : D → V → Prop
  | .non, v => v = .non
  | .bl b, v => v = .bl b
  | .int i, v => v = .int i
  | .str s, v => v = .str s
  | .tup ds, v => ∃ p us, v = .ref p ∧ G p = some (.tup us) ∧ RepL T G ds us
  | .lst ds, v => ∃ p us, v = .ref p ∧ G p = some (.lst us) ∧ RepL T G ds us
  | .dk ks ds, v => ∃ p us, v = .ref p ∧ G p = some (.dK (ks.zip us)) ∧ ks.length = us.length ∧ RepL T G ds us
  | .dt ks ds, v => ∃ p us, v = .ref p ∧ G p = some (.dT (ks.zip us)) ∧ ks.length = us.length ∧ RepL T G ds us
  | .ins c fs, v => ∃ p dx us, v = .ref p ∧ G p = some (.ins (T.cls c) dx ((T.fld c).zip us)) ∧ (T.fld c).length = us.length ∧ RepL T G fs us
  | .scr ns, v => ∃ p, v = .ref p ∧ SqL T.K G p (ns.map V.int)
def RepL (T : Tbl) (G : Hp) : List D → List V → Prop
  | [], us => us = []
  | d :: ds, us => ∃ v r, us = v :: r ∧ Rep T G d v ∧ RepL T G ds r
end

section
variable {T : Tbl} {G H : Hp}
mutual
theorem Rep.mono (e : Ex G H) : ∀ (d : D) (v : V), Rep T G d v → Rep T H d v
  | .non, v, h => by unfold Rep at h ⊢; exact h
  | .bl b, v, h => by unfold Rep at h ⊢; exact h
  | .int i, v, h => by unfold Rep at h ⊢; exact h
  | .str s, v, h => by unfold Rep at h ⊢; exact h
  | .tup ds, v, h => by
    unfold Rep at h ⊢
    obtain ⟨p, us, h1, h2, h3⟩ := h
    exact ⟨p, us, h1, e _ _ h2, RepL.mono e ds us h3⟩
  | .lst ds, v, h => by
    unfold Rep at h ⊢
    obtain ⟨p, us, h1, h2, h3⟩ := h
    exact ⟨p, us, h1, e _ _ h2, RepL.mono e ds us h3⟩
  | .dk ks ds, v, h => by
    unfold Rep at h ⊢
    obtain ⟨p, us, h1, h2, h4, h3⟩ := h
    exact ⟨p, us, h1, e _ _ h2, h4, RepL.mono e ds us h3⟩
  | .dt ks ds, v, h => by
    unfold Rep at h ⊢
    obtain ⟨p, us, h1, h2, h4, h3⟩ := h
    exact ⟨p, us, h1, e _ _ h2, h4, RepL.mono e ds us h3⟩
  | .ins c fs, v, h => by
    unfold Rep at h ⊢
    obtain ⟨p, dx, us, h1, h2, h4, h3⟩ := h
    exact ⟨p, dx, us, h1, e _ _ h2, h4, RepL.mono e fs us h3⟩
  | .scr ns, v, h => by
    unfold Rep at h ⊢
    obtain ⟨p, h1, h2⟩ := h
    exact ⟨p, h1, ex_l e h2⟩
theorem RepL.mono (e : Ex G H) : ∀ (ds : List D) (us : List V), RepL T G ds us → RepL T H ds us
  | [], us, h => by unfold RepL at h ⊢; exact h
  | d :: ds, us, h => by
    unfold RepL at h ⊢
    obtain ⟨v, r, h1, h2, h3⟩ := h
    exact ⟨v, r, h1, Rep.mono e d v h2, RepL.mono e ds r h3⟩
end
theorem RepL.nil : RepL T G [] [] := by unfold RepL; rfl
theorem RepL.cons {d : D} {v : V} {ds : List D} {us : List V} (h : Rep T G d v) (t : RepL T G ds us) : RepL T G (d :: ds) (v :: us) := by
  unfold RepL; exact ⟨v, us, rfl, h, t⟩
theorem RepL.nil_inv {us : List V} (h : RepL T G [] us) : us = [] := by unfold RepL at h; exact h
theorem RepL.cons_inv {d : D} {ds : List D} {us : List V} (h : RepL T G (d :: ds) us) : ∃ v r, us = v :: r ∧ Rep T G d v ∧ RepL T G ds r := by unfold RepL at h; exact h
theorem RepL.len : ∀ {ds : List D} {us : List V}, RepL T G ds us → ds.length = us.length
  | [], us, h => by rw [h.nil_inv]; rfl
  | d :: ds, us, h => by
    obtain ⟨v, r, rfl, _, h3⟩ := h.cons_inv
    simp [h3.len]
theorem RepL.get : ∀ {ds : List D} {us : List V} {i : Nat} {d : D}, RepL T G ds us → ds[i]? = some d → ∃ v, us[i]? = some v ∧ Rep T G d v
  | [], _, _, _, _, e => by simp at e
  | d :: ds, us, 0, _, h, e => by
    obtain ⟨v, r, rfl, h2, h3⟩ := h.cons_inv
    simp at e; subst e
    exact ⟨v, rfl, h2⟩
  | d :: ds, us, i + 1, _, h, e => by
    obtain ⟨v, r, rfl, h2, h3⟩ := h.cons_inv
    obtain ⟨w, e1, e2⟩ := h3.get (by simpa using e)
    exact ⟨w, by simpa using e1, e2⟩
theorem RepL.get' : ∀ {ds : List D} {us : List V} {i : Nat} {v : V}, RepL T G ds us → us[i]? = some v → ∃ d, ds[i]? = some d ∧ Rep T G d v := fun {ds us i v} h e => by
  have hl := h.len
  have hi : i < us.length := (List.getElem?_eq_some_iff.mp e).1
  have hd : ds[i]? = some (ds[i]'(by omega)) := by simp
  obtain ⟨w, e1, e2⟩ := h.get hd
  rw [e] at e1; cases e1
  exact ⟨_, hd, e2⟩
theorem RepL.app : ∀ {ds es : List D} {us ws : List V}, RepL T G ds us → RepL T G es ws → RepL T G (ds ++ es) (us ++ ws)
  | [], _, us, _, h, h' => by rw [h.nil_inv]; exact h'
  | d :: ds, es, us, ws, h, h' => by
    obtain ⟨v, r, rfl, h2, h3⟩ := h.cons_inv
    exact RepL.cons h2 (h3.app h')
theorem RepL.take : ∀ {ds : List D} {us : List V} (n : Nat), RepL T G ds us → RepL T G (ds.take n) (us.take n)
  | _, _, 0, _ => by simpa using RepL.nil
  | [], us, n + 1, h => by rw [h.nil_inv]; simpa using RepL.nil
  | d :: ds, us, n + 1, h => by
    obtain ⟨v, r, rfl, h2, h3⟩ := h.cons_inv
    simpa using RepL.cons h2 (h3.take n)
theorem RepL.drop : ∀ {ds : List D} {us : List V} (n : Nat), RepL T G ds us → RepL T G (ds.drop n) (us.drop n)
  | _, _, 0, h => by simpa using h
  | [], us, n + 1, h => by rw [h.nil_inv]; simpa using RepL.nil
  | d :: ds, us, n + 1, h => by
    obtain ⟨v, r, rfl, h2, h3⟩ := h.cons_inv
    simpa using h3.drop n
theorem RepL.set {d : D} {v : V} (hd : Rep T G d v) : ∀ {ds : List D} {us : List V} (n : Nat), RepL T G ds us → RepL T G (ds.set n d) (us.set n v)
  | [], us, n, h => by rw [h.nil_inv]; simpa using RepL.nil
  | e :: ds, us, 0, h => by
    obtain ⟨w, r, rfl, h2, h3⟩ := h.cons_inv
    simpa using RepL.cons hd h3
  | e :: ds, us, n + 1, h => by
    obtain ⟨w, r, rfl, h2, h3⟩ := h.cons_inv
    simpa using RepL.cons h2 (h3.set hd n)
theorem RepL.erase : ∀ {ds : List D} {us : List V} (n : Nat), RepL T G ds us → RepL T G (ds.eraseIdx n) (us.eraseIdx n)
  | [], us, n, h => by rw [h.nil_inv]; simpa using RepL.nil
  | e :: ds, us, 0, h => by
    obtain ⟨w, r, rfl, h2, h3⟩ := h.cons_inv
    simpa using h3
  | e :: ds, us, n + 1, h => by
    obtain ⟨w, r, rfl, h2, h3⟩ := h.cons_inv
    simpa using RepL.cons h2 (h3.erase n)
theorem RepL.rev {ds : List D} {us : List V} (h : RepL T G ds us) : RepL T G ds.reverse us.reverse := by
  induction ds generalizing us with
  | nil => rw [h.nil_inv]; exact RepL.nil
  | cons d ds ih =>
    obtain ⟨w, r, rfl, h2, h3⟩ := h.cons_inv
    simp only [List.reverse_cons]
    exact (ih h3).app (RepL.cons h2 RepL.nil)
theorem RepL.dropLast {ds : List D} {us : List V} (h : RepL T G ds us) : RepL T G ds.dropLast us.dropLast := by
  have hl := h.len
  rw [List.dropLast_eq_take, List.dropLast_eq_take, hl]
  exact h.take _
theorem RepL.rep {ds : List D} {us : List V} (h : RepL T G ds us) : ∀ k : Nat, RepL T G (List.replicate k ds).flatten (List.replicate k us).flatten
  | 0 => by simpa using RepL.nil
  | k + 1 => by simpa [List.replicate_succ] using h.app (h.rep k)
theorem RepL.ints : ∀ (ns : List Int), RepL T G (ns.map D.int) (ns.map V.int)
  | [] => RepL.nil
  | n :: ns => RepL.cons (by unfold Rep; rfl) (RepL.ints ns)
theorem Rep.int_inv {i : Int} {v : V} (h : Rep T G (.int i) v) : v = .int i := by unfold Rep at h; exact h
theorem Rep.bl_inv {i : Bool} {v : V} (h : Rep T G (.bl i) v) : v = .bl i := by unfold Rep at h; exact h
theorem Rep.str_inv {i : Str} {v : V} (h : Rep T G (.str i) v) : v = .str i := by unfold Rep at h; exact h
theorem Rep.non_inv {v : V} (h : Rep T G .non v) : v = .non := by unfold Rep at h; exact h
theorem Rep.tup_inv {ds : List D} {v : V} (h : Rep T G (.tup ds) v) : ∃ p us, v = .ref p ∧ G p = some (.tup us) ∧ RepL T G ds us := by unfold Rep at h; exact h
theorem Rep.lst_inv {ds : List D} {v : V} (h : Rep T G (.lst ds) v) : ∃ p us, v = .ref p ∧ G p = some (.lst us) ∧ RepL T G ds us := by unfold Rep at h; exact h
theorem Rep.dk_inv {ks : List Key} {ds : List D} {v : V} (h : Rep T G (.dk ks ds) v) : ∃ p us, v = .ref p ∧ G p = some (.dK (ks.zip us)) ∧ ks.length = us.length ∧ RepL T G ds us := by unfold Rep at h; exact h
theorem Rep.dt_inv {ks : List (List Key)} {ds : List D} {v : V} (h : Rep T G (.dt ks ds) v) : ∃ p us, v = .ref p ∧ G p = some (.dT (ks.zip us)) ∧ ks.length = us.length ∧ RepL T G ds us := by unfold Rep at h; exact h
theorem Rep.ins_inv {c : Nat} {ds : List D} {v : V} (h : Rep T G (.ins c ds) v) : ∃ p dx us, v = .ref p ∧ G p = some (.ins (T.cls c) dx ((T.fld c).zip us)) ∧ (T.fld c).length = us.length ∧ RepL T G ds us := by unfold Rep at h; exact h
theorem Rep.scr_inv {ns : List Int} {v : V} (h : Rep T G (.scr ns) v) : ∃ p, v = .ref p ∧ SqL T.K G p (ns.map V.int) := by unfold Rep at h; exact h
theorem Rep.int {i : Int} : Rep T G (.int i) (.int i) := by unfold Rep; rfl
theorem Rep.bl {i : Bool} : Rep T G (.bl i) (.bl i) := by unfold Rep; rfl
theorem Rep.str {i : Str} : Rep T G (.str i) (.str i) := by unfold Rep; rfl
theorem Rep.non : Rep T G .non .non := by unfold Rep; rfl
theorem Rep.tup {ds : List D} {p : Addr} {us : List V} (h : G p = some (.tup us)) (r : RepL T G ds us) : Rep T G (.tup ds) (.ref p) := by unfold Rep; exact ⟨p, us, rfl, h, r⟩
theorem Rep.lst {ds : List D} {p : Addr} {us : List V} (h : G p = some (.lst us)) (r : RepL T G ds us) : Rep T G (.lst ds) (.ref p) := by unfold Rep; exact ⟨p, us, rfl, h, r⟩
theorem Rep.dk {ks : List Key} {ds : List D} {p : Addr} {us : List V} (h : G p = some (.dK (ks.zip us))) (l : ks.length = us.length) (r : RepL T G ds us) : Rep T G (.dk ks ds) (.ref p) := by unfold Rep; exact ⟨p, us, rfl, h, l, r⟩
theorem Rep.dt {ks : List (List Key)} {ds : List D} {p : Addr} {us : List V} (h : G p = some (.dT (ks.zip us))) (l : ks.length = us.length) (r : RepL T G ds us) : Rep T G (.dt ks ds) (.ref p) := by unfold Rep; exact ⟨p, us, rfl, h, l, r⟩
theorem Rep.ins {c : Nat} {ds : List D} {p dx : Addr} {us : List V} (h : G p = some (.ins (T.cls c) dx ((T.fld c).zip us))) (l : (T.fld c).length = us.length) (r : RepL T G ds us) : Rep T G (.ins c ds) (.ref p) := by unfold Rep; exact ⟨p, dx, us, rfl, h, l, r⟩
end

/-! ### objects that one name alone holds -/
/-- a list; a list of lists; dicts -/
inductive Ot where
  | lst (ds : List D) | ll (dss : List (List D)) | dk (ks : List Key) (ds : List D) | dt (ks : List (List Key)) (ds : List D)
  deriving Inhabited
def Ot.toD : Ot → D
  | .lst ds => .lst ds
  | .ll dss => .lst (dss.map .lst)
  | .dk ks ds => .dk ks ds
  | .dt ks ds => .dt ks ds
/-- the inner lists -/
def RepI (T : Tbl) (G H : Hp) : List (List D) → List Addr → Prop
  | [], qs => qs = []
  | ds :: dss, qs => ∃ q r us, qs = q :: r ∧ H q = some (.lst us) ∧ RepL T G ds us ∧ RepI T G H dss r
/-- the object at p, its inner objects at qs -/
def RepO (T : Tbl) (G H : Hp) (p : Addr) (qs : List Addr) : Ot → Prop
  | .lst ds => qs = [] ∧ ∃ us, H p = some (.lst us) ∧ RepL T G ds us
  | .ll dss => H p = some (.lst (qs.map V.ref)) ∧ RepI T G H dss qs
  | .dk ks ds => qs = [] ∧ ∃ us, H p = some (.dK (ks.zip us)) ∧ ks.length = us.length ∧ RepL T G ds us
  | .dt ks ds => qs = [] ∧ ∃ us, H p = some (.dT (ks.zip us)) ∧ ks.length = us.length ∧ RepL T G ds us

section
variable {T : Tbl} {G G' H H' : Hp}
theorem RepI.stay (e : Ex G G') : ∀ {dss : List (List D)} {qs : List Addr}, RepI T G H dss qs → (∀ a ∈ qs, ∀ o, H a = some o → H' a = some o) → RepI T G' H' dss qs
  | [], _, h, _ => h
  | ds :: dss, _, ⟨q, r, us, e1, h1, h2, h3⟩, k => by
    subst e1
    exact ⟨q, r, us, rfl, k q (by simp) _ h1, RepL.mono e _ _ h2, RepI.stay e h3 fun a ha => k a (by simp [ha])⟩
theorem RepO.stay {p : Addr} {qs : List Addr} {t : Ot} (h : RepO T G H p qs t) (e : Ex G G') (k : ∀ a ∈ p :: qs, ∀ o, H a = some o → H' a = some o) : RepO T G' H' p qs t := by
  cases t with
  | lst ds =>
    obtain ⟨h0, us, h1, h2⟩ := h
    exact ⟨h0, us, k p (by simp) _ h1, RepL.mono e _ _ h2⟩
  | ll dss =>
    obtain ⟨h1, h2⟩ := h
    exact ⟨k p (by simp) _ h1, h2.stay e fun a ha => k a (by simp [ha])⟩
  | dk ks ds =>
    obtain ⟨h0, us, h1, h3, h2⟩ := h
    exact ⟨h0, us, k p (by simp) _ h1, h3, RepL.mono e _ _ h2⟩
  | dt ks ds =>
    obtain ⟨h0, us, h1, h3, h2⟩ := h
    exact ⟨h0, us, k p (by simp) _ h1, h3, RepL.mono e _ _ h2⟩
theorem RepI.there : ∀ {dss : List (List D)} {qs : List Addr}, RepI T G H dss qs → ∀ a ∈ qs, ∃ o, H a = some o
  | [], _, h, a, ha => by rw [h] at ha; simp at ha
  | ds :: dss, _, ⟨q, r, us, e1, h1, h2, h3⟩, a, ha => by
    subst e1
    rcases List.mem_cons.mp ha with rfl | ha
    · exact ⟨_, h1⟩
    · exact h3.there a ha
theorem RepO.there {p : Addr} {qs : List Addr} {t : Ot} (h : RepO T G H p qs t) : ∀ a ∈ p :: qs, ∃ o, H a = some o := by
  intro a ha
  cases t with
  | lst ds =>
    obtain ⟨rfl, us, h1, _⟩ := h
    have e : a = p := by simpa using ha
    exact ⟨_, e ▸ h1⟩
  | ll dss =>
    obtain ⟨h1, h2⟩ := h
    rcases List.mem_cons.mp ha with rfl | ha
    · exact ⟨_, h1⟩
    · exact h2.there a ha
  | dk ks ds =>
    obtain ⟨rfl, us, h1, _⟩ := h
    have e : a = p := by simpa using ha
    exact ⟨_, e ▸ h1⟩
  | dt ks ds =>
    obtain ⟨rfl, us, h1, _⟩ := h
    have e : a = p := by simpa using ha
    exact ⟨_, e ▸ h1⟩
/-- the objects at as go over to what never changes -/
def grow (G H : Hp) (as : List Addr) : Hp := fun a => if a ∈ as then H a else G a
theorem grow_in {as : List Addr} {a : Addr} (h : a ∈ as) : grow G H as a = H a := if_pos h
theorem grow_out {as : List Addr} {a : Addr} (h : a ∉ as) : grow G H as a = G a := if_neg h
theorem Ex.grow (e : Ex G H) (as : List Addr) : Ex G (grow G H as) := fun a o h => by
  by_cases ha : a ∈ as
  · rw [grow_in ha]; exact e a o h
  · rw [grow_out ha]; exact h
theorem Ex.grown (e : Ex G H) (as : List Addr) : Ex (Cw.grow G H as) H := fun a o h => by
  by_cases ha : a ∈ as
  · rw [grow_in ha] at h; exact h
  · rw [grow_out ha] at h; exact e a o h
theorem RepI.frz (e : Ex G G') : ∀ {dss : List (List D)} {qs : List Addr}, RepI T G H dss qs → (∀ a ∈ qs, ∀ o, H a = some o → G' a = some o) → RepL T G' (dss.map .lst) (qs.map V.ref)
  | [], qs, h, _ => by rw [h]; exact RepL.nil
  | ds :: dss, _, ⟨q, r, us, e1, h1, h2, h3⟩, k => by
    subst e1
    exact RepL.cons (Rep.lst (k q (by simp) _ h1) (RepL.mono e _ _ h2)) (RepI.frz e h3 fun a ha => k a (by simp [ha]))
theorem RepO.frz {p : Addr} {qs : List Addr} {t : Ot} (h : RepO T G H p qs t) (e : Ex G G') (k : ∀ a ∈ p :: qs, ∀ o, H a = some o → G' a = some o) : Rep T G' t.toD (.ref p) := by
  cases t with
  | lst ds =>
    obtain ⟨h0, us, h1, h2⟩ := h
    exact Rep.lst (k p (by simp) _ h1) (RepL.mono e _ _ h2)
  | ll dss =>
    obtain ⟨h1, h2⟩ := h
    exact Rep.lst (k p (by simp) _ h1) (h2.frz e fun a ha => k a (by simp [ha]))
  | dk ks ds =>
    obtain ⟨h0, us, h1, h3, h2⟩ := h
    exact Rep.dk (k p (by simp) _ h1) h3 (RepL.mono e _ _ h2)
  | dt ks ds =>
    obtain ⟨h0, us, h1, h3, h2⟩ := h
    exact Rep.dt (k p (by simp) _ h1) h3 (RepL.mono e _ _ h2)
end

/-! ### names, values, the body's state -/
/-- what a name holds: a thing that never changes, or an object that it alone holds -/
inductive Sl where
  | dat (d : D) | own (t : Ot)
  deriving Inhabited
abbrev Ro := List (Option Sl)
/-- an expression's value: a thing that never changes, a new object, the object that the i-th name holds, the k-th list within it -/
inductive W where
  | dat (d : D) | own (t : Ot) | brw (i : Nat) | br2 (i k : Nat)
  deriving Inhabited

/-- what is fixed while a body runs: the classes, the heap and what never changes at the entry, the addresses of the arguments that may be changed, their names' values -/
structure Par where
  T : Tbl
  H0 : Hp
  G0 : Hp
  A0 : List Addr
  fx : List (Option V)

def RepS (T : Tbl) (G H : Hp) (v : V) (qs : List Addr) : Sl → Prop
  | .dat d => qs = [] ∧ Rep T G d v
  | .own t => ∃ p r, qs = p :: r ∧ v = .ref p ∧ RepO T G H p r t

structure Sim (P : Par) (ρ : Ro) (θ : Nat → List Addr) (G : Hp) (σ : L2.St) (H : Hp) : Prop where
  g0 : Ex P.G0 G
  gh : Ex G H
  fr : ∀ a o, P.H0 a = some o → a ∉ P.A0 → H a = some o
  gs : ∀ a o, P.H0 a = some o → a ∉ P.A0 → G a = P.G0 a
  pe : ∀ a, H a = none → P.H0 a = none
  ln : ρ.length = σ.length
  sl : ∀ (i : Nat) (w : Sl), ρ[i]? = some (some w) → ∃ v, σ[i]? = some (some v) ∧ RepS P.T G H v (θ i) w
  no : ∀ (i : Nat), (∀ t, ρ[i]? ≠ some (some (.own t))) → θ i = []
  gn : ∀ i a, a ∈ θ i → G a = none
  nw : ∀ i a, a ∈ θ i → P.H0 a = none ∨ (a ∈ P.A0 ∧ i < P.fx.length)
  nd : ∀ i, (θ i).Nodup
  dj : ∀ i j a, a ∈ θ i → a ∈ θ j → i = j
  fx : ∀ (i : Nat) (v : V), P.fx[i]? = some (some v) → σ[i]? = some (some v)

/-- the addresses are new: nothing else knows of them -/
def Fr (P : Par) (θ : Nat → List Addr) (G : Hp) (qs : List Addr) : Prop := qs.Nodup ∧ ∀ a ∈ qs, G a = none ∧ P.H0 a = none ∧ ∀ i, a ∉ θ i
/-- a value and its new addresses -/
def RepW (P : Par) (θ : Nat → List Addr) (G : Hp) (σ : List (Option V)) (H : Hp) (v : V) (qs : List Addr) : W → Prop
  | .dat d => qs = [] ∧ Rep P.T G d v
  | .own t => ∃ p r, qs = p :: r ∧ v = .ref p ∧ RepO P.T G H p r t
  | .brw i => qs = [] ∧ σ[i]? = some (some v)
  | .br2 i k => qs = [] ∧ ∃ a, v = .ref a ∧ ∀ p r, θ i = p :: r → r[k]? = some a
def RepWs (P : Par) (θ : Nat → List Addr) (G : Hp) (σ : List (Option V)) (H : Hp) : List V → List (List Addr) → List W → Prop
  | [], [], [] => True
  | v :: vs, qs :: qss, w :: ws => RepW P θ G σ H v qs w ∧ RepWs P θ G σ H vs qss ws
  | _, _, _ => False

/-- what an expression may do -/
structure Stp (θ : Nat → List Addr) (G H : Hp) (θ' : Nat → List Addr) (G' H' : Hp) : Prop where
  h : ∀ a o, H a = some o → (∀ i, a ∉ θ i) → H' a = some o ∧ G' a = G a
  t : ∀ i, θ' i = θ i ∨ θ' i = []
  g : Ex G G'
  d : ∀ a, H' a = none → H a = none
theorem Stp.refl {θ : Nat → List Addr} {G H : Hp} : Stp θ G H θ G H := ⟨fun _ _ h _ => ⟨h, rfl⟩, fun _ => .inl rfl, Ex.refl _, fun _ h => h⟩
theorem Stp.sub {θ θ' : Nat → List Addr} {G H G' H' : Hp} (s : Stp θ G H θ' G' H') {i : Nat} {a : Addr} (h : a ∈ θ' i) : a ∈ θ i := by
  rcases s.t i with e | e
  · rw [e] at h; exact h
  · rw [e] at h; cases h
theorem Stp.trans {θ θ1 θ2 : Nat → List Addr} {G H G1 H1 G2 H2 : Hp} (a : Stp θ G H θ1 G1 H1) (b : Stp θ1 G1 H1 θ2 G2 H2) : Stp θ G H θ2 G2 H2 :=
  ⟨fun x o h n => by
    obtain ⟨h1, g1⟩ := a.h x o h n
    obtain ⟨h2, g2⟩ := b.h x o h1 fun i m => n i (a.sub m)
    exact ⟨h2, g2.trans g1⟩, fun i => by
      rcases b.t i with e | e
      · rw [e]; exact a.t i
      · exact .inr e, a.g.trans b.g, fun x h => a.d x (b.d x h)⟩

section
variable {P : Par} {ρ ρ' : Ro} {θ θ' : Nat → List Addr} {G G' H H' : Hp} {σ : List (Option V)} {v : V} {w : W} {qs : List Addr}
theorem RepW.there (r : RepW P θ G σ H v qs w) : ∀ a ∈ qs, ∃ o, H a = some o := by
  intro a ha
  cases w with
  | dat d => rw [r.1] at ha; cases ha
  | own t =>
    obtain ⟨p, r', rfl, _, ho⟩ := r
    exact ho.there a ha
  | brw i => rw [r.1] at ha; cases ha
  | br2 i k => rw [r.1] at ha; cases ha
theorem Fr.stp (f : Fr P θ G qs) (s : Stp θ G H θ' G' H') (ht : ∀ a ∈ qs, ∃ o, H a = some o) : Fr P θ' G' qs :=
  ⟨f.1, fun a ha => by
    obtain ⟨g, h0, n⟩ := f.2 a ha
    obtain ⟨o, ho⟩ := ht a ha
    exact ⟨((s.h a o ho n).2).trans g, h0, fun i m => n i (s.sub m)⟩⟩
/-- a value stays through what is reckoned behind it -/
theorem RepW.stp (r : RepW P θ G σ H v qs w) (f : Fr P θ G qs) (s : Stp θ G H θ' G' H') : RepW P θ' G' σ H' v qs w := by
  cases w with
  | dat d => exact ⟨r.1, Rep.mono s.g _ _ r.2⟩
  | own t =>
    obtain ⟨p, r', e, e', ho⟩ := r
    subst e
    exact ⟨p, r', rfl, e', ho.stay s.g fun a ha o q => (s.h a o q (f.2 a ha).2.2).1⟩
  | brw i => exact r
  | br2 i k =>
    obtain ⟨e, a, e', h⟩ := r
    refine ⟨e, a, e', fun p r' h' => ?_⟩
    rcases s.t i with q | q
    · exact h p r' (q ▸ h')
    · rw [q] at h'; cases h'
theorem RepWs.there : ∀ {vs : List V} {qss : List (List Addr)} {ws : List W}, RepWs P θ G σ H vs qss ws → ∀ a ∈ qss.flatten, ∃ o, H a = some o
  | [], [], [], _, a, ha => by cases ha
  | v :: vs, qs :: qss, w :: ws, r, a, ha => by
    rw [List.flatten_cons] at ha
    rcases List.mem_append.mp ha with h | h
    · exact r.1.there a h
    · exact RepWs.there r.2 a h
  | [], [], _ :: _, r, _, _ => r.elim
  | [], _ :: _, [], r, _, _ => r.elim
  | [], _ :: _, _ :: _, r, _, _ => r.elim
  | _ :: _, [], _, r, _, _ => by cases r
  | _ :: _, _ :: _, [], r, _, _ => by cases r
theorem Fr.left {qs rs : List Addr} (f : Fr P θ G (qs ++ rs)) : Fr P θ G qs := ⟨(List.nodup_append.mp f.1).1, fun a ha => f.2 a (List.mem_append_left _ ha)⟩
theorem Fr.right {qs rs : List Addr} (f : Fr P θ G (qs ++ rs)) : Fr P θ G rs := ⟨(List.nodup_append.mp f.1).2.1, fun a ha => f.2 a (List.mem_append_right _ ha)⟩
theorem RepWs.stp : ∀ {vs : List V} {qss : List (List Addr)} {ws : List W}, RepWs P θ G σ H vs qss ws → Fr P θ G qss.flatten → Stp θ G H θ' G' H' → RepWs P θ' G' σ H' vs qss ws
  | [], [], [], _, _, _ => trivial
  | v :: vs, qs :: qss, w :: ws, r, f, s => by
    rw [List.flatten_cons] at f
    exact ⟨r.1.stp f.left s, RepWs.stp r.2 f.right s⟩
  | [], [], _ :: _, r, _, _ => r.elim
  | [], _ :: _, [], r, _, _ => r.elim
  | [], _ :: _, _ :: _, r, _, _ => r.elim
  | _ :: _, [], _, r, _, _ => by cases r
  | _ :: _, _ :: _, [], r, _, _ => by cases r
theorem Fr.nil : Fr P θ G [] := ⟨List.nodup_nil, fun a ha => by cases ha⟩
/-- new addresses of two values -/
theorem Fr.append {qs rs : List Addr} (f : Fr P θ' G' qs) (g : Fr P θ' G' rs) (h1 : ∀ a ∈ qs, ∃ o, H a = some o) (h2 : ∀ a ∈ rs, H a = none) : Fr P θ' G' (qs ++ rs) :=
  ⟨List.nodup_append.mpr ⟨f.1, g.1, fun a ha b hb e => by
    subst e
    obtain ⟨o, ho⟩ := h1 a ha
    rw [h2 a hb] at ho; cases ho⟩, fun a ha => (List.mem_append.mp ha).elim (f.2 a) (g.2 a)⟩
end
end Cw
/-! Cw: the small language, what its parts ask (weakest wishes over data). -/
namespace Cw
open PySem PySem.Spec PyProof.Rows L2

/-! ### contents -/
def slOf (ρ : Ro) (i : Nat) : Option Sl := match ρ[i]? with
  | some (some w) => some w
  | _ => none
/-- the content of a value -/
def cv (ρ : Ro) : W → Option Sl
  | .dat d => some (.dat d)
  | .own t => some (.own t)
  | .brw i => slOf ρ i
  | .br2 i k => match slOf ρ i with
    | some (.own (.ll dss)) => (dss[k]?).map fun ds => .own (.lst ds)
    | _ => none
def Sl.toD : Sl → D
  | .dat d => d
  | .own t => t.toD
/-- a sequence: is it a list, its items -/
def sq : Sl → Option (Bool × List D)
  | .dat (.tup ds) => some (false, ds)
  | .dat (.lst ds) => some (true, ds)
  | .own (.lst ds) => some (true, ds)
  | _ => none
/-- a dict with int (text) keys; with tuple keys -/
def dkOf : Sl → Option (List Key × List D)
  | .dat (.dk ks ds) => some (ks, ds)
  | .own (.dk ks ds) => some (ks, ds)
  | _ => none
def dtOf : Sl → Option (List (List Key) × List D)
  | .dat (.dt ks ds) => some (ks, ds)
  | .own (.dt ks ds) => some (ks, ds)
  | _ => none
/-- the value becomes a thing that never changes -/
def frz (w : W) (ρ : Ro) (Q : D → Ro → Prop) : Prop := match w with
  | .dat d => Q d ρ
  | .own t => Q t.toD ρ
  | .brw i => match slOf ρ i with
    | some (.dat d) => Q d ρ
    | some (.own t) => Q t.toD (ρ.set i (some (.dat t.toD)))
    | none => False
  | .br2 _ _ => False

/-! ### data as the library's -/
mutual
def pyOf : D → PyData
  | .non => .none
  | .bl b => .bool b
  | .int i => .int i
  | .str s => .str s
  | .tup ds => .tuple (pyAll ds)
  | .lst ds => .list (pyAll ds)
  | _ => .dict []
def pyAll : List D → List PyData
  | [] => []
  | d :: ds => pyOf d :: pyAll ds
end
def shp (d : D) : Bool := SeqAt.shaped (pyOf d)

/-! ### a function of the program -/
structure Fn where
  name : Str
  modes : List Bool
  sp : List Sl → (Sl → List Sl → Prop) → Prop
  mono : ∀ (as : List Sl) (Q Q' : Sl → List Sl → Prop), (∀ r bs, Q r bs → Q' r bs) → sp as Q → sp as Q'

inductive Bop where | add | sub | mul | fdiv | mod | pow
  deriving DecidableEq
inductive Cop where | eq | ne | lt | le | gt | ge | isin | notin | is | isnot
  deriving DecidableEq
inductive Blt where | len | int | abs | max2 | min2 | max | min | sorted | list | tuple | repr
  deriving DecidableEq
/-- what isinstance asks for -/
inductive Ic where | int | bool | tuple | list | cls (c : Nat)
  deriving DecidableEq
/-- what is walked: a list or tuple, range(n), range(a, b), enumerate(xs), zip(xs, ys), a dict's keys -/
inductive Ik where | seq | rng1 | rng2 | enum | zip | keys
  deriving DecidableEq
/-- targets -/
inductive Tg where
  | nm (i : Nat) | tp (r : Tg) | nil | cons (t r : Tg)
  deriving DecidableEq

inductive E where
  | var (i : Nat) | int (n : Int) | bl (b : Bool) | non | str (s : Str)
  | bin (op : Bop) (a b : E) | neg (a : E)
  | cmp (op : Cop) (a b : E) | chn (o p : Cop) (a b c : E)
  | and (a b : E) | or (a b : E) | not (a : E) | ite (c a b : E)
  | nil | cons (a r : E)
  | tup (as : E) | lst (as : E) | lsl (as : E)
  | call (F : Fn) (as : E) | meth (F : Fn) (c : Nat) (a as : E) | prop (F : Fn) (c : Nat) (a : E)
  | eqw (neg : Bool) (F : Fn) (c : Nat) (a b : E)
  | blt (b : Blt) (as : E) | isa (a : E) (c : Ic)
  | fld (c k : Nat) (a : E)
  | idx (a b : E) | slc (a lo hi : E)
  | pop (i : Nat) | popat (i : Nat) (a : E)
  | lc (vs : List Nat) (t : Tg) (k : Ik) (as c e : E)
  | lc2 (vs vs1 : List Nat) (t : Tg) (k : Ik) (as : E) (t1 : Tg) (k1 : Ik) (as1 e : E)
  | lcl (vs : List Nat) (i : Nat) (k : Ik) (as : E)
  | lk (vs : List Nat) (t : Tg) (i : Nat) (c e : E)
  | dnew | dnewT | lrng (a b : E)

inductive Sm where
  | asg (t : Tg) (e : E) | pars (is : List Nat) (as : E)
  | setl (i : Nat) (a e : E) | setd (i : Nat) (a e : E) | seta (i : Nat) (op : Bop) (a e : E) | aug (i : Nat) (op : Bop) (e : E)
  | app (i : Nat) (e : E) | app2 (i : Nat) (a e : E) | ext (i : Nat) (e : E) | clr (i : Nat) | rev (i : Nat)
  | drop (e : E) | appT (e a : E) | revT (e : E)
  | ite (c : E) (a b : Sm) | whl (c : E) (b : Sm) | for (t : Tg) (k : Ik) (as : E) (body : Sm)
  | ret (e : E) | retN | brk | cont | pass | never
  | nil | cons (a r : Sm)

/-! ### operators -/
/-- ** within the model's bound -/
def CPowW (i j : Int) : Prop := 0 ≤ j ∧ (Builtin.Int.intBits i : Int) * j ≤ 2 ^ 27
def bin (op : Bop) (x y : Sl) (Q : W → Prop) : Prop := match op, x, y with
  | .add, .dat (.int i), .dat (.int j) => Q (.dat (.int (i + j)))
  | .sub, .dat (.int i), .dat (.int j) => Q (.dat (.int (i - j)))
  | .mul, .dat (.int i), .dat (.int j) => CMulW i j ∧ Q (.dat (.int (i * j)))
  | .fdiv, .dat (.int i), .dat (.int j) => CDivW i j ∧ Q (.dat (.int (i / j)))
  | .mod, .dat (.int i), .dat (.int j) => 0 < j ∧ Q (.dat (.int (i % j)))
  | .pow, .dat (.int i), .dat (.int j) => CPowW i j ∧ Q (.dat (.int (i ^ j.toNat)))
  | .add, .dat (.str s), .dat (.str t) => s.length + t.length ≤ sizeLine ∧ Q (.dat (.str (s ++ t)))
  | .add, x, y => match sq x, sq y with
    | some (true, xs), some (true, ys) => xs.length + ys.length ≤ sizeLine ∧ Q (.own (.lst (xs ++ ys)))
    | some (false, xs), some (false, ys) => xs.length + ys.length ≤ sizeLine ∧ Q (.dat (.tup (xs ++ ys)))
    | _, _ => False
  | .mul, x, .dat (.int k) => match sq x with
    | some (true, xs) => (-(2 ^ 63) ≤ k ∧ k < 2 ^ 63 ∧ xs.length * k.toNat ≤ sizeLine) ∧ Q (.own (.lst (List.replicate k.toNat xs).flatten))
    | _ => False
  | _, _, _ => False
/-- keys -/
def keyOf : D → Option Key
  | .int i => some (.inl i)
  | .str s => some (.inr s)
  | _ => none
def keysOf : List D → Option (List Key)
  | [] => some []
  | d :: ds => match keyOf d, keysOf ds with
    | some k, some ks => some (k :: ks)
    | _, _ => none
def tkeyOf : D → Option (List Key)
  | .tup ds => keysOf ds
  | _ => none
def noScr : D → Bool
  | .scr _ => false
  | _ => true
def kD : Key → D
  | .inl i => .int i
  | .inr s => .str s
/-- what a dict holds under a key -/
def look {κ : Type} [DecidableEq κ] (ks : List κ) (ds : List D) (k : κ) : Option D := ((ks.zip ds).find? fun p => decide (p.1 = k)).map (·.2)
def isNon : D → Bool
  | .non => true
  | _ => false
def cmp (op : Cop) (x y : Sl) (Q : Bool → Prop) : Prop := match op with
  | .lt => ∃ i j, x = .dat (.int i) ∧ y = .dat (.int j) ∧ Q (decide (i < j))
  | .le => ∃ i j, x = .dat (.int i) ∧ y = .dat (.int j) ∧ Q (decide (i ≤ j))
  | .gt => ∃ i j, x = .dat (.int i) ∧ y = .dat (.int j) ∧ Q (decide (j < i))
  | .ge => ∃ i j, x = .dat (.int i) ∧ y = .dat (.int j) ∧ Q (decide (j ≤ i))
  | .eq => shp x.toD = true ∧ shp y.toD = true ∧ Q (PyData.eqv (pyOf x.toD) (pyOf y.toD))
  | .ne => shp x.toD = true ∧ shp y.toD = true ∧ Q (!PyData.eqv (pyOf x.toD) (pyOf y.toD))
  | .isin => match dkOf y, dtOf y, sq y with
    | some (ks, ds), _, _ => ∃ k, keyOf x.toD = some k ∧ Q (look ks ds k).isSome
    | _, some (ks, ds), _ => ∃ k, tkeyOf x.toD = some k ∧ Q (look ks ds k).isSome
    | _, _, some (true, ds) => shp x.toD = true ∧ shp (.lst ds) = true ∧ Q (ds.any fun z => PyData.eqv (pyOf z) (pyOf x.toD))
    | _, _, _ => False
  | .notin => match dkOf y, dtOf y, sq y with
    | some (ks, ds), _, _ => ∃ k, keyOf x.toD = some k ∧ Q (!(look ks ds k).isSome)
    | _, some (ks, ds), _ => ∃ k, tkeyOf x.toD = some k ∧ Q (!(look ks ds k).isSome)
    | _, _, some (true, ds) => shp x.toD = true ∧ shp (.lst ds) = true ∧ Q (!ds.any fun z => PyData.eqv (pyOf z) (pyOf x.toD))
    | _, _, _ => False
  | .is => (y = .dat .non ∧ ∃ d, x = .dat d ∧ Q (isNon d)) ∨ ∃ a b, x = .dat (.bl a) ∧ y = .dat (.bl b) ∧ Q (decide (a = b))
  | .isnot => (y = .dat .non ∧ ∃ d, x = .dat d ∧ Q (!isNon d)) ∨ ∃ a b, x = .dat (.bl a) ∧ y = .dat (.bl b) ∧ Q (!decide (a = b))
def atD (ds : List D) (i : Int) : Option D := atI ds i
def cutD (ds : List D) (lo hi : Option Int) : List D := (ds.drop (HT.sIx ds.length 0 lo)).take (HT.sIx ds.length ds.length hi - HT.sIx ds.length 0 lo)
/-- a[b], by contents -/
def idxC (x y : Sl) (Q : W → Prop) : Prop := match sq x, dkOf x, dtOf x, x with
  | some (_, ds), _, _, _ => ∃ i d, y = .dat (.int i) ∧ atI ds i = some d ∧ Q (.dat d)
  | _, some (ks, ds), _, _ => ∃ k d, keyOf y.toD = some k ∧ look ks ds k = some d ∧ Q (.dat d)
  | _, _, some (ks, ds), _ => ∃ k d, tkeyOf y.toD = some k ∧ look ks ds k = some d ∧ Q (.dat d)
  | _, _, _, .dat (.scr ns) => ∃ i d, y = .dat (.int i) ∧ atI ns i = some d ∧ Q (.dat (.int d))
  | _, _, _, _ => False
/-- a[b] -/
def idx (w : W) (ρ : Ro) (y : Sl) (Q : W → Prop) : Prop := match w with
  | .brw i => match slOf ρ i with
    | some (.own (.ll dss)) => ∃ k : Nat, y = .dat (.int k) ∧ k < dss.length ∧ Q (.br2 i k)
    | some x => idxC x y Q
    | none => False
  | w => match cv ρ w with
    | some x => idxC x y Q
    | none => False
def slc (x : Sl) (lo hi : Option Int) (Q : W → Prop) : Prop := match sq x with
  | some (true, ds) => Q (.own (.lst (cutD ds lo hi)))
  | some (false, ds) => Q (.dat (.tup (cutD ds lo hi)))
  | none => False
def lenOf : Sl → Option Nat
  | .dat (.tup ds) => some ds.length
  | .dat (.lst ds) => some ds.length
  | .own (.lst ds) => some ds.length
  | .own (.ll ds) => some ds.length
  | .dat (.dk ks _) => some ks.length
  | .own (.dk ks _) => some ks.length
  | .dat (.dt ks _) => some ks.length
  | .own (.dt ks _) => some ks.length
  | .dat (.scr ns) => some ns.length
  | _ => none
def intsOf : List D → Option (List Int)
  | [] => some []
  | .int i :: ds => (intsOf ds).map (i :: ·)
  | _ => none
def blt (b : Blt) (xs : List Sl) (Q : W → Prop) : Prop := match b, xs with
  | .len, [x] => ∃ n, lenOf x = some n ∧ Q (.dat (.int n))
  | .int, [.dat (.int i)] => Q (.dat (.int i))
  | .int, [.dat (.bl k)] => Q (.dat (.int (if k then 1 else 0)))
  | .abs, [.dat (.int i)] => Q (.dat (.int (if i < 0 then -i else i)))
  | .max2, [.dat (.int i), .dat (.int j)] => Q (.dat (.int (if j > i then j else i)))
  | .min2, [.dat (.int i), .dat (.int j)] => Q (.dat (.int (if j < i then j else i)))
  | .max, [x] => ∃ ds ns, sq x = some (true, ds) ∧ intsOf ds = some ns ∧ 0 < ns.length ∧ ∀ m, m ∈ ns → (∀ y, y ∈ ns → y ≤ m) → Q (.dat (.int m))
  | .min, [x] => ∃ ds ns, sq x = some (true, ds) ∧ intsOf ds = some ns ∧ 0 < ns.length ∧ ∀ m, m ∈ ns → (∀ y, y ∈ ns → m ≤ y) → Q (.dat (.int m))
  | .sorted, [x] => ∃ ds ns, sq x = some (true, ds) ∧ intsOf ds = some ns ∧ ∀ ns' : List Int, ns'.Perm ns → ns'.Pairwise (· ≤ ·) → Q (.own (.lst (ns'.map .int)))
  | .list, [x] => ∃ k ds, sq x = some (k, ds) ∧ Q (.own (.lst ds))
  | .tuple, [x] => ∃ k ds, sq x = some (k, ds) ∧ Q (.dat (.tup ds))
  | .repr, [x] => PyData.showable (pyOf x.toD) = true ∧ shp x.toD = true ∧ (PyData.shown (pyOf x.toD)).length ≤ sizeLine ∧ Q (.dat (.str (PyData.shown (pyOf x.toD))))
  | _, _ => False
/-- isinstance -/
def isa : Sl → Ic → Option Bool
  | .dat (.bl _), .int => some true
  | .dat (.bl _), .bool => some true
  | .dat (.int _), .int => some true
  | .dat (.tup _), .tuple => some true
  | .dat (.lst _), .list => some true
  | .own (.lst _), .list => some true
  | .own (.ll _), .list => some true
  | .dat (.ins c _), .cls c' => if c = c' then some true else none
  | .dat (.scr _), _ => none
  | _, _ => some false
/-! ### calls -/
/-- the arguments as the function takes them: (arguments, names to be told what became of theirs) -/
def pass : List Bool → List W → Ro → (List Sl → List (Option Nat) → Ro → Prop) → Prop
  | [], [], ρ, Q => Q [] [] ρ
  | true :: ms, .brw i :: ws, ρ, Q => match slOf ρ i with
    | some (.own t) => pass ms ws ρ fun as bs ρ' => some i ∉ bs ∧ slOf ρ' i = some (.own t) ∧ Q (.own t :: as) (some i :: bs) ρ'
    | some (.dat d) => pass ms ws ρ fun as bs ρ' => Q (.dat d :: as) (none :: bs) ρ'
    | none => False
  | true :: ms, .own t :: ws, ρ, Q => pass ms ws ρ fun as bs ρ' => Q (.own t :: as) (none :: bs) ρ'
  | true :: ms, .dat d :: ws, ρ, Q => pass ms ws ρ fun as bs ρ' => Q (.dat d :: as) (none :: bs) ρ'
  | false :: ms, w :: ws, ρ, Q => frz w ρ fun d ρ1 => pass ms ws ρ1 fun as bs ρ' => Q (.dat d :: as) (none :: bs) ρ'
  | _, _, _, _ => False
/-- behind the call -/
def back : List (Option Nat) → List Sl → Ro → Ro
  | some i :: bs, r :: rs, ρ => back bs rs (ρ.set i (some r))
  | none :: bs, _ :: rs, ρ => back bs rs ρ
  | _, _, ρ => ρ
def ofSl : Sl → W
  | .dat d => .dat d
  | .own t => .own t
def callF (F : Fn) (ws : List W) (ρ : Ro) (Q : W → Ro → Prop) : Prop :=
  pass F.modes ws ρ fun as bs ρ' => F.sp as fun r rs => rs.length = as.length ∧ Q (ofSl r) (back bs rs ρ')

def frzs : List W → Ro → (List D → Ro → Prop) → Prop
  | [], ρ, Q => Q [] ρ
  | w :: ws, ρ, Q => frz w ρ fun d ρ1 => frzs ws ρ1 fun ds ρ2 => Q (d :: ds) ρ2

/-! ### what is walked -/
/-- the items; the name whose list is walked, as it stands -/
structure Src where
  items : List D
  gd : Option (Nat × Ot)
def gdOk (g : Option (Nat × Ot)) (ρ : Ro) : Prop := match g with
  | none => True
  | some (i, t) => slOf ρ i = some (.own t)
def rngD (a : Int) (n : Nat) : List D := (List.range n).map fun k => D.int (a + (k : Nat))
def srcOf (w : W) (ρ : Ro) (Q : Src → Ro → Prop) : Prop := match w with
  | .brw i => match slOf ρ i with
    | some (.own (.lst ds)) => Q ⟨ds, some (i, .lst ds)⟩ ρ
    | some (.dat (.tup ds)) => Q ⟨ds, none⟩ ρ
    | some (.dat (.lst ds)) => Q ⟨ds, none⟩ ρ
    | _ => False
  | .dat (.tup ds) => Q ⟨ds, none⟩ ρ
  | .dat (.lst ds) => Q ⟨ds, none⟩ ρ
  | .own (.lst ds) => Q ⟨ds, none⟩ ρ
  | _ => False
def small (i : Int) : Prop := -(2 ^ 62) ≤ i ∧ i < 2 ^ 62
def pairD (p : D × D) : D := .tup [p.1, p.2]
def enumD (ds : List D) : List D := (ds.zipIdx).map fun p => .tup [.int (p.2 : Nat), p.1]
/-- from the values of the written arguments to what is walked -/
def walk (k : Ik) (ws : List W) (ρ : Ro) (Q : Src → Ro → Prop) : Prop := match k, ws with
  | .seq, [w] => srcOf w ρ Q
  | .rng1, [w] => ∃ j, cv ρ w = some (.dat (.int j)) ∧ small j ∧ Q ⟨rngD 0 j.toNat, none⟩ ρ
  | .rng2, [v, w] => ∃ i j, cv ρ v = some (.dat (.int i)) ∧ cv ρ w = some (.dat (.int j)) ∧ small i ∧ small j ∧ Q ⟨rngD i (j - i).toNat, none⟩ ρ
  | .enum, [w] => ∃ ds, srcOf w ρ fun s ρ' => s.items = ds ∧ (∃ x, cv ρ w = some x ∧ sq x = some (true, ds)) ∧ Q ⟨enumD ds, s.gd⟩ ρ'
  | .zip, [v, w] => ∃ b xs ys, frz v ρ fun d ρ1 => frz w ρ1 fun e ρ2 => sq (.dat d) = some (b, xs) ∧ sq (.dat e) = some (b, ys) ∧ Q ⟨(xs.zip ys).map pairD, none⟩ ρ2
  | _, _ => False
/-- .. of a for statement: what is walked never changes from here on -/
def walkZ (z : Bool) (k : Ik) (ws : List W) (ρ : Ro) (Q : Src → Ro → Prop) : Prop := match z with
  | false => walk k ws ρ Q
  | true => frzs ws ρ fun ds ρ' => walk k (ds.map .dat) ρ' Q
/-- a target takes an item -/
def take : Tg → D → Ro → (Ro → Prop) → Prop
  | .nm i, d, ρ, Q => Q (ρ.set i (some (.dat d)))
  | .tp .nil, d, ρ, Q => d = .tup [] ∧ Q ρ
  | .tp (.cons t r), d, ρ, Q => ∃ x xs, d = .tup (x :: xs) ∧ take t x ρ fun ρ' => take r (.tup xs) ρ' Q
  | .tp _, _, _, _ => False
  | .nil, d, ρ, Q => d = .tup [] ∧ Q ρ
  | .cons t r, d, ρ, Q => ∃ x xs, d = .tup (x :: xs) ∧ take t x ρ fun ρ' => take r (.tup xs) ρ' Q
def wip (ρ : Ro) : List Nat → Ro
  | [] => ρ
  | v :: vs => (wip ρ vs).set v none
/-- behind a comprehension its own names hold what they held -/
def unwip (old : Ro) : List Nat → Ro → Ro
  | [], ρ => ρ
  | v :: vs, ρ => (unwip old vs ρ).set v (match slOf old v with | some (.dat d) => some (.dat d) | _ => none)
/-- a comprehension's turns -/
def lcg (turn : D → List D → Ro → (List D → Ro → Prop) → Prop) (vs : List Nat) (g : Option (Nat × Ot)) : List D → List D → Ro → (List D → Ro → Prop) → Prop
  | [], acc, ρ, Q => gdOk g ρ ∧ Q acc ρ
  | d :: ds, acc, ρ, Q => gdOk g ρ ∧ turn d acc ρ fun acc' ρ' => lcg turn vs g ds acc' (wip ρ' vs) Q
def owns : List W → Option (List (List D))
  | [] => some []
  | .own (.lst ds) :: ws => (owns ws).map (ds :: ·)
  | _ => none
def cvs (ρ : Ro) : List W → Option (List Sl)
  | [] => some []
  | w :: ws => match cv ρ w, cvs ρ ws with
    | some x, some xs => some (x :: xs)
    | _, _ => none
def Tg.slots : Tg → List Nat
  | .nm i => [i]
  | .tp r => r.slots
  | .nil => []
  | .cons t r => t.slots ++ r.slots
def E.isNil : E → Bool
  | .nil => true
  | _ => false
/-- a list of new empty lists -/
def takes (t : Tg) : Bool := match t with
  | .nm _ => true
  | _ => false

mutual
def wE : E → Ro → (W → Ro → Prop) → Prop
  | .var i, ρ, Q => match slOf ρ i with
    | some (.dat d) => Q (.dat d) ρ
    | some (.own _) => Q (.brw i) ρ
    | none => False
  | .int n, ρ, Q => Q (.dat (.int n)) ρ
  | .bl b, ρ, Q => Q (.dat (.bl b)) ρ
  | .non, ρ, Q => Q (.dat .non) ρ
  | .str s, ρ, Q => Q (.dat (.str s)) ρ
  | .bin op a b, ρ, Q => wE a ρ fun v ρ1 => wE b ρ1 fun w ρ2 => ∃ x y, cv ρ2 v = some x ∧ cv ρ2 w = some y ∧ bin op x y fun r => Q r ρ2
  | .neg a, ρ, Q => wE a ρ fun v ρ1 => ∃ i, cv ρ1 v = some (.dat (.int i)) ∧ Q (.dat (.int (-i))) ρ1
  | .cmp op a b, ρ, Q => wE a ρ fun v ρ1 => wE b ρ1 fun w ρ2 => ∃ x y, cv ρ2 v = some x ∧ cv ρ2 w = some y ∧ cmp op x y fun r => Q (.dat (.bl r)) ρ2
  | .chn o p a b c, ρ, Q => wE a ρ fun v ρ1 => wE b ρ1 fun w ρ2 => ∃ x y, cv ρ2 v = some x ∧ cv ρ2 w = some y ∧ cmp o x y fun r =>
      if r = true then wE c ρ2 fun u ρ3 => ∃ y' z, cv ρ3 w = some y' ∧ cv ρ3 u = some z ∧ cmp p y' z fun r' => Q (.dat (.bl r')) ρ3 else Q (.dat (.bl false)) ρ2
  | .and a b, ρ, Q => wE a ρ fun v ρ1 => ∃ k, v = .dat (.bl k) ∧ if k = true then wE b ρ1 fun w ρ2 => ∃ k', w = .dat (.bl k') ∧ Q w ρ2 else Q (.dat (.bl false)) ρ1
  | .or a b, ρ, Q => wE a ρ fun v ρ1 => ∃ k, v = .dat (.bl k) ∧ if k = true then Q (.dat (.bl true)) ρ1 else wE b ρ1 fun w ρ2 => ∃ k', w = .dat (.bl k') ∧ Q w ρ2
  | .not a, ρ, Q => wE a ρ fun v ρ1 => ∃ k, v = .dat (.bl k) ∧ Q (.dat (.bl (!k))) ρ1
  | .ite c a b, ρ, Q => wE c ρ fun v ρ1 => ∃ k, v = .dat (.bl k) ∧ if k = true then wE a ρ1 Q else wE b ρ1 Q
  | .tup as, ρ, Q => wA as ρ fun ws ρ1 => frzs ws ρ1 fun ds ρ2 => ds.length ≤ sizeLine ∧ Q (.dat (.tup ds)) ρ2
  | .lst as, ρ, Q => wA as ρ fun ws ρ1 => frzs ws ρ1 fun ds ρ2 => ds.length ≤ sizeLine ∧ Q (.own (.lst ds)) ρ2
  | .lsl as, ρ, Q => wA as ρ fun ws ρ1 => ∃ dss, owns ws = some dss ∧ dss.length ≤ sizeLine ∧ Q (.own (.ll dss)) ρ1
  | .call F as, ρ, Q => wA as ρ fun ws ρ1 => callF F ws ρ1 Q
  | .meth F c a as, ρ, Q => wE a ρ fun v ρ1 => ∃ fs, v = .dat (.ins c fs) ∧ wA as ρ1 fun ws ρ2 => callF F (v :: ws) ρ2 Q
  | .prop F c a, ρ, Q => wE a ρ fun v ρ1 => ∃ fs, v = .dat (.ins c fs) ∧ callF F [v] ρ1 Q
  | .eqw n F c a b, ρ, Q => wE a ρ fun v ρ1 => wE b ρ1 fun w ρ2 => ∃ fs, v = .dat (.ins c fs) ∧ frz w ρ2 fun d ρ3 => noScr d = true ∧ callF F [v, .dat d] ρ3 fun r ρ4 => ∃ k, r = .dat (.bl k) ∧ Q (.dat (.bl (if n then !k else k))) ρ4
  | .blt b as, ρ, Q => wA as ρ fun ws ρ1 => ∃ xs, cvs ρ1 ws = some xs ∧ blt b xs fun r => Q r ρ1
  | .isa a c, ρ, Q => wE a ρ fun v ρ1 => ∃ x k, cv ρ1 v = some x ∧ isa x c = some k ∧ Q (.dat (.bl k)) ρ1
  | .fld c k a, ρ, Q => wE a ρ fun v ρ1 => ∃ fs d, v = .dat (.ins c fs) ∧ fs[k]? = some d ∧ Q (.dat d) ρ1
  | .idx a b, ρ, Q => wE a ρ fun v ρ1 => wE b ρ1 fun w ρ2 => ∃ y, cv ρ2 w = some y ∧ idx v ρ2 y fun r => Q r ρ2
  | .slc a lo hi, ρ, Q => wE a ρ fun v ρ1 =>
      (fun K => if lo.isNil = true then K none ρ1 else wE lo ρ1 fun l ρ2 => ∃ i, l = .dat (.int i) ∧ K (some i) ρ2) fun l ρ2 =>
      (fun K => if hi.isNil = true then K none ρ2 else wE hi ρ2 fun l ρ3 => ∃ i, l = .dat (.int i) ∧ K (some i) ρ3) fun h ρ3 => ∃ x, cv ρ3 v = some x ∧ slc x l h fun r => Q r ρ3
  | .pop i, ρ, Q => ∃ ds d, slOf ρ i = some (.own (.lst (ds ++ [d]))) ∧ Q (.dat d) (ρ.set i (some (.own (.lst ds))))
  | .popat i a, ρ, Q => (∃ ds, slOf ρ i = some (.own (.lst ds))) ∧ wE a ρ fun v ρ1 => ∃ ds d, ∃ k : Nat, v = .dat (.int k) ∧ k < 2 ^ 62 ∧ slOf ρ1 i = some (.own (.lst ds)) ∧ ds[k]? = some d ∧ Q (.dat d) (ρ1.set i (some (.own (.lst (ds.eraseIdx k)))))
  | .lc vs t k as c e, ρ, Q => wA as ρ fun ws ρ1 => walkZ false k ws ρ1 fun s ρ2 =>
      lcg (fun d acc ρ3 K => take t d ρ3 fun ρ4 => wE c ρ4 fun v ρ5 => ∃ j, v = .dat (.bl j) ∧ if j = true then wE e ρ5 fun y ρ6 => frz y ρ6 fun d' ρ7 => acc.length < sizeLine ∧ K (acc ++ [d']) ρ7 else K acc ρ5) vs s.gd s.items [] (wip ρ2 vs)
        fun acc ρ8 => Q (.own (.lst acc)) (unwip ρ2 vs ρ8)
  | .lk vs t i c e, ρ, Q => ∃ ks ds, slOf ρ i = some (.own (.dk ks ds)) ∧
      lcg (fun d acc ρ3 K => take t d ρ3 fun ρ4 => wE c ρ4 fun v ρ5 => ∃ j, v = .dat (.bl j) ∧ if j = true then wE e ρ5 fun y ρ6 => frz y ρ6 fun d' ρ7 => acc.length < sizeLine ∧ K (acc ++ [d']) ρ7 else K acc ρ5) vs none (ks.map kD) [] (wip (ρ.set i none) vs)
        fun acc ρ8 => Q (.own (.lst acc)) ((unwip (ρ.set i none) vs ρ8).set i (some (.own (.dk ks ds))))
  | .lcl vs i k as, ρ, Q => wA as ρ fun ws ρ1 => walkZ false k ws ρ1 fun s ρ2 => gdOk s.gd (wip ρ2 vs) ∧ s.items.length < sizeLine ∧ Q (.own (.ll (List.replicate s.items.length []))) (unwip ρ2 vs (wip ρ2 vs))
  | .lc2 vs vs1 t k as t1 k1 as1 e, ρ, Q => wA as ρ fun ws ρ1 => walkZ false k ws ρ1 fun s ρ2 =>
      lcg (fun d acc ρ3 K => take t d ρ3 fun ρ4 => wA as1 ρ4 fun ws1 ρ5 => walkZ false k1 ws1 ρ5 fun s1 ρ6 =>
        lcg (fun d1 acc1 ρ7 K1 => take t1 d1 ρ7 fun ρ8 => wE e ρ8 fun y ρ9 => frz y ρ9 fun d' ρ10 => acc1.length < sizeLine ∧ K1 (acc1 ++ [d']) ρ10) vs1 s1.gd s1.items acc (wip ρ6 vs1) K) vs s.gd s.items [] (wip ρ2 vs)
        fun acc ρ11 => Q (.own (.lst acc)) (unwip ρ2 vs ρ11)
  | .dnew, ρ, Q => Q (.own (.dk [] [])) ρ
  | .dnewT, ρ, Q => Q (.own (.dt [] [])) ρ
  | .lrng a b, ρ, Q => wE a ρ fun v ρ1 => wE b ρ1 fun w ρ2 => ∃ i j, v = .dat (.int i) ∧ w = .dat (.int j) ∧ RgOk i j ∧ Q (.own (.lst (rngD i (j - i).toNat))) ρ2
  | .nil, _, _ => False
  | .cons _ _, _, _ => False
def wA : E → Ro → (List W → Ro → Prop) → Prop
  | .nil, ρ, Q => Q [] ρ
  | .cons a r, ρ, Q => wE a ρ fun v ρ1 => wA r ρ1 fun vs ρ2 => Q (v :: vs) ρ2
  | _, _, _ => False
end

/-! ### statements -/
structure En where
  nx : Ro → Prop
  rt : W → Ro → Prop
  bk : Ro → Prop := fun _ => False
  ct : Ro → Prop := fun _ => False
/-- names take values -/
def putAll : List Nat → List W → Ro → (Ro → Prop) → Prop
  | [], [], ρ, Q => Q ρ
  | i :: is, .own t :: ws, ρ, Q => putAll is ws ρ fun ρ' => Q (ρ'.set i (some (.own t)))
  | i :: is, w :: ws, ρ, Q => frz w ρ fun d ρ1 => putAll is ws ρ1 fun ρ' => Q (ρ'.set i (some (.dat d)))
  | _, _, _, _ => False
/-- a dict's keys and values behind d[k] = e -/
def putK {κ : Type} [DecidableEq κ] (ks : List κ) (ds : List D) (k : κ) (e : D) : List κ × List D :=
  if k ∈ ks then (ks, List.zipWith (fun k' d => if k' = k then e else d) ks ds) else (ks ++ [k], ds ++ [e])
def fors (turn : D → Ro → En → Prop) (Z : En) : List D → Ro → Prop
  | [], ρ => Z.nx ρ
  | d :: ds, ρ => turn d ρ { nx := fors turn Z ds, ct := fors turn Z ds, bk := Z.nx, rt := Z.rt }
/-- a while loop, by the number of its turns -/
def whls (c : Ro → (Bool → Ro → Prop) → Prop) (body : Ro → En → Prop) (Z : En) : Nat → Ro → Prop
  | 0, _ => False
  | n + 1, ρ => c ρ fun b ρ1 => if b = true then body ρ1 { nx := whls c body Z n, ct := whls c body Z n, bk := Z.nx, rt := Z.rt } else Z.nx ρ1
def Tg.one : Tg → Option Nat
  | .nm i => some i
  | _ => none

def isL (ρ : Ro) (i : Nat) : Prop := ∃ ds, slOf ρ i = some (.own (.lst ds))
def isLL (ρ : Ro) (i k : Nat) : Prop := ∃ dss ds, slOf ρ i = some (.own (.ll dss)) ∧ dss[k]? = some ds
def isO (ρ : Ro) (i : Nat) : Prop := ∃ t, slOf ρ i = some (.own t)
def wS : Sm → En → Ro → Prop
  | .asg t e, D, ρ => wE e ρ fun w ρ1 => match t with
    | .nm i => putAll [i] [w] ρ1 D.nx
    | t => frz w ρ1 fun d ρ2 => take t d ρ2 D.nx
  | .pars is as, D, ρ => wA as ρ fun ws ρ1 => putAll is ws ρ1 D.nx
  | .setl i a e, D, ρ => wE e ρ fun w ρ1 => frz w ρ1 fun d ρ2 => isL ρ2 i ∧ wE a ρ2 fun x ρ3 => ∃ ds, ∃ k : Nat, slOf ρ3 i = some (.own (.lst ds)) ∧ x = .dat (.int k) ∧ k < ds.length ∧ D.nx (ρ3.set i (some (.own (.lst (ds.set k d)))))
  | .setd i a e, D, ρ => wE e ρ fun w ρ1 => frz w ρ1 fun d ρ2 => isO ρ2 i ∧ wE a ρ2 fun x ρ3 => frz x ρ3 fun kd ρ4 =>
      (∃ ks ds k, slOf ρ4 i = some (.own (.dk ks ds)) ∧ keyOf kd = some k ∧ ks.length < sizeLine ∧ D.nx (ρ4.set i (some (.own (.dk (putK ks ds k d).1 (putK ks ds k d).2))))) ∨
      (∃ ks ds k, slOf ρ4 i = some (.own (.dt ks ds)) ∧ tkeyOf kd = some k ∧ ks.length < sizeLine ∧ D.nx (ρ4.set i (some (.own (.dt (putK ks ds k d).1 (putK ks ds k d).2)))))
  | .seta i op a e, D, ρ => wE a ρ fun x ρ1 => ∃ ds, ∃ k : Nat, ∃ d, slOf ρ1 i = some (.own (.lst ds)) ∧ x = .dat (.int k) ∧ ds[k]? = some d ∧ wE e ρ1 fun w ρ2 => slOf ρ2 i = some (.own (.lst ds)) ∧
      ∃ a b, d = .int a ∧ w = .dat (.int b) ∧ match op with
      | .add => D.nx (ρ2.set i (some (.own (.lst (ds.set k (.int (a + b)))))))
      | .sub => D.nx (ρ2.set i (some (.own (.lst (ds.set k (.int (a - b)))))))
      | _ => False
  | .aug i op e, D, ρ => ∃ a, slOf ρ i = some (.dat (.int a)) ∧ wE e ρ fun w ρ1 => ∃ b, w = .dat (.int b) ∧ match op with
      | .add => D.nx (ρ1.set i (some (.dat (.int (a + b)))))
      | .sub => D.nx (ρ1.set i (some (.dat (.int (a - b)))))
      | _ => False
  | .app i e, D, ρ => isL ρ i ∧ wE e ρ fun w ρ1 => frz w ρ1 fun d ρ2 => ∃ ds, slOf ρ2 i = some (.own (.lst ds)) ∧ ds.length < sizeLine ∧ D.nx (ρ2.set i (some (.own (.lst (ds ++ [d])))))
  | .app2 i a e, D, ρ => wE (.idx (.var i) a) ρ fun x ρ1 => ∃ k, x = .br2 i k ∧ isLL ρ1 i k ∧ wE e ρ1 fun w ρ2 => frz w ρ2 fun d ρ3 => ∃ dss ds, slOf ρ3 i = some (.own (.ll dss)) ∧ dss[k]? = some ds ∧ ds.length < sizeLine ∧ D.nx (ρ3.set i (some (.own (.ll (dss.set k (ds ++ [d]))))))
  | .ext i e, D, ρ => isL ρ i ∧ wE e ρ fun w ρ1 => ∃ x ds es, cv ρ1 w = some x ∧ sq x = some (true, es) ∧ slOf ρ1 i = some (.own (.lst ds)) ∧ ds.length + es.length ≤ sizeLine ∧ D.nx (ρ1.set i (some (.own (.lst (ds ++ es)))))
  | .clr i, D, ρ => ∃ ds, slOf ρ i = some (.own (.lst ds)) ∧ D.nx (ρ.set i (some (.own (.lst []))))
  | .rev i, D, ρ => ∃ ds, slOf ρ i = some (.own (.lst ds)) ∧ D.nx (ρ.set i (some (.own (.lst ds.reverse))))
  | .drop e, D, ρ => wE e ρ fun _ ρ1 => D.nx ρ1
  | .appT e a, D, ρ => wE e ρ fun w ρ1 => ∃ ds, w = .own (.lst ds) ∧ ds.length < sizeLine ∧ wE a ρ1 fun x ρ2 => frz x ρ2 fun _ ρ3 => D.nx ρ3
  | .revT e, D, ρ => wE e ρ fun w ρ1 => ∃ ds, w = .own (.lst ds) ∧ D.nx ρ1
  | .ite c a b, D, ρ => wE c ρ fun v ρ1 => ∃ k, v = .dat (.bl k) ∧ if k = true then wS a D ρ1 else wS b D ρ1
  | .whl c b, D, ρ => ∃ n, whls (fun ρ1 Q => wE c ρ1 fun v ρ2 => ∃ k, v = .dat (.bl k) ∧ Q k ρ2) (fun ρ1 D1 => wS b D1 ρ1) D n ρ
  | .for t k as body, D, ρ => wA as ρ fun ws ρ1 => walkZ true k ws ρ1 fun s ρ2 => s.gd = none ∧ fors (fun d ρ3 D1 => take t d ρ3 fun ρ4 => wS body D1 ρ4) D s.items ρ2
  | .ret e, D, ρ => wE e ρ D.rt
  | .retN, D, ρ => D.rt (.dat .non) ρ
  | .brk, D, ρ => D.bk ρ
  | .cont, D, ρ => D.ct ρ
  | .pass, D, ρ => D.nx ρ
  | .never, _, _ => False
  | .nil, D, ρ => D.nx ρ
  | .cons a r, D, ρ => wS a { D with nx := fun ρ1 => wS r D ρ1 } ρ
end Cw
/-! Cw: a weaker wish is met, too. -/
namespace Cw
open PySem PySem.Spec PyProof.Rows L2

theorem frz_mono {w : W} {ρ : Ro} {Q Q' : D → Ro → Prop} (h : ∀ d ρ, Q d ρ → Q' d ρ) (x : frz w ρ Q) : frz w ρ Q' := by
  cases w with
  | dat d => exact h _ _ x
  | own t => exact h _ _ x
  | brw i =>
    unfold frz at x ⊢
    dsimp only at x ⊢
    split at x
    · exact h _ _ x
    · exact h _ _ x
    · exact x
  | br2 i k => exact x
theorem frzs_mono : ∀ {ws : List W} {ρ : Ro} {Q Q' : List D → Ro → Prop}, (∀ d ρ, Q d ρ → Q' d ρ) → frzs ws ρ Q → frzs ws ρ Q'
  | [], _, _, _, h, x => h _ _ x
  | w :: ws, _, _, _, h, x => frz_mono (fun _ _ y => frzs_mono (fun _ _ z => h _ _ z) y) x
theorem bin_mono {op : Bop} {x y : Sl} {Q Q' : W → Prop} (h : ∀ w, Q w → Q' w) (z : bin op x y Q) : bin op x y Q' := by
  unfold bin at z ⊢
  split at z
  all_goals first
    | exact h _ z
    | exact ⟨z.1, h _ z.2⟩
    | exact z
    | skip
  · split at z
    · exact ⟨z.1, h _ z.2⟩
    · exact ⟨z.1, h _ z.2⟩
    · exact z
  · split at z
    · exact ⟨z.1, h _ z.2⟩
    · exact z
theorem cmp_mono {op : Cop} {x y : Sl} {Q Q' : Bool → Prop} (h : ∀ w, Q w → Q' w) (z : cmp op x y Q) : cmp op x y Q' := by
  cases op with
  | lt => obtain ⟨i, j, e, f, q⟩ := z; exact ⟨i, j, e, f, h _ q⟩
  | le => obtain ⟨i, j, e, f, q⟩ := z; exact ⟨i, j, e, f, h _ q⟩
  | gt => obtain ⟨i, j, e, f, q⟩ := z; exact ⟨i, j, e, f, h _ q⟩
  | ge => obtain ⟨i, j, e, f, q⟩ := z; exact ⟨i, j, e, f, h _ q⟩
  | eq => obtain ⟨e, f, q⟩ := z; exact ⟨e, f, h _ q⟩
  | ne => obtain ⟨e, f, q⟩ := z; exact ⟨e, f, h _ q⟩
  | isin =>
    unfold cmp at z ⊢; dsimp only at z ⊢
    split at z
    · obtain ⟨k, e, q⟩ := z; exact ⟨k, e, h _ q⟩
    · obtain ⟨k, e, q⟩ := z; exact ⟨k, e, h _ q⟩
    · obtain ⟨k, e, q⟩ := z; exact ⟨k, e, h _ q⟩
    · exact z
  | notin =>
    unfold cmp at z ⊢; dsimp only at z ⊢
    split at z
    · obtain ⟨k, e, q⟩ := z; exact ⟨k, e, h _ q⟩
    · obtain ⟨k, e, q⟩ := z; exact ⟨k, e, h _ q⟩
    · obtain ⟨k, e, q⟩ := z; exact ⟨k, e, h _ q⟩
    · exact z
  | is =>
    rcases z with ⟨e, d, f, q⟩ | ⟨a, b, e, f, q⟩
    · exact .inl ⟨e, d, f, h _ q⟩
    · exact .inr ⟨a, b, e, f, h _ q⟩
  | isnot =>
    rcases z with ⟨e, d, f, q⟩ | ⟨a, b, e, f, q⟩
    · exact .inl ⟨e, d, f, h _ q⟩
    · exact .inr ⟨a, b, e, f, h _ q⟩
theorem idxC_mono {x y : Sl} {Q Q' : W → Prop} (h : ∀ w, Q w → Q' w) (z : idxC x y Q) : idxC x y Q' := by
  unfold idxC at z ⊢
  split at z
  · obtain ⟨i, d, e, f, q⟩ := z; exact ⟨i, d, e, f, h _ q⟩
  · obtain ⟨i, d, e, f, q⟩ := z; exact ⟨i, d, e, f, h _ q⟩
  · obtain ⟨i, d, e, f, q⟩ := z; exact ⟨i, d, e, f, h _ q⟩
  · obtain ⟨i, d, e, f, q⟩ := z; exact ⟨i, d, e, f, h _ q⟩
  · exact z
theorem idx_mono {w : W} {ρ : Ro} {y : Sl} {Q Q' : W → Prop} (h : ∀ w, Q w → Q' w) (z : idx w ρ y Q) : idx w ρ y Q' := by
  unfold idx at z ⊢
  split at z
  · split at z
    · obtain ⟨i, e, f, q⟩ := z; exact ⟨i, e, f, h _ q⟩
    · exact idxC_mono h z
    · exact z
  · split at z
    · exact idxC_mono h z
    · exact z
theorem slc_mono {x : Sl} {l r : Option Int} {Q Q' : W → Prop} (h : ∀ w, Q w → Q' w) (z : slc x l r Q) : slc x l r Q' := by
  unfold slc at z ⊢
  split at z
  · exact h _ z
  · exact h _ z
  · exact z
theorem blt_mono {b : Blt} {xs : List Sl} {Q Q' : W → Prop} (h : ∀ w, Q w → Q' w) (z : blt b xs Q) : blt b xs Q' := by
  unfold blt at z ⊢
  split at z
  · obtain ⟨n, e, q⟩ := z; exact ⟨n, e, h _ q⟩
  · exact h _ z
  · exact h _ z
  · exact h _ z
  · exact h _ z
  · exact h _ z
  · obtain ⟨ds, ns, e, f, g, q⟩ := z; exact ⟨ds, ns, e, f, g, fun m a b => h _ (q m a b)⟩
  · obtain ⟨ds, ns, e, f, g, q⟩ := z; exact ⟨ds, ns, e, f, g, fun m a b => h _ (q m a b)⟩
  · obtain ⟨ds, ns, e, f, q⟩ := z; exact ⟨ds, ns, e, f, fun m a b => h _ (q m a b)⟩
  · obtain ⟨k, ds, e, q⟩ := z; exact ⟨k, ds, e, h _ q⟩
  · obtain ⟨k, ds, e, q⟩ := z; exact ⟨k, ds, e, h _ q⟩
  · obtain ⟨a, b, c, q⟩ := z; exact ⟨a, b, c, h _ q⟩
  · exact z
theorem pass_mono : ∀ {ms : List Bool} {ws : List W} {ρ : Ro} {Q Q' : List Sl → List (Option Nat) → Ro → Prop}, (∀ a b c, Q a b c → Q' a b c) → pass ms ws ρ Q → pass ms ws ρ Q'
  | [], [], _, _, _, h, x => h _ _ _ x
  | [], _ :: _, _, _, _, _, x => by unfold pass at x; exact x.elim
  | true :: _, [], _, _, _, _, x => by unfold pass at x; exact x.elim
  | false :: _, [], _, _, _, _, x => by unfold pass at x; exact x.elim
  | true :: ms, .brw i :: ws, ρ, _, _, h, x => by
    unfold pass at x ⊢
    split at x
    · exact pass_mono (fun _ _ _ z => ⟨z.1, z.2.1, h _ _ _ z.2.2⟩) x
    · exact pass_mono (fun _ _ _ z => h _ _ _ z) x
    · exact x
  | true :: ms, .own t :: ws, ρ, _, _, h, x => by
    unfold pass at x ⊢
    exact pass_mono (fun _ _ _ z => h _ _ _ z) x
  | true :: ms, .dat t :: ws, ρ, _, _, h, x => by
    unfold pass at x ⊢
    exact pass_mono (fun _ _ _ z => h _ _ _ z) x
  | true :: ms, .br2 i k :: ws, ρ, _, _, h, x => by unfold pass at x; exact x.elim
  | false :: ms, w :: ws, ρ, _, _, h, x => by
    unfold pass at x ⊢
    exact frz_mono (fun _ _ y => pass_mono (fun _ _ _ z => h _ _ _ z) y) x
theorem callF_mono {F : Fn} {ws : List W} {ρ : Ro} {Q Q' : W → Ro → Prop} (h : ∀ w ρ, Q w ρ → Q' w ρ) (x : callF F ws ρ Q) : callF F ws ρ Q' :=
  pass_mono (fun _ _ _ z => F.mono _ _ _ (fun _ _ y => ⟨y.1, h _ _ y.2⟩) z) x
theorem srcOf_mono {w : W} {ρ : Ro} {Q Q' : Src → Ro → Prop} (h : ∀ s ρ, Q s ρ → Q' s ρ) (x : srcOf w ρ Q) : srcOf w ρ Q' := by
  unfold srcOf at x ⊢
  split at x
  · split at x
    · exact h _ _ x
    · exact h _ _ x
    · exact h _ _ x
    · exact x
  · exact h _ _ x
  · exact h _ _ x
  · exact h _ _ x
  · exact x
theorem walk_mono {k : Ik} {ws : List W} {ρ : Ro} {Q Q' : Src → Ro → Prop} (h : ∀ s ρ, Q s ρ → Q' s ρ) (x : walk k ws ρ Q) : walk k ws ρ Q' := by
  unfold walk at x ⊢
  split at x
  · exact srcOf_mono h x
  · obtain ⟨j, e, f, q⟩ := x; exact ⟨j, e, f, h _ _ q⟩
  · obtain ⟨i, j, e, f, g, g', q⟩ := x; exact ⟨i, j, e, f, g, g', h _ _ q⟩
  · obtain ⟨ds, q⟩ := x; exact ⟨ds, srcOf_mono (fun _ _ z => ⟨z.1, z.2.1, h _ _ z.2.2⟩) q⟩
  · obtain ⟨b, xs, ys, q⟩ := x
    exact ⟨b, xs, ys, frz_mono (fun _ _ z => frz_mono (fun _ _ z' => ⟨z'.1, z'.2.1, h _ _ z'.2.2⟩) z) q⟩
  · exact x
theorem walkZ_mono {z : Bool} {k : Ik} {ws : List W} {ρ : Ro} {Q Q' : Src → Ro → Prop} (h : ∀ s ρ, Q s ρ → Q' s ρ) (x : walkZ z k ws ρ Q) : walkZ z k ws ρ Q' := by
  cases z with
  | false => exact walk_mono h x
  | true => exact frzs_mono (fun _ _ y => walk_mono h y) x
theorem take_mono : ∀ {t : Tg} {d : D} {ρ : Ro} {Q Q' : Ro → Prop}, (∀ ρ, Q ρ → Q' ρ) → take t d ρ Q → take t d ρ Q'
  | .nm i, _, _, _, _, h, x => by unfold take at x ⊢; exact h _ x
  | .tp .nil, _, _, _, _, h, x => by unfold take at x ⊢; exact ⟨x.1, h _ x.2⟩
  | .tp (.cons t r), d, _, _, _, h, x => by
    unfold take at x ⊢
    obtain ⟨y, ys, e, q⟩ := x
    exact ⟨y, ys, e, take_mono (fun _ z => take_mono h z) q⟩
  | .tp (.nm _), _, _, _, _, h, x => by unfold take at x; exact x.elim
  | .tp (.tp _), _, _, _, _, h, x => by unfold take at x; exact x.elim
  | .nil, _, _, _, _, h, x => by unfold take at x ⊢; exact ⟨x.1, h _ x.2⟩
  | .cons t r, d, _, _, _, h, x => by
    unfold take at x ⊢
    obtain ⟨y, ys, e, q⟩ := x
    exact ⟨y, ys, e, take_mono (fun _ z => take_mono h z) q⟩
theorem lcg_mono {turn turn' : D → List D → Ro → (List D → Ro → Prop) → Prop} (ht : ∀ d acc ρ K K', (∀ a ρ, K a ρ → K' a ρ) → turn d acc ρ K → turn' d acc ρ K') {vs : List Nat} {g : Option (Nat × Ot)} {Q Q' : List D → Ro → Prop} (h : ∀ a ρ, Q a ρ → Q' a ρ) :
    ∀ {ds acc : List D} {ρ : Ro}, lcg turn vs g ds acc ρ Q → lcg turn' vs g ds acc ρ Q'
  | [], acc, ρ, x => ⟨x.1, h _ _ x.2⟩
  | d :: ds, acc, ρ, x => ⟨x.1, ht _ _ _ _ _ (fun _ _ z => lcg_mono ht h z) x.2⟩
theorem if_mono {b : Bool} {A B A' B' : Prop} (ha : A → A') (hb : B → B') (x : if b = true then A else B) : if b = true then A' else B' := by
  cases b with
  | true => exact ha x
  | false => exact hb x
mutual
theorem wE_mono : ∀ (e : E) (ρ : Ro) (Q Q' : W → Ro → Prop), (∀ w ρ, Q w ρ → Q' w ρ) → wE e ρ Q → wE e ρ Q'
  | .var i, ρ, Q, Q', h, x => by
    unfold wE at x ⊢
    split at x
    · exact h _ _ x
    · exact h _ _ x
    · exact x
  | .int n, ρ, Q, Q', h, x => by unfold wE at x ⊢; exact h _ _ x
  | .bl n, ρ, Q, Q', h, x => by unfold wE at x ⊢; exact h _ _ x
  | .non, ρ, Q, Q', h, x => by unfold wE at x ⊢; exact h _ _ x
  | .str n, ρ, Q, Q', h, x => by unfold wE at x ⊢; exact h _ _ x
  | .bin op a b, ρ, Q, Q', h, x => by
    unfold wE at x ⊢
    exact wE_mono a _ _ _ (fun _ _ y => wE_mono b _ _ _ (fun _ _ ⟨u, v, e, f, z⟩ => ⟨u, v, e, f, bin_mono (fun _ q => h _ _ q) z⟩) y) x
  | .neg a, ρ, Q, Q', h, x => by
    unfold wE at x ⊢
    exact wE_mono a _ _ _ (fun _ _ ⟨i, e, q⟩ => ⟨i, e, h _ _ q⟩) x
  | .cmp op a b, ρ, Q, Q', h, x => by
    unfold wE at x ⊢
    exact wE_mono a _ _ _ (fun _ _ y => wE_mono b _ _ _ (fun _ _ ⟨u, v, e, f, z⟩ => ⟨u, v, e, f, cmp_mono (fun _ q => h _ _ q) z⟩) y) x
  | .chn o p a b c, ρ, Q, Q', h, x => by
    unfold wE at x ⊢
    exact wE_mono a _ _ _ (fun _ _ y => wE_mono b _ _ _ (fun _ _ ⟨u, v, e, f, z⟩ => ⟨u, v, e, f, cmp_mono (fun _ q => if_mono (fun q => wE_mono c _ _ _ (fun _ _ ⟨u', v', e', f', z'⟩ => ⟨u', v', e', f', cmp_mono (fun _ q' => h _ _ q') z'⟩) q) (fun q => h _ _ q) q) z⟩) y) x
  | .and a b, ρ, Q, Q', h, x => by
    unfold wE at x ⊢
    exact wE_mono a _ _ _ (fun _ _ ⟨k, e, y⟩ => ⟨k, e, if_mono (fun q => wE_mono b _ _ _ (fun _ _ ⟨k', e', z⟩ => ⟨k', e', h _ _ z⟩) q) (fun q => h _ _ q) y⟩) x
  | .or a b, ρ, Q, Q', h, x => by
    unfold wE at x ⊢
    exact wE_mono a _ _ _ (fun _ _ ⟨k, e, y⟩ => ⟨k, e, if_mono (fun q => h _ _ q) (fun q => wE_mono b _ _ _ (fun _ _ ⟨k', e', z⟩ => ⟨k', e', h _ _ z⟩) q) y⟩) x
  | .not a, ρ, Q, Q', h, x => by
    unfold wE at x ⊢
    exact wE_mono a _ _ _ (fun _ _ ⟨i, e, q⟩ => ⟨i, e, h _ _ q⟩) x
  | .ite c a b, ρ, Q, Q', h, x => by
    unfold wE at x ⊢
    exact wE_mono c _ _ _ (fun _ _ ⟨k, e, y⟩ => ⟨k, e, if_mono (fun q => wE_mono a _ _ _ h q) (fun q => wE_mono b _ _ _ h q) y⟩) x
  | .tup as, ρ, Q, Q', h, x => by
    unfold wE at x ⊢
    exact wA_mono as _ _ _ (fun _ _ y => frzs_mono (fun _ _ z => ⟨z.1, h _ _ z.2⟩) y) x
  | .lst as, ρ, Q, Q', h, x => by
    unfold wE at x ⊢
    exact wA_mono as _ _ _ (fun _ _ y => frzs_mono (fun _ _ z => ⟨z.1, h _ _ z.2⟩) y) x
  | .lsl as, ρ, Q, Q', h, x => by
    unfold wE at x ⊢
    exact wA_mono as _ _ _ (fun _ _ ⟨d, e, f, y⟩ => ⟨d, e, f, h _ _ y⟩) x
  | .call F as, ρ, Q, Q', h, x => by
    unfold wE at x ⊢
    exact wA_mono as _ _ _ (fun _ _ y => callF_mono h y) x
  | .meth F cl a as, ρ, Q, Q', h, x => by
    unfold wE at x ⊢
    exact wE_mono a _ _ _ (fun _ _ ⟨fs, e, y⟩ => ⟨fs, e, wA_mono as _ _ _ (fun _ _ z => callF_mono h z) y⟩) x
  | .prop F cl a, ρ, Q, Q', h, x => by
    unfold wE at x ⊢
    exact wE_mono a _ _ _ (fun _ _ ⟨fs, e, y⟩ => ⟨fs, e, callF_mono h y⟩) x
  | .eqw n F cl a b, ρ, Q, Q', h, x => by
    unfold wE at x ⊢
    exact wE_mono a _ _ _ (fun _ _ y => wE_mono b _ _ _ (fun _ _ ⟨fs, e, z⟩ => ⟨fs, e, frz_mono (fun _ _ z => ⟨z.1, callF_mono (fun _ _ ⟨k, e, q⟩ => ⟨k, e, h _ _ q⟩) z.2⟩) z⟩) y) x
  | .blt b as, ρ, Q, Q', h, x => by
    unfold wE at x ⊢
    exact wA_mono as _ _ _ (fun _ _ ⟨xs, e, y⟩ => ⟨xs, e, blt_mono (fun _ q => h _ _ q) y⟩) x
  | .isa a c, ρ, Q, Q', h, x => by
    unfold wE at x ⊢
    exact wE_mono a _ _ _ (fun _ _ ⟨y, k, e, f, q⟩ => ⟨y, k, e, f, h _ _ q⟩) x
  | .fld c k a, ρ, Q, Q', h, x => by
    unfold wE at x ⊢
    exact wE_mono a _ _ _ (fun _ _ ⟨y, k, e, f, q⟩ => ⟨y, k, e, f, h _ _ q⟩) x
  | .idx a b, ρ, Q, Q', h, x => by
    unfold wE at x ⊢
    exact wE_mono a _ _ _ (fun _ _ y => wE_mono b _ _ _ (fun _ _ ⟨u, e, z⟩ => ⟨u, e, idx_mono (fun _ q => h _ _ q) z⟩) y) x
  | .slc a lo hi, ρ, Q, Q', h, x => by
    unfold wE at x ⊢
    refine wE_mono a _ _ _ (fun v ρ1 y => ?_) x
    dsimp only at y ⊢
    have k3 : ∀ (l r : Option Int) ρ3, (∃ x, cv ρ3 v = some x ∧ slc x l r fun r => Q r ρ3) → ∃ x, cv ρ3 v = some x ∧ slc x l r fun r => Q' r ρ3 := fun l r ρ3 ⟨x, e, z⟩ => ⟨x, e, slc_mono (fun _ q => h _ _ q) z⟩
    have k2 : ∀ (l : Option Int) ρ2, (if hi.isNil = true then ∃ x, cv ρ2 v = some x ∧ slc x l none fun r => Q r ρ2 else wE hi ρ2 fun l' ρ3 => ∃ i, l' = .dat (.int i) ∧ ∃ x, cv ρ3 v = some x ∧ slc x l (some i) fun r => Q r ρ3) →
        (if hi.isNil = true then ∃ x, cv ρ2 v = some x ∧ slc x l none fun r => Q' r ρ2 else wE hi ρ2 fun l' ρ3 => ∃ i, l' = .dat (.int i) ∧ ∃ x, cv ρ3 v = some x ∧ slc x l (some i) fun r => Q' r ρ3) := fun l ρ2 => if_mono (k3 _ _ _) fun q => wE_mono hi _ _ _ (fun _ _ ⟨i, e, z⟩ => ⟨i, e, k3 _ _ _ z⟩) q
    exact if_mono (k2 _ _) (fun q => wE_mono lo _ _ _ (fun _ _ ⟨i, e, z⟩ => ⟨i, e, k2 _ _ z⟩) q) y
  | .pop i, ρ, Q, Q', h, x => by
    unfold wE at x ⊢
    obtain ⟨ds, d, e, q⟩ := x
    exact ⟨ds, d, e, h _ _ q⟩
  | .popat i a, ρ, Q, Q', h, x => by
    unfold wE at x ⊢
    exact ⟨x.1, wE_mono a _ _ _ (fun _ _ ⟨ds, d, k, e1, e2, e3, e4, q⟩ => ⟨ds, d, k, e1, e2, e3, e4, h _ _ q⟩) x.2⟩
  | .lc vs t k as c e, ρ, Q, Q', h, x => by
    unfold wE at x ⊢
    refine wA_mono as _ _ _ (fun _ _ y => walkZ_mono (fun s ρ2 z => ?_) y) x
    refine lcg_mono (fun d acc ρ K K' hk q => ?_) (fun _ _ q => h _ _ q) z
    exact take_mono (fun _ q => wE_mono c _ _ _ (fun _ _ ⟨j, e', q⟩ => ⟨j, e', if_mono (fun q => wE_mono e _ _ _ (fun _ _ q => frz_mono (fun _ _ q => ⟨q.1, hk _ _ q.2⟩) q) q) (hk _ _) q⟩) q) q
  | .lk vs t i c e, ρ, Q, Q', h, x => by
    unfold wE at x ⊢
    obtain ⟨ks, ds, e1, z⟩ := x
    refine ⟨ks, ds, e1, lcg_mono (fun d acc ρ K K' hk q => ?_) (fun _ _ q => h _ _ q) z⟩
    exact take_mono (fun _ q => wE_mono c _ _ _ (fun _ _ ⟨j, e', q⟩ => ⟨j, e', if_mono (fun q => wE_mono e _ _ _ (fun _ _ q => frz_mono (fun _ _ q => ⟨q.1, hk _ _ q.2⟩) q) q) (hk _ _) q⟩) q) q
  | .lcl vs i k as, ρ, Q, Q', h, x => by
    unfold wE at x ⊢
    exact wA_mono as _ _ _ (fun _ _ y => walkZ_mono (fun s ρ2 z => ⟨z.1, z.2.1, h _ _ z.2.2⟩) y) x
  | .lc2 vs vs1 t k as t1 k1 as1 e, ρ, Q, Q', h, x => by
    unfold wE at x ⊢
    refine wA_mono as _ _ _ (fun _ _ y => walkZ_mono (fun s ρ2 z => ?_) y) x
    refine lcg_mono (fun d acc ρ K K' hk q => ?_) (fun _ _ q => h _ _ q) z
    refine take_mono (fun _ q => wA_mono as1 _ _ _ (fun _ _ q => walkZ_mono (fun s1 ρ3 q => ?_) q) q) q
    refine lcg_mono (fun d1 acc1 ρ K1 K1' hk1 q => ?_) hk q
    exact take_mono (fun _ q => wE_mono e _ _ _ (fun _ _ q => frz_mono (fun _ _ q => ⟨q.1, hk1 _ _ q.2⟩) q) q) q
  | .dnew, ρ, Q, Q', h, x => by unfold wE at x ⊢; exact h _ _ x
  | .dnewT, ρ, Q, Q', h, x => by unfold wE at x ⊢; exact h _ _ x
  | .lrng a b, ρ, Q, Q', h, x => by
    unfold wE at x ⊢
    exact wE_mono a _ _ _ (fun _ _ y => wE_mono b _ _ _ (fun _ _ ⟨i, j, e, f, g, q⟩ => ⟨i, j, e, f, g, h _ _ q⟩) y) x
  | .nil, ρ, Q, Q', h, x => by unfold wE at x; exact x.elim
  | .cons _ _, ρ, Q, Q', h, x => by unfold wE at x; exact x.elim
theorem wA_mono : ∀ (e : E) (ρ : Ro) (Q Q' : List W → Ro → Prop), (∀ w ρ, Q w ρ → Q' w ρ) → wA e ρ Q → wA e ρ Q'
  | .nil, ρ, Q, Q', h, x => by unfold wA at x ⊢; exact h _ _ x
  | .cons a r, ρ, Q, Q', h, x => by
    unfold wA at x ⊢
    exact wE_mono a _ _ _ (fun _ _ y => wA_mono r _ _ _ (fun _ _ z => h _ _ z) y) x
  | .var _, _, _, _, _, x | .int _, _, _, _, _, x | .bl _, _, _, _, _, x | .non, _, _, _, _, x | .str _, _, _, _, _, x | .bin _ _ _, _, _, _, _, x | .neg _, _, _, _, _, x
  | .cmp _ _ _, _, _, _, _, x | .chn _ _ _ _ _, _, _, _, _, x | .and _ _, _, _, _, _, x | .or _ _, _, _, _, _, x | .not _, _, _, _, _, x | .ite _ _ _, _, _, _, _, x
  | .tup _, _, _, _, _, x | .lst _, _, _, _, _, x | .lsl _, _, _, _, _, x | .call _ _, _, _, _, _, x | .meth _ _ _ _, _, _, _, _, x | .prop _ _ _, _, _, _, _, x | .eqw _ _ _ _ _, _, _, _, _, x
  | .blt _ _, _, _, _, _, x | .isa _ _, _, _, _, _, x | .fld _ _ _, _, _, _, _, x | .idx _ _, _, _, _, _, x | .slc _ _ _, _, _, _, _, x | .pop _, _, _, _, _, x | .popat _ _, _, _, _, _, x
  | .lc _ _ _ _ _ _, _, _, _, _, x | .lcl _ _ _ _, _, _, _, _, x | .lk _ _ _ _ _, _, _, _, _, x | .lc2 _ _ _ _ _ _ _ _ _, _, _, _, _, x | .dnew, _, _, _, _, x | .dnewT, _, _, _, _, x | .lrng _ _, _, _, _, _, x => by unfold wA at x; exact x.elim
end
end Cw
/-! Cw: operators, comparisons, subscripts, built-ins: by values. -/
namespace Cw
open PySem PySem.Spec PyProof.Rows L2

/-! ### contents in the heap -/
def RepC (T : Tbl) (G H : Hp) (v : V) : Sl → Prop
  | .dat d => Rep T G d v
  | .own t => ∃ p r, v = .ref p ∧ RepO T G H p r t
/-- a new value's claim -/
def RepR (T : Tbl) (G H : Hp) (v : V) (qs : List Addr) : W → Prop
  | .dat d => qs = [] ∧ Rep T G d v
  | .own t => ∃ p r, qs = p :: r ∧ v = .ref p ∧ RepO T G H p r t
  | _ => False
/-- Q holds of every value told by w, over every heap that has new objects beside the old ones -/
def Res (T : Tbl) (G H : Hp) (Q : VK) (w : W) : Prop := ∀ v qs G' H', Ex H H' → Ex G G' → Ex G' H' → (∀ a o, H a = some o → G' a = G a) → RepR T G' H' v qs w → qs.Nodup → (∀ a ∈ qs, H a = none ∧ G' a = none) → Q v H'

section
variable {T : Tbl} {G H : Hp} {v : V} {x : Sl} {Q : VK}
theorem Res.dat (eg : Ex G H) {d : D} (h : Res T G H Q (.dat d)) (r : Rep T G d v) : Q v H :=
  h v [] G H (Ex.refl _) (Ex.refl _) eg (fun _ _ _ => rfl) ⟨rfl, r⟩ List.nodup_nil (fun _ z => by cases z)
/-- a new tuple -/
theorem Res.tup (eg : Ex G H) {ds : List D} (h : Res T G H Q (.dat (.tup ds))) {p : Addr} (hp : H p = none) {us : List V} (r : RepL T G ds us) : Q (.ref p) (upd H p (.tup us)) := by
  have gp : G p = none := eg.none hp
  refine h (.ref p) [] (upd G p (.tup us)) _ (Ex.new hp) (Ex.new gp) (fun a o e => ?_) (fun a o e => upd_ne (ne_of_none e hp)) ⟨rfl, Rep.tup upd_same (RepL.mono (Ex.new gp) _ _ r)⟩ List.nodup_nil (fun _ z => by cases z)
  by_cases ha : a = p
  · subst ha; rw [upd_same] at e ⊢; exact e
  · rw [upd_ne ha] at e ⊢; exact eg a o e
/-- a new list -/
theorem Res.lst (eg : Ex G H) {ds : List D} (h : Res T G H Q (.own (.lst ds))) {p : Addr} (hp : H p = none) {us : List V} (r : RepL T G ds us) : Q (.ref p) (upd H p (.lst us)) :=
  h (.ref p) [p] G _ (Ex.new hp) (Ex.refl _) (eg.trans (Ex.new hp)) (fun _ _ _ => rfl) ⟨p, [], rfl, rfl, rfl, us, upd_same, r⟩ (by simp) (fun a ha => by
    have e : a = p := by simpa using ha
    subst e; exact ⟨hp, eg.none hp⟩)
theorem RepI.toH (e : Ex G H) : ∀ {dss : List (List D)} {qs : List Addr}, RepI T G H dss qs → RepL T H (dss.map .lst) (qs.map V.ref) := fun h => h.frz e fun _ _ _ q => q
theorem RepC.toH (e : Ex G H) (h : RepC T G H v x) : Rep T H x.toD v := by
  cases x with
  | dat d => exact Rep.mono e _ _ h
  | own t =>
    obtain ⟨p, r, rfl, ho⟩ := h
    exact ho.frz e fun _ _ _ q => q
theorem sq_rep {b : Bool} {ds : List D} (h : RepC T G H v x) (e : Ex G H) (hs : sq x = some (b, ds)) :
    ∃ p us, v = .ref p ∧ RepL T G ds us ∧ (b = true → H p = some (.lst us)) ∧ (b = false → H p = some (.tup us)) := by
  cases x with
  | dat d =>
    cases d with
    | tup es =>
      obtain ⟨p, us, e1, e2, e3⟩ := Rep.tup_inv h
      cases hs
      exact ⟨p, us, e1, e3, (fun q => by cases q), fun _ => e _ _ e2⟩
    | lst es =>
      obtain ⟨p, us, e1, e2, e3⟩ := Rep.lst_inv h
      cases hs
      exact ⟨p, us, e1, e3, fun _ => e _ _ e2, fun q => by cases q⟩
    | _ => cases hs
  | own t =>
    cases t with
    | lst es =>
      obtain ⟨p, r, e1, e2, us, e3, e4⟩ := h
      cases hs
      exact ⟨p, us, e1, e4, fun _ => e3, fun q => by cases q⟩
    | _ => cases hs
theorem dk_rep {ks : List Key} {ds : List D} (h : RepC T G H v x) (e : Ex G H) (hs : dkOf x = some (ks, ds)) : ∃ p us, v = .ref p ∧ RepL T G ds us ∧ ks.length = us.length ∧ H p = some (.dK (ks.zip us)) := by
  cases x with
  | dat d =>
    cases d with
    | dk ks' es =>
      obtain ⟨p, us, e1, e2, e4, e3⟩ := Rep.dk_inv h
      cases hs
      exact ⟨p, us, e1, e3, e4, e _ _ e2⟩
    | _ => cases hs
  | own t =>
    cases t with
    | dk ks' es =>
      obtain ⟨p, r, e1, e2, us, e3, e5, e4⟩ := h
      cases hs
      exact ⟨p, us, e1, e4, e5, e3⟩
    | _ => cases hs
theorem dt_rep {ks : List (List Key)} {ds : List D} (h : RepC T G H v x) (e : Ex G H) (hs : dtOf x = some (ks, ds)) : ∃ p us, v = .ref p ∧ RepL T G ds us ∧ ks.length = us.length ∧ H p = some (.dT (ks.zip us)) := by
  cases x with
  | dat d =>
    cases d with
    | dt ks' es =>
      obtain ⟨p, us, e1, e2, e4, e3⟩ := Rep.dt_inv h
      cases hs
      exact ⟨p, us, e1, e3, e4, e _ _ e2⟩
    | _ => cases hs
  | own t =>
    cases t with
    | dt ks' es =>
      obtain ⟨p, r, e1, e2, us, e3, e5, e4⟩ := h
      cases hs
      exact ⟨p, us, e1, e4, e5, e3⟩
    | _ => cases hs
theorem key_rep {d : D} {k : Key} (h : Rep T H d v) (e : keyOf d = some k) : v = kV k := by
  cases d with
  | int i => rw [h.int_inv]; cases e; rfl
  | str s => rw [h.str_inv]; cases e; rfl
  | _ => cases e
theorem keys_rep : ∀ {ds : List D} {ks : List Key} {us : List V}, RepL T H ds us → keysOf ds = some ks → us = ks.map kV
  | [], ks, us, h, e => by rw [h.nil_inv]; cases e; rfl
  | d :: ds, ks, us, h, e => by
    obtain ⟨w, r, rfl, h1, h2⟩ := h.cons_inv
    unfold keysOf at e
    split at e
    · rename_i k ks' e1 e2
      cases e
      rw [key_rep h1 e1, keys_rep h2 e2]; rfl
    · cases e
theorem tkey_rep {d : D} {k : List Key} (h : Rep T H d v) (e : tkeyOf d = some k) : ∃ b, v = .ref b ∧ H b = some (.tup (k.map kV)) := by
  cases d with
  | tup ds =>
    obtain ⟨p, us, e1, e2, e3⟩ := h.tup_inv
    exact ⟨p, e1, by rw [e2, keys_rep e3 e]⟩
  | _ => cases e
theorem look_rep {κ : Type} [DecidableEq κ] : ∀ {ks : List κ} {ds : List D} {us : List V} {k : κ}, RepL T G ds us → ks.length = us.length →
    (look ks ds k = none → valV (ks.zip us) k = none) ∧ ∀ d, look ks ds k = some d → ∃ u, valV (ks.zip us) k = some u ∧ Rep T G d u
  | [], ds, us, k, h, e => by
    refine ⟨fun _ => by simp [valV], fun d q => by simp [look] at q⟩
  | k0 :: ks, [], us, k, h, e => by rw [h.nil_inv] at e; cases e
  | k0 :: ks, d0 :: ds, us, k, h, e => by
    obtain ⟨w, r, rfl, h1, h2⟩ := h.cons_inv
    have ih := look_rep (k := k) h2 (by simpa using e : ks.length = r.length)
    by_cases hk : k0 = k
    · refine ⟨fun q => ?_, fun d q => ?_⟩
      · simp [look, hk] at q
      · have : d0 = d := by simpa [look, hk] using q
        subst this
        exact ⟨w, by simp [valV, hk], h1⟩
    · have e1 : look (k0 :: ks) (d0 :: ds) k = look ks ds k := by simp [look, hk]
      have e2 : valV ((k0 :: ks).zip (w :: r)) k = valV (ks.zip r) k := by simp [valV, hk]
      rw [e1, e2]
      exact ih
theorem look_some {κ : Type} [DecidableEq κ] {ks : List κ} {ds : List D} {us : List V} {k : κ} (h : RepL T G ds us) (e : ks.length = us.length) : (valV (ks.zip us) k).isSome = (look ks ds k).isSome := by
  have q := look_rep (k := k) h e
  cases c : look ks ds k with
  | none => rw [q.1 c]; rfl
  | some d =>
    obtain ⟨u, hu, _⟩ := q.2 d c
    rw [hu]; rfl
mutual
theorem Rep.dp : ∀ (d : D) (v : V), (pyOf d).canLay0 = true → Rep T H d v → Dp T.K H v (pyOf d)
  | .non, v, _, h => by rw [h.non_inv]; exact .non
  | .bl b, v, _, h => by rw [h.bl_inv]; exact .bl b
  | .int b, v, _, h => by rw [h.int_inv]; exact .int b
  | .str b, v, _, h => by rw [h.str_inv]; exact .str b
  | .tup ds, v, c, h => by
    obtain ⟨p, us, rfl, e2, e3⟩ := h.tup_inv
    exact .tup (SqT.of e2) (RepL.dp ds us c e3)
  | .lst ds, v, c, h => by
    obtain ⟨p, us, rfl, e2, e3⟩ := h.lst_inv
    exact .lst (SqL.of e2) (RepL.dp ds us c e3)
  | .dk _ _, v, c, h => by cases c
  | .dt _ _, v, c, h => by cases c
  | .ins _ _, v, c, h => by cases c
  | .scr _, v, c, h => by cases c
theorem RepL.dp : ∀ (ds : List D) (us : List V), PyData.canLayAll0 (pyAll ds) = true → RepL T H ds us → DpAll T.K H us (pyAll ds)
  | [], us, _, h => by rw [h.nil_inv]; exact .nil
  | d :: ds, us, c, h => by
    obtain ⟨w, r, rfl, h1, h2⟩ := h.cons_inv
    have c' : ((pyOf d).canLay0 && PyData.canLayAll0 (pyAll ds)) = true := c
    rw [Bool.and_eq_true] at c'
    exact .cons (Rep.dp d w c'.1 h1) (RepL.dp ds r c'.2 h2)
end
theorem shp_lay {d : D} (h : shp d = true) : (pyOf d).canLay0 = true := SeqAt.canLay_of_shaped h
end

/-! ### operators -/
def bopA : Bop → Operator
  | .add => .Add | .sub => .Sub | .mul => .Mult | .fdiv => .FloorDiv | .mod => .Mod | .pow => .Pow
def copA : Cop → CmpOp
  | .eq => .Eq | .ne => .NotEq | .lt => .Lt | .le => .LtE | .gt => .Gt | .ge => .GtE | .isin => .In | .notin => .NotIn | .is => .Is | .isnot => .IsNot
theorem op_powW {X : Cx} : OpR X (binaryOp .Pow) (rI CPowW fun i j => .int (i ^ j.toNat)) := opI fun _ _ _ _ _ _ _ hc q => pow_int hc.1 hc.2 q
def rBin (T : Tbl) (op : Bop) : R2 := fun x y H Q => ∃ G sx sy, Ex G H ∧ RepC T G H x sx ∧ RepC T G H y sy ∧ bin op sx sy (Res T G H Q)
def rCmp (T : Tbl) (op : Cop) : R2 := fun x y H Q => ∃ G sx sy, Ex G H ∧ RepC T G H x sx ∧ RepC T G H y sy ∧ cmp op sx sy (fun b => Q (.bl b) H)
theorem cutV_rep {T : Tbl} {G : Hp} {ds : List D} {us : List V} (h : RepL T G ds us) (lo hi : Option Int) : RepL T G (cutD ds lo hi) (cutV us lo hi) := by
  unfold cutD cutV
  rw [h.len]
  exact (h.drop _).take _
section
variable {X : Cx} {T : Tbl}
theorem op_catD (k : X.K = T.K) {pins : List (Addr × Obj)} {s : Shared} {σ : L2.St} {H : Hp} {x y : V} {v u : Value} {Q : VK} (I : Inv X pins σ H s) (rx : RelV x v) (ry : RelV y u) {G : Hp} {sx sy : Sl} (eg : Ex G H) (hx : RepC T G H x sx) (hy : RepC T G H y sy)
    (h : match sq sx, sq sy with
      | some (true, xs), some (true, ys) => xs.length + ys.length ≤ sizeLine ∧ Res T G H Q (.own (.lst (xs ++ ys)))
      | some (false, xs), some (false, ys) => xs.length + ys.length ≤ sizeLine ∧ Res T G H Q (.dat (.tup (xs ++ ys)))
      | _, _ => False) : wpAny (model X.prog X.w) X.A (binaryOp .Add v u) (EP X pins σ Q) X.xe s := by
  split at h
  · rename_i xs ys e1 e2
    obtain ⟨p, us, rfl, r1, h1, _⟩ := sq_rep hx eg e1
    obtain ⟨q, ws, rfl, r2, h2, _⟩ := sq_rep hy eg e2
    refine op_cat pins s σ H _ _ v u Q I rx ry ⟨p, q, us, ws, rfl, rfl, h1 rfl, h2 rfl, ?_, fun l hl => ?_⟩
    · rw [← r1.len, ← r2.len]; exact h.1
    · exact Res.lst eg h.2 hl (r1.app r2)
  · rename_i xs ys e1 e2
    obtain ⟨p, us, rfl, r1, _, h1⟩ := sq_rep hx eg e1
    obtain ⟨q, ws, rfl, r2, _, h2⟩ := sq_rep hy eg e2
    refine op_catA pins s σ H _ _ v u Q I rx ry ⟨p, q, us, ws, rfl, rfl, SqT.of (h1 rfl), SqT.of (h2 rfl), ?_, fun z => ?_, fun _ z => ?_, fun _ _ l hl => ?_⟩
    · rw [← r1.len, ← r2.len]; exact h.1
    · have z' : xs = [] := by
        have := r1.len
        rw [z] at this
        exact List.eq_nil_of_length_eq_zero this
      subst z'
      have hy' : Rep T G (.tup ys) (.ref q) := by
        cases sy with
        | dat d =>
          cases d with
          | tup es => cases e2; exact hy
          | _ => cases e2
        | own t => cases t <;> cases e2
      exact Res.dat eg h.2 hy'
    · have z' : ys = [] := by
        have := r2.len
        rw [z] at this
        exact List.eq_nil_of_length_eq_zero this
      subst z'
      have hx' : Rep T G (.tup xs) (.ref p) := by
        cases sx with
        | dat d =>
          cases d with
          | tup es => cases e1; exact hx
          | _ => cases e1
        | own t => cases t <;> cases e1
      have h' := h.2
      rw [List.append_nil] at h'
      exact Res.dat eg h' hx'
    · exact Res.tup eg h.2 hl (r1.app r2)
  · exact h.elim
theorem op_bin (k : X.K = T.K) (op : Bop) : OpR X (binaryOp (bopA op)) (rBin T op) := by
  intro pins s σ H x y v u Q I rx ry h
  obtain ⟨G, sx, sy, eg, hx, hy, h⟩ := h
  unfold bin at h
  split at h
  · obtain rfl := Rep.int_inv (T := T) (G := G) hx; obtain rfl := Rep.int_inv (T := T) (G := G) hy
    exact op_add pins s σ H _ _ v u Q I rx ry ⟨_, _, rfl, rfl, Res.dat eg h Rep.int⟩
  · obtain rfl := Rep.int_inv (T := T) (G := G) hx; obtain rfl := Rep.int_inv (T := T) (G := G) hy
    exact op_sub pins s σ H _ _ v u Q I rx ry ⟨_, _, rfl, rfl, Res.dat eg h Rep.int⟩
  · obtain rfl := Rep.int_inv (T := T) (G := G) hx; obtain rfl := Rep.int_inv (T := T) (G := G) hy
    exact op_mulW pins s σ H _ _ v u Q I rx ry ⟨_, _, rfl, rfl, h.1, Res.dat eg h.2 Rep.int⟩
  · obtain rfl := Rep.int_inv (T := T) (G := G) hx; obtain rfl := Rep.int_inv (T := T) (G := G) hy
    exact op_fdivW pins s σ H _ _ v u Q I rx ry ⟨_, _, rfl, rfl, h.1, Res.dat eg h.2 Rep.int⟩
  · obtain rfl := Rep.int_inv (T := T) (G := G) hx; obtain rfl := Rep.int_inv (T := T) (G := G) hy
    exact op_mod pins s σ H _ _ v u Q I rx ry ⟨_, _, rfl, rfl, h.1, Res.dat eg h.2 Rep.int⟩
  · obtain rfl := Rep.int_inv (T := T) (G := G) hx; obtain rfl := Rep.int_inv (T := T) (G := G) hy
    exact op_powW pins s σ H _ _ v u Q I rx ry ⟨_, _, rfl, rfl, h.1, Res.dat eg h.2 Rep.int⟩
  · obtain rfl := Rep.str_inv (T := T) (G := G) hx; obtain rfl := Rep.str_inv (T := T) (G := G) hy
    exact op_add_str pins s σ H _ _ v u Q I rx ry ⟨_, _, rfl, rfl, h.1, Res.dat eg h.2 Rep.str⟩
  · exact op_catD k I rx ry eg hx hy h
  · split at h
    · rename_i xs e1
      obtain ⟨p, us, rfl, r1, h1, _⟩ := sq_rep hx eg e1
      obtain rfl := Rep.int_inv (T := T) (G := G) hy
      obtain ⟨⟨a, b, c⟩, q⟩ := h
      exact op_rep pins s σ H _ _ v u Q I rx ry ⟨p, _, us, rfl, rfl, h1 rfl, a, b, by rw [← r1.len]; exact c, fun l hl => Res.lst eg q hl (r1.rep _)⟩
    · exact h.elim
  · exact h.elim
theorem any_py (y : PyData) : ∀ ds : List D, ((pyAll ds).any fun z => PyData.eqv z y) = ds.any fun z => PyData.eqv (pyOf z) y
  | [] => rfl
  | d :: ds => by simp only [pyAll, List.any_cons, any_py y ds]
theorem rep_dp (k : X.K = T.K) {G H : Hp} {v : V} {x : Sl} (eg : Ex G H) (h : RepC T G H v x) (hs : shp x.toD = true) : Dp X.K H v (pyOf x.toD) := by
  rw [k]; exact Rep.dp _ _ (shp_lay hs) (h.toH eg)
theorem Rep.isnon {G : Hp} {d : D} {v : V} (h : Rep T G d v) : decide (v = V.non) = isNon d := by
  cases d with
  | non => rw [h.non_inv]; rfl
  | bl b => rw [h.bl_inv]; rfl
  | int b => rw [h.int_inv]; rfl
  | str b => rw [h.str_inv]; rfl
  | tup b => obtain ⟨p, us, rfl, _⟩ := h.tup_inv; rfl
  | lst b => obtain ⟨p, us, rfl, _⟩ := h.lst_inv; rfl
  | dk _ b => obtain ⟨p, us, rfl, _⟩ := h.dk_inv; rfl
  | dt _ b => obtain ⟨p, us, rfl, _⟩ := h.dt_inv; rfl
  | ins _ b => obtain ⟨p, us, us', rfl, _⟩ := h.ins_inv; rfl
  | scr b => obtain ⟨p, rfl, _⟩ := h.scr_inv; rfl
theorem op_cmp (k : X.K = T.K) (hu : X.A.units + 200 < cLine) (op : Cop) : OpR X (compareOp (copA op)) (rCmp T op) := by
  intro pins s σ H x y v u Q I rx ry h
  obtain ⟨G, sx, sy, eg, hx, hy, h⟩ := h
  have kin := k
  cases op with
  | lt =>
    obtain ⟨i, j, rfl, rfl, q⟩ := h
    obtain rfl := Rep.int_inv (T := T) (G := G) hx; obtain rfl := Rep.int_inv (T := T) (G := G) hy
    exact op_lt pins s σ H _ _ v u Q I rx ry ⟨_, _, rfl, rfl, q⟩
  | le =>
    obtain ⟨i, j, rfl, rfl, q⟩ := h
    obtain rfl := Rep.int_inv (T := T) (G := G) hx; obtain rfl := Rep.int_inv (T := T) (G := G) hy
    exact op_le pins s σ H _ _ v u Q I rx ry ⟨_, _, rfl, rfl, q⟩
  | gt =>
    obtain ⟨i, j, rfl, rfl, q⟩ := h
    obtain rfl := Rep.int_inv (T := T) (G := G) hx; obtain rfl := Rep.int_inv (T := T) (G := G) hy
    exact op_gt pins s σ H _ _ v u Q I rx ry ⟨_, _, rfl, rfl, q⟩
  | ge =>
    obtain ⟨i, j, rfl, rfl, q⟩ := h
    obtain rfl := Rep.int_inv (T := T) (G := G) hx; obtain rfl := Rep.int_inv (T := T) (G := G) hy
    exact op_ge pins s σ H _ _ v u Q I rx ry ⟨_, _, rfl, rfl, q⟩
  | eq =>
    obtain ⟨h1, h2, q⟩ := h
    exact op_eqD (by omega) pins s σ H _ _ v u Q I rx ry ⟨_, _, rep_dp k eg hx h1, rep_dp k eg hy h2, h1, h2, q⟩
  | ne =>
    obtain ⟨h1, h2, q⟩ := h
    exact op_neD (by omega) pins s σ H _ _ v u Q I rx ry ⟨_, _, rep_dp k eg hx h1, rep_dp k eg hy h2, h1, h2, q⟩
  | isin =>
    unfold cmp at h; dsimp only at h
    split at h
    · rename_i ks ds e1
      obtain ⟨kk, ek, q⟩ := h
      obtain ⟨p, us, rfl, r1, l1, h1⟩ := dk_rep hy eg e1
      obtain rfl := key_rep (hx.toH eg) ek
      obtain rfl : u = Value.ref p := ry
      refine d_in (by omega) I (DGet.k h1) rx fun s3 I3 => ⟨.bl _, H, I3, rfl, ?_⟩
      rw [look_some r1 l1]; exact q
    · rename_i ks ds e2 e1
      obtain ⟨kk, ek, q⟩ := h
      obtain ⟨p, us, rfl, r1, l1, h1⟩ := dt_rep hy eg e2
      obtain ⟨b, rfl, hb⟩ := tkey_rep (hx.toH eg) ek
      obtain rfl : u = Value.ref p := ry
      refine d_in (by omega) I (DGet.t h1 hb) rx fun s3 I3 => ⟨.bl _, H, I3, rfl, ?_⟩
      rw [look_some r1 l1]; exact q
    · rename_i ds e3 e1 e2
      obtain ⟨h1, h2, q⟩ := h
      obtain ⟨p, us, rfl, r1, l1, _⟩ := sq_rep hy eg e3
      refine op_inD (by omega) pins s σ H _ _ v u Q I rx ry ⟨_, pyAll ds, rep_dp k eg hx h1, ?_, h1, h2, ?_⟩
      · rw [k]
        exact Rep.dp (.lst ds) _ (shp_lay h2) (Rep.lst (l1 rfl) (RepL.mono eg _ _ r1))
      · have e := any_py (pyOf sx.toD) ds
        rw [e]; exact q
    · exact h.elim
  | notin =>
    unfold cmp at h; dsimp only at h
    split at h
    · rename_i ks ds e1
      obtain ⟨kk, ek, q⟩ := h
      obtain ⟨p, us, rfl, r1, l1, h1⟩ := dk_rep hy eg e1
      obtain rfl := key_rep (hx.toH eg) ek
      obtain rfl : u = Value.ref p := ry
      refine d_notIn (by omega) I (DGet.k h1) rx fun s3 I3 => ⟨.bl _, H, I3, rfl, ?_⟩
      rw [look_some r1 l1]; exact q
    · rename_i ks ds e2 e1
      obtain ⟨kk, ek, q⟩ := h
      obtain ⟨p, us, rfl, r1, l1, h1⟩ := dt_rep hy eg e2
      obtain ⟨b, rfl, hb⟩ := tkey_rep (hx.toH eg) ek
      obtain rfl : u = Value.ref p := ry
      refine d_notIn (by omega) I (DGet.t h1 hb) rx fun s3 I3 => ⟨.bl _, H, I3, rfl, ?_⟩
      rw [look_some r1 l1]; exact q
    · rename_i ds e3 e1 e2
      obtain ⟨h1, h2, q⟩ := h
      obtain ⟨p, us, rfl, r1, l1, _⟩ := sq_rep hy eg e3
      refine op_notInD (by omega) pins s σ H _ _ v u Q I rx ry ⟨_, pyAll ds, rep_dp k eg hx h1, ?_, h1, h2, ?_⟩
      · rw [k]
        exact Rep.dp (.lst ds) _ (shp_lay h2) (Rep.lst (l1 rfl) (RepL.mono eg _ _ r1))
      · have e := any_py (pyOf sx.toD) ds
        rw [e]; exact q
    · exact h.elim
  | is =>
    rcases h with ⟨rfl, d, rfl, q⟩ | ⟨a, b, rfl, rfl, q⟩
    · obtain rfl := Rep.non_inv (T := T) (G := G) hy
      refine op_isN pins s σ H _ _ v u Q I rx ry ⟨rfl, ?_⟩
      rw [Rep.isnon hx]; exact q
    · obtain rfl := Rep.bl_inv (T := T) (G := G) hx; obtain rfl := Rep.bl_inv (T := T) (G := G) hy
      exact op_isBl pins s σ H _ _ v u Q I rx ry ⟨_, _, rfl, rfl, q⟩
  | isnot =>
    rcases h with ⟨rfl, d, rfl, q⟩ | ⟨a, b, rfl, rfl, q⟩
    · obtain rfl := Rep.non_inv (T := T) (G := G) hy
      refine op_notN pins s σ H _ _ v u Q I rx ry ⟨rfl, ?_⟩
      rw [Rep.isnon hx]; exact q
    · obtain rfl := Rep.bl_inv (T := T) (G := G) hx; obtain rfl := Rep.bl_inv (T := T) (G := G) hy
      exact op_notBl pins s σ H _ _ v u Q I rx ry ⟨_, _, rfl, rfl, q⟩
end
end Cw
/-! Cw: subscripts, slices, built-in functions: by values. -/
namespace Cw
open PySem PySem.Spec PyProof.Rows L2
theorem atI_rep {T : Tbl} {G : Hp} {ds : List D} {us : List V} {i : Int} {d : D} (h : RepL T G ds us) (e : atI ds i = some d) : ∃ v, atI us i = some v ∧ Rep T G d v := by
  unfold atI at e ⊢
  rw [← h.len]
  cases q : ixN ds.length i with
  | none => rw [q] at e; cases e
  | some j =>
    rw [q] at e
    exact h.get e
theorem sq_tup {T : Tbl} {G H : Hp} {v : V} {x : Sl} {ds : List D} (h : RepC T G H v x) (e : sq x = some (false, ds)) : Rep T G (.tup ds) v := by
  cases x with
  | dat d =>
    cases d with
    | tup es => cases e; exact h
    | _ => cases e
  | own t => cases t <;> cases e
def rIdx (T : Tbl) : R2 := fun x y H Q => ∃ G sx sy, Ex G H ∧ RepC T G H x sx ∧ RepC T G H y sy ∧ idxC sx sy (Res T G H Q)
/-- the list's item as it stands -/
def rRaw : R2 := fun x y H Q => ∃ p xs i v, x = .ref p ∧ y = .int i ∧ H p = some (.lst xs) ∧ atI xs i = some v ∧ Q v H
section
variable {X : Cx} {T : Tbl}
theorem ix_dict (hu : X.A.units + 1 < cLine) : IxR X (fun x y H Q => ∃ a z, x = .ref a ∧ DGet H a y (some z) ∧ Q z H) := by
  intro value slice pins s σ H x y v u Q I rx ry h hs
  obtain ⟨a, z, rfl, g, q⟩ := h
  obtain rfl : v = Value.ref a := rx
  have hT := dict_typeIs I g
  have body : wpAny (model X.prog X.w) X.A (getItem (.ref a) u) (EP X pins σ Q) X.xe s := d_getItem hu I g ry fun w' s3 I3 rw' => ⟨z, H, I3, rw', q⟩
  unfold subscriptTail
  refine wpAny_bind ?_
  rw [getitemInPython_of_ne hT.not_modules]
  refine wpAny_bind (wpAny_specialOf hT PySem.F.slot_dict_getitem.lookup ?_)
  have fin : wpAny (model X.prog X.w) X.A (subscripted slice false (.ref a) u) (fun r s₃ => wpAny (model X.prog X.w) X.A (letTemporaryGo value (.ref a) r >>= fun _ => pure r) (EP X pins σ Q) X.xe s₃) X.xe s := by
    rw [hs]
    exact wpAny_operating (wpAny_mono body (fun r s₃ h₃ => wpAny_bind (wpAny_letTemporaryGo (wpAny_pure h₃))) fun _ _ x => x)
  first
    | exact wpAny_pure (wpAny_bind fin)
    | exact wpAny_bind (wpAny_pure (wpAny_bind fin))
    | exact wpAny_bind fin
theorem ix_idx (k : X.K = T.K) (hu : X.A.units + 200 < cLine) : IxR X (rIdx T) := by
  intro value slice pins s σ H x y v u Q I rx ry h hs
  obtain ⟨G, sx, sy, eg, hx, hy, h⟩ := h
  unfold idxC at h
  split at h
  · rename_i b ds e1
    obtain ⟨i, d, rfl, e, q⟩ := h
    obtain rfl := Rep.int_inv (T := T) (G := G) hy
    obtain ⟨p, us, rfl, r1, h1, h2⟩ := sq_rep hx eg e1
    obtain ⟨z, ez, rz⟩ := atI_rep r1 e
    cases b with
    | true => exact ix_list value slice pins s σ H _ _ v u Q I rx ry ⟨p, us, i, z, rfl, rfl, SqL.of (h1 rfl), ez, Res.dat eg q rz⟩ hs
    | false => exact ix_tup value slice pins s σ H _ _ v u Q I rx ry ⟨p, us, i, z, rfl, rfl, SqT.of (h2 rfl), ez, Res.dat eg q rz⟩ hs
  · rename_i ks ds e1 e2
    obtain ⟨kk, d, ek, e, q⟩ := h
    obtain ⟨p, us, rfl, r1, l1, h1⟩ := dk_rep hx eg (by assumption)
    obtain rfl := key_rep (hy.toH eg) ek
    obtain ⟨z, ez, rz⟩ := (look_rep (k := kk) r1 l1).2 d e
    refine ix_dict (by omega) value slice pins s σ H _ _ v u Q I rx ry ⟨p, z, rfl, ?_, Res.dat eg q rz⟩ hs
    rw [← ez]; exact DGet.k h1
  · rename_i ks ds e1 e2 e3
    obtain ⟨kk, d, ek, e, q⟩ := h
    obtain ⟨p, us, rfl, r1, l1, h1⟩ := dt_rep hx eg (by assumption)
    obtain ⟨b, rfl, hb⟩ := tkey_rep (hy.toH eg) ek
    obtain ⟨z, ez, rz⟩ := (look_rep (k := kk) r1 l1).2 d e
    refine ix_dict (by omega) value slice pins s σ H _ _ v u Q I rx ry ⟨p, z, rfl, ?_, Res.dat eg q rz⟩ hs
    rw [← ez]; exact DGet.t h1 hb
  · rename_i ns _ _ _
    obtain ⟨i, d, rfl, e, q⟩ := h
    obtain rfl := Rep.int_inv (T := T) (G := G) hy
    obtain ⟨p, rfl, h1⟩ := Rep.scr_inv (T := T) (G := G) hx
    refine ix_list value slice pins s σ H _ _ v u Q I rx ry ⟨p, ns.map V.int, i, .int d, rfl, rfl, by rw [k]; exact ex_l eg h1, ?_, Res.dat eg q Rep.int⟩ hs
    unfold atI at e ⊢
    rw [List.length_map]
    cases c : ixN ns.length i with
    | none => rw [c] at e; cases e
    | some j =>
      rw [c] at e
      have e' : ns[j]? = some d := e
      simp [e']
  · exact h.elim
theorem ix_raw : IxR X rRaw := by
  intro value slice pins s σ H x y v u Q I rx ry h hs
  obtain ⟨p, xs, i, z, rfl, rfl, hp, e, q⟩ := h
  exact ix_list value slice pins s σ H _ _ v u Q I rx ry ⟨p, xs, i, z, rfl, rfl, SqL.of hp, e, q⟩ hs

/-! ### slices -/
def rSlc (T : Tbl) : V → Option Int → Option Int → Hp → VK → Prop := fun x lo hi H Q => ∃ G sx, Ex G H ∧ RepC T G H x sx ∧ slc sx lo hi (Res T G H Q)
theorem sl_slc (k : X.K = T.K) : SlR X (rSlc T) := by
  intro pins s σ H x v vl vu lo hi sl Q I rx hsl pl pu h
  obtain ⟨G, sx, eg, hx, h⟩ := h
  unfold slc at h
  split at h
  · rename_i ds e1
    obtain ⟨p, us, rfl, r1, h1, _⟩ := sq_rep hx eg e1
    exact sl_list pins s σ H _ v vl vu lo hi sl Q I rx hsl pl pu ⟨p, us, rfl, SqL.of (h1 rfl), fun q hq => Res.lst eg h hq (cutV_rep r1 lo hi)⟩
  · rename_i ds e1
    obtain ⟨p, us, rfl, r1, _, h1⟩ := sq_rep hx eg e1
    refine sl_tupA pins s σ H _ v vl vu lo hi sl Q I rx hsl pl pu ⟨p, us, rfl, SqT.of (h1 rfl), fun hw => ?_, fun _ q hq => Res.tup eg h hq (cutV_rep r1 lo hi)⟩
    have e2 : cutD ds lo hi = ds := by
      unfold cutD
      rw [r1.len, hw.1, hw.2, List.drop_zero, Nat.sub_zero, ← r1.len, List.take_length]
    rw [e2] at h
    have hx' : Rep T G (.tup ds) (.ref p) := by
      cases sx with
      | dat d =>
        cases d with
        | tup es => cases e1; exact hx
        | _ => cases e1
      | own t => cases t <;> cases e1
    exact Res.dat eg h hx'
  · exact h.elim

/-! ### built-in functions -/
def RepCs (T : Tbl) (G H : Hp) : List V → List Sl → Prop
  | [], [] => True
  | v :: vs, x :: xs => RepC T G H v x ∧ RepCs T G H vs xs
  | _, _ => False
theorem RepCs.one {T : Tbl} {G H : Hp} {vs : List V} {x : Sl} (h : RepCs T G H vs [x]) : ∃ v, vs = [v] ∧ RepC T G H v x := by
  cases vs with
  | nil => exact h.elim
  | cons v r =>
    cases r with
    | nil => exact ⟨v, rfl, h.1⟩
    | cons _ _ => exact h.2.elim
theorem RepCs.two {T : Tbl} {G H : Hp} {vs : List V} {x y : Sl} (h : RepCs T G H vs [x, y]) : ∃ v w, vs = [v, w] ∧ RepC T G H v x ∧ RepC T G H w y := by
  cases vs with
  | nil => exact h.elim
  | cons v r =>
    obtain ⟨w, rfl, h2⟩ := RepCs.one h.2
    exact ⟨v, w, rfl, h.1, h2⟩
def rBlt (T : Tbl) (b : Blt) : List V → Hp → VK → Prop := fun vs H Q => ∃ G xs, Ex G H ∧ RepCs T G H vs xs ∧ blt b xs (Res T G H Q)
theorem ints_rep {T : Tbl} {G : Hp} : ∀ {ds : List D} {ns : List Int} {us : List V}, RepL T G ds us → intsOf ds = some ns → us = ns.map V.int
  | [], ns, us, h, e => by rw [h.nil_inv]; cases e; rfl
  | d :: ds, ns, us, h, e => by
    obtain ⟨w, r, rfl, h1, h2⟩ := h.cons_inv
    cases d with
    | int i =>
      obtain rfl := h1.int_inv
      unfold intsOf at e
      cases c : intsOf ds with
      | none => rw [c] at e; cases e
      | some ms =>
        rw [c] at e; cases e
        rw [ints_rep h2 c]; rfl
    | _ => cases e
def bltV : Blt → Value
  | .len => .builtin "len" | .int => .type "int" | .abs => .builtin "abs" | .max2 => .builtin "max" | .min2 => .builtin "min" | .max => .builtin "max" | .min => .builtin "min"
  | .sorted => .builtin "sorted" | .list => .type "list" | .tuple => .type "tuple" | .repr => .builtin "repr"
theorem len_rep {T : Tbl} {G H : Hp} {v : V} {x : Sl} {n : Nat} {Q : VK} (k : X.K = T.K) (eg : Ex G H) (h : RepC T G H v x) (e : lenOf x = some n) (q : Q (.int n) H)
    {pins : List (Addr × Obj)} {s : Shared} {σ : L2.St} {us : List Value} (I : Inv X pins σ H s) (r : Vals [v] us) : wpAny (model X.prog X.w) X.A (call (.builtin "len") us) (EP X pins σ Q) X.xe s := by
  have sqc : ∀ {b : Bool} {ds : List D}, sq x = some (b, ds) → n = ds.length → wpAny (model X.prog X.w) X.A (call (.builtin "len") us) (EP X pins σ Q) X.xe s := fun {b ds} e1 e2 => by
    obtain ⟨p, ws, rfl, r1, h1, h2⟩ := sq_rep h eg e1
    subst e2
    rw [r1.len] at q
    cases b with
    | true => exact call_len_seq pins s σ H _ us Q I r ⟨p, ws, rfl, .inl (SqL.of (h1 rfl)), q⟩
    | false => exact call_len_seq pins s σ H _ us Q I r ⟨p, ws, rfl, .inr (SqT.of (h2 rfl)), q⟩
  have dkc : ∀ {ks : List Key} {ds : List D}, dkOf x = some (ks, ds) → n = ks.length → wpAny (model X.prog X.w) X.A (call (.builtin "len") us) (EP X pins σ Q) X.xe s := fun {ks ds} e1 e2 => by
    obtain ⟨p, ws, rfl, r1, l1, h1⟩ := dk_rep h eg e1
    subst e2
    refine call_lenD pins s σ H _ us Q I r ⟨p, ks.zip ws, rfl, h1, ?_⟩
    rw [List.length_zip, ← l1, Nat.min_self]; exact q
  have dtc : ∀ {ks : List (List Key)} {ds : List D}, dtOf x = some (ks, ds) → n = ks.length → wpAny (model X.prog X.w) X.A (call (.builtin "len") us) (EP X pins σ Q) X.xe s := fun {ks ds} e1 e2 => by
    obtain ⟨p, ws, rfl, r1, l1, h1⟩ := dt_rep h eg e1
    subst e2
    refine call_len_dT pins s σ H _ us Q I r ⟨p, ks.zip ws, rfl, h1, ?_⟩
    rw [List.length_zip, ← l1, Nat.min_self]; exact q
  cases x with
  | dat d =>
    cases d with
    | tup ds => cases e; exact sqc rfl rfl
    | lst ds => cases e; exact sqc rfl rfl
    | dk ks ds => cases e; exact dkc rfl rfl
    | dt ks ds => cases e; exact dtc rfl rfl
    | scr ns =>
      cases e
      obtain ⟨p, rfl, h1⟩ := Rep.scr_inv (T := T) (G := G) h
      refine call_len_seq pins s σ H _ us Q I r ⟨p, ns.map V.int, rfl, .inl (by rw [k]; exact ex_l eg h1), ?_⟩
      rw [List.length_map]; exact q
    | _ => cases e
  | own t =>
    cases t with
    | lst ds => cases e; exact sqc rfl rfl
    | ll dss =>
      cases e
      obtain ⟨p, qs, rfl, h1, h2⟩ := h
      refine call_len_seq pins s σ H _ us Q I r ⟨p, qs.map V.ref, rfl, .inl (SqL.of h1), ?_⟩
      have hl : dss.length = qs.length := by
        have := (h2.toH eg).len
        simpa using this
      rw [List.length_map, ← hl]; exact q
    | dk ks ds => cases e; exact dkc rfl rfl
    | dt ks ds => cases e; exact dtc rfl rfl
theorem call_repr (k : X.K = T.K) (hg : X.A.guards = some []) (hu : X.A.units + 200 < cLine) {G H : Hp} {v : V} {x : Sl} {Q : VK} (eg : Ex G H) (h : RepC T G H v x) (h1 : PyData.showable (pyOf x.toD) = true) (h2 : shp x.toD = true) (h3 : (PyData.shown (pyOf x.toD)).length ≤ sizeLine)
    (q : Q (.str (PyData.shown (pyOf x.toD))) H) {pins : List (Addr × Obj)} {s : Shared} {σ : L2.St} {us : List Value} (I : Inv X pins σ H s) (r : Vals [v] us) : wpAny (model X.prog X.w) X.A (call (.builtin "repr") us) (EP X pins σ Q) X.xe s := by
  obtain ⟨u, rfl, ru⟩ := vals1 r
  obtain ⟨as, rd⟩ := Dp.reads I _ v u (rep_dp k eg h h2) ru
  have hd := SeqAt.depth_of_shaped h2
  have hnd := PyData.hasDict_of_canLay _ (shp_lay h2)
  have leaf : ∀ {u : Value}, (∀ a, u ≠ .ref a) → Reads s.heap u (pyOf x.toD) as → wpAny (model X.prog X.w) X.A (call (.builtin "repr") [u]) (EP X pins σ Q) X.xe s := fun {u} hn rd => by
    generalize hpd : pyOf x.toD = pd at rd h1 h3 q
    cases rd with
    | none => exact PySem.P.repr_of_none ⟨.str _, H, I.tok _, ⟨_, rfl⟩, by simpa only [PyData.shown] using q⟩
    | bool b => exact PySem.P.repr_of_bool ⟨.str _, H, I.tok _, ⟨_, rfl⟩, by simpa only [PyData.shown] using q⟩
    | int i t => exact PySem.P.repr_of_int (by simpa [PyData.showable] using h1) ⟨.str _, H, I.tok _, ⟨_, rfl⟩, by simpa only [PyData.shown] using q⟩
    | str z t =>
      simp only [PyData.shown] at h3 q
      exact PySem.P.repr_of_str (hsz := h3) ⟨.str _, H, I.tok _, ⟨_, rfl⟩, q⟩
    | list _ _ _ _ => exact absurd rfl (hn _)
    | tuple _ _ _ _ => exact absurd rfl (hn _)
    | dict _ _ _ _ => exact absurd rfl (hn _)
  by_cases hr : ∃ a, u = .ref a
  · obtain ⟨a, rfl⟩ := hr
    exact repr_of_reads' rd h1 (PyData.noDict_hsm hnd) hg (by omega) (fun _ _ e => e) (fun h' u' tk hk => ⟨.str _, H, I.kept hk, ⟨_, rfl⟩, q⟩) h3
  · exact leaf (fun a e => hr ⟨a, e⟩) rd
theorem call_blt (k : X.K = T.K) (hc : X.calm = true) (hg : X.A.guards = some []) (hu : X.A.units + 200 < cLine) (b : Blt) : CallR X (bltV b) (rBlt T b) := by
  intro pins s σ H vs us Q I r h
  obtain ⟨G, xs, eg, hv, h⟩ := h
  unfold blt at h
  split at h
  · rename_i x
    obtain ⟨n, e, q⟩ := h
    obtain ⟨v, rfl, hx⟩ := hv.one
    exact len_rep k eg hx e (Res.dat eg q Rep.int) I r
  · obtain ⟨v, rfl, hx⟩ := hv.one
    obtain rfl := Rep.int_inv (T := T) (G := G) hx
    exact call_int1 pins s σ H _ us Q I r (.inl ⟨_, rfl, Res.dat eg h Rep.int⟩)
  · obtain ⟨v, rfl, hx⟩ := hv.one
    obtain rfl := Rep.bl_inv (T := T) (G := G) hx
    exact call_int1 pins s σ H _ us Q I r (.inr ⟨_, rfl, Res.dat eg h Rep.int⟩)
  · obtain ⟨v, rfl, hx⟩ := hv.one
    obtain rfl := Rep.int_inv (T := T) (G := G) hx
    exact call_abs pins s σ H _ us Q I r ⟨_, rfl, Res.dat eg h Rep.int⟩
  · obtain ⟨v, w, rfl, hx, hy⟩ := hv.two
    obtain rfl := Rep.int_inv (T := T) (G := G) hx; obtain rfl := Rep.int_inv (T := T) (G := G) hy
    exact call_max2 hc pins s σ H _ us Q I r ⟨_, _, rfl, Res.dat eg h Rep.int⟩
  · obtain ⟨v, w, rfl, hx, hy⟩ := hv.two
    obtain rfl := Rep.int_inv (T := T) (G := G) hx; obtain rfl := Rep.int_inv (T := T) (G := G) hy
    exact call_min2 hc pins s σ H _ us Q I r ⟨_, _, rfl, Res.dat eg h Rep.int⟩
  · obtain ⟨ds, ns, e1, e2, e3, q⟩ := h
    obtain ⟨v, rfl, hx⟩ := hv.one
    obtain ⟨p, ws, rfl, r1, h1, _⟩ := sq_rep hx eg e1
    obtain rfl := ints_rep r1 e2
    exact cr_max hc pins s σ H _ us Q I r ⟨p, ns, rfl, SqL.of (h1 rfl), e3, fun m a b => Res.dat eg (q m a b) Rep.int⟩
  · obtain ⟨ds, ns, e1, e2, e3, q⟩ := h
    obtain ⟨v, rfl, hx⟩ := hv.one
    obtain ⟨p, ws, rfl, r1, h1, _⟩ := sq_rep hx eg e1
    obtain rfl := ints_rep r1 e2
    exact cr_min hc pins s σ H _ us Q I r ⟨p, ns, rfl, SqL.of (h1 rfl), e3, fun m a b => Res.dat eg (q m a b) Rep.int⟩
  · obtain ⟨ds, ns, e1, e2, q⟩ := h
    obtain ⟨v, rfl, hx⟩ := hv.one
    obtain ⟨p, ws, rfl, r1, h1, _⟩ := sq_rep hx eg e1
    obtain rfl := ints_rep r1 e2
    exact cr_sortedI pins s σ H _ us Q I r ⟨p, ns, rfl, SqL.of (h1 rfl), fun ns' l h2 h3 hl => Res.lst eg (q ns' h2 h3) hl (RepL.ints ns')⟩
  · obtain ⟨b, ds, e1, q⟩ := h
    obtain ⟨v, rfl, hx⟩ := hv.one
    obtain ⟨p, ws, rfl, r1, h1, h2⟩ := sq_rep hx eg e1
    cases b with
    | true => exact call_list_of pins s σ H _ us Q I r ⟨p, ws, rfl, .inl (SqL.of (h1 rfl)), fun l hl => Res.lst eg q hl r1⟩
    | false => exact call_list_of pins s σ H _ us Q I r ⟨p, ws, rfl, .inr (SqT.of (h2 rfl)), fun l hl => Res.lst eg q hl r1⟩
  · obtain ⟨b, ds, e1, q⟩ := h
    obtain ⟨v, rfl, hx⟩ := hv.one
    obtain ⟨p, ws, rfl, r1, h1, h2⟩ := sq_rep hx eg e1
    cases b with
    | true => exact call_tuple_of pins s σ H _ us Q I r ⟨p, ws, rfl, .inl ⟨SqL.of (h1 rfl), fun l hl => Res.tup eg q hl r1⟩⟩
    | false =>
      refine call_tuple_of pins s σ H _ us Q I r ⟨p, ws, rfl, .inr ⟨SqT.of (h2 rfl), ?_⟩⟩
      have hx' := sq_tup hx e1
      exact Res.dat eg q hx'
  · obtain ⟨h1, h2, h3, q⟩ := h
    obtain ⟨v, rfl, hx⟩ := hv.one
    exact call_repr k hg hu eg hx h1 h2 h3 (Res.dat eg q Rep.str) I r
  · exact h.elim
end
end Cw
/-! Cw: the state's moves; expressions. -/
namespace Cw
open PySem PySem.Spec PyProof.Rows L2

theorem slOf_iff {ρ : Ro} {i : Nat} {w : Sl} : slOf ρ i = some w ↔ ρ[i]? = some (some w) := by
  unfold slOf
  split
  · rename_i w' e
    rw [e]
    constructor
    · intro h; cases h; rfl
    · intro h; cases h; rfl
  · rename_i h
    constructor
    · intro q; cases q
    · intro q; exact absurd q (h w)
theorem slOf_set {ρ : Ro} {i j : Nat} {w : Sl} (hi : i < ρ.length) : slOf (ρ.set i (some w)) j = if j = i then some w else slOf ρ j := by
  unfold slOf
  by_cases e : j = i
  · subst e
    rw [List.getElem?_set_self hi, if_pos rfl]
  · rw [List.getElem?_set_ne (Ne.symm e), if_neg e]
theorem slOf_set_ne {ρ : Ro} {i j : Nat} {w : Option Sl} (h : j ≠ i) : slOf (ρ.set i w) j = slOf ρ j := by
  unfold slOf
  rw [List.getElem?_set_ne (Ne.symm h)]

section
variable {P : Par} {ρ : Ro} {θ θ' : Nat → List Addr} {G G' H H' : Hp} {σ : List (Option V)} {v : V} {w : W} {qs : List Addr}
theorem Sim.get (S : Sim P ρ θ G σ H) {i : Nat} {x : Sl} (e : slOf ρ i = some x) : ∃ v, σ[i]? = some (some v) ∧ RepS P.T G H v (θ i) x := S.sl i x (slOf_iff.mp e)
theorem Sim.own (S : Sim P ρ θ G σ H) {i : Nat} {t : Ot} (e : slOf ρ i = some (.own t)) : ∃ p r, σ[i]? = some (some (.ref p)) ∧ θ i = p :: r ∧ RepO P.T G H p r t := by
  obtain ⟨v, h1, p, r, h2, h3, h4⟩ := S.get e
  subst h3
  exact ⟨p, r, h1, h2, h4⟩
theorem Sim.there (S : Sim P ρ θ G σ H) {i : Nat} {a : Addr} (ha : a ∈ θ i) : ∃ t, slOf ρ i = some (.own t) ∧ ∃ o, H a = some o := by
  by_cases h : ∃ t, ρ[i]? = some (some (.own t))
  · obtain ⟨t, e⟩ := h
    obtain ⟨p, r, h1, h2, h3⟩ := S.own (slOf_iff.mpr e)
    rw [h2] at ha
    exact ⟨t, slOf_iff.mpr e, h3.there a ha⟩
  · have e := S.no i fun t q => h ⟨t, q⟩
    rw [e] at ha; cases ha
theorem Sim.imm (S : Sim P ρ θ G σ H) (eg : Ex G G') (egh : Ex G' H') (eh : Ex H H') (gn : ∀ i a, a ∈ θ i → G' a = none) (gs : ∀ a o, P.H0 a = some o → a ∉ P.A0 → G' a = G a) : Sim P ρ θ G' σ H' where
  g0 := S.g0.trans eg
  gh := egh
  fr := fun a o h n => eh a o (S.fr a o h n)
  gs := fun a o h n => (gs a o h n).trans (S.gs a o h n)
  pe := fun a h => S.pe a (eh.none h)
  ln := S.ln
  sl := fun i x e => by
    obtain ⟨v, h1, h2⟩ := S.sl i x e
    refine ⟨v, h1, ?_⟩
    cases x with
    | dat d => exact ⟨h2.1, Rep.mono eg _ _ h2.2⟩
    | own t =>
      obtain ⟨p, r, e1, e2, ho⟩ := h2
      exact ⟨p, r, e1, e2, ho.stay eg fun a _ o q => eh a o q⟩
  no := S.no
  gn := gn
  nw := S.nw
  nd := S.nd
  dj := S.dj
  fx := S.fx
theorem Sim.more (S : Sim P ρ θ G σ H) (eh : Ex H H') (eg : Ex G G') (egh : Ex G' H') (same : ∀ a o, H a = some o → G' a = G a) : Sim P ρ θ G' σ H' ∧ Stp θ G H θ G' H' := by
  refine ⟨S.imm eg egh eh (fun i a ha => ?_) (fun a o h n => same a o (S.fr a o h n)), fun a o h _ => ⟨eh a o h, same a o h⟩, fun _ => .inl rfl, eg, fun a h => eh.none h⟩
  obtain ⟨_, _, o, ho⟩ := S.there ha
  exact (same a o ho).trans (S.gn i a ha)
/-- the i-th name's object never changes from here on -/
theorem Sim.frz (S : Sim P ρ θ G σ H) {i : Nat} {t : Ot} (e : slOf ρ i = some (.own t)) :
    Sim P (ρ.set i (some (.dat t.toD))) (fun j => if j = i then [] else θ j) (grow G H (θ i)) σ H := by
  obtain ⟨p, r, h1, h2, h3⟩ := S.own e
  have hi : i < ρ.length := by
    have := slOf_iff.mp e
    exact (List.getElem?_eq_some_iff.mp this).1
  have eg : Ex G (grow G H (θ i)) := S.gh.grow _
  exact {
    g0 := S.g0.trans eg
    gh := S.gh.grown _
    fr := S.fr
    gs := fun a o h n => by
      have na : a ∉ θ i := fun m => by
        rcases S.nw i a m with q | q
        · rw [h] at q; cases q
        · exact n q.1
      rw [grow_out na]; exact S.gs a o h n
    pe := S.pe
    ln := by rw [List.length_set]; exact S.ln
    sl := fun j x ex => by
      by_cases hj : j = i
      · subst hj
        rw [List.getElem?_set_self hi] at ex
        cases ex
        refine ⟨_, h1, ?_⟩
        simp only [if_true]
        refine ⟨rfl, h3.frz eg fun a ha o q => ?_⟩
        rw [← h2] at ha
        rw [grow_in ha]; exact q
      · rw [List.getElem?_set_ne (Ne.symm hj)] at ex
        obtain ⟨v, k1, k2⟩ := S.sl j x ex
        refine ⟨v, k1, ?_⟩
        simp only [if_neg hj]
        cases x with
        | dat d => exact ⟨k2.1, Rep.mono eg _ _ k2.2⟩
        | own t' =>
          obtain ⟨p', r', e1, e2, ho⟩ := k2
          exact ⟨p', r', e1, e2, ho.stay eg fun a _ o q => q⟩
    no := fun j hn => by
      by_cases hj : j = i
      · simp only [if_pos hj]
      · simp only [if_neg hj]
        refine S.no j fun t' q => hn t' ?_
        rw [List.getElem?_set_ne (Ne.symm hj)]; exact q
    gn := fun j a ha => by
      by_cases hj : j = i
      · simp only [if_pos hj] at ha; cases ha
      · simp only [if_neg hj] at ha
        rw [grow_out fun m => hj (S.dj j i a ha m)]
        exact S.gn j a ha
    nw := fun j a ha => by
      by_cases hj : j = i
      · simp only [if_pos hj] at ha; cases ha
      · simp only [if_neg hj] at ha
        exact S.nw j a ha
    nd := fun j => by
      by_cases hj : j = i
      · simp only [if_pos hj]; exact List.nodup_nil
      · simp only [if_neg hj]; exact S.nd j
    dj := fun j k a ha hb => by
      by_cases hj : j = i
      · simp only [if_pos hj] at ha; cases ha
      · by_cases hk : k = i
        · simp only [if_pos hk] at hb; cases hb
        · simp only [if_neg hj] at ha
          simp only [if_neg hk] at hb
          exact S.dj j k a ha hb
    fx := S.fx }
/-- what a value becomes as data; the other new addresses stay new -/
theorem frz_ok {rest : List Addr} {Q : D → Ro → Prop} (S : Sim P ρ θ G σ H) (r : RepW P θ G σ H v qs w) (f : Fr P θ G (qs ++ rest)) (h : frz w ρ Q) :
    ∃ d ρ' θ' G', Q d ρ' ∧ Sim P ρ' θ' G' σ H ∧ Rep P.T G' d v ∧ Ex G G' ∧ (∀ i, θ' i = θ i ∨ θ' i = []) ∧ (∀ a, a ∉ qs → (∀ i, a ∉ θ i) → G' a = G a) ∧ Fr P θ' G' rest := by
  cases w with
  | dat d => exact ⟨d, ρ, θ, G, h, S, r.2, Ex.refl _, fun _ => .inl rfl, fun _ _ _ => rfl, f.right⟩
  | own t =>
    obtain ⟨p, r', rfl, rfl, ho⟩ := r
    have eg : Ex G (grow G H (p :: r')) := S.gh.grow _
    refine ⟨t.toD, ρ, θ, grow G H (p :: r'), h, S.imm eg (S.gh.grown _) (Ex.refl _) (fun i a ha => ?_) (fun a o e n => ?_), ho.frz eg fun a ha o q => by rw [grow_in ha]; exact q, eg, fun _ => .inl rfl, fun a ha _ => grow_out ha, ?_⟩
    · rw [grow_out fun m => (f.left.2 a m).2.2 i ha]; exact S.gn i a ha
    · rw [grow_out fun m => by have := (f.left.2 a m).2.1; rw [e] at this; cases this]
    · refine ⟨f.right.1, fun a ha => ?_⟩
      obtain ⟨g, h0, n⟩ := f.right.2 a ha
      refine ⟨?_, h0, n⟩
      rw [grow_out fun m => (List.nodup_append.mp f.1).2.2 a m a ha rfl]; exact g
  | brw i =>
    obtain ⟨rfl, e⟩ := r
    unfold Cw.frz at h
    dsimp only at h
    split at h
    · rename_i d e1
      obtain ⟨v', k1, k2⟩ := S.get e1
      rw [e] at k1; cases k1
      exact ⟨d, ρ, θ, G, h, S, k2.2, Ex.refl _, fun _ => .inl rfl, fun _ _ _ => rfl, f.right⟩
    · rename_i t e1
      obtain ⟨p, r', k1, k2, k3⟩ := S.own e1
      rw [e] at k1; cases k1
      have eg : Ex G (grow G H (θ i)) := S.gh.grow _
      refine ⟨t.toD, _, _, _, h, S.frz e1, k3.frz eg fun a ha o q => by rw [← k2] at ha; rw [grow_in ha]; exact q, eg, fun j => ?_, fun a _ n => grow_out (n i), ?_⟩
      · by_cases hj : j = i
        · exact .inr (if_pos hj)
        · exact .inl (if_neg hj)
      · refine ⟨f.right.1, fun a ha => ?_⟩
        obtain ⟨g, h0, n⟩ := f.right.2 a ha
        refine ⟨by rw [grow_out (n i)]; exact g, h0, fun j m => ?_⟩
        by_cases hj : j = i
        · simp only [if_pos hj] at m; cases m
        · simp only [if_neg hj] at m; exact n j m
    · exact h.elim
  | br2 i k => exact h.elim
theorem frzs_ok : ∀ {ws : List W} {vs : List V} {qss : List (List Addr)} {ρ : Ro} {θ : Nat → List Addr} {G : Hp} {rest : List Addr} {Q : List D → Ro → Prop}, Sim P ρ θ G σ H → RepWs P θ G σ H vs qss ws → Fr P θ G (qss.flatten ++ rest) → frzs ws ρ Q →
    ∃ ds ρ' θ' G', Q ds ρ' ∧ Sim P ρ' θ' G' σ H ∧ RepL P.T G' ds vs ∧ Ex G G' ∧ (∀ i, θ' i = θ i ∨ θ' i = []) ∧ (∀ a, a ∉ qss.flatten → (∀ i, a ∉ θ i) → G' a = G a) ∧ Fr P θ' G' rest
  | [], vs, qss, ρ, θ, G, rest, Q, S, r, f, h => by
    cases vs with
    | nil =>
      cases qss with
      | nil => exact ⟨[], ρ, θ, G, h, S, RepL.nil, Ex.refl _, fun _ => .inl rfl, fun _ _ _ => rfl, f.right⟩
      | cons _ _ => exact r.elim
    | cons _ _ => cases qss <;> cases r
  | w :: ws, vs, qss, ρ, θ, G, rest, Q, S, r, f, h => by
    cases vs with
    | nil => cases qss <;> exact r.elim
    | cons v vs =>
      cases qss with
      | nil => cases r
      | cons qs qss =>
        rw [List.flatten_cons, List.append_assoc] at f
        obtain ⟨d, ρ1, θ1, G1, h1, S1, r1, e1, t1, g1, f1⟩ := frz_ok S r.1 f h
        have s1 : RepWs P θ1 G1 σ H vs qss ws := by
          have gen : ∀ {ws : List W} {vs : List V} {qss : List (List Addr)}, RepWs P θ G σ H vs qss ws → RepWs P θ1 G1 σ H vs qss ws := by
            intro ws
            induction ws with
            | nil => intro vs qss r; cases vs <;> cases qss <;> first | exact r | cases r
            | cons w ws ih =>
              intro vs qss r
              cases vs with
              | nil => cases qss <;> exact r.elim
              | cons v vs =>
                cases qss with
                | nil => cases r
                | cons qs qss =>
                  refine ⟨?_, ih r.2⟩
                  have r := r.1
                  cases w with
                  | dat d => exact ⟨r.1, Rep.mono e1 _ _ r.2⟩
                  | own t =>
                    obtain ⟨p, r', q1, q2, ho⟩ := r
                    exact ⟨p, r', q1, q2, ho.stay e1 fun _ _ _ q => q⟩
                  | brw i => exact r
                  | br2 i k =>
                    obtain ⟨e, a, e', h⟩ := r
                    refine ⟨e, a, e', fun p r' h' => ?_⟩
                    rcases t1 i with q | q
                    · exact h p r' (q ▸ h')
                    · rw [q] at h'; cases h'
          exact gen r.2
        obtain ⟨ds, ρ2, θ2, G2, h2, S2, r2, e2, t2, g2, f2⟩ := frzs_ok S1 s1 f1 h1
        refine ⟨d :: ds, ρ2, θ2, G2, h2, S2, RepL.cons (Rep.mono e2 _ _ r1) r2, e1.trans e2, fun i => ?_, fun a ha n => ?_, f2⟩
        · rcases t2 i with q | q
          · rw [q]; exact t1 i
          · exact .inr q
        · rw [List.flatten_cons, List.mem_append, not_or] at ha
          rw [g2 a ha.2 fun i m => n i ?_, g1 a ha.1 n]
          rcases t1 i with q | q
          · rw [q] at m; exact m
          · rw [q] at m; cases m
/-- the content of a value, in the heap -/
theorem cv_rep {x : Sl} (S : Sim P ρ θ G σ H) (r : RepW P θ G σ H v qs w) (e : cv ρ w = some x) : RepC P.T G H v x := by
  cases w with
  | dat d => cases e; exact r.2
  | own t =>
    cases e
    obtain ⟨p, r', _, h, ho⟩ := r
    exact ⟨p, r', h, ho⟩
  | brw i =>
    obtain ⟨v', k1, k2⟩ := S.get (show slOf ρ i = some x from e)
    rw [r.2] at k1; cases k1
    cases x with
    | dat d => exact k2.2
    | own t =>
      obtain ⟨p, r', _, h, ho⟩ := k2
      exact ⟨p, r', h, ho⟩
  | br2 i k =>
    obtain ⟨_, a, rfl, h⟩ := r
    unfold cv at e
    dsimp only at e
    split at e
    · rename_i dss e1
      obtain ⟨p, r', k1, k2, k3, k4⟩ := S.own e1
      have ha := h p r' k2
      cases c : dss[k]? with
      | none => rw [c] at e; cases e
      | some ds =>
        rw [c] at e; cases e
        have gen : ∀ {dss : List (List D)} {qs : List Addr} {k : Nat}, RepI P.T G H dss qs → qs[k]? = some a → dss[k]? = some ds → ∃ us, H a = some (.lst us) ∧ RepL P.T G ds us := by
          intro dss
          induction dss with
          | nil => intro qs k r e1 e2; cases e2
          | cons d dss ih =>
            intro qs k r e1 e2
            obtain ⟨q, r', us, rfl, h1, h2, h3⟩ := r
            cases k with
            | zero => cases e1; cases e2; exact ⟨us, h1, h2⟩
            | succ k => exact ih h3 e1 e2
        obtain ⟨us, h1, h2⟩ := gen k4 ha c
        exact ⟨a, [], rfl, rfl, us, h1, h2⟩
    · cases e
theorem cvs_rep (S : Sim P ρ θ G σ H) : ∀ {ws : List W} {vs : List V} {qss : List (List Addr)} {xs : List Sl}, RepWs P θ G σ H vs qss ws → cvs ρ ws = some xs → RepCs P.T G H vs xs
  | [], vs, qss, xs, r, e => by
    cases e
    cases vs with
    | nil => trivial
    | cons _ _ => cases qss <;> cases r
  | w :: ws, vs, qss, xs, r, e => by
    cases vs with
    | nil => cases qss <;> exact r.elim
    | cons v vs =>
      cases qss with
      | nil => cases r
      | cons qs qss =>
        unfold cvs at e
        split at e
        · rename_i x xs' e1 e2
          cases e
          exact ⟨cv_rep S r.1 e1, cvs_rep S r.2 e2⟩
        · cases e
end

/-! ### readings -/
/-- what is wanted behind an expression that began at θ, G, H -/
def Kt (P : Par) (θ : Nat → List Addr) (G H : Hp) (σ : List (Option V)) (Q : VK) (w : W) (ρ' : Ro) : Prop :=
  ∀ v qs θ' G' H', Stp θ G H θ' G' H' → Sim P ρ' θ' G' σ H' → RepW P θ' G' σ H' v qs w → Fr P θ' G' qs → (∀ a ∈ qs, H a = none) → Q v H'
def KtA (P : Par) (θ : Nat → List Addr) (G H : Hp) (σ : List (Option V)) (Q : List V → Hp → Prop) (ws : List W) (ρ' : Ro) : Prop :=
  ∀ vs qss θ' G' H', Stp θ G H θ' G' H' → Sim P ρ' θ' G' σ H' → RepWs P θ' G' σ H' vs qss ws → Fr P θ' G' qss.flatten → (∀ a ∈ qss.flatten, H a = none) → Q vs H'
def rdE (P : Par) (e : E) : TE := fun σ H Q => ∃ ρ θ G, Sim P ρ θ G σ H ∧ wE e ρ (Kt P θ G H σ Q)
def rdA (P : Par) (e : E) : TA := fun σ H Q => ∃ ρ θ G, Sim P ρ θ G σ H ∧ wA e ρ (KtA P θ G H σ Q)
def rdT (P : Par) (e : E) : TT := fun σ H Q => rdE P e σ H fun v H' => ∃ k, v = .bl k ∧ Q k H'
section
variable {P : Par} {ρ : Ro} {θ θ' θ0 : Nat → List Addr} {G G' H H' G0 H0 : Hp} {σ : List (Option V)} {v : V} {w : W} {qs : List Addr} {Q : VK}
theorem rd_of {e : E} {R : W → Ro → Prop} (S : Sim P ρ θ G σ H) (h : wE e ρ R)
    (k : ∀ w ρ1 v qs θ1 G1 H1, R w ρ1 → Stp θ G H θ1 G1 H1 → Sim P ρ1 θ1 G1 σ H1 → RepW P θ1 G1 σ H1 v qs w → Fr P θ1 G1 qs → (∀ a ∈ qs, H a = none) → Q v H1) : rdE P e σ H Q :=
  ⟨ρ, θ, G, S, wE_mono e _ _ _ (fun w ρ1 r v qs θ1 G1 H1 s S1 rw f n => k w ρ1 v qs θ1 G1 H1 r s S1 rw f n) h⟩
theorem rdA_of {e : E} {R : List W → Ro → Prop} {Q : List V → Hp → Prop} (S : Sim P ρ θ G σ H) (h : wA e ρ R)
    (k : ∀ ws ρ1 vs qss θ1 G1 H1, R ws ρ1 → Stp θ G H θ1 G1 H1 → Sim P ρ1 θ1 G1 σ H1 → RepWs P θ1 G1 σ H1 vs qss ws → Fr P θ1 G1 qss.flatten → (∀ a ∈ qss.flatten, H a = none) → Q vs H1) : rdA P e σ H Q :=
  ⟨ρ, θ, G, S, wA_mono e _ _ _ (fun w ρ1 r v qs θ1 G1 H1 s S1 rw f n => k w ρ1 v qs θ1 G1 H1 r s S1 rw f n) h⟩
/-- a value that never changes, handed on -/
theorem Kt.dat {d : D} (k : Kt P θ0 G0 H0 σ Q (.dat d) ρ) (s : Stp θ0 G0 H0 θ G H) (S : Sim P ρ θ G σ H) (r : Rep P.T G d v) : Q v H :=
  k v [] θ G H s S ⟨rfl, r⟩ Fr.nil (fun a z => by cases z)
/-- an operator's result, handed on -/
theorem Kt.res (k : Kt P θ0 G0 H0 σ Q w ρ) (s : Stp θ0 G0 H0 θ G H) (S : Sim P ρ θ G σ H) : Res P.T G H Q w := by
  intro v qs G' H' eh eg egh same r nd new
  obtain ⟨S', s'⟩ := S.more eh eg egh same
  refine k v qs θ G' H' (s.trans s') S' ?_ ⟨nd, fun a ha => ⟨(new a ha).2, ?_, fun i m => ?_⟩⟩ (fun a ha => ?_)
  · cases w with
    | dat d => exact r
    | own t => exact r
    | brw i => exact r.elim
    | br2 i j => exact r.elim
  · exact S.pe a (new a ha).1
  · obtain ⟨_, _, o, ho⟩ := S.there m
    rw [(new a ha).1] at ho; cases ho
  · exact s.d a (new a ha).1
end
end Cw
/-! Cw: the rules of the hand layer, read over data: expressions. -/
namespace Cw
open PySem PySem.Spec PyProof.Rows L2

theorem impE {X : Cx} {e : Expr} {t t' : TE} (h : PE X e t) (k : ∀ σ H Q, t' σ H Q → t σ H Q) : PE X e t' := ⟨fun pins s σ H Q I q => h.run pins s σ H Q I (k σ H Q q)⟩
theorem impT {X : Cx} {e : Expr} {t t' : TT} (h : PT X e t) (k : ∀ σ H Q, t' σ H Q → t σ H Q) : PT X e t' := ⟨fun pins s σ H Q I q => h.run pins s σ H Q I (k σ H Q q)⟩
theorem impW {X : Cx} {e : Expr} {t t' : TT} (h : PW X e t) (k : ∀ σ H Q, t' σ H Q → t σ H Q) : PW X e t' := ⟨fun wh pins s σ H Q I q => h.run wh pins s σ H Q I (k σ H Q q)⟩
theorem impA {X : Cx} {e : List Expr} {t t' : TA} (h : PA X e t) (k : ∀ σ H Q, t' σ H Q → t σ H Q) : PA X e t' := ⟨fun pos pins s σ H Q I q => h.run pos pins s σ H Q I (k σ H Q q)⟩
theorem impS {X : Cx} {e : Stmt} {t t' : TS} (h : PS X e t) (k : ∀ D σ H, t' D σ H → t D σ H) : PS X e t' := ⟨fun pins s σ H D I q => h.run pins s σ H D I (k D σ H q)⟩
theorem impSs {X : Cx} {e : List Stmt} {t t' : TS} (h : PSs X e t) (k : ∀ D σ H, t' D σ H → t D σ H) : PSs X e t' := ⟨fun pins s σ H D I q => h.run pins s σ H D I (k D σ H q)⟩

/-- what is asked of a body's context -/
structure Okx (P : Par) (X : Cx) : Prop where
  k : X.K = P.T.K
  calm : X.calm = true
  hu : X.A.units + 200 < cLine
  g : X.A.guards = some []
  nd : X.N.Nodup

section
variable {P : Par} {X : Cx} {a b c : Expr} {ea eb ec : E} {pos : Pos}
theorem s_var {i : Nat} {x : Str} (hN : X.N[i]? = some x) (hv : Vis X.env.scope x) (hd : (x == ("__debug__" : Str)) = false) (hcd : (x == ("__classdict__" : Str)) = false) : PE X (.Name x pos) (rdE P (.var i)) := by
  refine impE (pe_var hN hv hd hcd) fun σ H Q h => ?_
  obtain ⟨ρ, θ, G, S, h⟩ := h
  unfold wE at h
  split at h
  · rename_i d e
    obtain ⟨v, h1, h2⟩ := S.get e
    exact ⟨v, h1, h.dat Stp.refl S h2.2⟩
  · rename_i t e
    obtain ⟨p, r, h1, _⟩ := S.own e
    exact ⟨_, h1, h _ [] θ G H Stp.refl S ⟨rfl, h1⟩ Fr.nil fun a z => by cases z⟩
  · exact h.elim
theorem s_int {n : Int} {j : Nat} : PE X (.Constant (.int n) j pos) (rdE P (.int n)) := impE pe_int fun _ _ _ ⟨_, _, _, S, h⟩ => (show Kt P _ _ _ _ _ _ _ from h).dat Stp.refl S Rep.int
theorem s_bl {n : Bool} {j : Nat} : PE X (.Constant (.bool n) j pos) (rdE P (.bl n)) := impE pe_bl fun _ _ _ ⟨_, _, _, S, h⟩ => (show Kt P _ _ _ _ _ _ _ from h).dat Stp.refl S Rep.bl
theorem s_str {n : Str} {j : Nat} : PE X (.Constant (.str n) j pos) (rdE P (.str n)) := impE pe_str fun _ _ _ ⟨_, _, _, S, h⟩ => (show Kt P _ _ _ _ _ _ _ from h).dat Stp.refl S Rep.str
theorem s_non {j : Nat} : PE X (.Constant .none j pos) (rdE P .non) := impE pe_non fun _ _ _ ⟨_, _, _, S, h⟩ => (show Kt P _ _ _ _ _ _ _ from h).dat Stp.refl S Rep.non
/-- two values in a row -/
theorem rd2 {ρ : Ro} {θ : Nat → List Addr} {G H : Hp} {σ : List (Option V)} {R : W → W → Ro → Prop} {Q : V → V → Hp → Prop} (S : Sim P ρ θ G σ H) (h : wE ea ρ fun v ρ1 => wE eb ρ1 fun w ρ2 => R v w ρ2)
    (k : ∀ v w ρ2 x y qs rs θ2 G2 H2, R v w ρ2 → Stp θ G H θ2 G2 H2 → Sim P ρ2 θ2 G2 σ H2 → RepW P θ2 G2 σ H2 x qs v → RepW P θ2 G2 σ H2 y rs w → Fr P θ2 G2 (qs ++ rs) → (∀ a ∈ qs ++ rs, H a = none) → Q x y H2) :
    rdE P ea σ H fun x H1 => rdE P eb σ H1 fun y H2 => Q x y H2 := by
  refine rd_of S h fun v ρ1 x qs θ1 G1 H1 h1 s1 S1 r1 f1 n1 => ?_
  refine rd_of S1 h1 fun w ρ2 y rs θ2 G2 H2 h2 s2 S2 r2 f2 n2 => ?_
  refine k v w ρ2 x y qs rs θ2 G2 H2 h2 (s1.trans s2) S2 (r1.stp f1 s2) r2 ((f1.stp s2 r1.there).append f2 r1.there n2) fun a ha => ?_
  rcases List.mem_append.mp ha with ha | ha
  · exact n1 a ha
  · exact s1.d a (n2 a ha)
theorem s_bin (O : Okx P X) {op : Bop} (ha : PE X a (rdE P ea)) (hb : PE X b (rdE P eb)) : PE X (.BinOp a (bopA op) b pos) (rdE P (.bin op ea eb)) := by
  refine impE (pe_op (op_bin O.k op) ha hb) fun σ H Q h => ?_
  obtain ⟨ρ, θ, G, S, h⟩ := h
  unfold wE at h
  refine rd2 (Q := fun x y H2 => rBin P.T op x y H2 Q) S h fun v w ρ2 x y qs rs θ2 G2 H2 ⟨sx, sy, e1, e2, q⟩ s2 S2 r1 r2 f n => ?_
  exact ⟨G2, sx, sy, S2.gh, cv_rep S2 r1 e1, cv_rep S2 r2 e2, bin_mono (fun z k => k.res s2 S2) q⟩
theorem s_neg (ha : PE X a (rdE P ea)) : PE X (.UnaryOp .USub a pos) (rdE P (.neg ea)) := by
  refine impE (pe_un un_neg ha) fun σ H Q h => ?_
  obtain ⟨ρ, θ, G, S, h⟩ := h
  unfold wE at h
  refine rd_of S h fun v ρ1 x qs θ1 G1 H1 ⟨i, e, q⟩ s1 S1 r1 f1 n1 => ?_
  obtain rfl := Rep.int_inv (T := P.T) (G := G1) (cv_rep S1 r1 e)
  exact ⟨i, rfl, q.dat s1 S1 Rep.int⟩
theorem s_cmp (O : Okx P X) {op : Cop} (ha : PE X a (rdE P ea)) (hb : PE X b (rdE P eb)) (hm : behindInMarks (copA op) b = false) : PE X (.Compare a [copA op] [b] pos) (rdE P (.cmp op ea eb)) := by
  refine impE (pe_cmpR (op_cmp O.k O.hu op) ha hb hm) fun σ H Q h => ?_
  obtain ⟨ρ, θ, G, S, h⟩ := h
  unfold wE at h
  refine rd2 (Q := fun x y H2 => rCmp P.T op x y H2 Q) S h fun v w ρ2 x y qs rs θ2 G2 H2 ⟨sx, sy, e1, e2, q⟩ s2 S2 r1 r2 f n => ?_
  exact ⟨G2, sx, sy, S2.gh, cv_rep S2 r1 e1, cv_rep S2 r2 e2, cmp_mono (fun z k => k.dat s2 S2 Rep.bl) q⟩
theorem t_cmp (O : Okx P X) {op : Cop} (ha : PE X a (rdE P ea)) (hb : PE X b (rdE P eb)) (hm : behindInMarks (copA op) b = false) : PT X (.Compare a [copA op] [b] pos) (rdT P (.cmp op ea eb)) := by
  refine impT (pt_cmpR (op_cmp O.k O.hu op) ha hb hm) fun σ H Q h => ?_
  obtain ⟨ρ, θ, G, S, h⟩ := h
  unfold wE at h
  refine rd2 (Q := fun x y H2 => rCmp P.T op x y H2 fun v H' => ∃ k, v = .bl k ∧ Q k H') S h fun v w ρ2 x y qs rs θ2 G2 H2 ⟨sx, sy, e1, e2, q⟩ s2 S2 r1 r2 f n => ?_
  exact ⟨G2, sx, sy, S2.gh, cv_rep S2 r1 e1, cv_rep S2 r2 e2, cmp_mono (fun z k => k.dat s2 S2 Rep.bl) q⟩
theorem chn_rd {o p : Cop} {σ : List (Option V)} {H : Hp} {Q : VK} (h : rdE P (.chn o p ea eb ec) σ H Q) : tChain (rCmp P.T o) (rCmp P.T p) (rdE P ea) (rdE P eb) (rdE P ec) σ H Q := by
  obtain ⟨ρ, θ, G, S, h⟩ := h
  unfold wE at h
  unfold tChain
  refine rd2 (R := fun v w ρ2 => ∃ x y, cv ρ2 v = some x ∧ cv ρ2 w = some y ∧ cmp o x y fun r =>
      if r = true then wE ec ρ2 fun u ρ3 => ∃ y' z, cv ρ3 w = some y' ∧ cv ρ3 u = some z ∧ cmp p y' z fun r' => Kt P θ G H σ Q (.dat (.bl r')) ρ3 else Kt P θ G H σ Q (.dat (.bl false)) ρ2) S h fun v w ρ2 x y qs rs θ2 G2 H2 ⟨sx, sy, e1, e2, q⟩ s2 S2 r1 r2 f n => ?_
  refine ⟨G2, sx, sy, S2.gh, cv_rep S2 r1 e1, cv_rep S2 r2 e2, cmp_mono (fun z q => ⟨z, rfl, ?_⟩) q⟩
  cases z with
  | true =>
    rw [if_pos rfl] at q ⊢
    refine rd_of S2 q fun u ρ3 z ts θ3 G3 H3 ⟨y', z', e3, e4, q⟩ s3 S3 r3 f3 n3 => ?_
    exact ⟨G3, y', z', S3.gh, cv_rep S3 (r2.stp f.right s3) e3, cv_rep S3 r3 e4, cmp_mono (fun z k => k.dat (s2.trans s3) S3 Rep.bl) q⟩
  | false =>
    rw [if_neg Bool.false_ne_true] at q ⊢
    exact q.dat s2 S2 Rep.bl
theorem s_and (ha : PE X a (rdE P ea)) {rest : List Expr} (hb : PE X (.BoolOp .And (b :: rest) pos) (rdE P eb)) : PE X (.BoolOp .And (a :: b :: rest) pos) (rdE P (.and ea eb)) := by
  refine impE (pe_and ha hb) fun σ H Q h => ?_
  obtain ⟨ρ, θ, G, S, h⟩ := h
  unfold wE at h
  refine rd_of S h fun v ρ1 x qs θ1 G1 H1 ⟨k, e, q⟩ s1 S1 r1 f1 n1 => ?_
  subst e
  obtain rfl := Rep.bl_inv (T := P.T) (G := G1) r1.2
  refine ⟨k, rfl, ?_⟩
  cases k with
  | true =>
    rw [if_pos rfl] at q ⊢
    refine rd_of S1 q fun w ρ2 y rs θ2 G2 H2 ⟨k', e', q⟩ s2 S2 r2 f2 n2 => ?_
    subst e'
    exact q.dat (s1.trans s2) S2 r2.2
  | false =>
    rw [if_neg Bool.false_ne_true] at q ⊢
    exact q.dat s1 S1 Rep.bl
theorem s_or (ha : PE X a (rdE P ea)) {rest : List Expr} (hb : PE X (.BoolOp .Or (b :: rest) pos) (rdE P eb)) : PE X (.BoolOp .Or (a :: b :: rest) pos) (rdE P (.or ea eb)) := by
  refine impE (pe_or ha hb) fun σ H Q h => ?_
  obtain ⟨ρ, θ, G, S, h⟩ := h
  unfold wE at h
  refine rd_of S h fun v ρ1 x qs θ1 G1 H1 ⟨k, e, q⟩ s1 S1 r1 f1 n1 => ?_
  subst e
  obtain rfl := Rep.bl_inv (T := P.T) (G := G1) r1.2
  refine ⟨k, rfl, ?_⟩
  cases k with
  | true =>
    rw [if_pos rfl] at q ⊢
    exact q.dat s1 S1 Rep.bl
  | false =>
    rw [if_neg Bool.false_ne_true] at q ⊢
    refine rd_of S1 q fun w ρ2 y rs θ2 G2 H2 ⟨k', e', q⟩ s2 S2 r2 f2 n2 => ?_
    subst e'
    exact q.dat (s1.trans s2) S2 r2.2
theorem s_not (ha : PE X a (rdE P ea)) : PE X (.UnaryOp .Not a pos) (rdE P (.not ea)) := by
  refine impE (pe_not ha) fun σ H Q h => ?_
  obtain ⟨ρ, θ, G, S, h⟩ := h
  unfold wE at h
  refine rd_of S h fun v ρ1 x qs θ1 G1 H1 ⟨k, e, q⟩ s1 S1 r1 f1 n1 => ?_
  subst e
  obtain rfl := Rep.bl_inv (T := P.T) (G := G1) r1.2
  exact ⟨k, rfl, q.dat s1 S1 Rep.bl⟩
/-! as tests -/
theorem t_val (h : PE X a (rdE P ea)) (he : ∀ whole, isTrue a X.env whole = (do let v ← whole; standAt a.pos; holding [v] (truthy v))) : PT X a (rdT P ea) := impT (pt_val h he) fun _ _ _ h => h
/-- a test's reading, told by its value -/
theorem rdT_of {ρ : Ro} {θ : Nat → List Addr} {G H : Hp} {σ : List (Option V)} {R : W → Ro → Prop} {Q : Bool → Hp → Prop} (S : Sim P ρ θ G σ H) (h : wE ea ρ R)
    (k : ∀ w ρ1 v qs θ1 G1 H1, R w ρ1 → Stp θ G H θ1 G1 H1 → Sim P ρ1 θ1 G1 σ H1 → RepW P θ1 G1 σ H1 v qs w → Fr P θ1 G1 qs → (∀ a ∈ qs, H a = none) → ∃ b, v = .bl b ∧ Q b H1) : rdT P ea σ H Q := rd_of S h k
theorem t_and (ha : PT X a (rdT P ea)) {rest : List Expr} (hb : PW X (.BoolOp .And (b :: rest) pos) (rdT P eb)) : PW X (.BoolOp .And (a :: b :: rest) pos) (rdT P (.and ea eb)) := by
  refine impW (pw_and ha hb) fun σ H Q h => ?_
  obtain ⟨ρ, θ, G, S, h⟩ := h
  unfold wE at h
  refine rdT_of S h fun v ρ1 x qs θ1 G1 H1 ⟨k, e, q⟩ s1 S1 r1 f1 n1 => ?_
  subst e
  obtain rfl := Rep.bl_inv (T := P.T) (G := G1) r1.2
  refine ⟨k, rfl, ?_⟩
  cases k with
  | true =>
    rw [if_pos rfl] at q ⊢
    refine rdT_of S1 q fun w ρ2 y rs θ2 G2 H2 ⟨k', e', q⟩ s2 S2 r2 f2 n2 => ?_
    subst e'
    exact q.dat (s1.trans s2) S2 r2.2
  | false =>
    rw [if_neg Bool.false_ne_true] at q ⊢
    obtain ⟨k', e', q'⟩ := q.dat s1 S1 Rep.bl
    cases e'; exact q'
theorem t_or (ha : PT X a (rdT P ea)) {rest : List Expr} (hb : PW X (.BoolOp .Or (b :: rest) pos) (rdT P eb)) : PW X (.BoolOp .Or (a :: b :: rest) pos) (rdT P (.or ea eb)) := by
  refine impW (pw_or ha hb) fun σ H Q h => ?_
  obtain ⟨ρ, θ, G, S, h⟩ := h
  unfold wE at h
  refine rdT_of S h fun v ρ1 x qs θ1 G1 H1 ⟨k, e, q⟩ s1 S1 r1 f1 n1 => ?_
  subst e
  obtain rfl := Rep.bl_inv (T := P.T) (G := G1) r1.2
  refine ⟨k, rfl, ?_⟩
  cases k with
  | true =>
    rw [if_pos rfl] at q ⊢
    obtain ⟨k', e', q'⟩ := q.dat s1 S1 Rep.bl
    cases e'; exact q'
  | false =>
    rw [if_neg Bool.false_ne_true] at q ⊢
    refine rdT_of S1 q fun w ρ2 y rs θ2 G2 H2 ⟨k', e', q⟩ s2 S2 r2 f2 n2 => ?_
    subst e'
    exact q.dat (s1.trans s2) S2 r2.2
theorem t_not (ha : PT X a (rdT P ea)) : PT X (.UnaryOp .Not a pos) (rdT P (.not ea)) := by
  refine impT (pt_not ha) fun σ H Q h => ?_
  obtain ⟨ρ, θ, G, S, h⟩ := h
  unfold wE at h
  refine rdT_of S h fun v ρ1 x qs θ1 G1 H1 ⟨k, e, q⟩ s1 S1 r1 f1 n1 => ?_
  subst e
  obtain rfl := Rep.bl_inv (T := P.T) (G := G1) r1.2
  refine ⟨k, rfl, ?_⟩
  obtain ⟨k', e', q'⟩ := q.dat s1 S1 Rep.bl
  cases e'; exact q'
theorem s_ite (hc : PT X c (rdT P ec)) (ha : PE X a (rdE P ea)) (hb : PE X b (rdE P eb)) : PE X (.IfExp c a b pos) (rdE P (.ite ec ea eb)) := by
  refine impE (pe_ifExp hc ha hb) fun σ H Q h => ?_
  obtain ⟨ρ, θ, G, S, h⟩ := h
  unfold wE at h
  refine rdT_of S h fun v ρ1 x qs θ1 G1 H1 ⟨k, e, q⟩ s1 S1 r1 f1 n1 => ?_
  subst e
  obtain rfl := Rep.bl_inv (T := P.T) (G := G1) r1.2
  refine ⟨k, rfl, ?_⟩
  have tr : ∀ {e : E}, wE e ρ1 (Kt P θ G H σ Q) → rdE P e σ H1 Q := fun {e} q => rd_of S1 q fun w ρ2 y rs θ2 G2 H2 q s2 S2 r2 f2 n2 => q y rs θ2 G2 H2 (s1.trans s2) S2 r2 f2 fun a ha => s1.d a (n2 a ha)
  cases k with
  | true => rw [if_pos rfl] at q ⊢; exact tr q
  | false => rw [if_neg Bool.false_ne_true] at q ⊢; exact tr q
theorem s_chn (O : Okx P X) {o p : Cop} (ha : PE X a (rdE P ea)) (hb : PE X b (rdE P eb)) (hc : PE X c (rdE P ec)) (h1 : lastMarks [copA o, copA p] [b, c] = false) :
    PE X (.Compare a [copA o, copA p] [b, c] pos) (rdE P (.chn o p ea eb ec)) := impE (pe_chain (op_cmp O.k O.hu o) (op_cmp O.k O.hu p) ha hb hc h1) fun _ _ _ h => chn_rd h

/-! argument lists, displays -/
theorem a_nil : PA X [] (rdA P .nil) := impA pa_nil fun _ _ _ ⟨_, _, _, S, h⟩ => h [] [] _ _ _ Stp.refl S trivial Fr.nil fun a z => by cases z
theorem a_cons {es : List Expr} {er : E} (ha : PE X a (rdE P ea)) (hr : PA X es (rdA P er)) (hs : starEach (a :: es) X.env = (false, eval a X.env) :: starEach es X.env) : PA X (a :: es) (rdA P (.cons ea er)) := by
  refine impA (pa_cons ha hr hs) fun σ H Q h => ?_
  obtain ⟨ρ, θ, G, S, h⟩ := h
  unfold wA at h
  refine rd_of S h fun v ρ1 x qs θ1 G1 H1 h1 s1 S1 r1 f1 n1 => ?_
  refine rdA_of S1 h1 fun ws ρ2 ys rss θ2 G2 H2 h2 s2 S2 r2 f2 n2 => ?_
  refine h2 (x :: ys) (qs :: rss) θ2 G2 H2 (s1.trans s2) S2 ⟨r1.stp f1 s2, r2⟩ ?_ fun a ha => ?_
  · rw [List.flatten_cons]; exact (f1.stp s2 r1.there).append f2 r1.there n2
  · rw [List.flatten_cons] at ha
    rcases List.mem_append.mp ha with ha | ha
    · exact n1 a ha
    · exact s1.d a (n2 a ha)
/-- behind the freezing of an expression's new things -/
theorem stp_frzs {ρ2 : Ro} {θ θ1 θ2 : Nat → List Addr} {G G1 G2 H H1 : Hp} {σ : List (Option V)} {as : List Addr} (s1 : Stp θ G H θ1 G1 H1) (n1 : ∀ a ∈ as, H a = none) (eg : Ex G1 G2) (t : ∀ i, θ2 i = θ1 i ∨ θ2 i = []) (g : ∀ a, a ∉ as → (∀ i, a ∉ θ1 i) → G2 a = G1 a) : Stp θ G H θ2 G2 H1 where
  h := fun a o e n => by
    obtain ⟨h1, g1⟩ := s1.h a o e n
    refine ⟨h1, (g a (fun m => ?_) fun i m => n i (s1.sub m)).trans g1⟩
    rw [n1 a m] at e; cases e
  t := fun i => by
    rcases t i with q | q
    · rw [q]; exact s1.t i
    · exact .inr q
  g := s1.g.trans eg
  d := s1.d
theorem s_tup {es : List Expr} {k : Nat} (h : PA X es (rdA P ea)) : PE X (.Tuple es k pos) (rdE P (.tup ea)) := by
  refine impE (pe_tup h) fun σ H Q h => ?_
  obtain ⟨ρ, θ, G, S, h⟩ := h
  unfold wE at h
  refine rdA_of S h fun ws ρ1 vs qss θ1 G1 H1 h1 s1 S1 r1 f1 n1 => ?_
  obtain ⟨ds, ρ2, θ2, G2, ⟨hz, q⟩, S2, r2, eg, t2, g2, _⟩ := frzs_ok (rest := []) S1 r1 (by rw [List.append_nil]; exact f1) h1
  refine ⟨by rw [← r2.len]; exact hz, fun p hp => ?_⟩
  exact Res.tup S2.gh (q.res (stp_frzs (ρ2 := ρ2) (σ := σ) s1 n1 eg t2 g2) S2) hp r2
theorem s_lst {es : List Expr} (h : PA X es (rdA P ea)) : PE X (.List es pos) (rdE P (.lst ea)) := by
  refine impE (pe_lst h) fun σ H Q h => ?_
  obtain ⟨ρ, θ, G, S, h⟩ := h
  unfold wE at h
  refine rdA_of S h fun ws ρ1 vs qss θ1 G1 H1 h1 s1 S1 r1 f1 n1 => ?_
  obtain ⟨ds, ρ2, θ2, G2, ⟨hz, q⟩, S2, r2, eg, t2, g2, _⟩ := frzs_ok (rest := []) S1 r1 (by rw [List.append_nil]; exact f1) h1
  refine ⟨by rw [← r2.len]; exact hz, fun p hp => ?_⟩
  exact Res.lst S2.gh (q.res (stp_frzs (ρ2 := ρ2) (σ := σ) s1 n1 eg t2 g2) S2) hp r2
/-- a list of new lists -/
theorem owns_rep {T : Tbl} : ∀ {ws : List W} {vs : List V} {qss : List (List Addr)} {dss : List (List D)} {θ : Nat → List Addr} {G H : Hp} {σ : List (Option V)}, RepWs P θ G σ H vs qss ws → owns ws = some dss → vs = qss.flatten.map V.ref ∧ RepI P.T G H dss qss.flatten
  | [], vs, qss, dss, _, _, _, _, r, e => by
    cases e
    cases vs with
    | nil =>
      cases qss with
      | nil => exact ⟨rfl, rfl⟩
      | cons _ _ => exact r.elim
    | cons _ _ => cases qss <;> cases r
  | w :: ws, vs, qss, dss, _, _, _, _, r, e => by
    cases vs with
    | nil => cases qss <;> exact r.elim
    | cons v vs =>
      cases qss with
      | nil => cases r
      | cons qs qss =>
        cases w with
        | own t =>
          cases t with
          | lst ds =>
            unfold owns at e
            cases c : owns ws with
            | none => rw [c] at e; cases e
            | some dss' =>
              rw [c] at e; cases e
              obtain ⟨ih1, ih2⟩ := owns_rep (T := T) r.2 c
              obtain ⟨p, r', rfl, rfl, rfl, us, h1, h2⟩ := r.1
              exact ⟨by rw [ih1]; rfl, p, qss.flatten, us, rfl, h1, h2, ih2⟩
          | _ => cases e
        | _ => cases e
theorem s_lsl {es : List Expr} (h : PA X es (rdA P ea)) : PE X (.List es pos) (rdE P (.lsl ea)) := by
  refine impE (pe_lst h) fun σ H Q h => ?_
  obtain ⟨ρ, θ, G, S, h⟩ := h
  unfold wE at h
  refine rdA_of S h fun ws ρ1 vs qss θ1 G1 H1 ⟨dss, e, hz, q⟩ s1 S1 r1 f1 n1 => ?_
  obtain ⟨rfl, r2⟩ := owns_rep (T := P.T) r1 e
  have hl : dss.length = qss.flatten.length := by
    have := (r2.toH S1.gh).len
    rw [List.length_map, List.length_map] at this
    exact this
  refine ⟨by rw [List.length_map, ← hl]; exact hz, fun p hp => ?_⟩
  obtain ⟨S2, s2⟩ := S1.more (Ex.new (o := .lst (qss.flatten.map V.ref)) hp) (Ex.refl G1) (S1.gh.trans (Ex.new hp)) fun _ _ _ => rfl
  have np : p ∉ qss.flatten := fun m => by
    obtain ⟨o, ho⟩ := r1.there p m
    rw [hp] at ho; cases ho
  refine q (.ref p) (p :: qss.flatten) θ1 G1 _ (s1.trans s2) S2 ⟨p, _, rfl, rfl, upd_same, r2.stay (Ex.refl _) fun a ha o q => by rw [upd_ne (ne_of_none q hp)]; exact q⟩
    ⟨List.nodup_cons.mpr ⟨np, f1.1⟩, fun a ha => ?_⟩ fun a ha => ?_
  · rcases List.mem_cons.mp ha with rfl | ha
    · refine ⟨S1.gh.none hp, S1.pe _ hp, fun i m => ?_⟩
      obtain ⟨_, _, o, ho⟩ := S1.there m
      rw [hp] at ho; cases ho
    · exact f1.2 a ha
  · rcases List.mem_cons.mp ha with rfl | ha
    · exact s1.d _ hp
    · exact n1 a ha

/-! subscripts, slices, built-in functions, dicts -/
theorem s_idx (O : Okx P X) (ha : PE X a (rdE P ea)) (hb : PE X b (rdE P eb)) (hs : PlainIx b) : PE X (.Subscript a b pos) (rdE P (.idx ea eb)) := by
  refine impE (pe_ix ((ix_idx O.k O.hu).or ix_raw) ha hb hs) fun σ H Q h => ?_
  obtain ⟨ρ, θ, G, S, h⟩ := h
  unfold wE at h
  refine rd2 (Q := fun x y H2 => rIdx P.T x y H2 Q ∨ rRaw x y H2 Q) S h fun v w ρ2 x y qs rs θ2 G2 H2 ⟨sy, e2, q⟩ s2 S2 r1 r2 f n => ?_
  have gen : ∀ {sx : Sl}, cv ρ2 v = some sx → idxC sx sy (fun r => Kt P θ G H σ Q r ρ2) → rIdx P.T x y H2 Q := fun {sx} e1 q =>
    ⟨G2, sx, sy, S2.gh, cv_rep S2 r1 e1, cv_rep S2 r2 e2, idxC_mono (fun z k => k.res s2 S2) q⟩
  unfold Cw.idx at q
  split at q
  · rename_i i
    split at q
    · rename_i dss e1
      obtain ⟨k, rfl, hk, q⟩ := q
      obtain rfl := Rep.int_inv (T := P.T) (G := G2) (cv_rep S2 r2 e2)
      obtain ⟨p, qs', h1, h2, h3, h4⟩ := S2.own e1
      have hx : x = .ref p := by
        have := r1.2
        rw [h1] at this; cases this; rfl
      subst hx
      have hl : dss.length = qs'.length := by
        have := (h4.toH S2.gh).len
        simpa using this
      have hq : qs'[k]? = some (qs'[k]'(by omega)) := by simp
      refine .inr ⟨p, _, k, .ref (qs'[k]'(by omega)), rfl, rfl, h3, atI_nat (by rw [List.getElem?_map, hq]; rfl), ?_⟩
      exact q _ [] θ2 G2 H2 s2 S2 ⟨rfl, _, rfl, fun p' r' e => by rw [h2] at e; cases e; exact hq⟩ Fr.nil fun a z => by cases z
    · rename_i x' _ e1
      exact .inl (gen e1 q)
    · exact q.elim
  · split at q
    · rename_i x' e1
      exact .inl (gen e1 q)
    · exact q.elim
def pTO (P : Par) (o : Option Expr) (e : E) : TO := match o with
  | none => tNoPart
  | some _ => tPart (rdE P e)
theorem s_slc {lo hi : Option Expr} {el eh : E} {p2 : Pos} (O : Okx P X) (ha : PE X a (rdE P ea)) (hl : match lo with | none => el = .nil | some l => el.isNil = false ∧ PE X l (rdE P el)) (hh : match hi with | none => eh = .nil | some l => eh.isNil = false ∧ PE X l (rdE P eh)) :
    PE X (.Subscript a (.Slice lo hi none p2) pos) (rdE P (.slc ea el eh)) := by
  have pl : PO X lo (pTO P lo el) := by
    cases lo with
    | none => exact po_none
    | some l => exact po_some hl.2
  have ph : PO X hi (pTO P hi eh) := by
    cases hi with
    | none => exact po_none
    | some l => exact po_some hh.2
  refine impE (pe_slice (sl_slc O.k) ha pl ph) fun σ H Q h => ?_
  obtain ⟨ρ, θ, G, S, h⟩ := h
  unfold wE at h
  refine rd_of S h fun v ρ1 x qs θ1 G1 H1 h1 s1 S1 r1 f1 n1 => ?_
  dsimp only at h1
  -- the upper part, then the slice
  have up : ∀ (l : Option Int) ρ2 θ2 G2 H2, Stp θ1 G1 H1 θ2 G2 H2 → Sim P ρ2 θ2 G2 σ H2 → RepW P θ2 G2 σ H2 x qs v → Fr P θ2 G2 qs →
      (if eh.isNil = true then ∃ x, cv ρ2 v = some x ∧ slc x l none fun r => Kt P θ G H σ Q r ρ2 else wE eh ρ2 fun l_1 ρ3 => ∃ i, l_1 = .dat (.int i) ∧ ∃ x, cv ρ3 v = some x ∧ slc x l (some i) fun r => Kt P θ G H σ Q r ρ3) →
      pTO P hi eh σ H2 fun u H3 => rSlc P.T x l u H3 Q := fun l ρ2 θ2 G2 H2 s2 S2 r2 f2 q => by
    cases hi with
    | none =>
      have e : eh = .nil := hh
      subst e
      have q := q
      simp only [E.isNil, if_true] at q
      obtain ⟨sx, e1, q⟩ := q
      exact ⟨G2, sx, S2.gh, cv_rep S2 r2 e1, slc_mono (fun z k => k.res (s1.trans s2) S2) q⟩
    | some l' =>
      have hn : eh.isNil = false := hh.1
      rw [hn, if_neg Bool.false_ne_true] at q
      refine rd_of S2 q fun w ρ3 y rs θ3 G3 H3 ⟨i, e, sx, e1, q⟩ s3 S3 r3 f3 n3 => ?_
      subst e
      obtain rfl := Rep.int_inv (T := P.T) (G := G3) r3.2
      exact ⟨i, rfl, G3, sx, S3.gh, cv_rep S3 (r2.stp f2 s3) e1, slc_mono (fun z k => k.res ((s1.trans s2).trans s3) S3) q⟩
  cases lo with
  | none =>
    have e : el = .nil := hl
    subst e
    simp only [E.isNil, if_true] at h1
    exact up none ρ1 θ1 G1 H1 Stp.refl S1 r1 f1 h1
  | some l' =>
    have hn : el.isNil = false := hl.1
    rw [hn, if_neg Bool.false_ne_true] at h1
    refine rd_of S1 h1 fun w ρ2 y rs θ2 G2 H2 ⟨i, e, q⟩ s2 S2 r2 f2 n2 => ?_
    subst e
    obtain rfl := Rep.int_inv (T := P.T) (G := G2) r2.2
    exact ⟨i, rfl, up (some i) ρ2 θ2 G2 H2 s2 S2 (r1.stp f1 s2) (f1.stp s2 r1.there) q⟩
theorem blt_rd {bt : Blt} {σ : List (Option V)} {H : Hp} {Q : VK} (h : rdE P (.blt bt ea) σ H Q) : tCB (rBlt P.T bt) (rdA P ea) σ H Q := by
  obtain ⟨ρ, θ, G, S, h⟩ := h
  unfold wE at h
  unfold tCB
  refine rdA_of S h fun ws ρ1 vs qss θ1 G1 H1 ⟨xs, e, q⟩ s1 S1 r1 f1 n1 => ?_
  exact ⟨G1, xs, S1.gh, cvs_rep S1 r1 e, blt_mono (fun z k => k.res s1 S1) q⟩
theorem s_dnew : PE X (.Dict [] [] pos) (rdE P .dnew) := by
  refine impE pe_dnewK fun σ H Q h p hp => ?_
  obtain ⟨ρ, θ, G, S, h⟩ := h
  have k : Kt P θ G H σ Q (.own (.dk [] [])) ρ := h
  exact (k.res Stp.refl S) (.ref p) [p] G _ (Ex.new hp) (Ex.refl _) (S.gh.trans (Ex.new hp)) (fun _ _ _ => rfl) ⟨p, [], rfl, rfl, rfl, [], upd_same, rfl, RepL.nil⟩ (by simp) fun a ha => by
    have e : a = p := by simpa using ha
    subst e; exact ⟨hp, S.gh.none hp⟩
theorem s_dnewT : PE X (.Dict [] [] pos) (rdE P .dnewT) := by
  refine impE pe_dnewT fun σ H Q h p hp => ?_
  obtain ⟨ρ, θ, G, S, h⟩ := h
  have k : Kt P θ G H σ Q (.own (.dt [] [])) ρ := h
  exact (k.res Stp.refl S) (.ref p) [p] G _ (Ex.new hp) (Ex.refl _) (S.gh.trans (Ex.new hp)) (fun _ _ _ => rfl) ⟨p, [], rfl, rfl, rfl, [], upd_same, rfl, RepL.nil⟩ (by simp) fun a ha => by
    have e : a = p := by simpa using ha
    subst e; exact ⟨hp, S.gh.none hp⟩
/-- a field of an own instance -/
theorem s_fld {c k : Nat} {f : Str} (O : Okx P X) (ha : PE X a (rdE P ea)) (hf : (P.T.fld c)[k]? = some f) (hnd : (P.T.fld c).Nodup) (hc : Cls P.T.K (P.T.cls c)) (hn : NoAttr P.T.K (P.T.cls c) f) (hb : attributeBase a f X.env (eval a X.env) = eval a X.env) :
    PE X (.Attribute a f pos) (rdE P (.fld c k ea)) := by
  refine impE (pe_fld ha hb) fun σ H Q h => ?_
  obtain ⟨ρ, θ, G, S, h⟩ := h
  unfold wE at h
  refine rd_of S h fun v ρ1 x qs θ1 G1 H1 ⟨fs, d, e, ed, q⟩ s1 S1 r1 f1 n1 => ?_
  subst e
  obtain ⟨p, dx, us, rfl, h1, h2, h3⟩ := Rep.ins_inv r1.2
  obtain ⟨u, hu, ru⟩ := h3.get ed
  refine ⟨p, P.T.cls c, dx, _, u, rfl, S1.gh _ _ h1, by rw [O.k]; exact hc, by rw [O.k]; exact hn, ?_, q.dat s1 S1 ru⟩
  have gen : ∀ {fl : List Str} {us : List V} {k : Nat}, fl.Nodup → fl[k]? = some f → us[k]? = some u → (fl.zip us).lookup f = some u := by
    intro fl
    induction fl with
    | nil => intro us k _ e; cases e
    | cons g fl ih =>
      intro us k nd e1 e2
      cases us with
      | nil => cases e2
      | cons w us =>
        rw [List.zip_cons_cons]
        cases k with
        | zero => cases e1; cases e2; simp [List.lookup]
        | succ k =>
          have e1' : fl[k]? = some f := e1
          have ne : (f == g) = false := by
            have := (List.nodup_cons.mp nd).1
            rw [beq_eq_false_iff_ne]
            rintro rfl
            exact this (List.mem_of_getElem? e1')
          simp only [List.lookup, ne]
          exact ih (List.nodup_cons.mp nd).2 e1' e2
  exact gen hnd hf hu
end
end Cw
/-! Cw: names forgotten, added, stored; calls. -/
namespace Cw
open PySem PySem.Spec PyProof.Rows L2

def tset (θ : Nat → List Addr) (i : Nat) (qs : List Addr) : Nat → List Addr := fun j => if j = i then qs else θ j
theorem tset_same {θ : Nat → List Addr} {i : Nat} {qs : List Addr} : tset θ i qs i = qs := if_pos rfl
theorem tset_ne {θ : Nat → List Addr} {i j : Nat} {qs : List Addr} (h : j ≠ i) : tset θ i qs j = θ j := if_neg h
theorem mem_tset_nil {θ : Nat → List Addr} {i j : Nat} {a : Addr} (h : a ∈ tset θ i [] j) : j ≠ i ∧ a ∈ θ j := by
  by_cases e : j = i
  · subst e; rw [tset_same] at h; cases h
  · rw [tset_ne e] at h; exact ⟨e, h⟩

section
variable {P : Par} {ρ ρ' : Ro} {θ θ' : Nat → List Addr} {G G' H H' : Hp} {σ : List (Option V)} {v : V} {w : W} {qs : List Addr}
theorem Sim.forget (S : Sim P ρ θ G σ H) (i : Nat) : Sim P (ρ.set i none) (tset θ i []) G σ H where
  g0 := S.g0
  gh := S.gh
  fr := S.fr
  gs := S.gs
  pe := S.pe
  ln := by rw [List.length_set]; exact S.ln
  sl := fun j x e => by
    have hj : j ≠ i := by
      rintro rfl
      by_cases hl : j < ρ.length
      · rw [List.getElem?_set_self hl] at e; cases e
      · rw [List.getElem?_eq_none (by rw [List.length_set]; omega)] at e; cases e
    rw [List.getElem?_set_ne (Ne.symm hj)] at e
    rw [tset_ne hj]; exact S.sl j x e
  no := fun j hn => by
    by_cases hj : j = i
    · subst hj; exact tset_same
    · rw [tset_ne hj]
      refine S.no j fun t q => hn t ?_
      rw [List.getElem?_set_ne (Ne.symm hj)]; exact q
  gn := fun j a ha => S.gn j a (mem_tset_nil ha).2
  nw := fun j a ha => S.nw j a (mem_tset_nil ha).2
  nd := fun j => by
    by_cases hj : j = i
    · subst hj; rw [tset_same]; exact List.nodup_nil
    · rw [tset_ne hj]; exact S.nd j
  dj := fun j k a ha hb => S.dj j k a (mem_tset_nil ha).2 (mem_tset_nil hb).2
  fx := S.fx
/-- a name takes a content -/
theorem Sim.add (S : Sim P ρ θ G σ H) {i : Nat} {x : Sl} (hi : i < ρ.length) (h0 : θ i = []) (hv : σ[i]? = some (some v)) (r : RepS P.T G H v qs x) (hd : qs.Nodup) (gn : ∀ a ∈ qs, G a = none) (nw : ∀ a ∈ qs, P.H0 a = none ∨ (a ∈ P.A0 ∧ i < P.fx.length)) (dj : ∀ j a, a ∈ qs → a ∉ θ j) :
    Sim P (ρ.set i (some x)) (tset θ i qs) G σ H where
  g0 := S.g0
  gh := S.gh
  fr := S.fr
  gs := S.gs
  pe := S.pe
  ln := by rw [List.length_set]; exact S.ln
  sl := fun j y e => by
    by_cases hj : j = i
    · subst hj
      rw [List.getElem?_set_self hi] at e; cases e
      rw [tset_same]; exact ⟨v, hv, r⟩
    · rw [List.getElem?_set_ne (Ne.symm hj)] at e
      rw [tset_ne hj]; exact S.sl j y e
  no := fun j hn => by
    by_cases hj : j = i
    · subst hj
      rw [tset_same]
      cases x with
      | dat d => exact r.1
      | own t => exact absurd (List.getElem?_set_self hi) (hn t)
    · rw [tset_ne hj]
      refine S.no j fun t q => hn t ?_
      rw [List.getElem?_set_ne (Ne.symm hj)]; exact q
  gn := fun j a ha => by
    by_cases hj : j = i
    · subst hj; rw [tset_same] at ha; exact gn a ha
    · rw [tset_ne hj] at ha; exact S.gn j a ha
  nw := fun j a ha => by
    by_cases hj : j = i
    · subst hj; rw [tset_same] at ha; exact nw a ha
    · rw [tset_ne hj] at ha; exact S.nw j a ha
  nd := fun j => by
    by_cases hj : j = i
    · subst hj; rw [tset_same]; exact hd
    · rw [tset_ne hj]; exact S.nd j
  dj := fun j k a ha hb => by
    by_cases hj : j = i
    · subst hj
      rw [tset_same] at ha
      by_cases hk : k = j
      · exact hk.symm
      · rw [tset_ne hk] at hb; exact absurd hb (dj k a ha)
    · rw [tset_ne hj] at ha
      by_cases hk : k = i
      · subst hk
        rw [tset_same] at hb; exact absurd ha (dj j a hb)
      · rw [tset_ne hk] at hb; exact S.dj j k a ha hb
  fx := S.fx
/-- a forgotten name's slot changes -/
theorem Sim.slot (S : Sim P ρ θ G σ H) {i : Nat} {o : Option V} (hn : slOf ρ i = none) (hf : ∀ v, P.fx[i]? ≠ some (some v)) : Sim P ρ θ G (σ.set i o) H where
  g0 := S.g0
  gh := S.gh
  fr := S.fr
  gs := S.gs
  pe := S.pe
  ln := by rw [List.length_set]; exact S.ln
  sl := fun j y e => by
    obtain ⟨v, h1, h2⟩ := S.sl j y e
    have hj : j ≠ i := by
      rintro rfl
      rw [slOf_iff.mpr e] at hn; cases hn
    exact ⟨v, by rw [List.getElem?_set_ne (Ne.symm hj)]; exact h1, h2⟩
  no := S.no
  gn := S.gn
  nw := S.nw
  nd := S.nd
  dj := S.dj
  fx := fun j v e => by
    have hj : j ≠ i := by
      rintro rfl
      exact hf v e
    rw [List.getElem?_set_ne (Ne.symm hj)]; exact S.fx j v e
/-- the heap changes at as alone, of which no name knows -/
theorem Sim.heap (S : Sim P ρ θ G σ H) {as : List Addr} (eg : Ex G G') (egh : Ex G' H') (hf : ∀ a o, H a = some o → a ∉ as → H' a = some o ∧ G' a = G a) (pe : ∀ a, H' a = none → H a = none) (na : ∀ a ∈ as, (∀ i, a ∉ θ i) ∧ (P.H0 a = none ∨ a ∈ P.A0)) : Sim P ρ θ G' σ H' where
  g0 := S.g0.trans eg
  gh := egh
  fr := fun a o h n => (hf a o (S.fr a o h n) fun m => by
    rcases (na a m).2 with q | q
    · rw [h] at q; cases q
    · exact n q).1
  gs := fun a o h n => ((hf a o (S.fr a o h n) fun m => by
    rcases (na a m).2 with q | q
    · rw [h] at q; cases q
    · exact n q).2).trans (S.gs a o h n)
  pe := fun a h => S.pe a (pe a h)
  ln := S.ln
  sl := fun j y e => by
    obtain ⟨v, h1, h2⟩ := S.sl j y e
    refine ⟨v, h1, ?_⟩
    cases y with
    | dat d => exact ⟨h2.1, Rep.mono eg _ _ h2.2⟩
    | own t =>
      obtain ⟨p, r, e1, e2, ho⟩ := h2
      refine ⟨p, r, e1, e2, ho.stay eg fun a ha o q => (hf a o q fun m => (na a m).1 j ?_).1⟩
      rw [e1]; exact ha
  no := S.no
  gn := fun i a ha => by
    obtain ⟨_, _, o, ho⟩ := S.there ha
    rw [(hf a o ho fun m => (na a m).1 i ha).2]; exact S.gn i a ha
  nw := S.nw
  nd := S.nd
  dj := S.dj
  fx := S.fx
end

/-! ### what a function promises -/
def RepAs (T : Tbl) (G H : Hp) : List V → List (List Addr) → List Sl → Prop
  | [], [], [] => True
  | v :: vs, qs :: qss, x :: xs => RepS T G H v qs x ∧ RepAs T G H vs qss xs
  | _, _, _ => False
/-- an argument behind the call: a changed object as it is now, or a thing that never changes from here on -/
def RepB (T : Tbl) (G H : Hp) (v : V) (qs : List Addr) (a : Sl) (qs' : List Addr) (b : Sl) : Prop := match a with
  | .dat _ => qs' = []
  | .own _ => (match b with | .own _ => qs' = qs | .dat _ => qs' = []) ∧ RepS T G H v qs' b
def RepBs (T : Tbl) (G H : Hp) : List V → List (List Addr) → List Sl → List (List Addr) → List Sl → Prop
  | [], [], [], [], [] => True
  | v :: vs, qs :: qss, a :: as, qs' :: qss', b :: bs => RepB T G H v qs a qs' b ∧ RepBs T G H vs qss as qss' bs
  | _, _, _, _, _ => False
structure EndF (T : Tbl) (G H : Hp) (vs : List V) (qss : List (List Addr)) (as : List Sl) (r : Sl) (bs : List Sl) (v : V) (qs : List Addr) (qss' : List (List Addr)) (G' H' : Hp) : Prop where
  eg : Ex G G'
  gh : Ex G' H'
  fr : ∀ a o, H a = some o → a ∉ qss.flatten → H' a = some o ∧ G' a = G a
  pe : ∀ a, H' a = none → H a = none
  ar : RepBs T G' H' vs qss as qss' bs
  gn : ∀ a ∈ qss'.flatten, G' a = none
  rv : RepR T G' H' v qs (ofSl r)
  rn : qs.Nodup
  rf : ∀ a ∈ qs, H a = none ∧ G' a = none
/-- an argument that the def does not change is a thing that never changes -/
def Md : List Bool → List Sl → Prop
  | [], [] => True
  | m :: ms, a :: as => (m = false → ∃ d, a = .dat d) ∧ Md ms as
  | _, _ => False
def spF (T : Tbl) (F : Fn) : Sp := fun vs H Q _ => vs.length = F.modes.length ∧ ∃ G as qss, Ex G H ∧ Md F.modes as ∧ RepAs T G H vs qss as ∧ qss.flatten.Nodup ∧ (∀ a ∈ qss.flatten, G a = none) ∧
  F.sp as fun r bs => ∀ v qs qss' G' H', EndF T G H vs qss as r bs v qs qss' G' H' → Q v H'

/-! ### the arguments handed -/
/-- how an argument's name is linked: the i-th name's object is handed -/
def Lnk (ρ : Ro) (θ : Nat → List Addr) (σ : List (Option V)) : List V → List (Option Nat) → List (List Addr) → List Sl → Prop
  | [], [], [], [] => True
  | v :: vs, some i :: bs, qs :: qss, x :: xs => (i < ρ.length ∧ θ i = qs ∧ σ[i]? = some (some v) ∧ some i ∉ bs ∧ (∃ t, x = .own t)) ∧ Lnk ρ θ σ vs bs qss xs
  | _ :: vs, none :: bs, _ :: qss, _ :: xs => Lnk ρ θ σ vs bs qss xs
  | _, _, _, _ => False
section
variable {P : Par} {G H : Hp} {σ : List (Option V)}
theorem Lnk.stay {ρ ρ' : Ro} {θ θ' : Nat → List Addr} (hl : ρ'.length = ρ.length) : ∀ {vs : List V} {bs : List (Option Nat)} {qss : List (List Addr)} {xs : List Sl}, Lnk ρ θ σ vs bs qss xs → (∀ i, some i ∈ bs → θ' i = θ i) → Lnk ρ' θ' σ vs bs qss xs
  | [], [], [], [], _, _ => trivial
  | v :: vs, some i :: bs, qs :: qss, x :: xs, h, k => ⟨⟨by rw [hl]; exact h.1.1, (k i (by simp)).trans h.1.2.1, h.1.2.2⟩, Lnk.stay hl h.2 fun j m => k j (List.mem_cons_of_mem _ m)⟩
  | v :: vs, none :: bs, qs :: qss, x :: xs, h, k => Lnk.stay (vs := vs) (qss := qss) (xs := xs) hl h fun j m => k j (List.mem_cons_of_mem _ m)
/-- the new addresses among those handed -/
def news : List (Option Nat) → List (List Addr) → List Addr
  | some _ :: bs, _ :: qss => news bs qss
  | none :: bs, qs :: qss => qs ++ news bs qss
  | _, _ => []
theorem frz_len {w : W} {ρ : Ro} {n : Nat} {Q : D → Ro → Prop} (h : frz w ρ Q) (hn : ρ.length = n) : frz w ρ fun d ρ' => ρ'.length = n ∧ Q d ρ' := by
  cases w with
  | dat d => exact ⟨hn, h⟩
  | own t => exact ⟨hn, h⟩
  | brw i =>
    unfold frz at h ⊢
    dsimp only at h ⊢
    split at h
    · exact ⟨hn, h⟩
    · exact ⟨by rw [List.length_set]; exact hn, h⟩
    · exact h
  | br2 i k => exact h
/-- what is known when the arguments are handed -/
structure Handed (P : Par) (σ : List (Option V)) (ρ : Ro) (θ : Nat → List Addr) (G : Hp) (H : Hp) (vs : List V) (qss : List (List Addr)) (as : List Sl) (bs : List (Option Nat)) (θ0 : Nat → List Addr) (G0 : Hp) (old : List Addr) (rest : List Addr) : Prop where
  S : Sim P ρ θ G σ H
  ar : RepAs P.T G H vs qss as
  lk : Lnk ρ θ σ vs bs qss as
  nd : qss.flatten.Nodup
  gn : ∀ a ∈ qss.flatten, G a = none
  eg : Ex G0 G
  t : ∀ i, θ i = θ0 i ∨ θ i = []
  g : ∀ a, a ∉ old → (∀ i, a ∉ θ0 i) → G a = G0 a
  fr : Fr P θ G (news bs qss ++ rest)
  nw : ∀ a ∈ news bs qss, a ∈ old

theorem RepWs.imm {θ θ1 : Nat → List Addr} {G1 : Hp} (e1 : Ex G G1) (t1 : ∀ i, θ1 i = θ i ∨ θ1 i = []) : ∀ {ws : List W} {vs : List V} {qss : List (List Addr)}, RepWs P θ G σ H vs qss ws → RepWs P θ1 G1 σ H vs qss ws := by
  intro ws
  induction ws with
  | nil => intro vs qss r; cases vs <;> cases qss <;> first | exact r | cases r
  | cons w ws ih =>
    intro vs qss r
    cases vs with
    | nil => cases qss <;> exact r.elim
    | cons v vs =>
      cases qss with
      | nil => cases r
      | cons qs qss =>
        refine ⟨?_, ih r.2⟩
        have r := r.1
        cases w with
        | dat d => exact ⟨r.1, Rep.mono e1 _ _ r.2⟩
        | own t =>
          obtain ⟨p, r', q1, q2, ho⟩ := r
          exact ⟨p, r', q1, q2, ho.stay e1 fun _ _ _ q => q⟩
        | brw i => exact r
        | br2 i k =>
          obtain ⟨e, a, e', h⟩ := r
          refine ⟨e, a, e', fun p r' h' => ?_⟩
          rcases t1 i with q | q
          · exact h p r' (q ▸ h')
          · rw [q] at h'; cases h'
theorem Fr.perm {θ : Nat → List Addr} {as bs : List Addr} (f : Fr P θ G as) (p : as.Perm bs) : Fr P θ G bs := ⟨p.nodup_iff.mp f.1, fun a ha => f.2 a (p.mem_iff.mpr ha)⟩
theorem Lnk.mem {ρ : Ro} {θ : Nat → List Addr} {a : Addr} : ∀ {vs : List V} {bs : List (Option Nat)} {qss : List (List Addr)} {xs : List Sl}, Lnk ρ θ σ vs bs qss xs → a ∈ qss.flatten → (∃ j, some j ∈ bs ∧ a ∈ θ j) ∨ a ∈ news bs qss
  | [], [], [], [], _, ha => by cases ha
  | v :: vs, some i :: bs, qs :: qss, x :: xs, h, ha => by
    rw [List.flatten_cons] at ha
    rcases List.mem_append.mp ha with m | m
    · exact .inl ⟨i, by simp, by rw [h.1.2.1]; exact m⟩
    · rcases Lnk.mem h.2 m with ⟨j, k1, k2⟩ | k
      · exact .inl ⟨j, List.mem_cons_of_mem _ k1, k2⟩
      · exact .inr k
  | v :: vs, none :: bs, qs :: qss, x :: xs, h, ha => by
    rw [List.flatten_cons] at ha
    rcases List.mem_append.mp ha with m | m
    · exact .inr (List.mem_append_left _ m)
    · rcases Lnk.mem (vs := vs) (xs := xs) h m with ⟨j, k1, k2⟩ | k
      · exact .inl ⟨j, List.mem_cons_of_mem _ k1, k2⟩
      · exact .inr (List.mem_append_right _ k)
/-- one more argument that never changes -/
theorem Handed.dat {ρ' : Ro} {θ' θ0 : Nat → List Addr} {G' G0 : Hp} {vs : List V} {qss : List (List Addr)} {as : List Sl} {bs : List (Option Nat)} {old rest qs : List Addr} {v : V} {d : D} (h : Handed P σ ρ' θ' G' H vs qss as bs θ0 G0 old rest) (r : Rep P.T G' d v) :
    Handed P σ ρ' θ' G' H (v :: vs) ([] :: qss) (.dat d :: as) (none :: bs) θ0 G0 (qs ++ old) rest :=
  ⟨h.S, ⟨⟨rfl, r⟩, h.ar⟩, h.lk, h.nd, h.gn, h.eg, h.t, fun a ha n => h.g a (fun m => ha (List.mem_append_right _ m)) n, h.fr, fun a ha => List.mem_append_right _ (h.nw a ha)⟩
theorem pass_ok : ∀ {ms : List Bool} {ws : List W} {vs : List V} {qss : List (List Addr)} {ρ : Ro} {θ : Nat → List Addr} {G : Hp} {rest : List Addr} {K : List Sl → List (Option Nat) → Ro → Prop}, Sim P ρ θ G σ H → RepWs P θ G σ H vs qss ws → Fr P θ G (qss.flatten ++ rest) → pass ms ws ρ K →
    vs.length = ms.length ∧ ∃ as bs ρ' θ' G' qssA, K as bs ρ' ∧ Md ms as ∧ Handed P σ ρ' θ' G' H vs qssA as bs θ G qss.flatten rest := by
  intro ms
  induction ms with
  | nil =>
    intro ws vs qss ρ θ G rest K S r f h
    cases ws with
    | nil =>
      cases vs with
      | nil =>
        cases qss with
        | nil => exact ⟨rfl, [], [], ρ, θ, G, [], h, trivial, S, trivial, trivial, List.nodup_nil, fun a z => (by cases z), Ex.refl _, fun _ => .inl rfl, fun _ _ _ => rfl, f.right, fun a z => by cases z⟩
        | cons _ _ => exact r.elim
      | cons _ _ => cases qss <;> cases r
    | cons _ _ => exact h.elim
  | cons m ms ih =>
    intro ws vs qss ρ θ G rest K S r f h
    cases ws with
    | nil => cases m <;> exact h.elim
    | cons w ws =>
      cases vs with
      | nil => cases qss <;> exact r.elim
      | cons v vs =>
        cases qss with
        | nil => cases r
        | cons qs qss =>
          rw [List.flatten_cons] at f ⊢
          cases m with
          | false =>
            unfold pass at h
            rw [List.append_assoc] at f
            obtain ⟨d, ρ1, θ1, G1, h1, S1, r1, e1, t1, g1, f1⟩ := frz_ok S r.1 f h
            obtain ⟨hl, as, bs, ρ2, θ2, G2, qssA, h2, md, N⟩ := ih S1 (RepWs.imm e1 t1 r.2) f1 h1
            refine ⟨by simp [hl], _, _, ρ2, θ2, G2, [] :: qssA, h2, ⟨fun _ => ⟨d, rfl⟩, md⟩, ⟨N.S, ⟨⟨rfl, Rep.mono N.eg _ _ r1⟩, N.ar⟩, N.lk, N.nd, N.gn, e1.trans N.eg, fun i => ?_, fun a ha n => ?_, N.fr, fun a ha => List.mem_append_right _ (N.nw a ha)⟩⟩
            · rcases N.t i with q | q
              · rw [q]; exact t1 i
              · exact .inr q
            · rw [N.g a (fun m => ha (List.mem_append_right _ m)) fun i m => n i ?_, g1 a (fun m => ha (List.mem_append_left _ m)) n]
              rcases t1 i with q | q
              · rw [q] at m; exact m
              · rw [q] at m; cases m
          | true =>
            cases w with
            | dat d =>
              unfold pass at h
              obtain ⟨e0, r0⟩ := r.1
              subst e0
              obtain ⟨hl, as, bs, ρ2, θ2, G2, qssA, h2, md, N⟩ := ih S r.2 f h
              exact ⟨by simp [hl], _, _, ρ2, θ2, G2, _, h2, ⟨fun _ => ⟨d, rfl⟩, md⟩, N.dat (qs := []) (Rep.mono N.eg _ _ r0)⟩
            | own t =>
              unfold pass at h
              have pm : ((qs ++ qss.flatten) ++ rest).Perm (qss.flatten ++ (qs ++ rest)) := by
                rw [← List.append_assoc]
                exact List.perm_append_comm.append_right rest
              obtain ⟨hl, as, bs, ρ2, θ2, G2, qssA, h2, md, N⟩ := ih S r.2 (f.perm pm) h
              obtain ⟨p, r', rfl, rfl, ho⟩ := r.1
              have pm2 : (news bs qssA ++ ((p :: r') ++ rest)).Perm (((p :: r') ++ news bs qssA) ++ rest) := by
                rw [← List.append_assoc]
                exact List.perm_append_comm.append_right rest
              have f2 := N.fr.perm pm2
              refine ⟨by simp [hl], _, _, ρ2, θ2, G2, (p :: r') :: qssA, h2, ⟨(fun z => (by cases z)), md⟩, ⟨N.S, ⟨⟨p, r', rfl, rfl, ho.stay N.eg fun _ _ _ q => q⟩, N.ar⟩, N.lk, ?_, ?_, N.eg, N.t, fun a ha n => N.g a (fun m => ha (List.mem_append_right _ m)) n, f2, ?_⟩⟩
              · rw [List.flatten_cons]
                refine List.nodup_append.mpr ⟨f2.left.left.1, N.nd, fun a ha b hb e => ?_⟩
                subst e
                rcases N.lk.mem hb with ⟨j, k1, k2⟩ | k
                · exact (f2.left.left.2 a ha).2.2 j k2
                · exact (List.nodup_append.mp f2.left.1).2.2 a ha a k rfl
              · intro a ha
                rw [List.flatten_cons] at ha
                rcases List.mem_append.mp ha with m | m
                · exact (f2.left.left.2 a m).1
                · exact N.gn a m
              · intro a ha
                rcases List.mem_append.mp ha with m | m
                · exact List.mem_append_left _ m
                · exact List.mem_append_right _ (N.nw a m)
            | brw i =>
              unfold pass at h
              obtain ⟨e0, r0⟩ := r.1
              subst e0
              split at h
              · rename_i t e1
                obtain ⟨hl, as, bs, ρ2, θ2, G2, qssA, ⟨k1, k2, h2⟩, md, N⟩ := ih S r.2 f h
                obtain ⟨p, r', q1, q2, q3⟩ := N.S.own k2
                rw [r0] at q1; cases q1
                have hi : i < ρ2.length := (List.getElem?_eq_some_iff.mp (slOf_iff.mp k2)).1
                refine ⟨by simp [hl], _, _, ρ2, θ2, G2, θ2 i :: qssA, h2, ⟨(fun z => (by cases z)), md⟩, ⟨N.S, ⟨⟨p, r', q2, rfl, q3⟩, N.ar⟩, ⟨⟨hi, rfl, r0, k1, t, rfl⟩, N.lk⟩, ?_, ?_, N.eg, N.t, fun a ha n => N.g a (fun m => ha (List.mem_append_right _ m)) n, N.fr, fun a ha => List.mem_append_right _ (N.nw a ha)⟩⟩
                · rw [List.flatten_cons]
                  refine List.nodup_append.mpr ⟨N.S.nd i, N.nd, fun a ha b hb e => ?_⟩
                  subst e
                  rcases N.lk.mem hb with ⟨j, m1, m2⟩ | m
                  · have := N.S.dj i j a ha m2
                    subst this; exact k1 m1
                  · exact (N.fr.left.2 a m).2.2 i ha
                · intro a ha
                  rw [List.flatten_cons] at ha
                  rcases List.mem_append.mp ha with m | m
                  · exact N.S.gn i a m
                  · exact N.gn a m
              · rename_i d e1
                obtain ⟨hl, as, bs, ρ2, θ2, G2, qssA, h2, md, N⟩ := ih S r.2 f h
                obtain ⟨v', q1, q2⟩ := S.get e1
                rw [r0] at q1; cases q1
                exact ⟨by simp [hl], _, _, ρ2, θ2, G2, _, h2, ⟨fun _ => ⟨d, rfl⟩, md⟩, N.dat (qs := []) (Rep.mono N.eg _ _ q2.2)⟩
              · exact h.elim
            | br2 i k => exact h.elim

/-! ### behind a call -/
/-- the addresses behind the call -/
def thB : List (Option Nat) → List (List Addr) → (Nat → List Addr) → Nat → List Addr
  | some i :: bs, q :: qss, θ => thB bs qss (tset θ i q)
  | none :: bs, _ :: qss, θ => thB bs qss θ
  | _, _, θ => θ
theorem back_len : ∀ {bs : List (Option Nat)} {rs : List Sl} {ρ : Ro}, (back bs rs ρ).length = ρ.length
  | [], _, _ => by unfold back; rfl
  | some i :: bs, [], _ => by unfold back; rfl
  | none :: bs, [], _ => by unfold back; rfl
  | some i :: bs, r :: rs, ρ => by unfold back; rw [back_len, List.length_set]
  | none :: bs, r :: rs, ρ => by unfold back; rw [back_len]
theorem back_ne : ∀ {bs : List (Option Nat)} {rs : List Sl} {ρ : Ro} {j : Nat}, some j ∉ bs → slOf (back bs rs ρ) j = slOf ρ j
  | [], _, _, _, _ => by unfold back; rfl
  | some i :: bs, [], _, _, _ => by unfold back; rfl
  | none :: bs, [], _, _, _ => by unfold back; rfl
  | some i :: bs, r :: rs, ρ, j, h => by
    unfold back
    rw [back_ne fun m => h (List.mem_cons_of_mem _ m)]
    exact slOf_set_ne fun e => h (by rw [e]; exact List.mem_cons_self)
  | none :: bs, r :: rs, ρ, j, h => by
    unfold back
    rw [back_ne fun m => h (List.mem_cons_of_mem _ m)]
theorem thB_ne : ∀ {bs : List (Option Nat)} {qss : List (List Addr)} {θ : Nat → List Addr} {j : Nat}, some j ∉ bs → thB bs qss θ j = θ j
  | [], _, _, _, _ => by unfold thB; rfl
  | some i :: bs, [], _, _, _ => by unfold thB; rfl
  | none :: bs, [], _, _, _ => by unfold thB; rfl
  | some i :: bs, r :: rs, θ, j, h => by
    unfold thB
    rw [thB_ne fun m => h (List.mem_cons_of_mem _ m)]
    exact tset_ne fun e => h (by rw [e]; exact List.mem_cons_self)
  | none :: bs, r :: rs, θ, j, h => by
    unfold thB
    rw [thB_ne fun m => h (List.mem_cons_of_mem _ m)]
/-- a linked name behind the call -/
theorem lnk_back {G2 H2 : Hp} : ∀ {vs : List V} {bs : List (Option Nat)} {qss qss' : List (List Addr)} {as rs : List Sl} {ρ : Ro} {θ θr : Nat → List Addr} {ρr : Ro}, Lnk ρ θ σ vs bs qss as → RepBs P.T G2 H2 vs qss as qss' rs → ρr.length = ρ.length → ∀ j, some j ∈ bs →
    ∃ x v, slOf (back bs rs ρr) j = some x ∧ σ[j]? = some (some v) ∧ RepS P.T G2 H2 v (thB bs qss' θr j) x ∧ (thB bs qss' θr j = θ j ∨ thB bs qss' θr j = []) ∧ ∀ a ∈ thB bs qss' θr j, a ∈ qss'.flatten
  | [], [], [], qss', [], rs, _, _, _, _, _, _, _, j, m => by cases m
  | v :: vs, some i :: bs, qs :: qss, qss', x :: xs, rs, ρ, θ, θr, ρr, l, r, hl, j, m => by
    cases qss' with
    | nil => exact r.elim
    | cons q' qss' =>
      cases rs with
      | nil => exact r.elim
      | cons b rs =>
        obtain ⟨⟨l1, l2, l3, l4, t, rfl⟩, l5⟩ := l
        by_cases hj : some j ∈ bs
        · obtain ⟨x, w, h1, h2, h3, h4, h5⟩ := lnk_back (θr := tset θr i q') (ρr := ρr.set i (some b)) l5 r.2 (by rw [List.length_set]; exact hl) j hj
          exact ⟨x, w, h1, h2, h3, h4, fun a ha => by rw [List.flatten_cons]; exact List.mem_append_right _ (h5 a ha)⟩
        · have e : j = i := by
            rcases List.mem_cons.mp m with e | m
            · exact Option.some.inj e
            · exact absurd m hj
          subst e
          unfold back thB
          rw [back_ne hj, thB_ne hj, tset_same, slOf_set (by rw [hl]; exact l1), if_pos rfl]
          obtain ⟨k1, k2⟩ := r.1
          refine ⟨b, v, rfl, l3, k2, ?_, fun a ha => by rw [List.flatten_cons]; exact List.mem_append_left _ ha⟩
          cases b with
          | dat d => exact .inr k1
          | own t' => rw [l2]; exact .inl k1
  | v :: vs, none :: bs, qs :: qss, qss', x :: xs, rs, ρ, θ, θr, ρr, l, r, hl, j, m => by
    cases qss' with
    | nil => exact r.elim
    | cons q' qss' =>
      cases rs with
      | nil => exact r.elim
      | cons b rs =>
        have m' : some j ∈ bs := by
          rcases List.mem_cons.mp m with e | m
          · cases e
          · exact m
        obtain ⟨x, w, h1, h2, h3, h4, h5⟩ := lnk_back (vs := vs) (qss := qss) (as := xs) (θr := θr) (ρr := ρr) l r.2 hl j m'
        exact ⟨x, w, h1, h2, h3, h4, fun a ha => by rw [List.flatten_cons]; exact List.mem_append_right _ (h5 a ha)⟩
theorem Handed.back {ρ : Ro} {θ θ0 : Nat → List Addr} {G G0 G2 H2 : Hp} {vs : List V} {qss qss' : List (List Addr)} {as rs : List Sl} {bs : List (Option Nat)} {old qs : List Addr} {r : Sl} {v : V} (N : Handed P σ ρ θ G H vs qss as bs θ0 G0 old []) (E : EndF P.T G H vs qss as r rs v qs qss' G2 H2) :
    Sim P (Cw.back bs rs ρ) (thB bs qss' θ) G2 σ H2 ∧ ∀ i, thB bs qss' θ i = θ i ∨ thB bs qss' θ i = [] := by
  have sub : ∀ i, thB bs qss' θ i = θ i ∨ thB bs qss' θ i = [] := fun i => by
    by_cases hi : some i ∈ bs
    · obtain ⟨_, _, _, _, _, h, _⟩ := lnk_back (P := P) (θr := θ) (ρr := ρ) N.lk E.ar rfl i hi
      exact h
    · exact .inl (thB_ne hi)
  have inθ : ∀ i a, a ∈ thB bs qss' θ i → a ∈ θ i := fun i a m => by
    rcases sub i with q | q
    · rw [q] at m; exact m
    · rw [q] at m; cases m
  have offA : ∀ i a, some i ∉ bs → a ∈ θ i → a ∉ qss.flatten := fun i a hi ha m => by
    rcases N.lk.mem m with ⟨j, m1, m2⟩ | m
    · have := N.S.dj i j a ha m2
      subst this; exact hi m1
    · exact (N.fr.left.2 a m).2.2 i ha
  have offB : ∀ a o, P.H0 a = some o → a ∉ P.A0 → a ∉ qss.flatten := fun a o h0 n m => by
    rcases N.lk.mem m with ⟨j, m1, m2⟩ | m
    · rcases N.S.nw j a m2 with q | q
      · rw [h0] at q; cases q
      · exact n q.1
    · have := (N.fr.left.2 a m).2.1
      rw [h0] at this; cases this
  refine ⟨?_, sub⟩
  exact {
    g0 := N.S.g0.trans E.eg
    gh := E.gh
    fr := fun a o h n => (E.fr a o (N.S.fr a o h n) (offB a o h n)).1
    gs := fun a o h n => ((E.fr a o (N.S.fr a o h n) (offB a o h n)).2).trans (N.S.gs a o h n)
    pe := fun a h => N.S.pe a (E.pe a h)
    ln := by rw [back_len]; exact N.S.ln
    sl := fun j x e => by
      by_cases hj : some j ∈ bs
      · obtain ⟨x', w, h1, h2, h3, _⟩ := lnk_back (P := P) (θr := θ) (ρr := ρ) N.lk E.ar rfl j hj
        rw [slOf_iff.mpr e] at h1; cases h1
        exact ⟨w, h2, h3⟩
      · have e' := slOf_iff.mpr e
        rw [back_ne hj] at e'
        obtain ⟨w, h1, h2⟩ := N.S.get e'
        refine ⟨w, h1, ?_⟩
        rw [thB_ne hj]
        cases x with
        | dat d => exact ⟨h2.1, Rep.mono E.eg _ _ h2.2⟩
        | own t =>
          obtain ⟨p, r', e1, e2, ho⟩ := h2
          exact ⟨p, r', e1, e2, ho.stay E.eg fun a ha o q => (E.fr a o q (offA j a hj (by rw [e1]; exact ha))).1⟩
    no := fun j hn => by
      by_cases hj : some j ∈ bs
      · obtain ⟨x', w, h1, h2, h3, _⟩ := lnk_back (P := P) (θr := θ) (ρr := ρ) N.lk E.ar rfl j hj
        cases x' with
        | dat d => exact h3.1
        | own t => exact absurd (slOf_iff.mp h1) (hn t)
      · rw [thB_ne hj]
        refine N.S.no j fun t q => hn t ?_
        refine slOf_iff.mp ?_
        rw [back_ne hj]; exact slOf_iff.mpr q
    gn := fun j a ha => by
      by_cases hj : some j ∈ bs
      · obtain ⟨x', w, h1, h2, h3, _, h5⟩ := lnk_back (P := P) (θr := θ) (ρr := ρ) N.lk E.ar rfl j hj
        exact E.gn a (h5 a ha)
      · have ha' := inθ j a ha
        obtain ⟨_, _, o, ho⟩ := N.S.there ha'
        rw [(E.fr a o ho (offA j a hj ha')).2]; exact N.S.gn j a ha'
    nw := fun j a ha => N.S.nw j a (inθ j a ha)
    nd := fun j => by
      rcases sub j with q | q
      · rw [q]; exact N.S.nd j
      · rw [q]; exact List.nodup_nil
    dj := fun j k a ha hb => N.S.dj j k a (inθ j a ha) (inθ k a hb)
    fx := N.S.fx }
/-- a call, over data -/
theorem call_ok {F : Fn} {ρ1 : Ro} {θ θ1 : Nat → List Addr} {G1 H1 : Hp} {ws : List W} {vs : List V} {qss : List (List Addr)} {Q : VK} (h : callF F ws ρ1 (Kt P θ G H σ Q)) (s1 : Stp θ G H θ1 G1 H1) (S1 : Sim P ρ1 θ1 G1 σ H1) (r1 : RepWs P θ1 G1 σ H1 vs qss ws) (f1 : Fr P θ1 G1 qss.flatten) (n1 : ∀ a ∈ qss.flatten, H a = none) {E : XK} : spF P.T F vs H1 Q E := by
  obtain ⟨hl, as, bs, ρ2, θ2, G2, qssA, h2, md, N⟩ := pass_ok (rest := []) S1 r1 (by rw [List.append_nil]; exact f1) h
  refine ⟨hl, G2, as, qssA, N.S.gh, md, N.ar, N.nd, N.gn, F.mono _ _ _ (fun r rs ⟨_, k⟩ v qs qss' G3 H3 e => ?_) h2⟩
  obtain ⟨S3, t3⟩ := N.back e
  refine k v qs _ G3 H3 ⟨fun a o q n => ?_, fun i => ?_, (s1.g.trans N.eg).trans e.eg, fun a q => s1.d a (e.pe a q)⟩ S3 ?_ ⟨e.rn, fun a ha => ⟨(e.rf a ha).2, N.S.pe a (e.rf a ha).1, fun i m => ?_⟩⟩ fun a ha => s1.d a (e.rf a ha).1
  · obtain ⟨k1, k2⟩ := s1.h a o q n
    have nθ : ∀ i, a ∉ θ1 i := fun i m => n i (s1.sub m)
    have no : a ∉ qss.flatten := fun m => by rw [n1 a m] at q; cases q
    have nA : a ∉ qssA.flatten := fun m => by
      rcases N.lk.mem m with ⟨j, m1, m2⟩ | m
      · rcases N.t j with z | z
        · rw [z] at m2; exact nθ j m2
        · rw [z] at m2; cases m2
      · exact no (N.nw a m)
    obtain ⟨k3, k4⟩ := e.fr a o k1 nA
    exact ⟨k3, k4.trans ((N.g a no nθ).trans k2)⟩
  · rcases t3 i with z | z
    · rw [z]
      rcases N.t i with y | y
      · rw [y]; exact s1.t i
      · exact .inr y
    · exact .inr z
  · cases r with
    | dat d => exact e.rv
    | own t => exact e.rv
  · have : a ∈ θ2 i := by
      rcases t3 i with z | z
      · rw [z] at m; exact m
      · rw [z] at m; cases m
    obtain ⟨_, _, o, ho⟩ := N.S.there this
    rw [(e.rf a ha).1] at ho; cases ho
end
end Cw
/-! Cw: what is walked, targets. -/
namespace Cw
open PySem PySem.Spec PyProof.Rows L2

def Gd (σ σ' : List (Option V)) (g : Option (Nat × Ot)) : Prop := ∀ j t, g = some (j, t) → ∀ v, σ'[j]? = some (some v) → σ[j]? = some (some v)
/-- what an iterator gives while its source stands -/
def Feed (P : Par) (σ : List (Option V)) (J : It) (s : Src) (Gs : Hp) : Prop := ∀ i ρ θ G H σ', Ex Gs G → Sim P ρ θ G σ' H → Gd σ σ' s.gd → gdOk s.gd ρ →
  (i < s.items.length → J.go i H) ∧ (s.items.length ≤ i → J.stop i H) ∧
  ∀ x H', i < s.items.length → J.yld i H x H' → ∃ G' d, s.items[i]? = some d ∧ Ex H H' ∧ Ex G G' ∧ Ex G' H' ∧ (∀ a o, H a = some o → G' a = G a) ∧ Rep P.T G' d x
def KtI (P : Par) (θ : Nat → List Addr) (G H : Hp) (σ : List (Option V)) (R : It → Hp → Prop) (s : Src) (ρ' : Ro) : Prop :=
  ∀ J θ' G' H', Stp θ G H θ' G' H' → Sim P ρ' θ' G' σ H' → Feed P σ J s G' → R J H'
def rdI (P : Par) (z : Bool) (k : Ik) (e : E) : TI := fun σ H R => ∃ ρ θ G, Sim P ρ θ G σ H ∧ wA e ρ fun ws ρ1 => walkZ z k ws ρ1 (KtI P θ G H σ R)
theorem rngD_get {a : Int} {n i : Nat} (h : i < n) : (rngD a n)[i]? = some (.int (a + (i : Nat))) := by
  unfold rngD
  rw [List.getElem?_map, List.getElem?_range h]; rfl
theorem rngD_len {a : Int} {n : Nat} : (rngD a n).length = n := by unfold rngD; simp
theorem sqL_eq {K : PySem.W.Frag} {H : Hp} {a : Addr} {us xs : List V} (h : H a = some (.lst us)) (q : Rd H a (.lst xs)) : xs = us := by
  rcases q with q | ⟨o, q⟩
  · rw [h] at q; cases q; rfl
  · rw [h] at q; cases q
section
variable {P : Par} {X : Cx} {σ : List (Option V)} {Gs : Hp}
theorem feed_rng {lo : Int} {n : Nat} : Feed P σ (Itr lo n) ⟨rngD lo n, none⟩ Gs := by
  intro i ρ θ G H σ' eG S _ _
  refine ⟨fun h => ?_, fun h => ?_, fun x H' hi y => ?_⟩
  · rw [rngD_len] at h; exact h
  · rw [rngD_len] at h; exact h
  · rw [rngD_len] at hi
    obtain ⟨rfl, rfl⟩ := y
    exact ⟨G, _, rngD_get hi, Ex.refl _, Ex.refl _, S.gh, fun _ _ _ => rfl, Rep.int⟩
/-- the list at a stands while the state goes on -/
def StandL (P : Par) (σ : List (Option V)) (g : Option (Nat × Ot)) (Gs : Hp) (a : Addr) (ds : List D) : Prop := ∀ ρ θ G H σ', Ex Gs G → Sim P ρ θ G σ' H → Gd σ σ' g → gdOk g ρ → ∃ us, H a = some (.lst us) ∧ RepL P.T G ds us
def StandT (P : Par) (Gs : Hp) (a : Addr) (ds : List D) : Prop := ∃ us, Gs a = some (.tup us) ∧ RepL P.T Gs ds us
theorem StandL.of {g : Option (Nat × Ot)} {a : Addr} {ds : List D} {us : List V} (h : Gs a = some (.lst us)) (r : RepL P.T Gs ds us) : StandL P σ g Gs a ds := fun _ _ _ _ _ e S _ _ => ⟨us, S.gh _ _ (e _ _ h), RepL.mono e _ _ r⟩
theorem StandT.at {a : Addr} {ds : List D} (h : StandT P Gs a ds) {ρ : Ro} {θ : Nat → List Addr} {G H : Hp} {σ' : List (Option V)} (e : Ex Gs G) (S : Sim P ρ θ G σ' H) : ∃ us, H a = some (.tup us) ∧ RepL P.T G ds us := by
  obtain ⟨us, h1, h2⟩ := h
  exact ⟨us, S.gh _ _ (e _ _ h1), RepL.mono e _ _ h2⟩
/-- the item that a walk of a list reads -/
theorem at_list {K : PySem.W.Frag} {H : Hp} {a : Addr} {us : List V} {i : Nat} {x : V} (h : H a = some (.lst us)) (q : ∀ xs, SqL K H a xs → xs[i]? = some x) : us[i]? = some x := q us (SqL.of h)
theorem at_tup {K : PySem.W.Frag} {H : Hp} {a : Addr} {us : List V} {i : Nat} {x : V} (h : H a = some (.tup us)) (q : ∀ xs, SqT K H a xs → xs[i]? = some x) : us[i]? = some x := q us (SqT.of h)
theorem feed_list {K : PySem.W.Frag} {s : Src} {a : Addr} (h : StandL P σ s.gd Gs a s.items) : Feed P σ (Itl K a) s Gs := by
  intro i ρ θ G H σ' eG S g ok
  obtain ⟨us, h1, h2⟩ := h ρ θ G H σ' eG S g ok
  have hl := h2.len
  refine ⟨fun hi => ⟨us, us[i]'(by omega), SqL.of h1, by simp⟩, fun hi => ⟨us, SqL.of h1, by omega⟩, fun x H' hi y => ?_⟩
  obtain ⟨rfl, y⟩ := y
  obtain ⟨d, e1, e2⟩ := h2.get' (at_list h1 y)
  exact ⟨G, d, e1, Ex.refl _, Ex.refl _, S.gh, fun _ _ _ => rfl, e2⟩
theorem feed_tup {K : PySem.W.Frag} {s : Src} {a : Addr} (h : StandT P Gs a s.items) : Feed P σ (Itt K a) s Gs := by
  intro i ρ θ G H σ' eG S g ok
  obtain ⟨us, h1, h2⟩ := h.at eG S
  have hl := h2.len
  refine ⟨fun hi => ⟨us, us[i]'(by omega), SqT.of h1, by simp⟩, fun hi => ⟨us, SqT.of h1, by omega⟩, fun x H' hi y => ?_⟩
  obtain ⟨rfl, y⟩ := y
  obtain ⟨d, e1, e2⟩ := h2.get' (at_tup h1 y)
  exact ⟨G, d, e1, Ex.refl _, Ex.refl _, S.gh, fun _ _ _ => rfl, e2⟩
/-- a new pair -/
theorem new_pair {ρ : Ro} {θ : Nat → List Addr} {G H : Hp} {σ' : List (Option V)} (S : Sim P ρ θ G σ' H) {p : Addr} {us : List V} {ds : List D} (hp : H p = none) (r : RepL P.T G ds us) :
    ∃ G', Ex H (upd H p (.tup us)) ∧ Ex G G' ∧ Ex G' (upd H p (.tup us)) ∧ (∀ a o, H a = some o → G' a = G a) ∧ Rep P.T G' (.tup ds) (.ref p) := by
  have gp : G p = none := S.gh.none hp
  refine ⟨upd G p (.tup us), Ex.new hp, Ex.new gp, fun a o e => ?_, fun a o e => upd_ne (ne_of_none e hp), Rep.tup upd_same (RepL.mono (Ex.new gp) _ _ r)⟩
  by_cases ha : a = p
  · subst ha; rw [upd_same] at e ⊢; exact e
  · rw [upd_ne ha] at e ⊢; exact S.gh a o e
theorem enumD_get {ds : List D} {i : Nat} {d : D} (h : ds[i]? = some d) : (enumD ds)[i]? = some (.tup [.int (i : Nat), d]) := by
  unfold enumD
  rw [List.getElem?_map, List.getElem?_zipIdx, h]; simp
theorem enumD_len {ds : List D} : (enumD ds).length = ds.length := by unfold enumD; simp
theorem feed_enum {K : PySem.W.Frag} {g : Option (Nat × Ot)} {ds : List D} {a : Addr} (h : StandL P σ g Gs a ds) : Feed P σ (Ite K a) ⟨enumD ds, g⟩ Gs := by
  intro i ρ θ G H σ' eG S gg ok
  obtain ⟨us, h1, h2⟩ := h ρ θ G H σ' eG S gg ok
  have hl := h2.len
  refine ⟨fun hi => ⟨us, us[i]'(by rw [enumD_len] at hi; omega), SqL.of h1, by simp⟩, fun hi => ⟨us, SqL.of h1, by rw [enumD_len] at hi; omega⟩, fun x H' hi y => ?_⟩
  obtain ⟨p, x', rfl, hp, rfl, y⟩ := y
  obtain ⟨d, e1, e2⟩ := h2.get' (at_list h1 y)
  obtain ⟨G', k1, k2, k3, k4, k5⟩ := new_pair S hp (RepL.cons (Rep.int (i := (i : Nat))) (RepL.cons e2 RepL.nil))
  exact ⟨G', _, enumD_get e1, k1, k2, k3, k4, k5⟩
theorem zipD_get {xs ys : List D} {i : Nat} {d e : D} (h : xs[i]? = some d) (h' : ys[i]? = some e) : ((xs.zip ys).map pairD)[i]? = some (.tup [d, e]) := by
  rw [List.getElem?_map, show (xs.zip ys)[i]? = some (d, e) from List.getElem?_zip_eq_some.mpr ⟨h, h'⟩]; rfl
theorem feed_zipL {K : PySem.W.Frag} {xs ys : List D} {a b : Addr} (h : StandL P σ none Gs a xs) (h' : StandL P σ none Gs b ys) : Feed P σ (Itz K a b) ⟨(xs.zip ys).map pairD, none⟩ Gs := by
  intro i ρ θ G H σ' eG S gg ok
  obtain ⟨us, h1, h2⟩ := h ρ θ G H σ' eG S gg ok
  obtain ⟨ws, h3, h4⟩ := h' ρ θ G H σ' eG S gg ok
  have hl := h2.len
  have hl' := h4.len
  have hz : ((xs.zip ys).map pairD).length = min xs.length ys.length := by simp
  refine ⟨fun hi => ⟨us, ws, us[i]'(by rw [hz] at hi; omega), ws[i]'(by rw [hz] at hi; omega), SqL.of h1, SqL.of h3, by simp, by simp⟩, fun hi => ⟨us, ws, SqL.of h1, SqL.of h3, by rw [hz] at hi; omega⟩, fun x H' hi y => ?_⟩
  obtain ⟨p, x', y', rfl, hp, rfl, q1, q2⟩ := y
  obtain ⟨d, e1, e2⟩ := h2.get' (at_list h1 q1)
  obtain ⟨d', e3, e4⟩ := h4.get' (at_list h3 q2)
  obtain ⟨G', k1, k2, k3, k4, k5⟩ := new_pair S hp (RepL.cons e2 (RepL.cons e4 RepL.nil))
  exact ⟨G', _, zipD_get e1 e3, k1, k2, k3, k4, k5⟩
theorem feed_zipT {K : PySem.W.Frag} {xs ys : List D} {a b : Addr} (h : StandT P Gs a xs) (h' : StandT P Gs b ys) : Feed P σ (RZ.ItzT K a b) ⟨(xs.zip ys).map pairD, none⟩ Gs := by
  intro i ρ θ G H σ' eG S gg ok
  obtain ⟨us, h1, h2⟩ := h.at eG S
  obtain ⟨ws, h3, h4⟩ := h'.at eG S
  have hl := h2.len
  have hl' := h4.len
  have hz : ((xs.zip ys).map pairD).length = min xs.length ys.length := by simp
  refine ⟨fun hi => ⟨us, ws, us[i]'(by rw [hz] at hi; omega), ws[i]'(by rw [hz] at hi; omega), SqT.of h1, SqT.of h3, by simp, by simp⟩, fun hi => ⟨us, ws, SqT.of h1, SqT.of h3, by rw [hz] at hi; omega⟩, fun x H' hi y => ?_⟩
  obtain ⟨p, x', y', rfl, hp, rfl, q1, q2⟩ := y
  obtain ⟨d, e1, e2⟩ := h2.get' (at_tup h1 q1)
  obtain ⟨d', e3, e4⟩ := h4.get' (at_tup h3 q2)
  obtain ⟨G', k1, k2, k3, k4, k5⟩ := new_pair S hp (RepL.cons e2 (RepL.cons e4 RepL.nil))
  exact ⟨G', _, zipD_get e1 e3, k1, k2, k3, k4, k5⟩

/-! ### from the written arguments to what is walked -/
theorem RepWs.dats {ρ : Ro} {θ : Nat → List Addr} {G H : Hp} : ∀ {ds : List D} {vs : List V}, RepL P.T G ds vs → RepWs P θ G σ H vs (ds.map fun _ => []) (ds.map .dat)
  | [], vs, r => by rw [r.nil_inv]; trivial
  | d :: ds, vs, r => by
    obtain ⟨v, r', rfl, h1, h2⟩ := r.cons_inv
    exact ⟨⟨rfl, h1⟩, RepWs.dats (ρ := ρ) h2⟩
theorem flat_nils {α β : Type} : ∀ (l : List α), (l.map fun _ => ([] : List β)).flatten = []
  | [] => rfl
  | _ :: l => by simp [flat_nils l]
theorem z_ok {z : Bool} {k : Ik} {ws : List W} {ρ1 : Ro} {θ1 : Nat → List Addr} {G1 H1 : Hp} {vs : List V} {qss : List (List Addr)} {K : Src → Ro → Prop} (S : Sim P ρ1 θ1 G1 σ H1) (r : RepWs P θ1 G1 σ H1 vs qss ws) (f : Fr P θ1 G1 qss.flatten) (h : walkZ z k ws ρ1 K) :
    ∃ ws' qss' ρ2 θ2 G2, walk k ws' ρ2 K ∧ Sim P ρ2 θ2 G2 σ H1 ∧ RepWs P θ2 G2 σ H1 vs qss' ws' ∧ Fr P θ2 G2 qss'.flatten ∧ Ex G1 G2 ∧ (∀ i, θ2 i = θ1 i ∨ θ2 i = []) ∧ (∀ a, a ∉ qss.flatten → (∀ i, a ∉ θ1 i) → G2 a = G1 a) ∧ (∀ a ∈ qss'.flatten, a ∈ qss.flatten) := by
  cases z with
  | false => exact ⟨ws, qss, ρ1, θ1, G1, h, S, r, f, Ex.refl _, fun _ => .inl rfl, fun _ _ _ => rfl, fun _ h => h⟩
  | true =>
    obtain ⟨ds, ρ2, θ2, G2, h2, S2, r2, e2, t2, g2, f2⟩ := frzs_ok (rest := []) S r (by rw [List.append_nil]; exact f) h
    refine ⟨_, _, ρ2, θ2, G2, h2, S2, RepWs.dats (ρ := ρ2) r2, ?_, e2, t2, g2, fun a ha => ?_⟩
    · rw [flat_nils]; exact Fr.nil
    · rw [flat_nils] at ha; cases ha
/-- a list or a tuple handed to be walked -/
theorem src_ok {w : W} {v : V} {ρ1 : Ro} {θ1 : Nat → List Addr} {G1 H1 : Hp} {qs : List Addr} {K : Src → Ro → Prop} (S : Sim P ρ1 θ1 G1 σ H1) (r : RepW P θ1 G1 σ H1 v qs w) (f : Fr P θ1 G1 qs) (h : srcOf w ρ1 K) :
    ∃ s ρ2 θ2 G2 a, K s ρ2 ∧ Sim P ρ2 θ2 G2 σ H1 ∧ Ex G1 G2 ∧ (∀ i, θ2 i = θ1 i ∨ θ2 i = []) ∧ (∀ a, a ∉ qs → (∀ i, a ∉ θ1 i) → G2 a = G1 a) ∧ v = .ref a ∧
      ((StandL P σ s.gd G2 a s.items ∧ ∃ us, H1 a = some (.lst us)) ∨ (StandT P G2 a s.items ∧ ∃ us, H1 a = some (.tup us))) := by
  unfold srcOf at h
  split at h
  · rename_i i
    split at h
    · rename_i ds e
      obtain ⟨p, r', k1, k2, k3, us, k4, k5⟩ := S.own e
      have hv := r.2
      rw [k1] at hv; cases hv
      refine ⟨_, ρ1, θ1, G1, p, h, S, Ex.refl _, fun _ => .inl rfl, fun _ _ _ => rfl, rfl, .inl ⟨fun ρ θ G H σ' eG S' g ok => ?_, us, k4⟩⟩
      obtain ⟨p', r'', q1, q2, q3, us', q4, q5⟩ := S'.own (show slOf ρ i = some (.own (.lst ds)) from ok)
      have := g i _ rfl _ q1
      rw [k1] at this; cases this
      exact ⟨us', q4, q5⟩
    · rename_i ds e
      obtain ⟨v', k1, _, k2⟩ := S.get e
      have hv := r.2
      rw [k1] at hv; cases hv
      obtain ⟨p, us, rfl, e2, e3⟩ := Rep.tup_inv k2
      exact ⟨_, ρ1, θ1, G1, p, h, S, Ex.refl _, fun _ => .inl rfl, fun _ _ _ => rfl, rfl, .inr ⟨⟨us, e2, e3⟩, us, S.gh _ _ e2⟩⟩
    · rename_i ds e
      obtain ⟨v', k1, _, k2⟩ := S.get e
      have hv := r.2
      rw [k1] at hv; cases hv
      obtain ⟨p, us, rfl, e2, e3⟩ := Rep.lst_inv k2
      exact ⟨_, ρ1, θ1, G1, p, h, S, Ex.refl _, fun _ => .inl rfl, fun _ _ _ => rfl, rfl, .inl ⟨StandL.of e2 e3, us, S.gh _ _ e2⟩⟩
    · exact h.elim
  · rename_i ds
    obtain ⟨p, us, rfl, e2, e3⟩ := Rep.tup_inv r.2
    exact ⟨_, ρ1, θ1, G1, p, h, S, Ex.refl _, fun _ => .inl rfl, fun _ _ _ => rfl, rfl, .inr ⟨⟨us, e2, e3⟩, us, S.gh _ _ e2⟩⟩
  · rename_i ds
    obtain ⟨p, us, rfl, e2, e3⟩ := Rep.lst_inv r.2
    exact ⟨_, ρ1, θ1, G1, p, h, S, Ex.refl _, fun _ => .inl rfl, fun _ _ _ => rfl, rfl, .inl ⟨StandL.of e2 e3, us, S.gh _ _ e2⟩⟩
  · rename_i ds
    obtain ⟨d, ρ2, θ2, G2, ⟨rfl, h2⟩, S2, r2, e2, t2, g2, _⟩ := frz_ok (w := .own (.lst ds)) (rest := []) (Q := fun d ρ' => d = .lst ds ∧ K ⟨ds, none⟩ ρ') S r (by rw [List.append_nil]; exact f) ⟨rfl, h⟩
    obtain ⟨p, us, rfl, k2, k3⟩ := Rep.lst_inv r2
    exact ⟨_, ρ2, θ2, G2, p, h2, S2, e2, t2, g2, rfl, .inl ⟨StandL.of k2 k3, us, S2.gh _ _ k2⟩⟩
  · exact h.elim
/-- the step of it all -/
theorem stp_walk {θ θ1 θ2 θ3 : Nat → List Addr} {G G1 G2 G3 H H1 : Hp} {as bs : List Addr} (s1 : Stp θ G H θ1 G1 H1) (n1 : ∀ a ∈ as, H a = none) (e2 : Ex G1 G2) (t2 : ∀ i, θ2 i = θ1 i ∨ θ2 i = []) (g2 : ∀ a, a ∉ as → (∀ i, a ∉ θ1 i) → G2 a = G1 a)
    (hb : ∀ a ∈ bs, a ∈ as) (e3 : Ex G2 G3) (t3 : ∀ i, θ3 i = θ2 i ∨ θ3 i = []) (g3 : ∀ a, a ∉ bs → (∀ i, a ∉ θ2 i) → G3 a = G2 a) : Stp θ G H θ3 G3 H1 where
  h := fun a o e n => by
    obtain ⟨k1, k2⟩ := s1.h a o e n
    have na : a ∉ as := fun m => by rw [n1 a m] at e; cases e
    have nθ : ∀ i, a ∉ θ1 i := fun i m => n i (s1.sub m)
    refine ⟨k1, (g3 a (fun m => na (hb a m)) fun i m => ?_).trans ((g2 a na nθ).trans k2)⟩
    rcases t2 i with q | q
    · rw [q] at m; exact nθ i m
    · rw [q] at m; cases m
  t := fun i => by
    rcases t3 i with q | q
    · rw [q]
      rcases t2 i with q | q
      · rw [q]; exact s1.t i
      · exact .inr q
    · exact .inr q
  g := (s1.g.trans e2).trans e3
  d := s1.d
theorem RepWs.one {θ : Nat → List Addr} {G H : Hp} {vs : List V} {qss : List (List Addr)} {w : W} (r : RepWs P θ G σ H vs qss [w]) : ∃ v qs, vs = [v] ∧ qss = [qs] ∧ RepW P θ G σ H v qs w := by
  cases vs with
  | nil => cases qss <;> exact r.elim
  | cons v vs =>
    cases qss with
    | nil => cases r
    | cons qs qss =>
      cases vs with
      | nil =>
        cases qss with
        | nil => exact ⟨v, qs, rfl, rfl, r.1⟩
        | cons _ _ => exact r.2.elim
      | cons _ _ => cases qss <;> exact r.2.elim
theorem RepWs.two {θ : Nat → List Addr} {G H : Hp} {vs : List V} {qss : List (List Addr)} {w u : W} (r : RepWs P θ G σ H vs qss [w, u]) : ∃ v v' qs qs', vs = [v, v'] ∧ qss = [qs, qs'] ∧ RepW P θ G σ H v qs w ∧ RepW P θ G σ H v' qs' u := by
  cases vs with
  | nil => cases qss <;> exact r.elim
  | cons v vs =>
    cases qss with
    | nil => cases r
    | cons qs qss =>
      obtain ⟨v', qs', rfl, rfl, r2⟩ := RepWs.one r.2
      exact ⟨v, v', qs, qs', rfl, rfl, r.1, r2⟩
end

/-! ### the iterators -/
def iSeq (K : PySem.W.Frag) (tl : TE) : TI := fun σ H R => tl σ H fun x H1 => ∃ a, x = .ref a ∧ (((∃ xs, SqL K H1 a xs) ∧ R (Itl K a) H1) ∨ ((∃ xs, SqT K H1 a xs) ∧ R (Itt K a) H1))
section
variable {P : Par} {X : Cx} {tg : Expr}
theorem pi_seq {l : Expr} {tl : TE} (hl : PE X l tl) : PI X tg l (iSeq X.K tl) := by
  refine ⟨fun pins s σ H R I h => ?_⟩
  refine thn (hl.run pins s σ H _ I h) fun v s1 ⟨x, H1, I1, r1, q1⟩ => ?_
  obtain ⟨a, e, q⟩ := q1
  subst e
  cases r1
  have hf : ∀ b ∈ [s1.heap.objs.size], FpOk X pins H1 b := fun b hb => by
    have e : b = s1.heap.objs.size := by simpa using hb
    subst e
    exact I1.fpOk (Nat.le_refl _) (I1.hok.fresh (Nat.le_refl _))
  rcases q with ⟨⟨xs, hq⟩, q⟩ | ⟨⟨xs, hq⟩, q⟩
  · obtain ⟨its, rv, p, hz⟩ := I1.list hq
    refine wpAny_pyIter_list p.isList ?_
    exact ⟨s1.heap.objs.size, [s1.heap.objs.size], _, _, H1, rfl, I1.kept (t' := s1.toks) fun b o e => Heap.get?_push_of_some _ e, turn_list a _, ⟨_, Heap.get?_push_size _ rfl, rfl, rfl⟩, hf, q⟩
  · obtain ⟨its, rv, p, hz⟩ := I1.tuple hq
    refine wpAny_pyIter_tuple (show s1.heap.IsTuple a its.toArray from p) ?_
    exact ⟨s1.heap.objs.size, [s1.heap.objs.size], _, _, H1, rfl, I1.kept (t' := s1.toks) fun b o e => Heap.get?_push_of_some _ e, turn_tuple a _, ⟨_, Heap.get?_push_size _ rfl, rfl, rfl⟩, hf, q⟩
theorem impI {iter : Expr} {t t' : TI} (h : PI X tg iter t) (k : ∀ σ H R, t' σ H R → t σ H R) : PI X tg iter t' := ⟨fun pins s σ H R I q => h.run pins s σ H R I (k σ H R q)⟩
theorem i_seq {l : Expr} {el : E} {z : Bool} (hl : PE X l (rdE P el)) : PI X tg l (rdI P z .seq (.cons el .nil)) := by
  refine impI (pi_seq hl) fun σ H R h => ?_
  obtain ⟨ρ, θ, G, S, h⟩ := h
  unfold wA at h
  refine rd_of S h fun v ρ1 x qs θ1 G1 H1 h1 s1 S1 r1 f1 n1 => ?_
  unfold wA at h1
  obtain ⟨ws', qss', ρ2, θ2, G2, h2, S2, r2, f2, e2, t2, g2, sub⟩ := z_ok (ws := [v]) (vs := [x]) (qss := [qs]) S1 ⟨r1, trivial⟩ (by simpa using f1) h1
  unfold walk at h2
  split at h2
  · rename_i w he
    obtain ⟨x', qs', ex, eq, r3⟩ := r2.one
    cases ex; subst eq
    obtain ⟨s, ρ3, θ3, G3, a, k, S3, e3, t3, g3, rfl, c⟩ := src_ok S2 r3 (by simpa using f2) h2
    have st := stp_walk (as := qs) (bs := qs') s1 n1 e2 t2 (fun a ha n => g2 a (by simpa using ha) n) (fun a ha => by simpa using sub a (by simpa using ha)) e3 t3 g3
    rcases c with ⟨c, us, hu⟩ | ⟨c, us, hu⟩
    · exact ⟨a, rfl, .inl ⟨⟨us, SqL.of hu⟩, k _ θ3 G3 H1 st S3 (feed_list c)⟩⟩
    · exact ⟨a, rfl, .inr ⟨⟨us, SqT.of hu⟩, k _ θ3 G3 H1 st S3 (feed_tup c)⟩⟩
  all_goals first | exact h2.elim | contradiction
/-- the written arguments of range, enumerate, zip -/
theorem i_args {k : Ik} {ea : E} {z : Bool} {σ : List (Option V)} {H : Hp} {R : It → Hp → Prop} {Q : List V → Hp → Prop} (h : rdI P z k ea σ H R)
    (go : ∀ ws vs qss ρ2 θ2 G2 H1 (K : Src → Ro → Prop), walk k ws ρ2 K → Sim P ρ2 θ2 G2 σ H1 → RepWs P θ2 G2 σ H1 vs qss ws → Fr P θ2 G2 qss.flatten →
      (∀ s ρ3 θ3 G3 J, K s ρ3 → Sim P ρ3 θ3 G3 σ H1 → Ex G2 G3 → (∀ i, θ3 i = θ2 i ∨ θ3 i = []) → (∀ a, a ∉ qss.flatten → (∀ i, a ∉ θ2 i) → G3 a = G2 a) → Feed P σ J s G3 → R J H1) → Q vs H1) : rdA P ea σ H Q := by
  obtain ⟨ρ, θ, G, S, h⟩ := h
  refine rdA_of S h fun ws ρ1 vs qss θ1 G1 H1 h1 s1 S1 r1 f1 n1 => ?_
  obtain ⟨ws', qss', ρ2, θ2, G2, h2, S2, r2, f2, e2, t2, g2, sub⟩ := z_ok S1 r1 f1 h1
  exact go ws' vs qss' ρ2 θ2 G2 H1 _ h2 S2 r2 f2 fun s ρ3 θ3 G3 J k S3 e3 t3 g3 fd => k J θ3 G3 H1 (stp_walk (as := qss.flatten) (bs := qss'.flatten) s1 n1 e2 t2 g2 sub e3 t3 g3) S3 fd
theorem i_rng1 {a : Expr} {ea : E} {z : Bool} {p pos : Pos} (hg : Gl X "range") (hm : X.mg "range" = none) (ha : PA X [a] (rdA P ea)) (hs : starEach [a] X.env = [(false, eval a X.env)]) : PI X tg (.Call (.Name "range" p) [a] [] pos) (rdI P z .rng1 ea) := by
  refine impI (pi_range1 hg hm ha hs) fun σ H R h => ?_
  refine i_args h fun ws vs qss ρ2 θ2 G2 H1 K hw S2 r2 f2 k => ?_
  unfold walk at hw
  split at hw
  any_goals first | exact hw.elim | contradiction
  rename_i w _
  obtain ⟨v, qs, rfl, rfl, r3⟩ := r2.one
  obtain ⟨j, e, sm, hk⟩ := hw
  obtain rfl := Rep.int_inv (T := P.T) (G := G2) (cv_rep S2 r3 e)
  exact ⟨j, rfl, sm.1, sm.2, k _ ρ2 θ2 G2 _ hk S2 (Ex.refl _) (fun _ => .inl rfl) (fun _ _ _ => rfl) feed_rng⟩
theorem i_rng2 {a b : Expr} {ea : E} {z : Bool} {p pos : Pos} (hg : Gl X "range") (hm : X.mg "range" = none) (ha : PA X [a, b] (rdA P ea)) (hs : starEach [a, b] X.env = [(false, eval a X.env), (false, eval b X.env)]) (hs2 : starEach [b] X.env = [(false, eval b X.env)]) :
    PI X tg (.Call (.Name "range" p) [a, b] [] pos) (rdI P z .rng2 ea) := by
  refine impI (pi_range2 hg hm ha hs hs2) fun σ H R h => ?_
  refine i_args h fun ws vs qss ρ2 θ2 G2 H1 K hw S2 r2 f2 k => ?_
  unfold walk at hw
  split at hw
  any_goals first | exact hw.elim | contradiction
  rename_i v' w' _
  obtain ⟨v, w, qs, qs', rfl, rfl, r3, r4⟩ := r2.two
  obtain ⟨i, j, e, e', sm, sm', hk⟩ := hw
  obtain rfl := Rep.int_inv (T := P.T) (G := G2) (cv_rep S2 r3 e)
  obtain rfl := Rep.int_inv (T := P.T) (G := G2) (cv_rep S2 r4 e')
  exact ⟨i, j, rfl, ⟨sm.1, sm.2, sm'.1, sm'.2⟩, k _ ρ2 θ2 G2 _ hk S2 (Ex.refl _) (fun _ => .inl rfl) (fun _ _ _ => rfl) feed_rng⟩
theorem i_enum (O : Okx P X) {a : Expr} {ea : E} {z : Bool} {p pos tpos : Pos} {elts : List Expr} {kk : Nat} (hg : Gl X "enumerate") (hm : X.mg "enumerate" = none) (ha : PA X [a] (rdA P ea)) (hs : starEach [a] X.env = [(false, eval a X.env)]) :
    PI X (.Tuple elts kk tpos) (.Call (.Name "enumerate" p) [a] [] pos) (rdI P z .enum ea) := by
  refine impI (pi_enum hg hm ha hs) fun σ H R h => ?_
  refine i_args h fun ws vs qss ρ2 θ2 G2 H1 K hw S2 r2 f2 k => ?_
  unfold walk at hw
  split at hw
  any_goals first | exact hw.elim | contradiction
  rename_i w _
  obtain ⟨v, qs, rfl, rfl, r3⟩ := r2.one
  obtain ⟨ds, hw⟩ := hw
  obtain ⟨s, ρ3, θ3, G3, a', ⟨rfl, ⟨x, ex, es⟩, hk⟩, S3, e3, t3, g3, rfl, c⟩ := src_ok S2 r3 (by simpa using f2) hw
  have hk' := k _ ρ3 θ3 G3 (Ite X.K a') hk S3 e3 t3 (fun a ha n => g3 a (by simpa using ha) n)
  rcases c with ⟨c, us, hu⟩ | ⟨c, us, hu⟩
  · exact ⟨a', us, rfl, SqL.of hu, hk' (feed_enum c)⟩
  · obtain ⟨p', us', e1, _, h1, _⟩ := sq_rep (cv_rep S2 r3 ex) S2.gh es
    cases e1
    have := h1 rfl
    rw [hu] at this; cases this
theorem i_zip (O : Okx P X) {a b : Expr} {ea : E} {z : Bool} {p pos tpos : Pos} {elts : List Expr} {kk : Nat} (hg : Gl X "zip") (hm : X.mg "zip" = none) (ha : PA X [a, b] (rdA P ea)) (hs : starEach [a, b] X.env = (false, eval a X.env) :: starEach [b] X.env) (hpl : (backTo pos (starEach [b] X.env)).any (·.1) = false) :
    PI X (.Tuple elts kk tpos) (.Call (.Name "zip" p) [a, b] [] pos) (rdI P z .zip ea) := by
  refine impI (RZ.pi_zipA hg hm ha hs hpl) fun σ H R h => ?_
  refine i_args h fun ws vs qss ρ2 θ2 G2 H1 K hw S2 r2 f2 k => ?_
  unfold walk at hw
  split at hw
  any_goals first | exact hw.elim | contradiction
  rename_i v' w' _
  obtain ⟨v, w, qs, qs', rfl, rfl, r3, r4⟩ := r2.two
  obtain ⟨bb, xs, ys, hw⟩ := hw
  have f2' : Fr P θ2 G2 (qs ++ (qs' ++ [])) := by simpa using f2
  obtain ⟨d, ρ3, θ3, G3, h3, S3, r5, e3, t3, g3, f3⟩ := frz_ok S2 r3 f2' hw
  have r4' : RepW P θ3 G3 σ H1 w qs' w' := by
    have := RepWs.imm (ws := [w']) (vs := [w]) (qss := [qs']) e3 t3 ⟨r4, trivial⟩
    exact this.1
  obtain ⟨e, ρ4, θ4, G4, ⟨q1, q2, hk⟩, S4, r6, e4, t4, g4, _⟩ := frz_ok S3 r4' f3 h3
  have hk' := fun J fd => k _ ρ4 θ4 G4 J hk S4 (e3.trans e4) (fun i => by
    rcases t4 i with q | q
    · rw [q]; exact t3 i
    · exact .inr q) (fun a ha n => by
    have ha' : a ∉ qs ++ qs' := by simpa using ha
    rw [List.mem_append, not_or] at ha'
    rw [g4 a ha'.2 fun i m => n i ?_, g3 a ha'.1 n]
    rcases t3 i with q | q
    · rw [q] at m; exact m
    · rw [q] at m; cases m) fd
  have rd := Rep.mono (T := P.T) e4 _ _ r5
  cases bb with
  | true =>
    cases d with
    | lst es =>
      cases q1
      cases e with
      | lst es' =>
        cases q2
        obtain ⟨p1, us, rfl, k1, k2⟩ := Rep.lst_inv rd
        obtain ⟨p2, us', rfl, k3, k4⟩ := Rep.lst_inv r6
        exact ⟨p1, p2, us, us', rfl, .inl ⟨SqL.of (S4.gh _ _ k1), SqL.of (S4.gh _ _ k3), hk' _ (feed_zipL (StandL.of k1 k2) (StandL.of k3 k4))⟩⟩
      | _ => cases q2
    | _ => cases q1
  | false =>
    cases d with
    | tup es =>
      cases q1
      cases e with
      | tup es' =>
        cases q2
        obtain ⟨p1, us, rfl, k1, k2⟩ := Rep.tup_inv rd
        obtain ⟨p2, us', rfl, k3, k4⟩ := Rep.tup_inv r6
        exact ⟨p1, p2, us, us', rfl, .inr ⟨SqT.of (S4.gh _ _ k1), SqT.of (S4.gh _ _ k3), hk' _ (feed_zipT ⟨us, k1, k2⟩ ⟨us', k3, k4⟩)⟩⟩
      | _ => cases q2
    | _ => cases q1
end
end Cw
/-! Cw: targets, comprehensions. -/
namespace Cw
open PySem PySem.Spec PyProof.Rows L2

/-- none of the names is an argument's that may be changed -/
def Off (P : Par) (vs : List Nat) : Prop := ∀ i ∈ vs, i ∉ ((List.range P.fx.length).filter fun i => (P.fx[i]?.join).isSome)
theorem Off.no {P : Par} {vs : List Nat} (h : Off P vs) {i : Nat} (hi : i ∈ vs) : ∀ v, P.fx[i]? ≠ some (some v) := fun v e => by
  refine h i hi (List.mem_filter.mpr ⟨List.mem_range.mpr (List.getElem?_eq_some_iff.mp e).1, ?_⟩)
  rw [e]; rfl

section
variable {P : Par} {X : Cx} {σ : List (Option V)}
/-- a name takes a thing that never changes -/
theorem Sim.put {ρ : Ro} {θ : Nat → List Addr} {G H : Hp} (S : Sim P ρ θ G σ H) {i : Nat} {v : V} {d : D} (hi : i < σ.length) (hf : ∀ v, P.fx[i]? ≠ some (some v)) (r : Rep P.T G d v) :
    Sim P (ρ.set i (some (.dat d))) (tset θ i []) G (σ.set i (some v)) H := by
  have S1 := (S.forget i).slot (o := some v) (by
    unfold slOf
    rw [List.getElem?_set_self (by rw [S.ln]; exact hi)]) hf
  have S2 := S1.add (i := i) (x := .dat d) (v := v) (qs := []) (by rw [List.length_set, S.ln]; exact hi) tset_same (List.getElem?_set_self hi) ⟨rfl, r⟩ List.nodup_nil (fun a z => by cases z) (fun a z => by cases z) (fun j a z => by cases z)
  rw [List.set_set] at S2
  have e : tset (tset θ i []) i [] = tset θ i [] := by
    funext j
    by_cases hj : j = i
    · subst hj; rw [tset_same, tset_same]
    · rw [tset_ne hj]
  rw [e] at S2
  exact S2
/-- a target's reading -/
def KtG (P : Par) (t : List Nat) (θ : Nat → List Addr) (G : Hp) (σ : List (Option V)) (H : Hp) (Q : L2.St → Hp → Prop) (ρ' : Ro) : Prop :=
  ∀ σ' θ', Sim P ρ' θ' G σ' H → (∀ i, θ' i = θ i ∨ θ' i = []) → (∀ j, j ∉ t → σ'[j]? = σ[j]?) → σ'.length = σ.length → Q σ' H
def rdG (P : Par) (t : Tg) : TG := fun v σ H Q => ∃ ρ θ G d, Sim P ρ θ G σ H ∧ Rep P.T G d v ∧ Off P t.slots ∧ take t d ρ (KtG P t.slots θ G σ H Q)
def rdGs (P : Par) (t : Tg) : TGs := fun vs σ H Q => ∃ ρ θ G ds, Sim P ρ θ G σ H ∧ RepL P.T G ds vs ∧ Off P t.slots ∧ take t (.tup ds) ρ (KtG P t.slots θ G σ H Q)
theorem g_name {i : Nat} {x : Str} {pos : Pos} (O : Okx P X) (hi : X.N[i]? = some x) (hx : Loc X.env.scope x) (hf : X.fn x = true ∨ X.env.scope.names.lookup x = some .local) (hN : ∀ σ : L2.St, True) : PG X (.Name x pos) (rdG P (.nm i)) := by
  refine ⟨fun pins s σ H v u Q I r h => (pg_name O.nd hi hx hf).run pins s σ H v u Q I r ?_⟩
  obtain ⟨ρ, θ, G, d, S, rv, off, h⟩ := h
  have hil : i < σ.length := by rw [I.len]; exact (List.getElem?_eq_some_iff.mp hi).1
  unfold take at h
  refine h _ _ (S.put hil (off.no (by simp [Tg.slots])) rv) (fun j => ?_) (fun j hj => ?_) (by simp)
  · by_cases e : j = i
    · subst e; exact .inr tset_same
    · exact .inl (tset_ne e)
  · have e : j ≠ i := fun e => hj (by simp [Tg.slots, e])
    exact List.getElem?_set_ne (Ne.symm e)
theorem gs_nil : PGs X [] (rdGs P .nil) := by
  refine ⟨fun pins s σ H vs us Q I r h => pgs_nil.run pins s σ H vs us Q I r ?_⟩
  obtain ⟨ρ, θ, G, ds, S, rv, off, h⟩ := h
  unfold take at h
  obtain ⟨e, h⟩ := h
  cases e
  exact ⟨rv.nil_inv, h σ θ S (fun _ => .inl rfl) (fun _ _ => rfl) rfl⟩
theorem gs_cons {e : Expr} {es : List Expr} {t r : Tg} (h1 : PG X e (rdG P t)) (h2 : PGs X es (rdGs P r)) (hs : (assignEach (e :: es) X.env).map (·.2) = assign e X.env :: (assignEach es X.env).map (·.2)) : PGs X (e :: es) (rdGs P (.cons t r)) := by
  refine ⟨fun pins s σ H vs us Q I rr h => (pgs_cons h1 h2 hs).run pins s σ H vs us Q I rr ?_⟩
  obtain ⟨ρ, θ, G, ds, S, rv, off, h⟩ := h
  unfold take at h
  obtain ⟨x, xs, e, h⟩ := h
  cases e
  obtain ⟨v, vr, rfl, r1, r2⟩ := rv.cons_inv
  have o1 : Off P t.slots := fun i hi => off i (List.mem_append_left _ hi)
  have o2 : Off P r.slots := fun i hi => off i (List.mem_append_right _ hi)
  refine ⟨v, vr, rfl, ρ, θ, G, x, S, r1, o1, take_mono (fun ρ1 k σ1 θ1 S1 t1 f1 l1 => ?_) h⟩
  refine ⟨ρ1, θ1, G, xs, S1, r2, o2, take_mono (fun ρ2 k' σ2 θ2 S2 t2 f2 l3 => k' σ2 θ2 S2 (fun i => ?_) (fun j hj => ?_) (by omega)) k⟩
  · rcases t2 i with q | q
    · rw [q]; exact t1 i
    · exact .inr q
  · have hj' : j ∉ t.slots ++ r.slots := hj
    rw [List.mem_append, not_or] at hj'
    exact (f2 j hj'.2).trans (f1 j hj'.1)
theorem g_tup {es : List Expr} {k n : Nat} {r : Tg} {pos : Pos} (O : Okx P X) (h : PGs X es (rdGs P r)) (hn : (assignEach es X.env).length = n) (hst : (assignEach es X.env).findIdx? (·.1) = none) (hl : ∀ (ds : List D) (ρ : Ro) (Q : Ro → Prop), take (.tp r) (.tup ds) ρ Q → take r (.tup ds) ρ Q ∧ ds.length = n)
    (ht : ∀ (d : D) (ρ : Ro) (Q : Ro → Prop), take (.tp r) d ρ Q → ∃ ds, d = .tup ds) : PG X (.Tuple es k pos) (rdG P (.tp r)) := by
  refine ⟨fun pins s σ H v u Q I rr hw => (pg_tup O.calm h hn hst).run pins s σ H v u Q I rr ?_⟩
  obtain ⟨ρ, θ, G, d, S, rv, off, hw⟩ := hw
  obtain ⟨ds, rfl⟩ := ht _ _ _ hw
  obtain ⟨p, us, rfl, h1, h2⟩ := Rep.tup_inv rv
  obtain ⟨k1, k2⟩ := hl _ _ _ hw
  exact ⟨p, us, rfl, SqT.of (S.gh _ _ h1), by rw [← h2.len]; exact k2, ρ, θ, G, ds, S, h2, off, k1⟩

/-! ### a block's own names -/
theorem wip_len (ρ : Ro) : ∀ vs : List Nat, (wip ρ vs).length = ρ.length
  | [] => rfl
  | v :: vs => by unfold wip; rw [List.length_set, wip_len]
theorem wip_in {ρ : Ro} {i : Nat} : ∀ {vs : List Nat}, i ∈ vs → slOf (wip ρ vs) i = none
  | v :: vs, h => by
    unfold wip
    by_cases e : i = v
    · subst e
      unfold slOf
      by_cases hl : i < (wip ρ vs).length
      · rw [List.getElem?_set_self hl]
      · rw [List.getElem?_eq_none (by rw [List.length_set]; omega)]
    · rw [slOf_set_ne e]
      rcases List.mem_cons.mp h with q | q
      · exact absurd q e
      · exact wip_in q
theorem wip_out {ρ : Ro} {i : Nat} : ∀ {vs : List Nat}, i ∉ vs → slOf (wip ρ vs) i = slOf ρ i
  | [], _ => rfl
  | v :: vs, h => by
    unfold wip
    rw [slOf_set_ne fun e => h (by rw [e]; exact List.mem_cons_self)]
    exact wip_out fun m => h (List.mem_cons_of_mem _ m)
theorem wipe_ext {σ σ' : L2.St} (hl : σ'.length = σ.length) : ∀ {vs : List Nat}, (∀ j, j ∉ vs → σ'[j]? = σ[j]?) → wipe σ' vs = wipe σ vs := fun {vs} h => by
  apply List.ext_getElem?
  intro j
  by_cases hj : j ∈ vs
  · have gen : ∀ (τ : L2.St) (ws : List Nat), j ∈ ws → (wipe τ ws)[j]? = if j < τ.length then some none else none := by
      intro τ ws
      induction ws with
      | nil => intro h; cases h
      | cons w ws ih =>
        intro h
        unfold wipe
        by_cases e : w = j
        · subst e
          by_cases hl : w < τ.length
          · rw [List.getElem?_set_self (by rw [wipe_length]; exact hl), if_pos hl]
          · rw [List.getElem?_eq_none (by rw [List.length_set, wipe_length]; omega), if_neg hl]
        · rw [List.getElem?_set_ne e]
          rcases List.mem_cons.mp h with q | q
          · exact absurd q.symm e
          · exact ih q
    rw [gen _ _ hj, gen _ _ hj, hl]
  · rw [wipe_out hj, wipe_out hj]; exact h j hj
theorem Sim.wipe {ρ : Ro} {θ : Nat → List Addr} {G H : Hp} (S : Sim P ρ θ G σ H) : ∀ {vs : List Nat}, Off P vs → ∃ θ', Sim P (wip ρ vs) θ' G (L2.wipe σ vs) H ∧ ∀ i, θ' i = θ i ∨ θ' i = []
  | [], _ => ⟨θ, S, fun _ => .inl rfl⟩
  | v :: vs, off => by
    obtain ⟨θ1, S1, t1⟩ := Sim.wipe S (vs := vs) fun i hi => off i (List.mem_cons_of_mem _ hi)
    refine ⟨tset θ1 v [], ?_, fun i => ?_⟩
    · have S2 := S1.forget v
      have : slOf ((wip ρ vs).set v none) v = none := wip_in (vs := v :: vs) List.mem_cons_self
      exact S2.slot (o := none) this (off.no List.mem_cons_self)
    · by_cases e : i = v
      · subst e; exact .inr tset_same
      · rw [tset_ne e]; exact t1 i
theorem unwip_len (old : Ro) : ∀ (vs : List Nat) (ρ : Ro), (unwip old vs ρ).length = ρ.length
  | [], _ => rfl
  | v :: vs, ρ => by unfold unwip; rw [List.length_set, unwip_len]
theorem unwip_out {old ρ : Ro} {i : Nat} : ∀ {vs : List Nat}, i ∉ vs → slOf (unwip old vs ρ) i = slOf ρ i
  | [], _ => rfl
  | v :: vs, h => by
    unfold unwip
    rw [slOf_set_ne fun e => h (by rw [e]; exact List.mem_cons_self)]
    exact unwip_out fun m => h (List.mem_cons_of_mem _ m)
theorem slOf_self {ρ : Ro} {i : Nat} {w : Option Sl} (hi : i < ρ.length) : slOf (ρ.set i w) i = w := by
  cases w with
  | none =>
    unfold slOf
    rw [List.getElem?_set_self hi]
  | some x => rw [slOf_set hi, if_pos rfl]
theorem slOf_out {ρ : Ro} {i : Nat} (hi : ¬ i < ρ.length) : slOf ρ i = none := by
  unfold slOf
  rw [List.getElem?_eq_none (by omega)]
theorem unwip_in {old ρ : Ro} {i : Nat} : ∀ {vs : List Nat} {x : Sl}, i ∈ vs → slOf (unwip old vs ρ) i = some x → ∃ d, x = .dat d ∧ slOf old i = some (.dat d)
  | v :: vs, x, h, e => by
    unfold unwip at e
    by_cases q : i = v
    · subst q
      by_cases hl : i < (unwip old vs ρ).length
      · rw [slOf_self hl] at e
        cases c : slOf old i with
        | none => rw [c] at e; cases e
        | some y =>
          rw [c] at e
          cases y with
          | dat d => cases e; exact ⟨d, rfl, rfl⟩
          | own t => cases e
      · rw [slOf_out (by rw [List.length_set]; exact hl)] at e; cases e
    · rw [slOf_set_ne q] at e
      rcases List.mem_cons.mp h with z | z
      · exact absurd z q
      · exact unwip_in z e
theorem Sim.unwip {ρ ρ' : Ro} {θ θ' : Nat → List Addr} {G G' H H' : Hp} {vs : List Nat} (S : Sim P ρ θ G σ H) (S' : Sim P (wip ρ' vs) θ' G' (L2.wipe σ vs) H') (off : Off P vs) (eg : Ex G G') : Sim P (Cw.unwip ρ vs (wip ρ' vs)) θ' G' σ H' where
  g0 := S'.g0
  gh := S'.gh
  fr := S'.fr
  gs := S'.gs
  pe := S'.pe
  ln := by rw [unwip_len, S'.ln, wipe_length]
  sl := fun j x e => by
    have e := slOf_iff.mpr e
    by_cases hj : j ∈ vs
    · obtain ⟨d, rfl, e1⟩ := unwip_in hj e
      obtain ⟨v, h1, h2⟩ := S.get e1
      refine ⟨v, h1, ?_, Rep.mono eg _ _ h2.2⟩
      exact S'.no j fun t q => by
        have := slOf_iff.mpr q
        rw [wip_in hj] at this; cases this
    · rw [unwip_out hj] at e
      obtain ⟨v, h1, h2⟩ := S'.get e
      rw [wipe_out hj] at h1
      exact ⟨v, h1, h2⟩
  no := fun j hn => by
    refine S'.no j fun t q => ?_
    have q' := slOf_iff.mpr q
    by_cases hj : j ∈ vs
    · rw [wip_in hj] at q'; cases q'
    · refine hn t (slOf_iff.mp ?_)
      rw [unwip_out hj]; exact q'
  gn := S'.gn
  nw := S'.nw
  nd := S'.nd
  dj := S'.dj
  fx := S.fx
end

/-! ### comprehensions -/
section
variable {P : Par} {X : Cx} {σ : List (Option V)}
/-- the state between two turns -/
structure LcSt (P : Par) (σ : List (Option V)) (vs : List Nat) (θ1 : Nat → List Addr) (G1 H1 : Hp) (D : Addr) (acc : List Cw.D) (ρ : Ro) (θ : Nat → List Addr) (G H : Hp) : Prop where
  S : Sim P (wip ρ vs) θ G (L2.wipe σ vs) H
  st : Stp θ1 G1 H1 θ G H
  new : H1 D = none
  h0 : P.H0 D = none
  at' : ∃ us, H D = some (.lst us) ∧ RepL P.T G acc us
  gn : G D = none
  no : ∀ i, D ∉ θ i
theorem LcSt.begin {ρ : Ro} {θ1 : Nat → List Addr} {G1 H1 : Hp} {vs : List Nat} {D : Addr} (S : Sim P ρ θ1 G1 σ H1) (off : Off P vs) (hD : H1 D = none) : ∃ θ, LcSt P σ vs θ1 G1 H1 D [] ρ θ G1 (upd H1 D (.lst [])) := by
  obtain ⟨θ, S2, t2⟩ := S.wipe off
  obtain ⟨S3, s3⟩ := S2.more (Ex.new (o := .lst []) hD) (Ex.refl G1) (S2.gh.trans (Ex.new hD)) fun _ _ _ => rfl
  refine ⟨θ, S3, ⟨fun a o e _ => ⟨by rw [upd_ne (ne_of_none e hD)]; exact e, rfl⟩, t2, Ex.refl _, fun a h => (Ex.new hD).none h⟩, hD, S.pe D hD, ⟨[], upd_same, RepL.nil⟩, S.gh.none hD, fun i m => ?_⟩
  obtain ⟨_, _, o, ho⟩ := S2.there m
  rw [hD] at ho; cases ho

theorem Stp.names {θ θ' : Nat → List Addr} {G H : Hp} (t : ∀ i, θ' i = θ i ∨ θ' i = []) : Stp θ G H θ' G H := ⟨fun _ _ h _ => ⟨h, rfl⟩, t, Ex.refl _, fun _ h => h⟩
theorem LcSt.skip {σ' : List (Option V)} {vs vs' : List Nat} {θ1 θ θ7 : Nat → List Addr} {G1 H1 G G7 H H6 : Hp} {D : Addr} {acc : List Cw.D} {ρ ρ7 : Ro} {σ2 : L2.St} (L : LcSt P σ vs θ1 G1 H1 D acc ρ θ G H) (s : Stp θ G H θ7 G7 H6) (S7 : Sim P ρ7 θ7 G7 σ2 H6) (w : L2.wipe σ2 vs' = L2.wipe σ' vs') (off : Off P vs') :
    ∃ θ8, LcSt P σ' vs' θ1 G1 H1 D acc ρ7 θ8 G7 H6 := by
  obtain ⟨θ8, S8, t8⟩ := S7.wipe off
  rw [w] at S8
  obtain ⟨us, h1, h2⟩ := L.at'
  obtain ⟨k1, k2⟩ := s.h D _ h1 L.no
  have s8 : Stp θ G H θ8 G7 H6 := s.trans (Stp.names t8)
  exact ⟨θ8, S8, L.st.trans s8, L.new, L.h0, ⟨us, k1, RepL.mono s.g _ _ h2⟩, k2.trans L.gn, fun i m => L.no i (s8.sub m)⟩
theorem LcSt.item {σ' : List (Option V)} {vs vs' : List Nat} {θ1 θ θ7 : Nat → List Addr} {G1 H1 G G7 H H6 : Hp} {D : Addr} {acc : List Cw.D} {ρ ρ7 : Ro} {σ2 : L2.St} {d : Cw.D} {y : V} (L : LcSt P σ vs θ1 G1 H1 D acc ρ θ G H) (s : Stp θ G H θ7 G7 H6) (S7 : Sim P ρ7 θ7 G7 σ2 H6) (w : L2.wipe σ2 vs' = L2.wipe σ' vs') (off : Off P vs') (r : Rep P.T G7 d y) :
    ∃ us, H6 D = some (.lst us) ∧ us.length = acc.length ∧ ∃ θ8, LcSt P σ' vs' θ1 G1 H1 D (acc ++ [d]) ρ7 θ8 G7 (upd H6 D (.lst (us ++ [y]))) := by
  obtain ⟨θ8, L8⟩ := L.skip s S7 w off
  obtain ⟨us, h1, h2⟩ := L8.at'
  refine ⟨us, h1, h2.len.symm, θ8, ?_, ?_, L8.new, L8.h0, ⟨us ++ [y], upd_same, h2.app (RepL.cons r RepL.nil)⟩, L8.gn, L8.no⟩
  · refine L8.S.heap (as := [D]) (Ex.refl _) (fun a o e => ?_) (fun a o e n => ⟨by rw [upd_ne (by simpa using n)]; exact e, rfl⟩) (fun a h => ?_) fun a ha => ?_
    · by_cases ha : a = D
      · subst ha; rw [L8.gn] at e; cases e
      · rw [upd_ne ha]; exact L8.S.gh a o e
    · by_cases ha : a = D
      · subst ha; rw [upd_same] at h; cases h
      · rw [upd_ne ha] at h; exact h
    · have e : a = D := by simpa using ha
      subst e; exact ⟨L8.no, .inl L8.h0⟩
  · refine ⟨fun a o e n => ?_, L8.st.t, L8.st.g, fun a h => ?_⟩
    · obtain ⟨k1, k2⟩ := L8.st.h a o e n
      refine ⟨?_, k2⟩
      rw [upd_ne fun q => by rw [q, L8.new] at e; cases e]; exact k1
    · by_cases ha : a = D
      · subst ha; rw [upd_same] at h; cases h
      · rw [upd_ne ha] at h; exact L8.st.d a h
/-- behind the last turn -/
theorem LcSt.done {vs : List Nat} {θ0 θ1 θ : Nat → List Addr} {G0 H0 G1 H1 G H : Hp} {D : Addr} {acc : List Cw.D} {ρ2 ρ : Ro} {Q : VK} (L : LcSt P σ vs θ1 G1 H1 D acc ρ θ G H) (S1 : Sim P ρ2 θ1 G1 σ H1) (s0 : Stp θ0 G0 H0 θ1 G1 H1) (off : Off P vs) (k : Kt P θ0 G0 H0 σ Q (.own (.lst acc)) (Cw.unwip ρ2 vs (wip ρ vs))) : Q (.ref D) H := by
  obtain ⟨us, h1, h2⟩ := L.at'
  refine k (.ref D) [D] θ G H (s0.trans L.st) (S1.unwip L.S off L.st.g) ⟨D, [], rfl, rfl, rfl, us, h1, h2⟩ ⟨by simp, fun a ha => ?_⟩ fun a ha => ?_
  · have e : a = D := by simpa using ha
    subst e; exact ⟨L.gn, L.h0, L.no⟩
  · have e : a = D := by simpa using ha
    subst e; exact s0.d _ L.new
theorem wip_wip (ρ : Ro) (vs : List Nat) : True := trivial
/-- one target's store keeps the other slots -/
theorem wipe_of {t : List Nat} {vs : List Nat} {σ1 σ2 : L2.St} (sub : ∀ i ∈ t, i ∈ vs) (f : ∀ j, j ∉ t → σ2[j]? = σ1[j]?) (l : σ2.length = σ1.length) : L2.wipe σ2 vs = L2.wipe σ1 vs := wipe_ext l fun j hj => f j fun m => hj (sub j m)
theorem wipe_wipe (σ : L2.St) (vs : List Nat) : L2.wipe (L2.wipe σ vs) vs = L2.wipe σ vs := wipe_ext (wipe_length σ vs) fun j hj => wipe_out hj
theorem gd_wipe {g : Option (Nat × Ot)} {vs : List Nat} : Gd σ (L2.wipe σ vs) g := fun _ _ _ _ e => (wipe_some e).1
/-- what an iterator gives while expressions alone run -/
def FeedL (P : Par) (σ : List (Option V)) (J : It) (s : Src) (θ1 : Nat → List Addr) (G1 H1 : Hp) : Prop := ∀ i ρ θ G H σ', Stp θ1 G1 H1 θ G H → Sim P ρ θ G σ' H → Gd σ σ' s.gd → gdOk s.gd ρ →
  (i < s.items.length → J.go i H) ∧ (s.items.length ≤ i → J.stop i H) ∧
  ∀ x H', i < s.items.length → J.yld i H x H' → ∃ G' d, s.items[i]? = some d ∧ Ex H H' ∧ Ex G G' ∧ Ex G' H' ∧ (∀ a o, H a = some o → G' a = G a) ∧ Rep P.T G' d x
theorem Feed.lc {J : It} {s : Src} {θ1 : Nat → List Addr} {G1 H1 : Hp} (f : Feed P σ J s G1) : FeedL P σ J s θ1 G1 H1 := fun i ρ θ G H σ' s => f i ρ θ G H σ' s.g
/-- a comprehension's turn -/
def lcTurn (t : Tg) (ec ee : E) : D → List D → Ro → (List D → Ro → Prop) → Prop := fun d acc ρ3 K => take t d ρ3 fun ρ4 => wE ec ρ4 fun v ρ5 => ∃ j, v = .dat (.bl j) ∧ if j = true then wE ee ρ5 fun y ρ6 => frz y ρ6 fun d' ρ7 => acc.length < sizeLine ∧ K (acc ++ [d']) ρ7 else K acc ρ5
theorem lc_run {vs : List Nat} {t : Tg} {ec ee : E} {Q : VK} {ρ2 : Ro} {θ1 : Nat → List Addr} {G1 H1 : Hp} {J : It} {s : Src} {Fin : List D → Ro → Prop} (off : Off P vs) (sub : ∀ i ∈ t.slots, i ∈ vs) (S1 : Sim P ρ2 θ1 G1 σ H1) (fd : FeedL P σ J s θ1 G1 H1) (h : lcg (lcTurn t ec ee) vs s.gd s.items [] (wip ρ2 vs) Fin) (D : Addr) (hD : H1 D = none)
    (fin : ∀ acc ρ θ G H, LcSt P σ vs θ1 G1 H1 D acc ρ θ G H → Fin acc (wip ρ vs) → Q (.ref D) H) :
    ∃ W : Nat → Nat → Hp → Prop, (∃ m, W 0 m (upd H1 D (.lst []))) ∧ ∀ i m H, W i m H →
      (J.stop i H ∧ Q (.ref D) H) ∨ (J.go i H ∧ ∃ Nx : Hp → Prop, (∀ H', Nx H' → ∃ m', m' < m ∧ W (i + 1) m' H') ∧ ∀ x H', J.yld i H x H' → rdG P t x (L2.wipe σ vs) H' fun σ2 H2 => L2.wipe σ2 vs = L2.wipe σ vs ∧ rdT P ec σ2 H2 fun b H3 =>
        if b = true then rdE P ee σ2 H3 fun y H4 => ∃ acc, H4 D = some (.lst acc) ∧ acc.length < sizeLine ∧ Nx (upd H4 D (.lst (acc ++ [y]))) else Nx H3) := by
  obtain ⟨θ2, L0⟩ := LcSt.begin S1 off hD
  let Wi : Nat → Hp → Prop := fun i H' => i ≤ s.items.length ∧ ∃ acc ρ' θ' G', LcSt P σ vs θ1 G1 H1 D acc ρ' θ' G' H' ∧ lcg (lcTurn t ec ee) vs s.gd (s.items.drop i) acc (wip ρ' vs) Fin
  refine ⟨fun i m H' => m = s.items.length - i ∧ Wi i H', ⟨_, rfl, Nat.zero_le _, [], ρ2, θ2, G1, L0, h⟩, ?_⟩
  rintro i m H' ⟨rfl, hi, acc, ρ', θ', G', L, hl⟩
  by_cases hlt : i < s.items.length
  · obtain ⟨d, hd⟩ : ∃ d, s.items[i]? = some d := ⟨_, List.getElem?_eq_getElem hlt⟩
    have hdrop : s.items.drop i = d :: s.items.drop (i + 1) := by
      rw [List.getElem?_eq_getElem hlt] at hd; cases hd
      exact List.drop_eq_getElem_cons hlt
    rw [hdrop] at hl
    obtain ⟨ok, hl⟩ := hl
    obtain ⟨k1, k2, k3⟩ := fd i _ θ' G' H' _ L.st L.S gd_wipe ok
    refine .inr ⟨k1 hlt, Wi (i + 1), fun H'' w => ⟨_, by omega, rfl, w⟩, fun x H'' hy => ?_⟩
    obtain ⟨G2, d', e1, q1, q2, q3, q4, q5⟩ := k3 x H'' hlt hy
    rw [hd] at e1; cases e1
    obtain ⟨S2, s2⟩ := L.S.more q1 q2 q3 q4
    refine ⟨_, θ', G2, d, S2, q5, fun i hi => off i (sub i hi), take_mono (fun ρ4 h σ2 θ3 S3 t3 f3 l3 => ?_) hl⟩
    have w3 : L2.wipe σ2 vs = L2.wipe σ vs := (wipe_of sub f3 l3).trans (wipe_wipe σ vs)
    refine ⟨w3, ?_⟩
    have s3 : Stp θ' G' H' θ3 G2 H'' := s2.trans (Stp.names t3)
    refine rdT_of S3 h fun v ρ5 x5 qs5 θ5 G5 H5 ⟨j, e5, h5⟩ s5 S5 r5 f5 n5 => ?_
    subst e5
    obtain rfl := Rep.bl_inv (T := P.T) (G := G5) r5.2
    refine ⟨j, rfl, ?_⟩
    cases j with
    | true =>
      rw [if_pos rfl] at h5 ⊢
      refine rd_of S5 h5 fun y ρ6 x6 qs6 θ6 G6 H6 h6 s6 S6 r6 f6 n6 => ?_
      obtain ⟨d', ρ7, θ7, G7, ⟨hz, h7⟩, S7, r7, e7, t7, g7, _⟩ := frz_ok (rest := []) S6 r6 (by rw [List.append_nil]; exact f6) h6
      have s7 := stp_frzs (ρ2 := ρ7) (σ := σ) (as := qs6) s6 n6 e7 t7 g7
      obtain ⟨us, u1, u2, θ8, L8⟩ := L.item ((s3.trans s5).trans s7) S7 w3 off r7
      exact ⟨us, u1, by rw [u2]; exact hz, hlt, acc ++ [d'], ρ7, θ8, G7, L8, h7⟩
    | false =>
      rw [if_neg Bool.false_ne_true] at h5 ⊢
      obtain ⟨θ8, L8⟩ := L.skip (s3.trans s5) S5 w3 off
      exact ⟨hlt, acc, ρ5, θ8, G5, L8, h5⟩
  · have e : i = s.items.length := by omega
    subst e
    rw [List.drop_length] at hl
    obtain ⟨ok, hl⟩ := hl
    obtain ⟨_, k2, _⟩ := fd s.items.length _ θ' G' H' _ L.st L.S gd_wipe ok
    exact .inl ⟨k2 (Nat.le_refl _), fin acc _ θ' G' H' L hl⟩
theorem lc_rd {vs : List Nat} {t : Tg} {k : Ik} {ea ec ee : E} {H : Hp} {Q : VK} (off : Off P vs) (sub : ∀ i ∈ t.slots, i ∈ vs) (h : rdE P (.lc vs t k ea ec ee) σ H Q) : tLc (rdI P false k ea) (rdG P t) (rdT P ec) (rdE P ee) vs σ H Q := by
  obtain ⟨ρ, θ, G, S, h⟩ := h
  unfold wE at h
  unfold tLc
  exact ⟨ρ, θ, G, S, wA_mono ea _ _ _ (fun ws ρ1 h => walkZ_mono (fun s ρ2 h J θ1 G1 H1 s1 S1 fd D hD => lc_run off sub S1 fd.lc h D hD fun acc ρ θ G H L q => L.done S1 s1 off q) h) h⟩
/-! the keys of an own dict -/
theorem lk_rd {vs : List Nat} {t : Tg} {i : Nat} {ec ee : E} {H : Hp} {Q : VK} (off : Off P vs) (sub : ∀ i ∈ t.slots, i ∈ vs) (h : rdE P (.lk vs t i ec ee) σ H Q) : tLockE (tLc (iKeys (tVar i)) (rdG P t) (rdT P ec) (rdE P ee) vs) σ H Q := by
  obtain ⟨ρ, θ, G, S, h⟩ := h
  unfold wE at h
  obtain ⟨ks, ds, e1, h⟩ := h
  obtain ⟨p, r, h1, h2, hr, us, h3, h4, h5⟩ := S.own e1
  subst hr
  have hi : i < ρ.length := (List.getElem?_eq_some_iff.mp (slOf_iff.mp e1)).1
  have pm : p ∈ θ i := by rw [h2]; simp
  refine ⟨p, .dK (ks.zip us), h3, trivial, fun od => ?_⟩
  have S0 : Sim P (ρ.set i none) (tset θ i []) G σ (upd H p (.frz od (.dK (ks.zip us)))) := by
    refine (S.forget i).heap (as := [p]) (Ex.refl G) (fun a o e => ?_) (fun a o e n => ⟨by rw [upd_ne (by simpa using n)]; exact e, rfl⟩) (fun a e => ?_) fun a ha => ?_
    · rw [upd_ne fun q => by rw [q, S.gn i p pm] at e; cases e]; exact S.gh a o e
    · by_cases q : a = p
      · subst q; rw [upd_same] at e; cases e
      · rw [upd_ne q] at e; exact e
    · have q : a = p := by simpa using ha
      subst q
      refine ⟨fun j m => ?_, ?_⟩
      · obtain ⟨n, m⟩ := mem_tset_nil m
        exact n (S.dj j i a m pm)
      · rcases S.nw i a pm with q | q
        · exact .inl q
        · exact .inr q.1
  have np : ∀ j, p ∉ tset θ i [] j := fun j m => by
    obtain ⟨n, m⟩ := mem_tset_nil m
    exact n (S.dj j i p m pm)
  have at_ : ∀ {θ' : Nat → List Addr} {G' H' : Hp}, Stp (tset θ i []) G (upd H p (.frz od (.dK (ks.zip us)))) θ' G' H' → H' p = some (.frz od (.dK (ks.zip us))) ∧ G' p = none := fun s => by
    obtain ⟨k1, k2⟩ := s.h p _ upd_same np
    exact ⟨k1, k2.trans (S.gn i p pm)⟩
  have hl : (ks.map kD).length = (ks.zip us).length := by rw [List.length_map, List.length_zip, ← h4, Nat.min_self]
  have get : ∀ {j : Nat} {k : Key} {v : V}, (ks.zip us)[j]? = some (k, v) → (ks.map kD)[j]? = some (kD k) := fun {j k v} e => by
    have := List.getElem?_zip_eq_some.mp e
    rw [List.getElem?_map, this.1]; rfl
  refine ⟨_, h1, p, od, rfl, .inl ⟨ks.zip us, upd_same, fun D hD => ?_⟩⟩
  refine lc_run (J := Itk p od (ks.zip us)) (Q := fun v H' => H' p = some (.frz od (.dK (ks.zip us))) ∧ Q v (upd H' p (.dK (ks.zip us)))) (s := ⟨ks.map kD, none⟩) off sub S0 (fun j ρ' θ' G' H' σ' s S' _ _ => ?_) h D hD fun acc ρ' θ' G' H' L q => ?_
  · obtain ⟨k1, k2⟩ := at_ s
    refine ⟨fun q => ⟨k1, by rw [← hl]; exact q⟩, fun q => ⟨k1, by rw [← hl]; exact q⟩, fun x H'' _ y => ?_⟩
    obtain ⟨rfl, k, v, e, rfl⟩ := y
    refine ⟨G', kD k, get e, Ex.refl _, Ex.refl _, S'.gh, fun _ _ _ => rfl, ?_⟩
    cases k with
    | inl i => exact Rep.int
    | inr s => exact Rep.str
  · obtain ⟨k1, k2⟩ := at_ L.st
    have S1 := (S0.unwip L.S off L.st.g).forget i
    have nx : ∀ j, p ∉ θ' j := fun j m => np j (L.st.sub m)
    have S2 : Sim P ((Cw.unwip (ρ.set i none) vs (wip ρ' vs)).set i none) (tset θ' i []) G' σ (upd H' p (.dK (ks.zip us))) := by
      refine S1.heap (as := [p]) (Ex.refl G') (fun a o e => ?_) (fun a o e n => ⟨by rw [upd_ne (by simpa using n)]; exact e, rfl⟩) (fun a e => ?_) fun a ha => ?_
      · rw [upd_ne fun q => by rw [q, k2] at e; cases e]; exact S1.gh a o e
      · by_cases q : a = p
        · subst q; rw [upd_same] at e; cases e
        · rw [upd_ne q] at e; exact e
      · have q : a = p := by simpa using ha
        subst q
        refine ⟨fun j m => nx j (mem_tset_nil m).2, ?_⟩
        rcases S.nw i a pm with q | q
        · exact .inl q
        · exact .inr q.1
    have hi2 : i < ((Cw.unwip (ρ.set i none) vs (wip ρ' vs)).set i none).length := by
      have e1 := L.S.ln
      have e2 := S.ln
      rw [wipe_length] at e1
      rw [List.length_set, unwip_len, e1, ← e2]; exact hi
    have one : ∀ {a : Addr}, a ∈ [p] → a = p := fun m => by simpa using m
    have S3 := S2.add (i := i) (x := .own (.dk ks ds)) (v := .ref p) (qs := [p]) hi2 tset_same h1 ⟨p, [], rfl, rfl, rfl, us, upd_same, h4, RepL.mono L.st.g _ _ h5⟩ (by simp) (fun a ha => by
      obtain rfl := one ha; exact k2) (fun a ha => by
      obtain rfl := one ha; exact S.nw i a pm) fun j a ha m => by
      obtain rfl := one ha; exact nx j (mem_tset_nil m).2
    rw [List.set_set] at S3
    obtain ⟨ws, w1, w2⟩ := L.at'
    have nD : D ≠ p := fun q => by
      have e := L.new
      rw [q, upd_same] at e; cases e
    have hD0 : H D = none := by
      have e := L.new
      rw [upd_ne nD] at e; exact e
    refine ⟨k1, q (.ref D) [D] _ G' _ ⟨fun a o e n => ?_, fun j => ?_, L.st.g, fun a e => ?_⟩ S3 ⟨D, [], rfl, rfl, rfl, ws, by rw [upd_ne nD]; exact w1, w2⟩ ⟨by simp, fun a ha => ?_⟩ fun a ha => ?_⟩
    · have na : a ≠ p := fun q => n i (q ▸ pm)
      obtain ⟨m1, m2⟩ := L.st.h a o (by rw [upd_ne na]; exact e) fun j m => n j (mem_tset_nil m).2
      exact ⟨by rw [upd_ne na]; exact m1, m2⟩
    · by_cases q : j = i
      · subst q; rw [tset_same, h2]; exact .inl rfl
      · rw [tset_ne q, tset_ne q]
        rcases L.st.t j with z | z
        · rw [z, tset_ne q]; exact .inl rfl
        · exact .inr z
    · by_cases q : a = p
      · subst q; rw [upd_same] at e; cases e
      · rw [upd_ne q] at e
        have := L.st.d a e
        rw [upd_ne q] at this; exact this
    · have e : a = D := by simpa using ha
      subst e
      refine ⟨L.gn, L.h0, fun j m => ?_⟩
      by_cases q : j = i
      · subst q
        rw [tset_same] at m
        exact nD (one m)
      · rw [tset_ne q, tset_ne q] at m
        exact L.no j m
    · have e : a = D := by simpa using ha
      subst e; exact hD0
theorem s_lk (O : Okx P X) {elt tg : Expr} {x : Str} {xp : Pos} {ifs : List Expr} {scope : Scope} {own : List (Str × Nat)} {pos : Pos} {t : Tg} {i : Nat} {ec ee : E} (off : Off P (own.map (·.2))) (sub : ∀ i ∈ t.slots, i ∈ own.map (·.2)) (hN : X.N[i]? = some x) (hv : Vis X.env.scope x) (hd : (x == ("__debug__" : Str)) = false) (hcd : (x == ("__classdict__" : Str)) = false) (ok : BlkOk X.N X.env.scope scope own)
    (hg : ∀ (s : Shared) (H : Hp) (C : Addr) (cl : List (Str × Addr)) (fp : List Addr), PG (X.blk s H scope (compEnvC scope cl C X.env) fp) tg (rdG P t)) (ht : ∀ (s : Shared) (H : Hp) (C : Addr) (cl : List (Str × Addr)) (fp : List Addr), PTs (X.blk s H scope (compEnvC scope cl C X.env) fp) ifs (rdT P ec))
    (he : ∀ (s : Shared) (H : Hp) (C : Addr) (cl : List (Str × Addr)) (fp : List Addr), PE (X.blk s H scope (compEnvC scope cl C X.env) fp) elt (rdE P ee)) (hs : ∀ y, foldedSetIterable (.Name x xp) X.env y = pure y) :
    PE X (.ListComp elt [⟨tg, .Name x xp, ifs, 0⟩] scope pos) (rdE P (.lk (own.map (·.2)) t i ec ee)) := impE (pe_lock (pe_lc O.calm O.nd (pi_keys (pe_var hN hv hd hcd)) ok hg ht he hs)) fun _ _ _ h => lk_rd off sub h
theorem s_lc (O : Okx P X) {elt tg iter : Expr} {ifs : List Expr} {scope : Scope} {own : List (Str × Nat)} {pos : Pos} {t : Tg} {k : Ik} {ea ec ee : E} (off : Off P (own.map (·.2))) (sub : ∀ i ∈ t.slots, i ∈ own.map (·.2)) (hi : PI X tg iter (rdI P false k ea)) (ok : BlkOk X.N X.env.scope scope own)
    (hg : ∀ (s : Shared) (H : Hp) (C : Addr) (cl : List (Str × Addr)) (fp : List Addr), PG (X.blk s H scope (compEnvC scope cl C X.env) fp) tg (rdG P t)) (ht : ∀ (s : Shared) (H : Hp) (C : Addr) (cl : List (Str × Addr)) (fp : List Addr), PTs (X.blk s H scope (compEnvC scope cl C X.env) fp) ifs (rdT P ec))
    (he : ∀ (s : Shared) (H : Hp) (C : Addr) (cl : List (Str × Addr)) (fp : List Addr), PE (X.blk s H scope (compEnvC scope cl C X.env) fp) elt (rdE P ee)) (hs : ∀ x, foldedSetIterable iter X.env x = pure x) :
    PE X (.ListComp elt [⟨tg, iter, ifs, 0⟩] scope pos) (rdE P (.lc (own.map (·.2)) t k ea ec ee)) := impE (pe_lc O.calm O.nd hi ok hg ht he hs) fun _ _ _ h => lc_rd off sub h

theorem tYes_true {σ : L2.St} {H : Hp} {A B : Hp → Prop} (h : A H) : tYes σ H fun b H1 => if b = true then A H1 else B H1 := by
  show if true = true then A H else B H
  rw [if_pos rfl]
  exact h
/-! two clauses -/
theorem lc2_rd {vs vs1 : List Nat} {t t1 : Tg} {k k1 : Ik} {ea ea1 ee : E} {H : Hp} {Q : VK} (off : Off P vs) (sub : ∀ i ∈ t.slots, i ∈ vs) (sub1 : ∀ i ∈ t1.slots, i ∈ vs1) (sub2 : ∀ i ∈ vs1, i ∈ vs) (h : rdE P (.lc2 vs vs1 t k ea t1 k1 ea1 ee) σ H Q) :
    tLc2 (rdI P false k ea) (rdG P t) tYes (rdI P false k1 ea1) (rdG P t1) tYes (rdE P ee) vs vs1 σ H Q := by
  obtain ⟨ρ, θ, G, S, h⟩ := h
  unfold wE at h
  unfold tLc2
  refine ⟨ρ, θ, G, S, wA_mono ea _ _ _ (fun ws ρ1 h => walkZ_mono (fun s ρ2 h J θ1 G1 H1 s1 S1 fd D hD => ?_) h) h⟩
  let turn1 : Cw.D → List Cw.D → Ro → (List Cw.D → Ro → Prop) → Prop := fun d1 acc1 ρ7 K1 => take t1 d1 ρ7 fun ρ8 => wE ee ρ8 fun y ρ9 => frz y ρ9 fun d' ρ10 => acc1.length < sizeLine ∧ K1 (acc1 ++ [d']) ρ10
  let turn : Cw.D → List Cw.D → Ro → (List Cw.D → Ro → Prop) → Prop := fun d acc ρ3 K => take t d ρ3 fun ρ4 => wA ea1 ρ4 fun ws1 ρ5 => walkZ false k1 ws1 ρ5 fun s1 ρ6 => lcg turn1 vs1 s1.gd s1.items acc (wip ρ6 vs1) K
  let Qd : List Cw.D → Ro → Prop := fun acc ρ8 => Kt P θ G H σ Q (.own (.lst acc)) (Cw.unwip ρ2 vs ρ8)
  have h : lcg turn vs s.gd s.items [] (wip ρ2 vs) Qd := h
  obtain ⟨θ2, L0⟩ := LcSt.begin S1 off hD
  have off1 : Off P vs1 := fun i hi => off i (sub2 i hi)
  let Wi : Nat → Hp → Prop := fun i H' => i ≤ s.items.length ∧ ∃ acc ρ' θ' G', LcSt P σ vs θ1 G1 H1 D acc ρ' θ' G' H' ∧ lcg turn vs s.gd (s.items.drop i) acc (wip ρ' vs) Qd
  refine ⟨fun i m H' => m = s.items.length - i ∧ Wi i H', ⟨_, rfl, Nat.zero_le _, [], ρ2, θ2, G1, L0, h⟩, ?_⟩
  rintro i m H' ⟨rfl, hi, acc, ρ', θ', G', L, hl⟩
  by_cases hlt : i < s.items.length
  · obtain ⟨d, hd⟩ : ∃ d, s.items[i]? = some d := ⟨_, List.getElem?_eq_getElem hlt⟩
    have hdrop : s.items.drop i = d :: s.items.drop (i + 1) := by
      rw [List.getElem?_eq_getElem hlt] at hd; cases hd
      exact List.drop_eq_getElem_cons hlt
    rw [hdrop] at hl
    obtain ⟨ok, hl⟩ := hl
    obtain ⟨q1, q2, q3⟩ := fd i _ θ' G' H' _ L.st.g L.S gd_wipe ok
    refine .inr ⟨q1 hlt, Wi (i + 1), fun H'' w => ⟨_, by omega, rfl, w⟩, fun x H'' hy => ?_⟩
    obtain ⟨G2, d', e1, q1, q2, q3, q4, q5⟩ := q3 x H'' hlt hy
    rw [hd] at e1; cases e1
    obtain ⟨S2, s2⟩ := L.S.more q1 q2 q3 q4
    refine ⟨_, θ', G2, d, S2, q5, fun i hi => off i (sub i hi), take_mono (fun ρ4 h σ2 θ3 S3 t3 f3 l3 => ?_) hl⟩
    have w3 : L2.wipe σ2 vs = L2.wipe σ vs := (wipe_of sub f3 l3).trans (wipe_wipe σ vs)
    refine ⟨w3, ?_⟩
    refine tYes_true ?_
    have s3 : Stp θ' G' H' θ3 G2 H'' := s2.trans (Stp.names t3)
    refine ⟨ρ4, θ3, G2, S3, wA_mono ea1 _ _ _ (fun ws ρ5 h => walkZ_mono (fun sx ρ6 h J1 θ6 G6 H6 s6 S6 fd1 => ?_) h) h⟩
    -- the inner walk
    obtain ⟨θ7, L7⟩ := L.skip (vs' := vs1) (σ' := σ2) (s3.trans s6) S6 rfl off1
    let Wj : Nat → Hp → Prop := fun j Hj => j ≤ sx.items.length ∧ ∃ accj ρj θj Gj, LcSt P σ2 vs1 θ1 G1 H1 D accj ρj θj Gj Hj ∧ Ex G6 Gj ∧ lcg turn1 vs1 sx.gd (sx.items.drop j) accj (wip ρj vs1) (fun acc' ρ' => lcg turn vs s.gd (s.items.drop (i + 1)) acc' (wip ρ' vs) Qd)
    refine ⟨fun j m Hj => m = sx.items.length - j ∧ Wj j Hj, ⟨_, rfl, Nat.zero_le _, acc, ρ6, θ7, G6, L7, Ex.refl _, h⟩, ?_⟩
    rintro j m Hj ⟨rfl, hj, accj, ρj, θj, Gj, Lj, ej, hlj⟩
    by_cases hltj : j < sx.items.length
    · obtain ⟨dj, hdj⟩ : ∃ d, sx.items[j]? = some d := ⟨_, List.getElem?_eq_getElem hltj⟩
      have hdropj : sx.items.drop j = dj :: sx.items.drop (j + 1) := by
        rw [List.getElem?_eq_getElem hltj] at hdj; cases hdj
        exact List.drop_eq_getElem_cons hltj
      rw [hdropj] at hlj
      obtain ⟨okj, hlj⟩ := hlj
      obtain ⟨p1, p2, p3⟩ := fd1 j _ θj Gj Hj _ ej Lj.S gd_wipe okj
      refine .inr ⟨p1 hltj, Wj (j + 1), fun H'' w => ⟨_, by omega, rfl, w⟩, fun xj Hj' hyj => ?_⟩
      obtain ⟨Gk, dk, e1, m1, m2, m3, m4, m5⟩ := p3 xj Hj' hltj hyj
      rw [hdj] at e1; cases e1
      obtain ⟨Sk, sk⟩ := Lj.S.more m1 m2 m3 m4
      refine ⟨_, θj, Gk, dj, Sk, m5, fun i hi => off1 i (sub1 i hi), take_mono (fun ρ8 h8 σ3 θ8 S8 t8 f8 l8 => ?_) hlj⟩
      have w8 : L2.wipe σ3 vs1 = L2.wipe σ2 vs1 := (wipe_of sub1 f8 l8).trans (wipe_wipe σ2 vs1)
      refine ⟨w8, ?_⟩
      refine tYes_true ?_
      have s8 : Stp θj Gj Hj θ8 Gk Hj' := sk.trans (Stp.names t8)
      refine rd_of S8 h8 fun y ρ9 x9 qs9 θ9 G9 H9 h9 s9 S9 r9 f9 n9 => ?_
      obtain ⟨d', ρ10, θ10, G10, ⟨hz, h10⟩, S10, r10, e10, t10, g10, _⟩ := frz_ok (rest := []) S9 r9 (by rw [List.append_nil]; exact f9) h9
      have s10 := stp_frzs (ρ2 := ρ10) (σ := σ3) (as := qs9) s9 n9 e10 t10 g10
      obtain ⟨us, u1, u2, θ11, L11⟩ := Lj.item (s8.trans s10) S10 w8 off1 r10
      exact ⟨us, u1, by rw [u2]; exact hz, hltj, accj ++ [d'], ρ10, θ11, G10, L11, ej.trans (s8.trans s10).g, h10⟩
    · have e : j = sx.items.length := by omega
      subst e
      rw [List.drop_length] at hlj
      obtain ⟨okj, hlj⟩ := hlj
      obtain ⟨_, p2, _⟩ := fd1 sx.items.length _ θj Gj Hj _ ej Lj.S gd_wipe okj
      have wb : L2.wipe (L2.wipe σ2 vs1) vs = L2.wipe σ vs := (wipe_ext (wipe_length σ2 vs1) fun j hj => wipe_out fun m => hj (sub2 j m)).trans w3
      obtain ⟨θ12, L12⟩ := Lj.skip Stp.refl Lj.S wb off
      exact .inl ⟨p2 (Nat.le_refl _), hlt, accj, _, θ12, Gj, L12, hlj⟩
  · have e : i = s.items.length := by omega
    subst e
    rw [List.drop_length] at hl
    obtain ⟨ok, hl⟩ := hl
    obtain ⟨_, q2, _⟩ := fd s.items.length _ θ' G' H' _ L.st.g L.S gd_wipe ok
    exact .inl ⟨q2 (Nat.le_refl _), L.done S1 s1 off hl⟩
theorem s_lc2 (O : Okx P X) {elt tg iter tg1 iter1 : Expr} {scope : Scope} {own : List (Str × Nat)} {vs1 : List Nat} {pos : Pos} {t t1 : Tg} {k k1 : Ik} {ea ea1 ee : E} (off : Off P (own.map (·.2))) (sub : ∀ i ∈ t.slots, i ∈ own.map (·.2)) (sub1 : ∀ i ∈ t1.slots, i ∈ vs1) (sub2 : ∀ i ∈ vs1, i ∈ own.map (·.2))
    (hi : PI X tg iter (rdI P false k ea)) (ok : BlkOk X.N X.env.scope scope own)
    (hg : ∀ (s : Shared) (H : Hp) (C : Addr) (cl : List (Str × Addr)) (fp : List Addr), PG (X.blk s H scope (compEnvC scope cl C X.env) fp) tg (rdG P t))
    (hi1 : ∀ (s : Shared) (H : Hp) (C : Addr) (cl : List (Str × Addr)) (fp : List Addr), PI (X.blk s H scope (compEnvC scope cl C X.env) fp) tg1 iter1 (rdI P false k1 ea1))
    (hg1 : ∀ (s : Shared) (H : Hp) (C : Addr) (cl : List (Str × Addr)) (fp : List Addr), PG (X.blk s H scope (compEnvC scope cl C X.env) fp) tg1 (rdG P t1))
    (he : ∀ (s : Shared) (H : Hp) (C : Addr) (cl : List (Str × Addr)) (fp : List Addr), PE (X.blk s H scope (compEnvC scope cl C X.env) fp) elt (rdE P ee)) (hs : ∀ x, foldedSetIterable iter X.env x = pure x) (hs1 : ∀ env x, foldedSetIterable iter1 env x = pure x) :
    PE X (.ListComp elt [⟨tg, iter, [], 0⟩, ⟨tg1, iter1, [], 0⟩] scope pos) (rdE P (.lc2 (own.map (·.2)) vs1 t k ea t1 k1 ea1 ee)) :=
  impE (pe_lc2 O.calm O.nd hi ok sub2 hg (fun _ _ _ _ _ => pts_nil) hi1 hg1 (fun _ _ _ _ _ => pts_nil) he hs hs1) fun _ _ _ h => lc2_rd off sub sub1 sub2 h
theorem pts_true : PTs X [] (rdT P (.bl true)) := ⟨fun pins s σ H Q I h => pts_nil.run pins s σ H Q I (by
  obtain ⟨ρ, θ, G, S, h⟩ := h
  obtain ⟨k, e, q⟩ := (show Kt P θ G H σ _ (.dat (.bl true)) ρ from h).dat Stp.refl S Rep.bl
  cases e; exact q)⟩
end
end Cw
/-! Cw: defs with their promises; calls. -/
namespace Cw
open PySem PySem.Spec PyProof.Rows L2

/-- a promise that is only asked where no repr runs -/
structure FnG (Pr : Program) (wd : World) (K : PySem.W.Frag) (mg : Str → Option Value) (base : Heap) (CX : CXT) (k : Nat) (f : Addr) (fd : FuncData) (ps : List Str) (sp : Sp) : Prop where
  len : ∀ vs H Q E, sp vs H Q E → vs.length = ps.length
  go : ∀ (A : Around) (out : List Env) (s : Shared) (H : Hp) (args : Args) (us : List Value) (vs : List V) (Q : VK) (E : XK), Room k A → A.guards = some [] → Env0 Pr wd K mg base A out s H →
    BindsTo s fd args (ps.zip us) → Vals vs us → sp vs H Q E → codeAny (model Pr wd) A (.call (.ref f) args) (CR CX out Pr wd H s Q E) s
theorem FnG.mono {Pr : Program} {wd : World} {K : PySem.W.Frag} {mg : Str → Option Value} {base : Heap} {CX : CXT} {j k : Nat} {f : Addr} {fd : FuncData} {ps : List Str} {sp : Sp} (F : FnG Pr wd K mg base CX j f fd ps sp) (h : j ≤ k) : FnG Pr wd K mg base CX k f fd ps sp :=
  ⟨F.len, fun A out s H args us vs Q E hr => F.go A out s H args us vs Q E (hr.mono h)⟩
theorem FnG.imp {Pr : Program} {wd : World} {K : PySem.W.Frag} {mg : Str → Option Value} {base : Heap} {CX : CXT} {k : Nat} {f : Addr} {fd : FuncData} {ps : List Str} {sp sp' : Sp} (F : FnG Pr wd K mg base CX k f fd ps sp) (h : ∀ vs H Q E, sp' vs H Q E → sp vs H Q E) : FnG Pr wd K mg base CX k f fd ps sp' :=
  ⟨fun vs H Q E q => F.len vs H Q E (h _ _ _ _ q), fun A out s H args us vs Q E hr hg he hb hv hs => F.go A out s H args us vs Q E hr hg he hb hv (h _ _ _ _ hs)⟩
theorem guards_make {A : Around} {C : Addr} {us : List Value} {kw : List (Str × Value)} (h : A.guards = some []) : (A.under (.builtin "type.__call__" ⟨.ref C :: us, kw⟩)).guards = some [] := by
  simp [Around.under, Code.guards, Code.isGuard, pushGuards, guardIds, h]
theorem guards_deeper {A : Around} {env : Env} (h : A.guards = some []) : (A.deeper env).guards = some [] := h

section
variable {X : Cx} {CX : CXT} {k : Nat} {f C : Addr} {fd : FuncData} {ps : List Str} {sp : Sp} {dvs : List V} {ds : List Value} {E : XK}
/-- what becomes of a call's end -/
theorem ends_call {pins : List (Addr × Obj)} {σ : L2.St} {H : Hp} {s : Shared} {Q : VK} {r : Result} {s' : Shared} (hx : Passes CX X E) (I : Inv X pins σ H s) (hq : CR CX X.stack X.prog X.w H s Q E r s') : wants (EP X pins σ Q) X.xe r s' := by
  cases r with
  | error e => exact hx pins σ H s e s' I hq
  | ok fl => cases fl <;> first | exact I.after hq | exact False.elim hq
theorem go_fn {pins : List (Addr × Obj)} {σ : L2.St} {H : Hp} {s : Shared} {Q : VK} {us : List Value} {vs : List V} (F : FnG X.prog X.w X.K X.mg X.base CX k f fd ps sp) (hr : Room k X.A) (hg : X.A.guards = some []) (hb : Binds X.K fd ps ds) (hd : Vals dvs ds) (hx : Passes CX X E)
    (I : Inv X pins σ H s) (r : Vals vs us) (h : sp (vs ++ dvs) H Q E) : wpAny (model X.prog X.w) X.A (call (.ref f) us) (EP X pins σ Q) X.xe s := by
  have both := r.append hd
  have n : (us ++ ds).length = ps.length := both.length.symm.trans (F.len _ _ _ _ h)
  exact wpAny_call (codeAny_mono (F.go X.A X.stack s H ⟨us, []⟩ _ _ Q E hr hg I.env0 (hb s us I.kIn n) both h) fun r s' hq => by
    have z := ends_call hx I hq
    cases r with
    | error e => exact z
    | ok fl => cases fl <;> first | exact z | exact False.elim hq)
theorem g_call {x : Str} {p pos : Pos} {e : Expr} {es : List Expr} {t : TA} (F : FnG X.prog X.w X.K X.mg X.base CX k f fd ps sp) (hr : Room k X.A) (hgu : X.A.guards = some []) (hg : Gl X x) (hm : X.mg x = some (.ref f)) (hk : PySem.W.keepIn X.K (.ref f) = true) (hb : Binds X.K fd ps ds) (hd : Vals dvs ds) (hx : Passes CX X E)
    (ha : PA X (e :: es) t) (hdb : (x == ("__debug__" : Str)) = false) (he : starEach (e :: es) X.env = (false, eval e X.env) :: starEach es X.env) (hpl : (backTo pos (starEach es X.env)).any (·.1) = false) :
    PE X (.Call (.Name x p) (e :: es) [] pos) (tCall sp dvs E t) := ⟨fun pins s σ H Q I h =>
  wpAny_Call_Name_kw (ld_glob I hg hm (PySem.W.callWith_K (h₀ := X.base) I.ok.mod.kin hk (thn (ha.run pos pins s σ H _ I h) fun us s1 ⟨vs, H1, I1, r, q⟩ => ⟨I1.kIn, go_fn F hr hgu hb hd hx I1 r q⟩) he hpl) hdb)⟩
theorem g_call0 {x : Str} {p pos : Pos} (F : FnG X.prog X.w X.K X.mg X.base CX k f fd ps sp) (hr : Room k X.A) (hgu : X.A.guards = some []) (hg : Gl X x) (hm : X.mg x = some (.ref f)) (hk : PySem.W.keepIn X.K (.ref f) = true) (hb : Binds X.K fd ps ds) (hd : Vals dvs ds) (hx : Passes CX X E)
    (hdb : (x == ("__debug__" : Str)) = false) : PE X (.Call (.Name x p) [] [] pos) (tCall sp dvs E tNil) := ⟨fun pins s σ H Q I h =>
  wpAny_Call_Name_kw (ld_glob I hg hm (PySem.W.callWith_K0 I.kIn hk (go_fn (us := []) F hr hgu hb hd hx I .nil h)) hdb)⟩
theorem go_make {pins : List (Addr × Obj)} {σ : L2.St} {H : Hp} {s : Shared} {Q : VK} {us : List Value} {vs : List V} (M : Mk X.K C f) (F : FnG X.prog X.w X.K X.mg X.base CX k f fd ps sp) (hr : Room (k + 1) X.A) (hg : X.A.guards = some []) (hb : Binds X.K fd ps ds) (hd : Vals dvs ds)
    (hx : Passes CX X E) (I : Inv X pins σ H s) (r : Vals vs us) (h : ∀ x dx, H x = none → H dx = none → dx ≠ x → sp (.ref x :: (vs ++ dvs)) (upd (upd H dx (.own x)) x (.ins C dx [])) (fun v H2 => v = .non ∧ Q (.ref x) H2) E) :
    wpAny (model X.prog X.w) X.A (call (.ref C) us) (EP X pins σ Q) X.xe s := by
  let z := s.heap.objs.size
  have q := h (z + 1) z (I.hok.fresh (Nat.le_succ _)) (I.hok.fresh (Nat.le_refl _)) (Nat.ne_of_lt (Nat.lt_succ_self _))
  have J := Inv.made (C := C) I
  have both : Vals (V.ref (z + 1) :: (vs ++ dvs)) (Value.ref (z + 1) :: (us ++ ds)) := Paired.cons rfl (r.append hd)
  have n : (Value.ref (z + 1) :: us ++ ds).length = ps.length := both.length.symm.trans (F.len _ _ _ _ q)
  refine wpAny_call (make_map (f := f) I.kIn M.makes M.init (beq_iff_eq.mp M.fn) (codeAny_mono (F.go _ X.stack _ _ ⟨Value.ref (z + 1) :: us, []⟩ _ _ _ E (hr.make C us []) (guards_make hg) (J.env0.make C us []) (hb _ (Value.ref (z + 1) :: us) J.kIn n) both q) fun r s' hq => ?_))
  have w := ends_call hx J hq
  cases r with
  | error e => exact w
  | ok fl =>
    cases fl with
    | ret u =>
      obtain ⟨v, H', I3, rv, ev, q3⟩ := w
      subst ev
      exact ⟨rv, V.ref (z + 1), H', I3, rfl, q3⟩
    | _ => exact False.elim hq
theorem g_make {x : Str} {p pos : Pos} {e : Expr} {es : List Expr} {t : TA} (M : Mk X.K C f) (F : FnG X.prog X.w X.K X.mg X.base CX k f fd ps sp) (hr : Room (k + 1) X.A) (hgu : X.A.guards = some []) (hg : Gl X x) (hm : X.mg x = some (.ref C)) (hb : Binds X.K fd ps ds) (hd : Vals dvs ds) (hx : Passes CX X E)
    (ha : PA X (e :: es) t) (hdb : (x == ("__debug__" : Str)) = false) (he : starEach (e :: es) X.env = (false, eval e X.env) :: starEach es X.env) (hpl : (backTo pos (starEach es X.env)).any (·.1) = false) :
    PE X (.Call (.Name x p) (e :: es) [] pos) (tMake C sp dvs E t) := ⟨fun pins s σ H Q I h =>
  wpAny_Call_Name_kw (ld_glob I hg hm (PySem.W.callWith_K (h₀ := X.base) I.ok.mod.kin M.kp (thn (ha.run pos pins s σ H _ I h) fun us s1 ⟨vs, H1, I1, r, q⟩ => ⟨I1.kIn, go_make M F hr hgu hb hd hx I1 r q⟩) he hpl) hdb)⟩
theorem g_meth {m : Str} {pos apos : Pos} {o e : Expr} {es : List Expr} {ta : TE} {t : TA} {pl : Sem Bool} (ho : PE X o ta) (c : Cls X.K C) (hm : Meth X.K C m f) (F : FnG X.prog X.w X.K X.mg X.base CX k f fd ps sp) (hr : Room k X.A) (hgu : X.A.guards = some []) (hb : Binds X.K fd ps ds) (hd : Vals dvs ds) (hx : Passes CX X E) (ha : PA X (e :: es) t)
    (hst : starEach (e :: es) X.env = (false, eval e X.env) :: starEach es X.env) (hpl : (backTo pos (starEach es X.env)).any (·.1) = false)
    (ht : eval (.Call (.Attribute o m apos) (e :: es) [] pos) X.env = (do
      let ov ← eval o X.env
      standAt apos.atName
      let (f, first) ← holding [ov] (getMethod ov m pl)
      callWith pos f first (backTo pos (starEach (e :: es) X.env)) (backToKw pos (keywordEach [] X.env)))) :
    PE X (.Call (.Attribute o m apos) (e :: es) [] pos) (tMeth C m sp dvs E ta t) := ⟨fun pins s σ H Q I h =>
  PySem.W.methodCall_KW (pl := pl) (thn (ho.run pins s σ H _ I h) fun u s1 ⟨x, H1, I1, rx, a, dx, fs, ex, ea, l, q⟩ => by
    cases ex
    cases (show u = Value.ref a from rx)
    exact getmeth_ok I1 ea c hm l (PySem.W.callWith_K (first := [.ref a]) (h₀ := X.base) I.ok.mod.kin hm.kp (thn (ha.run pos pins s1 σ H1 _ I1 q) fun us s2 ⟨vs, H2, I2, r, q2⟩ =>
      ⟨I2.kIn, go_fn (us := .ref a :: us) (vs := .ref a :: vs) F hr hgu hb hd hx I2 (.cons rfl r) q2⟩) hst hpl)) ht⟩
theorem g_prop {p g : Addr} {e : Expr} {m : Str} {pos : Pos} {ta : TE} (he : PE X e ta) (c : Cls X.K C) (hp : PropOf X.K C m p g) (F : FnG X.prog X.w X.K X.mg X.base CX k g fd ps sp) (hr : Room (k + 1) X.A) (hgu : X.A.guards = some []) (hb : Binds X.K fd ps ds) (hd : Vals dvs ds) (hx : ∀ e' s', ∀ pins σ H s, Inv X pins σ H s → CX X.stack H s E e' s' → False)
    (hab : attributeBase e m X.env (eval e X.env) = eval e X.env) : PE X (.Attribute e m pos) (tProp C sp dvs E ta) := by
  refine ⟨fun pins s σ H Q I h => attr_of hab (thn (he.run pins s σ H _ I h) fun u s1 ⟨x, H1, I1, rx, a, dx, fs, ex, ea, q⟩ => ?_)⟩
  cases ex
  cases (show u = Value.ref a from rx)
  obtain ⟨mA, O, _, _, _, _⟩ := ins_get I1.hok ea
  obtain ⟨od, J, _⟩ := O.look
  obtain ⟨more, hrec⟩ := hp.rec_
  have I2 := I1.tok (s1.toks + 1)
  have n : ([Value.ref a] ++ ds).length = ps.length := by
    have := F.len _ _ _ _ q
    have e := hd.length
    simp only [List.length_cons, List.cons_append, List.nil_append] at this ⊢
    omega
  have hc : (PySem.W.clsIn X.K C).isSome = true := by
    obtain ⟨cd, hc, _⟩ := PySem.W.any_some c.hd
    rw [hc]; rfl
  refine PySem.W.get_bind I1.kIn J (PySem.W.plainGet_of (c.get m)).1 (PySem.W.findObj_data hc hp.at_ hp.get hp.tak) (PySem.W.plainGet_of (c.get m)).2 (wpAny_call (PySem.W.prop_get (s := { s1 with toks := s1.toks + 1 }) I1.kIn hrec ?_))
  refine codeAny_mono (F.go X.A.in1 X.stack { s1 with toks := s1.toks + 1 } H1 ⟨[.ref a], []⟩ _ (.ref a :: dvs) Q E hr.in1 hgu I2.env0.in1 (hb _ [.ref a] I2.kIn n) (Paired.cons rfl hd) q) fun r s' hq => ?_
  cases r with
  | error er => exact (hx er s' pins σ H1 _ I2 hq).elim
  | ok fl =>
    cases fl with
    | ret u =>
      obtain ⟨v, H', I3, rv, q3⟩ := I2.after hq
      show wpAny _ _ (handedOut u) _ _ _
      rw [PySem.W.handedOut_of (handed_of rv)]
      exact wpAny_pure ⟨v, H', I3, rv, q3⟩
    | _ => exact False.elim hq
end

/-- a def of the text, by its body -/
theorem fnG_of {CX : CXT} {Pr : Program} {wd : World} {K : PySem.W.Frag} {mg : Str → Option Value} {base : Heap} {k : Nat} {f : Addr} {name qual : Str} {params : Arguments} {body : List Stmt} {scope : Scope} {dV kV doc pm cdv ct oc : Value} {an od : Option Addr}
    {osl : Array (Option Value)} {N ps : List Str} {sp : Sp} (lk : K.lookup f = some ⟨oc, od, .func (PySem.W.fnOf name qual params body scope dV kV doc pm an cdv ct), osl⟩) (hcd : PySem.W.codeIn K cdv qual = true) (S : FnScope N ps scope)
    (len : ∀ vs H Q E, sp vs H Q E → vs.length = ps.length)
    (hbody : ∀ (A : Around) (out : List Env) (s : Shared) (H : Hp) (vs : List V) (Q : VK) (E : XK), Room k (A.deeper (envOfC qual scope s.heap.objs.size f cdv)) → A.guards = some [] → Env0 Pr wd K mg base A out s H → sp vs H Q E →
      ∃ t, PSs (cxOf CX Pr wd K mg base N qual scope f cdv A out s H E) body t ∧ t { nx := fun _ H' => Q .non H', rt := Q } (start N vs) H) :
    FnG Pr wd K mg base CX (k + 1) f (PySem.W.fnOf name qual params body scope dV kV doc pm an cdv ct) ps sp := by
  refine ⟨len, fun A out s H args us vs Q E hr hg e0 hb r hsp => ?_⟩
  have kept : ∀ b o, base.get? b = some o → s.heap.get? b = some o := fun b o e => (e0.bs b o e).1
  have kx : K.In s.heap := e0.mod.kin.keeps kept
  refine codeAny_call_function hr.depth (kx _ _ lk) rfl S.co S.gen rfl (PySem.W.codeRec_of kx hcd) (hb _ _ _ _ (wpAny_newFunctionEnv_cells S.kind (fun ⟨n, v⟩ hy => ?_) fun env he s1 x => ?_))
  · rcases S.par n (List.of_mem_zip hy).1 with q | q
    · exact Or.inl q
    · exact Or.inr ⟨q, PySem.W.cellsFrom_some _ _ _ (Or.inl q)⟩
  subst he
  obtain ⟨t, ht, hq⟩ := hbody A out s H vs Q E (hr.deeper _) hg e0 hsp
  refine ⟨(e0.mod.nolimit.keeps kept).keeps x.toInCall.keep, codeAny_func (wpAny_mono (ht.run [] s1 (start N vs) H _ (inv_start S hr.hd e0 (len _ _ _ _ hsp) r x) hq) (fun fl s' hs => ?_) fun e s' hs => hs)⟩
  cases fl with
  | ret u =>
    obtain ⟨v, σ', H', J, rv, q⟩ := hs
    exact ⟨v, H', J.os, J.bare, J.base, J.hok, rv, q⟩
  | next =>
    obtain ⟨σ', H', J, q⟩ := hs
    exact ⟨V.non, H', J.os, J.bare, J.base, J.hok, rfl, q⟩
  | brk =>
    obtain ⟨_, _, _, q⟩ := hs
    exact q.elim
  | cont =>
    obtain ⟨_, _, _, q⟩ := hs
    exact q.elim
end Cw
/-! Cw: statements. -/
namespace Cw
open PySem PySem.Spec PyProof.Rows L2

/-! ### monotony -/
structure En.le (D E : En) : Prop where
  nx : ∀ ρ, D.nx ρ → E.nx ρ
  rt : ∀ w ρ, D.rt w ρ → E.rt w ρ
  bk : ∀ ρ, D.bk ρ → E.bk ρ
  ct : ∀ ρ, D.ct ρ → E.ct ρ
theorem En.le.refl (D : En) : D.le D := ⟨fun _ h => h, fun _ _ h => h, fun _ h => h, fun _ h => h⟩
theorem putAll_mono : ∀ {is : List Nat} {ws : List W} {ρ : Ro} {Q Q' : Ro → Prop}, (∀ ρ, Q ρ → Q' ρ) → putAll is ws ρ Q → putAll is ws ρ Q'
  | [], [], ρ, Q, Q', h, x => h _ x
  | i :: is, w :: ws, ρ, Q, Q', h, x => by
    cases w with
    | own t => exact putAll_mono (is := is) (ws := ws) (fun ρ q => h _ q) x
    | dat d => exact putAll_mono (is := is) (ws := ws) (fun ρ q => h _ q) x
    | brw j => exact frz_mono (fun d ρ q => putAll_mono (is := is) (ws := ws) (fun ρ q => h _ q) q) x
    | br2 j k => exact frz_mono (fun d ρ q => putAll_mono (is := is) (ws := ws) (fun ρ q => h _ q) q) x
  | [], _ :: _, _, _, _, _, x => x.elim
  | _ :: _, [], _, _, _, _, x => x.elim
theorem fors_mono {turn : D → Ro → En → Prop} (ht : ∀ d ρ D E, En.le D E → turn d ρ D → turn d ρ E) {Z Z' : En} (hz : Z.le Z') : ∀ {ds : List D} {ρ : Ro}, fors turn Z ds ρ → fors turn Z' ds ρ
  | [], ρ, x => hz.nx _ x
  | d :: ds, ρ, x => ht d ρ { nx := fors turn Z ds, ct := fors turn Z ds, bk := Z.nx, rt := Z.rt } { nx := fors turn Z' ds, ct := fors turn Z' ds, bk := Z'.nx, rt := Z'.rt } ⟨fun _ y => fors_mono ht hz y, hz.rt, hz.nx, fun _ y => fors_mono ht hz y⟩ x
theorem whls_mono {c : Ro → (Bool → Ro → Prop) → Prop} (hc : ∀ ρ Q Q', (∀ b ρ, Q b ρ → Q' b ρ) → c ρ Q → c ρ Q') {body : Ro → En → Prop} (hb : ∀ ρ D E, En.le D E → body ρ D → body ρ E) {Z Z' : En} (hz : Z.le Z') : ∀ {n : Nat} {ρ : Ro}, whls c body Z n ρ → whls c body Z' n ρ
  | 0, ρ, x => x.elim
  | n + 1, ρ, x => hc _ _ _ (fun b ρ y => by
      cases b with
      | true => exact hb ρ { nx := whls c body Z n, ct := whls c body Z n, bk := Z.nx, rt := Z.rt } { nx := whls c body Z' n, ct := whls c body Z' n, bk := Z'.nx, rt := Z'.rt } ⟨fun _ y => whls_mono hc hb hz y, hz.rt, hz.nx, fun _ y => whls_mono hc hb hz y⟩ y
      | false => exact hz.nx _ y) x
theorem wS_mono : ∀ (s : Sm) {D E : En} {ρ : Ro}, D.le E → wS s D ρ → wS s E ρ
  | .asg t e, D, E, ρ, h, x => by
    unfold wS at x ⊢
    refine wE_mono e _ _ _ (fun w ρ1 y => ?_) x
    cases t with
    | nm i => exact putAll_mono h.nx y
    | tp r => exact frz_mono (fun _ _ z => take_mono h.nx z) y
    | nil => exact frz_mono (fun _ _ z => take_mono h.nx z) y
    | cons t r => exact frz_mono (fun _ _ z => take_mono h.nx z) y
  | .pars is as, D, E, ρ, h, x => by
    unfold wS at x ⊢
    exact wA_mono as _ _ _ (fun _ _ y => putAll_mono h.nx y) x
  | .setl i a e, D, E, ρ, h, x => by
    unfold wS at x ⊢
    exact wE_mono e _ _ _ (fun _ _ y => frz_mono (fun _ _ z => ⟨z.1, wE_mono a _ _ _ (fun _ _ ⟨ds, k, e1, e2, e3, q⟩ => ⟨ds, k, e1, e2, e3, h.nx _ q⟩) z.2⟩) y) x
  | .setd i a e, D, E, ρ, h, x => by
    unfold wS at x ⊢
    refine wE_mono e _ _ _ (fun _ _ y => frz_mono (fun _ _ z => ⟨z.1, wE_mono a _ _ _ (fun _ _ z => frz_mono (fun _ _ z => ?_) z) z.2⟩) y) x
    rcases z with ⟨ks, ds, k, e1, e2, e3, q⟩ | ⟨ks, ds, k, e1, e2, e3, q⟩
    · exact .inl ⟨ks, ds, k, e1, e2, e3, h.nx _ q⟩
    · exact .inr ⟨ks, ds, k, e1, e2, e3, h.nx _ q⟩
  | .seta i op a e, D, E, ρ, h, x => by
    unfold wS at x ⊢
    refine wE_mono a _ _ _ (fun _ _ ⟨ds, k, d, e1, e2, e3, y⟩ => ⟨ds, k, d, e1, e2, e3, wE_mono e _ _ _ (fun _ _ ⟨e4, a, b, e5, e6, q⟩ => ⟨e4, a, b, e5, e6, ?_⟩) y⟩) x
    cases op <;> first | exact h.nx _ q | exact q
  | .aug i op e, D, E, ρ, h, x => by
    unfold wS at x ⊢
    obtain ⟨a, e1, x⟩ := x
    refine ⟨a, e1, wE_mono e _ _ _ (fun _ _ ⟨b, e2, q⟩ => ⟨b, e2, ?_⟩) x⟩
    cases op <;> first | exact h.nx _ q | exact q
  | .app i e, D, E, ρ, h, x => by
    unfold wS at x ⊢
    exact ⟨x.1, wE_mono e _ _ _ (fun _ _ y => frz_mono (fun _ _ ⟨ds, e1, e2, q⟩ => ⟨ds, e1, e2, h.nx _ q⟩) y) x.2⟩
  | .app2 i a e, D, E, ρ, h, x => by
    unfold wS at x ⊢
    refine wE_mono (.idx (.var i) a) _ _ _ (fun _ _ y => ?_) x
    obtain ⟨k, e1, e0, y⟩ := y
    exact ⟨k, e1, e0, wE_mono e _ _ _ (fun _ _ y => frz_mono (fun _ _ ⟨dss, ds, e1, e2, e3, q⟩ => ⟨dss, ds, e1, e2, e3, h.nx _ q⟩) y) y⟩
  | .ext i e, D, E, ρ, h, x => by
    unfold wS at x ⊢
    exact ⟨x.1, wE_mono e _ _ _ (fun _ _ ⟨u, ds, es, e1, e2, e3, e4, q⟩ => ⟨u, ds, es, e1, e2, e3, e4, h.nx _ q⟩) x.2⟩
  | .clr i, D, E, ρ, h, x => by
    unfold wS at x ⊢
    obtain ⟨ds, e, q⟩ := x
    exact ⟨ds, e, h.nx _ q⟩
  | .rev i, D, E, ρ, h, x => by
    unfold wS at x ⊢
    obtain ⟨ds, e, q⟩ := x
    exact ⟨ds, e, h.nx _ q⟩
  | .drop e, D, E, ρ, h, x => by
    unfold wS at x ⊢
    exact wE_mono e _ _ _ (fun _ _ y => h.nx _ y) x
  | .appT e a, D, E, ρ, h, x => by
    unfold wS at x ⊢
    exact wE_mono e _ _ _ (fun _ _ ⟨ds, e1, e2, y⟩ => ⟨ds, e1, e2, wE_mono a _ _ _ (fun _ _ z => frz_mono (fun _ _ q => h.nx _ q) z) y⟩) x
  | .revT e, D, E, ρ, h, x => by
    unfold wS at x ⊢
    exact wE_mono e _ _ _ (fun _ _ ⟨ds, e1, y⟩ => ⟨ds, e1, h.nx _ y⟩) x
  | .ite c a b, D, E, ρ, h, x => by
    unfold wS at x ⊢
    exact wE_mono c _ _ _ (fun _ _ ⟨k, e, y⟩ => ⟨k, e, if_mono (fun q => wS_mono a h q) (fun q => wS_mono b h q) y⟩) x
  | .whl c b, D, E, ρ, h, x => by
    unfold wS at x ⊢
    obtain ⟨n, x⟩ := x
    refine ⟨n, whls_mono (c := fun ρ1 Q => wE c ρ1 fun v ρ2 => ∃ k, v = .dat (.bl k) ∧ Q k ρ2) (body := fun ρ1 D1 => wS b D1 ρ1) (fun ρ Q Q' k y => ?_) (fun ρ D E k y => wS_mono b k y) h x⟩
    exact wE_mono c _ _ _ (fun _ _ ⟨j, e, z⟩ => ⟨j, e, k _ _ z⟩) y
  | .for t k as body, D, E, ρ, h, x => by
    unfold wS at x ⊢
    exact wA_mono as _ _ _ (fun _ _ y => walkZ_mono (fun s _ z => ⟨z.1, fors_mono (turn := fun d ρ3 D1 => take t d ρ3 fun ρ4 => wS body D1 ρ4) (fun d ρ D E k y => take_mono (fun _ q => wS_mono body k q) y) h z.2⟩) y) x
  | .ret e, D, E, ρ, h, x => by unfold wS at x ⊢; exact wE_mono e _ _ _ h.rt x
  | .retN, D, E, ρ, h, x => by unfold wS at x ⊢; exact h.rt _ _ x
  | .brk, D, E, ρ, h, x => by unfold wS at x ⊢; exact h.bk _ x
  | .cont, D, E, ρ, h, x => by unfold wS at x ⊢; exact h.ct _ x
  | .pass, D, E, ρ, h, x => by unfold wS at x ⊢; exact h.nx _ x
  | .never, D, E, ρ, h, x => by unfold wS at x; exact x.elim
  | .nil, D, E, ρ, h, x => by unfold wS at x ⊢; exact h.nx _ x
  | .cons a r, D, E, ρ, h, x => by
    unfold wS at x ⊢
    exact wS_mono a (D := { D with nx := fun ρ1 => wS r D ρ1 }) (E := { E with nx := fun ρ1 => wS r E ρ1 }) ⟨fun _ y => wS_mono r h y, h.rt, h.bk, h.ct⟩ x

/-! ### stores -/
def sets (σ : L2.St) : List Nat → List V → L2.St
  | i :: is, v :: vs => (sets σ is vs).set i (some v)
  | _, _ => σ
theorem sets_len (σ : L2.St) : ∀ (is : List Nat) (vs : List V), (sets σ is vs).length = σ.length
  | [], vs => by unfold sets; rfl
  | i :: is, [] => by unfold sets; rfl
  | i :: is, v :: vs => by unfold sets; rw [List.length_set, sets_len]
section
variable {P : Par} {H : Hp} {σ : List (Option V)}
/-- a name takes a new object -/
theorem Sim.putO {ρ : Ro} {θ : Nat → List Addr} {G : Hp} {t : Ot} {v : V} {qs rest : List Addr} (S : Sim P ρ θ G σ H) {i : Nat} (hi : i < σ.length) (hf : ∀ v, P.fx[i]? ≠ some (some v)) (r : RepW P θ G σ H v qs (.own t)) (f : Fr P θ G (qs ++ rest)) :
    Sim P (ρ.set i (some (.own t))) (tset θ i qs) G (σ.set i (some v)) H ∧ Fr P (tset θ i qs) G rest := by
  obtain ⟨p, r', e1, e2, ho⟩ := r
  have S1 := (S.forget i).slot (o := some v) (slOf_self (by rw [S.ln]; exact hi)) hf
  have S2 := S1.add (i := i) (x := .own t) (v := v) (qs := qs) (by rw [List.length_set, S.ln]; exact hi) tset_same (List.getElem?_set_self hi) ⟨p, r', e1, e2, ho⟩ f.left.1 (fun a ha => (f.left.2 a ha).1) (fun a ha => .inl (f.left.2 a ha).2.1) fun j a ha m => (f.left.2 a ha).2.2 j (mem_tset_nil m).2
  rw [List.set_set] at S2
  have e : tset (tset θ i []) i qs = tset θ i qs := by
    funext j
    by_cases hj : j = i
    · subst hj; rw [tset_same, tset_same]
    · rw [tset_ne hj, tset_ne hj, tset_ne hj]
  rw [e] at S2
  refine ⟨S2, f.right.1, fun a ha => ?_⟩
  obtain ⟨g, h0, n⟩ := f.right.2 a ha
  refine ⟨g, h0, fun j m => ?_⟩
  by_cases hj : j = i
  · subst hj
    rw [tset_same] at m
    exact (List.nodup_append.mp f.1).2.2 a m a ha rfl
  · rw [tset_ne hj] at m; exact n j m
theorem Fr.forget {θ : Nat → List Addr} {G : Hp} {rest : List Addr} {i : Nat} (f : Fr P θ G rest) : Fr P (tset θ i []) G rest := ⟨f.1, fun a ha => ⟨(f.2 a ha).1, (f.2 a ha).2.1, fun j m => (f.2 a ha).2.2 j (mem_tset_nil m).2⟩⟩
theorem putAll_ok : ∀ {is : List Nat} {ws : List W} {vs : List V} {qss : List (List Addr)} {ρ : Ro} {θ : Nat → List Addr} {G : Hp} {rest : List Addr} {Q : Ro → Prop}, Sim P ρ θ G σ H → RepWs P θ G σ H vs qss ws → Fr P θ G (qss.flatten ++ rest) → (∀ i ∈ is, i < σ.length) → Off P is → putAll is ws ρ Q →
    ∃ ρ' θ' G', Q ρ' ∧ Sim P ρ' θ' G' (sets σ is vs) H ∧ Ex G G' ∧ Fr P θ' G' rest ∧ vs.length = is.length
  | [], [], vs, qss, ρ, θ, G, rest, Q, S, r, f, hi, hf, h => by
    cases vs with
    | nil =>
      cases qss with
      | nil => exact ⟨ρ, θ, G, h, S, Ex.refl _, f.right, rfl⟩
      | cons _ _ => exact r.elim
    | cons _ _ => cases qss <;> cases r
  | [], _ :: _, _, _, _, _, _, _, _, _, _, _, _, _, h => h.elim
  | _ :: _, [], _, _, _, _, _, _, _, _, _, _, _, _, h => h.elim
  | i :: is, w :: ws, vs, qss, ρ, θ, G, rest, Q, S, r, f, hi, hf, h => by
    cases vs with
    | nil => cases qss <;> exact r.elim
    | cons v vs =>
      cases qss with
      | nil => cases r
      | cons qs qss =>
        have hi' : ∀ j ∈ is, j < σ.length := fun j m => hi j (List.mem_cons_of_mem _ m)
        have hf' : Off P is := fun j m => hf j (List.mem_cons_of_mem _ m)
        rw [List.flatten_cons] at f
        have hin : i < (sets σ is vs).length := by rw [sets_len]; exact hi i List.mem_cons_self
        have dat : ∀ {w : W}, RepW P θ G σ H v qs w → frz w ρ (fun d ρ1 => putAll is ws ρ1 fun ρ' => Q (ρ'.set i (some (.dat d)))) → ∃ ρ' θ' G', Q ρ' ∧ Sim P ρ' θ' G' (sets σ (i :: is) (v :: vs)) H ∧ Ex G G' ∧ Fr P θ' G' rest ∧ (v :: vs).length = (i :: is).length := fun {w} rw h => by
          rw [List.append_assoc] at f
          obtain ⟨d, ρ1, θ1, G1, h1, S1, r1, e1, t1, g1, f1⟩ := frz_ok S rw f h
          obtain ⟨ρ2, θ2, G2, h2, S2, e2, f2, l2⟩ := putAll_ok S1 (RepWs.imm e1 t1 r.2) f1 hi' hf' h1
          exact ⟨_, tset θ2 i [], G2, h2, S2.put hin (hf.no List.mem_cons_self) (Rep.mono e2 _ _ r1), e1.trans e2, f2.forget, by simp [l2]⟩
        cases w with
        | own t =>
          have pm : ((qs ++ qss.flatten) ++ rest).Perm (qss.flatten ++ (qs ++ rest)) := by
            rw [← List.append_assoc]
            exact List.perm_append_comm.append_right rest
          obtain ⟨ρ2, θ2, G2, h2, S2, e2, f2, l2⟩ := putAll_ok S r.2 (f.perm pm) hi' hf' h
          obtain ⟨p, r', e3, e4, ho⟩ := r.1
          obtain ⟨S3, f3⟩ := S2.putO hin (hf.no List.mem_cons_self) (v := v) ⟨p, r', e3, e4, ho.stay e2 fun _ _ _ q => q⟩ f2
          exact ⟨_, _, G2, h2, S3, e2, f3, by simp [l2]⟩
        | dat d => exact dat r.1 h
        | brw j => exact dat r.1 h
        | br2 j k => exact dat r.1 h
end
end Cw
/-! Cw: the rules of statements. -/
namespace Cw
open PySem PySem.Spec PyProof.Rows L2

/-- a body's wish, over data -/
def enD (P : Par) (G : Hp) (D : Ends) : En where
  nx ρ' := ∀ θ' G' σ' H', Ex G G' → Sim P ρ' θ' G' σ' H' → D.nx σ' H'
  bk ρ' := ∀ θ' G' σ' H', Ex G G' → Sim P ρ' θ' G' σ' H' → D.bk σ' H'
  ct ρ' := ∀ θ' G' σ' H', Ex G G' → Sim P ρ' θ' G' σ' H' → D.ct σ' H'
  rt w ρ' := ∀ v qs θ' G' σ' H', Ex G G' → Sim P ρ' θ' G' σ' H' → RepW P θ' G' σ' H' v qs w → Fr P θ' G' qs → D.rt v H'
def rdS (P : Par) (s : Sm) : TS := fun D σ H => ∃ ρ θ G, Sim P ρ θ G σ H ∧ wS s (enD P G D) ρ
section
variable {P : Par} {X : Cx} {D : Ends}
theorem enD.le {G G' : Hp} (e : Ex G G') : (enD P G D).le (enD P G' D) :=
  ⟨fun _ h θ' G1 σ' H' e1 => h θ' G1 σ' H' (e.trans e1), fun _ _ h v qs θ' G1 σ' H' e1 => h v qs θ' G1 σ' H' (e.trans e1), fun _ h θ' G1 σ' H' e1 => h θ' G1 σ' H' (e.trans e1), fun _ h θ' G1 σ' H' e1 => h θ' G1 σ' H' (e.trans e1)⟩
theorem rdS_of {s : Sm} {ρ : Ro} {θ : Nat → List Addr} {G G0 H : Hp} {σ : List (Option V)} (S : Sim P ρ θ G σ H) (e : Ex G0 G) (h : wS s (enD P G0 D) ρ) : rdS P s D σ H := ⟨ρ, θ, G, S, wS_mono s (enD.le e) h⟩
theorem impSI {st : Stmt} {t t' : TS} (h : PS X st t) (k : ∀ D σ H, σ.length = X.N.length → t' D σ H → t D σ H) : PS X st t' := ⟨fun pins s σ H D I q => h.run pins s σ H D I (k D σ H I.len q)⟩
theorem ss_nil : PSs X [] (rdS P .nil) := impSs pss_nil fun D σ H ⟨ρ, θ, G, S, h⟩ => by
  unfold wS at h
  exact h θ G σ H (Ex.refl G) S
theorem ss_cons {st : Stmt} {rest : List Stmt} {a r : Sm} (h1 : PS X st (rdS P a)) (h2 : PSs X rest (rdS P r)) : PSs X (st :: rest) (rdS P (.cons a r)) := impSs (pss_cons h1 h2) fun D σ H ⟨ρ, θ, G, S, h⟩ => by
  unfold wS at h
  refine ⟨ρ, θ, G, S, wS_mono a (D := { enD P G D with nx := fun ρ1 => wS r (enD P G D) ρ1 }) ⟨fun ρ1 y θ' G' σ' H' e S' => rdS_of S' e y, fun _ _ y => y, fun _ y => y, fun _ y => y⟩ h⟩
variable {pos : Pos} {a b c e : Expr} {ea eb ec ee : E}
theorem ss_pass : PS X (.Pass pos) (rdS P .pass) := impS ps_pass fun D σ H ⟨ρ, θ, G, S, h⟩ => by
  unfold wS at h
  exact h θ G σ H (Ex.refl G) S
theorem ss_brk : PS X (.Break pos) (rdS P .brk) := impS ps_break fun D σ H ⟨ρ, θ, G, S, h⟩ => by
  unfold wS at h
  exact h θ G σ H (Ex.refl G) S
theorem ss_cont : PS X (.Continue pos) (rdS P .cont) := impS ps_continue fun D σ H ⟨ρ, θ, G, S, h⟩ => by
  unfold wS at h
  exact h θ G σ H (Ex.refl G) S
theorem ss_never {st : Stmt} : PS X st (rdS P .never) := impS ps_never fun D σ H ⟨ρ, θ, G, S, h⟩ => by
  unfold wS at h
  exact h
theorem ss_ret (he : PE X e (rdE P ee)) : PS X (.Return (some e) pos) (rdS P (.ret ee)) := impS (ps_ret he) fun D σ H ⟨ρ, θ, G, S, h⟩ => by
  unfold wS at h
  exact rd_of S h fun w ρ1 v qs θ1 G1 H1 h1 s1 S1 r1 f1 n1 => h1 v qs θ1 G1 σ H1 s1.g S1 r1 f1
theorem ss_retN : PS X (.Return none pos) (rdS P .retN) := impS ps_retN fun D σ H ⟨ρ, θ, G, S, h⟩ => by
  unfold wS at h
  exact h .non [] θ G σ H (Ex.refl G) S ⟨rfl, Rep.non⟩ Fr.nil
theorem ss_if {p q : List Stmt} {sa sb : Sm} (hc : PT X c (rdT P ec)) (ha : PSs X p (rdS P sa)) (hb : PSs X q (rdS P sb)) : PS X (.If c p q pos) (rdS P (.ite ec sa sb)) := impS (ps_if hc ha hb) fun D σ H ⟨ρ, θ, G, S, h⟩ => by
  unfold wS at h
  refine rdT_of S h fun v ρ1 x qs θ1 G1 H1 ⟨k, e, q⟩ s1 S1 r1 f1 n1 => ?_
  subst e
  obtain rfl := Rep.bl_inv (T := P.T) (G := G1) r1.2
  refine ⟨k, rfl, ?_⟩
  cases k with
  | true => exact rdS_of S1 s1.g q
  | false => exact rdS_of S1 s1.g q
theorem ss_drop (he : PE X e (rdE P ee)) (hs : swapsWith e none pos.line X.env = pure false) : PS X (.Expr e pos) (rdS P (.drop ee)) := impS (ps_expr he hs) fun D σ H ⟨ρ, θ, G, S, h⟩ => by
  unfold wS at h
  exact rd_of S h fun w ρ1 v qs θ1 G1 H1 h1 s1 S1 r1 f1 n1 => h1 θ1 G1 σ H1 s1.g S1
/-! stores -/
theorem asg_rd {i : Nat} {σ : L2.St} {H : Hp} (hi : i < σ.length) (off : Off P [i]) (h : rdS P (.asg (.nm i) ee) D σ H) : tAsg (rdE P ee) (gName i) D σ H := by
  obtain ⟨ρ, θ, G, S, h⟩ := h
  unfold wS at h
  refine rd_of S h fun w ρ1 v qs θ1 G1 H1 h1 s1 S1 r1 f1 n1 => ?_
  obtain ⟨ρ2, θ2, G2, h2, S2, e2, _, _⟩ := putAll_ok (rest := []) (ws := [w]) (vs := [v]) (qss := [qs]) S1 ⟨r1, trivial⟩ (by simpa using f1) (fun j m => by
    have e : j = i := by simpa using m
    subst e; exact hi) off h1
  exact h2 θ2 G2 _ H1 (s1.g.trans e2) S2
theorem ss_set {i : Nat} {x : Str} {pos' : Pos} (O : Okx P X) (hi : X.N[i]? = some x) (hx : L2.Loc X.env.scope x) (hf : X.fn x = true ∨ X.env.scope.names.lookup x = some .local) (he : PE X e (rdE P ee)) (hs : swapsWith e (some (.Name x pos')) pos.line X.env = pure false) (off : Off P [i]) : PS X (.Assign [.Name x pos'] e pos) (rdS P (.asg (.nm i) ee)) :=
  impSI (ps_set O.nd hi hx he hs hf) fun D σ H l h => asg_rd (by rw [l]; exact (List.getElem?_eq_some_iff.mp hi).1) off h
theorem ss_setLc {i : Nat} {y : Str} {py : Pos} {elt tg iter : Expr} {ifs : List Expr} {scope : Scope} {own : List (Str × Nat)} {spos : Pos} {t : Tg} {k : Ik} (O : Okx P X) (hy : X.N[i]? = some y) (hyl : X.env.scope.names.lookup y = some .local)
    (hsw : swapsWith (.ListComp elt [⟨tg, iter, ifs, 0⟩] scope pos) (some (.Name y py)) spos.line X.env = pure true) (offi : Off P [i]) (off : Off P (own.map (·.2))) (sub : ∀ i ∈ t.slots, i ∈ own.map (·.2)) (hi : PI X tg iter (rdI P false k ea)) (ok : BlkOk X.N X.env.scope scope own)
    (hg : ∀ (s : Shared) (H : Hp) (C : Addr) (cl : List (Str × Addr)) (fp : List Addr), PG (X.blk s H scope (compEnvC scope cl C X.env) fp) tg (rdG P t)) (ht : ∀ (s : Shared) (H : Hp) (C : Addr) (cl : List (Str × Addr)) (fp : List Addr), PTs (X.blk s H scope (compEnvC scope cl C X.env) fp) ifs (rdT P ec))
    (he : ∀ (s : Shared) (H : Hp) (C : Addr) (cl : List (Str × Addr)) (fp : List Addr), PE (X.blk s H scope (compEnvC scope cl C X.env) fp) elt (rdE P ee)) (hs : ∀ x, foldedSetIterable iter X.env x = pure x) :
    PS X (.Assign [.Name y py] (.ListComp elt [⟨tg, iter, ifs, 0⟩] scope pos) spos) (rdS P (.asg (.nm i) (.lc (own.map (·.2)) t k ea ec ee))) :=
  impSI (ps_setLc O.calm O.nd hy hyl hsw hi ok hg ht he hs) fun D σ H l h => lc_rd off sub (asg_rd (by rw [l]; exact (List.getElem?_eq_some_iff.mp hy).1) offi h)
theorem ss_setLc2 {i : Nat} {y : Str} {py : Pos} {elt tg iter tg1 iter1 : Expr} {scope : Scope} {own : List (Str × Nat)} {vs1 : List Nat} {spos : Pos} {t t1 : Tg} {k k1 : Ik} {ea1 : E} (O : Okx P X) (hy : X.N[i]? = some y) (hyl : X.env.scope.names.lookup y = some .local)
    (hsw : swapsWith (.ListComp elt [⟨tg, iter, [], 0⟩, ⟨tg1, iter1, [], 0⟩] scope pos) (some (.Name y py)) spos.line X.env = pure true) (offi : Off P [i]) (off : Off P (own.map (·.2))) (sub : ∀ i ∈ t.slots, i ∈ own.map (·.2)) (sub1 : ∀ i ∈ t1.slots, i ∈ vs1) (sub2 : ∀ i ∈ vs1, i ∈ own.map (·.2)) (hi : PI X tg iter (rdI P false k ea)) (ok : BlkOk X.N X.env.scope scope own)
    (hg : ∀ (s : Shared) (H : Hp) (C : Addr) (cl : List (Str × Addr)) (fp : List Addr), PG (X.blk s H scope (compEnvC scope cl C X.env) fp) tg (rdG P t))
    (hi1 : ∀ (s : Shared) (H : Hp) (C : Addr) (cl : List (Str × Addr)) (fp : List Addr), PI (X.blk s H scope (compEnvC scope cl C X.env) fp) tg1 iter1 (rdI P false k1 ea1))
    (hg1 : ∀ (s : Shared) (H : Hp) (C : Addr) (cl : List (Str × Addr)) (fp : List Addr), PG (X.blk s H scope (compEnvC scope cl C X.env) fp) tg1 (rdG P t1))
    (he : ∀ (s : Shared) (H : Hp) (C : Addr) (cl : List (Str × Addr)) (fp : List Addr), PE (X.blk s H scope (compEnvC scope cl C X.env) fp) elt (rdE P ee)) (hs : ∀ x, foldedSetIterable iter X.env x = pure x) (hs1 : ∀ env x, foldedSetIterable iter1 env x = pure x) :
    PS X (.Assign [.Name y py] (.ListComp elt [⟨tg, iter, [], 0⟩, ⟨tg1, iter1, [], 0⟩] scope pos) spos) (rdS P (.asg (.nm i) (.lc2 (own.map (·.2)) vs1 t k ea t1 k1 ea1 ee))) :=
  impSI (ps_setLc2 O.calm O.nd hy hyl hsw hi ok sub2 hg (fun _ _ _ _ _ => pts_nil) hi1 hg1 (fun _ _ _ _ _ => pts_nil) he hs hs1) fun D σ H l h => lc2_rd off sub sub1 sub2 (asg_rd (by rw [l]; exact (List.getElem?_eq_some_iff.mp hy).1) offi h)
theorem ss_tup {tg : Expr} {r : Tg} (O : Okx P X) (he : PE X e (rdE P ee)) (hg : PG X tg (rdG P (.tp r))) (off : Off P (Tg.tp r).slots) (hs : swapsWithSole [tg] e pos.line X.env = pure false) (hw : swappedStores [tg] e X.env = pure none) (h1 : (assignEach [tg] X.env).map (·.2) = [assign tg X.env]) :
    PS X (.Assign [tg] e pos) (rdS P (.asg (.tp r) ee)) := impS (ps_asg he hg hs hw h1) fun D σ H ⟨ρ, θ, G, S, h⟩ => by
  unfold wS at h
  refine rd_of S h fun w ρ1 v qs θ1 G1 H1 h1 s1 S1 r1 f1 n1 => ?_
  obtain ⟨d, ρ2, θ2, G2, h2, S2, r2, e2, t2, g2, _⟩ := frz_ok (rest := []) S1 r1 (by rw [List.append_nil]; exact f1) h1
  refine ⟨ρ2, θ2, G2, d, S2, r2, off, take_mono (fun ρ3 k σ' θ' S' t' f' l' => ?_) h2⟩
  exact k θ' G2 σ' H1 (s1.g.trans e2) S'
theorem ss_par {i j : Nat} {x y : Str} {px py pt : Pos} {kt k2 : Nat} {pt2 : Pos} (O : Okx P X) (hi : X.N[i]? = some x) (hj : X.N[j]? = some y) (hij : i ≠ j) (hx : X.env.scope.names.lookup x = some .local) (hy : X.env.scope.names.lookup y = some .local) (ha : PA X [a, b] (rdA P ea))
    (hw : swappedStores [.Tuple [.Name x px, .Name y py] kt pt] (.Tuple [a, b] k2 pt2) X.env = pure (some [x, y])) (hs : swapsWithSole [.Tuple [.Name x px, .Name y py] kt pt] (.Tuple [a, b] k2 pt2) pos.line X.env = pure false) (off : Off P [i, j]) :
    PS X (.Assign [.Tuple [.Name x px, .Name y py] kt pt] (.Tuple [a, b] k2 pt2) pos) (rdS P (.pars [i, j] ea)) := impSI (ps_par O.calm O.nd hi hj hij hx hy ha hw hs) fun D σ H l ⟨ρ, θ, G, S, h⟩ => by
  unfold wS at h
  refine rdA_of S h fun ws ρ1 vs qss θ1 G1 H1 h1 s1 S1 r1 f1 n1 => ?_
  obtain ⟨ρ2, θ2, G2, h2, S2, e2, _, l2⟩ := putAll_ok (rest := []) S1 r1 (by simpa using f1) (fun m hm => by
    rw [l]
    rcases List.mem_cons.mp hm with rfl | hm
    · exact (List.getElem?_eq_some_iff.mp hi).1
    · have e : m = j := by simpa using hm
      subst e; exact (List.getElem?_eq_some_iff.mp hj).1) off h1
  match vs, l2 with
  | [v, w], _ =>
    refine ⟨v, w, rfl, ?_⟩
    have k := h2 θ2 G2 _ H1 (s1.g.trans e2) S2
    have e : sets σ [i, j] [v, w] = (σ.set i (some v)).set j (some w) := by
      show (σ.set j (some w)).set i (some v) = _
      rw [List.set_comm _ _ hij]
    rw [e] at k
    exact k
theorem ss_par3 {i j l : Nat} {x y z : Str} {px py pz pt : Pos} {kt k2 : Nat} {pt2 : Pos} (O : Okx P X) (hi : X.N[i]? = some x) (hj : X.N[j]? = some y) (hl : X.N[l]? = some z) (hij : i ≠ j) (hil : i ≠ l) (hjl : j ≠ l) (hx : X.env.scope.names.lookup x = some .local) (hy : X.env.scope.names.lookup y = some .local) (hz : X.env.scope.names.lookup z = some .local) (ha : PA X [a, b, c] (rdA P ea))
    (hw : swappedStores [.Tuple [.Name x px, .Name y py, .Name z pz] kt pt] (.Tuple [a, b, c] k2 pt2) X.env = pure (some [x, y, z])) (hs : swapsWithSole [.Tuple [.Name x px, .Name y py, .Name z pz] kt pt] (.Tuple [a, b, c] k2 pt2) pos.line X.env = pure false) (off : Off P [i, j, l]) :
    PS X (.Assign [.Tuple [.Name x px, .Name y py, .Name z pz] kt pt] (.Tuple [a, b, c] k2 pt2) pos) (rdS P (.pars [i, j, l] ea)) := impSI (ps_par3 O.calm O.nd hi hj hl hij hil hjl hx hy hz ha hw hs) fun D σ H ln ⟨ρ, θ, G, S, h⟩ => by
  unfold wS at h
  refine rdA_of S h fun ws ρ1 vs qss θ1 G1 H1 h1 s1 S1 r1 f1 n1 => ?_
  obtain ⟨ρ2, θ2, G2, h2, S2, e2, _, l2⟩ := putAll_ok (rest := []) S1 r1 (by simpa using f1) (fun m hm => by
    rw [ln]
    rcases List.mem_cons.mp hm with rfl | hm
    · exact (List.getElem?_eq_some_iff.mp hi).1
    rcases List.mem_cons.mp hm with rfl | hm
    · exact (List.getElem?_eq_some_iff.mp hj).1
    · have e : m = l := by simpa using hm
      subst e; exact (List.getElem?_eq_some_iff.mp hl).1) off h1
  match vs, l2 with
  | [v, w, u], _ =>
    refine ⟨v, w, u, rfl, ?_⟩
    have k := h2 θ2 G2 _ H1 (s1.g.trans e2) S2
    have e : sets σ [i, j, l] [v, w, u] = ((σ.set i (some v)).set j (some w)).set l (some u) := by
      show ((σ.set l (some u)).set j (some w)).set i (some v) = _
      have a1 : (List.set σ l (some u)).set j (some w) = (List.set σ j (some w)).set l (some u) := List.set_comm _ _ (Ne.symm hjl)
      have a2 : ((List.set σ j (some w)).set l (some u)).set i (some v) = ((List.set σ j (some w)).set i (some v)).set l (some u) := List.set_comm _ _ (Ne.symm hil)
      have a3 : (List.set σ j (some w)).set i (some v) = (List.set σ i (some v)).set j (some w) := List.set_comm _ _ (Ne.symm hij)
      rw [a1, a2, a3]
    rw [e] at k
    exact k
theorem ss_aug {i : Nat} {x : Str} {op : Bop} {pos' : Pos} (O : Okx P X) (hi : X.N[i]? = some x) (hx : L2.Loc X.env.scope x) (hf : X.fn x = true ∨ X.env.scope.names.lookup x = some .local) (he : PE X e (rdE P ee)) (hop : op = .add ∨ op = .sub) (off : Off P [i]) :
    PS X (.AugAssign (.Name x pos') (bopA op) e pos) (rdS P (.aug i op ee)) := by
  have hl : i < X.N.length := (List.getElem?_eq_some_iff.mp hi).1
  have key : ∀ (f : Int → Int → Int) (D : Ends) (σ : L2.St) (H : Hp), σ.length = X.N.length → (∃ ρ θ G, Sim P ρ θ G σ H ∧ ∃ a, slOf ρ i = some (.dat (.int a)) ∧ wE ee ρ fun w ρ1 => ∃ b, w = .dat (.int b) ∧ (enD P G D).nx (ρ1.set i (some (.dat (.int (f a b)))))) → tAug i (rdE P ee) (ipI f) D σ H := by
    rintro f D σ H l ⟨ρ, θ, G, S, a, e1, h⟩
    obtain ⟨v, h1, h2⟩ := S.get e1
    obtain rfl := Rep.int_inv (T := P.T) (G := G) h2.2
    refine ⟨_, h1, rd_of S h fun w ρ1 y qs θ1 G1 H1 ⟨b, e2, q⟩ s1 S1 r1 f1 n1 => ?_⟩
    subst e2
    obtain rfl := Rep.int_inv (T := P.T) (G := G1) r1.2
    exact ⟨a, b, rfl, rfl, q _ G1 _ H1 s1.g (S1.put (by rw [l]; exact hl) (off.no (by simp)) Rep.int)⟩
  rcases hop with rfl | rfl
  · refine impSI (ps_aug O.nd hi hx he ip_add hf) fun D σ H l ⟨ρ, θ, G, S, h⟩ => key _ D σ H l ⟨ρ, θ, G, S, ?_⟩
    unfold wS at h
    exact h
  · refine impSI (ps_aug O.nd hi hx he ip_sub hf) fun D σ H l ⟨ρ, θ, G, S, h⟩ => key _ D σ H l ⟨ρ, θ, G, S, ?_⟩
    unfold wS at h
    exact h
/-! objects that change -/
theorem Sim.swap {ρ : Ro} {θ : Nat → List Addr} {G H H' : Hp} {σ : L2.St} {i : Nat} {t t' : Ot} {p : Addr} {r : List Addr} (S : Sim P ρ θ G σ H) (e : slOf ρ i = some (.own t)) (hv : σ[i]? = some (some (.ref p))) (hq : θ i = p :: r) (hh : ∀ a o, H a = some o → a ∉ θ i → H' a = some o) (pe : ∀ a, H' a = none → H a = none) (ho : RepO P.T G H' p r t') :
    Sim P (ρ.set i (some (.own t'))) θ G σ H' := by
  have hi : i < ρ.length := (List.getElem?_eq_some_iff.mp (slOf_iff.mp e)).1
  exact {
    g0 := S.g0
    gh := fun a o q => hh a o (S.gh a o q) fun m => by rw [S.gn i a m] at q; cases q
    fr := fun a o h n => hh a o (S.fr a o h n) fun m => by
      rcases S.nw i a m with q | q
      · rw [h] at q; cases q
      · exact n q.1
    gs := S.gs
    pe := fun a h => S.pe a (pe a h)
    ln := by rw [List.length_set]; exact S.ln
    sl := fun j x ex => by
      by_cases hj : j = i
      · subst hj
        rw [List.getElem?_set_self hi] at ex
        cases ex
        exact ⟨_, hv, p, r, hq, rfl, ho⟩
      · rw [List.getElem?_set_ne (Ne.symm hj)] at ex
        obtain ⟨v, k1, k2⟩ := S.sl j x ex
        refine ⟨v, k1, ?_⟩
        cases x with
        | dat d => exact k2
        | own u =>
          obtain ⟨p', r', e1, e2, h3⟩ := k2
          exact ⟨p', r', e1, e2, h3.stay (Ex.refl G) fun a ha o q => hh a o q fun m => hj (S.dj j i a (by rw [e1]; exact ha) m)⟩
    no := fun j hn => by
      by_cases hj : j = i
      · subst hj; exact absurd (List.getElem?_set_self hi) (hn t')
      · refine S.no j fun u q => hn u ?_
        rw [List.getElem?_set_ne (Ne.symm hj)]; exact q
    gn := S.gn
    nw := S.nw
    nd := S.nd
    dj := S.dj
    fx := S.fx }
/-- the list that a name holds is written anew -/
theorem Sim.lset {ρ : Ro} {θ : Nat → List Addr} {G H : Hp} {σ : L2.St} {i : Nat} {ds ds' : List Cw.D} (S : Sim P ρ θ G σ H) (e : slOf ρ i = some (.own (.lst ds))) : ∃ p us, σ[i]? = some (some (.ref p)) ∧ H p = some (.lst us) ∧ RepL P.T G ds us ∧ ∀ us', RepL P.T G ds' us' → Sim P (ρ.set i (some (.own (.lst ds')))) θ G σ (upd H p (.lst us')) := by
  obtain ⟨p, r, h1, h2, rfl, us, h3, h4⟩ := S.own e
  refine ⟨p, us, h1, h3, h4, fun us' h5 => S.swap e h1 h2 (fun a o q n => ?_) (fun a q => ?_) ⟨rfl, us', upd_same, h5⟩⟩
  · rw [upd_ne fun z => n (by rw [z, h2]; simp)]; exact q
  · by_cases z : a = p
    · subst z; rw [upd_same] at q; cases q
    · rw [upd_ne z] at q; exact q
theorem ss_app {i : Nat} {x : Str} {xp ap cp : Pos} (O : Okx P X) (hi : X.N[i]? = some x) (hv : Vis X.env.scope x) (hd : (x == ("__debug__" : Str)) = false) (hcd : (x == ("__classdict__" : Str)) = false) (ha : PA X [e] (rdA P (.cons ee .nil))) (hbase : attributeBase (.Name x xp) "append" X.env (eval (.Name x xp) X.env) = eval (.Name x xp) X.env)
    (hfew : ((backTo cp (starEach [e] X.env)).all (fun x => !x.1) && (backToKw cp (keywordEach [] X.env)).all (fun x => x.1.isSome) && decide ([e].length + ([] : List Keyword).length + (if ([] : List Keyword).isEmpty then 0 else 1) < 30)) = true) (hline : (ap.endLine == cp.line) = true)
    (hs : starEach [e] X.env = (false, eval e X.env) :: starEach [] X.env) : PS X (.Expr (.Call (.Attribute (.Name x xp) "append" ap) [e] [] cp) pos) (rdS P (.app i ee)) := by
  refine impS (ps_expr (pe_bm F.plainAttrs_list F.slot_list_append F.type_list_append (fun pins s σ H x xs v us Q => mt_append pins s σ H x xs v us Q) (pe_var hi hv hd hcd) ha hbase hfew hline hs rfl) rfl) fun D σ H ⟨ρ, θ, G, S, h⟩ => ?_
  unfold wS at h
  obtain ⟨⟨ds0, e0⟩, h⟩ := h
  obtain ⟨p, r, h1, h2, _, us0, h3, _⟩ := S.own e0
  refine ⟨_, h1, .inl ⟨rfl, us0, SqL.of h3⟩, ρ, θ, G, S, ?_⟩
  unfold wA
  refine wE_mono ee _ _ _ (fun w ρ1 h => ?_) h
  unfold wA
  intro vs qss θ1 G1 H1 s1 S1 r1 f1 n1
  obtain ⟨v, qs, rfl, rfl, r3⟩ := r1.one
  have f3 : Fr P θ1 G1 (qs ++ []) := by simpa using f1
  obtain ⟨d, ρ2, θ2, G2, ⟨ds, e2, hz, q⟩, S2, r2, eg, t2, g2, _⟩ := frz_ok (rest := []) S1 r3 f3 h
  obtain ⟨p', us, k1, k2, k3, k4⟩ := S2.lset (ds' := ds ++ [d]) e2
  rw [h1] at k1; cases k1
  exact ⟨p, us, v, rfl, rfl, k2, by rw [← k3.len]; exact hz, q θ2 G2 σ _ (s1.g.trans eg) (k4 _ (k3.app (RepL.cons r2 RepL.nil)))⟩
theorem ss_clr {i : Nat} {x : Str} {xp ap cp : Pos} (O : Okx P X) (hi : X.N[i]? = some x) (hv : Vis X.env.scope x) (hd : (x == ("__debug__" : Str)) = false) (hcd : (x == ("__classdict__" : Str)) = false) (hbase : attributeBase (.Name x xp) "clear" X.env (eval (.Name x xp) X.env) = eval (.Name x xp) X.env) (hline : (ap.endLine == cp.line) = true) :
    PS X (.Expr (.Call (.Attribute (.Name x xp) "clear" ap) [] [] cp) pos) (rdS P (.clr i)) := by
  refine impS (ps_expr (pe_bm0 F.plainAttrs_list F.slot_list_clear F.type_list_clear (fun pins s σ H x xs v us Q => mt_clear pins s σ H x xs v us Q) (pe_var hi hv hd hcd) hbase hline) rfl) fun D σ H ⟨ρ, θ, G, S, h⟩ => ?_
  unfold wS at h
  obtain ⟨ds, e0, q⟩ := h
  obtain ⟨p, us, k1, k2, k3, k4⟩ := S.lset (ds' := []) e0
  exact ⟨_, k1, .inl ⟨rfl, us, SqL.of k2⟩, p, us, rfl, rfl, k2, q θ G σ _ (Ex.refl G) (k4 _ RepL.nil)⟩
theorem ss_rev {i : Nat} {x : Str} {xp ap cp : Pos} (O : Okx P X) (hi : X.N[i]? = some x) (hv : Vis X.env.scope x) (hd : (x == ("__debug__" : Str)) = false) (hcd : (x == ("__classdict__" : Str)) = false) (hbase : attributeBase (.Name x xp) "reverse" X.env (eval (.Name x xp) X.env) = eval (.Name x xp) X.env) (hline : (ap.endLine == cp.line) = true) :
    PS X (.Expr (.Call (.Attribute (.Name x xp) "reverse" ap) [] [] cp) pos) (rdS P (.rev i)) := by
  refine impS (ps_expr (pe_bm0 F.plainAttrs_list F.slot_list_reverse F.type_list_reverse (fun pins s σ H x xs v us Q => mt_reverse pins s σ H x xs v us Q) (pe_var hi hv hd hcd) hbase hline) rfl) fun D σ H ⟨ρ, θ, G, S, h⟩ => ?_
  unfold wS at h
  obtain ⟨ds, e0, q⟩ := h
  obtain ⟨p, us, k1, k2, k3, k4⟩ := S.lset (ds' := ds.reverse) e0
  exact ⟨_, k1, .inl ⟨rfl, us, SqL.of k2⟩, p, us, rfl, rfl, k2, q θ G σ _ (Ex.refl G) (k4 _ k3.rev)⟩
/-! loops -/
theorem ss_for {tg iter : Expr} {body : List Stmt} {t : Tg} {k : Ik} {sb : Sm} (O : Okx P X) (hp : PassesOwn (model X.prog X.w) X.A X.env X.xe) (hi : PI X tg iter (rdI P true k ea)) (hg : PG X tg (rdG P t)) (off : Off P t.slots) (hb : PSs X body (rdS P sb)) (hs : ∀ x, foldedSetIterable iter X.env x = pure x) :
    PS X (.For tg iter body [] pos) (rdS P (.for t k ea sb)) := impS (ps_for hp O.calm hi hg hb hs) fun D σ H ⟨ρ, θ, G, S, h⟩ => by
  unfold wS at h
  refine ⟨ρ, θ, G, S, wA_mono ea _ _ _ (fun ws ρ1 h => walkZ_mono (fun s ρ2 h J θ1 G1 H1 s1 S1 fd => ?_) h) h⟩
  obtain ⟨gd, h⟩ := h
  let turn : Cw.D → Ro → En → Prop := fun d ρ3 D1 => take t d ρ3 fun ρ4 => wS sb D1 ρ4
  let Wi : Nat → L2.St → Hp → Prop := fun i σ' H' => i ≤ s.items.length ∧ ∃ ρ' θ' G', Ex G1 G' ∧ Sim P ρ' θ' G' σ' H' ∧ fors turn (enD P G D) (s.items.drop i) ρ'
  refine ⟨fun i m σ' H' => m = s.items.length - i ∧ Wi i σ' H', ⟨_, rfl, Nat.zero_le _, ρ2, θ1, G1, Ex.refl _, S1, h⟩, ?_⟩
  rintro i m σ' H' ⟨rfl, hi, ρ', θ', G', e1, S', hl⟩
  obtain ⟨k1, k2, k3⟩ := fd i ρ' θ' G' H' σ' e1 S' (fun j t e => by rw [gd] at e; cases e) (by rw [gd]; trivial)
  by_cases hlt : i < s.items.length
  · obtain ⟨d, hd⟩ : ∃ d, s.items[i]? = some d := ⟨_, List.getElem?_eq_getElem hlt⟩
    have hdrop : s.items.drop i = d :: s.items.drop (i + 1) := by
      rw [List.getElem?_eq_getElem hlt] at hd; cases hd
      exact List.drop_eq_getElem_cons hlt
    rw [hdrop] at hl
    refine .inr ⟨k1 hlt, Wi (i + 1), fun σ'' H'' w => ⟨_, by omega, rfl, w⟩, fun x H'' hy => ?_⟩
    obtain ⟨G2, d', e2, q1, q2, q3, q4, q5⟩ := k3 x H'' hlt hy
    rw [hd] at e2; cases e2
    obtain ⟨S2, s2⟩ := S'.more q1 q2 q3 q4
    refine ⟨ρ', θ', G2, d, S2, q5, off, take_mono (fun ρ4 h4 σ4 θ4 S4 t4 f4 l4 => ?_) hl⟩
    have b1 : Ex G1 G2 := e1.trans q2
    have b0 : Ex G G2 := s1.g.trans b1
    refine ⟨ρ4, θ4, G2, S4, wS_mono sb (D := { nx := fors turn (enD P G D) (s.items.drop (i + 1)), ct := fors turn (enD P G D) (s.items.drop (i + 1)), bk := (enD P G D).nx, rt := (enD P G D).rt }) ⟨fun ρ5 y θ5 G5 σ5 H5 e5 S5 => ⟨hlt, ρ5, θ5, G5, b1.trans e5, S5, y⟩, fun w ρ5 y v qs θ5 G5 σ5 H5 e5 => y v qs θ5 G5 σ5 H5 (b0.trans e5), fun ρ5 y θ5 G5 σ5 H5 e5 S5 => y θ5 G5 σ5 H5 (b0.trans e5) S5, fun ρ5 y θ5 G5 σ5 H5 e5 S5 => ⟨hlt, ρ5, θ5, G5, b1.trans e5, S5, y⟩⟩ h4⟩
  · have e : i = s.items.length := by omega
    subst e
    rw [List.drop_length] at hl
    exact .inl ⟨k2 (Nat.le_refl _), hl θ' G' σ' H' (s1.g.trans e1) S'⟩
theorem ss_whl {body : List Stmt} {sb : Sm} (hp : PassesOwn (model X.prog X.w) X.A X.env X.xe) (hc : PT X c (rdT P ec)) (hb : PSs X body (rdS P sb)) : PS X (.While c body [] pos) (rdS P (.whl ec sb)) := impS (ps_while hp hc hb) fun D σ H ⟨ρ, θ, G, S, h⟩ => by
  unfold wS at h
  obtain ⟨n, h⟩ := h
  let cc : Ro → (Bool → Ro → Prop) → Prop := fun ρ1 Q => wE ec ρ1 fun v ρ2 => ∃ k, v = .dat (.bl k) ∧ Q k ρ2
  let bb : Ro → En → Prop := fun ρ1 D1 => wS sb D1 ρ1
  let Wi : Nat → L2.St → Hp → Prop := fun m σ' H' => ∃ ρ' θ' G', Ex G G' ∧ Sim P ρ' θ' G' σ' H' ∧ whls cc bb (enD P G D) m ρ'
  refine ⟨Wi, ⟨n, ρ, θ, G, Ex.refl _, S, h⟩, ?_⟩
  rintro m σ' H' ⟨ρ', θ', G', e1, S', hl⟩
  cases m with
  | zero => exact hl.elim
  | succ m =>
    refine rdT_of S' hl fun v ρ1 x qs θ1 G1 H1 ⟨k, e, q⟩ s1 S1 r1 f1 n1 => ?_
    subst e
    obtain rfl := Rep.bl_inv (T := P.T) (G := G1) r1.2
    refine ⟨k, rfl, ?_⟩
    have b0 : Ex G G1 := e1.trans s1.g
    cases k with
    | true =>
      refine ⟨Wi m, fun σ'' H'' w => ⟨m, Nat.lt_succ_self m, w⟩, ρ1, θ1, G1, S1, wS_mono sb (D := { nx := whls cc bb (enD P G D) m, ct := whls cc bb (enD P G D) m, bk := (enD P G D).nx, rt := (enD P G D).rt }) ⟨fun ρ5 y θ5 G5 σ5 H5 e5 S5 => ⟨ρ5, θ5, G5, b0.trans e5, S5, y⟩, fun w ρ5 y v qs θ5 G5 σ5 H5 e5 => y v qs θ5 G5 σ5 H5 (b0.trans e5), fun ρ5 y θ5 G5 σ5 H5 e5 S5 => y θ5 G5 σ5 H5 (b0.trans e5) S5, fun ρ5 y θ5 G5 σ5 H5 e5 S5 => ⟨ρ5, θ5, G5, b0.trans e5, S5, y⟩⟩ q⟩
    | false => exact q θ1 G1 σ' H1 b0 S1
end
end Cw
/-! Cw: more rules. -/
namespace Cw
open PySem PySem.Spec PyProof.Rows L2

theorem putK_rep {κ : Type} [DecidableEq κ] {T : Tbl} {G : Hp} {d : D} {v : V} {k : κ} (hd : Rep T G d v) {ks : List κ} {ds : List D} {us : List V} (r : RepL T G ds us) (hl : ks.length = us.length) :
    ∃ us', L2.putK (ks.zip us) k v = (putK ks ds k d).1.zip us' ∧ (putK ks ds k d).1.length = us'.length ∧ RepL T G (putK ks ds k d).2 us' := by
  have any : ∀ {ks : List κ} {us : List V}, ks.length = us.length → ((ks.zip us).any fun kv => decide (kv.1 = k)) = decide (k ∈ ks) := by
    intro ks
    induction ks with
    | nil => intro us _; rfl
    | cons a ks ih =>
      intro us hl
      cases us with
      | nil => cases hl
      | cons u us =>
        rw [List.zip_cons_cons, List.any_cons, ih (by simpa using hl)]
        by_cases e : a = k
        · subst e; simp
        · have : ¬ k = a := fun q => e q.symm
          simp [e, this]
  unfold L2.putK Cw.putK
  rw [any hl]
  by_cases hk : k ∈ ks
  · rw [if_pos (by simpa using hk), if_pos hk]
    refine ⟨List.zipWith (fun k' u => if k' = k then v else u) ks us, ?_, by simp [hl], ?_⟩
    · clear r any hk
      induction ks generalizing us with
      | nil => rfl
      | cons a ks ih =>
        cases us with
        | nil => cases hl
        | cons u us =>
          simp only [List.zip_cons_cons, List.map_cons, List.zipWith_cons_cons]
          rw [ih (by simpa using hl)]
          by_cases e : a = k
          · simp [e]
          · simp [e]
    · clear any hk
      induction ks generalizing us ds with
      | nil => simpa using RepL.nil
      | cons a ks ih =>
        cases us with
        | nil => cases hl
        | cons u us =>
          cases ds with
          | nil => cases r.nil_inv
          | cons c ds =>
            obtain ⟨v', r', e, h1, h2⟩ := r.cons_inv
            cases e
            rw [List.zipWith_cons_cons, List.zipWith_cons_cons]
            refine RepL.cons ?_ (ih h2 (by simpa using hl))
            by_cases e : a = k
            · rw [if_pos e, if_pos e]; exact hd
            · rw [if_neg e, if_neg e]; exact h1
  · rw [if_neg (by simpa using hk), if_neg hk]
    refine ⟨us ++ [v], ?_, by simp [hl], r.app (RepL.cons hd RepL.nil)⟩
    rw [List.zip_append hl]; rfl

section
variable {P : Par} {X : Cx} {pos : Pos} {a e : Expr} {ea ee : E}
theorem ss_setl {i : Nat} {x : Str} {xp tp : Pos} (O : Okx P X) (hi : X.N[i]? = some x) (hv : Vis X.env.scope x) (hd : (x == ("__debug__" : Str)) = false) (hcd : (x == ("__classdict__" : Str)) = false) (he : PE X e (rdE P ee)) (ha : PE X a (rdE P ea))
    (hst : ∀ v, assign (.Subscript (.Name x xp) a tp) X.env v = (do
      let ov ← holding [v] (eval (.Name x xp) X.env)
      let iv ← holding [v, ov] (eval a X.env)
      standAt tp
      holding [v, ov, iv] (setItem ov iv v)
      release [v, ov, iv] []))
    (hs : swapsWithSole [.Subscript (.Name x xp) a tp] e pos.line X.env = pure false) (hw : swappedStores [.Subscript (.Name x xp) a tp] e X.env = pure none) (h1 : (assignEach [.Subscript (.Name x xp) a tp] X.env).map (·.2) = [assign (.Subscript (.Name x xp) a tp) X.env]) :
    PS X (.Assign [.Subscript (.Name x xp) a tp] e pos) (rdS P (.setl i ea ee)) := by
  refine impS (ps_asg he (pg_sub (pe_var hi hv hd hcd) ha set_list hst) hs hw h1) fun D σ H ⟨ρ, θ, G, S, h⟩ => ?_
  unfold wS at h
  refine rd_of S h fun w ρ1 v qs θ1 G1 H1 h1 s1 S1 r1 f1 n1 => ?_
  obtain ⟨d, ρ2, θ2, G2, ⟨⟨ds0, e0⟩, h2⟩, S2, r2, e2, t2, g2, _⟩ := frz_ok (rest := []) S1 r1 (by rw [List.append_nil]; exact f1) h1
  obtain ⟨p, r, k1, k2, _⟩ := S2.own e0
  refine ⟨_, k1, rd_of S2 h2 fun x ρ3 y qs3 θ3 G3 H3 ⟨ds, k, e3, ex, hk, q⟩ s3 S3 r3 f3 n3 => ?_⟩
  subst ex
  obtain rfl := Rep.int_inv (T := P.T) (G := G3) r3.2
  obtain ⟨p', us, m1, m2, m3, m4⟩ := S3.lset (ds' := ds.set k d) e3
  rw [k1] at m1; cases m1
  exact ⟨p, us, k, k, rfl, rfl, m2, by unfold ixN; rw [if_pos (by omega), if_pos (by rw [← m3.len]; omega)]; rfl, q θ3 G3 σ _ ((s1.g.trans e2).trans s3.g) (m4 _ (m3.set (Rep.mono s3.g _ _ r2) k))⟩
theorem ss_setd {i : Nat} {x : Str} {xp tp : Pos} (O : Okx P X) (hi : X.N[i]? = some x) (hv : Vis X.env.scope x) (hd : (x == ("__debug__" : Str)) = false) (hcd : (x == ("__classdict__" : Str)) = false) (he : PE X e (rdE P ee)) (ha : PE X a (rdE P ea))
    (hs : swapsWith e (some (.Subscript (.Name x xp) a tp)) pos.line X.env = pure false) :
    PS X (.Assign [.Subscript (.Name x xp) a tp] e pos) (rdS P (.setd i ea ee)) := by
  refine impS (ps_dput (Nat.lt_of_le_of_lt (by omega) O.hu) (pe_var hi hv hd hcd) ha he hs) fun D σ H ⟨ρ, θ, G, S, h⟩ => ?_
  unfold wS at h
  refine rd_of S h fun w ρ1 v qs θ1 G1 H1 h1 s1 S1 r1 f1 n1 => ?_
  obtain ⟨d, ρ2, θ2, G2, ⟨⟨t0, e0⟩, h2⟩, S2, r2, e2, t2, g2, _⟩ := frz_ok (rest := []) S1 r1 (by rw [List.append_nil]; exact f1) h1
  obtain ⟨p, r, k1, k2, _⟩ := S2.own e0
  refine ⟨_, k1, rd_of S2 h2 fun x ρ3 y qs3 θ3 G3 H3 h3 s3 S3 r3 f3 n3 => ?_⟩
  obtain ⟨kd, ρ4, θ4, G4, h4, S4, r4, e4, t4, g4, _⟩ := frz_ok (rest := []) S3 r3 (by rw [List.append_nil]; exact f3) h3
  have rd := Rep.mono (s3.g.trans e4) _ _ r2
  have go : ∀ {t t' : Ot} {o' : HO}, slOf ρ4 i = some (.own t) → (∀ p' r', RepO P.T G4 H3 p' r' t → r' = [] ∧ RepO P.T G4 (upd H3 p' o') p' r' t') → Sim P (ρ4.set i (some (.own t'))) θ4 G4 σ (upd H3 p o') := fun {t t' o'} ex hh => by
    obtain ⟨p', r', m1, m2, m3⟩ := S4.own ex
    rw [k1] at m1; cases m1
    obtain ⟨z, m4⟩ := hh _ _ m3
    subst z
    refine S4.swap ex k1 m2 (fun b o q n => ?_) (fun b q => ?_) m4
    · rw [upd_ne fun z => n (by rw [z, m2]; simp)]; exact q
    · by_cases z : b = p
      · subst z; rw [upd_same] at q; cases q
      · rw [upd_ne z] at q; exact q
  rcases h4 with ⟨ks, ds, k, ex, ek, hz, q⟩ | ⟨ks, ds, k, ex, ek, hz, q⟩
  · obtain ⟨p', r', m1, m2, rfl, us, m3, m4, m5⟩ := S4.own ex
    rw [k1] at m1; cases m1
    obtain rfl := key_rep r4 ek
    obtain ⟨us', z1, z2, z3⟩ := putK_rep (k := k) rd m5 m4
    have hz' : (ks.zip us).length < sizeLine := by rw [List.length_zip, ← m4, Nat.min_self]; exact hz
    refine ⟨p, _, rfl, DPut.k m3 hz', ?_⟩
    rw [z1]
    exact q θ4 G4 σ _ ((s1.g.trans e2).trans (s3.g.trans e4)) (go ex fun p'' r'' ho => ⟨ho.1, ho.1, us', upd_same, z2, z3⟩)
  · obtain ⟨p', r', m1, m2, rfl, us, m3, m4, m5⟩ := S4.own ex
    rw [k1] at m1; cases m1
    obtain ⟨b, rfl, hb⟩ := tkey_rep (Rep.mono S4.gh _ _ r4) ek
    obtain ⟨us', z1, z2, z3⟩ := putK_rep (k := k) rd m5 m4
    have hz' : (ks.zip us).length < sizeLine := by rw [List.length_zip, ← m4, Nat.min_self]; exact hz
    refine ⟨p, _, rfl, DPut.t m3 hb hz', ?_⟩
    rw [z1]
    exact q θ4 G4 σ _ ((s1.g.trans e2).trans (s3.g.trans e4)) (go ex fun p'' r'' ho => ⟨ho.1, ho.1, us', upd_same, z2, z3⟩)
/-- what a written method call asks -/
def Few (X : Cx) (e : Expr) (cp : Pos) : Prop := ((backTo cp (starEach [e] X.env)).all (fun x => !x.1) && (backToKw cp (keywordEach [] X.env)).all (fun x => x.1.isSome) && decide ([e].length + ([] : List Keyword).length + (if ([] : List Keyword).isEmpty then 0 else 1) < 30)) = true
theorem ss_ext {i : Nat} {x : Str} {xp ap cp : Pos} (O : Okx P X) (hi : X.N[i]? = some x) (hv : Vis X.env.scope x) (hd : (x == ("__debug__" : Str)) = false) (hcd : (x == ("__classdict__" : Str)) = false) (ha : PA X [e] (rdA P (.cons ee .nil))) (hbase : attributeBase (.Name x xp) "extend" X.env (eval (.Name x xp) X.env) = eval (.Name x xp) X.env)
    (hfew : Few X e cp) (hline : (ap.endLine == cp.line) = true) (hs : starEach [e] X.env = (false, eval e X.env) :: starEach [] X.env) : PS X (.Expr (.Call (.Attribute (.Name x xp) "extend" ap) [e] [] cp) pos) (rdS P (.ext i ee)) := by
  refine impS (ps_expr (pe_bm F.plainAttrs_list F.slot_list_extend F.type_list_extend (fun pins s σ H x xs v us Q => mt_extend pins s σ H x xs v us Q) (pe_var hi hv hd hcd) ha hbase hfew hline hs rfl) rfl) fun D σ H ⟨ρ, θ, G, S, h⟩ => ?_
  unfold wS at h
  obtain ⟨⟨ds0, e0⟩, h⟩ := h
  obtain ⟨p, r, h1, h2, _, us0, h3, _⟩ := S.own e0
  refine ⟨_, h1, .inl ⟨rfl, us0, SqL.of h3⟩, ρ, θ, G, S, ?_⟩
  unfold wA
  refine wE_mono ee _ _ _ (fun w ρ1 h => ?_) h
  unfold wA
  intro vs qss θ1 G1 H1 s1 S1 r1 f1 n1
  obtain ⟨v, qs, rfl, rfl, r3⟩ := r1.one
  obtain ⟨x, ds, es, e1, e2, e3, hz, q⟩ := h
  obtain ⟨p', us, k1, k2, k3, k4⟩ := S1.lset (ds' := ds ++ es) e3
  rw [h1] at k1; cases k1
  obtain ⟨b, zs, rfl, z1, z2⟩ := sq_rep (cv_rep S1 r3 e1) S1.gh e2
  exact ⟨p, b, us, zs, rfl, rfl, k2, z2.1 rfl, by rw [← k3.len, ← z1.len]; exact hz, q θ1 G1 σ _ s1.g (k4 _ (k3.app z1))⟩
theorem RepI.setq {T : Tbl} {G H : Hp} {q : Addr} {ds' : List D} {us' : List V} (r' : RepL T G ds' us') : ∀ {dss : List (List D)} {qs : List Addr} {k : Nat}, RepI T G H dss qs → qs.Nodup → qs[k]? = some q → RepI T G (upd H q (.lst us')) (dss.set k ds') qs
  | [], qs, k, r, nd, e => by rw [show qs = [] from r] at e; cases e
  | d :: dss, _, k, ⟨q', r, us, rfl, h1, h2, h3⟩, nd, e => by
    obtain ⟨n1, n2⟩ := List.nodup_cons.mp nd
    cases k with
    | zero =>
      cases e
      refine ⟨q, r, us', rfl, upd_same, r', h3.stay (Ex.refl G) fun a ha o z => ?_⟩
      rw [upd_ne fun y => n1 (by rw [← y]; exact ha)]; exact z
    | succ k =>
      have hm : q ∈ r := List.mem_of_getElem? (show r[k]? = some q from e)
      exact ⟨q', r, us, rfl, by rw [upd_ne fun y => n1 (by rw [y]; exact hm)]; exact h1, h2, h3.setq r' n2 e⟩
theorem RepI.at {T : Tbl} {G H : Hp} {q : Addr} {ds : List D} : ∀ {dss : List (List D)} {qs : List Addr} {k : Nat}, RepI T G H dss qs → qs[k]? = some q → dss[k]? = some ds → ∃ us, H q = some (.lst us) ∧ RepL T G ds us
  | [], _, _, _, _, e2 => by cases e2
  | d :: dss, _, k, ⟨q', r, us, rfl, h1, h2, h3⟩, e1, e2 => by
    cases k with
    | zero => cases e1; cases e2; exact ⟨us, h1, h2⟩
    | succ k => exact h3.at e1 e2
theorem ss_app2 {i : Nat} {o : Expr} {ap cp : Pos} (O : Okx P X) (ho : PE X o (rdE P (.idx (.var i) ea))) (ha : PA X [e] (rdA P (.cons ee .nil))) (hbase : attributeBase o "append" X.env (eval o X.env) = eval o X.env)
    (hfew : Few X e cp) (hline : (ap.endLine == cp.line) = true) (hs : starEach [e] X.env = (false, eval e X.env) :: starEach [] X.env) : PS X (.Expr (.Call (.Attribute o "append" ap) [e] [] cp) pos) (rdS P (.app2 i ea ee)) := by
  refine impS (ps_expr (pe_bm F.plainAttrs_list F.slot_list_append F.type_list_append (fun pins s σ H x xs v us Q => mt_append pins s σ H x xs v us Q) ho ha hbase hfew hline hs rfl) rfl) fun D σ H ⟨ρ, θ, G, S, h⟩ => ?_
  unfold wS at h
  refine rd_of S h fun w ρ1 v0 qs0 θ1 G1 H1 ⟨k, ew, ⟨dss0, ds0, e0, d0⟩, h⟩ s1 S1 r1 f1 n1 => ?_
  subst ew
  obtain ⟨_, q, rfl, hq⟩ := r1
  obtain ⟨p, r, m1, m2, m3, m4⟩ := S1.own e0
  have hr := hq p r m2
  obtain ⟨us0, u1, u2⟩ := m4.at hr d0
  refine ⟨.inl ⟨rfl, us0, SqL.of u1⟩, ρ1, θ1, G1, S1, ?_⟩
  unfold wA
  refine wE_mono ee _ _ _ (fun w ρ2 h => ?_) h
  unfold wA
  intro vs qss θ2 G2 H2 s2 S2 r2 f2 n2
  obtain ⟨v, qs, rfl, rfl, r3⟩ := r2.one
  have f3 : Fr P θ2 G2 (qs ++ []) := by simpa using f2
  obtain ⟨d, ρ3, θ3, G3, ⟨dss, ds, e3, d3, hz, z⟩, S3, r4, e4, t4, g4, _⟩ := frz_ok (rest := []) S2 r3 f3 h
  obtain ⟨p', r', k1, k2, k3, k4⟩ := S3.own e3
  rw [m1] at k1; cases k1
  have er : r' = r := by
    have h3 : θ3 i = θ1 i := by
      rcases t4 i with y | y
      · rcases s2.t i with y' | y'
        · exact y.trans y'
        · rw [y'] at y; rw [y] at k2; cases k2
      · rw [y] at k2; cases k2
    rw [h3, m2] at k2; cases k2; rfl
  subst er
  obtain ⟨us, z1, z2⟩ := k4.at hr d3
  have nd := S3.nd i
  rw [k2] at nd
  obtain ⟨np, nr⟩ := List.nodup_cons.mp nd
  have qm : q ∈ r' := List.mem_of_getElem? hr
  refine ⟨q, us, v, rfl, rfl, z1, by rw [← z2.len]; exact hz, z θ3 G3 σ _ (s1.g.trans (s2.g.trans e4)) (S3.swap e3 m1 k2 (fun a o y n => ?_) (fun a y => ?_) ⟨?_, k4.setq (z2.app (RepL.cons r4 RepL.nil)) nr hr⟩)⟩
  · rw [upd_ne fun y' => n (by rw [y', k2]; exact List.mem_cons_of_mem _ qm)]; exact y
  · by_cases y' : a = q
    · subst y'; rw [upd_same] at y; cases y
    · rw [upd_ne y'] at y; exact y
  · rw [upd_ne fun y => np (by rw [y]; exact qm)]; exact k3
/-! what a new list, held by no name, takes -/
theorem ss_appT {o : Expr} {ap cp : Pos} (O : Okx P X) (ho : PE X o (rdE P ee)) (ha : PA X [a] (rdA P (.cons ea .nil))) (hbase : attributeBase o "append" X.env (eval o X.env) = eval o X.env)
    (hfew : Few X a cp) (hline : (ap.endLine == cp.line) = true) (hs : starEach [a] X.env = (false, eval a X.env) :: starEach [] X.env) : PS X (.Expr (.Call (.Attribute o "append" ap) [a] [] cp) pos) (rdS P (.appT ee ea)) := by
  refine impS (ps_expr (pe_bm F.plainAttrs_list F.slot_list_append F.type_list_append (fun pins s σ H x xs v us Q => mt_append pins s σ H x xs v us Q) ho ha hbase hfew hline hs rfl) rfl) fun D σ H ⟨ρ, θ, G, S, h⟩ => ?_
  unfold wS at h
  refine rd_of S h fun w ρ1 v0 qs0 θ1 G1 H1 ⟨ds, ew, hz, h⟩ s1 S1 r1 f1 n1 => ?_
  subst ew
  obtain ⟨p, r, rfl, rfl, rfl, us, h1, h2⟩ := id r1
  refine ⟨.inl ⟨rfl, us, SqL.of h1⟩, ρ1, θ1, G1, S1, ?_⟩
  unfold wA
  refine wE_mono ea _ _ _ (fun w ρ2 h => ?_) h
  unfold wA
  intro vs qss θ2 G2 H2 s2 S2 r2 f2 n2
  obtain ⟨v, qs, rfl, rfl, r3⟩ := r2.one
  have f3 : Fr P θ2 G2 (qs ++ [p]) := by
    have g1 := f1.stp s2 r1.there
    have f2' : Fr P θ2 G2 qs := by simpa using f2
    refine (g1.append f2' r1.there fun a ha => n2 a (by simpa using ha)).perm ?_
    exact List.perm_append_comm
  obtain ⟨d, ρ3, θ3, G3, z, S3, r4, e4, t4, g4, f4⟩ := frz_ok (rest := [p]) S2 r3 f3 h
  obtain ⟨k1, k2⟩ := s2.h p _ h1 (f1.2 p (by simp)).2.2
  refine ⟨p, us, v, rfl, rfl, k1, by rw [← h2.len]; exact hz, z θ3 G3 σ _ (s1.g.trans (s2.g.trans e4)) (S3.heap (as := [p]) (Ex.refl G3) (fun b o y => ?_) (fun b o y n => ⟨by rw [upd_ne (by simpa using n)]; exact y, rfl⟩) (fun b y => ?_) fun b hb => ?_)⟩
  · rw [upd_ne fun y' => by rw [y', (f4.2 p (by simp)).1] at y; cases y]; exact S3.gh b o y
  · by_cases y' : b = p
    · subst y'; rw [upd_same] at y; cases y
    · rw [upd_ne y'] at y; exact y
  · have y : b = p := by simpa using hb
    subst y
    exact ⟨(f4.2 b (by simp)).2.2, .inl (f4.2 b (by simp)).2.1⟩
theorem ss_revT {o : Expr} {ap cp : Pos} (O : Okx P X) (ho : PE X o (rdE P ee)) (hbase : attributeBase o "reverse" X.env (eval o X.env) = eval o X.env) (hline : (ap.endLine == cp.line) = true) : PS X (.Expr (.Call (.Attribute o "reverse" ap) [] [] cp) pos) (rdS P (.revT ee)) := by
  refine impS (ps_expr (pe_bm0 F.plainAttrs_list F.slot_list_reverse F.type_list_reverse (fun pins s σ H x xs v us Q => mt_reverse pins s σ H x xs v us Q) ho hbase hline) rfl) fun D σ H ⟨ρ, θ, G, S, h⟩ => ?_
  unfold wS at h
  refine rd_of S h fun w ρ1 v0 qs0 θ1 G1 H1 ⟨ds, ew, z⟩ s1 S1 r1 f1 n1 => ?_
  subst ew
  obtain ⟨p, r, rfl, rfl, rfl, us, h1, h2⟩ := id r1
  refine ⟨.inl ⟨rfl, us, SqL.of h1⟩, p, us, rfl, rfl, h1, z θ1 G1 σ _ s1.g (S1.heap (as := [p]) (Ex.refl G1) (fun b o y => ?_) (fun b o y n => ⟨by rw [upd_ne (by simpa using n)]; exact y, rfl⟩) (fun b y => ?_) fun b hb => ?_)⟩
  · rw [upd_ne fun y' => by rw [y', (f1.2 p (by simp)).1] at y; cases y]; exact S1.gh b o y
  · by_cases y' : b = p
    · subst y'; rw [upd_same] at y; cases y
    · rw [upd_ne y'] at y; exact y
  · have y : b = p := by simpa using hb
    subst y
    exact ⟨(f1.2 b (by simp)).2.2, .inl (f1.2 b (by simp)).2.1⟩
/-! pop -/
theorem s_pop {i : Nat} {x : Str} {xp ap : Pos} (O : Okx P X) (hi : X.N[i]? = some x) (hv : Vis X.env.scope x) (hd : (x == ("__debug__" : Str)) = false) (hcd : (x == ("__classdict__" : Str)) = false) (hbase : attributeBase (.Name x xp) "pop" X.env (eval (.Name x xp) X.env) = eval (.Name x xp) X.env) (hline : (ap.endLine == pos.line) = true) :
    PE X (.Call (.Attribute (.Name x xp) "pop" ap) [] [] pos) (rdE P (.pop i)) := by
  refine impE (pe_bm0 F.plainAttrs_list F.slot_list_pop F.type_list_pop (fun pins s σ H x xs v us Q => mt_pop pins s σ H x xs v us Q) (pe_var hi hv hd hcd) hbase hline) fun σ H Q ⟨ρ, θ, G, S, h⟩ => ?_
  unfold wE at h
  obtain ⟨ds, d, e0, q⟩ := h
  obtain ⟨p, us, k1, k2, k3, k4⟩ := S.lset (ds' := ds) e0
  have hl := k3.len
  rw [List.length_append, List.length_singleton] at hl
  obtain ⟨y, hy, ry⟩ := k3.get (i := us.length - 1) (d := d) (by rw [List.getElem?_append_right (by omega)]; rw [show us.length - 1 - ds.length = 0 by omega]; rfl)
  refine ⟨_, k1, .inl ⟨rfl, us, SqL.of k2⟩, p, us, y, rfl, rfl, k2, hy, ?_⟩
  have k5 := k4 us.dropLast (by have := k3.dropLast; simpa using this)
  obtain ⟨p', r', m1, m2, _⟩ := S.own e0
  rw [k1] at m1; cases m1
  refine q.dat (θ := θ) (G := G) ⟨fun a o z n => ⟨by rw [upd_ne fun y => n i (by rw [y, m2]; simp)]; exact z, rfl⟩, fun _ => .inl rfl, Ex.refl G, fun a z => ?_⟩ k5 ry
  by_cases y : a = p
  · subst y; rw [upd_same] at z; cases z
  · rw [upd_ne y] at z; exact z
theorem s_popat {i : Nat} {x : Str} {xp ap : Pos} (O : Okx P X) (hi : X.N[i]? = some x) (hv : Vis X.env.scope x) (hd : (x == ("__debug__" : Str)) = false) (hcd : (x == ("__classdict__" : Str)) = false) (ha : PA X [a] (rdA P (.cons ea .nil))) (hbase : attributeBase (.Name x xp) "pop" X.env (eval (.Name x xp) X.env) = eval (.Name x xp) X.env)
    (hfew : Few X a pos) (hline : (ap.endLine == pos.line) = true) (hs : starEach [a] X.env = (false, eval a X.env) :: starEach [] X.env) : PE X (.Call (.Attribute (.Name x xp) "pop" ap) [a] [] pos) (rdE P (.popat i ea)) := by
  refine impE (pe_bm F.plainAttrs_list F.slot_list_pop F.type_list_pop (fun pins s σ H x xs v us Q => mt_popAt pins s σ H x xs v us Q) (pe_var hi hv hd hcd) ha hbase hfew hline hs rfl) fun σ H Q ⟨ρ, θ, G, S, h⟩ => ?_
  unfold wE at h
  obtain ⟨⟨ds0, e0⟩, h⟩ := h
  obtain ⟨p, r, h1, h2, rfl, us0, h3, _⟩ := S.own e0
  refine ⟨_, h1, .inl ⟨rfl, us0, SqL.of h3⟩, ρ, θ, G, S, ?_⟩
  unfold wA
  refine wE_mono ea _ _ _ (fun w ρ1 h => ?_) h
  unfold wA
  intro vs qss θ1 G1 H1 s1 S1 r1 f1 n1
  obtain ⟨v, qs, rfl, rfl, r3⟩ := r1.one
  obtain ⟨ds, d, k, ew, hk, e1, e2, q⟩ := h
  subst ew
  obtain rfl := Rep.int_inv (T := P.T) (G := G1) r3.2
  obtain ⟨p', us, k1, k2, k3, k4⟩ := S1.lset (ds' := ds.eraseIdx k) e1
  rw [h1] at k1; cases k1
  obtain ⟨y, hy, ry⟩ := k3.get e2
  have hkl : k < us.length := (List.getElem?_eq_some_iff.mp hy).1
  obtain ⟨p2, r2, m1, m2, _⟩ := S1.own e1
  rw [h1] at m1; cases m1
  refine ⟨p, us, k, k, y, rfl, rfl, k2, by omega, by omega, (ixN_seq (n := us.length) (i := (k : Int)) (j := k) (by unfold ixN; rw [if_pos (by omega), if_pos (by omega)]; rfl)).1, hy, ?_⟩
  refine q.dat (s1.trans (θ2 := θ1) (G2 := G1) ⟨fun a o z n => ⟨by rw [upd_ne fun y => n i (by rw [y, m2]; simp)]; exact z, rfl⟩, fun _ => .inl rfl, Ex.refl G1, fun a z => ?_⟩) (k4 _ (k3.erase k)) ry
  by_cases y : a = p
  · subst y; rw [upd_same] at z; cases z
  · rw [upd_ne y] at z; exact z
end
end Cw
/-! Cw: calls of the program's own defs; built-in functions by name. -/
namespace Cw
open PySem PySem.Spec PyProof.Rows L2

/-- the module: what its names hold -/
structure Mo where
  prog : Program
  w : World
  mg : Str → Option Value
  base : Heap
  T : Tbl
  cn : Nat → Str
structure Onx (P : Par) (M : Mo) (k : Nat) (X : Cx) : Prop where
  o : Okx P X
  T : P.T = M.T
  pr : X.prog = M.prog
  w : X.w = M.w
  mg : X.mg = M.mg
  ba : X.base = M.base
  room : Room k X.A
abbrev CX0 : CXT := fun _ _ _ _ _ _ => False
abbrev E0 : XK := fun _ _ _ => False
theorem passes0 {X : Cx} {E : XK} : Passes CX0 X E := fun _ _ _ _ _ _ _ h => h.elim
/-- F can be called by its name -/
structure CallV (M : Mo) (k : Nat) (F : Fn) : Prop where
  db : (F.name == ("__debug__" : Str)) = false
  many : ∀ (P : Par) (X : Cx), Onx P M k X → Gl X F.name → ∀ (e : Expr) (es : List Expr) (ea : E) (p pos : Pos), PA X (e :: es) (rdA P ea) → starEach (e :: es) X.env = (false, eval e X.env) :: starEach es X.env → (backTo pos (starEach es X.env)).any (·.1) = false →
    PE X (.Call (.Name F.name p) (e :: es) [] pos) (rdE P (.call F ea))
  zero : ∀ (P : Par) (X : Cx), Onx P M k X → Gl X F.name → ∀ (p pos : Pos), PE X (.Call (.Name F.name p) [] [] pos) (rdE P (.call F .nil))
/-- F is a method of the class c -/
def MethV (M : Mo) (k : Nat) (F : Fn) (c : Nat) : Prop := ∀ (P : Par) (X : Cx), Onx P M k X → ∀ (o e : Expr) (es : List Expr) (eo ea : E) (ap pos : Pos) (pl : Sem Bool), PE X o (rdE P eo) → PA X (e :: es) (rdA P ea) → starEach (e :: es) X.env = (false, eval e X.env) :: starEach es X.env → (backTo pos (starEach es X.env)).any (·.1) = false →
    eval (.Call (.Attribute o F.name ap) (e :: es) [] pos) X.env = (do
      let ov ← eval o X.env
      standAt ap.atName
      let (f, first) ← holding [ov] (getMethod ov F.name pl)
      callWith pos f first (backTo pos (starEach (e :: es) X.env)) (backToKw pos (keywordEach [] X.env))) →
    PE X (.Call (.Attribute o F.name ap) (e :: es) [] pos) (rdE P (.meth F c eo ea))
/-- F is the getter of a property of the class c -/
def PropV (M : Mo) (k : Nat) (F : Fn) (c : Nat) : Prop := ∀ (P : Par) (X : Cx), Onx P M k X → ∀ (o : Expr) (eo : E) (pos : Pos), PE X o (rdE P eo) → attributeBase o F.name X.env (eval o X.env) = eval o X.env → PE X (.Attribute o F.name pos) (rdE P (.prop F c eo))
theorem Onx.ek {P : Par} {M : Mo} {k : Nat} {X : Cx} (O : Onx P M k X) : X.K = M.T.K := O.o.k.trans (congrArg Tbl.K O.T)
theorem FnG.at {P : Par} {M : Mo} {j k : Nat} {X : Cx} {f : Addr} {fd : FuncData} {ps : List Str} {sp : Sp} (O : Onx P M k X) (G : FnG M.prog M.w M.T.K M.mg M.base CX0 j f fd ps sp) : FnG X.prog X.w X.K X.mg X.base CX0 j f fd ps sp := by
  rw [← O.pr, ← O.w, ← O.mg, ← O.ba, ← O.ek] at G
  exact G
theorem CallV.of_fn {M : Mo} {k j : Nat} {F : Fn} {f : Addr} {fd : FuncData} {ps : List Str} (G : FnG M.prog M.w M.T.K M.mg M.base CX0 j f fd ps (spF M.T F)) (hj : j ≤ k) (hm : M.mg F.name = some (.ref f)) (hk : PySem.W.keepIn M.T.K (.ref f) = true) (hb : Binds M.T.K fd ps []) (db : (F.name == ("__debug__" : Str)) = false) : CallV M k F where
  db := db
  many := fun P X O hg e es ea p pos ha hs hp => by
    refine impE (g_call (dvs := []) (ds := []) (E := E0) (G.at O) (O.room.mono hj) O.o.g hg (by rw [O.mg]; exact hm) (by rw [O.ek]; exact hk) (by rw [O.ek]; exact hb) .nil passes0 ha db hs hp) fun σ H Q ⟨ρ, θ, G, S, h⟩ => ?_
    unfold wE at h
    refine rdA_of S h fun ws ρ1 vs qss θ1 G1 H1 h1 s1 S1 r1 f1 n1 => ?_
    rw [List.append_nil, ← O.T]
    exact call_ok h1 s1 S1 r1 f1 n1
  zero := fun P X O hg p pos => by
    refine impE (g_call0 (dvs := []) (ds := []) (E := E0) (G.at O) (O.room.mono hj) O.o.g hg (by rw [O.mg]; exact hm) (by rw [O.ek]; exact hk) (by rw [O.ek]; exact hb) .nil passes0 db) fun σ H Q ⟨ρ, θ, G, S, h⟩ => ?_
    unfold wE wA at h
    show spF M.T F ([] ++ []) H Q E0
    rw [List.append_nil, ← O.T]
    exact call_ok (qss := []) (vs := []) (ws := []) h Stp.refl S trivial Fr.nil fun a z => by cases z
theorem lookup_zip_none {f : Str} : ∀ {fl : List Str} {us : List V}, f ∉ fl → (fl.zip us).lookup f = none
  | [], _, _ => rfl
  | g :: fl, [], _ => rfl
  | g :: fl, u :: us, h => by
    have ne : (f == g) = false := by
      rw [beq_eq_false_iff_ne]
      rintro rfl
      exact h List.mem_cons_self
    simp only [List.zip_cons_cons, List.lookup, ne]
    exact lookup_zip_none fun m => h (List.mem_cons_of_mem _ m)
theorem MethV.of_fn {M : Mo} {k j c : Nat} {F : Fn} {f : Addr} {fd : FuncData} {ps : List Str} (G : FnG M.prog M.w M.T.K M.mg M.base CX0 j f fd ps (spF M.T F)) (hj : j ≤ k) (hc : Cls M.T.K (M.T.cls c)) (hm : Meth M.T.K (M.T.cls c) F.name f) (hf : F.name ∉ M.T.fld c) (hb : Binds M.T.K fd ps []) : MethV M k F c :=
  fun P X O o e es eo ea ap pos pl ho ha hs hp ht => by
    refine impE (g_meth (C := M.T.cls c) (dvs := []) (ds := []) (E := E0) ho (by rw [O.ek]; exact hc) (by rw [O.ek]; exact hm) (G.at O) (O.room.mono hj) O.o.g (by rw [O.ek]; exact hb) .nil passes0 ha hs hp ht) fun σ H Q ⟨ρ, θ, G, S, h⟩ => ?_
    unfold wE at h
    refine rd_of S h fun v ρ1 x qs θ1 G1 H1 ⟨fs, ev, h⟩ s1 S1 r1 f1 n1 => ?_
    subst ev
    obtain ⟨z, r0⟩ := r1
    subst z
    obtain ⟨a, dx, us, rfl, ea', el, _⟩ := Rep.ins_inv r0
    rw [O.T] at ea'
    refine ⟨a, dx, _, rfl, S1.gh _ _ ea', lookup_zip_none hf, rdA_of S1 h fun ws ρ2 vs qss θ2 G2 H2 h2 s2 S2 r2 f2 n2 => ?_⟩
    rw [List.append_nil, ← O.T]
    exact call_ok (vs := .ref a :: vs) (qss := [] :: qss) h2 (s1.trans s2) S2 ⟨⟨rfl, Rep.mono s2.g _ _ r0⟩, r2⟩ f2 fun b hb => s1.d b (n2 b hb)
theorem PropV.of_fn {M : Mo} {k j c : Nat} {F : Fn} {f p : Addr} {fd : FuncData} {ps : List Str} (G : FnG M.prog M.w M.T.K M.mg M.base CX0 j f fd ps (spF M.T F)) (hj : j + 1 ≤ k) (hc : Cls M.T.K (M.T.cls c)) (hm : PropOf M.T.K (M.T.cls c) F.name p f) (hb : Binds M.T.K fd ps []) : PropV M k F c :=
  fun P X O o eo pos ho hab => by
    refine impE (g_prop (C := M.T.cls c) (dvs := []) (ds := []) (E := E0) ho (by rw [O.ek]; exact hc) (by rw [O.ek]; exact hm) (G.at O) (O.room.mono hj) O.o.g (by rw [O.ek]; exact hb) .nil (fun e' s' pins σ H s _ h => h) hab) fun σ H Q ⟨ρ, θ, G, S, h⟩ => ?_
    unfold wE at h
    refine rd_of S h fun v ρ1 x qs θ1 G1 H1 ⟨fs, ev, h⟩ s1 S1 r1 f1 n1 => ?_
    subst ev
    obtain ⟨z, r0⟩ := r1
    subst z
    obtain ⟨a, dx, us, rfl, ea', el, _⟩ := Rep.ins_inv r0
    rw [O.T] at ea'
    refine ⟨a, dx, _, rfl, S1.gh _ _ ea', ?_⟩
    rw [← O.T]
    exact call_ok (vs := [.ref a]) (qss := [[]]) (ws := [.dat (.ins c fs)]) h s1 S1 ⟨⟨rfl, r0⟩, trivial⟩ Fr.nil fun b hb => by cases hb

/-! ### built-in functions, by name -/
def bltNm : Blt → Str
  | .len => "len" | .int => "int" | .abs => "abs" | .max2 => "max" | .min2 => "min" | .max => "max" | .min => "min"
  | .sorted => "sorted" | .list => "list" | .tuple => "tuple" | .repr => "repr"
theorem blt_boot (b : Blt) : bootBuiltins (bltNm b) = some (bltV b) := by cases b <;> decide +kernel
theorem blt_nm (b : Blt) : bltNm b ≠ "__name__" ∧ (bltNm b == ("__debug__" : Str)) = false := by cases b <;> decide +kernel
section
variable {P : Par} {X : Cx} {pos p : Pos} {e : Expr} {es : List Expr} {ea eb : E}
theorem s_blt (O : Okx P X) (b : Blt) (hg : Gl X (bltNm b)) (hm : X.mg (bltNm b) = none) (ha : PA X (e :: es) (rdA P ea)) (hs : starEach (e :: es) X.env = (false, eval e X.env) :: starEach es X.env) (hp : (backTo pos (starEach es X.env)).any (·.1) = false) :
    PE X (.Call (.Name (bltNm b) p) (e :: es) [] pos) (rdE P (.blt b ea)) := by
  have hc := call_blt O.k O.calm O.g O.hu b
  refine impE (t := tCB (rBlt P.T b) (rdA P ea)) ?_ fun _ _ _ h => blt_rd h
  have gB : ∀ {id : String}, bltV b = .builtin id → PE X (.Call (.Name (bltNm b) p) (e :: es) [] pos) (tCB (rBlt P.T b) (rdA P ea)) := fun {id} ev => pe_callB (id := id) (by rw [← ev]; exact hc) hg hm (by rw [← ev]; exact blt_boot b) ha (blt_nm b).1 (blt_nm b).2 hs hp
  have gT : ∀ {id : String}, bltV b = .type id → PE X (.Call (.Name (bltNm b) p) (e :: es) [] pos) (tCB (rBlt P.T b) (rdA P ea)) := fun {id} ev => pe_callTy (T := id) (by rw [← ev]; exact hc) hg hm (by rw [← ev]; exact blt_boot b) ha (blt_nm b).1 (blt_nm b).2 hs hp
  cases b <;> first | exact gB rfl | exact gT rfl
/-! isinstance -/
def icNm : Ic → Str
  | .int => "int" | .bool => "bool" | .tuple => "tuple" | .list => "list" | .cls _ => ""
def icTy : Ic → String
  | .int => "int" | .bool => "bool" | .tuple => "tuple" | .list => "list" | .cls _ => ""
/-- what the class at C must be -/
structure ClsK (K : PySem.W.Frag) (C : Addr) : Prop where
  cl : Cls K C
  ha : PySem.W.findIn K (.ref C) "__class__" = some (some (.builtin "object.__class__"))
  hn : PySem.W.specialIn K (.builtin "object.__class__") "__get__" = some (some (.builtin "getset_descriptor.__get__"))
  htk : PySem.W.takesIn K (.builtin "object.__class__") = some true
  hm : PySem.W.mroIn K C (.type "object") = some true
  ty : ∀ t ∈ ["NoneType", "bool", "int", "str", "tuple", "list", "dict"], PySem.W.kitOne K (.type t) (.ref C) = some false
  oty : ∀ t ∈ ["int", "bool", "tuple", "list"], PySem.W.kitOne K (.ref C) (.type t) = some false
  self : PySem.W.kitOne K (.ref C) (.ref C) = some true
/-- the type of a value -/
def tyOf (T : Tbl) : Sl → Option Value
  | .dat .non => some (.type "NoneType")
  | .dat (.bl _) => some (.type "bool")
  | .dat (.int _) => some (.type "int")
  | .dat (.str _) => some (.type "str")
  | .dat (.tup _) => some (.type "tuple")
  | .dat (.lst _) => some (.type "list")
  | .own (.lst _) => some (.type "list")
  | .own (.ll _) => some (.type "list")
  | .dat (.dk _ _) => some (.type "dict")
  | .dat (.dt _ _) => some (.type "dict")
  | .own (.dk _ _) => some (.type "dict")
  | .own (.dt _ _) => some (.type "dict")
  | .dat (.ins c _) => some (.ref (T.cls c))
  | .dat (.scr _) => none
theorem ty_of {T : Tbl} {G H : Hp} {v : V} {x : Sl} {t : Value} (hK : ∀ c fs, x = .dat (.ins c fs) → ClsK T.K (T.cls c)) (eg : Ex G H) (h : RepC T G H v x) (e : tyOf T x = some t) : TyX T.K H v t := by
  cases x with
  | dat d =>
    cases d with
    | non => cases e; obtain rfl := Rep.non_inv (T := T) (G := G) h; exact .base .non
    | bl b => cases e; obtain rfl := Rep.bl_inv (T := T) (G := G) h; exact .base (.bl _)
    | int b => cases e; obtain rfl := Rep.int_inv (T := T) (G := G) h; exact .base (.int _)
    | str b => cases e; obtain rfl := Rep.str_inv (T := T) (G := G) h; exact .base (.str _)
    | tup ds => cases e; obtain ⟨p, us, rfl, h1, _⟩ := Rep.tup_inv h; exact .base (.tup (eg _ _ h1))
    | lst ds => cases e; obtain ⟨p, us, rfl, h1, _⟩ := Rep.lst_inv h; exact .base (.lst (eg _ _ h1))
    | dk ks ds => cases e; obtain ⟨p, us, rfl, h1, _⟩ := Rep.dk_inv h; exact .base (.dK (eg _ _ h1))
    | dt ks ds => cases e; obtain ⟨p, us, rfl, h1, _⟩ := Rep.dt_inv h; exact .base (.dT (eg _ _ h1))
    | ins c fs =>
      cases e
      obtain ⟨p, dx, us, rfl, h1, _⟩ := Rep.ins_inv h
      have k := hK c fs rfl
      exact .base (.ins (eg _ _ h1) k.cl k.ha k.hn k.htk k.hm)
    | scr ns => cases e
  | own t' =>
    obtain ⟨p, r, rfl, ho⟩ := h
    cases t' with
    | lst ds => cases e; obtain ⟨_, us, h1, _⟩ := ho; exact .base (.lst h1)
    | ll dss => cases e; exact .base (.lst ho.1)
    | dk ks ds => cases e; obtain ⟨_, us, h1, _⟩ := ho; exact .base (.dK h1)
    | dt ks ds => cases e; obtain ⟨_, us, h1, _⟩ := ho; exact .base (.dT h1)
theorem isa_rd {c : Ic} {cv' : V} {u : Value} {σ : List (Option V)} {H : Hp} {Q : VK} (hk : ClsV cv' u) (hK : ∀ x k, isa x c = some k → (∀ c' fs, x = .dat (.ins c' fs) → ClsK P.T.K (P.T.cls c')) ∧ ∃ t, tyOf P.T x = some t ∧ PySem.W.kitOne P.T.K t u = some k) (h : rdE P (.isa ea c) σ H Q) : tCB (rIsi P.T.K) (tCons (rdE P ea) (tCons (tC cv') tNil)) σ H Q := by
  obtain ⟨ρ, θ, G, S, h⟩ := h
  unfold wE at h
  refine rd_of S h fun v ρ1 x qs θ1 G1 H1 ⟨sx, k, e1, e2, q⟩ s1 S1 r1 f1 n1 => ?_
  obtain ⟨k1, t, k2, k3⟩ := hK sx k e2
  exact ⟨x, cv', t, u, k, rfl, hk, ty_of k1 S1.gh (cv_rep S1 r1 e1) k2, k3, q.dat s1 S1 Rep.bl⟩
theorem s_isaT {c : Ic} {a : Expr} {p2 : Pos} (O : Okx P X) (hn : ∀ n, c ≠ .cls n) (ho : ∀ c, ClsK P.T.K (P.T.cls c)) (hg : Gl X "isinstance") (hm : X.mg "isinstance" = none) (hg2 : Gl X (icNm c)) (hm2 : X.mg (icNm c) = none) (ha : PE X a (rdE P ea)) (hs : starEach [a, .Name (icNm c) p2] X.env = (false, eval a X.env) :: starEach [.Name (icNm c) p2] X.env) (hs2 : starEach [.Name (icNm c) p2] X.env = (false, eval (.Name (icNm c) p2) X.env) :: starEach [] X.env) (hp : (backTo pos (starEach [.Name (icNm c) p2] X.env)).any (·.1) = false) :
    PE X (.Call (.Name "isinstance" p) [a, .Name (icNm c) p2] [] pos) (rdE P (.isa ea c)) := by
  have ht : PE X (.Name (icNm c) p2) (tC (.ty (icTy c))) := by
    cases c with
    | cls n => exact absurd rfl (hn n)
    | int => exact pe_bltn (u := .type "int") hg2 hm2 (by decide +kernel) rfl (by decide +kernel) (by decide +kernel)
    | bool => exact pe_bltn (u := .type "bool") hg2 hm2 (by decide +kernel) rfl (by decide +kernel) (by decide +kernel)
    | tuple => exact pe_bltn (u := .type "tuple") hg2 hm2 (by decide +kernel) rfl (by decide +kernel) (by decide +kernel)
    | list => exact pe_bltn (u := .type "list") hg2 hm2 (by decide +kernel) rfl (by decide +kernel) (by decide +kernel)
  refine impE (pe_callB call_isi hg hm (by decide +kernel) (pa_cons ha (pa_cons ht pa_nil hs2) hs) (by decide +kernel) (by decide +kernel) hs hp) fun σ H Q h => ?_
  rw [O.k]
  refine isa_rd (.ty _) (fun x k e => ⟨fun c' fs _ => ho c', ?_⟩) h
  cases c with
  | cls n => exact absurd rfl (hn n)
  | _ =>
    cases x with
    | dat d => cases d <;> first | (cases e; exact ⟨_, rfl, kit_ty (by decide +kernel)⟩) | (cases e; exact ⟨_, rfl, (ho _).oty _ (by decide)⟩) | cases e
    | own t => cases t <;> first | (cases e; exact ⟨_, rfl, kit_ty (by decide +kernel)⟩) | cases e
theorem s_isaC {c : Nat} {x : Str} {a : Expr} {p2 : Pos} (O : Okx P X) (ho : ClsK P.T.K (P.T.cls c)) (hg : Gl X "isinstance") (hm : X.mg "isinstance" = none) (hg2 : Gl X x) (hm2 : X.mg x = some (.ref (P.T.cls c))) (hd : (x == ("__debug__" : Str)) = false) (ha : PE X a (rdE P ea)) (hs : starEach [a, .Name x p2] X.env = (false, eval a X.env) :: starEach [.Name x p2] X.env) (hs2 : starEach [.Name x p2] X.env = (false, eval (.Name x p2) X.env) :: starEach [] X.env) (hp : (backTo pos (starEach [.Name x p2] X.env)).any (·.1) = false) :
    PE X (.Call (.Name "isinstance" p) [a, .Name x p2] [] pos) (rdE P (.isa ea (.cls c))) := by
  refine impE (pe_callB call_isi hg hm (by decide +kernel) (pa_cons ha (pa_cons (pe_glob (v := .ref (P.T.cls c)) hg2 hm2 rfl hd) pa_nil hs2) hs) (by decide +kernel) (by decide +kernel) hs hp) fun σ H Q h => ?_
  rw [O.k]
  refine isa_rd (.own _) (fun y k e => ?_) h
  cases y with
  | dat d =>
    cases d with
    | ins c' fs =>
      have e' : (if c' = c then some true else none) = some k := e
      by_cases z : c' = c
      · subst z
        rw [if_pos rfl] at e'; cases e'
        exact ⟨fun c2 fs2 q => (by cases q; exact ho), _, rfl, ho.self⟩
      · rw [if_neg z] at e'; cases e'
    | scr ns => cases e
    | _ =>
      cases e
      exact ⟨fun c2 fs2 q => by simp at q, _, rfl, ho.ty _ (by simp)⟩
  | own t =>
    cases t <;> (cases e; exact ⟨fun c2 fs2 q => by simp at q, _, rfl, ho.ty _ (by simp)⟩)
end
end Cw
/-! Cw: a def keeps its promise. -/
namespace Cw
open PySem PySem.Spec PyProof.Rows L2

def flat : Sl → Prop
  | .own (.ll _) => False
  | _ => True
/-- the changed arguments still stand -/
def okB (modes : List Bool) (as : List Sl) (ρ : Ro) : Prop := ∀ i : Nat, modes[i]? = some true → ∀ t, as[i]? = some (.own t) → flat (.own t) ∧ ∃ x, slOf ρ i = some x ∧ flat x
def endB (modes : List Bool) (ρ : Ro) : List Sl := (List.range modes.length).map fun i => (slOf ρ i).getD (.dat .non)
/-- what a def gives back -/
def rtF (modes : List Bool) (as : List Sl) (Q : Sl → List Sl → Prop) (w : W) (ρ : Ro) : Prop := match w with
  | .dat d => okB modes as ρ ∧ Q (.dat d) (endB modes ρ)
  | .own t => okB modes as ρ ∧ Q (.own t) (endB modes ρ)
  | .brw i => match slOf ρ i with
    | some (.dat d) => okB modes as ρ ∧ Q (.dat d) (endB modes ρ)
    | some (.own t) => (modes.length ≤ i ∧ okB modes as ρ ∧ Q (.own t) (endB modes ρ)) ∨ (okB modes as (ρ.set i (some (.dat t.toD))) ∧ Q (.dat t.toD) (endB modes (ρ.set i (some (.dat t.toD)))))
    | none => False
  | .br2 _ _ => False
def finD (modes : List Bool) (as : List Sl) (Q : Sl → List Sl → Prop) : En where
  nx := rtF modes as Q (.dat .non)
  rt := rtF modes as Q
def startR (n : Nat) (as : List Sl) : Ro := as.map some ++ List.replicate (n - as.length) none

section
variable {T : Tbl} {G H : Hp}
theorem RepAs.len : ∀ {vs : List V} {qss : List (List Addr)} {as : List Sl}, RepAs T G H vs qss as → vs.length = as.length ∧ qss.length = as.length
  | [], [], [], _ => ⟨rfl, rfl⟩
  | v :: vs, qs :: qss, a :: as, h => by
    obtain ⟨h1, h2⟩ := RepAs.len h.2
    exact ⟨by simp [h1], by simp [h2]⟩
  | [], [], _ :: _, h => h.elim
  | [], _ :: _, _, h => by cases h
  | _ :: _, [], _, h => by cases h
  | _ :: _, _ :: _, [], h => by cases h
theorem RepAs.at : ∀ {vs : List V} {qss : List (List Addr)} {as : List Sl} {i : Nat} {x : Sl}, RepAs T G H vs qss as → as[i]? = some x → ∃ v, vs[i]? = some v ∧ RepS T G H v (qss.getD i []) x
  | v :: vs, qs :: qss, a :: as, 0, x, h, e => by
    cases e
    exact ⟨v, rfl, h.1⟩
  | v :: vs, qs :: qss, a :: as, i + 1, x, h, e => RepAs.at (vs := vs) (qss := qss) (as := as) (i := i) h.2 (by simpa using e)
  | [], [], [], _, _, _, e => by cases e
  | [], [], _ :: _, _, _, h, _ => h.elim
  | [], _ :: _, _, _, _, h, _ => by cases h
  | _ :: _, [], _, _, _, h, _ => by cases h
  | _ :: _, _ :: _, [], _, _, h, _ => by cases h
theorem mem_flat {qss : List (List Addr)} {i : Nat} {a : Addr} (h : a ∈ qss.getD i []) : a ∈ qss.flatten := by
  rw [List.getD_eq_getElem?_getD] at h
  cases e : qss[i]? with
  | none => rw [e] at h; cases h
  | some qs =>
    rw [e] at h
    exact List.mem_flatten.mpr ⟨qs, List.mem_of_getElem? e, h⟩
theorem nodup_at : ∀ {qss : List (List Addr)} {i j : Nat} {a : Addr}, qss.flatten.Nodup → a ∈ qss.getD i [] → a ∈ qss.getD j [] → i = j
  | [], _, _, _, _, h, _ => by simp at h
  | qs :: qss, 0, 0, _, _, _, _ => rfl
  | qs :: qss, 0, j + 1, a, nd, h1, h2 => by
    rw [List.flatten_cons] at nd
    exact absurd rfl ((List.nodup_append.mp nd).2.2 a (by simpa using h1) a (mem_flat (by simpa using h2)))
  | qs :: qss, i + 1, 0, a, nd, h1, h2 => by
    rw [List.flatten_cons] at nd
    exact absurd rfl ((List.nodup_append.mp nd).2.2 a (by simpa using h2) a (mem_flat (by simpa using h1)))
  | qs :: qss, i + 1, j + 1, a, nd, h1, h2 => by
    rw [List.flatten_cons] at nd
    exact congrArg (· + 1) (nodup_at (qss := qss) (i := i) (j := j) (a := a) (List.nodup_append.mp nd).2.1 (by simpa using h1) (by simpa using h2))
theorem nodup_in : ∀ {qss : List (List Addr)} {i : Nat}, qss.flatten.Nodup → (qss.getD i []).Nodup
  | [], i, _ => by simp
  | qs :: qss, 0, nd => by
    rw [List.flatten_cons] at nd
    simpa using (List.nodup_append.mp nd).1
  | qs :: qss, i + 1, nd => by
    rw [List.flatten_cons] at nd
    simpa using nodup_in (qss := qss) (i := i) (List.nodup_append.mp nd).2.1
theorem Md.len : ∀ {ms : List Bool} {as : List Sl}, Md ms as → as.length = ms.length
  | [], [], _ => rfl
  | _ :: ms, _ :: as, h => by simp [Md.len h.2]
  | [], _ :: _, h => h.elim
  | _ :: _, [], h => h.elim
theorem Md.at : ∀ {ms : List Bool} {as : List Sl} {i : Nat} {t : Ot}, Md ms as → as[i]? = some (.own t) → ms[i]? = some true
  | m :: ms, a :: as, 0, t, h, e => by
    cases e
    cases m with
    | true => rfl
    | false => obtain ⟨d, z⟩ := h.1 rfl; cases z
  | m :: ms, a :: as, i + 1, t, h, e => Md.at (ms := ms) (as := as) (i := i) h.2 (by simpa using e)
  | [], [], _, _, _, e => by cases e
  | [], _ :: _, _, _, h, _ => h.elim
  | _ :: _, [], _, _, h, _ => h.elim
end

/-- what is fixed in a def's body -/
def parOf (T : Tbl) (H G : Hp) (modes : List Bool) (vs : List V) (qss : List (List Addr)) : Par where
  T := T
  H0 := H
  G0 := G
  A0 := qss.flatten
  fx := List.zipWith (fun m v => if m = true then some v else none) modes vs
theorem fx_at {modes : List Bool} {vs : List V} {i : Nat} {v : V} : (List.zipWith (fun m v => if m = true then some v else none) modes vs)[i]? = some (some v) ↔ modes[i]? = some true ∧ vs[i]? = some v := by
  rw [List.getElem?_zipWith]
  cases e1 : modes[i]? with
  | none => simp
  | some m =>
    cases e2 : vs[i]? with
    | none => simp
    | some u => cases m <;> simp
section
variable {T : Tbl} {G H : Hp} {modes : List Bool} {vs : List V} {qss : List (List Addr)} {as : List Sl}
theorem sim_start {N : List Str} (hl : vs.length = modes.length) (hn : modes.length ≤ N.length) (eg : Ex G H) (md : Md modes as) (r : RepAs T G H vs qss as) (nd : qss.flatten.Nodup) (gn : ∀ a ∈ qss.flatten, G a = none) :
    Sim (parOf T H G modes vs qss) (startR N.length as) (fun i => qss.getD i []) G (L2.start N vs) H := by
  obtain ⟨l1, l2⟩ := r.len
  have l3 := md.len
  have at_ : ∀ {i : Nat} {x : Sl}, (startR N.length as)[i]? = some (some x) → as[i]? = some x := fun {i x} e => by
    unfold startR at e
    by_cases hi : i < as.length
    · rw [List.getElem?_append_left (by simpa using hi), List.getElem?_map] at e
      cases c : as[i]? with
      | none => rw [c] at e; cases e
      | some y => rw [c] at e; cases e; rfl
    · rw [List.getElem?_append_right (by simpa using hi), List.getElem?_replicate] at e
      split at e <;> cases e
  have sv : ∀ {i : Nat} {v : V}, vs[i]? = some v → (L2.start N vs)[i]? = some (some v) := fun {i v} e => by
    unfold L2.start
    have hi := (List.getElem?_eq_some_iff.mp e).1
    rw [List.getElem?_append_left (by simpa using hi), List.getElem?_map, e]; rfl
  exact {
    g0 := Ex.refl _
    gh := eg
    fr := fun a o h _ => h
    gs := fun _ _ _ _ => rfl
    pe := fun _ h => h
    ln := by
      unfold startR L2.start
      simp
      omega
    sl := fun i x e => by
      obtain ⟨v, h1, h2⟩ := r.at (at_ e)
      exact ⟨v, sv h1, h2⟩
    no := fun i h => by
      show qss.getD i [] = []
      cases e : as[i]? with
      | none =>
        have : qss.length ≤ i := by
          rw [l2]; exact List.getElem?_eq_none_iff.mp e
        rw [List.getD_eq_getElem?_getD, List.getElem?_eq_none this]; rfl
      | some x =>
        obtain ⟨v, h1, h2⟩ := r.at e
        cases x with
        | dat d => exact h2.1
        | own t =>
          refine absurd ?_ (h t)
          unfold startR
          have hi := (List.getElem?_eq_some_iff.mp e).1
          rw [List.getElem?_append_left (by simpa using hi), List.getElem?_map, e]; rfl
    gn := fun i a h => gn a (mem_flat h)
    nw := fun i a h => .inr ⟨mem_flat h, by
      show i < (List.zipWith _ modes vs).length
      rw [List.length_zipWith, hl, Nat.min_self, ← l3, ← l2]
      by_cases hi : i < qss.length
      · exact hi
      · have h : a ∈ qss.getD i [] := h
        rw [List.getD_eq_getElem?_getD, List.getElem?_eq_none (by omega)] at h; cases h⟩
    nd := fun i => nodup_in nd
    dj := fun i j a h1 h2 => nodup_at nd h1 h2
    fx := fun i v e => sv (fx_at.mp e).2 }
/-- the arguments behind the body -/
theorem ends_args {ρ' : Ro} {θ' : Nat → List Addr} {G' H' : Hp} {σ' : L2.St} (hl : vs.length = modes.length) (md : Md modes as) (r : RepAs T G H vs qss as) (S : Sim (parOf T H G modes vs qss) ρ' θ' G' σ' H') (ok : okB modes as ρ') :
    ∃ qss', RepBs T G' H' vs qss as qss' (endB modes ρ') ∧ ∀ a ∈ qss'.flatten, G' a = none := by
  have gen : ∀ {ms : List Bool} {vs' : List V} {qss0 : List (List Addr)} {as' : List Sl} (n : Nat), Md ms as' → RepAs T G H vs' qss0 as' → (∀ i v t, as'[i]? = some (.own t) → vs'[i]? = some v → σ'[n + i]? = some (some v) ∧ flat (.own t) ∧ ∃ x, slOf ρ' (n + i) = some x ∧ flat x) →
      ∃ qss', RepBs T G' H' vs' qss0 as' qss' ((List.range' n ms.length).map fun i => (slOf ρ' i).getD (.dat .non)) ∧ ∀ a ∈ qss'.flatten, G' a = none := by
    intro ms
    induction ms with
    | nil =>
      intro vs' qss0 as' n m r h
      cases as' with
      | cons _ _ => exact m.elim
      | nil =>
        cases vs' with
        | cons _ _ => cases qss0 <;> cases r
        | nil =>
          cases qss0 with
          | cons _ _ => exact r.elim
          | nil => exact ⟨[], trivial, fun a z => by cases z⟩
    | cons m ms ih =>
      intro vs' qss0 as' n md r h
      cases as' with
      | nil => exact md.elim
      | cons a as' =>
        cases vs' with
        | nil => cases qss0 <;> exact r.elim
        | cons v vs' =>
          cases qss0 with
          | nil => cases r
          | cons qs qss0 =>
            obtain ⟨qss', h1, h2⟩ := ih (n + 1) md.2 r.2 fun i v t e1 e2 => by
              have := h (i + 1) v t e1 e2
              rw [show n + (i + 1) = n + 1 + i by omega] at this
              exact this
            rw [List.length_cons, List.range'_succ, List.map_cons]
            cases a with
            | dat d =>
              refine ⟨[] :: qss', ⟨rfl, h1⟩, fun b hb => h2 b (by simpa using hb)⟩
            | own t =>
              obtain ⟨k1, k2, x, k3, k4⟩ := h 0 v t rfl rfl
              rw [Nat.add_zero] at k1 k3
              obtain ⟨v', m1, m2⟩ := S.get k3
              rw [k1] at m1; cases m1
              refine ⟨θ' n :: qss', ⟨?_, h1⟩, fun b hb => ?_⟩
              · rw [k3]
                refine ⟨?_, m2⟩
                cases x with
                | dat d => exact m2.1
                | own u =>
                  obtain ⟨p, q, e1, e2, ho⟩ := m2
                  obtain ⟨p', q', e3, e4, ho'⟩ := r.1
                  rw [e2] at e4; cases e4
                  have nil1 : q = [] := by cases u <;> first | exact ho.1 | exact k4.elim
                  have nil2 : q' = [] := by cases t <;> first | exact ho'.1 | exact k2.elim
                  show θ' n = qs
                  rw [e1, e3, nil1, nil2]
              · rw [List.flatten_cons] at hb
                rcases List.mem_append.mp hb with hb | hb
                · exact S.gn n b hb
                · exact h2 b hb
  have := gen 0 md r fun i v t e1 e2 => by
    have m := md.at e1
    rw [Nat.zero_add]
    exact ⟨S.fx i v (fx_at.mpr ⟨m, e2⟩), ok i m t e1⟩
  rw [← List.range_eq_range'] at this
  exact this
theorem rt_ok {Q : VK} {w : W} {ρ' : Ro} {θ' : Nat → List Addr} {G' H' : Hp} {σ' : L2.St} {v : V} {qs : List Addr} (hl : vs.length = modes.length) (md : Md modes as) (r : RepAs T G H vs qss as) (S : Sim (parOf T H G modes vs qss) ρ' θ' G' σ' H')
    (rw' : RepW (parOf T H G modes vs qss) θ' G' σ' H' v qs w) (f : Fr (parOf T H G modes vs qss) θ' G' qs) (h : rtF modes as (fun r bs => ∀ v qs qss' G' H', EndF T G H vs qss as r bs v qs qss' G' H' → Q v H') w ρ') : Q v H' := by
  have go : ∀ {ρ' : Ro} {θ' : Nat → List Addr} {G' : Hp} {x : Sl} {qs : List Addr}, Sim (parOf T H G modes vs qss) ρ' θ' G' σ' H' → okB modes as ρ' → RepR T G' H' v qs (ofSl x) → qs.Nodup → (∀ a ∈ qs, H a = none ∧ G' a = none) → (∀ v qs qss' G' H', EndF T G H vs qss as x (endB modes ρ') v qs qss' G' H' → Q v H') → Q v H' := fun {ρ' θ' G' x qs} S ok rr nd rf k => by
    obtain ⟨qss', h1, h2⟩ := ends_args hl md r S ok
    exact k v qs qss' G' H' ⟨S.g0, S.gh, fun a o e n => ⟨S.fr a o e n, S.gs a o e n⟩, S.pe, h1, h2, rr, nd, rf⟩
  cases w with
  | dat d =>
    obtain ⟨e, rr⟩ := rw'
    subst e
    exact go (x := .dat d) (qs := []) S h.1 ⟨rfl, rr⟩ List.nodup_nil (fun a z => by cases z) h.2
  | own t => exact go (x := .own t) S h.1 rw' f.1 (fun a ha => ⟨(f.2 a ha).2.1, (f.2 a ha).1⟩) h.2
  | brw i =>
    obtain ⟨e, hv⟩ := rw'
    subst e
    unfold rtF at h
    dsimp only at h
    split at h
    · rename_i d e1
      obtain ⟨v', k1, k2⟩ := S.get e1
      rw [hv] at k1; cases k1
      exact go (x := .dat d) (qs := []) S h.1 ⟨rfl, k2.2⟩ List.nodup_nil (fun a z => by cases z) h.2
    · rename_i t e1
      obtain ⟨p, r', k1, k2, k3⟩ := S.own e1
      rw [hv] at k1; cases k1
      rcases h with ⟨hi, h⟩ | h
      · refine go (x := .own t) (qs := θ' i) S h.1 ⟨p, r', k2, rfl, k3⟩ (S.nd i) (fun a ha => ⟨?_, S.gn i a ha⟩) h.2
        rcases S.nw i a ha with q | q
        · exact q
        · have : i < (List.zipWith (fun m v => if m = true then some v else none) modes vs).length := q.2
          rw [List.length_zipWith, hl, Nat.min_self] at this
          omega
      · have S2 := S.frz e1
        refine go (x := .dat t.toD) (qs := []) S2 h.1 ⟨rfl, k3.frz (S.gh.grow _) fun a ha o q => by rw [← k2] at ha; rw [grow_in ha]; exact q⟩ List.nodup_nil (fun a z => by cases z) h.2
    · exact h.elim
  | br2 i k => exact h.elim
end
/-- a def's body, read over data, keeps the def's promise -/
theorem fn_ok {M : Mo} {k : Nat} {f : Addr} {name qual : Str} {params : Arguments} {body : List Stmt} {scope : Scope} {dV kV doc pm cdv ct oc : Value} {an od : Option Addr} {osl : Array (Option Value)} {N ps : List Str} {F : Fn} {b : Sm}
    (lk : M.T.K.lookup f = some ⟨oc, od, .func (PySem.W.fnOf name qual params body scope dV kV doc pm an cdv ct), osl⟩) (hcd : PySem.W.codeIn M.T.K cdv qual = true) (hs : FnScope N ps scope) (hm : F.modes.length = ps.length)
    (hb : ∀ (P : Par) (X : Cx), Onx P M k X → X.env.scope = scope → X.N = N → X.fn = (fun _ => true) → (∀ i : Nat, (∃ v, P.fx[i]? = some (some v)) → F.modes[i]? = some true) → PassesOwn (model X.prog X.w) X.A X.env X.xe → PSs X body (rdS P b))
    (hsp : ∀ (as : List Sl) (Q : Sl → List Sl → Prop), F.sp as Q → Md F.modes as → wS b (finD F.modes as Q) (startR N.length as)) :
    FnG M.prog M.w M.T.K M.mg M.base CX0 (k + 1) f (PySem.W.fnOf name qual params body scope dV kV doc pm an cdv ct) ps (spF M.T F) := by
  refine fnG_of lk hcd hs (fun vs H Q E h => h.1.trans hm) fun A out s H vs Q E hr hg e0 h => ?_
  obtain ⟨hl, G, as, qss, eg, md, r, nd, gn, h⟩ := h
  have hn : F.modes.length ≤ N.length := by
    have := congrArg List.length hs.pre
    rw [List.length_take] at this
    omega
  let P := parOf M.T H G F.modes vs qss
  have O : Onx P M k (cxOf CX0 M.prog M.w M.T.K M.mg M.base N qual scope f cdv A out s H E) := ⟨⟨rfl, rfl, Nat.lt_of_le_of_lt (Nat.add_le_add_right (Nat.le_add_right _ (16 * k)) 200) hr.un, hg, hs.nd⟩, rfl, rfl, rfl, rfl, rfl, hr⟩
  refine ⟨rdS P b, hb P _ O rfl rfl rfl (fun i ⟨v, e⟩ => (fx_at.mp e).1) (passes_of (by rfl)), startR N.length as, fun i => qss.getD i [], G, sim_start hl hn eg md r nd gn, ?_⟩
  refine wS_mono b ⟨fun ρ y θ' G' σ' H' e S => ?_, fun w ρ y v qs θ' G' σ' H' e S rr ff => rt_ok hl md r S rr ff y, fun _ z => False.elim z, fun _ z => False.elim z⟩ (hsp as _ h md)
  exact rt_ok (w := .dat .non) (qs := []) hl md r S ⟨rfl, Rep.non⟩ Fr.nil y
end Cw
/-! Cw: a list of new lists; chains as tests. -/
namespace Cw
open PySem PySem.Spec PyProof.Rows L2

theorem wip_at {ρ : Ro} {j : Nat} : ∀ {vs : List Nat}, j ∉ vs → (wip ρ vs)[j]? = ρ[j]?
  | [], _ => rfl
  | v :: vs, h => by
    unfold wip
    rw [List.getElem?_set_ne fun e => h (by rw [e]; exact List.mem_cons_self)]
    exact wip_at fun m => h (List.mem_cons_of_mem _ m)
theorem unwip_at {old : Ro} {j : Nat} : ∀ (vs : List Nat) (ρ : Ro), (unwip old vs ρ)[j]? = if j ∈ vs then (if j < ρ.length then some (match slOf old j with | some (.dat d) => some (.dat d) | _ => none) else none) else ρ[j]?
  | [], ρ => by simp [unwip]
  | v :: vs, ρ => by
    unfold unwip
    by_cases e : j = v
    · subst e
      rw [if_pos List.mem_cons_self]
      by_cases hl : j < ρ.length
      · rw [List.getElem?_set_self (by rw [unwip_len]; exact hl), if_pos hl]
        all_goals rfl
      · rw [List.getElem?_eq_none (by rw [List.length_set, unwip_len]; omega), if_neg hl]
    · rw [List.getElem?_set_ne (Ne.symm e), unwip_at vs ρ]
      by_cases m : j ∈ vs
      · rw [if_pos m, if_pos (List.mem_cons_of_mem _ m)]
      · rw [if_neg m, if_neg (by simp [e, m])]
theorem unwip_ext {old ρ ρ' : Ro} {vs : List Nat} (hl : ρ'.length = ρ.length) (h : ∀ j, j ∉ vs → ρ'[j]? = ρ[j]?) : unwip old vs (wip ρ' vs) = unwip old vs (wip ρ vs) := by
  apply List.ext_getElem?
  intro j
  rw [unwip_at, unwip_at, wip_len, wip_len, hl]
  by_cases m : j ∈ vs
  · rw [if_pos m, if_pos m]
  · rw [if_neg m, if_neg m, wip_at m, wip_at m, h j m]
theorem RepI.app {T : Tbl} {G H : Hp} {q : Addr} {us : List V} {ds : List D} (h1 : H q = some (.lst us)) (h2 : RepL T G ds us) : ∀ {dss : List (List D)} {qs : List Addr}, RepI T G H dss qs → RepI T G H (dss ++ [ds]) (qs ++ [q])
  | [], qs, r => by rw [show qs = [] from r]; exact ⟨q, [], us, rfl, h1, h2, rfl⟩
  | d :: dss, _, ⟨q', r, us', rfl, k1, k2, k3⟩ => ⟨q', r ++ [q], us', rfl, k1, k2, k3.app h1 h2⟩
theorem RepI.len {T : Tbl} {G H : Hp} : ∀ {dss : List (List D)} {qs : List Addr}, RepI T G H dss qs → dss.length = qs.length
  | [], qs, r => by rw [show qs = [] from r]; rfl
  | d :: dss, _, ⟨q', r, us', rfl, k1, k2, k3⟩ => by simp [k3.len]
section
variable {P : Par} {X : Cx} {σ : List (Option V)}
theorem lcl_rd {vs : List Nat} {i : Nat} {k : Ik} {ea : E} {H : Hp} {Q : VK} (off : Off P vs) (hi : i ∈ vs) (h : rdE P (.lcl vs i k ea) σ H Q) : tLc (rdI P false k ea) (rdG P (.nm i)) tYes (tLst tNil) vs σ H Q := by
  obtain ⟨ρ, θ, G, S, h⟩ := h
  unfold wE at h
  unfold tLc
  refine ⟨ρ, θ, G, S, wA_mono ea _ _ _ (fun ws ρ1 h => walkZ_mono (fun s ρ2 h J θ1 G1 H1 s1 S1 fd D hD => ?_) h) h⟩
  obtain ⟨hgd, hz, hq⟩ := h
  let Wi : Nat → Hp → Prop := fun n H' => n ≤ s.items.length ∧ ∃ ρ' θ' G' qs, Sim P (wip ρ' vs) θ' G' (L2.wipe σ vs) H' ∧ Stp θ1 G1 H1 θ' G' H' ∧ H' D = some (.lst (qs.map V.ref)) ∧ RepI P.T G' H' (List.replicate n []) qs ∧ (D :: qs).Nodup ∧
    (∀ a ∈ D :: qs, H1 a = none ∧ P.H0 a = none ∧ G' a = none ∧ ∀ j, a ∉ θ' j) ∧ ρ'.length = ρ2.length ∧ (∀ j, j ∉ vs → ρ'[j]? = ρ2[j]?)
  have gdk : ∀ {ρ' : Ro}, (∀ j, j ∉ vs → ρ'[j]? = ρ2[j]?) → gdOk s.gd (wip ρ' vs) := fun {ρ'} hr => by
    unfold gdOk at hgd ⊢
    split at hgd
    · trivial
    · rename_i j t e
      have nj : j ∉ vs := fun m => by rw [wip_in m] at hgd; cases hgd
      rw [wip_out nj] at hgd ⊢
      unfold slOf at hgd ⊢
      rw [hr j nj]; exact hgd
  obtain ⟨θ2, L0⟩ := LcSt.begin S1 off hD
  refine ⟨fun n m H' => m = s.items.length - n ∧ Wi n H', ⟨_, rfl, Nat.zero_le _, ρ2, θ2, G1, [], L0.S, L0.st, upd_same, rfl, by simp, fun a ha => ?_, rfl, fun _ _ => rfl⟩, ?_⟩
  · have e : a = D := by simpa using ha
    subst e
    exact ⟨hD, L0.h0, L0.gn, L0.no⟩
  rintro n m H' ⟨rfl, hn, ρ', θ', G', qs, S', st, hD', hI, nd, fr, hl, hr⟩
  obtain ⟨k1, k2, k3⟩ := fd n _ θ' G' H' _ st.g S' gd_wipe (gdk hr)
  by_cases hlt : n < s.items.length
  · refine .inr ⟨k1 hlt, Wi (n + 1), fun H'' w => ⟨_, by omega, rfl, w⟩, fun x H'' hy => ?_⟩
    obtain ⟨G2, d, e1, q1, q2, q3, q4, q5⟩ := k3 x H'' hlt hy
    obtain ⟨S2, s2⟩ := S'.more q1 q2 q3 q4
    have oi : Off P (Tg.nm i).slots := fun j hj => by
      have e : j = i := by simpa [Tg.slots] using hj
      subst e; exact off j hi
    refine ⟨_, θ', G2, d, S2, q5, oi, fun σ2 θ3 S3 t3 f3 l3 => ?_⟩
    have w3 : L2.wipe σ2 vs = L2.wipe σ vs := (wipe_of (t := (Tg.nm i).slots) (fun j hj => by
      have e : j = i := by simpa [Tg.slots] using hj
      subst e; exact hi) f3 l3).trans (wipe_wipe σ vs)
    refine ⟨w3, ?_⟩
    refine tYes_true ⟨Nat.zero_le _, fun p hp => ?_⟩
    have s3 : Stp θ' G' H' θ3 G2 H'' := s2.trans (Stp.names t3)
    have st3 := st.trans s3
    obtain ⟨θ8, S8, t8⟩ := S3.wipe off
    rw [w3] at S8
    obtain ⟨S9, s9⟩ := S8.more (Ex.new (o := .lst []) hp) (Ex.refl G2) (S8.gh.trans (Ex.new hp)) fun _ _ _ => rfl
    have st9 : Stp θ1 G1 H1 θ8 G2 (upd H'' p (.lst [])) := (st3.trans (Stp.names t8)).trans s9
    have stay : ∀ a ∈ D :: qs, ∀ o, H' a = some o → H'' a = some o ∧ G2 a = none := fun a ha o e => by
      obtain ⟨z1, z2⟩ := s3.h a o e (fr a ha).2.2.2
      exact ⟨z1, z2.trans (fr a ha).2.2.1⟩
    have hDD := stay D List.mem_cons_self _ hD'
    have npD : D ≠ p := fun e => by rw [e] at hDD; rw [hp] at hDD; cases hDD.1
    have thr : ∀ a ∈ qs, ∃ o, H' a = some o := hI.there
    have npq : ∀ a ∈ qs, a ≠ p := fun a ha e => by
      obtain ⟨o, ho⟩ := thr a ha
      have := (stay a (List.mem_cons_of_mem _ ha) o ho).1
      rw [e, hp] at this; cases this
    obtain ⟨nD, nq⟩ := List.nodup_cons.mp nd
    have ql : qs.length = n := by
      have := hI.len
      rw [List.length_replicate] at this
      exact this.symm
    refine ⟨qs.map V.ref, by rw [upd_ne npD]; exact hDD.1, by rw [List.length_map, ql]; omega, ?_⟩
    have sub8 : ∀ {a : Addr} {j : Nat}, a ∈ θ8 j → a ∈ θ' j := fun {a j} m => s3.sub ((Stp.names (G := G2) (H := H'') t8).sub m)
    have mem : ∀ a ∈ D :: (qs ++ [p]), a ∈ D :: qs ∨ a = p := fun a ha => by
      rcases List.mem_cons.mp ha with z | z
      · exact .inl (by rw [z]; exact List.mem_cons_self)
      · rcases List.mem_append.mp z with z | z
        · exact .inl (List.mem_cons_of_mem _ z)
        · exact .inr (by simpa using z)
    have pfree : H1 p = none ∧ P.H0 p = none ∧ G2 p = none ∧ ∀ j, p ∉ θ8 j := ⟨st3.d p hp, S3.pe p hp, S3.gh.none hp, fun j m => by
      obtain ⟨_, _, o, ho⟩ := S8.there m
      rw [hp] at ho; cases ho⟩
    have frs : ∀ a ∈ D :: (qs ++ [p]), H1 a = none ∧ P.H0 a = none ∧ G2 a = none ∧ ∀ j, a ∉ θ8 j := fun a ha => by
      rcases mem a ha with z | z
      · obtain ⟨f1, f2, f3, f4⟩ := fr a z
        refine ⟨f1, f2, ?_, fun j m => f4 j (sub8 m)⟩
        rcases List.mem_cons.mp z with rfl | z'
        · exact hDD.2
        · obtain ⟨o, ho⟩ := thr a z'
          exact (stay a z o ho).2
      · rw [z]; exact pfree
    refine ⟨hlt, (wip ρ' vs).set i (some (.dat d)), θ8, G2, qs ++ [p], ?_, ?_, ?_, ?_, ?_, frs, ?_, ?_⟩
    · refine S9.heap (as := [D]) (Ex.refl _) (fun a o e => ?_) (fun a o e z => ⟨by rw [upd_ne (by simpa using z)]; exact e, rfl⟩) (fun a h => ?_) fun a ha => ?_
      · by_cases ha : a = D
        · subst ha; rw [hDD.2] at e; cases e
        · rw [upd_ne ha]; exact S9.gh a o e
      · by_cases ha : a = D
        · subst ha; rw [upd_same] at h; cases h
        · rw [upd_ne ha] at h; exact h
      · have e : a = D := by simpa using ha
        subst e
        exact ⟨(frs a List.mem_cons_self).2.2.2, .inl (frs a List.mem_cons_self).2.1⟩
    · refine ⟨fun a o e z => ?_, st9.t, st9.g, fun a h => ?_⟩
      · obtain ⟨z1, z2⟩ := st9.h a o e z
        exact ⟨by rw [upd_ne fun q => by rw [q, hD] at e; cases e]; exact z1, z2⟩
      · by_cases ha : a = D
        · subst ha; rw [upd_same] at h; cases h
        · rw [upd_ne ha] at h; exact st9.d a h
    · rw [List.map_append, upd_same]; rfl
    · rw [List.replicate_succ']
      refine RepI.app (us := []) (by rw [upd_ne (Ne.symm npD), upd_same]) RepL.nil (hI.stay s3.g fun a ha o e => ?_)
      rw [upd_ne fun q => nD (by rw [← q]; exact ha), upd_ne (npq a ha)]
      exact (stay a (List.mem_cons_of_mem _ ha) o e).1
    · refine List.nodup_cons.mpr ⟨fun m => ?_, List.nodup_append.mpr ⟨nq, by simp, fun a ha b hb e => ?_⟩⟩
      · rcases List.mem_append.mp m with z | z
        · exact nD z
        · exact npD (by simpa using z)
      · have e' : b = p := by simpa using hb
        exact npq a ha (e.trans e')
    · rw [List.length_set, wip_len]; exact hl
    · intro j hj
      rw [List.getElem?_set_ne fun e => hj (by rw [← e]; exact hi), wip_at hj]
      exact hr j hj
  · have e : n = s.items.length := by omega
    subst e
    refine .inl ⟨k2 (Nat.le_refl _), hq (.ref D) (D :: qs) θ' G' H' (s1.trans st) ?_ ⟨D, qs, rfl, rfl, hD', hI⟩ ⟨nd, fun a ha => ⟨(fr a ha).2.2.1, (fr a ha).2.1, (fr a ha).2.2.2⟩⟩ fun a ha => s1.d a (fr a ha).1⟩
    have := S1.unwip S' off st.g
    rw [unwip_ext hl hr] at this
    exact this
theorem s_lcl (O : Okx P X) {x : Str} {xp lp : Pos} {iter : Expr} {scope : Scope} {own : List (Str × Nat)} {pos : Pos} {i : Nat} {k : Ik} {ea : E} (off : Off P (own.map (·.2))) (hx : i ∈ own.map (·.2)) (hi : PI X (.Name x xp) iter (rdI P false k ea)) (ok : BlkOk X.N X.env.scope scope own)
    (hg : ∀ (s : Shared) (H : Hp) (C : Addr) (cl : List (Str × Addr)) (fp : List Addr), PG (X.blk s H scope (compEnvC scope cl C X.env) fp) (.Name x xp) (rdG P (.nm i))) (hs : ∀ y, foldedSetIterable iter X.env y = pure y) :
    PE X (.ListComp (.List [] lp) [⟨.Name x xp, iter, [], 0⟩] scope pos) (rdE P (.lcl (own.map (·.2)) i k ea)) := impE (pe_lc O.calm O.nd hi ok hg (fun _ _ _ _ _ => pts_nil) (fun _ _ _ _ _ => pe_lst pa_nil) hs) fun _ _ _ h => lcl_rd off hx h
theorem ss_setLcl (O : Okx P X) {x y : Str} {xp lp py spos : Pos} {iter : Expr} {scope : Scope} {own : List (Str × Nat)} {pos : Pos} {i j : Nat} {k : Ik} {ea : E} (hy : X.N[j]? = some y) (hyl : X.env.scope.names.lookup y = some .local) (hsw : swapsWith (.ListComp (.List [] lp) [⟨.Name x xp, iter, [], 0⟩] scope pos) (some (.Name y py)) spos.line X.env = pure true) (offj : Off P [j])
    (off : Off P (own.map (·.2))) (hx : i ∈ own.map (·.2)) (hi : PI X (.Name x xp) iter (rdI P false k ea)) (ok : BlkOk X.N X.env.scope scope own)
    (hg : ∀ (s : Shared) (H : Hp) (C : Addr) (cl : List (Str × Addr)) (fp : List Addr), PG (X.blk s H scope (compEnvC scope cl C X.env) fp) (.Name x xp) (rdG P (.nm i))) (hs : ∀ y, foldedSetIterable iter X.env y = pure y) :
    PS X (.Assign [.Name y py] (.ListComp (.List [] lp) [⟨.Name x xp, iter, [], 0⟩] scope pos) spos) (rdS P (.asg (.nm j) (.lcl (own.map (·.2)) i k ea))) :=
  impSI (ps_setLc O.calm O.nd hy hyl hsw hi ok hg (fun _ _ _ _ _ => pts_nil) (fun _ _ _ _ _ => pe_lst pa_nil) hs) fun D σ H l h => lcl_rd off hx (asg_rd (by rw [l]; exact (List.getElem?_eq_some_iff.mp hy).1) offj h)
end
section
variable {P : Par} {X : Cx} {a b c : Expr} {ea eb ec : E} {pos : Pos}
theorem t_chn (O : Okx P X) {o p : Cop} (ha : PE X a (rdE P ea)) (hb : PE X b (rdE P eb)) (hc : PE X c (rdE P ec)) (h1 : lastMarks [copA o, copA p] [b, c] = false) :
    PT X (.Compare a [copA o, copA p] [b, c] pos) (rdT P (.chn o p ea eb ec)) := impT (pt_chain (op_cmp O.k O.hu o) (op_cmp O.k O.hu p) ha hb hc h1) fun _ _ _ h => chn_rd h
end
end Cw
/-! Cw: the written text against the small language: side conditions. -/
namespace Cw
open PySem PySem.Spec PyProof.Rows L2

/-! ### heads -/
def noStar : Expr → Bool
  | .Starred .. => false
  | _ => true
def noSet : Expr → Bool
  | .Set .. => false
  | _ => true
def noComp : Expr → Bool
  | .ListComp .. => false
  | .SetComp .. => false
  | .DictComp .. => false
  | _ => true
def noSlice : Expr → Bool
  | .Slice .. => false
  | _ => true
def baseOk : Expr → Bool
  | .Call (.Name id _) [] [] _ => id != "super"
  | _ => true
def plainTest : Expr → Bool
  | .UnaryOp .Not _ _ => false
  | .BoolOp .. => false
  | .IfExp .. => false
  | .Compare .. => false
  | _ => true
theorem star_of {e : Expr} {es : List Expr} {env : Env} (h : noStar e = true) : starEach (e :: es) env = (false, eval e env) :: starEach es env := by
  cases e <;> first | rfl | (simp [noStar] at h)
theorem stars_of : ∀ {es : List Expr} {env : Env} {pos : Pos}, es.all noStar = true → (backTo pos (starEach es env)).any (·.1) = false
  | [], _, _, _ => rfl
  | e :: es, env, pos, h => by
    rw [List.all_cons, Bool.and_eq_true] at h
    rw [star_of h.1]
    unfold backTo
    rw [List.map_cons, List.any_cons]
    have := stars_of (env := env) (pos := pos) h.2
    unfold backTo at this
    rw [this]; rfl
theorem stars_no : ∀ {es : List Expr} {env : Env} {pos : Pos}, es.all noStar = true → (backTo pos (starEach es env)).all (fun x => !x.1) = true
  | [], _, _, _ => rfl
  | e :: es, env, pos, h => by
    rw [List.all_cons, Bool.and_eq_true] at h
    rw [star_of h.1]
    unfold backTo
    rw [List.map_cons, List.all_cons]
    have := stars_no (env := env) (pos := pos) h.2
    unfold backTo at this
    rw [this]; rfl
theorem few_of {X : Cx} {e : Expr} {cp : Pos} (h : noStar e = true) : Few X e cp := by
  unfold Few
  rw [stars_no (es := [e]) (by simp [h])]
  rfl
theorem base_of {o : Expr} {attr : Str} {env : Env} {whole : Sem Value} (h : baseOk o = true) : attributeBase o attr env whole = whole := by
  unfold attributeBase
  split
  · rename_i id _ pos
    have h : (id != "super") = true := h
    simp only [h, Bool.true_or, if_true]
  · rfl
theorem set_of {e : Expr} {env : Env} {x : Value} (h : noSet e = true) : foldedSetIterable e env x = pure x := by
  cases e <;> first | rfl | (simp [noSet] at h)
theorem plain_of {b : Expr} (h : noSlice b = true) : PlainIx b := by
  intro o i
  cases b <;> first | rfl | (simp [noSlice] at h)
theorem test_of {e : Expr} {env : Env} {whole : Sem Value} (h : plainTest e = true) : isTrue e env whole = (do let v ← whole; standAt e.pos; holding [v] (truthy v)) := by
  cases e <;> first | rfl | (simp [plainTest] at h; done) | (rename_i op x p; cases op <;> first | rfl | (simp [plainTest] at h))
theorem sw_of {e : Expr} {tg : Option Expr} {l : Nat} {env : Env} (h : noComp e = true) : swapsWith e tg l env = pure false := by
  cases e <;> first | rfl | (simp [noComp] at h)
/-- the target is no name -/
def noName : Expr → Bool
  | .Name .. => false
  | _ => true
theorem sw_tg {e tg : Expr} {l : Nat} {env : Env} (h : noName tg = true) : swapsWith e (some tg) l env = pure false := by
  cases tg <;> first | (simp [noName] at h; done) | (cases e <;> rfl)
theorem sole_tg {e tg : Expr} {l : Nat} {env : Env} (h : noName tg = true) : swapsWithSole [tg] e l env = pure false := sw_tg h
/-- name = e is stored as it stands -/
def swNo (sc : Scope) (y : Str) (py : Pos) : Expr → Bool
  | .ListComp _ _ s p => !(sc.names.lookup y == some .local && py.line == p.line && !(s.names.any fun (n, k) => n == y && (k == .local || k == .cell)))
  | e => noComp e
theorem sw_no {e : Expr} {y : Str} {py : Pos} {l : Nat} {env : Env} (hk : env.scope.kind = .function) (h : swNo env.scope y py e = true) : swapsWith e (some (.Name y py)) l env = pure false := by
  cases e with
  | ListComp elt gs s p =>
    have hb : env.blockKind = .function := by unfold Env.blockKind; rw [hk]; rfl
    unfold swapsWith
    have h : (!(env.scope.names.lookup y == some .local && py.line == p.line && !(s.names.any fun (n, k) => n == y && (k == .local || k == .cell)))) = true := h
    simp only [hb, Env.kindOf, Expr.pos]
    rw [Bool.not_eq_true'] at h
    show (pure (true && (env.scope.names.lookup y == some .local) && (py.line == p.line) && !(s.names.any fun (n, k) => n == y && (k == .local || k == .cell))) : Sem Bool) = _
    rw [Bool.true_and, h]
  | _ => exact sw_of h
def swYes (sc : Scope) (y : Str) (py : Pos) : Expr → Bool
  | .ListComp _ _ s p => sc.names.lookup y == some .local && py.line == p.line && !(s.names.any fun (n, k) => n == y && (k == .local || k == .cell))
  | _ => false
theorem sw_yes {elt : Expr} {gs : List Comprehension} {s : Scope} {p : Pos} {y : Str} {py : Pos} {l : Nat} {env : Env} (hk : env.scope.kind = .function) (h : swYes env.scope y py (.ListComp elt gs s p) = true) : swapsWith (.ListComp elt gs s p) (some (.Name y py)) l env = pure true ∧ env.scope.names.lookup y = some .local := by
  unfold swYes at h
  simp only [Bool.and_eq_true, beq_iff_eq, Bool.not_eq_true'] at h
  exact ⟨sw_true hk h.1.1 (by simpa using h.1.2) h.2, h.1.1⟩
/-! stores from the right -/
def spNames (sc : Scope) (ts : List Expr) (line : Nat) : List Str := ts.filterMap fun
  | .Name id pos => if sc.names.lookup id == some .local && pos.line == line then some id else none
  | _ => none
def lineOf (ts : List Expr) : Nat := (ts.head?.map (·.pos.line)).getD 0
def spYes (sc : Scope) (ts vs : List Expr) : Bool :=
  (ts.length == 2 || ts.length == 3) && vs.length == ts.length && vs.all noStar && (spNames sc ts (lineOf ts)).length == ts.length && (spNames sc ts (lineOf ts)).eraseDups.length == (spNames sc ts (lineOf ts)).length && !(vs.all (foldedForSure 8)) && !(vs.all (constantsAlone 8))
/-- the tuple is laid, then taken apart -/
def spNo (sc : Scope) : Expr → Expr → Bool
  | .Tuple ts _ _, .Tuple vs _ _ => vs.length != ts.length || (vs.all noStar && ((spNames sc ts (lineOf ts)).length != ts.length || vs.all (foldedForSure 8)))
  | .List .., _ => false
  | _, _ => true
theorem star_any {vs : List Expr} (h : vs.all noStar = true) {f : Expr → Bool} (hf : ∀ x, noStar x = true → f x = false) : vs.any f = false := by
  rw [List.any_eq_false]
  intro x hx
  rw [List.all_eq_true] at h
  rw [hf x (h x hx)]
  exact Bool.false_ne_true
theorem star_not {x : Expr} (h : noStar x = true) : ∀ e p, x ≠ .Starred e p := fun e p q => by
  subst q
  exact Bool.false_ne_true h
theorem sp_yes {ts vs : List Expr} {env : Env} {k k2 : Nat} {p p2 : Pos} (hk : env.scope.kind = .function) (h : spYes env.scope ts vs = true) : swappedStores [.Tuple ts k p] (.Tuple vs k2 p2) env = pure (some (spNames env.scope ts (lineOf ts))) := by
  have hb : env.blockKind = .function := by unfold Env.blockKind; rw [hk]; rfl
  unfold spYes at h
  simp only [Bool.and_eq_true, Bool.or_eq_true, beq_iff_eq, Bool.not_eq_true'] at h
  obtain ⟨⟨⟨⟨⟨⟨h1, h2⟩, h3⟩, h4⟩, h5⟩, h6⟩, h7⟩ := h
  have c1 : (!(ts.length == 2 || ts.length == 3) || vs.length != ts.length || env.blockKind != .function) = false := by
    rw [h2, hb]
    rcases h1 with h1 | h1 <;> simp [h1]
  have c3 : ((spNames env.scope ts (lineOf ts)).length != ts.length || (spNames env.scope ts (lineOf ts)).eraseDups.length != (spNames env.scope ts (lineOf ts)).length) = false := by
    rw [Bool.or_eq_false_iff]
    exact ⟨by rw [h4]; simp, by rw [h5]; simp⟩
  unfold swappedStores
  dsimp only
  rw [c1]
  simp only [Bool.false_eq_true, if_false]
  rw [star_any h3 (fun x hx => by cases x <;> first | rfl | exact absurd rfl (star_not hx _ _))]
  simp only [Bool.false_eq_true, if_false]
  show (if ((spNames env.scope ts (lineOf ts)).length != ts.length || (spNames env.scope ts (lineOf ts)).eraseDups.length != (spNames env.scope ts (lineOf ts)).length) = true then _ else _) = _
  rw [c3, h6, h7]
  rfl
theorem sp_no {tg e : Expr} {env : Env} (h : spNo env.scope tg e = true) : swappedStores [tg] e env = pure none := by
  unfold spNo at h
  split at h
  · rename_i ts k p vs k2 p2
    rw [Bool.or_eq_true] at h
    unfold swappedStores
    dsimp only
    by_cases c1 : (!(ts.length == 2 || ts.length == 3) || vs.length != ts.length || env.blockKind != .function) = true
    · rw [if_pos c1]
    · rw [if_neg c1]
      rcases h with h | h
      · exfalso
        apply c1
        rw [h]; simp
      · rw [Bool.and_eq_true, Bool.or_eq_true] at h
        rw [star_any h.1 (fun x hx => by cases x <;> first | rfl | exact absurd rfl (star_not hx _ _))]
        simp only [Bool.false_eq_true, if_false]
        show (if ((spNames env.scope ts (lineOf ts)).length != ts.length || (spNames env.scope ts (lineOf ts)).eraseDups.length != (spNames env.scope ts (lineOf ts)).length) = true then _ else _) = _
        rcases h.2 with q | q
        · rw [q]; rfl
        · by_cases c3 : ((spNames env.scope ts (lineOf ts)).length != ts.length || (spNames env.scope ts (lineOf ts)).eraseDups.length != (spNames env.scope ts (lineOf ts)).length) = true
          · rw [if_pos c3]
          · rw [if_neg c3, q]; rfl
  · cases h
  · rename_i h1 h2
    unfold swappedStores
    cases tg with
    | Tuple ts k p =>
      cases e <;> first | rfl | exact (h2 _ _ _ _ _ _ rfl rfl).elim | exact (h1 _ _ _ _ _ _ rfl rfl).elim
    | List ts p => first | exact (h1 _ _ rfl).elim | exact (h2 _ _ rfl).elim
    | _ => rfl
end Cw
/-! Cw: the written text against the small language: the check. -/
namespace Cw
open PySem PySem.Spec PyProof.Rows L2

/-- the place of a text -/
structure Ck where
  N : List Str
  sc : Scope
  top : Bool
  osc : Scope
  offs : List Nat
  cn : List Str
  fl : List (List Str)
def relS (sc scope : Scope) : Scope := { scope with names := scope.names.map fun (n, k) => if (k == .free && sc.kind == .function && sc.names.lookup n == some .cell) then (n, .cell) else (n, k) }
def Ck.blk (c : Ck) (scope : Scope) : Ck := { c with sc := relS c.sc scope, top := false, osc := scope }
structure Cv (c : Ck) (P : Par) (M : Mo) (k : Nat) (X : Cx) : Prop where
  O : Onx P M k X
  N : X.N = c.N
  sc : X.env.scope = c.sc
  kd : c.sc.kind = .function
  fn : X.fn = fun x => c.top || (c.osc.names.lookup x == some .cell)
  off : ∀ i : Nat, (∃ v, P.fx[i]? = some (some v)) → i ∈ c.offs
  cn : ∀ n, M.cn n = c.cn.getD n ""
  fl : ∀ n, M.T.fld n = c.fl.getD n []
theorem Cv.blk {c : Ck} {P : Par} {M : Mo} {k : Nat} {X : Cx} (V : Cv c P M k X) {scope : Scope} (hk : scope.kind = .function) (s : Shared) (H : Hp) (C : Addr) (cl : List (Str × Addr)) (fp : List Addr) : Cv (c.blk scope) P M k (X.blk s H scope (compEnvC scope cl C X.env) fp) where
  O := ⟨⟨V.O.o.k, V.O.o.calm, V.O.o.hu, V.O.o.g, V.O.o.nd⟩, V.O.T, V.O.pr, V.O.w, V.O.mg, V.O.ba, V.O.room⟩
  N := V.N
  sc := by
    show relabel scope X.env = relS c.sc scope
    rw [← V.sc]; rfl
  kd := hk
  fn := by funext x; rfl
  off := V.off
  cn := V.cn
  fl := V.fl
def visB (sc : Scope) (x : Str) : Bool := match sc.names.lookup x with
  | some .local => true
  | some .cell => true
  | some .free => true
  | _ => false
def locB (sc : Scope) (x : Str) : Bool := match sc.names.lookup x with
  | some .local => true
  | some .cell => true
  | _ => false
def glB (sc : Scope) (x : Str) : Bool := decide (sc.names.lookup x = some .globalImplicit)
def varB (c : Ck) (i : Nat) (x : Str) : Bool := decide (c.N[i]? = some x) && visB c.sc x && !(x == ("__debug__" : Str)) && !(x == ("__classdict__" : Str))
def setB (c : Ck) (i : Nat) (x : Str) : Bool := decide (c.N[i]? = some x) && locB c.sc x && (c.top || (c.osc.names.lookup x == some .cell) || decide (c.sc.names.lookup x = some .local)) && !(c.offs.contains i)
def offB (c : Ck) (vs : List Nat) : Bool := vs.all fun i => !(c.offs.contains i)
section
variable {c : Ck} {P : Par} {M : Mo} {k : Nat} {X : Cx}
theorem Cv.vis (V : Cv c P M k X) {x : Str} (h : visB c.sc x = true) : Vis X.env.scope x := by
  unfold visB at h
  rw [← V.sc] at h
  unfold Vis
  split at h <;> first | (rename_i e; first | exact .inl e | exact .inr (.inl e) | exact .inr (.inr e)) | cases h
theorem Cv.var (V : Cv c P M k X) {i : Nat} {x : Str} (h : varB c i x = true) : X.N[i]? = some x ∧ Vis X.env.scope x ∧ (x == ("__debug__" : Str)) = false ∧ (x == ("__classdict__" : Str)) = false := by
  unfold varB at h
  simp only [Bool.and_eq_true, decide_eq_true_eq, Bool.not_eq_true'] at h
  exact ⟨by rw [V.N]; exact h.1.1.1, V.vis h.1.1.2, h.1.2, h.2⟩
theorem Cv.gl (V : Cv c P M k X) {x : Str} (h : glB c.sc x = true) : Gl X x := by
  unfold glB at h
  rw [← V.sc] at h
  exact (of_decide_eq_true h : X.env.scope.names.lookup x = some .globalImplicit)
theorem Cv.offs (V : Cv c P M k X) {vs : List Nat} (h : offB c vs = true) : Off P vs := fun i hi m => by
  unfold offB at h
  rw [List.all_eq_true] at h
  have := h i hi
  obtain ⟨_, hm⟩ := List.mem_filter.mp m
  cases e : P.fx[i]? with
  | none => rw [e] at hm; cases hm
  | some o =>
    rw [e] at hm
    cases o with
    | none => cases hm
    | some v =>
      have := V.off i ⟨v, e⟩
      simp_all
theorem Cv.set (V : Cv c P M k X) {i : Nat} {x : Str} (h : setB c i x = true) : X.N[i]? = some x ∧ L2.Loc X.env.scope x ∧ (X.fn x = true ∨ X.env.scope.names.lookup x = some .local) ∧ Off P [i] := by
  unfold setB at h
  simp only [Bool.and_eq_true, decide_eq_true_eq, Bool.not_eq_true', Bool.or_eq_true] at h
  obtain ⟨⟨⟨h1, h2⟩, h3⟩, h4⟩ := h
  refine ⟨by rw [V.N]; exact h1, ?_, ?_, V.offs (by unfold offB; rw [List.all_cons, h4]; rfl)⟩
  · unfold locB at h2
    rw [← V.sc] at h2
    unfold L2.Loc
    split at h2 <;> first | (rename_i e; first | exact .inl e | exact .inr e) | cases h2
  · rcases h3 with h3 | h3
    · refine .inl ?_
      rw [V.fn]
      simpa using h3
    · exact .inr (by rw [V.sc]; exact h3)
end

/-! ### targets -/
mutual
def ckG (c : Ck) : Tg → Expr → Bool
  | .nm i, .Name x _ => setB c i x
  | .tp r, .Tuple es _ _ => ckGs c r es
  | _, _ => false
def ckGs (c : Ck) : Tg → List Expr → Bool
  | .nil, [] => true
  | .cons t r, e :: es => noStar e && ckG c t e && ckGs c r es
  | _, _ => false
end
theorem take_ex : ∀ {t : Tg} {d : D} {ρ : Ro} {Q : Ro → Prop}, take t d ρ Q → ∃ ρ', Q ρ'
  | .nm i, _, _, _, x => by unfold take at x; exact ⟨_, x⟩
  | .tp .nil, _, _, _, x => by unfold take at x; exact ⟨_, x.2⟩
  | .tp (.cons t r), d, _, _, x => by
    unfold take at x
    obtain ⟨y, ys, e, q⟩ := x
    obtain ⟨ρ', q⟩ := take_ex q
    exact take_ex q
  | .tp (.nm _), _, _, _, x => by unfold take at x; exact x.elim
  | .tp (.tp _), _, _, _, x => by unfold take at x; exact x.elim
  | .nil, _, _, _, x => by unfold take at x; exact ⟨_, x.2⟩
  | .cons t r, d, _, _, x => by
    unfold take at x
    obtain ⟨y, ys, e, q⟩ := x
    obtain ⟨ρ', q⟩ := take_ex q
    exact take_ex q
theorem take_len {c : Ck} : ∀ {r : Tg} {es : List Expr} {ds : List D} {ρ : Ro} {Q : Ro → Prop}, ckGs c r es = true → take r (.tup ds) ρ Q → ds.length = es.length
  | .nil, [], ds, ρ, Q, _, x => by
    unfold take at x
    cases x.1; rfl
  | .cons t r, e :: es, ds, ρ, Q, h, x => by
    unfold ckGs at h
    simp only [Bool.and_eq_true] at h
    unfold take at x
    obtain ⟨y, ys, z, q⟩ := x
    cases z
    obtain ⟨ρ', q⟩ := take_ex q
    simp [take_len h.2 q]
  | .nil, _ :: _, _, _, _, h, _ => by unfold ckGs at h; cases h
  | .cons _ _, [], _, _, _, h, _ => by unfold ckGs at h; cases h
  | .nm _, [], _, _, _, h, _ => by unfold ckGs at h; cases h
  | .nm _, _ :: _, _, _, _, h, _ => by unfold ckGs at h; cases h
  | .tp _, [], _, _, _, h, _ => by unfold ckGs at h; cases h
  | .tp _, _ :: _, _, _, _, h, _ => by unfold ckGs at h; cases h
theorem aeach {e : Expr} {es : List Expr} {env : Env} (h : noStar e = true) : assignEach (e :: es) env = (false, assign e env) :: assignEach es env := by
  cases e <;> first | rfl | (simp [noStar] at h)
theorem ckGs_star {c : Ck} : ∀ {r : Tg} {es : List Expr}, ckGs c r es = true → es.all noStar = true
  | .nil, [], _ => rfl
  | .cons t r, e :: es, h => by
    unfold ckGs at h
    simp only [Bool.and_eq_true] at h
    rw [List.all_cons, h.1.1, ckGs_star h.2]; rfl
  | .nil, _ :: _, h => by unfold ckGs at h; cases h
  | .cons _ _, [], h => by unfold ckGs at h; cases h
  | .nm _, [], h => by unfold ckGs at h; cases h
  | .nm _, _ :: _, h => by unfold ckGs at h; cases h
  | .tp _, [], h => by unfold ckGs at h; cases h
  | .tp _, _ :: _, h => by unfold ckGs at h; cases h
theorem aeach_no : ∀ {es : List Expr} {env : Env}, es.all noStar = true → (assignEach es env).length = es.length ∧ (assignEach es env).findIdx? (·.1) = none
  | [], _, _ => ⟨rfl, rfl⟩
  | e :: es, env, h => by
    rw [List.all_cons, Bool.and_eq_true] at h
    rw [aeach h.1]
    obtain ⟨h1, h2⟩ := aeach_no (env := env) h.2
    refine ⟨by simp [h1], ?_⟩
    rw [List.findIdx?_cons]
    simp [h2]
section
variable {c : Ck} {P : Par} {M : Mo} {k : Nat} {X : Cx}
mutual
theorem ckG_ok (V : Cv c P M k X) : ∀ (t : Tg) (e : Expr), ckG c t e = true → PG X e (rdG P t)
  | .nm i, e, h => by
    unfold ckG at h
    split at h
    · rename_i j x p e1
      cases e1
      obtain ⟨h1, h2, h3, _⟩ := V.set h
      exact g_name V.O.o h1 h2 h3 fun _ => trivial
    · rename_i e1; cases e1
    · cases h
  | .tp r, e, h => by
    unfold ckG at h
    split at h
    · rename_i e1; cases e1
    · rename_i r' es kk p e1
      cases e1
      obtain ⟨h1, h2⟩ := aeach_no (env := X.env) (ckGs_star h)
      refine g_tup V.O.o (ckGs_ok V r es h) h1 h2 (fun ds ρ Q q => ?_) fun d ρ Q q => ?_
      · cases r with
        | nil => exact ⟨q, take_len h q⟩
        | cons t r => exact ⟨q, take_len h q⟩
        | nm i => unfold ckGs at h; cases es <;> cases h
        | tp i => unfold ckGs at h; cases es <;> cases h
      · cases r with
        | nil => unfold take at q; exact ⟨_, q.1⟩
        | cons t r => unfold take at q; obtain ⟨y, ys, z, _⟩ := q; exact ⟨_, z⟩
        | nm i => unfold ckGs at h; cases es <;> cases h
        | tp i => unfold ckGs at h; cases es <;> cases h
    · cases h
  | .nil, e, h => by unfold ckG at h; cases e <;> cases h
  | .cons _ _, e, h => by unfold ckG at h; cases e <;> cases h
theorem ckGs_ok (V : Cv c P M k X) : ∀ (r : Tg) (es : List Expr), ckGs c r es = true → PGs X es (rdGs P r)
  | .nil, [], _ => gs_nil
  | .cons t r, e :: es, h => by
    unfold ckGs at h
    simp only [Bool.and_eq_true] at h
    exact gs_cons (ckG_ok V t e h.1.2) (ckGs_ok V r es h.2) (by rw [aeach h.1.1]; rfl)
  | .nil, _ :: _, h => by unfold ckGs at h; cases h
  | .cons _ _, [], h => by unfold ckGs at h; cases h
  | .nm _, [], h => by unfold ckGs at h; cases h
  | .nm _, _ :: _, h => by unfold ckGs at h; cases h
  | .tp _, [], h => by unfold ckGs at h; cases h
  | .tp _, _ :: _, h => by unfold ckGs at h; cases h
end
end
end Cw
/-! Cw: the check of expressions. -/
namespace Cw
open PySem PySem.Spec PyProof.Rows L2

/-- the own == of a class -/
def EqV (M : Mo) (k : Nat) (F : Fn) (cl : Nat) : Prop := ∀ (P : Par) (X : Cx), Onx P M k X → ∀ (a b : Expr) (ea eb : E) (neg : Bool) (pos : Pos), PE X a (rdE P ea) → PE X b (rdE P eb) →
  PE X (.Compare a [if neg = true then .NotEq else .Eq] [b] pos) (rdE P (.eqw neg F cl ea eb)) ∧ PT X (.Compare a [if neg = true then .NotEq else .Eq] [b] pos) (rdT P (.eqw neg F cl ea eb))
/-- a class whose objects are asked for their fields -/
structure FldK (T : Tbl) (c : Nat) : Prop where
  nd : (T.fld c).Nodup
  cl : Cls T.K (T.cls c)
  no : ∀ f ∈ T.fld c, NoAttr T.K (T.cls c) f
structure IscK (M : Mo) (c : Nat) : Prop where
  k : ClsK M.T.K (M.T.cls c)
  mg : M.mg (M.cn c) = some (.ref (M.T.cls c))
  db : (M.cn c == ("__debug__" : Str)) = false

/-! ### what is asked of the module -/
def knI (M : Mo) : Ik → Prop
  | .rng1 => M.mg "range" = none
  | .rng2 => M.mg "range" = none
  | .enum => M.mg "enumerate" = none
  | .zip => M.mg "zip" = none
  | _ => True
def knE (M : Mo) (k : Nat) : E → Prop
  | .var _ => True
  | .int _ => True
  | .bl _ => True
  | .non => True
  | .str _ => True
  | .bin _ a b => knE M k a ∧ knE M k b
  | .neg a => knE M k a
  | .cmp _ a b => knE M k a ∧ knE M k b
  | .chn _ _ a b c => knE M k a ∧ knE M k b ∧ knE M k c
  | .and a b => knE M k a ∧ knE M k b
  | .or a b => knE M k a ∧ knE M k b
  | .not a => knE M k a
  | .ite a b c => knE M k a ∧ knE M k b ∧ knE M k c
  | .nil => True
  | .cons a r => knE M k a ∧ knE M k r
  | .tup a => knE M k a
  | .lst a => knE M k a
  | .lsl a => knE M k a
  | .call F a => CallV M k F ∧ knE M k a
  | .meth F c a as => MethV M k F c ∧ knE M k a ∧ knE M k as
  | .prop F c a => PropV M k F c ∧ knE M k a
  | .eqw _ F c a b => EqV M k F c ∧ knE M k a ∧ knE M k b
  | .blt b a => M.mg (bltNm b) = none ∧ knE M k a
  | .isa a ic => M.mg "isinstance" = none ∧ (match ic with | .cls c => IscK M c | ic => M.mg (icNm ic) = none ∧ ∀ c, ClsK M.T.K (M.T.cls c)) ∧ knE M k a
  | .fld c _ a => FldK M.T c ∧ knE M k a
  | .idx a b => knE M k a ∧ knE M k b
  | .slc a b c => knE M k a ∧ knE M k b ∧ knE M k c
  | .pop _ => True
  | .popat _ a => knE M k a
  | .lc _ _ ik as c e => knI M ik ∧ knE M k as ∧ knE M k c ∧ knE M k e
  | .lc2 _ _ _ ik as _ ik1 as1 e => knI M ik ∧ knE M k as ∧ knI M ik1 ∧ knE M k as1 ∧ knE M k e
  | .lcl _ _ ik as => knI M ik ∧ knE M k as
  | .lk _ _ _ c e => knE M k c ∧ knE M k e
  | .dnew => True
  | .dnewT => True
  | .lrng a b => knE M k a ∧ knE M k b

/-! ### the check -/
/-- the block's own names with their places -/
def ownOf (c : Ck) (vs : List Nat) : List (Str × Nat) := vs.filterMap fun i => (c.N[i]?).map fun x => (x, i)
def blkB (c : Ck) (scope : Scope) (vs : List Nat) : Bool := blkC c.N c.sc scope (ownOf c vs) && decide ((ownOf c vs).map (·.2) = vs) && offB c vs
def isTrueB : E → Bool
  | .bl true => true
  | _ => false
mutual
def ckE : Nat → Ck → E → Expr → Bool
  | 0, _, _, _ => false
  | n + 1, c, e, x => match e, x with
    | .var i, .Name x _ => varB c i x
    | .int k, .Constant (.int m) _ _ => decide (k = m)
    | .bl k, .Constant (.bool m) _ _ => decide (k = m)
    | .str k, .Constant (.str m) _ _ => decide (k = m)
    | .non, .Constant .none _ _ => true
    | .bin op a b, .BinOp x o y _ => decide (o = bopA op) && ckE n c a x && ckE n c b y
    | .neg a, .UnaryOp .USub x _ => ckE n c a x
    | .cmp op a b, .Compare x [o] [y] _ => decide (o = copA op) && !(behindInMarks (copA op) y) && ckE n c a x && ckE n c b y
    | .eqw neg _ _ a b, .Compare x [o] [y] _ => decide (o = if neg = true then .NotEq else .Eq) && ckE n c a x && ckE n c b y
    | .chn o p a b d, .Compare x [o', p'] [y, z] _ => decide (o' = copA o) && decide (p' = copA p) && !(lastMarks [copA o, copA p] [y, z]) && ckE n c a x && ckE n c b y && ckE n c d z
    | .and a b, .BoolOp .And (x :: y :: r) p => ckE n c a x && (match r with | [] => ckE n c b y | _ => ckE n c b (.BoolOp .And (y :: r) p))
    | .or a b, .BoolOp .Or (x :: y :: r) p => ckE n c a x && (match r with | [] => ckE n c b y | _ => ckE n c b (.BoolOp .Or (y :: r) p))
    | .not a, .UnaryOp .Not x _ => ckE n c a x
    | .ite a b d, .IfExp x y z _ => ckT n c a x && ckE n c b y && ckE n c d z
    | .tup as, .Tuple es _ _ => ckA n c as es
    | .lst as, .List es _ => ckA n c as es
    | .lsl as, .List es _ => ckA n c as es
    | .call F as, .Call (.Name x _) es [] _ => decide (x = F.name) && glB c.sc x && ckA n c as es
    | .meth F _ a as, .Call (.Attribute o m ap) (e :: es) [] pos => decide (m = F.name) && baseOk o && (ap.endLine == pos.line) && decide ((e :: es).length < 30) && ckE n c a o && ckA n c as (e :: es)
    | .prop F _ a, .Attribute o m _ => decide (m = F.name) && baseOk o && ckE n c a o
    | .blt b as, .Call (.Name x _) (e :: es) [] _ => decide (x = bltNm b) && glB c.sc x && ckA n c as (e :: es)
    | .isa a ic, .Call (.Name x _) [o, .Name y _] [] _ => decide (x = "isinstance") && glB c.sc x && glB c.sc y && decide (y = (match ic with | .cls j => c.cn.getD j "" | ic => icNm ic)) && noStar o && ckE n c a o
    | .fld cl k a, .Attribute o f _ => decide ((c.fl.getD cl [])[k]? = some f) && baseOk o && ckE n c a o
    | .idx a b, .Subscript x y _ => noSlice y && ckE n c a x && ckE n c b y
    | .slc a lo hi, .Subscript x (.Slice lo' hi' none _) _ => ckE n c a x && (match lo' with | none => (match lo with | .nil => true | _ => false) | some l => !lo.isNil && ckE n c lo l) && (match hi' with | none => (match hi with | .nil => true | _ => false) | some l => !hi.isNil && ckE n c hi l)
    | .pop i, .Call (.Attribute (.Name x _) m ap) [] [] pos => decide (m = "pop") && varB c i x && (ap.endLine == pos.line)
    | .popat i a, .Call (.Attribute (.Name x _) m ap) [e] [] pos => decide (m = "pop") && varB c i x && (ap.endLine == pos.line) && ckA n c (.cons a .nil) [e]
    | .lc vs t k as d e, .ListComp elt [⟨tg, iter, ifs, 0⟩] scope _ => blkB c scope vs && (t.slots.all fun i => decide (i ∈ vs)) && noSet iter && ckI n c k as tg iter && ckG (c.blk scope) t tg && (match ifs with | [] => isTrueB d | [y] => ckT n (c.blk scope) d y | _ => false) && ckE n (c.blk scope) e elt
    | .lc2 vs vs1 t k as t1 k1 as1 e, .ListComp elt [⟨tg, iter, [], 0⟩, ⟨tg1, iter1, [], 0⟩] scope _ => blkB c scope vs && (t.slots.all fun i => decide (i ∈ vs)) && (t1.slots.all fun i => decide (i ∈ vs1)) && (vs1.all fun i => decide (i ∈ vs)) && noSet iter && noSet iter1 &&
        ckI n c k as tg iter && ckG (c.blk scope) t tg && ckI n (c.blk scope) k1 as1 tg1 iter1 && ckG (c.blk scope) t1 tg1 && ckE n (c.blk scope) e elt
    | .lcl vs i k as, .ListComp (.List [] _) [⟨.Name x xp, iter, [], 0⟩] scope _ => blkB c scope vs && decide (i ∈ vs) && noSet iter && ckI n c k as (.Name x xp) iter && ckG (c.blk scope) (.nm i) (.Name x xp)
    | .lk vs t i d e, .ListComp elt [⟨tg, .Name x _, ifs, 0⟩] scope _ => blkB c scope vs && (t.slots.all fun i => decide (i ∈ vs)) && varB c i x && ckG (c.blk scope) t tg && (match ifs with | [] => isTrueB d | [y] => ckT n (c.blk scope) d y | _ => false) && ckE n (c.blk scope) e elt
    | .dnew, .Dict [] [] _ => true
    | .dnewT, .Dict [] [] _ => true
    | _, _ => false
def ckA : Nat → Ck → E → List Expr → Bool
  | 0, _, _, _ => false
  | n + 1, c, e, xs => match e, xs with
    | .nil, [] => true
    | .cons a r, x :: xs => noStar x && ckE n c a x && ckA n c r xs
    | _, _ => false
def ckT : Nat → Ck → E → Expr → Bool
  | 0, _, _, _ => false
  | n + 1, c, e, x => match e, x with
    | .and a b, .BoolOp .And (x :: y :: r) p => ckT n c a x && (match r with | [] => ckT n c b y | _ => ckT n c b (.BoolOp .And (y :: r) p))
    | .or a b, .BoolOp .Or (x :: y :: r) p => ckT n c a x && (match r with | [] => ckT n c b y | _ => ckT n c b (.BoolOp .Or (y :: r) p))
    | .not a, .UnaryOp .Not x _ => ckT n c a x
    | .cmp op a b, .Compare x [o] [y] _ => decide (o = copA op) && !(behindInMarks (copA op) y) && ckE n c a x && ckE n c b y
    | .eqw neg _ _ a b, .Compare x [o] [y] _ => decide (o = if neg = true then .NotEq else .Eq) && ckE n c a x && ckE n c b y
    | .chn o p a b d, .Compare x [o', p'] [y, z] _ => decide (o' = copA o) && decide (p' = copA p) && !(lastMarks [copA o, copA p] [y, z]) && ckE n c a x && ckE n c b y && ckE n c d z
    | e, x => plainTest x && ckE n c e x
def ckI : Nat → Ck → Ik → E → Expr → Expr → Bool
  | 0, _, _, _, _, _ => false
  | n + 1, c, k, e, tg, x => match k, e, x with
    | .seq, .cons a .nil, x => ckE n c a x
    | .rng1, as, .Call (.Name f _) [a] [] _ => decide (f = "range") && glB c.sc f && ckA n c as [a]
    | .rng2, as, .Call (.Name f _) [a, b] [] _ => decide (f = "range") && glB c.sc f && ckA n c as [a, b]
    | .enum, as, .Call (.Name f _) [a] [] _ => decide (f = "enumerate") && glB c.sc f && (match tg with | .Tuple _ _ _ => true | _ => false) && ckA n c as [a]
    | .zip, as, .Call (.Name f _) [a, b] [] _ => decide (f = "zip") && glB c.sc f && (match tg with | .Tuple _ _ _ => true | _ => false) && ckA n c as [a, b]
    | _, _, _ => false
end
end Cw
/-! Cw: the check is right: expressions. -/
namespace Cw
open PySem PySem.Spec PyProof.Rows L2

theorem pe_b1 {X : Cx} {a : Expr} {t : TE} {op : BoolOp} {p : Pos} (h : PE X a t) : PE X (.BoolOp op [a] p) t := ⟨fun pins s σ H Q I q => h.run pins s σ H Q I q⟩
theorem pw_b {X : Cx} {op : BoolOp} {vs : List Expr} {p : Pos} {t : TT} (h : PT X (.BoolOp op vs p) t) : PW X (.BoolOp op vs p) t := ⟨fun _ pins s σ H Q I q => h.run pins s σ H Q I q⟩
theorem meth_eq {o e : Expr} {es : List Expr} {m : Str} {ap pos : Pos} {env : Env} (hb : baseOk o = true) (hl : (ap.endLine == pos.line) = true) (hn : (e :: es).length < 30) (hs : (e :: es).all noStar = true) :
    eval (.Call (.Attribute o m ap) (e :: es) [] pos) env = (do
      let ov ← eval o env
      standAt ap.atName
      let (f, first) ← holding [ov] (getMethod ov m (do return (← importBound o env).getD true))
      callWith pos f first (backTo pos (starEach (e :: es) env)) (backToKw pos (keywordEach [] env))) := by
  have hf : methodCallForm ((e :: es).length + ([] : List Keyword).length) (backTo pos (starEach (e :: es) env)) (backToKw pos (keywordEach [] env)) = true := by
    unfold methodCallForm
    rw [stars_no hs]
    show (true && true && decide ((e :: es).length + 0 + 0 < 30)) = true
    simpa using hn
  show (do
    let ov ← attributeBase o m env (eval o env)
    standAt ap.atName
    methodCall o m ap pos env ov ((e :: es).length + ([] : List Keyword).length) (backTo pos (starEach (e :: es) env)) (backToKw pos (keywordEach [] env))) = _
  rw [base_of hb]
  unfold methodCall calleeOf methodCallPos
  rw [hf, hl]
  simp only [Bool.not_true, Bool.false_or, if_true, pure_bind]
section
variable {c : Ck} {P : Par} {M : Mo} {k : Nat} {X : Cx}
def SnE (n : Nat) : Prop := ∀ (c : Ck) (P : Par) (M : Mo) (k : Nat) (X : Cx), Cv c P M k X → ∀ (e : E) (x : Expr), knE M k e → ckE n c e x = true → PE X x (rdE P e)
def SnA (n : Nat) : Prop := ∀ (c : Ck) (P : Par) (M : Mo) (k : Nat) (X : Cx), Cv c P M k X → ∀ (e : E) (x : List Expr), knE M k e → ckA n c e x = true → PA X x (rdA P e) ∧ x.all noStar = true ∧ (x = [] → e = .nil)
def SnT (n : Nat) : Prop := ∀ (c : Ck) (P : Par) (M : Mo) (k : Nat) (X : Cx), Cv c P M k X → ∀ (e : E) (x : Expr), knE M k e → ckT n c e x = true → PT X x (rdT P e)
def SnI (n : Nat) : Prop := ∀ (c : Ck) (P : Par) (M : Mo) (k : Nat) (X : Cx), Cv c P M k X → ∀ (ik : Ik) (e : E) (tg x : Expr) (z : Bool), knI M ik → knE M k e → ckI n c ik e tg x = true → PI X tg x (rdI P z ik e)
theorem blk_of (V : Cv c P M k X) {scope : Scope} {vs : List Nat} (h : blkB c scope vs = true) : BlkOk X.N X.env.scope scope (ownOf c vs) ∧ (ownOf c vs).map (·.2) = vs ∧ Off P vs := by
  unfold blkB at h
  simp only [Bool.and_eq_true, decide_eq_true_eq] at h
  exact ⟨by rw [V.N, V.sc]; exact blkOk_by h.1.1, h.1.2, V.offs h.2⟩
theorem sub_of {t : Tg} {vs : List Nat} (h : (t.slots.all fun i => decide (i ∈ vs)) = true) : ∀ i ∈ t.slots, i ∈ vs := fun i hi => by
  rw [List.all_eq_true] at h
  exact of_decide_eq_true (h i hi)
theorem snA_succ {n : Nat} (hE : SnE n) (hA : SnA n) : SnA (n + 1) := by
  intro c P M k X V e x kn h
  unfold ckA at h
  split at h
  · exact ⟨a_nil, rfl, fun _ => rfl⟩
  · rename_i a r y ys
    simp only [Bool.and_eq_true] at h
    unfold knE at kn
    obtain ⟨h1, h2, _⟩ := hA c P M k X V r ys kn.2 h.2
    exact ⟨a_cons (hE c P M k X V a y kn.1 h.1.2) h1 (star_of h.1.1), by rw [List.all_cons, h.1.1, h2]; rfl, fun z => by cases z⟩
  · cases h
theorem one_star {a : Expr} {env : Env} (h : [a].all noStar = true) : starEach [a] env = [(false, eval a env)] := star_of (by simpa using h)
theorem two_star {a b : Expr} {env : Env} (h : [a, b].all noStar = true) : starEach [a, b] env = [(false, eval a env), (false, eval b env)] ∧ starEach [b] env = [(false, eval b env)] := by
  simp only [List.all_cons, List.all_nil, Bool.and_true, Bool.and_eq_true] at h
  have h2 : starEach [b] env = [(false, eval b env)] := star_of h.2
  refine ⟨?_, h2⟩
  rw [star_of h.1, h2]
theorem snI_succ {n : Nat} (hE : SnE n) (hA : SnA n) : SnI (n + 1) := by
  intro c P M k X V ik e tg x z ki kn h
  unfold ckI at h
  split at h
  · rename_i a
    unfold knE at kn
    exact i_seq (hE c P M k X V a _ kn.1 h)
  · rename_i f p a pos
    simp only [Bool.and_eq_true, decide_eq_true_eq] at h
    obtain ⟨⟨h1, h2⟩, h3⟩ := h
    subst h1
    obtain ⟨k1, k2, _⟩ := hA c P M k X V _ _ kn h3
    exact i_rng1 (V.gl h2) (by rw [V.O.mg]; exact ki) k1 (one_star k2)
  · rename_i f p a b pos
    simp only [Bool.and_eq_true, decide_eq_true_eq] at h
    obtain ⟨⟨h1, h2⟩, h3⟩ := h
    subst h1
    obtain ⟨k1, k2, _⟩ := hA c P M k X V _ _ kn h3
    exact i_rng2 (V.gl h2) (by rw [V.O.mg]; exact ki) k1 (two_star k2).1 (two_star k2).2
  · rename_i f p a pos
    simp only [Bool.and_eq_true, decide_eq_true_eq] at h
    obtain ⟨⟨⟨h1, h2⟩, h4⟩, h3⟩ := h
    subst h1
    obtain ⟨k1, k2, _⟩ := hA c P M k X V _ _ kn h3
    split at h4
    · exact i_enum V.O.o (V.gl h2) (by rw [V.O.mg]; exact ki) k1 (one_star k2)
    · cases h4
  · rename_i f p a b pos
    simp only [Bool.and_eq_true, decide_eq_true_eq] at h
    obtain ⟨⟨⟨h1, h2⟩, h4⟩, h3⟩ := h
    subst h1
    obtain ⟨k1, k2, _⟩ := hA c P M k X V _ _ kn h3
    have k3 : noStar a = true ∧ noStar b = true := by simpa using k2
    split at h4
    · exact i_zip V.O.o (V.gl h2) (by rw [V.O.mg]; exact ki) k1 (star_of k3.1) (stars_of (by simp [k3.2]))
    · cases h4
  · cases h
theorem snT_succ {n : Nat} (hE : SnE n) (hT : SnT n) : SnT (n + 1) := by
  intro c P M k X V e x kn h
  unfold ckT at h
  split at h
  · rename_i a b x y r p
    simp only [Bool.and_eq_true] at h
    unfold knE at kn
    obtain ⟨h1, h2⟩ := h
    refine PW.pt (t_and (hT c P M k X V a x kn.1 h1) ?_)
    split at h2
    · exact pw_and1 (hT c P M k X V b y kn.2 h2)
    · exact pw_b (hT c P M k X V b _ kn.2 h2)
  · rename_i a b x y r p
    simp only [Bool.and_eq_true] at h
    unfold knE at kn
    obtain ⟨h1, h2⟩ := h
    refine PW.pt (t_or (hT c P M k X V a x kn.1 h1) ?_)
    split at h2
    · exact pw_or1 (hT c P M k X V b y kn.2 h2)
    · exact pw_b (hT c P M k X V b _ kn.2 h2)
  · rename_i a x p
    unfold knE at kn
    exact t_not (hT c P M k X V a x kn h)
  · rename_i op a b x o y p
    simp only [Bool.and_eq_true, decide_eq_true_eq, Bool.not_eq_true'] at h
    unfold knE at kn
    obtain ⟨⟨⟨h1, h2⟩, h3⟩, h4⟩ := h
    subst h1
    exact t_cmp V.O.o (hE c P M k X V a x kn.1 h3) (hE c P M k X V b y kn.2 h4) h2
  · rename_i neg F cl a b x o y p
    simp only [Bool.and_eq_true, decide_eq_true_eq] at h
    unfold knE at kn
    obtain ⟨⟨h1, h3⟩, h4⟩ := h
    subst h1
    exact (kn.1 P X V.O x y a b neg p (hE c P M k X V a x kn.2.1 h3) (hE c P M k X V b y kn.2.2 h4)).2
  · rename_i o p a b d x o' p' y z pos
    simp only [Bool.and_eq_true, decide_eq_true_eq, Bool.not_eq_true'] at h
    unfold knE at kn
    obtain ⟨⟨⟨⟨⟨h1, h2⟩, h3⟩, h4⟩, h5⟩, h6⟩ := h
    subst h1 h2
    exact t_chn V.O.o (hE c P M k X V a x kn.1 h4) (hE c P M k X V b y kn.2.1 h5) (hE c P M k X V d z kn.2.2 h6) h3
  · simp only [Bool.and_eq_true] at h
    exact t_val (hE c P M k X V _ _ kn h.2) fun whole => test_of h.1
theorem ifs_ok {n : Nat} (hT : SnT n) {d : E} {ifs : List Expr} (V : Cv c P M k X) (kn : knE M k d) (h : (match ifs with | [] => isTrueB d | [y] => ckT n c d y | _ => false) = true) : PTs X ifs (rdT P d) := by
  split at h
  · unfold isTrueB at h
    split at h
    · exact pts_true
    · cases h
  · exact pts_one (hT c P M k X V d _ kn h)
  · cases h
theorem snE_succ {n : Nat} (hE : SnE n) (hA : SnA n) (hT : SnT n) (hI : SnI n) : SnE (n + 1) := by
  intro c P M k X V e x kn h
  unfold ckE at h
  split at h
  · rename_i i x p
    obtain ⟨h1, h2, h3, h4⟩ := V.var h
    exact s_var h1 h2 h3 h4
  · rename_i a m j p
    cases of_decide_eq_true h
    exact s_int
  · rename_i a m j p
    cases of_decide_eq_true h
    exact s_bl
  · rename_i a m j p
    cases of_decide_eq_true h
    exact s_str
  · exact s_non
  · rename_i op a b x o y p
    simp only [Bool.and_eq_true, decide_eq_true_eq] at h
    unfold knE at kn
    obtain ⟨⟨h1, h2⟩, h3⟩ := h
    subst h1
    exact s_bin V.O.o (hE c P M k X V a x kn.1 h2) (hE c P M k X V b y kn.2 h3)
  · rename_i a x p
    unfold knE at kn
    exact s_neg (hE c P M k X V a x kn h)
  · rename_i op a b x o y p
    simp only [Bool.and_eq_true, decide_eq_true_eq, Bool.not_eq_true'] at h
    unfold knE at kn
    obtain ⟨⟨⟨h1, h2⟩, h3⟩, h4⟩ := h
    subst h1
    exact s_cmp V.O.o (hE c P M k X V a x kn.1 h3) (hE c P M k X V b y kn.2 h4) h2
  · rename_i neg F cl a b x o y p
    simp only [Bool.and_eq_true, decide_eq_true_eq] at h
    unfold knE at kn
    obtain ⟨⟨h1, h3⟩, h4⟩ := h
    subst h1
    exact (kn.1 P X V.O x y a b neg p (hE c P M k X V a x kn.2.1 h3) (hE c P M k X V b y kn.2.2 h4)).1
  · rename_i o p a b d x o' p' y z pos
    simp only [Bool.and_eq_true, decide_eq_true_eq, Bool.not_eq_true'] at h
    unfold knE at kn
    obtain ⟨⟨⟨⟨⟨h1, h2⟩, h3⟩, h4⟩, h5⟩, h6⟩ := h
    subst h1 h2
    exact s_chn V.O.o (hE c P M k X V a x kn.1 h4) (hE c P M k X V b y kn.2.1 h5) (hE c P M k X V d z kn.2.2 h6) h3
  · rename_i a b x y r p
    simp only [Bool.and_eq_true] at h
    unfold knE at kn
    obtain ⟨h1, h2⟩ := h
    refine s_and (hE c P M k X V a x kn.1 h1) ?_
    split at h2
    · exact pe_b1 (hE c P M k X V b y kn.2 h2)
    · exact hE c P M k X V b _ kn.2 h2
  · rename_i a b x y r p
    simp only [Bool.and_eq_true] at h
    unfold knE at kn
    obtain ⟨h1, h2⟩ := h
    refine s_or (hE c P M k X V a x kn.1 h1) ?_
    split at h2
    · exact pe_b1 (hE c P M k X V b y kn.2 h2)
    · exact hE c P M k X V b _ kn.2 h2
  · rename_i a x p
    unfold knE at kn
    exact s_not (hE c P M k X V a x kn h)
  · rename_i a b d x y z p
    simp only [Bool.and_eq_true] at h
    unfold knE at kn
    exact s_ite (hT c P M k X V a x kn.1 h.1.1) (hE c P M k X V b y kn.2.1 h.1.2) (hE c P M k X V d z kn.2.2 h.2)
  · rename_i as es kk p
    unfold knE at kn
    exact s_tup (hA c P M k X V as es kn h).1
  · rename_i as es p
    unfold knE at kn
    exact s_lst (hA c P M k X V as es kn h).1
  · rename_i as es p
    unfold knE at kn
    exact s_lsl (hA c P M k X V as es kn h).1
  · rename_i F as x p es pos
    simp only [Bool.and_eq_true, decide_eq_true_eq] at h
    unfold knE at kn
    obtain ⟨⟨h1, h2⟩, h3⟩ := h
    subst h1
    obtain ⟨k1, k2, k3⟩ := hA c P M k X V as es kn.2 h3
    cases es with
    | nil =>
      obtain rfl := k3 rfl
      exact kn.1.zero P X V.O (V.gl h2) p pos
    | cons e es =>
      have k4 : noStar e = true ∧ es.all noStar = true := by simpa using k2
      exact kn.1.many P X V.O (V.gl h2) e es as p pos k1 (star_of k4.1) (stars_of k4.2)
  · rename_i F cl a as o m ap e es pos
    simp only [Bool.and_eq_true, decide_eq_true_eq] at h
    unfold knE at kn
    obtain ⟨⟨⟨⟨⟨h1, h2⟩, h3⟩, h4⟩, h5⟩, h6⟩ := h
    subst h1
    obtain ⟨k1, k2, _⟩ := hA c P M k X V as _ kn.2.2 h6
    have k4 : noStar e = true ∧ es.all noStar = true := by simpa using k2
    exact kn.1 P X V.O o e es a as ap pos _ (hE c P M k X V a o kn.2.1 h5) k1 (star_of k4.1) (stars_of k4.2) (meth_eq h2 h3 h4 k2)
  · rename_i F cl a o m p
    simp only [Bool.and_eq_true, decide_eq_true_eq] at h
    unfold knE at kn
    obtain ⟨⟨h1, h2⟩, h3⟩ := h
    subst h1
    exact kn.1 P X V.O o a p (hE c P M k X V a o kn.2 h3) (base_of h2)
  · rename_i b as x p e es pos
    simp only [Bool.and_eq_true, decide_eq_true_eq] at h
    unfold knE at kn
    obtain ⟨⟨h1, h2⟩, h3⟩ := h
    subst h1
    obtain ⟨k1, k2, _⟩ := hA c P M k X V as _ kn.2 h3
    have k4 : noStar e = true ∧ es.all noStar = true := by simpa using k2
    exact s_blt V.O.o b (V.gl h2) (by rw [V.O.mg]; exact kn.1) k1 (star_of k4.1) (stars_of k4.2)
  · rename_i a ic x p o y p2 pos
    simp only [Bool.and_eq_true, decide_eq_true_eq] at h
    unfold knE at kn
    obtain ⟨⟨⟨⟨⟨h1, h2⟩, h3⟩, h4⟩, h5⟩, h6⟩ := h
    subst h1
    obtain ⟨k1, k2, k3⟩ := kn
    have go := hE c P M k X V a o k3 h6
    have s2 : starEach [.Name y p2] X.env = (false, eval (.Name y p2) X.env) :: starEach [] X.env := rfl
    cases ic with
    | cls j =>
      have k2 : IscK M j := k2
      have h4 : y = c.cn.getD j "" := h4
      rw [← V.cn] at h4
      subst h4
      refine s_isaC V.O.o (c := j) ?_ (V.gl h2) (by rw [V.O.mg]; exact k1) (V.gl h3) ?_ k2.db go (star_of h5) s2 rfl
      · rw [V.O.T]; exact k2.k
      · rw [V.O.mg, V.O.T]; exact k2.mg
    | int =>
      subst h4
      exact s_isaT V.O.o (fun n z => by cases z) (fun c' => by rw [V.O.T]; exact k2.2 c') (V.gl h2) (by rw [V.O.mg]; exact k1) (V.gl h3) (by rw [V.O.mg]; exact k2.1) go (star_of h5) s2 rfl
    | bool =>
      subst h4
      exact s_isaT V.O.o (fun n z => by cases z) (fun c' => by rw [V.O.T]; exact k2.2 c') (V.gl h2) (by rw [V.O.mg]; exact k1) (V.gl h3) (by rw [V.O.mg]; exact k2.1) go (star_of h5) s2 rfl
    | tuple =>
      subst h4
      exact s_isaT V.O.o (fun n z => by cases z) (fun c' => by rw [V.O.T]; exact k2.2 c') (V.gl h2) (by rw [V.O.mg]; exact k1) (V.gl h3) (by rw [V.O.mg]; exact k2.1) go (star_of h5) s2 rfl
    | list =>
      subst h4
      exact s_isaT V.O.o (fun n z => by cases z) (fun c' => by rw [V.O.T]; exact k2.2 c') (V.gl h2) (by rw [V.O.mg]; exact k1) (V.gl h3) (by rw [V.O.mg]; exact k2.1) go (star_of h5) s2 rfl
  · rename_i cl kk a o f p
    simp only [Bool.and_eq_true, decide_eq_true_eq] at h
    unfold knE at kn
    obtain ⟨⟨h1, h2⟩, h3⟩ := h
    obtain ⟨kf, k3⟩ := kn
    rw [← V.fl, ← V.O.T] at h1
    rw [← V.O.T] at kf
    exact s_fld V.O.o (hE c P M k X V a o k3 h3) h1 kf.nd kf.cl (kf.no f (List.mem_of_getElem? h1)) (base_of h2)
  · rename_i a b x y p
    simp only [Bool.and_eq_true] at h
    unfold knE at kn
    exact s_idx V.O.o (hE c P M k X V a x kn.1 h.1.2) (hE c P M k X V b y kn.2 h.2) (plain_of h.1.1)
  · rename_i a lo hi x lo' hi' p2 p
    simp only [Bool.and_eq_true] at h
    unfold knE at kn
    obtain ⟨⟨h1, h2⟩, h3⟩ := h
    refine s_slc V.O.o (hE c P M k X V a x kn.1 h1) ?_ ?_
    · cases lo' with
      | none =>
        dsimp only at h2 ⊢
        split at h2
        · rfl
        · cases h2
      | some l =>
        simp only [Bool.and_eq_true, Bool.not_eq_true'] at h2
        exact ⟨h2.1, hE c P M k X V lo l kn.2.1 h2.2⟩
    · cases hi' with
      | none =>
        dsimp only at h3 ⊢
        split at h3
        · rfl
        · cases h3
      | some l =>
        simp only [Bool.and_eq_true, Bool.not_eq_true'] at h3
        exact ⟨h3.1, hE c P M k X V hi l kn.2.2 h3.2⟩
  · rename_i i x xp m ap pos
    simp only [Bool.and_eq_true, decide_eq_true_eq] at h
    obtain ⟨⟨h1, h2⟩, h3⟩ := h
    subst h1
    obtain ⟨k1, k2, k3, k4⟩ := V.var h2
    exact s_pop V.O.o k1 k2 k3 k4 rfl h3
  · rename_i i a x xp m ap e pos
    simp only [Bool.and_eq_true, decide_eq_true_eq] at h
    unfold knE at kn
    obtain ⟨⟨⟨h1, h2⟩, h3⟩, h4⟩ := h
    subst h1
    obtain ⟨k1, k2, k3, k4⟩ := V.var h2
    have kn' : knE M k (.cons a .nil) := by unfold knE; exact ⟨kn, by unfold knE; trivial⟩
    obtain ⟨m1, m2, _⟩ := hA c P M k X V _ _ kn' h4
    have m3 : noStar e = true := by simpa using m2
    exact s_popat V.O.o k1 k2 k3 k4 m1 rfl (few_of m3) h3 (star_of m3)
  · rename_i vs t ik as d e elt tg iter ifs scope p
    simp only [Bool.and_eq_true] at h
    unfold knE at kn
    obtain ⟨⟨⟨⟨⟨⟨h1, h2⟩, h3⟩, h4⟩, h5⟩, h6⟩, h7⟩ := h
    obtain ⟨b1, b2, b3⟩ := blk_of V h1
    have W := V.blk b1.kind
    have := s_lc V.O.o (own := ownOf c vs) (pos := p) (by rw [b2]; exact b3) (by rw [b2]; exact sub_of h2) (hI c P M k X V ik as tg iter false kn.1 kn.2.1 h4) b1 (fun s H C cl fp => ckG_ok (W s H C cl fp) t tg h5) (fun s H C cl fp => ifs_ok hT (W s H C cl fp) kn.2.2.1 h6) (fun s H C cl fp => hE _ P M k _ (W s H C cl fp) e elt kn.2.2.2 h7) fun x => set_of h3
    rw [b2] at this
    exact this
  · rename_i vs vs1 t ik as t1 ik1 as1 e elt tg iter tg1 iter1 scope p
    simp only [Bool.and_eq_true] at h
    unfold knE at kn
    obtain ⟨⟨⟨⟨⟨⟨⟨⟨⟨⟨h1, h2⟩, h3⟩, h4⟩, h5⟩, h6⟩, h7⟩, h8⟩, h9⟩, h10⟩, h11⟩ := h
    obtain ⟨b1, b2, b3⟩ := blk_of V h1
    have W := V.blk b1.kind
    have := s_lc2 V.O.o (own := ownOf c vs) (vs1 := vs1) (pos := p) (by rw [b2]; exact b3) (by rw [b2]; exact sub_of h2) (sub_of h3) (by
      rw [b2]
      intro i hi
      rw [List.all_eq_true] at h4
      exact of_decide_eq_true (h4 i hi)) (hI c P M k X V ik as tg iter false kn.1 kn.2.1 h7) b1 (fun s H C cl fp => ckG_ok (W s H C cl fp) t tg h8) (fun s H C cl fp => hI _ P M k _ (W s H C cl fp) ik1 as1 tg1 iter1 false kn.2.2.1 kn.2.2.2.1 h9) (fun s H C cl fp => ckG_ok (W s H C cl fp) t1 tg1 h10) (fun s H C cl fp => hE _ P M k _ (W s H C cl fp) e elt kn.2.2.2.2 h11) (fun x => set_of h5) fun env x => set_of h6
    rw [b2] at this
    exact this
  · rename_i vs i ik as lp x xp iter scope p
    simp only [Bool.and_eq_true, decide_eq_true_eq] at h
    unfold knE at kn
    obtain ⟨⟨⟨⟨h1, h2⟩, h3⟩, h4⟩, h5⟩ := h
    obtain ⟨b1, b2, b3⟩ := blk_of V h1
    have W := V.blk b1.kind
    have := s_lcl V.O.o (own := ownOf c vs) (lp := lp) (pos := p) (by rw [b2]; exact b3) (by rw [b2]; exact h2) (hI c P M k X V ik as (.Name x xp) iter false kn.1 kn.2 h4) b1 (fun s H C cl fp => ckG_ok (W s H C cl fp) (.nm i) (.Name x xp) h5) fun x => set_of h3
    rw [b2] at this
    exact this
  · rename_i vs t i d e elt tg x xp ifs scope p
    simp only [Bool.and_eq_true] at h
    unfold knE at kn
    obtain ⟨⟨⟨⟨⟨h1, h2⟩, h3⟩, h4⟩, h5⟩, h6⟩ := h
    obtain ⟨b1, b2, b3⟩ := blk_of V h1
    have W := V.blk b1.kind
    obtain ⟨k1, k2, k3, k4⟩ := V.var h3
    have := s_lk V.O.o (own := ownOf c vs) (xp := xp) (pos := p) (by rw [b2]; exact b3) (by rw [b2]; exact sub_of h2) k1 k2 k3 k4 b1 (fun s H C cl fp => ckG_ok (W s H C cl fp) t tg h4) (fun s H C cl fp => ifs_ok hT (W s H C cl fp) kn.1 h5) (fun s H C cl fp => hE _ P M k _ (W s H C cl fp) e elt kn.2 h6) fun y => rfl
    rw [b2] at this
    exact this
  · exact s_dnew
  · exact s_dnewT
  · cases h
theorem sn_all : ∀ n, SnE n ∧ SnA n ∧ SnT n ∧ SnI n
  | 0 => ⟨fun c P M k X V e x kn h => (by unfold ckE at h; exact absurd h Bool.false_ne_true), fun c P M k X V e x kn h => (by unfold ckA at h; exact absurd h Bool.false_ne_true), fun c P M k X V e x kn h => (by unfold ckT at h; exact absurd h Bool.false_ne_true), fun c P M k X V ik e tg x z ki kn h => (by unfold ckI at h; exact absurd h Bool.false_ne_true)⟩
  | n + 1 => by
    obtain ⟨h1, h2, h3, h4⟩ := sn_all n
    exact ⟨snE_succ h1 h2 h3 h4, snA_succ h1 h2, snT_succ h1 h3, snI_succ h1 h2⟩
end
end Cw
/-! Cw: the check of statements. -/
namespace Cw
open PySem PySem.Spec PyProof.Rows L2

def knS (M : Mo) (k : Nat) : Sm → Prop
  | .asg _ e => knE M k e
  | .pars _ as => knE M k as
  | .setl _ a e => knE M k a ∧ knE M k e
  | .setd _ a e => knE M k a ∧ knE M k e
  | .seta _ _ a e => knE M k a ∧ knE M k e
  | .aug _ _ e => knE M k e
  | .app _ e => knE M k e
  | .app2 _ a e => knE M k a ∧ knE M k e
  | .ext _ e => knE M k e
  | .clr _ => True
  | .rev _ => True
  | .drop e => knE M k e
  | .appT e a => knE M k e ∧ knE M k a
  | .revT e => knE M k e
  | .ite c a b => knE M k c ∧ knS M k a ∧ knS M k b
  | .whl c b => knE M k c ∧ knS M k b
  | .for _ ik as b => knI M ik ∧ knE M k as ∧ knS M k b
  | .ret e => knE M k e
  | .retN => True
  | .brk => True
  | .cont => True
  | .pass => True
  | .never => True
  | .nil => True
  | .cons a r => knS M k a ∧ knS M k r
def notLk : E → Bool
  | .lk .. => false
  | _ => true
mutual
def ckS (n : Nat) (c : Ck) : Sm → Stmt → Bool
  | .asg (.nm i) e, .Assign [.Name x xp] v _ => setB c i x && (swNo c.sc x xp v || (swYes c.sc x xp v && notLk e)) && ckE n c e v
  | .asg (.tp r) e, .Assign [tg] v _ => noName tg && noStar tg && ckG c (.tp r) tg && spNo c.sc tg v && offB c (Tg.tp r).slots && ckE n c e v
  | .pars [i, j] as, .Assign [.Tuple [.Name x px, .Name y py] _ _] (.Tuple [a, b] _ _) _ => spYes c.sc [.Name x px, .Name y py] [a, b] && setB c i x && setB c j y && decide (i ≠ j) && ckA n c as [a, b]
  | .pars [i, j, l] as, .Assign [.Tuple [.Name x px, .Name y py, .Name z pz] _ _] (.Tuple [a, b, d] _ _) _ => spYes c.sc [.Name x px, .Name y py, .Name z pz] [a, b, d] && setB c i x && setB c j y && setB c l z && decide (i ≠ j) && decide (i ≠ l) && decide (j ≠ l) && ckA n c as [a, b, d]
  | .setl i a e, .Assign [.Subscript (.Name x _) b _] v _ => varB c i x && noSlice b && ckE n c a b && ckE n c e v
  | .setd i a e, .Assign [.Subscript (.Name x _) b _] v _ => varB c i x && ckE n c a b && ckE n c e v
  | .aug i op e, .AugAssign (.Name x _) o v _ => setB c i x && decide (o = bopA op) && (decide (op = .add) || decide (op = .sub)) && ckE n c e v
  | .app i e, .Expr (.Call (.Attribute (.Name x _) m ap) [a] [] cp) _ => decide (m = "append") && varB c i x && (ap.endLine == cp.line) && ckA n c (.cons e .nil) [a]
  | .app2 i a e, .Expr (.Call (.Attribute o m ap) [v] [] cp) _ => decide (m = "append") && baseOk o && (ap.endLine == cp.line) && ckE n c (.idx (.var i) a) o && ckA n c (.cons e .nil) [v]
  | .ext i e, .Expr (.Call (.Attribute (.Name x _) m ap) [a] [] cp) _ => decide (m = "extend") && varB c i x && (ap.endLine == cp.line) && ckA n c (.cons e .nil) [a]
  | .clr i, .Expr (.Call (.Attribute (.Name x _) m ap) [] [] cp) _ => decide (m = "clear") && varB c i x && (ap.endLine == cp.line)
  | .rev i, .Expr (.Call (.Attribute (.Name x _) m ap) [] [] cp) _ => decide (m = "reverse") && varB c i x && (ap.endLine == cp.line)
  | .appT e a, .Expr (.Call (.Attribute o m ap) [v] [] cp) _ => decide (m = "append") && baseOk o && (ap.endLine == cp.line) && ckE n c e o && ckA n c (.cons a .nil) [v]
  | .revT e, .Expr (.Call (.Attribute o m ap) [] [] cp) _ => decide (m = "reverse") && baseOk o && (ap.endLine == cp.line) && ckE n c e o
  | .drop e, .Expr v _ => noComp v && ckE n c e v
  | .ite d a b, .If x p q _ => ckT n c d x && ckSs n c a p && ckSs n c b q
  | .whl d b, .While x p [] _ => ckT n c d x && ckSs n c b p
  | .for t ik as b, .For tg it p [] _ => noSet it && offB c t.slots && ckI n c ik as tg it && ckG c t tg && ckSs n c b p
  | .ret e, .Return (some v) _ => ckE n c e v
  | .retN, .Return none _ => true
  | .brk, .Break _ => true
  | .cont, .Continue _ => true
  | .pass, .Pass _ => true
  | .never, _ => true
  | _, _ => false
def ckSs (n : Nat) (c : Ck) : Sm → List Stmt → Bool
  | .nil, [] => true
  | .cons a r, st :: sts => ckS n c a st && ckSs n c r sts
  | _, _ => false
end
section
variable {c : Ck} {P : Par} {M : Mo} {k : Nat} {X : Cx}
theorem kn_one {e : E} (kn : knE M k e) : knE M k (.cons e .nil) := by unfold knE; exact ⟨kn, by unfold knE; trivial⟩
theorem sp_two {sc : Scope} {x y : Str} {px py : Pos} {vs : List Expr} (h : spYes sc [.Name x px, .Name y py] vs = true) : sc.names.lookup x = some .local ∧ sc.names.lookup y = some .local ∧ spNames sc [.Name x px, .Name y py] (lineOf [.Name x px, .Name y py]) = [x, y] := by
  unfold spYes at h
  simp only [Bool.and_eq_true, beq_iff_eq] at h
  have h4 := h.1.1.1.2
  generalize lineOf [.Name x px, .Name y py] = l at h4 ⊢
  unfold spNames at h4 ⊢
  simp only [List.filterMap_cons, List.filterMap_nil] at h4 ⊢
  by_cases a1 : (sc.names.lookup x == some .local && px.line == l) = true
  · by_cases a2 : (sc.names.lookup y == some .local && py.line == l) = true
    · rw [if_pos a1, if_pos a2]
      simp only [Bool.and_eq_true, beq_iff_eq] at a1 a2
      exact ⟨a1.1, a2.1, rfl⟩
    · rw [if_pos a1, if_neg a2] at h4
      simp at h4
  · rw [if_neg a1] at h4
    by_cases a2 : (sc.names.lookup y == some .local && py.line == l) = true
    · rw [if_pos a2] at h4; simp at h4
    · rw [if_neg a2] at h4; simp at h4
theorem sp_three {sc : Scope} {x y z : Str} {px py pz : Pos} {vs : List Expr} (h : spYes sc [.Name x px, .Name y py, .Name z pz] vs = true) : sc.names.lookup x = some .local ∧ sc.names.lookup y = some .local ∧ sc.names.lookup z = some .local ∧ spNames sc [.Name x px, .Name y py, .Name z pz] (lineOf [.Name x px, .Name y py, .Name z pz]) = [x, y, z] := by
  unfold spYes at h
  simp only [Bool.and_eq_true, beq_iff_eq] at h
  have h4 := h.1.1.1.2
  generalize lineOf [.Name x px, .Name y py, .Name z pz] = l at h4 ⊢
  unfold spNames at h4 ⊢
  simp only [List.filterMap_cons, List.filterMap_nil] at h4 ⊢
  by_cases a1 : (sc.names.lookup x == some .local && px.line == l) = true <;> by_cases a2 : (sc.names.lookup y == some .local && py.line == l) = true <;> by_cases a3 : (sc.names.lookup z == some .local && pz.line == l) = true
  · rw [if_pos a1, if_pos a2, if_pos a3]
    simp only [Bool.and_eq_true, beq_iff_eq] at a1 a2 a3
    exact ⟨a1.1, a2.1, a3.1, rfl⟩
  all_goals (exfalso; simp only [a1, a2, a3, if_true, if_false] at h4; simp at h4)
theorem asg_ok {n : Nat} (V : Cv c P M k X) {i : Nat} {x : Str} {xp pos : Pos} {v : Expr} {e : E} (kn : knE M k e) (h1 : setB c i x = true) (h2 : (swNo c.sc x xp v || (swYes c.sc x xp v && notLk e)) = true) (h3 : ckE n c e v = true) : PS X (.Assign [.Name x xp] v pos) (rdS P (.asg (.nm i) e)) := by
  obtain ⟨k1, k2, k3, k4⟩ := V.set h1
  have kd : X.env.scope.kind = .function := by rw [V.sc]; exact V.kd
  rw [← V.sc] at h2
  by_cases hs : swNo X.env.scope x xp v = true
  · exact ss_set V.O.o k1 k2 k3 ((sn_all n).1 c P M k X V e v kn h3) (sw_no kd hs) k4
  · have hy : swYes X.env.scope x xp v = true ∧ notLk e = true := by
      rw [Bool.not_eq_true] at hs
      rw [hs, Bool.false_or, Bool.and_eq_true] at h2
      exact h2
    obtain ⟨hy, hlk⟩ := hy
    cases n with
    | zero => unfold ckE at h3; cases h3
    | succ n =>
      obtain ⟨hE, hA, hT, hI⟩ := sn_all n
      cases v with
      | ListComp elt gs scope p =>
        obtain ⟨w1, w2⟩ := sw_yes (l := pos.line) kd hy
        unfold ckE at h3
        split at h3
        any_goals (rename_i e1; cases e1; done)
        · rename_i vs t ik as d e elt tg iter ifs scope p e1
          cases e1
          simp only [Bool.and_eq_true] at h3
          unfold knE at kn
          obtain ⟨⟨⟨⟨⟨⟨h1, h2⟩, h3⟩, h4⟩, h5⟩, h6⟩, h7⟩ := h3
          obtain ⟨b1, b2, b3⟩ := blk_of V h1
          have W := V.blk b1.kind
          have := ss_setLc V.O.o k1 w2 w1 k4 (own := ownOf c vs) (by rw [b2]; exact b3) (by rw [b2]; exact sub_of h2) (hI c P M k X V ik as _ _ false kn.1 kn.2.1 h4) b1 (fun s H C cl fp => ckG_ok (W s H C cl fp) t _ h5) (fun s H C cl fp => ifs_ok hT (W s H C cl fp) kn.2.2.1 h6) (fun s H C cl fp => hE _ P M k _ (W s H C cl fp) _ _ kn.2.2.2 h7) fun x => set_of h3
          rw [b2] at this
          exact this
        · rename_i vs vs1 t ik as t1 ik1 as1 e elt tg iter tg1 iter1 scope p e1
          cases e1
          simp only [Bool.and_eq_true] at h3
          unfold knE at kn
          obtain ⟨⟨⟨⟨⟨⟨⟨⟨⟨⟨h1, h2⟩, h3⟩, h4⟩, h5⟩, h6⟩, h7⟩, h8⟩, h9⟩, h10⟩, h11⟩ := h3
          obtain ⟨b1, b2, b3⟩ := blk_of V h1
          have W := V.blk b1.kind
          have := ss_setLc2 V.O.o k1 w2 w1 k4 (own := ownOf c vs) (vs1 := vs1) (by rw [b2]; exact b3) (by rw [b2]; exact sub_of h2) (sub_of h3) (by
            rw [b2]
            intro i hi
            rw [List.all_eq_true] at h4
            exact of_decide_eq_true (h4 i hi)) (hI c P M k X V ik as _ _ false kn.1 kn.2.1 h7) b1 (fun s H C cl fp => ckG_ok (W s H C cl fp) t _ h8) (fun s H C cl fp => hI _ P M k _ (W s H C cl fp) ik1 as1 _ _ false kn.2.2.1 kn.2.2.2.1 h9) (fun s H C cl fp => ckG_ok (W s H C cl fp) t1 _ h10) (fun s H C cl fp => hE _ P M k _ (W s H C cl fp) _ _ kn.2.2.2.2 h11) (fun x => set_of h5) fun env x => set_of h6
          rw [b2] at this
          exact this
        · rename_i vs j ik as lp x' xp' iter scope p e1
          cases e1
          simp only [Bool.and_eq_true, decide_eq_true_eq] at h3
          unfold knE at kn
          obtain ⟨⟨⟨⟨h1, h2⟩, h3⟩, h4⟩, h5⟩ := h3
          obtain ⟨b1, b2, b3⟩ := blk_of V h1
          have W := V.blk b1.kind
          have := ss_setLcl V.O.o k1 w2 w1 k4 (own := ownOf c vs) (by rw [b2]; exact b3) (by rw [b2]; exact h2) (hI c P M k X V ik as (.Name x' xp') _ false kn.1 kn.2 h4) b1 (fun s H C cl fp => ckG_ok (W s H C cl fp) (.nm j) (.Name x' xp') h5) fun x => set_of h3
          rw [b2] at this
          exact this
        · cases hlk
        · cases h3
      | _ => cases hy
end
section
variable {c : Ck} {P : Par} {M : Mo} {k : Nat} {X : Cx} {n : Nat}
theorem list_size {α : Type} [SizeOf α] : True := trivial
theorem ck_stmt (V : Cv c P M k X) (hp : PassesOwn (model X.prog X.w) X.A X.env X.xe) : ∀ m : Nat, (∀ (s : Sm), sizeOf s ≤ m → ∀ (st : Stmt), knS M k s → ckS n c s st = true → PS X st (rdS P s)) ∧ (∀ (s : Sm), sizeOf s ≤ m → ∀ (sts : List Stmt), knS M k s → ckSs n c s sts = true → PSs X sts (rdS P s))
  | 0 => ⟨fun s hs => by cases s <;> simp at hs, fun s hs => by cases s <;> simp at hs⟩
  | m + 1 => by
    obtain ⟨ihS, ihB⟩ := ck_stmt V hp m
    obtain ⟨hE, hA, hT, hI⟩ := sn_all n
    have E := hE c P M k X V
    have A := hA c P M k X V
    have T := hT c P M k X V
    refine ⟨fun s hs st kn h => ?_, fun s hs sts kn h => ?_⟩
    · have kd : X.env.scope.kind = .function := by rw [V.sc]; exact V.kd
      unfold ckS at h
      split at h
      · rename_i i e x xp v pos
        simp only [Bool.and_eq_true] at h
        unfold knS at kn
        exact asg_ok V kn h.1.1 h.1.2 h.2
      · rename_i r e tg v pos
        simp only [Bool.and_eq_true] at h
        unfold knS at kn
        obtain ⟨⟨⟨⟨⟨h1, h2⟩, h3⟩, h4⟩, h5⟩, h6⟩ := h
        exact ss_tup V.O.o (E e v kn h6) (ckG_ok V _ _ h3) (V.offs h5) (sole_tg h1) (sp_no (by rw [V.sc]; exact h4)) (by rw [aeach h2]; rfl)
      · rename_i i j as x px y py kt pt a b k2 pt2 pos
        simp only [Bool.and_eq_true, decide_eq_true_eq] at h
        unfold knS at kn
        obtain ⟨⟨⟨⟨h1, h2⟩, h3⟩, h4⟩, h5⟩ := h
        rw [← V.sc] at h1
        obtain ⟨n1, n2, n3⟩ := sp_two h1
        have q := sp_yes (k := kt) (p := pt) (k2 := k2) (p2 := pt2) kd h1
        rw [n3] at q
        refine ss_par V.O.o (V.set h2).1 (V.set h3).1 h4 n1 n2 (A as _ kn h5).1 q rfl (fun z hz => ?_)
        rcases List.mem_cons.mp hz with rfl | hz
        · exact (V.set h2).2.2.2 _ (by simp)
        · have : z = j := by simpa using hz
          subst this
          exact (V.set h3).2.2.2 _ (by simp)
      · rename_i i j l as x px y py z pz kt pt a b d k2 pt2 pos
        simp only [Bool.and_eq_true, decide_eq_true_eq] at h
        unfold knS at kn
        obtain ⟨⟨⟨⟨⟨⟨⟨h1, h2⟩, h3⟩, h4⟩, h5⟩, h6⟩, h7⟩, h8⟩ := h
        rw [← V.sc] at h1
        obtain ⟨n1, n2, n3, n4⟩ := sp_three h1
        have q := sp_yes (k := kt) (p := pt) (k2 := k2) (p2 := pt2) kd h1
        rw [n4] at q
        refine ss_par3 V.O.o (V.set h2).1 (V.set h3).1 (V.set h4).1 h5 h6 h7 n1 n2 n3 (A as _ kn h8).1 q rfl (fun w hw => ?_)
        rcases List.mem_cons.mp hw with rfl | hw
        · exact (V.set h2).2.2.2 _ (by simp)
        rcases List.mem_cons.mp hw with rfl | hw
        · exact (V.set h3).2.2.2 _ (by simp)
        · have : w = l := by simpa using hw
          subst this
          exact (V.set h4).2.2.2 _ (by simp)
      · rename_i i a e x xp b tp v pos
        simp only [Bool.and_eq_true] at h
        unfold knS at kn
        obtain ⟨⟨⟨h1, h2⟩, h3⟩, h4⟩ := h
        obtain ⟨k1, k2, k3, k4⟩ := V.var h1
        exact ss_setl V.O.o k1 k2 k3 k4 (E e v kn.2 h4) (E a b kn.1 h3) (fun v => by cases b <;> first | rfl | (simp [noSlice] at h2)) (sole_tg rfl) rfl rfl
      · rename_i i a e x xp b tp v pos
        simp only [Bool.and_eq_true] at h
        unfold knS at kn
        obtain ⟨⟨h1, h3⟩, h4⟩ := h
        obtain ⟨k1, k2, k3, k4⟩ := V.var h1
        exact ss_setd V.O.o k1 k2 k3 k4 (E e v kn.2 h4) (E a b kn.1 h3) (sw_tg rfl)
      · rename_i i op e x xp o v pos
        simp only [Bool.and_eq_true, Bool.or_eq_true, decide_eq_true_eq] at h
        unfold knS at kn
        obtain ⟨⟨⟨h1, h2⟩, h3⟩, h4⟩ := h
        subst h2
        obtain ⟨k1, k2, k3, k4⟩ := V.set h1
        exact ss_aug V.O.o k1 k2 k3 (E e v kn h4) h3 k4
      · rename_i i e x xp m' ap a cp pos
        simp only [Bool.and_eq_true, decide_eq_true_eq] at h
        unfold knS at kn
        obtain ⟨⟨⟨h1, h2⟩, h3⟩, h4⟩ := h
        subst h1
        obtain ⟨k1, k2, k3, k4⟩ := V.var h2
        obtain ⟨m1, m2, _⟩ := A _ _ (kn_one kn) h4
        have m3 : noStar a = true := by simpa using m2
        exact ss_app V.O.o k1 k2 k3 k4 m1 rfl (few_of m3) h3 (star_of m3)
      · rename_i i a e o m' ap v cp pos
        simp only [Bool.and_eq_true, decide_eq_true_eq] at h
        unfold knS at kn
        obtain ⟨⟨⟨⟨h1, h2⟩, h3⟩, h4⟩, h5⟩ := h
        subst h1
        obtain ⟨m1, m2, _⟩ := A _ _ (kn_one kn.2) h5
        have m3 : noStar v = true := by simpa using m2
        exact ss_app2 V.O.o (E _ o (by unfold knE; exact ⟨by unfold knE; trivial, kn.1⟩) h4) m1 (base_of h2) (few_of m3) h3 (star_of m3)
      · rename_i i e x xp m' ap a cp pos
        simp only [Bool.and_eq_true, decide_eq_true_eq] at h
        unfold knS at kn
        obtain ⟨⟨⟨h1, h2⟩, h3⟩, h4⟩ := h
        subst h1
        obtain ⟨k1, k2, k3, k4⟩ := V.var h2
        obtain ⟨m1, m2, _⟩ := A _ _ (kn_one kn) h4
        have m3 : noStar a = true := by simpa using m2
        exact ss_ext V.O.o k1 k2 k3 k4 m1 rfl (few_of m3) h3 (star_of m3)
      · rename_i i x xp m' ap cp pos
        simp only [Bool.and_eq_true, decide_eq_true_eq] at h
        obtain ⟨⟨h1, h2⟩, h3⟩ := h
        subst h1
        obtain ⟨k1, k2, k3, k4⟩ := V.var h2
        exact ss_clr V.O.o k1 k2 k3 k4 rfl h3
      · rename_i i x xp m' ap cp pos
        simp only [Bool.and_eq_true, decide_eq_true_eq] at h
        obtain ⟨⟨h1, h2⟩, h3⟩ := h
        subst h1
        obtain ⟨k1, k2, k3, k4⟩ := V.var h2
        exact ss_rev V.O.o k1 k2 k3 k4 rfl h3
      · rename_i e a o m' ap v cp pos
        simp only [Bool.and_eq_true, decide_eq_true_eq] at h
        unfold knS at kn
        obtain ⟨⟨⟨⟨h1, h2⟩, h3⟩, h4⟩, h5⟩ := h
        subst h1
        obtain ⟨m1, m2, _⟩ := A _ _ (kn_one kn.2) h5
        have m3 : noStar v = true := by simpa using m2
        exact ss_appT V.O.o (E _ o kn.1 h4) m1 (base_of h2) (few_of m3) h3 (star_of m3)
      · rename_i e o m' ap cp pos
        simp only [Bool.and_eq_true, decide_eq_true_eq] at h
        unfold knS at kn
        obtain ⟨⟨⟨h1, h2⟩, h3⟩, h4⟩ := h
        subst h1
        exact ss_revT V.O.o (E _ o kn h4) (base_of h2) h3
      · rename_i e v pos
        simp only [Bool.and_eq_true] at h
        unfold knS at kn
        exact ss_drop (E e v kn h.2) (sw_of h.1)
      · rename_i d a b x p q pos
        simp only [Bool.and_eq_true] at h
        unfold knS at kn
        simp only [Sm.ite.sizeOf_spec] at hs
        exact ss_if (T d x kn.1 h.1.1) (ihB a (by omega) p kn.2.1 h.1.2) (ihB b (by omega) q kn.2.2 h.2)
      · rename_i d b x p pos
        simp only [Bool.and_eq_true] at h
        unfold knS at kn
        simp only [Sm.whl.sizeOf_spec] at hs
        exact ss_whl hp (T d x kn.1 h.1) (ihB b (by omega) p kn.2 h.2)
      · rename_i t ik as b tg it p pos
        simp only [Bool.and_eq_true] at h
        unfold knS at kn
        simp only [Sm.for.sizeOf_spec] at hs
        obtain ⟨⟨⟨⟨h1, h2⟩, h3⟩, h4⟩, h5⟩ := h
        exact ss_for V.O.o hp (hI c P M k X V ik as tg it true kn.1 kn.2.1 h3) (ckG_ok V t tg h4) (V.offs h2) (ihB b (by omega) p kn.2.2 h5) fun x => set_of h1
      · rename_i e v pos
        unfold knS at kn
        exact ss_ret (E e v kn h)
      · exact ss_retN
      · exact ss_brk
      · exact ss_cont
      · exact ss_pass
      · exact ss_never
      · cases h
    · unfold ckSs at h
      split at h
      · exact ss_nil
      · rename_i a r st sts
        simp only [Bool.and_eq_true] at h
        unfold knS at kn
        simp only [Sm.cons.sizeOf_spec] at hs
        exact ss_cons (ihS a (by omega) st kn.1 h.1) (ihB r (by omega) sts kn.2 h.2)
      · cases h
/-- the check of a body is right -/
theorem ck_body (V : Cv c P M k X) (hp : PassesOwn (model X.prog X.w) X.A X.env X.xe) {s : Sm} {sts : List Stmt} (kn : knS M k s) (h : ckSs n c s sts = true) : PSs X sts (rdS P s) := (ck_stmt V hp _).2 s (Nat.le_refl _) sts kn h
end
end Cw
/-! Cw: defs of the text; the law's end. -/
namespace Cw
open PySem PySem.Spec PyProof.Rows L2

/-- the place of a def's body -/
def ckOf (N : List Str) (st : Stmt) (modes : List Bool) (cn : List Str) (fl : List (List Str)) : Ck := ⟨N, defScope st, true, defScope st, (List.range modes.length).filter fun i => modes[i]? == some true, cn, fl⟩
/-- a scope's names, parameters first -/
def scK (N ps : List Str) (sc : Scope) : Bool :=
  decide (sc.kind = .function) && !sc.isCoroutine && !sc.isGenerator && decide N.Nodup && decide (N.take ps.length = ps) && (ps.all fun x => decide (sc.names.lookup x = some .local ∨ sc.names.lookup x = some .cell)) && (sc.names.all fun y => decide (y.2 ≠ .free))
theorem scK_ok {N ps : List Str} {sc : Scope} (h : scK N ps sc = true) : FnScope N ps sc := by
  unfold scK at h
  simp only [Bool.and_eq_true, decide_eq_true_eq, Bool.not_eq_true', List.all_eq_true] at h
  obtain ⟨⟨⟨⟨⟨⟨h1, h2⟩, h3⟩, h4⟩, h5⟩, h6⟩, h7⟩ := h
  exact ⟨h1, h2, h3, h4, h5, h6, h7⟩
/-- a def of the text keeps its promise -/
theorem def_ok {M : Mo} {k n : Nat} {x qual : Str} {st : Stmt} {f : Addr} {fd : FuncData} {N ps cn : List Str} {fl : List (List Str)} {F : Fn} {b : Sm} (G : L2.Fun M.T.K x qual st f fd) (hcn : ∀ n, M.cn n = cn.getD n "") (hfl : ∀ n, M.T.fld n = fl.getD n []) (hs : scK N ps (defScope st) = true) (hm : F.modes.length = ps.length)
    (ck : ckSs n (ckOf N st F.modes cn fl) b (defBody st) = true) (kn : knS M k b) (hsp : ∀ (as : List Sl) (Q : Sl → List Sl → Prop), F.sp as Q → Md F.modes as → wS b (finD F.modes as Q) (startR N.length as)) :
    FnG M.prog M.w M.T.K M.mg M.base CX0 (k + 1) f fd ps (spF M.T F) := by
  obtain ⟨oc, od, kV, doc, pm, an, cdv, ct, osl, rfl, lk, hcd⟩ := G.ex
  refine fn_ok lk hcd (scK_ok hs) hm (fun P X O h1 h2 h4 h3 hp => ck_body ⟨O, h2, h1, ?_, ?_, fun i h => ?_, hcn, hfl⟩ hp kn ck) hsp
  · exact (scK_ok hs).kind
  · rw [h4]; rfl
  · have q := h3 i h
    have hi := (List.getElem?_eq_some_iff.mp q).1
    exact List.mem_filter.mpr ⟨List.mem_range.mpr hi, by rw [q]; rfl⟩
end Cw
namespace Cw
open PySem PySem.Spec PyProof.Rows L2

/-- the law's promise over data -/
def lawF (nm : Str) : Fn where
  name := nm
  modes := [false]
  sp as Q := ∃ ns : List Int, as = [.dat (.scr ns)] ∧ ns.length ≤ 63 ∧ ∀ bs, Q (.dat (.bl true)) bs
  mono as Q Q' h := fun ⟨ns, h1, h2, h3⟩ => ⟨ns, h1, h2, fun bs => h _ _ (h3 bs)⟩
/-- the heap beside the law's frame -/
theorem lawG_call {M : Program} {wd : World} {T : Tbl} {mg mb : Str → Option Value} {k : Nat} {fa a : Addr} {fd : FuncData} {x nm : Str} {sA : Shared} {vs : List Value} {ns : List Int}
    (kin : T.K.In sA.heap) (hg : sA.heap.Ns mainGlobals mg) (hb : sA.heap.Ns builtinsNs mb) (hbb : ∀ y : Str, y ≠ "__name__" → mb y = bootBuiltins y) (hl : sA.heap.NoLimit) (gn : sA.gens = #[])
    (obj : sA.heap.get? a = some { cls := .type "list", data := .seq vs.toArray }) (hi : IntsAre vs ns) (hn : ns.length ≤ 63) (room : Room k callerA)
    (F : ∀ base : Heap, T.K.In base → base.Ns mainGlobals mg → FnG M wd T.K mg base CX0 k fa fd [x] (spF T (lawF nm))) (bind : ∀ (s : Shared) (u : Value), BindsTo s fd ⟨[u], []⟩ [(x, u)]) :
    codeAny (model M wd) callerA (.call (.ref fa) ⟨[.ref a], []⟩) (fun r s' => r = .ok (.ret (.bool true)) ∧ OldK sA.heap s'.heap ∧ s'.os = sA.os ∧ AllBare s'.gens) sA := by
  have rel := vals_ints hi
  have len := hi.length
  have small : ns.length ≤ sizeLine := Nat.le_trans hn (by decide)
  have main : ∀ H : Hp, Only H → SqL T.K H a (ns.map V.int) → HOk M wd H sA.heap → (∀ b, H b ≠ none → b = a) → (H a ≠ none → T.K.lookup a = none) →
      codeAny (model M wd) callerA (.call (.ref fa) ⟨[.ref a], []⟩) (fun r s' => r = .ok (.ret (.bool true)) ∧ OldK sA.heap s'.heap ∧ s'.os = sA.os ∧ AllBare s'.gens) sA := by
    intro H only sq hok one cold
    -- what H does not track is the base
    have inBase : ∀ {b : Addr} {o : Obj}, sA.heap.get? b = some o → H b = none → (hidT sA.heap H).get? b = some o := fun e z => hidT_get e z
    have dicts : ∀ {b : Addr} {o : Obj} {es : Array DictEntry} {ep : Nat}, sA.heap.get? b = some o → o.data = .dict es ep → H b = none := fun {b o es ep} e d => Classical.byContradiction fun z => by
      have z' := one b z
      subst z'
      rw [obj] at e
      cases e
      cases d
    have spaces : ∀ {b : Addr} {m : Str → Option Value}, sA.heap.Ns b m → (hidT sA.heap H).Ns b m := fun ⟨o, es, ep, e, d, r⟩ => ⟨o, es, ep, inBase e (dicts e d), d, r⟩
    have kinB : T.K.In (hidT sA.heap H) := fun b o e => inBase (kin b o e) (Classical.byContradiction fun z => by
      have z' := one b z
      subst z'
      rw [cold z] at e
      cases e)
    obtain ⟨mc, c1, c2⟩ := hl
    have mod : Mod T.K mg (hidT sA.heap H) := ⟨kinB, spaces hg, ⟨mb, spaces hb, hbb⟩, mc, spaces c1, c2⟩
    have no : ∀ b ∈ frs ([] : List Env), H b = none := fun b z => absurd (show b ∈ ([] : List Addr) from z) (by simp)
    have env : Env0 M wd T.K mg (hidT sA.heap H) callerA [] sA H := ⟨rfl, mod, fun b o e => of_hidT e, Nat.le_of_eq (hidT_size _ _), trivial, no, hok, .of_eq gn⟩
    have want : spF T (lawF nm) [.ref a] H (fun v _ => v = .bl true) E0 := by
      refine ⟨rfl, fun b => if b = a then H a else none, [.dat (.scr ns)], [[]], fun b o e => ?_, ⟨fun _ => ⟨_, rfl⟩, trivial⟩, ⟨⟨rfl, ?_⟩, trivial⟩, by simp, fun b hb => by simp at hb, ns, rfl, hn, fun bs v qs qss' G' H' e => Rep.bl_inv (T := T) (G := G') e.rv.2⟩
      · have e : (if b = a then H a else none) = some o := e
        by_cases z : b = a
        · subst z; rw [if_pos rfl] at e; exact e
        · rw [if_neg z] at e; cases e
      · unfold Rep
        refine ⟨a, rfl, ?_⟩
        rcases sq with q | q
        · refine .inl ?_
          rcases q with q | ⟨o, q⟩
          · exact .inl (by show (if a = a then H a else none) = _; rw [if_pos rfl]; exact q)
          · exact .inr ⟨o, by show (if a = a then H a else none) = _; rw [if_pos rfl]; exact q⟩
        · exact .inr q
    refine codeAny_mono ((F _ kinB (spaces hg)).go callerA [] sA H ⟨[.ref a], []⟩ [.ref a] [.ref a] _ _ room rfl env (bind sA (.ref a)) (.cons rfl .nil) want) fun r s' z => ?_
    cases r with
    | error e => exact False.elim z
    | ok fl =>
      cases fl with
      | ret u =>
        obtain ⟨v, H', os, bare, un, hok', rv, q⟩ := z
        have q' : v = .bl true := q
        subst q'
        cases (show u = Value.bool true from rv)
        refine ⟨rfl, OldK.of_keep fun b o e => ?_, os, bare⟩
        rcases only b with z | ⟨ob, xs, z⟩
        · exact un.keep b o e z (by intro y; exact absurd (show b ∈ ([] : List Addr) from y) (by simp)) (by simp)
        · obtain ⟨e1, _⟩ := hok b _ z
          obtain ⟨e2, _⟩ := hok' b _ (un.frzs b ob _ z)
          rw [e] at e1
          cases e1
          exact e2
      | _ => exact False.elim z
  cases c : T.K.lookup a with
  | some o =>
    have e := kin a o c
    rw [obj] at e
    cases e
    exact main (fun _ => none) (fun _ => .inl rfl) (.inr ⟨_, vs.toArray, _, c, rfl, rfl, rfl, by rw [List.size_toArray, len]; exact small, by simpa using rel⟩) (fun b u z => nomatch (show (none : Option HO) = some u from z)) (fun b z => absurd rfl z) fun z => absurd rfl z
  | none =>
    have at_ : ∀ b, (if b = a then some (HO.frz { cls := .type "list", data := .seq vs.toArray } (.lst (ns.map V.int))) else none) ≠ none → b = a := fun b z => Classical.byContradiction fun y => z (if_neg y)
    refine main (fun b => if b = a then some (.frz { cls := .type "list", data := .seq vs.toArray } (.lst (ns.map V.int))) else none) (fun b => ?_) (.inl (.inr ⟨_, if_pos rfl⟩)) (fun b u z => ?_) at_ fun _ => c
    · by_cases y : b = a
      · exact .inr ⟨_, _, if_pos y⟩
      · exact .inl (if_neg y)
    · have y : b = a := at_ b (by
        have z' : (if b = a then some (HO.frz { cls := .type "list", data := .seq vs.toArray } (.lst (ns.map V.int))) else none) = some u := z
        rw [z']
        simp)
      subst y
      have z' := (if_pos rfl).symm.trans z
      cases z'
      exact ⟨obj, by rw [List.length_map]; exact small, vs, _, rel, obj⟩
/-- the goal that k_head leaves, by the law's promise -/
theorem walkG {l : PySem.W.OpenLaw} {k : Nat} {q : Program} {loose : List Str} {XP : (Str → Option Value) → Heap → Prop} {YP : World → Heap → Prop} {d : DefRec} {K : Params → PySem.W.Frag} {T : World → Tbl} {x nm : Str}
    (hn : l.most = some 63) (hdf : d.params.defaults = []) (room : Room k callerA) (hY : ∀ (w : World) (h : Heap), YP w h → (K w.params).In h) (hT : ∀ w, (T w).K = K w.params)
    (F : ∀ (w : World) (mg : Str → Option Value) (fa : Addr) (h : Heap), (K w.params).In h → h.Ns mainGlobals mg → mg d.name = some (.ref fa) →
      ∃ fd : FuncData, (∀ (s : Shared) (u : Value), BindsTo s fd ⟨[u], []⟩ [(x, u)]) ∧ ∀ base : Heap, (K w.params).In base → base.Ns mainGlobals mg → FnG l.prog w (K w.params) mg base CX0 k fa fd [x] (spF (T w) (lawF nm))) :
    PySem.W.WalkO q loose XP YP l.row.toRowW d [] (fun f vs => PySem.call f vs) := by
  refine Att.attach_call hn hdf fun w s₀ sA mg mb fa o pm cd doc a vs ns G Y ho hd hcd hmg hobj hints hlen hg => ?_
  have kin := hY w _ Y
  obtain ⟨fd, hb, hF⟩ := F w mg fa _ kin G.T.g hmg
  refine lawG_call (T := T w) (nm := nm) (by rw [hT]; exact kin) G.T.g G.T.b G.T.builtins G.T.nolimit hg hobj hints hlen room (fun base h1 h2 => ?_) hb
  rw [hT] at h1 ⊢
  exact hF base h1 h2
end Cw
/-! Cw: != by an own ==. -/
namespace PySem.W
open PySem PySem.Spec PyProof.Rows
section
variable {prog : Program} {w : World} {A : Around} {E : Value → Shared → Prop} {s : Shared} {K : Frag} {x C L f : Addr} {h₀ : Heap} {m : Str → Option Value} {ox : Obj} {od : Option Obj} {b tb : Value}
theorem cwNe {Q : Value → Shared → Prop} (hu : A.units + 1 < cLine) (F : Fr h₀ L s.heap m) (X₀ : K.In h₀) (I : InstAt s.heap x ox C od) (hb : Looks (model prog w) s.heap (typeOf b) tb) (hn : notFirst K C tb = true)
    (hne : findIn K (.ref C) "__ne__" = some (some (.builtin "object.__ne__"))) (heq : findIn K (.ref C) "__eq__" = some (some (.ref f))) (hf : isFn K (.ref f) = true) (po : plainOver K C = true)
    (h : wpAny (model prog w) A.in1 (call (.ref f) [.ref x, b]) (fun v s' => ∃ r, v = .bool r ∧ Q (.bool (!r)) s') E s) : wpAny (model prog w) A (richCompare .NotEq (.ref x) b) Q E s := by
  have X := X₀.keeps F.keep
  obtain ⟨cd, hc, hp⟩ := any_some po
  have ne : cd.mro.isEmpty = false := by
    cases q : cd.mro with
    | nil => rw [q] at hp; cases hp
    | cons _ _ => rfl
  have sub : Looks (model prog w) s.heap (isInstance (.ref x) (.type "object")) true := I.type.andThen (looks_mroIn X (by unfold mroIn; rw [hc, Option.bind_some, if_neg (by rw [ne]; decide), only_has hp]))
  have body : wpAny (model prog w) A (call (.builtin "object.__ne__") [.ref x, b]) (fun v s' => ∃ r, v = .bool r ∧ Q v s') E s := by
    refine wpAny_call (codeAny_call_builtin PySem.F.slot_object_ne.plain PySem.F.entry_object_ne (@check_slot (model prog w) _ _ s "object.__ne__" "object" "__ne__" (.ref x) [b] [] _ PySem.F.cmpKind_ne PySem.F.cmpSplit_ne sub (PySem.F.args_object_ne_2 (.ref x) b) ?_))
    unfold Builtin.«object.__ne__»
    refine wpAny_bind (wpAny_pure (wpAny_bind (wpAny_cRoomFor (A := A.in1) hu ?_)))
    refine wpAny_bind (ifBound_K X I heq hf (wpAny_mono h (fun v s' hv => ?_) fun _ _ e => e))
    obtain ⟨r, rfl, q⟩ := hv
    refine wpAny_bind (wpAny_truthy_bool (wpAny_pure ?_))
    exact ⟨_, rfl, q⟩
  have sp : wpAny (model prog w) A (callSpecialIfBound? (.ref x) "__ne__" [b]) (fun r s' => ∃ k, r = some (.bool k) ∧ Q (.bool k) s') E s := by
    have fin : wpAny (model prog w) A (call (.builtin "object.__ne__") ([.ref x] ++ [b]) >>= fun v => pure (some v)) (fun r s' => ∃ k, r = some (.bool k) ∧ Q (.bool k) s') E s :=
      wpAny_bind (wpAny_mono body (fun v s' ⟨r, e, q⟩ => wpAny_pure ⟨r, by rw [e], by rw [← e]; exact q⟩) fun _ _ z => z)
    simp only [callSpecialIfBound?, bindSpecialIfBound?]
    refine wpAny_holding (wpAny_bind (wpAny_bind (wpAny_bind (I.type.here ((looks_findIn X hne).here ?_)))))
    refine wpAny_bind (wpAny_askSetting (wpAny_ite ?_))
    have hbind := PySem.F.slot_object_ne.bind
    split
    · rw [hbind]
      exact wpAny_bind (wpAny_pure (wpAny_pure (by exact fin)))
    · rw [hbind]
      exact wpAny_tryCatch (wpAny_bind (wpAny_pure (wpAny_pure (by exact fin))))
  have one : wpAny (model prog w) A (tryCompare (.ref x) "__ne__" b) (fun r s' => ∃ v, r = some v ∧ Q v s') E s := by
    unfold tryCompare
    refine wpAny_bind (wpAny_mono sp (fun r s' hr => ?_) fun _ _ z => z)
    obtain ⟨k, rfl, q⟩ := hr
    exact wpAny_pure ⟨_, rfl, q⟩
  unfold richCompare
  simp only [oneThing_ref]
  refine wpAny_holding (wpAny_bind (wpAny_cRoomFor (Nat.lt_of_succ_lt hu) ?_))
  refine wpAny_bind (I.type.here (wpAny_bind (hb.here ?_)))
  have last : ∀ (g : Option Value → Sem Value), (∀ v, g (some v) = pure v) → wpAny (model prog w) A (tryCompare (.ref x) "__ne__" b >>= g) Q E s := fun g hg => wpAny_bind (wpAny_mono one (fun r s' z => by
    obtain ⟨v, rfl, q⟩ := z
    rw [hg]
    exact wpAny_pure q) fun _ _ e => e)
  split
  · rename_i q
    have e : subIn K tb (.ref C) = some false := by
      rcases Bool.or_eq_true_iff.mp hn with e | e
      · rw [beq_iff_eq.mp e] at q; simp at q
      · exact beq_iff_eq.mp e
    refine wpAny_bind ((looks_subIn X e).here ?_)
    simp only [Bool.false_eq_true, if_false]
    exact last _ fun _ => rfl
  · refine wpAny_bind (wpAny_pure ?_)
    simp only [Bool.false_eq_true, if_false]
    exact last _ fun _ => rfl
end
end PySem.W

namespace Cw
open PySem PySem.Spec PyProof.Rows L2
/-- the class at C compares by the def at f -/
structure EqK (T : Tbl) (C f : Addr) : Prop where
  eq : PySem.W.findIn T.K (.ref C) "__eq__" = some (some (.ref f))
  fn : PySem.W.isFn T.K (.ref f) = true
  ne : PySem.W.findIn T.K (.ref C) "__ne__" = some (some (.builtin "object.__ne__"))
  po : PySem.W.plainOver T.K C = true
  ty : ∀ t ∈ ["NoneType", "bool", "int", "str", "tuple", "list", "dict"], PySem.W.notFirst T.K C (.type t) = true
  own : ∀ c, PySem.W.notFirst T.K C (.ref (T.cls c)) = true
  cls : ∀ c, ClsK T.K (T.cls c)
def rEqw (T : Tbl) (C : Addr) (F : Fn) (neg : Bool) : R2 := fun x y H Q => (∃ a dx fs, x = .ref a ∧ H a = some (.ins C dx fs)) ∧ (∃ t, TyX T.K H y t ∧ PySem.W.notFirst T.K C t = true) ∧
  spF T F [x, y] H (fun v H' => ∃ k, v = .bl k ∧ Q (.bl (if neg = true then !k else k)) H') E0
theorem op_eqw {M : Mo} {P : Par} {k j : Nat} {X : Cx} {F : Fn} {f C : Addr} {fd : FuncData} {ps : List Str} (O : Onx P M k X) (G : FnG M.prog M.w M.T.K M.mg M.base CX0 j f fd ps (spF M.T F)) (hj : j + 1 ≤ k) (E : EqK M.T C f) (hb : Binds M.T.K fd ps []) (neg : Bool) :
    OpR X (compareOp (if neg = true then .NotEq else .Eq)) (rEqw M.T C F neg) := by
  intro pins s σ H x y v u Q I rx ry ⟨⟨a, dx, fs, hx, ha⟩, ⟨t, ht, hn⟩, h⟩
  subst hx
  cases (show v = Value.ref a from rx)
  have Gx := G.at O
  rw [← O.ek] at ht hn
  have E1 := E.eq
  have E2 := E.fn
  have E3 := E.ne
  have E4 := E.po
  rw [← O.ek] at E1 E2 E3 E4
  have hb' : Binds X.K fd ps [] := by rw [O.ek]; exact hb
  obtain ⟨mA, J, _⟩ := ins_get I.hok ha
  obtain ⟨od, J, _⟩ := J.look
  obtain ⟨m, hF⟩ := I.fr
  obtain ⟨Pk, Z, p, _⟩ := kit_of I ry ht
  have lk : PySem.W.Looks (model X.prog X.w) s.heap (typeOf u) t := Z.ty _ _ I.kIn p
  have hu0 : X.A.units < cLine := Nat.lt_of_le_of_lt (Nat.le_add_right _ 200) O.o.hu
  have hu1 : X.A.units + 1 < cLine := Nat.lt_of_le_of_lt (by omega) O.o.hu
  have rel : Vals [V.ref a, y] [Value.ref a, u] := .cons rfl (.cons ry .nil)
  have h' : spF M.T F ([V.ref a, y] ++ []) H (fun v H' => ∃ k, v = .bl k ∧ Q (.bl (if neg = true then !k else k)) H') E0 := h
  cases neg with
  | false =>
    show wpAny _ _ (richCompare .Eq (.ref a) u) _ _ _
    refine PySem.W.cmp_K (op := .Eq) hu0 hF I.ok.mod.kin J lk hn E1 E2 (wpAny_mono (go_fn (dvs := []) (ds := []) (E := E0) Gx (O.room.mono (by omega)) O.o.g hb' .nil passes0 I rel h') (fun w s' hw => ?_) fun _ _ e => e)
    obtain ⟨z, H', I', rz, b, ez, q⟩ := hw
    subst ez
    cases (show w = Value.bool b from rz)
    exact ⟨V.bl b, H', I', rfl, q⟩
  | true =>
    show wpAny _ _ (richCompare .NotEq (.ref a) u) _ _ _
    refine PySem.W.cwNe hu1 hF I.ok.mod.kin J lk hn E3 E1 E2 E4 (wpAny_call ?_)
    have n : ([Value.ref a, u] ++ ([] : List Value)).length = ps.length := by
      rw [← G.len _ _ _ _ h]; rfl
    refine codeAny_mono (Gx.go X.A.in1 X.stack s H ⟨[.ref a, u], []⟩ _ _ _ E0 ((O.room.mono hj).in1) O.o.g I.env0.in1 (hb' s [.ref a, u] I.kIn n) (by simpa using rel) h) fun r s' hq => ?_
    cases r with
    | error er => exact False.elim hq
    | ok fl =>
      cases fl with
      | ret w =>
        obtain ⟨z, H', I', rz, b, ez, q⟩ := I.after hq
        subst ez
        cases (show w = Value.bool b from rz)
        exact ⟨b, rfl, V.bl (!b), H', I', rfl, q⟩
      | _ => exact False.elim hq
theorem eqw_rd {M : Mo} {P : Par} {F : Fn} {cl : Nat} {f : Addr} {ea eb : E} {neg : Bool} {σ : List (Option V)} {H : Hp} {Q : VK} (hT : P.T = M.T) (E : EqK M.T (M.T.cls cl) f) (h : rdE P (.eqw neg F cl ea eb) σ H Q) : tOp (rEqw M.T (M.T.cls cl) F neg) (rdE P ea) (rdE P eb) σ H Q := by
  obtain ⟨ρ, θ, G, S, h⟩ := h
  unfold wE at h
  refine rd2 (Q := fun x y H2 => rEqw M.T (M.T.cls cl) F neg x y H2 Q) S h fun v w ρ2 x y qs rs θ2 G2 H2 ⟨fs, ev, h⟩ s2 S2 r1 r2 f n => ?_
  subst ev
  obtain ⟨z, r1⟩ := r1
  subst z
  obtain ⟨d, ρ3, θ3, G3, ⟨hd, h3⟩, S3, r3, e3, t3, g3, _⟩ := frz_ok (rest := []) S2 r2 (by simpa using f) h
  have s3 := stp_frzs (ρ2 := ρ3) (σ := σ) (as := rs) s2 (fun a ha => n a (by simpa using ha)) e3 t3 g3
  have r1' := Rep.mono e3 _ _ r1
  obtain ⟨a, dx, us, rfl, ha, _⟩ := Rep.ins_inv r1
  rw [hT] at ha
  refine ⟨⟨a, dx, _, rfl, S2.gh _ _ ha⟩, ?_, ?_⟩
  · rw [← hT] at E ⊢
    have ty : ∃ t, tyOf P.T (.dat d) = some t ∧ PySem.W.notFirst P.T.K (P.T.cls cl) t = true := by
      cases d with
      | scr ns => cases hd
      | ins c fs' => exact ⟨_, rfl, E.own c⟩
      | _ => exact ⟨_, rfl, E.ty _ (by simp)⟩
    obtain ⟨t, t1, t2⟩ := ty
    exact ⟨t, ty_of (x := .dat d) (fun c _ _ => E.cls c) S3.gh r3 t1, t2⟩
  · rw [← hT]
    refine call_ok (vs := [.ref a, y]) (qss := [[], []]) (ws := [.dat (.ins cl fs), .dat d]) (Q := fun v H' => ∃ k, v = .bl k ∧ Q (.bl (if neg = true then !k else k)) H') (callF_mono (fun r ρ4 ⟨b, e, q⟩ => ?_) h3) s3 S3 ⟨⟨rfl, r1'⟩, ⟨rfl, r3⟩, trivial⟩ Fr.nil fun b hb => by cases hb
    subst e
    intro v qs' θ4 G4 H4 s4 S4 r4 f4 n4
    exact ⟨b, Rep.bl_inv (T := P.T) (G := G4) r4.2, q.dat s4 S4 Rep.bl⟩
theorem EqV.of_fn {M : Mo} {k j cl : Nat} {F : Fn} {f : Addr} {fd : FuncData} {ps : List Str} (G : FnG M.prog M.w M.T.K M.mg M.base CX0 j f fd ps (spF M.T F)) (hj : j + 1 ≤ k) (E : EqK M.T (M.T.cls cl) f) (hb : Binds M.T.K fd ps []) : EqV M k F cl := fun P X O a b ea eb neg pos ha hb' => by
  have ho := op_eqw O G hj E hb neg
  have hm : behindInMarks (if neg = true then CmpOp.NotEq else .Eq) b = false := nobehind _ (by cases neg <;> decide) (by cases neg <;> decide)
  exact ⟨impE (pe_cmpR ho ha hb' hm) fun σ H Q h => eqw_rd O.T E h, impT (pt_cmpR ho ha hb' hm) fun σ H Q h => eqw_rd O.T E h⟩
end Cw
/-! Cw: defs without side effects; a constructor. -/
namespace Cw
open PySem PySem.Spec PyProof.Rows L2

/-- a def that changes no argument -/
def pureF (name : Str) (n : Nat) (pre : List D → (Sl → Prop) → Prop) (hm : ∀ ds Q Q', (∀ r, Q r → Q' r) → pre ds Q → pre ds Q') : Fn where
  name := name
  modes := List.replicate n false
  sp as Q := ∃ ds : List D, as = ds.map .dat ∧ ds.length = n ∧ pre ds fun r => ∀ bs, bs.length = n → Q r bs
  mono as Q Q' h := fun ⟨ds, h1, h2, h3⟩ => ⟨ds, h1, h2, hm _ _ _ (fun r q bs hb => h _ _ (q bs hb)) h3⟩
theorem pass_pure {Q : List Sl → List (Option Nat) → Ro → Prop} : ∀ {ws : List W} {ρ : Ro}, frzs ws ρ (fun ds ρ' => Q (ds.map .dat) (List.replicate ds.length none) ρ') → pass (List.replicate ws.length false) ws ρ Q
  | [], ρ, h => h
  | w :: ws, ρ, h => by
    rw [List.length_cons, List.replicate_succ]
    unfold pass
    unfold frzs at h
    refine frz_mono (fun d ρ1 k => ?_) h
    exact pass_pure (Q := fun as bs ρ' => Q (.dat d :: as) (none :: bs) ρ') (frzs_mono (fun ds ρ' z => by simpa [List.replicate_succ] using z) k)
theorem back_none : ∀ {bs : List (Option Nat)} {rs : List Sl} {ρ : Ro}, (∀ b ∈ bs, b = none) → back bs rs ρ = ρ
  | [], _, _, _ => by unfold back; rfl
  | b :: bs, [], _, h => by
    obtain rfl := h b List.mem_cons_self
    unfold back; rfl
  | b :: bs, r :: rs, ρ, h => by
    obtain rfl := h b List.mem_cons_self
    unfold back
    exact back_none fun b m => h b (List.mem_cons_of_mem _ m)
theorem frzs_len {n : Nat} : ∀ {ws : List W} {ρ : Ro} {Q : List D → Ro → Prop}, frzs ws ρ Q → frzs ws ρ fun ds ρ' => ds.length = ws.length ∧ Q ds ρ'
  | [], ρ, Q, h => ⟨rfl, h⟩
  | w :: ws, ρ, Q, h => by
    unfold frzs at h ⊢
    exact frz_mono (fun d ρ1 k => frzs_mono (fun ds ρ2 z => ⟨by simp [z.1], z.2⟩) (frzs_len (n := n) k)) h
/-- a call of such a def -/
theorem call_pure {name : Str} {n : Nat} {pre : List D → (Sl → Prop) → Prop} {hm : ∀ ds Q Q', (∀ r, Q r → Q' r) → pre ds Q → pre ds Q'} {ws : List W} {ρ : Ro} {Q : W → Ro → Prop} (hw : ws.length = n) (h : frzs ws ρ fun ds ρ' => pre ds fun r => Q (ofSl r) ρ') : callF (pureF name n pre hm) ws ρ Q := by
  subst hw
  unfold callF
  refine pass_pure (frzs_mono (fun ds ρ' z => ?_) (frzs_len (n := 0) h))
  refine ⟨ds, rfl, z.1, hm _ _ _ (fun r q bs hb => ⟨by rw [hb, List.length_map, z.1], ?_⟩) z.2⟩
  rw [back_none fun b hb => (List.mem_replicate.mp hb).2]
  exact q
/-- what a body gives back where no argument may be changed -/
def resOf (n : Nat) (w : W) (ρ : Ro) (Q : Sl → Prop) : Prop := match w with
  | .dat d => Q (.dat d)
  | .own t => Q (.own t)
  | .brw i => match slOf ρ i with
    | some (.dat d) => Q (.dat d)
    | some (.own t) => (n ≤ i ∧ Q (.own t)) ∨ Q (.dat t.toD)
    | none => False
  | .br2 _ _ => False
/-- the body of such a def -/
theorem pure_body {name : Str} {n m : Nat} {pre : List D → (Sl → Prop) → Prop} {hm : ∀ ds Q Q', (∀ r, Q r → Q' r) → pre ds Q → pre ds Q'} {b : Sm} (h : ∀ (ds : List D) (Q : Sl → Prop), ds.length = n → pre ds Q → wS b { nx := fun ρ => Q (.dat .non), rt := fun w ρ => resOf n w ρ Q } (startR m (ds.map .dat))) :
    ∀ (as : List Sl) (Q : Sl → List Sl → Prop), (pureF name n pre hm).sp as Q → Md (pureF name n pre hm).modes as → wS b (finD (pureF name n pre hm).modes as Q) (startR m as) := by
  rintro as Q ⟨ds, rfl, hl, hp⟩ _
  have ok : ∀ ρ, okB (List.replicate n false) (ds.map .dat) ρ := fun ρ i hi => by
    rw [List.getElem?_replicate] at hi
    split at hi <;> cases hi
  have el : ∀ ρ, (endB (List.replicate n false) ρ).length = n := fun ρ => by
    unfold endB
    simp
  have rt : ∀ w ρ, resOf n w ρ (fun r => ∀ bs, bs.length = n → Q r bs) → rtF (List.replicate n false) (ds.map .dat) Q w ρ := fun w ρ q => by
    cases w with
    | dat d => exact ⟨ok ρ, q _ (el ρ)⟩
    | own t => exact ⟨ok ρ, q _ (el ρ)⟩
    | brw i =>
      unfold resOf at q
      unfold rtF
      dsimp only at q ⊢
      split at q
      · rename_i d e; try rw [e]
        exact ⟨ok ρ, q _ (el ρ)⟩
      · rename_i t e
        try rw [e]
        try dsimp only
        rw [List.length_replicate]
        rcases q with ⟨hi, q⟩ | q
        · exact .inl ⟨hi, ok ρ, q _ (el ρ)⟩
        · exact .inr ⟨ok _, q _ (el _)⟩
      · exact q.elim
    | br2 i k => exact q.elim
  refine wS_mono b ⟨fun ρ q => rt (.dat .non) ρ q, fun w ρ q => rt w ρ q, fun _ q => False.elim q, fun _ q => False.elim q⟩ (h ds _ hl hp)
end Cw
/-! Cw: the web's constructor. -/
namespace Cw
open PySem PySem.Spec PyProof.Rows L2

/-- the loop over the rows: what the ways become -/
def Lp (F : Fn) : List D → List (List D) → (List (List D) → Prop) → Prop
  | [], w, K => K w
  | d :: ds, w, K => ∃ (na nb : Nat) (mv : D) (wa wb : List D), d = .tup [.int na, .int nb, mv] ∧ w[na]? = some wa ∧ wa.length < sizeLine ∧ (w.set na (wa ++ [.tup [.int nb, mv]]))[nb]? = some wb ∧ wb.length < sizeLine ∧
      callF F [.dat mv] [] fun r _ => ∃ tv, r = .dat tv ∧ Lp F ds ((w.set na (wa ++ [.tup [.int nb, mv]])).set nb (wb ++ [.tup [.int na, tv]])) K
/-- __init__'s promise: the instance at x, its dict at dx -/
def spIni (T : Tbl) (c n : Nat) (pre : List D → (List D → Prop) → Prop) : Sp := fun vs H Q _ => vs.length = n + 1 ∧ ∃ p dx G us ds, vs = .ref p :: us ∧ H p = some (.ins (T.cls c) dx []) ∧ H dx = some (.own p) ∧ dx ≠ p ∧ Ex G H ∧ G p = none ∧ G dx = none ∧ RepL T G ds us ∧ ds.length = n ∧
  pre ds fun fs => ∀ (G' H' : Hp) (us' : List V), Ex G G' → (∀ a, a ≠ p → ∀ o, G' a = some o → H' a = some o) → (∀ a o, H a = some o → a ≠ p → a ≠ dx → H' a = some o ∧ G' a = G a) → (∀ a, H' a = none → H a = none) → G' p = none →
    H' p = some (.ins (T.cls c) dx ((T.fld c).zip us')) → (T.fld c).length = us'.length → RepL T G' fs us' → Q .non H'
/-- a constructor -/
def makeF (name : Str) (c n : Nat) (pre : List D → (List D → Prop) → Prop) (hp : ∀ ds Q Q', (∀ fs, Q fs → Q' fs) → pre ds Q → pre ds Q') : Fn :=
  pureF name n (fun ds K => pre ds fun fs => K (.dat (.ins c fs))) fun ds Q Q' h => hp ds _ _ fun fs => h _
theorem RepAs.dats {T : Tbl} {G H : Hp} : ∀ {ds : List D} {vs : List V} {qss : List (List Addr)}, RepAs T G H vs qss (ds.map .dat) → RepL T G ds vs ∧ qss.flatten = []
  | [], [], [], _ => ⟨RepL.nil, rfl⟩
  | d :: ds, v :: vs, qs :: qss, h => by
    obtain ⟨⟨h1, h2⟩, h3⟩ := h
    obtain ⟨k1, k2⟩ := RepAs.dats (ds := ds) h3
    exact ⟨RepL.cons h2 k1, by rw [List.flatten_cons, h1, k2]; rfl⟩
  | [], [], _ :: _, h => h.elim
  | [], _ :: _, [], h => h.elim
  | [], _ :: _, _ :: _, h => h.elim
  | _ :: _, [], [], h => h.elim
  | _ :: _, [], _ :: _, h => h.elim
  | _ :: _, _ :: _, [], h => h.elim
theorem RepBs.dats {T : Tbl} {G H : Hp} : ∀ {ds : List D} {vs : List V} {qss : List (List Addr)} {bs : List Sl}, vs.length = ds.length → qss.length = ds.length → bs.length = ds.length → RepBs T G H vs qss (ds.map .dat) (ds.map fun _ => []) bs
  | [], [], [], [], _, _, _ => trivial
  | d :: ds, v :: vs, qs :: qss, b :: bs, h1, h2, h3 => ⟨rfl, RepBs.dats (by simpa using h1) (by simpa using h2) (by simpa using h3)⟩
/-- a constructor, by its __init__ -/
theorem CallV.of_make {M : Mo} {k j c n : Nat} {name : Str} {f : Addr} {fd : FuncData} {ps : List Str} {pre : List D → (List D → Prop) → Prop} {hp : ∀ ds Q Q', (∀ fs, Q fs → Q' fs) → pre ds Q → pre ds Q'}
    (G : FnG M.prog M.w M.T.K M.mg M.base CX0 j f fd ps (spIni M.T c n pre)) (hj : j + 1 ≤ k) (hmg : M.mg name = some (.ref (M.T.cls c))) (hk : Mk M.T.K (M.T.cls c) f) (hb : Binds M.T.K fd ps []) (db : (name == ("__debug__" : Str)) = false) (hn : 0 < n) : CallV M k (makeF name c n pre hp) where
  db := db
  zero := fun P X O hg p pos => by
    refine ⟨fun pins s σ H Q I h => ?_⟩
    exfalso
    obtain ⟨ρ, θ, G, S, h⟩ := h
    unfold wE wA callF at h
    obtain ⟨n, rfl⟩ : ∃ m, n = m + 1 := ⟨n - 1, by omega⟩
    exact h
  many := fun P X O hg e es ea p pos ha hs hpl => by
    refine impE (g_make (C := M.T.cls c) (dvs := []) (ds := []) (E := E0) (by rw [O.ek]; exact hk) (G.at O) (O.room.mono hj) O.o.g hg (by rw [O.mg]; exact hmg) (by rw [O.ek]; exact hb) .nil passes0 ha db hs hpl) fun σ H Q ⟨ρ, θ, G1, S, h⟩ => ?_
    unfold wE at h
    refine rdA_of S h fun ws ρ1 vs qss θ1 G1 H1 h1 s1 S1 r1 f1 n1 x dx hx hdx hne => ?_
    rw [List.append_nil]
    have sp := call_ok (E := E0) h1 s1 S1 r1 f1 n1
    obtain ⟨hl, G2, as, qss2, eg, md, ar, nd, gn, ds, rfl, hd, hq⟩ := sp
    have hl' : vs.length = n := hl.trans List.length_replicate
    obtain ⟨rl, fl⟩ := ar.dats
    obtain ⟨l1, l2⟩ := ar.len
    rw [O.T] at rl
    have g0 : G2 x = none := eg.none hx
    have g1 : G2 dx = none := eg.none hdx
    have x1 : Ex H1 (upd (upd H1 dx (.own x)) x (.ins (M.T.cls c) dx [])) := (Ex.new hdx).trans (Ex.new (by rw [upd_ne (Ne.symm hne)]; exact hx))
    refine ⟨by simp [hl'], x, dx, G2, vs, ds, rfl, upd_same, by rw [upd_ne hne, upd_same], hne, eg.trans x1, g0, g1, rl, hd, hp _ _ _ (fun fs k G' H' us' e1 e2 e3 e4 e5 e6 e7 e8 => ⟨rfl, ?_⟩) hq⟩
    have eG : Ex G' (upd G' x (.ins (M.T.cls c) dx ((M.T.fld c).zip us'))) := Ex.new e5
    refine k (List.replicate n (.dat .non)) (by simp) (.ref x) [] (ds.map fun _ => []) (upd G' x (.ins (M.T.cls c) dx ((M.T.fld c).zip us'))) H' ⟨e1.trans eG, fun a o e => ?_, fun a o e _ => ?_, fun a e => ?_, RepBs.dats (by rw [hl', hd]) (by rw [l2, List.length_map]) (by simp [hd]), fun a m => ?_, ⟨rfl, ?_⟩, List.nodup_nil, fun a m => by cases m⟩
    · by_cases z : a = x
      · subst z; rw [upd_same] at e; cases e; exact e6
      · rw [upd_ne z] at e; exact e2 a z o e
    · have nx : a ≠ x := ne_of_none e hx
      have ndx : a ≠ dx := ne_of_none e hdx
      obtain ⟨k1, k2⟩ := e3 a o (x1 a o e) nx ndx
      exact ⟨k1, by rw [upd_ne nx]; exact k2⟩
    · exact x1.none (e4 a e)
    · have : (ds.map fun _ => ([] : List Addr)).flatten = [] := flat_nils ds
      rw [this] at m; cases m
    · rw [O.T]
      exact Rep.ins upd_same e7 (RepL.mono eG _ _ e8)
end Cw
/-! Cw: the web's __init__. -/
namespace Cw
open PySem PySem.Spec PyProof.Rows L2

theorem pass_dat {Q : List Sl → List (Option Nat) → Ro → Prop} {ρ : Ro} : ∀ (ds : List D), pass (List.replicate ds.length false) (ds.map .dat) ρ Q ↔ Q (ds.map .dat) (List.replicate ds.length none) ρ
  | [] => Iff.rfl
  | d :: ds => by
    rw [List.length_cons, List.replicate_succ, List.map_cons, List.map_cons, List.replicate_succ]
    exact pass_dat (Q := fun as bs ρ' => Q (.dat d :: as) (none :: bs) ρ') ds
theorem callF_dat {F : Fn} {ds : List D} {ρ : Ro} {Q : W → Ro → Prop} (hm : F.modes = List.replicate ds.length false) : callF F (ds.map .dat) ρ Q ↔ F.sp (ds.map .dat) fun r rs => rs.length = ds.length ∧ Q (ofSl r) ρ := by
  unfold callF
  rw [hm, pass_dat]
  have e : ∀ r rs, (rs.length = (ds.map Sl.dat).length ∧ Q (ofSl r) (back (List.replicate ds.length none) rs ρ)) ↔ (rs.length = ds.length ∧ Q (ofSl r) ρ) := fun r rs => by
    rw [List.length_map, back_none fun b hb => (List.mem_replicate.mp hb).2]
  constructor
  · exact F.mono _ _ _ fun r rs h => (e r rs).mp h
  · exact F.mono _ _ _ fun r rs h => (e r rs).mpr h
/-- the instance at p, its list of lists at L -/
structure Bu (P : Par) (C p dx L : Addr) (inner : List Addr) (w : List (List D)) (fls : List (Str × V)) (G H : Hp) : Prop where
  at_ : H p = some (.ins C dx fls)
  gp : G p = none
  gd : G dx = none
  li : H L = some (.lst (inner.map V.ref))
  re : RepI P.T G H w inner
  nd : (L :: inner).Nodup
  fr : ∀ a ∈ L :: inner, G a = none ∧ P.H0 a = none
abbrev th0 : Nat → List Addr := fun _ => []
theorem th_of {G H G' H' : Hp} {θ' : Nat → List Addr} (s : Stp th0 G H θ' G' H') : θ' = th0 := funext fun i => (s.t i).elim id id
section
variable {P : Par} {C p dx L : Addr} {inner : List Addr} {w : List (List D)} {fls : List (Str × V)} {G H G' H' : Hp} {θ' : Nat → List Addr} {σ : L2.St} {ρ : Ro}
theorem no0 {a : Addr} : ∀ i, a ∉ th0 i := fun i m => by cases m
theorem Bu.stp (b : Bu P C p dx L inner w fls G H) (s : Stp th0 G H θ' G' H') (hdx : ∃ o, H dx = some o) : Bu P C p dx L inner w fls G' H' where
  at_ := (s.h p _ b.at_ no0).1
  gp := (s.h p _ b.at_ no0).2.trans b.gp
  gd := by
    obtain ⟨o, e⟩ := hdx
    exact (s.h dx o e no0).2.trans b.gd
  li := (s.h L _ b.li no0).1
  re := b.re.stay s.g fun a _ o e => (s.h a o e no0).1
  nd := b.nd
  fr := fun a ha => by
    obtain ⟨g, h0⟩ := b.fr a ha
    refine ⟨?_, h0⟩
    have : ∃ o, H a = some o := by
      rcases List.mem_cons.mp ha with rfl | m
      · exact ⟨_, b.li⟩
      · exact b.re.there a m
    obtain ⟨o, e⟩ := this
    exact (s.h a o e no0).2.trans g
/-- a field is stored -/
theorem Sim.fld (S : Sim P ρ th0 G σ H) {o : HO} (gp : G p = none) (hp : p ∈ P.A0) : Sim P ρ th0 G σ (upd H p o) := by
  refine S.heap (as := [p]) (Ex.refl G) (fun a o' e => ?_) (fun a o' e z => ⟨by rw [upd_ne (by simpa using z)]; exact e, rfl⟩) (fun a h => ?_) fun a ha => ?_
  · rw [upd_ne fun q => by rw [q, gp] at e; cases e]; exact S.gh a o' e
  · by_cases z : a = p
    · subst z; rw [upd_same] at h; cases h
    · rw [upd_ne z] at h; exact h
  · have e : a = p := by simpa using ha
    subst e; exact ⟨no0, .inr hp⟩
/-- an inner list is written anew -/
theorem Bu.put (b : Bu P C p dx L inner w fls G H) (S : Sim P ρ th0 G σ H) (h0 : ∃ o, P.H0 p = some o) {k : Nat} {ds : List D} {d : D} {v : V} (hk : w[k]? = some ds) (r : Rep P.T G d v) :
    ∃ q us, inner[k]? = some q ∧ H q = some (.lst us) ∧ us.length = ds.length ∧ Bu P C p dx L inner (w.set k (ds ++ [d])) fls G (upd H q (.lst (us ++ [v]))) ∧ Sim P ρ th0 G σ (upd H q (.lst (us ++ [v]))) := by
  have hl := b.re.len
  have hi : k < inner.length := by rw [← hl]; exact (List.getElem?_eq_some_iff.mp hk).1
  have hq : inner[k]? = some (inner[k]'hi) := List.getElem?_eq_getElem hi
  obtain ⟨us, u1, u2⟩ := b.re.at hq hk
  have qm : inner[k]'hi ∈ inner := List.getElem_mem hi
  obtain ⟨nL, nI⟩ := List.nodup_cons.mp b.nd
  obtain ⟨f1, f2⟩ := b.fr _ (List.mem_cons_of_mem _ qm)
  have np : p ≠ inner[k]'hi := fun e => by
    obtain ⟨o, ho⟩ := h0
    rw [e, f2] at ho; cases ho
  refine ⟨_, us, hq, u1, u2.len.symm, ⟨by rw [upd_ne np]; exact b.at_, b.gp, b.gd, by rw [upd_ne fun e => nL (by rw [e]; exact qm)]; exact b.li, b.re.setq (u2.app (RepL.cons r RepL.nil)) nI hq, b.nd, b.fr⟩, ?_⟩
  refine S.heap (as := [inner[k]'hi]) (Ex.refl G) (fun a o' e => ?_) (fun a o' e z => ⟨by rw [upd_ne (by simpa using z)]; exact e, rfl⟩) (fun a h => ?_) fun a ha => ?_
  · rw [upd_ne fun q => by rw [q, f1] at e; cases e]; exact S.gh a o' e
  · by_cases z : a = inner[k]'hi
    · subst z; rw [upd_same] at h; cases h
    · rw [upd_ne z] at h; exact h
  · have e : a = inner[k]'hi := by simpa using ha
    subst e; exact ⟨no0, .inl f2⟩
end
/-- what the web's constructor asks and gives -/
def webPre (Fa Ft Fu : Fn) (ds : List D) (K : List D → Prop) : Prop := ∃ (d1 d3 : D) (n : Int), ds = [d1, .int n, d3] ∧ callF Fa ([d1, .int n, d3].map .dat) [] (fun r _ => r = .dat (.bl true)) ∧ small n ∧ n.toNat < sizeLine ∧
  callF Ft ([d3].map .dat) [] fun r _ => ∃ rows, r = .dat (.tup rows) ∧ Lp Fu rows (List.replicate n.toNat []) fun ws => K [d1, .int n, .tup rows, .lst (ws.map .lst)]
/-- one append to a list within the instance's list -/
theorem app_rd {P : Par} {X : Cx} {C p dx L : Addr} {inner : List Addr} {w : List (List D)} {fls : List (Str × V)} {G H : Hp} {σ : L2.St} {ρ : Ro} {i k : Nat} {ds : List D} {ea : E} {DD : Ends} {d : D → Prop}
    (b : Bu P C p dx L inner w fls G H) (S : Sim P ρ th0 G σ H) (hdx : ∃ o, H dx = some o) (h0 : ∃ o, P.H0 p = some o) (hd0 : ∀ {θ' G' H'}, Stp th0 G H θ' G' H' → ∃ o, H' dx = some o) (hs : σ[0]? = some (some (.ref p))) (hl : fls.lookup ("ways" : Str) = some (.ref L)) (hc : Cls X.K C) (hn : NoAttr X.K C "ways")
    (hi : slOf ρ i = some (.dat (.int k))) (hk : w[k]? = some ds) (hz : ds.length < sizeLine) (ha : wE ea ρ fun u ρ' => ∃ e, u = .dat e ∧ ρ' = ρ ∧ d e)
    (go : ∀ G' H' e, Ex G G' → Bu P C p dx L inner (w.set k (ds ++ [e])) fls G' H' → Sim P ρ th0 G' σ H' → (∃ o, H' dx = some o) → d e → DD.nx σ H') :
    tDrop (tBM X.K "list" rAppend (fun σ H Q => tFld X.K (tVar 0) "ways" σ H fun x H1 => rdE P (.var i) σ H1 fun y H2 => rRaw x y H2 Q) (rdA P (.cons ea .nil))) DD σ H := by
  refine ⟨_, hs, p, C, dx, fls, .ref L, rfl, b.at_, hc, hn, hl, ρ, th0, G, S, ?_⟩
  unfold wE
  rw [hi]
  dsimp only
  intro v qs θ1 G1 H1 s1 S1 r1 f1 n1
  obtain rfl := Rep.int_inv (T := P.T) (G := G1) r1.2
  obtain rfl := th_of s1
  have b1 := b.stp s1 hdx
  have hl1 := b1.re.len
  have hik : k < inner.length := by rw [← hl1]; exact (List.getElem?_eq_some_iff.mp hk).1
  have hq : inner[k]? = some (inner[k]'hik) := List.getElem?_eq_getElem hik
  obtain ⟨us, u1, u2⟩ := b1.re.at hq hk
  refine ⟨L, inner.map V.ref, k, .ref (inner[k]'hik), rfl, rfl, b1.li, atI_nat (by rw [List.getElem?_map, hq]; rfl), .inl ⟨rfl, us, SqL.of u1⟩, ρ, th0, G1, S1, ?_⟩
  unfold wA
  refine wE_mono ea _ _ _ (fun u ρ2 h => ?_) ha
  obtain ⟨e, rfl, rfl, de⟩ := h
  unfold wA
  intro vs qss θ2 G2 H2 s2 S2 r2 f2 n2
  obtain ⟨v, qs, rfl, rfl, r3⟩ := r2.one
  obtain rfl := th_of s2
  have b2 := b1.stp s2 (hd0 s1)
  obtain ⟨q, us2, k1, k2, k3, k4, k5⟩ := b2.put S2 h0 hk r3.2
  rw [hq] at k1; cases k1
  refine ⟨_, us2, v, rfl, rfl, k2, by rw [k3]; exact hz, go G2 _ e (s1.g.trans s2.g) k4 k5 ?_ de⟩
  obtain ⟨o, ho⟩ := hd0 (s1.trans s2)
  by_cases z : dx = inner[k]'hik
  · exact ⟨_, by rw [z, upd_same]⟩
  · exact ⟨o, by rw [upd_ne z]; exact ho⟩
end Cw
/-! Cw: the web's __init__, second part. -/
namespace Cw
open PySem PySem.Spec PyProof.Rows L2

theorem callF_re {F : Fn} {ds : List D} {ρ : Ro} {Q Q' : W → Ro → Prop} (hm : F.modes = List.replicate ds.length false) (h : callF F (ds.map .dat) [] Q) (k : ∀ r, Q r [] → Q' r ρ) : callF F (ds.map .dat) ρ Q' :=
  (callF_dat hm).mpr (F.mono _ _ _ (fun r rs z => ⟨z.1, k _ z.2⟩) ((callF_dat hm).mp h))
abbrev N8 : List Str := ["self", "directions", "places", "ties", "place", "a", "b", "move"]
abbrev ps4 : List Str := ["self", "directions", "places", "ties"]
theorem putF_app {f : Str} {v : V} : ∀ {fs : List (Str × V)}, (∀ x ∈ fs, x.1 ≠ f) → putF f v fs = fs ++ [(f, v)]
  | [], _ => rfl
  | (g, x) :: fs, h => by
    unfold putF
    rw [if_neg (h (g, x) List.mem_cons_self), putF_app fun y m => h y (List.mem_cons_of_mem _ m)]; rfl
theorem putF_small {f : Str} {v : V} : ∀ (fs : List (Str × V)), (putF f v fs).length ≤ fs.length + 1
  | [] => Nat.le_refl _
  | (g, x) :: fs => by
    unfold putF
    split
    · simp
    · simpa using putF_small fs
/-- the instance under construction -/
structure Ip (C p dx : Addr) (fls : List (Str × V)) (G H : Hp) : Prop where
  at_ : H p = some (.ins C dx fls)
  gp : G p = none
  gd : G dx = none
  ow : H dx = some (.own p)
theorem Ip.stp {C p dx : Addr} {fls : List (Str × V)} {G H G' H' : Hp} {θ' : Nat → List Addr} (b : Ip C p dx fls G H) (s : Stp th0 G H θ' G' H') : Ip C p dx fls G' H' :=
  ⟨(s.h p _ b.at_ no0).1, (s.h p _ b.at_ no0).2.trans b.gp, (s.h dx _ b.ow no0).2.trans b.gd, (s.h dx _ b.ow no0).1⟩
theorem Ip.fld {C p dx : Addr} {fls fls' : List (Str × V)} {G H : Hp} (b : Ip C p dx fls G H) (hne : dx ≠ p) : Ip C p dx fls' G (upd H p (.ins C dx fls')) :=
  ⟨upd_same, b.gp, b.gd, by rw [upd_ne hne]; exact b.ow⟩
theorem var_rd {P : Par} {i : Nat} {d : D} {ρ : Ro} {G H : Hp} {σ : L2.St} {Q : VK} (S : Sim P ρ th0 G σ H) (e : slOf ρ i = some (.dat d)) (k : ∀ v G' H', Stp th0 G H th0 G' H' → Sim P ρ th0 G' σ H' → Rep P.T G' d v → Q v H') : rdE P (.var i) σ H Q := by
  refine ⟨ρ, th0, G, S, ?_⟩
  unfold wE
  rw [e]
  intro v qs θ' G' H' s S' r f n
  obtain rfl := th_of s
  exact k v G' H' s S' r.2
/-- a field of the instance is stored -/
theorem fld_rd {P : Par} {K : PySem.W.Frag} {C p dx : Addr} {fls : List (Str × V)} {ρ : Ro} {G H : Hp} {σ : L2.St} {y : V} {f : Str} {DD : Ends} (S : Sim P ρ th0 G σ H) (b : Ip C p dx fls G H) (hA : p ∈ P.A0) (hne : dx ≠ p) (hs : σ[0]? = some (some (.ref p))) (hc : Cls K C) (hn : NoAttr K C f) (hl : fls.length < 1000)
    (go : Sim P ρ th0 G σ (upd H p (.ins C dx (putF f y fls))) → Ip C p dx (putF f y fls) G (upd H p (.ins C dx (putF f y fls))) → DD.nx σ (upd H p (.ins C dx (putF f y fls)))) :
    tVar 0 σ H fun x H2 => ∃ a C dx fs, x = .ref a ∧ H2 a = some (.ins C dx fs) ∧ Cls K C ∧ NoAttr K C f ∧ fs.length < 1000 ∧ DD.nx σ (upd H2 a (.ins C dx (putF f y fs))) :=
  ⟨_, hs, p, C, dx, fls, rfl, b.at_, hc, hn, hl, go (S.fld b.gp hA) (b.fld hne)⟩
/-- the written __init__ -/
structure IniTx (n : Nat) (c : Ck) (Fa Ft Fu : Fn) (body : List Stmt) : Prop where
  tx : ∃ cnd rb v1 v2 v3 v4 tg ixa ixb x1 x2 p1 p2 p3 p4 p5 p6 q1 q2 q3 q4 q5 q6 q7 q8 q9 q10 q11 q12 q13 q14 q15 s1 s2 s3 s4 s5 s6 s7,
    body = [.If cnd rb [] p1, .Assign [.Attribute (.Name "self" s1) "size" q1] v1 p2, .Assign [.Attribute (.Name "self" s2) "count" q2] v2 p3, .Assign [.Attribute (.Name "self" s3) "rows" q3] v3 p4, .Assign [.Attribute (.Name "self" s4) "ways" q4] v4 p5,
      .For tg (.Attribute (.Name "self" s5) "rows" q5) [.Expr (.Call (.Attribute (.Subscript (.Attribute (.Name "self" s6) "ways" q6) ixa q7) "append" q8) [x1] [] q9) q10, .Expr (.Call (.Attribute (.Subscript (.Attribute (.Name "self" s7) "ways" q11) ixb q12) "append" q13) [x2] [] q14) q15] [] p6] ∧
    ckT n c (.not (.call Fa (.cons (.var 1) (.cons (.var 2) (.cons (.var 3) .nil))))) cnd = true ∧ ckE n c (.var 1) v1 = true ∧ ckE n c (.var 2) v2 = true ∧ ckE n c (.call Ft (.cons (.var 3) .nil)) v3 = true ∧ ckE n c (.lcl [4] 4 .rng1 (.cons (.var 2) .nil)) v4 = true ∧
    ckG c (.tp (.cons (.nm 5) (.cons (.nm 6) (.cons (.nm 7) .nil)))) tg = true ∧ ckE n c (.var 5) ixa = true ∧ ckE n c (.var 6) ixb = true ∧ ckA n c (.cons (.tup (.cons (.var 6) (.cons (.var 7) .nil))) .nil) [x1] = true ∧
    ckA n c (.cons (.tup (.cons (.var 5) (.cons (.call Fu (.cons (.var 7) .nil)) .nil))) .nil) [x2] = true ∧ noSlice ixa = true ∧ noSlice ixb = true ∧ (q8.endLine == q9.line) = true ∧ (q13.endLine == q14.line) = true ∧ varB c 0 "self" = true
theorem init_ok {M : Mo} {k n : Nat} {st : Stmt} {f : Addr} {fd : FuncData} {cn : List Str} {fl : List (List Str)} {Fa Ft Fu : Fn} (G : L2.Fun M.T.K "__init__" "Web.__init__" st f fd) (hcn : ∀ n, M.cn n = cn.getD n "") (hfl : ∀ n, M.T.fld n = fl.getD n []) (hs : scK N8 ps4 (defScope st) = true)
    (tx : IniTx n (ckOf N8 st [] cn fl) Fa Ft Fu (defBody st)) (ka : CallV M k Fa) (kt : CallV M k Ft) (ku : CallV M k Fu) (kr : M.mg "range" = none) (ma : Fa.modes = [false, false, false]) (mt : Ft.modes = [false]) (mu : Fu.modes = [false])
    (hc : Cls M.T.K (M.T.cls 0)) (hno : ∀ x ∈ (["size", "count", "rows", "ways"] : List Str), NoAttr M.T.K (M.T.cls 0) x) (hf : M.T.fld 0 = ([("size" : Str), "count", "rows", "ways"] : List Str)) :
    FnG M.prog M.w M.T.K M.mg M.base CX0 (k + 1) f fd ps4 (spIni M.T 0 3 (webPre Fa Ft Fu)) := by
  obtain ⟨oc, od, kV, doc, pm, an, cdv, ct, osl, rfl, lk, hcd⟩ := G.ex
  refine fnG_of lk hcd (scK_ok hs) (fun vs H Q E h => h.1) fun A out s H vs Q E hr hg e0 h => ?_
  obtain ⟨hl, p, dx, G0, us, ds, rfl, hp, hdx, hne, eg, gp, gd, rl, hd, d1, d3, m, rfl, ha, hsm, hz, ht⟩ := h
  obtain ⟨u1, us, rfl, r1, rl⟩ := rl.cons_inv
  obtain ⟨u2, us, rfl, r2, rl⟩ := rl.cons_inv
  obtain ⟨u3, us, rfl, r3, rl⟩ := rl.cons_inv
  obtain rfl := rl.nil_inv
  obtain rfl := Rep.int_inv r2
  let P : Par := ⟨M.T, H, G0, [p, dx], []⟩
  have hN : N8.Nodup := (scK_ok hs).nd
  let X := cxOf CX0 M.prog M.w M.T.K M.mg M.base N8 "Web.__init__" (defScope st) f cdv A out s H E
  have O : Onx P M k X := ⟨⟨rfl, rfl, Nat.lt_of_le_of_lt (Nat.add_le_add_right (Nat.le_add_right _ (16 * k)) 200) hr.un, hg, hN⟩, rfl, rfl, rfl, rfl, rfl, hr⟩
  have cvv : Cv (ckOf N8 st [] cn fl) P M k X := ⟨O, rfl, rfl, (scK_ok hs).kind, rfl, fun i ⟨v, e⟩ => (by cases e), hcn, hfl⟩
  obtain ⟨cnd, rb, v1, v2, v3, v4, tg, ixa, ixb, x1, x2, p1, p2, p3, p4, p5, p6, q1, q2, q3, q4, q5, q6, q7, q8, q9, q10, q11, q12, q13, q14, q15, s1, s2, s3, s4, s5, s6, s7, eb, c0, c1, c2, c3, c4, c5, c6, c7, c8, c9, c10, c11, c12, c13, c14⟩ := tx.tx
  obtain ⟨sE, sA, sT, sI⟩ := sn_all n
  have kv : ∀ i, knE M k (.var i) := fun i => by unfold knE; trivial
  have kn0 : knE M k .nil := by unfold knE; trivial
  have kc : ∀ {a b}, knE M k a → knE M k b → knE M k (.cons a b) := fun h1 h2 => by unfold knE; exact ⟨h1, h2⟩
  have kF : ∀ {F a}, CallV M k F → knE M k a → knE M k (.call F a) := fun h1 h2 => by unfold knE; exact ⟨h1, h2⟩
  have kT : ∀ {a}, knE M k a → knE M k (.tup a) := fun h1 => by unfold knE; exact h1
  have b0 : PT X cnd (rdT P (.not (.call Fa (.cons (.var 1) (.cons (.var 2) (.cons (.var 3) .nil)))))) := sT _ P M k X cvv _ _ (by unfold knE; exact kF ka (kc (kv 1) (kc (kv 2) (kc (kv 3) kn0)))) c0
  have b1 := sE _ P M k X cvv _ _ (kv 1) c1
  have b2 := sE _ P M k X cvv _ _ (kv 2) c2
  have b3 := sE _ P M k X cvv _ _ (kF kt (kc (kv 3) kn0)) c3
  have b4 := sE _ P M k X cvv _ _ (show knE M k (.lcl [4] 4 .rng1 (.cons (.var 2) .nil)) by unfold knE; exact ⟨kr, kc (kv 2) kn0⟩) c4
  have b5 := ckG_ok cvv _ _ c5
  have b6 := sE _ P M k X cvv _ _ (kv 5) c6
  have b7 := sE _ P M k X cvv _ _ (kv 6) c7
  have b8 := sA _ P M k X cvv _ _ (kc (kT (kc (kv 6) (kc (kv 7) kn0))) kn0) c8
  have b9 := sA _ P M k X cvv _ _ (kc (kT (kc (kv 5) (kc (kF ku (kc (kv 7) kn0)) kn0))) kn0) c9
  obtain ⟨w1, w2, w3, w4⟩ := cvv.var c14
  have slf : ∀ q, PE X (.Name "self" q) (tVar 0) := fun q => pe_var w1 w2 w3 w4
  have nst1 : noStar x1 = true := by simpa using b8.2.1
  have nst2 : noStar x2 = true := by simpa using b9.2.1
  rw [eb]
  have ob : ∀ {e : Expr} {q qq sp : Pos} {t : TE}, PE X e t → noSlice e = true → PE X (.Subscript (.Attribute (.Name "self" sp) "ways" q) e qq) (fun σ H Q => tFld X.K (tVar 0) "ways" σ H fun x H1 => t σ H1 fun y H2 => rRaw x y H2 Q) := fun he hs' => pe_ix ix_raw (pe_fld (slf _) rfl) he (plain_of hs')
  refine ⟨_, pss_cons (ps_if b0 pss_never pss_nil) (pss_cons (ps_fld (slf s1) b1 (sw_tg rfl)) (pss_cons (ps_fld (slf s2) b2 (sw_tg rfl)) (pss_cons (ps_fld (slf s3) b3 (sw_tg rfl)) (pss_cons (ps_fld (slf s4) b4 (sw_tg rfl)) (pss_one (ps_for (passes_of (by rfl)) rfl (pi_tup (pe_fld (slf s5) rfl)) b5
    (pss_cons (ps_expr (pe_bm F.plainAttrs_list F.slot_list_append F.type_list_append (fun pins s σ H x xs v us Q => mt_append pins s σ H x xs v us Q) (ob b6 c10) b8.1 rfl (few_of nst1) c12 (star_of nst1) rfl) rfl)
    (pss_one (ps_expr (pe_bm F.plainAttrs_list F.slot_list_append F.type_list_append (fun pins s σ H x xs v us Q => mt_append pins s σ H x xs v us Q) (ob b7 c11) b9.1 rfl (few_of nst2) c13 (star_of nst2) rfl) rfl))) fun _ => rfl)))))), ?_⟩
  let σ0 : L2.St := [some (.ref p), some u1, some (.int m), some u3, none, none, none, none]
  let ρ0 : Ro := [none, some (.dat d1), some (.dat (.int m)), some (.dat d3), none, none, none, none]
  have S0 : Sim P ρ0 th0 G0 σ0 H :=
    { g0 := Ex.refl _, gh := eg, fr := fun _ _ h _ => h, gs := fun _ _ _ _ => rfl, pe := fun _ h => h, ln := rfl,
      sl := fun i x e => by
        match i, e with
        | 0, e => cases e
        | 1, e => cases e; exact ⟨_, rfl, rfl, r1⟩
        | 2, e => cases e; exact ⟨_, rfl, rfl, Rep.int⟩
        | 3, e => cases e; exact ⟨_, rfl, rfl, r3⟩
        | 4, e => cases e
        | 5, e => cases e
        | 6, e => cases e
        | 7, e => cases e
        | i + 8, e => cases e
      no := fun _ _ => rfl, gn := fun _ _ h => by cases h
      nw := fun _ _ h => by cases h
      nd := fun _ => List.nodup_nil, dj := fun _ _ _ h => by cases h
      fx := fun i v e => by cases e }
  have I0 : Ip (M.T.cls 0) p dx [] G0 H := ⟨hp, gp, gd, hdx⟩
  have hA : p ∈ P.A0 := List.mem_cons_self
  have n1 := hno "size" (by simp)
  have n2 := hno "count" (by simp)
  have n3 := hno "rows" (by simp)
  have n4 := hno "ways" (by simp)
  have h0 : wE (.not (.call Fa (.cons (.var 1) (.cons (.var 2) (.cons (.var 3) .nil))))) ρ0 fun w ρ1 => w = .dat (.bl false) ∧ ρ1 = ρ0 := by
    unfold wE wE
    unfold wA wE wA wE wA wE wA
    exact callF_re (ds := [d1, .int m, d3]) (ρ := ρ0) ma ha fun r e => ⟨true, e, rfl, rfl⟩
  refine rdT_of S0 h0 fun v ρ1 x qs θ1 G1 H1 ⟨e1, e2⟩ t1 S1 rr f1 nn1 => ?_
  subst e1 e2
  obtain rfl := th_of t1
  refine ⟨false, Rep.bl_inv (T := P.T) (G := G1) rr.2, ?_⟩
  have I1 := I0.stp t1
  -- self.size
  refine var_rd S1 rfl fun y1 G2 H2 t2 S2 ry1 => ?_
  refine fld_rd S2 (I1.stp t2) hA hne rfl hc n1 (by decide) fun S3 I3 => ?_
  -- self.count
  refine var_rd S3 rfl fun y2 G4 H4 t4 S4 ry2 => ?_
  obtain rfl := Rep.int_inv (T := P.T) (G := G4) ry2
  refine fld_rd S4 (I3.stp t4) hA hne rfl hc n2 (Nat.lt_of_le_of_lt (putF_small _) (by simp)) fun S5 I5 => ?_
  -- self.rows
  let K0 : List Cw.D → List (List Cw.D) → Prop := fun rows ws => ∀ (G' H' : Hp) (us' : List V), Ex G0 G' → (∀ a, a ≠ p → ∀ o, G' a = some o → H' a = some o) → (∀ a o, H a = some o → a ≠ p → a ≠ dx → H' a = some o ∧ G' a = G0 a) → (∀ a, H' a = none → H a = none) → G' p = none →
    H' p = some (.ins (M.T.cls 0) dx ((M.T.fld 0).zip us')) → (M.T.fld 0).length = us'.length → RepL M.T G' [d1, .int m, .tup rows, .lst (ws.map .lst)] us' → Q .non H'
  have h3 : wE (.call Ft (.cons (.var 3) .nil)) ρ0 fun w ρ1 => (∃ rows, w = .dat (.tup rows) ∧ Lp Fu rows (List.replicate m.toNat []) (K0 rows)) ∧ ρ1 = ρ0 := by
    unfold wE
    unfold wA wE wA
    exact callF_re (ds := [d3]) (ρ := ρ0) mt ht fun r e => ⟨e, rfl⟩
  refine rd_of S5 h3 fun w ρ1 yr qs θ6 G6 H6 ⟨⟨rows, ew, hL⟩, e2⟩ t6 S6 rr6 f6 nn6 => ?_
  subst ew e2
  obtain rfl := th_of t6
  refine fld_rd S6 (I5.stp t6) hA hne rfl hc n3 (Nat.lt_of_le_of_lt (Nat.le_trans (putF_small _) (Nat.succ_le_succ (putF_small _))) (by simp)) fun S7 I7 => ?_
  -- self.ways
  have h4 : wE (.lcl [4] 4 .rng1 (.cons (.var 2) .nil)) ρ0 fun w ρ1 => w = .own (.ll (List.replicate m.toNat [])) ∧ ρ1 = ρ0 := by
    unfold wE
    unfold wA wE wA
    refine ⟨m, rfl, hsm, trivial, by rw [rngD_len]; exact hz, ?_, rfl⟩
    rw [rngD_len]
  refine rd_of S7 h4 fun w ρ1 yw qs θ8 G8 H8 ⟨ew, e2⟩ t8 S8 rr8 f8 nn8 => ?_
  subst ew e2
  obtain rfl := th_of t8
  obtain ⟨L, inner, rfl, rfl, oL, oI⟩ := rr8
  refine fld_rd S8 (I7.stp t8) hA hne rfl hc n4 (Nat.lt_of_le_of_lt (Nat.le_trans (putF_small _) (Nat.succ_le_succ (Nat.le_trans (putF_small _) (Nat.succ_le_succ (putF_small _))))) (by simp)) fun S9 I9 => ?_
  obtain ⟨rp, us, rfl, hr1, hr2⟩ := Rep.tup_inv rr6.2
  have e48 : Ex G6 G8 := t8.g
  -- the fields as they stand
  let fls : List (Str × V) := [(("size" : Str), y1), (("count" : Str), .int m), (("rows" : Str), .ref rp), (("ways" : Str), .ref L)]
  have dsc : ("size" : Str) ≠ "count" := by decide +kernel
  have dsr : ("size" : Str) ≠ "rows" := by decide +kernel
  have dcr : ("count" : Str) ≠ "rows" := by decide +kernel
  have dsw : ("size" : Str) ≠ "ways" := by decide +kernel
  have dcw : ("count" : Str) ≠ "ways" := by decide +kernel
  have drw : ("rows" : Str) ≠ "ways" := by decide +kernel
  have k1 : putF ("count" : Str) (V.int m) (putF ("size" : Str) y1 []) = [(("size" : Str), y1), (("count" : Str), .int m)] := putF_app (fs := [(("size" : Str), y1)]) fun x hx => by
    have e : x = (("size" : Str), y1) := by simpa using hx
    subst e; exact dsc
  have k2 : putF ("rows" : Str) (V.ref rp) (putF ("count" : Str) (V.int m) (putF ("size" : Str) y1 [])) = [(("size" : Str), y1), (("count" : Str), .int m), (("rows" : Str), .ref rp)] := by
    rw [k1]
    refine putF_app (fs := [(("size" : Str), y1), (("count" : Str), .int m)]) fun x hx => ?_
    rcases List.mem_cons.mp hx with e | hx
    · subst e; exact dsr
    · have e : x = (("count" : Str), V.int m) := by simpa using hx
      subst e; exact dcr
  have k3 : putF ("ways" : Str) (V.ref L) (putF ("rows" : Str) (V.ref rp) (putF ("count" : Str) (V.int m) (putF ("size" : Str) y1 []))) = fls := by
    rw [k2]
    refine putF_app (fs := [(("size" : Str), y1), (("count" : Str), .int m), (("rows" : Str), .ref rp)]) fun x hx => ?_
    rcases List.mem_cons.mp hx with e | hx
    · subst e; exact dsw
    rcases List.mem_cons.mp hx with e | hx
    · subst e; exact dcw
    · have e : x = (("rows" : Str), V.ref rp) := by simpa using hx
      subst e; exact drw
  rw [k3] at S9 I9 ⊢
  have lw : fls.lookup ("ways" : Str) = some (.ref L) := by
    rw [← k3, lookup_putF, if_pos rfl]
  have lr : fls.lookup ("rows" : Str) = some (.ref rp) := by
    rw [← k3, lookup_putF, if_neg drw, lookup_putF, if_pos rfl]
  have pnew : ∀ a ∈ L :: inner, a ≠ p := fun a m e => by
    have := (f8.2 a m).2.1
    rw [e] at this
    have h' : H p = none := this
    rw [hp] at h'; cases h'
  have B9 : Bu P (M.T.cls 0) p dx L inner (List.replicate m.toNat []) fls G8 (upd H8 p (.ins (M.T.cls 0) dx fls)) :=
    ⟨I9.at_, I9.gp, I9.gd, by rw [upd_ne (pnew L List.mem_cons_self)]; exact oL, oI.stay (Ex.refl _) fun a m o e => by rw [upd_ne (pnew a (List.mem_cons_of_mem _ m))]; exact e, f8.1, fun a m => ⟨(f8.2 a m).1, (f8.2 a m).2.1⟩⟩
  have gr : G8 rp = some (.tup us) := e48 _ _ hr1
  have rr9 : RepL M.T G8 rows us := RepL.mono e48 _ _ hr2
  have lus := rr9.len
  refine ⟨_, rfl, p, M.T.cls 0, dx, fls, .ref rp, rfl, I9.at_, hc, n3, lr, rp, rfl, ⟨us, SqT.of (S9.gh _ _ gr)⟩, fun i mm σ' H' => mm = rows.length - i ∧ i ≤ rows.length ∧ ∃ ρ' G' w, Sim P ρ' th0 G' σ' H' ∧ ρ'.length = 8 ∧ σ'[0]? = some (some (.ref p)) ∧ Ex G8 G' ∧ Bu P (M.T.cls 0) p dx L inner w fls G' H' ∧ (∃ o, H' dx = some o) ∧ Lp Fu (rows.drop i) w (K0 rows),
    ⟨_, rfl, Nat.zero_le _, ρ0, G8, _, S9, rfl, rfl, Ex.refl _, B9, ⟨_, I9.ow⟩, hL⟩, ?_⟩
  rintro i mm σ' H' ⟨rfl, hi, ρ', G', w, S', lρ, hs0, e8, B, ow, hLp⟩
  have hrp : H' rp = some (.tup us) := S'.gh _ _ (e8 _ _ gr)
  by_cases hlt : i < rows.length
  · obtain ⟨d, hd'⟩ : ∃ d, rows[i]? = some d := ⟨_, List.getElem?_eq_getElem hlt⟩
    have hdrop : rows.drop i = d :: rows.drop (i + 1) := by
      rw [List.getElem?_eq_getElem hlt] at hd'; cases hd'
      exact List.drop_eq_getElem_cons hlt
    rw [hdrop] at hLp
    unfold Lp at hLp
    obtain ⟨na, nb, mv, wa, wb, rfl, hwa, hza, hwb, hzb, hcall⟩ := hLp
    refine .inr ⟨⟨us, us[i]'(by omega), SqT.of hrp, by simp⟩, fun σ'' H'' => i < rows.length ∧ ∃ ρ' G' w, Sim P ρ' th0 G' σ'' H'' ∧ ρ'.length = 8 ∧ σ''[0]? = some (some (.ref p)) ∧ Ex G8 G' ∧ Bu P (M.T.cls 0) p dx L inner w fls G' H'' ∧ (∃ o, H'' dx = some o) ∧ Lp Fu (rows.drop (i + 1)) w (K0 rows),
      fun σ'' H'' ⟨_, q⟩ => ⟨_, by omega, rfl, hlt, q⟩, fun x H'' hy => ?_⟩
    obtain ⟨rfl, hy⟩ := hy
    have hx := at_tup hrp hy
    obtain ⟨d2, hd2, rx⟩ := rr9.get' hx
    rw [hd'] at hd2; cases hd2
    have off : Off P (Tg.tp (.cons (.nm 5) (.cons (.nm 6) (.cons (.nm 7) .nil)))).slots := fun j _ m => by simp [P] at m
    refine ⟨ρ', th0, G', _, S', Rep.mono e8 _ _ rx, off, ?_⟩
    unfold take
    refine ⟨_, _, rfl, ?_⟩
    unfold take
    unfold take
    refine ⟨_, _, rfl, ?_⟩
    unfold take
    unfold take
    refine ⟨_, _, rfl, ?_⟩
    unfold take
    unfold take
    refine ⟨rfl, fun σ2 θ2 S2 t2 f2 l2 => ?_⟩
    obtain rfl : θ2 = th0 := funext fun i => (t2 i).elim id id
    have g5 : slOf (((ρ'.set 5 (some (.dat (.int na)))).set 6 (some (.dat (.int nb)))).set 7 (some (.dat mv))) 5 = some (.dat (.int na)) := by
      rw [slOf_set_ne (by decide), slOf_set_ne (by decide), slOf_set (by omega), if_pos rfl]
    have g6 : slOf (((ρ'.set 5 (some (.dat (.int na)))).set 6 (some (.dat (.int nb)))).set 7 (some (.dat mv))) 6 = some (.dat (.int nb)) := by
      rw [slOf_set_ne (by decide), slOf_set (by simp [lρ]), if_pos rfl]
    have g7 : slOf (((ρ'.set 5 (some (.dat (.int na)))).set 6 (some (.dat (.int nb)))).set 7 (some (.dat mv))) 7 = some (.dat mv) := by
      rw [slOf_set (by simp [lρ]), if_pos rfl]
    have l8 : (((ρ'.set 5 (some (.dat (.int na)))).set 6 (some (.dat (.int nb)))).set 7 (some (.dat mv))).length = 8 := by simp [lρ]
    generalize ((ρ'.set 5 (some (.dat (.int na)))).set 6 (some (.dat (.int nb)))).set 7 (some (.dat mv)) = ρ4 at S2 g5 g6 g7 l8
    have h20 : σ2[0]? = some (some (.ref p)) := (f2 0 (by simp [Tg.slots])).trans hs0
    have keep : ∀ {G1 H1 θ' G2 H2}, (∃ o, H1 dx = some o) → Stp th0 G1 H1 θ' G2 H2 → ∃ o, H2 dx = some o := fun ⟨o, e⟩ s => ⟨_, (s.h dx o e no0).1⟩
    have owd : ∀ {G2 H2}, Sim P ρ4 th0 G2 σ2 H2 → True := fun _ => trivial
    have kv1 : wE (.tup (.cons (.var 6) (.cons (.var 7) .nil))) ρ4 fun u ρ'' => ∃ e, u = .dat e ∧ ρ'' = ρ4 ∧ e = .tup [.int nb, mv] := by
      unfold wE wA wE wA wE wA
      rw [g6]; dsimp only
      rw [g7]; dsimp only
      exact ⟨by show 2 ≤ sizeLine; decide, _, rfl, rfl, rfl⟩
    have kv2 : wE (.tup (.cons (.var 5) (.cons (.call Fu (.cons (.var 7) .nil)) .nil))) ρ4 fun u ρ'' => ∃ e, u = .dat e ∧ ρ'' = ρ4 ∧ ∃ tv, e = .tup [.int na, tv] ∧ Lp Fu (rows.drop (i + 1)) ((w.set na (wa ++ [.tup [.int nb, mv]])).set nb (wb ++ [.tup [.int na, tv]])) (K0 rows) := by
      unfold wE wA wE wA wE wA wE wA
      rw [g5]; dsimp only
      rw [g7]; dsimp only
      refine callF_re (ds := [mv]) (ρ := ρ4) mu hcall fun r ⟨tv, e, q⟩ => ?_
      subst e
      exact ⟨by show 2 ≤ sizeLine; decide, _, rfl, rfl, tv, rfl, q⟩
    have h0' : ∃ o, P.H0 p = some o := ⟨_, hp⟩
    refine app_rd B S2 ow h0' (fun s => keep ow s) h20 lw hc n4 g5 hwa hza kv1 fun Ga Ha e1 xa Ba Sa oa da => ?_
    subst da
    refine app_rd Ba Sa oa h0' (fun s => keep oa s) h20 lw hc n4 g6 hwb hzb kv2 fun Gb Hb e2 xb Bb Sb ob' db => ?_
    obtain ⟨tv, rfl, hnext⟩ := db
    exact ⟨hlt, ρ4, Gb, _, Sb, l8, h20, e8.trans (xa.trans xb), Bb, ob', hnext⟩
  · have e : i = rows.length := by omega
    subst e
    rw [List.drop_length] at hLp
    refine .inl ⟨⟨us, SqT.of hrp, by omega⟩, ?_⟩
    have nn : ∀ a ∈ L :: inner, H a = none := fun a m => (B.fr a m).2
    have gG : Ex G' (grow G' H' (L :: inner)) := S'.gh.grow _
    have b8' : Ex G2 (grow G' H' (L :: inner)) := (((t4.g.trans t6.g).trans e48).trans e8).trans gG
    unfold Lp at hLp
    refine hLp (grow G' H' (L :: inner)) H' [y1, .int m, .ref rp, .ref L] (S'.g0.trans gG) (fun a _ o e => S'.gh.grown _ a o e) (fun a o e n1 n2 => ?_) (fun a e => S'.pe a e) ?_ ?_ ?_ ?_
    · have nm : a ∉ L :: inner := fun m => by rw [nn a m] at e; cases e
      have nA : a ∉ P.A0 := by simp [P, n1, n2]
      exact ⟨S'.fr a o e nA, by rw [grow_out nm]; exact S'.gs a o e nA⟩
    · rw [grow_out fun m => pnew p m rfl]; exact B.gp
    · rw [B.at_, hf]; rfl
    · rw [hf]; rfl
    · refine RepL.cons (Rep.mono b8' _ _ ry1) (RepL.cons Rep.int (RepL.cons (Rep.tup ((e8.trans gG) _ _ gr) (RepL.mono (e8.trans gG) _ _ rr9)) (RepL.cons (Rep.lst (by rw [grow_in List.mem_cons_self]; exact B.li) (B.re.frz gG fun a m o e => by rw [grow_in (List.mem_cons_of_mem _ m)]; exact e)) RepL.nil)))
end Cw
/-! Cw: the web's constructor, handed a list that its caller may change afterwards. -/
namespace Cw
open PySem PySem.Spec PyProof.Rows L2

/-- what the constructor asks and gives, the list of ties being the caller's own -/
def webPre2 (Fa Ft Fu : Fn) (ds : List D) (K : List D → Prop) : Prop := ∃ (d1 : D) (n : Int) (xs : List D), ds = [d1, .int n, .lst xs] ∧ callF Fa ([d1, .int n, .lst xs].map .dat) [] (fun r _ => r = .dat (.bl true)) ∧ small n ∧ n.toNat < sizeLine ∧
  Ft.sp [.own (.lst xs)] fun r bs => bs = [.own (.lst xs)] ∧ ∃ rows, r = .dat (.tup rows) ∧ Lp Fu rows (List.replicate n.toNat []) fun ws => K [d1, .int n, .tup rows, .lst (ws.map .lst)]
def spIni2 (T : Tbl) (c : Nat) (pre : List D → (List D → Prop) → Prop) : Sp := fun vs H Q _ => vs.length = 4 ∧ ∃ p dx G u1 u2 q3 us3 d1 d2 xs, vs = [.ref p, u1, u2, .ref q3] ∧ H p = some (.ins (T.cls c) dx []) ∧ H dx = some (.own p) ∧ dx ≠ p ∧ Ex G H ∧ G p = none ∧ G dx = none ∧ Rep T G d1 u1 ∧ Rep T G d2 u2 ∧
  H q3 = some (.lst us3) ∧ G q3 = none ∧ RepL T G xs us3 ∧ q3 ≠ p ∧ q3 ≠ dx ∧
  pre [d1, d2, .lst xs] fun fs => ∀ (G' H' : Hp) (us' us3' : List V), Ex G G' → (∀ a, a ≠ p → ∀ o, G' a = some o → H' a = some o) → (∀ a o, H a = some o → a ≠ p → a ≠ dx → a ≠ q3 → H' a = some o ∧ G' a = G a) → (∀ a, H' a = none → H a = none) → G' p = none →
    G' q3 = none → H' q3 = some (.lst us3') → RepL T G' xs us3' → H' p = some (.ins (T.cls c) dx ((T.fld c).zip us')) → (T.fld c).length = us'.length → RepL T G' fs us' → Q .non H'
theorem pe_ex {X : Cx} {e : Expr} {ι : Type} {t : ι → TE} (h : ∀ i, PE X e (t i)) : PE X e (fun σ H Q => ∃ i, t i σ H Q) := ⟨fun pins s σ H Q I ⟨i, x⟩ => (h i).run pins s σ H Q I x⟩
theorem pa_ex {X : Cx} {es : List Expr} {ι : Type} {t : ι → TA} (h : ∀ i, PA X es (t i)) : PA X es (fun σ H Q => ∃ i, t i σ H Q) := ⟨fun pos pins s σ H Q I ⟨i, x⟩ => (h i).run pos pins s σ H Q I x⟩
theorem pg_ex {X : Cx} {e : Expr} {ι : Type} {t : ι → TG} (h : ∀ i, PG X e (t i)) : PG X e (fun v σ H Q => ∃ i, t i v σ H Q) := ⟨fun pins s σ H v u Q I r ⟨i, x⟩ => (h i).run pins s σ H v u Q I r x⟩
abbrev PP (T : Tbl) (G0 : Hp) (A0 : List Addr) (h0 : Hp) : Par := ⟨T, h0, G0, A0, []⟩
abbrev exE (T : Tbl) (G0 : Hp) (A0 : List Addr) (e : E) : TE := fun σ H Q => ∃ h0 : Hp, rdE (PP T G0 A0 h0) e σ H Q
abbrev exA (T : Tbl) (G0 : Hp) (A0 : List Addr) (e : E) : TA := fun σ H Q => ∃ h0 : Hp, rdA (PP T G0 A0 h0) e σ H Q
abbrev exG (T : Tbl) (G0 : Hp) (A0 : List Addr) (t : Tg) : TG := fun v σ H Q => ∃ h0 : Hp, rdG (PP T G0 A0 h0) t v σ H Q
theorem Ip.stp2 {C p dx : Addr} {fls : List (Str × V)} {G H G' H' : Hp} {θ θ' : Nat → List Addr} (b : Ip C p dx fls G H) (s : Stp θ G H θ' G' H') (n1 : ∀ i, p ∉ θ i) (n2 : ∀ i, dx ∉ θ i) : Ip C p dx fls G' H' :=
  ⟨(s.h p _ b.at_ n1).1, (s.h p _ b.at_ n1).2.trans b.gp, (s.h dx _ b.ow n2).2.trans b.gd, (s.h dx _ b.ow n2).1⟩
theorem app_rd2 {T : Tbl} {G0 h0' : Hp} {A0 : List Addr} {X : Cx} {C p dx L : Addr} {inner : List Addr} {w : List (List D)} {fls : List (Str × V)} {G H : Hp} {σ : L2.St} {ρ : Ro} {i k : Nat} {ds : List D} {ea : E} {DD : Ends} {d : D → Prop}
    (b : Bu (PP T G0 A0 h0') C p dx L inner w fls G H) (S : Sim (PP T G0 A0 h0') ρ th0 G σ H) (hdx : ∃ o, H dx = some o) (h0 : ∃ o, h0' p = some o) (hd0 : ∀ {θ' G' H'}, Stp th0 G H θ' G' H' → ∃ o, H' dx = some o) (hs : σ[0]? = some (some (.ref p))) (hl : fls.lookup ("ways" : Str) = some (.ref L)) (hc : Cls X.K C) (hn : NoAttr X.K C "ways")
    (hi : slOf ρ i = some (.dat (.int k))) (hk : w[k]? = some ds) (hz : ds.length < sizeLine) (ha : wE ea ρ fun u ρ' => ∃ e, u = .dat e ∧ ρ' = ρ ∧ d e)
    (go : ∀ G' H' e, Ex G G' → Bu (PP T G0 A0 h0') C p dx L inner (w.set k (ds ++ [e])) fls G' H' → Sim (PP T G0 A0 h0') ρ th0 G' σ H' → (∃ o, H' dx = some o) → d e → DD.nx σ H') :
    tDrop (tBM X.K "list" rAppend (fun σ H Q => tFld X.K (tVar 0) "ways" σ H fun x H1 => exE T G0 A0 (.var i) σ H1 fun y H2 => rRaw x y H2 Q) (exA T G0 A0 (.cons ea .nil))) DD σ H := by
  refine ⟨_, hs, p, C, dx, fls, .ref L, rfl, b.at_, hc, hn, hl, h0', ρ, th0, G, S, ?_⟩
  unfold wE
  rw [hi]
  dsimp only
  intro v qs θ1 G1 H1 s1 S1 r1 f1 n1
  obtain rfl := Rep.int_inv (T := T) (G := G1) r1.2
  obtain rfl := th_of s1
  have b1 := Bu.stp b s1 hdx
  have hl1 := b1.re.len
  have hik : k < inner.length := by rw [← hl1]; exact (List.getElem?_eq_some_iff.mp hk).1
  have hq : inner[k]? = some (inner[k]'hik) := List.getElem?_eq_getElem hik
  obtain ⟨us, u1, u2⟩ := b1.re.at hq hk
  refine ⟨L, inner.map V.ref, k, .ref (inner[k]'hik), rfl, rfl, b1.li, atI_nat (by rw [List.getElem?_map, hq]; rfl), .inl ⟨rfl, us, SqL.of u1⟩, h0', ρ, th0, G1, S1, ?_⟩
  unfold wA
  refine wE_mono ea _ _ _ (fun u ρ2 h => ?_) ha
  obtain ⟨e, rfl, rfl, de⟩ := h
  unfold wA
  intro vs qss θ2 G2 H2 s2 S2 r2 f2 n2
  obtain ⟨v, qs, rfl, rfl, r3⟩ := r2.one
  obtain rfl := th_of s2
  have b2 := b1.stp s2 (hd0 s1)
  obtain ⟨q, us2, k1, k2, k3, k4, k5⟩ := b2.put S2 h0 hk r3.2
  rw [hq] at k1; cases k1
  refine ⟨_, us2, v, rfl, rfl, k2, by rw [k3]; exact hz, go G2 _ e (s1.g.trans s2.g) k4 k5 ?_ de⟩
  obtain ⟨o, ho⟩ := hd0 (s1.trans s2)
  by_cases z : dx = inner[k]'hik
  · exact ⟨_, by rw [z, upd_same]⟩
  · exact ⟨o, by rw [upd_ne z]; exact ho⟩
theorem init_ok2 {M : Mo} {k n : Nat} {st : Stmt} {f : Addr} {fd : FuncData} {cn : List Str} {fl : List (List Str)} {Fa Ft Fu : Fn} (G : L2.Fun M.T.K "__init__" "Web.__init__" st f fd) (hcn : ∀ n, M.cn n = cn.getD n "") (hfl : ∀ n, M.T.fld n = fl.getD n []) (hs : scK N8 ps4 (defScope st) = true)
    (tx : IniTx n (ckOf N8 st [false, false, false, true] cn fl) Fa Ft Fu (defBody st)) (ka : CallV M k Fa) (kt : CallV M k Ft) (ku : CallV M k Fu) (kr : M.mg "range" = none) (ma : Fa.modes = [false, false, false]) (mt : Ft.modes = [true]) (mu : Fu.modes = [false])
    (hc : Cls M.T.K (M.T.cls 0)) (hno : ∀ x ∈ (["size", "count", "rows", "ways"] : List Str), NoAttr M.T.K (M.T.cls 0) x) (hf : M.T.fld 0 = ([("size" : Str), "count", "rows", "ways"] : List Str)) :
    FnG M.prog M.w M.T.K M.mg M.base CX0 (k + 1) f fd ps4 (spIni2 M.T 0 (webPre2 Fa Ft Fu)) := by
  obtain ⟨oc, od, kV, doc, pm, an, cdv, ct, osl, rfl, lk, hcd⟩ := G.ex
  refine fnG_of lk hcd (scK_ok hs) (fun vs H Q E h => h.1) fun A out s H vs Q E hr hg e0 h => ?_
  obtain ⟨hl, p, dx, G0, u1, u2, tz, us3, d1, d2, xs, rfl, hp, hdx, hne, eg, gp, gd, r1, r2, hq3, gq3, rq3, nq1, nq2, d1', m, xs', ed, ha, hsm, hz, ht⟩ := h
  simp only [List.cons.injEq, Cw.D.lst.injEq, and_true] at ed
  obtain ⟨rfl, rfl, rfl⟩ := ed
  obtain rfl := Rep.int_inv r2
  let c := ckOf N8 st [false, false, false, true] cn fl
  have hN : N8.Nodup := (scK_ok hs).nd
  let X := cxOf CX0 M.prog M.w M.T.K M.mg M.base N8 "Web.__init__" (defScope st) f cdv A out s H E
  have cvv : ∀ (h0 g0 : Hp) (a0 : List Addr) (f0 : List (Option V)), (∀ i, (∃ v, f0[i]? = some (some v)) → i = 3) → Cv c ⟨M.T, h0, g0, a0, f0⟩ M k X := fun h0 g0 a0 f0 hf0 => ⟨⟨⟨rfl, rfl, Nat.lt_of_le_of_lt (Nat.add_le_add_right (Nat.le_add_right _ (16 * k)) 200) hr.un, hg, hN⟩, rfl, rfl, rfl, rfl, rfl, hr⟩, rfl, rfl, (scK_ok hs).kind, rfl, fun i h => (by rw [hf0 i h]; exact (by decide : (3 : Nat) ∈ ([3] : List Nat))), hcn, hfl⟩
  have f00 : ∀ i, (∃ v : V, ([] : List (Option V))[i]? = some (some v)) → i = 3 := fun i ⟨v, e⟩ => by cases e
  let f3 : List (Option V) := [none, none, none, some (.ref tz)]
  have f30 : ∀ i, (∃ v : V, f3[i]? = some (some v)) → i = 3 := fun i ⟨v, e⟩ => by
    match i, e with
    | 0, e => cases e
    | 1, e => cases e
    | 2, e => cases e
    | 3, _ => rfl
    | i + 4, e => cases e
  -- while the ties are looked at they are as if they never changed
  let G1z : Hp := upd G0 tz (.lst us3)
  have ex1 : Ex G0 G1z := Ex.new gq3
  have eg1 : Ex G1z H := fun a o e => by
    by_cases z : a = tz
    · subst z
      have e' : some (HO.lst us3) = some o := by rw [← e]; exact (upd_same).symm
      rw [hq3, e']
    · exact eg a o (by rw [← e]; exact (upd_ne z).symm)
  let P1 : Par := ⟨M.T, H, G1z, [p, dx], []⟩
  let P2 : Par := ⟨M.T, H, G0, [p, dx, tz], f3⟩
  let Pa : Par := PP M.T G0 [p, dx] H
  obtain ⟨cnd, rb, v1, v2, v3, v4, tg, ixa, ixb, x1, x2, p1, p2, p3, p4, p5, p6, q1, q2, q3, q4, q5, q6, q7, q8, q9, q10, q11, q12, q13, q14, q15, s1, s2, s3, s4, s5, s6, s7, eb, c0, c1, c2, c3, c4, c5, c6, c7, c8, c9, c10, c11, c12, c13, c14⟩ := tx.tx
  obtain ⟨sE, sA, sT, sI⟩ := sn_all n
  have kv : ∀ i, knE M k (.var i) := fun i => by unfold knE; trivial
  have kn0 : knE M k .nil := by unfold knE; trivial
  have kc : ∀ {a b}, knE M k a → knE M k b → knE M k (.cons a b) := fun h1 h2 => by unfold knE; exact ⟨h1, h2⟩
  have kF : ∀ {F a}, CallV M k F → knE M k a → knE M k (.call F a) := fun h1 h2 => by unfold knE; exact ⟨h1, h2⟩
  have kT : ∀ {a}, knE M k a → knE M k (.tup a) := fun h1 => by unfold knE; exact h1
  have b0 : PT X cnd (rdT P1 (.not (.call Fa (.cons (.var 1) (.cons (.var 2) (.cons (.var 3) .nil)))))) := sT _ _ M k X (cvv _ _ _ [] f00) _ _ (by unfold knE; exact kF ka (kc (kv 1) (kc (kv 2) (kc (kv 3) kn0)))) c0
  have b1 : PE X v1 (rdE Pa (.var 1)) := sE _ _ M k X (cvv _ _ _ [] f00) _ _ (kv 1) c1
  have b2 : PE X v2 (rdE Pa (.var 2)) := sE _ _ M k X (cvv _ _ _ [] f00) _ _ (kv 2) c2
  have b3 : PE X v3 (rdE P2 _) := sE _ _ M k X (cvv _ _ _ f3 f30) _ _ (kF kt (kc (kv 3) kn0)) c3
  have b4 : PE X v4 (exE M.T G0 [p, dx] _) := pe_ex fun h0 => sE _ _ M k X (cvv h0 _ _ [] f00) _ _ (show knE M k (.lcl [4] 4 .rng1 (.cons (.var 2) .nil)) by unfold knE; exact ⟨kr, kc (kv 2) kn0⟩) c4
  have b5 : PG X tg (exG M.T G0 [p, dx] _) := pg_ex fun h0 => ckG_ok (cvv h0 _ _ [] f00) _ _ c5
  have b6 : PE X ixa (exE M.T G0 [p, dx] _) := pe_ex fun h0 => sE _ _ M k X (cvv h0 _ _ [] f00) _ _ (kv 5) c6
  have b7 : PE X ixb (exE M.T G0 [p, dx] _) := pe_ex fun h0 => sE _ _ M k X (cvv h0 _ _ [] f00) _ _ (kv 6) c7
  have b8 := fun h0 => sA _ (PP M.T G0 [p, dx] h0) M k X (cvv h0 _ _ [] f00) _ _ (kc (kT (kc (kv 6) (kc (kv 7) kn0))) kn0) c8
  have b9 := fun h0 => sA _ (PP M.T G0 [p, dx] h0) M k X (cvv h0 _ _ [] f00) _ _ (kc (kT (kc (kv 5) (kc (kF ku (kc (kv 7) kn0)) kn0))) kn0) c9
  have b8' : PA X [x1] (exA M.T G0 [p, dx] _) := pa_ex fun h0 => (b8 h0).1
  have b9' : PA X [x2] (exA M.T G0 [p, dx] _) := pa_ex fun h0 => (b9 h0).1
  obtain ⟨w1, w2, w3, w4⟩ := (cvv H G0 [] [] f00).var c14
  have slf : ∀ q, PE X (.Name "self" q) (tVar 0) := fun q => pe_var w1 w2 w3 w4
  have nst1 : noStar x1 = true := by simpa using (b8 H).2.1
  have nst2 : noStar x2 = true := by simpa using (b9 H).2.1
  rw [eb]
  have ob : ∀ {e : Expr} {q qq sp : Pos} {t : TE}, PE X e t → noSlice e = true → PE X (.Subscript (.Attribute (.Name "self" sp) "ways" q) e qq) (fun σ H Q => tFld X.K (tVar 0) "ways" σ H fun x H1 => t σ H1 fun y H2 => rRaw x y H2 Q) := fun he hs' => pe_ix ix_raw (pe_fld (slf _) rfl) he (plain_of hs')
  refine ⟨_, pss_cons (ps_if b0 pss_never pss_nil) (pss_cons (ps_fld (slf s1) b1 (sw_tg rfl)) (pss_cons (ps_fld (slf s2) b2 (sw_tg rfl)) (pss_cons (ps_fld (slf s3) b3 (sw_tg rfl)) (pss_cons (ps_fld (slf s4) b4 (sw_tg rfl)) (pss_one (ps_for (passes_of (by rfl)) rfl (pi_tup (pe_fld (slf s5) rfl)) b5
    (pss_cons (ps_expr (pe_bm F.plainAttrs_list F.slot_list_append F.type_list_append (fun pins s σ H x xs v us Q => mt_append pins s σ H x xs v us Q) (ob b6 c10) b8' rfl (few_of nst1) c12 (star_of nst1) rfl) rfl)
    (pss_one (ps_expr (pe_bm F.plainAttrs_list F.slot_list_append F.type_list_append (fun pins s σ H x xs v us Q => mt_append pins s σ H x xs v us Q) (ob b7 c11) b9' rfl (few_of nst2) c13 (star_of nst2) rfl) rfl))) fun _ => rfl)))))), ?_⟩
  let σ0 : L2.St := [some (.ref p), some u1, some (.int m), some (.ref tz), none, none, none, none]
  let ρ1z : Ro := [none, some (.dat d1), some (.dat (.int m)), some (.dat (.lst xs)), none, none, none, none]
  let ρ0 : Ro := [none, some (.dat d1), some (.dat (.int m)), none, none, none, none, none]
  let ρ2 : Ro := [none, some (.dat d1), some (.dat (.int m)), some (.own (.lst xs)), none, none, none, none]
  have S0 : Sim P1 ρ1z th0 G1z σ0 H :=
    { g0 := Ex.refl _, gh := eg1, fr := fun _ _ h _ => h, gs := fun _ _ _ _ => rfl, pe := fun _ h => h, ln := rfl,
      sl := fun i x e => by
        match i, e with
        | 0, e => cases e
        | 1, e => cases e; exact ⟨_, rfl, rfl, Rep.mono ex1 _ _ r1⟩
        | 2, e => cases e; exact ⟨_, rfl, rfl, Rep.int⟩
        | 3, e => cases e; exact ⟨_, rfl, rfl, Rep.lst upd_same (RepL.mono ex1 _ _ rq3)⟩
        | 4, e => cases e
        | 5, e => cases e
        | 6, e => cases e
        | 7, e => cases e
        | i + 8, e => cases e
      no := fun _ _ => rfl, gn := fun _ _ h => by cases h
      nw := fun _ _ h => by cases h
      nd := fun _ => List.nodup_nil, dj := fun _ _ _ h => by cases h
      fx := fun i v e => by cases e }
  have hA : p ∈ Pa.A0 := List.mem_cons_self
  have n1 := hno "size" (by simp)
  have n2 := hno "count" (by simp)
  have n3 := hno "rows" (by simp)
  have n4 := hno "ways" (by simp)
  have h0 : wE (.not (.call Fa (.cons (.var 1) (.cons (.var 2) (.cons (.var 3) .nil))))) ρ1z fun w ρ1 => w = .dat (.bl false) ∧ ρ1 = ρ1z := by
    unfold wE wE
    unfold wA wE wA wE wA wE wA
    exact callF_re (ds := [d1, .int m, .lst xs]) (ρ := ρ1z) ma ha fun r e => ⟨true, e, rfl, rfl⟩
  refine rdT_of S0 h0 fun v ρ1 x qs θ1 Gx H1 ⟨e1, e2⟩ t1 S1x rr f1 nn1 => ?_
  subst e1 e2
  obtain rfl := th_of t1
  refine ⟨false, Rep.bl_inv (T := M.T) (G := Gx) rr.2, ?_⟩
  -- .. and behind the look they are as they were
  have eg01 : Ex G0 H1 := fun a o e => (t1.h a o (eg a o e) no0).1
  have hq31 : H1 tz = some (.lst us3) := (t1.h tz _ hq3 no0).1
  have mk0 : ∀ {HH : Hp}, Ex G0 HH → (∀ a o, H a = some o → a ∉ [p, dx] → HH a = some o) → (∀ a, HH a = none → H a = none) → Sim Pa ρ0 th0 G0 σ0 HH := fun {HH} x1 x2 x3 =>
    { g0 := Ex.refl _, gh := x1, fr := x2, gs := fun _ _ _ _ => rfl, pe := x3, ln := rfl,
      sl := fun i x e => by
        match i, e with
        | 0, e => cases e
        | 1, e => cases e; exact ⟨_, rfl, rfl, r1⟩
        | 2, e => cases e; exact ⟨_, rfl, rfl, Rep.int⟩
        | 3, e => cases e
        | 4, e => cases e
        | 5, e => cases e
        | 6, e => cases e
        | 7, e => cases e
        | i + 8, e => cases e
      no := fun _ _ => rfl, gn := fun _ _ h => by cases h
      nw := fun _ _ h => by cases h
      nd := fun _ => List.nodup_nil, dj := fun _ _ _ h => by cases h
      fx := fun i v e => by cases e }
  have S1 : Sim Pa ρ0 th0 G0 σ0 H1 := mk0 eg01 (fun a o e _ => (t1.h a o e no0).1) fun a e => t1.d a e
  have I1 : Ip (M.T.cls 0) p dx [] G0 H1 := ⟨(t1.h p _ hp no0).1, gp, gd, (t1.h dx _ hdx no0).1⟩
  -- self.size
  refine var_rd S1 rfl fun y1 G2 H2 t2 S2 ry1 => ?_
  refine fld_rd S2 (I1.stp t2) hA hne rfl hc n1 (by decide) fun S3 I3 => ?_
  -- self.count
  refine var_rd S3 rfl fun y2 G4 H4 t4 S4 ry2 => ?_
  obtain rfl := Rep.int_inv (T := M.T) (G := G4) ry2
  refine fld_rd S4 (I3.stp t4) hA hne rfl hc n2 (Nat.lt_of_le_of_lt (putF_small _) (by simp)) fun S5 I5 => ?_
  generalize upd H4 p (.ins (M.T.cls 0) dx (putF ("count" : Str) (V.int m) (putF ("size" : Str) y1 []))) = H5 at S5 I5 ⊢
  have q3A : tz ∉ Pa.A0 := by simp [Pa, nq1, nq2]
  have hq35 : H5 tz = some (.lst us3) := S5.fr tz _ hq3 q3A
  have gq35 : G4 tz = none := (S5.gs tz _ hq3 q3A).trans gq3
  have e04 : Ex G0 G4 := S5.g0
  -- self.rows
  let K0 : List Cw.D → List (List Cw.D) → Prop := fun rows ws => ∀ (G' H' : Hp) (us' us3' : List V), Ex G0 G' → (∀ a, a ≠ p → ∀ o, G' a = some o → H' a = some o) → (∀ a o, H a = some o → a ≠ p → a ≠ dx → a ≠ tz → H' a = some o ∧ G' a = G0 a) → (∀ a, H' a = none → H a = none) → G' p = none →
    G' tz = none → H' tz = some (.lst us3') → RepL M.T G' xs us3' → H' p = some (.ins (M.T.cls 0) dx ((M.T.fld 0).zip us')) → (M.T.fld 0).length = us'.length → RepL M.T G' [d1, .int m, .tup rows, .lst (ws.map .lst)] us' → Q .non H'
  have h3 : wE (.call Ft (.cons (.var 3) .nil)) ρ2 fun w ρ1 => (∃ rows, w = .dat (.tup rows) ∧ Lp Fu rows (List.replicate m.toNat []) (K0 rows)) ∧ ρ1 = ρ2 := by
    unfold wE
    unfold wA wE wA
    show callF Ft [.brw 3] ρ2 _
    unfold callF
    rw [mt]
    show pass [true] [.brw 3] ρ2 _
    unfold pass
    show pass [] [] ρ2 _
    refine ⟨by simp, rfl, Ft.mono _ _ _ (fun r bs z => ?_) ht⟩
    obtain ⟨rfl, rows, rfl, z⟩ := z
    exact ⟨rfl, ⟨rows, rfl, z⟩, rfl⟩
  let θ2 : Nat → List Addr := fun i => if i = 3 then [tz] else []
  have m2 : ∀ {i a}, a ∈ θ2 i → i = 3 ∧ a = tz := fun {i a} h => by
    have h : a ∈ (if i = 3 then [tz] else []) := h
    by_cases z : i = 3
    · rw [if_pos z] at h; exact ⟨z, by simpa using h⟩
    · rw [if_neg z] at h; cases h
  have S5b : Sim P2 ρ2 θ2 G4 σ0 H5 :=
    { g0 := S5.g0, gh := S5.gh, fr := fun a o e n => S5.fr a o e fun q => n (by
        rcases List.mem_cons.mp q with rfl | q
        · exact List.mem_cons_self
        · exact List.mem_cons_of_mem _ (List.mem_cons.mpr (.inl (by simpa using q)))),
      gs := fun a o e n => S5.gs a o e fun q => n (by
        rcases List.mem_cons.mp q with rfl | q
        · exact List.mem_cons_self
        · exact List.mem_cons_of_mem _ (List.mem_cons.mpr (.inl (by simpa using q)))),
      pe := S5.pe, ln := rfl,
      sl := fun i x e => by
        match i, e with
        | 0, e => cases e
        | 1, e => cases e; exact ⟨_, rfl, rfl, Rep.mono e04 _ _ r1⟩
        | 2, e => cases e; exact ⟨_, rfl, rfl, Rep.int⟩
        | 3, e => cases e; exact ⟨_, rfl, tz, [], rfl, rfl, rfl, us3, hq35, RepL.mono e04 _ _ rq3⟩
        | 4, e => cases e
        | 5, e => cases e
        | 6, e => cases e
        | 7, e => cases e
        | i + 8, e => cases e
      no := fun i hi => by
        by_cases z : i = 3
        · subst z; exact absurd rfl (hi (.lst xs))
        · show (if i = 3 then [tz] else []) = []
          rw [if_neg z]
      gn := fun i a h => by obtain ⟨_, rfl⟩ := m2 h; exact gq35
      nw := fun i a h => by obtain ⟨rfl, rfl⟩ := m2 h; exact .inr ⟨by simp [P2], by show 3 < f3.length; simp [f3]⟩
      nd := fun i => by
        show (if i = 3 then [tz] else []).Nodup
        split <;> simp
      dj := fun i j a h1 h2 => (m2 h1).1.trans (m2 h2).1.symm
      fx := fun i v e => by
        have := f30 i ⟨v, e⟩
        subst this
        exact e }
  refine rd_of S5b h3 fun w ρ1 yr qs θ6 G6 H6 ⟨⟨rows, ew, hL⟩, e2⟩ t6 S6b rr6 f6 nn6 => ?_
  subst ew e2
  obtain ⟨tz', r3', k31, k32, k33, us3', hq36, rq36⟩ := S6b.own (i := 3) rfl
  have eq3 : tz' = tz := by cases k31; rfl
  subst eq3
  subst k33
  have gq36 : G6 tz' = none := S6b.gn 3 tz' (by rw [k32]; exact List.mem_cons_self)
  have np2 : ∀ i, p ∉ θ2 i := fun i h => nq1 (m2 h).2.symm
  have nd2 : ∀ i, dx ∉ θ2 i := fun i h => nq2 (m2 h).2.symm
  let Hq : Hp := upd H tz' (.lst us3')
  have hqs : ∀ {a}, a ≠ tz' → Hq a = H a := fun z => upd_ne z
  have hqq : Hq tz' = some (.lst us3') := upd_same
  let P : Par := PP M.T G0 [p, dx] Hq
  have S6 : Sim P ρ0 th0 G6 σ0 H6 :=
    { g0 := S6b.g0, gh := S6b.gh,
      fr := fun a o e n => by
        have e : Hq a = some o := e
        by_cases z : a = tz'
        · subst z; rw [hqq] at e; cases e; exact hq36
        · rw [hqs z] at e
          exact S6b.fr a o e (by
            have n : a ∉ [p, dx] := n
            simp only [List.mem_cons, List.not_mem_nil, or_false, not_or] at n
            simp [P2, n.1, n.2, z]),
      gs := fun a o e n => by
        have e : Hq a = some o := e
        by_cases z : a = tz'
        · subst z; exact gq36.trans gq3.symm
        · rw [hqs z] at e
          exact S6b.gs a o e (by
            have n : a ∉ [p, dx] := n
            simp only [List.mem_cons, List.not_mem_nil, or_false, not_or] at n
            simp [P2, n.1, n.2, z]),
      pe := fun a e => by
        by_cases z : a = tz'
        · subst z; rw [hq36] at e; cases e
        · show Hq a = none
          rw [hqs z]; exact S6b.pe a e,
      ln := rfl,
      sl := fun i x e => by
        match i, e with
        | 0, e => cases e
        | 1, e => cases e; exact ⟨_, rfl, rfl, Rep.mono S6b.g0 _ _ r1⟩
        | 2, e => cases e; exact ⟨_, rfl, rfl, Rep.int⟩
        | 3, e => cases e
        | 4, e => cases e
        | 5, e => cases e
        | 6, e => cases e
        | 7, e => cases e
        | i + 8, e => cases e
      no := fun _ _ => rfl, gn := fun _ _ h => by cases h
      nw := fun _ _ h => by cases h
      nd := fun _ => List.nodup_nil, dj := fun _ _ _ h => by cases h
      fx := fun i v e => by cases e }
  have hpq : Hq p = some (.ins (M.T.cls 0) dx []) := (hqs (Ne.symm nq1)).trans hp
  refine fld_rd S6 (I5.stp2 t6 np2 nd2) hA hne rfl hc n3 (Nat.lt_of_le_of_lt (Nat.le_trans (putF_small _) (Nat.succ_le_succ (putF_small _))) (by simp)) fun S7 I7 => ?_
  -- self.ways
  have h4 : wE (.lcl [4] 4 .rng1 (.cons (.var 2) .nil)) ρ0 fun w ρ1 => w = .own (.ll (List.replicate m.toNat [])) ∧ ρ1 = ρ0 := by
    unfold wE
    unfold wA wE wA
    refine ⟨m, rfl, hsm, trivial, by rw [rngD_len]; exact hz, ?_, rfl⟩
    rw [rngD_len]
  refine ⟨Hq, rd_of S7 h4 fun w ρ1 yw qs θ8 G8 H8 ⟨ew, e2⟩ t8 S8 rr8 f8 nn8 => ?_⟩
  subst ew e2
  obtain rfl := th_of t8
  obtain ⟨L, inner, rfl, rfl, oL, oI⟩ := rr8
  refine fld_rd S8 (I7.stp t8) hA hne rfl hc n4 (Nat.lt_of_le_of_lt (Nat.le_trans (putF_small _) (Nat.succ_le_succ (Nat.le_trans (putF_small _) (Nat.succ_le_succ (putF_small _))))) (by simp)) fun S9 I9 => ?_
  obtain ⟨rp, us, rfl, hr1, hr2⟩ := Rep.tup_inv rr6.2
  have e48 : Ex G6 G8 := t8.g
  -- the fields as they stand
  let fls : List (Str × V) := [(("size" : Str), y1), (("count" : Str), .int m), (("rows" : Str), .ref rp), (("ways" : Str), .ref L)]
  have dsc : ("size" : Str) ≠ "count" := by decide +kernel
  have dsr : ("size" : Str) ≠ "rows" := by decide +kernel
  have dcr : ("count" : Str) ≠ "rows" := by decide +kernel
  have dsw : ("size" : Str) ≠ "ways" := by decide +kernel
  have dcw : ("count" : Str) ≠ "ways" := by decide +kernel
  have drw : ("rows" : Str) ≠ "ways" := by decide +kernel
  have k1 : putF ("count" : Str) (V.int m) (putF ("size" : Str) y1 []) = [(("size" : Str), y1), (("count" : Str), .int m)] := putF_app (fs := [(("size" : Str), y1)]) fun x hx => by
    have e : x = (("size" : Str), y1) := by simpa using hx
    subst e; exact dsc
  have k2 : putF ("rows" : Str) (V.ref rp) (putF ("count" : Str) (V.int m) (putF ("size" : Str) y1 [])) = [(("size" : Str), y1), (("count" : Str), .int m), (("rows" : Str), .ref rp)] := by
    rw [k1]
    refine putF_app (fs := [(("size" : Str), y1), (("count" : Str), .int m)]) fun x hx => ?_
    rcases List.mem_cons.mp hx with e | hx
    · subst e; exact dsr
    · have e : x = (("count" : Str), V.int m) := by simpa using hx
      subst e; exact dcr
  have k3 : putF ("ways" : Str) (V.ref L) (putF ("rows" : Str) (V.ref rp) (putF ("count" : Str) (V.int m) (putF ("size" : Str) y1 []))) = fls := by
    rw [k2]
    refine putF_app (fs := [(("size" : Str), y1), (("count" : Str), .int m), (("rows" : Str), .ref rp)]) fun x hx => ?_
    rcases List.mem_cons.mp hx with e | hx
    · subst e; exact dsw
    rcases List.mem_cons.mp hx with e | hx
    · subst e; exact dcw
    · have e : x = (("rows" : Str), V.ref rp) := by simpa using hx
      subst e; exact drw
  rw [k3] at S9 I9 ⊢
  have lw : fls.lookup ("ways" : Str) = some (.ref L) := by
    rw [← k3, lookup_putF, if_pos rfl]
  have lr : fls.lookup ("rows" : Str) = some (.ref rp) := by
    rw [← k3, lookup_putF, if_neg drw, lookup_putF, if_pos rfl]
  have pnew : ∀ a ∈ L :: inner, a ≠ p := fun a m e => by
    have := (f8.2 a m).2.1
    rw [e] at this
    have h' : Hq p = none := this
    rw [hpq] at h'; cases h'
  have B9 : Bu P (M.T.cls 0) p dx L inner (List.replicate m.toNat []) fls G8 (upd H8 p (.ins (M.T.cls 0) dx fls)) :=
    ⟨I9.at_, I9.gp, I9.gd, by rw [upd_ne (pnew L List.mem_cons_self)]; exact oL, oI.stay (Ex.refl _) fun a m o e => by rw [upd_ne (pnew a (List.mem_cons_of_mem _ m))]; exact e, f8.1, fun a m => ⟨(f8.2 a m).1, (f8.2 a m).2.1⟩⟩
  have gr : G8 rp = some (.tup us) := e48 _ _ hr1
  have rr9 : RepL M.T G8 rows us := RepL.mono e48 _ _ hr2
  have lus := rr9.len
  refine ⟨_, rfl, p, M.T.cls 0, dx, fls, .ref rp, rfl, I9.at_, hc, n3, lr, rp, rfl, ⟨us, SqT.of (S9.gh _ _ gr)⟩, fun i mm σ' H' => mm = rows.length - i ∧ i ≤ rows.length ∧ ∃ ρ' G' w, Sim P ρ' th0 G' σ' H' ∧ ρ'.length = 8 ∧ σ'[0]? = some (some (.ref p)) ∧ Ex G8 G' ∧ Bu P (M.T.cls 0) p dx L inner w fls G' H' ∧ (∃ o, H' dx = some o) ∧ Lp Fu (rows.drop i) w (K0 rows),
    ⟨_, rfl, Nat.zero_le _, ρ0, G8, _, S9, rfl, rfl, Ex.refl _, B9, ⟨_, I9.ow⟩, hL⟩, ?_⟩
  rintro i mm σ' H' ⟨rfl, hi, ρ', G', w, S', lρ, hs0, e8, B, ow, hLp⟩
  have hrp : H' rp = some (.tup us) := S'.gh _ _ (e8 _ _ gr)
  by_cases hlt : i < rows.length
  · obtain ⟨d, hd'⟩ : ∃ d, rows[i]? = some d := ⟨_, List.getElem?_eq_getElem hlt⟩
    have hdrop : rows.drop i = d :: rows.drop (i + 1) := by
      rw [List.getElem?_eq_getElem hlt] at hd'; cases hd'
      exact List.drop_eq_getElem_cons hlt
    rw [hdrop] at hLp
    unfold Lp at hLp
    obtain ⟨na, nb, mv, wa, wb, rfl, hwa, hza, hwb, hzb, hcall⟩ := hLp
    refine .inr ⟨⟨us, us[i]'(by omega), SqT.of hrp, by simp⟩, fun σ'' H'' => i < rows.length ∧ ∃ ρ' G' w, Sim P ρ' th0 G' σ'' H'' ∧ ρ'.length = 8 ∧ σ''[0]? = some (some (.ref p)) ∧ Ex G8 G' ∧ Bu P (M.T.cls 0) p dx L inner w fls G' H'' ∧ (∃ o, H'' dx = some o) ∧ Lp Fu (rows.drop (i + 1)) w (K0 rows),
      fun σ'' H'' ⟨_, q⟩ => ⟨_, by omega, rfl, hlt, q⟩, fun x H'' hy => ?_⟩
    obtain ⟨rfl, hy⟩ := hy
    have hx := at_tup hrp hy
    obtain ⟨d2, hd2, rx⟩ := rr9.get' hx
    rw [hd'] at hd2; cases hd2
    have off : Off P (Tg.tp (.cons (.nm 5) (.cons (.nm 6) (.cons (.nm 7) .nil)))).slots := fun j _ m => by simp [P] at m
    refine ⟨Hq, ρ', th0, G', _, S', Rep.mono e8 _ _ rx, off, ?_⟩
    unfold take
    refine ⟨_, _, rfl, ?_⟩
    unfold take
    unfold take
    refine ⟨_, _, rfl, ?_⟩
    unfold take
    unfold take
    refine ⟨_, _, rfl, ?_⟩
    unfold take
    unfold take
    refine ⟨rfl, fun σ2 θ2 S2 t2 f2 l2 => ?_⟩
    obtain rfl : θ2 = th0 := funext fun i => (t2 i).elim id id
    have g5 : slOf (((ρ'.set 5 (some (.dat (.int na)))).set 6 (some (.dat (.int nb)))).set 7 (some (.dat mv))) 5 = some (.dat (.int na)) := by
      rw [slOf_set_ne (by decide), slOf_set_ne (by decide), slOf_set (by omega), if_pos rfl]
    have g6 : slOf (((ρ'.set 5 (some (.dat (.int na)))).set 6 (some (.dat (.int nb)))).set 7 (some (.dat mv))) 6 = some (.dat (.int nb)) := by
      rw [slOf_set_ne (by decide), slOf_set (by simp [lρ]), if_pos rfl]
    have g7 : slOf (((ρ'.set 5 (some (.dat (.int na)))).set 6 (some (.dat (.int nb)))).set 7 (some (.dat mv))) 7 = some (.dat mv) := by
      rw [slOf_set (by simp [lρ]), if_pos rfl]
    have l8 : (((ρ'.set 5 (some (.dat (.int na)))).set 6 (some (.dat (.int nb)))).set 7 (some (.dat mv))).length = 8 := by simp [lρ]
    generalize ((ρ'.set 5 (some (.dat (.int na)))).set 6 (some (.dat (.int nb)))).set 7 (some (.dat mv)) = ρ4 at S2 g5 g6 g7 l8
    have h20 : σ2[0]? = some (some (.ref p)) := (f2 0 (by simp [Tg.slots])).trans hs0
    have keep : ∀ {G1 H1 θ' G2 H2}, (∃ o, H1 dx = some o) → Stp th0 G1 H1 θ' G2 H2 → ∃ o, H2 dx = some o := fun ⟨o, e⟩ s => ⟨_, (s.h dx o e no0).1⟩
    have owd : ∀ {G2 H2}, Sim P ρ4 th0 G2 σ2 H2 → True := fun _ => trivial
    have kv1 : wE (.tup (.cons (.var 6) (.cons (.var 7) .nil))) ρ4 fun u ρ'' => ∃ e, u = .dat e ∧ ρ'' = ρ4 ∧ e = .tup [.int nb, mv] := by
      unfold wE wA wE wA wE wA
      rw [g6]; dsimp only
      rw [g7]; dsimp only
      exact ⟨by show 2 ≤ sizeLine; decide, _, rfl, rfl, rfl⟩
    have kv2 : wE (.tup (.cons (.var 5) (.cons (.call Fu (.cons (.var 7) .nil)) .nil))) ρ4 fun u ρ'' => ∃ e, u = .dat e ∧ ρ'' = ρ4 ∧ ∃ tv, e = .tup [.int na, tv] ∧ Lp Fu (rows.drop (i + 1)) ((w.set na (wa ++ [.tup [.int nb, mv]])).set nb (wb ++ [.tup [.int na, tv]])) (K0 rows) := by
      unfold wE wA wE wA wE wA wE wA
      rw [g5]; dsimp only
      rw [g7]; dsimp only
      refine callF_re (ds := [mv]) (ρ := ρ4) mu hcall fun r ⟨tv, e, q⟩ => ?_
      subst e
      exact ⟨by show 2 ≤ sizeLine; decide, _, rfl, rfl, tv, rfl, q⟩
    have h0' : ∃ o, Hq p = some o := ⟨_, hpq⟩
    refine app_rd2 B S2 ow h0' (fun s => keep ow s) h20 lw hc n4 g5 hwa hza kv1 fun Ga Ha e1 xa Ba Sa oa da => ?_
    subst da
    refine app_rd2 Ba Sa oa h0' (fun s => keep oa s) h20 lw hc n4 g6 hwb hzb kv2 fun Gb Hb e2 xb Bb Sb ob' db => ?_
    obtain ⟨tv, rfl, hnext⟩ := db
    exact ⟨hlt, ρ4, Gb, _, Sb, l8, h20, e8.trans (xa.trans xb), Bb, ob', hnext⟩
  · have e : i = rows.length := by omega
    subst e
    rw [List.drop_length] at hLp
    refine .inl ⟨⟨us, SqT.of hrp, by omega⟩, ?_⟩
    have nnq : ∀ a ∈ L :: inner, Hq a = none := fun a m => (B.fr a m).2
    have nn3 : ∀ a ∈ L :: inner, a ≠ tz' := fun a m e => by
      have := nnq a m
      rw [e, hqq] at this; cases this
    have nn : ∀ a ∈ L :: inner, H a = none := fun a m => by rw [← hqs (nn3 a m)]; exact nnq a m
    have gG : Ex G' (grow G' H' (L :: inner)) := S'.gh.grow _
    have b8' : Ex G2 (grow G' H' (L :: inner)) := (((t4.g.trans t6.g).trans e48).trans e8).trans gG
    have hq3' : H' tz' = some (.lst us3') := S'.fr tz' _ hqq (by simp [P, nq1, nq2])
    have gq3' : G' tz' = none := (S'.gs tz' _ hqq (by simp [P, nq1, nq2])).trans gq3
    unfold Lp at hLp
    refine hLp (grow G' H' (L :: inner)) H' [y1, .int m, .ref rp, .ref L] us3' (S'.g0.trans gG) (fun a _ o e => S'.gh.grown _ a o e) (fun a o e n1 n2 n3 => ?_) (fun a e => ?_) ?_ ?_ hq3' ?_ ?_ ?_ ?_
    · have nm : a ∉ L :: inner := fun m => by rw [nn a m] at e; cases e
      have nA : a ∉ P.A0 := by simp [P, n1, n2]
      have e' : Hq a = some o := (hqs n3).trans e
      exact ⟨S'.fr a o e' nA, by rw [grow_out nm]; exact S'.gs a o e' nA⟩
    · by_cases z : a = tz'
      · subst z; rw [hq3'] at e; cases e
      · rw [← hqs z]; exact S'.pe a e
    · rw [grow_out fun m => pnew p m rfl]; exact B.gp
    · rw [grow_out fun m => nn3 tz' m rfl]; exact gq3'
    · exact RepL.mono ((e48.trans e8).trans gG) _ _ rq36
    · rw [B.at_, hf]; rfl
    · rw [hf]; rfl
    · refine RepL.cons (Rep.mono b8' _ _ ry1) (RepL.cons Rep.int (RepL.cons (Rep.tup ((e8.trans gG) _ _ gr) (RepL.mono (e8.trans gG) _ _ rr9)) (RepL.cons (Rep.lst (by rw [grow_in List.mem_cons_self]; exact B.li) (B.re.frz gG fun a m o e => by rw [grow_in (List.mem_cons_of_mem _ m)]; exact e)) RepL.nil)))
end Cw
/-! Cw: the constructor as a def, its list being the caller's. -/
namespace Cw
open PySem PySem.Spec PyProof.Rows L2

/-- a constructor of three values, the last one a list of the caller's -/
def makeF2 (name : Str) (c : Nat) (pre : List D → (List D → Prop) → Prop) (hp : ∀ ds Q Q', (∀ fs, Q fs → Q' fs) → pre ds Q → pre ds Q') : Fn where
  name := name
  modes := [false, false, true]
  sp as Q := ∃ d1 d2 xs, as = [.dat d1, .dat d2, .own (.lst xs)] ∧ pre [d1, d2, .lst xs] fun fs => ∀ b1 b2, Q (.dat (.ins c fs)) [b1, b2, .own (.lst xs)]
  mono as Q Q' h := fun ⟨d1, d2, xs, h1, h3⟩ => ⟨d1, d2, xs, h1, hp _ _ _ (fun r q b1 b2 => h _ _ (q b1 b2)) h3⟩
theorem CallV.of_make2 {M : Mo} {k j c : Nat} {name : Str} {f : Addr} {fd : FuncData} {ps : List Str} {pre : List D → (List D → Prop) → Prop} {hp : ∀ ds Q Q', (∀ fs, Q fs → Q' fs) → pre ds Q → pre ds Q'}
    (G : FnG M.prog M.w M.T.K M.mg M.base CX0 j f fd ps (spIni2 M.T c pre)) (hj : j + 1 ≤ k) (hmg : M.mg name = some (.ref (M.T.cls c))) (hk : Mk M.T.K (M.T.cls c) f) (hb : Binds M.T.K fd ps []) (db : (name == ("__debug__" : Str)) = false) : CallV M k (makeF2 name c pre hp) where
  db := db
  zero := fun P X O hg p pos => by
    refine ⟨fun pins s σ H Q I h => ?_⟩
    exfalso
    obtain ⟨ρ, θ, G, S, h⟩ := h
    unfold wE wA callF at h
    exact h
  many := fun P X O hg e es ea p pos ha hs hpl => by
    refine impE (g_make (C := M.T.cls c) (dvs := []) (ds := []) (E := E0) (by rw [O.ek]; exact hk) (G.at O) (O.room.mono hj) O.o.g hg (by rw [O.mg]; exact hmg) (by rw [O.ek]; exact hb) .nil passes0 ha db hs hpl) fun σ H Q ⟨ρ, θ, G1, S, h⟩ => ?_
    unfold wE at h
    refine rdA_of S h fun ws ρ1 vs qss θ1 G1 H1 h1 s1 S1 r1 f1 n1 => ?_
    intro x dx hx hdx hne
    rw [List.append_nil]
    have sp := call_ok (E := E0) h1 s1 S1 r1 f1 n1
    obtain ⟨hl, G2, as, qss2, eg, md, ar, nd, gn, d1, d2, xs, rfl, hq⟩ := sp
    rw [O.T] at ar
    match vs, qss2, ar with
    | [v1, v2, v3], [qa, qb, qc], ⟨⟨ea', r1'⟩, ⟨eb', r2'⟩, ⟨q3, qr, eqc, ev3, hnil, us3, h3, r3⟩, _⟩ =>
    subst ea' eb' hnil
    subst eqc ev3
    have g0 : G2 x = none := eg.none hx
    have g1 : G2 dx = none := eg.none hdx
    have gq : G2 q3 = none := gn q3 (by simp)
    have nx3 : q3 ≠ x := fun z => by subst z; rw [hx] at h3; cases h3
    have nd3 : q3 ≠ dx := fun z => by subst z; rw [hdx] at h3; cases h3
    have x1 : Ex H1 (upd (upd H1 dx (.own x)) x (.ins (M.T.cls c) dx [])) := (Ex.new hdx).trans (Ex.new (by rw [upd_ne (Ne.symm hne)]; exact hx))
    refine ⟨rfl, x, dx, G2, v1, v2, q3, us3, d1, d2, xs, rfl, upd_same, by rw [upd_ne hne, upd_same], hne, eg.trans x1, g0, g1, r1', r2', x1 _ _ h3, gq, r3, nx3, nd3, hp _ _ _ (fun fs k G' H' us' us3' e1 e2 e3 e4 e5 eq1 eq2 eq3 e6 e7 e8 => ⟨rfl, ?_⟩) hq⟩
    have eG : Ex G' (upd G' x (.ins (M.T.cls c) dx ((M.T.fld c).zip us'))) := Ex.new e5
    refine k (.dat .non) (.dat .non) (.ref x) [] [[], [], [q3]] (upd G' x (.ins (M.T.cls c) dx ((M.T.fld c).zip us'))) H' ⟨e1.trans eG, fun a o e => ?_, fun a o e n => ?_, fun a e => ?_, ⟨rfl, rfl, ⟨rfl, q3, [], rfl, rfl, rfl, us3', eq2, ?_⟩, trivial⟩, fun a m => ?_, ⟨rfl, ?_⟩, List.nodup_nil, fun a m => by cases m⟩
    · by_cases z : a = x
      · subst z; rw [upd_same] at e; cases e; exact e6
      · rw [upd_ne z] at e; exact e2 a z o e
    · have nx : a ≠ x := ne_of_none e hx
      have ndx : a ≠ dx := ne_of_none e hdx
      have nq : a ≠ q3 := fun z => n (by subst z; simp)
      obtain ⟨k1, k2⟩ := e3 a o (x1 a o e) nx ndx nq
      exact ⟨k1, by rw [upd_ne nx]; exact k2⟩
    · exact x1.none (e4 a e)
    · rw [O.T]; exact RepL.mono eG _ _ eq3
    · have m : a = q3 := by simpa using m
      subst m
      rw [upd_ne nx3]; exact eq1
    · rw [O.T]
      exact Rep.ins upd_same e7 (RepL.mono eG _ _ e8)
end Cw
/-! Cw: the constructor, its list being the caller's own or one that never changes. -/
namespace Cw
open PySem PySem.Spec PyProof.Rows L2

theorem pass_dat3 {Q : List Sl → List (Option Nat) → Ro → Prop} {ρ : Ro} : ∀ (ms : List Bool) (ds : List D), ms.length = ds.length → (pass ms (ds.map .dat) ρ Q ↔ Q (ds.map .dat) (List.replicate ds.length none) ρ)
  | [], [], _ => Iff.rfl
  | true :: ms, d :: ds, h => by
    rw [List.length_cons, List.map_cons, List.map_cons, List.replicate_succ]
    exact pass_dat3 (Q := fun as bs ρ' => Q (.dat d :: as) (none :: bs) ρ') ms ds (by simpa using h)
  | false :: ms, d :: ds, h => by
    rw [List.length_cons, List.map_cons, List.map_cons, List.replicate_succ]
    exact pass_dat3 (Q := fun as bs ρ' => Q (.dat d :: as) (none :: bs) ρ') ms ds (by simpa using h)
theorem callF_dat3 {F : Fn} {ds : List D} {ρ : Ro} {Q : W → Ro → Prop} (hm : F.modes.length = ds.length) : callF F (ds.map .dat) ρ Q ↔ F.sp (ds.map .dat) fun r rs => rs.length = ds.length ∧ Q (ofSl r) ρ := by
  unfold callF
  rw [pass_dat3 _ _ hm]
  have e : ∀ r rs, (rs.length = (ds.map Sl.dat).length ∧ Q (ofSl r) (back (List.replicate ds.length none) rs ρ)) ↔ (rs.length = ds.length ∧ Q (ofSl r) ρ) := fun r rs => by
    rw [List.length_map, back_none fun b hb => (List.mem_replicate.mp hb).2]
  constructor
  · exact F.mono _ _ _ fun r rs h => (e r rs).mp h
  · exact F.mono _ _ _ fun r rs h => (e r rs).mpr h
theorem callF_re3 {F : Fn} {ds : List D} {ρ : Ro} {Q Q' : W → Ro → Prop} (hm : F.modes.length = ds.length) (h : callF F (ds.map .dat) [] Q) (k : ∀ r, Q r [] → Q' r ρ) : callF F (ds.map .dat) ρ Q' :=
  (callF_dat3 hm).mpr (F.mono _ _ _ (fun r rs z => ⟨z.1, k _ z.2⟩) ((callF_dat3 hm).mp h))
theorem init_ok3 {M : Mo} {k n : Nat} {st : Stmt} {f : Addr} {fd : FuncData} {cn : List Str} {fl : List (List Str)} {Fa Ft Fu : Fn} (G : L2.Fun M.T.K "__init__" "Web.__init__" st f fd) (hcn : ∀ n, M.cn n = cn.getD n "") (hfl : ∀ n, M.T.fld n = fl.getD n []) (hs : scK N8 ps4 (defScope st) = true)
    (tx : IniTx n (ckOf N8 st [false, false, false, true] cn fl) Fa Ft Fu (defBody st)) (ka : CallV M k Fa) (kt : CallV M k Ft) (ku : CallV M k Fu) (kr : M.mg "range" = none) (ma : Fa.modes = [false, false, false]) (mt : Ft.modes = [true]) (mu : Fu.modes = [false])
    (hc : Cls M.T.K (M.T.cls 0)) (hno : ∀ x ∈ (["size", "count", "rows", "ways"] : List Str), NoAttr M.T.K (M.T.cls 0) x) (hf : M.T.fld 0 = ([("size" : Str), "count", "rows", "ways"] : List Str)) :
    FnG M.prog M.w M.T.K M.mg M.base CX0 (k + 1) f fd ps4 (spIni M.T 0 3 (webPre Fa Ft Fu)) := by
  obtain ⟨oc, od, kV, doc, pm, an, cdv, ct, osl, rfl, lk, hcd⟩ := G.ex
  refine fnG_of lk hcd (scK_ok hs) (fun vs H Q E h => h.1) fun A out s H vs Q E hr hg e0 h => ?_
  obtain ⟨hl, p, dx, G0, us, ds, rfl, hp, hdx, hne, eg, gp, gd, rl, hd, d1, d3, m, rfl, ha, hsm, hz, ht⟩ := h
  obtain ⟨u1, us, rfl, r1, rl⟩ := rl.cons_inv
  obtain ⟨u2, us, rfl, r2, rl⟩ := rl.cons_inv
  obtain ⟨u3, us, rfl, r3, rl⟩ := rl.cons_inv
  obtain rfl := rl.nil_inv
  obtain rfl := Rep.int_inv r2
  let P : Par := ⟨M.T, H, G0, [p, dx], []⟩
  have hN : N8.Nodup := (scK_ok hs).nd
  let X := cxOf CX0 M.prog M.w M.T.K M.mg M.base N8 "Web.__init__" (defScope st) f cdv A out s H E
  have O : Onx P M k X := ⟨⟨rfl, rfl, Nat.lt_of_le_of_lt (Nat.add_le_add_right (Nat.le_add_right _ (16 * k)) 200) hr.un, hg, hN⟩, rfl, rfl, rfl, rfl, rfl, hr⟩
  have cvv : Cv (ckOf N8 st [false, false, false, true] cn fl) P M k X := ⟨O, rfl, rfl, (scK_ok hs).kind, rfl, fun i ⟨v, e⟩ => (by cases e), hcn, hfl⟩
  obtain ⟨cnd, rb, v1, v2, v3, v4, tg, ixa, ixb, x1, x2, p1, p2, p3, p4, p5, p6, q1, q2, q3, q4, q5, q6, q7, q8, q9, q10, q11, q12, q13, q14, q15, s1, s2, s3, s4, s5, s6, s7, eb, c0, c1, c2, c3, c4, c5, c6, c7, c8, c9, c10, c11, c12, c13, c14⟩ := tx.tx
  obtain ⟨sE, sA, sT, sI⟩ := sn_all n
  have kv : ∀ i, knE M k (.var i) := fun i => by unfold knE; trivial
  have kn0 : knE M k .nil := by unfold knE; trivial
  have kc : ∀ {a b}, knE M k a → knE M k b → knE M k (.cons a b) := fun h1 h2 => by unfold knE; exact ⟨h1, h2⟩
  have kF : ∀ {F a}, CallV M k F → knE M k a → knE M k (.call F a) := fun h1 h2 => by unfold knE; exact ⟨h1, h2⟩
  have kT : ∀ {a}, knE M k a → knE M k (.tup a) := fun h1 => by unfold knE; exact h1
  have b0 : PT X cnd (rdT P (.not (.call Fa (.cons (.var 1) (.cons (.var 2) (.cons (.var 3) .nil)))))) := sT _ P M k X cvv _ _ (by unfold knE; exact kF ka (kc (kv 1) (kc (kv 2) (kc (kv 3) kn0)))) c0
  have b1 := sE _ P M k X cvv _ _ (kv 1) c1
  have b2 := sE _ P M k X cvv _ _ (kv 2) c2
  have b3 := sE _ P M k X cvv _ _ (kF kt (kc (kv 3) kn0)) c3
  have b4 := sE _ P M k X cvv _ _ (show knE M k (.lcl [4] 4 .rng1 (.cons (.var 2) .nil)) by unfold knE; exact ⟨kr, kc (kv 2) kn0⟩) c4
  have b5 := ckG_ok cvv _ _ c5
  have b6 := sE _ P M k X cvv _ _ (kv 5) c6
  have b7 := sE _ P M k X cvv _ _ (kv 6) c7
  have b8 := sA _ P M k X cvv _ _ (kc (kT (kc (kv 6) (kc (kv 7) kn0))) kn0) c8
  have b9 := sA _ P M k X cvv _ _ (kc (kT (kc (kv 5) (kc (kF ku (kc (kv 7) kn0)) kn0))) kn0) c9
  obtain ⟨w1, w2, w3, w4⟩ := cvv.var c14
  have slf : ∀ q, PE X (.Name "self" q) (tVar 0) := fun q => pe_var w1 w2 w3 w4
  have nst1 : noStar x1 = true := by simpa using b8.2.1
  have nst2 : noStar x2 = true := by simpa using b9.2.1
  rw [eb]
  have ob : ∀ {e : Expr} {q qq sp : Pos} {t : TE}, PE X e t → noSlice e = true → PE X (.Subscript (.Attribute (.Name "self" sp) "ways" q) e qq) (fun σ H Q => tFld X.K (tVar 0) "ways" σ H fun x H1 => t σ H1 fun y H2 => rRaw x y H2 Q) := fun he hs' => pe_ix ix_raw (pe_fld (slf _) rfl) he (plain_of hs')
  refine ⟨_, pss_cons (ps_if b0 pss_never pss_nil) (pss_cons (ps_fld (slf s1) b1 (sw_tg rfl)) (pss_cons (ps_fld (slf s2) b2 (sw_tg rfl)) (pss_cons (ps_fld (slf s3) b3 (sw_tg rfl)) (pss_cons (ps_fld (slf s4) b4 (sw_tg rfl)) (pss_one (ps_for (passes_of (by rfl)) rfl (pi_tup (pe_fld (slf s5) rfl)) b5
    (pss_cons (ps_expr (pe_bm F.plainAttrs_list F.slot_list_append F.type_list_append (fun pins s σ H x xs v us Q => mt_append pins s σ H x xs v us Q) (ob b6 c10) b8.1 rfl (few_of nst1) c12 (star_of nst1) rfl) rfl)
    (pss_one (ps_expr (pe_bm F.plainAttrs_list F.slot_list_append F.type_list_append (fun pins s σ H x xs v us Q => mt_append pins s σ H x xs v us Q) (ob b7 c11) b9.1 rfl (few_of nst2) c13 (star_of nst2) rfl) rfl))) fun _ => rfl)))))), ?_⟩
  let σ0 : L2.St := [some (.ref p), some u1, some (.int m), some u3, none, none, none, none]
  let ρ0 : Ro := [none, some (.dat d1), some (.dat (.int m)), some (.dat d3), none, none, none, none]
  have S0 : Sim P ρ0 th0 G0 σ0 H :=
    { g0 := Ex.refl _, gh := eg, fr := fun _ _ h _ => h, gs := fun _ _ _ _ => rfl, pe := fun _ h => h, ln := rfl,
      sl := fun i x e => by
        match i, e with
        | 0, e => cases e
        | 1, e => cases e; exact ⟨_, rfl, rfl, r1⟩
        | 2, e => cases e; exact ⟨_, rfl, rfl, Rep.int⟩
        | 3, e => cases e; exact ⟨_, rfl, rfl, r3⟩
        | 4, e => cases e
        | 5, e => cases e
        | 6, e => cases e
        | 7, e => cases e
        | i + 8, e => cases e
      no := fun _ _ => rfl, gn := fun _ _ h => by cases h
      nw := fun _ _ h => by cases h
      nd := fun _ => List.nodup_nil, dj := fun _ _ _ h => by cases h
      fx := fun i v e => by cases e }
  have I0 : Ip (M.T.cls 0) p dx [] G0 H := ⟨hp, gp, gd, hdx⟩
  have hA : p ∈ P.A0 := List.mem_cons_self
  have n1 := hno "size" (by simp)
  have n2 := hno "count" (by simp)
  have n3 := hno "rows" (by simp)
  have n4 := hno "ways" (by simp)
  have h0 : wE (.not (.call Fa (.cons (.var 1) (.cons (.var 2) (.cons (.var 3) .nil))))) ρ0 fun w ρ1 => w = .dat (.bl false) ∧ ρ1 = ρ0 := by
    unfold wE wE
    unfold wA wE wA wE wA wE wA
    exact callF_re (ds := [d1, .int m, d3]) (ρ := ρ0) ma ha fun r e => ⟨true, e, rfl, rfl⟩
  refine rdT_of S0 h0 fun v ρ1 x qs θ1 G1 H1 ⟨e1, e2⟩ t1 S1 rr f1 nn1 => ?_
  subst e1 e2
  obtain rfl := th_of t1
  refine ⟨false, Rep.bl_inv (T := P.T) (G := G1) rr.2, ?_⟩
  have I1 := I0.stp t1
  -- self.size
  refine var_rd S1 rfl fun y1 G2 H2 t2 S2 ry1 => ?_
  refine fld_rd S2 (I1.stp t2) hA hne rfl hc n1 (by decide) fun S3 I3 => ?_
  -- self.count
  refine var_rd S3 rfl fun y2 G4 H4 t4 S4 ry2 => ?_
  obtain rfl := Rep.int_inv (T := P.T) (G := G4) ry2
  refine fld_rd S4 (I3.stp t4) hA hne rfl hc n2 (Nat.lt_of_le_of_lt (putF_small _) (by simp)) fun S5 I5 => ?_
  -- self.rows
  let K0 : List Cw.D → List (List Cw.D) → Prop := fun rows ws => ∀ (G' H' : Hp) (us' : List V), Ex G0 G' → (∀ a, a ≠ p → ∀ o, G' a = some o → H' a = some o) → (∀ a o, H a = some o → a ≠ p → a ≠ dx → H' a = some o ∧ G' a = G0 a) → (∀ a, H' a = none → H a = none) → G' p = none →
    H' p = some (.ins (M.T.cls 0) dx ((M.T.fld 0).zip us')) → (M.T.fld 0).length = us'.length → RepL M.T G' [d1, .int m, .tup rows, .lst (ws.map .lst)] us' → Q .non H'
  have h3 : wE (.call Ft (.cons (.var 3) .nil)) ρ0 fun w ρ1 => (∃ rows, w = .dat (.tup rows) ∧ Lp Fu rows (List.replicate m.toNat []) (K0 rows)) ∧ ρ1 = ρ0 := by
    unfold wE
    unfold wA wE wA
    exact callF_re3 (ds := [d3]) (ρ := ρ0) (by rw [mt]; rfl) ht fun r e => ⟨e, rfl⟩
  refine rd_of S5 h3 fun w ρ1 yr qs θ6 G6 H6 ⟨⟨rows, ew, hL⟩, e2⟩ t6 S6 rr6 f6 nn6 => ?_
  subst ew e2
  obtain rfl := th_of t6
  refine fld_rd S6 (I5.stp t6) hA hne rfl hc n3 (Nat.lt_of_le_of_lt (Nat.le_trans (putF_small _) (Nat.succ_le_succ (putF_small _))) (by simp)) fun S7 I7 => ?_
  -- self.ways
  have h4 : wE (.lcl [4] 4 .rng1 (.cons (.var 2) .nil)) ρ0 fun w ρ1 => w = .own (.ll (List.replicate m.toNat [])) ∧ ρ1 = ρ0 := by
    unfold wE
    unfold wA wE wA
    refine ⟨m, rfl, hsm, trivial, by rw [rngD_len]; exact hz, ?_, rfl⟩
    rw [rngD_len]
  refine rd_of S7 h4 fun w ρ1 yw qs θ8 G8 H8 ⟨ew, e2⟩ t8 S8 rr8 f8 nn8 => ?_
  subst ew e2
  obtain rfl := th_of t8
  obtain ⟨L, inner, rfl, rfl, oL, oI⟩ := rr8
  refine fld_rd S8 (I7.stp t8) hA hne rfl hc n4 (Nat.lt_of_le_of_lt (Nat.le_trans (putF_small _) (Nat.succ_le_succ (Nat.le_trans (putF_small _) (Nat.succ_le_succ (putF_small _))))) (by simp)) fun S9 I9 => ?_
  obtain ⟨rp, us, rfl, hr1, hr2⟩ := Rep.tup_inv rr6.2
  have e48 : Ex G6 G8 := t8.g
  -- the fields as they stand
  let fls : List (Str × V) := [(("size" : Str), y1), (("count" : Str), .int m), (("rows" : Str), .ref rp), (("ways" : Str), .ref L)]
  have dsc : ("size" : Str) ≠ "count" := by decide +kernel
  have dsr : ("size" : Str) ≠ "rows" := by decide +kernel
  have dcr : ("count" : Str) ≠ "rows" := by decide +kernel
  have dsw : ("size" : Str) ≠ "ways" := by decide +kernel
  have dcw : ("count" : Str) ≠ "ways" := by decide +kernel
  have drw : ("rows" : Str) ≠ "ways" := by decide +kernel
  have k1 : putF ("count" : Str) (V.int m) (putF ("size" : Str) y1 []) = [(("size" : Str), y1), (("count" : Str), .int m)] := putF_app (fs := [(("size" : Str), y1)]) fun x hx => by
    have e : x = (("size" : Str), y1) := by simpa using hx
    subst e; exact dsc
  have k2 : putF ("rows" : Str) (V.ref rp) (putF ("count" : Str) (V.int m) (putF ("size" : Str) y1 [])) = [(("size" : Str), y1), (("count" : Str), .int m), (("rows" : Str), .ref rp)] := by
    rw [k1]
    refine putF_app (fs := [(("size" : Str), y1), (("count" : Str), .int m)]) fun x hx => ?_
    rcases List.mem_cons.mp hx with e | hx
    · subst e; exact dsr
    · have e : x = (("count" : Str), V.int m) := by simpa using hx
      subst e; exact dcr
  have k3 : putF ("ways" : Str) (V.ref L) (putF ("rows" : Str) (V.ref rp) (putF ("count" : Str) (V.int m) (putF ("size" : Str) y1 []))) = fls := by
    rw [k2]
    refine putF_app (fs := [(("size" : Str), y1), (("count" : Str), .int m), (("rows" : Str), .ref rp)]) fun x hx => ?_
    rcases List.mem_cons.mp hx with e | hx
    · subst e; exact dsw
    rcases List.mem_cons.mp hx with e | hx
    · subst e; exact dcw
    · have e : x = (("rows" : Str), V.ref rp) := by simpa using hx
      subst e; exact drw
  rw [k3] at S9 I9 ⊢
  have lw : fls.lookup ("ways" : Str) = some (.ref L) := by
    rw [← k3, lookup_putF, if_pos rfl]
  have lr : fls.lookup ("rows" : Str) = some (.ref rp) := by
    rw [← k3, lookup_putF, if_neg drw, lookup_putF, if_pos rfl]
  have pnew : ∀ a ∈ L :: inner, a ≠ p := fun a m e => by
    have := (f8.2 a m).2.1
    rw [e] at this
    have h' : H p = none := this
    rw [hp] at h'; cases h'
  have B9 : Bu P (M.T.cls 0) p dx L inner (List.replicate m.toNat []) fls G8 (upd H8 p (.ins (M.T.cls 0) dx fls)) :=
    ⟨I9.at_, I9.gp, I9.gd, by rw [upd_ne (pnew L List.mem_cons_self)]; exact oL, oI.stay (Ex.refl _) fun a m o e => by rw [upd_ne (pnew a (List.mem_cons_of_mem _ m))]; exact e, f8.1, fun a m => ⟨(f8.2 a m).1, (f8.2 a m).2.1⟩⟩
  have gr : G8 rp = some (.tup us) := e48 _ _ hr1
  have rr9 : RepL M.T G8 rows us := RepL.mono e48 _ _ hr2
  have lus := rr9.len
  refine ⟨_, rfl, p, M.T.cls 0, dx, fls, .ref rp, rfl, I9.at_, hc, n3, lr, rp, rfl, ⟨us, SqT.of (S9.gh _ _ gr)⟩, fun i mm σ' H' => mm = rows.length - i ∧ i ≤ rows.length ∧ ∃ ρ' G' w, Sim P ρ' th0 G' σ' H' ∧ ρ'.length = 8 ∧ σ'[0]? = some (some (.ref p)) ∧ Ex G8 G' ∧ Bu P (M.T.cls 0) p dx L inner w fls G' H' ∧ (∃ o, H' dx = some o) ∧ Lp Fu (rows.drop i) w (K0 rows),
    ⟨_, rfl, Nat.zero_le _, ρ0, G8, _, S9, rfl, rfl, Ex.refl _, B9, ⟨_, I9.ow⟩, hL⟩, ?_⟩
  rintro i mm σ' H' ⟨rfl, hi, ρ', G', w, S', lρ, hs0, e8, B, ow, hLp⟩
  have hrp : H' rp = some (.tup us) := S'.gh _ _ (e8 _ _ gr)
  by_cases hlt : i < rows.length
  · obtain ⟨d, hd'⟩ : ∃ d, rows[i]? = some d := ⟨_, List.getElem?_eq_getElem hlt⟩
    have hdrop : rows.drop i = d :: rows.drop (i + 1) := by
      rw [List.getElem?_eq_getElem hlt] at hd'; cases hd'
      exact List.drop_eq_getElem_cons hlt
    rw [hdrop] at hLp
    unfold Lp at hLp
    obtain ⟨na, nb, mv, wa, wb, rfl, hwa, hza, hwb, hzb, hcall⟩ := hLp
    refine .inr ⟨⟨us, us[i]'(by omega), SqT.of hrp, by simp⟩, fun σ'' H'' => i < rows.length ∧ ∃ ρ' G' w, Sim P ρ' th0 G' σ'' H'' ∧ ρ'.length = 8 ∧ σ''[0]? = some (some (.ref p)) ∧ Ex G8 G' ∧ Bu P (M.T.cls 0) p dx L inner w fls G' H'' ∧ (∃ o, H'' dx = some o) ∧ Lp Fu (rows.drop (i + 1)) w (K0 rows),
      fun σ'' H'' ⟨_, q⟩ => ⟨_, by omega, rfl, hlt, q⟩, fun x H'' hy => ?_⟩
    obtain ⟨rfl, hy⟩ := hy
    have hx := at_tup hrp hy
    obtain ⟨d2, hd2, rx⟩ := rr9.get' hx
    rw [hd'] at hd2; cases hd2
    have off : Off P (Tg.tp (.cons (.nm 5) (.cons (.nm 6) (.cons (.nm 7) .nil)))).slots := fun j _ m => by simp [P] at m
    refine ⟨ρ', th0, G', _, S', Rep.mono e8 _ _ rx, off, ?_⟩
    unfold take
    refine ⟨_, _, rfl, ?_⟩
    unfold take
    unfold take
    refine ⟨_, _, rfl, ?_⟩
    unfold take
    unfold take
    refine ⟨_, _, rfl, ?_⟩
    unfold take
    unfold take
    refine ⟨rfl, fun σ2 θ2 S2 t2 f2 l2 => ?_⟩
    obtain rfl : θ2 = th0 := funext fun i => (t2 i).elim id id
    have g5 : slOf (((ρ'.set 5 (some (.dat (.int na)))).set 6 (some (.dat (.int nb)))).set 7 (some (.dat mv))) 5 = some (.dat (.int na)) := by
      rw [slOf_set_ne (by decide), slOf_set_ne (by decide), slOf_set (by omega), if_pos rfl]
    have g6 : slOf (((ρ'.set 5 (some (.dat (.int na)))).set 6 (some (.dat (.int nb)))).set 7 (some (.dat mv))) 6 = some (.dat (.int nb)) := by
      rw [slOf_set_ne (by decide), slOf_set (by simp [lρ]), if_pos rfl]
    have g7 : slOf (((ρ'.set 5 (some (.dat (.int na)))).set 6 (some (.dat (.int nb)))).set 7 (some (.dat mv))) 7 = some (.dat mv) := by
      rw [slOf_set (by simp [lρ]), if_pos rfl]
    have l8 : (((ρ'.set 5 (some (.dat (.int na)))).set 6 (some (.dat (.int nb)))).set 7 (some (.dat mv))).length = 8 := by simp [lρ]
    generalize ((ρ'.set 5 (some (.dat (.int na)))).set 6 (some (.dat (.int nb)))).set 7 (some (.dat mv)) = ρ4 at S2 g5 g6 g7 l8
    have h20 : σ2[0]? = some (some (.ref p)) := (f2 0 (by simp [Tg.slots])).trans hs0
    have keep : ∀ {G1 H1 θ' G2 H2}, (∃ o, H1 dx = some o) → Stp th0 G1 H1 θ' G2 H2 → ∃ o, H2 dx = some o := fun ⟨o, e⟩ s => ⟨_, (s.h dx o e no0).1⟩
    have owd : ∀ {G2 H2}, Sim P ρ4 th0 G2 σ2 H2 → True := fun _ => trivial
    have kv1 : wE (.tup (.cons (.var 6) (.cons (.var 7) .nil))) ρ4 fun u ρ'' => ∃ e, u = .dat e ∧ ρ'' = ρ4 ∧ e = .tup [.int nb, mv] := by
      unfold wE wA wE wA wE wA
      rw [g6]; dsimp only
      rw [g7]; dsimp only
      exact ⟨by show 2 ≤ sizeLine; decide, _, rfl, rfl, rfl⟩
    have kv2 : wE (.tup (.cons (.var 5) (.cons (.call Fu (.cons (.var 7) .nil)) .nil))) ρ4 fun u ρ'' => ∃ e, u = .dat e ∧ ρ'' = ρ4 ∧ ∃ tv, e = .tup [.int na, tv] ∧ Lp Fu (rows.drop (i + 1)) ((w.set na (wa ++ [.tup [.int nb, mv]])).set nb (wb ++ [.tup [.int na, tv]])) (K0 rows) := by
      unfold wE wA wE wA wE wA wE wA
      rw [g5]; dsimp only
      rw [g7]; dsimp only
      refine callF_re (ds := [mv]) (ρ := ρ4) mu hcall fun r ⟨tv, e, q⟩ => ?_
      subst e
      exact ⟨by show 2 ≤ sizeLine; decide, _, rfl, rfl, tv, rfl, q⟩
    have h0' : ∃ o, P.H0 p = some o := ⟨_, hp⟩
    refine app_rd B S2 ow h0' (fun s => keep ow s) h20 lw hc n4 g5 hwa hza kv1 fun Ga Ha e1 xa Ba Sa oa da => ?_
    subst da
    refine app_rd Ba Sa oa h0' (fun s => keep oa s) h20 lw hc n4 g6 hwb hzb kv2 fun Gb Hb e2 xb Bb Sb ob' db => ?_
    obtain ⟨tv, rfl, hnext⟩ := db
    exact ⟨hlt, ρ4, Gb, _, Sb, l8, h20, e8.trans (xa.trans xb), Bb, ob', hnext⟩
  · have e : i = rows.length := by omega
    subst e
    rw [List.drop_length] at hLp
    refine .inl ⟨⟨us, SqT.of hrp, by omega⟩, ?_⟩
    have nn : ∀ a ∈ L :: inner, H a = none := fun a m => (B.fr a m).2
    have gG : Ex G' (grow G' H' (L :: inner)) := S'.gh.grow _
    have b8' : Ex G2 (grow G' H' (L :: inner)) := (((t4.g.trans t6.g).trans e48).trans e8).trans gG
    unfold Lp at hLp
    refine hLp (grow G' H' (L :: inner)) H' [y1, .int m, .ref rp, .ref L] (S'.g0.trans gG) (fun a _ o e => S'.gh.grown _ a o e) (fun a o e n1 n2 => ?_) (fun a e => S'.pe a e) ?_ ?_ ?_ ?_
    · have nm : a ∉ L :: inner := fun m => by rw [nn a m] at e; cases e
      have nA : a ∉ P.A0 := by simp [P, n1, n2]
      exact ⟨S'.fr a o e nA, by rw [grow_out nm]; exact S'.gs a o e nA⟩
    · rw [grow_out fun m => pnew p m rfl]; exact B.gp
    · rw [B.at_, hf]; rfl
    · rw [hf]; rfl
    · refine RepL.cons (Rep.mono b8' _ _ ry1) (RepL.cons Rep.int (RepL.cons (Rep.tup ((e8.trans gG) _ _ gr) (RepL.mono (e8.trans gG) _ _ rr9)) (RepL.cons (Rep.lst (by rw [grow_in List.mem_cons_self]; exact B.li) (B.re.frz gG fun a m o e => by rw [grow_in (List.mem_cons_of_mem _ m)]; exact e)) RepL.nil)))
theorem FnG.or {Pr : Program} {wd : World} {K : PySem.W.Frag} {mg : Str → Option Value} {base : Heap} {CX : CXT} {k : Nat} {f : Addr} {fd : FuncData} {ps : List Str} {sp sp' : Sp} (F : FnG Pr wd K mg base CX k f fd ps sp) (F' : FnG Pr wd K mg base CX k f fd ps sp') : FnG Pr wd K mg base CX k f fd ps fun vs H Q E => sp vs H Q E ∨ sp' vs H Q E :=
  ⟨fun vs H Q E q => q.elim (F.len vs H Q E) (F'.len vs H Q E), fun A out s H args us vs Q E hr hg he hb hv hs => hs.elim (F.go A out s H args us vs Q E hr hg he hb hv) (F'.go A out s H args us vs Q E hr hg he hb hv)⟩
/-- a constructor of three values, the last one a list of the caller's or one that never changes -/
def makeF3 (name : Str) (c : Nat) (pre pre' : List D → (List D → Prop) → Prop) (hp : ∀ ds Q Q', (∀ fs, Q fs → Q' fs) → pre ds Q → pre ds Q') (hp' : ∀ ds Q Q', (∀ fs, Q fs → Q' fs) → pre' ds Q → pre' ds Q') : Fn where
  name := name
  modes := [false, false, true]
  sp as Q := (∃ d1 d2 xs, as = [.dat d1, .dat d2, .own (.lst xs)] ∧ pre [d1, d2, .lst xs] fun fs => ∀ b1 b2, Q (.dat (.ins c fs)) [b1, b2, .own (.lst xs)]) ∨ (∃ d1 d2 d3, as = [.dat d1, .dat d2, .dat d3] ∧ pre' [d1, d2, d3] fun fs => ∀ b1 b2 b3, Q (.dat (.ins c fs)) [b1, b2, b3])
  mono as Q Q' h := fun x => x.imp (fun ⟨d1, d2, xs, h1, h3⟩ => ⟨d1, d2, xs, h1, hp _ _ _ (fun r q b1 b2 => h _ _ (q b1 b2)) h3⟩) (fun ⟨d1, d2, xs, h1, h3⟩ => ⟨d1, d2, xs, h1, hp' _ _ _ (fun r q b1 b2 b3 => h _ _ (q b1 b2 b3)) h3⟩)
theorem CallV.of_make3 {M : Mo} {k j c : Nat} {name : Str} {f : Addr} {fd : FuncData} {ps : List Str} {pre pre' : List D → (List D → Prop) → Prop} {hp : ∀ ds Q Q', (∀ fs, Q fs → Q' fs) → pre ds Q → pre ds Q'} {hp' : ∀ ds Q Q', (∀ fs, Q fs → Q' fs) → pre' ds Q → pre' ds Q'}
    (G : FnG M.prog M.w M.T.K M.mg M.base CX0 j f fd ps (fun vs H Q E => spIni2 M.T c pre vs H Q E ∨ spIni M.T c 3 pre' vs H Q E)) (hj : j + 1 ≤ k) (hmg : M.mg name = some (.ref (M.T.cls c))) (hk : Mk M.T.K (M.T.cls c) f) (hb : Binds M.T.K fd ps []) (db : (name == ("__debug__" : Str)) = false) : CallV M k (makeF3 name c pre pre' hp hp') where
  db := db
  zero := fun P X O hg p pos => by
    refine ⟨fun pins s σ H Q I h => ?_⟩
    exfalso
    obtain ⟨ρ, θ, G, S, h⟩ := h
    unfold wE wA callF at h
    exact h
  many := fun P X O hg e es ea p pos ha hs hpl => by
    refine impE (g_make (C := M.T.cls c) (dvs := []) (ds := []) (E := E0) (by rw [O.ek]; exact hk) (G.at O) (O.room.mono hj) O.o.g hg (by rw [O.mg]; exact hmg) (by rw [O.ek]; exact hb) .nil passes0 ha db hs hpl) fun σ H Q ⟨ρ, θ, G1, S, h⟩ => ?_
    unfold wE at h
    refine rdA_of S h fun ws ρ1 vs qss θ1 G1 H1 h1 s1 S1 r1 f1 n1 => ?_
    intro x dx hx hdx hne
    rw [List.append_nil]
    have sp := call_ok (E := E0) h1 s1 S1 r1 f1 n1
    obtain ⟨hl, G2, as, qss2, eg, md, ar, nd, gn, hsp⟩ := sp
    rw [O.T] at ar
    rcases hsp with ⟨d1, d2, xs, rfl, hq⟩ | ⟨d1, d2, d3, rfl, hq⟩
    case inr =>
      refine .inr ?_
      have hl' : vs.length = 3 := hl
      obtain ⟨rl, fl⟩ := RepAs.dats (ds := [d1, d2, d3]) ar
      obtain ⟨l1, l2⟩ := ar.len
      have g0 : G2 x = none := eg.none hx
      have g1 : G2 dx = none := eg.none hdx
      have x1 : Ex H1 (upd (upd H1 dx (.own x)) x (.ins (M.T.cls c) dx [])) := (Ex.new hdx).trans (Ex.new (by rw [upd_ne (Ne.symm hne)]; exact hx))
      refine ⟨by simp [hl'], x, dx, G2, vs, [d1, d2, d3], rfl, upd_same, by rw [upd_ne hne, upd_same], hne, eg.trans x1, g0, g1, rl, rfl, hp' _ _ _ (fun fs k G' H' us' e1 e2 e3 e4 e5 e6 e7 e8 => ⟨rfl, ?_⟩) hq⟩
      have eG : Ex G' (upd G' x (.ins (M.T.cls c) dx ((M.T.fld c).zip us'))) := Ex.new e5
      refine k (.dat .non) (.dat .non) (.dat .non) (.ref x) [] ([d1, d2, d3].map fun _ => []) (upd G' x (.ins (M.T.cls c) dx ((M.T.fld c).zip us'))) H' ⟨e1.trans eG, fun a o e => ?_, fun a o e _ => ?_, fun a e => ?_, RepBs.dats (ds := [d1, d2, d3]) (bs := [.dat .non, .dat .non, .dat .non]) hl' (by rw [l2]; rfl) rfl, fun a m => ?_, ⟨rfl, ?_⟩, List.nodup_nil, fun a m => by cases m⟩
      · by_cases z : a = x
        · subst z; rw [upd_same] at e; cases e; exact e6
        · rw [upd_ne z] at e; exact e2 a z o e
      · have nx : a ≠ x := ne_of_none e hx
        have ndx : a ≠ dx := ne_of_none e hdx
        obtain ⟨k1, k2⟩ := e3 a o (x1 a o e) nx ndx
        exact ⟨k1, by rw [upd_ne nx]; exact k2⟩
      · exact x1.none (e4 a e)
      · cases m
      · rw [O.T]
        exact Rep.ins upd_same e7 (RepL.mono eG _ _ e8)
    refine .inl ?_
    match vs, qss2, ar with
    | [v1, v2, v3], [qa, qb, qc], ⟨⟨ea', r1'⟩, ⟨eb', r2'⟩, ⟨q3, qr, eqc, ev3, hnil, us3, h3, r3⟩, _⟩ =>
    subst ea' eb' hnil
    subst eqc ev3
    have g0 : G2 x = none := eg.none hx
    have g1 : G2 dx = none := eg.none hdx
    have gq : G2 q3 = none := gn q3 (by simp)
    have nx3 : q3 ≠ x := fun z => by subst z; rw [hx] at h3; cases h3
    have nd3 : q3 ≠ dx := fun z => by subst z; rw [hdx] at h3; cases h3
    have x1 : Ex H1 (upd (upd H1 dx (.own x)) x (.ins (M.T.cls c) dx [])) := (Ex.new hdx).trans (Ex.new (by rw [upd_ne (Ne.symm hne)]; exact hx))
    refine ⟨rfl, x, dx, G2, v1, v2, q3, us3, d1, d2, xs, rfl, upd_same, by rw [upd_ne hne, upd_same], hne, eg.trans x1, g0, g1, r1', r2', x1 _ _ h3, gq, r3, nx3, nd3, hp _ _ _ (fun fs k G' H' us' us3' e1 e2 e3 e4 e5 eq1 eq2 eq3 e6 e7 e8 => ⟨rfl, ?_⟩) hq⟩
    have eG : Ex G' (upd G' x (.ins (M.T.cls c) dx ((M.T.fld c).zip us'))) := Ex.new e5
    refine k (.dat .non) (.dat .non) (.ref x) [] [[], [], [q3]] (upd G' x (.ins (M.T.cls c) dx ((M.T.fld c).zip us'))) H' ⟨e1.trans eG, fun a o e => ?_, fun a o e n => ?_, fun a e => ?_, ⟨rfl, rfl, ⟨rfl, q3, [], rfl, rfl, rfl, us3', eq2, ?_⟩, trivial⟩, fun a m => ?_, ⟨rfl, ?_⟩, List.nodup_nil, fun a m => by cases m⟩
    · by_cases z : a = x
      · subst z; rw [upd_same] at e; cases e; exact e6
      · rw [upd_ne z] at e; exact e2 a z o e
    · have nx : a ≠ x := ne_of_none e hx
      have ndx : a ≠ dx := ne_of_none e hdx
      have nq : a ≠ q3 := fun z => n (by subst z; simp)
      obtain ⟨k1, k2⟩ := e3 a o (x1 a o e) nx ndx nq
      exact ⟨k1, by rw [upd_ne nx]; exact k2⟩
    · exact x1.none (e4 a e)
    · rw [O.T]; exact RepL.mono eG _ _ eq3
    · have m : a = q3 := by simpa using m
      subst m
      rw [upd_ne nx3]; exact eq1
    · rw [O.T]
      exact Rep.ins upd_same e7 (RepL.mono eG _ _ e8)
end Cw
/-! Cw: reckoning over data. -/
namespace Cw
open PySem PySem.Spec PyProof.Rows L2

theorem slOf0 {w : Sl} {ρ : Ro} : slOf (some w :: ρ) 0 = some w := rfl
theorem slOfn {ρ : Ro} : slOf (none :: ρ) 0 = none := rfl
theorem slOfs {x : Option Sl} {ρ : Ro} {i : Nat} : slOf (x :: ρ) (i + 1) = slOf ρ i := by
  unfold slOf
  rw [List.getElem?_cons_succ]
/-- a comprehension whose turns each give at most one item -/
theorem lcg_fm {turn : D → List D → Ro → (List D → Ro → Prop) → Prop} {vs : List Nat} {g : Option (Nat × Ot)} {R : Ro} {f : D → Option D} {Q : List D → Ro → Prop} (hg : gdOk g R) : ∀ {ds acc : List D}, acc.length + ds.length ≤ sizeLine →
    (∀ d ∈ ds, ∀ (acc : List D) (K : List D → Ro → Prop), acc.length < sizeLine → (∀ ρ', wip ρ' vs = R → K (acc ++ (f d).toList) ρ') → turn d acc R K) → Q (acc ++ ds.filterMap f) R → lcg turn vs g ds acc R Q
  | [], acc, _, _, h => ⟨hg, by simpa using h⟩
  | d :: ds, acc, hl, ht, h => by
    have hl : acc.length + (ds.length + 1) ≤ sizeLine := hl
    refine ⟨hg, ht d List.mem_cons_self acc _ (by omega) fun ρ' e => ?_⟩
    rw [e]
    refine lcg_fm hg ?_ (fun d' m => ht d' (List.mem_cons_of_mem _ m)) ?_
    · rw [List.length_append]
      have : (f d).toList.length ≤ 1 := by cases f d <;> simp
      omega
    · rw [List.append_assoc]
      cases e : f d with
      | none => simpa [List.filterMap_cons, e] using h
      | some x => simpa [List.filterMap_cons, e] using h
theorem lcg_map {turn : D → List D → Ro → (List D → Ro → Prop) → Prop} {vs : List Nat} {g : Option (Nat × Ot)} {R : Ro} {f : D → D} {Q : List D → Ro → Prop} (hg : gdOk g R) {ds : List D} (hl : ds.length ≤ sizeLine)
    (ht : ∀ d ∈ ds, ∀ (acc : List D) (K : List D → Ro → Prop), acc.length < sizeLine → (∀ ρ', wip ρ' vs = R → K (acc ++ [f d]) ρ') → turn d acc R K) (h : Q (ds.map f) R) : lcg turn vs g ds [] R Q :=
  lcg_fm (f := fun d => some (f d)) hg (by simpa using hl) (fun d m acc K ha k => ht d m acc K ha fun ρ' e => by simpa using k ρ' e) (by simpa [List.filterMap_eq_map'] using h)
/-- a for statement by an invariant -/
theorem fors_inv {turn : D → Ro → En → Prop} (mono : ∀ d ρ D E, En.le D E → turn d ρ D → turn d ρ E) {Z : En} {all : List D} (I : Nat → Ro → Prop) (step : ∀ i d ρ, all[i]? = some d → I i ρ → turn d ρ { nx := I (i + 1), ct := I (i + 1), bk := Z.nx, rt := Z.rt }) (fin : ∀ ρ, I all.length ρ → Z.nx ρ) {ρ : Ro} (h : I 0 ρ) : fors turn Z all ρ := by
  have gen : ∀ (ds pre : List D) (ρ : Ro), all = pre ++ ds → I pre.length ρ → fors turn Z ds ρ := by
    intro ds
    induction ds with
    | nil =>
      intro pre ρ e h
      refine fin ρ ?_
      rw [e, List.append_nil]; exact h
    | cons d ds ih =>
      intro pre ρ e h
      have hd : all[pre.length]? = some d := by rw [e]; simp
      have e' : all = (pre ++ [d]) ++ ds := by rw [e]; simp
      have nx : ∀ ρ', I (pre.length + 1) ρ' → fors turn Z ds ρ' := fun ρ' h' => ih (pre ++ [d]) ρ' e' (by simpa using h')
      exact mono d ρ { nx := I (pre.length + 1), ct := I (pre.length + 1), bk := Z.nx, rt := Z.rt } { nx := fors turn Z ds, ct := fors turn Z ds, bk := Z.nx, rt := Z.rt } ⟨nx, fun _ _ q => q, fun _ q => q, nx⟩ (step _ d ρ hd h)
  exact gen all [] ρ rfl h
theorem for_mono {t : Tg} {b : Sm} : ∀ d ρ D E, En.le D E → (take t d ρ fun ρ4 => wS b D ρ4) → take t d ρ fun ρ4 => wS b E ρ4 := fun d ρ D E h x => take_mono (fun _ y => wS_mono b h y) x
/-- a while loop by a measure -/
theorem whls_inv {c : Ro → (Bool → Ro → Prop) → Prop} {body : Ro → En → Prop} (hc : ∀ ρ Q Q', (∀ b ρ, Q b ρ → Q' b ρ) → c ρ Q → c ρ Q') (hb : ∀ ρ D E, En.le D E → body ρ D → body ρ E) {Z : En} (I : Nat → Ro → Prop)
    (step : ∀ n ρ, I n ρ → c ρ fun b ρ1 => if b = true then body ρ1 { nx := fun ρ' => ∃ m, m < n ∧ I m ρ', ct := fun ρ' => ∃ m, m < n ∧ I m ρ', bk := Z.nx, rt := Z.rt } else Z.nx ρ1) : ∀ {n : Nat} {ρ : Ro}, I n ρ → ∀ N, n < N → whls c body Z N ρ := by
  have gen : ∀ N n ρ, I n ρ → n < N → whls c body Z N ρ := by
    intro N
    induction N with
    | zero => intro n ρ _ h; omega
    | succ N ih =>
      intro n ρ h hn
      refine hc _ _ _ (fun b ρ1 y => ?_) (step n ρ h)
      cases b with
      | false => exact y
      | true =>
        have nx : ∀ ρ', (∃ m, m < n ∧ I m ρ') → whls c body Z N ρ' := fun ρ' ⟨m, hm, hi⟩ => ih m ρ' hi (by omega)
        exact hb _ { nx := fun ρ' => ∃ m, m < n ∧ I m ρ', ct := fun ρ' => ∃ m, m < n ∧ I m ρ', bk := Z.nx, rt := Z.rt } { nx := whls c body Z N, ct := whls c body Z N, bk := Z.nx, rt := Z.rt } ⟨nx, fun _ _ q => q, fun _ q => q, nx⟩ y
  intro n ρ h N hN
  exact gen N n ρ h hN

/-! moves -/
def mv (xs : List Int) : D := .tup (xs.map .int)
def zipI (f : Int → Int → Int) (xs ys : List Int) : List Int := List.zipWith f xs ys
end Cw
/-! Cw: the parts of the language, one row each. -/
namespace Cw
open PySem PySem.Spec PyProof.Rows L2

section
variable {ρ : Ro} {Q : W → Ro → Prop} {QA : List W → Ro → Prop}
theorem e_var {i : Nat} {d : D} (h : slOf ρ i = some (.dat d)) : wE (.var i) ρ Q = Q (.dat d) ρ := by rw [wE, h]
theorem e_own {i : Nat} {t : Ot} (h : slOf ρ i = some (.own t)) : wE (.var i) ρ Q = Q (.brw i) ρ := by rw [wE, h]
theorem e_int {n : Int} : wE (.int n) ρ Q = Q (.dat (.int n)) ρ := by rw [wE]
theorem e_bl {n : Bool} : wE (.bl n) ρ Q = Q (.dat (.bl n)) ρ := by rw [wE]
theorem e_non : wE .non ρ Q = Q (.dat .non) ρ := by rw [wE]
theorem e_str {s : Str} : wE (.str s) ρ Q = Q (.dat (.str s)) ρ := by rw [wE]
theorem e_bin {op : Bop} {a b : E} : wE (.bin op a b) ρ Q = wE a ρ fun v ρ1 => wE b ρ1 fun w ρ2 => ∃ x y, cv ρ2 v = some x ∧ cv ρ2 w = some y ∧ bin op x y fun r => Q r ρ2 := by rw [wE]
theorem e_neg {a : E} : wE (.neg a) ρ Q = wE a ρ fun v ρ1 => ∃ i, cv ρ1 v = some (.dat (.int i)) ∧ Q (.dat (.int (-i))) ρ1 := by rw [wE]
theorem e_cmp {op : Cop} {a b : E} : wE (.cmp op a b) ρ Q = wE a ρ fun v ρ1 => wE b ρ1 fun w ρ2 => ∃ x y, cv ρ2 v = some x ∧ cv ρ2 w = some y ∧ cmp op x y fun r => Q (.dat (.bl r)) ρ2 := by rw [wE]
theorem e_chn {o p : Cop} {a b c : E} : wE (.chn o p a b c) ρ Q = wE a ρ fun v ρ1 => wE b ρ1 fun w ρ2 => ∃ x y, cv ρ2 v = some x ∧ cv ρ2 w = some y ∧ cmp o x y fun r =>
      if r = true then wE c ρ2 fun u ρ3 => ∃ y' z, cv ρ3 w = some y' ∧ cv ρ3 u = some z ∧ cmp p y' z fun r' => Q (.dat (.bl r')) ρ3 else Q (.dat (.bl false)) ρ2 := by rw [wE]
theorem e_and {a b : E} : wE (.and a b) ρ Q = wE a ρ fun v ρ1 => ∃ k, v = .dat (.bl k) ∧ if k = true then wE b ρ1 fun w ρ2 => ∃ k', w = .dat (.bl k') ∧ Q w ρ2 else Q (.dat (.bl false)) ρ1 := by rw [wE]
theorem e_or {a b : E} : wE (.or a b) ρ Q = wE a ρ fun v ρ1 => ∃ k, v = .dat (.bl k) ∧ if k = true then Q (.dat (.bl true)) ρ1 else wE b ρ1 fun w ρ2 => ∃ k', w = .dat (.bl k') ∧ Q w ρ2 := by rw [wE]
theorem e_not {a : E} : wE (.not a) ρ Q = wE a ρ fun v ρ1 => ∃ k, v = .dat (.bl k) ∧ Q (.dat (.bl (!k))) ρ1 := by rw [wE]
theorem e_ite {c a b : E} : wE (.ite c a b) ρ Q = wE c ρ fun v ρ1 => ∃ k, v = .dat (.bl k) ∧ if k = true then wE a ρ1 Q else wE b ρ1 Q := by rw [wE]
theorem e_tup {as : E} : wE (.tup as) ρ Q = wA as ρ fun ws ρ1 => frzs ws ρ1 fun ds ρ2 => ds.length ≤ sizeLine ∧ Q (.dat (.tup ds)) ρ2 := by rw [wE]
theorem e_lst {as : E} : wE (.lst as) ρ Q = wA as ρ fun ws ρ1 => frzs ws ρ1 fun ds ρ2 => ds.length ≤ sizeLine ∧ Q (.own (.lst ds)) ρ2 := by rw [wE]
theorem e_call {F : Fn} {as : E} : wE (.call F as) ρ Q = wA as ρ fun ws ρ1 => callF F ws ρ1 Q := by rw [wE]
theorem e_meth {F : Fn} {c : Nat} {a as : E} : wE (.meth F c a as) ρ Q = wE a ρ fun v ρ1 => ∃ fs, v = .dat (.ins c fs) ∧ wA as ρ1 fun ws ρ2 => callF F (v :: ws) ρ2 Q := by rw [wE]
theorem e_prop {F : Fn} {c : Nat} {a : E} : wE (.prop F c a) ρ Q = wE a ρ fun v ρ1 => ∃ fs, v = .dat (.ins c fs) ∧ callF F [v] ρ1 Q := by rw [wE]
theorem e_eqw {n : Bool} {F : Fn} {c : Nat} {a b : E} : wE (.eqw n F c a b) ρ Q = wE a ρ fun v ρ1 => wE b ρ1 fun w ρ2 => ∃ fs, v = .dat (.ins c fs) ∧ frz w ρ2 fun d ρ3 => noScr d = true ∧ callF F [v, .dat d] ρ3 fun r ρ4 => ∃ k, r = .dat (.bl k) ∧ Q (.dat (.bl (if n then !k else k))) ρ4 := by rw [wE]
theorem e_blt {b : Blt} {as : E} : wE (.blt b as) ρ Q = wA as ρ fun ws ρ1 => ∃ xs, cvs ρ1 ws = some xs ∧ blt b xs fun r => Q r ρ1 := by rw [wE]
theorem e_isa {a : E} {c : Ic} : wE (.isa a c) ρ Q = wE a ρ fun v ρ1 => ∃ x k, cv ρ1 v = some x ∧ isa x c = some k ∧ Q (.dat (.bl k)) ρ1 := by rw [wE]
theorem e_fld {c k : Nat} {a : E} : wE (.fld c k a) ρ Q = wE a ρ fun v ρ1 => ∃ fs d, v = .dat (.ins c fs) ∧ fs[k]? = some d ∧ Q (.dat d) ρ1 := by rw [wE]
theorem e_idx {a b : E} : wE (.idx a b) ρ Q = wE a ρ fun v ρ1 => wE b ρ1 fun w ρ2 => ∃ y, cv ρ2 w = some y ∧ idx v ρ2 y fun r => Q r ρ2 := by rw [wE]
theorem a_nil' : wA .nil ρ QA = QA [] ρ := by rw [wA]
theorem a_cons' {a r : E} : wA (.cons a r) ρ QA = wE a ρ fun v ρ1 => wA r ρ1 fun vs ρ2 => QA (v :: vs) ρ2 := by rw [wA]
end
/-- [e for t in ..]: item by item -/
theorem w_lc {vs : List Nat} {t : Tg} {k : Ik} {as e : E} {ρ : Ro} {Q : W → Ro → Prop} (f : D → D) (h : wA as ρ fun ws ρ1 => walkZ false k ws ρ1 fun s ρ2 => gdOk s.gd (wip ρ2 vs) ∧ s.items.length ≤ sizeLine ∧
    (∀ d ∈ s.items, take t d (wip ρ2 vs) fun ρ4 => wE e ρ4 fun y ρ6 => frz y ρ6 fun d' ρ7 => d' = f d ∧ wip ρ7 vs = wip ρ2 vs) ∧ Q (.own (.lst (s.items.map f))) (unwip ρ2 vs (wip ρ2 vs))) : wE (.lc vs t k as (.bl true) e) ρ Q := by
  unfold wE
  refine wA_mono as _ _ _ (fun ws ρ1 h => walkZ_mono (fun s ρ2 h => ?_) h) h
  obtain ⟨hg, hl, ht, hq⟩ := h
  refine lcg_map (f := f) hg hl (fun d m acc K ha k => take_mono (fun ρ4 q => ?_) (ht d m)) hq
  rw [e_bl]
  refine ⟨true, rfl, ?_⟩
  rw [if_pos rfl]
  exact wE_mono e _ _ _ (fun y ρ6 q => frz_mono (fun d' ρ7 z => ⟨ha, by rw [z.1]; exact k ρ7 z.2⟩) q) q
/-- [e for t in .. if c] -/
theorem w_lcf {vs : List Nat} {t : Tg} {k : Ik} {as c e : E} {ρ : Ro} {Q : W → Ro → Prop} (f : D → Option D) (h : wA as ρ fun ws ρ1 => walkZ false k ws ρ1 fun s ρ2 => gdOk s.gd (wip ρ2 vs) ∧ s.items.length ≤ sizeLine ∧
    (∀ d ∈ s.items, take t d (wip ρ2 vs) fun ρ4 => wE c ρ4 fun v ρ5 => ∃ j, v = .dat (.bl j) ∧ if j = true then wE e ρ5 fun y ρ6 => frz y ρ6 fun d' ρ7 => f d = some d' ∧ wip ρ7 vs = wip ρ2 vs else f d = none ∧ wip ρ5 vs = wip ρ2 vs) ∧ Q (.own (.lst (s.items.filterMap f))) (unwip ρ2 vs (wip ρ2 vs))) : wE (.lc vs t k as c e) ρ Q := by
  unfold wE
  refine wA_mono as _ _ _ (fun ws ρ1 h => walkZ_mono (fun s ρ2 h => ?_) h) h
  obtain ⟨hg, hl, ht, hq⟩ := h
  refine lcg_fm (f := f) hg (by simpa using hl) (fun d m acc K ha k => take_mono (fun ρ4 q => ?_) (ht d m)) (by simpa using hq)
  refine wE_mono c _ _ _ (fun v ρ5 ⟨j, e1, q⟩ => ⟨j, e1, ?_⟩) q
  cases j with
  | true =>
    rw [if_pos rfl] at q ⊢
    exact wE_mono e _ _ _ (fun y ρ6 q => frz_mono (fun d' ρ7 z => ⟨ha, by have := k ρ7 z.2; rw [z.1] at this; exact this⟩) q) q
  | false =>
    rw [if_neg Bool.false_ne_true] at q ⊢
    have := k ρ5 q.2
    rw [q.1] at this
    simpa using this
end Cw
/-! Cw: rows of whole numbers, their order, their keys. -/
namespace Cw
open PySem PySem.Spec PyProof.Rows L2

/-- rows of one length, in the order of their first differing number -/
inductive LexLt : List Int → List Int → Prop where
  | here {a b : Int} {xs ys : List Int} (h : a < b) (l : xs.length = ys.length) : LexLt (a :: xs) (b :: ys)
  | there {a : Int} {xs ys : List Int} (h : LexLt xs ys) : LexLt (a :: xs) (a :: ys)
theorem LexLt.len {xs ys : List Int} (h : LexLt xs ys) : xs.length = ys.length := by
  induction h with
  | here _ l => simp [l]
  | there _ ih => simp [ih]
theorem LexLt.irr : ∀ {xs : List Int}, ¬ LexLt xs xs := by
  intro xs
  induction xs with
  | nil => intro h; cases h
  | cons x xs ih =>
    intro h
    cases h with
    | here h => exact absurd h (Int.lt_irrefl _)
    | there h => exact ih h
theorem LexLt.trans {xs ys zs : List Int} (h : LexLt xs ys) : LexLt ys zs → LexLt xs zs := by
  induction h generalizing zs with
  | here h l =>
    intro k
    cases k with
    | here k l' => exact .here (Int.lt_trans h k) (l.trans l')
    | there k => exact .here h (l.trans k.len)
  | there h ih =>
    intro k
    cases k with
    | here k l' => exact .here k (h.len.trans l')
    | there k => exact .there (ih k)
theorem LexLt.tri : ∀ {xs ys : List Int}, xs.length = ys.length → LexLt xs ys ∨ xs = ys ∨ LexLt ys xs
  | [], [], _ => .inr (.inl rfl)
  | x :: xs, y :: ys, h => by
    have hl : xs.length = ys.length := by simpa using h
    rcases Int.lt_trichotomy x y with q | q | q
    · exact .inl (.here q hl)
    · subst q
      rcases LexLt.tri hl with k | k | k
      · exact .inl (.there k)
      · exact .inr (.inl (by rw [k]))
      · exact .inr (.inr (.there k))
    · exact .inr (.inr (.here q hl.symm))
/-- a row's key -/
def keyR (least many : Int) : Int → List Int → Int
  | k, [] => k
  | k, x :: xs => keyR least many (k * many + x - least) xs
theorem keyR_acc {least many : Int} : ∀ (xs : List Int) (k : Int), keyR least many k xs = k * many ^ xs.length + keyR least many 0 xs
  | [], k => by simp [keyR]
  | x :: xs, k => by
    unfold keyR
    rw [keyR_acc xs (k * many + x - least), keyR_acc xs (0 * many + x - least)]
    rw [List.length_cons, Int.pow_succ]
    have e : (k * many + x - least) * many ^ xs.length = k * (many ^ xs.length * many) + (0 * many + x - least) * many ^ xs.length := by
      rw [Int.zero_mul, Int.zero_add, Int.add_sub_assoc, Int.add_mul, Int.mul_assoc, Int.mul_comm many]
    omega
theorem keyR_bd {least many : Int} : ∀ (xs : List Int), (∀ x ∈ xs, least ≤ x ∧ x < least + many) → 0 ≤ keyR least many 0 xs ∧ keyR least many 0 xs < many ^ xs.length
  | [], _ => by simp [keyR]
  | x :: xs, h => by
    obtain ⟨h1, h2⟩ := h x List.mem_cons_self
    obtain ⟨k1, k2⟩ := keyR_bd xs fun y m => h y (List.mem_cons_of_mem _ m)
    unfold keyR
    rw [keyR_acc, Int.zero_mul, Int.zero_add]
    have p : 0 ≤ many ^ xs.length := by omega
    have a1 : 0 ≤ (x - least) * many ^ xs.length := Int.mul_nonneg (by omega) p
    have a2 : (x - least) * many ^ xs.length ≤ (many - 1) * many ^ xs.length := Int.mul_le_mul_of_nonneg_right (by omega) p
    rw [List.length_cons, Int.pow_succ, Int.mul_comm (many ^ xs.length) many]
    have a3 : (many - 1) * many ^ xs.length = many * many ^ xs.length - many ^ xs.length := by rw [Int.sub_mul, Int.one_mul]
    omega
theorem keyR_lt {least many : Int} {xs ys : List Int} (h : LexLt xs ys) : (∀ x ∈ xs, least ≤ x ∧ x < least + many) → (∀ x ∈ ys, least ≤ x ∧ x < least + many) → keyR least many 0 xs < keyR least many 0 ys := by
  induction h with
  | @here a b xs ys h l =>
    intro hx hy
    obtain ⟨k1, k2⟩ := keyR_bd xs fun y m => hx y (List.mem_cons_of_mem _ m)
    obtain ⟨k3, k4⟩ := keyR_bd ys fun y m => hy y (List.mem_cons_of_mem _ m)
    unfold keyR
    rw [keyR_acc xs, keyR_acc ys, Int.zero_mul, Int.zero_add, Int.zero_add, ← l]
    have p : 0 ≤ many ^ xs.length := by omega
    have a2 : (a - least + 1) * many ^ xs.length ≤ (b - least) * many ^ xs.length := Int.mul_le_mul_of_nonneg_right (by omega) p
    rw [Int.add_mul, Int.one_mul] at a2
    omega
  | @there a xs ys h ih =>
    intro hx hy
    have := ih (fun y m => hx y (List.mem_cons_of_mem _ m)) fun y m => hy y (List.mem_cons_of_mem _ m)
    unfold keyR
    rw [keyR_acc xs, keyR_acc ys, ← h.len]
    omega
/-- the ordered rows are told by their set -/
theorem lex_uniq : ∀ {S S' : List (List Int)}, S.Pairwise LexLt → S'.Pairwise LexLt → (∀ r, r ∈ S ↔ r ∈ S') → S = S'
  | [], [], _, _, _ => rfl
  | [], r :: S', _, _, h => absurd ((h r).mpr List.mem_cons_self) (by simp)
  | r :: S, [], _, _, h => absurd ((h r).mp List.mem_cons_self) (by simp)
  | r :: S, r' :: S', p, p', h => by
    obtain ⟨p1, p2⟩ := List.pairwise_cons.mp p
    obtain ⟨q1, q2⟩ := List.pairwise_cons.mp p'
    have e : r = r' := by
      rcases List.mem_cons.mp ((h r).mp List.mem_cons_self) with e | m
      · exact e
      · rcases List.mem_cons.mp ((h r').mpr List.mem_cons_self) with e | m'
        · exact e.symm
        · exact absurd ((p1 _ m').trans (q1 _ m)) LexLt.irr
    subst e
    have : S = S' := lex_uniq p2 q2 fun x => by
      constructor
      · intro m
        rcases List.mem_cons.mp ((h x).mp (List.mem_cons_of_mem _ m)) with e | m'
        · subst e; exact absurd (p1 _ m) LexLt.irr
        · exact m'
      · intro m
        rcases List.mem_cons.mp ((h x).mpr (List.mem_cons_of_mem _ m)) with e | m'
        · subst e; exact absurd (q1 _ m) LexLt.irr
        · exact m'
    rw [this]
end Cw
/-! Cw: comprehensions of two clauses, over data. -/
namespace Cw
open PySem PySem.Spec PyProof.Rows L2

theorem lcg_app {turn : D → List D → Ro → (List D → Ro → Prop) → Prop} {vs : List Nat} {g : Option (Nat × Ot)} {R : Ro} {f : D → List D} {Q : List D → Ro → Prop} (hg : gdOk g R) : ∀ {ds acc : List D}, acc.length + (ds.flatMap f).length ≤ sizeLine →
    (∀ d ∈ ds, ∀ (acc : List D) (K : List D → Ro → Prop), acc.length + (f d).length ≤ sizeLine → (∀ ρ', wip ρ' vs = R → K (acc ++ f d) ρ') → turn d acc R K) → Q (acc ++ ds.flatMap f) R → lcg turn vs g ds acc R Q
  | [], acc, _, _, h => ⟨hg, by simpa using h⟩
  | d :: ds, acc, hl, ht, h => by
    rw [List.flatMap_cons, List.length_append] at hl
    refine ⟨hg, ht d List.mem_cons_self acc _ (by omega) fun ρ' e => ?_⟩
    rw [e]
    refine lcg_app hg ?_ (fun d' m => ht d' (List.mem_cons_of_mem _ m)) ?_
    · rw [List.length_append]; omega
    · rw [List.append_assoc, ← List.flatMap_cons]; exact h
/-- [e for t in .. for t1 in ..] -/
theorem w_lc2 {vs vs1 : List Nat} {t t1 : Tg} {k k1 : Ik} {as as1 e : E} {ρ : Ro} {Q : W → Ro → Prop} (f : D → List D) (h : wA as ρ fun ws ρ1 => walkZ false k ws ρ1 fun s ρ2 => gdOk s.gd (wip ρ2 vs) ∧ (s.items.flatMap f).length ≤ sizeLine ∧
    (∀ d ∈ s.items, take t d (wip ρ2 vs) fun ρ4 => wA as1 ρ4 fun ws1 ρ5 => walkZ false k1 ws1 ρ5 fun s1 ρ6 => gdOk s1.gd (wip ρ6 vs1) ∧ wip (wip ρ6 vs1) vs = wip ρ2 vs ∧
      ∃ g : D → D, s1.items.map g = f d ∧ ∀ d1 ∈ s1.items, take t1 d1 (wip ρ6 vs1) fun ρ8 => wE e ρ8 fun y ρ9 => frz y ρ9 fun d' ρ10 => d' = g d1 ∧ wip ρ10 vs1 = wip ρ6 vs1) ∧ Q (.own (.lst (s.items.flatMap f))) (unwip ρ2 vs (wip ρ2 vs))) : wE (.lc2 vs vs1 t k as t1 k1 as1 e) ρ Q := by
  rw [wE]
  refine wA_mono as _ _ _ (fun ws ρ1 h => walkZ_mono (fun s ρ2 h => ?_) h) h
  obtain ⟨hg, hl, ht, hq⟩ := h
  refine lcg_app (f := f) hg (by simpa using hl) (fun d m acc K ha kk => take_mono (fun ρ4 q => ?_) (ht d m)) (by simpa using hq)
  refine wA_mono as1 _ _ _ (fun ws1 ρ5 q => walkZ_mono (fun s1 ρ6 q => ?_) q) q
  obtain ⟨g1, e1, g, e2, q⟩ := q
  have hlen : s1.items.length = (f d).length := by rw [← e2, List.length_map]
  refine lcg_fm (f := fun d1 => some (g d1)) g1 (by omega) (fun d1 m1 acc1 K1 ha1 k1 => take_mono (fun ρ8 z => wE_mono e _ _ _ (fun y ρ9 z => frz_mono (fun d' ρ10 z => ⟨ha1, by rw [z.1]; simpa using k1 ρ10 z.2⟩) z) z) (q d1 m1)) ?_
  have e3 : s1.items.filterMap (fun d1 => some (g d1)) = f d := by rw [← e2, List.filterMap_eq_map']
  rw [e3]
  exact kk _ e1
/-- [e for t in d], d a dict: by its keys -/
theorem w_lk {vs : List Nat} {t : Tg} {i : Nat} {e : E} {ρ : Ro} {Q : W → Ro → Prop} (f : D → D) (h : ∃ ks ds, slOf ρ i = some (.own (.dk ks ds)) ∧ ks.length ≤ sizeLine ∧
    (∀ k ∈ ks, take t (kD k) (wip (ρ.set i none) vs) fun ρ4 => wE e ρ4 fun y ρ6 => frz y ρ6 fun d' ρ7 => d' = f (kD k) ∧ wip ρ7 vs = wip (ρ.set i none) vs) ∧ Q (.own (.lst ((ks.map kD).map f))) ((unwip (ρ.set i none) vs (wip (ρ.set i none) vs)).set i (some (.own (.dk ks ds))))) : wE (.lk vs t i (.bl true) e) ρ Q := by
  obtain ⟨ks, ds, e1, hl, ht, hq⟩ := h
  rw [wE]
  refine ⟨ks, ds, e1, lcg_map (g := none) (f := f) trivial (by simpa using hl) (fun d m acc K ha k => ?_) hq⟩
  obtain ⟨kk, mk, rfl⟩ := List.mem_map.mp m
  refine take_mono (fun ρ4 q => ?_) (ht kk mk)
  rw [e_bl]
  refine ⟨true, rfl, ?_⟩
  rw [if_pos rfl]
  exact wE_mono e _ _ _ (fun y ρ6 q => frz_mono (fun d' ρ7 z => ⟨ha, by rw [z.1]; exact k ρ7 z.2⟩) q) q
end Cw
/-! Cw: in_order. -/
namespace Cw
open PySem PySem.Spec PyProof.Rows L2

section
variable {D : En} {ρ : Ro}
theorem s_cons' {a r : Sm} : wS (.cons a r) D ρ = wS a { D with nx := fun ρ1 => wS r D ρ1 } ρ := by rw [wS]
theorem s_nil' : wS .nil D ρ = D.nx ρ := by rw [wS]
theorem s_asgn {i : Nat} {e : E} : wS (.asg (.nm i) e) D ρ = wE e ρ fun w ρ1 => putAll [i] [w] ρ1 D.nx := by rw [wS]
theorem s_ret' {e : E} : wS (.ret e) D ρ = wE e ρ D.rt := by rw [wS]
theorem s_ite' {c : E} {a b : Sm} : wS (.ite c a b) D ρ = wE c ρ fun v ρ1 => ∃ k, v = .dat (.bl k) ∧ if k = true then wS a D ρ1 else wS b D ρ1 := by rw [wS]
theorem s_for' {t : Tg} {k : Ik} {as : E} {b : Sm} : wS (.for t k as b) D ρ = wA as ρ fun ws ρ1 => walkZ true k ws ρ1 fun s ρ2 => s.gd = none ∧ fors (fun d ρ3 D1 => take t d ρ3 fun ρ4 => wS b D1 ρ4) D s.items ρ2 := by rw [wS]
theorem s_setd' {i : Nat} {a e : E} : wS (.setd i a e) D ρ = wE e ρ fun w ρ1 => frz w ρ1 fun d ρ2 => isO ρ2 i ∧ wE a ρ2 fun x ρ3 => frz x ρ3 fun kd ρ4 =>
      (∃ ks ds k, slOf ρ4 i = some (.own (.dk ks ds)) ∧ keyOf kd = some k ∧ ks.length < sizeLine ∧ D.nx (ρ4.set i (some (.own (.dk (putK ks ds k d).1 (putK ks ds k d).2))))) ∨
      (∃ ks ds k, slOf ρ4 i = some (.own (.dt ks ds)) ∧ tkeyOf kd = some k ∧ ks.length < sizeLine ∧ D.nx (ρ4.set i (some (.own (.dt (putK ks ds k d).1 (putK ks ds k d).2))))) := by rw [wS]
end
theorem b_add {i j : Int} {Q : W → Prop} : bin .add (.dat (.int i)) (.dat (.int j)) Q = Q (.dat (.int (i + j))) := rfl
theorem b_sub {i j : Int} {Q : W → Prop} : bin .sub (.dat (.int i)) (.dat (.int j)) Q = Q (.dat (.int (i - j))) := rfl
theorem b_mul {i j : Int} {Q : W → Prop} : bin .mul (.dat (.int i)) (.dat (.int j)) Q = (CMulW i j ∧ Q (.dat (.int (i * j)))) := rfl
theorem b_fdiv {i j : Int} {Q : W → Prop} : bin .fdiv (.dat (.int i)) (.dat (.int j)) Q = (CDivW i j ∧ Q (.dat (.int (i / j)))) := rfl
theorem b_mod {i j : Int} {Q : W → Prop} : bin .mod (.dat (.int i)) (.dat (.int j)) Q = (0 < j ∧ Q (.dat (.int (i % j)))) := rfl
theorem b_pow {i j : Int} {Q : W → Prop} : bin .pow (.dat (.int i)) (.dat (.int j)) Q = (CPowW i j ∧ Q (.dat (.int (i ^ j.toNat)))) := rfl
theorem intsOf_map : ∀ (ns : List Int), intsOf (ns.map .int) = some ns
  | [] => rfl
  | n :: ns => by simp [intsOf, intsOf_map ns]
/-- rows of n numbers each, all below 2^B in size -/
structure RowsOk (rs : List (List Int)) (n B : Nat) : Prop where
  len : ∀ r ∈ rs, r.length = n
  bd : ∀ r ∈ rs, ∀ x ∈ r, -(2 ^ B : Int) ≤ x ∧ x ≤ 2 ^ B
  sm : (n + 2) * (B + 3) ≤ 400000
  cnt : rs.flatten.length + 1 ≤ sizeLine
  cn2 : rs.length < sizeLine
def b_in_order : Sm := (.cons (.asg (.nm 1) (.lc2 [5, 7] [7] (.nm 5) .seq (.cons (.var 0) .nil) (.nm 7) .seq (.cons (.var 5) .nil) (.var 7))) (.cons (.asg (.nm 2) (.blt .min (.cons (.bin .add (.lst (.cons (.int 0) .nil)) (.lc [7] (.nm 7) .seq (.cons (.var 1) .nil) (.bl true) (.blt .int (.cons (.var 7) .nil)))) .nil))) (.cons (.asg (.nm 3) (.bin .add (.bin .sub (.blt .max (.cons (.bin .add (.lst (.cons (.int 0) .nil)) (.lc [7] (.nm 7) .seq (.cons (.var 1) .nil) (.bl true) (.blt .int (.cons (.var 7) .nil)))) .nil)) (.var 2)) (.int 1))) (.cons (.asg (.nm 4) .dnew) .nil))))
theorem flat_mv (rs : List (List Int)) : (rs.map mv).flatMap (fun d => match d with | .tup xs => xs | _ => []) = rs.flatten.map .int := by
  induction rs with
  | nil => rfl
  | cons r rs ih => simp [List.flatMap_cons, ih, mv]
theorem w_ord {rs : List (List Int)} {n B : Nat} (ok : RowsOk rs n B) {D : En} (h : D.nx [some (.dat (.lst (rs.map mv))), some (.own (.lst (rs.flatten.map .int))), none, none, none, none, none, none]) :
    wS (.asg (.nm 1) (.lc2 [5, 7] [7] (.nm 5) .seq (.cons (.var 0) .nil) (.nm 7) .seq (.cons (.var 5) .nil) (.var 7))) D [some (.dat (.lst (rs.map mv))), none, none, none, none, none, none, none] := by
  rw [s_asgn]
  refine w_lc2 (fun d => match d with | .tup xs => xs | _ => []) ?_
  rw [a_cons', e_var rfl, a_nil']
  refine ⟨trivial, ?_, fun d hd => ?_, ?_⟩
  · show ((rs.map mv).flatMap _).length ≤ _
    rw [flat_mv, List.length_map]
    have := ok.cnt
    omega
  · obtain ⟨r, hr, rfl⟩ := List.mem_map.mp hd
    show wA _ [_, _, _, _, _, some (.dat (mv r)), _, _] _
    rw [a_cons', e_var rfl, a_nil']
    refine ⟨trivial, rfl, id, ?_, fun d1 hd1 => ?_⟩
    · show List.map id _ = _
      simp [mv]
    · show wE _ [_, _, _, _, _, _, _, some (.dat d1)] _
      rw [e_var rfl]
      exact ⟨rfl, rfl⟩
  · show D.nx [some (.dat (.lst (rs.map mv))), some (.own (.lst ((rs.map mv).flatMap _))), none, none, none, none, none, none]
    rw [flat_mv]
    exact h
/-- [0] + [int(number) for number in numbers] -/
theorem w_nums {ns : List Int} {ρ : Ro} {Q : W → Ro → Prop} (hl : ns.length + 1 ≤ sizeLine) (h1 : slOf ρ 1 = some (.own (.lst (ns.map .int)))) (h7 : wip ρ [7] = ρ) (hu : unwip ρ [7] ρ = ρ) (l8 : 7 < ρ.length) (h : Q (.own (.lst ((0 :: ns).map .int))) ρ) :
    wE (.bin .add (.lst (.cons (.int 0) .nil)) (.lc [7] (.nm 7) .seq (.cons (.var 1) .nil) (.bl true) (.blt .int (.cons (.var 7) .nil)))) ρ Q := by
  rw [e_bin, e_lst, a_cons', e_int, a_nil']
  refine ⟨by show 1 ≤ sizeLine; decide, ?_⟩
  refine w_lc id ?_
  rw [a_cons', e_own h1, a_nil']
  unfold Cw.walkZ Cw.walk srcOf
  dsimp only
  rw [h1]
  dsimp only
  rw [h7]
  refine ⟨h1, by simp; omega, fun d hd => ?_, ?_⟩
  · obtain ⟨x, hx, rfl⟩ := List.mem_map.mp hd
    unfold take
    dsimp only
    rw [e_blt, a_cons', e_var (d := .int x) (by rw [slOf_set l8, if_pos rfl]), a_nil']
    refine ⟨_, rfl, ?_⟩
    refine ⟨rfl, ?_⟩
    unfold wip wip
    rw [List.set_set]
    have := h7
    unfold wip wip at this
    exact this
  · rw [hu]
    refine ⟨_, _, rfl, rfl, ?_⟩
    show _ ∧ Q _ ρ
    refine ⟨by simp; omega, ?_⟩
    simpa using h
theorem w_least {ns : List Int} {ρ : Ro} {D : En} (hl : ns.length + 1 ≤ sizeLine) (h1 : slOf ρ 1 = some (.own (.lst (ns.map .int)))) (h7 : wip ρ [7] = ρ) (hu : unwip ρ [7] ρ = ρ) (l8 : 7 < ρ.length) (h : ∀ m, m ∈ 0 :: ns → (∀ y, y ∈ 0 :: ns → m ≤ y) → D.nx (ρ.set 2 (some (.dat (.int m))))) :
    wS (.asg (.nm 2) (.blt .min (.cons (.bin .add (.lst (.cons (.int 0) .nil)) (.lc [7] (.nm 7) .seq (.cons (.var 1) .nil) (.bl true) (.blt .int (.cons (.var 7) .nil)))) .nil))) D ρ := by
  rw [s_asgn, e_blt, a_cons']
  refine w_nums hl h1 h7 hu l8 ?_
  rw [a_nil']
  exact ⟨_, rfl, _, 0 :: ns, rfl, intsOf_map _, by simp, fun m h2 h3 => h m h2 h3⟩
theorem w_many {ns : List Int} {ρ : Ro} {D : En} {least : Int} (hl : ns.length + 1 ≤ sizeLine) (h1 : slOf ρ 1 = some (.own (.lst (ns.map .int)))) (h2 : slOf ρ 2 = some (.dat (.int least))) (h7 : wip ρ [7] = ρ) (hu : unwip ρ [7] ρ = ρ) (l8 : 7 < ρ.length) (h : ∀ m, m ∈ 0 :: ns → (∀ y, y ∈ 0 :: ns → y ≤ m) → D.nx (ρ.set 3 (some (.dat (.int (m - least + 1)))))) :
    wS (.asg (.nm 3) (.bin .add (.bin .sub (.blt .max (.cons (.bin .add (.lst (.cons (.int 0) .nil)) (.lc [7] (.nm 7) .seq (.cons (.var 1) .nil) (.bl true) (.blt .int (.cons (.var 7) .nil)))) .nil)) (.var 2)) (.int 1))) D ρ := by
  rw [s_asgn, e_bin, e_bin, e_blt, a_cons']
  refine w_nums hl h1 h7 hu l8 ?_
  rw [a_nil']
  refine ⟨_, rfl, _, 0 :: ns, rfl, intsOf_map _, by simp, fun m h3 h4 => ?_⟩
  show wE (.var 2) ρ _
  rw [e_var h2]
  refine ⟨_, _, rfl, rfl, ?_⟩
  rw [b_sub, e_int]
  exact ⟨_, _, rfl, rfl, h m h3 h4⟩
end Cw
/-! Cw: in_order, the keys. -/
namespace Cw
open PySem PySem.Spec PyProof.Rows L2

def b_key : Sm := .cons (.asg (.nm 6) (.bin .sub (.bin .add (.bin .mul (.var 6) (.var 3)) (.var 7)) (.var 2))) .nil
theorem w_key {Z : En} {a b f r : Option Sl} {least many : Int} : ∀ (xs : List Int) (k : Int) (s7 : Option Sl), (∀ i, i < xs.length → CMulW (keyR least many k (xs.take i)) many) →
    (∀ s7', Z.nx [a, b, some (.dat (.int least)), some (.dat (.int many)), f, r, some (.dat (.int (keyR least many k xs))), s7']) →
    fors (fun d ρ3 D1 => take (.nm 7) d ρ3 fun ρ4 => wS b_key D1 ρ4) Z (xs.map .int) [a, b, some (.dat (.int least)), some (.dat (.int many)), f, r, some (.dat (.int k)), s7]
  | [], k, s7, _, h => h s7
  | x :: xs, k, s7, hm, h => by
    show wS b_key _ [a, b, some (.dat (.int least)), some (.dat (.int many)), f, r, some (.dat (.int k)), some (.dat (.int x))]
    unfold b_key
    rw [s_cons', s_asgn, e_bin, e_bin, e_bin, e_var rfl, e_var rfl]
    refine ⟨_, _, rfl, rfl, ?_⟩
    rw [b_mul]
    refine ⟨hm 0 (by simp), ?_⟩
    rw [e_var rfl]
    refine ⟨_, _, rfl, rfl, ?_⟩
    rw [b_add, e_var rfl]
    refine ⟨_, _, rfl, rfl, ?_⟩
    rw [b_sub]
    show wS .nil _ [a, b, some (.dat (.int least)), some (.dat (.int many)), f, r, some (.dat (.int (k * many + x - least))), some (.dat (.int x))]
    rw [s_nil']
    exact w_key xs (k * many + x - least) _ (fun i hi => hm (i + 1) (by simpa using hi)) h
theorem log_le {z : Int} {k : Nat} (h0 : 0 ≤ z) (h : z < 2 ^ k) : z.natAbs.log2 ≤ k := by
  have h1 : z.natAbs < 2 ^ k := by
    have e : (z.natAbs : Int) = z := Int.natAbs_of_nonneg h0
    have : (z.natAbs : Int) < ((2 ^ k : Nat) : Int) := by rw [e]; simpa using h
    exact Int.ofNat_lt.mp this
  by_cases z0 : z.natAbs = 0
  · rw [z0]; simp
  · exact Nat.le_of_lt ((Nat.log2_lt z0).mpr h1)
theorem key_mul {least many : Int} {xs : List Int} {n B : Nat} (hb : ∀ x ∈ xs, least ≤ x ∧ x < least + many) (h0 : 0 < many) (hm : many < 2 ^ (B + 3)) (hl : xs.length ≤ n) (sm : (n + 2) * (B + 3) ≤ 400000) : ∀ i, i < xs.length → CMulW (keyR least many 0 (xs.take i)) many := fun i hi => by
  have hb' : ∀ x ∈ xs.take i, least ≤ x ∧ x < least + many := fun x m => hb x (List.mem_of_mem_take m)
  obtain ⟨k1, k2⟩ := keyR_bd (xs.take i) hb'
  have li : (xs.take i).length = i := by rw [List.length_take]; omega
  rw [li] at k2
  have p : many ^ i ≤ (2 ^ (B + 3)) ^ i := by
    have : ∀ j : Nat, many ^ j ≤ ((2 : Int) ^ (B + 3)) ^ j ∧ 0 < many ^ j := by
      intro j
      induction j with
      | zero => simp
      | succ j ih =>
        rw [Int.pow_succ, Int.pow_succ]
        refine ⟨Int.mul_le_mul ih.1 (Int.le_of_lt hm) (Int.le_of_lt h0) (Int.le_trans (Int.le_of_lt ih.2) ih.1), Int.mul_pos ih.2 h0⟩
    exact (this i).1
  rw [← Int.pow_mul] at p
  have a1 := log_le k1 (Int.lt_of_lt_of_le k2 p)
  have a2 := log_le (Int.le_of_lt h0) hm
  unfold CMulW
  have a3 : (B + 3) * i ≤ (B + 3) * n := Nat.mul_le_mul_left _ (by omega)
  have a4 : (n + 2) * (B + 3) = (B + 3) * n + 2 * (B + 3) := by rw [Nat.add_mul, Nat.mul_comm]
  omega
end Cw
/-! Cw: in_order, the dict. -/
namespace Cw
open PySem PySem.Spec PyProof.Rows L2

def keyK (kr : List Int → Int) (r : List Int) : Key := .inl (kr r)
theorem zip_same {kr : List Int → Int} {r : List Int} : ∀ {L : List (List Int)}, (∀ a ∈ L, kr a = kr r → a = r) → List.zipWith (fun k' d => if k' = keyK kr r then mv r else d) (L.map (keyK kr)) (L.map mv) = L.map mv
  | [], _ => rfl
  | a :: L, h => by
    rw [List.map_cons, List.map_cons, List.zipWith_cons_cons, zip_same fun b m => h b (List.mem_cons_of_mem _ m)]
    by_cases e : keyK kr a = keyK kr r
    · have e' : kr a = kr r := by
        unfold keyK at e
        exact Sum.inl.inj e
      rw [if_pos e, h a List.mem_cons_self e']
    · rw [if_neg e]
theorem putK_rows {kr : List Int → Int} {r : List Int} {L : List (List Int)} (h : ∀ a ∈ L, kr a = kr r → a = r) :
    putK (L.map (keyK kr)) (L.map mv) (keyK kr r) (mv r) = if r ∈ L then (L.map (keyK kr), L.map mv) else ((L ++ [r]).map (keyK kr), (L ++ [r]).map mv) := by
  unfold putK
  by_cases m : r ∈ L
  · have : keyK kr r ∈ L.map (keyK kr) := List.mem_map.mpr ⟨r, m, rfl⟩
    rw [if_pos this, if_pos m, zip_same h]
  · have : keyK kr r ∉ L.map (keyK kr) := fun q => by
      obtain ⟨a, ha, e⟩ := List.mem_map.mp q
      have e' : kr a = kr r := by
        unfold keyK at e
        exact Sum.inl.inj e
      exact m (h a ha e' ▸ ha)
    rw [if_neg this, if_neg m]
    simp
/-- what the dict tells under a row's key -/
theorem look_rows {kr : List Int → Int} {r : List Int} : ∀ {L : List (List Int)}, (∀ a ∈ L, kr a = kr r → a = r) → r ∈ L → look (L.map (keyK kr)) (L.map mv) (keyK kr r) = some (mv r)
  | [], _, m => by cases m
  | a :: L, h, m => by
    unfold look
    rw [List.map_cons, List.map_cons, List.zip_cons_cons, List.find?_cons]
    by_cases e : keyK kr a = keyK kr r
    · have e' : kr a = kr r := by
        unfold keyK at e
        exact Sum.inl.inj e
      have := h a List.mem_cons_self e'
      subst this
      simp
    · have na : a ≠ r := fun q => e (by rw [q])
      simp only [e, decide_false]
      have := look_rows (L := L) (fun b m => h b (List.mem_cons_of_mem _ m)) ((List.mem_cons.mp m).resolve_left (Ne.symm na))
      unfold look at this
      exact this
end Cw
/-! Cw: in_order, the loop over the rows. -/
namespace Cw
open PySem PySem.Spec PyProof.Rows L2

def b_row : Sm := .cons (.asg (.nm 6) (.int 0)) (.cons (.for (.nm 7) .seq (.cons (.var 5) .nil) b_key) (.cons (.setd 4 (.var 6) (.var 5)) .nil))
theorem w_rows {Z : En} {a b : Option Sl} {least many : Int} {rs : List (List Int)} {s5 s6 s7 : Option Sl} (hn : rs.length < sizeLine) (inj : ∀ r ∈ rs, ∀ r' ∈ rs, keyR least many 0 r = keyR least many 0 r' → r = r') (hm : ∀ r ∈ rs, ∀ i, i < r.length → CMulW (keyR least many 0 (r.take i)) many)
    (fin : ∀ (L : List (List Int)) (s5 s6 s7 : Option Sl), L.Nodup → L.length ≤ rs.length → (∀ r, r ∈ L ↔ r ∈ rs) → Z.nx [a, b, some (.dat (.int least)), some (.dat (.int many)), some (.own (.dk (L.map (keyK (keyR least many 0))) (L.map mv))), s5, s6, s7]) :
    fors (fun d ρ3 D1 => take (.nm 5) d ρ3 fun ρ4 => wS b_row D1 ρ4) Z (rs.map mv) [a, b, some (.dat (.int least)), some (.dat (.int many)), some (.own (.dk [] [])), s5, s6, s7] := by
  refine fors_inv for_mono (fun i ρ => ∃ L s5 s6 s7, ρ = [a, b, some (.dat (.int least)), some (.dat (.int many)), some (.own (.dk (L.map (keyK (keyR least many 0))) (L.map mv))), s5, s6, s7] ∧ L.Nodup ∧ L.length ≤ i ∧ ∀ r, r ∈ L ↔ r ∈ rs.take i) ?_ ?_ ⟨[], s5, s6, s7, rfl, List.nodup_nil, Nat.le_refl _, by simp⟩
  · rintro i d ρ hd ⟨L, t5, t6, t7, rfl, nd, hl, hL⟩
    obtain ⟨r, hr, rfl⟩ : ∃ r, rs[i]? = some r ∧ d = mv r := by
      rw [List.getElem?_map] at hd
      cases e : rs[i]? with
      | none => rw [e] at hd; cases hd
      | some r => rw [e] at hd; cases hd; exact ⟨r, rfl, rfl⟩
    have mr : r ∈ rs := List.mem_of_getElem? hr
    have hi : i < rs.length := (List.getElem?_eq_some_iff.mp hr).1
    have sub : ∀ x ∈ L, x ∈ rs := fun x m => List.mem_of_mem_take ((hL x).mp m)
    have inj' : ∀ x ∈ L, keyR least many 0 x = keyR least many 0 r → x = r := fun x m e => inj x (sub x m) r mr e
    show wS b_row _ [a, b, some (.dat (.int least)), some (.dat (.int many)), some (.own (.dk (L.map (keyK (keyR least many 0))) (L.map mv))), some (.dat (mv r)), t6, t7]
    unfold b_row
    rw [s_cons', s_asgn, e_int]
    show wS (.cons (.for (.nm 7) .seq (.cons (.var 5) .nil) b_key) (.cons (.setd 4 (.var 6) (.var 5)) .nil)) _ [a, b, some (.dat (.int least)), some (.dat (.int many)), some (.own (.dk (L.map (keyK (keyR least many 0))) (L.map mv))), some (.dat (mv r)), some (.dat (.int 0)), t7]
    rw [s_cons', s_for', a_cons', e_var rfl, a_nil']
    refine ⟨rfl, w_key r 0 t7 (hm r mr) fun u7 => ?_⟩
    dsimp only
    rw [s_cons', s_setd', e_var rfl]
    refine ⟨⟨_, rfl⟩, ?_⟩
    rw [e_var rfl]
    refine .inl ⟨_, _, keyK (keyR least many 0) r, rfl, rfl, by rw [List.length_map]; omega, ?_⟩
    dsimp only
    rw [s_nil', putK_rows inj']
    dsimp only
    have tk : ∀ x, x ∈ rs.take (i + 1) ↔ x ∈ rs.take i ∨ x = r := fun x => by
      rw [List.take_succ, hr]
      simp
    by_cases m : r ∈ L
    · rw [if_pos m]
      refine ⟨L, _, _, _, rfl, nd, by omega, fun x => ?_⟩
      rw [tk, hL]
      constructor
      · exact .inl
      · rintro (q | q)
        · exact q
        · subst q; exact (hL x).mp m
    · rw [if_neg m]
      refine ⟨L ++ [r], _, _, _, rfl, List.nodup_append.mpr ⟨nd, by simp, fun x hx y hy e => ?_⟩, by simp; omega, fun x => ?_⟩
      · have : y = r := by simpa using hy
        subst this; subst e; exact m hx
      · rw [tk, List.mem_append, hL]
        simp
  · rintro ρ ⟨L, t5, t6, t7, rfl, nd, hll, hL⟩
    refine fin L t5 t6 t7 nd (by simpa using hll) fun r => ?_
    rw [hL, List.length_map, List.take_length]
end Cw
/-! Cw: in_order, the last statement. -/
namespace Cw
open PySem PySem.Spec PyProof.Rows L2

/-- [found[key] for key in sorted([int(key) for key in found])] -/
theorem w_last {D : En} {a b c d e5 e6 e7 : Option Sl} {least many : Int} {L : List (List Int)} (hs : L.length ≤ sizeLine) (nd : L.Nodup) (inj : ∀ r ∈ L, ∀ r' ∈ L, keyR least many 0 r = keyR least many 0 r' → r = r')
    (h : ∀ (S : List (List Int)) (ρ : Ro), S.Perm L → S.Pairwise (fun x y => keyR least many 0 x < keyR least many 0 y) → D.rt (.own (.lst (S.map mv))) ρ) :
    wS (.ret (.lc [6] (.nm 6) .seq (.cons (.blt .sorted (.cons (.lk [6] (.nm 6) 4 (.bl true) (.blt .int (.cons (.var 6) .nil))) .nil)) .nil) (.bl true) (.idx (.var 4) (.var 6)))) D
      [a, b, c, d, some (.own (.dk (L.map (keyK (keyR least many 0))) (L.map mv))), e5, e6, e7] := by
  let kr := keyR least many 0
  rw [s_ret']
  -- what each key tells
  let back : Int → List Int := fun k => (L.find? fun r => decide (kr r = k)).getD []
  have hback : ∀ r ∈ L, back (kr r) = r := fun r m => by
    show (L.find? fun r' => decide (kr r' = kr r)).getD [] = r
    cases e : L.find? fun r' => decide (kr r' = kr r) with
    | none =>
      rw [List.find?_eq_none] at e
      exact absurd (by simp) (e r m)
    | some r' =>
      have h1 := List.find?_some e
      have h2 := List.mem_of_find?_eq_some e
      exact inj r' h2 r m (of_decide_eq_true h1)
  refine w_lc (fun x => match x with | .int k => mv (back k) | x => x) ?_
  rw [a_cons', e_blt, a_cons']
  refine w_lk id ⟨_, _, rfl, by simpa using hs, fun k hk => ?_, ?_⟩
  · obtain ⟨r, hr, rfl⟩ := List.mem_map.mp hk
    show wE _ [_, _, _, _, none, _, some (.dat (.int (kr r))), _] _
    rw [e_blt, a_cons', e_var rfl, a_nil']
    exact ⟨_, rfl, rfl, rfl⟩
  · rw [a_nil']
    have eks : ((L.map (keyK kr)).map kD).map id = (L.map kr).map .int := by
      rw [List.map_id, List.map_map, List.map_map]; rfl
    refine ⟨_, rfl, _, L.map kr, congrArg (fun l => some (true, l)) eks, intsOf_map _, fun ns' pm ps => ?_⟩
    dsimp only
    rw [a_nil']
    have mem : ∀ k ∈ ns', ∃ r ∈ L, kr r = k := fun k m => by
      obtain ⟨r, hr, e⟩ := List.mem_map.mp (pm.mem_iff.mp m)
      exact ⟨r, hr, e⟩
    refine ⟨trivial, by show (ns'.map Cw.D.int).length ≤ _; rw [List.length_map, pm.length_eq, List.length_map]; exact hs, fun x hx => ?_, ?_⟩
    · obtain ⟨k, hk, rfl⟩ := List.mem_map.mp hx
      obtain ⟨r, hr, rfl⟩ := mem k hk
      show wE _ [a, b, c, d, some (.own (.dk (L.map (keyK kr)) (L.map mv))), e5, some (.dat (.int (kr r))), e7] _
      rw [e_idx, e_own rfl, e_var rfl]
      refine ⟨_, rfl, keyK kr r, mv r, rfl, look_rows (fun x m e => inj x m r hr e) hr, ?_⟩
      exact ⟨by show mv r = mv (back (kr r)); rw [hback r hr], rfl⟩
    · have e1 : ((ns'.map Cw.D.int).map fun x => match x with | .int k => mv (back k) | x => x) = (ns'.map back).map mv := by
        rw [List.map_map, List.map_map]; rfl
      show D.rt (.own (.lst ((ns'.map Cw.D.int).map fun x => match x with | .int k => mv (back k) | x => x))) _
      rw [e1]
      have kb : ∀ k ∈ ns', kr (back k) = k := fun k m => by
        obtain ⟨r, hr, rfl⟩ := mem k m
        rw [hback r hr]
      refine h _ _ ?_ ?_
      · have p1 : (ns'.map back).Perm ((L.map kr).map back) := pm.map back
        have e2 : (L.map kr).map back = L := by
          rw [List.map_map]
          have : ∀ l : List (List Int), (∀ r ∈ l, r ∈ L) → l.map (back ∘ kr) = l := by
            intro l
            induction l with
            | nil => intro _; rfl
            | cons r l ih =>
              intro hl
              rw [List.map_cons, ih fun x m => hl x (List.mem_cons_of_mem _ m)]
              show back (kr r) :: l = r :: l
              rw [hback r (hl r List.mem_cons_self)]
          exact this L fun _ m => m
        rw [e2] at p1
        exact p1
      · have ndk : ns'.Nodup := by
          refine pm.nodup_iff.mpr ?_
          exact List.pairwise_map.mpr (nd.imp_of_mem fun {x y} hx hy hxy e => hxy (inj x hx y hy e))
        refine List.pairwise_map.mpr ((ps.and ndk).imp_of_mem fun {x y} hx hy ⟨h1, h2⟩ => ?_)
        show kr (back x) < kr (back y)
        rw [kb x hx, kb y hy]
        exact Int.lt_iff_le_and_ne.mpr ⟨h1, h2⟩
end Cw
/-! Cw: in_order, whole. -/
namespace Cw
open PySem PySem.Spec PyProof.Rows L2

def b_in_order_w : Sm := (.cons (.asg (.nm 1) (.lc2 [5, 7] [7] (.nm 5) .seq (.cons (.var 0) .nil) (.nm 7) .seq (.cons (.var 5) .nil) (.var 7))) (.cons (.asg (.nm 2) (.blt .min (.cons (.bin .add (.lst (.cons (.int 0) .nil)) (.lc [7] (.nm 7) .seq (.cons (.var 1) .nil) (.bl true) (.blt .int (.cons (.var 7) .nil)))) .nil))) (.cons (.asg (.nm 3) (.bin .add (.bin .sub (.blt .max (.cons (.bin .add (.lst (.cons (.int 0) .nil)) (.lc [7] (.nm 7) .seq (.cons (.var 1) .nil) (.bl true) (.blt .int (.cons (.var 7) .nil)))) .nil)) (.var 2)) (.int 1))) (.cons (.asg (.nm 4) .dnew) (.cons (.for (.nm 5) .seq (.cons (.var 0) .nil) b_row) (.cons (.ret (.lc [6] (.nm 6) .seq (.cons (.blt .sorted (.cons (.lk [6] (.nm 6) 4 (.bl true) (.blt .int (.cons (.var 6) .nil))) .nil)) .nil) (.bl true) (.idx (.var 4) (.var 6)))) .nil))))))
theorem e_dnew {ρ : Ro} {Q : W → Ro → Prop} : wE .dnew ρ Q = Q (.own (.dk [] [])) ρ := by rw [wE]
theorem w_in_order {rs : List (List Int)} {n B : Nat} (ok : RowsOk rs n B) (Q : Sl → Prop) (h : ∀ S : List (List Int), S.Pairwise LexLt → (∀ r, r ∈ S ↔ r ∈ rs) → Q (.own (.lst (S.map mv)))) :
    wS b_in_order_w { nx := fun ρ => Q (.dat .non), rt := fun w ρ => resOf 1 w ρ Q } (startR 8 ([Cw.D.lst (rs.map mv)].map .dat)) := by
  show wS b_in_order_w _ [some (.dat (.lst (rs.map mv))), none, none, none, none, none, none, none]
  unfold b_in_order_w
  rw [s_cons']
  refine w_ord ok ?_
  dsimp only
  rw [s_cons']
  refine w_least (ns := rs.flatten) ok.cnt rfl rfl rfl (by simp) fun least l1 l2 => ?_
  dsimp only
  rw [s_cons']
  refine w_many (ns := rs.flatten) (least := least) ok.cnt rfl rfl rfl rfl (by simp) fun top t1 t2 => ?_
  dsimp only
  rw [s_cons', s_asgn, e_dnew]
  show wS _ _ [some (.dat (.lst (rs.map mv))), some (.own (.lst (rs.flatten.map .int))), some (.dat (.int least)), some (.dat (.int (top - least + 1))), some (.own (.dk [] [])), none, none, none]
  have fl : ∀ r ∈ rs, ∀ x ∈ r, least ≤ x ∧ x < least + (top - least + 1) := fun r hr x hx => by
    have m : x ∈ 0 :: rs.flatten := List.mem_cons_of_mem _ (List.mem_flatten.mpr ⟨r, hr, hx⟩)
    have a1 := l2 x m
    have a2 := t2 x m
    omega
  have zero1 := l2 0 List.mem_cons_self
  have zero2 := t2 0 List.mem_cons_self
  have bd : ∀ x ∈ 0 :: rs.flatten, -(2 ^ B : Int) ≤ x ∧ x ≤ 2 ^ B := fun x hx => by
    have p : (0 : Int) < 2 ^ B := Int.pow_pos (by decide)
    rcases List.mem_cons.mp hx with rfl | m
    · omega
    · obtain ⟨r, hr, hx⟩ := List.mem_flatten.mp m
      exact ok.bd r hr x hx
  have h0 : 0 < top - least + 1 := by omega
  have hm : top - least + 1 < 2 ^ (B + 3) := by
    have a1 := bd least l1
    have a2 := bd top t1
    have p : (0 : Int) < 2 ^ B := Int.pow_pos (by decide)
    have e : (2 : Int) ^ (B + 3) = 2 ^ B * 8 := by rw [Int.pow_add]; rfl
    omega
  have inj : ∀ r ∈ rs, ∀ r' ∈ rs, keyR least (top - least + 1) 0 r = keyR least (top - least + 1) 0 r' → r = r' := fun r hr r' hr' e => by
    rcases LexLt.tri ((ok.len r hr).trans (ok.len r' hr').symm) with q | q | q
    · have := keyR_lt q (fl r hr) (fl r' hr'); omega
    · exact q
    · have := keyR_lt q (fl r' hr') (fl r hr); omega
  rw [s_cons', s_for', a_cons', e_var rfl, a_nil']
  refine ⟨rfl, w_rows ok.cn2 inj (fun r hr => key_mul (fl r hr) h0 hm (Nat.le_of_eq (ok.len r hr)) ok.sm) fun L u5 u6 u7 nd hll hL => ?_⟩
  dsimp only
  have inL : ∀ r ∈ L, r ∈ rs := fun r m => (hL r).mp m
  rw [s_cons']
  refine w_last ?_ nd (fun r m r' m' e => inj r (inL r m) r' (inL r' m') e) fun S ρ pS pp => ?_
  · have := ok.cn2; omega
  · refine h S (pp.imp_of_mem fun {x y} hx hy hlt => ?_) fun r => ?_
    · have mx := inL x (pS.mem_iff.mp hx)
      have my := inL y (pS.mem_iff.mp hy)
      rcases LexLt.tri ((ok.len x mx).trans (ok.len y my).symm) with q | q | q
      · exact q
      · subst q; omega
      · have := keyR_lt q (fl y my) (fl x mx); omega
    · rw [pS.mem_iff, hL]
end Cw
/-! Cw: the small defs of checks.py. -/
namespace Cw
open PySem PySem.Spec PyProof.Rows L2

/-! is_whole -/
def isWh : D → Bool
  | .int _ => true
  | _ => false
def F_is_whole : Fn := pureF "is_whole" 1 (fun ds Q => ∃ d, ds = [d] ∧ noScr d = true ∧ Q (.dat (.bl (isWh d)))) fun ds Q Q' h ⟨d, a, b, c⟩ => ⟨d, a, b, h _ c⟩
def b_is_whole : Sm := (.cons (.ret (.and (.isa (.var 0) .int) (.not (.isa (.var 0) .bool)))) .nil)
theorem w_is_whole : ∀ (ds : List D) (Q : Sl → Prop), ds.length = 1 → (∃ d, ds = [d] ∧ noScr d = true ∧ Q (.dat (.bl (isWh d)))) → wS b_is_whole { nx := fun ρ => Q (.dat .non), rt := fun w ρ => resOf 1 w ρ Q } (startR 1 (ds.map .dat)) := by
  rintro ds Q _ ⟨d, rfl, hs, hq⟩
  cases d <;> simp_all [b_is_whole, wS, wE, startR, slOf, cv, isa, isWh, resOf, noScr]
theorem c_is_whole {ρ : Ro} {d : D} {Q : W → Ro → Prop} (hs : noScr d = true) (h : Q (.dat (.bl (isWh d))) ρ) : callF F_is_whole [.dat d] ρ Q := call_pure rfl ⟨d, rfl, hs, h⟩
/-! is_below -/
def F_is_below : Fn := pureF "is_below" 2 (fun ds Q => ∃ v e : Int, ds = [.int v, .int e] ∧ Q (.dat (.bl (decide (0 ≤ v ∧ v < e))))) fun ds Q Q' h ⟨d, e, a, c⟩ => ⟨d, e, a, h _ c⟩
def b_is_below : Sm := (.cons (.ret (.and (.call F_is_whole (.cons (.var 0) .nil)) (.chn .le .lt (.int 0) (.var 0) (.var 1)))) .nil)
theorem w_is_below : ∀ (ds : List D) (Q : Sl → Prop), ds.length = 2 → (∃ v e : Int, ds = [.int v, .int e] ∧ Q (.dat (.bl (decide (0 ≤ v ∧ v < e))))) → wS b_is_below { nx := fun ρ => Q (.dat .non), rt := fun w ρ => resOf 2 w ρ Q } (startR 2 (ds.map .dat)) := by
  rintro ds Q _ ⟨v, e, rfl, hq⟩
  show wS _ _ [some (.dat (.int v)), some (.dat (.int e))]
  unfold b_is_below
  rw [s_cons', s_ret', e_and, e_call, a_cons', e_var rfl, a_nil']
  refine c_is_whole rfl ⟨true, rfl, ?_⟩
  rw [if_pos rfl, e_chn, e_int, e_var rfl]
  refine ⟨_, _, rfl, rfl, 0, v, rfl, rfl, ?_⟩
  by_cases h0 : 0 ≤ v
  · rw [decide_eq_true h0]
    dsimp only
    rw [if_pos rfl, e_var rfl]
    refine ⟨_, _, rfl, rfl, v, e, rfl, rfl, ⟨_, rfl, ?_⟩⟩
    show Q (.dat (.bl (decide (v < e))))
    have : decide (0 ≤ v ∧ v < e) = decide (v < e) := by simp [h0]
    rw [← this]; exact hq
  · rw [decide_eq_false h0]
    dsimp only
    rw [if_neg Bool.false_ne_true]
    refine ⟨_, rfl, ?_⟩
    show Q (.dat (.bl false))
    have : decide (0 ≤ v ∧ v < e) = false := by simp [h0]
    rw [← this]; exact hq
theorem c_is_below {ρ : Ro} {v e : Int} {Q : W → Ro → Prop} (h : Q (.dat (.bl (decide (0 ≤ v ∧ v < e)))) ρ) : callF F_is_below [.dat (.int v), .dat (.int e)] ρ Q := call_pure rfl ⟨v, e, rfl, h⟩
/-! is_move -/
def F_is_move : Fn := pureF "is_move" 2 (fun ds Q => ∃ (xs : List Int) (n : Int), ds = [mv xs, .int n] ∧ xs.length ≤ sizeLine ∧ Q (.dat (.bl (decide ((xs.length : Int) = n))))) fun ds Q Q' h ⟨d, e, a, b, c⟩ => ⟨d, e, a, b, h _ c⟩
def b_is_move : Sm := (.cons (.ret (.and (.isa (.var 0) .tuple) (.and (.cmp .eq (.blt .len (.cons (.var 0) .nil)) (.var 1)) (.cmp .eq (.lc [2] (.nm 2) .seq (.cons (.var 0) .nil) (.not (.call F_is_whole (.cons (.var 2) .nil))) (.var 2)) (.lst .nil))))) .nil)
theorem eqv_int (i j : Int) : PyData.eqv (.int i) (.int j) = decide (i = j) := by
  simp only [PyData.eqv]
  by_cases h : i = j
  · subst h; simp
  · simp [h]
theorem w_is_move : ∀ (ds : List D) (Q : Sl → Prop), ds.length = 2 → (∃ (xs : List Int) (n : Int), ds = [mv xs, .int n] ∧ xs.length ≤ sizeLine ∧ Q (.dat (.bl (decide ((xs.length : Int) = n))))) → wS b_is_move { nx := fun ρ => Q (.dat .non), rt := fun w ρ => resOf 2 w ρ Q } (startR 3 (ds.map .dat)) := by
  rintro ds Q _ ⟨xs, n, rfl, hz, hq⟩
  show wS _ _ [some (.dat (mv xs)), some (.dat (.int n)), none]
  unfold b_is_move
  rw [s_cons', s_ret', e_and, e_isa, e_var rfl]
  refine ⟨_, true, rfl, rfl, true, rfl, ?_⟩
  rw [if_pos rfl, e_and, e_cmp, e_blt, a_cons', e_var rfl, a_nil']
  refine ⟨_, rfl, _, rfl, ?_⟩
  dsimp only
  rw [e_var rfl]
  refine ⟨_, _, rfl, rfl, rfl, rfl, decide ((xs.length : Int) = n), ?_, ?_⟩
  · show W.dat (.bl (PyData.eqv (.int ((xs.map D.int).length : Nat)) (.int n))) = _
    rw [eqv_int, List.length_map]
  · by_cases h : (xs.length : Int) = n
    · rw [decide_eq_true h, if_pos rfl, e_cmp]
      refine w_lcf (fun _ => none) ?_
      rw [a_cons', e_var rfl, a_nil']
      refine ⟨trivial, by simpa [mv] using hz, fun d hd => ?_, ?_⟩
      · obtain ⟨x, hx, rfl⟩ := List.mem_map.mp hd
        show wE _ [_, _, some (.dat (.int x))] _
        rw [e_not, e_call, a_cons', e_var rfl, a_nil']
        exact c_is_whole rfl ⟨true, rfl, false, rfl, rfl, rfl⟩
      · rw [e_lst, a_nil']
        refine ⟨by simp, _, _, rfl, rfl, ?_⟩
        have e : ((xs.map D.int).filterMap fun _ => (none : Option D)) = [] := by
          induction xs with
          | nil => rfl
          | cons x xs ih => simp
        rw [decide_eq_true h] at hq
        show shp (.lst ((xs.map D.int).filterMap fun _ => (none : Option D))) = true ∧ _ ∧ _
        rw [e]
        exact ⟨by decide, by decide, _, rfl, _, rfl, hq⟩
    · rw [decide_eq_false h, if_neg Bool.false_ne_true]
      rw [decide_eq_false h] at hq
      exact ⟨_, rfl, hq⟩
end Cw
/-! Cw: moves. -/
namespace Cw
open PySem PySem.Spec PyProof.Rows L2

theorem c_is_move {ρ : Ro} {xs : List Int} {n : Int} {Q : W → Ro → Prop} (hz : xs.length ≤ sizeLine) (h : Q (.dat (.bl (decide ((xs.length : Int) = n)))) ρ) : callF F_is_move [.dat (mv xs), .dat (.int n)] ρ Q := call_pure rfl ⟨xs, n, rfl, hz, h⟩
/-! added -/
def addV (xs ys : List Int) : List Int := List.zipWith (· + ·) xs ys
def addD : D → D
  | .tup [.int a, .int b] => .int (a + b)
  | d => d
def F_added : Fn := pureF "added" 2 (fun ds Q => ∃ xs ys : List Int, ds = [mv xs, mv ys] ∧ xs.length ≤ sizeLine ∧ Q (.dat (mv (addV xs ys)))) fun ds Q Q' h ⟨d, e, a, b, c⟩ => ⟨d, e, a, b, h _ c⟩
def b_added : Sm := (.cons (.ret (.blt .tuple (.cons (.lc [2, 3] (.tp (.cons (.nm 2) (.cons (.nm 3) .nil))) .zip (.cons (.var 0) (.cons (.var 1) .nil)) (.bl true) (.bin .add (.var 2) (.var 3))) .nil))) .nil)
theorem zip_add : ∀ (xs ys : List Int), (((xs.map D.int).zip (ys.map D.int)).map Cw.pairD).map addD = (addV xs ys).map .int
  | [], ys => by simp [addV]
  | x :: xs, [] => by simp [addV]
  | x :: xs, y :: ys => by
    have := zip_add xs ys
    unfold addV at this ⊢
    simp only [List.map_cons, List.zip_cons_cons, List.zipWith_cons_cons, this]
    rfl
theorem w_added : ∀ (ds : List D) (Q : Sl → Prop), ds.length = 2 → (∃ xs ys : List Int, ds = [mv xs, mv ys] ∧ xs.length ≤ sizeLine ∧ Q (.dat (mv (addV xs ys)))) → wS b_added { nx := fun ρ => Q (.dat .non), rt := fun w ρ => resOf 2 w ρ Q } (startR 4 (ds.map .dat)) := by
  rintro ds Q _ ⟨xs, ys, rfl, hx, h⟩
  show wS _ _ [some (.dat (mv xs)), some (.dat (mv ys)), none, none]
  unfold b_added
  rw [s_cons', s_ret', e_blt, a_cons']
  refine w_lc addD ?_
  rw [a_cons', e_var rfl, a_cons', e_var rfl, a_nil']
  refine ⟨false, xs.map .int, ys.map .int, rfl, rfl, trivial, ?_, fun d hd => ?_, ?_⟩
  · simp; omega
  · simp only [List.mem_map] at hd
    obtain ⟨⟨p, q⟩, hpq, rfl⟩ := hd
    obtain ⟨hp, hq⟩ := List.of_mem_zip hpq
    simp only [List.mem_map] at hp hq
    obtain ⟨a, _, rfl⟩ := hp
    obtain ⟨b, _, rfl⟩ := hq
    refine ⟨_, _, rfl, _, _, rfl, rfl, ?_⟩
    show wE _ [_, _, some (.dat (.int a)), some (.dat (.int b))] _
    rw [e_bin, e_var rfl, e_var rfl]
    exact ⟨_, _, rfl, rfl, rfl, rfl⟩
  · rw [a_nil']
    refine ⟨_, rfl, true, _, rfl, ?_⟩
    rw [zip_add]
    exact h
theorem c_added {ρ : Ro} {xs ys : List Int} {Q : W → Ro → Prop} (hx : xs.length ≤ sizeLine) (h : Q (.dat (mv (addV xs ys))) ρ) : callF F_added [.dat (mv xs), .dat (mv ys)] ρ Q := call_pure rfl ⟨xs, ys, rfl, hx, h⟩
end Cw
/-! Cw: moves turned about, noughts. -/
namespace Cw
open PySem PySem.Spec PyProof.Rows L2

def negD : D → D
  | .int a => .int (0 - a)
  | d => d
def turnV (xs : List Int) : List Int := xs.map fun x => 0 - x
def F_turned_about : Fn := pureF "turned_about" 1 (fun ds Q => ∃ xs : List Int, ds = [mv xs] ∧ xs.length ≤ sizeLine ∧ Q (.dat (mv (turnV xs)))) fun ds Q Q' h ⟨d, a, b, c⟩ => ⟨d, a, b, h _ c⟩
def b_turned_about : Sm := (.cons (.ret (.blt .tuple (.cons (.lc [1] (.nm 1) .seq (.cons (.var 0) .nil) (.bl true) (.bin .sub (.int 0) (.var 1))) .nil))) .nil)
theorem w_turned_about : ∀ (ds : List D) (Q : Sl → Prop), ds.length = 1 → (∃ xs : List Int, ds = [mv xs] ∧ xs.length ≤ sizeLine ∧ Q (.dat (mv (turnV xs)))) → wS b_turned_about { nx := fun ρ => Q (.dat .non), rt := fun w ρ => resOf 1 w ρ Q } (startR 2 (ds.map .dat)) := by
  rintro ds Q _ ⟨xs, rfl, hx, h⟩
  show wS _ _ [some (.dat (mv xs)), none]
  unfold b_turned_about
  rw [s_cons', s_ret', e_blt, a_cons']
  refine w_lc negD ?_
  rw [a_cons', e_var rfl, a_nil']
  refine ⟨trivial, by simpa [mv] using hx, fun d hd => ?_, ?_⟩
  · obtain ⟨x, hx, rfl⟩ := List.mem_map.mp hd
    show wE _ [_, some (.dat (.int x))] _
    rw [e_bin, e_int, e_var rfl]
    exact ⟨_, _, rfl, rfl, rfl, rfl⟩
  · rw [a_nil']
    refine ⟨_, rfl, true, _, rfl, ?_⟩
    have e : (xs.map D.int).map negD = (turnV xs).map .int := by
      unfold turnV
      rw [List.map_map, List.map_map]; rfl
    show Q (.dat (.tup ((xs.map D.int).map negD)))
    rw [e]
    exact h
theorem c_turned_about {ρ : Ro} {xs : List Int} {Q : W → Ro → Prop} (hx : xs.length ≤ sizeLine) (h : Q (.dat (mv (turnV xs))) ρ) : callF F_turned_about [.dat (mv xs)] ρ Q := call_pure rfl ⟨xs, rfl, hx, h⟩
def F_noughts : Fn := pureF "noughts" 1 (fun ds Q => ∃ n : Nat, ds = [.int n] ∧ n ≤ sizeLine ∧ Q (.dat (mv (List.replicate n 0)))) fun ds Q Q' h ⟨d, a, b, c⟩ => ⟨d, a, b, h _ c⟩
def b_noughts : Sm := (.cons (.ret (.blt .tuple (.cons (.lc [1] (.nm 1) .rng1 (.cons (.var 0) .nil) (.bl true) (.int 0)) .nil))) .nil)
theorem w_noughts : ∀ (ds : List D) (Q : Sl → Prop), ds.length = 1 → (∃ n : Nat, ds = [.int n] ∧ n ≤ sizeLine ∧ Q (.dat (mv (List.replicate n 0)))) → wS b_noughts { nx := fun ρ => Q (.dat .non), rt := fun w ρ => resOf 1 w ρ Q } (startR 2 (ds.map .dat)) := by
  rintro ds Q _ ⟨n, rfl, hn, h⟩
  show wS _ _ [some (.dat (.int n)), none]
  unfold b_noughts
  rw [s_cons', s_ret', e_blt, a_cons']
  refine w_lc (fun _ => .int 0) ?_
  rw [a_cons', e_var rfl, a_nil']
  have hs : sizeLine = 16777216 := by decide
  refine ⟨_, rfl, ⟨by omega, by omega⟩, trivial, by rw [rngD_len]; simpa using hn, fun d hd => ?_, ?_⟩
  · obtain ⟨x, hx, rfl⟩ := List.mem_map.mp hd
    show wE _ [_, some (.dat _)] _
    rw [e_int]
    exact ⟨rfl, rfl⟩
  · rw [a_nil']
    refine ⟨_, rfl, true, _, rfl, ?_⟩
    have e : ((rngD 0 (n : Int).toNat).map fun _ => D.int 0) = (List.replicate n (0 : Int)).map .int := by
      rw [List.map_const', rngD_len, List.map_replicate]; simp
    show Q (.dat (.tup ((rngD 0 (n : Int).toNat).map fun _ => D.int 0)))
    rw [e]
    exact h
theorem c_noughts {ρ : Ro} {n : Nat} {Q : W → Ro → Prop} (hn : n ≤ sizeLine) (h : Q (.dat (mv (List.replicate n 0))) ρ) : callF F_noughts [.dat (.int n)] ρ Q := call_pure rfl ⟨n, rfl, hn, h⟩
end Cw
/-! Cw: ties told in one way. -/
namespace Cw
open PySem PySem.Spec PyProof.Rows L2

def F_in_order : Fn := pureF "in_order" 1 (fun ds Q => ∃ (rs : List (List Int)) (n B : Nat), ds = [.lst (rs.map mv)] ∧ RowsOk rs n B ∧ ∀ S : List (List Int), S.Pairwise LexLt → (∀ r, r ∈ S ↔ r ∈ rs) → Q (.own (.lst (S.map mv)))) fun ds Q Q' h ⟨rs, n, B, a, b, c⟩ => ⟨rs, n, B, a, b, fun S p q => h _ (c S p q)⟩
theorem w_in_order' : ∀ (ds : List D) (Q : Sl → Prop), ds.length = 1 → (∃ (rs : List (List Int)) (n B : Nat), ds = [.lst (rs.map mv)] ∧ RowsOk rs n B ∧ ∀ S : List (List Int), S.Pairwise LexLt → (∀ r, r ∈ S ↔ r ∈ rs) → Q (.own (.lst (S.map mv)))) → wS b_in_order_w { nx := fun ρ => Q (.dat .non), rt := fun w ρ => resOf 1 w ρ Q } (startR 8 (ds.map .dat)) := by
  rintro ds Q _ ⟨rs, n, B, rfl, ok, h⟩
  exact w_in_order ok Q h
theorem c_in_order {ρ : Ro} {rs : List (List Int)} {n B : Nat} {Q : W → Ro → Prop} (ok : RowsOk rs n B) (h : ∀ S : List (List Int), S.Pairwise LexLt → (∀ r, r ∈ S ↔ r ∈ rs) → Q (.own (.lst (S.map mv))) ρ) : callF F_in_order [.dat (.lst (rs.map mv))] ρ Q := call_pure rfl ⟨rs, n, B, rfl, ok, fun S p q => h S p q⟩
/-- with a new list handed -/
theorem c_in_order' {ρ : Ro} {rs : List (List Int)} {n B : Nat} {Q : W → Ro → Prop} (ok : RowsOk rs n B) (h : ∀ S : List (List Int), S.Pairwise LexLt → (∀ r, r ∈ S ↔ r ∈ rs) → Q (.own (.lst (S.map mv))) ρ) : callF F_in_order [.own (.lst (rs.map mv))] ρ Q := call_pure rfl ⟨rs, n, B, rfl, ok, fun S p q => h S p q⟩
/-- the order, decided -/
def lexB : List Int → List Int → Bool
  | x :: xs, y :: ys => decide (x < y) || (decide (x = y) && lexB xs ys)
  | _, _ => false
theorem lexB_iff : ∀ {xs ys : List Int}, xs.length = ys.length → (lexB xs ys = true ↔ LexLt xs ys)
  | [], [], _ => ⟨fun h => (by cases h), fun h => (by cases h)⟩
  | x :: xs, y :: ys, h => by
    have hl : xs.length = ys.length := by simpa using h
    unfold lexB
    rw [Bool.or_eq_true, Bool.and_eq_true, decide_eq_true_eq, decide_eq_true_eq, lexB_iff hl]
    constructor
    · rintro (q | ⟨q, k⟩)
      · exact .here q hl
      · subst q; exact .there k
    · intro q
      cases q with
      | here q _ => exact .inl q
      | there q => exact .inr ⟨rfl, q⟩
/-- a tie as data -/
structure Tie where
  a : Int
  b : Int
  m : List Int
  deriving DecidableEq
def Tie.d (t : Tie) : D := .tup [.int t.a, .int t.b, mv t.m]
def Tie.turn (t : Tie) : Tie := ⟨t.b, t.a, turnV t.m⟩
/-- the told way -/
def Tie.told (t : Tie) : Tie := if t.a > t.b ∨ (t.a = t.b ∧ lexB (turnV t.m) t.m = false) then t.turn else t
theorem turn_len (m : List Int) : (turnV m).length = m.length := by simp [turnV]
theorem turn_turn (m : List Int) : turnV (turnV m) = m := by
  unfold turnV
  rw [List.map_map]
  induction m with
  | nil => rfl
  | cons x m ih => simp at ih ⊢; exact ih
end Cw
/-! Cw: a machine of rewritings that reckons the wishes over data step by step. -/
namespace Cw
open PySem PySem.Spec PyProof.Rows L2

/-- a mark: what it names is not looked into -/
@[reducible] def St {a : Sort _} {b : Sort _} (_ : a) (_ : b) : Type := Unit
def getC (ρ : Ro) (w : W) (K : Sl → Prop) (u : St 0 K := ()) : Prop := ∃ x, cv ρ w = some x ∧ K x
def getCs (ρ : Ro) (ws : List W) (K : List Sl → Prop) (u : St 0 K := ()) : Prop := ∃ xs, cvs ρ ws = some xs ∧ K xs
def onB (w : W) (K : Bool → Prop) (u : St 0 K := ()) : Prop := ∃ k, w = .dat (.bl k) ∧ K k
def onI (w : W) (K : Int → Prop) (u : St 0 K := ()) : Prop := ∃ k, w = .dat (.int k) ∧ K k
def onO {α : Type} (o : Option α) (K : α → Prop) (u : St 0 K := ()) : Prop := ∃ x, o = some x ∧ K x
def cnd (b : Bool) (A B : Prop) (u : St A B := ()) : Prop := if b = true then A else B
def onIns (c : Nat) (w : W) (K : List D → Prop) (u : St 0 K := ()) : Prop := ∃ fs, w = .dat (.ins c fs) ∧ K fs
def lenOk (ds : List D) (A : Prop) (u : St 0 A := ()) : Prop := ds.length ≤ sizeLine ∧ A
def varQ (i : Nat) (x : Sl) (ρ : Ro) (Q : W → Ro → Prop) (u : St 0 Q := ()) : Prop := match x with
  | .dat d => Q (.dat d) ρ
  | .own _ => Q (.brw i) ρ
def frzQ (i : Nat) (x : Sl) (ρ : Ro) (Q : D → Ro → Prop) (u : St 0 Q := ()) : Prop := match x with
  | .dat d => Q d ρ
  | .own t => Q t.toD (ρ.set i (some (.dat t.toD)))
def idxQ (i : Nat) (x y : Sl) (Q : W → Prop) (u : St 0 Q := ()) : Prop := match x with
  | .own (.ll dss) => ∃ k : Nat, y = .dat (.int k) ∧ k < dss.length ∧ Q (.br2 i k)
  | x => idxC x y Q
def put1 (i : Nat) (w : W) (ρ : Ro) (Q : Ro → Prop) (u : St 0 Q := ()) : Prop := putAll [i] [w] ρ Q
def gdN (s : Src) (A : Prop) (u : St 0 A := ()) : Prop := s.gd = none ∧ A
def datO (o : Option Sl) : Option Sl := match o with
  | some (.dat d) => some (.dat d)
  | _ => none


section
variable {ρ : Ro} {Q : W → Ro → Prop} {QA : List W → Ro → Prop}
theorem onO_some {α : Type} {x : α} {K : α → Prop} : onO (some x) K = K x := propext ⟨fun ⟨y, e, h⟩ => by cases e; exact h, fun h => ⟨x, rfl, h⟩⟩
theorem onB_bl {k : Bool} {K : Bool → Prop} : onB (.dat (.bl k)) K = K k := propext ⟨fun ⟨y, e, h⟩ => by cases e; exact h, fun h => ⟨k, rfl, h⟩⟩
theorem onI_int {k : Int} {K : Int → Prop} : onI (.dat (.int k)) K = K k := propext ⟨fun ⟨y, e, h⟩ => by cases e; exact h, fun h => ⟨k, rfl, h⟩⟩
theorem onIns_ins {c : Nat} {fs : List D} {K : List D → Prop} : onIns c (.dat (.ins c fs)) K = K fs := propext ⟨fun ⟨y, e, h⟩ => by cases e; exact h, fun h => ⟨fs, rfl, h⟩⟩
theorem cnd_t {A B : Prop} : cnd true A B = A := if_pos rfl
theorem cnd_f {A B : Prop} : cnd false A B = B := if_neg Bool.false_ne_true
theorem cnd_split {b : Bool} {A B : Prop} (h1 : b = true → A) (h2 : b = false → B) : cnd b A B := by
  cases b
  · rw [cnd_f]; exact h2 rfl
  · rw [cnd_t]; exact h1 rfl
theorem getC_dat {d : D} {K : Sl → Prop} : getC ρ (.dat d) K = K (.dat d) := propext ⟨fun ⟨y, e, h⟩ => by cases e; exact h, fun h => ⟨_, rfl, h⟩⟩
theorem getC_own {d : Ot} {K : Sl → Prop} : getC ρ (.own d) K = K (.own d) := propext ⟨fun ⟨y, e, h⟩ => by cases e; exact h, fun h => ⟨_, rfl, h⟩⟩
theorem getC_brw {i : Nat} {K : Sl → Prop} : getC ρ (.brw i) K = onO (slOf ρ i) K := rfl
theorem getCs_nil {K : List Sl → Prop} : getCs ρ [] K = K [] := propext ⟨fun ⟨y, e, h⟩ => by cases e; exact h, fun h => ⟨_, rfl, h⟩⟩
theorem getCs_cons {w : W} {ws : List W} {K : List Sl → Prop} : getCs ρ (w :: ws) K = getC ρ w fun x => getCs ρ ws fun xs => K (x :: xs) := by
  refine propext (Iff.intro ?_ ?_)
  · rintro ⟨y, e, h⟩
    unfold cvs at e
    split at e
    · rename_i x xs e1 e2; cases e; exact ⟨x, e1, xs, e2, h⟩
    · cases e
  · rintro ⟨x, e1, xs, e2, h⟩
    exact ⟨x :: xs, by unfold cvs; rw [e1, e2], h⟩
theorem varQ_dat {i : Nat} {d : D} : varQ i (.dat d) ρ Q = Q (.dat d) ρ := rfl
theorem varQ_own {i : Nat} {d : Ot} : varQ i (.own d) ρ Q = Q (.brw i) ρ := rfl
theorem frzQ_dat {i : Nat} {d : D} {Q : D → Ro → Prop} : frzQ i (.dat d) ρ Q = Q d ρ := rfl
theorem frzQ_own {i : Nat} {d : Ot} {Q : D → Ro → Prop} : frzQ i (.own d) ρ Q = Q d.toD (ρ.set i (some (.dat d.toD))) := rfl
theorem frz_dat {d : D} {Q : D → Ro → Prop} : frz (.dat d) ρ Q = Q d ρ := rfl
theorem frz_own {d : Ot} {Q : D → Ro → Prop} : frz (.own d) ρ Q = Q d.toD ρ := rfl
theorem frz_brw {i : Nat} {Q : D → Ro → Prop} : frz (.brw i) ρ Q = onO (slOf ρ i) fun x => frzQ i x ρ Q := by
  unfold frz
  dsimp only
  cases slOf ρ i with
  | none => exact propext ⟨fun h => h.elim, fun ⟨_, e, _⟩ => by cases e⟩
  | some x => rw [onO_some]; cases x <;> rfl
theorem toD_lst {ds : List D} : (Ot.lst ds).toD = .lst ds := rfl
theorem toD_ll {ds : List (List D)} : (Ot.ll ds).toD = .lst (ds.map .lst) := rfl
theorem toD_dk {ks : List Key} {ds : List D} : (Ot.dk ks ds).toD = .dk ks ds := rfl
theorem toD_dat {d : D} : (Sl.dat d).toD = d := rfl
theorem toD_own {d : Ot} : (Sl.own d).toD = d.toD := rfl
theorem frzs_nil {Q : List D → Ro → Prop} : frzs [] ρ Q = Q [] ρ := rfl
theorem frzs_cons {w : W} {ws : List W} {Q : List D → Ro → Prop} : frzs (w :: ws) ρ Q = frz w ρ fun d ρ1 => frzs ws ρ1 fun ds ρ2 => Q (d :: ds) ρ2 := rfl
theorem set_0 {α : Type} {a b : α} {l : List α} : (a :: l).set 0 b = b :: l := rfl
theorem set_s {α : Type} {a b : α} {l : List α} {n : Nat} : (a :: l).set (n + 1) b = a :: l.set n b := rfl
theorem lenOk_s {ds : List D} {A : Prop} (h : ds.length ≤ 100) : lenOk ds A = A := propext ⟨fun h => h.2, fun k => ⟨Nat.le_trans h (by decide), k⟩⟩
theorem lenOk0 {A : Prop} : lenOk [] A = A := lenOk_s (by decide)
theorem lenOk1 {a : D} {A : Prop} : lenOk [a] A = A := lenOk_s (by simp)
theorem lenOk2 {a b : D} {A : Prop} : lenOk [a, b] A = A := lenOk_s (by simp)
theorem lenOk3 {a b c : D} {A : Prop} : lenOk [a, b, c] A = A := lenOk_s (by simp)
theorem lenOk4 {a b c d : D} {A : Prop} : lenOk [a, b, c, d] A = A := lenOk_s (by simp)
theorem lenOk5 {a b c d e : D} {A : Prop} : lenOk [a, b, c, d, e] A = A := lenOk_s (by simp)
theorem lenOk6 {a b c d e f : D} {A : Prop} : lenOk [a, b, c, d, e, f] A = A := lenOk_s (by simp)
theorem lenOk7 {a b c d e f g : D} {A : Prop} : lenOk [a, b, c, d, e, f, g] A = A := lenOk_s (by simp)
theorem lenOk8 {a b c d e f g h : D} {A : Prop} : lenOk [a, b, c, d, e, f, g, h] A = A := lenOk_s (by simp)
theorem lenOk9 {a b c d e f g h i : D} {A : Prop} : lenOk [a, b, c, d, e, f, g, h, i] A = A := lenOk_s (by simp)

theorem m_var {i : Nat} : wE (.var i) ρ Q = onO (slOf ρ i) fun x => varQ i x ρ Q := by
  rw [wE]
  cases slOf ρ i with
  | none => exact propext ⟨fun h => h.elim, fun ⟨_, e, _⟩ => by cases e⟩
  | some x => rw [onO_some]; cases x <;> rfl
theorem m_bin {op : Bop} {a b : E} : wE (.bin op a b) ρ Q = wE a ρ fun v ρ1 => wE b ρ1 fun w ρ2 => getC ρ2 v fun x => getC ρ2 w fun y => bin op x y fun r => Q r ρ2 := by
  rw [wE]
  unfold getC
  have : ∀ v w ρ2, (∃ x y, cv ρ2 v = some x ∧ cv ρ2 w = some y ∧ bin op x y fun r => Q r ρ2) = (∃ x, cv ρ2 v = some x ∧ ∃ y, cv ρ2 w = some y ∧ bin op x y fun r => Q r ρ2) := fun v w ρ2 => propext ⟨fun ⟨x, y, a, b, c⟩ => ⟨x, a, y, b, c⟩, fun ⟨x, a, y, b, c⟩ => ⟨x, y, a, b, c⟩⟩
  simp only [this]
theorem m_neg {a : E} : wE (.neg a) ρ Q = wE a ρ fun v ρ1 => getC ρ1 v fun x => ∃ i, x = .dat (.int i) ∧ Q (.dat (.int (-i))) ρ1 := by
  rw [wE]
  unfold getC
  have : ∀ v ρ2, (∃ i, cv ρ2 v = some (.dat (.int i)) ∧ Q (.dat (.int (-i))) ρ2) = (∃ x, cv ρ2 v = some x ∧ ∃ i, x = .dat (.int i) ∧ Q (.dat (.int (-i))) ρ2) := fun v ρ2 => propext ⟨fun ⟨i, a, b⟩ => ⟨_, a, i, rfl, b⟩, fun ⟨x, a, i, e, c⟩ => ⟨i, by rw [a, e], c⟩⟩
  simp only [this]
theorem m_cmp {op : Cop} {a b : E} : wE (.cmp op a b) ρ Q = wE a ρ fun v ρ1 => wE b ρ1 fun w ρ2 => getC ρ2 v fun x => getC ρ2 w fun y => cmp op x y fun r => Q (.dat (.bl r)) ρ2 := by
  rw [wE]
  unfold getC
  have : ∀ v w ρ2, (∃ x y, cv ρ2 v = some x ∧ cv ρ2 w = some y ∧ cmp op x y fun r => Q (.dat (.bl r)) ρ2) = (∃ x, cv ρ2 v = some x ∧ ∃ y, cv ρ2 w = some y ∧ cmp op x y fun r => Q (.dat (.bl r)) ρ2) := fun v w ρ2 => propext ⟨fun ⟨x, y, a, b, c⟩ => ⟨x, a, y, b, c⟩, fun ⟨x, a, y, b, c⟩ => ⟨x, y, a, b, c⟩⟩
  simp only [this]
theorem m_chn {o p : Cop} {a b c : E} : wE (.chn o p a b c) ρ Q = wE a ρ fun v ρ1 => wE b ρ1 fun w ρ2 => getC ρ2 v fun x => getC ρ2 w fun y => cmp o x y fun r =>
      cnd r (wE c ρ2 fun u ρ3 => getC ρ3 w fun y' => getC ρ3 u fun z => cmp p y' z fun r' => Q (.dat (.bl r')) ρ3) (Q (.dat (.bl false)) ρ2) := by
  rw [wE]
  unfold getC cnd
  have : ∀ v w ρ2 (K : Bool → Prop), (∃ x y, cv ρ2 v = some x ∧ cv ρ2 w = some y ∧ cmp o x y K) = (∃ x, cv ρ2 v = some x ∧ ∃ y, cv ρ2 w = some y ∧ cmp o x y K) := fun v w ρ2 K => propext ⟨fun ⟨x, y, a, b, c⟩ => ⟨x, a, y, b, c⟩, fun ⟨x, a, y, b, c⟩ => ⟨x, y, a, b, c⟩⟩
  have t2 : ∀ v w ρ2 (K : Bool → Prop), (∃ x y, cv ρ2 v = some x ∧ cv ρ2 w = some y ∧ cmp p x y K) = (∃ x, cv ρ2 v = some x ∧ ∃ y, cv ρ2 w = some y ∧ cmp p x y K) := fun v w ρ2 K => propext ⟨fun ⟨x, y, a, b, c⟩ => ⟨x, a, y, b, c⟩, fun ⟨x, a, y, b, c⟩ => ⟨x, y, a, b, c⟩⟩
  simp only [this, t2]
theorem m_and {a b : E} : wE (.and a b) ρ Q = wE a ρ fun v ρ1 => onB v fun k => cnd k (wE b ρ1 fun w ρ2 => onB w fun _ => Q w ρ2) (Q (.dat (.bl false)) ρ1) := by
  rw [wE]; unfold onB cnd
  have : ∀ (w : W) (ρ2 : Ro), (∃ k', w = .dat (.bl k') ∧ Q w ρ2) = (∃ k : Bool, w = .dat (.bl k) ∧ Q w ρ2) := fun _ _ => rfl
  rfl
theorem m_or {a b : E} : wE (.or a b) ρ Q = wE a ρ fun v ρ1 => onB v fun k => cnd k (Q (.dat (.bl true)) ρ1) (wE b ρ1 fun w ρ2 => onB w fun _ => Q w ρ2) := by rw [wE]; rfl
theorem m_not {a : E} : wE (.not a) ρ Q = wE a ρ fun v ρ1 => onB v fun k => Q (.dat (.bl (!k))) ρ1 := by rw [wE]; rfl
theorem m_ite {c a b : E} : wE (.ite c a b) ρ Q = wE c ρ fun v ρ1 => onB v fun k => cnd k (wE a ρ1 Q) (wE b ρ1 Q) := by rw [wE]; rfl
theorem m_tup {as : E} : wE (.tup as) ρ Q = wA as ρ fun ws ρ1 => frzs ws ρ1 fun ds ρ2 => lenOk ds (Q (.dat (.tup ds)) ρ2) := by rw [wE]; rfl
theorem m_lst {as : E} : wE (.lst as) ρ Q = wA as ρ fun ws ρ1 => frzs ws ρ1 fun ds ρ2 => lenOk ds (Q (.own (.lst ds)) ρ2) := by rw [wE]; rfl
theorem m_meth {F : Fn} {c : Nat} {a as : E} : wE (.meth F c a as) ρ Q = wE a ρ fun v ρ1 => onIns c v fun _ => wA as ρ1 fun ws ρ2 => callF F (v :: ws) ρ2 Q := by rw [wE]; rfl
theorem m_prop {F : Fn} {c : Nat} {a : E} : wE (.prop F c a) ρ Q = wE a ρ fun v ρ1 => onIns c v fun _ => callF F [v] ρ1 Q := by rw [wE]; rfl
theorem m_eqw {n : Bool} {F : Fn} {c : Nat} {a b : E} : wE (.eqw n F c a b) ρ Q = wE a ρ fun v ρ1 => wE b ρ1 fun w ρ2 => onIns c v fun _ => frz w ρ2 fun d ρ3 => noScr d = true ∧ callF F [v, .dat d] ρ3 fun r ρ4 => onB r fun k => Q (.dat (.bl (if n then !k else k))) ρ4 := by rw [wE]; rfl
theorem m_blt {b : Blt} {as : E} : wE (.blt b as) ρ Q = wA as ρ fun ws ρ1 => getCs ρ1 ws fun xs => blt b xs fun r => Q r ρ1 := by rw [wE]; rfl
theorem m_isa {a : E} {c : Ic} : wE (.isa a c) ρ Q = wE a ρ fun v ρ1 => getC ρ1 v fun x => onO (isa x c) fun k => Q (.dat (.bl k)) ρ1 := by
  rw [wE]
  unfold getC onO
  have : ∀ v ρ2, (∃ x k, cv ρ2 v = some x ∧ isa x c = some k ∧ Q (.dat (.bl k)) ρ2) = (∃ x, cv ρ2 v = some x ∧ ∃ k, isa x c = some k ∧ Q (.dat (.bl k)) ρ2) := fun v ρ2 => propext ⟨fun ⟨x, y, a, b, c⟩ => ⟨x, a, y, b, c⟩, fun ⟨x, a, y, b, c⟩ => ⟨x, y, a, b, c⟩⟩
  simp only [this]
theorem m_fld {c k : Nat} {a : E} : wE (.fld c k a) ρ Q = wE a ρ fun v ρ1 => onIns c v fun fs => onO fs[k]? fun d => Q (.dat d) ρ1 := by
  rw [wE]
  unfold onIns onO
  have : ∀ (v : W) (ρ2 : Ro), (∃ fs d, v = .dat (.ins c fs) ∧ fs[k]? = some d ∧ Q (.dat d) ρ2) = (∃ fs, v = .dat (.ins c fs) ∧ ∃ d, fs[k]? = some d ∧ Q (.dat d) ρ2) := fun v ρ2 => propext ⟨fun ⟨x, y, a, b, c⟩ => ⟨x, a, y, b, c⟩, fun ⟨x, a, y, b, c⟩ => ⟨x, y, a, b, c⟩⟩
  simp only [this]
theorem m_idx {a b : E} : wE (.idx a b) ρ Q = wE a ρ fun v ρ1 => wE b ρ1 fun w ρ2 => getC ρ2 w fun y => idx v ρ2 y fun r => Q r ρ2 := by rw [wE]; rfl
theorem m_slc00 {a : E} : wE (.slc a .nil .nil) ρ Q = wE a ρ fun v ρ1 => getC ρ1 v fun x => slc x none none fun r => Q r ρ1 := by rw [wE]; rfl
theorem m_slc10 {a lo : E} (h : lo.isNil = false) : wE (.slc a lo .nil) ρ Q = wE a ρ fun v ρ1 => wE lo ρ1 fun l ρ2 => onI l fun i => getC ρ2 v fun x => slc x (some i) none fun r => Q r ρ2 := by
  rw [wE, h]; rfl
theorem m_slc01 {a hi : E} (h : hi.isNil = false) : wE (.slc a .nil hi) ρ Q = wE a ρ fun v ρ1 => wE hi ρ1 fun l ρ2 => onI l fun i => getC ρ2 v fun x => slc x none (some i) fun r => Q r ρ2 := by
  rw [wE, h]; rfl
theorem isNil_int {n : Int} : (E.int n).isNil = false := rfl
theorem isNil_var {n : Nat} : (E.var n).isNil = false := rfl
theorem idx_brw {i : Nat} {y : Sl} {Q : W → Prop} : idx (.brw i) ρ y Q = onO (slOf ρ i) fun x => idxQ i x y Q := by
  unfold idx
  dsimp only
  cases slOf ρ i with
  | none => exact propext ⟨fun h => h.elim, fun ⟨_, e, _⟩ => by cases e⟩
  | some x =>
    rw [onO_some]
    cases x with
    | dat d => rfl
    | own t => cases t <;> rfl
theorem idx_dat {d : D} {y : Sl} {Q : W → Prop} : idx (.dat d) ρ y Q = idxC (.dat d) y Q := rfl
theorem idx_own {d : Ot} {y : Sl} {Q : W → Prop} : idx (.own d) ρ y Q = idxC (.own d) y Q := rfl
theorem idxQ_dat {i : Nat} {d : D} {y : Sl} {Q : W → Prop} : idxQ i (.dat d) y Q = idxC (.dat d) y Q := rfl
theorem idxQ_lst {i : Nat} {d : List D} {y : Sl} {Q : W → Prop} : idxQ i (.own (.lst d)) y Q = idxC (.own (.lst d)) y Q := rfl
theorem idxQ_dk {i : Nat} {ks : List Key} {d : List D} {y : Sl} {Q : W → Prop} : idxQ i (.own (.dk ks d)) y Q = idxC (.own (.dk ks d)) y Q := rfl
end
section
variable {Q : W → Prop}
theorem ix_gen {ds : List D} {i : Int} : (∃ j d, (Sl.dat (.int i)) = .dat (.int j) ∧ atI ds j = some d ∧ Q (.dat d)) = onO (atI ds i) fun d => Q (.dat d) := propext ⟨fun ⟨j, d, e, h, q⟩ => by cases e; exact ⟨d, h, q⟩, fun ⟨d, h, q⟩ => ⟨i, d, rfl, h, q⟩⟩
theorem ix_tupI {ds : List D} {i : Int} : idxC (.dat (.tup ds)) (.dat (.int i)) Q = onO (atI ds i) fun d => Q (.dat d) := ix_gen
theorem ix_lstI {ds : List D} {i : Int} : idxC (.dat (.lst ds)) (.dat (.int i)) Q = onO (atI ds i) fun d => Q (.dat d) := ix_gen
theorem ix_ownI {ds : List D} {i : Int} : idxC (.own (.lst ds)) (.dat (.int i)) Q = onO (atI ds i) fun d => Q (.dat d) := ix_gen
theorem at0 {α : Type} {a : α} {l : List α} : atI (a :: l) 0 = some a := by
  rw [show (0 : Int) = ((0 : Nat) : Int) from rfl]
  exact atI_nat rfl
theorem at1 {α : Type} {a b : α} {l : List α} : atI (a :: b :: l) 1 = some b := by
  rw [show (1 : Int) = ((1 : Nat) : Int) from rfl]
  exact atI_nat rfl
theorem at2 {α : Type} {a b c : α} {l : List α} : atI (a :: b :: c :: l) 2 = some c := by
  rw [show (2 : Int) = ((2 : Nat) : Int) from rfl]
  exact atI_nat rfl
theorem at3 {α : Type} {a b c d : α} {l : List α} : atI (a :: b :: c :: d :: l) 3 = some d := by
  rw [show (3 : Int) = ((3 : Nat) : Int) from rfl]
  exact atI_nat rfl
theorem gq0 {α : Type} {a : α} {l : List α} : (a :: l)[0]? = some a := rfl
theorem gqs {α : Type} {a : α} {l : List α} {n : Nat} : (a :: l)[n + 1]? = l[n]? := rfl
theorem sl_t {ds : List D} {l h : Option Int} : slc (.dat (.tup ds)) l h Q = Q (.dat (.tup (cutD ds l h))) := rfl
theorem sl_l {ds : List D} {l h : Option Int} : slc (.dat (.lst ds)) l h Q = Q (.own (.lst (cutD ds l h))) := rfl
theorem sl_o {ds : List D} {l h : Option Int} : slc (.own (.lst ds)) l h Q = Q (.own (.lst (cutD ds l h))) := rfl
theorem cut_from {ds : List D} {k : Nat} : cutD ds (some (k : Int)) none = ds.drop k := by
  unfold cutD
  rw [HT.sIx_nat, HT.sIx_none]
  by_cases h : k ≤ ds.length
  · rw [Nat.min_eq_left h, List.take_of_length_le]
    rw [List.length_drop]
    exact Nat.le_refl _
  · rw [Nat.min_eq_right (by omega), List.drop_eq_nil_of_le (Nat.le_refl _), List.drop_eq_nil_of_le (by omega), List.take_nil]
theorem cut_to {ds : List D} {k : Nat} : cutD ds none (some (k : Int)) = ds.take k := by
  unfold cutD
  rw [HT.sIx_nat, HT.sIx_none, List.drop_zero, Nat.sub_zero]
  by_cases h : k ≤ ds.length
  · rw [Nat.min_eq_left h]
  · rw [Nat.min_eq_right (by omega), List.take_of_length_le (Nat.le_refl _), List.take_of_length_le (by omega)]
theorem cut1 {ds : List D} : cutD ds (some 1) none = ds.drop 1 := cut_from (k := 1)
theorem cut2 {ds : List D} : cutD ds (some 2) none = ds.drop 2 := cut_from (k := 2)
theorem drop1 {d : D} {ds : List D} : (d :: ds).drop 1 = ds := rfl
theorem drop2 {d e : D} {ds : List D} : (d :: e :: ds).drop 2 = ds := rfl
theorem b_addL1 {xs ys : List D} : bin .add (.own (.lst xs)) (.own (.lst ys)) Q = (xs.length + ys.length ≤ sizeLine ∧ Q (.own (.lst (xs ++ ys)))) := rfl
theorem b_addL2 {xs ys : List D} : bin .add (.dat (.lst xs)) (.own (.lst ys)) Q = (xs.length + ys.length ≤ sizeLine ∧ Q (.own (.lst (xs ++ ys)))) := rfl
theorem b_addL3 {xs ys : List D} : bin .add (.own (.lst xs)) (.dat (.lst ys)) Q = (xs.length + ys.length ≤ sizeLine ∧ Q (.own (.lst (xs ++ ys)))) := rfl
theorem b_addL4 {xs ys : List D} : bin .add (.dat (.lst xs)) (.dat (.lst ys)) Q = (xs.length + ys.length ≤ sizeLine ∧ Q (.own (.lst (xs ++ ys)))) := rfl
theorem b_addT {xs ys : List D} : bin .add (.dat (.tup xs)) (.dat (.tup ys)) Q = (xs.length + ys.length ≤ sizeLine ∧ Q (.dat (.tup (xs ++ ys)))) := rfl
section
variable {K : Bool → Prop}
theorem q_lt {i j : Int} : cmp .lt (.dat (.int i)) (.dat (.int j)) K = K (decide (i < j)) := propext ⟨fun ⟨a, b, e, f, q⟩ => by cases e; cases f; exact q, fun q => ⟨i, j, rfl, rfl, q⟩⟩
theorem q_le {i j : Int} : cmp .le (.dat (.int i)) (.dat (.int j)) K = K (decide (i ≤ j)) := propext ⟨fun ⟨a, b, e, f, q⟩ => by cases e; cases f; exact q, fun q => ⟨i, j, rfl, rfl, q⟩⟩
theorem q_gt {i j : Int} : cmp .gt (.dat (.int i)) (.dat (.int j)) K = K (decide (j < i)) := propext ⟨fun ⟨a, b, e, f, q⟩ => by cases e; cases f; exact q, fun q => ⟨i, j, rfl, rfl, q⟩⟩
theorem q_ge {i j : Int} : cmp .ge (.dat (.int i)) (.dat (.int j)) K = K (decide (j ≤ i)) := propext ⟨fun ⟨a, b, e, f, q⟩ => by cases e; cases f; exact q, fun q => ⟨i, j, rfl, rfl, q⟩⟩
theorem q_eq {i j : Int} : cmp .eq (.dat (.int i)) (.dat (.int j)) K = K (decide (i = j)) := by
  unfold cmp
  dsimp only [Sl.toD, pyOf]
  rw [eqv_int]
  exact propext ⟨fun h => h.2.2, fun h => ⟨rfl, rfl, h⟩⟩
theorem q_ne {i j : Int} : cmp .ne (.dat (.int i)) (.dat (.int j)) K = K (!decide (i = j)) := by
  unfold cmp
  dsimp only [Sl.toD, pyOf]
  rw [eqv_int]
  exact propext ⟨fun h => h.2.2, fun h => ⟨rfl, rfl, h⟩⟩
end
theorem t_len_t {ds : List D} : blt .len [.dat (.tup ds)] Q = Q (.dat (.int ds.length)) := propext ⟨fun ⟨n, e, q⟩ => by cases e; exact q, fun q => ⟨_, rfl, q⟩⟩
theorem t_len_l {ds : List D} : blt .len [.dat (.lst ds)] Q = Q (.dat (.int ds.length)) := propext ⟨fun ⟨n, e, q⟩ => by cases e; exact q, fun q => ⟨_, rfl, q⟩⟩
theorem t_len_o {ds : List D} : blt .len [.own (.lst ds)] Q = Q (.dat (.int ds.length)) := propext ⟨fun ⟨n, e, q⟩ => by cases e; exact q, fun q => ⟨_, rfl, q⟩⟩
theorem t_len_s {ds : List Int} : blt .len [.dat (.scr ds)] Q = Q (.dat (.int ds.length)) := propext ⟨fun ⟨n, e, q⟩ => by cases e; exact q, fun q => ⟨_, rfl, q⟩⟩
theorem t_int {i : Int} : blt .int [.dat (.int i)] Q = Q (.dat (.int i)) := rfl
theorem t_intb {i : Bool} : blt .int [.dat (.bl i)] Q = Q (.dat (.int (if i then 1 else 0))) := rfl
theorem t_abs {i : Int} : blt .abs [.dat (.int i)] Q = Q (.dat (.int (if i < 0 then -i else i))) := rfl
theorem t_max2 {i j : Int} : blt .max2 [.dat (.int i), .dat (.int j)] Q = Q (.dat (.int (if j > i then j else i))) := rfl
theorem t_min2 {i j : Int} : blt .min2 [.dat (.int i), .dat (.int j)] Q = Q (.dat (.int (if j < i then j else i))) := rfl
theorem t_list_t {ds : List D} : blt .list [.dat (.tup ds)] Q = Q (.own (.lst ds)) := propext ⟨fun ⟨n, m, e, q⟩ => by cases e; exact q, fun q => ⟨_, _, rfl, q⟩⟩
theorem t_list_l {ds : List D} : blt .list [.dat (.lst ds)] Q = Q (.own (.lst ds)) := propext ⟨fun ⟨n, m, e, q⟩ => by cases e; exact q, fun q => ⟨_, _, rfl, q⟩⟩
theorem t_list_o {ds : List D} : blt .list [.own (.lst ds)] Q = Q (.own (.lst ds)) := propext ⟨fun ⟨n, m, e, q⟩ => by cases e; exact q, fun q => ⟨_, _, rfl, q⟩⟩
theorem t_tup_t {ds : List D} : blt .tuple [.dat (.tup ds)] Q = Q (.dat (.tup ds)) := propext ⟨fun ⟨n, m, e, q⟩ => by cases e; exact q, fun q => ⟨_, _, rfl, q⟩⟩
theorem t_tup_l {ds : List D} : blt .tuple [.dat (.lst ds)] Q = Q (.dat (.tup ds)) := propext ⟨fun ⟨n, m, e, q⟩ => by cases e; exact q, fun q => ⟨_, _, rfl, q⟩⟩
theorem t_tup_o {ds : List D} : blt .tuple [.own (.lst ds)] Q = Q (.dat (.tup ds)) := propext ⟨fun ⟨n, m, e, q⟩ => by cases e; exact q, fun q => ⟨_, _, rfl, q⟩⟩
theorem i_ii {i : Int} : isa (.dat (.int i)) .int = some true := rfl
theorem i_ib {i : Int} : isa (.dat (.int i)) .bool = some false := rfl
theorem i_tt {i : List D} : isa (.dat (.tup i)) .tuple = some true := rfl
theorem i_ll {i : List D} : isa (.dat (.lst i)) .list = some true := rfl
theorem i_ol {i : List D} : isa (.own (.lst i)) .list = some true := rfl
theorem i_cc {c : Nat} {i : List D} : isa (.dat (.ins c i)) (.cls c) = some true := if_pos rfl
theorem i_lc {c : Nat} {i : List D} : isa (.dat (.lst i)) (.cls c) = some false := rfl
theorem i_nc {c : Nat} : isa (.dat .non) (.cls c) = some false := rfl
end
section
variable {ρ : Ro} {Q : Ro → Prop}
theorem k_nm {i : Nat} {d : D} : take (.nm i) d ρ Q = Q (ρ.set i (some (.dat d))) := rfl
theorem k_tpn : take (.tp .nil) (.tup []) ρ Q = Q ρ := propext ⟨fun h => h.2, fun h => ⟨rfl, h⟩⟩
theorem k_n : take .nil (.tup []) ρ Q = Q ρ := propext ⟨fun h => h.2, fun h => ⟨rfl, h⟩⟩
theorem k_tpc {t r : Tg} {x : D} {xs : List D} : take (.tp (.cons t r)) (.tup (x :: xs)) ρ Q = take t x ρ fun ρ' => take r (.tup xs) ρ' Q := propext ⟨fun ⟨y, ys, e, h⟩ => by cases e; exact h, fun h => ⟨x, xs, rfl, h⟩⟩
theorem k_c {t r : Tg} {x : D} {xs : List D} : take (.cons t r) (.tup (x :: xs)) ρ Q = take t x ρ fun ρ' => take r (.tup xs) ρ' Q := propext ⟨fun ⟨y, ys, e, h⟩ => by cases e; exact h, fun h => ⟨x, xs, rfl, h⟩⟩
theorem p_dat {i : Nat} {d : D} : put1 i (.dat d) ρ Q = Q (ρ.set i (some (.dat d))) := rfl
theorem p_own {i : Nat} {t : Ot} : put1 i (.own t) ρ Q = Q (ρ.set i (some (.own t))) := rfl
theorem p_brw {i j : Nat} : put1 i (.brw j) ρ Q = frz (.brw j) ρ fun d ρ1 => Q (ρ1.set i (some (.dat d))) := rfl
theorem pa_nil : putAll [] [] ρ Q = Q ρ := rfl
theorem pa_own {i : Nat} {is : List Nat} {t : Ot} {ws : List W} : putAll (i :: is) (.own t :: ws) ρ Q = putAll is ws ρ fun ρ' => Q (ρ'.set i (some (.own t))) := rfl
theorem pa_dat {i : Nat} {is : List Nat} {d : D} {ws : List W} : putAll (i :: is) (.dat d :: ws) ρ Q = putAll is ws ρ fun ρ' => Q (ρ'.set i (some (.dat d))) := rfl
theorem pa_brw {i j : Nat} {is : List Nat} {ws : List W} : putAll (i :: is) (.brw j :: ws) ρ Q = frz (.brw j) ρ fun d ρ1 => putAll is ws ρ1 fun ρ' => Q (ρ'.set i (some (.dat d))) := rfl
end
section
variable {ρ : Ro} {Q : Src → Ro → Prop}
theorem z_f {k : Ik} {ws : List W} : walkZ false k ws ρ Q = walk k ws ρ Q := rfl
theorem z_t {k : Ik} {ws : List W} : walkZ true k ws ρ Q = frzs ws ρ fun ds ρ' => walk k (ds.map .dat) ρ' Q := rfl
theorem y_t {ds : List D} : walk .seq [.dat (.tup ds)] ρ Q = Q ⟨ds, none⟩ ρ := rfl
theorem y_l {ds : List D} : walk .seq [.dat (.lst ds)] ρ Q = Q ⟨ds, none⟩ ρ := rfl
theorem y_o {ds : List D} : walk .seq [.own (.lst ds)] ρ Q = Q ⟨ds, none⟩ ρ := rfl
def srcQ (i : Nat) (x : Sl) (ρ : Ro) (Q : Src → Ro → Prop) (u : St 0 Q := ()) : Prop := match x with
  | .own (.lst ds) => Q ⟨ds, some (i, .lst ds)⟩ ρ
  | .dat (.tup ds) => Q ⟨ds, none⟩ ρ
  | .dat (.lst ds) => Q ⟨ds, none⟩ ρ
  | _ => False
theorem y_b {i : Nat} : walk .seq [.brw i] ρ Q = onO (slOf ρ i) fun x => srcQ i x ρ Q := by
  show srcOf (.brw i) ρ Q = _
  unfold srcOf
  dsimp only
  cases slOf ρ i with
  | none => exact propext ⟨fun h => h.elim, fun ⟨_, e, _⟩ => by cases e⟩
  | some x =>
    rw [onO_some]
    unfold srcQ
    split <;> simp_all
theorem srcQ_o {i : Nat} {ds : List D} : srcQ i (.own (.lst ds)) ρ Q = Q ⟨ds, some (i, .lst ds)⟩ ρ := rfl
theorem srcQ_t {i : Nat} {ds : List D} : srcQ i (.dat (.tup ds)) ρ Q = Q ⟨ds, none⟩ ρ := rfl
theorem srcQ_l {i : Nat} {ds : List D} : srcQ i (.dat (.lst ds)) ρ Q = Q ⟨ds, none⟩ ρ := rfl
theorem y_r1 {j : Int} : walk .rng1 [.dat (.int j)] ρ Q = (small j ∧ Q ⟨rngD 0 j.toNat, none⟩ ρ) := propext ⟨fun ⟨a, e, h⟩ => by cases e; exact h, fun h => ⟨j, rfl, h⟩⟩
theorem y_r2 {i j : Int} : walk .rng2 [.dat (.int i), .dat (.int j)] ρ Q = ((small i ∧ small j) ∧ Q ⟨rngD i (j - i).toNat, none⟩ ρ) := propext ⟨fun ⟨a, b, e, f, h1, h2, h⟩ => by cases e; cases f; exact ⟨⟨h1, h2⟩, h⟩, fun h => ⟨i, j, rfl, rfl, h.1.1, h.1.2, h.2⟩⟩
theorem y_zt {xs ys : List D} : walk .zip [.dat (.tup xs), .dat (.tup ys)] ρ Q = Q ⟨(xs.zip ys).map pairD, none⟩ ρ := propext ⟨fun ⟨b, a, c, e, f, h⟩ => by cases e; cases f; exact h, fun h => ⟨false, xs, ys, rfl, rfl, h⟩⟩
theorem y_zl {xs ys : List D} : walk .zip [.dat (.lst xs), .dat (.lst ys)] ρ Q = Q ⟨(xs.zip ys).map pairD, none⟩ ρ := propext ⟨fun ⟨b, a, c, e, f, h⟩ => by cases e; cases f; exact h, fun h => ⟨true, xs, ys, rfl, rfl, h⟩⟩
theorem y_zm {v w : W} : walk .zip [v, w] ρ Q = frz v ρ fun d ρ1 => frz w ρ1 fun e ρ2 => walk .zip [.dat d, .dat e] ρ2 Q := by
  have h1 : ∀ {ρ : Ro} {v w : W}, walk .zip [v, w] ρ Q = ∃ b xs ys, frz v ρ fun d ρ1 => frz w ρ1 fun e ρ2 => sq (.dat d) = some (b, xs) ∧ sq (.dat e) = some (b, ys) ∧ Q ⟨(xs.zip ys).map pairD, none⟩ ρ2 := rfl
  rw [h1]
  simp only [h1]
  have fe : ∀ {α : Type} {w : W} {ρ : Ro} {R : α → D → Ro → Prop}, (∃ a, frz w ρ (R a)) = frz w ρ fun d ρ1 => ∃ a, R a d ρ1 := by
    intro α w ρ R
    cases w with
    | dat d => rfl
    | own t => rfl
    | brw i =>
      rw [frz_brw]; simp only [frz_brw]
      cases slOf ρ i with
      | none => exact propext ⟨fun ⟨_, _, e, _⟩ => (by cases e), fun ⟨_, e, _⟩ => (by cases e)⟩
      | some x => simp only [onO_some]; cases x <;> rfl
    | br2 i k => exact propext ⟨fun ⟨_, h⟩ => h.elim, fun h => h.elim⟩
  simp only [fe, frz_dat]
theorem y_el {ds : List D} : walk .enum [.dat (.lst ds)] ρ Q = Q ⟨enumD ds, none⟩ ρ := propext ⟨fun ⟨a, e, ⟨x, f, g⟩, h⟩ => by subst e; exact h, fun h => ⟨ds, rfl, ⟨_, rfl, rfl⟩, h⟩⟩
theorem y_eo {ds : List D} : walk .enum [.own (.lst ds)] ρ Q = Q ⟨enumD ds, none⟩ ρ := propext ⟨fun ⟨a, e, ⟨x, f, g⟩, h⟩ => by subst e; exact h, fun h => ⟨ds, rfl, ⟨_, rfl, rfl⟩, h⟩⟩
theorem gdN_n {ds : List D} {A : Prop} : gdN ⟨ds, none⟩ A = A := propext ⟨fun h => h.2, fun h => ⟨rfl, h⟩⟩
theorem gdOk_n : gdOk none ρ = True := rfl
theorem gdOk_s {i : Nat} {t : Ot} : gdOk (some (i, t)) ρ = (slOf ρ i = some (.own t)) := rfl
theorem wip_n : wip ρ [] = ρ := rfl
theorem wip_c {v : Nat} {vs : List Nat} : wip ρ (v :: vs) = (wip ρ vs).set v none := rfl
theorem unwip_n {old : Ro} : unwip old [] ρ = ρ := rfl
theorem unwip_c {old : Ro} {v : Nat} {vs : List Nat} : unwip old (v :: vs) ρ = (unwip old vs ρ).set v (datO (slOf old v)) := by
  rw [unwip]
  rfl
theorem datO_n : datO none = none := rfl
theorem datO_d {d : D} : datO (some (.dat d)) = some (.dat d) := rfl
theorem datO_o {d : Ot} : datO (some (.own d)) = none := rfl
end
section
variable {D : En} {ρ : Ro}
theorem n_asg {i : Nat} {e : E} : wS (.asg (.nm i) e) D ρ = wE e ρ fun w ρ1 => put1 i w ρ1 D.nx := by rw [wS]; rfl
theorem n_asgT {t : Tg} {e : E} : wS (.asg (.tp t) e) D ρ = wE e ρ fun w ρ1 => frz w ρ1 fun d ρ2 => take (.tp t) d ρ2 D.nx := by rw [wS]
theorem n_pars {is : List Nat} {as : E} : wS (.pars is as) D ρ = wA as ρ fun ws ρ1 => putAll is ws ρ1 D.nx := by rw [wS]
theorem n_ite {c : E} {a b : Sm} : wS (.ite c a b) D ρ = wE c ρ fun v ρ1 => onB v fun k => cnd k (wS a D ρ1) (wS b D ρ1) := by rw [wS]; rfl
theorem n_for {t : Tg} {k : Ik} {as : E} {b : Sm} : wS (.for t k as b) D ρ = wA as ρ fun ws ρ1 => walkZ true k ws ρ1 fun s ρ2 => gdN s (fors (fun d ρ3 D1 => take t d ρ3 fun ρ4 => wS b D1 ρ4) D s.items ρ2) := by rw [wS]; rfl
theorem n_drop {e : E} : wS (.drop e) D ρ = wE e ρ fun _ ρ1 => D.nx ρ1 := by rw [wS]
theorem isL_eq {i : Nat} : isL ρ i = onO (slOf ρ i) fun x => ∃ ds, x = .own (.lst ds) := propext ⟨fun ⟨ds, h⟩ => ⟨_, h, ds, rfl⟩, fun ⟨x, h, ds, e⟩ => ⟨ds, by rw [h, e]⟩⟩
def ownL (x : Sl) (K : List Cw.D → Prop) (u : St 0 K := ()) : Prop := ∃ ds, x = .own (.lst ds) ∧ K ds
theorem ownL_o {ds : List Cw.D} {K : List Cw.D → Prop} : ownL (.own (.lst ds)) K = K ds := propext ⟨fun ⟨y, e, h⟩ => by cases e; exact h, fun h => ⟨_, rfl, h⟩⟩
theorem slL {ρ : Ro} {i : Nat} {K : List Cw.D → Prop} : (∃ ds, slOf ρ i = some (.own (.lst ds)) ∧ K ds) = onO (slOf ρ i) fun x => ownL x K := propext ⟨fun ⟨ds, h, k⟩ => ⟨_, h, ds, rfl, k⟩, fun ⟨x, h, ds, e, k⟩ => ⟨ds, by rw [h, e], k⟩⟩
theorem slL0 {ρ : Ro} {i : Nat} {A : Prop} : (isL ρ i ∧ A) = onO (slOf ρ i) fun x => ownL x fun _ => A := propext ⟨fun ⟨⟨ds, h⟩, k⟩ => ⟨_, h, ds, rfl, k⟩, fun ⟨x, h, ds, e, k⟩ => ⟨⟨ds, by rw [h, e]⟩, k⟩⟩
theorem n_app {i : Nat} {e : E} : wS (.app i e) D ρ = onO (slOf ρ i) fun x => ownL x fun _ => wE e ρ fun w ρ1 => frz w ρ1 fun d ρ2 => onO (slOf ρ2 i) fun x => ownL x fun ds => ds.length < sizeLine ∧ D.nx (ρ2.set i (some (.own (.lst (ds ++ [d]))))) := by
  rw [wS]
  simp only [slL]
  rw [slL0]
theorem n_ext {i : Nat} {e : E} : wS (.ext i e) D ρ = onO (slOf ρ i) fun x => ownL x fun _ => wE e ρ fun w ρ1 => getC ρ1 w fun x => onO (slOf ρ1 i) fun z => ownL z fun ds => ∃ es, sq x = some (true, es) ∧ ds.length + es.length ≤ sizeLine ∧ D.nx (ρ1.set i (some (.own (.lst (ds ++ es))))) := by
  rw [wS]
  have : ∀ w ρ1, (∃ x ds es, cv ρ1 w = some x ∧ sq x = some (true, es) ∧ slOf ρ1 i = some (.own (.lst ds)) ∧ ds.length + es.length ≤ sizeLine ∧ D.nx (ρ1.set i (some (.own (.lst (ds ++ es)))))) = (getC ρ1 w fun x => onO (slOf ρ1 i) fun z => ownL z fun ds => ∃ es, sq x = some (true, es) ∧ ds.length + es.length ≤ sizeLine ∧ D.nx (ρ1.set i (some (.own (.lst (ds ++ es)))))) := fun w ρ1 =>
    propext ⟨fun ⟨x, ds, es, a, b, c, d, e⟩ => ⟨x, a, _, c, ds, rfl, es, b, d, e⟩, fun ⟨x, a, z, c, ds, ez, es, b, d, e⟩ => ⟨x, ds, es, a, b, by rw [c, ez], d, e⟩⟩
  simp only [this]
  rw [slL0]
theorem n_clr {i : Nat} : wS (.clr i) D ρ = onO (slOf ρ i) fun x => ownL x fun ds => D.nx (ρ.set i (some (.own (.lst [])))) := by
  rw [wS, slL]
theorem n_rev {i : Nat} : wS (.rev i) D ρ = onO (slOf ρ i) fun x => ownL x fun ds => D.nx (ρ.set i (some (.own (.lst ds.reverse)))) := by
  rw [wS, slL]
def natI (x : W) (K : Nat → Prop) (u : St 0 K := ()) : Prop := ∃ k : Nat, x = .dat (.int k) ∧ K k
theorem natI_n {k : Nat} {K : Nat → Prop} : natI (.dat (.int k)) K = K k := propext ⟨fun ⟨y, e, h⟩ => by
  have : (k : Int) = (y : Int) := by injection e with e; injection e
  have : k = y := by omega
  subst this; exact h, fun h => ⟨_, rfl, h⟩⟩
theorem natI_0 {K : Nat → Prop} : natI (.dat (.int 0)) K = K 0 := natI_n (k := 0)
theorem natI_1 {K : Nat → Prop} : natI (.dat (.int 1)) K = K 1 := natI_n (k := 1)
theorem natI_2 {K : Nat → Prop} : natI (.dat (.int 2)) K = K 2 := natI_n (k := 2)
theorem n_setl {i : Nat} {a e : E} : wS (.setl i a e) D ρ = wE e ρ fun w ρ1 => frz w ρ1 fun d ρ2 => onO (slOf ρ2 i) fun x => ownL x fun _ => wE a ρ2 fun x ρ3 => natI x fun k => onO (slOf ρ3 i) fun z => ownL z fun ds => k < ds.length ∧ D.nx (ρ3.set i (some (.own (.lst (ds.set k d))))) := by
  rw [wS]
  have : ∀ (x : W) (ρ3 : Ro) (d : Cw.D), (∃ ds, ∃ k : Nat, slOf ρ3 i = some (.own (.lst ds)) ∧ x = .dat (.int k) ∧ k < ds.length ∧ D.nx (ρ3.set i (some (.own (.lst (ds.set k d)))))) = (natI x fun k => onO (slOf ρ3 i) fun z => ownL z fun ds => k < ds.length ∧ D.nx (ρ3.set i (some (.own (.lst (ds.set k d)))))) := fun x ρ3 d =>
    propext ⟨fun ⟨ds, k, a, b, c, e⟩ => ⟨k, b, _, a, ds, rfl, c, e⟩, fun ⟨k, b, _, a, ds, ez, c, e⟩ => ⟨ds, k, by rw [a, ez], b, c, e⟩⟩
  simp only [this, slL0]
theorem n_aug {i : Nat} {op : Bop} {e : E} : wS (.aug i op e) D ρ = onO (slOf ρ i) fun x => ∃ a, x = .dat (.int a) ∧ wE e ρ fun w ρ1 => onI w fun b => match op with
      | .add => D.nx (ρ1.set i (some (.dat (.int (a + b)))))
      | .sub => D.nx (ρ1.set i (some (.dat (.int (a - b)))))
      | _ => False := by
  rw [wS]
  refine propext ⟨fun ⟨a, h, k⟩ => ⟨_, h, a, rfl, ?_⟩, fun ⟨x, h, a, e, k⟩ => ⟨a, by rw [h, e], ?_⟩⟩
  · exact k
  · exact k
theorem n_ret {e : E} : wS (.ret e) D ρ = wE e ρ D.rt := by rw [wS]
theorem n_retN : wS .retN D ρ = D.rt (.dat .non) ρ := by rw [wS]
theorem n_brk : wS .brk D ρ = D.bk ρ := by rw [wS]
theorem n_cont : wS .cont D ρ = D.ct ρ := by rw [wS]
theorem n_pass : wS .pass D ρ = D.nx ρ := by rw [wS]
theorem n_nil : wS .nil D ρ = D.nx ρ := by rw [wS]
theorem n_cons {a r : Sm} : wS (.cons a r) D ρ = wS a { D with nx := fun ρ1 => wS r D ρ1 } ρ := by rw [wS]
theorem n_appT {e a : E} : wS (.appT e a) D ρ = wE e ρ fun w ρ1 => ∃ ds, w = .own (.lst ds) ∧ ds.length < sizeLine ∧ wE a ρ1 fun x ρ2 => frz x ρ2 fun _ ρ3 => D.nx ρ3 := by rw [wS]
theorem n_revT {e : E} : wS (.revT e) D ρ = wE e ρ fun w ρ1 => ∃ ds, w = .own (.lst ds) ∧ D.nx ρ1 := by rw [wS]
end
section
variable {n : Nat} {ρ : Ro} {Q : Sl → Prop}
theorem r_dat {d : D} : resOf n (.dat d) ρ Q = Q (.dat d) := rfl
theorem r_own {t : Ot} : resOf n (.own t) ρ Q = Q (.own t) := rfl
theorem o_dat {d : D} : ofSl (.dat d) = .dat d := rfl
theorem o_own {d : Ot} : ofSl (.own d) = .own d := rfl
end
/-- [e for t in ..], over typed items -/
theorem lcg_mapA {α : Type} {enc : α → D} {turn : D → List D → Ro → (List D → Ro → Prop) → Prop} {vs : List Nat} {g : Option (Nat × Ot)} {R : Ro} {f : α → Option D} {Q : List D → Ro → Prop} (hg : gdOk g R) : ∀ {xs : List α} {acc : List D}, acc.length + xs.length ≤ sizeLine →
    (∀ d ∈ xs, ∀ (acc : List D) (K : List D → Ro → Prop), acc.length < sizeLine → (∀ ρ', wip ρ' vs = R → K (acc ++ (f d).toList) ρ') → turn (enc d) acc R K) → Q (acc ++ xs.filterMap f) R → lcg turn vs g (xs.map enc) acc R Q
  | [], acc, _, _, h => ⟨hg, by simpa using h⟩
  | d :: ds, acc, hl, ht, h => by
    have hl : acc.length + (ds.length + 1) ≤ sizeLine := hl
    refine ⟨hg, ht d List.mem_cons_self acc _ (by omega) fun ρ' e => ?_⟩
    rw [e]
    refine lcg_mapA hg ?_ (fun d' m => ht d' (List.mem_cons_of_mem _ m)) ?_
    · rw [List.length_append]
      have : (f d).toList.length ≤ 1 := by cases f d <;> simp
      omega
    · rw [List.append_assoc]
      cases e : f d with
      | none => simpa [List.filterMap_cons, e] using h
      | some x => simpa [List.filterMap_cons, e] using h
/-- the walked items are typed ones -/
structure Its {α : Type} (s : Src) (ρ : Ro) (enc : α → D) (xs : List α) : Prop where
  it : s.items = xs.map enc
  gd : gdOk s.gd ρ
  ln : xs.length ≤ sizeLine
def lcStep {α : Type} (t : Tg) (e : E) (vs : List Nat) (R : Ro) (enc : α → D) (g : α → D) (x : α) : Prop := take t (enc x) R fun ρ4 => wE e ρ4 fun y ρ6 => frz y ρ6 fun d' ρ7 => d' = g x ∧ wip ρ7 vs = R
theorem w_lcm {α : Type} (g : α → D) {vs : List Nat} {t : Tg} {k : Ik} {as e : E} {ρ : Ro} {Q : W → Ro → Prop} (h : wA as ρ fun ws ρ1 => walkZ false k ws ρ1 fun s ρ2 => ∃ (enc : α → D) (xs : List α), Its s (wip ρ2 vs) enc xs ∧ (∀ x ∈ xs, lcStep t e vs (wip ρ2 vs) enc g x) ∧ Q (.own (.lst (xs.map g))) (unwip ρ2 vs (wip ρ2 vs))) : wE (.lc vs t k as (.bl true) e) ρ Q := by
  unfold wE
  refine wA_mono as _ _ _ (fun ws ρ1 h => walkZ_mono (fun s ρ2 h => ?_) h) h
  obtain ⟨enc, xs, ⟨hi, hg, hl⟩, ht, hq⟩ := h
  rw [hi]
  refine lcg_mapA (f := fun x => some (g x)) hg (by simpa using hl) (fun d m acc K ha k => take_mono (fun ρ4 q => ?_) (ht d m)) (by simpa [List.filterMap_eq_map'] using hq)
  rw [e_bl]
  refine ⟨true, rfl, ?_⟩
  rw [if_pos rfl]
  exact wE_mono e _ _ _ (fun y ρ6 q => frz_mono (fun d' ρ7 z => ⟨ha, by rw [z.1]; exact k ρ7 z.2⟩) q) q
def lcfStep {α : Type} (t : Tg) (c e : E) (vs : List Nat) (R : Ro) (enc : α → D) (f : α → Option D) (x : α) : Prop := take t (enc x) R fun ρ4 => wE c ρ4 fun v ρ5 => onB v fun j => cnd j (wE e ρ5 fun y ρ6 => frz y ρ6 fun d' ρ7 => f x = some d' ∧ wip ρ7 vs = R) (f x = none ∧ wip ρ5 vs = R)
theorem w_lcfm {α : Type} (f : α → Option D) {vs : List Nat} {t : Tg} {k : Ik} {as c e : E} {ρ : Ro} {Q : W → Ro → Prop} (h : wA as ρ fun ws ρ1 => walkZ false k ws ρ1 fun s ρ2 => ∃ (enc : α → D) (xs : List α), Its s (wip ρ2 vs) enc xs ∧ (∀ x ∈ xs, lcfStep t c e vs (wip ρ2 vs) enc f x) ∧ Q (.own (.lst (xs.filterMap f))) (unwip ρ2 vs (wip ρ2 vs))) : wE (.lc vs t k as c e) ρ Q := by
  unfold wE
  refine wA_mono as _ _ _ (fun ws ρ1 h => walkZ_mono (fun s ρ2 h => ?_) h) h
  obtain ⟨enc, xs, ⟨hi, hg, hl⟩, ht, hq⟩ := h
  rw [hi]
  refine lcg_mapA (f := f) hg (by simpa using hl) (fun d m acc K ha k => take_mono (fun ρ4 q => ?_) (ht d m)) (by simpa using hq)
  refine wE_mono c _ _ _ (fun v ρ5 ⟨j, e1, q⟩ => ⟨j, e1, ?_⟩) q
  cases j with
  | true =>
    rw [if_pos rfl]
    rw [cnd_t] at q
    exact wE_mono e _ _ _ (fun y ρ6 q => frz_mono (fun d' ρ7 z => ⟨ha, by have := k ρ7 z.2; rw [z.1] at this; exact this⟩) q) q
  | false =>
    rw [if_neg Bool.false_ne_true]
    rw [cnd_f] at q
    have := k ρ5 q.2
    rw [q.1] at this
    simpa using this
/-- a for statement over typed items, by what holds behind a part of them -/
theorem fors_pre {α : Type} {enc : α → D} {turn : D → Ro → En → Prop} (mono : ∀ d ρ D E, En.le D E → turn d ρ D → turn d ρ E) {Z : En} {xs : List α} (I : List α → Ro → Prop) (step : ∀ pre x post, xs = pre ++ x :: post → ∀ ρ, I pre ρ → turn (enc x) ρ { nx := I (pre ++ [x]), ct := I (pre ++ [x]), bk := Z.nx, rt := Z.rt }) (fin : ∀ ρ, I xs ρ → Z.nx ρ) {ρ : Ro} (h : I [] ρ) : fors turn Z (xs.map enc) ρ := by
  have gen : ∀ (ds pre : List α) (ρ : Ro), xs = pre ++ ds → I pre ρ → fors turn Z (ds.map enc) ρ := by
    intro ds
    induction ds with
    | nil =>
      intro pre ρ e h
      refine fin ρ ?_
      rw [e, List.append_nil]; exact h
    | cons d ds ih =>
      intro pre ρ e h
      have nx : ∀ ρ', I (pre ++ [d]) ρ' → fors turn Z (ds.map enc) ρ' := fun ρ' h' => ih (pre ++ [d]) ρ' (by rw [e]; simp) h'
      exact mono (enc d) ρ { nx := I (pre ++ [d]), ct := I (pre ++ [d]), bk := Z.nx, rt := Z.rt } _ ⟨nx, fun _ _ q => q, fun _ q => q, nx⟩ (step pre d ds e ρ h)
  exact gen xs [] ρ rfl h
theorem fors_nil {turn : D → Ro → En → Prop} {Z : En} {ρ : Ro} : fors turn Z [] ρ = Z.nx ρ := rfl
theorem fors_cons {turn : D → Ro → En → Prop} {Z : En} {ρ : Ro} {d : D} {ds : List D} : fors turn Z (d :: ds) ρ = turn d ρ { nx := fors turn Z ds, ct := fors turn Z ds, bk := Z.nx, rt := Z.rt } := rfl
end Cw
/-! Cw: the machine: the same wishes with a mark, so that a rewriting does not look into what comes later. -/
namespace Cw
open PySem PySem.Spec PyProof.Rows L2
def xE (e : E) (ρ : Ro) (Q : W → Ro → Prop) (u : St e Q := ()) : Prop := wE e ρ Q
def xA (e : E) (ρ : Ro) (Q : List W → Ro → Prop) (u : St e Q := ()) : Prop := wA e ρ Q
def xS (b : Sm) (Z : En) (ρ : Ro) (u : St b Z := ()) : Prop := wS b Z ρ
def xz (w : W) (ρ : Ro) (Q : D → Ro → Prop) (u : St 0 Q := ()) : Prop := frz w ρ Q
def xzs (w : List W) (ρ : Ro) (Q : List D → Ro → Prop) (u : St 0 Q := ()) : Prop := frzs w ρ Q
def xC (F : Fn) (w : List W) (ρ : Ro) (Q : W → Ro → Prop) (u : St F Q := ()) : Prop := callF F w ρ Q
def xt (t : Tg) (d : D) (ρ : Ro) (Q : Ro → Prop) (u : St t Q := ()) : Prop := take t d ρ Q
def xb (o : Bop) (x y : Sl) (Q : W → Prop) (u : St o Q := ()) : Prop := bin o x y Q
def xc (o : Cop) (x y : Sl) (Q : Bool → Prop) (u : St o Q := ()) : Prop := cmp o x y Q
def xl (o : Blt) (x : List Sl) (Q : W → Prop) (u : St o Q := ()) : Prop := blt o x Q
def xi (w : W) (ρ : Ro) (y : Sl) (Q : W → Prop) (u : St 0 Q := ()) : Prop := idx w ρ y Q
def xj (x y : Sl) (Q : W → Prop) (u : St 0 Q := ()) : Prop := idxC x y Q
def xsl (x : Sl) (l h : Option Int) (Q : W → Prop) (u : St 0 Q := ()) : Prop := slc x l h Q
def xw (k : Ik) (ws : List W) (ρ : Ro) (Q : Src → Ro → Prop) (u : St k Q := ()) : Prop := walk k ws ρ Q
def xwz (z : Bool) (k : Ik) (ws : List W) (ρ : Ro) (Q : Src → Ro → Prop) (u : St k Q := ()) : Prop := walkZ z k ws ρ Q
def xf (turn : D → Ro → En → Prop) (Z : En) (ds : List D) (ρ : Ro) (u : St turn Z := ()) : Prop := fors turn Z ds ρ
def xp (is : List Nat) (ws : List W) (ρ : Ro) (Q : Ro → Prop) (u : St is Q := ()) : Prop := putAll is ws ρ Q
theorem x_m_var {ρ : Ro} {Q : W → Ro → Prop} {i : Nat} : xE (.var i) ρ Q = onO (slOf ρ i) fun x => varQ i x ρ Q := m_var
theorem x_m_bin {ρ : Ro} {Q : W → Ro → Prop} {op : Bop} {a b : E} : xE (.bin op a b) ρ Q = xE a ρ fun v ρ1 => xE b ρ1 fun w ρ2 => getC ρ2 v fun x => getC ρ2 w fun y => xb op x y fun r => Q r ρ2 := m_bin
theorem x_m_neg {ρ : Ro} {Q : W → Ro → Prop} {a : E} : xE (.neg a) ρ Q = xE a ρ fun v ρ1 => getC ρ1 v fun x => ∃ i, x = .dat (.int i) ∧ Q (.dat (.int (-i))) ρ1 := m_neg
theorem x_m_cmp {ρ : Ro} {Q : W → Ro → Prop} {op : Cop} {a b : E} : xE (.cmp op a b) ρ Q = xE a ρ fun v ρ1 => xE b ρ1 fun w ρ2 => getC ρ2 v fun x => getC ρ2 w fun y => xc op x y fun r => Q (.dat (.bl r)) ρ2 := m_cmp
theorem x_m_chn {ρ : Ro} {Q : W → Ro → Prop} {o p : Cop} {a b c : E} : xE (.chn o p a b c) ρ Q = xE a ρ fun v ρ1 => xE b ρ1 fun w ρ2 => getC ρ2 v fun x => getC ρ2 w fun y => xc o x y fun r =>
      cnd r (xE c ρ2 fun u ρ3 => getC ρ3 w fun y' => getC ρ3 u fun z => xc p y' z fun r' => Q (.dat (.bl r')) ρ3) (Q (.dat (.bl false)) ρ2) := m_chn
theorem x_m_and {ρ : Ro} {Q : W → Ro → Prop} {a b : E} : xE (.and a b) ρ Q = xE a ρ fun v ρ1 => onB v fun k => cnd k (xE b ρ1 fun w ρ2 => onB w fun _ => Q w ρ2) (Q (.dat (.bl false)) ρ1) := m_and
theorem x_m_or {ρ : Ro} {Q : W → Ro → Prop} {a b : E} : xE (.or a b) ρ Q = xE a ρ fun v ρ1 => onB v fun k => cnd k (Q (.dat (.bl true)) ρ1) (xE b ρ1 fun w ρ2 => onB w fun _ => Q w ρ2) := m_or
theorem x_m_not {ρ : Ro} {Q : W → Ro → Prop} {a : E} : xE (.not a) ρ Q = xE a ρ fun v ρ1 => onB v fun k => Q (.dat (.bl (!k))) ρ1 := m_not
theorem x_m_ite {ρ : Ro} {Q : W → Ro → Prop} {c a b : E} : xE (.ite c a b) ρ Q = xE c ρ fun v ρ1 => onB v fun k => cnd k (xE a ρ1 Q) (xE b ρ1 Q) := m_ite
theorem x_m_tup {ρ : Ro} {Q : W → Ro → Prop} {as : E} : xE (.tup as) ρ Q = xA as ρ fun ws ρ1 => xzs ws ρ1 fun ds ρ2 => lenOk ds (Q (.dat (.tup ds)) ρ2) := m_tup
theorem x_m_lst {ρ : Ro} {Q : W → Ro → Prop} {as : E} : xE (.lst as) ρ Q = xA as ρ fun ws ρ1 => xzs ws ρ1 fun ds ρ2 => lenOk ds (Q (.own (.lst ds)) ρ2) := m_lst
theorem x_m_meth {ρ : Ro} {Q : W → Ro → Prop} {F : Fn} {c : Nat} {a as : E} : xE (.meth F c a as) ρ Q = xE a ρ fun v ρ1 => onIns c v fun _ => xA as ρ1 fun ws ρ2 => xC F (v :: ws) ρ2 Q := m_meth
theorem x_m_prop {ρ : Ro} {Q : W → Ro → Prop} {F : Fn} {c : Nat} {a : E} : xE (.prop F c a) ρ Q = xE a ρ fun v ρ1 => onIns c v fun _ => xC F [v] ρ1 Q := m_prop
theorem x_m_eqw {ρ : Ro} {Q : W → Ro → Prop} {n : Bool} {F : Fn} {c : Nat} {a b : E} : xE (.eqw n F c a b) ρ Q = xE a ρ fun v ρ1 => xE b ρ1 fun w ρ2 => onIns c v fun _ => xz w ρ2 fun d ρ3 => noScr d = true ∧ xC F [v, .dat d] ρ3 fun r ρ4 => onB r fun k => Q (.dat (.bl (if n then !k else k))) ρ4 := m_eqw
theorem x_m_blt {ρ : Ro} {Q : W → Ro → Prop} {b : Blt} {as : E} : xE (.blt b as) ρ Q = xA as ρ fun ws ρ1 => getCs ρ1 ws fun xs => xl b xs fun r => Q r ρ1 := m_blt
theorem x_m_isa {ρ : Ro} {Q : W → Ro → Prop} {a : E} {c : Ic} : xE (.isa a c) ρ Q = xE a ρ fun v ρ1 => getC ρ1 v fun x => onO (isa x c) fun k => Q (.dat (.bl k)) ρ1 := m_isa
theorem x_m_fld {ρ : Ro} {Q : W → Ro → Prop} {c k : Nat} {a : E} : xE (.fld c k a) ρ Q = xE a ρ fun v ρ1 => onIns c v fun fs => onO fs[k]? fun d => Q (.dat d) ρ1 := m_fld
theorem x_m_idx {ρ : Ro} {Q : W → Ro → Prop} {a b : E} : xE (.idx a b) ρ Q = xE a ρ fun v ρ1 => xE b ρ1 fun w ρ2 => getC ρ2 w fun y => xi v ρ2 y fun r => Q r ρ2 := m_idx
theorem x_m_slc00 {ρ : Ro} {Q : W → Ro → Prop} {a : E} : xE (.slc a .nil .nil) ρ Q = xE a ρ fun v ρ1 => getC ρ1 v fun x => xsl x none none fun r => Q r ρ1 := m_slc00
theorem x_m_slc10 {ρ : Ro} {Q : W → Ro → Prop} {a lo : E} (h : lo.isNil = false) : xE (.slc a lo .nil) ρ Q = xE a ρ fun v ρ1 => xE lo ρ1 fun l ρ2 => onI l fun i => getC ρ2 v fun x => xsl x (some i) none fun r => Q r ρ2 := m_slc10 h
theorem x_m_slc01 {ρ : Ro} {Q : W → Ro → Prop} {a hi : E} (h : hi.isNil = false) : xE (.slc a .nil hi) ρ Q = xE a ρ fun v ρ1 => xE hi ρ1 fun l ρ2 => onI l fun i => getC ρ2 v fun x => xsl x none (some i) fun r => Q r ρ2 := m_slc01 h
theorem x_sl_t {Q : W → Prop} {ds : List D} {l h : Option Int} : xsl (.dat (.tup ds)) l h Q = Q (.dat (.tup (cutD ds l h))) := sl_t
theorem x_sl_l {Q : W → Prop} {ds : List D} {l h : Option Int} : xsl (.dat (.lst ds)) l h Q = Q (.own (.lst (cutD ds l h))) := sl_l
theorem x_sl_o {Q : W → Prop} {ds : List D} {l h : Option Int} : xsl (.own (.lst ds)) l h Q = Q (.own (.lst (cutD ds l h))) := sl_o
theorem x_e_int {ρ : Ro} {Q : W → Ro → Prop} {n : Int} : xE (.int n) ρ Q = Q (.dat (.int n)) ρ := e_int
theorem x_e_bl {ρ : Ro} {Q : W → Ro → Prop} {n : Bool} : xE (.bl n) ρ Q = Q (.dat (.bl n)) ρ := e_bl
theorem x_e_non {ρ : Ro} {Q : W → Ro → Prop} : xE .non ρ Q = Q (.dat .non) ρ := e_non
theorem x_e_str {ρ : Ro} {Q : W → Ro → Prop} {s : Str} : xE (.str s) ρ Q = Q (.dat (.str s)) ρ := e_str
theorem x_e_call {ρ : Ro} {Q : W → Ro → Prop} {F : Fn} {as : E} : xE (.call F as) ρ Q = xA as ρ fun ws ρ1 => xC F ws ρ1 Q := e_call
theorem x_a_nil {ρ : Ro} {QA : List W → Ro → Prop} : xA .nil ρ QA = QA [] ρ := a_nil'
theorem x_a_cons {ρ : Ro} {QA : List W → Ro → Prop} {a r : E} : xA (.cons a r) ρ QA = xE a ρ fun v ρ1 => xA r ρ1 fun vs ρ2 => QA (v :: vs) ρ2 := a_cons'
theorem x_e_dnew {ρ : Ro} {Q : W → Ro → Prop} : xE .dnew ρ Q = Q (.own (.dk [] [])) ρ := e_dnew
theorem x_frz_dat {ρ : Ro} {d : D} {Q : D → Ro → Prop} : xz (.dat d) ρ Q = Q d ρ := frz_dat
theorem x_frz_own {ρ : Ro} {d : Ot} {Q : D → Ro → Prop} : xz (.own d) ρ Q = Q d.toD ρ := frz_own
theorem x_frz_brw {ρ : Ro} {i : Nat} {Q : D → Ro → Prop} : xz (.brw i) ρ Q = onO (slOf ρ i) fun x => frzQ i x ρ Q := frz_brw
theorem x_frzs_nil {ρ : Ro} {Q : List D → Ro → Prop} : xzs [] ρ Q = Q [] ρ := frzs_nil
theorem x_frzs_cons {ρ : Ro} {w : W} {ws : List W} {Q : List D → Ro → Prop} : xzs (w :: ws) ρ Q = xz w ρ fun d ρ1 => xzs ws ρ1 fun ds ρ2 => Q (d :: ds) ρ2 := frzs_cons
theorem x_idx_brw {ρ : Ro} {i : Nat} {y : Sl} {Q : W → Prop} : xi (.brw i) ρ y Q = onO (slOf ρ i) fun x => idxQ i x y Q := idx_brw
theorem x_idx_dat {ρ : Ro} {d : D} {y : Sl} {Q : W → Prop} : xi (.dat d) ρ y Q = xj (.dat d) y Q := idx_dat
theorem x_idx_own {ρ : Ro} {d : Ot} {y : Sl} {Q : W → Prop} : xi (.own d) ρ y Q = xj (.own d) y Q := idx_own
theorem x_idxQ_dat {i : Nat} {d : D} {y : Sl} {Q : W → Prop} : idxQ i (.dat d) y Q = xj (.dat d) y Q := idxQ_dat
theorem x_idxQ_lst {i : Nat} {d : List D} {y : Sl} {Q : W → Prop} : idxQ i (.own (.lst d)) y Q = xj (.own (.lst d)) y Q := idxQ_lst
theorem x_idxQ_dk {i : Nat} {ks : List Key} {d : List D} {y : Sl} {Q : W → Prop} : idxQ i (.own (.dk ks d)) y Q = xj (.own (.dk ks d)) y Q := idxQ_dk
theorem x_ix_tupI {Q : W → Prop} {ds : List D} {i : Int} : xj (.dat (.tup ds)) (.dat (.int i)) Q = onO (atI ds i) fun d => Q (.dat d) := ix_tupI
theorem x_ix_lstI {Q : W → Prop} {ds : List D} {i : Int} : xj (.dat (.lst ds)) (.dat (.int i)) Q = onO (atI ds i) fun d => Q (.dat d) := ix_lstI
theorem x_ix_ownI {Q : W → Prop} {ds : List D} {i : Int} : xj (.own (.lst ds)) (.dat (.int i)) Q = onO (atI ds i) fun d => Q (.dat d) := ix_ownI
theorem x_b_add {i j : Int} {Q : W → Prop} : xb .add (.dat (.int i)) (.dat (.int j)) Q = Q (.dat (.int (i + j))) := b_add
theorem x_b_sub {i j : Int} {Q : W → Prop} : xb .sub (.dat (.int i)) (.dat (.int j)) Q = Q (.dat (.int (i - j))) := b_sub
theorem x_b_mul {i j : Int} {Q : W → Prop} : xb .mul (.dat (.int i)) (.dat (.int j)) Q = (CMulW i j ∧ Q (.dat (.int (i * j)))) := b_mul
theorem x_b_fdiv {i j : Int} {Q : W → Prop} : xb .fdiv (.dat (.int i)) (.dat (.int j)) Q = (CDivW i j ∧ Q (.dat (.int (i / j)))) := b_fdiv
theorem x_b_mod {i j : Int} {Q : W → Prop} : xb .mod (.dat (.int i)) (.dat (.int j)) Q = (0 < j ∧ Q (.dat (.int (i % j)))) := b_mod
theorem x_b_pow {i j : Int} {Q : W → Prop} : xb .pow (.dat (.int i)) (.dat (.int j)) Q = (CPowW i j ∧ Q (.dat (.int (i ^ j.toNat)))) := b_pow
theorem x_b_addL1 {Q : W → Prop} {xs ys : List D} : xb .add (.own (.lst xs)) (.own (.lst ys)) Q = (xs.length + ys.length ≤ sizeLine ∧ Q (.own (.lst (xs ++ ys)))) := b_addL1
theorem x_b_addL2 {Q : W → Prop} {xs ys : List D} : xb .add (.dat (.lst xs)) (.own (.lst ys)) Q = (xs.length + ys.length ≤ sizeLine ∧ Q (.own (.lst (xs ++ ys)))) := b_addL2
theorem x_b_addL3 {Q : W → Prop} {xs ys : List D} : xb .add (.own (.lst xs)) (.dat (.lst ys)) Q = (xs.length + ys.length ≤ sizeLine ∧ Q (.own (.lst (xs ++ ys)))) := b_addL3
theorem x_b_addL4 {Q : W → Prop} {xs ys : List D} : xb .add (.dat (.lst xs)) (.dat (.lst ys)) Q = (xs.length + ys.length ≤ sizeLine ∧ Q (.own (.lst (xs ++ ys)))) := b_addL4
theorem x_b_addT {Q : W → Prop} {xs ys : List D} : xb .add (.dat (.tup xs)) (.dat (.tup ys)) Q = (xs.length + ys.length ≤ sizeLine ∧ Q (.dat (.tup (xs ++ ys)))) := b_addT
theorem x_q_lt {K : Bool → Prop} {i j : Int} : xc .lt (.dat (.int i)) (.dat (.int j)) K = K (decide (i < j)) := q_lt
theorem x_q_le {K : Bool → Prop} {i j : Int} : xc .le (.dat (.int i)) (.dat (.int j)) K = K (decide (i ≤ j)) := q_le
theorem x_q_gt {K : Bool → Prop} {i j : Int} : xc .gt (.dat (.int i)) (.dat (.int j)) K = K (decide (j < i)) := q_gt
theorem x_q_ge {K : Bool → Prop} {i j : Int} : xc .ge (.dat (.int i)) (.dat (.int j)) K = K (decide (j ≤ i)) := q_ge
theorem x_q_eq {K : Bool → Prop} {i j : Int} : xc .eq (.dat (.int i)) (.dat (.int j)) K = K (decide (i = j)) := q_eq
theorem x_q_ne {K : Bool → Prop} {i j : Int} : xc .ne (.dat (.int i)) (.dat (.int j)) K = K (!decide (i = j)) := q_ne
theorem x_t_len_t {Q : W → Prop} {ds : List D} : xl .len [.dat (.tup ds)] Q = Q (.dat (.int ds.length)) := t_len_t
theorem x_t_len_l {Q : W → Prop} {ds : List D} : xl .len [.dat (.lst ds)] Q = Q (.dat (.int ds.length)) := t_len_l
theorem x_t_len_o {Q : W → Prop} {ds : List D} : xl .len [.own (.lst ds)] Q = Q (.dat (.int ds.length)) := t_len_o
theorem x_t_len_s {Q : W → Prop} {ds : List Int} : xl .len [.dat (.scr ds)] Q = Q (.dat (.int ds.length)) := t_len_s
theorem x_t_int {Q : W → Prop} {i : Int} : xl .int [.dat (.int i)] Q = Q (.dat (.int i)) := t_int
theorem x_t_intb {Q : W → Prop} {i : Bool} : xl .int [.dat (.bl i)] Q = Q (.dat (.int (if i then 1 else 0))) := t_intb
theorem x_t_abs {Q : W → Prop} {i : Int} : xl .abs [.dat (.int i)] Q = Q (.dat (.int (if i < 0 then -i else i))) := t_abs
theorem x_t_max2 {Q : W → Prop} {i j : Int} : xl .max2 [.dat (.int i), .dat (.int j)] Q = Q (.dat (.int (if j > i then j else i))) := t_max2
theorem x_t_min2 {Q : W → Prop} {i j : Int} : xl .min2 [.dat (.int i), .dat (.int j)] Q = Q (.dat (.int (if j < i then j else i))) := t_min2
theorem x_t_list_t {Q : W → Prop} {ds : List D} : xl .list [.dat (.tup ds)] Q = Q (.own (.lst ds)) := t_list_t
theorem x_t_list_l {Q : W → Prop} {ds : List D} : xl .list [.dat (.lst ds)] Q = Q (.own (.lst ds)) := t_list_l
theorem x_t_list_o {Q : W → Prop} {ds : List D} : xl .list [.own (.lst ds)] Q = Q (.own (.lst ds)) := t_list_o
theorem x_t_tup_t {Q : W → Prop} {ds : List D} : xl .tuple [.dat (.tup ds)] Q = Q (.dat (.tup ds)) := t_tup_t
theorem x_t_tup_l {Q : W → Prop} {ds : List D} : xl .tuple [.dat (.lst ds)] Q = Q (.dat (.tup ds)) := t_tup_l
theorem x_t_tup_o {Q : W → Prop} {ds : List D} : xl .tuple [.own (.lst ds)] Q = Q (.dat (.tup ds)) := t_tup_o
theorem x_k_nm {ρ : Ro} {Q : Ro → Prop} {i : Nat} {d : D} : xt (.nm i) d ρ Q = Q (ρ.set i (some (.dat d))) := k_nm
theorem x_k_tpn {ρ : Ro} {Q : Ro → Prop} : xt (.tp .nil) (.tup []) ρ Q = Q ρ := k_tpn
theorem x_k_n {ρ : Ro} {Q : Ro → Prop} : xt .nil (.tup []) ρ Q = Q ρ := k_n
theorem x_k_tpc {ρ : Ro} {Q : Ro → Prop} {t r : Tg} {x : D} {xs : List D} : xt (.tp (.cons t r)) (.tup (x :: xs)) ρ Q = xt t x ρ fun ρ' => xt r (.tup xs) ρ' Q := k_tpc
theorem x_k_c {ρ : Ro} {Q : Ro → Prop} {t r : Tg} {x : D} {xs : List D} : xt (.cons t r) (.tup (x :: xs)) ρ Q = xt t x ρ fun ρ' => xt r (.tup xs) ρ' Q := k_c
theorem x_p_brw {ρ : Ro} {Q : Ro → Prop} {i j : Nat} : put1 i (.brw j) ρ Q = xz (.brw j) ρ fun d ρ1 => Q (ρ1.set i (some (.dat d))) := p_brw
theorem x_pa_nil {ρ : Ro} {Q : Ro → Prop} : xp [] [] ρ Q = Q ρ := pa_nil
theorem x_pa_own {ρ : Ro} {Q : Ro → Prop} {i : Nat} {is : List Nat} {t : Ot} {ws : List W} : xp (i :: is) (.own t :: ws) ρ Q = xp is ws ρ fun ρ' => Q (ρ'.set i (some (.own t))) := pa_own
theorem x_pa_dat {ρ : Ro} {Q : Ro → Prop} {i : Nat} {is : List Nat} {d : D} {ws : List W} : xp (i :: is) (.dat d :: ws) ρ Q = xp is ws ρ fun ρ' => Q (ρ'.set i (some (.dat d))) := pa_dat
theorem x_pa_brw {ρ : Ro} {Q : Ro → Prop} {i j : Nat} {is : List Nat} {ws : List W} : xp (i :: is) (.brw j :: ws) ρ Q = xz (.brw j) ρ fun d ρ1 => xp is ws ρ1 fun ρ' => Q (ρ'.set i (some (.dat d))) := pa_brw
theorem x_z_f {ρ : Ro} {Q : Src → Ro → Prop} {k : Ik} {ws : List W} : xwz false k ws ρ Q = xw k ws ρ Q := z_f
theorem x_z_t {ρ : Ro} {Q : Src → Ro → Prop} {k : Ik} {ws : List W} : xwz true k ws ρ Q = xzs ws ρ fun ds ρ' => xw k (ds.map .dat) ρ' Q := z_t
theorem x_y_t {ρ : Ro} {Q : Src → Ro → Prop} {ds : List D} : xw .seq [.dat (.tup ds)] ρ Q = Q ⟨ds, none⟩ ρ := y_t
theorem x_y_l {ρ : Ro} {Q : Src → Ro → Prop} {ds : List D} : xw .seq [.dat (.lst ds)] ρ Q = Q ⟨ds, none⟩ ρ := y_l
theorem x_y_o {ρ : Ro} {Q : Src → Ro → Prop} {ds : List D} : xw .seq [.own (.lst ds)] ρ Q = Q ⟨ds, none⟩ ρ := y_o
theorem x_y_b {ρ : Ro} {Q : Src → Ro → Prop} {i : Nat} : xw .seq [.brw i] ρ Q = onO (slOf ρ i) fun x => srcQ i x ρ Q := y_b
theorem x_y_r1 {ρ : Ro} {Q : Src → Ro → Prop} {j : Int} : xw .rng1 [.dat (.int j)] ρ Q = (small j ∧ Q ⟨rngD 0 j.toNat, none⟩ ρ) := y_r1
theorem x_y_r2 {ρ : Ro} {Q : Src → Ro → Prop} {i j : Int} : xw .rng2 [.dat (.int i), .dat (.int j)] ρ Q = ((small i ∧ small j) ∧ Q ⟨rngD i (j - i).toNat, none⟩ ρ) := y_r2
theorem x_y_zt {ρ : Ro} {Q : Src → Ro → Prop} {xs ys : List D} : xw .zip [.dat (.tup xs), .dat (.tup ys)] ρ Q = Q ⟨(xs.zip ys).map pairD, none⟩ ρ := y_zt
theorem x_y_zl {ρ : Ro} {Q : Src → Ro → Prop} {xs ys : List D} : xw .zip [.dat (.lst xs), .dat (.lst ys)] ρ Q = Q ⟨(xs.zip ys).map pairD, none⟩ ρ := y_zl
theorem x_y_el {ρ : Ro} {Q : Src → Ro → Prop} {ds : List D} : xw .enum [.dat (.lst ds)] ρ Q = Q ⟨enumD ds, none⟩ ρ := y_el
theorem x_y_eo {ρ : Ro} {Q : Src → Ro → Prop} {ds : List D} : xw .enum [.own (.lst ds)] ρ Q = Q ⟨enumD ds, none⟩ ρ := y_eo
theorem x_n_asg {D : En} {ρ : Ro} {i : Nat} {e : E} : xS (.asg (.nm i) e) D ρ = xE e ρ fun w ρ1 => put1 i w ρ1 D.nx := n_asg
theorem x_n_asgT {D : En} {ρ : Ro} {t : Tg} {e : E} : xS (.asg (.tp t) e) D ρ = xE e ρ fun w ρ1 => xz w ρ1 fun d ρ2 => xt (.tp t) d ρ2 D.nx := n_asgT
theorem x_n_pars {D : En} {ρ : Ro} {is : List Nat} {as : E} : xS (.pars is as) D ρ = xA as ρ fun ws ρ1 => xp is ws ρ1 D.nx := n_pars
theorem x_n_ite {D : En} {ρ : Ro} {c : E} {a b : Sm} : xS (.ite c a b) D ρ = xE c ρ fun v ρ1 => onB v fun k => cnd k (xS a D ρ1) (xS b D ρ1) := n_ite
theorem x_n_drop {D : En} {ρ : Ro} {e : E} : xS (.drop e) D ρ = xE e ρ fun _ ρ1 => D.nx ρ1 := n_drop
theorem x_n_app {D : En} {ρ : Ro} {i : Nat} {e : E} : xS (.app i e) D ρ = onO (slOf ρ i) fun x => ownL x fun _ => xE e ρ fun w ρ1 => xz w ρ1 fun d ρ2 => onO (slOf ρ2 i) fun x => ownL x fun ds => ds.length < sizeLine ∧ D.nx (ρ2.set i (some (.own (.lst (ds ++ [d]))))) := n_app
theorem x_n_ext {D : En} {ρ : Ro} {i : Nat} {e : E} : xS (.ext i e) D ρ = onO (slOf ρ i) fun x => ownL x fun _ => xE e ρ fun w ρ1 => getC ρ1 w fun x => onO (slOf ρ1 i) fun z => ownL z fun ds => ∃ es, sq x = some (true, es) ∧ ds.length + es.length ≤ sizeLine ∧ D.nx (ρ1.set i (some (.own (.lst (ds ++ es))))) := n_ext
theorem x_n_clr {D : En} {ρ : Ro} {i : Nat} : xS (.clr i) D ρ = onO (slOf ρ i) fun x => ownL x fun ds => D.nx (ρ.set i (some (.own (.lst [])))) := n_clr
theorem x_n_rev {D : En} {ρ : Ro} {i : Nat} : xS (.rev i) D ρ = onO (slOf ρ i) fun x => ownL x fun ds => D.nx (ρ.set i (some (.own (.lst ds.reverse)))) := n_rev
theorem x_n_setl {D : En} {ρ : Ro} {i : Nat} {a e : E} : xS (.setl i a e) D ρ = xE e ρ fun w ρ1 => xz w ρ1 fun d ρ2 => onO (slOf ρ2 i) fun x => ownL x fun _ => xE a ρ2 fun x ρ3 => natI x fun k => onO (slOf ρ3 i) fun z => ownL z fun ds => k < ds.length ∧ D.nx (ρ3.set i (some (.own (.lst (ds.set k d))))) := n_setl
theorem x_n_aug {D : En} {ρ : Ro} {i : Nat} {op : Bop} {e : E} : xS (.aug i op e) D ρ = onO (slOf ρ i) fun x => ∃ a, x = .dat (.int a) ∧ xE e ρ fun w ρ1 => onI w fun b => match op with
      | .add => D.nx (ρ1.set i (some (.dat (.int (a + b)))))
      | .sub => D.nx (ρ1.set i (some (.dat (.int (a - b)))))
      | _ => False := n_aug
theorem x_n_ret {D : En} {ρ : Ro} {e : E} : xS (.ret e) D ρ = xE e ρ D.rt := n_ret
theorem x_n_retN {D : En} {ρ : Ro} : xS .retN D ρ = D.rt (.dat .non) ρ := n_retN
theorem x_n_brk {D : En} {ρ : Ro} : xS .brk D ρ = D.bk ρ := n_brk
theorem x_n_cont {D : En} {ρ : Ro} : xS .cont D ρ = D.ct ρ := n_cont
theorem x_n_pass {D : En} {ρ : Ro} : xS .pass D ρ = D.nx ρ := n_pass
theorem x_n_nil {D : En} {ρ : Ro} : xS .nil D ρ = D.nx ρ := n_nil
theorem x_n_cons {D : En} {ρ : Ro} {a r : Sm} : xS (.cons a r) D ρ = xS a { D with nx := fun ρ1 => xS r D ρ1 } ρ := n_cons
theorem x_n_appT {D : En} {ρ : Ro} {e a : E} : xS (.appT e a) D ρ = xE e ρ fun w ρ1 => ∃ ds, w = .own (.lst ds) ∧ ds.length < sizeLine ∧ xE a ρ1 fun x ρ2 => xz x ρ2 fun _ ρ3 => D.nx ρ3 := n_appT
theorem x_n_revT {D : En} {ρ : Ro} {e : E} : xS (.revT e) D ρ = xE e ρ fun w ρ1 => ∃ ds, w = .own (.lst ds) ∧ D.nx ρ1 := n_revT
def wp := (And.intro @x_m_var (And.intro @x_m_bin (And.intro @x_m_neg (And.intro @x_m_cmp (And.intro @x_m_chn (And.intro @x_m_and (And.intro @x_m_or (And.intro @x_m_not (And.intro @x_m_ite (And.intro @x_m_tup (And.intro @x_m_lst (And.intro @x_m_meth (And.intro @x_m_prop (And.intro @x_m_eqw (And.intro @x_m_blt (And.intro @x_m_isa (And.intro @x_m_fld (And.intro @x_m_idx (And.intro @x_m_slc00 (And.intro @x_m_slc10 (And.intro @x_m_slc01 (And.intro @x_sl_t (And.intro @x_sl_l (And.intro @x_sl_o (And.intro @cut1 (And.intro @cut2 (And.intro @drop1 (And.intro @drop2 (And.intro @cut_from (And.intro @cut_to (And.intro @isNil_int (And.intro @isNil_var (And.intro @x_e_int (And.intro @x_e_bl (And.intro @x_e_non (And.intro @x_e_str (And.intro @x_e_call (And.intro @x_a_nil (And.intro @x_a_cons (And.intro @x_e_dnew (And.intro @onO_some (And.intro @onB_bl (And.intro @onI_int (And.intro @onIns_ins (And.intro @cnd_t (And.intro @cnd_f (And.intro @getC_dat (And.intro @getC_own (And.intro @getC_brw (And.intro @getCs_nil (And.intro @getCs_cons (And.intro @varQ_dat (And.intro @varQ_own (And.intro @frzQ_dat (And.intro @frzQ_own (And.intro @x_frz_dat (And.intro @x_frz_own (And.intro @x_frz_brw (And.intro @toD_lst (And.intro @toD_ll (And.intro @toD_dk (And.intro @toD_dat (And.intro @toD_own (And.intro @x_frzs_nil (And.intro @x_frzs_cons (And.intro @set_0 (And.intro @set_s (And.intro @lenOk0 (And.intro @lenOk1 (And.intro @lenOk2 (And.intro @lenOk3 (And.intro @lenOk4 (And.intro @lenOk5 (And.intro @lenOk6 (And.intro @lenOk7 (And.intro @lenOk8 (And.intro @lenOk9 (And.intro @slOf0 (And.intro @slOfn (And.intro @slOfs (And.intro @x_idx_brw (And.intro @x_idx_dat (And.intro @x_idx_own (And.intro @x_idxQ_dat (And.intro @x_idxQ_lst (And.intro @x_idxQ_dk (And.intro @x_ix_tupI (And.intro @x_ix_lstI (And.intro @x_ix_ownI (And.intro @at0 (And.intro @at1 (And.intro @at2 (And.intro @at3 (And.intro @gq0 (And.intro @gqs (And.intro @x_b_add (And.intro @x_b_sub (And.intro @x_b_mul (And.intro @x_b_fdiv (And.intro @x_b_mod (And.intro @x_b_pow (And.intro @x_b_addL1 (And.intro @x_b_addL2 (And.intro @x_b_addL3 (And.intro @x_b_addL4 (And.intro @x_b_addT (And.intro @x_q_lt (And.intro @x_q_le (And.intro @x_q_gt (And.intro @x_q_ge (And.intro @x_q_eq (And.intro @x_q_ne (And.intro @x_t_len_t (And.intro @x_t_len_l (And.intro @x_t_len_o (And.intro @x_t_len_s (And.intro @x_t_int (And.intro @x_t_intb (And.intro @x_t_abs (And.intro @x_t_max2 (And.intro @x_t_min2 (And.intro @x_t_list_t (And.intro @x_t_list_l (And.intro @x_t_list_o (And.intro @x_t_tup_t (And.intro @x_t_tup_l (And.intro @x_t_tup_o (And.intro @i_ii (And.intro @i_ib (And.intro @i_tt (And.intro @i_ll (And.intro @i_ol (And.intro @i_cc (And.intro @i_lc (And.intro @i_nc (And.intro @x_k_nm (And.intro @x_k_tpn (And.intro @x_k_n (And.intro @x_k_tpc (And.intro @x_k_c (And.intro @p_dat (And.intro @p_own (And.intro @x_p_brw (And.intro @x_pa_nil (And.intro @x_pa_own (And.intro @x_pa_dat (And.intro @x_pa_brw (And.intro @x_z_f (And.intro @x_z_t (And.intro @x_y_t (And.intro @x_y_l (And.intro @x_y_o (And.intro @x_y_b (And.intro @srcQ_o (And.intro @srcQ_t (And.intro @srcQ_l (And.intro @x_y_r1 (And.intro @x_y_r2 (And.intro @x_y_zt (And.intro @x_y_zl (And.intro @x_y_el (And.intro @x_y_eo (And.intro @gdN_n (And.intro @gdOk_n (And.intro @wip_n (And.intro @wip_c (And.intro @unwip_n (And.intro @unwip_c (And.intro @datO_n (And.intro @datO_d (And.intro @datO_o (And.intro @x_n_asg (And.intro @x_n_asgT (And.intro @x_n_pars (And.intro @x_n_ite (And.intro @x_n_drop (And.intro @ownL_o (And.intro @x_n_app (And.intro @x_n_ext (And.intro @x_n_clr (And.intro @x_n_rev (And.intro @natI_n (And.intro @natI_0 (And.intro @natI_1 (And.intro @natI_2 (And.intro @x_n_setl (And.intro @x_n_aug (And.intro @x_n_ret (And.intro @x_n_retN (And.intro @x_n_brk (And.intro @x_n_cont (And.intro @x_n_pass (And.intro @x_n_nil (And.intro @x_n_cons (And.intro @x_n_appT (And.intro @x_n_revT (And.intro @r_dat (And.intro @r_own (And.intro @o_dat @o_own)))))))))))))))))))))))))))))))))))))))))))))))))))))))))))))))))))))))))))))))))))))))))))))))))))))))))))))))))))))))))))))))))))))))))))))))))))))))))))))))))))))))))))))))))))))))))))))))))))))))
end Cw
/-! Cw: comprehensions and loops in the machine. -/
namespace Cw
open PySem PySem.Spec PyProof.Rows L2

section
variable {α : Type} {vs : List Nat} {t : Tg} {k : Ik} {as c e : E} {ρ : Ro} {Q : W → Ro → Prop}
def xStep (t : Tg) (e : E) (vs : List Nat) (R : Ro) (enc : α → D) (g : α → D) (x : α) : Prop := xt t (enc x) R fun ρ4 => xE e ρ4 fun y ρ6 => xz y ρ6 fun d' ρ7 => d' = g x ∧ wip ρ7 vs = R
def xfStep (t : Tg) (c e : E) (vs : List Nat) (R : Ro) (enc : α → D) (f : α → Option D) (x : α) : Prop := xt t (enc x) R fun ρ4 => xE c ρ4 fun v ρ5 => onB v fun j => cnd j (xE e ρ5 fun y ρ6 => xz y ρ6 fun d' ρ7 => f x = some d' ∧ wip ρ7 vs = R) (f x = none ∧ wip ρ5 vs = R)
def itsQ {α : Type} (s : Src) (R : Ro) (P : (α → D) → α → Prop) (Q : List α → Prop) (u : St P Q := ()) : Prop := ∃ enc xs, s.items = xs.map enc ∧ gdOk s.gd R ∧ xs.length ≤ sizeLine ∧ (∀ x ∈ xs, P enc x) ∧ Q xs
theorem its {α : Type} {s : Src} {R : Ro} {P : (α → D) → α → Prop} {Q : List α → Prop} (enc : α → D) (xs : List α) (h1 : s.items = xs.map enc) (h2 : gdOk s.gd R) (h3 : xs.length ≤ sizeLine) (h4 : ∀ x ∈ xs, P enc x) (h5 : Q xs) : itsQ s R P Q := ⟨enc, xs, h1, h2, h3, h4, h5⟩
theorem x_lc (g : α → D) (h : xA as ρ fun ws ρ1 => xwz false k ws ρ1 fun s ρ2 => itsQ s (wip ρ2 vs) (fun enc x => xStep t e vs (wip ρ2 vs) enc g x) fun xs => Q (.own (.lst (xs.map g))) (unwip ρ2 vs (wip ρ2 vs))) : xE (.lc vs t k as (.bl true) e) ρ Q := w_lcm g (by
  refine wA_mono as _ _ _ (fun ws ρ1 h => walkZ_mono (fun s ρ2 h => ?_) h) h
  obtain ⟨enc, xs, h1, h2, h3, h4, h5⟩ := h
  exact ⟨enc, xs, ⟨h1, h2, h3⟩, h4, h5⟩)
theorem x_lcf (f : α → Option D) (h : xA as ρ fun ws ρ1 => xwz false k ws ρ1 fun s ρ2 => itsQ s (wip ρ2 vs) (fun enc x => xfStep t c e vs (wip ρ2 vs) enc f x) fun xs => Q (.own (.lst (xs.filterMap f))) (unwip ρ2 vs (wip ρ2 vs))) : xE (.lc vs t k as c e) ρ Q := w_lcfm f (by
  refine wA_mono as _ _ _ (fun ws ρ1 h => walkZ_mono (fun s ρ2 h => ?_) h) h
  obtain ⟨enc, xs, h1, h2, h3, h4, h5⟩ := h
  exact ⟨enc, xs, ⟨h1, h2, h3⟩, h4, h5⟩)
end
/-- what a loop's turn is -/
def tn (t : Tg) (b : Sm) : D → Ro → En → Prop := fun d ρ3 D1 => take t d ρ3 fun ρ4 => wS b D1 ρ4
theorem tn_eq {t : Tg} {b : Sm} {d : D} {ρ : Ro} {Z : En} : tn t b d ρ Z = xt t d ρ fun ρ4 => xS b Z ρ4 := rfl
theorem x_for {Z : En} {ρ : Ro} {t : Tg} {k : Ik} {as : E} {b : Sm} : xS (.for t k as b) Z ρ = xA as ρ fun ws ρ1 => xwz true k ws ρ1 fun s ρ2 => gdN s (xf (tn t b) Z s.items ρ2) := n_for
def wf := And.intro @x_for (And.intro @tn_eq (And.intro and_true (And.intro true_and wp)))
theorem x_fnil {turn : D → Ro → En → Prop} {Z : En} {ρ : Ro} : xf turn Z [] ρ = Z.nx ρ := rfl
theorem x_fcons {turn : D → Ro → En → Prop} {Z : En} {ρ : Ro} {d : D} {ds : List D} : xf turn Z (d :: ds) ρ = turn d ρ { nx := fun ρ => xf turn Z ds ρ, ct := fun ρ => xf turn Z ds ρ, bk := Z.nx, rt := Z.rt } := rfl
theorem x_fors {α : Type} (enc : α → D) (xs : List α) {t : Tg} {b : Sm} {Z : En} {ρ : Ro} {ds : List D} (I : List α → Ro → Prop) (hd : ds = xs.map enc) (h : I [] ρ) (step : ∀ pre x post, xs = pre ++ x :: post → ∀ ρ, I pre ρ → tn t b (enc x) ρ { nx := I (pre ++ [x]), ct := I (pre ++ [x]), bk := Z.nx, rt := Z.rt }) (fin : ∀ ρ, I xs ρ → Z.nx ρ) : xf (tn t b) Z ds ρ := by
  subst hd
  exact fors_pre for_mono I step fin h
/-- the whole loop in one: every turn leaves what it found -/
theorem x_fors0 {α : Type} (enc : α → D) (xs : List α) {t : Tg} {b : Sm} {Z : En} {ρ : Ro} {ds : List D} (I : Ro → Prop) (hd : ds = xs.map enc) (h : I ρ) (step : ∀ x ∈ xs, ∀ ρ, I ρ → tn t b (enc x) ρ { nx := I, ct := I, bk := Z.nx, rt := Z.rt }) (fin : ∀ ρ, I ρ → Z.nx ρ) : xf (tn t b) Z ds ρ :=
  x_fors enc xs (fun _ => I) hd h (fun pre x post e ρ hi => step x (by rw [e]; simp) ρ hi) fin
theorem x_pure {name : Str} {n : Nat} {pre : List D → (Sl → Prop) → Prop} {hm : ∀ ds Q Q', (∀ r, Q r → Q' r) → pre ds Q → pre ds Q'} {ws : List W} {ρ : Ro} {Q : W → Ro → Prop} (hw : ws.length = n) (h : xzs ws ρ fun ds ρ' => pre ds fun r => Q (ofSl r) ρ') : xC (pureF name n pre hm) ws ρ Q := call_pure hw h

/-! ### equality of data -/
mutual
def pln : D → Bool
  | .non => true
  | .int _ => true
  | .str _ => true
  | .tup ds => plns ds
  | .lst ds => plns ds
  | _ => false
def plns : List D → Bool
  | [] => true
  | d :: ds => pln d && plns ds
end
theorem plns_mem : ∀ {ds : List D}, plns ds = true ↔ ∀ d ∈ ds, pln d = true
  | [] => by simp [plns]
  | d :: ds => by simp [plns, plns_mem (ds := ds)]
theorem pln_mv (xs : List Int) : pln (mv xs) = true := by
  unfold mv pln
  rw [plns_mem]
  intro d m
  obtain ⟨x, _, rfl⟩ := List.mem_map.mp m
  rfl
end Cw
/-! Cw: typed data; equality and repr; rows in order as a function. -/
namespace Cw
open PySem PySem.Spec PyProof.Rows L2

/-- a type's values as data -/
structure TyD {α : Type} [DecidableEq α] (enc : α → D) (n : Nat) : Prop where
  eqv : ∀ a b, PyData.eqv (pyOf (enc a)) (pyOf (enc b)) = decide (a = b)
  lay : ∀ a, (pyOf (enc a)).canLay0 = true
  dep : ∀ a, (pyOf (enc a)).depth ≤ n
section
variable {α β γ : Type} [DecidableEq α] [DecidableEq β] [DecidableEq γ] {e1 : α → D} {e2 : β → D} {e3 : γ → D} {n m k : Nat}
theorem pyAll_map (xs : List D) : pyAll xs = xs.map pyOf := by
  induction xs with
  | nil => rfl
  | cons x xs ih => rw [pyAll, ih]; rfl
theorem TyD.all (h : TyD e1 n) : ∀ xs ys : List α, PyData.eqvAll (pyAll (xs.map e1)) (pyAll (ys.map e1)) = decide (xs = ys)
  | [], [] => by simp [pyAll, PyData.eqvAll]
  | [], _ :: _ => by simp [pyAll, PyData.eqvAll]
  | _ :: _, [] => by simp [pyAll, PyData.eqvAll]
  | x :: xs, y :: ys => by
    rw [List.map_cons, List.map_cons, pyAll, pyAll, PyData.eqvAll, h.eqv, h.all xs ys, ← Bool.decide_and]
    simp
theorem TyD.layA (h : TyD e1 n) : ∀ xs : List α, PyData.canLayAll0 (pyAll (xs.map e1)) = true
  | [] => rfl
  | x :: xs => by rw [List.map_cons, pyAll, PyData.canLayAll0, h.lay, h.layA xs]; rfl
theorem TyD.depA (h : TyD e1 n) : ∀ xs : List α, PyData.depthAll (pyAll (xs.map e1)) ≤ n
  | [] => by simp [pyAll, PyData.depthAll]
  | x :: xs => by
    rw [List.map_cons, pyAll, PyData.depthAll]
    have := h.dep x
    have := h.depA xs
    omega
theorem tyInt : TyD D.int 0 := ⟨eqv_int, fun _ => rfl, fun _ => Nat.le_refl _⟩
theorem tyLst (h : TyD e1 n) : TyD (fun xs : List α => D.lst (xs.map e1)) (n + 1) := ⟨fun a b => by rw [pyOf, pyOf, PyData.eqv, h.all], fun a => by rw [pyOf, PyData.canLay0, h.layA], fun a => by rw [pyOf, PyData.depth]; exact Nat.succ_le_succ (h.depA a)⟩
theorem tyTup (h : TyD e1 n) : TyD (fun xs : List α => D.tup (xs.map e1)) (n + 1) := ⟨fun a b => by rw [pyOf, pyOf, PyData.eqv, h.all], fun a => by rw [pyOf, PyData.canLay0, h.layA], fun a => by rw [pyOf, PyData.depth]; exact Nat.succ_le_succ (h.depA a)⟩
theorem tyMv : TyD mv 1 := tyTup tyInt
theorem tyPair (h1 : TyD e1 n) (h2 : TyD e2 m) : TyD (fun p : α × β => D.tup [e1 p.1, e2 p.2]) (max n m + 1) := ⟨fun a b => by
  obtain ⟨a1, a2⟩ := a
  obtain ⟨b1, b2⟩ := b
  simp only [pyOf, pyAll, PyData.eqv, PyData.eqvAll, h1.eqv, h2.eqv, Bool.and_true, ← Bool.decide_and, Prod.mk.injEq], fun a => by simp only [pyOf, pyAll, PyData.canLay0, PyData.canLayAll0, h1.lay, h2.lay]; rfl, fun a => by
  simp only [pyOf, pyAll, PyData.depth, PyData.depthAll]
  have := h1.dep a.1
  have := h2.dep a.2
  omega⟩
theorem TyD.shp (h : TyD e1 n) (hn : n ≤ 64) (a : α) : shp (e1 a) = true := by
  unfold Cw.shp SeqAt.shaped
  rw [h.lay, Bool.true_and, decide_eq_true_eq]
  exact Nat.le_trans (h.dep a) hn
theorem TyD.inj (h : TyD e1 n) {a b : α} (e : e1 a = e1 b) : a = b := by
  have := h.eqv a b
  rw [e, h.eqv b b] at this
  simpa using this
theorem x_eqD {a b : α} {K : Bool → Prop} (h : TyD e1 n) (hn : n ≤ 64) : xc .eq (.dat (e1 a)) (.dat (e1 b)) K = K (decide (a = b)) := by
  unfold xc cmp
  dsimp only [Sl.toD]
  rw [h.eqv, h.shp hn, h.shp hn]
  simp
theorem x_neD {a b : α} {K : Bool → Prop} (h : TyD e1 n) (hn : n ≤ 64) : xc .ne (.dat (e1 a)) (.dat (e1 b)) K = K (!decide (a = b)) := by
  unfold xc cmp
  dsimp only [Sl.toD]
  rw [h.eqv, h.shp hn, h.shp hn]
  simp
/-- lists, whether they are owned or not -/
theorem x_eqL {x y : Sl} {xs ys : List α} {K : Bool → Prop} (h : TyD e1 n) (hn : n < 64) (hx : x.toD = .lst (xs.map e1)) (hy : y.toD = .lst (ys.map e1)) : xc .eq x y K = K (decide (xs = ys)) := by
  unfold xc cmp
  dsimp only
  rw [hx, hy, (tyLst h).eqv xs ys, (tyLst h).shp (by omega) xs, (tyLst h).shp (by omega) ys]
  simp
theorem x_neL {x y : Sl} {xs ys : List α} {K : Bool → Prop} (h : TyD e1 n) (hn : n < 64) (hx : x.toD = .lst (xs.map e1)) (hy : y.toD = .lst (ys.map e1)) : xc .ne x y K = K (!decide (xs = ys)) := by
  unfold xc cmp
  dsimp only
  rw [hx, hy, (tyLst h).eqv xs ys, (tyLst h).shp (by omega) xs, (tyLst h).shp (by omega) ys]
  simp
theorem TyD.any (h : TyD e1 n) (a : α) : ∀ xs : List α, ((xs.map e1).any fun z => PyData.eqv (pyOf z) (pyOf (e1 a))) = decide (a ∈ xs)
  | [] => by simp
  | x :: xs => by
    rw [List.map_cons, List.any_cons, h.eqv, h.any a xs, ← Bool.decide_or]
    exact decide_eq_decide.mpr (by rw [List.mem_cons, eq_comm])
theorem x_in {x y : Sl} {a : α} {xs : List α} [Decidable (a ∈ xs)] {K : Bool → Prop} (h : TyD e1 n) (hn : n < 64) (hx : x.toD = e1 a) (hy : sq y = some (true, xs.map e1)) : xc .isin x y K = K (decide (a ∈ xs)) := by
  unfold xc cmp
  have k1 : dkOf y = none := by
    cases y with
    | dat d => cases d <;> first | rfl | cases hy
    | own t => cases t <;> first | rfl | cases hy
  have k2 : dtOf y = none := by
    cases y with
    | dat d => cases d <;> first | rfl | cases hy
    | own t => cases t <;> first | rfl | cases hy
  dsimp only
  rw [k1, k2, hy]
  dsimp only
  have e : ((xs.map e1).any fun z => PyData.eqv (pyOf z) (pyOf (e1 a))) = decide (a ∈ xs) := by rw [h.any]; exact decide_eq_decide.mpr Iff.rfl
  rw [hx, h.shp (by omega), (tyLst h).shp (by omega) xs, e]
  exact propext ⟨fun q => q.2.2, fun q => ⟨rfl, rfl, q⟩⟩
theorem x_notin {x y : Sl} {a : α} {xs : List α} [Decidable (a ∈ xs)] {K : Bool → Prop} (h : TyD e1 n) (hn : n < 64) (hx : x.toD = e1 a) (hy : sq y = some (true, xs.map e1)) : xc .notin x y K = K (!decide (a ∈ xs)) := by
  unfold xc cmp
  have k1 : dkOf y = none := by
    cases y with
    | dat d => cases d <;> first | rfl | cases hy
    | own t => cases t <;> first | rfl | cases hy
  have k2 : dtOf y = none := by
    cases y with
    | dat d => cases d <;> first | rfl | cases hy
    | own t => cases t <;> first | rfl | cases hy
  dsimp only
  rw [k1, k2, hy]
  dsimp only
  have e : ((xs.map e1).any fun z => PyData.eqv (pyOf z) (pyOf (e1 a))) = decide (a ∈ xs) := by rw [h.any]; exact decide_eq_decide.mpr Iff.rfl
  rw [hx, h.shp (by omega), (tyLst h).shp (by omega) xs, e]
  exact propext ⟨fun q => q.2.2, fun q => ⟨rfl, rfl, q⟩⟩
end

/-! ### repr -/
def okS (x : Str) : Prop := ∀ c ∈ x.cps.toList, c < 0x110000
theorem okS_app {a b : Str} (h1 : okS a) (h2 : okS b) : okS (a ++ b) := fun c m => by
  rw [Str.cps_append, Array.toList_append, List.mem_append] at m
  exact m.elim (h1 c) (h2 c)
theorem okS_str (s : String) : okS (Str.ofString s) := fun c m => by
  rw [Str.ofString_eq_toList] at m
  obtain ⟨x, _, rfl⟩ := List.mem_map.mp m
  have := x.valid
  unfold Char.toNat
  rcases this with h | ⟨_, h⟩
  · omega
  · exact h
theorem okS_join {sep : Str} (hs : okS sep) : ∀ {ts : List Str}, (∀ t ∈ ts, okS t) → okS (Str.join sep ts)
  | [], _ => fun c m => by cases m
  | [x], h => h x List.mem_cons_self
  | x :: y :: r, h => okS_app (okS_app (h x List.mem_cons_self) hs) (okS_join hs fun t m => h t (List.mem_cons_of_mem _ m))
theorem strOk_of {x : Str} (h : okS x) : PyData.strOk x = true := by
  unfold PyData.strOk
  rw [← Array.all_toList, List.all_eq_true]
  exact fun c m => decide_eq_true (h c m)
/-- how much there is to show; whole numbers, None and truth values alone within lists and tuples -/
def shS : D → Nat
  | .tup ds => 1 + shA ds
  | .lst ds => 1 + shA ds
  | _ => 1
where shA : List D → Nat
  | [] => 0
  | d :: ds => shS d + 1 + shA ds
def shB (B : Nat) : D → Prop
  | .non => True
  | .bl _ => True
  | .int i => i.natAbs.log2 < B
  | .tup ds => shBA ds
  | .lst ds => shBA ds
  | _ => False
where shBA : List D → Prop
  | [] => True
  | d :: ds => shB B d ∧ shBA ds
theorem show_main {B : Nat} (h0 : 0 < B) (hB : B ≤ 1920) : (∀ d : D, shB B d → PyData.showable (pyOf d) = true ∧ (PyData.shown (pyOf d)).length ≤ shS d * (B + 5) ∧ okS (PyData.shown (pyOf d))) := by
  intro d
  refine D.rec (motive_1 := fun d => shB B d → PyData.showable (pyOf d) = true ∧ (PyData.shown (pyOf d)).length ≤ shS d * (B + 5) ∧ okS (PyData.shown (pyOf d)))
    (motive_2 := fun ds => shB.shBA B ds → PyData.showableAll (pyAll ds) = true ∧ (((PyData.shownAll (pyAll ds)).map (·.length)).sum + 2 * (PyData.shownAll (pyAll ds)).length ≤ shS.shA ds * (B + 5)) ∧ ∀ t ∈ PyData.shownAll (pyAll ds), okS t)
    ?_ ?_ ?_ ?_ ?_ ?_ ?_ ?_ ?_ ?_ ?_ ?_ d
  · intro _
    refine ⟨rfl, ?_, okS_str _⟩
    show (Str.ofString "None").length ≤ 1 * (B + 5)
    have : (Str.ofString "None").length = 4 := by decide +kernel
    omega
  · intro b _
    refine ⟨rfl, ?_, ?_⟩
    · cases b
      · have : (PyData.shown (pyOf (.bl false))).length = 5 := by decide +kernel
        rw [this]; show 5 ≤ 1 * (B + 5); omega
      · have : (PyData.shown (pyOf (.bl true))).length = 4 := by decide +kernel
        rw [this]; show 4 ≤ 1 * (B + 5); omega
    · cases b <;> exact okS_str _
  · intro i h
    have h : i.natAbs.log2 < B := h
    refine ⟨?_, ?_, okS_str _⟩
    · show decide (i.natAbs.log2 < 1920) = true
      exact decide_eq_true (by omega)
    · show (Str.ofString (toString i)).length ≤ 1 * (B + 5)
      rw [PySem.ofString_length]
      have := PySem.int_text_length_le h0 h
      omega
  · intro s h; exact h.elim
  · intro ds ih h
    obtain ⟨i1, i2, i3⟩ := ih h
    refine ⟨i1, ?_, ?_⟩
    · show (tupleText (PyData.shownAll (pyAll ds))).length ≤ _
      have := tupleText_len_le (PyData.shownAll (pyAll ds))
      rw [shS, Nat.add_mul]
      omega
    · show okS (tupleText (PyData.shownAll (pyAll ds)))
      unfold tupleText
      refine okS_app (okS_app (okS_str _) (okS_join (okS_str _) i3)) ?_
      split <;> exact okS_str _
  · intro ds ih h
    obtain ⟨i1, i2, i3⟩ := ih h
    refine ⟨i1, ?_, ?_⟩
    · show (listText (PyData.shownAll (pyAll ds))).length ≤ _
      have := listText_len_le (PyData.shownAll (pyAll ds))
      rw [shS, Nat.add_mul]
      omega
    · show okS (listText (PyData.shownAll (pyAll ds)))
      rw [listText_eq_join]
      exact okS_app (okS_app (okS_str _) (okS_join (okS_str _) i3)) (okS_str _)
  · intro _ _ _ h; exact h.elim
  · intro _ _ _ h; exact h.elim
  · intro _ _ _ h; exact h.elim
  · intro _ h; exact h.elim
  · intro _
    exact ⟨rfl, by simp [pyAll, PyData.shownAll, shS.shA], fun t m => by cases m⟩
  · intro d ds ihd ihs h
    obtain ⟨h1, h2⟩ := h
    obtain ⟨a1, a2, a3⟩ := ihd h1
    obtain ⟨b1, b2, b3⟩ := ihs h2
    refine ⟨?_, ?_, ?_⟩
    · rw [pyAll, PyData.showableAll, a1, b1]; rfl
    · rw [pyAll, PyData.shownAll, List.map_cons, List.sum_cons, List.length_cons, shS.shA]
      rw [Nat.add_mul, Nat.add_mul]
      omega
    · intro t m
      rw [pyAll, PyData.shownAll] at m
      rcases List.mem_cons.mp m with rfl | m
      · exact a3
      · exact b3 t m
/-- repr of a thing that can be shown -/
theorem x_repr {B : Nat} {x : Sl} {d : D} {Q : W → Prop} (h0 : 0 < B) (hB : B ≤ 1920) (hx : x.toD = d) (h : shB B d) (hs : shp d = true) (hl : shS d * (B + 5) ≤ sizeLine) (q : Q (.dat (.str (PyData.shown (pyOf d))))) : xl .repr [x] Q := by
  obtain ⟨h1, h2, h3⟩ := show_main h0 hB d h
  subst hx
  exact ⟨h1, hs, by omega, q⟩
/-- the same shown are the same -/
theorem x_neS {s : Str} {K : Bool → Prop} (h : okS s) (q : K false) : xc .ne (.dat (.str s)) (.dat (.str s)) K := by
  have e : shp (.str s) = true := by
    unfold shp SeqAt.shaped
    rw [Bool.and_eq_true]
    exact ⟨strOk_of h, rfl⟩
  refine ⟨e, e, ?_⟩
  show K (!PyData.eqv (.str s) (.str s))
  have : PyData.eqv (.str s) (.str s) = true := by simp [PyData.eqv]
  rw [this]; exact q
end Cw
/-! Cw: defs that change their first argument, a list. -/
namespace Cw
open PySem PySem.Spec PyProof.Rows L2

def ownF (name : Str) (n : Nat) (pre : List D → List D → (Sl → List D → Prop) → Prop) (hm : ∀ l ds Q Q', (∀ r l, Q r l → Q' r l) → pre l ds Q → pre l ds Q') : Fn where
  name := name
  modes := true :: List.replicate n false
  sp as Q := ∃ l ds : List D, as = .own (.lst l) :: ds.map .dat ∧ ds.length = n ∧ pre l ds fun r l' => ∀ bs, bs.length = n → Q r (.own (.lst l') :: bs)
  mono as Q Q' h := fun ⟨l, ds, h1, h2, h3⟩ => ⟨l, ds, h1, h2, hm _ _ _ _ (fun r l q bs hb => h _ _ (q bs hb)) h3⟩
/-- what a body gives back, its first name's list as it then stands -/
def resO (n : Nat) (w : W) (ρ : Ro) (Q : Sl → List D → Prop) : Prop := ∃ l', slOf ρ 0 = some (.own (.lst l')) ∧ match w with
  | .dat d => Q (.dat d) l'
  | .own t => Q (.own t) l'
  | .brw i => match slOf ρ i with
    | some (.dat d) => Q (.dat d) l'
    | some (.own t) => n < i ∧ (Q (.own t) l' ∨ Q (.dat t.toD) l')
    | none => False
  | .br2 _ _ => False
theorem ro_dat {n : Nat} {d : D} {ρ : Ro} {Q : Sl → List D → Prop} : resO n (.dat d) ρ Q = onO (slOf ρ 0) fun x => ownL x fun l' => Q (.dat d) l' := propext ⟨fun ⟨l, e, h⟩ => ⟨_, e, l, rfl, h⟩, fun ⟨x, e, l, e2, h⟩ => ⟨l, by rw [e, e2], h⟩⟩
theorem ro_own {n : Nat} {d : Ot} {ρ : Ro} {Q : Sl → List D → Prop} : resO n (.own d) ρ Q = onO (slOf ρ 0) fun x => ownL x fun l' => Q (.own d) l' := propext ⟨fun ⟨l, e, h⟩ => ⟨_, e, l, rfl, h⟩, fun ⟨x, e, l, e2, h⟩ => ⟨l, by rw [e, e2], h⟩⟩
theorem own_body {name : Str} {n m : Nat} {pre : List D → List D → (Sl → List D → Prop) → Prop} {hm : ∀ l ds Q Q', (∀ r l, Q r l → Q' r l) → pre l ds Q → pre l ds Q'} {b : Sm} (h : ∀ (l ds : List D) (Q : Sl → List D → Prop), ds.length = n → pre l ds Q → wS b { nx := fun ρ => resO n (.dat .non) ρ Q, rt := fun w ρ => resO n w ρ Q } (startR m (.own (.lst l) :: ds.map .dat))) :
    ∀ (as : List Sl) (Q : Sl → List Sl → Prop), (ownF name n pre hm).sp as Q → Md (ownF name n pre hm).modes as → wS b (finD (ownF name n pre hm).modes as Q) (startR m as) := by
  rintro as Q ⟨l, ds, rfl, hl, hp⟩ _
  let ms : List Bool := true :: List.replicate n false
  let as : List Sl := .own (.lst l) :: ds.map .dat
  have ok : ∀ ρ l', slOf ρ 0 = some (.own (.lst l')) → okB ms as ρ := fun ρ l' e i hi t ht => by
    cases i with
    | zero => cases ht; exact ⟨trivial, _, e, trivial⟩
    | succ i =>
      have hi : (List.replicate n false)[i]? = some true := hi
      rw [List.getElem?_replicate] at hi
      split at hi <;> cases hi
  have el : ∀ ρ l', slOf ρ 0 = some (.own (.lst l')) → ∃ bs : List Sl, bs.length = n ∧ endB ms ρ = .own (.lst l') :: bs := fun ρ l' e => by
    refine ⟨((List.range n).map fun i => (slOf ρ (i + 1)).getD (.dat .non)), by simp, ?_⟩
    unfold endB
    have : ms.length = n + 1 := by simp [ms]
    rw [this, List.range_succ_eq_map, List.map_cons, e, List.map_map]
    rfl
  have rt : ∀ w ρ, resO n w ρ (fun r l' => ∀ bs, bs.length = n → Q r (.own (.lst l') :: bs)) → rtF ms as Q w ρ := fun w ρ ⟨l', e, q⟩ => by
    obtain ⟨bs, hb, eb⟩ := el ρ l' e
    cases w with
    | dat d => exact ⟨ok ρ l' e, by rw [eb]; exact q bs hb⟩
    | own t => exact ⟨ok ρ l' e, by rw [eb]; exact q bs hb⟩
    | brw i =>
      unfold rtF
      dsimp only at q ⊢
      split at q
      · rename_i d e1; try rw [e1]
        exact ⟨ok ρ l' e, by rw [eb]; exact q bs hb⟩
      · rename_i t e1
        try rw [e1]
        try dsimp only
        have hml : ms.length = n + 1 := by simp [ms]
        obtain ⟨hi, q⟩ := q
        rcases q with q | q
        · exact .inl ⟨by omega, ok ρ l' e, by rw [eb]; exact q bs hb⟩
        · have e' : slOf (ρ.set i (some (.dat t.toD))) 0 = some (.own (.lst l')) := by
            rw [slOf_set_ne (by omega)]; exact e
          obtain ⟨bs', hb', eb'⟩ := el _ l' e'
          exact .inr ⟨ok _ l' e', by rw [eb']; exact q bs' hb'⟩
      · exact q.elim
    | br2 i k => exact q.elim
  exact wS_mono b ⟨fun ρ q => rt (.dat .non) ρ q, fun w ρ q => rt w ρ q, fun _ q => False.elim q, fun _ q => False.elim q⟩ (h l ds _ hl hp)
/-- a call of such a def -/
theorem x_own {name : Str} {n : Nat} {pre : List D → List D → (Sl → List D → Prop) → Prop} {hm : ∀ l ds Q Q', (∀ r l, Q r l → Q' r l) → pre l ds Q → pre l ds Q'} {i : Nat} {ws : List W} {ρ : Ro} {l : List D} {Q : W → Ro → Prop} (hw : ws.length = n) (hi : slOf ρ i = some (.own (.lst l)))
    (h : xzs ws ρ fun ds ρ' => slOf ρ' i = some (.own (.lst l)) ∧ pre l ds fun r l' => Q (ofSl r) (ρ'.set i (some (.own (.lst l'))))) : xC (ownF name n pre hm) (.brw i :: ws) ρ Q := by
  subst hw
  show callF _ _ _ _
  unfold callF
  show pass (true :: List.replicate ws.length false) (.brw i :: ws) ρ _
  unfold pass
  rw [hi]
  dsimp only
  refine pass_pure (frzs_mono (fun ds ρ' z => ?_) (frzs_len (n := 0) h))
  obtain ⟨z1, z2, z3⟩ := z
  refine ⟨fun m => ?_, z2, l, ds, rfl, z1, hm _ _ _ _ (fun r l' q bs hb => ?_) z3⟩
  · have := (List.mem_replicate.mp m).2
    cases this
  · refine ⟨by simp [hb, z1], ?_⟩
    show Q (ofSl r) (back (some i :: List.replicate ds.length none) (.own (.lst l') :: bs) ρ')
    have : back (some i :: List.replicate ds.length none) (.own (.lst l') :: bs) ρ' = back (List.replicate ds.length none) bs (ρ'.set i (some (.own (.lst l')))) := rfl
    rw [this, back_none fun b hb => (List.mem_replicate.mp hb).2]
    exact q
/-- a def whose first argument is a list of the caller's or one that never changes -/
def bothF (name : Str) (n : Nat) (pre : List D → List D → (Sl → List D → Prop) → Prop) (preD : List D → (Sl → Prop) → Prop) (hm : ∀ l ds Q Q', (∀ r l, Q r l → Q' r l) → pre l ds Q → pre l ds Q') (hd : ∀ ds Q Q', (∀ r, Q r → Q' r) → preD ds Q → preD ds Q') : Fn where
  name := name
  modes := true :: List.replicate n false
  sp as Q := (∃ l ds : List D, as = .own (.lst l) :: ds.map .dat ∧ ds.length = n ∧ pre l ds fun r l' => ∀ bs, bs.length = n → Q r (.own (.lst l') :: bs)) ∨ (∃ ds : List D, as = ds.map .dat ∧ ds.length = n + 1 ∧ preD ds fun r => ∀ bs, bs.length = n + 1 → Q r bs)
  mono as Q Q' h := fun x => x.imp (fun ⟨l, ds, h1, h2, h3⟩ => ⟨l, ds, h1, h2, hm _ _ _ _ (fun r l q bs hb => h _ _ (q bs hb)) h3⟩) (fun ⟨ds, h1, h2, h3⟩ => ⟨ds, h1, h2, hd _ _ _ (fun r q bs hb => h _ _ (q bs hb)) h3⟩)
/-- the body where all arguments are things that never change -/
theorem dat_body {ms : List Bool} {m : Nat} {b : Sm} {ds : List D} {Q : Sl → List Sl → Prop} (hl : ds.length = ms.length) (h : wS b { nx := fun ρ => ∀ bs : List Sl, bs.length = ms.length → Q (.dat .non) bs, rt := fun w ρ => resOf ms.length w ρ fun r => ∀ bs : List Sl, bs.length = ms.length → Q r bs } (startR m (ds.map .dat))) :
    wS b (finD ms (ds.map .dat) Q) (startR m (ds.map .dat)) := by
  have ok : ∀ ρ, okB ms (ds.map .dat) ρ := fun ρ i hi t ht => by
    rw [List.getElem?_map] at ht
    cases e : ds[i]? with
    | none => rw [e] at ht; cases ht
    | some d => rw [e] at ht; cases ht
  have el : ∀ ρ, (endB ms ρ).length = ms.length := fun ρ => by
    unfold endB
    simp
  have rt : ∀ w ρ, resOf ms.length w ρ (fun r => ∀ bs : List Sl, bs.length = ms.length → Q r bs) → rtF ms (ds.map .dat) Q w ρ := fun w ρ q => by
    cases w with
    | dat d => exact ⟨ok ρ, q _ (el ρ)⟩
    | own t => exact ⟨ok ρ, q _ (el ρ)⟩
    | brw i =>
      unfold resOf at q
      unfold rtF
      dsimp only at q ⊢
      split at q
      · rename_i d e; try rw [e]
        exact ⟨ok ρ, q _ (el ρ)⟩
      · rename_i t e
        try rw [e]
        try dsimp only
        rcases q with ⟨hi, q⟩ | q
        · exact .inl ⟨hi, ok ρ, q _ (el ρ)⟩
        · exact .inr ⟨ok _, q _ (el _)⟩
      · exact q.elim
    | br2 i k => exact q.elim
  exact wS_mono b ⟨fun ρ q => rt (.dat .non) ρ q, fun w ρ q => rt w ρ q, fun _ q => False.elim q, fun _ q => False.elim q⟩ h
theorem both_body {name : Str} {n m : Nat} {pre : List D → List D → (Sl → List D → Prop) → Prop} {preD : List D → (Sl → Prop) → Prop} {hm : ∀ l ds Q Q', (∀ r l, Q r l → Q' r l) → pre l ds Q → pre l ds Q'} {hd : ∀ ds Q Q', (∀ r, Q r → Q' r) → preD ds Q → preD ds Q'} {b : Sm}
    (h : ∀ (l ds : List D) (Q : Sl → List D → Prop), ds.length = n → pre l ds Q → wS b { nx := fun ρ => resO n (.dat .non) ρ Q, rt := fun w ρ => resO n w ρ Q } (startR m (.own (.lst l) :: ds.map .dat)))
    (h' : ∀ (ds : List D) (Q : Sl → Prop), ds.length = n + 1 → preD ds Q → wS b { nx := fun ρ => Q (.dat .non), rt := fun w ρ => resOf (n + 1) w ρ Q } (startR m (ds.map .dat))) :
    ∀ (as : List Sl) (Q : Sl → List Sl → Prop), (bothF name n pre preD hm hd).sp as Q → Md (bothF name n pre preD hm hd).modes as → wS b (finD (bothF name n pre preD hm hd).modes as Q) (startR m as) := by
  rintro as Q (h1 | ⟨ds, rfl, hl, hp⟩) md
  · exact own_body (name := name) (hm := hm) h as Q h1 md
  · have e : (bothF name n pre preD hm hd).modes.length = n + 1 := by show (true :: List.replicate n false).length = _; simp
    refine dat_body (hl.trans e.symm) ?_
    rw [e]
    exact h' ds _ hl hp
theorem x_both_own {name : Str} {n : Nat} {pre : List D → List D → (Sl → List D → Prop) → Prop} {preD : List D → (Sl → Prop) → Prop} {hm : ∀ l ds Q Q', (∀ r l, Q r l → Q' r l) → pre l ds Q → pre l ds Q'} {hd : ∀ ds Q Q', (∀ r, Q r → Q' r) → preD ds Q → preD ds Q'} {i : Nat} {ws : List W} {ρ : Ro} {l : List D} {Q : W → Ro → Prop} (hw : ws.length = n) (hi : slOf ρ i = some (.own (.lst l)))
    (h : xzs ws ρ fun ds ρ' => slOf ρ' i = some (.own (.lst l)) ∧ pre l ds fun r l' => Q (ofSl r) (ρ'.set i (some (.own (.lst l'))))) : xC (bothF name n pre preD hm hd) (.brw i :: ws) ρ Q := by
  have := x_own (name := name) (n := n) (pre := pre) (hm := hm) hw hi h
  unfold xC callF at this ⊢
  exact pass_mono (fun as bs ρ' q => .inl q) this
theorem x_both_dat {name : Str} {n : Nat} {pre : List D → List D → (Sl → List D → Prop) → Prop} {preD : List D → (Sl → Prop) → Prop} {hm : ∀ l ds Q Q', (∀ r l, Q r l → Q' r l) → pre l ds Q → pre l ds Q'} {hd : ∀ ds Q Q', (∀ r, Q r → Q' r) → preD ds Q → preD ds Q'} {ds : List D} {ρ : Ro} {Q : W → Ro → Prop} (hl : ds.length = n + 1)
    (h : preD ds fun r => Q (ofSl r) ρ) : callF (bothF name n pre preD hm hd) (ds.map .dat) ρ Q := by
  refine (callF_dat3 (by show (true :: List.replicate n false).length = _; simp [hl])).mpr ?_
  exact .inr ⟨ds, rfl, hl, hd _ _ _ (fun r q bs hb => ⟨by rw [hb, hl], q⟩) h⟩
/-- calls of a constructor -/
theorem x_mk_own {name : Str} {c : Nat} {pre pre' : List D → (List D → Prop) → Prop} {hp : ∀ ds Q Q', (∀ fs, Q fs → Q' fs) → pre ds Q → pre ds Q'} {hp' : ∀ ds Q Q', (∀ fs, Q fs → Q' fs) → pre' ds Q → pre' ds Q'} {d1 d2 : D} {xs : List D} {ρ : Ro} {Q : W → Ro → Prop} (h : pre [d1, d2, .lst xs] fun fs => Q (.dat (.ins c fs)) ρ) : xC (makeF3 name c pre pre' hp hp') [.dat d1, .dat d2, .own (.lst xs)] ρ Q := by
  show callF _ _ _ _
  unfold callF
  show pass [false, false, true] [.dat d1, .dat d2, .own (.lst xs)] ρ _
  unfold pass
  rw [frz_dat]
  unfold pass
  rw [frz_dat]
  unfold pass
  unfold pass
  exact .inl ⟨d1, d2, xs, rfl, hp _ _ _ (fun fs q b1 b2 => ⟨rfl, q⟩) h⟩
theorem x_mk_brw {name : Str} {c : Nat} {pre pre' : List D → (List D → Prop) → Prop} {hp : ∀ ds Q Q', (∀ fs, Q fs → Q' fs) → pre ds Q → pre ds Q'} {hp' : ∀ ds Q Q', (∀ fs, Q fs → Q' fs) → pre' ds Q → pre' ds Q'} {d1 d2 : D} {xs : List D} {i : Nat} {ρ : Ro} {Q : W → Ro → Prop} (hi : slOf ρ i = some (.own (.lst xs))) (h : pre [d1, d2, .lst xs] fun fs => Q (.dat (.ins c fs)) (ρ.set i (some (.own (.lst xs))))) : xC (makeF3 name c pre pre' hp hp') [.dat d1, .dat d2, .brw i] ρ Q := by
  show callF _ _ _ _
  unfold callF
  show pass [false, false, true] [.dat d1, .dat d2, .brw i] ρ _
  unfold pass
  rw [frz_dat]
  unfold pass
  rw [frz_dat]
  unfold pass
  rw [hi]
  dsimp only
  unfold pass
  exact ⟨by simp, hi, .inl ⟨d1, d2, xs, rfl, hp _ _ _ (fun fs q b1 b2 => ⟨rfl, q⟩) h⟩⟩
theorem x_mk_dat {name : Str} {c : Nat} {pre pre' : List D → (List D → Prop) → Prop} {hp : ∀ ds Q Q', (∀ fs, Q fs → Q' fs) → pre ds Q → pre ds Q'} {hp' : ∀ ds Q Q', (∀ fs, Q fs → Q' fs) → pre' ds Q → pre' ds Q'} {d1 d2 d3 : D} {ρ : Ro} {Q : W → Ro → Prop} (h : pre' [d1, d2, d3] fun fs => Q (.dat (.ins c fs)) ρ) : xC (makeF3 name c pre pre' hp hp') [.dat d1, .dat d2, .dat d3] ρ Q := by
  show callF (makeF3 name c pre pre' hp hp') ([d1, d2, d3].map .dat) ρ Q
  refine (callF_dat3 rfl).mpr ?_
  exact .inr ⟨d1, d2, d3, rfl, hp' _ _ _ (fun fs q b1 b2 b3 => ⟨rfl, q⟩) h⟩
def wo := And.intro @ro_dat @ro_own
end Cw
/-! Cw: rows in order as a function; ties. -/
namespace Cw
open PySem PySem.Spec PyProof.Rows L2

def insL (r : List Int) : List (List Int) → List (List Int)
  | [] => [r]
  | s :: S => if r = s then s :: S else if lexB r s = true then r :: s :: S else s :: insL r S
def inOrd (rs : List (List Int)) : List (List Int) := rs.foldr insL []
theorem mem_insL {x r : List Int} : ∀ {S : List (List Int)}, x ∈ insL r S ↔ x = r ∨ x ∈ S
  | [] => by simp [insL]
  | s :: S => by
    unfold insL
    by_cases h : r = s
    · rw [if_pos h]; subst h; simp
    · rw [if_neg h]
      by_cases h2 : lexB r s = true
      · rw [if_pos h2]; simp
      · rw [if_neg h2, List.mem_cons, mem_insL, List.mem_cons]
        constructor
        · rintro (h | h | h)
          · exact .inr (.inl h)
          · exact .inl h
          · exact .inr (.inr h)
        · rintro (h | h | h)
          · exact .inr (.inl h)
          · exact .inl h
          · exact .inr (.inr h)
theorem mem_inOrd {x : List Int} : ∀ {rs : List (List Int)}, x ∈ inOrd rs ↔ x ∈ rs
  | [] => by simp [inOrd]
  | r :: rs => by
    unfold inOrd
    rw [List.foldr_cons, mem_insL, List.mem_cons]
    exact or_congr Iff.rfl (mem_inOrd (rs := rs))
theorem insL_pw {n : Nat} {r : List Int} (hr : r.length = n) : ∀ {S : List (List Int)}, (∀ s ∈ S, s.length = n) → S.Pairwise LexLt → (insL r S).Pairwise LexLt
  | [], _, _ => by simp [insL]
  | s :: S, hl, h => by
    have ls := hl s List.mem_cons_self
    obtain ⟨h1, h2⟩ := List.pairwise_cons.mp h
    unfold insL
    by_cases e : r = s
    · rw [if_pos e]; exact h
    · rw [if_neg e]
      by_cases e2 : lexB r s = true
      · rw [if_pos e2]
        have lt := (lexB_iff (hr.trans ls.symm)).mp e2
        refine List.pairwise_cons.mpr ⟨fun x m => ?_, h⟩
        rcases List.mem_cons.mp m with rfl | m
        · exact lt
        · exact lt.trans (h1 x m)
      · rw [if_neg e2]
        have lt : LexLt s r := by
          rcases LexLt.tri (hr.trans ls.symm) with q | q | q
          · exact absurd ((lexB_iff (hr.trans ls.symm)).mpr q) e2
          · exact absurd q e
          · exact q
        refine List.pairwise_cons.mpr ⟨fun x m => ?_, insL_pw hr (fun y m => hl y (List.mem_cons_of_mem _ m)) h2⟩
        rcases mem_insL.mp m with rfl | m
        · exact lt
        · exact h1 x m
theorem inOrd_pw {n : Nat} : ∀ {rs : List (List Int)}, (∀ r ∈ rs, r.length = n) → (inOrd rs).Pairwise LexLt
  | [], _ => List.Pairwise.nil
  | r :: rs, h => insL_pw (h r List.mem_cons_self) (fun s m => h s (List.mem_cons_of_mem _ (mem_inOrd.mp m))) (inOrd_pw fun s m => h s (List.mem_cons_of_mem _ m))
theorem inOrd_uniq {n : Nat} {rs S : List (List Int)} (h : ∀ r ∈ rs, r.length = n) (p : S.Pairwise LexLt) (m : ∀ r, r ∈ S ↔ r ∈ rs) : S = inOrd rs :=
  lex_uniq p (inOrd_pw h) fun r => (m r).trans mem_inOrd.symm
/-- the order tells the set alone -/
theorem inOrd_congr {n : Nat} {rs rs' : List (List Int)} (h : ∀ r ∈ rs, r.length = n) (m : ∀ r, r ∈ rs' ↔ r ∈ rs) : inOrd rs' = inOrd rs :=
  inOrd_uniq h (inOrd_pw (n := n) fun r q => h r ((m r).mp q)) fun r => mem_inOrd.trans (m r)
theorem inOrd_len {rs : List (List Int)} : (inOrd rs).length ≤ rs.length := by
  have gen : ∀ (r : List Int) (S : List (List Int)), (insL r S).length ≤ S.length + 1 := by
    intro r S
    induction S with
    | nil => simp [insL]
    | cons s S ih =>
      unfold insL
      split
      · simp
      · split
        · simp
        · simp only [List.length_cons]; omega
  induction rs with
  | nil => simp [inOrd]
  | cons r rs ih =>
    have := gen r (inOrd rs)
    show (insL r (inOrd rs)).length ≤ _
    rw [List.length_cons]
    omega
def bdV (B : Nat) (xs : List Int) : Prop := ∀ x ∈ xs, -(2 ^ B : Int) ≤ x ∧ x ≤ 2 ^ B
theorem pow_mono {B C : Nat} (h : B ≤ C) : (2 ^ B : Int) ≤ 2 ^ C := by
  have := Nat.pow_le_pow_right (n := 2) (by decide) h
  exact_mod_cast this
theorem bdV.mono {B C : Nat} {xs : List Int} (h : bdV B xs) (k : B ≤ C) : bdV C xs := fun x m => by
  have := h x m
  have := pow_mono k
  omega
theorem rowsOk {rs : List (List Int)} {n B : Nat} (hl : ∀ r ∈ rs, r.length = n) (hb : ∀ r ∈ rs, bdV B r) (hn : n ≤ 20) (hB : B ≤ 1000) (hc : rs.length ≤ 100000) : RowsOk rs n B where
  len := hl
  bd := hb
  sm := by
    have : (n + 2) * (B + 3) ≤ 22 * 1003 := Nat.mul_le_mul (by omega) (by omega)
    omega
  cnt := by
    have : ∀ l : List (List Int), (∀ r ∈ l, r.length = n) → l.flatten.length ≤ 20 * l.length := by
      intro l
      induction l with
      | nil => intro _; simp
      | cons r l ih =>
        intro h
        have h1 := h r List.mem_cons_self
        have h2 := ih fun s m => h s (List.mem_cons_of_mem _ m)
        rw [List.flatten_cons, List.length_append, List.length_cons]
        omega
    have := this rs hl
    have e : sizeLine = 16777216 := by decide
    omega
  cn2 := by
    have e : sizeLine = 16777216 := by decide
    omega
theorem c_inOrd {ρ : Ro} {rs : List (List Int)} {n B : Nat} {Q : W → Ro → Prop} (ok : RowsOk rs n B) (h : Q (.own (.lst ((inOrd rs).map mv))) ρ) : xC F_in_order [.own (.lst (rs.map mv))] ρ Q :=
  c_in_order' ok fun S p q => by rw [inOrd_uniq ok.len p q]; exact h
theorem sizeL : sizeLine = 16777216 := by decide

/-! told_tie -/
def F_told_tie : Fn := pureF "told_tie" 1 (fun ds Q => ∃ (t : Tie) (B : Nat), ds = [t.d] ∧ t.m.length ≤ 20 ∧ bdV B t.m ∧ B ≤ 1000 ∧ Q (.dat t.told.d)) fun ds Q Q' h ⟨t, B, a, b, c, d, e⟩ => ⟨t, B, a, b, c, d, h _ e⟩
def b_told_tie : Sm := (.cons (.asg (.tp (.cons (.nm 2) (.cons (.nm 3) (.cons (.nm 4) .nil)))) (.var 0)) (.cons (.asg (.nm 1) (.call F_turned_about (.cons (.var 4) .nil))) (.cons (.ite (.or (.cmp .gt (.var 2) (.var 3)) (.and (.cmp .eq (.var 2) (.var 3)) (.cmp .eq (.idx (.call F_in_order (.cons (.lst (.cons (.var 4) (.cons (.var 1) .nil))) .nil)) (.int 0)) (.var 4)))) (.cons (.ret (.tup (.cons (.var 3) (.cons (.var 2) (.cons (.var 1) .nil))))) .nil) .nil) (.cons (.ret (.var 0)) .nil))))
theorem lexB_flip {xs ys : List Int} (h : xs.length = ys.length) : lexB xs ys = false ↔ ys = xs ∨ lexB ys xs = true := by
  rw [lexB_iff h.symm]
  constructor
  · intro e
    rcases LexLt.tri h with q | q | q
    · rw [(lexB_iff h).mpr q] at e; cases e
    · exact .inl q.symm
    · exact .inr q
  · intro e
    cases c : lexB xs ys with
    | false => rfl
    | true =>
      have c := (lexB_iff h).mp c
      rcases e with e | e
      · subst e; exact absurd c LexLt.irr
      · exact absurd (c.trans e) LexLt.irr
theorem ord_two (m : List Int) : ∃ x S, inOrd [m, turnV m] = x :: S ∧ (x = m ↔ lexB (turnV m) m = false) := by
  have e : inOrd [m, turnV m] = insL m [turnV m] := rfl
  rw [e]
  unfold insL
  rw [lexB_flip (turn_len m)]
  by_cases h : m = turnV m
  · rw [if_pos h]; exact ⟨_, _, rfl, fun _ => .inl h, fun _ => h.symm⟩
  · rw [if_neg h]
    by_cases h2 : lexB m (turnV m) = true
    · rw [if_pos h2]; exact ⟨_, _, rfl, fun _ => .inr h2, fun _ => rfl⟩
    · rw [if_neg h2]
      exact ⟨_, _, rfl, fun q => absurd q.symm h, fun q => (q.elim (fun z => absurd z h) fun z => absurd z h2)⟩
theorem w_told_tie : ∀ (ds : List D) (Q : Sl → Prop), ds.length = 1 → (∃ (t : Tie) (B : Nat), ds = [t.d] ∧ t.m.length ≤ 20 ∧ bdV B t.m ∧ B ≤ 1000 ∧ Q (.dat t.told.d)) → wS b_told_tie { nx := fun ρ => Q (.dat .non), rt := fun w ρ => resOf 1 w ρ Q } (startR 5 (ds.map .dat)) := by
  rintro ds Q _ ⟨t, B, rfl, hl, hb, hB, hq⟩
  show xS b_told_tie _ [some (.dat t.d), none, none, none, none]
  unfold b_told_tie Tie.d
  simp only [wf]
  refine c_turned_about (by rw [sizeL]; omega) ?_
  simp only [wf]
  have hord : RowsOk [t.m, turnV t.m] t.m.length B := rowsOk (fun r m => by
    simp only [List.mem_cons, List.not_mem_nil, or_false] at m
    rcases m with rfl | rfl
    · rfl
    · rw [turn_len]) (fun r m => by
    simp only [List.mem_cons, List.not_mem_nil, or_false] at m
    rcases m with rfl | rfl
    · exact hb
    · intro x hx
      obtain ⟨y, hy, rfl⟩ := List.mem_map.mp hx
      have := hb y hy
      omega) hl hB (by simp)
  refine cnd_split (fun h => ?_) fun h => ?_
  · simp only [wf]
    have h := of_decide_eq_true h
    unfold Tie.told at hq
    rw [if_pos (.inl h)] at hq
    exact hq
  · have h := of_decide_eq_false h
    simp only [wf]
    refine cnd_split (fun h2 => ?_) fun h2 => ?_
    · have h2 := of_decide_eq_true h2
      simp only [wf]
      refine c_inOrd hord ?_
      obtain ⟨x, S, e1, e2⟩ := ord_two t.m
      rw [e1]
      simp only [wf, List.map_cons]
      rw [x_eqD tyMv (by decide)]
      simp only [wf]
      refine cnd_split (fun h3 => ?_) fun h3 => ?_
      · have h3 := of_decide_eq_true h3
        simp only [wf]
        unfold Tie.told at hq
        rw [if_pos (.inr ⟨h2, e2.mp h3⟩)] at hq
        exact hq
      · have h3 := of_decide_eq_false h3
        simp only [wf]
        unfold Tie.told at hq
        rw [if_neg (fun q => q.elim h fun q => h3 (e2.mpr q.2))] at hq
        exact hq
    · have h2 := of_decide_eq_false h2
      simp only [wf]
      unfold Tie.told at hq
      rw [if_neg (fun q => q.elim h fun q => h2 q.1)] at hq
      exact hq
theorem c_told_tie {ρ : Ro} {t : Tie} {B : Nat} {Q : W → Ro → Prop} (hl : t.m.length ≤ 20) (hb : bdV B t.m) (hB : B ≤ 1000) (h : Q (.dat t.told.d) ρ) : xC F_told_tie [.dat t.d] ρ Q := call_pure rfl ⟨t, B, rfl, hl, hb, hB, h⟩
end Cw
/-! Cw: told ties; what is a tie. -/
namespace Cw
open PySem PySem.Spec PyProof.Rows L2

def Tie.row (t : Tie) : List Int := t.a :: t.b :: t.m
def Tie.of (r : List Int) : Tie := match r with
  | a :: b :: m => ⟨a, b, m⟩
  | _ => ⟨0, 0, []⟩
theorem Tie.of_row (t : Tie) : Tie.of t.row = t := rfl
def toldTies (ts : List Tie) : List Tie := (inOrd (ts.map fun t => t.told.row)).map Tie.of
theorem mem_told {t : Tie} {ts : List Tie} : t ∈ toldTies ts ↔ ∃ s ∈ ts, s.told = t := by
  unfold toldTies
  constructor
  · intro m
    obtain ⟨r, hr, rfl⟩ := List.mem_map.mp m
    obtain ⟨s, hs, rfl⟩ := List.mem_map.mp (mem_inOrd.mp hr)
    exact ⟨s, hs, rfl⟩
  · rintro ⟨s, hs, rfl⟩
    exact List.mem_map.mpr ⟨_, mem_inOrd.mpr (List.mem_map.mpr ⟨s, hs, rfl⟩), rfl⟩
theorem Tie.told_cases (t : Tie) : t.told = t ∨ t.told = t.turn := by
  unfold Tie.told
  split
  · exact .inr rfl
  · exact .inl rfl
theorem Tie.told_len (t : Tie) : t.told.m.length = t.m.length := by
  rcases t.told_cases with e | e
  · rw [e]
  · rw [e]; exact turn_len _
theorem bdV_turn {B : Nat} {m : List Int} (h : bdV B m) : bdV B (turnV m) := fun x hx => by
  obtain ⟨y, hy, rfl⟩ := List.mem_map.mp hx
  have := h y hy
  omega
/-- a tie whose numbers are not too great -/
def Tie.sm (n B : Nat) (t : Tie) : Prop := t.m.length = n ∧ bdV B t.row
theorem Tie.sm.told {n B : Nat} {t : Tie} (h : t.sm n B) : t.told.sm n B := by
  refine ⟨(Tie.told_len t).trans h.1, ?_⟩
  rcases t.told_cases with e | e
  · rw [e]; exact h.2
  · rw [e]
    intro x m
    have hm : bdV B t.m := fun y q => h.2 y (List.mem_cons_of_mem _ (List.mem_cons_of_mem _ q))
    rcases List.mem_cons.mp m with rfl | m
    · exact h.2 _ (List.mem_cons_of_mem _ List.mem_cons_self)
    · rcases List.mem_cons.mp m with rfl | m
      · exact h.2 _ List.mem_cons_self
      · exact bdV_turn hm x m
theorem Tie.sm.m {n B : Nat} {t : Tie} (h : t.sm n B) : bdV B t.m := fun y q => h.2 y (List.mem_cons_of_mem _ (List.mem_cons_of_mem _ q))
/-- many ties -/
structure Ties (n B : Nat) (ts : List Tie) : Prop where
  sm : ∀ t ∈ ts, t.sm n B
  n : n ≤ 18
  B : B ≤ 1000
  len : ts.length ≤ 100000
theorem Ties.rows {n B : Nat} {ts : List Tie} (h : Ties n B ts) : RowsOk (ts.map fun t => t.told.row) (n + 2) B := rowsOk (fun r m => by
    obtain ⟨t, ht, rfl⟩ := List.mem_map.mp m
    have := (h.sm t ht).told.1
    simp [Tie.row, this]) (fun r m => by
    obtain ⟨t, ht, rfl⟩ := List.mem_map.mp m
    exact (h.sm t ht).told.2) (by have := h.n; omega) h.B (by rw [List.length_map]; exact h.len)
theorem toldTies_len {ts : List Tie} : (toldTies ts).length ≤ ts.length := by
  unfold toldTies
  rw [List.length_map]
  exact Nat.le_trans inOrd_len (by rw [List.length_map]; exact Nat.le_refl _)

def F_told_ties : Fn := bothF "told_ties" 0 (fun l ds Q => ∃ (ts : List Tie) (n B : Nat), ds = [] ∧ l = ts.map Tie.d ∧ Ties n B ts ∧ Q (.dat (.tup ((toldTies ts).map Tie.d))) l) (fun ds Q => ∃ (ts : List Tie) (n B : Nat), ds = [.lst (ts.map Tie.d)] ∧ Ties n B ts ∧ Q (.dat (.tup ((toldTies ts).map Tie.d))))
  (fun l ds Q Q' h ⟨ts, n, B, a, b, c, d⟩ => ⟨ts, n, B, a, b, c, h _ _ d⟩) (fun ds Q Q' h ⟨ts, n, B, a, b, c⟩ => ⟨ts, n, B, a, b, h _ c⟩)
def b_told_ties : Sm := (.cons (.asg (.nm 1) (.call F_in_order (.cons (.lc [3, 4, 5] (.tp (.cons (.nm 3) (.cons (.nm 4) (.cons (.nm 5) .nil)))) .seq (.cons (.lc [6] (.nm 6) .seq (.cons (.var 0) .nil) (.bl true) (.call F_told_tie (.cons (.var 6) .nil))) .nil) (.bl true) (.bin .add (.tup (.cons (.var 3) (.cons (.var 4) .nil))) (.var 5))) .nil))) (.cons (.ret (.blt .tuple (.cons (.lc [2] (.nm 2) .seq (.cons (.var 1) .nil) (.bl true) (.tup (.cons (.idx (.var 2) (.int 0)) (.cons (.idx (.var 2) (.int 1)) (.cons (.slc (.var 2) (.int 2) .nil) .nil))))) .nil))) .nil))
theorem w_told_ties : ∀ (l ds : List D) (Q : Sl → List D → Prop), ds.length = 0 → (∃ (ts : List Tie) (n B : Nat), ds = [] ∧ l = ts.map Tie.d ∧ Ties n B ts ∧ Q (.dat (.tup ((toldTies ts).map Tie.d))) l) → wS b_told_ties { nx := fun ρ => resO 0 (.dat .non) ρ Q, rt := fun w ρ => resO 0 w ρ Q } (startR 7 (.own (.lst l) :: ds.map .dat)) := by
  rintro l ds Q _ ⟨ts, n, B, rfl, rfl, ok, hq⟩
  show xS b_told_ties _ [some (.own (.lst (ts.map Tie.d))), none, none, none, none, none, none]
  unfold b_told_ties
  simp only [wf, wo]
  refine x_lc (fun t : Tie => mv t.told.row) ?_
  simp only [wf, wo]
  refine x_lc (fun t : Tie => t.told.d) ?_
  simp only [wf, wo]
  have hl := ok.len
  refine its Tie.d ts rfl rfl (by rw [sizeL]; omega) (fun t ht => ?_) ?_
  · unfold xStep
    simp only [wf, wo]
    refine c_told_tie (by rw [(ok.sm t ht).1]; have := ok.n; omega) (ok.sm t ht).m ok.B ?_
    simp only [wf, wo]
  · simp only [wf, wo]
    refine its (fun t : Tie => t.told.d) ts rfl trivial (by rw [sizeL]; omega) (fun t ht => ?_) ?_
    · unfold xStep Tie.d mv
      simp only [wf, wo]
      have := (ok.sm t ht).told.1
      have := ok.n
      refine ⟨?_, rfl⟩
      rw [List.length_map, sizeL]
      simp only [List.length_cons, List.length_nil]
      omega
    · have e : ts.map (fun t => mv t.told.row) = (ts.map fun t => t.told.row).map mv := by rw [List.map_map]; rfl
      simp only [wf, wo]
      rw [e]
      refine c_inOrd ok.rows ?_
      simp only [wf, wo]
      refine x_lc (fun r : List Int => (Tie.of r).d) ?_
      simp only [wf, wo]
      have hlen : (inOrd (ts.map fun t => t.told.row)).length ≤ ts.length := Nat.le_trans inOrd_len (by rw [List.length_map]; exact Nat.le_refl _)
      refine its mv _ rfl ?_ (by rw [sizeL]; omega) (fun r hr => ?_) ?_
      · exact rfl
      · obtain ⟨t, ht, rfl⟩ := List.mem_map.mp (mem_inOrd.mp hr)
        unfold xStep Tie.row mv
        simp only [wf, List.map_cons]
        rfl
      · simp only [wf, wo]
        unfold toldTies at hq
        rw [List.map_map] at hq
        exact hq
theorem w_told_tiesD : ∀ (ds : List D) (Q : Sl → Prop), ds.length = 0 + 1 → (∃ (ts : List Tie) (n B : Nat), ds = [.lst (ts.map Tie.d)] ∧ Ties n B ts ∧ Q (.dat (.tup ((toldTies ts).map Tie.d)))) → wS b_told_ties { nx := fun ρ => Q (.dat .non), rt := fun w ρ => resOf (0 + 1) w ρ Q } (startR 7 (ds.map .dat)) := by
  rintro ds Q _ ⟨ts, n, B, rfl, ok, hq⟩
  show xS b_told_ties _ [some (.dat (.lst (ts.map Tie.d))), none, none, none, none, none, none]
  unfold b_told_ties
  simp only [wf, wo]
  refine x_lc (fun t : Tie => mv t.told.row) ?_
  simp only [wf, wo]
  refine x_lc (fun t : Tie => t.told.d) ?_
  simp only [wf, wo]
  have hl := ok.len
  refine its Tie.d ts rfl trivial (by rw [sizeL]; omega) (fun t ht => ?_) ?_
  · unfold xStep
    simp only [wf, wo]
    refine c_told_tie (by rw [(ok.sm t ht).1]; have := ok.n; omega) (ok.sm t ht).m ok.B ?_
    simp only [wf, wo]
  · simp only [wf, wo]
    refine its (fun t : Tie => t.told.d) ts rfl trivial (by rw [sizeL]; omega) (fun t ht => ?_) ?_
    · unfold xStep Tie.d mv
      simp only [wf, wo]
      have := (ok.sm t ht).told.1
      have := ok.n
      refine ⟨?_, rfl⟩
      rw [List.length_map, sizeL]
      simp only [List.length_cons, List.length_nil]
      omega
    · have e : ts.map (fun t => mv t.told.row) = (ts.map fun t => t.told.row).map mv := by rw [List.map_map]; rfl
      simp only [wf, wo]
      rw [e]
      refine c_inOrd ok.rows ?_
      simp only [wf, wo]
      refine x_lc (fun r : List Int => (Tie.of r).d) ?_
      simp only [wf, wo]
      have hlen : (inOrd (ts.map fun t => t.told.row)).length ≤ ts.length := Nat.le_trans inOrd_len (by rw [List.length_map]; exact Nat.le_refl _)
      refine its mv _ rfl ?_ (by rw [sizeL]; omega) (fun r hr => ?_) ?_
      · exact rfl
      · obtain ⟨t, ht, rfl⟩ := List.mem_map.mp (mem_inOrd.mp hr)
        unfold xStep Tie.row mv
        simp only [wf, List.map_cons]
        rfl
      · simp only [wf, wo]
        unfold toldTies at hq
        rw [List.map_map] at hq
        exact hq
end Cw
/-! Cw: what is a tie, what are fields. -/
namespace Cw
open PySem PySem.Spec PyProof.Rows L2

def IsTie (n : Nat) (c : Int) (t : Tie) : Prop := t.m.length = n ∧ 0 ≤ t.a ∧ t.a < c ∧ 0 ≤ t.b ∧ t.b < c ∧ (t.a ≠ t.b ∨ t.m ≠ List.replicate n 0)
theorem x_eq_nil {K : Bool → Prop} : xc .eq (.own (.lst [])) (.own (.lst [])) K = K true := by
  rw [x_eqL (xs := ([] : List Int)) (ys := []) tyInt (by decide) rfl rfl]
  simp
def F_is_tie : Fn := pureF "is_tie" 3 (fun ds Q => ∃ (n : Nat) (c : Int) (t : Tie), ds = [.int n, .int c, t.d] ∧ n ≤ sizeLine ∧ IsTie n c t ∧ Q (.dat (.bl true))) fun ds Q Q' h ⟨n, c, t, a, b, d, e⟩ => ⟨n, c, t, a, b, d, h _ e⟩
def b_is_tie : Sm := (.cons (.ite (.or (.not (.isa (.var 2) .tuple)) (.or (.cmp .ne (.blt .len (.cons (.var 2) .nil)) (.int 3)) (.not (.call F_is_move (.cons (.idx (.var 2) (.int 2)) (.cons (.var 0) .nil)))))) (.cons (.ret (.bl false)) .nil) .nil) (.cons (.ite (.or (.not (.call F_is_below (.cons (.idx (.var 2) (.int 0)) (.cons (.var 1) .nil)))) (.not (.call F_is_below (.cons (.idx (.var 2) (.int 1)) (.cons (.var 1) .nil))))) (.cons (.ret (.bl false)) .nil) .nil) (.cons (.ret (.or (.cmp .ne (.idx (.var 2) (.int 0)) (.idx (.var 2) (.int 1))) (.cmp .ne (.idx (.var 2) (.int 2)) (.call F_noughts (.cons (.var 0) .nil))))) .nil)))
theorem w_is_tie : ∀ (ds : List D) (Q : Sl → Prop), ds.length = 3 → (∃ (n : Nat) (c : Int) (t : Tie), ds = [.int n, .int c, t.d] ∧ n ≤ sizeLine ∧ IsTie n c t ∧ Q (.dat (.bl true))) → wS b_is_tie { nx := fun ρ => Q (.dat .non), rt := fun w ρ => resOf 3 w ρ Q } (startR 3 (ds.map .dat)) := by
  rintro ds Q _ ⟨n, c, t, rfl, hn, ⟨h1, h2, h3, h4, h5, h6⟩, hq⟩
  show xS b_is_tie _ [some (.dat (.int n)), some (.dat (.int c)), some (.dat t.d)]
  unfold b_is_tie Tie.d
  simp only [wf, Bool.not_true, List.length_cons, List.length_nil]
  refine cnd_split (fun h => ?_) fun _ => ?_
  · simp at h
  simp only [wf]
  refine c_is_move (by omega) ?_
  simp only [wf, h1, decide_true, Bool.not_true]
  refine c_is_below ?_
  simp only [wf, h2, h3, and_self, decide_true, Bool.not_true]
  refine c_is_below ?_
  simp only [wf, h4, h5, and_self, decide_true, Bool.not_true]
  refine cnd_split (fun h => ?_) fun h => ?_
  · simp only [wf]; exact hq
  · have e : t.a = t.b := by simpa using h
    simp only [wf]
    refine c_noughts hn ?_
    simp only [wf]
    rw [x_neD tyMv (by decide)]
    have k : t.m ≠ List.replicate n 0 := h6.resolve_left fun q => q e
    simp only [wf, decide_eq_false k, Bool.not_false]
    exact hq
theorem c_is_tie {ρ : Ro} {n : Nat} {c : Int} {t : Tie} {Q : W → Ro → Prop} (hn : n ≤ sizeLine) (ht : IsTie n c t) (h : Q (.dat (.bl true)) ρ) : xC F_is_tie [.dat (.int n), .dat (.int c), .dat t.d] ρ Q := call_pure rfl ⟨n, c, t, rfl, hn, ht, h⟩
def F_are_fields : Fn := pureF "are_fields" 3 (fun ds Q => ∃ (n : Nat) (c : Int) (ts : List Tie), ds = [.int n, .int c, .lst (ts.map Tie.d)] ∧ 1 ≤ n ∧ n ≤ 3 ∧ 1 ≤ c ∧ ts.length ≤ sizeLine ∧ (∀ t ∈ ts, IsTie n c t) ∧ Q (.dat (.bl true))) fun ds Q Q' h ⟨n, c, t, a, b, d, e, f, g, i⟩ => ⟨n, c, t, a, b, d, e, f, g, h _ i⟩
def b_are_fields : Sm := (.cons (.ite (.or (.not (.call F_is_whole (.cons (.var 0) .nil))) (.or (.not (.chn .le .le (.int 1) (.var 0) (.int 3))) (.or (.not (.call F_is_whole (.cons (.var 1) .nil))) (.cmp .lt (.var 1) (.int 1))))) (.cons (.ret (.bl false)) .nil) .nil) (.cons (.ret (.and (.isa (.var 2) .list) (.cmp .eq (.lc [3] (.nm 3) .seq (.cons (.var 2) .nil) (.not (.call F_is_tie (.cons (.var 0) (.cons (.var 1) (.cons (.var 3) .nil))))) (.var 3)) (.lst .nil)))) .nil))
theorem filterMap_none {α β : Type} (xs : List α) : xs.filterMap (fun _ => (none : Option β)) = [] := by
  induction xs with
  | nil => rfl
  | cons x xs ih => simp
theorem w_are_fields : ∀ (ds : List D) (Q : Sl → Prop), ds.length = 3 → (∃ (n : Nat) (c : Int) (ts : List Tie), ds = [.int n, .int c, .lst (ts.map Tie.d)] ∧ 1 ≤ n ∧ n ≤ 3 ∧ 1 ≤ c ∧ ts.length ≤ sizeLine ∧ (∀ t ∈ ts, IsTie n c t) ∧ Q (.dat (.bl true))) → wS b_are_fields { nx := fun ρ => Q (.dat .non), rt := fun w ρ => resOf 3 w ρ Q } (startR 4 (ds.map .dat)) := by
  rintro ds Q _ ⟨n, c, ts, rfl, h1, h2, h3, h4, h5, hq⟩
  show xS b_are_fields _ [some (.dat (.int n)), some (.dat (.int c)), some (.dat (.lst (ts.map Tie.d))), none]
  unfold b_are_fields
  simp only [wf]
  refine c_is_whole rfl ?_
  simp only [wf, isWh, Bool.not_true]
  have k1 : (1 : Int) ≤ n := by omega
  have k2 : (n : Int) ≤ 3 := by omega
  simp only [wf, k1, k2, decide_true, Bool.not_true]
  refine c_is_whole rfl ?_
  have k3 : ¬ (c < 1) := by omega
  simp only [wf, isWh, Bool.not_true, k3, decide_false]
  refine x_lcf (fun _ : Tie => none) ?_
  simp only [wf]
  refine its Tie.d ts rfl trivial h4 (fun t ht => ?_) ?_
  · unfold xfStep
    simp only [wf]
    refine c_is_tie (by rw [sizeL]; omega) (h5 t ht) ?_
    simp only [wf, Bool.not_true]
  · simp only [wf, filterMap_none]
    rw [x_eq_nil]
    simp only [wf]
    exact hq
theorem c_are_fields {ρ : Ro} {n : Nat} {c : Int} {ts : List Tie} {Q : W → Ro → Prop} (h1 : 1 ≤ n) (h2 : n ≤ 3) (h3 : 1 ≤ c) (h4 : ts.length ≤ sizeLine) (h5 : ∀ t ∈ ts, IsTie n c t) (h : Q (.dat (.bl true)) ρ) : callF F_are_fields [.dat (.int n), .dat (.int c), .dat (.lst (ts.map Tie.d))] ρ Q := call_pure rfl ⟨n, c, ts, rfl, h1, h2, h3, h4, h5, h⟩
end Cw
/-! Cw: knots and webs. -/
namespace Cw
open PySem PySem.Spec PyProof.Rows L2

abbrev Kn := Int × List Int
def knD (k : Kn) : D := .tup [.int k.1, mv k.2]
theorem tyKn : TyD knD 2 := tyPair tyInt tyMv
def Kn.row (k : Kn) : List Int := k.1 :: k.2
def Kn.of (r : List Int) : Kn := match r with
  | a :: m => (a, m)
  | _ => (0, [])
theorem Kn.of_row (k : Kn) : Kn.of (Kn.row k) = k := rfl
/-- knots in ascending order, each once -/
def knSort (ks : List Kn) : List Kn := (inOrd (ks.map Kn.row)).map Kn.of
theorem mem_knSort {k : Kn} {ks : List Kn} : k ∈ knSort ks ↔ k ∈ ks := by
  unfold knSort
  constructor
  · intro m
    obtain ⟨r, hr, rfl⟩ := List.mem_map.mp m
    obtain ⟨s, hs, rfl⟩ := List.mem_map.mp (mem_inOrd.mp hr)
    exact hs
  · intro m
    exact List.mem_map.mpr ⟨_, mem_inOrd.mpr (List.mem_map.mpr ⟨k, m, rfl⟩), rfl⟩
theorem knSort_len {ks : List Kn} : (knSort ks).length ≤ ks.length := by
  unfold knSort
  rw [List.length_map]
  exact Nat.le_trans inOrd_len (by rw [List.length_map]; exact Nat.le_refl _)
/-- knots of moves of n numbers, not too great -/
structure Kns (n B : Nat) (ks : List Kn) : Prop where
  sm : ∀ k ∈ ks, k.2.length = n ∧ bdV B (Kn.row k)
  n : n ≤ 18
  B : B ≤ 1000
  len : ks.length ≤ 100000
theorem Kns.rows {n B : Nat} {ks : List Kn} (h : Kns n B ks) : RowsOk (ks.map Kn.row) (n + 1) B := rowsOk (fun r m => by
    obtain ⟨t, ht, rfl⟩ := List.mem_map.mp m
    have := (h.sm t ht).1
    simp [Kn.row, this]) (fun r m => by
    obtain ⟨t, ht, rfl⟩ := List.mem_map.mp m
    exact (h.sm t ht).2) (by have := h.n; omega) h.B (by rw [List.length_map]; exact h.len)
theorem knSort_congr {n B : Nat} {ks ks' : List Kn} (h : Kns n B ks) (m : ∀ k, k ∈ ks' ↔ k ∈ ks) : knSort ks' = knSort ks := by
  unfold knSort
  rw [inOrd_congr (n := n + 1) h.rows.len fun r => ?_]
  constructor
  · intro q
    obtain ⟨k, hk, rfl⟩ := List.mem_map.mp q
    exact List.mem_map.mpr ⟨k, (m k).mp hk, rfl⟩
  · intro q
    obtain ⟨k, hk, rfl⟩ := List.mem_map.mp q
    exact List.mem_map.mpr ⟨k, (m k).mpr hk, rfl⟩
def F_knots_in_order : Fn := pureF "knots_in_order" 1 (fun ds Q => ∃ (ks : List Kn) (n B : Nat), ds = [.lst (ks.map knD)] ∧ Kns n B ks ∧ Q (.own (.lst ((knSort ks).map knD)))) fun ds Q Q' h ⟨ts, n, B, a, b, c⟩ => ⟨ts, n, B, a, b, h _ c⟩
def b_knots_in_order : Sm := (.cons (.asg (.nm 1) (.call F_in_order (.cons (.lc [3, 4] (.tp (.cons (.nm 3) (.cons (.nm 4) .nil))) .seq (.cons (.var 0) .nil) (.bl true) (.bin .add (.tup (.cons (.var 3) .nil)) (.var 4))) .nil))) (.cons (.ret (.lc [2] (.nm 2) .seq (.cons (.var 1) .nil) (.bl true) (.tup (.cons (.idx (.var 2) (.int 0)) (.cons (.slc (.var 2) (.int 1) .nil) .nil))))) .nil))
theorem w_knots_in_order : ∀ (ds : List D) (Q : Sl → Prop), ds.length = 1 → (∃ (ks : List Kn) (n B : Nat), ds = [.lst (ks.map knD)] ∧ Kns n B ks ∧ Q (.own (.lst ((knSort ks).map knD)))) → wS b_knots_in_order { nx := fun ρ => Q (.dat .non), rt := fun w ρ => resOf 1 w ρ Q } (startR 5 (ds.map .dat)) := by
  rintro ds Q _ ⟨ks, n, B, rfl, ok, hq⟩
  show xS b_knots_in_order _ [some (.dat (.lst (ks.map knD))), none, none, none, none]
  unfold b_knots_in_order
  simp only [wf]
  refine x_lc (fun k : Kn => mv (Kn.row k)) ?_
  simp only [wf]
  have hl := ok.len
  refine its knD ks rfl trivial (by rw [sizeL]; omega) (fun k hk => ?_) ?_
  · unfold xStep knD mv
    simp only [wf]
    have := (ok.sm k hk).1
    have := ok.n
    refine ⟨?_, rfl⟩
    rw [List.length_map, sizeL]
    simp only [List.length_cons, List.length_nil]
    omega
  · have e : ks.map (fun k => mv (Kn.row k)) = (ks.map Kn.row).map mv := by rw [List.map_map]; rfl
    simp only [wf]
    rw [e]
    refine c_inOrd ok.rows ?_
    simp only [wf]
    refine x_lc (fun r : List Int => knD (Kn.of r)) ?_
    simp only [wf]
    have hlen : (inOrd (ks.map Kn.row)).length ≤ ks.length := Nat.le_trans inOrd_len (by rw [List.length_map]; exact Nat.le_refl _)
    refine its mv _ rfl ?_ (by rw [sizeL]; omega) (fun r hr => ?_) ?_
    · exact rfl
    · obtain ⟨t, ht, rfl⟩ := List.mem_map.mp (mem_inOrd.mp hr)
      unfold xStep Kn.row mv
      simp only [wf, List.map_cons]
      rfl
    · simp only [wf]
      unfold knSort at hq
      rw [List.map_map] at hq
      exact hq
theorem c_knots_in_order {ρ : Ro} {ks : List Kn} {n B : Nat} {Q : W → Ro → Prop} (ok : Kns n B ks) (h : Q (.own (.lst ((knSort ks).map knD))) ρ) : xC F_knots_in_order [.own (.lst (ks.map knD))] ρ Q := call_pure rfl ⟨ks, n, B, rfl, ok, h⟩

/-! webs -/
structure Wb where
  n : Nat
  c : Nat
  rows : List Tie
  ways : List (List Kn)
  deriving DecidableEq
def Wb.fs (w : Wb) : List D := [.int w.n, .int w.c, .tup (w.rows.map Tie.d), .lst (w.ways.map fun l => .lst (l.map knD))]
def Wb.d (w : Wb) : D := .ins 0 w.fs
/-! knots, ties, webs in the machine -/
section
variable {Q : W → Prop} {ρ : Ro} {K : Ro → Prop}
theorem kn_i0 {k : Kn} : xj (.dat (knD k)) (.dat (.int 0)) Q = Q (.dat (.int k.1)) := by unfold knD; simp only [wf]
theorem kn_i1 {k : Kn} : xj (.dat (knD k)) (.dat (.int 1)) Q = Q (.dat (mv k.2)) := by unfold knD; simp only [wf]
theorem kn_t {k : Kn} {t r : Tg} : xt (.tp (.cons t (.cons r .nil))) (knD k) ρ K = xt t (.int k.1) ρ fun ρ' => xt r (mv k.2) ρ' fun ρ' => K ρ' := by
  unfold knD
  rw [x_k_tpc]
  have e1 : (fun ρ' => xt .nil (.tup []) ρ' K) = fun ρ' => K ρ' := funext fun _ => x_k_n
  have e2 : (fun ρ' => xt (.cons r .nil) (.tup [mv k.2]) ρ' K) = fun ρ' => xt r (mv k.2) ρ' fun ρ' => K ρ' := funext fun _ => by rw [x_k_c, e1]
  rw [e2]
theorem kn_isa {k : Kn} : isa (.dat (knD k)) .tuple = some true := rfl
theorem kn_len {k : Kn} : xl .len [.dat (knD k)] Q = Q (.dat (.int 2)) := by unfold knD; simp only [wf]; rfl
theorem ti_i0 {k : Tie} : xj (.dat k.d) (.dat (.int 0)) Q = Q (.dat (.int k.a)) := by unfold Tie.d; simp only [wf]
theorem ti_i1 {k : Tie} : xj (.dat k.d) (.dat (.int 1)) Q = Q (.dat (.int k.b)) := by unfold Tie.d; simp only [wf]
theorem ti_i2 {k : Tie} : xj (.dat k.d) (.dat (.int 2)) Q = Q (.dat (mv k.m)) := by unfold Tie.d; simp only [wf]
theorem ti_t {k : Tie} {t r l : Tg} : xt (.tp (.cons t (.cons r (.cons l .nil)))) k.d ρ K = xt t (.int k.a) ρ fun ρ' => xt r (.int k.b) ρ' fun ρ' => xt l (mv k.m) ρ' fun ρ' => K ρ' := by
  unfold Tie.d
  rw [x_k_tpc]
  have e1 : (fun ρ' => xt .nil (.tup []) ρ' K) = fun ρ' => K ρ' := funext fun _ => x_k_n
  have e2 : (fun ρ' => xt (.cons l .nil) (.tup [mv k.m]) ρ' K) = fun ρ' => xt l (mv k.m) ρ' fun ρ' => K ρ' := funext fun _ => by rw [x_k_c, e1]
  have e3 : (fun ρ' => xt (.cons r (.cons l .nil)) (.tup [.int k.b, mv k.m]) ρ' K) = fun ρ' => xt r (.int k.b) ρ' fun ρ' => xt l (mv k.m) ρ' fun ρ' => K ρ' := funext fun _ => by rw [x_k_c, e2]
  rw [e3]
theorem mv_len {xs : List Int} : xl .len [.dat (mv xs)] Q = Q (.dat (.int xs.length)) := by unfold mv; simp only [wf, List.length_map]
theorem mv_isa {xs : List Int} : isa (.dat (mv xs)) .tuple = some true := rfl
theorem mv_list {xs : List Int} : xl .list [.dat (mv xs)] Q = Q (.own (.lst (xs.map .int))) := by unfold mv; simp only [wf]
theorem mv_sl1 {xs : List Int} : xsl (.dat (mv xs)) (some 1) none Q = Q (.dat (mv (xs.drop 1))) := by unfold mv; simp only [wf, List.map_drop]
theorem wb_ins {w : Wb} {K : List D → Prop} : onIns 0 (.dat w.d) K = K w.fs := onIns_ins
theorem wb_f0 {w : Wb} : w.fs[0]? = some (.int w.n) := rfl
theorem wb_f1 {w : Wb} : w.fs[1]? = some (.int w.c) := rfl
theorem wb_f2 {w : Wb} : w.fs[2]? = some (.tup (w.rows.map Tie.d)) := rfl
theorem wb_f3 {w : Wb} : w.fs[3]? = some (.lst (w.ways.map fun l => .lst (l.map knD))) := rfl
theorem wb_isa {w : Wb} : isa (.dat w.d) (.cls 0) = some true := rfl
theorem mv_w {xs : List Int} {Q : Src → Ro → Prop} : xw .seq [.dat (mv xs)] ρ Q = Q ⟨xs.map .int, none⟩ ρ := rfl
theorem mv_z {xs ys : List Int} {Q : Src → Ro → Prop} : xw .zip [.dat (mv xs), .dat (mv ys)] ρ Q = Q ⟨((xs.map .int).zip (ys.map .int)).map pairD, none⟩ ρ := y_zt
end
def wk := And.intro @kn_i0 (And.intro @kn_i1 (And.intro @kn_t (And.intro @kn_isa (And.intro @kn_len (And.intro @ti_i0 (And.intro @ti_i1 (And.intro @ti_i2 (And.intro @ti_t (And.intro @mv_len (And.intro @mv_isa (And.intro @mv_list (And.intro @mv_sl1 (And.intro @wb_ins (And.intro @wb_f0 (And.intro @wb_f1 (And.intro @wb_f2 (And.intro @wb_f3 (And.intro @wb_isa (And.intro @mv_w (And.intro @mv_z wf))))))))))))))))))))
/-- a web whose numbers are not too great -/
structure Wb.Ok (w : Wb) (B : Nat) : Prop where
  n : w.n ≤ 18
  bB : B ≤ 998
  c : w.c ≤ 10000
  ties : Ties w.n B w.rows
  wl : w.ways.length = w.c
  ways : ∀ l ∈ w.ways, Kns w.n B l
def IsKn (w : Wb) (k : Kn) : Prop := 0 ≤ k.1 ∧ k.1 < w.c ∧ k.2.length = w.n
def F_is_knot : Fn := pureF "is_knot" 2 (fun ds Q => ∃ (w : Wb) (k : Kn), ds = [w.d, knD k] ∧ w.n ≤ 100 ∧ IsKn w k ∧ Q (.dat (.bl true))) fun ds Q Q' h ⟨n, c, t, a, b, d⟩ => ⟨n, c, t, a, b, h _ d⟩
def b_is_knot : Sm := (.cons (.ite (.or (.not (.isa (.var 1) .tuple)) (.cmp .ne (.blt .len (.cons (.var 1) .nil)) (.int 2))) (.cons (.ret (.bl false)) .nil) .nil) (.cons (.ret (.and (.call F_is_below (.cons (.idx (.var 1) (.int 0)) (.cons (.fld 0 1 (.var 0)) .nil))) (.call F_is_move (.cons (.idx (.var 1) (.int 1)) (.cons (.fld 0 0 (.var 0)) .nil))))) .nil))
theorem w_is_knot : ∀ (ds : List D) (Q : Sl → Prop), ds.length = 2 → (∃ (w : Wb) (k : Kn), ds = [w.d, knD k] ∧ w.n ≤ 100 ∧ IsKn w k ∧ Q (.dat (.bl true))) → wS b_is_knot { nx := fun ρ => Q (.dat .non), rt := fun w ρ => resOf 2 w ρ Q } (startR 2 (ds.map .dat)) := by
  rintro ds Q _ ⟨w, k, rfl, hn, ⟨h1, h2, h3⟩, hq⟩
  show xS b_is_knot _ [some (.dat w.d), some (.dat (knD k))]
  unfold b_is_knot
  simp only [wk, Bool.not_true, decide_true]
  refine c_is_below ?_
  simp only [wk, h1, h2, and_self, decide_true]
  refine c_is_move (by rw [sizeL]; omega) ?_
  simp only [wk, h3, decide_true]
  exact hq
theorem c_is_knot {ρ : Ro} {w : Wb} {k : Kn} {Q : W → Ro → Prop} (hn : w.n ≤ 100) (hk : IsKn w k) (h : Q (.dat (.bl true)) ρ) : xC F_is_knot [.dat w.d, .dat (knD k)] ρ Q := call_pure rfl ⟨w, k, rfl, hn, hk, h⟩
def F_check_knot : Fn := pureF "check_knot" 2 (fun ds Q => ∃ (w : Wb) (k : Kn), ds = [w.d, knD k] ∧ w.n ≤ 100 ∧ IsKn w k ∧ Q (.dat .non)) fun ds Q Q' h ⟨n, c, t, a, b, d⟩ => ⟨n, c, t, a, b, h _ d⟩
def b_check_knot : Sm := (.cons (.ite (.not (.call F_is_knot (.cons (.var 0) (.cons (.var 1) .nil)))) (.cons .never .nil) .nil) .nil)
theorem w_check_knot : ∀ (ds : List D) (Q : Sl → Prop), ds.length = 2 → (∃ (w : Wb) (k : Kn), ds = [w.d, knD k] ∧ w.n ≤ 100 ∧ IsKn w k ∧ Q (.dat .non)) → wS b_check_knot { nx := fun ρ => Q (.dat .non), rt := fun w ρ => resOf 2 w ρ Q } (startR 2 (ds.map .dat)) := by
  rintro ds Q _ ⟨w, k, rfl, hn, hk, hq⟩
  show xS b_check_knot _ [some (.dat w.d), some (.dat (knD k))]
  unfold b_check_knot
  simp only [wk]
  refine c_is_knot hn hk ?_
  simp only [wk, Bool.not_true]
  exact hq
theorem c_check_knot {ρ : Ro} {w : Wb} {k : Kn} {Q : W → Ro → Prop} (hn : w.n ≤ 100) (hk : IsKn w k) (h : Q (.dat .non) ρ) : xC F_check_knot [.dat w.d, .dat (knD k)] ρ Q := call_pure rfl ⟨w, k, rfl, hn, hk, h⟩
/-! properties -/
def F_directions : Fn := pureF "directions" 1 (fun ds Q => ∃ w : Wb, ds = [w.d] ∧ Q (.dat (.int w.n))) fun ds Q Q' h ⟨w, a, b⟩ => ⟨w, a, h _ b⟩
def b_directions : Sm := (.cons (.ret (.fld 0 0 (.var 0))) .nil)
theorem w_directions : ∀ (ds : List D) (Q : Sl → Prop), ds.length = 1 → (∃ w : Wb, ds = [w.d] ∧ Q (.dat (.int w.n))) → wS b_directions { nx := fun ρ => Q (.dat .non), rt := fun w ρ => resOf 1 w ρ Q } (startR 1 (ds.map .dat)) := by
  rintro ds Q _ ⟨w, rfl, hq⟩
  show xS b_directions _ [some (.dat w.d)]
  unfold b_directions
  simp only [wk]
  exact hq
theorem c_directions {ρ : Ro} {w : Wb} {Q : W → Ro → Prop} (h : Q (.dat (.int w.n)) ρ) : xC F_directions [.dat w.d] ρ Q := call_pure rfl ⟨w, rfl, h⟩
def F_places : Fn := pureF "places" 1 (fun ds Q => ∃ w : Wb, ds = [w.d] ∧ Q (.dat (.int w.c))) fun ds Q Q' h ⟨w, a, b⟩ => ⟨w, a, h _ b⟩
def b_places : Sm := (.cons (.ret (.fld 0 1 (.var 0))) .nil)
theorem w_places : ∀ (ds : List D) (Q : Sl → Prop), ds.length = 1 → (∃ w : Wb, ds = [w.d] ∧ Q (.dat (.int w.c))) → wS b_places { nx := fun ρ => Q (.dat .non), rt := fun w ρ => resOf 1 w ρ Q } (startR 1 (ds.map .dat)) := by
  rintro ds Q _ ⟨w, rfl, hq⟩
  show xS b_places _ [some (.dat w.d)]
  unfold b_places
  simp only [wk]
  exact hq
theorem c_places {ρ : Ro} {w : Wb} {Q : W → Ro → Prop} (h : Q (.dat (.int w.c)) ρ) : xC F_places [.dat w.d] ρ Q := call_pure rfl ⟨w, rfl, h⟩
def F_ties : Fn := pureF "ties" 1 (fun ds Q => ∃ w : Wb, ds = [w.d] ∧ Q (.own (.lst (w.rows.map Tie.d)))) fun ds Q Q' h ⟨w, a, b⟩ => ⟨w, a, h _ b⟩
def b_ties : Sm := (.cons (.ret (.blt .list (.cons (.fld 0 2 (.var 0)) .nil))) .nil)
theorem w_ties : ∀ (ds : List D) (Q : Sl → Prop), ds.length = 1 → (∃ w : Wb, ds = [w.d] ∧ Q (.own (.lst (w.rows.map Tie.d)))) → wS b_ties { nx := fun ρ => Q (.dat .non), rt := fun w ρ => resOf 1 w ρ Q } (startR 1 (ds.map .dat)) := by
  rintro ds Q _ ⟨w, rfl, hq⟩
  show xS b_ties _ [some (.dat w.d)]
  unfold b_ties
  simp only [wk]
  exact hq
theorem c_ties {ρ : Ro} {w : Wb} {Q : W → Ro → Prop} (h : Q (.own (.lst (w.rows.map Tie.d))) ρ) : xC F_ties [.dat w.d] ρ Q := call_pure rfl ⟨w, rfl, h⟩
/-! neighbours, tied -/
def Wb.at (w : Wb) (k : Kn) : List Kn := (w.ways.getD k.1.toNat []).map fun x => (x.1, addV k.2 x.2)
def Wb.nb (w : Wb) (k : Kn) : List Kn := knSort (w.at k)
theorem atI_way {α : Type} {ls : List α} {p : Int} {d : α} (h0 : 0 ≤ p) (h1 : p < ls.length) : atI ls p = some (ls.getD p.toNat d) := by
  obtain ⟨k, rfl⟩ : ∃ k : Nat, p = k := ⟨p.toNat, by omega⟩
  refine atI_nat (j := k) ?_
  have : k < ls.length := by omega
  rw [Int.toNat_natCast, List.getD_eq_getElem?_getD, List.getElem?_eq_getElem this]
  rfl
theorem Wb.Ok.way {w : Wb} {B : Nat} (h : w.Ok B) {p : Int} (h0 : 0 ≤ p) (h1 : p < w.c) : atI (w.ways.map fun l => D.lst (l.map knD)) p = some (.lst ((w.ways.getD p.toNat []).map knD)) := by
  rw [atI_way (d := .lst []) h0 (by rw [List.length_map, h.wl]; exact h1)]
  rw [List.getD_eq_getElem?_getD, List.getD_eq_getElem?_getD, List.getElem?_map]
  cases w.ways[p.toNat]? <;> rfl
theorem Wb.Ok.wayOk {w : Wb} {B : Nat} (h : w.Ok B) (p : Int) : Kns w.n B (w.ways.getD p.toNat []) := by
  rw [List.getD_eq_getElem?_getD]
  cases e : w.ways[p.toNat]? with
  | none => exact ⟨fun k m => (by cases m), h.n, by have := h.bB; omega, by simp⟩
  | some l => exact h.ways l (List.mem_of_getElem? e)
theorem addV_len {xs ys : List Int} {n : Nat} (h1 : xs.length = n) (h2 : ys.length = n) : (addV xs ys).length = n := by
  unfold addV
  rw [List.length_zipWith, h1, h2, Nat.min_self]
theorem mem_addV {x : Int} : ∀ {xs ys : List Int}, x ∈ addV xs ys → ∃ a ∈ xs, ∃ b ∈ ys, x = a + b
  | [], ys, h => by simp [addV] at h
  | x :: xs, [], h => by simp [addV] at h
  | a :: xs, b :: ys, h => by
    unfold addV at h
    rw [List.zipWith_cons_cons] at h
    rcases List.mem_cons.mp h with rfl | h
    · exact ⟨a, List.mem_cons_self, b, List.mem_cons_self, rfl⟩
    · obtain ⟨c, hc, d, hd, e⟩ := mem_addV (xs := xs) (ys := ys) h
      exact ⟨c, List.mem_cons_of_mem _ hc, d, List.mem_cons_of_mem _ hd, e⟩
theorem pow_succ2 (B : Nat) : (2 ^ (B + 1) : Int) = 2 ^ B + 2 ^ B := by
  rw [Int.pow_succ]; omega
theorem bdV_add {B : Nat} {xs ys : List Int} (h1 : bdV B xs) (h2 : bdV B ys) : bdV (B + 1) (addV xs ys) := fun x m => by
  obtain ⟨a, ha, b, hb, rfl⟩ := mem_addV m
  have := h1 a ha
  have := h2 b hb
  rw [pow_succ2]
  omega
theorem Wb.Ok.atOk {w : Wb} {B : Nat} (h : w.Ok B) {k : Kn} (hk : IsKn w k) (hb : bdV 998 k.2) : Kns w.n 999 (w.at k) where
  sm := fun x m => by
    obtain ⟨y, hy, rfl⟩ := List.mem_map.mp m
    obtain ⟨h1, h2⟩ := (h.wayOk k.1).sm y hy
    refine ⟨addV_len hk.2.2 h1, fun z hz => ?_⟩
    rcases List.mem_cons.mp hz with rfl | hz
    · exact (h2.mono (show B ≤ 999 by have := h.bB; omega)) _ List.mem_cons_self
    · exact bdV_add hb (B := 998) (fun q hq => (h2.mono h.bB) q (List.mem_cons_of_mem _ hq)) z hz
  n := h.n
  B := by omega
  len := by
    unfold Wb.at
    rw [List.length_map]
    exact (h.wayOk k.1).len
def F_neighbours : Fn := pureF "neighbours" 2 (fun ds Q => ∃ (w : Wb) (k : Kn) (B : Nat), ds = [w.d, knD k] ∧ w.Ok B ∧ IsKn w k ∧ bdV 998 k.2 ∧ Q (.own (.lst ((w.nb k).map knD)))) fun ds Q Q' h ⟨n, c, t, a, b, d, e, f⟩ => ⟨n, c, t, a, b, d, e, h _ f⟩
def b_neighbours : Sm := (.cons (.drop (.call F_check_knot (.cons (.var 0) (.cons (.var 1) .nil)))) (.cons (.ret (.call F_knots_in_order (.cons (.lc [2, 3] (.tp (.cons (.nm 2) (.cons (.nm 3) .nil))) .seq (.cons (.idx (.fld 0 3 (.var 0)) (.idx (.var 1) (.int 0))) .nil) (.bl true) (.tup (.cons (.var 2) (.cons (.call F_added (.cons (.idx (.var 1) (.int 1)) (.cons (.var 3) .nil))) .nil)))) .nil))) .nil))
theorem w_neighbours : ∀ (ds : List D) (Q : Sl → Prop), ds.length = 2 → (∃ (w : Wb) (k : Kn) (B : Nat), ds = [w.d, knD k] ∧ w.Ok B ∧ IsKn w k ∧ bdV 998 k.2 ∧ Q (.own (.lst ((w.nb k).map knD)))) → wS b_neighbours { nx := fun ρ => Q (.dat .non), rt := fun w ρ => resOf 2 w ρ Q } (startR 4 (ds.map .dat)) := by
  rintro ds Q _ ⟨w, k, B, rfl, ok, hk, hb, hq⟩
  show xS b_neighbours _ [some (.dat w.d), some (.dat (knD k)), none, none]
  unfold b_neighbours
  have hn := ok.n
  simp only [wk]
  refine c_check_knot (by omega) hk ?_
  simp only [wk]
  refine x_lc (fun x : Kn => knD (x.1, addV k.2 x.2)) ?_
  simp only [wk]
  rw [ok.way hk.1 hk.2.1]
  simp only [wk]
  have hl := (ok.wayOk k.1).len
  refine its knD _ rfl trivial (by rw [sizeL]; omega) (fun x hx => ?_) ?_
  · unfold xStep knD
    simp only [wk]
    refine c_added (by rw [sizeL, hk.2.2]; omega) ?_
    simp only [wk]
  · simp only [wk]
    have e : (w.ways.getD k.1.toNat []).map (fun x : Kn => knD (x.1, addV k.2 x.2)) = (w.at k).map knD := by unfold Wb.at; rw [List.map_map]; rfl
    rw [e]
    exact c_knots_in_order (ok.atOk hk hb) hq
theorem c_neighbours {ρ : Ro} {w : Wb} {k : Kn} {B : Nat} {Q : W → Ro → Prop} (ok : w.Ok B) (hk : IsKn w k) (hb : bdV 998 k.2) (h : Q (.own (.lst ((w.nb k).map knD))) ρ) : xC F_neighbours [.dat w.d, .dat (knD k)] ρ Q := call_pure rfl ⟨w, k, B, rfl, ok, hk, hb, h⟩
def F_tied : Fn := pureF "tied" 3 (fun ds Q => ∃ (w : Wb) (k o : Kn) (B : Nat), ds = [w.d, knD k, knD o] ∧ w.Ok B ∧ IsKn w k ∧ IsKn w o ∧ Q (.dat (.bl (decide (o ∈ w.at k))))) fun ds Q Q' h ⟨n, c, o, t, a, b, d, e, f⟩ => ⟨n, c, o, t, a, b, d, e, h _ f⟩
def b_tied : Sm := (.cons (.drop (.call F_check_knot (.cons (.var 0) (.cons (.var 1) .nil)))) (.cons (.drop (.call F_check_knot (.cons (.var 0) (.cons (.var 2) .nil)))) (.cons (.ret (.cmp .isin (.var 2) (.lc [3, 4] (.tp (.cons (.nm 3) (.cons (.nm 4) .nil))) .seq (.cons (.idx (.fld 0 3 (.var 0)) (.idx (.var 1) (.int 0))) .nil) (.bl true) (.tup (.cons (.var 3) (.cons (.call F_added (.cons (.idx (.var 1) (.int 1)) (.cons (.var 4) .nil))) .nil)))))) .nil)))
theorem w_tied : ∀ (ds : List D) (Q : Sl → Prop), ds.length = 3 → (∃ (w : Wb) (k o : Kn) (B : Nat), ds = [w.d, knD k, knD o] ∧ w.Ok B ∧ IsKn w k ∧ IsKn w o ∧ Q (.dat (.bl (decide (o ∈ w.at k))))) → wS b_tied { nx := fun ρ => Q (.dat .non), rt := fun w ρ => resOf 3 w ρ Q } (startR 5 (ds.map .dat)) := by
  rintro ds Q _ ⟨w, k, o, B, rfl, ok, hk, ho, hq⟩
  show xS b_tied _ [some (.dat w.d), some (.dat (knD k)), some (.dat (knD o)), none, none]
  unfold b_tied
  have hn := ok.n
  simp only [wk]
  refine c_check_knot (by omega) hk ?_
  simp only [wk]
  refine c_check_knot (by omega) ho ?_
  simp only [wk]
  refine x_lc (fun x : Kn => knD (x.1, addV k.2 x.2)) ?_
  simp only [wk]
  rw [ok.way hk.1 hk.2.1]
  simp only [wk]
  have hl := (ok.wayOk k.1).len
  refine its knD _ rfl trivial (by rw [sizeL]; omega) (fun x hx => ?_) ?_
  · unfold xStep knD
    simp only [wk]
    refine c_added (by rw [sizeL, hk.2.2]; omega) ?_
    simp only [wk]
  · simp only [wk]
    have e : (w.ways.getD k.1.toNat []).map (fun x : Kn => knD (x.1, addV k.2 x.2)) = (w.at k).map knD := by unfold Wb.at; rw [List.map_map]; rfl
    rw [e, x_in (a := o) tyKn (by decide) rfl rfl]
    simp only [wk]
    exact hq
theorem c_tied {ρ : Ro} {w : Wb} {k o : Kn} {B : Nat} {Q : W → Ro → Prop} (ok : w.Ok B) (hk : IsKn w k) (ho : IsKn w o) (h : Q (.dat (.bl (decide (o ∈ w.at k)))) ρ) : xC F_tied [.dat w.d, .dat (knD k), .dat (knD o)] ρ Q := call_pure rfl ⟨w, k, o, B, rfl, ok, hk, ho, h⟩
end Cw
/-! Cw: the web's constructor over data; equality of webs. -/
namespace Cw
open PySem PySem.Spec PyProof.Rows L2

def stepW (w : List (List Kn)) (t : Tie) : List (List Kn) :=
  (w.set t.a.toNat (w.getD t.a.toNat [] ++ [(t.b, t.m)])).set t.b.toNat ((w.set t.a.toNat (w.getD t.a.toNat [] ++ [(t.b, t.m)])).getD t.b.toNat [] ++ [(t.a, turnV t.m)])
def waysOf (c : Nat) (rows : List Tie) : List (List Kn) := rows.foldl stepW (List.replicate c [])
def Wb.of (n c : Nat) (ts : List Tie) : Wb := ⟨n, c, toldTies ts, waysOf c (toldTies ts)⟩
def encW (w : List (List Kn)) : List (List D) := w.map fun l => l.map knD
theorem stepW_len {w : List (List Kn)} {t : Tie} : (stepW w t).length = w.length := by simp [stepW]
theorem getD_set {α : Type} {l : List α} {i j : Nat} {a d : α} (hi : i < l.length) : (l.set i a).getD j d = if i = j then a else l.getD j d := by
  rw [List.getD_eq_getElem?_getD, List.getElem?_set, List.getD_eq_getElem?_getD]
  by_cases h : i = j
  · subst h; simp [hi]
  · simp [h]
/-- what stands in the ways -/
theorem mem_stepW {w : List (List Kn)} {t : Tie} {p : Nat} {k : Kn} (ha : t.a.toNat < w.length) (hb : t.b.toNat < w.length) : k ∈ (stepW w t).getD p [] ↔ k ∈ w.getD p [] ∨ (t.a.toNat = p ∧ k = (t.b, t.m)) ∨ (t.b.toNat = p ∧ k = (t.a, turnV t.m)) := by
  unfold stepW
  rw [getD_set (by rw [List.length_set]; exact hb), getD_set ha]
  by_cases h2 : t.b.toNat = p
  · rw [if_pos h2, List.mem_append]
    by_cases h1 : t.a.toNat = t.b.toNat
    · rw [if_pos h1, List.mem_append, h1, h2]
      simp only [List.mem_singleton, true_and]
      constructor
      · rintro ((h | h) | h)
        · exact .inl h
        · exact .inr (.inl h)
        · exact .inr (.inr h)
      · rintro (h | h | h)
        · exact .inl (.inl h)
        · exact .inl (.inr h)
        · exact .inr h
    · rw [if_neg h1, h2]
      have : ¬ t.a.toNat = p := fun q => h1 (q.trans h2.symm)
      simp [this]
  · rw [if_neg h2, getD_set ha]
    by_cases h1 : t.a.toNat = p
    · rw [if_pos h1, List.mem_append, h1]
      simp [h2]
    · rw [if_neg h1]
      simp [h1, h2]
theorem mem_fold {p : Nat} {k : Kn} : ∀ {rows : List Tie} {w : List (List Kn)}, (∀ t ∈ rows, t.a.toNat < w.length ∧ t.b.toNat < w.length) → (k ∈ (rows.foldl stepW w).getD p [] ↔ k ∈ w.getD p [] ∨ ∃ t ∈ rows, (t.a.toNat = p ∧ k = (t.b, t.m)) ∨ (t.b.toNat = p ∧ k = (t.a, turnV t.m)))
  | [], w, _ => by simp
  | t :: rows, w, h => by
    obtain ⟨h1, h2⟩ := h t List.mem_cons_self
    rw [List.foldl_cons, mem_fold fun s m => by rw [stepW_len]; exact h s (List.mem_cons_of_mem _ m), mem_stepW h1 h2, or_assoc]
    simp
theorem mem_waysOf {p c : Nat} {k : Kn} {rows : List Tie} (h : ∀ t ∈ rows, t.a.toNat < c ∧ t.b.toNat < c) : k ∈ (waysOf c rows).getD p [] ↔ ∃ t ∈ rows, (t.a.toNat = p ∧ k = (t.b, t.m)) ∨ (t.b.toNat = p ∧ k = (t.a, turnV t.m)) := by
  unfold waysOf
  rw [mem_fold (by simpa using h)]
  have : k ∉ (List.replicate c ([] : List Kn)).getD p [] := by
    rw [List.getD_eq_getElem?_getD, List.getElem?_replicate]
    split <;> simp
  simp only [this, false_or]
theorem fold_len {rows : List Tie} : ∀ {w : List (List Kn)}, (rows.foldl stepW w).length = w.length := by
  induction rows with
  | nil => intro w; rfl
  | cons t rows ih => intro w; rw [List.foldl_cons, ih, stepW_len]
theorem waysOf_len {c : Nat} {rows : List Tie} : (waysOf c rows).length = c := by
  unfold waysOf; rw [fold_len, List.length_replicate]
theorem stepW_inner {w : List (List Kn)} {t : Tie} {N : Nat} (h : ∀ l ∈ w, l.length ≤ N) : ∀ l ∈ stepW w t, l.length ≤ N + 2 := by
  have gd : ∀ {v : List (List Kn)} {M : Nat}, (∀ l ∈ v, l.length ≤ M) → ∀ i, (v.getD i []).length ≤ M := fun {v M} hv i => by
    rw [List.getD_eq_getElem?_getD]
    cases e : v[i]? with
    | none => simp
    | some l => exact hv l (List.mem_of_getElem? e)
  have one : ∀ {v : List (List Kn)} {M i : Nat} {k : Kn}, (∀ l ∈ v, l.length ≤ M) → ∀ l ∈ v.set i (v.getD i [] ++ [k]), l.length ≤ M + 1 := fun {v M i k} hv l m => by
    rcases List.mem_or_eq_of_mem_set m with m | rfl
    · have := hv l m; omega
    · have := gd hv i
      rw [List.length_append, List.length_singleton]; omega
  exact one (one h)
theorem fold_inner {rows : List Tie} : ∀ {w : List (List Kn)} {N : Nat}, (∀ l ∈ w, l.length ≤ N) → ∀ l ∈ rows.foldl stepW w, l.length ≤ N + 2 * rows.length := by
  induction rows with
  | nil => intro w N h; simpa using h
  | cons t rows ih =>
    intro w N h l m
    have := ih (stepW_inner h) l m
    rw [List.length_cons]
    omega
theorem encW_get {w : List (List Kn)} {i : Nat} (h : i < w.length) : (encW w)[i]? = some ((w.getD i []).map knD) := by
  unfold encW
  rw [List.getElem?_map, List.getD_eq_getElem?_getD, List.getElem?_eq_getElem h]
  rfl
theorem encW_set {w : List (List Kn)} {i : Nat} {l : List Kn} : (encW w).set i (l.map knD) = encW (w.set i l) := by
  unfold encW
  rw [List.map_set]
theorem lp_ways {K : List (List D) → Prop} {c : Nat} : ∀ {rows : List Tie} {w : List (List Kn)} {N : Nat}, w.length = c → (∀ t ∈ rows, 0 ≤ t.a ∧ t.a < c ∧ 0 ≤ t.b ∧ t.b < c ∧ t.m.length ≤ sizeLine) → (∀ l ∈ w, l.length ≤ N) → N + 2 * rows.length < sizeLine → K (encW (rows.foldl stepW w)) → Lp F_turned_about (rows.map Tie.d) (encW w) K
  | [], w, N, _, _, _, _, h => h
  | t :: rows, w, N, hc, ht, hN, hs, h => by
    obtain ⟨a1, a2, b1, b2, hm⟩ := ht t List.mem_cons_self
    rw [List.length_cons] at hs
    have gd : ∀ {v : List (List Kn)} {M : Nat}, (∀ l ∈ v, l.length ≤ M) → ∀ i, (v.getD i []).length ≤ M := fun {v M} hv i => by
      rw [List.getD_eq_getElem?_getD]
      cases e : v[i]? with
      | none => simp
      | some l => exact hv l (List.mem_of_getElem? e)
    have e1 : ((t.a.toNat : Nat) : Int) = t.a := Int.toNat_of_nonneg a1
    have e2 : ((t.b.toNat : Nat) : Int) = t.b := Int.toNat_of_nonneg b1
    have la : t.a.toNat < w.length := by omega
    have lb : t.b.toNat < (w.set t.a.toNat (w.getD t.a.toNat [] ++ [(t.b, t.m)])).length := by rw [List.length_set]; omega
    have k1 : (w.getD t.a.toNat []).map knD ++ [D.tup [.int t.b.toNat, mv t.m]] = (w.getD t.a.toNat [] ++ [(t.b, t.m)]).map knD := by
      rw [List.map_append, e2]; rfl
    have k2 : ((w.set t.a.toNat (w.getD t.a.toNat [] ++ [(t.b, t.m)])).getD t.b.toNat []).map knD ++ [D.tup [.int t.a.toNat, mv (turnV t.m)]] = ((w.set t.a.toNat (w.getD t.a.toNat [] ++ [(t.b, t.m)])).getD t.b.toNat [] ++ [(t.a, turnV t.m)]).map knD := by
      rw [List.map_append, e1]; rfl
    show Lp F_turned_about (t.d :: rows.map Tie.d) (encW w) K
    unfold Lp
    refine ⟨t.a.toNat, t.b.toNat, mv t.m, (w.getD t.a.toNat []).map knD, ((w.set t.a.toNat (w.getD t.a.toNat [] ++ [(t.b, t.m)])).getD t.b.toNat []).map knD, by rw [e1, e2]; rfl, encW_get la, ?_, ?_, ?_, ?_⟩
    · rw [List.length_map]
      have := gd hN t.a.toNat
      omega
    · rw [k1, encW_set]
      exact encW_get lb
    · rw [List.length_map, getD_set la]
      have := gd hN t.a.toNat
      have := gd hN t.b.toNat
      split
      · rw [List.length_append, List.length_singleton]; omega
      · omega
    · refine c_turned_about hm ⟨_, rfl, ?_⟩
      rw [k1, k2, encW_set, encW_set]
      exact lp_ways (N := N + 2) (by rw [List.length_set, List.length_set]; exact hc) (fun s m => ht s (List.mem_cons_of_mem _ m)) (stepW_inner (t := t) hN) (by omega) h
/-- what a web is made of -/
structure WebIn (n c B : Nat) (ts : List Tie) : Prop where
  n1 : 1 ≤ n
  n3 : n ≤ 3
  c1 : 1 ≤ c
  c2 : c ≤ 10000
  bB : B ≤ 998
  B14 : 14 ≤ B
  len : ts.length ≤ 40000
  tie : ∀ t ∈ ts, IsTie n c t
  bd : ∀ t ∈ ts, bdV B t.m
theorem WebIn.ties {n c B : Nat} {ts : List Tie} (h : WebIn n c B ts) : Ties n B ts where
  sm := fun t m => by
    obtain ⟨h1, h2, h3, h4, h5, _⟩ := h.tie t m
    have p : (16384 : Int) ≤ 2 ^ B := by
      have := pow_mono h.B14
      have e : (2 ^ 14 : Int) = 16384 := by decide
      omega
    have := h.c2
    refine ⟨h1, fun x hx => ?_⟩
    rcases List.mem_cons.mp hx with rfl | hx
    · omega
    · rcases List.mem_cons.mp hx with rfl | hx
      · omega
      · exact h.bd t m x hx
  n := by have := h.n3; omega
  B := by have := h.bB; omega
  len := by have := h.len; omega
theorem Ties.told {n B : Nat} {ts : List Tie} (h : Ties n B ts) : Ties n B (toldTies ts) where
  sm := fun t m => by
    obtain ⟨s, hs, rfl⟩ := mem_told.mp m
    exact (h.sm s hs).told
  n := h.n
  B := h.B
  len := Nat.le_trans toldTies_len h.len
theorem turn_zero {n : Nat} {m : List Int} (h : turnV m = List.replicate n 0) : m = List.replicate n 0 := by
  have := congrArg turnV h
  rw [turn_turn] at this
  rw [this]
  unfold turnV
  rw [List.map_replicate]; rfl
theorem IsTie.turn {n : Nat} {c : Int} {t : Tie} (h : IsTie n c t) : IsTie n c t.turn := by
  obtain ⟨h1, h2, h3, h4, h5, h6⟩ := h
  exact ⟨(turn_len _).trans h1, h4, h5, h2, h3, h6.imp (fun q e => q e.symm) fun q e => q (turn_zero e)⟩
theorem IsTie.told {n : Nat} {c : Int} {t : Tie} (h : IsTie n c t) : IsTie n c t.told := by
  rcases t.told_cases with e | e
  · rw [e]; exact h
  · rw [e]; exact h.turn
theorem WebIn.toldTie {n c B : Nat} {ts : List Tie} (h : WebIn n c B ts) : ∀ t ∈ toldTies ts, IsTie n c t := fun t m => by
  obtain ⟨s, hs, rfl⟩ := mem_told.mp m
  exact (h.tie s hs).told
theorem WebIn.ok {n c B : Nat} {ts : List Tie} (h : WebIn n c B ts) : (Wb.of n c ts).Ok B where
  n := by have := h.n3; show n ≤ 18; omega
  bB := h.bB
  c := h.c2
  ties := h.ties.told
  wl := waysOf_len
  ways := fun l m => by
    have hlen : l.length ≤ 0 + 2 * (toldTies ts).length := fold_inner (N := 0) (fun l m => by rw [(List.mem_replicate.mp m).2]; exact Nat.le_refl _) l m
    have hl2 := toldTies_len (ts := ts)
    have hl3 := h.len
    obtain ⟨p, hp⟩ := List.getElem?_of_mem m
    have hp' : (waysOf c (toldTies ts)).getD p [] = l := by
      rw [List.getD_eq_getElem?_getD]
      show ((Wb.of n c ts).ways[p]?).getD [] = l
      rw [hp]; rfl
    refine ⟨fun k hk => ?_, ?_, ?_, by omega⟩
    · rw [← hp', mem_waysOf fun t ht => by
        obtain ⟨_, h2, h3, h4, h5, _⟩ := h.toldTie t ht
        constructor <;> omega] at hk
      obtain ⟨t, ht, q⟩ := hk
      have sm := h.ties.told.sm t ht
      rcases q with ⟨_, rfl⟩ | ⟨_, rfl⟩
      · refine ⟨sm.1, fun x hx => ?_⟩
        exact sm.2 x (List.mem_cons_of_mem _ hx)
      · refine ⟨(turn_len _).trans sm.1, fun x hx => ?_⟩
        rcases List.mem_cons.mp hx with rfl | hx
        · exact sm.2 _ List.mem_cons_self
        · exact bdV_turn sm.m x hx
    · have := h.n3; show n ≤ 18; omega
    · have := h.bB; omega
theorem lp_mono {F : Fn} : ∀ {rows : List D} {w : List (List D)} {K K' : List (List D) → Prop}, (∀ x, K x → K' x) → Lp F rows w K → Lp F rows w K' := by
  intro rows
  induction rows with
  | nil => intro w K K' hk q; exact hk _ q
  | cons d rows ih =>
    intro w K K' hk q
    unfold Lp at q ⊢
    obtain ⟨na, nb, m, wa, wb, q1, q2, q3, q4, q5, q6⟩ := q
    exact ⟨na, nb, m, wa, wb, q1, q2, q3, q4, q5, callF_mono (fun r ρ ⟨tv, e, q⟩ => ⟨tv, e, ih hk q⟩) q6⟩
theorem webPre_mono {Fa Ft Fu : Fn} : ∀ ds Q Q', (∀ fs, Q fs → Q' fs) → webPre2 Fa Ft Fu ds Q → webPre2 Fa Ft Fu ds Q' := by
  rintro ds Q Q' h ⟨d1, n, xs, e, h1, h2, h3, h4⟩
  exact ⟨d1, n, xs, e, h1, h2, h3, Ft.mono _ _ _ (fun r bs ⟨e1, rows, e2, q⟩ => ⟨e1, rows, e2, lp_mono (fun ws => h _) q⟩) h4⟩
theorem webPre_monoD {Fa Ft Fu : Fn} : ∀ ds Q Q', (∀ fs, Q fs → Q' fs) → webPre Fa Ft Fu ds Q → webPre Fa Ft Fu ds Q' := by
  rintro ds Q Q' h ⟨d1, d3, n, e, h1, h2, h3, h4⟩
  exact ⟨d1, d3, n, e, h1, h2, h3, callF_mono (fun r ρ ⟨rows, e2, q⟩ => ⟨rows, e2, lp_mono (fun ws => h _) q⟩) h4⟩
def F_Web : Fn := makeF3 "Web" 0 (webPre2 F_are_fields F_told_ties F_turned_about) (webPre F_are_fields F_told_ties F_turned_about) webPre_mono webPre_monoD
theorem web_lp {n c B : Nat} {ts : List Tie} {K : List D → Prop} (h : WebIn n c B ts) (q : K (Wb.of n c ts).fs) : Lp F_turned_about ((toldTies ts).map Tie.d) (List.replicate (c : Int).toNat []) fun ws => K [.int n, .int c, .tup ((toldTies ts).map Tie.d), .lst (ws.map .lst)] := by
  have h2 := h.c2
  have h3 := h.len
  have e0 : List.replicate (c : Int).toNat ([] : List D) = encW (List.replicate c []) := by
    unfold encW
    rw [List.map_replicate]; rfl
  rw [e0]
  refine lp_ways (c := c) (N := 0) (by rw [List.length_replicate]) (fun t m => ?_) (fun l m => by rw [(List.mem_replicate.mp m).2]; exact Nat.le_refl _) ?_ ?_
  · obtain ⟨k1, k2, k3, k4, k5, _⟩ := h.toldTie t m
    exact ⟨k2, k3, k4, k5, by rw [k1, sizeL]; have := h.n3; omega⟩
  · have := toldTies_len (ts := ts)
    rw [sizeL]; omega
  · have e1 : (encW ((toldTies ts).foldl stepW (List.replicate c []))).map D.lst = (waysOf c (toldTies ts)).map fun l => .lst (l.map knD) := by
      unfold encW waysOf
      rw [List.map_map]; rfl
    rw [e1]
    exact q
theorem web_pre {n c B : Nat} {ts : List Tie} {K : List D → Prop} (h : WebIn n c B ts) (q : K (Wb.of n c ts).fs) : webPre2 F_are_fields F_told_ties F_turned_about [.int n, .int c, .lst (ts.map Tie.d)] K := by
  have h2 := h.c2
  have h3 := h.len
  refine ⟨_, c, _, rfl, c_are_fields h.n1 h.n3 (by have := h.c1; omega) (by rw [sizeL]; omega) h.tie rfl, ⟨by omega, by omega⟩, by rw [sizeL]; omega, ?_⟩
  refine .inl ⟨_, [], rfl, rfl, ts, n, B, rfl, rfl, h.ties, fun bs hb => ?_⟩
  obtain rfl : bs = [] := List.eq_nil_of_length_eq_zero hb
  exact ⟨rfl, _, rfl, web_lp h q⟩
theorem web_preD {n c B : Nat} {ts : List Tie} {K : List D → Prop} (h : WebIn n c B ts) (q : K (Wb.of n c ts).fs) : webPre F_are_fields F_told_ties F_turned_about [.int n, .int c, .lst (ts.map Tie.d)] K := by
  have h2 := h.c2
  have h3 := h.len
  refine ⟨_, _, c, rfl, c_are_fields h.n1 h.n3 (by have := h.c1; omega) (by rw [sizeL]; omega) h.tie rfl, ⟨by omega, by omega⟩, by rw [sizeL]; omega, ?_⟩
  exact x_both_dat rfl ⟨ts, n, B, rfl, h.ties, _, rfl, web_lp h q⟩
theorem c_Web_dat {ρ : Ro} {n c B : Nat} {ts : List Tie} {Q : W → Ro → Prop} (h : WebIn n c B ts) (q : Q (.dat (Wb.of n c ts).d) ρ) : xC F_Web [.dat (.int n), .dat (.int c), .dat (.lst (ts.map Tie.d))] ρ Q := x_mk_dat (web_preD h q)
theorem c_Web_own {ρ : Ro} {n c B : Nat} {ts : List Tie} {Q : W → Ro → Prop} (h : WebIn n c B ts) (q : Q (.dat (Wb.of n c ts).d) ρ) : xC F_Web [.dat (.int n), .dat (.int c), .own (.lst (ts.map Tie.d))] ρ Q := x_mk_own (web_pre h q)
theorem c_Web_brw {ρ : Ro} {n c B i : Nat} {ts : List Tie} {Q : W → Ro → Prop} (hi : slOf ρ i = some (.own (.lst (ts.map Tie.d)))) (h : WebIn n c B ts) (q : Q (.dat (Wb.of n c ts).d) (ρ.set i (some (.own (.lst (ts.map Tie.d)))))) : xC F_Web [.dat (.int n), .dat (.int c), .brw i] ρ Q := x_mk_brw hi (web_pre h q)
/-! equality -/
theorem tyTie : TyD Tie.d 2 where
  eqv := fun a b => by
    obtain ⟨a1, a2, a3⟩ := a
    obtain ⟨b1, b2, b3⟩ := b
    simp only [Tie.d, pyOf, pyAll, PyData.eqv, PyData.eqvAll, tyMv.eqv, Bool.and_true, Tie.mk.injEq]
    rw [Bool.eq_iff_iff]
    simp
  lay := fun a => by simp only [Tie.d, pyOf, pyAll, PyData.canLay0, PyData.canLayAll0, tyMv.lay]; rfl
  dep := fun a => by
    simp only [Tie.d, pyOf, pyAll, PyData.depth, PyData.depthAll]
    have := tyMv.dep a.m
    omega
/-- what is compared -/
def Wb.key (w : Wb) : D := .tup [.int w.n, .int w.c, .tup (w.rows.map Tie.d)]
theorem key_eq {v w : Wb} {K : Bool → Prop} : xc .eq (.dat v.key) (.dat w.key) K = K (decide (v.n = w.n ∧ v.c = w.c ∧ v.rows = w.rows)) := by
  let enc : (Int × Int × List Tie) → D := fun x => .tup [.int x.1, .int x.2.1, .tup (x.2.2.map Tie.d)]
  have ty : TyD enc 5 := ⟨fun a b => by
    obtain ⟨a1, a2, a3⟩ := a
    obtain ⟨b1, b2, b3⟩ := b
    have := (tyTup tyTie).eqv a3 b3
    simp only [enc, pyOf, pyAll, PyData.eqv, PyData.eqvAll, Bool.and_true, Prod.mk.injEq, tyTie.all]
    rw [Bool.eq_iff_iff]
    simp, fun a => by
    have := (tyTup tyTie).lay a.2.2
    simp only [enc, pyOf, pyAll, PyData.canLay0, PyData.canLayAll0, tyTie.layA]; rfl, fun a => by
    have := tyTie.depA a.2.2
    simp only [enc, pyOf, pyAll, PyData.depth, PyData.depthAll]
    omega⟩
  have := x_eqD (K := K) (e1 := enc) (n := 5) (a := ((v.n : Int), (v.c : Int), v.rows)) (b := ((w.n : Int), (w.c : Int), w.rows)) ty (by decide)
  refine this.trans (congrArg K (decide_eq_decide.mpr ?_))
  simp only [Prod.mk.injEq]
  constructor
  · rintro ⟨a, b, c⟩; exact ⟨by omega, by omega, c⟩
  · rintro ⟨a, b, c⟩; exact ⟨by omega, by omega, c⟩
def notIns : D → Bool
  | .non => true
  | .lst _ => true
  | _ => false
def F_eq : Fn := pureF "__eq__" 2 (fun ds Q => (∃ v w : Wb, ds = [v.d, w.d] ∧ Q (.dat (.bl (decide (v.n = w.n ∧ v.c = w.c ∧ v.rows = w.rows))))) ∨ ∃ (v : Wb) (d : D), ds = [v.d, d] ∧ notIns d = true ∧ Q (.dat (.bl false))) fun ds Q Q' h x => x.imp (fun ⟨v, w, a, b⟩ => ⟨v, w, a, h _ b⟩) fun ⟨v, d, a, b, c⟩ => ⟨v, d, a, b, h _ c⟩
def b_eq : Sm := (.cons (.ite (.not (.isa (.var 1) (.cls 0))) (.cons (.ret (.bl false)) .nil) .nil) (.cons (.ret (.cmp .eq (.tup (.cons (.fld 0 0 (.var 0)) (.cons (.fld 0 1 (.var 0)) (.cons (.fld 0 2 (.var 0)) .nil)))) (.tup (.cons (.fld 0 0 (.var 1)) (.cons (.fld 0 1 (.var 1)) (.cons (.fld 0 2 (.var 1)) .nil)))))) .nil))
theorem w_eq : ∀ (ds : List D) (Q : Sl → Prop), ds.length = 2 → ((∃ v w : Wb, ds = [v.d, w.d] ∧ Q (.dat (.bl (decide (v.n = w.n ∧ v.c = w.c ∧ v.rows = w.rows))))) ∨ ∃ (v : Wb) (d : D), ds = [v.d, d] ∧ notIns d = true ∧ Q (.dat (.bl false))) → wS b_eq { nx := fun ρ => Q (.dat .non), rt := fun w ρ => resOf 2 w ρ Q } (startR 2 (ds.map .dat)) := by
  rintro ds Q _ (⟨v, w, rfl, hq⟩ | ⟨v, d, rfl, hd, hq⟩)
  · show xS b_eq _ [some (.dat v.d), some (.dat w.d)]
    unfold b_eq
    simp only [wk, Bool.not_true]
    show xc .eq (.dat v.key) (.dat w.key) _
    rw [key_eq]
    simp only [wk]
    exact hq
  · show xS b_eq _ [some (.dat v.d), some (.dat d)]
    unfold b_eq
    cases d with
    | non =>
      simp only [wk, Bool.not_false]
      exact hq
    | lst ds =>
      simp only [wk, Bool.not_false]
      exact hq
    | _ => cases hd
theorem c_eq {ρ : Ro} {v w : Wb} {Q : W → Ro → Prop} (h : Q (.dat (.bl (decide (v.n = w.n ∧ v.c = w.c ∧ v.rows = w.rows)))) ρ) : xC F_eq [.dat v.d, .dat w.d] ρ Q := call_pure rfl (.inl ⟨v, w, rfl, h⟩)
end Cw
/-! Cw: what the laws draw. -/
namespace Cw
open PySem PySem.Spec PyProof.Rows L2

/-- a purse of which at most t numbers were mixed -/
def Pu (t : Nat) (l : List D) : Prop := ∃ a b c : Int, l = [.int a, .int b, .int c] ∧ 0 ≤ a ∧ a < 10 ^ 400 ∧ 0 ≤ b ∧ b < 2147483629 ∧ 0 ≤ c ∧ c ≤ t
theorem Pu.mono {t u : Nat} {l : List D} (h : Pu t l) (k : t ≤ u) : Pu u l := by
  obtain ⟨a, b, c, e, h1, h2, h3, h4, h5, h6⟩ := h
  exact ⟨a, b, c, e, h1, h2, h3, h4, h5, by omega⟩
theorem log_lt {i : Int} {n : Nat} (h : i.natAbs < 2 ^ n) (hn : 0 < n) : i.natAbs.log2 < n := by
  by_cases z : i.natAbs = 0
  · rw [z]; simpa using hn
  · exact (Nat.log2_lt z).mpr h
theorem mulW {i j : Int} (h1 : i.natAbs < 2 ^ 1000) (h2 : j.natAbs < 2 ^ 1000) : CMulW i j := by
  have := log_lt h1 (by decide)
  have := log_lt h2 (by decide)
  unfold CMulW
  omega
theorem big_lt {i : Int} (h1 : -1000000000000000000000000000000 < i) (h2 : i < 1000000000000000000000000000000) : i.natAbs < 2 ^ 1000 := by
  have e : (1000000000000000000000000000000 : Nat) < 2 ^ 1000 := by decide +kernel
  omega
theorem divW {i j : Int} (h0 : 0 < j) (h2 : j < 1000000000000000000000000000000) : CDivW i j := ⟨h0, by
  have := log_lt (big_lt (by omega) h2) (by decide)
  omega⟩
theorem ix_scr {ns : List Int} {i : Int} {Q : W → Prop} : xj (.dat (.scr ns)) (.dat (.int i)) Q = onO (atI ns i) fun d => Q (.dat (.int d)) := propext ⟨fun ⟨j, d, e, h, q⟩ => by cases e; exact ⟨d, h, q⟩, fun ⟨d, h, q⟩ => ⟨i, d, rfl, h, q⟩⟩
/-! the purse -/
def F_law_purse : Fn := pureF "_law_purse" 2 (fun ds Q => ∃ (ns : List Int) (at_ : Nat), ds = [.scr ns, .int at_] ∧ at_ ≤ 1000 ∧ ∀ l, Pu 0 l → Q (.own (.lst l))) fun ds Q Q' h ⟨ns, a, e, b, k⟩ => ⟨ns, a, e, b, fun l p => h _ (k l p)⟩
def b_law_purse : Sm := (.cons (.asg (.nm 2) (.int 0)) (.cons (.ite (.cmp .lt (.var 1) (.blt .len (.cons (.var 0) .nil))) (.cons (.asg (.nm 2) (.idx (.var 0) (.var 1))) .nil) .nil) (.cons (.ret (.lst (.cons (.bin .mod (.blt .int (.cons (.blt .max2 (.cons (.bin .sub (.var 2) (.bin .pow (.int 10) (.int 18))) (.cons (.int 0) .nil))) .nil)) (.bin .pow (.bin .pow (.int 10) (.int 40)) (.int 10))) (.cons (.bin .mod (.blt .int (.cons (.bin .add (.var 2) (.bin .mul (.int 7919) (.var 1))) .nil)) (.int 2147483629)) (.cons (.int 0) .nil))))) .nil)))
def b_law_purse2 : Sm := (.cons (.ret (.lst (.cons (.bin .mod (.blt .int (.cons (.blt .max2 (.cons (.bin .sub (.var 2) (.bin .pow (.int 10) (.int 18))) (.cons (.int 0) .nil))) .nil)) (.bin .pow (.bin .pow (.int 10) (.int 40)) (.int 10))) (.cons (.bin .mod (.blt .int (.cons (.bin .add (.var 2) (.bin .mul (.int 7919) (.var 1))) .nil)) (.int 2147483629)) (.cons (.int 0) .nil))))) .nil)
theorem w_law_purse2 {ns : List Int} {a : Nat} {c : Int} {Q : Sl → Prop} {nx : Ro → Prop} (ha : a ≤ 1000) (hq : ∀ l, Pu 0 l → Q (.own (.lst l))) : xS b_law_purse2 { nx := nx, rt := fun w ρ => resOf 2 w ρ Q } [some (.dat (.scr ns)), some (.dat (.int a)), some (.dat (.int c))] := by
  unfold b_law_purse2
  simp only [wk]
  refine ⟨by unfold CPowW; decide +kernel, ?_⟩
  try simp only [wk]
  refine ⟨by unfold CPowW; decide +kernel, ?_⟩
  try simp only [wk]
  refine ⟨by unfold CPowW; decide +kernel, ?_⟩
  try simp only [wk]
  have e400 : ((10 ^ (40 : Int).toNat) ^ (10 : Int).toNat : Int) = 10 ^ 400 := by decide +kernel
  rw [e400]
  refine ⟨Int.pow_pos (by decide), ?_⟩
  try simp only [wk]
  refine ⟨mulW (big_lt (by decide) (by decide)) (big_lt (by omega) (by omega)), ?_⟩
  try simp only [wk]
  refine ⟨by decide, ?_⟩
  try simp only [wk]
  have p400 : (0 : Int) < 10 ^ 400 := Int.pow_pos (by decide)
  refine hq _ ⟨_, _, _, rfl, Int.emod_nonneg _ (by omega), Int.emod_lt_of_pos _ p400, Int.emod_nonneg _ (by decide), Int.emod_lt_of_pos _ (by decide), by decide, by decide⟩
theorem w_law_purse : ∀ (ds : List D) (Q : Sl → Prop), ds.length = 2 → (∃ (ns : List Int) (at_ : Nat), ds = [.scr ns, .int at_] ∧ at_ ≤ 1000 ∧ ∀ l, Pu 0 l → Q (.own (.lst l))) → wS b_law_purse { nx := fun ρ => Q (.dat .non), rt := fun w ρ => resOf 2 w ρ Q } (startR 3 (ds.map .dat)) := by
  rintro ds Q _ ⟨ns, a, rfl, ha, hq⟩
  show xS b_law_purse _ [some (.dat (.scr ns)), some (.dat (.int a)), none]
  have e : b_law_purse = .cons (.asg (.nm 2) (.int 0)) (.cons (.ite (.cmp .lt (.var 1) (.blt .len (.cons (.var 0) .nil))) (.cons (.asg (.nm 2) (.idx (.var 0) (.var 1))) .nil) .nil) b_law_purse2) := rfl
  rw [e]
  simp only [wk]
  refine cnd_split (fun h => ?_) fun h => ?_
  · have h := of_decide_eq_true h
    have : atI ns a = some (ns[a]'(by omega)) := atI_nat (by simp)
    simp only [wk, ix_scr, this]
    exact w_law_purse2 ha hq
  · simp only [wk]
    exact w_law_purse2 ha hq
theorem c_law_purse {ρ : Ro} {ns : List Int} {a : Nat} {Q : W → Ro → Prop} (ha : a ≤ 1000) (h : ∀ l, Pu 0 l → Q (.own (.lst l)) ρ) : xC F_law_purse [.dat (.scr ns), .dat (.int a)] ρ Q := call_pure rfl ⟨ns, a, rfl, ha, fun l p => h l p⟩
/-! one number -/
def F_law_draw : Fn := ownF "_law_draw" 1 (fun l ds Q => ∃ (m : Int) (t : Nat), ds = [.int m] ∧ 0 < m ∧ m ≤ 1000000000 ∧ Pu t l ∧ t ≤ 1000000 ∧ ∀ (k : Int) l', 0 ≤ k → k < m → Pu (t + 1) l' → Q (.dat (.int k)) l') fun l ds Q Q' h ⟨m, t, a, b, c, d, e, f⟩ => ⟨m, t, a, b, c, d, e, fun k l' x y z => h _ _ (f k l' x y z)⟩
def b_law_draw : Sm := (.cons (.ite (.cmp .gt (.idx (.var 0) (.int 0)) (.int 0)) (.cons (.asg (.nm 4) (.bin .mod (.blt .int (.cons (.idx (.var 0) (.int 0)) .nil)) (.var 1))) (.cons (.setl 0 (.int 0) (.bin .fdiv (.idx (.var 0) (.int 0)) (.var 1))) (.cons (.ret (.var 4)) .nil))) .nil) (.cons (.asg (.nm 2) (.bin .add (.idx (.var 0) (.int 2)) (.int 1))) (.cons (.setl 0 (.int 2) (.var 2)) (.cons (.asg (.nm 3) (.bin .mod (.blt .int (.cons (.bin .mul (.bin .add (.idx (.var 0) (.int 1)) (.bin .mul (.int 104729) (.var 2))) (.bin .add (.bin .mul (.var 2) (.var 2)) (.int 7919))) .nil)) (.int 2147483629))) (.cons (.asg (.nm 3) (.bin .mod (.blt .int (.cons (.bin .add (.bin .mul (.var 3) (.var 3)) (.var 2)) .nil)) (.int 2147483587))) (.cons (.ret (.bin .mod (.bin .fdiv (.bin .mod (.blt .int (.cons (.bin .mul (.var 3) (.int 48271)) .nil)) (.int 2147483647)) (.int 64)) (.var 1))) .nil))))))
theorem w_law_draw : ∀ (l ds : List D) (Q : Sl → List D → Prop), ds.length = 1 → (∃ (m : Int) (t : Nat), ds = [.int m] ∧ 0 < m ∧ m ≤ 1000000000 ∧ Pu t l ∧ t ≤ 1000000 ∧ ∀ (k : Int) l', 0 ≤ k → k < m → Pu (t + 1) l' → Q (.dat (.int k)) l') → wS b_law_draw { nx := fun ρ => resO 1 (.dat .non) ρ Q, rt := fun w ρ => resO 1 w ρ Q } (startR 5 (.own (.lst l) :: ds.map .dat)) := by
  rintro l ds Q _ ⟨m, t, rfl, hm, hm2, ⟨a, b, c, rfl, a1, a2, b1, b2, c1, c2⟩, ht, hq⟩
  show xS b_law_draw _ [some (.own (.lst [.int a, .int b, .int c])), some (.dat (.int m)), none, none, none]
  unfold b_law_draw
  simp only [wk, wo]
  refine cnd_split (fun h => ?_) fun h => ?_
  · have h := of_decide_eq_true h
    simp only [wk, wo]
    refine ⟨hm, ?_⟩
    try simp only [wk, wo]
    refine ⟨divW hm (by omega), ?_⟩
    try simp only [wk, wo]
    refine ⟨by simp, ?_⟩
    try simp only [wk, wo]
    refine hq _ _ (Int.emod_nonneg _ (by omega)) (Int.emod_lt_of_pos _ hm) ⟨_, _, _, rfl, Int.ediv_nonneg a1 (by omega), ?_, b1, b2, c1, by omega⟩
    have := Int.ediv_le_self m a1
    omega
  · simp only [wk, wo]
    refine ⟨by simp, ?_⟩
    try simp only [wk, wo]
    have c3 : c + 1 ≤ 1000001 := by omega
    have s1 : (c + 1) * (c + 1) ≤ 1000001 * 1000001 := Int.mul_le_mul c3 c3 (by omega) (by decide)
    have s0 : 0 ≤ (c + 1) * (c + 1) := Int.mul_nonneg (by omega) (by omega)
    refine ⟨mulW (big_lt (by decide) (by decide)) (big_lt (by omega) (by omega)), ?_⟩
    try simp only [wk, wo]
    refine ⟨mulW (big_lt (by omega) (by omega)) (big_lt (by omega) (by omega)), ?_⟩
    try simp only [wk, wo]
    refine ⟨mulW (big_lt (by omega) (by omega)) (big_lt (by omega) (by omega)), ?_⟩
    try simp only [wk, wo]
    refine ⟨by decide, ?_⟩
    try simp only [wk, wo]
    generalize hx : (b + 104729 * (c + 1)) * ((c + 1) * (c + 1) + 7919) % 2147483629 = x
    have x0 : 0 ≤ x := by rw [← hx]; exact Int.emod_nonneg _ (by decide)
    have x1 : x < 2147483629 := by rw [← hx]; exact Int.emod_lt_of_pos _ (by decide)
    refine ⟨mulW (big_lt (by omega) (by omega)) (big_lt (by omega) (by omega)), ?_⟩
    try simp only [wk, wo]
    refine ⟨by decide, ?_⟩
    try simp only [wk, wo]
    generalize hy : (x * x + (c + 1)) % 2147483587 = y
    have y0 : 0 ≤ y := by rw [← hy]; exact Int.emod_nonneg _ (by decide)
    have y1 : y < 2147483587 := by rw [← hy]; exact Int.emod_lt_of_pos _ (by decide)
    refine ⟨mulW (big_lt (by omega) (by omega)) (big_lt (by decide) (by decide)), ?_⟩
    try simp only [wk, wo]
    refine ⟨by decide, ?_⟩
    try simp only [wk, wo]
    refine ⟨divW (by decide) (by decide), ?_⟩
    try simp only [wk, wo]
    refine ⟨hm, ?_⟩
    try simp only [wk, wo]
    exact hq _ _ (Int.emod_nonneg _ (by omega)) (Int.emod_lt_of_pos _ hm) ⟨_, _, _, rfl, a1, a2, b1, b2, by omega, by omega⟩
theorem c_law_draw {ρ : Ro} {i : Nat} {l : List D} {m : Int} {t : Nat} {Q : W → Ro → Prop} (hi : slOf ρ i = some (.own (.lst l))) (hp : Pu t l) (hm : 0 < m) (hm2 : m ≤ 1000000000) (ht : t ≤ 1000000) (h : ∀ (k : Int) l', 0 ≤ k → k < m → Pu (t + 1) l' → Q (.dat (.int k)) (ρ.set i (some (.own (.lst l'))))) : xC F_law_draw [.brw i, .dat (.int m)] ρ Q :=
  x_own rfl hi ⟨hi, m, t, rfl, hm, hm2, hp, ht, fun k l' x y z => h k l' x y z⟩
end Cw
/-! Cw: what the laws draw, further. -/
namespace Cw
open PySem PySem.Spec PyProof.Rows L2

/-- a comprehension whose turns change what names hold -/
theorem lcg_inv {α : Type} {enc : α → D} {turn : D → List D → Ro → (List D → Ro → Prop) → Prop} {vs : List Nat} {g : Option (Nat × Ot)} {Q : List D → Ro → Prop} {xs : List α} (I : List α → List D → Ro → Prop) (hl : xs.length ≤ sizeLine)
    (hg : ∀ pre acc ρ, I pre acc ρ → gdOk g ρ) (step : ∀ pre x post, xs = pre ++ x :: post → ∀ acc ρ, acc.length < sizeLine → I pre acc ρ → ∀ K : List D → Ro → Prop, (∀ d' ρ', I (pre ++ [x]) (acc ++ [d']) (wip ρ' vs) → K (acc ++ [d']) ρ') → turn (enc x) acc ρ K) (fin : ∀ acc ρ, I xs acc ρ → Q acc ρ) {ρ : Ro} (h0 : I [] [] ρ) : lcg turn vs g (xs.map enc) [] ρ Q := by
  have gen : ∀ (ds pre : List α) (acc : List D) (ρ : Ro), xs = pre ++ ds → acc.length = pre.length → I pre acc ρ → lcg turn vs g (ds.map enc) acc ρ Q := by
    intro ds
    induction ds with
    | nil =>
      intro pre acc ρ e _ h
      rw [List.append_nil] at e
      subst e
      exact ⟨hg _ _ _ h, fin _ _ h⟩
    | cons d ds ih =>
      intro pre acc ρ e el h
      have hlen : pre.length < xs.length := by rw [e]; simp
      refine ⟨hg _ _ _ h, step pre d ds e acc ρ (by omega) h _ fun d' ρ' h' => ih (pre ++ [d]) _ _ (by rw [e]; simp) (by simp [el]) h'⟩
  exact gen xs [] [] ρ rfl rfl h0
def itsS {α : Type} (s : Src) (P : (α → D) → List α → Prop) (u : St 0 P := ()) : Prop := ∃ enc xs, s.items = xs.map enc ∧ xs.length ≤ sizeLine ∧ P enc xs
theorem x_lcs {α : Type} {vs : List Nat} {t : Tg} {k : Ik} {as e : E} {ρ : Ro} {Q : W → Ro → Prop} (h : xA as ρ fun ws ρ1 => xwz false k ws ρ1 fun s ρ2 => itsS (α := α) s fun enc xs => ∃ I : List α → List D → Ro → Prop, (∀ pre acc ρ, I pre acc ρ → gdOk s.gd ρ) ∧ I [] [] (wip ρ2 vs) ∧
    (∀ pre x post, xs = pre ++ x :: post → ∀ acc ρ, I pre acc ρ → xt t (enc x) ρ fun ρ4 => xE e ρ4 fun y ρ6 => xz y ρ6 fun d' ρ7 => I (pre ++ [x]) (acc ++ [d']) (wip ρ7 vs)) ∧ ∀ acc ρ8, I xs acc ρ8 → Q (.own (.lst acc)) (unwip ρ2 vs ρ8)) : xE (.lc vs t k as (.bl true) e) ρ Q := by
  unfold xE wE
  refine wA_mono as _ _ _ (fun ws ρ1 h => walkZ_mono (fun s ρ2 h => ?_) h) h
  obtain ⟨enc, xs, hi, hl, I, hg, h0, step, fin⟩ := h
  rw [hi]
  refine lcg_inv I hl hg (fun pre x post e acc ρ ha hI K hK => take_mono (fun ρ4 q => ?_) (step pre x post e acc ρ hI)) fin h0
  rw [e_bl]
  refine ⟨true, rfl, ?_⟩
  rw [if_pos rfl]
  exact wE_mono _ _ _ _ (fun y ρ6 q => frz_mono (fun d' ρ7 z => ⟨ha, hK d' ρ7 z⟩) q) q
theorem itsS_i {α : Type} {s : Src} {P : (α → D) → List α → Prop} (enc : α → D) (xs : List α) (h1 : s.items = xs.map enc) (h2 : xs.length ≤ sizeLine) (h3 : P enc xs) : itsS s P := ⟨enc, xs, h1, h2, h3⟩
theorem rng_len {a : Int} {n : Nat} : (rngD a n).length = n := by simp [rngD]
/-! picking -/
def F_law_pick : Fn := ownF "_law_pick" 1 (fun l ds Q => ∃ (items : List D) (t : Nat), ds = [.lst items] ∧ items ≠ [] ∧ items.length ≤ 1000000 ∧ Pu t l ∧ t ≤ 1000000 ∧ ∀ d l', d ∈ items → Pu (t + 1) l' → Q (.dat d) l') fun l ds Q Q' h ⟨m, t, a, b, c, d, e, f⟩ => ⟨m, t, a, b, c, d, e, fun k l' x y => h _ _ (f k l' x y)⟩
def b_law_pick : Sm := (.cons (.ret (.idx (.var 1) (.call F_law_draw (.cons (.var 0) (.cons (.blt .len (.cons (.var 1) .nil)) .nil))))) .nil)
theorem w_law_pick : ∀ (l ds : List D) (Q : Sl → List D → Prop), ds.length = 1 → (∃ (items : List D) (t : Nat), ds = [.lst items] ∧ items ≠ [] ∧ items.length ≤ 1000000 ∧ Pu t l ∧ t ≤ 1000000 ∧ ∀ d l', d ∈ items → Pu (t + 1) l' → Q (.dat d) l') → wS b_law_pick { nx := fun ρ => resO 1 (.dat .non) ρ Q, rt := fun w ρ => resO 1 w ρ Q } (startR 2 (.own (.lst l) :: ds.map .dat)) := by
  rintro l ds Q _ ⟨items, t, rfl, ne, hz, hp, ht, hq⟩
  show xS b_law_pick _ [some (.own (.lst l)), some (.dat (.lst items))]
  unfold b_law_pick
  simp only [wk, wo]
  have hpos : 0 < items.length := List.length_pos_iff.mpr ne
  refine c_law_draw rfl hp (by omega) (by omega) ht fun k l' k0 k1 hp' => ?_
  have e : atI items k = some (items.getD k.toNat .non) := atI_way k0 k1
  simp only [wk, wo, e]
  refine hq _ _ ?_ hp'
  rw [List.getD_eq_getElem?_getD, List.getElem?_eq_getElem (by omega)]
  exact List.getElem_mem _
theorem c_law_pick {ρ : Ro} {i : Nat} {l : List D} {items : List D} {t : Nat} {Q : W → Ro → Prop} (hi : slOf ρ i = some (.own (.lst l))) (hp : Pu t l) (ne : items ≠ []) (hz : items.length ≤ 1000000) (ht : t ≤ 1000000) (h : ∀ d l', d ∈ items → Pu (t + 1) l' → Q (.dat d) (ρ.set i (some (.own (.lst l'))))) : xC F_law_pick [.brw i, .own (.lst items)] ρ Q :=
  x_own rfl hi ⟨hi, items, t, rfl, ne, hz, hp, ht, fun d l' x y => h d l' x y⟩
theorem c_law_pickd {ρ : Ro} {i : Nat} {l : List D} {items : List D} {t : Nat} {Q : W → Ro → Prop} (hi : slOf ρ i = some (.own (.lst l))) (hp : Pu t l) (ne : items ≠ []) (hz : items.length ≤ 1000000) (ht : t ≤ 1000000) (h : ∀ d l', d ∈ items → Pu (t + 1) l' → Q (.dat d) (ρ.set i (some (.own (.lst l'))))) : xC F_law_pick [.brw i, .dat (.lst items)] ρ Q :=
  x_own rfl hi ⟨hi, items, t, rfl, ne, hz, hp, ht, fun d l' x y => h d l' x y⟩
/-! moves -/
def bdM (m : Int) (xs : List Int) : Prop := ∀ x ∈ xs, -m ≤ x ∧ x ≤ m
def F_law_move : Fn := ownF "_law_move" 2 (fun l ds Q => ∃ (n : Nat) (m : Int) (t : Nat), ds = [.int n, .int m] ∧ n ≤ 100 ∧ 0 ≤ m ∧ m ≤ 1000000 ∧ Pu t l ∧ t ≤ 100000 ∧ ∀ xs l', xs.length = n → bdM m xs → Pu (t + n) l' → Q (.dat (mv xs)) l') fun l ds Q Q' h ⟨m, t, u, a, b, c, d, e, f, g⟩ => ⟨m, t, u, a, b, c, d, e, f, fun k l' x y z => h _ _ (g k l' x y z)⟩
def b_law_move : Sm := (.cons (.ret (.blt .tuple (.cons (.lc [3] (.nm 3) .rng1 (.cons (.var 1) .nil) (.bl true) (.bin .sub (.call F_law_draw (.cons (.var 0) (.cons (.bin .add (.bin .mul (.int 2) (.var 2)) (.int 1)) .nil))) (.var 2))) .nil))) .nil)
theorem w_law_move : ∀ (l ds : List D) (Q : Sl → List D → Prop), ds.length = 2 → (∃ (n : Nat) (m : Int) (t : Nat), ds = [.int n, .int m] ∧ n ≤ 100 ∧ 0 ≤ m ∧ m ≤ 1000000 ∧ Pu t l ∧ t ≤ 100000 ∧ ∀ xs l', xs.length = n → bdM m xs → Pu (t + n) l' → Q (.dat (mv xs)) l') → wS b_law_move { nx := fun ρ => resO 2 (.dat .non) ρ Q, rt := fun w ρ => resO 2 w ρ Q } (startR 4 (.own (.lst l) :: ds.map .dat)) := by
  rintro l ds Q _ ⟨n, m, t, rfl, hn, hm0, hm, hp, ht, hq⟩
  show xS b_law_move _ [some (.own (.lst l)), some (.dat (.int n)), some (.dat (.int m)), none]
  unfold b_law_move
  simp only [wk, wo]
  refine x_lcs (α := D) ?_
  simp only [wk, wo]
  refine ⟨⟨by omega, by omega⟩, ?_⟩
  have hlen : (rngD 0 ((n : Int)).toNat).length = n := by rw [rng_len]; omega
  refine itsS_i id (rngD 0 ((n : Int)).toNat) (by rw [List.map_id]) (by rw [hlen, sizeL]; omega) ?_
  refine ⟨fun pre acc ρ => ∃ (ys : List Int) (l' : List D), acc = ys.map .int ∧ ys.length = pre.length ∧ bdM m ys ∧ Pu (t + pre.length) l' ∧ ρ = [some (.own (.lst l')), some (.dat (.int n)), some (.dat (.int m)), none], fun _ _ _ _ => trivial, ⟨[], l, rfl, rfl, fun x h => (by cases h), hp, rfl⟩, ?_, ?_⟩
  · rintro pre x post e acc ρ ⟨ys, l', rfl, el, hb, hp', rfl⟩
    have hpre : pre.length < n := by rw [← hlen, e]; simp
    simp only [wk, wo]
    refine ⟨mulW (big_lt (by decide) (by decide)) (big_lt (by omega) (by omega)), ?_⟩
    try simp only [wk, wo]
    refine c_law_draw rfl hp' (by omega) (by omega) (by omega) fun k l'' k0 k1 hp'' => ?_
    simp only [wk, wo]
    refine ⟨ys ++ [k - m], l'', by simp, by simp [el], fun z hz => ?_, by rw [List.length_append, List.length_singleton, ← Nat.add_assoc]; exact hp'', rfl⟩
    rcases List.mem_append.mp hz with hz | hz
    · exact hb z hz
    · have : z = k - m := by simpa using hz
      omega
  · rintro acc ρ8 ⟨ys, l', rfl, el, hb, hp', rfl⟩
    simp only [wk, wo]
    rw [hlen] at el hp'
    exact hq ys l' el hb hp'
theorem c_law_move {ρ : Ro} {i : Nat} {l : List D} {n : Nat} {m : Int} {t : Nat} {Q : W → Ro → Prop} (hi : slOf ρ i = some (.own (.lst l))) (hp : Pu t l) (hn : n ≤ 100) (h0 : 0 ≤ m) (hm : m ≤ 1000000) (ht : t ≤ 100000) (h : ∀ xs l', xs.length = n → bdM m xs → Pu (t + n) l' → Q (.dat (mv xs)) (ρ.set i (some (.own (.lst l'))))) : xC F_law_move [.brw i, .dat (.int n), .dat (.int m)] ρ Q :=
  x_own rfl hi ⟨hi, n, m, t, rfl, hn, h0, hm, hp, ht, fun xs l' x y z => h xs l' x y z⟩
/-! sums, differences, noughts -/
def subV (xs ys : List Int) : List Int := List.zipWith (· - ·) xs ys
def F_law_plus : Fn := pureF "_law_plus" 2 (fun ds Q => ∃ xs ys : List Int, ds = [mv xs, mv ys] ∧ xs.length ≤ sizeLine ∧ Q (.dat (mv (addV xs ys)))) fun ds Q Q' h ⟨d, e, a, b, c⟩ => ⟨d, e, a, b, h _ c⟩
def b_law_plus : Sm := (.cons (.ret (.blt .tuple (.cons (.lc [2, 3] (.tp (.cons (.nm 2) (.cons (.nm 3) .nil))) .zip (.cons (.var 0) (.cons (.var 1) .nil)) (.bl true) (.bin .add (.var 2) (.var 3))) .nil))) .nil)
theorem w_law_plus : ∀ (ds : List D) (Q : Sl → Prop), ds.length = 2 → (∃ xs ys : List Int, ds = [mv xs, mv ys] ∧ xs.length ≤ sizeLine ∧ Q (.dat (mv (addV xs ys)))) → wS b_law_plus { nx := fun ρ => Q (.dat .non), rt := fun w ρ => resOf 2 w ρ Q } (startR 4 (ds.map .dat)) := w_added
theorem c_law_plus {ρ : Ro} {xs ys : List Int} {Q : W → Ro → Prop} (hx : xs.length ≤ sizeLine) (h : Q (.dat (mv (addV xs ys))) ρ) : xC F_law_plus [.dat (mv xs), .dat (mv ys)] ρ Q := call_pure rfl ⟨xs, ys, rfl, hx, h⟩
theorem zip_two {f : Int → Int → Int} (xs ys : List Int) : ((xs.map D.int).zip (ys.map D.int)).map pairD = (xs.zip ys).map fun p => D.tup [.int p.1, .int p.2] := by
  rw [List.zip_map, List.map_map]
  rfl
def F_law_minus : Fn := pureF "_law_minus" 2 (fun ds Q => ∃ xs ys : List Int, ds = [mv xs, mv ys] ∧ xs.length ≤ sizeLine ∧ Q (.dat (mv (subV xs ys)))) fun ds Q Q' h ⟨d, e, a, b, c⟩ => ⟨d, e, a, b, h _ c⟩
def b_law_minus : Sm := (.cons (.ret (.blt .tuple (.cons (.lc [2, 3] (.tp (.cons (.nm 2) (.cons (.nm 3) .nil))) .zip (.cons (.var 0) (.cons (.var 1) .nil)) (.bl true) (.bin .sub (.var 2) (.var 3))) .nil))) .nil)
theorem w_law_minus : ∀ (ds : List D) (Q : Sl → Prop), ds.length = 2 → (∃ xs ys : List Int, ds = [mv xs, mv ys] ∧ xs.length ≤ sizeLine ∧ Q (.dat (mv (subV xs ys)))) → wS b_law_minus { nx := fun ρ => Q (.dat .non), rt := fun w ρ => resOf 2 w ρ Q } (startR 4 (ds.map .dat)) := by
  rintro ds Q _ ⟨xs, ys, rfl, hx, hq⟩
  show xS b_law_minus _ [some (.dat (mv xs)), some (.dat (mv ys)), none, none]
  unfold b_law_minus
  simp only [wk]
  refine x_lc (fun p : Int × Int => .int (p.1 - p.2)) ?_
  simp only [wk]
  refine its (fun p => D.tup [.int p.1, .int p.2]) (xs.zip ys) (zip_two (f := fun a b => a) xs ys) trivial (by rw [List.length_zip]; omega) (fun p hp => ?_) ?_
  · unfold xStep
    simp only [wk]
  · simp only [wk]
    have e : (xs.zip ys).map (fun p : Int × Int => D.int (p.1 - p.2)) = (subV xs ys).map .int := by
      unfold subV
      rw [← List.map_uncurry_zip_eq_zipWith, List.map_map]
      rfl
    rw [e]
    exact hq
theorem c_law_minus {ρ : Ro} {xs ys : List Int} {Q : W → Ro → Prop} (hx : xs.length ≤ sizeLine) (h : Q (.dat (mv (subV xs ys))) ρ) : xC F_law_minus [.dat (mv xs), .dat (mv ys)] ρ Q := call_pure rfl ⟨xs, ys, rfl, hx, h⟩
def F_law_noughts : Fn := pureF "_law_noughts" 1 (fun ds Q => ∃ n : Nat, ds = [.int n] ∧ n ≤ sizeLine ∧ Q (.dat (mv (List.replicate n 0)))) fun ds Q Q' h ⟨d, a, b, c⟩ => ⟨d, a, b, h _ c⟩
def b_law_noughts : Sm := (.cons (.ret (.blt .tuple (.cons (.lc [1] (.nm 1) .rng1 (.cons (.var 0) .nil) (.bl true) (.int 0)) .nil))) .nil)
theorem w_law_noughts : ∀ (ds : List D) (Q : Sl → Prop), ds.length = 1 → (∃ n : Nat, ds = [.int n] ∧ n ≤ sizeLine ∧ Q (.dat (mv (List.replicate n 0)))) → wS b_law_noughts { nx := fun ρ => Q (.dat .non), rt := fun w ρ => resOf 1 w ρ Q } (startR 2 (ds.map .dat)) := w_noughts
theorem c_law_noughts {ρ : Ro} {n : Nat} {Q : W → Ro → Prop} (hn : n ≤ sizeLine) (h : Q (.dat (mv (List.replicate n 0))) ρ) : xC F_law_noughts [.dat (.int n)] ρ Q := call_pure rfl ⟨n, rfl, hn, h⟩
end Cw
/-! Cw: the fields of a web that the laws draw. -/
namespace Cw
open PySem PySem.Spec PyProof.Rows L2

theorem mapW_c {d : D} {ds : List D} : (d :: ds).map W.dat = W.dat d :: ds.map W.dat := rfl
theorem mapW_n : ([] : List D).map W.dat = [] := rfl
def wm := And.intro @mapW_c (And.intro mapW_n (And.intro wo wk))
/-- what the laws hand to Web -/
structure Fo (n c : Nat) (ts : List Tie) : Prop where
  n1 : 1 ≤ n
  n3 : n ≤ 3
  c1 : 1 ≤ c
  c2 : c ≤ 100
  len : ts.length ≤ c + 5
  tie : ∀ t ∈ ts, IsTie n c t
  bd : ∀ t ∈ ts, bdM 3 t.m
theorem bdM.v {m : Int} {B : Nat} {xs : List Int} (h : bdM m xs) (k : m ≤ 2 ^ B) : bdV B xs := fun x hx => by
  have := h x hx
  omega
theorem Fo.web {n c : Nat} {ts : List Tie} (h : Fo n c ts) : WebIn n c 14 ts where
  n1 := h.n1
  n3 := h.n3
  c1 := h.c1
  c2 := by have := h.c2; omega
  bB := by decide
  B14 := by decide
  len := by have := h.c2; have := h.len; omega
  tie := h.tie
  bd := fun t m => (h.bd t m).v (by decide)
def foD (n c : Nat) (ts : List Tie) : D := .tup [.int n, .int c, .lst (ts.map Tie.d)]
theorem zero_iff {n : Nat} {m : List Int} (hl : m.length = n) : m.filterMap (fun x => if x = 0 then none else some (D.int x)) = [] ↔ m = List.replicate n 0 := by
  subst hl
  induction m with
  | nil => simp
  | cons x m ih =>
    rw [List.filterMap_cons, List.length_cons, List.replicate_succ]
    by_cases h : x = 0
    · subst h
      simp only [if_true]
      rw [ih]
      simp
    · simp [h]
def F_law_fields_of : Fn := ownF "_law_fields_of" 2 (fun l ds Q => ∃ (n c t : Nat), ds = [.int n, .int c] ∧ 1 ≤ n ∧ n ≤ 3 ∧ 1 ≤ c ∧ c ≤ 100 ∧ Pu t l ∧ t ≤ 10000 ∧ ∀ ts l', Fo n c ts → Pu (t + 1000) l' → Q (.dat (foD n c ts)) l') fun l ds Q Q' h ⟨n, c, t, a, b, d, e, f, g, i, j⟩ => ⟨n, c, t, a, b, d, e, f, g, i, fun ts l' x y => h _ _ (j ts l' x y)⟩
def b_law_fields_of : Sm := (.cons (.asg (.nm 3) (.lst .nil)) (.cons (.for (.nm 4) .rng2 (.cons (.int 1) (.cons (.var 2) .nil)) (.cons (.ite (.cmp .gt (.call F_law_draw (.cons (.var 0) (.cons (.int 8) .nil))) (.int 0)) (.cons (.app 3 (.tup (.cons (.var 4) (.cons (.call F_law_draw (.cons (.var 0) (.cons (.var 4) .nil))) (.cons (.call F_law_move (.cons (.var 0) (.cons (.var 1) (.cons (.int 1) .nil)))) .nil))))) .nil) .nil) .nil)) (.cons (.for (.nm 5) .rng1 (.cons (.call F_law_pick (.cons (.var 0) (.cons (.lst (.cons (.int 0) (.cons (.int 1) (.cons (.var 1) (.cons (.var 1) (.cons (.bin .add (.var 1) (.int 1)) (.cons (.bin .add (.var 1) (.int 1)) (.cons (.bin .add (.var 1) (.int 2)) .nil)))))))) .nil))) .nil) (.cons (.pars [7, 8] (.cons (.call F_law_draw (.cons (.var 0) (.cons (.var 2) .nil))) (.cons (.call F_law_draw (.cons (.var 0) (.cons (.var 2) .nil))) .nil))) (.cons (.asg (.nm 6) (.call F_law_move (.cons (.var 0) (.cons (.var 1) (.cons (.call F_law_pick (.cons (.var 0) (.cons (.lst (.cons (.int 1) (.cons (.int 1) (.cons (.int 1) (.cons (.int 2) (.cons (.int 3) .nil)))))) .nil))) .nil))))) (.cons (.ite (.and (.cmp .eq (.var 7) (.var 8)) (.cmp .eq (.lc [9] (.nm 9) .seq (.cons (.var 6) .nil) (.cmp .ne (.var 9) (.int 0)) (.var 9)) (.lst .nil))) (.cons (.asg (.nm 6) (.bin .add (.tup (.cons (.int 1) .nil)) (.slc (.var 6) (.int 1) .nil))) .nil) .nil) (.cons (.app 3 (.tup (.cons (.var 7) (.cons (.var 8) (.cons (.var 6) .nil))))) .nil))))) (.cons (.ret (.tup (.cons (.var 1) (.cons (.var 2) (.cons (.var 3) .nil))))) .nil))))
theorem bdM_head {n : Nat} {xs : List Int} (h1 : xs.length = n) (hn : 1 ≤ n) (hb : bdM 3 xs) : ((1 : Int) :: xs.drop 1).length = n ∧ bdM 3 ((1 : Int) :: xs.drop 1) ∧ (1 : Int) :: xs.drop 1 ≠ List.replicate n 0 := by
  refine ⟨by simp; omega, fun x m => ?_, fun e => ?_⟩
  · rcases List.mem_cons.mp m with rfl | m
    · decide
    · exact hb x (List.mem_of_mem_drop m)
  · obtain ⟨k, rfl⟩ : ∃ k, n = k + 1 := ⟨n - 1, by omega⟩
    rw [List.replicate_succ] at e
    cases e
theorem mv_app {xs ys : List Int} {Q : W → Prop} (h : xs.length + ys.length ≤ sizeLine) (q : Q (.dat (mv (xs ++ ys)))) : xb .add (.dat (mv xs)) (.dat (mv ys)) Q := by
  unfold mv
  rw [x_b_addT]
  refine ⟨by simpa using h, ?_⟩
  rw [← List.map_append]
  exact q
theorem mv_one {x : Int} : D.tup [.int x] = mv [x] := rfl
theorem rng2_at {n : Nat} {pre : List Nat} {x : Nat} {post : List Nat} (e : List.range n = pre ++ x :: post) : x = pre.length ∧ x < n := by
  have h1 : (List.range n)[pre.length]? = some x := by rw [e]; simp
  have h2 : pre.length < n := by
    have := congrArg List.length e
    simp at this; omega
  rw [List.getElem?_range h2] at h1
  cases h1
  exact ⟨rfl, h2⟩
theorem w_law_fields_of : ∀ (l ds : List D) (Q : Sl → List D → Prop), ds.length = 2 → (∃ (n c t : Nat), ds = [.int n, .int c] ∧ 1 ≤ n ∧ n ≤ 3 ∧ 1 ≤ c ∧ c ≤ 100 ∧ Pu t l ∧ t ≤ 10000 ∧ ∀ ts l', Fo n c ts → Pu (t + 1000) l' → Q (.dat (foD n c ts)) l') → wS b_law_fields_of { nx := fun ρ => resO 2 (.dat .non) ρ Q, rt := fun w ρ => resO 2 w ρ Q } (startR 10 (.own (.lst l) :: ds.map .dat)) := by
  rintro l ds Q _ ⟨n, c, t, rfl, hn1, hn3, hc1, hc2, hp, ht, hq⟩
  show xS b_law_fields_of _ [some (.own (.lst l)), some (.dat (.int n)), some (.dat (.int c)), none, none, none, none, none, none, none]
  unfold b_law_fields_of
  simp only [wm]
  refine ⟨⟨⟨by decide, by decide⟩, by omega, by omega⟩, ?_⟩
  have ec : ((c : Int) - 1).toNat = c - 1 := by omega
  refine x_fors (fun k : Nat => D.int (1 + (k : Nat))) (List.range (c - 1)) (fun pre ρ => ∃ (ts : List Tie) (l' : List D) (s4 : Option Sl), ts.length ≤ pre.length ∧ (∀ t ∈ ts, IsTie n c t ∧ bdM 3 t.m) ∧ Pu (t + 5 * pre.length) l' ∧ ρ = [some (.own (.lst l')), some (.dat (.int n)), some (.dat (.int c)), some (.own (.lst (ts.map Tie.d))), s4, none, none, none, none, none]) (by rw [ec]; rfl) ⟨[], l, none, Nat.le_refl _, fun t m => (by cases m), hp, rfl⟩ ?_ ?_
  · rintro pre x post e ρ ⟨ts, l', s4, hl, hts, hp', rfl⟩
    obtain ⟨hx, hxn⟩ := rng2_at e
    have plen : pre.length ≤ c := by omega
    simp only [wm]
    refine c_law_draw rfl hp' (by decide) (by decide) (by omega) fun k l1 _ _ hp1 => ?_
    simp only [wm]
    refine cnd_split (fun h => ?_) fun h => ?_
    · simp only [wm]
      refine c_law_draw rfl hp1 (by omega) (by omega) (by omega) fun b l2 b0 b1 hp2 => ?_
      simp only [wm]
      refine c_law_move rfl hp2 (by omega) (by decide) (by decide) (by omega) fun xs l3 h3 hb3 hp3 => ?_
      simp only [wm]
      refine ⟨by rw [List.length_map, sizeL]; omega, ?_⟩
      have hp4 : Pu (t + 5 * (pre.length + 1)) l3 := hp3.mono (by omega)
      refine ⟨ts ++ [⟨1 + (x : Nat), b, xs⟩], l3, some (.dat (.int (1 + (x : Nat)))), by simp; omega, fun s m => ?_, by simpa using hp4, by simp [Tie.d]⟩
      rcases List.mem_append.mp m with m | m
      · exact hts s m
      · have : s = ⟨1 + (x : Nat), b, xs⟩ := by simpa using m
        subst this
        refine ⟨⟨h3, by show (0 : Int) ≤ 1 + (x : Nat); omega, by show (1 + (x : Nat) : Int) < c; omega, b0, by show b < c; omega, .inl (by show (1 + (x : Nat) : Int) ≠ b; omega)⟩, fun y hy => ?_⟩
        have := hb3 y hy
        omega
    · simp only [wm]
      exact ⟨ts, l1, _, by simp; omega, hts, by simpa using hp1.mono (show t + 5 * pre.length + 1 ≤ t + 5 * (pre.length + 1) by omega), rfl⟩
  · rintro ρ ⟨ts, l', s4, hl, hts, hp', rfl⟩
    rw [List.length_range] at hl hp'
    have hp' : Pu (t + 500) l' := hp'.mono (by omega)
    simp only [wm]
    refine c_law_pick rfl hp' (by simp) (by simp) (by omega) fun d l1 hd hp1 => ?_
    obtain ⟨r, rfl, r0, r5⟩ : ∃ r : Nat, d = .int r ∧ 0 ≤ r ∧ r ≤ 5 := by
      simp only [List.mem_cons, List.not_mem_nil, or_false] at hd
      rcases hd with rfl | rfl | rfl | rfl | rfl | rfl | rfl
      · exact ⟨0, rfl, by omega, by omega⟩
      · exact ⟨1, rfl, by omega, by omega⟩
      · exact ⟨n, rfl, by omega, by omega⟩
      · exact ⟨n, rfl, by omega, by omega⟩
      · exact ⟨n + 1, rfl, by omega, by omega⟩
      · exact ⟨n + 1, rfl, by omega, by omega⟩
      · exact ⟨n + 2, rfl, by omega, by omega⟩
    simp only [wm]
    refine ⟨⟨by omega, by omega⟩, ?_⟩
    refine x_fors (fun k : Nat => D.int (0 + (k : Nat))) (List.range r) (fun pre ρ => ∃ (ts : List Tie) (l' : List D) (s4 s5 s6 s7 s8 : Option Sl), ts.length ≤ c + pre.length ∧ (∀ t ∈ ts, IsTie n c t ∧ bdM 3 t.m) ∧ Pu (t + 501 + 10 * pre.length) l' ∧ ρ = [some (.own (.lst l')), some (.dat (.int n)), some (.dat (.int c)), some (.own (.lst (ts.map Tie.d))), s4, s5, s6, s7, s8, none]) (by rw [Int.toNat_natCast]; rfl) ⟨ts, l1, _, _, _, _, _, by simp; omega, hts, hp1, rfl⟩ ?_ ?_
    · rintro pre x post e ρ ⟨ts, l', s4, s5, s6, s7, s8, hl, hts, hp', rfl⟩
      have hpre : pre.length < 5 := by
        have := congrArg List.length e
        simp at this; omega
      simp only [wm]
      refine c_law_draw rfl hp' (by omega) (by omega) (by omega) fun a l1 a0 a1 hp1 => ?_
      simp only [wm]
      refine c_law_draw rfl hp1 (by omega) (by omega) (by omega) fun b l2 b0 b1 hp2 => ?_
      simp only [wm]
      refine c_law_pick rfl hp2 (by simp) (by simp) (by omega) fun d l3 hd hp3 => ?_
      obtain ⟨m, rfl, m0, m3⟩ : ∃ m : Int, d = .int m ∧ 0 ≤ m ∧ m ≤ 3 := by
        simp only [List.mem_cons, List.not_mem_nil, or_false] at hd
        rcases hd with rfl | rfl | rfl | rfl | rfl <;> exact ⟨_, rfl, by decide, by decide⟩
      simp only [wm]
      refine c_law_move rfl hp3 (by omega) m0 (by omega) (by omega) fun xs l4 h4 hb4 hp4 => ?_
      have hb4 : bdM 3 xs := fun y hy => by have := hb4 y hy; omega
      have hp5 : Pu (t + 501 + 10 * (pre.length + 1)) l4 := hp4.mono (by omega)
      have fin : ∀ (ys : List Int), ys.length = n → bdM 3 ys → (a ≠ b ∨ ys ≠ List.replicate n 0) → ∀ s4 s5 s7 s8 : Option Sl, (∃ (ts' : List Tie) (l' : List D) (u4 u5 u6 u7 u8 : Option Sl), ts'.length ≤ c + (pre ++ [x]).length ∧ (∀ t ∈ ts', IsTie n c t ∧ bdM 3 t.m) ∧ Pu (t + 501 + 10 * (pre ++ [x]).length) l' ∧ [some (.own (.lst l4)), some (.dat (.int n)), some (.dat (.int c)), some (.own (.lst (ts.map Tie.d ++ [D.tup [.int a, .int b, mv ys]]))), s4, s5, some (.dat (mv ys)), s7, s8, (none : Option Sl)] = [some (.own (.lst l')), some (.dat (.int n)), some (.dat (.int c)), some (.own (.lst (ts'.map Tie.d))), u4, u5, u6, u7, u8, none]) := fun ys y1 y2 y3 s4 s5 s7 s8 => by
        refine ⟨ts ++ [⟨a, b, ys⟩], l4, s4, s5, some (.dat (mv ys)), s7, s8, by simp; omega, fun s m => ?_, by simpa using hp5, by simp [Tie.d]⟩
        rcases List.mem_append.mp m with m | m
        · exact hts s m
        · have : s = ⟨a, b, ys⟩ := by simpa using m
          subst this
          exact ⟨⟨y1, a0, a1, b0, b1, y3⟩, y2⟩
      simp only [wm]
      refine cnd_split (fun h => ?_) fun h => ?_
      · have h := of_decide_eq_true h
        simp only [wm]
        refine x_lcf (fun x : Int => if x = 0 then none else some (D.int x)) ?_
        simp only [wm]
        refine its D.int xs rfl trivial (by rw [sizeL]; omega) (fun y hy => ?_) ?_
        · unfold xfStep
          simp only [wm]
          refine cnd_split (fun h => ?_) fun h => ?_
          · have h : y ≠ 0 := by simpa using h
            simp only [wm, if_neg h]
          · have h : y = 0 := by simpa using h
            simp only [wm, if_pos h]
        · simp only [wm]
          have nil_eq : ∀ (es : List Int) {K : Bool → Prop}, xc .eq (.own (.lst (es.map D.int))) (.own (.lst [])) K = K (decide (es = [])) := fun es K => x_eqL (xs := es) (ys := []) tyInt (by decide) rfl rfl
          have efm : xs.filterMap (fun x => if x = 0 then none else some (D.int x)) = (xs.filterMap (fun x => if x = 0 then none else some x)).map D.int := by
            rw [List.map_filterMap]
            congr 1
            funext x
            by_cases z : x = 0 <;> simp [z]
          rw [efm, nil_eq]
          simp only [wm]
          refine cnd_split (fun h => ?_) fun h => ?_
          · simp only [wm, mv_one]
            refine mv_app (by rw [List.length_drop, sizeL, h4, List.length_singleton]; omega) ?_
            simp only [wm]
            obtain ⟨k1, k2, k3⟩ := bdM_head h4 hn1 hb4
            refine ⟨by rw [List.length_map, sizeL]; omega, ?_⟩
            exact fin ([1] ++ List.drop 1 xs) k1 k2 (.inr k3) s4 (some (.dat (.int (0 + (x : Nat))))) (some (.dat (.int a))) (some (.dat (.int b)))
          · simp only [wm]
            have h := of_decide_eq_false h
            refine ⟨by rw [List.length_map, sizeL]; omega, ?_⟩
            refine fin _ h4 hb4 (.inr fun q => h ?_) s4 (some (.dat (.int (0 + (x : Nat))))) (some (.dat (.int a))) (some (.dat (.int b)))
            have := (zero_iff h4).mpr q
            rw [efm] at this
            simpa using this
      · have h := of_decide_eq_false h
        simp only [wm]
        refine ⟨by rw [List.length_map, sizeL]; omega, ?_⟩
        exact fin _ h4 hb4 (.inl h) s4 (some (.dat (.int (0 + (x : Nat))))) (some (.dat (.int a))) (some (.dat (.int b)))
    · rintro ρ ⟨ts, l', s4, s5, s6, s7, s8, hl, hts, hp', rfl⟩
      rw [List.length_range] at hl hp'
      simp only [wm]
      exact hq ts l' ⟨hn1, hn3, hc1, hc2, by omega, fun s m => (hts s m).1, fun s m => (hts s m).2⟩ (hp'.mono (by omega))
theorem c_law_fields_of {ρ : Ro} {i : Nat} {l : List D} {n c : Nat} {t : Nat} {Q : W → Ro → Prop} (hi : slOf ρ i = some (.own (.lst l))) (hp : Pu t l) (h1 : 1 ≤ n) (h2 : n ≤ 3) (h3 : 1 ≤ c) (h4 : c ≤ 100) (ht : t ≤ 10000) (h : ∀ ts l', Fo n c ts → Pu (t + 1000) l' → Q (.dat (foD n c ts)) (ρ.set i (some (.own (.lst l'))))) : xC F_law_fields_of [.brw i, .dat (.int n), .dat (.int c)] ρ Q :=
  x_own rfl hi ⟨hi, n, c, t, rfl, h1, h2, h3, h4, hp, ht, fun ts l' x y => h ts l' x y⟩
end Cw
/-! Cw: fields, knots, webs of the laws. -/
namespace Cw
open PySem PySem.Spec PyProof.Rows L2

def F_law_fields : Fn := ownF "_law_fields" 0 (fun l ds Q => ∃ (t : Nat), ds = [] ∧ Pu t l ∧ t ≤ 1000 ∧ ∀ n c ts l', Fo n c ts → c ≤ 4 → Pu (t + 2000) l' → Q (.dat (foD n c ts)) l') fun l ds Q Q' h ⟨t, a, b, d, j⟩ => ⟨t, a, b, d, fun n c ts l' x w y => h _ _ (j n c ts l' x w y)⟩
def b_law_fields : Sm := (.cons (.pars [1, 2] (.cons (.call F_law_pick (.cons (.var 0) (.cons (.lst (.cons (.int 1) (.cons (.int 2) (.cons (.int 2) (.cons (.int 2) (.cons (.int 3) (.cons (.int 3) .nil))))))) .nil))) (.cons (.call F_law_pick (.cons (.var 0) (.cons (.lst (.cons (.int 1) (.cons (.int 1) (.cons (.int 2) (.cons (.int 2) (.cons (.int 3) (.cons (.int 4) .nil))))))) .nil))) .nil))) (.cons (.ret (.call F_law_fields_of (.cons (.var 0) (.cons (.var 1) (.cons (.var 2) .nil))))) .nil))
theorem w_law_fields : ∀ (l ds : List D) (Q : Sl → List D → Prop), ds.length = 0 → (∃ (t : Nat), ds = [] ∧ Pu t l ∧ t ≤ 1000 ∧ ∀ n c ts l', Fo n c ts → c ≤ 4 → Pu (t + 2000) l' → Q (.dat (foD n c ts)) l') → wS b_law_fields { nx := fun ρ => resO 0 (.dat .non) ρ Q, rt := fun w ρ => resO 0 w ρ Q } (startR 3 (.own (.lst l) :: ds.map .dat)) := by
  rintro l ds Q _ ⟨t, rfl, hp, ht, hq⟩
  show xS b_law_fields _ [some (.own (.lst l)), none, none]
  unfold b_law_fields
  simp only [wm]
  refine c_law_pick rfl hp (by simp) (by simp) (by omega) fun d l1 hd hp1 => ?_
  obtain ⟨n, rfl, n1, n3⟩ : ∃ n : Nat, d = .int n ∧ 1 ≤ n ∧ n ≤ 3 := by
    simp only [List.mem_cons, List.not_mem_nil, or_false] at hd
    rcases hd with rfl | rfl | rfl | rfl | rfl | rfl
    · exact ⟨1, rfl, by decide, by decide⟩
    · exact ⟨2, rfl, by decide, by decide⟩
    · exact ⟨2, rfl, by decide, by decide⟩
    · exact ⟨2, rfl, by decide, by decide⟩
    · exact ⟨3, rfl, by decide, by decide⟩
    · exact ⟨3, rfl, by decide, by decide⟩
  simp only [wm]
  refine c_law_pick rfl hp1 (by simp) (by simp) (by omega) fun d l2 hd hp2 => ?_
  obtain ⟨c, rfl, c1, c3⟩ : ∃ n : Nat, d = .int n ∧ 1 ≤ n ∧ n ≤ 4 := by
    simp only [List.mem_cons, List.not_mem_nil, or_false] at hd
    rcases hd with rfl | rfl | rfl | rfl | rfl | rfl
    · exact ⟨1, rfl, by decide, by decide⟩
    · exact ⟨1, rfl, by decide, by decide⟩
    · exact ⟨2, rfl, by decide, by decide⟩
    · exact ⟨2, rfl, by decide, by decide⟩
    · exact ⟨3, rfl, by decide, by decide⟩
    · exact ⟨4, rfl, by decide, by decide⟩
  simp only [wm]
  refine c_law_fields_of rfl hp2 n1 n3 c1 (by omega) (by omega) fun ts l3 fo hp3 => ?_
  simp only [wm]
  exact hq n c ts l3 fo c3 (hp3.mono (by omega))
theorem c_law_fields {ρ : Ro} {i : Nat} {l : List D} {t : Nat} {Q : W → Ro → Prop} (hi : slOf ρ i = some (.own (.lst l))) (hp : Pu t l) (ht : t ≤ 1000) (h : ∀ n c ts l', Fo n c ts → c ≤ 4 → Pu (t + 2000) l' → Q (.dat (foD n c ts)) (ρ.set i (some (.own (.lst l'))))) : xC F_law_fields [.brw i] ρ Q :=
  x_own rfl hi ⟨hi, t, rfl, hp, ht, fun n c ts l' x w y => h n c ts l' x w y⟩
section
variable {n c : Nat} {ts : List Tie} {Q : W → Prop} {ρ : Ro} {K : Ro → Prop}
theorem fo_i0 : xj (.dat (foD n c ts)) (.dat (.int 0)) Q = Q (.dat (.int n)) := by unfold foD; simp only [wm]
theorem fo_i1 : xj (.dat (foD n c ts)) (.dat (.int 1)) Q = Q (.dat (.int c)) := by unfold foD; simp only [wm]
theorem fo_i2 : xj (.dat (foD n c ts)) (.dat (.int 2)) Q = Q (.dat (.lst (ts.map Tie.d))) := by unfold foD; simp only [wm]
theorem fo_t {t r l : Tg} : xt (.tp (.cons t (.cons r (.cons l .nil)))) (foD n c ts) ρ K = xt t (.int n) ρ fun ρ' => xt r (.int c) ρ' fun ρ' => xt l (.lst (ts.map Tie.d)) ρ' fun ρ' => K ρ' := by
  unfold foD
  rw [x_k_tpc]
  have e1 : (fun ρ' => xt .nil (.tup []) ρ' K) = fun ρ' => K ρ' := funext fun _ => x_k_n
  have e2 : (fun ρ' => xt (.cons l .nil) (.tup [.lst (ts.map Tie.d)]) ρ' K) = fun ρ' => xt l (.lst (ts.map Tie.d)) ρ' fun ρ' => K ρ' := funext fun _ => by rw [x_k_c, e1]
  have e3 : (fun ρ' => xt (.cons r (.cons l .nil)) (.tup [.int c, .lst (ts.map Tie.d)]) ρ' K) = fun ρ' => xt r (.int c) ρ' fun ρ' => xt l (.lst (ts.map Tie.d)) ρ' fun ρ' => K ρ' := funext fun _ => by rw [x_k_c, e2]
  rw [e3]
end
def wn := And.intro @fo_i0 (And.intro @fo_i1 (And.intro @fo_i2 (And.intro @fo_t wm)))
/-! knots -/
/-- what the laws ask about -/
def Kno (n : Nat) (c : Nat) (k : Kn) : Prop := 0 ≤ k.1 ∧ k.1 < c ∧ k.2.length = n ∧ bdV 100 k.2
def F_law_knot : Fn := ownF "_law_knot" 1 (fun l ds Q => ∃ (n c t : Nat) (ts : List Tie), ds = [foD n c ts] ∧ n ≤ 100 ∧ 1 ≤ c ∧ c ≤ 10000 ∧ Pu t l ∧ t ≤ 10000 ∧ ∀ k l', Kno n c k → Pu (t + 200) l' → Q (.dat (knD k)) l') fun l ds Q Q' h ⟨n, c, t, ts, a, b, d, e, f, g, j⟩ => ⟨n, c, t, ts, a, b, d, e, f, g, fun ts l' x y => h _ _ (j ts l' x y)⟩
def b_law_knot : Sm := (.cons (.asg (.nm 2) (.call F_law_move (.cons (.var 0) (.cons (.idx (.var 1) (.int 0)) (.cons (.int 4) .nil))))) (.cons (.ite (.cmp .eq (.call F_law_draw (.cons (.var 0) (.cons (.int 4) .nil))) (.int 0)) (.cons (.asg (.nm 2) (.blt .tuple (.cons (.lc [3] (.nm 3) .seq (.cons (.var 2) .nil) (.bl true) (.bin .add (.bin .mul (.var 3) (.bin .pow (.int 10) (.int 25))) (.int 7))) .nil))) .nil) .nil) (.cons (.ret (.tup (.cons (.call F_law_draw (.cons (.var 0) (.cons (.idx (.var 1) (.int 1)) .nil))) (.cons (.var 2) .nil)))) .nil)))
theorem w_law_knot : ∀ (l ds : List D) (Q : Sl → List D → Prop), ds.length = 1 → (∃ (n c t : Nat) (ts : List Tie), ds = [foD n c ts] ∧ n ≤ 100 ∧ 1 ≤ c ∧ c ≤ 10000 ∧ Pu t l ∧ t ≤ 10000 ∧ ∀ k l', Kno n c k → Pu (t + 200) l' → Q (.dat (knD k)) l') → wS b_law_knot { nx := fun ρ => resO 1 (.dat .non) ρ Q, rt := fun w ρ => resO 1 w ρ Q } (startR 4 (.own (.lst l) :: ds.map .dat)) := by
  rintro l ds Q _ ⟨n, c, t, ts, rfl, hn, hc1, hc2, hp, ht, hq⟩
  show xS b_law_knot _ [some (.own (.lst l)), some (.dat (foD n c ts)), none, none]
  unfold b_law_knot
  simp only [wn]
  refine c_law_move rfl hp hn (by decide) (by decide) (by omega) fun xs l1 h1 hb1 hp1 => ?_
  simp only [wn]
  refine c_law_draw rfl hp1 (by decide) (by decide) (by omega) fun k l2 _ _ hp2 => ?_
  simp only [wn]
  have e100 : (2 ^ 100 : Int) = 1267650600228229401496703205376 := by decide
  refine cnd_split (fun h => ?_) fun h => ?_
  · simp only [wn]
    refine x_lc (fun x : Int => .int (x * 10 ^ 25 + 7)) ?_
    simp only [wn]
    refine its D.int xs rfl trivial (by rw [sizeL]; omega) (fun x hx => ?_) ?_
    · unfold xStep
      simp only [wn]
      refine ⟨by unfold CPowW; decide +kernel, ?_⟩
      try simp only [wn]
      have e25 : (10 ^ (25 : Int).toNat : Int) = 10000000000000000000000000 := by decide +kernel
      rw [e25]
      have := hb1 x hx
      refine ⟨mulW (big_lt (by omega) (by omega)) (big_lt (by decide) (by decide)), ?_⟩
      have e25' : ((10 : Int) ^ 25) = 10000000000000000000000000 := by decide +kernel
      rw [e25']
    · have e : xs.map (fun x : Int => D.int (x * 10 ^ 25 + 7)) = (xs.map fun x => x * 10 ^ 25 + 7).map .int := by rw [List.map_map]; rfl
      simp only [wn]
      rw [e]
      refine c_law_draw rfl hp2 (by omega) (by omega) (by omega) fun p l3 p0 p1 hp3 => ?_
      simp only [wn]
      refine hq (p, xs.map fun x => x * 10 ^ 25 + 7) l3 ⟨p0, p1, by rw [List.length_map]; exact h1, fun y hy => ?_⟩ (hp3.mono (by omega))
      obtain ⟨x, hx, rfl⟩ := List.mem_map.mp hy
      have := hb1 x hx
      have e25' : ((10 : Int) ^ 25) = 10000000000000000000000000 := by decide +kernel
      omega
  · simp only [wn]
    refine c_law_draw rfl hp2 (by omega) (by omega) (by omega) fun p l3 p0 p1 hp3 => ?_
    simp only [wn]
    exact hq (p, xs) l3 ⟨p0, p1, h1, hb1.v (by omega)⟩ (hp3.mono (by omega))
theorem c_law_knot {ρ : Ro} {i : Nat} {l : List D} {n c t : Nat} {ts : List Tie} {Q : W → Ro → Prop} (hi : slOf ρ i = some (.own (.lst l))) (hp : Pu t l) (hn : n ≤ 100) (h1 : 1 ≤ c) (h2 : c ≤ 10000) (ht : t ≤ 10000) (h : ∀ k l', Kno n c k → Pu (t + 200) l' → Q (.dat (knD k)) (ρ.set i (some (.own (.lst l'))))) : xC F_law_knot [.brw i, .dat (foD n c ts)] ρ Q :=
  x_own rfl hi ⟨hi, n, c, t, ts, rfl, hn, h1, h2, hp, ht, fun k l' x y => h k l' x y⟩
/-! a web made -/
def F_law_made : Fn := pureF "_law_made" 1 (fun ds Q => ∃ (n c B : Nat) (ts : List Tie), ds = [foD n c ts] ∧ WebIn n c B ts ∧ Q (.dat (Wb.of n c ts).d)) fun ds Q Q' h ⟨n, c, B, ts, a, b, d⟩ => ⟨n, c, B, ts, a, b, h _ d⟩
def b_law_made : Sm := (.cons (.asg (.nm 1) (.blt .list (.cons (.idx (.var 0) (.int 2)) .nil))) (.cons (.asg (.nm 2) (.call F_Web (.cons (.idx (.var 0) (.int 0)) (.cons (.idx (.var 0) (.int 1)) (.cons (.var 1) .nil))))) (.cons (.clr 1) (.cons (.ret (.var 2)) .nil))))
theorem w_law_made : ∀ (ds : List D) (Q : Sl → Prop), ds.length = 1 → (∃ (n c B : Nat) (ts : List Tie), ds = [foD n c ts] ∧ WebIn n c B ts ∧ Q (.dat (Wb.of n c ts).d)) → wS b_law_made { nx := fun ρ => Q (.dat .non), rt := fun w ρ => resOf 1 w ρ Q } (startR 3 (ds.map .dat)) := by
  rintro ds Q _ ⟨n, c, B, ts, rfl, h, hq⟩
  show xS b_law_made _ [some (.dat (foD n c ts)), none, none]
  unfold b_law_made
  simp only [wn]
  refine c_Web_brw rfl h ?_
  simp only [wn]
  exact hq
theorem c_law_made {ρ : Ro} {n c B : Nat} {ts : List Tie} {Q : W → Ro → Prop} (h : WebIn n c B ts) (q : Q (.dat (Wb.of n c ts).d) ρ) : xC F_law_made [.dat (foD n c ts)] ρ Q := call_pure rfl ⟨n, c, B, ts, rfl, h, q⟩
end Cw
/-! Cw: lists of lists in the machine; the ways as the laws find them. -/
namespace Cw
open PySem PySem.Spec PyProof.Rows L2

def natS (y : Sl) (K : Nat → Prop) (u : St 0 K := ()) : Prop := ∃ k : Nat, y = .dat (.int k) ∧ K k
theorem natS_n {k : Nat} {K : Nat → Prop} : natS (.dat (.int k)) K = K k := propext ⟨fun ⟨y, e, h⟩ => by
  have : (k : Int) = (y : Int) := by injection e with e; injection e
  have : k = y := by omega
  subst this; exact h, fun h => ⟨_, rfl, h⟩⟩
theorem idxQ_ll {i : Nat} {dss : List (List D)} {y : Sl} {Q : W → Prop} : idxQ i (.own (.ll dss)) y Q = natS y fun k => k < dss.length ∧ Q (.br2 i k) := rfl
def ownLL (x : Sl) (K : List (List D) → Prop) (u : St 0 K := ()) : Prop := ∃ dss, x = .own (.ll dss) ∧ K dss
theorem ownLL_o {dss : List (List D)} {K : List (List D) → Prop} : ownLL (.own (.ll dss)) K = K dss := propext ⟨fun ⟨y, e, h⟩ => by cases e; exact h, fun h => ⟨_, rfl, h⟩⟩
theorem getC_br2 {ρ : Ro} {i k : Nat} {K : Sl → Prop} : getC ρ (.br2 i k) K = onO (slOf ρ i) fun x => ownLL x fun dss => onO dss[k]? fun ds => K (.own (.lst ds)) := by
  refine propext ⟨fun ⟨x, e, h⟩ => ?_, fun ⟨x, e, dss, e2, ds, e3, h⟩ => ⟨_, ?_, h⟩⟩
  · have e : (match slOf ρ i with | some (.own (.ll dss)) => (dss[k]?).map fun ds => Sl.own (.lst ds) | _ => none) = some x := e
    split at e
    · rename_i dss e1
      cases e3 : dss[k]? with
      | none => rw [e3] at e; cases e
      | some ds =>
        rw [e3] at e; cases e
        exact ⟨_, e1, dss, rfl, ds, e3, h⟩
    · cases e
  · subst e2
    show (match slOf ρ i with | some (.own (.ll dss)) => (dss[k]?).map fun ds => Sl.own (.lst ds) | _ => none) = some (.own (.lst ds))
    rw [e]
    dsimp only
    rw [e3]; rfl
def br2Q (i : Nat) (x : W) (K : Nat → Prop) (u : St 0 K := ()) : Prop := ∃ k, x = .br2 i k ∧ K k
theorem br2Q_b {i k : Nat} {K : Nat → Prop} : br2Q i (.br2 i k) K = K k := propext ⟨fun ⟨y, e, h⟩ => by cases e; exact h, fun h => ⟨_, rfl, h⟩⟩
theorem n_app2 {D : En} {ρ : Ro} {i : Nat} {a e : E} : wS (.app2 i a e) D ρ = wE (.idx (.var i) a) ρ fun x ρ1 => br2Q i x fun k => onO (slOf ρ1 i) fun y => ownLL y fun dss => onO dss[k]? fun _ => wE e ρ1 fun w ρ2 => frz w ρ2 fun d ρ3 => onO (slOf ρ3 i) fun y => ownLL y fun dss => onO dss[k]? fun ds => ds.length < sizeLine ∧ D.nx (ρ3.set i (some (.own (.ll (dss.set k (ds ++ [d])))))) := by
  have h1 : ∀ (ρ3 : Ro) (d : Cw.D) (k : Nat), (∃ dss ds, slOf ρ3 i = some (.own (.ll dss)) ∧ dss[k]? = some ds ∧ ds.length < sizeLine ∧ D.nx (ρ3.set i (some (.own (.ll (dss.set k (ds ++ [d]))))))) = (onO (slOf ρ3 i) fun y => ownLL y fun dss => onO dss[k]? fun ds => ds.length < sizeLine ∧ D.nx (ρ3.set i (some (.own (.ll (dss.set k (ds ++ [d]))))))) := fun ρ3 d k =>
    propext ⟨fun ⟨dss, ds, a, b, c⟩ => ⟨_, a, dss, rfl, ds, b, c⟩, fun ⟨y, a, dss, e, ds, b, c⟩ => ⟨dss, ds, by rw [a, e], b, c⟩⟩
  have h2 : ∀ (ρ1 : Ro) (k : Nat) (A : Prop), (isLL ρ1 i k ∧ A) = (onO (slOf ρ1 i) fun y => ownLL y fun dss => onO dss[k]? fun _ => A) := fun ρ1 k A =>
    propext ⟨fun ⟨⟨dss, ds, a, b⟩, c⟩ => ⟨_, a, dss, rfl, ds, b, c⟩, fun ⟨y, a, dss, e, ds, b, c⟩ => ⟨⟨dss, ds, by rw [a, e], b⟩, c⟩⟩
  rw [wS]
  simp only [h1, h2]
  rfl
theorem x_app2 {D : En} {ρ : Ro} {i : Nat} {a e : E} : xS (.app2 i a e) D ρ = xE (.idx (.var i) a) ρ fun x ρ1 => br2Q i x fun k => onO (slOf ρ1 i) fun y => ownLL y fun dss => onO dss[k]? fun _ => xE e ρ1 fun w ρ2 => xz w ρ2 fun d ρ3 => onO (slOf ρ3 i) fun y => ownLL y fun dss => onO dss[k]? fun ds => ds.length < sizeLine ∧ D.nx (ρ3.set i (some (.own (.ll (dss.set k (ds ++ [d])))))) := n_app2
theorem x_lcl {vs : List Nat} {i : Nat} {k : Ik} {as : E} {ρ : Ro} {Q : W → Ro → Prop} : xE (.lcl vs i k as) ρ Q = xA as ρ fun ws ρ1 => xwz false k ws ρ1 fun s ρ2 => gdOk s.gd (wip ρ2 vs) ∧ s.items.length < sizeLine ∧ Q (.own (.ll (List.replicate s.items.length []))) (unwip ρ2 vs (wip ρ2 vs)) := by
  show wE _ _ _ = _
  rw [wE]; rfl
def wq := And.intro @natS_n (And.intro @idxQ_ll (And.intro @ownLL_o (And.intro @getC_br2 (And.intro @br2Q_b (And.intro @x_app2 (And.intro @x_lcl wn))))))
/-! the ways -/
def waD (w : List (List Kn)) : D := .lst (w.map fun l => D.lst (l.map knD))
def add1 (w : List (List Kn)) (p : Nat) (k : Kn) : List (List Kn) := if k ∈ w.getD p [] then w else w.set p (w.getD p [] ++ [k])
theorem add1_len {w : List (List Kn)} {p : Nat} {k : Kn} : (add1 w p k).length = w.length := by
  unfold add1
  split <;> simp
theorem mem_add1 {w : List (List Kn)} {p q : Nat} {k x : Kn} (hp : p < w.length) : x ∈ (add1 w p k).getD q [] ↔ x ∈ w.getD q [] ∨ (p = q ∧ x = k) := by
  unfold add1
  by_cases h : k ∈ w.getD p []
  · rw [if_pos h]
    constructor
    · exact .inl
    · rintro (z | ⟨rfl, rfl⟩)
      · exact z
      · exact h
  · rw [if_neg h, getD_set hp]
    by_cases e : p = q
    · subst e; simp
    · rw [if_neg e]; simp [e]
theorem add1_inner {w : List (List Kn)} {p : Nat} {k : Kn} {N : Nat} (h : ∀ l ∈ w, l.length ≤ N) : ∀ l ∈ add1 w p k, l.length ≤ N + 1 := by
  intro l m
  unfold add1 at m
  split at m
  · have := h l m; omega
  · rcases List.mem_or_eq_of_mem_set m with m | rfl
    · have := h l m; omega
    · rw [List.length_append, List.length_singleton, List.getD_eq_getElem?_getD]
      cases e : w[p]? with
      | none => simp
      | some l => have := h l (List.mem_of_getElem? e); simp; exact this
structure WaysOk (c : Nat) (ts : List Tie) (w : List (List Kn)) : Prop where
  len : w.length = c
  mem : ∀ p k, k ∈ w.getD p [] ↔ ∃ t ∈ ts, (t.a.toNat = p ∧ k = (t.b, t.m)) ∨ (t.b.toNat = p ∧ k = (t.a, turnV t.m))
  inn : ∀ l ∈ w, l.length ≤ 2 * ts.length
theorem sub_noughts {n : Nat} {m : List Int} (h : m.length = n) : subV (List.replicate n 0) m = turnV m := by
  subst h
  unfold subV turnV
  induction m with
  | nil => rfl
  | cons x m ih => rw [List.length_cons, List.replicate_succ, List.zipWith_cons_cons, ih, List.map_cons]
def F_law_ways : Fn := pureF "_law_ways" 1 (fun ds Q => ∃ (n c : Nat) (ts : List Tie), ds = [foD n c ts] ∧ n ≤ 100 ∧ c ≤ 10000 ∧ ts.length ≤ 100000 ∧ (∀ t ∈ ts, IsTie n c t) ∧ ∀ w : List (List Kn), WaysOk c ts w → Q (.dat (waD w))) fun ds Q Q' h ⟨n, c, ts, a, b, d, e, f, g⟩ => ⟨n, c, ts, a, b, d, e, f, fun w x => h _ (g w x)⟩
def b_law_ways : Sm := (.cons (.asg (.tp (.cons (.nm 2) (.cons (.nm 3) (.cons (.nm 4) .nil)))) (.var 0)) (.cons (.asg (.nm 1) (.lcl [8] 8 .rng1 (.cons (.var 3) .nil))) (.cons (.for (.tp (.cons (.nm 5) (.cons (.nm 6) (.cons (.nm 7) .nil)))) .seq (.cons (.var 4) .nil) (.cons (.for (.tp (.cons (.nm 9) (.cons (.nm 10) .nil))) .seq (.cons (.lst (.cons (.tup (.cons (.var 5) (.cons (.tup (.cons (.var 6) (.cons (.var 7) .nil))) .nil))) (.cons (.tup (.cons (.var 6) (.cons (.tup (.cons (.var 5) (.cons (.call F_law_minus (.cons (.call F_law_noughts (.cons (.var 2) .nil)) (.cons (.var 7) .nil))) .nil))) .nil))) .nil))) .nil) (.cons (.ite (.cmp .notin (.var 10) (.idx (.var 1) (.var 9))) (.cons (.app2 1 (.var 9) (.var 10)) .nil) .nil) .nil)) .nil)) (.cons (.ret (.var 1)) .nil))))
def b_way : Sm := (.cons (.ite (.cmp .notin (.var 10) (.idx (.var 1) (.var 9))) (.cons (.app2 1 (.var 9) (.var 10)) .nil) .nil) .nil)
theorem w_way {Z : En} {d0 d2 d3 d4 d5 d6 d7 d8 : Option Sl} {w : List (List Kn)} {p : Int} {k : Kn} (h0 : 0 ≤ p) (hp : p < w.length) (hs : ∀ l ∈ w, l.length < sizeLine) (q : Z.nx [d0, some (.own (.ll (encW (add1 w p.toNat k)))), d2, d3, d4, d5, d6, d7, d8, some (.dat (.int p)), some (.dat (knD k))]) :
    xS b_way Z [d0, some (.own (.ll (encW w))), d2, d3, d4, d5, d6, d7, d8, some (.dat (.int p)), some (.dat (knD k))] := by
  obtain ⟨a, rfl⟩ : ∃ a : Nat, p = a := ⟨p.toNat, by omega⟩
  rw [Int.toNat_natCast] at q
  have hp : a < w.length := by omega
  have el : (encW w).length = w.length := by simp [encW]
  unfold b_way
  simp only [wq]
  refine ⟨by rw [el]; exact hp, ?_⟩
  simp only [wq, encW_get hp]
  rw [x_notin (a := k) (xs := w.getD a []) tyKn (by decide) rfl rfl]
  simp only [wq]
  refine cnd_split (fun h => ?_) fun h => ?_
  · have h : k ∉ w.getD a [] := by simpa using h
    simp only [wq]
    refine ⟨by rw [el]; exact hp, ?_⟩
    simp only [wq, encW_get hp]
    refine ⟨?_, ?_⟩
    · rw [List.length_map, List.getD_eq_getElem?_getD, List.getElem?_eq_getElem hp]
      exact hs _ (List.getElem_mem _)
    · unfold add1 at q
      rw [if_neg h] at q
      have e : (w.getD a []).map knD ++ [knD k] = (w.getD a [] ++ [k]).map knD := by simp
      rw [e, encW_set]
      exact q
  · have h : k ∈ w.getD a [] := by simpa using h
    simp only [wq]
    unfold add1 at q
    rw [if_pos h] at q
    exact q
theorem w_law_ways : ∀ (ds : List D) (Q : Sl → Prop), ds.length = 1 → (∃ (n c : Nat) (ts : List Tie), ds = [foD n c ts] ∧ n ≤ 100 ∧ c ≤ 10000 ∧ ts.length ≤ 100000 ∧ (∀ t ∈ ts, IsTie n c t) ∧ ∀ w : List (List Kn), WaysOk c ts w → Q (.dat (waD w))) → wS b_law_ways { nx := fun ρ => Q (.dat .non), rt := fun w ρ => resOf 1 w ρ Q } (startR 11 (ds.map .dat)) := by
  rintro ds Q _ ⟨n, c, ts, rfl, hn, hc, hl, ht, hq⟩
  show xS b_law_ways _ [some (.dat (foD n c ts)), none, none, none, none, none, none, none, none, none, none]
  have eb : b_law_ways = (.cons (.asg (.tp (.cons (.nm 2) (.cons (.nm 3) (.cons (.nm 4) .nil)))) (.var 0)) (.cons (.asg (.nm 1) (.lcl [8] 8 .rng1 (.cons (.var 3) .nil))) (.cons (.for (.tp (.cons (.nm 5) (.cons (.nm 6) (.cons (.nm 7) .nil)))) .seq (.cons (.var 4) .nil) (.cons (.for (.tp (.cons (.nm 9) (.cons (.nm 10) .nil))) .seq (.cons (.lst (.cons (.tup (.cons (.var 5) (.cons (.tup (.cons (.var 6) (.cons (.var 7) .nil))) .nil))) (.cons (.tup (.cons (.var 6) (.cons (.tup (.cons (.var 5) (.cons (.call F_law_minus (.cons (.call F_law_noughts (.cons (.var 2) .nil)) (.cons (.var 7) .nil))) .nil))) .nil))) .nil))) .nil) b_way) .nil)) (.cons (.ret (.var 1)) .nil)))) := rfl
  rw [eb]
  simp only [wq]
  refine ⟨⟨by omega, by omega⟩, by rw [rng_len, sizeL]; omega, ?_⟩
  have e0 : List.replicate (rngD 0 ((c : Int)).toNat).length ([] : List D) = encW (List.replicate c []) := by
    rw [rng_len, Int.toNat_natCast]
    unfold encW
    rw [List.map_replicate]; rfl
  rw [e0]
  refine x_fors Tie.d ts (fun pre ρ => ∃ (w : List (List Kn)) (s5 s6 s7 s9 s10 : Option Sl), WaysOk c pre w ∧ ρ = [some (.dat (foD n c ts)), some (.own (.ll (encW w))), some (.dat (.int n)), some (.dat (.int c)), some (.dat (.lst (ts.map Tie.d))), s5, s6, s7, none, s9, s10]) rfl ⟨List.replicate c [], _, _, _, _, _, ⟨by simp, fun p k => ?_, fun l m => by rw [(List.mem_replicate.mp m).2]; exact Nat.zero_le _⟩, rfl⟩ ?_ ?_
  · have : k ∉ (List.replicate c ([] : List Kn)).getD p [] := by
      rw [List.getD_eq_getElem?_getD, List.getElem?_replicate]
      split <;> simp
    simp only [this, false_iff]
    rintro ⟨t, m, _⟩
    cases m
  · rintro pre t post e ρ ⟨w, s5, s6, s7, s9, s10, hw, rfl⟩
    have mt : t ∈ ts := by rw [e]; simp
    obtain ⟨h1, h2, h3, h4, h5, h6⟩ := ht t mt
    have hpre : pre.length < 100000 := by
      have := congrArg List.length e
      simp at this; omega
    have hwl := hw.len
    simp only [wq]
    refine c_law_noughts (by rw [sizeL]; omega) ?_
    simp only [wq]
    refine c_law_minus (by rw [List.length_replicate, sizeL]; omega) ?_
    rw [sub_noughts h1]
    simp only [wq]
    have k1 : D.tup [.int t.a, .tup [.int t.b, mv t.m]] = D.tup [.int t.a, knD (t.b, t.m)] := rfl
    have k2 : D.tup [.int t.b, .tup [.int t.a, mv (turnV t.m)]] = D.tup [.int t.b, knD (t.a, turnV t.m)] := rfl
    rw [k1, k2, x_fcons]
    simp only [wq]
    refine w_way h2 (by omega) (fun l m => by have := hw.inn l m; rw [sizeL]; omega) ?_
    simp only [wq]
    rw [x_fcons]
    simp only [wq]
    refine w_way h4 (by rw [add1_len]; omega) (fun l m => by have := add1_inner hw.inn l m; rw [sizeL]; omega) ?_
    simp only [wq]
    rw [x_fnil]
    refine ⟨add1 (add1 w t.a.toNat (t.b, t.m)) t.b.toNat (t.a, turnV t.m), _, _, _, _, _, ⟨by rw [add1_len, add1_len]; exact hw.len, fun p k => ?_, fun l m => ?_⟩, rfl⟩
    · rw [mem_add1 (by rw [add1_len]; omega), mem_add1 (by omega), hw.mem, or_assoc]
      simp only [List.mem_append, List.mem_singleton]
      constructor
      · rintro (⟨s, hs, q⟩ | q)
        · exact ⟨s, .inl hs, q⟩
        · exact ⟨t, .inr rfl, q⟩
      · rintro ⟨s, hs | rfl, q⟩
        · exact .inl ⟨s, hs, q⟩
        · exact .inr q
    · have := add1_inner (add1_inner hw.inn) l m
      rw [List.length_append, List.length_singleton]
      omega
  · rintro ρ ⟨w, s5, s6, s7, s9, s10, hw, rfl⟩
    simp only [wq]
    refine .inr ?_
    have e1 : (encW w).map D.lst = w.map fun l => D.lst (l.map knD) := by unfold encW; rw [List.map_map]; rfl
    show Q (.dat (.lst ((encW w).map D.lst)))
    rw [e1]
    exact hq w hw
theorem c_law_ways {ρ : Ro} {n c : Nat} {ts : List Tie} {Q : W → Ro → Prop} (hn : n ≤ 100) (hc : c ≤ 10000) (hl : ts.length ≤ 100000) (ht : ∀ t ∈ ts, IsTie n c t) (h : ∀ w : List (List Kn), WaysOk c ts w → Q (.dat (waD w)) ρ) : xC F_law_ways [.dat (foD n c ts)] ρ Q := call_pure rfl ⟨n, c, ts, rfl, hn, hc, hl, ht, fun w x => h w x⟩
end Cw
/-! Cw: dicts by whole numbers; knots as the laws sort them. -/
namespace Cw
open PySem PySem.Spec PyProof.Rows L2

def kI (i : Int) : Key := .inl i
section
variable {α : Type} [DecidableEq α] {kr : α → Int} {enc : α → D}
theorem kI_inj {i j : Int} (h : kI i = kI j) : i = j := Sum.inl.inj h
theorem zip_sameG {r : α} : ∀ {L : List α}, (∀ a ∈ L, kr a = kr r → a = r) → List.zipWith (fun k' d => if k' = kI (kr r) then enc r else d) (L.map fun a => kI (kr a)) (L.map enc) = L.map enc
  | [], _ => rfl
  | a :: L, h => by
    rw [List.map_cons, List.map_cons, List.zipWith_cons_cons, zip_sameG fun b m => h b (List.mem_cons_of_mem _ m)]
    by_cases e : kI (kr a) = kI (kr r)
    · rw [if_pos e, h a List.mem_cons_self (kI_inj e)]
    · rw [if_neg e]
theorem putK_gen {r : α} {L : List α} (h : ∀ a ∈ L, kr a = kr r → a = r) :
    putK (L.map fun a => kI (kr a)) (L.map enc) (kI (kr r)) (enc r) = if r ∈ L then (L.map fun a => kI (kr a), L.map enc) else ((L ++ [r]).map fun a => kI (kr a), (L ++ [r]).map enc) := by
  unfold putK
  by_cases m : r ∈ L
  · have : kI (kr r) ∈ L.map fun a => kI (kr a) := List.mem_map.mpr ⟨r, m, rfl⟩
    rw [if_pos this, if_pos m, zip_sameG h]
  · have : kI (kr r) ∉ L.map fun a => kI (kr a) := fun q => by
      obtain ⟨a, ha, e⟩ := List.mem_map.mp q
      exact m (h a ha (kI_inj e) ▸ ha)
    rw [if_neg this, if_neg m]
    simp
theorem look_gen {r : α} : ∀ {L : List α}, (∀ a ∈ L, kr a = kr r → a = r) → r ∈ L → look (L.map fun a => kI (kr a)) (L.map enc) (kI (kr r)) = some (enc r)
  | [], _, m => by cases m
  | a :: L, h, m => by
    unfold look
    rw [List.map_cons, List.map_cons, List.zip_cons_cons, List.find?_cons]
    by_cases e : kI (kr a) = kI (kr r)
    · have := h a List.mem_cons_self (kI_inj e)
      subst this
      simp
    · have na : a ≠ r := fun q => e (by rw [q])
      simp only [e, decide_false]
      have := look_gen (L := L) (fun b m => h b (List.mem_cons_of_mem _ m)) ((List.mem_cons.mp m).resolve_left (Ne.symm na))
      unfold look at this
      exact this
end
/-- [e for t in d], d a dict by whole numbers -/
theorem x_lk {vs : List Nat} {t : Tg} {i : Nat} {e : E} {ρ : Ro} {Q : W → Ro → Prop} (g : Int → D) (h : ∃ (is : List Int) (ds : List D), slOf ρ i = some (.own (.dk (is.map kI) ds)) ∧ is.length ≤ sizeLine ∧
    (∀ k ∈ is, xt t (.int k) (wip (ρ.set i none) vs) fun ρ4 => xE e ρ4 fun y ρ6 => xz y ρ6 fun d' ρ7 => d' = g k ∧ wip ρ7 vs = wip (ρ.set i none) vs) ∧ Q (.own (.lst (is.map g))) ((unwip (ρ.set i none) vs (wip (ρ.set i none) vs)).set i (some (.own (.dk (is.map kI) ds))))) : xE (.lk vs t i (.bl true) e) ρ Q := by
  obtain ⟨is, ds, h1, h2, h3, h4⟩ := h
  refine w_lk (fun d => match d with | .int k => g k | d => d) ⟨_, ds, h1, by simpa using h2, fun k hk => ?_, ?_⟩
  · obtain ⟨k', hk2, rfl⟩ := List.mem_map.mp hk
    exact h3 k' hk2
  · have e1 : ((is.map kI).map kD).map (fun d => match d with | .int k => g k | d => d) = is.map g := by
      rw [List.map_map, List.map_map]; rfl
    rw [e1]
    exact h4
theorem x_setd {D : En} {ρ : Ro} {i : Nat} {a e : E} (h : xE e ρ fun w ρ1 => xz w ρ1 fun d ρ2 => (∃ t, slOf ρ2 i = some (.own t)) ∧ xE a ρ2 fun x ρ3 => xz x ρ3 fun kd ρ4 =>
      ∃ ks ds k, slOf ρ4 i = some (.own (.dk ks ds)) ∧ keyOf kd = some k ∧ ks.length < sizeLine ∧ D.nx (ρ4.set i (some (.own (.dk (putK ks ds k d).1 (putK ks ds k d).2))))) : xS (.setd i a e) D ρ := by
  show wS _ _ _
  rw [s_setd']
  refine wE_mono e _ _ _ (fun w ρ1 h => frz_mono (fun d ρ2 h => ⟨h.1, wE_mono a _ _ _ (fun x ρ3 h => frz_mono (fun kd ρ4 h => .inl h) h) h.2⟩) h) h
theorem x_min {x : Sl} {ns : List Int} {Q : W → Prop} (hx : sq x = some (true, ns.map .int)) (hn : ns ≠ []) (h : ∀ m, m ∈ ns → (∀ y, y ∈ ns → m ≤ y) → Q (.dat (.int m))) : xl .min [x] Q := ⟨_, ns, hx, intsOf_map _, List.length_pos_iff.mpr hn, h⟩
theorem x_max {x : Sl} {ns : List Int} {Q : W → Prop} (hx : sq x = some (true, ns.map .int)) (hn : ns ≠ []) (h : ∀ m, m ∈ ns → (∀ y, y ∈ ns → y ≤ m) → Q (.dat (.int m))) : xl .max [x] Q := ⟨_, ns, hx, intsOf_map _, List.length_pos_iff.mpr hn, h⟩
theorem x_sorted {x : Sl} {ns : List Int} {Q : W → Prop} (hx : sq x = some (true, ns.map .int)) (h : ∀ ns' : List Int, ns'.Perm ns → ns'.Pairwise (· ≤ ·) → Q (.own (.lst (ns'.map .int)))) : xl .sorted [x] Q := ⟨_, ns, hx, intsOf_map _, h⟩
/-- [d[key] for key in sorted([int(key) for key in d])], the last statement -/
theorem x_bykey {α : Type} [DecidableEq α] {kr : α → Int} {enc : α → D} {Z : En} {s0 s1 s2 s3 s5 s6 s7 s8 : Option Sl} {L : List α} (hs : L.length ≤ sizeLine) (nd : L.Nodup) (inj : ∀ r ∈ L, ∀ r' ∈ L, kr r = kr r' → r = r')
    (h : ∀ (S : List α) (ρ' : Ro), S.Perm L → S.Pairwise (fun x y => kr x < kr y) → Z.rt (.own (.lst (S.map enc))) ρ') :
    xS (.ret (.lc [7] (.nm 7) .seq (.cons (.blt .sorted (.cons (.lk [7] (.nm 7) 4 (.bl true) (.blt .int (.cons (.var 7) .nil))) .nil)) .nil) (.bl true) (.idx (.var 4) (.var 7)))) Z [s0, s1, s2, s3, some (.own (.dk (L.map fun a => kI (kr a)) (L.map enc))), s5, s6, s7, s8] := by
  -- what each key tells
  let back : Int → D := fun k => ((L.find? fun r => decide (kr r = k)).map enc).getD .non
  have hback : ∀ r ∈ L, back (kr r) = enc r := fun r m => by
    show ((L.find? fun r' => decide (kr r' = kr r)).map enc).getD .non = enc r
    cases e : L.find? fun r' => decide (kr r' = kr r) with
    | none =>
      rw [List.find?_eq_none] at e
      exact absurd (by simp) (e r m)
    | some r' =>
      have h1 := List.find?_some e
      have h2 := List.mem_of_find?_eq_some e
      rw [inj r' h2 r m (of_decide_eq_true h1)]; rfl
  simp only [wq]
  refine x_lc back ?_
  simp only [wq]
  refine x_lk D.int ⟨L.map kr, L.map enc, by rw [List.map_map]; rfl, by simpa using hs, fun k hk => ?_, ?_⟩
  · simp only [wq]
  · simp only [wq]
    refine x_sorted rfl fun ns' pm ps => ?_
    simp only [wq]
    have mem : ∀ k ∈ ns', ∃ r ∈ L, kr r = k := fun k m => by
      obtain ⟨r, hr, e⟩ := List.mem_map.mp (pm.mem_iff.mp m)
      exact ⟨r, hr, e⟩
    refine its D.int ns' rfl trivial (by rw [pm.length_eq, List.length_map]; exact hs) (fun k hk => ?_) ?_
    · obtain ⟨r, hr, rfl⟩ := mem k hk
      unfold xStep
      simp only [wq]
      refine ⟨kI (kr r), enc r, rfl, ?_, ?_⟩
      · rw [List.map_map]
        exact look_gen (fun x m e => inj x m r hr e) hr
      · simp only [wq]
        exact (hback r hr).symm
    · simp only [wq]
      have e2 : ∀ l : List α, (∀ r ∈ l, r ∈ L) → (l.map kr).map back = l.map enc := by
        intro l
        induction l with
        | nil => intro _; rfl
        | cons r l ih =>
          intro hl
          rw [List.map_cons, List.map_cons, List.map_cons, ih fun x m => hl x (List.mem_cons_of_mem _ m), hback r (hl r List.mem_cons_self)]
      -- the rows behind the keys
      let bk : Int → Option α := fun k => L.find? fun r => decide (kr r = k)
      have hbk : ∀ r ∈ L, bk (kr r) = some r := fun r m => by
        show (L.find? fun r' => decide (kr r' = kr r)) = some r
        cases e : L.find? fun r' => decide (kr r' = kr r) with
        | none =>
          rw [List.find?_eq_none] at e
          exact absurd (by simp) (e r m)
        | some r' =>
          have h1 := List.find?_some e
          have h2 := List.mem_of_find?_eq_some e
          rw [inj r' h2 r m (of_decide_eq_true h1)]
      have bkL : ∀ l : List α, (∀ r ∈ l, r ∈ L) → (l.map kr).filterMap bk = l := by
        intro l
        induction l with
        | nil => intro _; rfl
        | cons r l ih =>
          intro hl
          rw [List.map_cons, List.filterMap_cons, hbk r (hl r List.mem_cons_self), ih fun x m => hl x (List.mem_cons_of_mem _ m)]
      have kb : ∀ ks : List Int, (∀ k ∈ ks, ∃ r ∈ L, kr r = k) → (ks.filterMap bk).map kr = ks ∧ ∀ r ∈ ks.filterMap bk, r ∈ L := by
        intro ks
        induction ks with
        | nil => intro _; exact ⟨rfl, fun r m => by cases m⟩
        | cons k ks ih =>
          intro hk
          obtain ⟨r, hr, rfl⟩ := hk k List.mem_cons_self
          obtain ⟨i1, i2⟩ := ih fun x m => hk x (List.mem_cons_of_mem _ m)
          rw [List.filterMap_cons, hbk r hr]
          refine ⟨by rw [List.map_cons, i1], fun x m => ?_⟩
          rcases List.mem_cons.mp m with rfl | m
          · exact hr
          · exact i2 x m
      obtain ⟨k1, k2⟩ := kb ns' mem
      have pS : (ns'.filterMap bk).Perm L := by
        have := pm.filterMap bk
        rw [bkL L fun _ m => m] at this
        exact this
      have e3 : ns'.map back = (ns'.filterMap bk).map enc := by
        have := e2 (ns'.filterMap bk) k2
        rw [k1] at this
        exact this
      show Z.rt (.own (.lst (ns'.map back))) _
      rw [e3]
      refine h _ _ pS ?_
      have ndk : ns'.Nodup := pm.nodup_iff.mpr (List.pairwise_map.mpr (nd.imp_of_mem fun {x y} hx hy hxy e => hxy (inj x hx y hy e)))
      have p2 : ((ns'.filterMap bk).map kr).Pairwise (fun x y => x < y) := by
        rw [k1]
        exact (ps.and ndk).imp fun ⟨h1, h2⟩ => Int.lt_iff_le_and_ne.mpr ⟨h1, h2⟩
      exact List.pairwise_map.mp p2
end Cw
/-! Cw: knots as the laws sort them. -/
namespace Cw
open PySem PySem.Spec PyProof.Rows L2

def F_law_sorted_knots : Fn := pureF "_law_sorted_knots" 1 (fun ds Q => ∃ (ks : List Kn) (n B : Nat), ds = [.lst (ks.map knD)] ∧ Kns n B ks ∧ Q (.own (.lst ((knSort ks).map knD)))) fun ds Q Q' h ⟨ts, n, B, a, b, c⟩ => ⟨ts, n, B, a, b, h _ c⟩
def b_lsk2 : Sm := (.ret (.lc [7] (.nm 7) .seq (.cons (.blt .sorted (.cons (.lk [7] (.nm 7) 4 (.bl true) (.blt .int (.cons (.var 7) .nil))) .nil)) .nil) (.bl true) (.idx (.var 4) (.var 7))))
def b_lsk1 : Sm := (.cons (.asg (.nm 7) (.bin .sub (.var 5) (.var 2))) (.cons (.for (.nm 8) .seq (.cons (.var 6) .nil) (.cons (.asg (.nm 7) (.bin .sub (.bin .add (.bin .mul (.var 7) (.var 3)) (.var 8)) (.var 2))) .nil)) (.cons (.setd 4 (.var 7) (.tup (.cons (.var 5) (.cons (.var 6) .nil)))) .nil)))
def b_law_sorted_knots : Sm := (.cons (.asg (.nm 1) (.lst (.cons (.int 0) .nil))) (.cons (.for (.tp (.cons (.nm 5) (.cons (.nm 6) .nil))) .seq (.cons (.var 0) .nil) (.cons (.asg (.nm 1) (.bin .add (.bin .add (.var 1) (.lst (.cons (.var 5) .nil))) (.blt .list (.cons (.var 6) .nil)))) .nil)) (.cons (.asg (.nm 2) (.blt .min (.cons (.lc [8] (.nm 8) .seq (.cons (.var 1) .nil) (.bl true) (.blt .int (.cons (.var 8) .nil))) .nil))) (.cons (.asg (.nm 3) (.bin .add (.bin .sub (.blt .max (.cons (.lc [8] (.nm 8) .seq (.cons (.var 1) .nil) (.bl true) (.blt .int (.cons (.var 8) .nil))) .nil)) (.var 2)) (.int 1))) (.cons (.asg (.nm 4) .dnew) (.cons (.for (.tp (.cons (.nm 5) (.cons (.nm 6) .nil))) .seq (.cons (.var 0) .nil) b_lsk1) (.cons b_lsk2 .nil)))))))
theorem flat_len {n : Nat} : ∀ (l : List Kn), (∀ k ∈ l, k.2.length = n) → (l.map Kn.row).flatten.length ≤ (n + 1) * l.length
  | [], _ => by simp
  | k :: l, h => by
    have h1 := h k List.mem_cons_self
    have h2 := flat_len l fun s m => h s (List.mem_cons_of_mem _ m)
    rw [List.map_cons, List.flatten_cons, List.length_append, List.length_cons, Nat.mul_add]
    have : (Kn.row k).length = n + 1 := by unfold Kn.row; rw [List.length_cons, h1]
    omega
theorem w_inner {Z : En} {s0 s1 s4 s5 s6 : Option Sl} {low many : Int} : ∀ (xs : List Int) (k : Int) (s8 : Option Sl), (∀ i, i < xs.length → CMulW (keyR low many k (xs.take i)) many) →
    (∀ s8', Z.nx [s0, s1, some (.dat (.int low)), some (.dat (.int many)), s4, s5, s6, some (.dat (.int (keyR low many k xs))), s8']) →
    xf (tn (.nm 8) (.cons (.asg (.nm 7) (.bin .sub (.bin .add (.bin .mul (.var 7) (.var 3)) (.var 8)) (.var 2))) .nil)) Z (xs.map .int) [s0, s1, some (.dat (.int low)), some (.dat (.int many)), s4, s5, s6, some (.dat (.int k)), s8]
  | [], k, s8, _, h => h s8
  | x :: xs, k, s8, hm, h => by
    rw [List.map_cons, x_fcons]
    simp only [wq]
    refine ⟨hm 0 (by simp), ?_⟩
    try simp only [wq]
    exact w_inner xs (k * many + x - low) _ (fun i hi => hm (i + 1) (by simpa using hi)) h
theorem w_law_sorted_knots : ∀ (ds : List D) (Q : Sl → Prop), ds.length = 1 → (∃ (ks : List Kn) (n B : Nat), ds = [.lst (ks.map knD)] ∧ Kns n B ks ∧ Q (.own (.lst ((knSort ks).map knD)))) → wS b_law_sorted_knots { nx := fun ρ => Q (.dat .non), rt := fun w ρ => resOf 1 w ρ Q } (startR 9 (ds.map .dat)) := by
  rintro ds Q _ ⟨ks, n, B, rfl, ok, hq⟩
  show xS b_law_sorted_knots _ [some (.dat (.lst (ks.map knD))), none, none, none, none, none, none, none, none]
  unfold b_law_sorted_knots
  simp only [wq]
  have hn := ok.n
  have hB := ok.B
  have hlen := ok.len
  refine x_fors knD ks (fun pre ρ => ∃ (s5 s6 : Option Sl), ρ = [some (.dat (.lst (ks.map knD))), some (.own (.lst ((0 :: (pre.map Kn.row).flatten).map .int))), none, none, none, s5, s6, none, none]) rfl ⟨_, _, rfl⟩ ?_ ?_
  · rintro pre k post e ρ ⟨s5, s6, rfl⟩
    have mk : ∀ x ∈ pre, x.2.length = n := fun x m => (ok.sm x (by rw [e]; simp [m])).1
    have kl := (ok.sm k (by rw [e]; simp)).1
    have pl : pre.length + 1 ≤ 100000 := by
      have := congrArg List.length e
      simp at this; omega
    have fl := flat_len pre mk
    have fl2 : (n + 1) * pre.length ≤ 19 * 100000 := Nat.mul_le_mul (by omega) (by omega)
    simp only [wq]
    refine ⟨by rw [sizeL]; simp only [List.length_map, List.length_cons, List.length_nil]; omega, ?_⟩
    try simp only [wq]
    refine ⟨by rw [sizeL]; simp only [List.length_map, List.length_cons, List.length_nil, List.length_append]; omega, ?_⟩
    refine ⟨some (.dat (.int k.1)), some (.dat (mv k.2)), ?_⟩
    have e1 : ((0 :: (pre.map Kn.row).flatten).map D.int ++ [D.int k.1]) ++ k.2.map D.int = (0 :: ((pre ++ [k]).map Kn.row).flatten).map D.int := by
      simp [Kn.row]
    rw [e1]
  · rintro ρ ⟨s5, s6, rfl⟩
    -- all numbers and their bounds
    generalize hns : (0 :: (ks.map Kn.row).flatten) = ns
    have ne : ns ≠ [] := by rw [← hns]; simp
    have lns : ns.length ≤ 2000000 := by
      rw [← hns, List.length_cons]
      have := flat_len ks fun k m => (ok.sm k m).1
      have : (n + 1) * ks.length ≤ 19 * 100000 := Nat.mul_le_mul (by omega) (by omega)
      omega
    have nb : ∀ x ∈ ns, -(2 ^ B : Int) ≤ x ∧ x ≤ 2 ^ B := fun x m => by
      rw [← hns] at m
      rcases List.mem_cons.mp m with rfl | m
      · have : (0 : Int) < 2 ^ B := Int.pow_pos (by decide)
        omega
      · obtain ⟨r, hr, hx⟩ := List.mem_flatten.mp m
        obtain ⟨k, hk, rfl⟩ := List.mem_map.mp hr
        exact (ok.sm k hk).2 x hx
    simp only [wq]
    refine x_lc D.int ?_
    simp only [wq]
    refine its D.int ns rfl rfl (by rw [sizeL]; omega) (fun x hx => ?_) ?_
    · unfold xStep
      simp only [wq]
    simp only [wq]
    refine x_min rfl ne fun low l1 l2 => ?_
    simp only [wq]
    refine x_lc D.int ?_
    simp only [wq]
    refine its D.int ns rfl rfl (by rw [sizeL]; omega) (fun x hx => ?_) ?_
    · unfold xStep
      simp only [wq]
    simp only [wq]
    refine x_max rfl ne fun hi h1 h2 => ?_
    simp only [wq]
    generalize hmany : hi - low + 1 = many
    have lb := nb low l1
    have hb := nb hi h1
    have m0 : 0 < many := by
      have := h2 low l1
      omega
    have m1 : many < 2 ^ (B + 3) := by
      have e : (2 ^ (B + 3) : Int) = 8 * 2 ^ B := by rw [Int.pow_add]; omega
      have : (0 : Int) < 2 ^ B := Int.pow_pos (by decide)
      omega
    have inr : ∀ k ∈ ks, ∀ x ∈ Kn.row k, low ≤ x ∧ x < low + many := fun k hk x hx => by
      have : x ∈ ns := by
        rw [← hns]
        exact List.mem_cons_of_mem _ (List.mem_flatten.mpr ⟨_, List.mem_map.mpr ⟨k, hk, rfl⟩, hx⟩)
      have := l2 x this
      have := h2 x (by assumption)
      omega
    let kr : Kn → Int := fun k => keyR low many 0 (Kn.row k)
    have ek : ∀ k : Kn, keyR low many (k.1 - low) k.2 = kr k := fun k => by
      show _ = keyR low many (0 * many + k.1 - low) k.2
      rw [Int.zero_mul, Int.zero_add]
    have rowinj : ∀ k k' : Kn, Kn.row k = Kn.row k' → k = k' := fun k k' e => by
      rw [← Kn.of_row k, ← Kn.of_row k', e]
    have rl : ∀ k ∈ ks, (Kn.row k).length = n + 1 := fun k m => by
      unfold Kn.row; rw [List.length_cons, (ok.sm k m).1]
    have inj : ∀ r ∈ ks, ∀ r' ∈ ks, kr r = kr r' → r = r' := fun r hr r' hr' e => by
      rcases LexLt.tri ((rl r hr).trans (rl r' hr').symm) with q | q | q
      · have := keyR_lt q (inr r hr) (inr r' hr'); have e : keyR low many 0 (Kn.row r) = keyR low many 0 (Kn.row r') := e; omega
      · exact rowinj _ _ q
      · have := keyR_lt q (inr r' hr') (inr r hr); have e : keyR low many 0 (Kn.row r) = keyR low many 0 (Kn.row r') := e; omega
    have sm : (n + 1 + 2) * (B + 3) ≤ 400000 := by
      have : (n + 1 + 2) * (B + 3) ≤ 21 * 1003 := Nat.mul_le_mul (by omega) (by omega)
      omega
    refine x_fors knD ks (fun pre ρ => ∃ (L : List Kn) (s5 s6 s7 s8 : Option Sl), ρ = [some (.dat (.lst (ks.map knD))), some (.own (.lst (ns.map .int))), some (.dat (.int low)), some (.dat (.int many)), some (.own (.dk (L.map fun a => kI (kr a)) (L.map knD))), s5, s6, s7, s8] ∧ L.Nodup ∧ L.length ≤ pre.length ∧ ∀ k, k ∈ L ↔ k ∈ pre) rfl ⟨[], _, _, _, _, rfl, List.nodup_nil, Nat.le_refl _, fun k => Iff.rfl⟩ ?_ ?_
    · rintro pre k post e ρ ⟨L, s5, s6, s7, s8, rfl, nd, hl, hL⟩
      have mk : k ∈ ks := by rw [e]; simp
      have sub : ∀ x ∈ L, x ∈ ks := fun x m => by rw [e]; simp [(hL x).mp m]
      have pl : pre.length < 100000 := by
        have := congrArg List.length e
        simp at this; omega
      unfold b_lsk1
      simp only [wq]
      refine w_inner k.2 (k.1 - low) _ (fun i hi => ?_) fun s8' => ?_
      · have := key_mul (inr k mk) m0 m1 (Nat.le_of_eq (rl k mk)) sm (i + 1) (by unfold Kn.row; rw [List.length_cons]; omega)
        have e2 : keyR low many (k.1 - low) (k.2.take i) = keyR low many 0 ((Kn.row k).take (i + 1)) := by
          show _ = keyR low many (0 * many + k.1 - low) (k.2.take i)
          rw [Int.zero_mul, Int.zero_add]
        rw [e2]; exact this
      · rw [ek]
        simp only [wq]
        refine x_setd ?_
        simp only [wq]
        refine ⟨⟨_, rfl⟩, _, _, kI (kr k), rfl, rfl, by rw [List.length_map, sizeL]; omega, ?_⟩
        have k1 : D.tup [.int k.1, mv k.2] = knD k := rfl
        rw [k1, putK_gen (fun a m e => inj a (sub a m) k mk e)]
        by_cases m : k ∈ L
        · rw [if_pos m]
          simp only [wq]
          refine ⟨L, _, _, _, _, rfl, nd, by simp; omega, fun x => ?_⟩
          rw [hL, List.mem_append, List.mem_singleton]
          constructor
          · exact .inl
          · rintro (q | rfl)
            · exact q
            · exact (hL x).mp m
        · rw [if_neg m]
          simp only [wq]
          refine ⟨L ++ [k], _, _, _, _, rfl, List.nodup_append.mpr ⟨nd, by simp, fun x hx y hy e => ?_⟩, by simp; omega, fun x => ?_⟩
          · have : y = k := by simpa using hy
            rw [e, this] at hx; exact m hx
          · rw [List.mem_append, hL, List.mem_append]
    · rintro ρ ⟨L, s5, s6, s7, s8, rfl, nd, hl, hL⟩
      unfold b_lsk2
      simp only [n_nil, x_n_cons]
      refine x_bykey (by rw [sizeL]; omega) nd (fun r hr r' hr' e => inj r ((hL r).mp hr) r' ((hL r').mp hr') e) fun S ρ' pS pp => ?_
      simp only [wq]
      have e5 : S = knSort ks := by
        have hp : (S.map Kn.row).Pairwise LexLt := by
          refine List.pairwise_map.mpr (pp.imp_of_mem fun {x y} hx hy hlt => ?_)
          have mx := (hL x).mp (pS.mem_iff.mp hx)
          have my := (hL y).mp (pS.mem_iff.mp hy)
          rcases LexLt.tri ((rl x mx).trans (rl y my).symm) with q | q | q
          · exact q
          · have := rowinj _ _ q
            subst this; omega
          · have := keyR_lt q (inr y my) (inr x mx)
            have hlt : keyR low many 0 (Kn.row x) < keyR low many 0 (Kn.row y) := hlt
            omega
        have hu := inOrd_uniq (rs := ks.map Kn.row) (fun r m => by obtain ⟨k, hk, rfl⟩ := List.mem_map.mp m; exact rl k hk) hp fun r => by
          constructor
          · intro m
            obtain ⟨k, hk, rfl⟩ := List.mem_map.mp m
            exact List.mem_map.mpr ⟨k, (hL k).mp (pS.mem_iff.mp hk), rfl⟩
          · intro m
            obtain ⟨k, hk, rfl⟩ := List.mem_map.mp m
            exact List.mem_map.mpr ⟨k, pS.mem_iff.mpr ((hL k).mpr hk), rfl⟩
        unfold knSort
        rw [← hu, List.map_map]
        have : (Kn.of ∘ Kn.row) = id := funext fun k => Kn.of_row k
        rw [this, List.map_id]
      rw [e5]
      exact hq
theorem c_law_sorted_knots {ρ : Ro} {ks : List Kn} {n B : Nat} {Q : W → Ro → Prop} (ok : Kns n B ks) (h : Q (.own (.lst ((knSort ks).map knD))) ρ) : xC F_law_sorted_knots [.own (.lst (ks.map knD))] ρ Q := call_pure rfl ⟨ks, n, B, rfl, ok, h⟩
end Cw
/-! Cw: neighbours: both findings are one. -/
namespace Cw
open PySem PySem.Spec PyProof.Rows L2

/-- a tie leads from place p by k -/
def Tie.goes (t : Tie) (p : Nat) (k : Kn) : Prop := (t.a.toNat = p ∧ k = (t.b, t.m)) ∨ (t.b.toNat = p ∧ k = (t.a, turnV t.m))
theorem Tie.goes_turn {t : Tie} {p : Nat} {k : Kn} : t.turn.goes p k ↔ t.goes p k := by
  unfold Tie.goes Tie.turn
  rw [turn_turn]
  exact or_comm
theorem Tie.goes_told {t : Tie} {p : Nat} {k : Kn} : t.told.goes p k ↔ t.goes p k := by
  rcases t.told_cases with e | e
  · rw [e]
  · rw [e]; exact Tie.goes_turn
theorem mem_ways {n c B : Nat} {ts : List Tie} (h : WebIn n c B ts) {p : Nat} {k : Kn} : k ∈ (Wb.of n c ts).ways.getD p [] ↔ ∃ t ∈ ts, t.goes p k := by
  show k ∈ (waysOf c (toldTies ts)).getD p [] ↔ _
  rw [mem_waysOf fun t ht => by
    obtain ⟨_, h2, h3, h4, h5, _⟩ := h.toldTie t ht
    constructor <;> omega]
  constructor
  · rintro ⟨t, ht, q⟩
    obtain ⟨s, hs, rfl⟩ := mem_told.mp ht
    exact ⟨s, hs, Tie.goes_told.mp q⟩
  · rintro ⟨t, ht, q⟩
    exact ⟨t.told, mem_told.mpr ⟨t, ht, rfl⟩, Tie.goes_told.mpr q⟩
theorem ways_len {n c : Nat} {ts : List Tie} {p : Nat} : ((Wb.of n c ts).ways.getD p []).length ≤ 2 * ts.length := by
  have h : ∀ l ∈ waysOf c (toldTies ts), l.length ≤ 0 + 2 * (toldTies ts).length := fold_inner (N := 0) (fun l m => by rw [(List.mem_replicate.mp m).2]; exact Nat.le_refl _)
  have := toldTies_len (ts := ts)
  show ((waysOf c (toldTies ts)).getD p []).length ≤ _
  rw [List.getD_eq_getElem?_getD]
  cases e : (waysOf c (toldTies ts))[p]? with
  | none => simp
  | some l => have := h l (List.mem_of_getElem? e); simp only [Option.getD_some]; omega
/-- knots over one tie -/
def Tie.links (t : Tie) (k o : Kn) : Prop := (t.a = k.1 ∧ o = (t.b, addV k.2 t.m)) ∨ (t.b = k.1 ∧ o = (t.a, addV k.2 (turnV t.m)))
theorem mem_at {n c B : Nat} {ts : List Tie} (h : WebIn n c B ts) {k o : Kn} (hk : 0 ≤ k.1) : o ∈ (Wb.of n c ts).at k ↔ ∃ t ∈ ts, t.links k o := by
  unfold Wb.at
  rw [List.mem_map]
  constructor
  · rintro ⟨x, hx, rfl⟩
    obtain ⟨t, ht, q⟩ := (mem_ways h).mp hx
    obtain ⟨_, h2, h3, h4, h5, _⟩ := h.tie t ht
    rcases q with ⟨q, rfl⟩ | ⟨q, rfl⟩
    · exact ⟨t, ht, .inl ⟨by omega, rfl⟩⟩
    · exact ⟨t, ht, .inr ⟨by omega, rfl⟩⟩
  · rintro ⟨t, ht, ⟨q, rfl⟩ | ⟨q, rfl⟩⟩
    · exact ⟨(t.b, t.m), (mem_ways h).mpr ⟨t, ht, .inl ⟨by omega, rfl⟩⟩, rfl⟩
    · exact ⟨(t.a, turnV t.m), (mem_ways h).mpr ⟨t, ht, .inr ⟨by omega, rfl⟩⟩, rfl⟩
theorem add_turn : ∀ {c m : List Int}, c.length = m.length → addV (addV c m) (turnV m) = c
  | [], _, _ => by simp [addV]
  | x :: c, [], h => by simp at h
  | x :: c, y :: m, h => by
    have := add_turn (c := c) (m := m) (by simpa using h)
    unfold addV turnV at this ⊢
    simp only [List.zipWith_cons_cons, List.map_cons, this]
    congr 1
    omega
theorem add_turn2 {c m : List Int} (h : c.length = m.length) : addV (addV c (turnV m)) m = c := by
  have := add_turn (c := c) (m := turnV m) (h.trans (turn_len m).symm)
  rwa [turn_turn] at this
theorem links_symm {n : Nat} {t : Tie} {k o : Kn} (hm : t.m.length = n) (hk : k.2.length = n) (h : t.links k o) : t.links o k := by
  obtain ⟨k1, k2⟩ := k
  rcases h with ⟨h1, rfl⟩ | ⟨h1, rfl⟩
  · exact .inr ⟨rfl, by rw [add_turn (hk.trans hm.symm)]; rw [h1]⟩
  · exact .inl ⟨rfl, by rw [add_turn2 (hk.trans hm.symm)]; rw [h1]⟩
theorem at_symm {n c B : Nat} {ts : List Tie} (h : WebIn n c B ts) {k o : Kn} (hk : IsKn (Wb.of n c ts) k) (ho : IsKn (Wb.of n c ts) o) : o ∈ (Wb.of n c ts).at k ↔ k ∈ (Wb.of n c ts).at o := by
  rw [mem_at h hk.1, mem_at h ho.1]
  constructor
  · rintro ⟨t, ht, q⟩
    exact ⟨t, ht, links_symm (h.tie t ht).1 hk.2.2 q⟩
  · rintro ⟨t, ht, q⟩
    exact ⟨t, ht, links_symm (h.tie t ht).1 ho.2.2 q⟩
theorem at_kn {n c B : Nat} {ts : List Tie} (h : WebIn n c B ts) {k o : Kn} (hk : IsKn (Wb.of n c ts) k) (ho : o ∈ (Wb.of n c ts).at k) : IsKn (Wb.of n c ts) o := by
  obtain ⟨t, ht, q⟩ := (mem_at h hk.1).mp ho
  obtain ⟨h1, h2, h3, h4, h5, _⟩ := h.tie t ht
  rcases q with ⟨_, rfl⟩ | ⟨_, rfl⟩
  · exact ⟨h4, h5, addV_len hk.2.2 h1⟩
  · exact ⟨h2, h3, addV_len hk.2.2 ((turn_len _).trans h1)⟩
/-- what the laws find is what the web tells -/
theorem law_nb {n c B : Nat} {ts : List Tie} (h : WebIn n c B ts) {w : List (List Kn)} (hw : WaysOk c ts w) {k : Kn} (hk : IsKn (Wb.of n c ts) k) (hb : bdV 998 k.2) : knSort ((w.getD k.1.toNat []).map fun x => (x.1, addV k.2 x.2)) = (Wb.of n c ts).nb k := by
  unfold Wb.nb
  refine knSort_congr (h.ok.atOk hk hb) fun o => ?_
  unfold Wb.at
  rw [List.mem_map, List.mem_map]
  constructor
  · rintro ⟨x, hx, e⟩
    exact ⟨x, (mem_ways h).mpr ((hw.mem _ _).mp hx), e⟩
  · rintro ⟨x, hx, e⟩
    exact ⟨x, (hw.mem _ _).mpr ((mem_ways h).mp hx), e⟩
theorem WaysOk.kns {n c B : Nat} {ts : List Tie} (h : WebIn n c B ts) {w : List (List Kn)} (hw : WaysOk c ts w) {k : Kn} (hk : IsKn (Wb.of n c ts) k) (hb : bdV 998 k.2) : Kns n 999 ((w.getD k.1.toNat []).map fun x => (x.1, addV k.2 x.2)) where
  sm := fun x m => by
    have : x ∈ (Wb.of n c ts).at k := by
      obtain ⟨y, hy, rfl⟩ := List.mem_map.mp m
      exact List.mem_map.mpr ⟨y, (mem_ways h).mpr ((hw.mem _ _).mp hy), rfl⟩
    exact (h.ok.atOk hk hb).sm x this
  n := by have := h.n3; omega
  B := by decide
  len := by
    rw [List.length_map, List.getD_eq_getElem?_getD]
    have := h.len
    cases e : w[k.1.toNat]? with
    | none => simp
    | some l => have := hw.inn l (List.mem_of_getElem? e); simp only [Option.getD_some]; omega
def F_law_neighbours : Fn := pureF "_law_neighbours" 2 (fun ds Q => ∃ (n c B : Nat) (ts : List Tie) (k : Kn), ds = [foD n c ts, knD k] ∧ WebIn n c B ts ∧ IsKn (Wb.of n c ts) k ∧ bdV 998 k.2 ∧ Q (.own (.lst (((Wb.of n c ts).nb k).map knD)))) fun ds Q Q' h ⟨n, c, B, ts, k, a, b, d, e, f⟩ => ⟨n, c, B, ts, k, a, b, d, e, h _ f⟩
def b_law_neighbours : Sm := (.cons (.ret (.call F_law_sorted_knots (.cons (.lc [2, 3] (.tp (.cons (.nm 2) (.cons (.nm 3) .nil))) .seq (.cons (.idx (.call F_law_ways (.cons (.var 0) .nil)) (.idx (.var 1) (.int 0))) .nil) (.bl true) (.tup (.cons (.var 2) (.cons (.call F_law_plus (.cons (.idx (.var 1) (.int 1)) (.cons (.var 3) .nil))) .nil)))) .nil))) .nil)
theorem w_law_neighbours : ∀ (ds : List D) (Q : Sl → Prop), ds.length = 2 → (∃ (n c B : Nat) (ts : List Tie) (k : Kn), ds = [foD n c ts, knD k] ∧ WebIn n c B ts ∧ IsKn (Wb.of n c ts) k ∧ bdV 998 k.2 ∧ Q (.own (.lst (((Wb.of n c ts).nb k).map knD)))) → wS b_law_neighbours { nx := fun ρ => Q (.dat .non), rt := fun w ρ => resOf 2 w ρ Q } (startR 4 (ds.map .dat)) := by
  rintro ds Q _ ⟨n, c, B, ts, k, rfl, h, hk, hb, hq⟩
  show xS b_law_neighbours _ [some (.dat (foD n c ts)), some (.dat (knD k)), none, none]
  unfold b_law_neighbours
  have hn := h.n3
  have hc := h.c2
  have hl := h.len
  simp only [wq]
  refine x_lc (fun x : Kn => knD (x.1, addV k.2 x.2)) ?_
  simp only [wq]
  refine c_law_ways (by omega) hc (by omega) h.tie fun w hw => ?_
  unfold waD
  simp only [wq]
  have e : atI (w.map fun l => D.lst (l.map knD)) k.1 = some (.lst ((w.getD k.1.toNat []).map knD)) := by
    rw [atI_way (d := .lst []) hk.1 (by rw [List.length_map, hw.len]; exact hk.2.1), List.getD_eq_getElem?_getD, List.getD_eq_getElem?_getD, List.getElem?_map]
    cases w[k.1.toNat]? <;> rfl
  rw [e]
  simp only [wq]
  have ok := WaysOk.kns h hw hk hb
  have l1 := ok.len
  rw [List.length_map] at l1
  refine its knD (w.getD k.1.toNat []) rfl trivial (by rw [sizeL]; omega) (fun x hx => ?_) ?_
  · unfold xStep
    simp only [wq]
    refine c_law_plus (by rw [sizeL, hk.2.2]; show n ≤ _; omega) ?_
    simp only [wq]
    rfl
  · simp only [wq]
    have e2 : (w.getD k.1.toNat []).map (fun x : Kn => knD (x.1, addV k.2 x.2)) = ((w.getD k.1.toNat []).map fun x : Kn => ((x.1, addV k.2 x.2) : Kn)).map knD := by rw [List.map_map]; rfl
    rw [e2]
    refine c_law_sorted_knots ok ?_
    rw [law_nb h hw hk hb]
    simp only [wq]
    exact hq
theorem c_law_neighbours {ρ : Ro} {n c B : Nat} {ts : List Tie} {k : Kn} {Q : W → Ro → Prop} (h : WebIn n c B ts) (hk : IsKn (Wb.of n c ts) k) (hb : bdV 998 k.2) (q : Q (.own (.lst (((Wb.of n c ts).nb k).map knD))) ρ) : xC F_law_neighbours [.dat (foD n c ts), .dat (knD k)] ρ Q := call_pure rfl ⟨n, c, B, ts, k, rfl, h, hk, hb, q⟩
/-- the same all cells on -/
theorem addV_comm3 : ∀ {a b c : List Int}, addV (addV a b) c = addV (addV a c) b
  | [], b, c => by simp [addV]
  | a :: as, [], c => by cases c <;> simp [addV]
  | a :: as, b :: bs, [] => by simp [addV]
  | a :: as, b :: bs, c :: cs => by
    have := addV_comm3 (a := as) (b := bs) (c := cs)
    unfold addV at this ⊢
    simp only [List.zipWith_cons_cons, this]
    congr 1
    omega
def shK (by_ : List Int) (k : Kn) : Kn := (k.1, addV k.2 by_)
theorem lex_add {n : Nat} {xs ys bs : List Int} (h : LexLt xs ys) : xs.length = bs.length → LexLt (addV xs bs) (addV ys bs) := by
  induction h generalizing bs with
  | @here a b xs ys h l =>
    intro e
    cases bs with
    | nil => simp at e
    | cons c bs =>
      have e : xs.length = bs.length := by simpa using e
      exact .here (show a + c < b + c by omega) (by rw [List.length_zipWith, List.length_zipWith, l])
  | @there a xs ys h ih =>
    intro e
    cases bs with
    | nil => simp at e
    | cons c bs =>
      have e : xs.length = bs.length := by simpa using e
      exact .there (ih e)
theorem knSort_shift {n B : Nat} {ks : List Kn} (h : Kns n B ks) {bs : List Int} (hb : bs.length = n) : knSort (ks.map (shK bs)) = (knSort ks).map (shK bs) := by
  have rl : ∀ r ∈ ks.map Kn.row, r.length = n + 1 := h.rows.len
  have hin : (inOrd (ks.map Kn.row)).Pairwise LexLt := inOrd_pw rl
  -- rows shifted
  let sh : List Int → List Int := fun r => addV r (0 :: bs)
  have e1 : ∀ k : Kn, Kn.row (shK bs k) = sh (Kn.row k) := fun k => by
    show k.1 :: addV k.2 bs = List.zipWith (· + ·) (k.1 :: k.2) (0 :: bs)
    rw [List.zipWith_cons_cons, Int.add_zero]; rfl
  have e2 : inOrd ((ks.map (shK bs)).map Kn.row) = (inOrd (ks.map Kn.row)).map sh := by
    symm
    refine inOrd_uniq (n := n + 1) (fun r m => ?_) (List.pairwise_map.mpr (hin.imp_of_mem fun {x y} hx hy q => lex_add (n := n) q ?_)) fun r => ?_
    · obtain ⟨k, hk, rfl⟩ := List.mem_map.mp m
      obtain ⟨k', hk', rfl⟩ := List.mem_map.mp hk
      rw [e1]
      exact addV_len (rl _ (List.mem_map.mpr ⟨k', hk', rfl⟩)) (by simp [hb])
    · rw [rl x (mem_inOrd.mp hx)]; simp [hb]
    · rw [List.mem_map, List.mem_map]
      constructor
      · rintro ⟨x, hx, rfl⟩
        obtain ⟨k, hk, rfl⟩ := List.mem_map.mp (mem_inOrd.mp hx)
        exact ⟨shK bs k, List.mem_map.mpr ⟨k, hk, rfl⟩, e1 k⟩
      · rintro ⟨x, hx, rfl⟩
        obtain ⟨k, hk, rfl⟩ := List.mem_map.mp hx
        exact ⟨Kn.row k, mem_inOrd.mpr (List.mem_map.mpr ⟨k, hk, rfl⟩), (e1 k).symm⟩
  unfold knSort
  rw [e2, List.map_map, List.map_map]
  refine List.map_congr_left fun r hr => ?_
  obtain ⟨k, hk, rfl⟩ := List.mem_map.mp (mem_inOrd.mp hr)
  show Kn.of (sh (Kn.row k)) = shK bs (Kn.of (Kn.row k))
  rw [← e1]; rfl
theorem nb_shift {n c B : Nat} {ts : List Tie} (h : WebIn n c B ts) {k : Kn} (hk : IsKn (Wb.of n c ts) k) (hb : bdV 998 k.2) {bs : List Int} (hl : bs.length = n) : (Wb.of n c ts).nb (shK bs k) = ((Wb.of n c ts).nb k).map (shK bs) := by
  unfold Wb.nb
  rw [← knSort_shift (h.ok.atOk hk hb) hl]
  congr 1
  unfold Wb.at
  rw [List.map_map]
  refine List.map_congr_left fun x hx => ?_
  show (x.1, addV (addV k.2 bs) x.2) = (x.1, addV (addV k.2 x.2) bs)
  rw [addV_comm3]
end Cw
/-! Cw: the law of neighbours. -/
namespace Cw
open PySem PySem.Spec PyProof.Rows L2

theorem law_body {nm : Str} {b : Sm} {m : Nat} (h : ∀ ns : List Int, ns.length ≤ 63 → wS b { nx := fun _ => False, rt := fun w _ => w = .dat (.bl true) } (startR m [.dat (.scr ns)])) : ∀ (as : List Sl) (Q : Sl → List Sl → Prop), (lawF nm).sp as Q → Md (lawF nm).modes as → wS b (finD (lawF nm).modes as Q) (startR m as) := by
  rintro as Q ⟨ns, rfl, hl, hq⟩ _
  refine wS_mono b ⟨fun ρ q => False.elim q, fun w ρ q => ?_, fun _ q => False.elim q, fun _ q => False.elim q⟩ (h ns hl)
  subst q
  exact ⟨fun i hi => (by match i, hi with | 0, hi => cases hi | i + 1, hi => cases hi), hq _⟩
/-! repr of knots -/
theorem shB_ints {B : Nat} : ∀ {xs : List Int}, (∀ x ∈ xs, x.natAbs.log2 < B) → shB.shBA B (xs.map .int)
  | [], _ => trivial
  | x :: xs, h => ⟨h x List.mem_cons_self, shB_ints fun y m => h y (List.mem_cons_of_mem _ m)⟩
theorem shA_ints : ∀ {xs : List Int}, shS.shA (xs.map .int) = 2 * xs.length
  | [] => rfl
  | x :: xs => by
    rw [List.map_cons, shS.shA, shA_ints, List.length_cons]
    show 1 + 1 + 2 * xs.length = _
    omega
theorem log_bd {x : Int} {B : Nat} (h : -(2 ^ B : Int) ≤ x ∧ x ≤ 2 ^ B) : x.natAbs.log2 < B + 1 := by
  refine log_lt ?_ (by omega)
  have e : ((2 ^ B : Nat) : Int) = 2 ^ B := by simp
  have : 2 ^ B < 2 ^ (B + 1) := Nat.pow_lt_pow_right (by decide) (by omega)
  omega
theorem shB_kn {B : Nat} {k : Kn} (h : bdV B (Kn.row k)) : shB (B + 1) (knD k) :=
  ⟨log_bd (h k.1 List.mem_cons_self), shB_ints fun x m => log_bd (h x (List.mem_cons_of_mem _ m)), trivial⟩
theorem shS_kn {k : Kn} : shS (knD k) = 5 + 2 * k.2.length := by
  show 1 + (1 + 1 + ((1 + shS.shA (k.2.map .int)) + 1 + 0)) = _
  rw [shA_ints]; omega
theorem shB_kns {B : Nat} : ∀ {ks : List Kn}, (∀ k ∈ ks, bdV B (Kn.row k)) → shB.shBA (B + 1) (ks.map knD)
  | [], _ => trivial
  | k :: ks, h => ⟨shB_kn (h k List.mem_cons_self), shB_kns fun y m => h y (List.mem_cons_of_mem _ m)⟩
theorem shA_kns {n : Nat} : ∀ {ks : List Kn}, (∀ k ∈ ks, k.2.length ≤ n) → shS.shA (ks.map knD) ≤ (6 + 2 * n) * ks.length
  | [], _ => by simp [shS.shA]
  | k :: ks, h => by
    have h1 := h k List.mem_cons_self
    have h2 := shA_kns fun y m => h y (List.mem_cons_of_mem _ m)
    rw [List.map_cons, shS.shA, shS_kn, List.length_cons, Nat.mul_add]
    omega
theorem x_repr_kns {x : Sl} {ks : List Kn} {B n : Nat} {Q : W → Prop} (hx : x.toD = .lst (ks.map knD)) (hb : ∀ k ∈ ks, bdV B (Kn.row k)) (hn : ∀ k ∈ ks, k.2.length ≤ n) (h1 : n ≤ 20) (h2 : ks.length ≤ 300) (h3 : B ≤ 1000) (q : Q (.dat (.str (PyData.shown (pyOf (.lst (ks.map knD))))))) : xl .repr [x] Q := by
  refine x_repr (B := B + 1) (by omega) (by omega) hx (shB_kns hb) ((tyLst tyKn).shp (by decide) ks) ?_ q
  show (1 + shS.shA (ks.map knD)) * (B + 1 + 5) ≤ sizeLine
  have h4 := shA_kns hn
  have h5 : (6 + 2 * n) * ks.length ≤ 46 * 300 := Nat.mul_le_mul (by omega) h2
  have h6 : (1 + shS.shA (ks.map knD)) * (B + 1 + 5) ≤ 13801 * 1006 := Nat.mul_le_mul (by omega) (by omega)
  rw [sizeL]; omega
theorem okS_kns {ks : List Kn} {B : Nat} (hb : ∀ k ∈ ks, bdV B (Kn.row k)) (h3 : B ≤ 1000) : okS (PyData.shown (pyOf (.lst (ks.map knD)))) :=
  (show_main (B := B + 1) (by omega) (by omega) _ (show shB (B + 1) (.lst (ks.map knD)) from shB_kns hb)).2.2
theorem x_repr_bl {x : Sl} {k : Bool} {Q : W → Prop} (hx : x.toD = .bl k) (q : Q (.dat (.str (PyData.shown (pyOf (.bl k)))))) : xl .repr [x] Q :=
  x_repr (B := 1) (by decide) (by decide) hx trivial rfl (by show 1 * (1 + 5) ≤ sizeLine; decide) q
theorem okS_bl {k : Bool} : okS (PyData.shown (pyOf (.bl k))) := (show_main (B := 1) (by decide) (by decide) (.bl k) trivial).2.2
theorem x_ne_bl {a b : Bool} {K : Bool → Prop} : xc .ne (.dat (.bl a)) (.dat (.bl b)) K = K (!decide (a = b)) := by
  unfold xc cmp
  cases a <;> cases b <;> exact propext ⟨fun h => h.2.2, fun h => ⟨rfl, rfl, h⟩⟩
/-! the law -/
def b_law04_turn : Sm := (.cons (.pars [11, 12] (.cons (.call F_law_knot (.cons (.var 2) (.cons (.var 3) .nil))) (.cons (.call F_law_knot (.cons (.var 2) (.cons (.var 3) .nil))) .nil))) (.cons (.asg (.nm 6) (.call F_law_neighbours (.cons (.var 3) (.cons (.var 11) .nil)))) (.cons (.asg (.nm 7) (.meth F_neighbours 0 (.var 4) (.cons (.var 11) .nil))) (.cons (.ite (.cmp .ne (.blt .repr (.cons (.var 7) .nil)) (.blt .repr (.cons (.var 6) .nil))) (.cons (.ret (.bl false)) .nil) .nil) (.cons (.app 7 (.str "more")) (.cons (.asg (.nm 8) (.call F_law_pick (.cons (.var 2) (.cons (.bin .add (.var 6) (.lst (.cons (.var 12) (.cons (.var 11) (.cons (.tup (.cons (.idx (.var 11) (.int 0)) (.cons (.call F_law_plus (.cons (.idx (.var 11) (.int 1)) (.cons (.call F_law_move (.cons (.var 2) (.cons (.idx (.var 3) (.int 0)) (.cons (.int 1) .nil)))) .nil))) .nil))) .nil))))) .nil)))) (.cons (.ite (.cmp .ne (.blt .repr (.cons (.meth F_tied 0 (.var 4) (.cons (.var 11) (.cons (.var 8) .nil))) .nil)) (.blt .repr (.cons (.cmp .isin (.var 8) (.var 6)) .nil))) (.cons (.ret (.bl false)) .nil) .nil) (.cons (.ite (.cmp .ne (.meth F_tied 0 (.var 4) (.cons (.var 8) (.cons (.var 11) .nil))) (.cmp .isin (.var 8) (.var 6))) (.cons (.ret (.bl false)) .nil) .nil) (.cons (.asg (.nm 9) (.call F_law_move (.cons (.var 2) (.cons (.idx (.var 3) (.int 0)) (.cons (.int 9) .nil))))) (.cons (.asg (.nm 10) (.tup (.cons (.idx (.var 11) (.int 0)) (.cons (.call F_law_plus (.cons (.idx (.var 11) (.int 1)) (.cons (.var 9) .nil))) .nil)))) (.cons (.ite (.cmp .ne (.meth F_neighbours 0 (.var 4) (.cons (.var 10) .nil)) (.lc [13, 14] (.tp (.cons (.nm 13) (.cons (.nm 14) .nil))) .seq (.cons (.var 6) .nil) (.bl true) (.tup (.cons (.var 13) (.cons (.call F_law_plus (.cons (.var 14) (.cons (.var 9) .nil))) .nil))))) (.cons (.ret (.bl false)) .nil) .nil) .nil)))))))))))
def b_law04 : Sm := (.cons (.for (.nm 1) .rng1 (.cons (.int 5) .nil) (.cons (.asg (.nm 2) (.call F_law_purse (.cons (.var 0) (.cons (.var 1) .nil)))) (.cons (.asg (.nm 3) (.call F_law_fields (.cons (.var 2) .nil))) (.cons (.asg (.nm 4) (.call F_law_made (.cons (.var 3) .nil))) (.cons (.for (.nm 5) .rng1 (.cons (.int 4) .nil) b_law04_turn) (.cons (.ite (.or (.cmp .ne (.meth F_neighbours 0 (.var 4) (.cons (.var 11) .nil)) (.var 6)) (.eqw true F_eq 0 (.var 4) (.call F_law_made (.cons (.var 3) .nil)))) (.cons (.ret (.bl false)) .nil) .nil) .nil)))))) (.cons (.ret (.bl true)) .nil))
theorem bd_kn {k : Kn} {B : Nat} {c : Nat} (hc : c ≤ 10000) (h14 : 14 ≤ B) (h0 : 0 ≤ k.1) (h1 : k.1 < c) (hb : bdV B k.2) : bdV B (Kn.row k) := fun x m => by
  rcases List.mem_cons.mp m with rfl | m
  · have := pow_mono h14
    have e : (2 ^ 14 : Int) = 16384 := by decide
    omega
  · exact hb x m
theorem bdV_addM {B : Nat} {m : Int} {xs ys : List Int} (h : bdV B xs) (hm : m ≤ 2 ^ B) (h2 : bdM m ys) : bdV (B + 1) (addV xs ys) := bdV_add h (h2.v hm)
/-- one asking -/
theorem w_law04_turn {Z : En} {n c t : Nat} {ts : List Tie} {l : List D} {s0 s1 s5 s6 s7 s8 s9 s10 s11 s12 : Option Sl} (fo : Fo n c ts) (c4 : c ≤ 4) (hp : Pu t l) (ht : t ≤ 9000)
    (q : ∀ (l' : List D) (s6' s7 s8 s9 s10 s12 : Option Sl) (k : Kn), Pu (t + 1000) l' → IsKn (Wb.of n c ts) k → bdV 998 k.2 → Z.nx [s0, s1, some (.own (.lst l')), some (.dat (foD n c ts)), some (.dat (Wb.of n c ts).d), s5, some (.own (.lst (((Wb.of n c ts).nb k).map knD))), s7, s8, s9, s10, some (.dat (knD k)), s12, none, none]) :
    xS b_law04_turn Z [s0, s1, some (.own (.lst l)), some (.dat (foD n c ts)), some (.dat (Wb.of n c ts).d), s5, s6, s7, s8, s9, s10, s11, s12, none, none] := by
  have hn := fo.n3
  have hc := fo.c1
  have web := fo.web
  have hok := web.ok
  unfold b_law04_turn
  simp only [wq]
  refine c_law_knot rfl hp (by omega) hc (by omega) (by omega) fun k l1 kk hp1 => ?_
  simp only [wq]
  refine c_law_knot rfl hp1 (by omega) hc (by omega) (by omega) fun o l2 ko hp2 => ?_
  have hk : IsKn (Wb.of n c ts) k := ⟨kk.1, kk.2.1, kk.2.2.1⟩
  have ho : IsKn (Wb.of n c ts) o := ⟨ko.1, ko.2.1, ko.2.2.1⟩
  have kb : bdV 998 k.2 := kk.2.2.2.mono (by decide)
  simp only [wq]
  refine c_law_neighbours web hk kb ?_
  simp only [wq]
  refine c_neighbours hok hk kb ?_
  simp only [wq]
  -- the knots are not many and not great
  have aok := hok.atOk hk kb
  have nbm : ∀ x ∈ (Wb.of n c ts).nb k, x ∈ (Wb.of n c ts).at k := fun x m => mem_knSort.mp m
  have nbl : ((Wb.of n c ts).nb k).length ≤ 300 := by
    have h1 : ((Wb.of n c ts).nb k).length ≤ ((Wb.of n c ts).at k).length := knSort_len
    have h2 : ((Wb.of n c ts).at k).length ≤ 2 * ts.length := by unfold Wb.at; rw [List.length_map]; exact ways_len
    have := fo.len
    omega
  have nbb : ∀ x ∈ (Wb.of n c ts).nb k, bdV 999 (Kn.row x) := fun x m => (aok.sm x (nbm x m)).2
  have nbn : ∀ x ∈ (Wb.of n c ts).nb k, x.2.length ≤ 20 := fun x m => by
    have := (aok.sm x (nbm x m)).1
    show x.2.length ≤ 20
    rw [this]
    show n ≤ 20
    omega
  refine x_repr_kns rfl nbb nbn (by decide) nbl (by decide) ?_
  simp only [wq]
  refine x_repr_kns rfl nbb nbn (by decide) nbl (by decide) ?_
  simp only [wq]
  refine x_neS (okS_kns nbb (by decide)) ?_
  simp only [wq]
  refine ⟨by rw [List.length_map, sizeL]; omega, ?_⟩
  try simp only [wq]
  refine c_law_move rfl hp2 (by omega) (by decide) (by decide) (by omega) fun xs l3 h3 hb3 hp3 => ?_
  simp only [wq]
  have kl : k.2.length = n := kk.2.2.1
  refine c_law_plus (by rw [sizeL, kl]; omega) ?_
  have hk3 : IsKn (Wb.of n c ts) (k.1, addV k.2 xs) := ⟨kk.1, kk.2.1, addV_len kl h3⟩
  have kd : D.tup [.int k.1, mv (addV k.2 xs)] = knD (k.1, addV k.2 xs) := rfl
  simp only [wq, kd]
  refine ⟨by rw [List.length_map, sizeL]; simp only [List.length_cons, List.length_nil]; omega, ?_⟩
  have items : ((Wb.of n c ts).nb k).map knD ++ [knD o, knD k, knD (k.1, addV k.2 xs)] = ((Wb.of n c ts).nb k ++ [o, k, (k.1, addV k.2 xs)]).map knD := by rw [List.map_append]; rfl
  rw [items]
  refine c_law_pick rfl hp3 (by simp) (by rw [List.length_map, List.length_append]; simp only [List.length_cons, List.length_nil]; omega) (by omega) fun d l4 hd hp4 => ?_
  obtain ⟨z, hz, rfl⟩ := List.mem_map.mp hd
  have hzk : IsKn (Wb.of n c ts) z := by
    rcases List.mem_append.mp hz with hz | hz
    · exact at_kn web hk (nbm z hz)
    · simp only [List.mem_cons, List.not_mem_nil, or_false] at hz
      rcases hz with rfl | rfl | rfl
      · exact ho
      · exact hk
      · exact hk3
  have iff1 : z ∈ (Wb.of n c ts).nb k ↔ z ∈ (Wb.of n c ts).at k := mem_knSort
  simp only [wq]
  refine c_tied hok hk hzk ?_
  simp only [wq]
  refine x_repr_bl rfl ?_
  simp only [wq]
  rw [x_in (a := z) (xs := (Wb.of n c ts).nb k) tyKn (by decide) rfl rfl]
  simp only [wq]
  refine x_repr_bl rfl ?_
  have e1 : decide (z ∈ (Wb.of n c ts).at k) = decide (z ∈ (Wb.of n c ts).nb k) := decide_eq_decide.mpr iff1.symm
  simp only [wq]
  rw [e1]
  refine x_neS okS_bl ?_
  simp only [wq]
  refine c_tied hok hzk hk ?_
  simp only [wq]
  rw [x_in (a := z) (xs := (Wb.of n c ts).nb k) tyKn (by decide) rfl rfl]
  have e2 : decide (k ∈ (Wb.of n c ts).at z) = decide (z ∈ (Wb.of n c ts).nb k) := decide_eq_decide.mpr ((at_symm web hzk hk).trans iff1.symm)
  simp only [wq]
  rw [e2, x_ne_bl]
  simp only [wq, decide_true, Bool.not_true]
  refine c_law_move rfl hp4 (by omega) (by decide) (by decide) (by omega) fun bs l5 h5 hb5 hp5 => ?_
  simp only [wq]
  refine c_law_plus (by rw [sizeL, kl]; omega) ?_
  have ks : D.tup [.int k.1, mv (addV k.2 bs)] = knD (shK bs k) := rfl
  simp only [wq, ks]
  have hks : IsKn (Wb.of n c ts) (shK bs k) := ⟨kk.1, kk.2.1, addV_len kl h5⟩
  have ksb : bdV 998 (shK bs k).2 := (bdV_addM (B := 100) kk.2.2.2 (by decide) hb5).mono (by decide)
  refine c_neighbours hok hks ksb ?_
  rw [nb_shift web hk kb h5]
  try simp only [wq]
  refine x_lc (fun x : Kn => knD (shK bs x)) ?_
  simp only [wq]
  refine its knD ((Wb.of n c ts).nb k) rfl rfl (by rw [sizeL]; omega) (fun x hx => ?_) ?_
  · unfold xStep
    simp only [wq]
    refine c_law_plus (by rw [sizeL]; have := nbn x hx; omega) ?_
    simp only [wq]
    rfl
  simp only [wq]
  have e3 : ((Wb.of n c ts).nb k).map (fun x => knD (shK bs x)) = (((Wb.of n c ts).nb k).map (shK bs)).map knD := by rw [List.map_map]; rfl
  rw [e3, x_neL (xs := ((Wb.of n c ts).nb k).map (shK bs)) (ys := ((Wb.of n c ts).nb k).map (shK bs)) tyKn (by decide) rfl rfl]
  simp only [wq, decide_true, Bool.not_true]
  exact q l5 none _ _ _ _ _ k (hp5.mono (by omega)) hk kb
theorem w_law04 (ns : List Int) (hns : ns.length ≤ 63) : wS b_law04 { nx := fun _ => False, rt := fun w _ => w = .dat (.bl true) } (startR 15 [.dat (.scr ns)]) := by
  show xS b_law04 _ [some (.dat (.scr ns)), none, none, none, none, none, none, none, none, none, none, none, none, none, none]
  unfold b_law04
  simp only [wq]
  refine ⟨⟨by decide, by decide⟩, ?_⟩
  refine x_fors (fun k : Nat => D.int (0 + (k : Nat))) (List.range 5) (fun pre ρ => ∃ s1 s2 s3 s4 s5 s6 s7 s8 s9 s10 s11 s12, ρ = [some (.dat (.scr ns)), s1, s2, s3, s4, s5, s6, s7, s8, s9, s10, s11, s12, none, none]) rfl ⟨_, _, _, _, _, _, _, _, _, _, _, _, rfl⟩ ?_ ?_
  · rintro pre x post e ρ ⟨s1, s2, s3, s4, s5, s6, s7, s8, s9, s10, s11, s12, rfl⟩
    obtain ⟨hx, hx5⟩ := rng2_at e
    have ex : D.int (0 + (x : Nat)) = .int (x : Nat) := by rw [Int.zero_add]
    rw [ex]
    simp only [wq]
    refine c_law_purse (by omega) fun l hp => ?_
    simp only [wq]
    refine c_law_fields rfl hp (by decide) fun n c ts l1 fo c4 hp1 => ?_
    simp only [wq]
    have web := fo.web
    refine c_law_made web ?_
    simp only [wq]
    refine ⟨⟨by decide, by decide⟩, ?_⟩
    refine x_fors (fun k : Nat => D.int (0 + (k : Nat))) (List.range 4) (fun pre ρ => ∃ l' s5 s6 s7 s8 s9 s10 s11 s12, Pu (0 + 2000 + 1000 * pre.length) l' ∧ (pre = [] ∨ ∃ k, IsKn (Wb.of n c ts) k ∧ bdV 998 k.2 ∧ s6 = some (.own (.lst (((Wb.of n c ts).nb k).map knD))) ∧ s11 = some (.dat (knD k))) ∧ ρ = [some (.dat (.scr ns)), some (.dat (.int (x : Nat))), some (.own (.lst l')), some (.dat (foD n c ts)), some (.dat (Wb.of n c ts).d), s5, s6, s7, s8, s9, s10, s11, s12, none, none]) rfl ⟨l1, _, _, _, _, _, _, _, _, hp1, .inl rfl, rfl⟩ ?_ ?_
    · rintro pre' y post' e' ρ ⟨l', s5, s6, s7, s8, s9, s10, s11, s12, hp', _, rfl⟩
      obtain ⟨hy, hy4⟩ := rng2_at e'
      have pl : pre'.length < 4 := by omega
      rw [tn_eq]
      show xS b_law04_turn _ [_, _, _, _, _, _, _, _, _, _, _, _, _, _, _]
      refine w_law04_turn fo c4 hp' (by omega) fun l'' _ s7 s8 s9 s10 s12 k hp'' hk kb => ?_
      refine ⟨l'', _, _, _, _, _, _, _, _, ?_, .inr ⟨k, hk, kb, rfl, rfl⟩, rfl⟩
      rw [List.length_append, List.length_singleton]
      exact hp''.mono (by omega)
    · rintro ρ ⟨l', s5, s6, s7, s8, s9, s10, s11, s12, hp', hk, rfl⟩
      rcases hk with hk | ⟨k, hk, kb, rfl, rfl⟩
      · cases hk
      simp only [wq]
      refine c_neighbours web.ok hk kb ?_
      simp only [wq]
      rw [x_neL (xs := (Wb.of n c ts).nb k) (ys := (Wb.of n c ts).nb k) tyKn (by decide) rfl rfl]
      simp only [wq, decide_true, Bool.not_true]
      refine c_law_made web ?_
      simp only [wq]
      refine ⟨rfl, ?_⟩
      refine c_eq ?_
      simp only [wq, and_self, decide_true]
      exact ⟨_, _, _, _, _, _, _, _, _, _, _, _, rfl⟩
  · rintro ρ ⟨s1, s2, s3, s4, s5, s6, s7, s8, s9, s10, s11, s12, rfl⟩
    simp only [wq]
end Cw
/-! Cw: what the head of a law's text tells, by names. -/
namespace Cw
open PySem PySem.Spec PyProof.Rows L2

abbrev Fg := PySem.W.Frag
/-- one def of the text -/
structure DX where
  adr : Fg → Addr
  nm : Str
  qual : Str
  st : Stmt
abbrev FX : Type := Option (Str × Str × Arguments × FuncBody × Scope × Addr × List (Str × Addr) × Value × Addr)
def fxOf (fd : FuncData) : FX := some (fd.name, fd.qualname, fd.params, fd.body, fd.scope, fd.globals, fd.closure, fd.defaults, fd.builtins)
def fxAt (K : Fg) (a : Addr) : FX := match K.lookup a with
  | some o => (match o.data with
    | .func fd => fxOf fd
    | _ => none)
  | none => none
def DX.val (d : DX) : FX := some (d.nm, d.qual, defArgs d.st, .stmts (defBody d.st), defScope d.st, mainGlobals, [], .none, builtinsNs)
def DX.ok (K : Fg) (d : DX) : Bool := PySem.W.keepIn K (.ref (d.adr K)) && (match K.lookup (d.adr K) with
  | some o => (match o.data with
    | .func fd => PySem.W.codeIn K fd.code d.qual
    | _ => false)
  | none => false)
theorem DX.fun {K : Fg} {d : DX} (e : fxAt K (d.adr K) = d.val) (c : d.ok K = true) : ∃ fd, L2.Fun K d.nm d.qual d.st (d.adr K) fd := by
  unfold DX.ok at c
  obtain ⟨kp, c2⟩ := Bool.and_eq_true_iff.mp c
  unfold fxAt at e
  cases q : K.lookup (d.adr K) with
  | none => rw [q] at c2; cases c2
  | some o =>
    rw [q] at c2 e
    obtain ⟨oc, od, dt, osl⟩ := o
    cases dt with
    | func fd =>
      dsimp only at c2 e
      obtain ⟨m1, m2, m3, m4, m5, m6, m7, m8, m9, m10, m11, m12, m13, m14, m15⟩ := fd
      unfold fxOf DX.val at e
      simp only [Option.some.injEq, Prod.mk.injEq] at e
      obtain ⟨h1, h2, h3, h4, h5, h6, h7, h8, h9⟩ := e
      subst h1 h2 h3 h4 h5 h6 h7 h8 h9
      exact ⟨_, ⟨oc, od, _, _, _, _, _, _, osl, rfl, q, c2⟩, kp⟩
    | _ => cases c2
/-- what is looked at: a row of tests, the defs -/
abbrev ObX : Type := Bool × List FX
def obX (fs : List (Fg → Bool)) (ds : List DX) (K : Fg) : ObX := ((fs.all fun f => f K) && ds.all fun d => d.ok K, ds.map fun d => fxAt K (d.adr K))
def vlX (ds : List DX) : ObX := (true, ds.map DX.val)
/-- the part of the heap that the module's names reach, step by step -/
def refsX (g : Addr → Option Obj) (a : Addr) : List Addr := match g a with
  | some o => He.refsO o
  | none => []
def asX (g : Addr → Option Obj) : List Addr :=
  let l0 := [mainGlobals]
  let l1 := l0.flatMap (refsX g)
  let l2 := l1.flatMap (refsX g)
  let l3 := l2.flatMap (refsX g)
  let l4 := l3.flatMap (refsX g)
  let l5 := l4.flatMap (refsX g)
  l0 ++ (l1 ++ (l2 ++ (l3 ++ (l4 ++ l5))))
def obG (fs : List (Fg → Bool)) (ds : List DX) (g : Addr → Option Obj) : ObX := obX fs ds (He.frG g (asX g))
def hookX (fs : List (Fg → Bool)) (ds : List DX) : PySem.W.Hook where
  α := ObX
  obs := fun s => obG fs ds s.heap.get?
  val := fun _ => vlX ds
  says := fun _ h => ∃ K : Fg, K.In h ∧ obX fs ds K = vlX ds
  of := fun _ _ e => ⟨_, He.frG_in, e⟩
  keeps := fun _ _ _ ⟨K, hK, c⟩ k => ⟨K, PySem.W.Frag.In.keeps hK k, c⟩
theorem obG_eq {fs : List (Fg → Bool)} {ds : List DX} {g : Addr → Option Obj} {s : Shared} (h : ∀ a, g a = s.heap.get? a) : obG fs ds g = (hookX fs ds).obs s := by
  have e : g = s.heap.get? := funext h
  rw [e]; rfl
section
variable {fs : List (Fg → Bool)} {ds : List DX} {K : Fg}
theorem sx_fact (c : obX fs ds K = vlX ds) (i : Nat) {f : Fg → Bool} (h : fs[i]? = some f) : f K = true := by
  have c1 := (Bool.and_eq_true_iff.mp (show ((fs.all fun f => f K) && ds.all fun d => d.ok K) = true from congrArg (fun z : ObX => z.1) c)).1
  exact List.all_eq_true.mp c1 f (List.mem_of_getElem? h)
theorem sx_def (c : obX fs ds K = vlX ds) (i : Nat) {d : DX} (h : ds[i]? = some d) : ∃ fd, L2.Fun K d.nm d.qual d.st (d.adr K) fd := by
  have c2 := (Bool.and_eq_true_iff.mp (show ((fs.all fun f => f K) && ds.all fun d => d.ok K) = true from congrArg (fun z : ObX => z.1) c)).2
  have e : ds.map (fun d => fxAt K (d.adr K)) = ds.map DX.val := congrArg (fun z : ObX => z.2) c
  have e2 : (ds.map fun d => fxAt K (d.adr K))[i]? = (ds.map DX.val)[i]? := by rw [e]
  rw [List.getElem?_map, List.getElem?_map, h] at e2
  exact DX.fun (Option.some.inj e2) (List.all_eq_true.mp c2 d (List.mem_of_getElem? h))
end
/-! ### tests -/
def tGlo (x : Str) : Fg → Bool := fun K => He.Fa.ok K (.glo x)
def tFree (x : Str) : Fg → Bool := fun K => He.Fa.ok K (.free x)
def tCls (x : Str) : Fg → Bool := fun K => He.Fa.ok K (.cls x)
def tNoat (x f : Str) : Fg → Bool := fun K => He.Fa.ok K (.noat x f)
def tMeth (x m : Str) : Fg → Bool := fun K => He.Fa.ok K (.meth x m)
def tMkr (x : Str) : Fg → Bool := fun K => He.Fa.ok K (.mkr x)
def gaX (x : Str) : Fg → Addr := fun K => He.ga K x
def maX (x m : Str) : Fg → Addr := fun K => He.ma K (He.ga K x) m
/-- a property's getter -/
def paX (x m : Str) : Fg → Addr := fun K => match PySem.W.recIn K (He.ma K (He.ga K x) m) "property" with
  | some (.ref g :: _) => g
  | _ => 0
def tProp (x m : Str) : Fg → Bool := fun K => He.eqO (PySem.W.findIn K (.ref (He.ga K x)) m) (some (some (.ref (He.ma K (He.ga K x) m)))) && (He.eqO (PySem.W.specialIn K (.ref (He.ma K (He.ga K x) m)) "__get__") (some (some (.builtin "property.__get__"))) &&
  (decide (PySem.W.takesIn K (.ref (He.ma K (He.ga K x) m)) = some true) && (match PySem.W.recIn K (He.ma K (He.ga K x) m) "property" with
    | some (.ref _ :: _) => true
    | _ => false)))
theorem prop_ok {K : Fg} {x m : Str} (c : tProp x m K = true) : PropOf K (He.ga K x) m (He.ma K (He.ga K x) m) (paX x m K) := by
  unfold tProp at c
  obtain ⟨c1, c⟩ := Bool.and_eq_true_iff.mp c
  obtain ⟨c2, c⟩ := Bool.and_eq_true_iff.mp c
  obtain ⟨c3, c4⟩ := Bool.and_eq_true_iff.mp c
  refine ⟨He.eqO_ok c1, He.eqO_ok c2, of_decide_eq_true c3, ?_⟩
  unfold paX
  split at c4
  · rename_i g r e
    rw [e]
    exact ⟨r, rfl⟩
  · cases c4
def tyNames : List String := ["NoneType", "bool", "int", "str", "tuple", "list", "dict"]
def tClsK (x : Str) : Fg → Bool := fun K => He.Fa.ok K (.cls x) && (He.eqO (PySem.W.findIn K (.ref (He.ga K x)) "__class__") (some (some (.builtin "object.__class__"))) && (He.eqO (PySem.W.specialIn K (.builtin "object.__class__") "__get__") (some (some (.builtin "getset_descriptor.__get__"))) &&
  (decide (PySem.W.takesIn K (.builtin "object.__class__") = some true) && (decide (PySem.W.mroIn K (He.ga K x) (.type "object") = some true) && ((tyNames.all fun t => decide (PySem.W.kitOne K (.type t) (.ref (He.ga K x)) = some false)) &&
  ((["int", "bool", "tuple", "list"].all fun t => decide (PySem.W.kitOne K (.ref (He.ga K x)) (.type t) = some false)) && decide (PySem.W.kitOne K (.ref (He.ga K x)) (.ref (He.ga K x)) = some true)))))))
theorem clsK_ok {K : Fg} {x : Str} (c : tClsK x K = true) : ClsK K (He.ga K x) := by
  unfold tClsK at c
  obtain ⟨c1, c⟩ := Bool.and_eq_true_iff.mp c
  obtain ⟨c2, c⟩ := Bool.and_eq_true_iff.mp c
  obtain ⟨c3, c⟩ := Bool.and_eq_true_iff.mp c
  obtain ⟨c4, c⟩ := Bool.and_eq_true_iff.mp c
  obtain ⟨c5, c⟩ := Bool.and_eq_true_iff.mp c
  obtain ⟨c6, c⟩ := Bool.and_eq_true_iff.mp c
  obtain ⟨c7, c8⟩ := Bool.and_eq_true_iff.mp c
  exact ⟨He.cls_ok c1, He.eqO_ok c2, He.eqO_ok c3, of_decide_eq_true c4, of_decide_eq_true c5, fun t m => of_decide_eq_true (List.all_eq_true.mp c6 t m), fun t m => of_decide_eq_true (List.all_eq_true.mp c7 t m), of_decide_eq_true c8⟩
/-- the own == of the class x -/
def tEqK (x : Str) : Fg → Bool := fun K => He.eqO (PySem.W.findIn K (.ref (He.ga K x)) "__eq__") (some (some (.ref (maX x "__eq__" K)))) && (PySem.W.isFn K (.ref (maX x "__eq__" K)) && (He.eqO (PySem.W.findIn K (.ref (He.ga K x)) "__ne__") (some (some (.builtin "object.__ne__"))) &&
  (PySem.W.plainOver K (He.ga K x) && ((tyNames.all fun t => PySem.W.notFirst K (He.ga K x) (.type t)) && PySem.W.notFirst K (He.ga K x) (.ref (He.ga K x))))))
theorem eqK_ok {T : Tbl} {x : Str} (hT : ∀ c, T.cls c = He.ga T.K x) (k : ClsK T.K (He.ga T.K x)) (c : tEqK x T.K = true) : EqK T (He.ga T.K x) (maX x "__eq__" T.K) := by
  unfold tEqK at c
  obtain ⟨c1, c⟩ := Bool.and_eq_true_iff.mp c
  obtain ⟨c2, c⟩ := Bool.and_eq_true_iff.mp c
  obtain ⟨c3, c⟩ := Bool.and_eq_true_iff.mp c
  obtain ⟨c4, c⟩ := Bool.and_eq_true_iff.mp c
  obtain ⟨c5, c6⟩ := Bool.and_eq_true_iff.mp c
  exact ⟨He.eqO_ok c1, c2, He.eqO_ok c3, c4, fun t m => List.all_eq_true.mp c5 t m, fun c' => by rw [hT]; exact c6, fun c' => by rw [hT]; exact k⟩
/-- the end, the law's promise being over data -/
theorem walkGE {l : PySem.W.OpenLaw} {k : Nat} {q : Program} {loose : List Str} {XP : (Str → Option Value) → Heap → Prop} {YP : World → Heap → Prop} {d : DefRec} {x nm : Str}
    (hn : l.most = some 63) (hdf : d.params.defaults = []) (room : Room k callerA)
    (F : ∀ (w : World) (mg : Str → Option Value) (fa : Addr) (h : Heap), YP w h → h.Ns mainGlobals mg → mg d.name = some (.ref fa) →
      ∃ (T : Tbl) (fd : FuncData), T.K.In h ∧ (∀ (s : Shared) (u : Value), BindsTo s fd ⟨[u], []⟩ [(x, u)]) ∧ ∀ base : Heap, T.K.In base → base.Ns mainGlobals mg → FnG l.prog w T.K mg base CX0 k fa fd [x] (spF T (lawF nm))) :
    PySem.W.WalkO q loose XP YP l.row.toRowW d [] (fun f vs => PySem.call f vs) := by
  refine Att.attach_call hn hdf fun w s0 sA mg mb fa o pm cd doc a vs ns G Y ho hd hcd hmg hobj hints hlen hg => ?_
  obtain ⟨T, fd, kin, hb, hF⟩ := F w mg fa _ Y G.T.g hmg
  exact lawG_call (T := T) (nm := nm) kin G.T.g G.T.b G.T.builtins G.T.nolimit hg hobj hints hlen room hF hb
theorem mg_glo {K : Fg} {h : Heap} {mg : Str → Option Value} (X : K.In h) (G : h.Ns mainGlobals mg) {x : Str} (c : tGlo x K = true) : mg x = some (.ref (gaX x K)) := He.glo_ok X G c
theorem mg_free {K : Fg} {h : Heap} {mg : Str → Option Value} (X : K.In h) (G : h.Ns mainGlobals mg) {x : Str} (c : tFree x K = true) : mg x = none := He.free_ok X G c
end Cw
/-! Cw: ties as the law of webs made tells them. -/
namespace Cw
open PySem PySem.Spec PyProof.Rows L2

/-- the first number that is not nought, else nought -/
def fstN : List Int → Int
  | [] => 0
  | x :: xs => if x = 0 then fstN xs else x
theorem fstN_neg : ∀ {m : List Int}, fstN m < 0 ↔ LexLt m (turnV m)
  | [] => ⟨fun h => by exact absurd h (by decide), fun h => (by cases h)⟩
  | x :: m => by
    have ih := fstN_neg (m := m)
    have e : turnV (x :: m) = (0 - x) :: turnV m := rfl
    rw [e]
    unfold fstN
    by_cases h : x = 0
    · subst h
      rw [if_pos rfl, ih]
      constructor
      · intro q; exact .there q
      · intro q
        cases q with
        | here q _ => omega
        | there q => exact q
    · rw [if_neg h]
      constructor
      · intro q; exact .here (by omega) (turn_len m).symm
      · intro q
        generalize hy : (0 - x) = y at q
        cases q with
        | here q _ => omega
        | there q => omega
theorem told_first (t : Tie) : t.told = if t.a > t.b ∨ (t.a = t.b ∧ fstN t.m < 0) then t.turn else t := by
  unfold Tie.told
  by_cases h : t.a > t.b
  · rw [if_pos (.inl h), if_pos (.inl h)]
  · by_cases h2 : t.a = t.b
    · have e1 : (t.a > t.b ∨ (t.a = t.b ∧ lexB (turnV t.m) t.m = false)) ↔ lexB (turnV t.m) t.m = false := ⟨fun q => q.elim (fun z => absurd z h) fun z => z.2, fun q => .inr ⟨h2, q⟩⟩
      have e2 : (t.a > t.b ∨ (t.a = t.b ∧ fstN t.m < 0)) ↔ fstN t.m < 0 := ⟨fun q => q.elim (fun z => absurd z h) fun z => z.2, fun q => .inr ⟨h2, q⟩⟩
      have e3 : lexB (turnV t.m) t.m = false ↔ turnV t.m = t.m ∨ fstN t.m < 0 := by
        rw [lexB_flip (turn_len t.m), fstN_neg, lexB_iff (turn_len t.m).symm, eq_comm]
      by_cases h4 : turnV t.m = t.m
      · rw [if_pos (e1.mpr (e3.mpr (.inl h4)))]
        have e5 : t.turn = t := by
          obtain ⟨a, b, m⟩ := t
          dsimp only at h2 h4
          unfold Tie.turn
          dsimp only
          rw [h4, h2]
        rw [e5, ite_self]
      · by_cases h5 : fstN t.m < 0
        · rw [if_pos (e1.mpr (e3.mpr (.inr h5))), if_pos (e2.mpr h5)]
        · rw [if_neg (fun q => (e3.mp (e1.mp q)).elim h4 h5), if_neg (fun q => h5 (e2.mp q))]
    · have e1 : ¬ (t.a > t.b ∨ (t.a = t.b ∧ lexB (turnV t.m) t.m = false)) := fun q => q.elim h fun q => h2 q.1
      have e2 : ¬ (t.a > t.b ∨ (t.a = t.b ∧ fstN t.m < 0)) := fun q => q.elim h fun q => h2 q.1
      rw [if_neg e1, if_neg e2]
def F_law_told : Fn := pureF "_law_told" 1 (fun ds Q => ∃ (t : Tie), ds = [t.d] ∧ t.m.length ≤ 20 ∧ Q (.dat t.told.d)) fun ds Q Q' h ⟨t, a, b, c⟩ => ⟨t, a, b, h _ c⟩
def b_law_told : Sm := (.cons (.asg (.tp (.cons (.nm 3) (.cons (.nm 4) (.cons (.nm 5) .nil)))) (.var 0)) (.cons (.asg (.nm 1) (.call F_law_minus (.cons (.call F_law_noughts (.cons (.blt .len (.cons (.var 5) .nil)) .nil)) (.cons (.var 5) .nil)))) (.cons (.asg (.nm 2) (.idx (.bin .add (.lc [6] (.nm 6) .seq (.cons (.var 5) .nil) (.cmp .ne (.var 6) (.int 0)) (.var 6)) (.lst (.cons (.int 0) .nil))) (.int 0))) (.cons (.ite (.or (.cmp .gt (.var 3) (.var 4)) (.and (.cmp .eq (.var 3) (.var 4)) (.cmp .lt (.var 2) (.int 0)))) (.cons (.ret (.tup (.cons (.var 4) (.cons (.var 3) (.cons (.var 1) .nil))))) .nil) .nil) (.cons (.ret (.var 0)) .nil)))))
theorem fst_list : ∀ (m : List Int), ∃ l, (m.filterMap fun x => if x = 0 then none else some (D.int x)) ++ [D.int 0] = D.int (fstN m) :: l
  | [] => ⟨[], rfl⟩
  | x :: m => by
    rw [List.filterMap_cons]
    unfold fstN
    by_cases h : x = 0
    · subst h
      simpa using fst_list m
    · simp [h]
theorem w_law_told : ∀ (ds : List D) (Q : Sl → Prop), ds.length = 1 → (∃ (t : Tie), ds = [t.d] ∧ t.m.length ≤ 20 ∧ Q (.dat t.told.d)) → wS b_law_told { nx := fun ρ => Q (.dat .non), rt := fun w ρ => resOf 1 w ρ Q } (startR 7 (ds.map .dat)) := by
  rintro ds Q _ ⟨t, rfl, hl, hq⟩
  show xS b_law_told _ [some (.dat t.d), none, none, none, none, none, none]
  unfold b_law_told
  simp only [wq]
  refine c_law_noughts (by rw [sizeL]; omega) ?_
  simp only [wq]
  refine c_law_minus (by rw [List.length_replicate, sizeL]; omega) ?_
  rw [sub_noughts rfl]
  simp only [wq]
  refine x_lcf (fun x : Int => if x = 0 then none else some (D.int x)) ?_
  simp only [wq]
  refine its D.int t.m rfl trivial (by rw [sizeL]; omega) (fun y hy => ?_) ?_
  · unfold xfStep
    simp only [wq]
    refine cnd_split (fun h => ?_) fun h => ?_
    · have h : y ≠ 0 := by simpa using h
      simp only [wq, if_neg h]
    · have h : y = 0 := by simpa using h
      simp only [wq, if_pos h]
  · simp only [wq]
    obtain ⟨l, e⟩ := fst_list t.m
    have hle : (t.m.filterMap fun x => if x = 0 then none else some (D.int x)).length ≤ t.m.length := List.length_filterMap_le _ _
    refine ⟨by rw [sizeL, List.length_singleton]; omega, ?_⟩
    try simp only [wq]
    rw [e]
    simp only [wq]
    rw [told_first] at hq
    refine cnd_split (fun h => ?_) fun h => ?_
    · have h := of_decide_eq_true h
      simp only [wq]
      rw [if_pos (.inl h)] at hq
      exact hq
    · have h := of_decide_eq_false h
      simp only [wq]
      refine cnd_split (fun h2 => ?_) fun h2 => ?_
      · have h2 := of_decide_eq_true h2
        simp only [wq]
        refine cnd_split (fun h3 => ?_) fun h3 => ?_
        · have h3 := of_decide_eq_true h3
          simp only [wq]
          rw [if_pos (.inr ⟨h2, h3⟩)] at hq
          exact hq
        · have h3 := of_decide_eq_false h3
          simp only [wq]
          rw [if_neg (fun q => q.elim h fun q => h3 q.2)] at hq
          exact hq
      · have h2 := of_decide_eq_false h2
        simp only [wq]
        rw [if_neg (fun q => q.elim h fun q => h2 q.1)] at hq
        exact hq
theorem c_law_told {ρ : Ro} {t : Tie} {Q : W → Ro → Prop} (hl : t.m.length ≤ 20) (h : Q (.dat t.told.d) ρ) : xC F_law_told [.dat t.d] ρ Q := call_pure rfl ⟨t, rfl, hl, h⟩
/-! all of them in order -/
theorem knSort_rows {n : Nat} {rs : List (List Int)} (h : ∀ r ∈ rs, r.length = n) : knSort (rs.map fun r => ((0 : Int), r)) = (inOrd rs).map fun r => ((0 : Int), r) := by
  unfold knSort
  have e : (rs.map fun r => ((0 : Int), r)).map Kn.row = rs.map fun r => 0 :: r := by rw [List.map_map]; rfl
  have e2 : (inOrd rs).map (fun r => (0 : Int) :: r) = inOrd (rs.map fun r => 0 :: r) := by
    refine inOrd_uniq (n := n + 1) (fun r m => ?_) ?_ fun r => ?_
    · obtain ⟨s, hs, rfl⟩ := List.mem_map.mp m
      simp [h s hs]
    · exact List.pairwise_map.mpr ((inOrd_pw h).imp fun q => .there q)
    · rw [List.mem_map, List.mem_map]
      simp only [mem_inOrd]
  rw [e, ← e2, List.map_map]
  rfl
def F_law_due : Fn := pureF "_law_due" 1 (fun ds Q => ∃ (ts : List Tie) (n B : Nat), ds = [.lst (ts.map Tie.d)] ∧ n ≤ 16 ∧ Ties n B ts ∧ Q (.own (.lst ((toldTies ts).map Tie.d)))) fun ds Q Q' h ⟨t, n, B, a, b, c, d⟩ => ⟨t, n, B, a, b, c, h _ d⟩
def b_law_due : Sm := (.cons (.asg (.nm 1) (.lst .nil)) (.cons (.for (.tp (.cons (.nm 2) (.cons (.nm 3) (.cons (.nm 4) .nil)))) .seq (.cons (.var 0) .nil) (.cons (.asg (.tp (.cons (.nm 5) (.cons (.nm 6) (.cons (.nm 7) .nil)))) (.call F_law_told (.cons (.tup (.cons (.var 2) (.cons (.var 3) (.cons (.var 4) .nil)))) .nil))) (.cons (.app 1 (.tup (.cons (.int 0) (.cons (.bin .add (.tup (.cons (.var 5) (.cons (.var 6) .nil))) (.var 7)) .nil)))) .nil))) (.cons (.ret (.lc [8, 9] (.tp (.cons (.nm 8) (.cons (.nm 9) .nil))) .seq (.cons (.call F_law_sorted_knots (.cons (.var 1) .nil)) .nil) (.bl true) (.tup (.cons (.idx (.var 9) (.int 0)) (.cons (.idx (.var 9) (.int 1)) (.cons (.slc (.var 9) (.int 2) .nil) .nil)))))) .nil)))
theorem tie_d {a b : Int} {m : List Int} : D.tup [.int a, .int b, mv m] = Tie.d ⟨a, b, m⟩ := rfl
theorem mv_two {a b : Int} : D.tup [.int a, .int b] = mv [a, b] := rfl
theorem tie_eta (t : Tie) : (⟨t.a, t.b, t.m⟩ : Tie) = t := rfl
theorem w_law_due : ∀ (ds : List D) (Q : Sl → Prop), ds.length = 1 → (∃ (ts : List Tie) (n B : Nat), ds = [.lst (ts.map Tie.d)] ∧ n ≤ 16 ∧ Ties n B ts ∧ Q (.own (.lst ((toldTies ts).map Tie.d)))) → wS b_law_due { nx := fun ρ => Q (.dat .non), rt := fun w ρ => resOf 1 w ρ Q } (startR 10 (ds.map .dat)) := by
  rintro ds Q _ ⟨ts, n, B, rfl, hn, ok, hq⟩
  show xS b_law_due _ [some (.dat (.lst (ts.map Tie.d))), none, none, none, none, none, none, none, none, none]
  unfold b_law_due
  simp only [wq]
  have hl := ok.len
  refine x_fors Tie.d ts (fun pre ρ => ∃ s2 s3 s4 s5 s6 s7 : Option Sl, ρ = [some (.dat (.lst (ts.map Tie.d))), some (.own (.lst ((pre.map fun t => ((0 : Int), t.told.row)).map knD))), s2, s3, s4, s5, s6, s7, none, none]) rfl ⟨_, _, _, _, _, _, rfl⟩ ?_ ?_
  · rintro pre t post e ρ ⟨s2, s3, s4, s5, s6, s7, rfl⟩
    have mt : t ∈ ts := by rw [e]; simp
    have pl : pre.length < 100000 := by
      have := congrArg List.length e
      simp at this; omega
    have tl := (ok.sm t mt).1
    have tl2 := (ok.sm t mt).told.1
    simp only [wq, tie_d]
    refine c_law_told (by rw [tl]; omega) ?_
    simp only [wq, mv_two]
    refine mv_app (by rw [tl2, sizeL]; simp only [List.length_cons, List.length_nil]; omega) ?_
    simp only [wq]
    refine ⟨by rw [List.length_map, List.length_map, sizeL]; omega, ?_⟩
    have e9 : (pre.map fun t => ((0 : Int), t.told.row)).map knD ++ [D.tup [.int 0, mv ([t.told.a, t.told.b] ++ t.told.m)]] = ((pre ++ [t]).map fun t => ((0 : Int), t.told.row)).map knD := by simp [knD, Tie.row]
    exact ⟨_, _, _, _, _, _, by rw [← e9]⟩
  · rintro ρ ⟨s2, s3, s4, s5, s6, s7, rfl⟩
    simp only [wq]
    refine x_lc (fun k : Kn => (Tie.of k.2).d) ?_
    simp only [wq]
    have e0 : (ts.map fun t => ((0 : Int), t.told.row)) = (ts.map fun t => t.told.row).map fun r => ((0 : Int), r) := by rw [List.map_map]; rfl
    have kns : Kns (n + 2) B (ts.map fun t => ((0 : Int), t.told.row)) := by
      refine ⟨fun k m => ?_, by omega, ok.B, by rw [List.length_map]; exact ok.len⟩
      obtain ⟨t, ht, rfl⟩ := List.mem_map.mp m
      have h1 := (ok.sm t ht).told
      refine ⟨by show t.told.row.length = _; unfold Tie.row; simp [h1.1], fun x hx => ?_⟩
      rcases List.mem_cons.mp hx with rfl | hx
      · have : (0 : Int) < 2 ^ B := Int.pow_pos (by decide)
        show -(2 ^ B : Int) ≤ 0 ∧ (0 : Int) ≤ 2 ^ B
        omega
      · exact h1.2 x hx
    -- the call hands a name's list
    refine call_pure rfl ?_
    show ∃ ks n B, _ ∧ _ ∧ _
    refine ⟨_, n + 2, B, rfl, kns, ?_⟩
    have hr : ∀ r ∈ ts.map (fun t => t.told.row), r.length = n + 2 := fun r m => by
      obtain ⟨t, ht, rfl⟩ := List.mem_map.mp m
      have h1 := (ok.sm t ht).told.1
      simp [Tie.row, h1]
    rw [e0, knSort_rows hr]
    simp only [wq]
    have hlen : (inOrd (ts.map fun t => t.told.row)).length ≤ ts.length := Nat.le_trans inOrd_len (by rw [List.length_map]; exact Nat.le_refl _)
    refine its knD _ rfl trivial (by rw [List.length_map, sizeL]; omega) (fun k hk => ?_) ?_
    · obtain ⟨r, hr, rfl⟩ := List.mem_map.mp hk
      obtain ⟨t, ht, rfl⟩ := List.mem_map.mp (mem_inOrd.mp hr)
      unfold xStep
      simp only [wq]
      unfold Tie.row mv
      simp only [wq, List.map_cons]
      rfl
    · simp only [wq]
      rw [List.map_map]
      have e9 : (inOrd (ts.map fun t => t.told.row)).map ((fun k : Kn => (Tie.of k.2).d) ∘ fun r => ((0 : Int), r)) = (toldTies ts).map Tie.d := by
        unfold toldTies
        rw [List.map_map]; rfl
      rw [e9]
      exact hq
theorem c_law_due {ρ : Ro} {ts : List Tie} {n B : Nat} {Q : W → Ro → Prop} (hn : n ≤ 16) (ok : Ties n B ts) (h : Q (.own (.lst ((toldTies ts).map Tie.d))) ρ) : xC F_law_due [.dat (.lst (ts.map Tie.d))] ρ Q := call_pure rfl ⟨ts, n, B, rfl, hn, ok, h⟩
end Cw
/-! Cw: the same ties told otherwise; the law of webs made. -/
namespace Cw
open PySem PySem.Spec PyProof.Rows L2

/-- the same ties, told in whatever way and as often -/
structure Same (n c : Nat) (ts us : List Tie) : Prop where
  tie : ∀ t ∈ us, IsTie n c t
  bd : ∀ t ∈ us, bdM 3 t.m
  len : us.length ≤ 2 * ts.length
  mem : ∀ t, (∃ s ∈ us, s.told = t) ↔ ∃ s ∈ ts, s.told = t
theorem told_congr {n B : Nat} {ts us : List Tie} (ok : Ties n B ts) (h : ∀ t, (∃ s ∈ us, s.told = t) ↔ ∃ s ∈ ts, s.told = t) : toldTies us = toldTies ts := by
  unfold toldTies
  rw [inOrd_congr (n := n + 2) ok.rows.len fun r => ?_]
  rw [List.mem_map, List.mem_map]
  constructor
  · rintro ⟨s, hs, rfl⟩
    obtain ⟨s', h1, h2⟩ := (h s.told).mp ⟨s, hs, rfl⟩
    exact ⟨s', h1, by rw [h2]⟩
  · rintro ⟨s, hs, rfl⟩
    obtain ⟨s', h1, h2⟩ := (h s.told).mpr ⟨s, hs, rfl⟩
    exact ⟨s', h1, by rw [h2]⟩
theorem Tie.turn_turn' (t : Tie) : t.turn.turn = t := by
  obtain ⟨a, b, m⟩ := t
  unfold Tie.turn
  dsimp only
  rw [turn_turn]
theorem Tie.told_turn (t : Tie) : t.turn.told = t.told := by
  have key : ∀ t : Tie, t.told = if t.a > t.b ∨ (t.a = t.b ∧ fstN t.m < 0) then t.turn else t := told_first
  rw [key, key, Tie.turn_turn']
  obtain ⟨a, b, m⟩ := t
  unfold Tie.turn
  dsimp only
  have hneg : fstN (turnV m) = - fstN m := by
    clear key
    induction m with
    | nil => rfl
    | cons x m ih =>
      show fstN ((0 - x) :: turnV m) = - fstN (x :: m)
      unfold fstN
      by_cases h : x = 0
      · subst h
        simpa using ih
      · rw [if_neg h, if_neg (by omega)]; omega
  rw [hneg]
  by_cases h1 : a = b
  · subst h1
    by_cases h2 : fstN m = 0
    · have hz : turnV m = m := by
        clear key hneg
        induction m with
        | nil => rfl
        | cons x m ih =>
          unfold fstN at h2
          by_cases h : x = 0
          · subst h
            rw [if_pos rfl] at h2
            have := ih h2
            show (0 - 0) :: turnV m = 0 :: m
            rw [this]; rfl
          · rw [if_neg h] at h2; exact absurd h2 h
      rw [hz]
      split <;> split <;> rfl
    · by_cases h3 : fstN m < 0
      · rw [if_neg (by omega), if_pos (by omega)]
      · rw [if_pos (by omega), if_neg (by omega)]
  · by_cases h2 : a > b
    · rw [if_neg (by omega), if_pos (by omega)]
    · rw [if_pos (by omega), if_neg (by omega)]
theorem Same.app {n c : Nat} {ts us : List Tie} {t : Tie} {vs : List Tie} (h : Same n c ts us) (ht : IsTie n c t) (hb : bdM 3 t.m) (hv : ∀ v ∈ vs, v = t ∨ v = t.turn) (h1 : 1 ≤ vs.length) (h2 : vs.length ≤ 2) : Same n c (ts ++ [t]) (us ++ vs) where
  tie := fun v m => by
    rcases List.mem_append.mp m with m | m
    · exact h.tie v m
    · rcases hv v m with rfl | rfl
      · exact ht
      · exact ht.turn
  bd := fun v m => by
    rcases List.mem_append.mp m with m | m
    · exact h.bd v m
    · rcases hv v m with rfl | rfl
      · exact hb
      · intro x hx
        obtain ⟨y, hy, rfl⟩ := List.mem_map.mp hx
        have := hb y hy
        omega
  len := by
    have := h.len
    simp only [List.length_append, List.length_singleton]; omega
  mem := fun x => by
    constructor
    · rintro ⟨s, hs, rfl⟩
      rcases List.mem_append.mp hs with hs | hs
      · obtain ⟨s', k1, k2⟩ := (h.mem s.told).mp ⟨s, hs, rfl⟩
        exact ⟨s', List.mem_append.mpr (.inl k1), k2⟩
      · refine ⟨t, by simp, ?_⟩
        rcases hv s hs with rfl | rfl
        · rfl
        · exact (Tie.told_turn t).symm
    · rintro ⟨s, hs, rfl⟩
      rcases List.mem_append.mp hs with hs | hs
      · obtain ⟨s', k1, k2⟩ := (h.mem s.told).mpr ⟨s, hs, rfl⟩
        exact ⟨s', List.mem_append.mpr (.inl k1), k2⟩
      · have : s = t := by simpa using hs
        subst this
        obtain ⟨v, l, rfl⟩ : ∃ v l, vs = v :: l := by
          cases vs with
          | nil => simp at h1
          | cons v l => exact ⟨v, l, rfl⟩
        refine ⟨v, by simp, ?_⟩
        rcases hv v List.mem_cons_self with rfl | rfl
        · rfl
        · exact Tie.told_turn s
theorem Same.perm {n c : Nat} {ts us vs : List Tie} (h : Same n c ts us) (m : ∀ t, t ∈ vs ↔ t ∈ us) (l : vs.length = us.length) : Same n c ts vs where
  tie := fun t q => h.tie t ((m t).mp q)
  bd := fun t q => h.bd t ((m t).mp q)
  len := by rw [l]; exact h.len
  mem := fun t => by
    rw [← h.mem t]
    constructor
    · rintro ⟨s, hs, e⟩; exact ⟨s, (m s).mp hs, e⟩
    · rintro ⟨s, hs, e⟩; exact ⟨s, (m s).mpr hs, e⟩
theorem Same.web {n c : Nat} {ts us : List Tie} (fo : Fo n c ts) (h : Same n c ts us) : WebIn n c 14 us where
  n1 := fo.n1
  n3 := fo.n3
  c1 := fo.c1
  c2 := by have := fo.c2; omega
  bB := by decide
  B14 := by decide
  len := by have := fo.c2; have := fo.len; have := h.len; omega
  tie := h.tie
  bd := fun t m => (h.bd t m).v (by decide)
theorem Same.rows {n c : Nat} {ts us : List Tie} (fo : Fo n c ts) (h : Same n c ts us) : toldTies us = toldTies ts := told_congr fo.web.ties h.mem
def F_law_again : Fn := ownF "_law_again" 1 (fun l ds Q => ∃ (n c t : Nat) (ts : List Tie), ds = [.lst (ts.map Tie.d)] ∧ Fo n c ts ∧ Pu t l ∧ t ≤ 10000 ∧ ∀ us l', Same n c ts us → Pu (t + 1000) l' → Q (.own (.lst (us.map Tie.d))) l') fun l ds Q Q' h ⟨n, c, t, ts, a, b, d, e, f⟩ => ⟨n, c, t, ts, a, b, d, e, fun us l' x y => h _ _ (f us l' x y)⟩
def b_law_again : Sm := (.cons (.asg (.nm 2) (.lst .nil)) (.cons (.for (.tp (.cons (.nm 4) (.cons (.nm 5) (.cons (.nm 6) .nil)))) .seq (.cons (.var 1) .nil) (.cons (.asg (.nm 7) (.tup (.cons (.var 5) (.cons (.var 4) (.cons (.call F_law_minus (.cons (.call F_law_noughts (.cons (.blt .len (.cons (.var 6) .nil)) .nil)) (.cons (.var 6) .nil))) .nil))))) (.cons (.asg (.nm 2) (.bin .add (.var 2) (.call F_law_pick (.cons (.var 0) (.cons (.lst (.cons (.lst (.cons (.tup (.cons (.var 4) (.cons (.var 5) (.cons (.var 6) .nil)))) .nil)) (.cons (.lst (.cons (.var 7) .nil)) (.cons (.lst (.cons (.var 7) (.cons (.tup (.cons (.var 4) (.cons (.var 5) (.cons (.var 6) .nil)))) .nil))) (.cons (.lst (.cons (.tup (.cons (.var 4) (.cons (.var 5) (.cons (.var 6) .nil)))) (.cons (.tup (.cons (.var 4) (.cons (.var 5) (.cons (.var 6) .nil)))) .nil))) .nil))))) .nil))))) .nil))) (.cons (.asg (.nm 3) (.call F_law_draw (.cons (.var 0) (.cons (.bin .add (.blt .len (.cons (.var 2) .nil)) (.int 1)) .nil)))) (.cons (.ret (.bin .add (.slc (.var 2) (.var 3) .nil) (.slc (.var 2) .nil (.var 3)))) .nil))))
theorem w_law_again : ∀ (l ds : List D) (Q : Sl → List D → Prop), ds.length = 1 → (∃ (n c t : Nat) (ts : List Tie), ds = [.lst (ts.map Tie.d)] ∧ Fo n c ts ∧ Pu t l ∧ t ≤ 10000 ∧ ∀ us l', Same n c ts us → Pu (t + 1000) l' → Q (.own (.lst (us.map Tie.d))) l') → wS b_law_again { nx := fun ρ => resO 1 (.dat .non) ρ Q, rt := fun w ρ => resO 1 w ρ Q } (startR 8 (.own (.lst l) :: ds.map .dat)) := by
  rintro l ds Q _ ⟨n, c, t, ts, rfl, fo, hp, ht, hq⟩
  show xS b_law_again _ [some (.own (.lst l)), some (.dat (.lst (ts.map Tie.d))), none, none, none, none, none, none]
  unfold b_law_again
  simp only [wq]
  have fl := fo.len
  have fc := fo.c2
  have fn := fo.n3
  refine x_fors Tie.d ts (fun pre ρ => ∃ (us : List Tie) (l' : List D) (s4 s5 s6 s7 : Option Sl), Same n c pre us ∧ Pu (t + pre.length) l' ∧ ρ = [some (.own (.lst l')), some (.dat (.lst (ts.map Tie.d))), some (.own (.lst (us.map Tie.d))), none, s4, s5, s6, s7]) rfl ⟨[], l, _, _, _, _, ⟨fun t m => (by cases m), fun t m => (by cases m), Nat.zero_le _, fun t => Iff.rfl⟩, hp, rfl⟩ ?_ ?_
  · rintro pre s post e ρ ⟨us, l', s4, s5, s6, s7, hs, hp', rfl⟩
    have ms : s ∈ ts := by rw [e]; simp
    have pl : pre.length < 105 := by
      have := congrArg List.length e
      simp at this; omega
    have sl := (fo.tie s ms).1
    have ul := hs.len
    simp only [wq]
    refine c_law_noughts (by rw [sl, sizeL]; omega) ?_
    simp only [wq]
    refine c_law_minus (by rw [List.length_replicate, sl, sizeL]; omega) ?_
    rw [sub_noughts rfl]
    simp only [wq, tie_d]
    refine c_law_pick rfl hp' (by simp) (by simp) (by omega) fun d l1 hd hp1 => ?_
    obtain ⟨vs, rfl, hv, v1, v2⟩ : ∃ vs : List Tie, d = .lst (vs.map Tie.d) ∧ (∀ v ∈ vs, v = s ∨ v = s.turn) ∧ 1 ≤ vs.length ∧ vs.length ≤ 2 := by
      simp only [List.mem_cons, List.not_mem_nil, or_false] at hd
      rcases hd with rfl | rfl | rfl | rfl
      · exact ⟨[s], rfl, by simp, by simp, by simp⟩
      · exact ⟨[s.turn], rfl, by simp, by simp, by simp⟩
      · exact ⟨[s.turn, s], rfl, by simp, by simp, by simp⟩
      · exact ⟨[s, s], rfl, by simp, by simp, by simp⟩
    simp only [wq]
    refine ⟨by rw [List.length_map, List.length_map, sizeL]; omega, ?_⟩
    rw [← List.map_append]
    exact ⟨us ++ vs, l1, _, _, _, _, hs.app (fo.tie s ms) (fo.bd s ms) hv v1 v2, by rw [List.length_append, List.length_singleton, ← Nat.add_assoc]; exact hp1, rfl⟩
  · rintro ρ ⟨us, l', s4, s5, s6, s7, hs, hp', rfl⟩
    have ul := hs.len
    simp only [wq]
    refine c_law_draw rfl hp' (by omega) (by rw [List.length_map]; omega) (by omega) fun k l1 k0 k1 hp1 => ?_
    obtain ⟨k, rfl⟩ : ∃ j : Nat, k = j := ⟨k.toNat, by omega⟩
    simp only [wq, cut_from, cut_to]
    refine ⟨by rw [List.length_drop, List.length_take, List.length_map, sizeL]; omega, ?_⟩
    try simp only [wq]
    rw [← List.map_drop, ← List.map_take, ← List.map_append]
    refine hq _ _ (hs.perm (fun x => ?_) ?_) (hp1.mono (by omega))
    · rw [List.mem_append, or_comm, ← List.mem_append, List.take_append_drop]
    · rw [List.length_append, List.length_drop, List.length_take]; omega
theorem c_law_again {ρ : Ro} {i : Nat} {l : List D} {n c t : Nat} {ts : List Tie} {Q : W → Ro → Prop} (hi : slOf ρ i = some (.own (.lst l))) (fo : Fo n c ts) (hp : Pu t l) (ht : t ≤ 10000) (h : ∀ us l', Same n c ts us → Pu (t + 1000) l' → Q (.own (.lst (us.map Tie.d))) (ρ.set i (some (.own (.lst l'))))) : xC F_law_again [.brw i, .dat (.lst (ts.map Tie.d))] ρ Q :=
  x_own rfl hi ⟨hi, n, c, t, ts, rfl, fo, hp, ht, fun us l' x y => h us l' x y⟩
/-! repr of webs' fields -/
theorem shB_tie {B : Nat} {t : Tie} (h : bdV B t.row) : shB (B + 1) t.d :=
  ⟨log_bd (h _ List.mem_cons_self), log_bd (h _ (List.mem_cons_of_mem _ List.mem_cons_self)), shB_ints fun x m => log_bd (h x (List.mem_cons_of_mem _ (List.mem_cons_of_mem _ m))), trivial⟩
theorem shS_tie {t : Tie} : shS t.d = 7 + 2 * t.m.length := by
  show 1 + (1 + 1 + (1 + 1 + ((1 + shS.shA (t.m.map .int)) + 1 + 0))) = _
  rw [shA_ints]; omega
theorem shB_ties {B : Nat} : ∀ {ks : List Tie}, (∀ k ∈ ks, bdV B k.row) → shB.shBA (B + 1) (ks.map Tie.d)
  | [], _ => trivial
  | k :: ks, h => ⟨shB_tie (h k List.mem_cons_self), shB_ties fun y m => h y (List.mem_cons_of_mem _ m)⟩
theorem shA_ties {n : Nat} : ∀ {ks : List Tie}, (∀ k ∈ ks, k.m.length ≤ n) → shS.shA (ks.map Tie.d) ≤ (8 + 2 * n) * ks.length
  | [], _ => by simp [shS.shA]
  | k :: ks, h => by
    have h1 := h k List.mem_cons_self
    have h2 := shA_ties fun y m => h y (List.mem_cons_of_mem _ m)
    rw [List.map_cons, shS.shA, shS_tie, List.length_cons, Nat.mul_add]
    omega
theorem x_repr_ties {x : Sl} {ks : List Tie} {B n : Nat} {Q : W → Prop} (hx : x.toD = .lst (ks.map Tie.d)) (hb : ∀ k ∈ ks, k.sm n B) (h1 : n ≤ 18) (h2 : ks.length ≤ 300) (h3 : B ≤ 1000) (q : Q (.dat (.str (PyData.shown (pyOf (.lst (ks.map Tie.d))))))) : xl .repr [x] Q := by
  refine x_repr (B := B + 1) (by omega) (by omega) hx (shB_ties fun k m => (hb k m).2) ((tyLst tyTie).shp (by decide) ks) ?_ q
  show (1 + shS.shA (ks.map Tie.d)) * (B + 1 + 5) ≤ sizeLine
  have h4 := shA_ties fun k m => Nat.le_of_eq (hb k m).1
  have h5 : (8 + 2 * n) * ks.length ≤ 44 * 300 := Nat.mul_le_mul (by omega) h2
  have h6 : (1 + shS.shA (ks.map Tie.d)) * (B + 1 + 5) ≤ 13201 * 1006 := Nat.mul_le_mul (by omega) (by omega)
  rw [sizeL]; omega
theorem okS_ties {ks : List Tie} {n B : Nat} (hb : ∀ k ∈ ks, k.sm n B) (h3 : B ≤ 1000) : okS (PyData.shown (pyOf (.lst (ks.map Tie.d)))) :=
  (show_main (B := B + 1) (by omega) (by omega) _ (show shB (B + 1) (.lst (ks.map Tie.d)) from shB_ties fun k m => (hb k m).2)).2.2
/-- directions, places, ties in a list -/
def fiD (n c : Nat) (ts : List Tie) : D := .lst [.int n, .int c, .lst (ts.map Tie.d)]
theorem shp_fi {n c : Nat} {ts : List Tie} : shp (fiD n c ts) = true := by
  unfold shp SeqAt.shaped fiD
  have h1 := tyTie.layA ts
  have h2 := tyTie.depA ts
  simp only [pyOf, pyAll, PyData.canLay0, PyData.canLayAll0, PyData.depth, PyData.depthAll, h1, Bool.and_true, Bool.true_and, decide_eq_true_eq]
  omega
theorem shB_fi {n c B : Nat} {ts : List Tie} (h1 : n ≤ 18) (hc : c ≤ 10000) (h14 : 14 ≤ B) (hb : ∀ k ∈ ts, k.sm n B) : shB (B + 1) (fiD n c ts) := by
  have e : (2 ^ 14 : Int) = 16384 := by decide
  have := pow_mono h14
  exact ⟨log_bd (by omega), log_bd (by omega), shB_ties fun k m => (hb k m).2, trivial⟩
theorem x_repr_fi {x : Sl} {ts : List Tie} {B n c : Nat} {Q : W → Prop} (hx : x.toD = fiD n c ts) (hb : ∀ k ∈ ts, k.sm n B) (h1 : n ≤ 18) (hc : c ≤ 10000) (h14 : 14 ≤ B) (h2 : ts.length ≤ 300) (h3 : B ≤ 1000) (q : Q (.dat (.str (PyData.shown (pyOf (fiD n c ts)))))) : xl .repr [x] Q := by
  refine x_repr (B := B + 1) (by omega) (by omega) hx (shB_fi h1 hc h14 hb) shp_fi ?_ q
  show (1 + (1 + 1 + (1 + 1 + (1 + shS.shA (ts.map Tie.d) + 1 + 0)))) * (B + 1 + 5) ≤ sizeLine
  have h4 := shA_ties fun k m => Nat.le_of_eq (hb k m).1
  have h5 : (8 + 2 * n) * ts.length ≤ 44 * 300 := Nat.mul_le_mul (by omega) h2
  have h6 : (1 + (1 + 1 + (1 + 1 + (1 + shS.shA (ts.map Tie.d) + 1 + 0)))) * (B + 1 + 5) ≤ 13209 * 1006 := Nat.mul_le_mul (by omega) (by omega)
  rw [sizeL]; omega
theorem okS_fi {ts : List Tie} {n c B : Nat} (hb : ∀ k ∈ ts, k.sm n B) (h1 : n ≤ 18) (hc : c ≤ 10000) (h14 : 14 ≤ B) (h3 : B ≤ 1000) : okS (PyData.shown (pyOf (fiD n c ts))) :=
  (show_main (B := B + 1) (by omega) (by omega) _ (shB_fi h1 hc h14 hb)).2.2
end Cw
/-! Cw: the law of webs made. -/
namespace Cw
open PySem PySem.Spec PyProof.Rows L2

def b_law02_other : Sm := (.cons (.ite (.cmp .eq (.lc [13] (.nm 13) .seq (.cons (.idx (.var 8) (.int 2)) .nil) (.and (.cmp .eq (.idx (.var 13) (.int 0)) (.idx (.var 13) (.int 1))) (.cmp .eq (.idx (.var 13) (.int 2)) (.call F_law_noughts (.cons (.var 9) .nil)))) (.var 13)) (.lst .nil)) (.cons (.asg (.nm 12) (.and (.cmp .eq (.idx (.var 8) (.int 1)) (.var 10)) (.cmp .eq (.call F_law_due (.cons (.idx (.var 8) (.int 2)) .nil)) (.var 6)))) (.cons (.ite (.cmp .ne (.eqw false F_eq 0 (.call F_Web (.cons (.idx (.var 8) (.int 0)) (.cons (.idx (.var 8) (.int 1)) (.cons (.blt .list (.cons (.idx (.var 8) (.int 2)) .nil)) .nil)))) (.var 5)) (.var 12)) (.cons (.ret (.bl false)) .nil) .nil) .nil)) .nil) .nil)
def b_law02_two : Sm := (.cons (.asg (.nm 7) (.lst (.cons (.tup (.cons (.var 9) (.cons (.bin .add (.var 10) (.int 1)) (.cons (.var 11) .nil)))) (.cons (.tup (.cons (.var 9) (.cons (.var 10) (.cons (.slc (.var 11) (.int 1) .nil) .nil)))) .nil)))) (.cons (.asg (.nm 7) (.bin .add (.var 7) (.lst (.cons (.tup (.cons (.var 9) (.cons (.var 10) (.cons (.bin .add (.var 11) (.lst (.cons (.tup (.cons (.int 0) (.cons (.int 0) (.cons (.call F_law_move (.cons (.var 2) (.cons (.var 9) (.cons (.int 2) .nil)))) .nil)))) .nil))) .nil)))) .nil)))) (.cons (.for (.nm 8) .seq (.cons (.var 7) .nil) b_law02_other) (.cons (.ite (.or (.eqw false F_eq 0 (.call F_Web (.cons (.int 1) (.cons (.var 10) (.cons (.lst .nil) .nil)))) (.call F_Web (.cons (.int 2) (.cons (.var 10) (.cons (.lst .nil) .nil))))) (.eqw false F_eq 0 (.call F_Web (.cons (.int 3) (.cons (.var 10) (.cons (.lst .nil) .nil)))) (.call F_Web (.cons (.int 2) (.cons (.var 10) (.cons (.lst .nil) .nil)))))) (.cons (.ret (.bl false)) .nil) .nil) (.cons (.ite (.or (.eqw false F_eq 0 (.var 5) (.var 6)) (.or (.eqw false F_eq 0 (.var 5) .non) (.cmp .isnot (.eqw true F_eq 0 (.var 5) (.call F_law_made (.cons (.tup (.cons (.var 9) (.cons (.var 10) (.cons (.var 11) .nil)))) .nil))) (.bl false)))) (.cons (.ret (.bl false)) .nil) .nil) .nil)))))
def b_law02_turn : Sm := (.cons (.asg (.nm 2) (.call F_law_purse (.cons (.var 0) (.cons (.var 1) .nil)))) (.cons (.asg (.tp (.cons (.nm 9) (.cons (.nm 10) (.cons (.nm 11) .nil)))) (.call F_law_fields (.cons (.var 2) .nil))) (.cons (.asg (.nm 3) (.call F_law_again (.cons (.var 2) (.cons (.var 11) .nil)))) (.cons (.asg (.nm 4) (.blt .list (.cons (.var 3) .nil))) (.cons (.asg (.nm 5) (.call F_Web (.cons (.var 9) (.cons (.var 10) (.cons (.var 3) .nil))))) (.cons (.ite (.cmp .ne (.var 3) (.var 4)) (.cons (.ret (.bl false)) .nil) .nil) (.cons (.app 3 .non) (.cons (.asg (.nm 6) (.call F_law_due (.cons (.var 11) .nil))) (.cons (.ite (.cmp .ne (.blt .repr (.cons (.lst (.cons (.prop F_directions 0 (.var 5)) (.cons (.prop F_places 0 (.var 5)) (.cons (.prop F_ties 0 (.var 5)) .nil)))) .nil)) (.blt .repr (.cons (.lst (.cons (.var 9) (.cons (.var 10) (.cons (.var 6) .nil)))) .nil))) (.cons (.ret (.bl false)) .nil) .nil) (.cons (.appT (.prop F_ties 0 (.var 5)) (.str "x")) (.cons (.revT (.prop F_ties 0 (.var 5))) (.cons (.ite (.or (.cmp .ne (.blt .repr (.cons (.prop F_ties 0 (.var 5)) .nil)) (.blt .repr (.cons (.var 6) .nil))) (.eqw true F_eq 0 (.var 5) (.call F_Web (.cons (.var 9) (.cons (.var 10) (.cons (.var 6) .nil)))))) (.cons (.ret (.bl false)) .nil) .nil) (.cons (.ite (.eqw true F_eq 0 (.var 5) (.call F_law_made (.cons (.tup (.cons (.var 9) (.cons (.var 10) (.cons (.var 11) .nil)))) .nil))) (.cons (.ret (.bl false)) .nil) .nil) b_law02_two)))))))))))))
def b_law02 : Sm := (.cons (.for (.nm 1) .rng1 (.cons (.int 6) .nil) b_law02_turn) (.cons (.ret (.bl true)) .nil))
theorem wo_ties {n c B : Nat} {ts : List Tie} (h : WebIn n c B ts) : (Wb.of n c ts).rows = toldTies ts := rfl
theorem fo_d {n c : Nat} {ts : List Tie} : D.tup [.int n, .int c, .lst (ts.map Tie.d)] = foD n c ts := rfl
/-- ties that may be none: of a place to itself with the move of noughts -/
def Near (n c : Nat) (t : Tie) : Prop := t.m.length = n ∧ 0 ≤ t.a ∧ t.a < c ∧ 0 ≤ t.b ∧ t.b < c ∧ bdM 3 t.m
def selfT (n : Nat) (t : Tie) : Bool := decide (t.a = t.b) && decide (t.m = List.replicate n 0)
theorem filterMap_if {α β : Type} (p : α → Bool) (f : α → β) : ∀ xs : List α, xs.filterMap (fun x => if p x then some (f x) else none) = (xs.filter p).map f
  | [] => rfl
  | x :: xs => by
    have ih := filterMap_if p f xs
    rw [List.filterMap_cons, List.filter_cons]
    cases p x
    · exact ih
    · show f x :: _ = f x :: _
      rw [ih]
theorem w_law02_other {Z : En} {n c c' : Nat} {ts us : List Tie} {s0 s1 s2 s3 s4 s7 s12 : Option Sl} (fo : Fo n c ts) (c4 : c ≤ 4) (hc' : 1 ≤ c') (hc2 : c' ≤ 10) (hu : ∀ t ∈ us, Near n c' t) (hl : us.length ≤ 20)
    (q : ∀ s12, Z.nx [s0, s1, s2, s3, s4, some (.dat (Wb.of n c ts).d), some (.dat (.lst ((toldTies ts).map Tie.d))), s7, some (.dat (foD n c' us)), some (.dat (.int n)), some (.dat (.int c)), some (.dat (.lst (ts.map Tie.d))), s12, none]) :
    xS b_law02_other Z [s0, s1, s2, s3, s4, some (.dat (Wb.of n c ts).d), some (.dat (.lst ((toldTies ts).map Tie.d))), s7, some (.dat (foD n c' us)), some (.dat (.int n)), some (.dat (.int c)), some (.dat (.lst (ts.map Tie.d))), s12, none] := by
  have fn := fo.n3
  have f1 := fo.n1
  unfold b_law02_other
  simp only [wq]
  refine x_lcf (fun t : Tie => if selfT n t then some t.d else none) ?_
  simp only [wq]
  refine its Tie.d us rfl trivial (by rw [sizeL]; omega) (fun t ht => ?_) ?_
  · unfold xfStep selfT
    simp only [wq]
    refine cnd_split (fun h => ?_) fun h => ?_
    · simp only [wq]
      refine c_law_noughts (by rw [sizeL]; omega) ?_
      simp only [wq]
      rw [x_eqD tyMv (by decide)]
      simp only [wq]
      refine cnd_split (fun h2 => ?_) fun h2 => ?_
      · simp only [wq]
        rw [h, h2]; rfl
      · simp only [wq]
        rw [h, h2]; rfl
    · simp only [wq]
      rw [h]; rfl
  simp only [wq]
  rw [filterMap_if, x_eqL (xs := us.filter (selfT n)) (ys := []) tyTie (by decide) rfl rfl]
  simp only [wq]
  refine cnd_split (fun h => ?_) fun h => ?_
  · have h := of_decide_eq_true h
    have ht : ∀ t ∈ us, IsTie n c' t := fun t m => by
      obtain ⟨h1, h2, h3, h4, h5, _⟩ := hu t m
      refine ⟨h1, h2, h3, h4, h5, ?_⟩
      rw [List.filter_eq_nil_iff] at h
      have := h t m
      unfold selfT at this
      simp only [Bool.and_eq_true, decide_eq_true_eq, not_and] at this
      by_cases e : t.a = t.b
      · exact .inr (this e)
      · exact .inl e
    have web : WebIn n c' 14 us := ⟨f1, fn, hc', by omega, by decide, by decide, by omega, ht, fun t m => (hu t m).2.2.2.2.2.v (by decide)⟩
    simp only [wq]
    refine cnd_split (fun h2 => ?_) fun h2 => ?_
    · have h2 := of_decide_eq_true h2
      simp only [wq]
      refine c_law_due (by omega) web.ties ?_
      simp only [wq]
      rw [x_eqL (xs := toldTies us) (ys := toldTies ts) tyTie (by decide) rfl rfl]
      simp only [wq]
      refine c_Web_own web ?_
      simp only [wq]
      refine ⟨rfl, c_eq ?_⟩
      have e : decide ((Wb.of n c' us).n = (Wb.of n c ts).n ∧ (Wb.of n c' us).c = (Wb.of n c ts).c ∧ (Wb.of n c' us).rows = (Wb.of n c ts).rows) = decide (toldTies us = toldTies ts) := decide_eq_decide.mpr ⟨fun e => e.2.2, fun e => ⟨rfl, by show c' = c; omega, e⟩⟩
      simp only [wq]
      rw [e]
      simp only [wq, Bool.false_eq_true, if_false]
      rw [x_ne_bl]
      simp only [wq, decide_true, Bool.not_true]
      exact q _
    · have h2 := of_decide_eq_false h2
      simp only [wq]
      refine c_Web_own web ?_
      simp only [wq]
      refine ⟨rfl, c_eq ?_⟩
      have e : decide ((Wb.of n c' us).n = (Wb.of n c ts).n ∧ (Wb.of n c' us).c = (Wb.of n c ts).c ∧ (Wb.of n c' us).rows = (Wb.of n c ts).rows) = false := decide_eq_false fun e => h2 (by have : c' = c := e.2.1; omega)
      simp only [wq]
      rw [e]
      simp only [wq, Bool.false_eq_true, if_false]
      rw [x_ne_bl]
      simp only [wq, decide_true, Bool.not_true]
      exact q _
  · simp only [wq]
    exact q _
theorem w_law02_two {Z : En} {n c t : Nat} {ts : List Tie} {l : List D} {s0 s1 s3 s4 s7 s8 s12 : Option Sl} (fo : Fo n c ts) (c4 : c ≤ 4) (hp : Pu t l) (ht : t ≤ 10000)
    (q : ∀ s2 s6 s7 s8 s12, Z.nx [s0, s1, s2, s3, s4, some (.dat (Wb.of n c ts).d), s6, s7, s8, some (.dat (.int n)), some (.dat (.int c)), some (.dat (.lst (ts.map Tie.d))), s12, none]) :
    xS b_law02_two Z [s0, s1, some (.own (.lst l)), s3, s4, some (.dat (Wb.of n c ts).d), some (.dat (.lst ((toldTies ts).map Tie.d))), s7, s8, some (.dat (.int n)), some (.dat (.int c)), some (.dat (.lst (ts.map Tie.d))), s12, none] := by
  have fn := fo.n3
  have f1 := fo.n1
  have fl := fo.len
  have fc := fo.c1
  have web := fo.web
  unfold b_law02_two
  simp only [wq, cut1]
  refine c_law_move rfl hp (by omega) (by decide) (by decide) (by omega) fun xs l1 h1 hb1 hp1 => ?_
  simp only [wq, tie_d]
  refine ⟨by rw [List.length_map, sizeL, List.length_singleton]; omega, ?_⟩
  try simp only [wq]
  refine ⟨by rw [sizeL]; simp only [List.length_cons, List.length_nil]; omega, ?_⟩
  try simp only [wq]
  have near : ∀ t ∈ ts, Near n c t := fun t m => by
    obtain ⟨h1, h2, h3, h4, h5, _⟩ := fo.tie t m
    exact ⟨h1, h2, h3, h4, h5, fo.bd t m⟩
  have e0 : ((c : Int) + 1) = ((c + 1 : Nat) : Int) := by omega
  have e1 : ts.map Tie.d ++ [Tie.d ⟨0, 0, xs⟩] = (ts ++ [(⟨0, 0, xs⟩ : Tie)]).map Tie.d := by simp
  refine x_fors (fun p : Nat × List Tie => foD n p.1 p.2) [(c + 1, ts), (c, ts.drop 1), (c, ts ++ [⟨0, 0, xs⟩])] (fun _ ρ => ∃ s2 s7 s8 s12, ρ = [s0, s1, s2, s3, s4, some (.dat (Wb.of n c ts).d), some (.dat (.lst ((toldTies ts).map Tie.d))), s7, s8, some (.dat (.int n)), some (.dat (.int c)), some (.dat (.lst (ts.map Tie.d))), s12, none]) ?_ ⟨_, _, _, _, rfl⟩ ?_ ?_
  · rw [e0, e1, ← List.map_drop]; rfl
  · rintro pre p post e ρ ⟨s2, s7, s8, s12, rfl⟩
    have mp : p ∈ [(c + 1, ts), (c, ts.drop 1), (c, ts ++ [(⟨0, 0, xs⟩ : Tie)])] := by rw [e]; simp
    simp only [wq]
    have hp : 1 ≤ p.1 ∧ p.1 ≤ 10 ∧ (∀ t ∈ p.2, Near n p.1 t) ∧ p.2.length ≤ 20 := by
      simp only [List.mem_cons, List.not_mem_nil, or_false] at mp
      rcases mp with rfl | rfl | rfl
      · refine ⟨by dsimp only; omega, by dsimp only; omega, fun t m => ?_, by dsimp only; omega⟩
        obtain ⟨h1, h2, h3, h4, h5, h6⟩ := near t m
        exact ⟨h1, h2, by dsimp only; omega, h4, by dsimp only; omega, h6⟩
      · exact ⟨fc, by dsimp only; omega, fun t m => near t (List.mem_of_mem_drop m), by dsimp only; rw [List.length_drop]; omega⟩
      · refine ⟨fc, by dsimp only; omega, fun t m => ?_, by dsimp only; rw [List.length_append, List.length_singleton]; omega⟩
        rcases List.mem_append.mp m with m | m
        · exact near t m
        · have : t = ⟨0, 0, xs⟩ := by simpa using m
          subst this
          exact ⟨h1, Int.le_refl _, by show (0 : Int) < c; omega, Int.le_refl _, by show (0 : Int) < c; omega, fun y hy => by have := hb1 y hy; omega⟩
    obtain ⟨p1, p2, p3, p4⟩ := hp
    exact w_law02_other fo c4 p1 p2 p3 p4 fun s12 => ⟨_, _, _, _, rfl⟩
  · rintro ρ ⟨s2, s7, s8, s12, rfl⟩
    have wn : ∀ m : Nat, 1 ≤ m → m ≤ 3 → WebIn m c 14 [] := fun m h1 h2 => ⟨h1, h2, fc, by omega, by decide, by decide, by simp, fun t h => (by cases h), fun t h => (by cases h)⟩
    have i1 : ((1 : Nat) : Int) = 1 := rfl
    have i2 : ((2 : Nat) : Int) = 2 := rfl
    have i3 : ((3 : Nat) : Int) = 3 := rfl
    simp only [wq]
    refine c_Web_own (n := 1) (ts := []) (wn 1 (by decide) (by decide)) ?_
    simp only [wq]
    refine c_Web_own (n := 2) (ts := []) (wn 2 (by decide) (by decide)) ?_
    simp only [wq]
    refine ⟨rfl, c_eq ?_⟩
    have f12 : decide ((Wb.of 1 c []).n = (Wb.of 2 c []).n ∧ (Wb.of 1 c []).c = (Wb.of 2 c []).c ∧ (Wb.of 1 c []).rows = (Wb.of 2 c []).rows) = false := decide_eq_false fun e => by have := e.1; cases this
    have f32 : decide ((Wb.of 3 c []).n = (Wb.of 2 c []).n ∧ (Wb.of 3 c []).c = (Wb.of 2 c []).c ∧ (Wb.of 3 c []).rows = (Wb.of 2 c []).rows) = false := decide_eq_false fun e => by have := e.1; cases this
    simp only [wq]
    rw [f12]
    simp only [wq, Bool.false_eq_true, if_false]
    refine c_Web_own (n := 3) (ts := []) (wn 3 (by decide) (by decide)) ?_
    simp only [wq]
    refine c_Web_own (n := 2) (ts := []) (wn 2 (by decide) (by decide)) ?_
    simp only [wq]
    refine ⟨rfl, c_eq ?_⟩
    simp only [wq]
    rw [f32]
    simp only [wq, Bool.false_eq_true, if_false]
    refine ⟨rfl, ?_⟩
    refine call_pure rfl (.inr ⟨_, _, rfl, rfl, ?_⟩)
    simp only [wq, Bool.false_eq_true, if_false]
    refine ⟨rfl, ?_⟩
    refine call_pure rfl (.inr ⟨_, _, rfl, rfl, ?_⟩)
    simp only [wq, Bool.false_eq_true, if_false, fo_d]
    refine c_law_made web ?_
    simp only [wq]
    refine ⟨rfl, c_eq ?_⟩
    simp only [wq, and_self, decide_true, Bool.not_true, if_true]
    refine .inr ⟨false, false, rfl, rfl, ?_⟩
    simp only [wq, decide_true, Bool.not_true]
    exact q _ _ _ _ _
theorem Tie.told_told (t : Tie) : t.told.told = t.told := by
  rcases t.told_cases with e | e
  · exact congrArg Tie.told e
  · exact (congrArg Tie.told e).trans (Tie.told_turn t)
theorem w_law02_turn {Z : En} {ns : List Int} {x : Nat} {s2 s3 s4 s5 s6 s7 s8 s9 s10 s11 s12 : Option Sl} (hx : x ≤ 1000)
    (q : ∀ s2 s3 s4 s5 s6 s7 s8 s9 s10 s11 s12, Z.nx [some (.dat (.scr ns)), some (.dat (.int x)), s2, s3, s4, s5, s6, s7, s8, s9, s10, s11, s12, none]) :
    xS b_law02_turn Z [some (.dat (.scr ns)), some (.dat (.int x)), s2, s3, s4, s5, s6, s7, s8, s9, s10, s11, s12, none] := by
  unfold b_law02_turn
  simp only [wq]
  refine c_law_purse hx fun l hp => ?_
  simp only [wq]
  refine c_law_fields rfl hp (by decide) fun n c ts l1 fo c4 hp1 => ?_
  simp only [wq]
  refine c_law_again rfl fo hp1 (by omega) fun us l2 hs hp2 => ?_
  simp only [wq]
  have web := fo.web
  have weu := hs.web fo
  have ul := hs.len
  have fl := fo.len
  have tl := toldTies_len (ts := ts)
  have et := hs.rows fo
  refine c_Web_brw rfl weu ?_
  simp only [wq]
  rw [x_neL (xs := us) (ys := us) tyTie (by decide) rfl rfl]
  simp only [wq, decide_true, Bool.not_true]
  refine ⟨by rw [List.length_map, sizeL]; omega, ?_⟩
  try simp only [wq]
  refine c_law_due (by have := fo.n3; omega) web.ties ?_
  have eo : Wb.of n c us = Wb.of n c ts := by unfold Wb.of; rw [et]
  rw [eo]
  have tsm := web.ties.told.sm
  simp only [wq]
  refine c_directions ?_
  simp only [wq]
  refine c_places ?_
  simp only [wq]
  refine c_ties ?_
  simp only [wq]
  refine x_repr_fi (ts := toldTies ts) (B := 14) (n := n) (c := c) rfl tsm (by have := fo.n3; omega) (by omega) (by decide) (by omega) (by decide) ?_
  simp only [wq]
  refine x_repr_fi (ts := toldTies ts) (B := 14) (n := n) (c := c) rfl tsm (by have := fo.n3; omega) (by omega) (by decide) (by omega) (by decide) ?_
  simp only [wq]
  refine x_neS (okS_fi tsm (by have := fo.n3; omega) (by omega) (by decide) (by decide)) ?_
  simp only [wq]
  refine c_ties ?_
  simp only [wq]
  refine ⟨_, rfl, by rw [List.length_map, sizeL]; show (toldTies ts).length < _; omega, ?_⟩
  try simp only [wq]
  refine c_ties ?_
  simp only [wq]
  refine ⟨_, rfl, ?_⟩
  try simp only [wq]
  refine c_ties ?_
  simp only [wq]
  refine x_repr_ties (ks := toldTies ts) (B := 14) (n := n) rfl tsm (by have := fo.n3; omega) (by omega) (by decide) ?_
  simp only [wq]
  refine x_repr_ties (ks := toldTies ts) (B := 14) (n := n) rfl tsm (by have := fo.n3; omega) (by omega) (by decide) ?_
  simp only [wq]
  refine x_neS (okS_ties tsm (by decide)) ?_
  simp only [wq]
  have wet : WebIn n c 14 (toldTies ts) := ⟨web.n1, web.n3, web.c1, web.c2, web.bB, web.B14, Nat.le_trans tl web.len, web.toldTie, fun t m => (tsm t m).m⟩
  have ett : toldTies (toldTies ts) = toldTies ts := told_congr web.ties fun t => by
    constructor
    · rintro ⟨s, hs, rfl⟩
      obtain ⟨s', h1, rfl⟩ := mem_told.mp hs
      exact ⟨s', h1, (Tie.told_told s').symm⟩
    · rintro ⟨s, hs, rfl⟩
      exact ⟨s.told, mem_told.mpr ⟨s, hs, rfl⟩, Tie.told_told s⟩
  refine c_Web_dat wet ?_
  simp only [wq]
  have eo2 : Wb.of n c (toldTies ts) = Wb.of n c ts := by unfold Wb.of; rw [ett]
  rw [eo2]
  refine ⟨rfl, c_eq ?_⟩
  simp only [wq, and_self, decide_true, Bool.not_true, if_true, fo_d]
  refine c_law_made web ?_
  simp only [wq]
  refine ⟨rfl, c_eq ?_⟩
  simp only [wq, and_self, decide_true, Bool.not_true, if_true]
  refine w_law02_two fo c4 hp2 (by omega) fun s2 s6 s7 s8 s12 => ?_
  exact q _ _ _ _ _ _ _ _ _ _ _
theorem w_law02 (ns : List Int) (hns : ns.length ≤ 63) : wS b_law02 { nx := fun _ => False, rt := fun w _ => w = .dat (.bl true) } (startR 14 [.dat (.scr ns)]) := by
  show xS b_law02 _ [some (.dat (.scr ns)), none, none, none, none, none, none, none, none, none, none, none, none, none]
  unfold b_law02
  simp only [wq]
  refine ⟨⟨by decide, by decide⟩, ?_⟩
  refine x_fors (fun k : Nat => D.int (0 + (k : Nat))) (List.range 6) (fun pre ρ => ∃ s1 s2 s3 s4 s5 s6 s7 s8 s9 s10 s11 s12, ρ = [some (.dat (.scr ns)), s1, s2, s3, s4, s5, s6, s7, s8, s9, s10, s11, s12, none]) rfl ⟨_, _, _, _, _, _, _, _, _, _, _, _, rfl⟩ ?_ ?_
  · rintro pre x post e ρ ⟨s1, s2, s3, s4, s5, s6, s7, s8, s9, s10, s11, s12, rfl⟩
    obtain ⟨hx, hx5⟩ := rng2_at e
    have ex : D.int (0 + (x : Nat)) = .int (x : Nat) := by rw [Int.zero_add]
    rw [ex]
    simp only [wq]
    exact w_law02_turn (by omega) fun s2 s3 s4 s5 s6 s7 s8 s9 s10 s11 s12 => ⟨_, _, _, _, _, _, _, _, _, _, _, _, rfl⟩
  · rintro ρ ⟨s1, s2, s3, s4, s5, s6, s7, s8, s9, s10, s11, s12, rfl⟩
    simp only [wq]
end Cw
namespace K02
open PySem PySem.Spec PyProof.Rows L2 Cw
def cn : List Str := ["Web"]
def fl : List (List Str) := [["size", "count", "rows", "ways"]]
def top (i : Nat) : Stmt := PySem.Challenge.pw_cellwebs_k02_webs_made.main.body.getD i (.Pass ⟨0, 0, 0, 0⟩)
abbrev st_is_whole : Stmt := (top 2)
def N_is_whole : List Str := ["value"]
theorem ck_is_whole : ckSs 60 (ckOf N_is_whole st_is_whole [false] cn fl) b_is_whole (defBody st_is_whole) = true := by decide +kernel
theorem sc_is_whole : scK N_is_whole ["value"] (defScope st_is_whole) = true := by decide +kernel
abbrev st_is_below : Stmt := (top 3)
def N_is_below : List Str := ["value", "end"]
theorem ck_is_below : ckSs 60 (ckOf N_is_below st_is_below [false, false] cn fl) b_is_below (defBody st_is_below) = true := by decide +kernel
theorem sc_is_below : scK N_is_below ["value", "end"] (defScope st_is_below) = true := by decide +kernel
abbrev st_is_move : Stmt := (top 4)
def N_is_move : List Str := ["value", "size", "one"]
theorem ck_is_move : ckSs 60 (ckOf N_is_move st_is_move [false, false] cn fl) b_is_move (defBody st_is_move) = true := by decide +kernel
theorem sc_is_move : scK N_is_move ["value", "size"] (defScope st_is_move) = true := by decide +kernel
abbrev st_noughts : Stmt := (top 6)
def N_noughts : List Str := ["size", "at"]
theorem ck_noughts : ckSs 60 (ckOf N_noughts st_noughts [false] cn fl) b_noughts (defBody st_noughts) = true := by decide +kernel
theorem sc_noughts : scK N_noughts ["size"] (defScope st_noughts) = true := by decide +kernel
abbrev st_is_tie : Stmt := (top 12)
def N_is_tie : List Str := ["directions", "places", "value"]
theorem ck_is_tie : ckSs 60 (ckOf N_is_tie st_is_tie [false, false, false] cn fl) b_is_tie (defBody st_is_tie) = true := by decide +kernel
theorem sc_is_tie : scK N_is_tie ["directions", "places", "value"] (defScope st_is_tie) = true := by decide +kernel
abbrev st_are_fields : Stmt := (top 13)
def N_are_fields : List Str := ["directions", "places", "ties", "tie"]
theorem ck_are_fields : ckSs 60 (ckOf N_are_fields st_are_fields [false, false, false] cn fl) b_are_fields (defBody st_are_fields) = true := by decide +kernel
theorem sc_are_fields : scK N_are_fields ["directions", "places", "ties"] (defScope st_are_fields) = true := by decide +kernel
abbrev st_in_order : Stmt := (top 7)
def N_in_order : List Str := ["rows", "numbers", "least", "many", "found", "row", "key", "number"]
theorem ck_in_order : ckSs 60 (ckOf N_in_order st_in_order [false] cn fl) b_in_order_w (defBody st_in_order) = true := by decide +kernel
theorem sc_in_order : scK N_in_order ["rows"] (defScope st_in_order) = true := by decide +kernel
abbrev st_turned_about : Stmt := (top 5)
def N_turned_about : List Str := ["move", "number"]
theorem ck_turned_about : ckSs 60 (ckOf N_turned_about st_turned_about [false] cn fl) b_turned_about (defBody st_turned_about) = true := by decide +kernel
theorem sc_turned_about : scK N_turned_about ["move"] (defScope st_turned_about) = true := by decide +kernel
abbrev st_told_tie : Stmt := (top 14)
def N_told_tie : List Str := ["tie", "about", "a", "b", "move"]
theorem ck_told_tie : ckSs 60 (ckOf N_told_tie st_told_tie [false] cn fl) b_told_tie (defBody st_told_tie) = true := by decide +kernel
theorem sc_told_tie : scK N_told_tie ["tie"] (defScope st_told_tie) = true := by decide +kernel
abbrev st_told_ties : Stmt := (top 15)
def N_told_ties : List Str := ["ties", "rows", "row", "a", "b", "move", "tie"]
theorem ck_told_ties : ckSs 60 (ckOf N_told_ties st_told_ties [true] cn fl) b_told_ties (defBody st_told_ties) = true := by decide +kernel
theorem sc_told_ties : scK N_told_ties ["ties"] (defScope st_told_ties) = true := by decide +kernel
abbrev st_init : Stmt := (inClass (top 16) 0)
theorem sc_init : scK N8 ps4 (defScope st_init) = true := by decide +kernel
theorem tx_init : IniTx 60 (ckOf N8 st_init [false, false, false, true] cn fl) F_are_fields F_told_ties F_turned_about (defBody st_init) :=
  ⟨_, _, _, _, _, _, _, _, _, _, _, _, _, _, _, _, _, _, _, _, _, _, _, _, _, _, _, _, _, _, _, _, _, _, _, _, _, _, _, rfl, by decide +kernel, by decide +kernel, by decide +kernel, by decide +kernel, by decide +kernel, by decide +kernel, by decide +kernel, by decide +kernel, by decide +kernel, by decide +kernel, by decide +kernel, by decide +kernel, by decide +kernel, by decide +kernel, by decide +kernel⟩
abbrev st_directions : Stmt := (inClass (top 16) 1)
def N_directions : List Str := ["self"]
theorem ck_directions : ckSs 60 (ckOf N_directions st_directions [false] cn fl) b_directions (defBody st_directions) = true := by decide +kernel
theorem sc_directions : scK N_directions ["self"] (defScope st_directions) = true := by decide +kernel
abbrev st_eq : Stmt := (inClass (top 16) 6)
def N_eq : List Str := ["self", "other"]
theorem ck_eq : ckSs 60 (ckOf N_eq st_eq [false, false] cn fl) b_eq (defBody st_eq) = true := by decide +kernel
theorem sc_eq : scK N_eq ["self", "other"] (defScope st_eq) = true := by decide +kernel
abbrev st_law_draw : Stmt := (top 19)
def N_law_draw : List Str := ["purse", "many", "turn", "number", "drawn"]
theorem ck_law_draw : ckSs 60 (ckOf N_law_draw st_law_draw [true, false] cn fl) b_law_draw (defBody st_law_draw) = true := by decide +kernel
theorem sc_law_draw : scK N_law_draw ["purse", "many"] (defScope st_law_draw) = true := by decide +kernel
abbrev st_law_minus : Stmt := (top 24)
def N_law_minus : List Str := ["one", "other", "first", "second"]
theorem ck_law_minus : ckSs 60 (ckOf N_law_minus st_law_minus [false, false] cn fl) b_law_minus (defBody st_law_minus) = true := by decide +kernel
theorem sc_law_minus : scK N_law_minus ["one", "other"] (defScope st_law_minus) = true := by decide +kernel
abbrev st_law_noughts : Stmt := (top 25)
def N_law_noughts : List Str := ["size", "at"]
theorem ck_law_noughts : ckSs 60 (ckOf N_law_noughts st_law_noughts [false] cn fl) b_law_noughts (defBody st_law_noughts) = true := by decide +kernel
theorem sc_law_noughts : scK N_law_noughts ["size"] (defScope st_law_noughts) = true := by decide +kernel
abbrev st_law_pick : Stmt := (top 20)
def N_law_pick : List Str := ["purse", "items"]
theorem ck_law_pick : ckSs 60 (ckOf N_law_pick st_law_pick [true, false] cn fl) b_law_pick (defBody st_law_pick) = true := by decide +kernel
theorem sc_law_pick : scK N_law_pick ["purse", "items"] (defScope st_law_pick) = true := by decide +kernel
abbrev st_law_again : Stmt := (top 30)
def N_law_again : List Str := ["purse", "ties", "found", "cut", "a", "b", "move", "back"]
theorem ck_law_again : ckSs 60 (ckOf N_law_again st_law_again [true, false] cn fl) b_law_again (defBody st_law_again) = true := by decide +kernel
theorem sc_law_again : scK N_law_again ["purse", "ties"] (defScope st_law_again) = true := by decide +kernel
abbrev st_law_sorted_knots : Stmt := (top 27)
def N_law_sorted_knots : List Str := ["knots", "numbers", "low", "many", "keyed", "place", "cell", "key", "number"]
theorem ck_law_sorted_knots : ckSs 60 (ckOf N_law_sorted_knots st_law_sorted_knots [false] cn fl) b_law_sorted_knots (defBody st_law_sorted_knots) = true := by decide +kernel
theorem sc_law_sorted_knots : scK N_law_sorted_knots ["knots"] (defScope st_law_sorted_knots) = true := by decide +kernel
abbrev st_law_told : Stmt := (top 28)
def N_law_told : List Str := ["tie", "back", "first", "a", "b", "move", "one"]
theorem ck_law_told : ckSs 60 (ckOf N_law_told st_law_told [false] cn fl) b_law_told (defBody st_law_told) = true := by decide +kernel
theorem sc_law_told : scK N_law_told ["tie"] (defScope st_law_told) = true := by decide +kernel
abbrev st_law_due : Stmt := (top 29)
def N_law_due : List Str := ["ties", "rows", "a", "b", "move", "one", "other", "way", "place", "row"]
theorem ck_law_due : ckSs 60 (ckOf N_law_due st_law_due [false] cn fl) b_law_due (defBody st_law_due) = true := by decide +kernel
theorem sc_law_due : scK N_law_due ["ties"] (defScope st_law_due) = true := by decide +kernel
abbrev st_law_move : Stmt := (top 21)
def N_law_move : List Str := ["purse", "size", "most", "at"]
theorem ck_law_move : ckSs 60 (ckOf N_law_move st_law_move [true, false, false] cn fl) b_law_move (defBody st_law_move) = true := by decide +kernel
theorem sc_law_move : scK N_law_move ["purse", "size", "most"] (defScope st_law_move) = true := by decide +kernel
abbrev st_law_fields_of : Stmt := (top 23)
def N_law_fields_of : List Str := ["purse", "size", "count", "ties", "at", "turn", "move", "a", "b", "one"]
theorem ck_law_fields_of : ckSs 60 (ckOf N_law_fields_of st_law_fields_of [true, false, false] cn fl) b_law_fields_of (defBody st_law_fields_of) = true := by decide +kernel
theorem sc_law_fields_of : scK N_law_fields_of ["purse", "size", "count"] (defScope st_law_fields_of) = true := by decide +kernel
abbrev st_law_fields : Stmt := (top 22)
def N_law_fields : List Str := ["purse", "size", "count"]
theorem ck_law_fields : ckSs 60 (ckOf N_law_fields st_law_fields [true] cn fl) b_law_fields (defBody st_law_fields) = true := by decide +kernel
theorem sc_law_fields : scK N_law_fields ["purse"] (defScope st_law_fields) = true := by decide +kernel
abbrev st_law_made : Stmt := (top 26)
def N_law_made : List Str := ["fields", "given", "made"]
theorem ck_law_made : ckSs 60 (ckOf N_law_made st_law_made [false] cn fl) b_law_made (defBody st_law_made) = true := by decide +kernel
theorem sc_law_made : scK N_law_made ["fields"] (defScope st_law_made) = true := by decide +kernel
abbrev st_law_purse : Stmt := (top 18)
def N_law_purse : List Str := ["script", "at", "cell"]
theorem ck_law_purse : ckSs 60 (ckOf N_law_purse st_law_purse [false, false] cn fl) b_law_purse (defBody st_law_purse) = true := by decide +kernel
theorem sc_law_purse : scK N_law_purse ["script", "at"] (defScope st_law_purse) = true := by decide +kernel
abbrev st_places : Stmt := (inClass (top 16) 2)
def N_places : List Str := ["self"]
theorem ck_places : ckSs 60 (ckOf N_places st_places [false] cn fl) b_places (defBody st_places) = true := by decide +kernel
theorem sc_places : scK N_places ["self"] (defScope st_places) = true := by decide +kernel
abbrev st_ties : Stmt := (inClass (top 16) 3)
def N_ties : List Str := ["self"]
theorem ck_ties : ckSs 60 (ckOf N_ties st_ties [false] cn fl) b_ties (defBody st_ties) = true := by decide +kernel
theorem sc_ties : scK N_ties ["self"] (defScope st_ties) = true := by decide +kernel
abbrev st_law : Stmt := (top 31)
def N_law : List Str := ["script", "turn", "purse", "given", "kept", "made", "due", "others", "other", "size", "count", "ties", "same", "tie"]
theorem ck_law : ckSs 60 (ckOf N_law st_law [false] cn fl) b_law02 (defBody st_law) = true := by decide +kernel
theorem sc_law : scK N_law ["script"] (defScope st_law) = true := by decide +kernel
def fs : List (Fg → Bool) := [tFree "range", tFree "enumerate", tFree "zip", tFree "len", tFree "int", tFree "abs", tFree "max", tFree "min", tFree "sorted", tFree "list", tFree "tuple", tFree "repr", tFree "isinstance", tFree "bool", tClsK "Web", tEqK "Web", tMkr "Web", tGlo "Web", tNoat "Web" "size", tNoat "Web" "count", tNoat "Web" "rows", tNoat "Web" "ways", tGlo "is_whole", tGlo "is_below", tGlo "is_move", tGlo "noughts", tGlo "is_tie", tGlo "are_fields", tGlo "in_order", tGlo "turned_about", tGlo "told_tie", tGlo "told_ties", tProp "Web" "directions", tGlo "_law_draw", tGlo "_law_minus", tGlo "_law_noughts", tGlo "_law_pick", tGlo "_law_again", tGlo "_law_sorted_knots", tGlo "_law_told", tGlo "_law_due", tGlo "_law_move", tGlo "_law_fields_of", tGlo "_law_fields", tGlo "_law_made", tGlo "_law_purse", tProp "Web" "places", tProp "Web" "ties", tGlo "law"]
def ds : List DX := [⟨gaX "is_whole", "is_whole", "is_whole", st_is_whole⟩,
  ⟨gaX "is_below", "is_below", "is_below", st_is_below⟩,
  ⟨gaX "is_move", "is_move", "is_move", st_is_move⟩,
  ⟨gaX "noughts", "noughts", "noughts", st_noughts⟩,
  ⟨gaX "is_tie", "is_tie", "is_tie", st_is_tie⟩,
  ⟨gaX "are_fields", "are_fields", "are_fields", st_are_fields⟩,
  ⟨gaX "in_order", "in_order", "in_order", st_in_order⟩,
  ⟨gaX "turned_about", "turned_about", "turned_about", st_turned_about⟩,
  ⟨gaX "told_tie", "told_tie", "told_tie", st_told_tie⟩,
  ⟨gaX "told_ties", "told_ties", "told_ties", st_told_ties⟩,
  ⟨maX "Web" "__init__", "__init__", "Web.__init__", st_init⟩,
  ⟨paX "Web" "directions", "directions", "Web.directions", st_directions⟩,
  ⟨maX "Web" "__eq__", "__eq__", "Web.__eq__", st_eq⟩,
  ⟨gaX "_law_draw", "_law_draw", "_law_draw", st_law_draw⟩,
  ⟨gaX "_law_minus", "_law_minus", "_law_minus", st_law_minus⟩,
  ⟨gaX "_law_noughts", "_law_noughts", "_law_noughts", st_law_noughts⟩,
  ⟨gaX "_law_pick", "_law_pick", "_law_pick", st_law_pick⟩,
  ⟨gaX "_law_again", "_law_again", "_law_again", st_law_again⟩,
  ⟨gaX "_law_sorted_knots", "_law_sorted_knots", "_law_sorted_knots", st_law_sorted_knots⟩,
  ⟨gaX "_law_told", "_law_told", "_law_told", st_law_told⟩,
  ⟨gaX "_law_due", "_law_due", "_law_due", st_law_due⟩,
  ⟨gaX "_law_move", "_law_move", "_law_move", st_law_move⟩,
  ⟨gaX "_law_fields_of", "_law_fields_of", "_law_fields_of", st_law_fields_of⟩,
  ⟨gaX "_law_fields", "_law_fields", "_law_fields", st_law_fields⟩,
  ⟨gaX "_law_made", "_law_made", "_law_made", st_law_made⟩,
  ⟨gaX "_law_purse", "_law_purse", "_law_purse", st_law_purse⟩,
  ⟨paX "Web" "places", "places", "Web.places", st_places⟩,
  ⟨paX "Web" "ties", "ties", "Web.ties", st_ties⟩,
  ⟨gaX "law", "law", "law", st_law⟩]
abbrev R : PySem.W.OpenRow := PySem.W.OpenLaw.row PySem.Challenge.rw_cellwebs_k02_webs_made
abbrev hk : PySem.W.Hook := hookX fs ds
def ob (s : PySem.W.SharedT) : ObX := obG fs ds (HandSHeadRun.getT s)
theorem ob_eq (s : PySem.W.SharedT) : ob s = hk.obs s.abs := obG_eq (HandSHeadRun.getT_eq s)
def names : List PySem.Str := (["_wall", "is_whole", "is_below", "is_move", "turned_about", "noughts", "in_order", "CellWebsError", "InvalidWeb", "is_tie", "are_fields", "told_tie", "told_ties", "Web", "_law_purse", "_law_draw", "_law_pick", "_law_move", "_law_fields", "_law_fields_of", "_law_minus", "_law_noughts", "_law_made", "_law_sorted_knots", "_law_told", "_law_due", "_law_again"] : List PySem.Str)
end K02
namespace K02
open PySem PySem.Spec PyProof.Rows L2 Cw
theorem run (w : World) : HandSHeadRun.RunEq R (PySem.W.view R.prog [31]) hk ob 20000 names w := by
  intro os
  kernel_rfl
end K02
namespace K02
open PySem PySem.Spec PyProof.Rows L2 Cw
theorem facts {P : Program} {w : World} {K : Fg} {h : Heap} {mg : Str → Option Value} {fa : Addr} (X : K.In h) (G : h.Ns mainGlobals mg) (hfa : mg ("law" : Str) = some (.ref fa)) (c : obX fs ds K = vlX ds) :
    ∃ (T : Tbl) (fd : FuncData), T.K.In h ∧ (∀ (s : Shared) (u : Value), BindsTo s fd ⟨[u], []⟩ [("script", u)]) ∧ ∀ base : Heap, T.K.In base → base.Ns mainGlobals mg → FnG P w T.K mg base Cw.CX0 8 fa fd ["script"] (spF T (lawF "law")) := by
  let T : Tbl := ⟨K, fun _ => gaX "Web" K, fun n => fl.getD n []⟩
  obtain ⟨fd_is_whole, F_x_is_whole⟩ := sx_def c 0 rfl
  obtain ⟨fd_is_below, F_x_is_below⟩ := sx_def c 1 rfl
  obtain ⟨fd_is_move, F_x_is_move⟩ := sx_def c 2 rfl
  obtain ⟨fd_noughts, F_x_noughts⟩ := sx_def c 3 rfl
  obtain ⟨fd_is_tie, F_x_is_tie⟩ := sx_def c 4 rfl
  obtain ⟨fd_are_fields, F_x_are_fields⟩ := sx_def c 5 rfl
  obtain ⟨fd_in_order, F_x_in_order⟩ := sx_def c 6 rfl
  obtain ⟨fd_turned_about, F_x_turned_about⟩ := sx_def c 7 rfl
  obtain ⟨fd_told_tie, F_x_told_tie⟩ := sx_def c 8 rfl
  obtain ⟨fd_told_ties, F_x_told_ties⟩ := sx_def c 9 rfl
  obtain ⟨fd_init, F_x_init⟩ := sx_def c 10 rfl
  obtain ⟨fd_directions, F_x_directions⟩ := sx_def c 11 rfl
  obtain ⟨fd_eq, F_x_eq⟩ := sx_def c 12 rfl
  obtain ⟨fd_law_draw, F_x_law_draw⟩ := sx_def c 13 rfl
  obtain ⟨fd_law_minus, F_x_law_minus⟩ := sx_def c 14 rfl
  obtain ⟨fd_law_noughts, F_x_law_noughts⟩ := sx_def c 15 rfl
  obtain ⟨fd_law_pick, F_x_law_pick⟩ := sx_def c 16 rfl
  obtain ⟨fd_law_again, F_x_law_again⟩ := sx_def c 17 rfl
  obtain ⟨fd_law_sorted_knots, F_x_law_sorted_knots⟩ := sx_def c 18 rfl
  obtain ⟨fd_law_told, F_x_law_told⟩ := sx_def c 19 rfl
  obtain ⟨fd_law_due, F_x_law_due⟩ := sx_def c 20 rfl
  obtain ⟨fd_law_move, F_x_law_move⟩ := sx_def c 21 rfl
  obtain ⟨fd_law_fields_of, F_x_law_fields_of⟩ := sx_def c 22 rfl
  obtain ⟨fd_law_fields, F_x_law_fields⟩ := sx_def c 23 rfl
  obtain ⟨fd_law_made, F_x_law_made⟩ := sx_def c 24 rfl
  obtain ⟨fd_law_purse, F_x_law_purse⟩ := sx_def c 25 rfl
  obtain ⟨fd_places, F_x_places⟩ := sx_def c 26 rfl
  obtain ⟨fd_ties, F_x_ties⟩ := sx_def c 27 rfl
  obtain ⟨fd_law, F_x_law⟩ := sx_def c 28 rfl
  have e : fa = gaX "law" K := by
    have := hfa.symm.trans (mg_glo X G (sx_fact c 48 rfl))
    injection this with this; injection this
  subst e
  refine ⟨T, fd_law, X, fun s u => by obtain ⟨oc, od, kV, doc, pm, an, cdv, ct, osl, e, lk, hcd⟩ := F_x_law.ex; subst e; exact .of_eq rfl, fun base hb1 hb2 => ?_⟩
  let M : Mo := ⟨P, w, mg, base, T, fun n => cn.getD n ""⟩
  have fr_range : M.mg "range" = none := mg_free X G (sx_fact c 0 rfl)
  have fr_enumerate : M.mg "enumerate" = none := mg_free X G (sx_fact c 1 rfl)
  have fr_zip : M.mg "zip" = none := mg_free X G (sx_fact c 2 rfl)
  have fr_len : M.mg "len" = none := mg_free X G (sx_fact c 3 rfl)
  have fr_int : M.mg "int" = none := mg_free X G (sx_fact c 4 rfl)
  have fr_abs : M.mg "abs" = none := mg_free X G (sx_fact c 5 rfl)
  have fr_max : M.mg "max" = none := mg_free X G (sx_fact c 6 rfl)
  have fr_min : M.mg "min" = none := mg_free X G (sx_fact c 7 rfl)
  have fr_sorted : M.mg "sorted" = none := mg_free X G (sx_fact c 8 rfl)
  have fr_list : M.mg "list" = none := mg_free X G (sx_fact c 9 rfl)
  have fr_tuple : M.mg "tuple" = none := mg_free X G (sx_fact c 10 rfl)
  have fr_repr : M.mg "repr" = none := mg_free X G (sx_fact c 11 rfl)
  have fr_isinstance : M.mg "isinstance" = none := mg_free X G (sx_fact c 12 rfl)
  have fr_bool : M.mg "bool" = none := mg_free X G (sx_fact c 13 rfl)
  have cK : ClsK K (gaX "Web" K) := clsK_ok (sx_fact c 14 rfl)
  have cW : Cls K (gaX "Web" K) := cK.cl
  have aW : ∀ x ∈ (["size", "count", "rows", "ways"] : List Str), NoAttr K (gaX "Web" K) x := fun x m => by
    simp only [List.mem_cons, List.not_mem_nil, or_false] at m
    rcases m with rfl | rfl | rfl | rfl
    · exact He.noat_ok (sx_fact c 18 rfl)
    · exact He.noat_ok (sx_fact c 19 rfl)
    · exact He.noat_ok (sx_fact c 20 rfl)
    · exact He.noat_ok (sx_fact c 21 rfl)
  have gW : M.mg "Web" = some (.ref (gaX "Web" K)) := mg_glo X G (sx_fact c 17 rfl)
  have fW : FldK T 0 := ⟨(by decide +kernel : (["size", "count", "rows", "ways"] : List Str).Nodup), cW, aW⟩
  have iW : IscK M 0 := ⟨cK, gW, (by decide +kernel : (("Web" : Str) == ("__debug__" : Str)) = false)⟩
  have cA : ∀ n, ClsK M.T.K (M.T.cls n) := fun _ => cK
  have bi_is_whole : Binds K fd_is_whole ["value"] [] := F_x_is_whole.binds (ps := ["value"]) fun _ _ _ _ _ _ us hl => match us, hl with | [_], _ => rfl
  have g_is_whole : FnG M.prog M.w M.T.K M.mg M.base Cw.CX0 1 _ fd_is_whole ["value"] (spF M.T F_is_whole) := def_ok (M := M) (k := 0) F_x_is_whole (fun _ => rfl) (fun _ => rfl) sc_is_whole rfl ck_is_whole (by
    simp only [b_is_whole, b_lsk1, b_lsk2, b_key, b_row, b_way, b_law_purse2, b_law02_turn, b_law02_two, b_law02_other, knS, knE, knI, and_true, true_and]
    repeat' apply And.intro
    all_goals first | exact fr_range | exact fr_enumerate | exact fr_zip | exact fr_len | exact fr_int | exact fr_abs | exact fr_max | exact fr_min | exact fr_sorted | exact fr_list | exact fr_tuple | exact fr_repr | exact fr_isinstance | exact fr_bool | exact fW | exact iW | exact cA | exact trivial) (pure_body w_is_whole)
  have v_is_whole : ∀ k, 1 ≤ k → CallV M k F_is_whole := fun k hk => CallV.of_fn g_is_whole hk (mg_glo X G (sx_fact c 22 rfl)) F_x_is_whole.kp bi_is_whole (by decide +kernel)
  have bi_is_below : Binds K fd_is_below ["value", "end"] [] := F_x_is_below.binds (ps := ["value", "end"]) fun _ _ _ _ _ _ us hl => match us, hl with | [_, _], _ => rfl
  have g_is_below : FnG M.prog M.w M.T.K M.mg M.base Cw.CX0 2 _ fd_is_below ["value", "end"] (spF M.T F_is_below) := def_ok (M := M) (k := 1) F_x_is_below (fun _ => rfl) (fun _ => rfl) sc_is_below rfl ck_is_below (by
    simp only [b_is_below, b_lsk1, b_lsk2, b_key, b_row, b_way, b_law_purse2, b_law02_turn, b_law02_two, b_law02_other, knS, knE, knI, and_true, true_and]
    repeat' apply And.intro
    all_goals first | exact v_is_whole _ (by decide) | exact fr_range | exact fr_enumerate | exact fr_zip | exact fr_len | exact fr_int | exact fr_abs | exact fr_max | exact fr_min | exact fr_sorted | exact fr_list | exact fr_tuple | exact fr_repr | exact fr_isinstance | exact fr_bool | exact fW | exact iW | exact cA | exact trivial) (pure_body w_is_below)
  have v_is_below : ∀ k, 2 ≤ k → CallV M k F_is_below := fun k hk => CallV.of_fn g_is_below hk (mg_glo X G (sx_fact c 23 rfl)) F_x_is_below.kp bi_is_below (by decide +kernel)
  have bi_is_move : Binds K fd_is_move ["value", "size"] [] := F_x_is_move.binds (ps := ["value", "size"]) fun _ _ _ _ _ _ us hl => match us, hl with | [_, _], _ => rfl
  have g_is_move : FnG M.prog M.w M.T.K M.mg M.base Cw.CX0 2 _ fd_is_move ["value", "size"] (spF M.T F_is_move) := def_ok (M := M) (k := 1) F_x_is_move (fun _ => rfl) (fun _ => rfl) sc_is_move rfl ck_is_move (by
    simp only [b_is_move, b_lsk1, b_lsk2, b_key, b_row, b_way, b_law_purse2, b_law02_turn, b_law02_two, b_law02_other, knS, knE, knI, and_true, true_and]
    repeat' apply And.intro
    all_goals first | exact v_is_whole _ (by decide) | exact fr_range | exact fr_enumerate | exact fr_zip | exact fr_len | exact fr_int | exact fr_abs | exact fr_max | exact fr_min | exact fr_sorted | exact fr_list | exact fr_tuple | exact fr_repr | exact fr_isinstance | exact fr_bool | exact fW | exact iW | exact cA | exact trivial) (pure_body w_is_move)
  have v_is_move : ∀ k, 2 ≤ k → CallV M k F_is_move := fun k hk => CallV.of_fn g_is_move hk (mg_glo X G (sx_fact c 24 rfl)) F_x_is_move.kp bi_is_move (by decide +kernel)
  have bi_noughts : Binds K fd_noughts ["size"] [] := F_x_noughts.binds (ps := ["size"]) fun _ _ _ _ _ _ us hl => match us, hl with | [_], _ => rfl
  have g_noughts : FnG M.prog M.w M.T.K M.mg M.base Cw.CX0 1 _ fd_noughts ["size"] (spF M.T F_noughts) := def_ok (M := M) (k := 0) F_x_noughts (fun _ => rfl) (fun _ => rfl) sc_noughts rfl ck_noughts (by
    simp only [b_noughts, b_lsk1, b_lsk2, b_key, b_row, b_way, b_law_purse2, b_law02_turn, b_law02_two, b_law02_other, knS, knE, knI, and_true, true_and]
    repeat' apply And.intro
    all_goals first | exact fr_range | exact fr_enumerate | exact fr_zip | exact fr_len | exact fr_int | exact fr_abs | exact fr_max | exact fr_min | exact fr_sorted | exact fr_list | exact fr_tuple | exact fr_repr | exact fr_isinstance | exact fr_bool | exact fW | exact iW | exact cA | exact trivial) (pure_body w_noughts)
  have v_noughts : ∀ k, 1 ≤ k → CallV M k F_noughts := fun k hk => CallV.of_fn g_noughts hk (mg_glo X G (sx_fact c 25 rfl)) F_x_noughts.kp bi_noughts (by decide +kernel)
  have bi_is_tie : Binds K fd_is_tie ["directions", "places", "value"] [] := F_x_is_tie.binds (ps := ["directions", "places", "value"]) fun _ _ _ _ _ _ us hl => match us, hl with | [_, _, _], _ => rfl
  have g_is_tie : FnG M.prog M.w M.T.K M.mg M.base Cw.CX0 3 _ fd_is_tie ["directions", "places", "value"] (spF M.T F_is_tie) := def_ok (M := M) (k := 2) F_x_is_tie (fun _ => rfl) (fun _ => rfl) sc_is_tie rfl ck_is_tie (by
    simp only [b_is_tie, b_lsk1, b_lsk2, b_key, b_row, b_way, b_law_purse2, b_law02_turn, b_law02_two, b_law02_other, knS, knE, knI, and_true, true_and]
    repeat' apply And.intro
    all_goals first | exact v_is_below _ (by decide) | exact v_is_move _ (by decide) | exact v_noughts _ (by decide) | exact fr_range | exact fr_enumerate | exact fr_zip | exact fr_len | exact fr_int | exact fr_abs | exact fr_max | exact fr_min | exact fr_sorted | exact fr_list | exact fr_tuple | exact fr_repr | exact fr_isinstance | exact fr_bool | exact fW | exact iW | exact cA | exact trivial) (pure_body w_is_tie)
  have v_is_tie : ∀ k, 3 ≤ k → CallV M k F_is_tie := fun k hk => CallV.of_fn g_is_tie hk (mg_glo X G (sx_fact c 26 rfl)) F_x_is_tie.kp bi_is_tie (by decide +kernel)
  have bi_are_fields : Binds K fd_are_fields ["directions", "places", "ties"] [] := F_x_are_fields.binds (ps := ["directions", "places", "ties"]) fun _ _ _ _ _ _ us hl => match us, hl with | [_, _, _], _ => rfl
  have g_are_fields : FnG M.prog M.w M.T.K M.mg M.base Cw.CX0 4 _ fd_are_fields ["directions", "places", "ties"] (spF M.T F_are_fields) := def_ok (M := M) (k := 3) F_x_are_fields (fun _ => rfl) (fun _ => rfl) sc_are_fields rfl ck_are_fields (by
    simp only [b_are_fields, b_lsk1, b_lsk2, b_key, b_row, b_way, b_law_purse2, b_law02_turn, b_law02_two, b_law02_other, knS, knE, knI, and_true, true_and]
    repeat' apply And.intro
    all_goals first | exact v_is_tie _ (by decide) | exact v_is_whole _ (by decide) | exact fr_range | exact fr_enumerate | exact fr_zip | exact fr_len | exact fr_int | exact fr_abs | exact fr_max | exact fr_min | exact fr_sorted | exact fr_list | exact fr_tuple | exact fr_repr | exact fr_isinstance | exact fr_bool | exact fW | exact iW | exact cA | exact trivial) (pure_body w_are_fields)
  have v_are_fields : ∀ k, 4 ≤ k → CallV M k F_are_fields := fun k hk => CallV.of_fn g_are_fields hk (mg_glo X G (sx_fact c 27 rfl)) F_x_are_fields.kp bi_are_fields (by decide +kernel)
  have bi_in_order : Binds K fd_in_order ["rows"] [] := F_x_in_order.binds (ps := ["rows"]) fun _ _ _ _ _ _ us hl => match us, hl with | [_], _ => rfl
  have g_in_order : FnG M.prog M.w M.T.K M.mg M.base Cw.CX0 1 _ fd_in_order ["rows"] (spF M.T F_in_order) := def_ok (M := M) (k := 0) F_x_in_order (fun _ => rfl) (fun _ => rfl) sc_in_order rfl ck_in_order (by
    simp only [b_in_order_w, b_lsk1, b_lsk2, b_key, b_row, b_way, b_law_purse2, b_law02_turn, b_law02_two, b_law02_other, knS, knE, knI, and_true, true_and]
    repeat' apply And.intro
    all_goals first | exact fr_range | exact fr_enumerate | exact fr_zip | exact fr_len | exact fr_int | exact fr_abs | exact fr_max | exact fr_min | exact fr_sorted | exact fr_list | exact fr_tuple | exact fr_repr | exact fr_isinstance | exact fr_bool | exact fW | exact iW | exact cA | exact trivial) (pure_body w_in_order')
  have v_in_order : ∀ k, 1 ≤ k → CallV M k F_in_order := fun k hk => CallV.of_fn g_in_order hk (mg_glo X G (sx_fact c 28 rfl)) F_x_in_order.kp bi_in_order (by decide +kernel)
  have bi_turned_about : Binds K fd_turned_about ["move"] [] := F_x_turned_about.binds (ps := ["move"]) fun _ _ _ _ _ _ us hl => match us, hl with | [_], _ => rfl
  have g_turned_about : FnG M.prog M.w M.T.K M.mg M.base Cw.CX0 1 _ fd_turned_about ["move"] (spF M.T F_turned_about) := def_ok (M := M) (k := 0) F_x_turned_about (fun _ => rfl) (fun _ => rfl) sc_turned_about rfl ck_turned_about (by
    simp only [b_turned_about, b_lsk1, b_lsk2, b_key, b_row, b_way, b_law_purse2, b_law02_turn, b_law02_two, b_law02_other, knS, knE, knI, and_true, true_and]
    repeat' apply And.intro
    all_goals first | exact fr_range | exact fr_enumerate | exact fr_zip | exact fr_len | exact fr_int | exact fr_abs | exact fr_max | exact fr_min | exact fr_sorted | exact fr_list | exact fr_tuple | exact fr_repr | exact fr_isinstance | exact fr_bool | exact fW | exact iW | exact cA | exact trivial) (pure_body w_turned_about)
  have v_turned_about : ∀ k, 1 ≤ k → CallV M k F_turned_about := fun k hk => CallV.of_fn g_turned_about hk (mg_glo X G (sx_fact c 29 rfl)) F_x_turned_about.kp bi_turned_about (by decide +kernel)
  have bi_told_tie : Binds K fd_told_tie ["tie"] [] := F_x_told_tie.binds (ps := ["tie"]) fun _ _ _ _ _ _ us hl => match us, hl with | [_], _ => rfl
  have g_told_tie : FnG M.prog M.w M.T.K M.mg M.base Cw.CX0 2 _ fd_told_tie ["tie"] (spF M.T F_told_tie) := def_ok (M := M) (k := 1) F_x_told_tie (fun _ => rfl) (fun _ => rfl) sc_told_tie rfl ck_told_tie (by
    simp only [b_told_tie, b_lsk1, b_lsk2, b_key, b_row, b_way, b_law_purse2, b_law02_turn, b_law02_two, b_law02_other, knS, knE, knI, and_true, true_and]
    repeat' apply And.intro
    all_goals first | exact v_in_order _ (by decide) | exact v_turned_about _ (by decide) | exact fr_range | exact fr_enumerate | exact fr_zip | exact fr_len | exact fr_int | exact fr_abs | exact fr_max | exact fr_min | exact fr_sorted | exact fr_list | exact fr_tuple | exact fr_repr | exact fr_isinstance | exact fr_bool | exact fW | exact iW | exact cA | exact trivial) (pure_body w_told_tie)
  have v_told_tie : ∀ k, 2 ≤ k → CallV M k F_told_tie := fun k hk => CallV.of_fn g_told_tie hk (mg_glo X G (sx_fact c 30 rfl)) F_x_told_tie.kp bi_told_tie (by decide +kernel)
  have bi_told_ties : Binds K fd_told_ties ["ties"] [] := F_x_told_ties.binds (ps := ["ties"]) fun _ _ _ _ _ _ us hl => match us, hl with | [_], _ => rfl
  have g_told_ties : FnG M.prog M.w M.T.K M.mg M.base Cw.CX0 3 _ fd_told_ties ["ties"] (spF M.T F_told_ties) := def_ok (M := M) (k := 2) F_x_told_ties (fun _ => rfl) (fun _ => rfl) sc_told_ties rfl ck_told_ties (by
    simp only [b_told_ties, b_lsk1, b_lsk2, b_key, b_row, b_way, b_law_purse2, b_law02_turn, b_law02_two, b_law02_other, knS, knE, knI, and_true, true_and]
    repeat' apply And.intro
    all_goals first | exact v_in_order _ (by decide) | exact v_told_tie _ (by decide) | exact fr_range | exact fr_enumerate | exact fr_zip | exact fr_len | exact fr_int | exact fr_abs | exact fr_max | exact fr_min | exact fr_sorted | exact fr_list | exact fr_tuple | exact fr_repr | exact fr_isinstance | exact fr_bool | exact fW | exact iW | exact cA | exact trivial) (both_body w_told_ties w_told_tiesD)
  have v_told_ties : ∀ k, 3 ≤ k → CallV M k F_told_ties := fun k hk => CallV.of_fn g_told_ties hk (mg_glo X G (sx_fact c 31 rfl)) F_x_told_ties.kp bi_told_ties (by decide +kernel)
  have bi_init : Binds K fd_init ["self", "directions", "places", "ties"] [] := F_x_init.binds (ps := ["self", "directions", "places", "ties"]) fun _ _ _ _ _ _ us hl => match us, hl with | [_, _, _, _], _ => rfl
  have g_init : FnG M.prog M.w M.T.K M.mg M.base Cw.CX0 5 _ fd_init ps4 (fun vs H Q E => spIni2 M.T 0 (webPre2 F_are_fields F_told_ties F_turned_about) vs H Q E ∨ spIni M.T 0 3 (webPre F_are_fields F_told_ties F_turned_about) vs H Q E) := FnG.or (init_ok2 (M := M) (k := 4) F_x_init (fun _ => rfl) (fun _ => rfl) sc_init tx_init (v_are_fields _ (by decide)) (v_told_ties _ (by decide)) (v_turned_about _ (by decide)) fr_range rfl rfl rfl cW aW rfl) (init_ok3 (M := M) (k := 4) F_x_init (fun _ => rfl) (fun _ => rfl) sc_init tx_init (v_are_fields _ (by decide)) (v_told_ties _ (by decide)) (v_turned_about _ (by decide)) fr_range rfl rfl rfl cW aW rfl)
  have v_Web : ∀ k, 6 ≤ k → CallV M k F_Web := fun k hk => CallV.of_make3 g_init hk gW (He.mkr_ok (sx_fact c 16 rfl)) bi_init (by decide +kernel)
  have bi_directions : Binds K fd_directions ["self"] [] := F_x_directions.binds (ps := ["self"]) fun _ _ _ _ _ _ us hl => match us, hl with | [_], _ => rfl
  have g_directions : FnG M.prog M.w M.T.K M.mg M.base Cw.CX0 1 _ fd_directions ["self"] (spF M.T F_directions) := def_ok (M := M) (k := 0) F_x_directions (fun _ => rfl) (fun _ => rfl) sc_directions rfl ck_directions (by
    simp only [b_directions, b_lsk1, b_lsk2, b_key, b_row, b_way, b_law_purse2, b_law02_turn, b_law02_two, b_law02_other, knS, knE, knI, and_true, true_and]
    repeat' apply And.intro
    all_goals first | exact fr_range | exact fr_enumerate | exact fr_zip | exact fr_len | exact fr_int | exact fr_abs | exact fr_max | exact fr_min | exact fr_sorted | exact fr_list | exact fr_tuple | exact fr_repr | exact fr_isinstance | exact fr_bool | exact fW | exact iW | exact cA | exact trivial) (pure_body w_directions)
  have v_directions : ∀ k, 2 ≤ k → PropV M k F_directions 0 := fun k hk => PropV.of_fn g_directions hk cW (prop_ok (sx_fact c 32 rfl)) bi_directions
  have bi_eq : Binds K fd_eq ["self", "other"] [] := F_x_eq.binds (ps := ["self", "other"]) fun _ _ _ _ _ _ us hl => match us, hl with | [_, _], _ => rfl
  have g_eq : FnG M.prog M.w M.T.K M.mg M.base Cw.CX0 1 _ fd_eq ["self", "other"] (spF M.T F_eq) := def_ok (M := M) (k := 0) F_x_eq (fun _ => rfl) (fun _ => rfl) sc_eq rfl ck_eq (by
    simp only [b_eq, b_lsk1, b_lsk2, b_key, b_row, b_way, b_law_purse2, b_law02_turn, b_law02_two, b_law02_other, knS, knE, knI, and_true, true_and]
    repeat' apply And.intro
    all_goals first | exact fr_range | exact fr_enumerate | exact fr_zip | exact fr_len | exact fr_int | exact fr_abs | exact fr_max | exact fr_min | exact fr_sorted | exact fr_list | exact fr_tuple | exact fr_repr | exact fr_isinstance | exact fr_bool | exact fW | exact iW | exact cA | exact trivial) (pure_body w_eq)
  have v_eq : ∀ k, 2 ≤ k → EqV M k F_eq 0 := fun k hk => EqV.of_fn g_eq hk (eqK_ok (T := T) (x := "Web") (fun _ => rfl) cK (sx_fact c 15 rfl)) bi_eq
  have bi_law_draw : Binds K fd_law_draw ["purse", "many"] [] := F_x_law_draw.binds (ps := ["purse", "many"]) fun _ _ _ _ _ _ us hl => match us, hl with | [_, _], _ => rfl
  have g_law_draw : FnG M.prog M.w M.T.K M.mg M.base Cw.CX0 1 _ fd_law_draw ["purse", "many"] (spF M.T F_law_draw) := def_ok (M := M) (k := 0) F_x_law_draw (fun _ => rfl) (fun _ => rfl) sc_law_draw rfl ck_law_draw (by
    simp only [b_law_draw, b_lsk1, b_lsk2, b_key, b_row, b_way, b_law_purse2, b_law02_turn, b_law02_two, b_law02_other, knS, knE, knI, and_true, true_and]
    repeat' apply And.intro
    all_goals first | exact fr_range | exact fr_enumerate | exact fr_zip | exact fr_len | exact fr_int | exact fr_abs | exact fr_max | exact fr_min | exact fr_sorted | exact fr_list | exact fr_tuple | exact fr_repr | exact fr_isinstance | exact fr_bool | exact fW | exact iW | exact cA | exact trivial) (own_body w_law_draw)
  have v_law_draw : ∀ k, 1 ≤ k → CallV M k F_law_draw := fun k hk => CallV.of_fn g_law_draw hk (mg_glo X G (sx_fact c 33 rfl)) F_x_law_draw.kp bi_law_draw (by decide +kernel)
  have bi_law_minus : Binds K fd_law_minus ["one", "other"] [] := F_x_law_minus.binds (ps := ["one", "other"]) fun _ _ _ _ _ _ us hl => match us, hl with | [_, _], _ => rfl
  have g_law_minus : FnG M.prog M.w M.T.K M.mg M.base Cw.CX0 1 _ fd_law_minus ["one", "other"] (spF M.T F_law_minus) := def_ok (M := M) (k := 0) F_x_law_minus (fun _ => rfl) (fun _ => rfl) sc_law_minus rfl ck_law_minus (by
    simp only [b_law_minus, b_lsk1, b_lsk2, b_key, b_row, b_way, b_law_purse2, b_law02_turn, b_law02_two, b_law02_other, knS, knE, knI, and_true, true_and]
    repeat' apply And.intro
    all_goals first | exact fr_range | exact fr_enumerate | exact fr_zip | exact fr_len | exact fr_int | exact fr_abs | exact fr_max | exact fr_min | exact fr_sorted | exact fr_list | exact fr_tuple | exact fr_repr | exact fr_isinstance | exact fr_bool | exact fW | exact iW | exact cA | exact trivial) (pure_body w_law_minus)
  have v_law_minus : ∀ k, 1 ≤ k → CallV M k F_law_minus := fun k hk => CallV.of_fn g_law_minus hk (mg_glo X G (sx_fact c 34 rfl)) F_x_law_minus.kp bi_law_minus (by decide +kernel)
  have bi_law_noughts : Binds K fd_law_noughts ["size"] [] := F_x_law_noughts.binds (ps := ["size"]) fun _ _ _ _ _ _ us hl => match us, hl with | [_], _ => rfl
  have g_law_noughts : FnG M.prog M.w M.T.K M.mg M.base Cw.CX0 1 _ fd_law_noughts ["size"] (spF M.T F_law_noughts) := def_ok (M := M) (k := 0) F_x_law_noughts (fun _ => rfl) (fun _ => rfl) sc_law_noughts rfl ck_law_noughts (by
    simp only [b_law_noughts, b_lsk1, b_lsk2, b_key, b_row, b_way, b_law_purse2, b_law02_turn, b_law02_two, b_law02_other, knS, knE, knI, and_true, true_and]
    repeat' apply And.intro
    all_goals first | exact fr_range | exact fr_enumerate | exact fr_zip | exact fr_len | exact fr_int | exact fr_abs | exact fr_max | exact fr_min | exact fr_sorted | exact fr_list | exact fr_tuple | exact fr_repr | exact fr_isinstance | exact fr_bool | exact fW | exact iW | exact cA | exact trivial) (pure_body w_law_noughts)
  have v_law_noughts : ∀ k, 1 ≤ k → CallV M k F_law_noughts := fun k hk => CallV.of_fn g_law_noughts hk (mg_glo X G (sx_fact c 35 rfl)) F_x_law_noughts.kp bi_law_noughts (by decide +kernel)
  have bi_law_pick : Binds K fd_law_pick ["purse", "items"] [] := F_x_law_pick.binds (ps := ["purse", "items"]) fun _ _ _ _ _ _ us hl => match us, hl with | [_, _], _ => rfl
  have g_law_pick : FnG M.prog M.w M.T.K M.mg M.base Cw.CX0 2 _ fd_law_pick ["purse", "items"] (spF M.T F_law_pick) := def_ok (M := M) (k := 1) F_x_law_pick (fun _ => rfl) (fun _ => rfl) sc_law_pick rfl ck_law_pick (by
    simp only [b_law_pick, b_lsk1, b_lsk2, b_key, b_row, b_way, b_law_purse2, b_law02_turn, b_law02_two, b_law02_other, knS, knE, knI, and_true, true_and]
    repeat' apply And.intro
    all_goals first | exact v_law_draw _ (by decide) | exact fr_range | exact fr_enumerate | exact fr_zip | exact fr_len | exact fr_int | exact fr_abs | exact fr_max | exact fr_min | exact fr_sorted | exact fr_list | exact fr_tuple | exact fr_repr | exact fr_isinstance | exact fr_bool | exact fW | exact iW | exact cA | exact trivial) (own_body w_law_pick)
  have v_law_pick : ∀ k, 2 ≤ k → CallV M k F_law_pick := fun k hk => CallV.of_fn g_law_pick hk (mg_glo X G (sx_fact c 36 rfl)) F_x_law_pick.kp bi_law_pick (by decide +kernel)
  have bi_law_again : Binds K fd_law_again ["purse", "ties"] [] := F_x_law_again.binds (ps := ["purse", "ties"]) fun _ _ _ _ _ _ us hl => match us, hl with | [_, _], _ => rfl
  have g_law_again : FnG M.prog M.w M.T.K M.mg M.base Cw.CX0 3 _ fd_law_again ["purse", "ties"] (spF M.T F_law_again) := def_ok (M := M) (k := 2) F_x_law_again (fun _ => rfl) (fun _ => rfl) sc_law_again rfl ck_law_again (by
    simp only [b_law_again, b_lsk1, b_lsk2, b_key, b_row, b_way, b_law_purse2, b_law02_turn, b_law02_two, b_law02_other, knS, knE, knI, and_true, true_and]
    repeat' apply And.intro
    all_goals first | exact v_law_draw _ (by decide) | exact v_law_minus _ (by decide) | exact v_law_noughts _ (by decide) | exact v_law_pick _ (by decide) | exact fr_range | exact fr_enumerate | exact fr_zip | exact fr_len | exact fr_int | exact fr_abs | exact fr_max | exact fr_min | exact fr_sorted | exact fr_list | exact fr_tuple | exact fr_repr | exact fr_isinstance | exact fr_bool | exact fW | exact iW | exact cA | exact trivial) (own_body w_law_again)
  have v_law_again : ∀ k, 3 ≤ k → CallV M k F_law_again := fun k hk => CallV.of_fn g_law_again hk (mg_glo X G (sx_fact c 37 rfl)) F_x_law_again.kp bi_law_again (by decide +kernel)
  have bi_law_sorted_knots : Binds K fd_law_sorted_knots ["knots"] [] := F_x_law_sorted_knots.binds (ps := ["knots"]) fun _ _ _ _ _ _ us hl => match us, hl with | [_], _ => rfl
  have g_law_sorted_knots : FnG M.prog M.w M.T.K M.mg M.base Cw.CX0 1 _ fd_law_sorted_knots ["knots"] (spF M.T F_law_sorted_knots) := def_ok (M := M) (k := 0) F_x_law_sorted_knots (fun _ => rfl) (fun _ => rfl) sc_law_sorted_knots rfl ck_law_sorted_knots (by
    simp only [b_law_sorted_knots, b_lsk1, b_lsk2, b_key, b_row, b_way, b_law_purse2, b_law02_turn, b_law02_two, b_law02_other, knS, knE, knI, and_true, true_and]
    repeat' apply And.intro
    all_goals first | exact fr_range | exact fr_enumerate | exact fr_zip | exact fr_len | exact fr_int | exact fr_abs | exact fr_max | exact fr_min | exact fr_sorted | exact fr_list | exact fr_tuple | exact fr_repr | exact fr_isinstance | exact fr_bool | exact fW | exact iW | exact cA | exact trivial) (pure_body w_law_sorted_knots)
  have v_law_sorted_knots : ∀ k, 1 ≤ k → CallV M k F_law_sorted_knots := fun k hk => CallV.of_fn g_law_sorted_knots hk (mg_glo X G (sx_fact c 38 rfl)) F_x_law_sorted_knots.kp bi_law_sorted_knots (by decide +kernel)
  have bi_law_told : Binds K fd_law_told ["tie"] [] := F_x_law_told.binds (ps := ["tie"]) fun _ _ _ _ _ _ us hl => match us, hl with | [_], _ => rfl
  have g_law_told : FnG M.prog M.w M.T.K M.mg M.base Cw.CX0 2 _ fd_law_told ["tie"] (spF M.T F_law_told) := def_ok (M := M) (k := 1) F_x_law_told (fun _ => rfl) (fun _ => rfl) sc_law_told rfl ck_law_told (by
    simp only [b_law_told, b_lsk1, b_lsk2, b_key, b_row, b_way, b_law_purse2, b_law02_turn, b_law02_two, b_law02_other, knS, knE, knI, and_true, true_and]
    repeat' apply And.intro
    all_goals first | exact v_law_minus _ (by decide) | exact v_law_noughts _ (by decide) | exact fr_range | exact fr_enumerate | exact fr_zip | exact fr_len | exact fr_int | exact fr_abs | exact fr_max | exact fr_min | exact fr_sorted | exact fr_list | exact fr_tuple | exact fr_repr | exact fr_isinstance | exact fr_bool | exact fW | exact iW | exact cA | exact trivial) (pure_body w_law_told)
  have v_law_told : ∀ k, 2 ≤ k → CallV M k F_law_told := fun k hk => CallV.of_fn g_law_told hk (mg_glo X G (sx_fact c 39 rfl)) F_x_law_told.kp bi_law_told (by decide +kernel)
  have bi_law_due : Binds K fd_law_due ["ties"] [] := F_x_law_due.binds (ps := ["ties"]) fun _ _ _ _ _ _ us hl => match us, hl with | [_], _ => rfl
  have g_law_due : FnG M.prog M.w M.T.K M.mg M.base Cw.CX0 3 _ fd_law_due ["ties"] (spF M.T F_law_due) := def_ok (M := M) (k := 2) F_x_law_due (fun _ => rfl) (fun _ => rfl) sc_law_due rfl ck_law_due (by
    simp only [b_law_due, b_lsk1, b_lsk2, b_key, b_row, b_way, b_law_purse2, b_law02_turn, b_law02_two, b_law02_other, knS, knE, knI, and_true, true_and]
    repeat' apply And.intro
    all_goals first | exact v_law_sorted_knots _ (by decide) | exact v_law_told _ (by decide) | exact fr_range | exact fr_enumerate | exact fr_zip | exact fr_len | exact fr_int | exact fr_abs | exact fr_max | exact fr_min | exact fr_sorted | exact fr_list | exact fr_tuple | exact fr_repr | exact fr_isinstance | exact fr_bool | exact fW | exact iW | exact cA | exact trivial) (pure_body w_law_due)
  have v_law_due : ∀ k, 3 ≤ k → CallV M k F_law_due := fun k hk => CallV.of_fn g_law_due hk (mg_glo X G (sx_fact c 40 rfl)) F_x_law_due.kp bi_law_due (by decide +kernel)
  have bi_law_move : Binds K fd_law_move ["purse", "size", "most"] [] := F_x_law_move.binds (ps := ["purse", "size", "most"]) fun _ _ _ _ _ _ us hl => match us, hl with | [_, _, _], _ => rfl
  have g_law_move : FnG M.prog M.w M.T.K M.mg M.base Cw.CX0 2 _ fd_law_move ["purse", "size", "most"] (spF M.T F_law_move) := def_ok (M := M) (k := 1) F_x_law_move (fun _ => rfl) (fun _ => rfl) sc_law_move rfl ck_law_move (by
    simp only [b_law_move, b_lsk1, b_lsk2, b_key, b_row, b_way, b_law_purse2, b_law02_turn, b_law02_two, b_law02_other, knS, knE, knI, and_true, true_and]
    repeat' apply And.intro
    all_goals first | exact v_law_draw _ (by decide) | exact fr_range | exact fr_enumerate | exact fr_zip | exact fr_len | exact fr_int | exact fr_abs | exact fr_max | exact fr_min | exact fr_sorted | exact fr_list | exact fr_tuple | exact fr_repr | exact fr_isinstance | exact fr_bool | exact fW | exact iW | exact cA | exact trivial) (own_body w_law_move)
  have v_law_move : ∀ k, 2 ≤ k → CallV M k F_law_move := fun k hk => CallV.of_fn g_law_move hk (mg_glo X G (sx_fact c 41 rfl)) F_x_law_move.kp bi_law_move (by decide +kernel)
  have bi_law_fields_of : Binds K fd_law_fields_of ["purse", "size", "count"] [] := F_x_law_fields_of.binds (ps := ["purse", "size", "count"]) fun _ _ _ _ _ _ us hl => match us, hl with | [_, _, _], _ => rfl
  have g_law_fields_of : FnG M.prog M.w M.T.K M.mg M.base Cw.CX0 3 _ fd_law_fields_of ["purse", "size", "count"] (spF M.T F_law_fields_of) := def_ok (M := M) (k := 2) F_x_law_fields_of (fun _ => rfl) (fun _ => rfl) sc_law_fields_of rfl ck_law_fields_of (by
    simp only [b_law_fields_of, b_lsk1, b_lsk2, b_key, b_row, b_way, b_law_purse2, b_law02_turn, b_law02_two, b_law02_other, knS, knE, knI, and_true, true_and]
    repeat' apply And.intro
    all_goals first | exact v_law_draw _ (by decide) | exact v_law_move _ (by decide) | exact v_law_pick _ (by decide) | exact fr_range | exact fr_enumerate | exact fr_zip | exact fr_len | exact fr_int | exact fr_abs | exact fr_max | exact fr_min | exact fr_sorted | exact fr_list | exact fr_tuple | exact fr_repr | exact fr_isinstance | exact fr_bool | exact fW | exact iW | exact cA | exact trivial) (own_body w_law_fields_of)
  have v_law_fields_of : ∀ k, 3 ≤ k → CallV M k F_law_fields_of := fun k hk => CallV.of_fn g_law_fields_of hk (mg_glo X G (sx_fact c 42 rfl)) F_x_law_fields_of.kp bi_law_fields_of (by decide +kernel)
  have bi_law_fields : Binds K fd_law_fields ["purse"] [] := F_x_law_fields.binds (ps := ["purse"]) fun _ _ _ _ _ _ us hl => match us, hl with | [_], _ => rfl
  have g_law_fields : FnG M.prog M.w M.T.K M.mg M.base Cw.CX0 4 _ fd_law_fields ["purse"] (spF M.T F_law_fields) := def_ok (M := M) (k := 3) F_x_law_fields (fun _ => rfl) (fun _ => rfl) sc_law_fields rfl ck_law_fields (by
    simp only [b_law_fields, b_lsk1, b_lsk2, b_key, b_row, b_way, b_law_purse2, b_law02_turn, b_law02_two, b_law02_other, knS, knE, knI, and_true, true_and]
    repeat' apply And.intro
    all_goals first | exact v_law_fields_of _ (by decide) | exact v_law_pick _ (by decide) | exact fr_range | exact fr_enumerate | exact fr_zip | exact fr_len | exact fr_int | exact fr_abs | exact fr_max | exact fr_min | exact fr_sorted | exact fr_list | exact fr_tuple | exact fr_repr | exact fr_isinstance | exact fr_bool | exact fW | exact iW | exact cA | exact trivial) (own_body w_law_fields)
  have v_law_fields : ∀ k, 4 ≤ k → CallV M k F_law_fields := fun k hk => CallV.of_fn g_law_fields hk (mg_glo X G (sx_fact c 43 rfl)) F_x_law_fields.kp bi_law_fields (by decide +kernel)
  have bi_law_made : Binds K fd_law_made ["fields"] [] := F_x_law_made.binds (ps := ["fields"]) fun _ _ _ _ _ _ us hl => match us, hl with | [_], _ => rfl
  have g_law_made : FnG M.prog M.w M.T.K M.mg M.base Cw.CX0 7 _ fd_law_made ["fields"] (spF M.T F_law_made) := def_ok (M := M) (k := 6) F_x_law_made (fun _ => rfl) (fun _ => rfl) sc_law_made rfl ck_law_made (by
    simp only [b_law_made, b_lsk1, b_lsk2, b_key, b_row, b_way, b_law_purse2, b_law02_turn, b_law02_two, b_law02_other, knS, knE, knI, and_true, true_and]
    repeat' apply And.intro
    all_goals first | exact v_Web _ (by decide) | exact fr_range | exact fr_enumerate | exact fr_zip | exact fr_len | exact fr_int | exact fr_abs | exact fr_max | exact fr_min | exact fr_sorted | exact fr_list | exact fr_tuple | exact fr_repr | exact fr_isinstance | exact fr_bool | exact fW | exact iW | exact cA | exact trivial) (pure_body w_law_made)
  have v_law_made : ∀ k, 7 ≤ k → CallV M k F_law_made := fun k hk => CallV.of_fn g_law_made hk (mg_glo X G (sx_fact c 44 rfl)) F_x_law_made.kp bi_law_made (by decide +kernel)
  have bi_law_purse : Binds K fd_law_purse ["script", "at"] [] := F_x_law_purse.binds (ps := ["script", "at"]) fun _ _ _ _ _ _ us hl => match us, hl with | [_, _], _ => rfl
  have g_law_purse : FnG M.prog M.w M.T.K M.mg M.base Cw.CX0 1 _ fd_law_purse ["script", "at"] (spF M.T F_law_purse) := def_ok (M := M) (k := 0) F_x_law_purse (fun _ => rfl) (fun _ => rfl) sc_law_purse rfl ck_law_purse (by
    simp only [b_law_purse, b_lsk1, b_lsk2, b_key, b_row, b_way, b_law_purse2, b_law02_turn, b_law02_two, b_law02_other, knS, knE, knI, and_true, true_and]
    repeat' apply And.intro
    all_goals first | exact fr_range | exact fr_enumerate | exact fr_zip | exact fr_len | exact fr_int | exact fr_abs | exact fr_max | exact fr_min | exact fr_sorted | exact fr_list | exact fr_tuple | exact fr_repr | exact fr_isinstance | exact fr_bool | exact fW | exact iW | exact cA | exact trivial) (pure_body w_law_purse)
  have v_law_purse : ∀ k, 1 ≤ k → CallV M k F_law_purse := fun k hk => CallV.of_fn g_law_purse hk (mg_glo X G (sx_fact c 45 rfl)) F_x_law_purse.kp bi_law_purse (by decide +kernel)
  have bi_places : Binds K fd_places ["self"] [] := F_x_places.binds (ps := ["self"]) fun _ _ _ _ _ _ us hl => match us, hl with | [_], _ => rfl
  have g_places : FnG M.prog M.w M.T.K M.mg M.base Cw.CX0 1 _ fd_places ["self"] (spF M.T F_places) := def_ok (M := M) (k := 0) F_x_places (fun _ => rfl) (fun _ => rfl) sc_places rfl ck_places (by
    simp only [b_places, b_lsk1, b_lsk2, b_key, b_row, b_way, b_law_purse2, b_law02_turn, b_law02_two, b_law02_other, knS, knE, knI, and_true, true_and]
    repeat' apply And.intro
    all_goals first | exact fr_range | exact fr_enumerate | exact fr_zip | exact fr_len | exact fr_int | exact fr_abs | exact fr_max | exact fr_min | exact fr_sorted | exact fr_list | exact fr_tuple | exact fr_repr | exact fr_isinstance | exact fr_bool | exact fW | exact iW | exact cA | exact trivial) (pure_body w_places)
  have v_places : ∀ k, 2 ≤ k → PropV M k F_places 0 := fun k hk => PropV.of_fn g_places hk cW (prop_ok (sx_fact c 46 rfl)) bi_places
  have bi_ties : Binds K fd_ties ["self"] [] := F_x_ties.binds (ps := ["self"]) fun _ _ _ _ _ _ us hl => match us, hl with | [_], _ => rfl
  have g_ties : FnG M.prog M.w M.T.K M.mg M.base Cw.CX0 1 _ fd_ties ["self"] (spF M.T F_ties) := def_ok (M := M) (k := 0) F_x_ties (fun _ => rfl) (fun _ => rfl) sc_ties rfl ck_ties (by
    simp only [b_ties, b_lsk1, b_lsk2, b_key, b_row, b_way, b_law_purse2, b_law02_turn, b_law02_two, b_law02_other, knS, knE, knI, and_true, true_and]
    repeat' apply And.intro
    all_goals first | exact fr_range | exact fr_enumerate | exact fr_zip | exact fr_len | exact fr_int | exact fr_abs | exact fr_max | exact fr_min | exact fr_sorted | exact fr_list | exact fr_tuple | exact fr_repr | exact fr_isinstance | exact fr_bool | exact fW | exact iW | exact cA | exact trivial) (pure_body w_ties)
  have v_ties : ∀ k, 2 ≤ k → PropV M k F_ties 0 := fun k hk => PropV.of_fn g_ties hk cW (prop_ok (sx_fact c 47 rfl)) bi_ties
  have bi_law : Binds K fd_law ["script"] [] := F_x_law.binds (ps := ["script"]) fun _ _ _ _ _ _ us hl => match us, hl with | [_], _ => rfl
  have g_law : FnG M.prog M.w M.T.K M.mg M.base Cw.CX0 8 _ fd_law ["script"] (spF M.T (lawF "law")) := def_ok (M := M) (k := 7) F_x_law (fun _ => rfl) (fun _ => rfl) sc_law rfl ck_law (by
    simp only [b_law02, b_lsk1, b_lsk2, b_key, b_row, b_way, b_law_purse2, b_law02_turn, b_law02_two, b_law02_other, knS, knE, knI, and_true, true_and]
    repeat' apply And.intro
    all_goals first | exact v_Web _ (by decide) | exact v_directions _ (by decide) | exact v_eq _ (by decide) | exact v_law_again _ (by decide) | exact v_law_due _ (by decide) | exact v_law_fields _ (by decide) | exact v_law_made _ (by decide) | exact v_law_move _ (by decide) | exact v_law_noughts _ (by decide) | exact v_law_purse _ (by decide) | exact v_places _ (by decide) | exact v_ties _ (by decide) | exact fr_range | exact fr_enumerate | exact fr_zip | exact fr_len | exact fr_int | exact fr_abs | exact fr_max | exact fr_min | exact fr_sorted | exact fr_list | exact fr_tuple | exact fr_repr | exact fr_isinstance | exact fr_bool | exact fW | exact iW | exact cA | exact trivial) (law_body w_law02)
  exact g_law
end K02
open PySem PySem.W PySem.Calls PyProof.Rows
theorem PySem.Challenge.cw_cellwebs_k02_webs_made_holds : PySem.Challenge.rw_cellwebs_k02_webs_made.Holds := by
  w_on; o_law
  refine HandSHeadRun.head_any (r := OpenLaw.row PySem.Challenge.rw_cellwebs_k02_webs_made) (q := view (OpenLaw.row PySem.Challenge.rw_cellwebs_k02_webs_made).prog [31]) (H := K02.hk) (ob := K02.ob) (M := 20000) (loose := K02.names) (d := HandSHeadRun.topDef (OpenLaw.row PySem.Challenge.rw_cellwebs_k02_webs_made).prog 31) (kwd := []) K02.ob_eq
    (by kernel_rfl) (fun s => by kernel_rfl) K02.run (by kernel_rfl) (by kernel_rfl) (by kernel_rfl) (by rfl) (by first | assumption | decide +kernel) (by decide +kernel) ⟨rfl, rfl, rfl, rfl, rfl, by decide +kernel⟩ ?hw ?hc
  case hw => w_witness2
  case hc =>
    refine Cw.walkGE (l := PySem.Challenge.rw_cellwebs_k02_webs_made) (k := 8) (x := "script") (nm := "law") rfl (by kernel_rfl) ⟨rfl, by decide, by decide⟩ ?_
    intro w mg fa h Y G hmg0
    obtain ⟨K, KX, c⟩ := Y
    have hmg : mg ("law" : PySem.Str) = some (.ref fa) := by
      have e : (HandSHeadRun.topDef (OpenLaw.row PySem.Challenge.rw_cellwebs_k02_webs_made).prog 31).name = ("law" : PySem.Str) := by kernel_rfl
      rw [← e]
      exact hmg0
    exact K02.facts KX G hmg c
