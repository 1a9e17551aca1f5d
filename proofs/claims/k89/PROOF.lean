import PyProof.Rows.All
import Wide.All
import OpenK.AllK
import Wide.FinOn
import HandS.ForMost
import HandS.IsInst
import HandS.Zip
import KE.GoesMore
import HandS.TupAny
import HandS.TupMul
import HandS.Small
import HandS.NoneIn
import HandS.Style
import HandS.Deep
import HandS.TupLe
import HandS.SetFor
import HandS.Conv
import KE.SortData
import HandS.ListItems
import HandS.DictTup
import PySem.Challenge.RW_tornsectors_k89_whole_histories_that_dea
set_option Elab.async false
set_option linter.all false
set_option maxRecDepth 100000
set_option maxHeartbeats 4000000
set_option Elab.async false
set_option linter.all false
set_option maxRecDepth 100000
set_option maxHeartbeats 2000000
/-! The layer T: data without addresses, tracked objects, weakest preconditions over both. -/
namespace T
open PySem PySem.Spec PyProof.Rows L2

/-- data: what does not change, whole; what changes, by its address -/
inductive D where
  | non | bl (b : Bool) | int (i : Int) | str (x : Str) | tup (ds : List D) | lst (ds : List D) | scr (ns : List Int) | dic (kvs : List (Key × D)) | ref (a : Addr) | ty (n : String)
/-- an object that changes -/
inductive MO where
  | lst (ds : List D) | dic (kvs : List (Key × D)) | ins (C : Addr) (fs : List (Str × D))
abbrev M := Addr → Option MO
def M.set (m : M) (a : Addr) (o : MO) : M := fun b => if b = a then some o else m b
def M.del (m : M) (a : Addr) : M := fun b => if b = a then none else m b
theorem M.set_same {m : M} {a : Addr} {o : MO} : m.set a o a = some o := if_pos rfl
theorem M.set_ne {m : M} {a b : Addr} {o : MO} (h : b ≠ a) : m.set a o b = m b := if_neg h
theorem M.set_set {m : M} {a : Addr} {o o' : MO} : (m.set a o).set a o' = m.set a o' := by
  funext b; unfold M.set; split <;> rfl

abbrev Fz := Addr → Prop
def TupAt (K : PySem.W.Frag) (m : M) (H : Hp) (a : Addr) (vs : List V) : Prop := (m a = none ∧ Rd H a (.tup vs)) ∨ (∀ H', SqT K H' a vs)
def ScrAt (K : PySem.W.Frag) (m : M) (H : Hp) (a : Addr) (vs : List V) : Prop := (m a = none ∧ ∃ o, H a = some (.frz o (.lst vs))) ∨ (∀ H', SqL K H' a vs)
mutual
def Is (K : PySem.W.Frag) (F : Fz) (m : M) (H : Hp) : D → V → Prop
  | .non, v => v = .non
  | .bl b, v => v = .bl b
  | .int i, v => v = .int i
  | .str x, v => v = .str x
  | .ty n, v => v = .ty n
  | .ref a, v => v = .ref a
  | .scr ns, v => ∃ a, v = .ref a ∧ ScrAt K m H a (ns.map V.int)
  | .tup ds, v => ∃ a vs, v = .ref a ∧ TupAt K m H a vs ∧ IsL K F m H ds vs
  | .lst ds, v => ∃ a vs, v = .ref a ∧ H a = some (.lst vs) ∧ m a = none ∧ ¬ F a ∧ IsL K F m H ds vs
  | .dic kvs, v => ∃ a vs, v = .ref a ∧ H a = some (.dK vs) ∧ m a = none ∧ ¬ F a ∧ IsK K F m H kvs vs
def IsL (K : PySem.W.Frag) (F : Fz) (m : M) (H : Hp) : List D → List V → Prop
  | [], vs => vs = []
  | d :: ds, vs => ∃ v r, vs = v :: r ∧ Is K F m H d v ∧ IsL K F m H ds r
def IsK (K : PySem.W.Frag) (F : Fz) (m : M) (H : Hp) : List (Key × D) → List (Key × V) → Prop
  | [], vs => vs = []
  | kd :: ds, vs => ∃ v r, vs = (kd.1, v) :: r ∧ Is K F m H kd.2 v ∧ IsK K F m H ds r
end
def IsF (K : PySem.W.Frag) (F : Fz) (m : M) (H : Hp) : List (Str × D) → List (Str × V) → Prop
  | [], vs => vs = []
  | kd :: ds, vs => ∃ v r, vs = (kd.1, v) :: r ∧ Is K F m H kd.2 v ∧ IsF K F m H ds r
def IsO (K : PySem.W.Frag) (F : Fz) (m : M) (H : Hp) (a : Addr) : MO → Prop
  | .lst ds => ∃ vs, H a = some (.lst vs) ∧ IsL K F m H ds vs
  | .dic kvs => ∃ vs, H a = some (.dK vs) ∧ IsK K F m H kvs vs
  | .ins C fs => ∃ dx vs, H a = some (.ins C dx vs) ∧ IsF K F m H fs vs
/-- from one state to a later one: what is not tracked stays -/
def Step (F : Fz) (m : M) (H : Hp) (F' : Fz) (m' : M) (H' : Hp) : Prop := ∀ a o, H a = some o → m a = none → H' a = some o ∧ m' a = none ∧ (¬ F a → ¬ F' a)
theorem Step.refl {F : Fz} {m : M} {H : Hp} : Step F m H F m H := fun _ _ h h2 => ⟨h, h2, id⟩
theorem Step.trans {F F1 F2 : Fz} {m m1 m2 : M} {H H1 H2 : Hp} (a : Step F m H F1 m1 H1) (b : Step F1 m1 H1 F2 m2 H2) : Step F m H F2 m2 H2 := fun x o h h2 => by
  obtain ⟨p, q, r⟩ := a x o h h2
  obtain ⟨p', q', r'⟩ := b x o p q
  exact ⟨p', q', fun z => r' (r z)⟩
def Fits (H : Hp) : Prop := (∀ a xs, (Rd H a (.lst xs) ∨ Rd H a (.tup xs)) → xs.length ≤ sizeLine) ∧ ∀ a kvs, Rd H a (.dK kvs) → kvs.length ≤ sizeLine
structure Rel (K : PySem.W.Frag) (F : Fz) (m : M) (H : Hp) : Prop where
  obj : ∀ a o, m a = some o → IsO K F m H a o
  res : ∀ a, F a → ∃ o, H a = some o
  fits : Fits H
  dis : ∀ a, F a → m a = none
section
variable {K : PySem.W.Frag} {F F' F1 : Fz} {m m' m1 : M} {H H' H1 : Hp}
theorem TupAt.step {a : Addr} {vs : List V} (s : Step F m H F' m' H') (h : TupAt K m H a vs) : TupAt K m' H' a vs := by
  rcases h with ⟨n, h | ⟨o, h⟩⟩ | h
  · exact .inl ⟨(s a _ h n).2.1, .inl (s a _ h n).1⟩
  · exact .inl ⟨(s a _ h n).2.1, .inr ⟨o, (s a _ h n).1⟩⟩
  · exact .inr h
theorem TupAt.sq {a : Addr} {vs : List V} (h : TupAt K m H a vs) : SqT K H a vs := by
  rcases h with ⟨_, h⟩ | h
  · exact .inl h
  · exact h H
theorem ScrAt.step {a : Addr} {vs : List V} (s : Step F m H F' m' H') (h : ScrAt K m H a vs) : ScrAt K m' H' a vs := by
  rcases h with ⟨n, o, h⟩ | h
  · exact .inl ⟨(s a _ h n).2.1, o, (s a _ h n).1⟩
  · exact .inr h
theorem ScrAt.sq {a : Addr} {vs : List V} (h : ScrAt K m H a vs) : SqL K H a vs := by
  rcases h with ⟨_, o, h⟩ | h
  · exact .inl (.inr ⟨o, h⟩)
  · exact h H
mutual
theorem Is.step (s : Step F m H F' m' H') : ∀ {d : D} {v : V}, Is K F m H d v → Is K F' m' H' d v
  | .non, _, h => h
  | .bl _, _, h => h
  | .int _, _, h => h
  | .str _, _, h => h
  | .ty _, _, h => h
  | .ref _, _, h => h
  | .scr ns, v, h => by
    unfold Is at h ⊢
    obtain ⟨a, e, h⟩ := h
    exact ⟨a, e, h.step s⟩
  | .tup ds, v, h => by
    unfold Is at h ⊢
    obtain ⟨a, vs, e, h1, h2⟩ := h
    exact ⟨a, vs, e, h1.step s, IsL.step s h2⟩
  | .lst ds, v, h => by
    unfold Is at h ⊢
    obtain ⟨a, vs, e, h1, h2, h3, h4⟩ := h
    obtain ⟨p, q, r⟩ := s a _ h1 h2
    exact ⟨a, vs, e, p, q, r h3, IsL.step s h4⟩
  | .dic ds, v, h => by
    unfold Is at h ⊢
    obtain ⟨a, vs, e, h1, h2, h3, h4⟩ := h
    obtain ⟨p, q, r⟩ := s a _ h1 h2
    exact ⟨a, vs, e, p, q, r h3, IsK.step s h4⟩
theorem IsL.step (s : Step F m H F' m' H') : ∀ {ds : List D} {vs : List V}, IsL K F m H ds vs → IsL K F' m' H' ds vs
  | [], _, h => h
  | d :: ds, vs, h => by
    unfold IsL at h ⊢
    obtain ⟨v, r, e, h1, h2⟩ := h
    exact ⟨v, r, e, Is.step s h1, IsL.step s h2⟩
theorem IsK.step (s : Step F m H F' m' H') : ∀ {ds : List (Key × D)} {vs : List (Key × V)}, IsK K F m H ds vs → IsK K F' m' H' ds vs
  | [], _, h => h
  | d :: ds, vs, h => by
    unfold IsK at h ⊢
    obtain ⟨v, r, e, h1, h2⟩ := h
    exact ⟨v, r, e, Is.step s h1, IsK.step s h2⟩
end
theorem IsF.step (s : Step F m H F' m' H') : ∀ {ds : List (Str × D)} {vs : List (Str × V)}, IsF K F m H ds vs → IsF K F' m' H' ds vs
  | [], _, h => h
  | d :: ds, vs, h => by
    obtain ⟨v, r, e, h1, h2⟩ := h
    exact ⟨v, r, e, Is.step s h1, IsF.step s h2⟩
theorem IsL.length : ∀ {ds : List D} {vs : List V}, IsL K F m H ds vs → vs.length = ds.length
  | [], _, h => by unfold IsL at h; rw [h]; rfl
  | d :: ds, vs, h => by
    unfold IsL at h
    obtain ⟨v, r, e, _, h2⟩ := h
    rw [e, List.length_cons, List.length_cons, IsL.length h2]
theorem IsL.nil : IsL K F m H [] [] := by unfold IsL; rfl
theorem IsL.cons {d : D} {ds : List D} {v : V} {vs : List V} (h : Is K F m H d v) (t : IsL K F m H ds vs) : IsL K F m H (d :: ds) (v :: vs) := by
  unfold IsL; exact ⟨v, vs, rfl, h, t⟩
theorem IsL.append : ∀ {ds es : List D} {vs us : List V}, IsL K F m H ds vs → IsL K F m H es us → IsL K F m H (ds ++ es) (vs ++ us)
  | [], _, _, _, h, t => by unfold IsL at h; subst h; exact t
  | d :: ds, es, vs, us, h, t => by
    unfold IsL at h
    obtain ⟨v, r, e, h1, h2⟩ := h
    subst e
    exact .cons h1 (IsL.append h2 t)
theorem IsL.get : ∀ {ds : List D} {vs : List V} {i : Nat} {d : D}, IsL K F m H ds vs → ds[i]? = some d → ∃ v, vs[i]? = some v ∧ Is K F m H d v
  | [], _, _, _, _, e => by simp at e
  | d :: ds, vs, 0, x, h, e => by
    unfold IsL at h
    obtain ⟨v, r, e2, h1, _⟩ := h
    have e3 : d = x := by simpa using e
    subst e2; subst e3
    exact ⟨v, rfl, h1⟩
  | d :: ds, vs, i + 1, x, h, e => by
    unfold IsL at h
    obtain ⟨v, r, e2, _, h2⟩ := h
    obtain ⟨u, h3, h4⟩ := IsL.get (i := i) (d := x) h2 (by simpa using e)
    subst e2
    exact ⟨u, by simpa using h3, h4⟩
theorem IsL.getV : ∀ {ds : List D} {vs : List V} {i : Nat} {v : V}, IsL K F m H ds vs → vs[i]? = some v → ∃ d, ds[i]? = some d ∧ Is K F m H d v := fun {ds vs i v} h e => by
  have hl := h.length
  have hi : i < vs.length := (List.getElem?_eq_some_iff.mp e).1
  have hd : ds[i]? = some ds[i] := List.getElem?_eq_getElem (by omega)
  obtain ⟨u, h1, h2⟩ := h.get hd
  rw [e] at h1
  cases h1
  exact ⟨_, hd, h2⟩
theorem IsL.take : ∀ {ds : List D} {vs : List V} (n : Nat), IsL K F m H ds vs → IsL K F m H (ds.take n) (vs.take n)
  | _, _, 0, _ => .nil
  | [], _, _ + 1, h => by unfold IsL at h; subst h; exact .nil
  | d :: ds, vs, n + 1, h => by
    unfold IsL at h
    obtain ⟨v, r, e, h1, h2⟩ := h
    subst e
    exact .cons h1 (IsL.take n h2)
theorem IsL.drop : ∀ {ds : List D} {vs : List V} (n : Nat), IsL K F m H ds vs → IsL K F m H (ds.drop n) (vs.drop n)
  | _, _, 0, h => h
  | [], _, _ + 1, h => by unfold IsL at h; subst h; exact .nil
  | d :: ds, vs, n + 1, h => by
    unfold IsL at h
    obtain ⟨v, r, e, h1, h2⟩ := h
    subst e
    exact IsL.drop n h2
theorem IsL.set {d : D} {v : V} (q : Is K F m H d v) : ∀ {ds : List D} {vs : List V} (i : Nat), IsL K F m H ds vs → IsL K F m H (ds.set i d) (vs.set i v)
  | [], _, _, h => by unfold IsL at h; subst h; exact .nil
  | e :: ds, vs, 0, h => by
    unfold IsL at h
    obtain ⟨u, r, e2, _, h2⟩ := h
    subst e2
    exact .cons q h2
  | e :: ds, vs, i + 1, h => by
    unfold IsL at h
    obtain ⟨u, r, e2, h1, h2⟩ := h
    subst e2
    exact .cons h1 (IsL.set q i h2)
theorem IsL.reverse : ∀ {ds : List D} {vs : List V}, IsL K F m H ds vs → IsL K F m H ds.reverse vs.reverse
  | [], _, h => by unfold IsL at h; subst h; exact .nil
  | d :: ds, vs, h => by
    unfold IsL at h
    obtain ⟨v, r, e, h1, h2⟩ := h
    subst e
    rw [List.reverse_cons, List.reverse_cons]
    exact (IsL.reverse h2).append (.cons h1 .nil)
theorem IsL.eraseIdx : ∀ {ds : List D} {vs : List V} (i : Nat), IsL K F m H ds vs → IsL K F m H (ds.eraseIdx i) (vs.eraseIdx i)
  | [], _, _, h => by unfold IsL at h; subst h; exact .nil
  | e :: ds, vs, 0, h => by
    unfold IsL at h
    obtain ⟨u, r, e2, _, h2⟩ := h
    subst e2
    exact h2
  | e :: ds, vs, i + 1, h => by
    unfold IsL at h
    obtain ⟨u, r, e2, h1, h2⟩ := h
    subst e2
    exact .cons h1 (IsL.eraseIdx i h2)
theorem IsL.rep {ds : List D} {vs : List V} (h : IsL K F m H ds vs) : ∀ n, IsL K F m H (List.replicate n ds).flatten (List.replicate n vs).flatten
  | 0 => .nil
  | n + 1 => by
    rw [List.replicate_succ, List.replicate_succ, List.flatten_cons, List.flatten_cons]
    exact h.append (IsL.rep h n)
theorem isL_ints : ∀ {ns : List Int} {vs : List V}, IsL K F m H (ns.map D.int) vs → vs = ns.map V.int
  | [], _, h => by unfold List.map IsL at h; exact h
  | n :: ns, vs, h => by
    unfold List.map IsL at h
    obtain ⟨v, r, e, h1, h2⟩ := h
    unfold Is at h1
    rw [e, h1, isL_ints h2]; rfl
theorem isL_bls : ∀ {ns : List Bool} {vs : List V}, IsL K F m H (ns.map D.bl) vs → vs = ns.map V.bl
  | [], _, h => by unfold List.map IsL at h; exact h
  | n :: ns, vs, h => by
    unfold List.map IsL at h
    obtain ⟨v, r, e, h1, h2⟩ := h
    unfold Is at h1
    rw [e, h1, isL_bls h2]; rfl
theorem ints_isL : ∀ (ns : List Int), IsL K F m H (ns.map D.int) (ns.map V.int)
  | [] => .nil
  | n :: ns => .cons (by unfold Is; rfl) (ints_isL ns)
/-- a frozen heap grows -/
theorem Step.fresh {p : Addr} {o : HO} (h : H p = none) : Step F m H F m (upd H p o) := fun a u e n => ⟨by rw [upd_ne (ne_of_none e h)]; exact e, n, id⟩
theorem Rel.mnone (r : Rel K F m H) {p : Addr} (h : H p = none) : m p = none := by
  cases q : m p with
  | none => rfl
  | some o =>
    have := r.obj p o q
    cases o with
    | lst ds => obtain ⟨vs, e, _⟩ := this; rw [h] at e; cases e
    | dic ds => obtain ⟨vs, e, _⟩ := this; rw [h] at e; cases e
    | ins C fs => obtain ⟨dx, vs, e, _⟩ := this; rw [h] at e; cases e
theorem Rel.fnone (r : Rel K F m H) {p : Addr} (h : H p = none) : ¬ F p := fun z => by
  obtain ⟨o, e⟩ := r.res p z
  rw [h] at e; cases e
theorem IsO.step {a : Addr} {o : MO} (s : Step F m H F' m' H') (h : IsO K F m H a o) (e : H' a = H a) : IsO K F' m' H' a o := by
  cases o with
  | lst ds => obtain ⟨vs, e1, h⟩ := h; exact ⟨vs, e.trans e1, IsL.step s h⟩
  | dic ds => obtain ⟨vs, e1, h⟩ := h; exact ⟨vs, e.trans e1, IsK.step s h⟩
  | ins C fs => obtain ⟨dx, vs, e1, h⟩ := h; exact ⟨dx, vs, e.trans e1, IsF.step s h⟩
/-- an object's size is right -/
def OkSize : HO → Prop
  | .lst xs => xs.length ≤ sizeLine
  | .tup xs => xs.length ≤ sizeLine
  | .dK kvs => kvs.length ≤ sizeLine
  | .frz _ _ => False
  | _ => True
theorem Fits.upd {p : Addr} {o : HO} (f : Fits H) (h : OkSize o) : Fits (upd H p o) := by
  refine ⟨fun a xs q => ?_, fun a xs q => ?_⟩
  · by_cases e : a = p
    · subst e
      rcases q with (q | ⟨u, q⟩) | (q | ⟨u, q⟩) <;> (rw [upd_same] at q; cases q; first | exact h | exact h.elim)
    · refine f.1 a xs ?_
      rcases q with (q | ⟨u, q⟩) | (q | ⟨u, q⟩) <;> rw [upd_ne e] at q
      · exact .inl (.inl q)
      · exact .inl (.inr ⟨u, q⟩)
      · exact .inr (.inl q)
      · exact .inr (.inr ⟨u, q⟩)
  · by_cases e : a = p
    · subst e
      rcases q with q | ⟨u, q⟩ <;> (rw [upd_same] at q; cases q; first | exact h | exact h.elim)
    · refine f.2 a xs ?_
      rcases q with q | ⟨u, q⟩ <;> rw [upd_ne e] at q
      · exact .inl q
      · exact .inr ⟨u, q⟩
/-- a new object, not tracked -/
theorem Rel.fresh {p : Addr} {o : HO} (r : Rel K F m H) (h : H p = none) (hs : OkSize o) : Rel K F m (upd H p o) where
  obj := fun a u e => by
    refine (r.obj a u e).step (Step.fresh h) (upd_ne ?_)
    intro z; subst z
    rw [r.mnone h] at e; cases e
  res := fun a z => by
    by_cases e : a = p
    · exact ⟨o, by rw [e]; exact upd_same⟩
    · obtain ⟨u, q⟩ := r.res a z
      exact ⟨u, by rw [upd_ne e]; exact q⟩
  fits := r.fits.upd hs
  dis := r.dis
theorem Is.tupNew {p : Addr} {ds : List D} {vs : List V} (r : Rel K F m H) (h : H p = none) (i : IsL K F m H ds vs) : Is K F m (upd H p (.tup vs)) (.tup ds) (.ref p) := by
  unfold Is
  exact ⟨p, vs, rfl, .inl ⟨r.mnone h, .inl upd_same⟩, i.step (Step.fresh h)⟩
theorem Is.lstNew {p : Addr} {ds : List D} {vs : List V} (r : Rel K F m H) (h : H p = none) (i : IsL K F m H ds vs) : Is K F m (upd H p (.lst vs)) (.lst ds) (.ref p) := by
  unfold Is
  exact ⟨p, vs, rfl, upd_same, r.mnone h, r.fnone h, i.step (Step.fresh h)⟩
/-- what is tracked changes, or a new object is tracked -/
theorem Step.write {p : Addr} {o : HO} {u : MO} (h : H p = none ∨ m p ≠ none) : Step F m H F (m.set p u) (upd H p o) := fun a x e n => by
  have ne : a ≠ p := fun z => by
    subst z
    rcases h with h | h
    · rw [h] at e; cases e
    · exact h n
  exact ⟨by rw [upd_ne ne]; exact e, by rw [M.set_ne ne]; exact n, id⟩
theorem Rel.write {p : Addr} {o : HO} {u : MO} (r : Rel K F m H) (h : H p = none ∨ m p ≠ none) (hs : OkSize o) (new : IsO K F (m.set p u) (upd H p o) p u) : Rel K F (m.set p u) (upd H p o) where
  obj := fun a x e => by
    by_cases q : a = p
    · subst q
      rw [M.set_same] at e; cases e
      exact new
    · rw [M.set_ne q] at e
      exact (r.obj a x e).step (Step.write h) (upd_ne q)
  res := fun a z => by
    by_cases e : a = p
    · exact ⟨o, by rw [e]; exact upd_same⟩
    · obtain ⟨u, q⟩ := r.res a z
      exact ⟨u, by rw [upd_ne e]; exact q⟩
  fits := r.fits.upd hs
  dis := fun a z => by
    by_cases e : a = p
    · subst e
      rcases h with h | h
      · exact absurd z (r.fnone h)
      · exact absurd (r.dis a z) h
    · rw [M.set_ne e]; exact r.dis a z
theorem Rel.fitL {a : Addr} {vs : List V} (r : Rel K F m H) (h : H a = some (.lst vs)) : vs.length ≤ sizeLine := r.fits.1 a vs (.inl (.inl h))
theorem SqT.fit {a : Addr} {vs : List V} (f : Fits H) (h : SqT K H a vs) : vs.length ≤ sizeLine := by
  rcases h with h | ⟨o, its, n, _, _, _, hz, r⟩
  · exact f.1 a vs (.inr h)
  · have e := r.length
    simp only [Array.length_toList] at e
    omega
theorem SqL.fit {a : Addr} {vs : List V} (f : Fits H) (h : SqL K H a vs) : vs.length ≤ sizeLine := by
  rcases h with h | ⟨o, its, n, _, _, _, _, hz, r⟩
  · exact f.1 a vs (.inl h)
  · have e := r.length
    simp only [Array.length_toList] at e
    omega
end

/-! ### slots -/
abbrev Env := List (Option D)
def EnvIs (K : PySem.W.Frag) (F : Fz) (m : M) (H : Hp) (env : T.Env) (σ : L2.St) : Prop := env.length = σ.length ∧ ∀ (i : Nat) (d : D), env[i]? = some (some d) → ∃ v : V, σ[i]? = some (some v) ∧ Is K F m H d v
section
variable {K : PySem.W.Frag} {F F' F1 : Fz} {m m' m1 : M} {H H' H1 : Hp} {env : T.Env} {σ : L2.St}
theorem EnvIs.step (s : Step F m H F' m' H') (h : EnvIs K F m H env σ) : EnvIs K F' m' H' env σ := ⟨h.1, fun i d e => by
  obtain ⟨v, h1, h2⟩ := h.2 i d e
  exact ⟨v, h1, h2.step s⟩⟩
theorem EnvIs.set {i : Nat} {d : D} {v : V} (h : EnvIs K F m H env σ) (q : Is K F m H d v) : EnvIs K F m H (env.set i (some d)) (σ.set i (some v)) := ⟨by rw [List.length_set, List.length_set]; exact h.1, fun j e g => by
  by_cases z : i = j
  · subst z
    by_cases hi : i < env.length
    · rw [List.getElem?_set_self hi] at g
      cases g
      exact ⟨v, by rw [List.getElem?_set_self (by rw [← h.1]; exact hi)], q⟩
    · rw [List.getElem?_eq_none (by rw [List.length_set]; omega)] at g; cases g
  · rw [List.getElem?_set_ne z] at g
    obtain ⟨w, h1, h2⟩ := h.2 j e g
    exact ⟨w, by rw [List.getElem?_set_ne z]; exact h1, h2⟩⟩
def wipeE (env : T.Env) : List Nat → T.Env
  | [] => env
  | v :: vs => (wipeE env vs).set v none
theorem EnvIs.wipe (h : EnvIs K F m H env σ) : ∀ vs : List Nat, EnvIs K F m H (wipeE env vs) (L2.wipe σ vs)
  | [] => h
  | v :: vs => by
    have ih := EnvIs.wipe h vs
    refine ⟨by unfold wipeE L2.wipe; rw [List.length_set, List.length_set]; exact ih.1, fun j e g => ?_⟩
    unfold wipeE at g
    unfold L2.wipe
    by_cases z : v = j
    · subst z
      by_cases hi : v < (wipeE env vs).length
      · rw [List.getElem?_set_self hi] at g; cases g
      · rw [List.getElem?_eq_none (by rw [List.length_set]; omega)] at g; cases g
    · rw [List.getElem?_set_ne z] at g
      obtain ⟨w, h1, h2⟩ := ih.2 j e g
      exact ⟨w, by rw [List.getElem?_set_ne z]; exact h1, h2⟩
end

/-! ### readings over data -/
abbrev WE := T.Env → M → (D → M → Prop) → Prop
abbrev WT := T.Env → M → (Bool → M → Prop) → Prop
abbrev WA := T.Env → M → (List D → M → Prop) → Prop
abbrev WI := T.Env → M → (List D → (M → Prop) → M → Prop) → Prop
structure WK where
  nx : T.Env → M → Prop
  rt : D → M → Prop
  bk : T.Env → M → Prop := fun _ _ => False
  ct : T.Env → M → Prop := fun _ _ => False
abbrev WS := WK → T.Env → M → Prop

def up (K : PySem.W.Frag) (w : WE) : TE := fun σ H Q => ∃ (F : Fz) (env : T.Env) (m : M) (k : D → M → Prop), EnvIs K F m H env σ ∧ Rel K F m H ∧ w env m k ∧
  ∀ d m' v H', k d m' → Step F m H F m' H' → Rel K F m' H' → Is K F m' H' d v → Q v H'
def upT (K : PySem.W.Frag) (w : WT) : TT := fun σ H Q => ∃ (F : Fz) (env : T.Env) (m : M) (k : Bool → M → Prop), EnvIs K F m H env σ ∧ Rel K F m H ∧ w env m k ∧
  ∀ b m' H', k b m' → Step F m H F m' H' → Rel K F m' H' → Q b H'
def upA (K : PySem.W.Frag) (w : WA) : TA := fun σ H Q => ∃ (F : Fz) (env : T.Env) (m : M) (k : List D → M → Prop), EnvIs K F m H env σ ∧ Rel K F m H ∧ w env m k ∧
  ∀ ds m' vs H', k ds m' → Step F m H F m' H' → Rel K F m' H' → IsL K F m' H' ds vs → Q vs H'
structure ItOk (K : PySem.W.Frag) (F : Fz) (items : List D) (P : M → Prop) (m : M) (H : Hp) (J : It) : Prop where
  go : ∀ i F2 m2 H2, Step F m H F2 m2 H2 → Rel K F2 m2 H2 → P m2 → i < items.length → J.go i H2
  yld : ∀ i d F2 m2 H2, Step F m H F2 m2 H2 → Rel K F2 m2 H2 → P m2 → items[i]? = some d → ∀ x H3, J.yld i H2 x H3 → Step F2 m2 H2 F2 m2 H3 ∧ Rel K F2 m2 H3 ∧ Is K F2 m2 H3 d x
  stop : ∀ i F2 m2 H2, Step F m H F2 m2 H2 → Rel K F2 m2 H2 → P m2 → items.length ≤ i → J.stop i H2
  size : items.length ≤ sizeLine
def upI (K : PySem.W.Frag) (w : WI) : TI := fun σ H R => ∃ (F : Fz) (env : T.Env) (m : M) (k : List D → (M → Prop) → M → Prop), EnvIs K F m H env σ ∧ Rel K F m H ∧ w env m k ∧
  ∀ items P m' H' J, k items P m' → Step F m H F m' H' → Rel K F m' H' → ItOk K F items P m' H' J → R J H'
structure Conv (K : PySem.W.Frag) (F : Fz) (m : M) (H : Hp) (k : WK) (E : Ends) : Prop where
  nx : ∀ env' m' σ' H', k.nx env' m' → Step F m H F m' H' → Rel K F m' H' → EnvIs K F m' H' env' σ' → E.nx σ' H'
  rt : ∀ d m' v H', k.rt d m' → Step F m H F m' H' → Rel K F m' H' → Is K F m' H' d v → E.rt v H'
  bk : ∀ env' m' σ' H', k.bk env' m' → Step F m H F m' H' → Rel K F m' H' → EnvIs K F m' H' env' σ' → E.bk σ' H'
  ct : ∀ env' m' σ' H', k.ct env' m' → Step F m H F m' H' → Rel K F m' H' → EnvIs K F m' H' env' σ' → E.ct σ' H'
def upS (K : PySem.W.Frag) (w : WS) : TS := fun E σ H => ∃ (F : Fz) (env : T.Env) (m : M) (k : WK), EnvIs K F m H env σ ∧ Rel K F m H ∧ w k env m ∧ Conv K F m H k E
theorem Conv.step {K : PySem.W.Frag} {F : Fz} {m m' : M} {H H' : Hp} {k : WK} {E : Ends} (c : Conv K F m H k E) (s : Step F m H F m' H') : Conv K F m' H' k E :=
  ⟨fun e n σ G a b => c.nx e n σ G a (s.trans b), fun e n σ G a b => c.rt e n σ G a (s.trans b), fun e n σ G a b => c.bk e n σ G a (s.trans b), fun e n σ G a b => c.ct e n σ G a (s.trans b)⟩

theorem PE.imp {X : Cx} {e : Expr} {t t' : TE} (h : PE X e t) (i : ∀ σ H Q, t' σ H Q → t σ H Q) : PE X e t' := ⟨fun p s σ H Q I q => h.run p s σ H Q I (i σ H Q q)⟩
theorem PT.imp {X : Cx} {e : Expr} {t t' : TT} (h : PT X e t) (i : ∀ σ H Q, t' σ H Q → t σ H Q) : PT X e t' := ⟨fun p s σ H Q I q => h.run p s σ H Q I (i σ H Q q)⟩
theorem PW.imp {X : Cx} {e : Expr} {t t' : TT} (h : PW X e t) (i : ∀ σ H Q, t' σ H Q → t σ H Q) : PW X e t' := ⟨fun w p s σ H Q I q => h.run w p s σ H Q I (i σ H Q q)⟩
theorem PA.imp {X : Cx} {e : List Expr} {t t' : TA} (h : PA X e t) (i : ∀ σ H Q, t' σ H Q → t σ H Q) : PA X e t' := ⟨fun w p s σ H Q I q => h.run w p s σ H Q I (i σ H Q q)⟩
theorem PI.imp {X : Cx} {e g : Expr} {t t' : TI} (h : PI X g e t) (i : ∀ σ H Q, t' σ H Q → t σ H Q) : PI X g e t' := ⟨fun p s σ H Q I q => h.run p s σ H Q I (i σ H Q q)⟩
theorem PS.imp {X : Cx} {e : Stmt} {t t' : TS} (h : PS X e t) (i : ∀ E σ H, t' E σ H → t E σ H) : PS X e t' := ⟨fun p s σ H E I q => h.run p s σ H E I (i E σ H q)⟩
theorem PSs.imp {X : Cx} {e : List Stmt} {t t' : TS} (h : PSs X e t) (i : ∀ E σ H, t' E σ H → t E σ H) : PSs X e t' := ⟨fun p s σ H E I q => h.run p s σ H E I (i E σ H q)⟩
end T

set_option Elab.async false
set_option linter.all false
set_option maxRecDepth 100000
set_option maxHeartbeats 2000000
namespace T
open PySem PySem.Spec PyProof.Rows L2

/-! ### combinators -/
def wV (i : Nat) : WE := fun env m k => match env[i]? with
  | some (some d) => k d m
  | _ => False
def wC (d : D) : WE := fun _ m k => k d m
abbrev F1 := D → M → (D → M → Prop) → Prop
abbrev F2 := D → D → M → (D → M → Prop) → Prop
abbrev FA := List D → M → (D → M → Prop) → Prop
def wB (f : F2) (a b : WE) : WE := fun env m k => a env m fun x m1 => b env m1 fun y m2 => f x y m2 k
def wU (f : F1) (a : WE) : WE := fun env m k => a env m fun x m1 => f x m1 k
def wNil : WA := fun _ m k => k [] m
def wCons (a : WE) (as : WA) : WA := fun env m k => a env m fun x m1 => as env m1 fun xs m2 => k (x :: xs) m2
def wCall (f : FA) (as : WA) : WE := fun env m k => as env m fun xs m1 => f xs m1 k
def wTv (a : WE) : WT := fun env m k => a env m fun d m1 => match d with
  | .bl b => k b m1
  | _ => False
def wAnd (a b : WT) : WT := fun env m k => a env m fun c m1 => if c = true then b env m1 k else k false m1
def wOr (a b : WT) : WT := fun env m k => a env m fun c m1 => if c = true then k true m1 else b env m1 k
def wNot (a : WT) : WT := fun env m k => a env m fun c m1 => k (!c) m1
def wAndV (a b : WE) : WE := fun env m k => a env m fun d m1 => match d with
  | .bl c => if c = true then b env m1 k else k (.bl false) m1
  | _ => False
def wOrV (a b : WE) : WE := fun env m k => a env m fun d m1 => match d with
  | .bl c => if c = true then k (.bl true) m1 else b env m1 k
  | _ => False
def wNotV (a : WE) : WE := fun env m k => a env m fun d m1 => match d with
  | .bl c => k (.bl (!c)) m1
  | _ => False
def wIf (t : WT) (a b : WE) : WE := fun env m k => t env m fun c m1 => if c = true then a env m1 k else b env m1 k
def wChain (f g : F2) (a b c : WE) : WE := fun env m k => a env m fun x m1 => b env m1 fun y m2 => f x y m2 fun z m3 => match z with
  | .bl t => if t = true then c env m3 (fun u m4 => g y u m4 k) else k (.bl false) m3
  | _ => False
/-- a new list, frozen or tracked -/
def alloc (frz : Bool) (ds : List D) (m : M) (k : D → M → Prop) : Prop := if frz = true then k (.lst ds) m else ∀ p, m p = none → k (.ref p) (m.set p (.lst ds))
def wTup (as : WA) : WE := fun env m k => as env m fun ds m1 => ds.length ≤ 16777216 ∧ k (.tup ds) m1
def wLst (frz : Bool) (as : WA) : WE := fun env m k => as env m fun ds m1 => ds.length ≤ 16777216 ∧ alloc frz ds m1 k
def wDic0 : WE := fun env m k => ∀ p, m p = none → k (.ref p) (m.set p (.dic []))
/-- statements -/
def wNext : WS := fun k env m => k.nx env m
def wSeq (a b : WS) : WS := fun k env m => a { k with nx := b k } env m
def wRet (a : WE) : WS := fun k env m => a env m k.rt
def wRetN : WS := fun k _ m => k.rt .non m
def wDrop (a : WE) : WS := fun k env m => a env m fun _ m1 => k.nx env m1
def wIfS (t : WT) (a b : WS) : WS := fun k env m => t env m fun c m1 => if c = true then a k env m1 else b k env m1
def wBrk : WS := fun k env m => k.bk env m
def wCnt : WS := fun k env m => k.ct env m
def wNever : WS := fun _ _ _ => False
/-- targets of names -/
inductive Tg where
  | one (i : Nat) | tup (is : List Nat)
def Tg.slots : Tg → List Nat
  | .one i => [i]
  | .tup is => is
def setAll : List Nat → List D → T.Env → T.Env
  | i :: is, d :: ds, env => setAll is ds (env.set i (some d))
  | _, _, env => env
def bindTg : Tg → D → T.Env → (T.Env → Prop) → Prop
  | .one i, d, env, k => k (env.set i (some d))
  | .tup is, .tup ds, env, k => ds.length = is.length ∧ k (setAll is ds env)
  | _, _, _, _ => False
def wSet (a : WE) (tg : Tg) : WS := fun k env m => a env m fun d m1 => bindTg tg d env fun env' => k.nx env' m1
/-- for -/
def goFor (P : M → Prop) (tg : Tg) (b : WS) (k : WK) : List D → T.Env → M → Prop
  | [], env, m => P m ∧ k.nx env m
  | d :: ds, env, m => P m ∧ bindTg tg d env fun env1 => b { nx := goFor P tg b k ds, rt := k.rt, bk := k.nx, ct := goFor P tg b k ds } env1 m
def wFor (i : WI) (tg : Tg) (b : WS) : WS := fun k env m => i env m fun items P m1 => goFor P tg b k items env m1
/-- while -/
def goWhile (t : WT) (b : WS) (k : WK) : Nat → T.Env → M → Prop
  | 0, _, _ => False
  | n + 1, env, m => t env m fun c m1 => if c = true then b { nx := goWhile t b k n, rt := k.rt, bk := k.nx, ct := goWhile t b k n } env m1 else k.nx env m1
def wWhile (t : WT) (b : WS) : WS := fun k env m => ∃ n, goWhile t b k n env m
/-- a comprehension -/
def lcGo (P : M → Prop) (tg : Tg) (tt : WT) (te : WE) (env : T.Env) (k : List D → M → Prop) : List D → List D → M → Prop
  | [], acc, m => P m ∧ k acc m
  | d :: ds, acc, m => P m ∧ bindTg tg d env fun env1 => tt env1 m fun b m1 => if b = true then te env1 m1 fun y m2 => lcGo P tg tt te env k ds (acc ++ [y]) m2 else lcGo P tg tt te env k ds acc m1
def wLc (frz : Bool) (i : WI) (tg : Tg) (tt : WT) (te : WE) (vs : List Nat) : WE := fun env m k => i env m fun items P m1 => lcGo P tg tt te (wipeE env vs) (fun acc m2 => alloc frz acc m2 k) items [] m1
def wYes : WT := fun _ m k => k true m

/-! ### what is read -/
def M.lraw (m : M) : D → Option (List D)
  | .lst ds => some ds
  | .ref a => match m a with
    | some (.lst ds) => some ds
    | _ => none
  | _ => none
def M.lsee (m : M) : D → Option (List D)
  | .scr ns => some (ns.map D.int)
  | d => m.lraw d
def M.seq (m : M) : D → Option (List D)
  | .tup ds => some ds
  | d => m.lsee d
/-- frozen sequences stay; a tracked one must stay as it is -/
def still (m : M) (d : D) : M → Prop := match d with
  | .ref a => fun m' => m' a = m a
  | _ => fun _ => True
section
variable {K : PySem.W.Frag} {F F' : Fz} {m m' : M} {H H' : Hp}
theorem lraw_is {d : D} {v : V} {ds : List D} (h : m.lraw d = some ds) (i : Is K F m H d v) (r : Rel K F m H) : ∃ a vs, v = .ref a ∧ H a = some (.lst vs) ∧ IsL K F m H ds vs := by
  cases d with
  | lst es =>
    unfold M.lraw at h; cases h
    unfold Is at i
    obtain ⟨a, vs, e, h1, _, _, h4⟩ := i
    exact ⟨a, vs, e, h1, h4⟩
  | ref a =>
    unfold M.lraw at h
    unfold Is at i
    simp only at h
    split at h
    · rename_i es e
      cases h
      obtain ⟨vs, h1, h2⟩ := r.obj a _ e
      exact ⟨a, vs, i, h1, h2⟩
    · cases h
  | _ => unfold M.lraw at h; cases h
theorem lsee_is {d : D} {v : V} {ds : List D} (h : m.lsee d = some ds) (i : Is K F m H d v) (r : Rel K F m H) : ∃ a vs, v = .ref a ∧ SqL K H a vs ∧ IsL K F m H ds vs := by
  cases d with
  | scr ns =>
    unfold M.lsee at h; cases h
    unfold Is at i
    obtain ⟨a, e, h1⟩ := i
    exact ⟨a, _, e, h1.sq, ints_isL ns⟩
  | _ =>
    obtain ⟨a, vs, e, h1, h2⟩ := lraw_is (by exact h) i r
    exact ⟨a, vs, e, .inl (.inl h1), h2⟩
theorem seq_is {d : D} {v : V} {ds : List D} (h : m.seq d = some ds) (i : Is K F m H d v) (r : Rel K F m H) : ∃ a vs, v = .ref a ∧ (SqL K H a vs ∨ SqT K H a vs) ∧ IsL K F m H ds vs ∧ ds.length ≤ sizeLine := by
  cases d with
  | tup es =>
    unfold M.seq at h; cases h
    unfold Is at i
    obtain ⟨a, vs, e, h1, h2⟩ := i
    exact ⟨a, vs, e, .inr h1.sq, h2, by rw [← h2.length]; exact SqT.fit r.fits h1.sq⟩
  | _ =>
    obtain ⟨a, vs, e, h1, h2⟩ := lsee_is (by exact h) i r
    exact ⟨a, vs, e, .inl h1, h2, by rw [← h2.length]; exact SqL.fit r.fits h1⟩
end

/-! ### what is wanted behind -/
def Want (K : PySem.W.Frag) (F : Fz) (m : M) (H : Hp) (k : D → M → Prop) (Q : VK) : Prop := ∀ d m' v H', k d m' → Step F m H F m' H' → Rel K F m' H' → Is K F m' H' d v → Q v H'
section
variable {K : PySem.W.Frag} {F F' : Fz} {m m' : M} {H H' : Hp} {k : D → M → Prop} {Q : VK}
theorem Want.step (w : Want K F m H k Q) (s : Step F m H F m' H') : Want K F m' H' k Q := fun d n v G h1 h2 => w d n v G h1 (s.trans h2)
theorem Want.here (w : Want K F m H k Q) {d : D} {v : V} (r : Rel K F m H) (h : k d m) (i : Is K F m H d v) : Q v H := w d m v H h Step.refl r i
theorem Want.tup (w : Want K F m H k Q) {ds : List D} {vs : List V} (r : Rel K F m H) (h : k (.tup ds) m) (i : IsL K F m H ds vs) (hz : vs.length ≤ sizeLine) : ∀ p, H p = none → Q (.ref p) (upd H p (.tup vs)) := fun p hp =>
  w _ _ _ _ h (Step.fresh hp) (r.fresh hp hz) (Is.tupNew r hp i)
theorem alloc_at {frz : Bool} {ds : List D} (w : Want K F m H k Q) (r : Rel K F m H) (h : alloc frz ds m k) {vs : List V} (i : IsL K F m H ds vs) (hz : vs.length ≤ sizeLine) : ∀ p, H p = none → Q (.ref p) (upd H p (.lst vs)) := fun p hp => by
  unfold alloc at h
  cases frz with
  | true =>
    rw [if_pos rfl] at h
    exact w _ _ _ _ h (Step.fresh hp) (r.fresh hp hz) (Is.lstNew r hp i)
  | false =>
    rw [if_neg (by decide)] at h
    refine w _ _ _ _ (h p (r.mnone hp)) (Step.write (.inl hp)) (r.write (.inl hp) hz ⟨vs, upd_same, i.step (Step.write (.inl hp))⟩) (by unfold Is; rfl)
end

/-! ### expressions -/
section
variable {X : Cx} {pos : Pos}
theorem e_v (i : Nat) {x : Str} {pos : Pos} (hN : X.N[i]? = some x := by rfl) (hv : Vis X.env.scope x := by first | exact Or.inl rfl | exact Or.inr (Or.inl rfl) | exact Or.inr (Or.inr rfl)) (hd : (x == ("__debug__" : Str)) = false := by decide)
    (hcd : (x == ("__classdict__" : Str)) = false := by decide) : PE X (.Name x pos) (up X.K (wV i)) := PE.imp (pe_var hN hv hd hcd) fun σ H Q ⟨F, env, m, k, hE, hR, hw, hk⟩ => by
  unfold wV at hw
  split at hw
  · rename_i d e
    obtain ⟨v, h1, h2⟩ := hE.2 i d e
    exact ⟨v, h1, hk d m v H hw Step.refl hR h2⟩
  · exact hw.elim
theorem up_c {K : PySem.W.Frag} {d : D} {v : V} (h : ∀ F m H, Is K F m H d v) : ∀ σ H Q, up K (wC d) σ H Q → tC v σ H Q := fun σ H Q ⟨F, env, m, k, hE, hR, hw, hk⟩ => hk d m v H hw Step.refl hR (h F m H)
theorem e_int {i j pos} : PE X (.Constant (.int i) j pos) (up X.K (wC (.int i))) := PE.imp pe_int (up_c fun _ _ _ => by unfold Is; rfl)
theorem e_bl {b j pos} : PE X (.Constant (.bool b) j pos) (up X.K (wC (.bl b))) := PE.imp pe_bl (up_c fun _ _ _ => by unfold Is; rfl)
theorem e_non {j pos} : PE X (.Constant .none j pos) (up X.K (wC .non)) := PE.imp pe_non (up_c fun _ _ _ => by unfold Is; rfl)
theorem e_str {x j pos} : PE X (.Constant (.str x) j pos) (up X.K (wC (.str x))) := PE.imp pe_str (up_c fun _ _ _ => by unfold Is; rfl)
/-- a module's constant: an int, a text -/
theorem e_gint {x : Str} {i : Int} {pos : Pos} (hg : Gl X x) (hm : ∃ t, X.mg x = some (.int i t)) (hd : (x == ("__debug__" : Str)) = false := by decide) : PE X (.Name x pos) (up X.K (wC (.int i))) := by
  obtain ⟨t, hm⟩ := hm
  exact PE.imp (pe_glob hg hm (v := .int i) ⟨t, rfl⟩ hd) (up_c fun _ _ _ => by unfold Is; rfl)

/-- the end of an expression's part: go on from there -/
theorem up_go {K : PySem.W.Frag} {w : WE} {σ : L2.St} {H : Hp} {F : Fz} {env : T.Env} {m : M} {k : D → M → Prop} (hE : EnvIs K F m H env σ) (hR : Rel K F m H) (hw : w env m k) {Q : VK} (hk : Want K F m H k Q) : up K w σ H Q := ⟨F, env, m, k, hE, hR, hw, hk⟩

def RB (K : PySem.W.Frag) (r : R2) (f : F2) : Prop := ∀ (F : Fz) (m : M) (H : Hp) (x y : D) (vx vy : V) (k : D → M → Prop) (Q : VK), f x y m k → Rel K F m H → Is K F m H x vx → Is K F m H y vy → Want K F m H k Q → r vx vy H Q
def RU (K : PySem.W.Frag) (r : V → Hp → VK → Prop) (f : F1) : Prop := ∀ (F : Fz) (m : M) (H : Hp) (x : D) (vx : V) (k : D → M → Prop) (Q : VK), f x m k → Rel K F m H → Is K F m H x vx → Want K F m H k Q → r vx H Q
def RC (K : PySem.W.Frag) (r : List V → Hp → VK → Prop) (f : FA) : Prop := ∀ (F : Fz) (m : M) (H : Hp) (xs : List D) (vs : List V) (k : D → M → Prop) (Q : VK), f xs m k → Rel K F m H → IsL K F m H xs vs → Want K F m H k Q → r vs H Q
theorem up_B {K : PySem.W.Frag} {r : R2} {f : F2} (hf : RB K r f) {a b : WE} : ∀ σ H Q, up K (wB f a b) σ H Q → tOp r (up K a) (up K b) σ H Q := fun σ H Q ⟨F, env, m, k, hE, hR, hw, hk⟩ =>
  ⟨F, env, m, _, hE, hR, hw, fun x m1 vx H1 q1 s1 r1 i1 => ⟨F, env, m1, _, hE.step s1, r1, q1, fun y m2 vy H2 q2 s2 r2 i2 =>
    hf F m2 H2 x y vx vy k Q q2 r2 (i1.step s2) i2 (Want.step hk (s1.trans s2))⟩⟩
theorem up_U {K : PySem.W.Frag} {r : V → Hp → VK → Prop} {f : F1} (hf : RU K r f) {a : WE} : ∀ σ H Q, up K (wU f a) σ H Q → tUn r (up K a) σ H Q := fun σ H Q ⟨F, env, m, k, hE, hR, hw, hk⟩ =>
  ⟨F, env, m, _, hE, hR, hw, fun x m1 vx H1 q1 s1 r1 i1 => hf F m1 H1 x vx k Q q1 r1 i1 (Want.step hk s1)⟩
theorem e_op {op : Operator} {r : R2} {f : F2} {a b : Expr} {wa wb : WE} (ho : OpR X (binaryOp op) r) (hf : RB X.K r f) (ha : PE X a (up X.K wa)) (hb : PE X b (up X.K wb)) : PE X (.BinOp a op b pos) (up X.K (wB f wa wb)) := PE.imp (pe_op ho ha hb) (up_B hf)
theorem e_un {op : UnaryOp} {r : V → Hp → VK → Prop} {f : F1} {a : Expr} {wa : WE} (ho : UnR X (unaryOp op) r) (hf : RU X.K r f) (ha : PE X a (up X.K wa)) : PE X (.UnaryOp op a pos) (up X.K (wU f wa)) := PE.imp (pe_un ho ha) (up_U hf)
theorem e_cmp {op : CmpOp} {r : R2} {f : F2} {a b : Expr} {wa wb : WE} (ho : OpR X (compareOp op) r) (hf : RB X.K r f) (ha : PE X a (up X.K wa)) (hb : PE X b (up X.K wb)) (hm : behindInMarks op b = false) : PE X (.Compare a [op] [b] pos) (up X.K (wB f wa wb)) := PE.imp (pe_cmpR ho ha hb hm) (up_B hf)
theorem e_ix {r : R2} {f : F2} {a b : Expr} {wa wb : WE} (hr : IxR X r) (hf : RB X.K r f) (ha : PE X a (up X.K wa)) (hb : PE X b (up X.K wb)) (hs : PlainIx b) : PE X (.Subscript a b pos) (up X.K (wB f wa wb)) := PE.imp (pe_ix hr ha hb hs) (up_B hf)
/-- tests of values -/
theorem up_tv {K : PySem.W.Frag} {a : WE} {t : TE} (h : ∀ σ H Q, up K a σ H Q → t σ H Q) : ∀ σ H Q, upT K (wTv a) σ H Q → tTest t σ H Q := fun σ H Q ⟨F, env, m, k, hE, hR, hw, hk⟩ =>
  h σ H _ ⟨F, env, m, _, hE, hR, hw, fun d m1 v H1 q1 s1 r1 i1 => by
    cases d with
    | bl b =>
      unfold Is at i1
      exact ⟨b, i1, hk b m1 H1 q1 s1 r1⟩
    | _ => exact q1.elim⟩
theorem t_cmp {op : CmpOp} {r : R2} {f : F2} {a b : Expr} {wa wb : WE} (ho : OpR X (compareOp op) r) (hf : RB X.K r f) (ha : PE X a (up X.K wa)) (hb : PE X b (up X.K wb)) (hm : behindInMarks op b = false) : PT X (.Compare a [op] [b] pos) (upT X.K (wTv (wB f wa wb))) := PT.imp (pt_cmpR ho ha hb hm) (up_tv (up_B hf))
theorem t_val {e : Expr} {w : WE} (h : PE X e (up X.K w)) (he : ∀ whole, isTrue e X.env whole = (do let v ← whole; standAt e.pos; holding [v] (truthy v)) := by intro _; rfl) : PT X e (upT X.K (wTv w)) := PT.imp (pt_val h he) fun σ H Q q => up_tv (t := up X.K w) (fun _ _ _ z => z) σ H Q q
theorem up_chain {K : PySem.W.Frag} {r r' : R2} {f g : F2} (hf : RB K r f) (hg : RB K r' g) {a b c : WE} : ∀ σ H Q, up K (wChain f g a b c) σ H Q → tChain r r' (up K a) (up K b) (up K c) σ H Q := fun σ H Q ⟨F, env, m, k, hE, hR, hw, hk⟩ =>
  ⟨F, env, m, _, hE, hR, hw, fun x m1 vx H1 q1 s1 r1 i1 => ⟨F, env, m1, _, hE.step s1, r1, q1, fun y m2 vy H2 q2 s2 r2 i2 =>
    hf F m2 H2 x y vx vy _ _ q2 r2 (i1.step s2) i2 fun z m3 vz H3 q3 s3 r3 i3 => by
      cases z with
      | bl t =>
        unfold Is at i3
        refine ⟨t, i3, ?_⟩
        cases t with
        | true =>
          rw [if_pos rfl]
          have q3' : c env m3 (fun u m4 => g y u m4 k) := q3
          exact ⟨F, env, m3, _, hE.step ((s1.trans s2).trans s3), r3, q3', fun u m4 vu H4 q4 s4 r4 i4 => hg F m4 H4 y u vy vu k Q q4 r4 (i2.step (s3.trans s4)) i4 (Want.step hk (((s1.trans s2).trans s3).trans s4))⟩
        | false =>
          rw [if_neg (by decide)]
          have q3' : k (.bl false) m3 := q3
          exact hk _ m3 _ H3 q3' ((s1.trans s2).trans s3) r3 (by unfold Is; rfl)
      | _ => exact q3.elim⟩⟩
theorem e_chain {op op' : CmpOp} {r r' : R2} {f g : F2} {a b c : Expr} {wa wb wc : WE} (ho : OpR X (compareOp op) r) (ho' : OpR X (compareOp op') r') (hf : RB X.K r f) (hg : RB X.K r' g) (ha : PE X a (up X.K wa)) (hb : PE X b (up X.K wb)) (hc : PE X c (up X.K wc))
    (hm : lastMarks [op, op'] [b, c] = false := by with_unfolding_all rfl) : PE X (.Compare a [op, op'] [b, c] pos) (up X.K (wChain f g wa wb wc)) := PE.imp (pe_chain ho ho' ha hb hc hm) (up_chain hf hg)
theorem t_chain {op op' : CmpOp} {r r' : R2} {f g : F2} {a b c : Expr} {wa wb wc : WE} (ho : OpR X (compareOp op) r) (ho' : OpR X (compareOp op') r') (hf : RB X.K r f) (hg : RB X.K r' g) (ha : PE X a (up X.K wa)) (hb : PE X b (up X.K wb)) (hc : PE X c (up X.K wc))
    (hm : lastMarks [op, op'] [b, c] = false := by with_unfolding_all rfl) : PT X (.Compare a [op, op'] [b, c] pos) (upT X.K (wTv (wChain f g wa wb wc))) := PT.imp (pt_chain ho ho' ha hb hc hm) (up_tv (up_chain hf hg))
/-- and, or, not -/
theorem t_and1 {a : Expr} {wa : WT} (ha : PT X a (upT X.K wa)) : PW X (.BoolOp .And [a] pos) (upT X.K wa) := pw_and1 ha
theorem t_or1 {a : Expr} {wa : WT} (ha : PT X a (upT X.K wa)) : PW X (.BoolOp .Or [a] pos) (upT X.K wa) := pw_or1 ha
theorem t_and {a b : Expr} {rest : List Expr} {wa wb : WT} (ha : PT X a (upT X.K wa)) (hb : PW X (.BoolOp .And (b :: rest) pos) (upT X.K wb)) : PW X (.BoolOp .And (a :: b :: rest) pos) (upT X.K (wAnd wa wb)) := PW.imp (pw_and ha hb) fun σ H Q ⟨F, env, m, k, hE, hR, hw, hk⟩ =>
  ⟨F, env, m, _, hE, hR, hw, fun c m1 H1 q1 s1 r1 => by
    cases c with
    | true => exact ⟨F, env, m1, k, hE.step s1, r1, q1, fun d m2 H2 q2 s2 r2 => hk d m2 H2 q2 (s1.trans s2) r2⟩
    | false => exact hk false m1 H1 q1 s1 r1⟩
theorem t_or {a b : Expr} {rest : List Expr} {wa wb : WT} (ha : PT X a (upT X.K wa)) (hb : PW X (.BoolOp .Or (b :: rest) pos) (upT X.K wb)) : PW X (.BoolOp .Or (a :: b :: rest) pos) (upT X.K (wOr wa wb)) := PW.imp (pw_or ha hb) fun σ H Q ⟨F, env, m, k, hE, hR, hw, hk⟩ =>
  ⟨F, env, m, _, hE, hR, hw, fun c m1 H1 q1 s1 r1 => by
    cases c with
    | false => exact ⟨F, env, m1, k, hE.step s1, r1, q1, fun d m2 H2 q2 s2 r2 => hk d m2 H2 q2 (s1.trans s2) r2⟩
    | true => exact hk true m1 H1 q1 s1 r1⟩
theorem t_not {a : Expr} {wa : WT} (ha : PT X a (upT X.K wa)) : PT X (.UnaryOp .Not a pos) (upT X.K (wNot wa)) := PT.imp (pt_not ha) fun σ H Q ⟨F, env, m, k, hE, hR, hw, hk⟩ =>
  ⟨F, env, m, _, hE, hR, hw, fun c m1 H1 q1 s1 r1 => hk _ m1 H1 q1 s1 r1⟩
theorem e_one {op} {a : Expr} {wa : WE} (ha : PE X a (up X.K wa)) : PE X (.BoolOp op [a] pos) (up X.K wa) := pe_one ha
theorem e_and {a b : Expr} {rest : List Expr} {wa wb : WE} (ha : PE X a (up X.K wa)) (hb : PE X (.BoolOp .And (b :: rest) pos) (up X.K wb)) : PE X (.BoolOp .And (a :: b :: rest) pos) (up X.K (wAndV wa wb)) := PE.imp (pe_and ha hb) fun σ H Q ⟨F, env, m, k, hE, hR, hw, hk⟩ =>
  ⟨F, env, m, _, hE, hR, hw, fun d m1 v H1 q1 s1 r1 i1 => by
    cases d with
    | bl c =>
      unfold Is at i1
      refine ⟨c, i1, ?_⟩
      cases c with
      | true => exact ⟨F, env, m1, k, hE.step s1, r1, q1, Want.step hk s1⟩
      | false => exact hk _ m1 _ H1 q1 s1 r1 (by unfold Is; rfl)
    | _ => exact q1.elim⟩
theorem e_or {a b : Expr} {rest : List Expr} {wa wb : WE} (ha : PE X a (up X.K wa)) (hb : PE X (.BoolOp .Or (b :: rest) pos) (up X.K wb)) : PE X (.BoolOp .Or (a :: b :: rest) pos) (up X.K (wOrV wa wb)) := PE.imp (pe_or ha hb) fun σ H Q ⟨F, env, m, k, hE, hR, hw, hk⟩ =>
  ⟨F, env, m, _, hE, hR, hw, fun d m1 v H1 q1 s1 r1 i1 => by
    cases d with
    | bl c =>
      unfold Is at i1
      refine ⟨c, i1, ?_⟩
      cases c with
      | false => exact ⟨F, env, m1, k, hE.step s1, r1, q1, Want.step hk s1⟩
      | true => exact hk _ m1 _ H1 q1 s1 r1 (by unfold Is; rfl)
    | _ => exact q1.elim⟩
theorem e_not {a : Expr} {wa : WE} (ha : PE X a (up X.K wa)) : PE X (.UnaryOp .Not a pos) (up X.K (wNotV wa)) := PE.imp (pe_not ha) fun σ H Q ⟨F, env, m, k, hE, hR, hw, hk⟩ =>
  ⟨F, env, m, _, hE, hR, hw, fun d m1 v H1 q1 s1 r1 i1 => by
    cases d with
    | bl c =>
      unfold Is at i1
      exact ⟨c, i1, hk _ m1 _ H1 q1 s1 r1 (by unfold Is; rfl)⟩
    | _ => exact q1.elim⟩
theorem e_if {c a b : Expr} {wc : WT} {wa wb : WE} (hc : PT X c (upT X.K wc)) (ha : PE X a (up X.K wa)) (hb : PE X b (up X.K wb)) : PE X (.IfExp c a b pos) (up X.K (wIf wc wa wb)) := PE.imp (pe_ifExp hc ha hb) fun σ H Q ⟨F, env, m, k, hE, hR, hw, hk⟩ =>
  ⟨F, env, m, _, hE, hR, hw, fun c m1 H1 q1 s1 r1 => by
    cases c with
    | true => exact ⟨F, env, m1, k, hE.step s1, r1, q1, Want.step hk s1⟩
    | false => exact ⟨F, env, m1, k, hE.step s1, r1, q1, Want.step hk s1⟩⟩
/-- arguments -/
theorem a_nil (hs : PA X [] tNil := by exact pa_nil) : PA X [] (upA X.K wNil) := PA.imp hs fun σ H Q ⟨F, env, m, k, hE, hR, hw, hk⟩ => hk [] m [] H hw Step.refl hR .nil
end
end T

set_option Elab.async false
set_option linter.all false
set_option maxRecDepth 100000
set_option maxHeartbeats 2000000
namespace T
open PySem PySem.Spec PyProof.Rows L2
section
variable {X : Cx} {pos : Pos}
theorem a_cons {e : Expr} {es : List Expr} {w : WE} {ws : WA} (ha : PE X e (up X.K w)) (hr : PA X es (upA X.K ws)) (hs : starEach (e :: es) X.env = (false, eval e X.env) :: starEach es X.env := by rfl) : PA X (e :: es) (upA X.K (wCons w ws)) :=
  PA.imp (pa_cons ha hr hs) fun σ H Q ⟨F, env, m, k, hE, hR, hw, hk⟩ => ⟨F, env, m, _, hE, hR, hw, fun x m1 vx H1 q1 s1 r1 i1 => ⟨F, env, m1, _, hE.step s1, r1, q1, fun xs m2 vs H2 q2 s2 r2 i2 =>
    hk _ m2 _ H2 q2 (s1.trans s2) r2 (.cons (i1.step s2) i2)⟩⟩
theorem e_tup {es : List Expr} {x1} {ws : WA} (h : PA X es (upA X.K ws)) : PE X (.Tuple es x1 pos) (up X.K (wTup ws)) := PE.imp (pe_tup h) fun σ H Q ⟨F, env, m, k, hE, hR, hw, hk⟩ =>
  ⟨F, env, m, _, hE, hR, hw, fun ds m1 vs H1 q1 s1 r1 i1 => by
    obtain ⟨hz, q1⟩ := q1
    have hz' : vs.length ≤ sizeLine := by rw [i1.length]; exact hz
    exact ⟨hz', Want.tup (Want.step hk s1) r1 q1 i1 hz'⟩⟩
theorem e_lst (frz : Bool) {es : List Expr} {ws : WA} (h : PA X es (upA X.K ws)) : PE X (.List es pos) (up X.K (wLst frz ws)) := PE.imp (pe_lst h) fun σ H Q ⟨F, env, m, k, hE, hR, hw, hk⟩ =>
  ⟨F, env, m, _, hE, hR, hw, fun ds m1 vs H1 q1 s1 r1 i1 => by
    obtain ⟨hz, q1⟩ := q1
    have hz' : vs.length ≤ sizeLine := by rw [i1.length]; exact hz
    exact ⟨hz', alloc_at (Want.step hk s1) r1 q1 i1 hz'⟩⟩
theorem e_dic0 : PE X (.Dict [] [] pos) (up X.K wDic0) := PE.imp pe_dnewK fun σ H Q ⟨F, env, m, k, hE, hR, hw, hk⟩ p hp =>
  hk _ _ _ _ (hw p (hR.mnone hp)) (Step.write (.inl hp)) (hR.write (.inl hp) (Nat.zero_le _) ⟨[], upd_same, by unfold IsK; rfl⟩) (by unfold Is; rfl)

/-! ### statements -/
theorem up_s {K : PySem.W.Frag} {w : WS} {t : TS} (h : ∀ E σ H, upS K w E σ H → t E σ H) {E : Ends} {σ : L2.St} {H : Hp} {F : Fz} {env : T.Env} {m : M} {k : WK} (hE : EnvIs K F m H env σ) (hR : Rel K F m H) (hw : w k env m) (hk : Conv K F m H k E) : t E σ H := h E σ H ⟨F, env, m, k, hE, hR, hw, hk⟩
theorem ss_nil : PSs X [] (upS X.K wNext) := PSs.imp pss_nil fun E σ H ⟨F, env, m, k, hE, hR, hw, hk⟩ => hk.nx env m σ H hw Step.refl hR hE
theorem ss_one {st : Stmt} {w : WS} (h : PS X st (upS X.K w)) : PSs X [st] (upS X.K w) := pss_one h
theorem ss_cons {st : Stmt} {rest : List Stmt} {w u : WS} (h1 : PS X st (upS X.K w)) (h2 : PSs X rest (upS X.K u)) : PSs X (st :: rest) (upS X.K (wSeq w u)) := PSs.imp (pss_cons h1 h2) fun E σ H ⟨F, env, m, k, hE, hR, hw, hk⟩ =>
  ⟨F, env, m, { k with nx := u k }, hE, hR, hw, ⟨fun e n s G q a b c => ⟨F, e, n, k, c, b, q, hk.step a⟩, hk.rt, hk.bk, hk.ct⟩⟩
theorem s_pass : PS X (.Pass pos) (upS X.K wNext) := PS.imp ps_pass fun E σ H ⟨F, env, m, k, hE, hR, hw, hk⟩ => hk.nx env m σ H hw Step.refl hR hE
theorem s_brk : PS X (.Break pos) (upS X.K wBrk) := PS.imp ps_break fun E σ H ⟨F, env, m, k, hE, hR, hw, hk⟩ => hk.bk env m σ H hw Step.refl hR hE
theorem s_cnt : PS X (.Continue pos) (upS X.K wCnt) := PS.imp ps_continue fun E σ H ⟨F, env, m, k, hE, hR, hw, hk⟩ => hk.ct env m σ H hw Step.refl hR hE
theorem s_never {st : Stmt} : PS X st (upS X.K wNever) := PS.imp ps_never fun E σ H ⟨F, env, m, k, hE, hR, hw, hk⟩ => hw
theorem s_expr {e : Expr} {w : WE} (he : PE X e (up X.K w)) (hs : swapsWith e none pos.line X.env = pure false := by rfl) : PS X (.Expr e pos) (upS X.K (wDrop w)) := PS.imp (ps_expr he hs) fun E σ H ⟨F, env, m, k, hE, hR, hw, hk⟩ =>
  ⟨F, env, m, _, hE, hR, hw, fun d m1 v H1 q1 s1 r1 i1 => hk.nx env m1 σ H1 q1 s1 r1 (hE.step s1)⟩
theorem s_ret {e : Expr} {w : WE} (he : PE X e (up X.K w)) : PS X (.Return (some e) pos) (upS X.K (wRet w)) := PS.imp (ps_ret he) fun E σ H ⟨F, env, m, k, hE, hR, hw, hk⟩ =>
  ⟨F, env, m, _, hE, hR, hw, fun d m1 v H1 q1 s1 r1 i1 => hk.rt d m1 v H1 q1 s1 r1 i1⟩
theorem s_retN : PS X (.Return none pos) (upS X.K wRetN) := PS.imp ps_retN fun E σ H ⟨F, env, m, k, hE, hR, hw, hk⟩ => hk.rt .non m .non H hw Step.refl hR (by unfold Is; rfl)
theorem s_if {c : Expr} {a b : List Stmt} {t : WT} {u v : WS} (hc : PT X c (upT X.K t)) (ha : PSs X a (upS X.K u)) (hb : PSs X b (upS X.K v)) : PS X (.If c a b pos) (upS X.K (wIfS t u v)) := PS.imp (ps_if hc ha hb) fun E σ H ⟨F, env, m, k, hE, hR, hw, hk⟩ =>
  ⟨F, env, m, _, hE, hR, hw, fun c m1 H1 q1 s1 r1 => by
    cases c with
    | true => exact ⟨F, env, m1, k, hE.step s1, r1, q1, hk.step s1⟩
    | false => exact ⟨F, env, m1, k, hE.step s1, r1, q1, hk.step s1⟩⟩

/-! ### targets that are names -/
def gNames : List Nat → TGs
  | [] => gNil
  | i :: is => gCons (gName i) (gNames is)
def tgR (K : PySem.W.Frag) : Tg → TG
  | .one i => gName i
  | .tup is => gTup K is.length (gNames is)
def setV : List Nat → List V → L2.St → L2.St
  | i :: is, v :: vs, σ => setV is vs (σ.set i (some v))
  | _, _, σ => σ
theorem gNames_go : ∀ {is : List Nat} {vs : List V} {σ : L2.St} {H : Hp} {Q : L2.St → Hp → Prop}, vs.length = is.length → Q (setV is vs σ) H → gNames is vs σ H Q
  | [], [], _, _, _, _, q => ⟨rfl, q⟩
  | [], _ :: _, _, _, _, h, _ => by simp at h
  | _ :: _, [], _, _, _, h, _ => by simp at h
  | i :: is, v :: vs, σ, H, Q, h, q => ⟨v, vs, rfl, gNames_go (is := is) (vs := vs) (by simpa using h) q⟩
theorem setAll_is {K : PySem.W.Frag} {F : Fz} {m : M} {H : Hp} : ∀ {is : List Nat} {ds : List D} {vs : List V} {env : T.Env} {σ : L2.St}, IsL K F m H ds vs → EnvIs K F m H env σ → EnvIs K F m H (setAll is ds env) (setV is vs σ)
  | [], _, _, _, _, _, h => by unfold setAll setV; exact h
  | i :: is, [], _, _, _, q, h => by unfold IsL at q; subst q; unfold setAll setV; exact h
  | i :: is, d :: ds, vs, env, σ, q, h => by
    unfold IsL at q
    obtain ⟨v, r, e, h1, h2⟩ := q
    subst e
    unfold setAll setV
    exact setAll_is h2 (h.set h1)
theorem bind_is {K : PySem.W.Frag} {F : Fz} {m : M} {H : Hp} {tg : Tg} {d : D} {v : V} {env : T.Env} {σ : L2.St} {k : T.Env → Prop} {Q : L2.St → Hp → Prop} (hE : EnvIs K F m H env σ) (hd : Is K F m H d v) (h : bindTg tg d env k)
    (hk : ∀ env' σ', k env' → EnvIs K F m H env' σ' → (∀ vs, (∀ i ∈ tg.slots, i ∈ vs) → L2.wipe σ' vs = L2.wipe σ vs) → Q σ' H) : tgR K tg v σ H Q := by
  have wset : ∀ (vs : List Nat) (i : Nat) (y : Option V) (σ : L2.St), i ∈ vs → L2.wipe (σ.set i y) vs = L2.wipe σ vs := by
    intro vs
    induction vs with
    | nil => intro i y σ h; cases h
    | cons v vs ih =>
      intro i y σ h
      unfold L2.wipe
      by_cases hi : i ∈ vs
      · rw [ih i y σ hi]
      · have e : i = v := by
          rcases List.mem_cons.mp h with e | e
          · exact e
          · exact absurd e hi
        subst e
        have q : ∀ (ws : List Nat) (σ : L2.St), i ∉ ws → L2.wipe (σ.set i y) ws = (L2.wipe σ ws).set i y := by
          intro ws
          induction ws with
          | nil => intro σ _; rfl
          | cons w ws ih2 =>
            intro σ hw
            unfold L2.wipe
            rw [ih2 σ (fun z => hw (List.mem_cons_of_mem _ z))]
            exact List.set_comm _ _ (fun z => hw (by rw [z]; exact List.mem_cons_self))
        rw [q vs σ hi, List.set_set]
  cases tg with
  | one i =>
    exact hk _ _ h (hE.set hd) fun vs hv => wset vs i _ σ (hv i (by simp [Tg.slots]))
  | tup is =>
    cases d with
    | tup ds =>
      obtain ⟨hl, h⟩ := h
      unfold Is at hd
      obtain ⟨a, vs, e, h1, h2⟩ := hd
      refine ⟨a, vs, e, h1.sq, by rw [h2.length]; exact hl, gNames_go (by rw [h2.length]; exact hl) (hk _ _ h (setAll_is h2 hE) ?_)⟩
      intro ws hw
      have all : ∀ (is : List Nat) (vs : List V) (σ : L2.St), (∀ i ∈ is, i ∈ ws) → L2.wipe (setV is vs σ) ws = L2.wipe σ ws := by
        intro is
        induction is with
        | nil => intro vs σ _; unfold setV; rfl
        | cons i is ih =>
          intro vs σ hi
          cases vs with
          | nil => unfold setV; rfl
          | cons v vs =>
            unfold setV
            rw [ih vs _ (fun j hj => hi j (List.mem_cons_of_mem _ hj)), wset ws i _ σ (hi i List.mem_cons_self)]
      exact all is vs σ hw
    | _ => exact h.elim
theorem g_one {i : Nat} {x : Str} {pos : Pos} (hN : X.N.Nodup) (hi : X.N[i]? = some x) (hx : Loc X.env.scope x) (hf : X.fn x = true ∨ X.env.scope.names.lookup x = some .local := by first | exact .inl rfl | exact .inr rfl | assumption) : PG X (.Name x pos) (tgR X.K (.one i)) := pg_name hN hi hx hf
theorem gs_nil : PGs X [] (gNames []) := pgs_nil
theorem gs_cons {i : Nat} {x : Str} {is : List Nat} {es : List Expr} {p : Pos} (hN : X.N.Nodup) (hi : X.N[i]? = some x) (hx : Loc X.env.scope x) (h : PGs X es (gNames is)) (hf : X.fn x = true ∨ X.env.scope.names.lookup x = some .local := by first | exact .inl rfl | exact .inr rfl | assumption)
    (hs : (assignEach (Expr.Name x p :: es) X.env).map (·.2) = assign (Expr.Name x p) X.env :: (assignEach es X.env).map (·.2) := by rfl) : PGs X (Expr.Name x p :: es) (gNames (i :: is)) := pgs_cons (pg_name hN hi hx hf) h hs
theorem g_tup {es : List Expr} {k : Nat} {is : List Nat} (hc : X.calm = true) (h : PGs X es (gNames is)) (hn : (assignEach es X.env).length = is.length := by rfl) (hst : (assignEach es X.env).findIdx? (·.1) = none := by rfl) : PG X (.Tuple es k pos) (tgR X.K (.tup is)) := pg_tup hc h hn hst
/-- name = e -/
theorem s_set {i : Nat} {x : Str} {e : Expr} {w : WE} {pos' : Pos} (hN : X.N.Nodup) (hi : X.N[i]? = some x) (hx : Loc X.env.scope x) (he : PE X e (up X.K w)) (hs : swapsWith e (some (.Name x pos')) pos.line X.env = pure false := by rfl) (hf : X.fn x = true ∨ X.env.scope.names.lookup x = some .local := by first | exact .inl rfl | exact .inr rfl | assumption) :
    PS X (.Assign [.Name x pos'] e pos) (upS X.K (wSet w (.one i))) := PS.imp (ps_set hN hi hx he hs hf) fun E σ H ⟨F, env, m, k, hE, hR, hw, hk⟩ =>
  ⟨F, env, m, _, hE, hR, hw, fun d m1 v H1 q1 s1 r1 i1 => hk.nx _ m1 _ H1 q1 s1 r1 ((hE.step s1).set i1)⟩
/-- a, b = e -/
theorem s_unp {tg e : Expr} {w : WE} {g : Tg} (he : PE X e (up X.K w)) (hg : PG X tg (tgR X.K g)) (hs : swapsWithSole [tg] e pos.line X.env = pure false := by rfl) (hw : swappedStores [tg] e X.env = pure none := by rfl)
    (h1 : (assignEach [tg] X.env).map (·.2) = [assign tg X.env] := by rfl) : PS X (.Assign [tg] e pos) (upS X.K (wSet w g)) := PS.imp (ps_asg he hg hs hw h1) fun E σ H ⟨F, env, m, k, hE, hR, hw, hk⟩ =>
  ⟨F, env, m, _, hE, hR, hw, fun d m1 v H1 q1 s1 r1 i1 => bind_is (hE.step s1) i1 q1 fun env' σ' q e2 _ => hk.nx env' m1 σ' H1 q s1 r1 e2⟩

/-! ### loops -/
theorem goFor_at {K : PySem.W.Frag} {F : Fz} {items : List D} {P : M → Prop} {m : M} {H : Hp} {J : It} {tg : Tg} {b : WS} {k : WK} {E : Ends} {env : T.Env} {σ : L2.St} (ok : ItOk K F items P m H J) (hE : EnvIs K F m H env σ) (hR : Rel K F m H) (hw : goFor P tg b k items env m) (hk : Conv K F m H k E) :
    ∃ W : Nat → Nat → L2.St → Hp → Prop, (∃ n, W 0 n σ H) ∧ ∀ i n σ H, W i n σ H → (J.stop i H ∧ E.nx σ H) ∨ (J.go i H ∧ ∃ Nx : L2.St → Hp → Prop, (∀ σ' H', Nx σ' H' → ∃ n', n' < n ∧ W (i + 1) n' σ' H') ∧
      ∀ x H', J.yld i H x H' → tgR K tg x σ H' fun σ2 H2 => upS K b { E with nx := Nx, ct := Nx, bk := E.nx } σ2 H2) := by
  refine ⟨fun i n σ' H' => ∃ env' m', n + i = items.length ∧ Step F m H F m' H' ∧ Rel K F m' H' ∧ EnvIs K F m' H' env' σ' ∧ goFor P tg b k (items.drop i) env' m', ⟨items.length, env, m, rfl, Step.refl, hR, hE, hw⟩, ?_⟩
  rintro i n σ' H' ⟨env', m', hn, st, rl, en, go⟩
  by_cases hi : i < items.length
  · have hd : items.drop i = items[i] :: items.drop (i + 1) := List.drop_eq_getElem_cons hi
    rw [hd] at go
    obtain ⟨hP, go⟩ := go
    refine .inr ⟨ok.go i F m' H' st rl hP hi, fun σ2 H2 => ∃ env2 m2, Step F m H F m2 H2 ∧ Rel K F m2 H2 ∧ EnvIs K F m2 H2 env2 σ2 ∧ goFor P tg b k (items.drop (i + 1)) env2 m2, ?_, fun x H2 hy => ?_⟩
    · rintro σ2 H2 ⟨env2, m2, a, b', c, d⟩
      exact ⟨n - 1, by omega, env2, m2, by omega, a, b', c, d⟩
    · obtain ⟨s2, r2, i2⟩ := ok.yld i items[i] F m' H' st rl hP (List.getElem?_eq_getElem hi) x H2 hy
      refine bind_is (en.step s2) i2 go fun env3 σ3 q e3 _ => ?_
      refine ⟨F, env3, m', _, e3, r2, q, ⟨?_, ?_, ?_, ?_⟩⟩
      · intro e n' s' G q' a b' c
        exact ⟨e, n', (st.trans s2).trans a, b', c, q'⟩
      · intro d n' v G q' a b' c
        exact hk.rt d n' v G q' ((st.trans s2).trans a) b' c
      · intro e n' s' G q' a b' c
        exact hk.nx e n' s' G q' ((st.trans s2).trans a) b' c
      · intro e n' s' G q' a b' c
        exact ⟨e, n', (st.trans s2).trans a, b', c, q'⟩
  · have hd : items.drop i = [] := List.drop_eq_nil_of_le (by omega)
    rw [hd] at go
    obtain ⟨hP, go⟩ := go
    exact .inl ⟨ok.stop i F m' H' st rl hP (by omega), hk.nx env' m' σ' H' go st rl en⟩
end
end T

set_option Elab.async false
set_option linter.all false
set_option maxRecDepth 100000
set_option maxHeartbeats 2000000
namespace T
open PySem PySem.Spec PyProof.Rows L2
section
variable {X : Cx} {pos : Pos}
theorem s_for {iter tgE : Expr} {body : List Stmt} {wi : WI} {tg : Tg} {b : WS} (hp : PassesOwn (model X.prog X.w) X.A X.env X.xe) (hc : X.calm = true) (hi : PI X tgE iter (upI X.K wi)) (hg : PG X tgE (tgR X.K tg)) (hb : PSs X body (upS X.K b))
    (hs : ∀ x, foldedSetIterable iter X.env x = pure x := by intro _; rfl) : PS X (.For tgE iter body [] pos) (upS X.K (wFor wi tg b)) := PS.imp (ps_for hp hc hi hg hb hs) fun E σ H ⟨F, env, m, k, hE, hR, hw, hk⟩ =>
  ⟨F, env, m, _, hE, hR, hw, fun items P m1 H1 J q s1 r1 ok => goFor_at ok (hE.step s1) r1 q (hk.step s1)⟩
theorem s_while {c : Expr} {body : List Stmt} {t : WT} {b : WS} (hp : PassesOwn (model X.prog X.w) X.A X.env X.xe) (hc : PT X c (upT X.K t)) (hb : PSs X body (upS X.K b)) : PS X (.While c body [] pos) (upS X.K (wWhile t b)) := PS.imp (ps_while hp hc hb) fun E σ H ⟨F, env, m, k, hE, hR, hw, hk⟩ => by
  obtain ⟨n0, hw⟩ := hw
  refine ⟨fun n σ' H' => ∃ env' m', Step F m H F m' H' ∧ Rel X.K F m' H' ∧ EnvIs X.K F m' H' env' σ' ∧ goWhile t b k n env' m', ⟨n0, env, m, Step.refl, hR, hE, hw⟩, ?_⟩
  rintro n σ' H' ⟨env', m', st, rl, en, go⟩
  cases n with
  | zero => exact go.elim
  | succ n =>
    refine ⟨F, env', m', _, en, rl, go, fun c m1 H1 q1 s1 r1 => ?_⟩
    cases c with
    | true =>
      rw [if_pos rfl]
      refine ⟨fun σ2 H2 => ∃ env2 m2, Step F m H F m2 H2 ∧ Rel X.K F m2 H2 ∧ EnvIs X.K F m2 H2 env2 σ2 ∧ goWhile t b k n env2 m2, ?_, F, env', m1, _, en.step s1, r1, q1, ⟨?_, ?_, ?_, ?_⟩⟩
      · rintro σ2 H2 ⟨env2, m2, a, b', c, d⟩
        exact ⟨n, by omega, env2, m2, a, b', c, d⟩
      · intro e n' s' G q' a b' c
        exact ⟨e, n', (st.trans s1).trans a, b', c, q'⟩
      · intro d n' v G q' a b' c
        exact hk.rt d n' v G q' ((st.trans s1).trans a) b' c
      · intro e n' s' G q' a b' c
        exact hk.nx e n' s' G q' ((st.trans s1).trans a) b' c
      · intro e n' s' G q' a b' c
        exact ⟨e, n', (st.trans s1).trans a, b', c, q'⟩
    | false =>
      rw [if_neg (by decide)]
      have q1' : k.nx env' m1 := q1
      exact hk.nx env' m1 σ' H1 q1' (st.trans s1) r1 (en.step s1)

/-! ### the comprehension -/
theorem wipe_idem (σ : L2.St) : ∀ (vs ws : List Nat), (∀ i ∈ vs, i ∈ ws) → L2.wipe (L2.wipe σ vs) ws = L2.wipe σ ws := by
  have wset : ∀ (vs : List Nat) (i : Nat) (y : Option V) (σ : L2.St), i ∈ vs → L2.wipe (σ.set i y) vs = L2.wipe σ vs := by
    intro vs
    induction vs with
    | nil => intro i y σ h; cases h
    | cons v vs ih =>
      intro i y σ h
      unfold L2.wipe
      by_cases hi : i ∈ vs
      · rw [ih i y σ hi]
      · have e : i = v := by
          rcases List.mem_cons.mp h with e | e
          · exact e
          · exact absurd e hi
        subst e
        have q : ∀ (ws : List Nat) (σ : L2.St), i ∉ ws → L2.wipe (σ.set i y) ws = (L2.wipe σ ws).set i y := by
          intro ws
          induction ws with
          | nil => intro σ _; rfl
          | cons w ws ih2 =>
            intro σ hw
            unfold L2.wipe
            rw [ih2 σ (fun z => hw (List.mem_cons_of_mem _ z))]
            exact List.set_comm _ _ (fun z => hw (by rw [z]; exact List.mem_cons_self))
        rw [q vs σ hi, List.set_set]
  intro vs
  induction vs with
  | nil => intro ws _; rfl
  | cons v vs ih =>
    intro ws h
    show L2.wipe ((L2.wipe σ vs).set v none) ws = _
    rw [wset ws v none _ (h v List.mem_cons_self)]
    exact ih ws fun i hi => h i (List.mem_cons_of_mem _ hi)
end
section
variable {K : PySem.W.Frag} {F : Fz} {m : M} {H : Hp} {p : Addr} {us vs : List V}
mutual
theorem Is.chg (hf : F p) (hp : H p = some (.lst us)) : ∀ {d : D} {v : V}, Is K F m H d v → Is K F m (upd H p (.lst vs)) d v
  | .non, _, h => h
  | .bl _, _, h => h
  | .int _, _, h => h
  | .str _, _, h => h
  | .ty _, _, h => h
  | .ref _, _, h => h
  | .scr ns, v, h => by
    unfold Is at h ⊢
    obtain ⟨a, e, h⟩ := h
    refine ⟨a, e, ?_⟩
    rcases h with ⟨n, o, q⟩ | q
    · exact .inl ⟨n, o, by rw [upd_ne (fun z => by rw [z, hp] at q; cases q)]; exact q⟩
    · exact .inr q
  | .tup ds, v, h => by
    unfold Is at h ⊢
    obtain ⟨a, vs, e, h1, h2⟩ := h
    refine ⟨a, vs, e, ?_, IsL.chg hf hp h2⟩
    rcases h1 with ⟨n, q | ⟨o, q⟩⟩ | q
    · exact .inl ⟨n, .inl (by rw [upd_ne (fun z => by rw [z, hp] at q; cases q)]; exact q)⟩
    · exact .inl ⟨n, .inr ⟨o, by rw [upd_ne (fun z => by rw [z, hp] at q; cases q)]; exact q⟩⟩
    · exact .inr q
  | .lst ds, v, h => by
    unfold Is at h ⊢
    obtain ⟨a, vs, e, h1, h2, h3, h4⟩ := h
    exact ⟨a, vs, e, by rw [upd_ne (fun z => h3 (by rw [z]; exact hf))]; exact h1, h2, h3, IsL.chg hf hp h4⟩
  | .dic ds, v, h => by
    unfold Is at h ⊢
    obtain ⟨a, vs, e, h1, h2, h3, h4⟩ := h
    exact ⟨a, vs, e, by rw [upd_ne (fun z => h3 (by rw [z]; exact hf))]; exact h1, h2, h3, IsK.chg hf hp h4⟩
theorem IsL.chg (hf : F p) (hp : H p = some (.lst us)) : ∀ {d : List D} {v : List V}, IsL K F m H d v → IsL K F m (upd H p (.lst vs)) d v
  | [], _, h => h
  | d :: ds, vs, h => by
    unfold IsL at h ⊢
    obtain ⟨v, r, e, h1, h2⟩ := h
    exact ⟨v, r, e, Is.chg hf hp h1, IsL.chg hf hp h2⟩
theorem IsK.chg (hf : F p) (hp : H p = some (.lst us)) : ∀ {d : List (Key × D)} {v : List (Key × V)}, IsK K F m H d v → IsK K F m (upd H p (.lst vs)) d v
  | [], _, h => h
  | d :: ds, vs, h => by
    unfold IsK at h ⊢
    obtain ⟨v, r, e, h1, h2⟩ := h
    exact ⟨v, r, e, Is.chg hf hp h1, IsK.chg hf hp h2⟩
end
theorem IsF.chg (hf : F p) (hp : H p = some (.lst us)) : ∀ {d : List (Str × D)} {v : List (Str × V)}, IsF K F m H d v → IsF K F m (upd H p (.lst vs)) d v
  | [], _, h => h
  | d :: ds, vs, h => by
    obtain ⟨v, r, e, h1, h2⟩ := h
    exact ⟨v, r, e, Is.chg hf hp h1, IsF.chg hf hp h2⟩
end
section
variable {K : PySem.W.Frag} {F F' : Fz} {m : M} {H : Hp} {p : Addr} {us : List V} {o' : MO}
mutual
theorem Is.unres (hf : F p) (hs : ∀ a, F' a → F a) (hp : H p = some (.lst us)) : ∀ {d : D} {v : V}, Is K F m H d v → Is K F' (m.set p o') H d v
  | .non, _, h => h
  | .bl _, _, h => h
  | .int _, _, h => h
  | .str _, _, h => h
  | .ty _, _, h => h
  | .ref _, _, h => h
  | .scr ns, v, h => by
    unfold Is at h ⊢
    obtain ⟨a, e, h⟩ := h
    refine ⟨a, e, ?_⟩
    rcases h with ⟨n, o, q⟩ | q
    · exact .inl ⟨by rw [M.set_ne (fun z => by rw [z, hp] at q; cases q)]; exact n, o, q⟩
    · exact .inr q
  | .tup ds, v, h => by
    unfold Is at h ⊢
    obtain ⟨a, vs, e, h1, h2⟩ := h
    refine ⟨a, vs, e, ?_, IsL.unres hf hs hp h2⟩
    rcases h1 with ⟨n, q | ⟨o, q⟩⟩ | q
    · exact .inl ⟨by rw [M.set_ne (fun z => by rw [z, hp] at q; cases q)]; exact n, .inl q⟩
    · exact .inl ⟨by rw [M.set_ne (fun z => by rw [z, hp] at q; cases q)]; exact n, .inr ⟨o, q⟩⟩
    · exact .inr q
  | .lst ds, v, h => by
    unfold Is at h ⊢
    obtain ⟨a, vs, e, h1, h2, h3, h4⟩ := h
    exact ⟨a, vs, e, h1, by rw [M.set_ne (fun z => h3 (by rw [z]; exact hf))]; exact h2, fun z => h3 (hs a z), IsL.unres hf hs hp h4⟩
  | .dic ds, v, h => by
    unfold Is at h ⊢
    obtain ⟨a, vs, e, h1, h2, h3, h4⟩ := h
    exact ⟨a, vs, e, h1, by rw [M.set_ne (fun z => h3 (by rw [z]; exact hf))]; exact h2, fun z => h3 (hs a z), IsK.unres hf hs hp h4⟩
theorem IsL.unres (hf : F p) (hs : ∀ a, F' a → F a) (hp : H p = some (.lst us)) : ∀ {d : List D} {v : List V}, IsL K F m H d v → IsL K F' (m.set p o') H d v
  | [], _, h => h
  | d :: ds, vs, h => by
    unfold IsL at h ⊢
    obtain ⟨v, r, e, h1, h2⟩ := h
    exact ⟨v, r, e, Is.unres hf hs hp h1, IsL.unres hf hs hp h2⟩
theorem IsK.unres (hf : F p) (hs : ∀ a, F' a → F a) (hp : H p = some (.lst us)) : ∀ {d : List (Key × D)} {v : List (Key × V)}, IsK K F m H d v → IsK K F' (m.set p o') H d v
  | [], _, h => h
  | d :: ds, vs, h => by
    unfold IsK at h ⊢
    obtain ⟨v, r, e, h1, h2⟩ := h
    exact ⟨v, r, e, Is.unres hf hs hp h1, IsK.unres hf hs hp h2⟩
end
theorem IsF.unres (hf : F p) (hs : ∀ a, F' a → F a) (hp : H p = some (.lst us)) : ∀ {d : List (Str × D)} {v : List (Str × V)}, IsF K F m H d v → IsF K F' (m.set p o') H d v
  | [], _, h => h
  | d :: ds, vs, h => by
    obtain ⟨v, r, e, h1, h2⟩ := h
    exact ⟨v, r, e, Is.unres hf hs hp h1, IsF.unres hf hs hp h2⟩
end
section
variable {X : Cx} {pos : Pos}
theorem lc_at {K : PySem.W.Frag} {wi : WI} {tg : Tg} {tt : WT} {te : WE} {vs : List Nat} {frz : Bool} (hsub : ∀ i ∈ tg.slots, i ∈ vs) : ∀ σ H Q, up K (wLc frz wi tg tt te vs) σ H Q → tLc (upI K wi) (tgR K tg) (upT K tt) (up K te) vs σ H Q := by
  rintro σ H Q ⟨F, env, m, k, hE, hR, hw, hk⟩
  refine ⟨F, env, m, _, hE, hR, hw, fun items P m1 H1 J q s1 r1 ok Dd hD => ?_⟩
  have hmD : m1 Dd = none := r1.mnone hD
  have hfD : ¬ F Dd := r1.fnone hD
  -- with D reserved
  have s0 : Step F m1 H1 (fun a => F a ∨ a = Dd) m1 (upd H1 Dd (.lst [])) := fun a o e n => by
    have ne : a ≠ Dd := ne_of_none e hD
    exact ⟨by rw [upd_ne ne]; exact e, n, fun z w => w.elim z ne⟩
  have r0 : Rel K (fun a => F a ∨ a = Dd) m1 (upd H1 Dd (.lst [])) := by
    refine ⟨fun a o e => ?_, fun a z => ?_, r1.fits.upd (Nat.zero_le _), fun a z => z.elim (r1.dis a) fun q => by rw [q]; exact hmD⟩
    · exact (r1.obj a o e).step s0 (upd_ne fun z => by rw [z, hmD] at e; cases e)
    · rcases z with z | z
      · obtain ⟨o, e⟩ := r1.res a z
        exact ⟨o, by rw [upd_ne fun w => hfD (by rw [← w]; exact z)]; exact e⟩
      · exact ⟨_, by rw [z]; exact upd_same⟩
  refine ⟨fun i n H' => ∃ acc accV m', n + i = items.length ∧ acc.length ≤ i ∧ Step F m1 H1 (fun a => F a ∨ a = Dd) m' H' ∧ Rel K (fun a => F a ∨ a = Dd) m' H' ∧ m' Dd = none ∧ H' Dd = some (.lst accV) ∧ IsL K (fun a => F a ∨ a = Dd) m' H' acc accV ∧
      lcGo P tg tt te (wipeE env vs) (fun acc m2 => alloc frz acc m2 k) (items.drop i) acc m',
    ⟨items.length, [], [], m1, rfl, Nat.zero_le _, s0, r0, hmD, upd_same, .nil, q⟩, ?_⟩
  rintro i n H' ⟨acc, accV, m', hn, hac, st, rl, hmn, hHD, hal, go⟩
  by_cases hi : i < items.length
  · have hd : items.drop i = items[i] :: items.drop (i + 1) := List.drop_eq_getElem_cons hi
    rw [hd] at go
    obtain ⟨hP, go⟩ := go
    refine .inr ⟨ok.go i _ m' H' st rl hP hi, fun H2 => ∃ acc accV m', acc.length ≤ i + 1 ∧ Step F m1 H1 (fun a => F a ∨ a = Dd) m' H2 ∧ Rel K (fun a => F a ∨ a = Dd) m' H2 ∧ m' Dd = none ∧ H2 Dd = some (.lst accV) ∧ IsL K (fun a => F a ∨ a = Dd) m' H2 acc accV ∧
        lcGo P tg tt te (wipeE env vs) (fun acc m2 => alloc frz acc m2 k) (items.drop (i + 1)) acc m', ?_, fun x H2 hy => ?_⟩
    · rintro H2 ⟨acc2, accV2, m2, a0, a, b, c, d, e, g⟩
      exact ⟨n - 1, by omega, acc2, accV2, m2, by omega, a0, a, b, c, d, e, g⟩
    · obtain ⟨s2, r2, i2⟩ := ok.yld i items[i] _ m' H' st rl hP (List.getElem?_eq_getElem hi) x H2 hy
      have en : EnvIs K (fun a => F a ∨ a = Dd) m' H2 (wipeE env vs) (L2.wipe σ vs) := (((hE.step s1).step st).step s2).wipe vs
      have hDn := s2 Dd _ hHD hmn
      refine bind_is en i2 go fun env3 σ3 q3 e3 wp => ⟨?_, ?_⟩
      · rw [wp vs hsub, wipe_idem σ vs vs fun _ h => h]
      · refine ⟨_, env3, m', _, e3, r2, q3, fun b m3 H3 q4 s3 r3 => ?_⟩
        have hDn3 := s3 Dd _ hDn.1 hDn.2.1
        have hal3 : IsL K (fun a => F a ∨ a = Dd) m3 H3 acc accV := (hal.step s2).step s3
        cases b with
        | true =>
          dsimp only
          rw [if_pos rfl]
          refine ⟨_, env3, m3, _, e3.step s3, r3, q4, fun y m4 vy H4 q5 s4 r4 i4 => ?_⟩
          have hDn4 := s4 Dd _ hDn3.1 hDn3.2.1
          have hz : accV.length < sizeLine := by
            have h1 := hal.length
            have h2 := ok.size
            omega
          refine ⟨accV, hDn4.1, hz, acc ++ [y], accV ++ [vy], m4, by rw [List.length_append]; show _ + 1 ≤ _; omega, ?_, ?_, hDn4.2.1, upd_same, ?_, q5⟩
          · -- Step over the change at D
            have base : Step F m1 H1 (fun a => F a ∨ a = Dd) m4 H4 := ((st.trans s2).trans s3).trans s4
            intro a o e n
            have ne : a ≠ Dd := ne_of_none e hD
            obtain ⟨p1, p2, p3⟩ := base a o e n
            exact ⟨by rw [upd_ne ne]; exact p1, p2, p3⟩
          · have sD : Step (fun a => F a ∨ a = Dd) m4 H4 (fun a => F a ∨ a = Dd) m4 (upd H4 Dd (.lst (accV ++ [vy]))) → True := fun _ => trivial
            refine ⟨fun a o e => ?_, fun a z => ?_, r4.fits.upd (by show (accV ++ [vy]).length ≤ sizeLine; rw [List.length_append]; show _ + 1 ≤ _; omega), r4.dis⟩
            · have ne : a ≠ Dd := fun z => by rw [z, hDn4.2.1] at e; cases e
              have ho := r4.obj a o e
              cases o with
              | lst ds => obtain ⟨us, e1, h1⟩ := ho; exact ⟨us, by rw [upd_ne ne]; exact e1, IsL.chg (.inr rfl) hDn4.1 h1⟩
              | dic ds => obtain ⟨us, e1, h1⟩ := ho; exact ⟨us, by rw [upd_ne ne]; exact e1, IsK.chg (.inr rfl) hDn4.1 h1⟩
              | ins C fs => obtain ⟨dx, us, e1, h1⟩ := ho; exact ⟨dx, us, by rw [upd_ne ne]; exact e1, IsF.chg (.inr rfl) hDn4.1 h1⟩
            · by_cases e : a = Dd
              · exact ⟨_, by rw [e]; exact upd_same⟩
              · obtain ⟨o, e1⟩ := r4.res a z
                exact ⟨o, by rw [upd_ne e]; exact e1⟩
          · exact (IsL.chg (.inr rfl) hDn4.1 (hal3.step s4)).append (.cons (Is.chg (.inr rfl) hDn4.1 i4) .nil)
        | false =>
          dsimp only
          rw [if_neg (by decide)]
          exact ⟨acc, accV, m3, by omega, (st.trans s2).trans s3, r3, hDn3.2.1, hDn3.1, hal3, q4⟩
  · have hd : items.drop i = [] := List.drop_eq_nil_of_le (by omega)
    rw [hd] at go
    obtain ⟨hP, go⟩ := go
    refine .inl ⟨ok.stop i _ m' H' st rl hP (by omega), ?_⟩
    have low : Step (fun a => F a ∨ a = Dd) m' H' F m' H' := fun a o e n => ⟨e, n, fun z w => z (.inl w)⟩
    have rl' : Rel K F m' H' := ⟨fun a o e => (rl.obj a o e).step low rfl, fun a z => rl.res a (.inl z), rl.fits, fun a z => rl.dis a (.inl z)⟩
    have st' : Step F m H F m' H' := s1.trans (st.trans low)
    unfold alloc at go
    cases frz with
    | true =>
      rw [if_pos rfl] at go
      refine hk _ m' _ H' go st' rl' ?_
      unfold Is
      exact ⟨Dd, accV, rfl, hHD, hmn, hfD, hal.step low⟩
    | false =>
      rw [if_neg (by decide)] at go
      have up1 : Step (fun a => F a ∨ a = Dd) m' H' F (m'.set Dd (.lst acc)) H' → True := fun _ => trivial
      skip
      refine hk _ _ _ H' (go Dd hmn) ?_ ⟨fun a o e => ?_, fun a z => rl.res a (.inl z), rl.fits, fun a z => by rw [M.set_ne (fun q => hfD (by rw [← q]; exact z))]; exact rl.dis a (.inl z)⟩ (by unfold Is; rfl)
      · intro a o e n
        obtain ⟨p1, p2, p3⟩ := st' a o e n
        refine ⟨p1, ?_, p3⟩
        obtain ⟨z1, _, _⟩ := s1 a o e n
        rw [M.set_ne (ne_of_none z1 hD)]
        exact p2
      · by_cases z : a = Dd
        · rw [z, M.set_same] at e; cases e
          rw [z]
          exact ⟨accV, hHD, IsL.unres (F := fun a => F a ∨ a = Dd) (.inr rfl) (fun _ => .inl) hHD hal⟩
        · rw [M.set_ne z] at e
          have ho := rl.obj a o e
          cases o with
          | lst ds => obtain ⟨us, e1, h1⟩ := ho; exact ⟨us, e1, IsL.unres (F := fun a => F a ∨ a = Dd) (.inr rfl) (fun _ => .inl) hHD h1⟩
          | dic ds => obtain ⟨us, e1, h1⟩ := ho; exact ⟨us, e1, IsK.unres (F := fun a => F a ∨ a = Dd) (.inr rfl) (fun _ => .inl) hHD h1⟩
          | ins C fs => obtain ⟨dx, us, e1, h1⟩ := ho; exact ⟨dx, us, e1, IsF.unres (F := fun a => F a ∨ a = Dd) (.inr rfl) (fun _ => .inl) hHD h1⟩
end
end T

set_option Elab.async false
set_option linter.all false
set_option maxRecDepth 100000
set_option maxHeartbeats 2000000
namespace T
open PySem PySem.Spec PyProof.Rows L2
section
variable {X : Cx} {pos : Pos}
theorem e_lc (frz : Bool) {elt tgE iter : Expr} {ifs : List Expr} {scope : Scope} {own : List (Str × Nat)} {wi : WI} {tg : Tg} {tt : WT} {te : WE} (hc : X.calm = true) (hN : X.N.Nodup) (hi : PI X tgE iter (upI X.K wi)) (ok : BlkOk X.N X.env.scope scope own) (hsub : ∀ i ∈ tg.slots, i ∈ own.map (·.2))
    (hg : ∀ (s : Shared) (H : Hp) (C : Addr) (cl : List (Str × Addr)) (fp : List Addr), PG (X.blk s H scope (compEnvC scope cl C X.env) fp) tgE (tgR X.K tg)) (ht : ∀ (s : Shared) (H : Hp) (C : Addr) (cl : List (Str × Addr)) (fp : List Addr), PTs (X.blk s H scope (compEnvC scope cl C X.env) fp) ifs (upT X.K tt))
    (he : ∀ (s : Shared) (H : Hp) (C : Addr) (cl : List (Str × Addr)) (fp : List Addr), PE (X.blk s H scope (compEnvC scope cl C X.env) fp) elt (up X.K te)) (hs : ∀ x, foldedSetIterable iter X.env x = pure x := by intro _; rfl) :
    PE X (.ListComp elt [⟨tgE, iter, ifs, 0⟩] scope pos) (up X.K (wLc frz wi tg tt te (own.map (·.2)))) := PE.imp (pe_lc hc hN hi ok hg ht he hs) (lc_at hsub)
theorem s_setLc (frz : Bool) {i : Nat} {y : Str} {py : Pos} {elt tgE iter : Expr} {ifs : List Expr} {scope : Scope} {own : List (Str × Nat)} {spos : Pos} {wi : WI} {tg : Tg} {tt : WT} {te : WE} (hc : X.calm = true) (hN : X.N.Nodup) (hy : X.N[i]? = some y) (hyl : X.env.scope.names.lookup y = some .local)
    (hsw : swapsWith (.ListComp elt [⟨tgE, iter, ifs, 0⟩] scope pos) (some (.Name y py)) spos.line X.env = pure true) (hi : PI X tgE iter (upI X.K wi)) (ok : BlkOk X.N X.env.scope scope own) (hsub : ∀ i ∈ tg.slots, i ∈ own.map (·.2))
    (hg : ∀ (s : Shared) (H : Hp) (C : Addr) (cl : List (Str × Addr)) (fp : List Addr), PG (X.blk s H scope (compEnvC scope cl C X.env) fp) tgE (tgR X.K tg)) (ht : ∀ (s : Shared) (H : Hp) (C : Addr) (cl : List (Str × Addr)) (fp : List Addr), PTs (X.blk s H scope (compEnvC scope cl C X.env) fp) ifs (upT X.K tt))
    (he : ∀ (s : Shared) (H : Hp) (C : Addr) (cl : List (Str × Addr)) (fp : List Addr), PE (X.blk s H scope (compEnvC scope cl C X.env) fp) elt (up X.K te)) (hs : ∀ x, foldedSetIterable iter X.env x = pure x := by intro _; rfl) :
    PS X (.Assign [.Name y py] (.ListComp elt [⟨tgE, iter, ifs, 0⟩] scope pos) spos) (upS X.K (wSet (wLc frz wi tg tt te (own.map (·.2))) (.one i))) := PS.imp (ps_setLc hc hN hy hyl hsw hi ok hg ht he hs) fun E σ H ⟨F, env, m, k, hE, hR, hw, hk⟩ =>
  lc_at hsub σ H _ ⟨F, env, m, _, hE, hR, hw, fun d m1 v H1 q1 s1 r1 i1 => hk.nx _ m1 _ H1 q1 s1 r1 ((hE.step s1).set i1)⟩
theorem ts_nil : PTs X [] (upT X.K wYes) := ⟨fun p s σ H Q I h => pts_nil.run p s σ H Q I (by
  obtain ⟨F, env, m, k, hE, hR, hw, hk⟩ := h
  exact hk true m H hw Step.refl hR)⟩
theorem ts_one {c : Expr} {t : WT} (h : PT X c (upT X.K t)) : PTs X [c] (upT X.K t) := pts_one h

/-! ### what is walked -/
/-- a list or a tuple -/
theorem pi_seq {tg l : Expr} {tl : TE} (hl : PE X l tl) : PI X tg l (fun σ H R => tl σ H fun x H1 => ∃ a, x = .ref a ∧ (((∃ xs, SqL X.K H1 a xs) ∧ R (Itl X.K a) H1) ∨ ((∃ xs, SqT X.K H1 a xs) ∧ R (Itt X.K a) H1))) := by
  refine ⟨fun pins s σ H R I h => ?_⟩
  refine thn (hl.run pins s σ H _ I h) fun v s1 ⟨x, H1, I1, r1, q1⟩ => ?_
  obtain ⟨a, e, q | q⟩ := q1
  · obtain ⟨⟨xs, hq⟩, q⟩ := q
    subst e
    cases r1
    obtain ⟨its, rv, p, hz⟩ := I1.list hq
    refine wpAny_pyIter_list p.isList ?_
    refine ⟨s1.heap.objs.size, [s1.heap.objs.size], _, _, H1, rfl, I1.kept (t' := s1.toks) fun b o e => Heap.get?_push_of_some _ e, turn_list a _, ⟨_, Heap.get?_push_size _ rfl, rfl, rfl⟩, fun b hb => ?_, q⟩
    have e : b = s1.heap.objs.size := by simpa using hb
    subst e
    exact I1.fpOk (Nat.le_refl _) (I1.hok.fresh (Nat.le_refl _))
  · obtain ⟨⟨xs, hq⟩, q⟩ := q
    subst e
    cases r1
    obtain ⟨its, rv, p, hz⟩ := I1.tuple hq
    refine wpAny_pyIter_tuple (show s1.heap.IsTuple a its.toArray from p) ?_
    refine ⟨s1.heap.objs.size, [s1.heap.objs.size], _, _, H1, rfl, I1.kept (t' := s1.toks) fun b o e => Heap.get?_push_of_some _ e, turn_tuple a _, ⟨_, Heap.get?_push_size _ rfl, rfl, rfl⟩, fun b hb => ?_, q⟩
    have e : b = s1.heap.objs.size := by simpa using hb
    subst e
    exact I1.fpOk (Nat.le_refl _) (I1.hok.fresh (Nat.le_refl _))
def wSeqI (w : WE) : WI := fun env m k => w env m fun d m1 => match m1.seq d with
  | some ds => k ds (fun m' => m'.seq d = some ds) m1
  | none => False
theorem seq_still {K : PySem.W.Frag} {F F2 : Fz} {m m2 : M} {H H2 : Hp} {d : D} {v : V} {ds : List D} (i : Is K F m H d v) (s : Step F m H F2 m2 H2) (r : Rel K F2 m2 H2) (h : m2.seq d = some ds) : ∃ a vs, v = .ref a ∧ (SqL K H2 a vs ∨ SqT K H2 a vs) ∧ IsL K F2 m2 H2 ds vs ∧ ds.length ≤ sizeLine := seq_is h (i.step s) r
theorem itl_ok {K : PySem.W.Frag} {F : Fz} {m : M} {H : Hp} {d : D} {a : Addr} {ds : List D} {vs : List V} (i : Is K F m H d (.ref a)) (r : Rel K F m H) (h : m.lsee d = some ds) : ItOk K F ds (fun m' => m'.lsee d = some ds) m H (Itl K a) := by
  have at2 : ∀ F2 m2 H2, Step F m H F2 m2 H2 → Rel K F2 m2 H2 → m2.lsee d = some ds → ∃ vs, SqL K H2 a vs ∧ IsL K F2 m2 H2 ds vs := fun F2 m2 H2 s r2 h2 => by
    obtain ⟨b, vs, e, h3, h4⟩ := lsee_is h2 (i.step s) r2
    cases e
    exact ⟨vs, h3, h4⟩
  refine ⟨fun j F2 m2 H2 s r2 h2 hj => ?_, fun j y F2 m2 H2 s r2 h2 hj x H3 hy => ?_, fun j F2 m2 H2 s r2 h2 hj => ?_, ?_⟩
  · obtain ⟨vs, h3, h4⟩ := at2 F2 m2 H2 s r2 h2
    have hl : j < vs.length := by rw [h4.length]; exact hj
    exact ⟨vs, vs[j], h3, List.getElem?_eq_getElem hl⟩
  · obtain ⟨vs, h3, h4⟩ := at2 F2 m2 H2 s r2 h2
    obtain ⟨rfl, hx⟩ := hy
    obtain ⟨u, e1, e2⟩ := h4.get hj
    have e3 := hx vs h3
    rw [e1] at e3; cases e3
    exact ⟨Step.refl, r2, e2⟩
  · obtain ⟨vs, h3, h4⟩ := at2 F2 m2 H2 s r2 h2
    exact ⟨vs, h3, by rw [h4.length]; exact hj⟩
  · obtain ⟨vs, h3, h4⟩ := at2 F m H Step.refl r h
    rw [← h4.length]; exact SqL.fit r.fits h3
theorem itt_ok {K : PySem.W.Frag} {F : Fz} {m : M} {H : Hp} {a : Addr} {ds : List D} (P : M → Prop) (i : Is K F m H (.tup ds) (.ref a)) (r : Rel K F m H) : ItOk K F ds P m H (Itt K a) := by
  have at2 : ∀ F2 m2 H2, Step F m H F2 m2 H2 → ∃ vs, SqT K H2 a vs ∧ IsL K F2 m2 H2 ds vs := fun F2 m2 H2 s => by
    have i2 := i.step s
    unfold Is at i2
    obtain ⟨b, vs, e, h3, h4⟩ := i2
    cases e
    exact ⟨vs, h3.sq, h4⟩
  refine ⟨fun j F2 m2 H2 s r2 h2 hj => ?_, fun j y F2 m2 H2 s r2 h2 hj x H3 hy => ?_, fun j F2 m2 H2 s r2 h2 hj => ?_, ?_⟩
  · obtain ⟨vs, h3, h4⟩ := at2 F2 m2 H2 s
    have hl : j < vs.length := by rw [h4.length]; exact hj
    exact ⟨vs, vs[j], h3, List.getElem?_eq_getElem hl⟩
  · obtain ⟨vs, h3, h4⟩ := at2 F2 m2 H2 s
    obtain ⟨rfl, hx⟩ := hy
    obtain ⟨u, e1, e2⟩ := h4.get hj
    have e3 := hx vs h3
    rw [e1] at e3; cases e3
    exact ⟨Step.refl, r2, e2⟩
  · obtain ⟨vs, h3, h4⟩ := at2 F2 m2 H2 s
    exact ⟨vs, h3, by rw [h4.length]; exact hj⟩
  · obtain ⟨vs, h3, h4⟩ := at2 F m H Step.refl
    rw [← h4.length]; exact SqT.fit r.fits h3
theorem i_seq {tg l : Expr} {w : WE} (hl : PE X l (up X.K w)) : PI X tg l (upI X.K (wSeqI w)) := PI.imp (pi_seq hl) fun σ H R ⟨F, env, m, k, hE, hR, hw, hk⟩ =>
  ⟨F, env, m, _, hE, hR, hw, fun d m1 v H1 q1 s1 r1 i1 => by
    split at q1
    · rename_i ds e
      cases d with
      | tup es =>
        have e' : es = ds := by unfold M.seq at e; exact Option.some.inj e
        subst e'
        have i2 := i1
        unfold Is at i2
        obtain ⟨a, vs, ev, h1, h2⟩ := i2
        subst ev
        exact ⟨a, rfl, .inr ⟨⟨vs, h1.sq⟩, hk _ _ _ _ _ q1 s1 r1 (itt_ok _ i1 r1)⟩⟩
      | _ =>
        obtain ⟨a, vs, ev, h1, h2⟩ := lsee_is (by exact e) i1 r1
        subst ev
        exact ⟨a, rfl, .inl ⟨⟨vs, h1⟩, hk _ _ _ _ _ q1 s1 r1 (itl_ok (vs := vs) i1 r1 (by exact e))⟩⟩
    · exact q1.elim⟩
/-- range(n), range(a, b) -/
def rgL (lo : Int) (n : Nat) : List D := (List.range n).map fun (i : Nat) => D.int (lo + (i : Int))
theorem itr_ok {K : PySem.W.Frag} {F : Fz} {m : M} {H : Hp} (lo : Int) (n : Nat) (hn : n ≤ sizeLine) : ItOk K F (rgL lo n) (fun _ => True) m H (Itr lo n) := by
  have hl : (rgL lo n).length = n := by unfold rgL; rw [List.length_map, List.length_range]
  refine ⟨fun j F2 m2 H2 s r2 h2 hj => by rw [hl] at hj; exact hj, fun j y F2 m2 H2 s r2 h2 hj x H3 hy => ?_, fun j F2 m2 H2 s r2 h2 hj => by rw [hl] at hj; exact hj, by rw [hl]; exact hn⟩
  obtain ⟨rfl, rfl⟩ := hy
  refine ⟨Step.refl, r2, ?_⟩
  unfold rgL at hj
  rw [List.getElem?_map] at hj
  cases q : (List.range n)[j]? with
  | none => rw [q] at hj; cases hj
  | some z =>
    rw [q] at hj
    have e1 : y = .int (lo + z) := (Option.some.inj hj).symm
    have e2 : z = j := by
      obtain ⟨h1, h2⟩ := List.getElem?_eq_some_iff.mp q
      rw [List.getElem_range] at h2
      exact h2.symm
    subst e1; subst e2
    unfold Is; rfl
abbrev KI := List D → (M → Prop) → M → Prop
def rng1K (k : KI) : D → M → Prop := fun d m1 => match d with
  | .int n => (-(2 ^ 61) ≤ n ∧ n ≤ 16777216) ∧ k (rgL 0 n.toNat) (fun _ => True) m1
  | _ => False
def rng2K (k : KI) : D → D → M → Prop := fun x y m2 => match x, y with
  | .int i, .int j => (-(2 ^ 61) ≤ i ∧ i < 2 ^ 61 ∧ -(2 ^ 61) ≤ j ∧ j < 2 ^ 61 ∧ j - i ≤ 16777216) ∧ k (rgL i (j - i).toNat) (fun _ => True) m2
  | _, _ => False
def wRng1 (w : WE) : WI := fun env m k => w env m (rng1K k)
def wRng2 (a b : WE) : WI := fun env m k => a env m fun x m1 => b env m1 fun y m2 => rng2K k x y m2
theorem i_rng1 {tg a : Expr} {w : WE} {p pos : Pos} (hg : Gl X "range") (hm : X.mg "range" = none) (ha : PE X a (up X.K w)) (hs : starEach [a] X.env = [(false, eval a X.env)] := by rfl) : PI X tg (.Call (.Name "range" p) [a] [] pos) (upI X.K (wRng1 w)) := PI.imp (pi_range1 hg hm (a_cons ha a_nil hs) hs) fun σ H R ⟨F, env, m, k, hE, hR, hw, hk⟩ =>
  ⟨F, env, m, fun ds m1 => match ds with
    | [d] => rng1K k d m1
    | _ => False, hE, hR, hw, fun ds m1 vs H1 q1 s1 r1 i1 => by
    match ds, q1, i1 with
    | [d], q1, i1 =>
      cases d with
      | int n =>
        obtain ⟨hz, q1⟩ : (-(2 ^ 61) ≤ n ∧ n ≤ 16777216) ∧ k (rgL 0 n.toNat) (fun _ => True) m1 := q1
        exact ⟨n, isL_ints (ns := [n]) i1, by omega, by omega, hk _ _ _ _ _ q1 s1 r1 (itr_ok 0 n.toNat (by show n.toNat ≤ 16777216; omega))⟩
      | _ => exact (show False from q1).elim⟩
theorem i_rng2 {tg a b : Expr} {wa wb : WE} {p pos : Pos} (hg : Gl X "range") (hm : X.mg "range" = none) (ha : PE X a (up X.K wa)) (hb : PE X b (up X.K wb)) (hs : starEach [a, b] X.env = [(false, eval a X.env), (false, eval b X.env)] := by rfl) (hs2 : starEach [b] X.env = [(false, eval b X.env)] := by rfl) : PI X tg (.Call (.Name "range" p) [a, b] [] pos) (upI X.K (wRng2 wa wb)) := PI.imp (pi_range2 hg hm (a_cons ha (a_cons hb a_nil hs2) (by rw [hs, hs2])) hs hs2) fun σ H R ⟨F, env, m, k, hE, hR, hw, hk⟩ =>
  ⟨F, env, m, fun ds m1 => match ds with
    | [x, y] => rng2K k x y m1
    | _ => False, hE, hR, hw, fun ds m1 vs H1 q1 s1 r1 i1 => by
    match ds, q1, i1 with
    | [x, y], q1, i1 =>
      have q2 : rng2K k x y m1 := q1
      unfold rng2K at q2
      split at q2
      · rename_i i j
        obtain ⟨hz, q2⟩ := q2
        exact ⟨i, j, isL_ints (ns := [i, j]) i1, ⟨by omega, by omega, by omega, by omega⟩, hk _ _ _ _ _ q2 s1 r1 (itr_ok i _ (by show (j - i).toNat ≤ 16777216; omega))⟩
      · exact q2.elim⟩
end
end T

set_option Elab.async false
set_option linter.all false
set_option maxRecDepth 100000
set_option maxHeartbeats 2000000
/-! enumerate over a tuple -/
namespace TEn
open PySem PySem.Spec PyProof.Rows L2
open Sem (wp)
open AutoSeq1 (wpAny_loadPart')
theorem meets_newT (l : Addr) (items : Array Value) (n : Nat) (dct : Option Addr) (sl : Array (Option Value)) :
    Meets (Builtin.«enumerate.__new__» ⟨[.type "enumerate", .ref l], []⟩) (fun _ R s => s.heap.get? l = some { cls := .type "tuple", dict := dct, data := .seq items n, slots := sl } ∧
      R (.ok (.ret (.ref (s.heap.push { cls := .type "tuple_iterator", data := .fields #[.ref l, .int 0 0] }).objs.size)))
        { s with heap := (s.heap.push { cls := .type "tuple_iterator", data := .fields #[.ref l, .int 0 0] }).push { cls := .type "enumerate", data := .fields #[.none, .bool false, .ref s.heap.objs.size, rawInt 0, .none, .none] } }) :=
  .of_wp fun prog w A R s h => by
    obtain ⟨hp, g, d, tk, os⟩ := s; obtain ⟨hl, h⟩ := h
    have hsub := sub_enumerate
    have hL : Heap.IsTuple (Shared.heap ⟨hp, g, d, tk, os⟩) l items := ⟨_, hl, rfl, n, rfl⟩
    wp_walk using wpAny_loadPart' hl
    refine wpAny_stack_any fun st => wpAny_pure ?_
    split
    · rename_i c _ _ _ _ _
      cases (c == Value.type "enumerate")
      · wp_walk using wpAny_loadPart' hl, wpAny_pyIter_tuple hL
        exact ⟨_, rfl, h⟩
      · wp_walk using wpAny_loadPart' hl, wpAny_pyIter_tuple hL
        exact ⟨_, rfl, h⟩
    · wp_walk using wpAny_loadPart' hl, wpAny_pyIter_tuple hL
      exact ⟨_, rfl, h⟩
section
variable {prog : Program} {w : World} {A : Around} {E : Value → Shared → Prop} {s : Shared}
theorem call_enumT {l : Addr} {items : Array Value} {Q : Value → Shared → Prop} (hL : s.heap.IsTuple l items)
    (h : ∀ h', IsEnum h' (s.heap.objs.size + 1) s.heap.objs.size 0 .none → h'.IsTupleIter s.heap.objs.size l 0 → h'.objs.size = s.heap.objs.size + 2 →
      (∀ b o, s.heap.get? b = some o → h'.get? b = some o) → Q (.ref (s.heap.objs.size + 1)) { s with heap := h' }) :
    wpAny (model prog w) A (call (.type "enumerate") [.ref l]) Q E s := by
  obtain ⟨⟨c, dct, dt, sl⟩, hl, hc, n, hd⟩ := hL
  replace hc : c = .type "tuple" := hc
  replace hd : dt = .seq items n := hd
  subst hc hd
  refine callType_new F.called_enumerate (by decide) (F.typeCall_enumerate_1 _) (F.newCall_enumerate_1 _) (fun obj => F.args_object_init_2 obj _) F.entry_enumerate_new
    (meets_newT l items n dct sl) ⟨hl, ?_⟩
  have hz : (s.heap.push { cls := .type "tuple_iterator", data := .fields #[.ref l, .int 0 0] }).objs.size = s.heap.objs.size + 1 := Heap.size_push ..
  show _ ∧ _
  rw [hz]
  have he : IsEnum ((s.heap.push { cls := .type "tuple_iterator", data := .fields #[.ref l, .int 0 0] }).push
      { cls := .type "enumerate", data := .fields #[.none, .bool false, .ref s.heap.objs.size, rawInt 0, .none, .none] }) (s.heap.objs.size + 1) s.heap.objs.size 0 .none := by
    have := Heap.get?_push_size (s.heap.push { cls := .type "tuple_iterator", data := .fields #[.ref l, .int 0 0] })
      (o := { cls := .type "enumerate", data := .fields #[.none, .bool false, .ref s.heap.objs.size, rawInt 0, .none, .none] }) rfl
    rw [hz] at this; exact this
  refine ⟨⟨_, he, rfl⟩, h _ he ⟨_, Heap.get?_push_of_some _ (Heap.get?_push_size _ rfl), rfl, rfl⟩ (by rw [Heap.size_push, hz]) fun b o x => Heap.get?_push_of_some _ (Heap.get?_push_of_some _ x)⟩
end
theorem enumT_end {prog : Program} {w : World} {A : Around} {E : Value → Shared → Prop} {s : Shared} {e it l : Addr} {i : Nat} {items : Array Value} {old : Value} {Q : Option Value → Shared → Prop} (hh : A.handled = none)
    (he : IsEnum s.heap e it i old) (hit : s.heap.IsTupleIter it l i) (hl : s.heap.IsTuple l items) (hx : items[i]? = none)
    (hQ : ∀ h', Heap.ExtBut it s.heap h' → Q none { s with heap := h' }) : wpAny (model prog w) A (pyNext (.ref e)) Q E s := by
  have hT : s.TypeIs (.ref e) "enumerate" := ⟨_, he, rfl⟩
  unfold pyNext
  refine wpAny_bind (wpAny_attempt (wpAny_callSpecial?_slot (name := Str.ofString "__next__") hT F.slot_enumerate_next
    (wpAny_call_entry F.slot_enumerate_next hT F.entry_enumerate_next ?_ (F.args_enumerate_next_1 _))))
  show wpAny _ _ (field (.ref e) 2 >>= _) _ _ _
  refine wpAny_bind (wpAny_field he rfl (x := .ref it) rfl ?_)
  refine wpAny_bind (wpAny_nextOf_tuple_end hh hit hl hx fun h' x he' hx' => ?_)
  obtain ⟨o, ho, hc⟩ := hx'
  refine wpAny_bind (wpAny_isInstance (T := "StopIteration") (b := true) ⟨o, ho, hc⟩ isSubtype_stop ?_)
  exact wpAny_pure (hQ _ he')
/-- the tuple at a, each item in a new pair -/
def IteT (K : PySem.W.Frag) (a : Addr) : It :=
  ⟨fun i H => ∃ (xs : List V) (x : V), SqT K H a xs ∧ xs[i]? = some x, fun i H v H' => ∃ T x, v = .ref T ∧ H T = none ∧ H' = upd H T (.tup [.int (i : Nat), x]) ∧ ∀ xs, SqT K H a xs → xs[i]? = some x, fun i H => ∃ xs : List V, SqT K H a xs ∧ xs.length ≤ i⟩
theorem turn_enumT {P : Program} {w : World} {K : PySem.W.Frag} {elts : List Expr} {kk : Nat} {tpos : Pos} (a e it : Addr) (hai : a ≠ it) :
    Turn P w K (.Tuple elts kk tpos) (IteT K a) [e, it] e (fun i h => (∃ old, IsEnum h e it ((i : Nat) : Int) old) ∧ h.IsTupleIter it a i ∧ e ≠ it ∧ e ≠ a) where
  mem := by simp
  obj := fun i h st b hb => by
    obtain ⟨⟨old, he⟩, ⟨o, ho, hc, hd⟩, _⟩ := st
    have e' : b = e ∨ b = it := by simpa using hb
    rcases e' with z | z
    · rw [z]; exact ⟨_, he, fun v q => nomatch q⟩
    · rw [z]; exact ⟨o, ho, fun v q => by rw [hd] at q; cases q⟩
  keep := fun i h h' st k => let ⟨⟨old, he⟩, hi, hne⟩ := st; ⟨⟨old, k e (by simp) _ he⟩, hi.at fun o q => k it (by simp) o q, hne⟩
  item := by
    intro X hP hw hK hc i pins s σ H E I hf st hg
    subst hP hw hK
    obtain ⟨⟨old, he⟩, hit, hne, hea⟩ := st
    obtain ⟨xs, x, hq, hx⟩ := hg
    obtain ⟨its, rv, p, hz⟩ := I.tuple hq
    obtain ⟨u, hu, ru⟩ := rv.get hx
    have hel : e < s.heap.objs.size := Heap.lt_size he
    have hil : it < s.heap.objs.size := by obtain ⟨_, q, _⟩ := hit; exact Heap.lt_size q
    have hlt : i < its.toArray.size := by
      have hu' : its.toArray[i]? = some u := by simpa using hu
      exact (Array.getElem?_eq_some_iff.mp hu').1
    refine wpAny_pyNext_enum_itemD (Draws.tuple (prog := X.prog) (w := X.w) (A := X.A.in1) (I.ok.hd hc) it a hai its.toArray) he ⟨hit, (show s.heap.IsTuple a its.toArray from p)⟩ hlt hne (by intro z; rcases List.mem_cons.mp z with z | z; exact hne z; exact hea (List.mem_singleton.mp z)) fun y h' tk hy ho hst hT hsz hk => ?_
    obtain ⟨hit', _⟩ := hst
    have ey : y = u := by
      have hu' : its.toArray[i]? = some u := by simpa using hu
      rw [hu'] at hy
      exact (Option.some.inj hy).symm
    subst ey
    refine ⟨_, rfl, wpAny_letOwnedTupleGo_enum (s := { s with heap := h', toks := tk + 1 }) ho fun h'' he' sb => ?_⟩
    have hT2 : h''.get? s.heap.objs.size = some { cls := .type "tuple", data := .seq #[.int i tk, y] } := (sb.2 _ (Nat.ne_of_gt hel)).trans hT
    have new : ObjOk X.prog X.w (upd H s.heap.objs.size (.tup [.int (i : Nat), x])) h'' s.heap.objs.size (.tup [.int (i : Nat), x]) :=
      ⟨by show 2 ≤ sizeLine; decide, [.int i tk, y], .cons ⟨_, rfl⟩ (.cons ru .nil), ⟨_, hT2, rfl, _, rfl⟩⟩
    have I1 : Inv X pins σ (upd H s.heap.objs.size (.tup [.int (i : Nat), x])) { s with heap := h'', toks := tk + 1 } :=
      I.turnedNew (ch := [e, it]) (fun b ob hb q => (sb.2 b (fun z => hb (by simp [z]))).trans (hk b ob (fun z => hb (by simp [z])) (fun z => hb (by simp [z])) q)) hf (Nat.le_refl _) new
    refine ⟨.ref s.heap.objs.size, _, I1, rfl, ⟨_, x, rfl, I.hok.fresh (Nat.le_refl _), rfl, fun ys hy => by rw [I.tuple_inj hy hq]; exact hx⟩, ⟨⟨y, ?_⟩, hit'.at fun o q => (sb.2 it (Ne.symm hne)).trans q, hne, hea⟩, fun b hb => ?_⟩
    · have e1 : ((i + 1 : Nat) : Int) = (i : Int) + 1 := by omega
      rw [e1]; exact he'
    · have hb' : b < s.heap.objs.size := by
        have e' : b = e ∨ b = it := by simpa using hb
        rcases e' with z | z
        · rw [z]; exact hel
        · rw [z]; exact hil
      rw [upd_ne (Nat.ne_of_lt hb')]
      exact (hf b hb).1
  done := by
    intro X hP hw hK hc i pins s σ H E I hf st hg
    subst hP hw hK
    obtain ⟨⟨old, he⟩, hit, hne, hea⟩ := st
    obtain ⟨xs, hq, hx⟩ := hg
    obtain ⟨its, rv, p, hz⟩ := I.tuple hq
    obtain ⟨f0, f1, f2, f3, f4, f5⟩ := hf it (by simp)
    have hl := rv.length
    exact enumT_end (I.ok.hd hc) he hit p (by simp; omega) fun h' eb => ⟨rfl, I.turned (t' := s.toks) (fun b o hb q => eb b o hb q) f0 f1 f3 f4 f5⟩
  self := fun A i s Q E st h => let ⟨⟨_, he⟩, _⟩ := st; wpAny_pyIter_enum he h
def iEnumA (K : PySem.W.Frag) (ta : TA) : TI := fun σ H R => ta σ H fun vs H1 => ∃ a xs, vs = [.ref a] ∧ ((SqL K H1 a xs ∧ R (Ite K a) H1) ∨ (SqT K H1 a xs ∧ R (IteT K a) H1))
theorem pi_enumA {X : Cx} {e : Expr} {ta : TA} {p pos tpos : Pos} {elts : List Expr} {kk : Nat} (hg : Gl X "enumerate") (hm : X.mg "enumerate" = none) (ha : PA X [e] ta) (hs : starEach [e] X.env = [(false, eval e X.env)] := by rfl) :
    PI X (.Tuple elts kk tpos) (.Call (.Name "enumerate" p) [e] [] pos) (iEnumA X.K ta) := by
  refine ⟨fun pins s σ H R I h => ?_⟩
  refine Call_ (ld_blt I hg hm boot_enumerate (PyProof.Rows.callWith_type1 (thn (ha.run pos pins s σ H _ I h) fun us s1 ⟨vs, H1, I1, r1, q1⟩ => ?_) hs rfl))
  obtain ⟨a, xs, ex, q⟩ := q1
  subst ex
  cases r1 with
  | cons r rr =>
    cases rr
    cases r
    have fp : ∀ b, b ∈ [s1.heap.objs.size + 1, s1.heap.objs.size] → s1.heap.objs.size ≤ b := fun b hb => by
      have e' : b = s1.heap.objs.size + 1 ∨ b = s1.heap.objs.size := by simpa using hb
      rcases e' with z | z
      · rw [z]; exact Nat.le_add_right _ _
      · rw [z]; exact Nat.le_refl _
    rcases q with ⟨hq, q⟩ | ⟨hq, q⟩
    · obtain ⟨its, rv, p', hz⟩ := I1.list hq
      refine call_enumerate_list p'.isList fun h' he hit hsz hk => wpAny_pyIter_enum he ?_
      have I2 : Inv X pins σ H1 { s1 with heap := h' } := I1.kept (t' := s1.toks) hk
      exact ⟨s1.heap.objs.size + 1, [s1.heap.objs.size + 1, s1.heap.objs.size], _, _, H1, rfl, I2, turn_enum a (s1.heap.objs.size + 1) s1.heap.objs.size, ⟨⟨.none, he⟩, hit, Nat.succ_ne_self _⟩, fun b hb => I1.fpOk (fp b hb) (I1.hok.fresh (fp b hb)), q⟩
    · obtain ⟨its, rv, p', hz⟩ := I1.tuple hq
      have hal : a < s1.heap.objs.size := p'.lt
      refine call_enumT p' fun h' he hit hsz hk => wpAny_pyIter_enum he ?_
      have I2 : Inv X pins σ H1 { s1 with heap := h' } := I1.kept (t' := s1.toks) hk
      exact ⟨s1.heap.objs.size + 1, [s1.heap.objs.size + 1, s1.heap.objs.size], _, _, H1, rfl, I2, turn_enumT a (s1.heap.objs.size + 1) s1.heap.objs.size (Nat.ne_of_lt hal), ⟨⟨.none, he⟩, hit, Nat.succ_ne_self _, Nat.ne_of_gt (Nat.lt_succ_of_lt hal)⟩, fun b hb => I1.fpOk (fp b hb) (I1.hok.fresh (fp b hb)), q⟩
end TEn
namespace T
open PySem PySem.Spec PyProof.Rows L2
def enumD (ds : List D) : List D := ds.mapIdx fun i d => D.tup [.int i, d]
def zipD (ds es : List D) : List D := List.zipWith (fun d e => D.tup [d, e]) ds es
def enumK (k : KI) : D → M → Prop := fun d m1 => match m1.seq d with
  | some ds => k (enumD ds) (fun m' => m'.seq d = some ds) m1
  | none => False
def wEnum (w : WE) : WI := fun env m k => w env m (enumK k)
def zipK (k : KI) : D → D → M → Prop := fun x y m1 => match x, y with
  | .tup ds, .tup es => k (zipD ds es) (fun _ => True) m1
  | x, y => match m1.lsee x, m1.lsee y with
    | some ds, some es => k (zipD ds es) (fun m' => m'.lsee x = some ds ∧ m'.lsee y = some es) m1
    | _, _ => False
def wZip (a b : WE) : WI := fun env m k => a env m fun x m1 => b env m1 fun y m2 => zipK k x y m2
section
variable {X : Cx} {K : PySem.W.Frag} {F : Fz} {m : M} {H : Hp}
theorem IsL.two {d e : D} {vs : List V} (h : IsL K F m H [d, e] vs) : ∃ v u, vs = [v, u] ∧ Is K F m H d v ∧ Is K F m H e u := by
  unfold IsL at h
  obtain ⟨v, r, e1, h1, h2⟩ := h
  unfold IsL at h2
  obtain ⟨u, r2, e2, h3, h4⟩ := h2
  unfold IsL at h4
  subst h4; subst e2
  exact ⟨v, u, e1, h1, h3⟩
theorem IsL.one {d : D} {vs : List V} (h : IsL K F m H [d] vs) : ∃ v, vs = [v] ∧ Is K F m H d v := by
  unfold IsL at h
  obtain ⟨v, r, e1, h1, h2⟩ := h
  unfold IsL at h2
  subst h2
  exact ⟨v, e1, h1⟩
theorem pair_ok {a b : D} {x y : V} {T : Addr} (r : Rel K F m H) (ia : Is K F m H a x) (ib : Is K F m H b y) (nT : H T = none) : Step F m H F m (upd H T (.tup [x, y])) ∧ Rel K F m (upd H T (.tup [x, y])) ∧ Is K F m (upd H T (.tup [x, y])) (.tup [a, b]) (.ref T) :=
  ⟨Step.fresh nT, r.fresh nT (by show 2 ≤ 16777216; decide), Is.tupNew r nT (.cons ia (.cons ib .nil))⟩
theorem ite_ok {d : D} {a : Addr} {ds : List D} (i : Is K F m H d (.ref a)) (r : Rel K F m H) (h : m.lsee d = some ds) : ItOk K F (enumD ds) (fun m' => m'.lsee d = some ds) m H (Ite K a) := by
  have hl : (enumD ds).length = ds.length := by unfold enumD; rw [List.length_mapIdx]
  have at2 : ∀ F2 m2 H2, Step F m H F2 m2 H2 → Rel K F2 m2 H2 → m2.lsee d = some ds → ∃ vs, SqL K H2 a vs ∧ IsL K F2 m2 H2 ds vs := fun F2 m2 H2 s r2 h2 => by
    obtain ⟨b, vs, e, h3, h4⟩ := lsee_is h2 (i.step s) r2
    cases e
    exact ⟨vs, h3, h4⟩
  refine ⟨fun j F2 m2 H2 s r2 h2 hj => ?_, fun j y F2 m2 H2 s r2 h2 hj x H3 hy => ?_, fun j F2 m2 H2 s r2 h2 hj => ?_, ?_⟩
  · obtain ⟨vs, h3, h4⟩ := at2 F2 m2 H2 s r2 h2
    have hl2 : j < vs.length := by rw [h4.length, ← hl]; exact hj
    exact ⟨vs, vs[j], h3, List.getElem?_eq_getElem hl2⟩
  · obtain ⟨vs, h3, h4⟩ := at2 F2 m2 H2 s r2 h2
    obtain ⟨T, z, rfl, nT, rfl, hx⟩ := hy
    unfold enumD at hj
    rw [List.getElem?_mapIdx] at hj
    cases q : ds[j]? with
    | none => rw [q] at hj; cases hj
    | some e =>
      rw [q] at hj
      have ey : y = .tup [.int j, e] := (Option.some.inj hj).symm
      subst ey
      obtain ⟨u, e1, e2⟩ := h4.get q
      have e3 := hx vs h3
      rw [e1] at e3; cases e3
      exact pair_ok r2 (by unfold Is; rfl) e2 nT
  · obtain ⟨vs, h3, h4⟩ := at2 F2 m2 H2 s r2 h2
    exact ⟨vs, h3, by rw [h4.length, ← hl]; exact hj⟩
  · obtain ⟨vs, h3, h4⟩ := at2 F m H Step.refl r h
    rw [hl, ← h4.length]; exact SqL.fit r.fits h3
theorem iteT_ok {a : Addr} {ds : List D} (P : M → Prop) (i : Is K F m H (.tup ds) (.ref a)) (r : Rel K F m H) : ItOk K F (enumD ds) P m H (TEn.IteT K a) := by
  have hl : (enumD ds).length = ds.length := by unfold enumD; rw [List.length_mapIdx]
  have at2 : ∀ F2 m2 H2, Step F m H F2 m2 H2 → ∃ vs, SqT K H2 a vs ∧ IsL K F2 m2 H2 ds vs := fun F2 m2 H2 s => by
    have i2 := i.step s
    unfold Is at i2
    obtain ⟨b, vs, e, h3, h4⟩ := i2
    cases e
    exact ⟨vs, h3.sq, h4⟩
  refine ⟨fun j F2 m2 H2 s r2 h2 hj => ?_, fun j y F2 m2 H2 s r2 h2 hj x H3 hy => ?_, fun j F2 m2 H2 s r2 h2 hj => ?_, ?_⟩
  · obtain ⟨vs, h3, h4⟩ := at2 F2 m2 H2 s
    have hl2 : j < vs.length := by rw [h4.length, ← hl]; exact hj
    exact ⟨vs, vs[j], h3, List.getElem?_eq_getElem hl2⟩
  · obtain ⟨vs, h3, h4⟩ := at2 F2 m2 H2 s
    obtain ⟨T, z, rfl, nT, rfl, hx⟩ := hy
    unfold enumD at hj
    rw [List.getElem?_mapIdx] at hj
    cases q : ds[j]? with
    | none => rw [q] at hj; cases hj
    | some e =>
      rw [q] at hj
      have ey : y = .tup [.int j, e] := (Option.some.inj hj).symm
      subst ey
      obtain ⟨u, e1, e2⟩ := h4.get q
      have e3 := hx vs h3
      rw [e1] at e3; cases e3
      exact pair_ok r2 (by unfold Is; rfl) e2 nT
  · obtain ⟨vs, h3, h4⟩ := at2 F2 m2 H2 s
    exact ⟨vs, h3, by rw [h4.length, ← hl]; exact hj⟩
  · obtain ⟨vs, h3, h4⟩ := at2 F m H Step.refl
    rw [hl, ← h4.length]; exact SqT.fit r.fits h3
theorem i_enum {e : Expr} {w : WE} {p pos tpos : Pos} {elts : List Expr} {kk : Nat} (hg : Gl X "enumerate") (hm : X.mg "enumerate" = none) (ha : PE X e (up X.K w)) (hs : starEach [e] X.env = [(false, eval e X.env)] := by rfl) :
    PI X (.Tuple elts kk tpos) (.Call (.Name "enumerate" p) [e] [] pos) (upI X.K (wEnum w)) := PI.imp (TEn.pi_enumA hg hm (a_cons ha a_nil hs) hs) fun σ H R ⟨F, env, m, k, hE, hR, hw, hk⟩ =>
  ⟨F, env, m, fun ds m1 => match ds with
    | [d] => enumK k d m1
    | _ => False, hE, hR, hw, fun ds m1 vs H1 q1 s1 r1 i1 => by
    match ds, q1, i1 with
    | [d], q1, i1 =>
      have q2 : enumK k d m1 := q1
      obtain ⟨v, ev, i2⟩ := i1.one
      subst ev
      unfold enumK at q2
      split at q2
      · rename_i es e
        cases d with
        | tup es' =>
          have e' : es' = es := by unfold M.seq at e; exact Option.some.inj e
          subst e'
          have i3 := i2
          unfold Is at i3
          obtain ⟨a, vs, ev, h1, h2⟩ := i3
          subst ev
          exact ⟨a, vs, rfl, .inr ⟨h1.sq, hk _ _ _ _ _ q2 s1 r1 (iteT_ok _ i2 r1)⟩⟩
        | _ =>
          obtain ⟨a, vs, ev, h1, h2⟩ := lsee_is (by exact e) i2 r1
          subst ev
          exact ⟨a, vs, rfl, .inl ⟨h1, hk _ _ _ _ _ q2 s1 r1 (ite_ok i2 r1 (by exact e))⟩⟩
      · exact q2.elim⟩
theorem itz_ok {x y : D} {a b : Addr} {ds es : List D} (i : Is K F m H x (.ref a)) (j : Is K F m H y (.ref b)) (r : Rel K F m H) (h : m.lsee x = some ds) (g : m.lsee y = some es) : ItOk K F (zipD ds es) (fun m' => m'.lsee x = some ds ∧ m'.lsee y = some es) m H (Itz K a b) := by
  have hl : (zipD ds es).length = min ds.length es.length := by unfold zipD; rw [List.length_zipWith]
  have at2 : ∀ F2 m2 H2, Step F m H F2 m2 H2 → Rel K F2 m2 H2 → m2.lsee x = some ds → ∃ vs, SqL K H2 a vs ∧ IsL K F2 m2 H2 ds vs := fun F2 m2 H2 s r2 h2 => by
    obtain ⟨b, vs, e, h3, h4⟩ := lsee_is h2 (i.step s) r2
    cases e
    exact ⟨vs, h3, h4⟩
  have bt2 : ∀ F2 m2 H2, Step F m H F2 m2 H2 → Rel K F2 m2 H2 → m2.lsee y = some es → ∃ vs, SqL K H2 b vs ∧ IsL K F2 m2 H2 es vs := fun F2 m2 H2 s r2 h2 => by
    obtain ⟨b, vs, e, h3, h4⟩ := lsee_is h2 (j.step s) r2
    cases e
    exact ⟨vs, h3, h4⟩
  refine ⟨fun n F2 m2 H2 s r2 h2 hn => ?_, fun n z F2 m2 H2 s r2 h2 hn v H3 hy => ?_, fun n F2 m2 H2 s r2 h2 hn => ?_, ?_⟩
  · obtain ⟨vs, h3, h4⟩ := at2 F2 m2 H2 s r2 h2.1
    obtain ⟨us, h5, h6⟩ := bt2 F2 m2 H2 s r2 h2.2
    have e1 := h4.length
    have e2 := h6.length
    have l1 : n < vs.length := by omega
    have l2 : n < us.length := by omega
    exact ⟨vs, us, vs[n], us[n], h3, h5, List.getElem?_eq_getElem l1, List.getElem?_eq_getElem l2⟩
  · obtain ⟨vs, h3, h4⟩ := at2 F2 m2 H2 s r2 h2.1
    obtain ⟨us, h5, h6⟩ := bt2 F2 m2 H2 s r2 h2.2
    obtain ⟨T, p, q, rfl, nT, rfl, hx, hy⟩ := hy
    unfold zipD at hn
    rw [List.getElem?_zipWith] at hn
    cases q1 : ds[n]? with
    | none => rw [q1] at hn; cases hn
    | some d =>
      cases q2 : es[n]? with
      | none => rw [q1, q2] at hn; cases hn
      | some e =>
        rw [q1, q2] at hn
        have ez : z = .tup [d, e] := (Option.some.inj hn).symm
        subst ez
        obtain ⟨u1, e1, f1⟩ := h4.get q1
        obtain ⟨u2, e2, f2⟩ := h6.get q2
        have e3 := hx vs h3
        have e4 := hy us h5
        rw [e1] at e3; cases e3
        rw [e2] at e4; cases e4
        exact pair_ok r2 f1 f2 nT
  · obtain ⟨vs, h3, h4⟩ := at2 F2 m2 H2 s r2 h2.1
    obtain ⟨us, h5, h6⟩ := bt2 F2 m2 H2 s r2 h2.2
    have e1 := h4.length
    have e2 := h6.length
    exact ⟨vs, us, h3, h5, by omega⟩
  · obtain ⟨vs, h3, h4⟩ := at2 F m H Step.refl r h
    have e1 := h4.length
    have e2 := SqL.fit r.fits h3
    omega
theorem itzT_ok {a b : Addr} {ds es : List D} (P : M → Prop) (i : Is K F m H (.tup ds) (.ref a)) (j : Is K F m H (.tup es) (.ref b)) (r : Rel K F m H) : ItOk K F (zipD ds es) P m H (RZ.ItzT K a b) := by
  have hl : (zipD ds es).length = min ds.length es.length := by unfold zipD; rw [List.length_zipWith]
  have at2 : ∀ F2 m2 H2, Step F m H F2 m2 H2 → ∃ vs, SqT K H2 a vs ∧ IsL K F2 m2 H2 ds vs := fun F2 m2 H2 s => by
    have i2 := i.step s
    unfold Is at i2
    obtain ⟨b, vs, e, h3, h4⟩ := i2
    cases e
    exact ⟨vs, h3.sq, h4⟩
  have bt2 : ∀ F2 m2 H2, Step F m H F2 m2 H2 → ∃ vs, SqT K H2 b vs ∧ IsL K F2 m2 H2 es vs := fun F2 m2 H2 s => by
    have i2 := j.step s
    unfold Is at i2
    obtain ⟨b, vs, e, h3, h4⟩ := i2
    cases e
    exact ⟨vs, h3.sq, h4⟩
  refine ⟨fun n F2 m2 H2 s r2 h2 hn => ?_, fun n z F2 m2 H2 s r2 h2 hn v H3 hy => ?_, fun n F2 m2 H2 s r2 h2 hn => ?_, ?_⟩
  · obtain ⟨vs, h3, h4⟩ := at2 F2 m2 H2 s
    obtain ⟨us, h5, h6⟩ := bt2 F2 m2 H2 s
    have e1 := h4.length
    have e2 := h6.length
    have l1 : n < vs.length := by omega
    have l2 : n < us.length := by omega
    exact ⟨vs, us, vs[n], us[n], h3, h5, List.getElem?_eq_getElem l1, List.getElem?_eq_getElem l2⟩
  · obtain ⟨vs, h3, h4⟩ := at2 F2 m2 H2 s
    obtain ⟨us, h5, h6⟩ := bt2 F2 m2 H2 s
    obtain ⟨T, p, q, rfl, nT, rfl, hx, hy⟩ := hy
    unfold zipD at hn
    rw [List.getElem?_zipWith] at hn
    cases q1 : ds[n]? with
    | none => rw [q1] at hn; cases hn
    | some d =>
      cases q2 : es[n]? with
      | none => rw [q1, q2] at hn; cases hn
      | some e =>
        rw [q1, q2] at hn
        have ez : z = .tup [d, e] := (Option.some.inj hn).symm
        subst ez
        obtain ⟨u1, e1, f1⟩ := h4.get q1
        obtain ⟨u2, e2, f2⟩ := h6.get q2
        have e3 := hx vs h3
        have e4 := hy us h5
        rw [e1] at e3; cases e3
        rw [e2] at e4; cases e4
        exact pair_ok r2 f1 f2 nT
  · obtain ⟨vs, h3, h4⟩ := at2 F2 m2 H2 s
    obtain ⟨us, h5, h6⟩ := bt2 F2 m2 H2 s
    have e1 := h4.length
    have e2 := h6.length
    exact ⟨vs, us, h3, h5, by omega⟩
  · obtain ⟨vs, h3, h4⟩ := at2 F m H Step.refl
    have e1 := h4.length
    have e2 := SqT.fit r.fits h3
    omega
theorem i_zip {e e2 : Expr} {wa wb : WE} {p pos tpos : Pos} {elts : List Expr} {kk : Nat} (hg : Gl X "zip") (hm : X.mg "zip" = none) (ha : PE X e (up X.K wa)) (hb : PE X e2 (up X.K wb))
    (hs : starEach [e, e2] X.env = (false, eval e X.env) :: starEach [e2] X.env := by rfl) (hs2 : starEach [e2] X.env = [(false, eval e2 X.env)] := by rfl) (hpl : (backTo pos (starEach [e2] X.env)).any (·.1) = false := by rfl) :
    PI X (.Tuple elts kk tpos) (.Call (.Name "zip" p) [e, e2] [] pos) (upI X.K (wZip wa wb)) := PI.imp (RZ.pi_zipA hg hm (a_cons ha (a_cons hb a_nil hs2) hs) hs hpl) fun σ H R ⟨F, env, m, k, hE, hR, hw, hk⟩ =>
  ⟨F, env, m, fun ds m1 => match ds with
    | [x, y] => zipK k x y m1
    | _ => False, hE, hR, hw, fun ds m1 vs H1 q1 s1 r1 i1 => by
    match ds, q1, i1 with
    | [x, y], q1, i1 =>
      have q2 : zipK k x y m1 := q1
      obtain ⟨v, u, ev, i2, i3⟩ := i1.two
      subst ev
      unfold zipK at q2
      split at q2
      · rename_i ds es
        have i4 := i2
        have i5 := i3
        unfold Is at i4 i5
        obtain ⟨a, vs, ev, h1, h2⟩ := i4
        obtain ⟨b, us, eu, h3, h4⟩ := i5
        subst ev; subst eu
        exact ⟨a, b, vs, us, rfl, .inr ⟨h1.sq, h3.sq, hk _ _ _ _ _ q2 s1 r1 (itzT_ok _ i2 i3 r1)⟩⟩
      · split at q2
        · rename_i ds es e1 e2
          obtain ⟨a, vs, ev, h1, h2⟩ := lsee_is e1 i2 r1
          obtain ⟨b, us, eu, h3, h4⟩ := lsee_is e2 i3 r1
          subst ev; subst eu
          exact ⟨a, b, vs, us, rfl, .inl ⟨h1, h3, hk _ _ _ _ _ q2 s1 r1 (itz_ok i2 i3 r1 e1 e2)⟩⟩
        · exact q2.elim⟩
end
end T

set_option Elab.async false
set_option linter.all false
set_option maxRecDepth 100000
set_option maxHeartbeats 2000000
namespace T
open PySem PySem.Spec PyProof.Rows L2
section
variable {X : Cx} {K : PySem.W.Frag}
/-! ### inversions -/
theorem is_int {F : Fz} {m : M} {H : Hp} {i : Int} {v : V} (h : Is K F m H (.int i) v) : v = .int i := by unfold Is at h; exact h
theorem is_bl {F : Fz} {m : M} {H : Hp} {i : Bool} {v : V} (h : Is K F m H (.bl i) v) : v = .bl i := by unfold Is at h; exact h
theorem is_str {F : Fz} {m : M} {H : Hp} {i : Str} {v : V} (h : Is K F m H (.str i) v) : v = .str i := by unfold Is at h; exact h
theorem is_non {F : Fz} {m : M} {H : Hp} {v : V} (h : Is K F m H .non v) : v = .non := by unfold Is at h; exact h
theorem is_ref {F : Fz} {m : M} {H : Hp} {a : Addr} {v : V} (h : Is K F m H (.ref a) v) : v = .ref a := by unfold Is at h; exact h
theorem is_ty {F : Fz} {m : M} {H : Hp} {n : String} {v : V} (h : Is K F m H (.ty n) v) : v = .ty n := by unfold Is at h; exact h
theorem is_tup {F : Fz} {m : M} {H : Hp} {ds : List D} {v : V} (h : Is K F m H (.tup ds) v) : ∃ a vs, v = .ref a ∧ TupAt K m H a vs ∧ IsL K F m H ds vs := by unfold Is at h; exact h
theorem is_lst {F : Fz} {m : M} {H : Hp} {ds : List D} {v : V} (h : Is K F m H (.lst ds) v) : ∃ a vs, v = .ref a ∧ H a = some (.lst vs) ∧ m a = none ∧ ¬ F a ∧ IsL K F m H ds vs := by unfold Is at h; exact h
theorem int_is {F : Fz} {m : M} {H : Hp} {i : Int} : Is K F m H (.int i) (.int i) := by unfold Is; rfl
theorem bl_is {F : Fz} {m : M} {H : Hp} {i : Bool} : Is K F m H (.bl i) (.bl i) := by unfold Is; rfl
theorem str_is {F : Fz} {m : M} {H : Hp} {i : Str} : Is K F m H (.str i) (.str i) := by unfold Is; rfl
theorem non_is {F : Fz} {m : M} {H : Hp} : Is K F m H .non .non := by unfold Is; rfl
theorem ref_is {F : Fz} {m : M} {H : Hp} {a : Addr} : Is K F m H (.ref a) (.ref a) := by unfold Is; rfl
theorem OpR.or {f : Value → Value → Sem Value} {r r' : R2} (h : OpR X f r) (h' : OpR X f r') : OpR X f (fun x y H Q => r x y H Q ∨ r' x y H Q) := by
  intro pins s σ H x y v u Q I rx ry q
  rcases q with q | q
  · exact h pins s σ H x y v u Q I rx ry q
  · exact h' pins s σ H x y v u Q I rx ry q

/-! ### + -/
def fAdd : F2
  | .int i, .int j, m, k => k (.int (i + j)) m
  | .str a, .str b, m, k => a.length + b.length ≤ 16777216 ∧ k (.str (a ++ b)) m
  | .tup a, .tup b, m, k => a.length + b.length ≤ 16777216 ∧ k (.tup (a ++ b)) m
  | .lst a, .lst b, m, k => a.length + b.length ≤ 16777216 ∧ k (.lst (a ++ b)) m
  | _, _, _, _ => False
abbrev rAddA (K : PySem.W.Frag) : R2 := fun x y H Q => (rI0 fun i j => .int (i + j)) x y H Q ∨ (∃ i j, x = .str i ∧ y = .str j ∧ i.length + j.length ≤ sizeLine ∧ Q (.str (i ++ j)) H) ∨ rCatA K x y H Q ∨ rCat x y H Q
theorem op_addA : OpR X (binaryOp .Add) (rAddA X.K) := op_add.or (OpR.or op_add_str (OpR.or op_catA op_cat))
theorem b_add : RB K (rAddA K) fAdd := by
  intro F m H x y vx vy k Q h r ix iy w
  unfold fAdd at h
  split at h
  · exact .inl ⟨_, _, is_int ix, is_int iy, w.here r h int_is⟩
  · exact .inr (.inl ⟨_, _, is_str ix, is_str iy, h.1, w.here r h.2 str_is⟩)
  · rename_i as bs
    obtain ⟨hz, h⟩ := h
    obtain ⟨a, vs, e1, h1, h2⟩ := is_tup ix
    obtain ⟨b, us, e3, h3, h4⟩ := is_tup iy
    subst e1; subst e3
    have l1 := h2.length
    have l2 := h4.length
    have hz' : vs.length + us.length ≤ sizeLine := by rw [l1, l2]; exact hz
    refine .inr (.inr (.inl ⟨a, b, vs, us, rfl, rfl, h1.sq, h3.sq, hz', fun z => ?_, fun _ z => ?_, fun _ _ p hp => ?_⟩))
    · have e : as = [] := List.eq_nil_of_length_eq_zero (by rw [← l1, z]; rfl)
      subst e
      exact w.here r h iy
    · have e : bs = [] := List.eq_nil_of_length_eq_zero (by rw [← l2, z]; rfl)
      subst e
      rw [List.append_nil] at h
      exact w.here r h ix
    · exact w.tup r h (h2.append h4) (by rw [List.length_append]; exact hz') p hp
  · rename_i as bs
    obtain ⟨hz, h⟩ := h
    obtain ⟨a, vs, e1, h1, _, _, h2⟩ := is_lst ix
    obtain ⟨b, us, e3, h3, _, _, h4⟩ := is_lst iy
    subst e1; subst e3
    have l1 := h2.length
    have l2 := h4.length
    have hz' : vs.length + us.length ≤ sizeLine := by rw [l1, l2]; exact hz
    exact .inr (.inr (.inr ⟨a, b, vs, us, rfl, rfl, h1, h3, hz', alloc_at (frz := true) w r (by unfold alloc; rw [if_pos rfl]; exact h) (h2.append h4) (by rw [List.length_append]; exact hz')⟩))
  · exact h.elim
/-! ### ints -/
def fInt (C : Int → Int → Prop) (g : Int → Int → D) : F2
  | .int i, .int j, m, k => C i j ∧ k (g i j) m
  | _, _, _, _ => False
def fSub : F2
  | .int i, .int j, m, k => k (.int (i - j)) m
  | _, _, _, _ => False
theorem b_sub : RB K (rI0 fun i j => .int (i - j)) fSub := by
  intro F m H x y vx vy k Q h r ix iy w
  unfold fSub at h
  split at h
  · exact ⟨_, _, is_int ix, is_int iy, w.here r h int_is⟩
  · exact h.elim
/-- * of ints, a list or a tuple by an int -/
def fMul : F2
  | .int i, .int j, m, k => ((-(2 ^ 64) < i ∧ i < 2 ^ 64) ∨ (-(2 ^ 64) < j ∧ j < 2 ^ 64)) ∧ k (.int (i * j)) m
  | .lst a, .int n, m, k => (-(2 ^ 63) ≤ n ∧ n < 2 ^ 63 ∧ a.length * n.toNat ≤ 16777216) ∧ k (.lst (List.replicate n.toNat a).flatten) m
  | .tup a, .int n, m, k => (a ≠ [] ∧ 2 ≤ n ∧ n ≤ 1000 ∧ a.length ≤ 1000) ∧ k (.tup (List.replicate n.toNat a).flatten) m
  | _, _, _, _ => False
abbrev rMulA (K : PySem.W.Frag) : R2 := fun x y H Q => (rI CMul fun i j => .int (i * j)) x y H Q ∨ rRep x y H Q ∨ rRepT K x y H Q
theorem op_mulA : OpR X (binaryOp .Mult) (rMulA X.K) := op_mul.or (OpR.or op_rep op_repT)
theorem len_rep {α : Type} (xs : List α) : ∀ n, (List.replicate n xs).flatten.length = xs.length * n
  | 0 => by simp
  | n + 1 => by rw [List.replicate_succ, List.flatten_cons, List.length_append, len_rep xs n, Nat.mul_succ, Nat.add_comm]
theorem b_mul : RB K (rMulA K) fMul := by
  intro F m H x y vx vy k Q h r ix iy w
  unfold fMul at h
  split at h
  · exact .inl ⟨_, _, is_int ix, is_int iy, h.1, w.here r h.2 int_is⟩
  · obtain ⟨⟨c1, c2, c3⟩, h⟩ := h
    obtain ⟨a, vs, e1, h1, _, _, h2⟩ := is_lst ix
    subst e1
    exact .inr (.inl ⟨a, _, vs, rfl, is_int iy, h1, c1, c2, by rw [h2.length]; exact c3, alloc_at (frz := true) w r (by unfold alloc; rw [if_pos rfl]; exact h) (h2.rep _) (by rw [len_rep, h2.length]; exact c3)⟩)
  · obtain ⟨⟨c1, c2, c3, c4⟩, h⟩ := h
    obtain ⟨a, vs, e1, h1, h2⟩ := is_tup ix
    subst e1
    have hl := h2.length
    refine .inr (.inr ⟨a, _, vs, rfl, is_int iy, h1.sq, fun z => c1 (List.eq_nil_of_length_eq_zero (by rw [← hl, z]; rfl)), c2, c3, by omega, w.tup r h (h2.rep _) ?_⟩)
    rw [len_rep, hl]
    rename_i as n
    have : as.length * n.toNat ≤ 1000 * 1000 := Nat.mul_le_mul c4 (by omega)
    have e : (sizeLine : Nat) = 16777216 := rfl
    omega
  · exact h.elim
def fDiv : F2
  | .int i, .int j, m, k => (0 < j ∧ j < 1073741824) ∧ k (.int (i / j)) m
  | _, _, _, _ => False
theorem b_div : RB K (rI CDiv fun i j => .int (i / j)) fDiv := by
  intro F m H x y vx vy k Q h r ix iy w
  unfold fDiv at h
  split at h
  · exact ⟨_, _, is_int ix, is_int iy, h.1, w.here r h.2 int_is⟩
  · exact h.elim
def fMod : F2
  | .int i, .int j, m, k => 0 < j ∧ k (.int (i % j)) m
  | _, _, _, _ => False
theorem b_mod : RB K (rI (fun _ j => 0 < j) fun i j => .int (i % j)) fMod := by
  intro F m H x y vx vy k Q h r ix iy w
  unfold fMod at h
  split at h
  · exact ⟨_, _, is_int ix, is_int iy, h.1, w.here r h.2 int_is⟩
  · exact h.elim
def fPow : F2
  | .int i, .int j, m, k => (0 ≤ j ∧ j ≤ 1000000 ∧ i.natAbs < 2 ^ 64) ∧ k (.int (i ^ j.toNat)) m
  | _, _, _, _ => False
theorem b_pow : RB K (rI CPow fun i j => .int (i ^ j.toNat)) fPow := by
  intro F m H x y vx vy k Q h r ix iy w
  unfold fPow at h
  split at h
  · exact ⟨_, _, is_int ix, is_int iy, h.1, w.here r h.2 int_is⟩
  · exact h.elim
def fNeg : F1
  | .int i, m, k => k (.int (-i)) m
  | _, _, _ => False
theorem u_neg : RU K (rU fun i => .int (-i)) fNeg := by
  intro F m H x vx k Q h r ix w
  unfold fNeg at h
  split at h
  · exact ⟨_, is_int ix, w.here r h int_is⟩
  · exact h.elim
def fLt : F2
  | .int i, .int j, m, k => k (.bl (decide (i < j))) m
  | _, _, _, _ => False
def fLe : F2
  | .int i, .int j, m, k => k (.bl (decide (i ≤ j))) m
  | _, _, _, _ => False
def fGt : F2
  | .int i, .int j, m, k => k (.bl (decide (j < i))) m
  | _, _, _, _ => False
def fGe : F2
  | .int i, .int j, m, k => k (.bl (decide (j ≤ i))) m
  | _, _, _, _ => False
theorem b_lt : RB K (rI0 fun i j => .bl (decide (i < j))) fLt := by
  intro F m H x y vx vy k Q h r ix iy w
  unfold fLt at h
  split at h
  · exact ⟨_, _, is_int ix, is_int iy, w.here r h bl_is⟩
  · exact h.elim
theorem b_le : RB K (rI0 fun i j => .bl (decide (i ≤ j))) fLe := by
  intro F m H x y vx vy k Q h r ix iy w
  unfold fLe at h
  split at h
  · exact ⟨_, _, is_int ix, is_int iy, w.here r h bl_is⟩
  · exact h.elim
theorem b_gt : RB K (rI0 fun i j => .bl (decide (j < i))) fGt := by
  intro F m H x y vx vy k Q h r ix iy w
  unfold fGt at h
  split at h
  · exact ⟨_, _, is_int ix, is_int iy, w.here r h bl_is⟩
  · exact h.elim
theorem b_ge : RB K (rI0 fun i j => .bl (decide (j ≤ i))) fGe := by
  intro F m H x y vx vy k Q h r ix iy w
  unfold fGe at h
  split at h
  · exact ⟨_, _, is_int ix, is_int iy, w.here r h bl_is⟩
  · exact h.elim
/-! ### is, is not: None, a flag -/
def D.isN : D → Bool
  | .non => true
  | _ => false
def fIs (neg : Bool) : F2
  | .bl a, .bl b, m, k => k (.bl (if neg then !decide (a = b) else decide (a = b))) m
  | x, .non, m, k => k (.bl (if neg then !x.isN else x.isN)) m
  | _, _, _, _ => False
theorem isN_eq {F : Fz} {m : M} {H : Hp} {x : D} {v : V} (h : Is K F m H x v) : decide (v = .non) = x.isN := by
  cases x with
  | non => rw [is_non h]; rfl
  | bl b => rw [is_bl h]; rfl
  | int b => rw [is_int h]; rfl
  | str b => rw [is_str h]; rfl
  | ty b => rw [is_ty h]; rfl
  | ref b => rw [is_ref h]; rfl
  | tup ds => obtain ⟨a, vs, e, _⟩ := is_tup h; rw [e]; rfl
  | lst ds => obtain ⟨a, vs, e, _⟩ := is_lst h; rw [e]; rfl
  | scr ds => unfold Is at h; obtain ⟨a, e, _⟩ := h; rw [e]; rfl
  | dic ds => unfold Is at h; obtain ⟨a, vs, e, _⟩ := h; rw [e]; rfl
theorem op_isA : OpR X (compareOp .Is) (fun x y H Q => (y = .non ∧ Q (.bl (decide (x = .non))) H) ∨ (∃ a b, x = .bl a ∧ y = .bl b ∧ Q (.bl (decide (a = b))) H)) := op_isN.or op_is_bl
theorem op_isnotA : OpR X (compareOp .IsNot) (fun x y H Q => (y = .non ∧ Q (.bl (!decide (x = .non))) H) ∨ (∃ a b, x = .bl a ∧ y = .bl b ∧ Q (.bl (!decide (a = b))) H)) := op_notN.or op_isnot_bl
theorem b_is : RB K (fun x y H Q => (y = .non ∧ Q (.bl (decide (x = .non))) H) ∨ (∃ a b, x = .bl a ∧ y = .bl b ∧ Q (.bl (decide (a = b))) H)) (fIs false) := by
  intro F m H x y vx vy k Q h r ix iy w
  unfold fIs at h
  split at h
  · exact .inr ⟨_, _, is_bl ix, is_bl iy, w.here r h bl_is⟩
  · refine .inl ⟨is_non iy, ?_⟩
    rw [isN_eq ix]
    exact w.here r h bl_is
  · exact h.elim
theorem b_isnot : RB K (fun x y H Q => (y = .non ∧ Q (.bl (!decide (x = .non))) H) ∨ (∃ a b, x = .bl a ∧ y = .bl b ∧ Q (.bl (!decide (a = b))) H)) (fIs true) := by
  intro F m H x y vx vy k Q h r ix iy w
  unfold fIs at h
  split at h
  · exact .inr ⟨_, _, is_bl ix, is_bl iy, w.here r h bl_is⟩
  · refine .inl ⟨is_non iy, ?_⟩
    rw [isN_eq ix]
    exact w.here r h bl_is
  · exact h.elim
/-! ### ==, != of data -/
mutual
def D.py : D → Option PyData
  | .non => some .none
  | .bl b => some (.bool b)
  | .int i => some (.int i)
  | .str x => some (.str x)
  | .tup ds => (D.pyL ds).map .tuple
  | .lst ds => (D.pyL ds).map .list
  | .scr ns => some (.list (ns.map .int))
  | _ => none
def D.pyL : List D → Option (List PyData)
  | [] => some []
  | d :: ds => match D.py d, D.pyL ds with
    | some x, some xs => some (x :: xs)
    | _, _ => none
end
def M.see (m : M) (d : D) : D := match d with
  | .ref a => match m a with
    | some (.lst ds) => .lst ds
    | _ => d
  | _ => d
theorem dpAll_ints {H : Hp} : ∀ ns : List Int, DpAll K H (ns.map V.int) (ns.map PyData.int)
  | [] => .nil
  | n :: ns => .cons (.int n) (dpAll_ints ns)
mutual
theorem dp_of {F : Fz} {m : M} {H : Hp} : ∀ {d : D} {v : V} {p : PyData}, Is K F m H d v → d.py = some p → Dp K H v p
  | .non, v, p, h, e => by unfold D.py at e; cases e; rw [is_non h]; exact .non
  | .bl b, v, p, h, e => by unfold D.py at e; cases e; rw [is_bl h]; exact .bl b
  | .int b, v, p, h, e => by unfold D.py at e; cases e; rw [is_int h]; exact .int b
  | .str b, v, p, h, e => by unfold D.py at e; cases e; rw [is_str h]; exact .str b
  | .tup ds, v, p, h, e => by
    unfold D.py at e
    obtain ⟨a, vs, ev, h1, h2⟩ := is_tup h
    cases q : D.pyL ds with
    | none => rw [q] at e; cases e
    | some ps =>
      rw [q] at e; cases e
      rw [ev]
      exact .tup h1.sq (dpL_of h2 q)
  | .lst ds, v, p, h, e => by
    unfold D.py at e
    obtain ⟨a, vs, ev, h1, _, _, h2⟩ := is_lst h
    cases q : D.pyL ds with
    | none => rw [q] at e; cases e
    | some ps =>
      rw [q] at e; cases e
      rw [ev]
      exact .lst (.inl (.inl h1)) (dpL_of h2 q)
  | .scr ns, v, p, h, e => by
    unfold D.py at e; cases e
    unfold Is at h
    obtain ⟨a, ev, h1⟩ := h
    rw [ev]
    exact .lst h1.sq (dpAll_ints ns)
theorem dpL_of {F : Fz} {m : M} {H : Hp} : ∀ {ds : List D} {vs : List V} {ps : List PyData}, IsL K F m H ds vs → D.pyL ds = some ps → DpAll K H vs ps
  | [], vs, ps, h, e => by
    unfold IsL at h; unfold D.pyL at e; cases e; rw [h]; exact .nil
  | d :: ds, vs, ps, h, e => by
    unfold IsL at h
    obtain ⟨v, r, ev, h1, h2⟩ := h
    unfold D.pyL at e
    cases q1 : D.py d with
    | none => rw [q1] at e; cases e
    | some x =>
      cases q2 : D.pyL ds with
      | none => rw [q1, q2] at e; cases e
      | some xs =>
        rw [q1, q2] at e; cases e
        rw [ev]
        exact .cons (dp_of h1 q1) (dpL_of h2 q2)
end
theorem dp_see {F : Fz} {m : M} {H : Hp} {d : D} {v : V} {p : PyData} (r : Rel K F m H) (h : Is K F m H d v) (e : (m.see d).py = some p) : Dp K H v p := by
  unfold M.see at e
  split at e
  · rename_i a
    split at e
    · rename_i ds q
      obtain ⟨vs, h1, h2⟩ := r.obj a _ q
      unfold D.py at e
      cases q : D.pyL ds with
      | none => rw [q] at e; cases e
      | some ps =>
        rw [q] at e; cases e
        rw [is_ref h]
        exact .lst (.inl (.inl h1)) (dpL_of h2 q)
    · exact dp_of h e
  · exact dp_of h e
def eqG (neg : Bool) (x y : D) (m : M) (k : D → M → Prop) : Prop := ∃ p q, (m.see x).py = some p ∧ (m.see y).py = some q ∧ SeqAt.shaped p = true ∧ SeqAt.shaped q = true ∧ k (.bl (if neg then !PyData.eqv p q else PyData.eqv p q)) m
def fEq (neg : Bool) : F2
  | .int i, .int j, m, k => k (.bl (if neg then !decide (i = j) else decide (i = j))) m
  | .bl i, .bl j, m, k => k (.bl (if neg then !decide (i = j) else decide (i = j))) m
  | .str i, .str j, m, k => k (.bl (if neg then !decide (i = j) else decide (i = j))) m
  | .non, .int _, m, k => k (.bl neg) m
  | .int _, .non, m, k => k (.bl neg) m
  | x, y, m, k => eqG neg x y m k
abbrev rEqA (K : PySem.W.Frag) : R2 := fun x y H Q => rEq x y H Q ∨ rEqD K x y H Q
abbrev rNeA (K : PySem.W.Frag) : R2 := fun x y H Q => rNe x y H Q ∨ rNeD K x y H Q
theorem op_eqA (hu : X.A.units + 64 < cLine) : OpR X (compareOp .Eq) (rEqA X.K) := op_eq.or (op_eqD hu)
theorem op_neA (hu : X.A.units + 64 < cLine) : OpR X (compareOp .NotEq) (rNeA X.K) := op_ne.or (op_neD hu)
theorem dec_vint {i j : Int} : decide (V.int i = V.int j) = decide (i = j) := by
  by_cases h : i = j
  · rw [h]; simp
  · rw [decide_eq_false h, decide_eq_false fun z => h (V.int.inj z)]
theorem dec_vbl {i j : Bool} : decide (V.bl i = V.bl j) = decide (i = j) := by
  by_cases h : i = j
  · rw [h]; simp
  · rw [decide_eq_false h, decide_eq_false fun z => h (V.bl.inj z)]
theorem dec_vstr {i j : Str} : decide (V.str i = V.str j) = decide (i = j) := by
  by_cases h : i = j
  · rw [h]; simp
  · rw [decide_eq_false h, decide_eq_false fun z => h (V.str.inj z)]
theorem b_eq : RB K (rEqA K) (fEq false) := by
  intro F m H x y vx vy k Q h r ix iy w
  unfold fEq at h
  split at h
  · rw [is_int ix, is_int iy]
    exact .inl ⟨rfl, by rw [dec_vint]; exact w.here r h bl_is⟩
  · rw [is_bl ix, is_bl iy]
    exact .inl ⟨rfl, by rw [dec_vbl]; exact w.here r h bl_is⟩
  · rw [is_str ix, is_str iy]
    exact .inl ⟨rfl, by rw [dec_vstr]; exact w.here r h bl_is⟩
  · rw [is_non ix, is_int iy]
    exact .inl ⟨rfl, w.here r h bl_is⟩
  · rw [is_non iy, is_int ix]
    exact .inl ⟨rfl, w.here r h bl_is⟩
  · obtain ⟨p, q, e1, e2, s1, s2, h⟩ := h
    exact .inr ⟨p, q, dp_see r ix e1, dp_see r iy e2, s1, s2, w.here r h bl_is⟩
theorem b_ne : RB K (rNeA K) (fEq true) := by
  intro F m H x y vx vy k Q h r ix iy w
  unfold fEq at h
  split at h
  · rw [is_int ix, is_int iy]
    exact .inl ⟨rfl, by rw [dec_vint]; exact w.here r h bl_is⟩
  · rw [is_bl ix, is_bl iy]
    exact .inl ⟨rfl, by rw [dec_vbl]; exact w.here r h bl_is⟩
  · rw [is_str ix, is_str iy]
    exact .inl ⟨rfl, by rw [dec_vstr]; exact w.here r h bl_is⟩
  · rw [is_non ix, is_int iy]
    exact .inl ⟨rfl, w.here r h bl_is⟩
  · rw [is_non iy, is_int ix]
    exact .inl ⟨rfl, w.here r h bl_is⟩
  · obtain ⟨p, q, e1, e2, s1, s2, h⟩ := h
    exact .inr ⟨p, q, dp_see r ix e1, dp_see r iy e2, s1, s2, w.here r h bl_is⟩
/-! ### subscripts -/
def D.key : D → Option Key
  | .int i => some (.inl i)
  | .str x => some (.inr x)
  | _ => none
def valD (kvs : List (Key × D)) (k : Key) : Option D := (kvs.find? fun kv => decide (kv.1 = k)).map (·.2)
def M.dsee (m : M) : D → Option (List (Key × D))
  | .dic kvs => some kvs
  | .ref a => match m a with
    | some (.dic kvs) => some kvs
    | _ => none
  | _ => none
theorem dsee_is {F : Fz} {m : M} {H : Hp} {d : D} {v : V} {kvs : List (Key × D)} (h : m.dsee d = some kvs) (i : Is K F m H d v) (r : Rel K F m H) : ∃ a vs, v = .ref a ∧ H a = some (.dK vs) ∧ IsK K F m H kvs vs := by
  cases d with
  | dic es =>
    unfold M.dsee at h; cases h
    unfold Is at i
    obtain ⟨a, vs, e, h1, _, _, h4⟩ := i
    exact ⟨a, vs, e, h1, h4⟩
  | ref a =>
    unfold M.dsee at h
    simp only at h
    split at h
    · rename_i es e
      cases h
      obtain ⟨vs, h1, h2⟩ := r.obj a _ e
      exact ⟨a, vs, is_ref i, h1, h2⟩
    · cases h
  | _ => unfold M.dsee at h; cases h
theorem key_is {F : Fz} {m : M} {H : Hp} {d : D} {v : V} {k : Key} (h : d.key = some k) (i : Is K F m H d v) : v = kV k := by
  cases d with
  | int n => unfold D.key at h; cases h; exact is_int i
  | str n => unfold D.key at h; cases h; exact is_str i
  | _ => unfold D.key at h; cases h
theorem valD_nil {k : Key} : valD [] k = none := rfl
theorem valD_cons {p : Key × D} {r : List (Key × D)} {k : Key} : valD (p :: r) k = if p.1 = k then some p.2 else valD r k := by
  unfold valD
  rw [List.find?_cons]
  by_cases h : p.1 = k
  · rw [if_pos h, decide_eq_true h]; rfl
  · rw [if_neg h, decide_eq_false h]
theorem val_is {F : Fz} {m : M} {H : Hp} {k : Key} : ∀ {kvs : List (Key × D)} {vs : List (Key × V)}, IsK K F m H kvs vs → (∀ d, valD kvs k = some d → ∃ v, valV vs k = some v ∧ Is K F m H d v) ∧ (valD kvs k = none → valV vs k = none)
  | [], vs, h => by
    unfold IsK at h; subst h
    exact ⟨fun d e => (by cases e), fun _ => rfl⟩
  | p :: r, vs, h => by
    unfold IsK at h
    obtain ⟨v, q, e, h1, h2⟩ := h
    subst e
    have ih := val_is (k := k) h2
    rw [valD_cons]
    by_cases hk : p.1 = k
    · rw [if_pos hk]
      refine ⟨fun d e => ?_, fun e => by cases e⟩
      cases e
      exact ⟨v, valV_pos hk, h1⟩
    · rw [if_neg hk]
      refine ⟨fun d e => ?_, fun e => ?_⟩
      · obtain ⟨u, e1, e2⟩ := ih.1 d e
        exact ⟨u, by rw [valV_neg hk]; exact e1, e2⟩
      · rw [valV_neg hk]; exact ih.2 e
def ixS (s : Str) (i : Int) (m : M) (k : D → M → Prop) : Prop := s.length ≤ 16777216 ∧ match atI s.cps.toList i with
  | some c => k (.str ⟨#[c]⟩) m
  | none => False
def ixD (o : Option (List (Key × D))) (y : D) (m : M) (k : D → M → Prop) : Prop := match o, y.key with
  | some kvs, some j => match valD kvs j with
    | some d => k d m
    | none => False
  | _, _ => False
def ixL (ds : List D) (y : D) (m : M) (k : D → M → Prop) : Prop := match y with
  | .int i => match atI ds i with
    | some d => k d m
    | none => False
  | _ => False
def fIx : F2 := fun x y m k => match x with
  | .str s => match y with
    | .int i => ixS s i m k
    | _ => False
  | x => match m.seq x with
    | some ds => ixL ds y m k
    | none => ixD (m.dsee x) y m k
def rIxD (K : PySem.W.Frag) : R2 := fun x y H Q => ∃ a v, x = .ref a ∧ DGet H a y (some v) ∧ Q v H
theorem ix_dict (hu : X.A.units + 1 < cLine) : IxR X (rIxD X.K) := by
  intro value slice pins s σ H x y v u Q I rx ry h hs
  obtain ⟨a, z, rfl, g, q⟩ := h
  cases (show v = Value.ref a from rx)
  have hT := dict_typeIs I g
  unfold subscriptTail
  refine wpAny_bind ?_
  rw [getitemInPython_of_ne hT.not_modules]
  refine wpAny_bind (wpAny_specialOf hT PySem.F.slot_dict_getitem.lookup ?_)
  have fin : wpAny (model X.prog X.w) X.A (subscripted slice false (.ref a) u) (fun r s₃ => wpAny (model X.prog X.w) X.A (letTemporaryGo value (.ref a) r >>= fun _ => pure r) (EP X pins σ Q) X.xe s₃) X.xe s := by
    rw [hs]
    exact wpAny_operating (wpAny_mono (d_getItem (Q := fun r s₃ => wpAny (model X.prog X.w) X.A (letTemporaryGo value (.ref a) r >>= fun _ => pure r) (EP X pins σ Q) X.xe s₃) hu I g ry fun w' s' I' rw' => wpAny_bind (wpAny_letTemporaryGo (wpAny_pure ⟨z, H, I', rw', q⟩))) (fun r s₃ h₃ => h₃) fun _ _ x => x)
  first
    | exact wpAny_pure (wpAny_bind fin)
    | exact wpAny_bind (wpAny_pure (wpAny_bind fin))
    | exact wpAny_bind fin
abbrev rIxA (K : PySem.W.Frag) : R2 := fun x y H Q => rIx K x y H Q ∨ rIxD K x y H Q
theorem ix_A (hu : X.A.units + 1 < cLine) : IxR X (rIxA X.K) := ix_seq.or (ix_dict hu)
theorem atI_map {F : Fz} {m : M} {H : Hp} {ds : List D} {vs : List V} {i : Int} {d : D} (h : IsL K F m H ds vs) (e : atI ds i = some d) : ∃ v, atI vs i = some v ∧ Is K F m H d v := by
  unfold atI at e ⊢
  rw [h.length]
  cases q : ixN ds.length i with
  | none => rw [q] at e; cases e
  | some j =>
    rw [q] at e
    obtain ⟨v, h1, h2⟩ := h.get (i := j) e
    exact ⟨v, h1, h2⟩
theorem ixD_at {F : Fz} {m : M} {H : Hp} {x y : D} {vx vy : V} {k : D → M → Prop} {Q : VK} (h : ixD (m.dsee x) y m k) (r : Rel K F m H) (ix : Is K F m H x vx) (iy : Is K F m H y vy) (w : Want K F m H k Q) : rIxD K vx vy H Q := by
  unfold ixD at h
  split at h
  · rename_i kvs j e1 e2
    split at h
    · rename_i d e3
      obtain ⟨a, vs, ev, h1, h2⟩ := dsee_is e1 ix r
      obtain ⟨v, h3, h4⟩ := (val_is (k := j) h2).1 d e3
      subst ev
      rw [key_is e2 iy]
      have g := DGet.k (k := j) h1
      rw [h3] at g
      exact ⟨a, v, rfl, g, w.here r h h4⟩
    · exact h.elim
  · exact h.elim
theorem b_ix : RB K (rIxA K) fIx := by
  intro F m H x y vx vy k Q h r ix iy w
  unfold fIx at h
  split at h
  · split at h
    · obtain ⟨hz, h⟩ := h
      split at h
      · rename_i c e
        exact .inl (.inr (.inr ⟨_, _, c, is_str ix, is_int iy, hz, e, w.here r h str_is⟩))
      · exact h.elim
    · exact h.elim
  · split at h
    · rename_i ds e
      unfold ixL at h
      split at h
      · rename_i i
        split at h
        · rename_i d e2
          obtain ⟨a, vs, ev, h1, h2, _⟩ := seq_is e ix r
          obtain ⟨v, h3, h4⟩ := atI_map h2 e2
          subst ev
          rw [is_int iy]
          rcases h1 with h1 | h1
          · exact .inl (.inl ⟨a, vs, i, v, rfl, rfl, h1, h3, w.here r h h4⟩)
          · exact .inl (.inr (.inl ⟨a, vs, i, v, rfl, rfl, h1, h3, w.here r h h4⟩))
        · exact h.elim
      · exact h.elim
    · exact .inr (ixD_at h r ix iy w)
end
end T

set_option Elab.async false
set_option linter.all false
set_option maxRecDepth 100000
set_option maxHeartbeats 2000000
namespace T
open PySem PySem.Spec PyProof.Rows L2
section
variable {X : Cx} {K : PySem.W.Frag}
/-! ### in, not in -/
def rInDT (K : PySem.W.Frag) (neg : Bool) : R2 := fun x y H Q => ∃ d ds, Dp K H x d ∧ Dp K H y (.tuple ds) ∧ SeqAt.shaped d = true ∧ SeqAt.shaped (.tuple ds) = true ∧ Q (.bl (if neg then !(ds.any fun z => PyData.eqv z d) else ds.any fun z => PyData.eqv z d)) H
theorem op_inDT (hu : X.A.units + 65 < cLine) : OpR X (compareOp .In) (rInDT X.K false) := by
  intro pins s σ H x y v u Q I rx ry h
  obtain ⟨d, ds, hd, he, sd, se, q⟩ := h
  obtain ⟨as, r1⟩ := Dp.reads I d x v hd rx
  obtain ⟨bs, r2⟩ := Dp.reads I (.tuple ds) y u he ry
  exact SeqAt.in_tuple_reads r2 r1 (SeqAt.canLay_of_shaped se) (SeqAt.canLay_of_shaped sd) (room_in_shaped sd hu) ⟨.bl _, H, I, rfl, q⟩
theorem op_notInDT (hu : X.A.units + 65 < cLine) : OpR X (compareOp .NotIn) (rInDT X.K true) := by
  intro pins s σ H x y v u Q I rx ry h
  obtain ⟨d, ds, hd, he, sd, se, q⟩ := h
  obtain ⟨as, r1⟩ := Dp.reads I d x v hd rx
  obtain ⟨bs, r2⟩ := Dp.reads I (.tuple ds) y u he ry
  exact SeqAt.notIn_tuple_reads r2 r1 (SeqAt.canLay_of_shaped se) (SeqAt.canLay_of_shaped sd) (room_in_shaped sd hu) ⟨.bl _, H, I, rfl, q⟩
def rDIn (neg : Bool) : R2 := fun x y H Q => ∃ a o, y = .ref a ∧ DGet H a x o ∧ Q (.bl (if neg then !o.isSome else o.isSome)) H
theorem op_inK (hu : X.A.units + 1 < cLine) : OpR X (compareOp .In) (rDIn false) := by
  intro pins s σ H x y v u Q I rx ry h
  obtain ⟨a, o, rfl, g, q⟩ := h
  cases (show u = Value.ref a from ry)
  exact d_in hu I g rx fun s3 I3 => ⟨.bl o.isSome, H, I3, rfl, q⟩
theorem op_notInK (hu : X.A.units + 1 < cLine) : OpR X (compareOp .NotIn) (rDIn true) := by
  intro pins s σ H x y v u Q I rx ry h
  obtain ⟨a, o, rfl, g, q⟩ := h
  cases (show u = Value.ref a from ry)
  exact d_notIn hu I g rx fun s3 I3 => ⟨.bl (!o.isSome), H, I3, rfl, q⟩
abbrev rInA (K : PySem.W.Frag) : R2 := fun x y H Q => (∃ i j, x = .str i ∧ y = .str j ∧ Q (.bl (!(Builtin.Str.occurrences j i 0 j.length 1).isEmpty)) H) ∨ rDIn false x y H Q ∨ rIn K false x y H Q ∨ rInD K x y H Q ∨ rInDT K false x y H Q
abbrev rNotInA (K : PySem.W.Frag) : R2 := fun x y H Q => (∃ i j, x = .str i ∧ y = .str j ∧ Q (.bl (!(!(Builtin.Str.occurrences j i 0 j.length 1).isEmpty))) H) ∨ rDIn true x y H Q ∨ rIn K true x y H Q ∨ rNotInD K x y H Q ∨ rInDT K true x y H Q
theorem op_inA (hu : X.A.units + 65 < cLine) : OpR X (compareOp .In) (rInA X.K) := OpR.or op_in_str (OpR.or (op_inK (by omega)) (OpR.or op_in_seq (OpR.or (op_inD hu) (op_inDT hu))))
theorem op_notInA (hu : X.A.units + 65 < cLine) : OpR X (compareOp .NotIn) (rNotInA X.K) := OpR.or op_notIn_str (OpR.or (op_notInK (by omega)) (OpR.or op_notIn_seq (OpR.or (op_notInD hu) (op_notInDT hu))))
/-- an int or None among ints and Nones -/
def D.flat : D → Bool
  | .int _ => true
  | .non => true
  | .str _ => true
  | _ => false
def D.feq : D → D → Bool
  | .int i, .int j => decide (i = j)
  | .non, .non => true
  | .str i, .str j => decide (i = j)
  | _, _ => false
def inDeep (neg : Bool) (x y : D) (m : M) (k : D → M → Prop) : Prop := ∃ p ps, x.py = some p ∧ SeqAt.shaped p = true ∧ (((m.see y).py = some (.list ps) ∧ SeqAt.shaped (.list ps) = true) ∨ (y.py = some (.tuple ps) ∧ SeqAt.shaped (.tuple ps) = true)) ∧
  k (.bl (if neg then !(ps.any fun z => PyData.eqv z p) else ps.any fun z => PyData.eqv z p)) m
def fIn (neg : Bool) : F2 := fun x y m k => match y with
  | .str z => match x with
    | .str s => k (.bl (if neg then !(!(Builtin.Str.occurrences z s 0 z.length 1).isEmpty) else !(Builtin.Str.occurrences z s 0 z.length 1).isEmpty)) m
    | _ => False
  | y => match m.dsee y with
    | some kvs => match x.key with
      | some j => k (.bl (if neg then !(valD kvs j).isSome else (valD kvs j).isSome)) m
      | none => False
    | none => match m.seq y with
      | some ds => (x.flat = true ∧ ds.all D.flat = true ∧ k (.bl (if neg then !(ds.any fun z => D.feq z x) else ds.any fun z => D.feq z x)) m) ∨ inDeep neg x y m k
      | none => False
theorem flat_is {F : Fz} {m : M} {H : Hp} {d : D} {v : V} (h : Is K F m H d v) (f : d.flat = true) : flatV v = true := by
  cases d with
  | int i => rw [is_int h]; rfl
  | non => rw [is_non h]; rfl
  | str i => rw [is_str h]; rfl
  | _ => cases f
theorem feq_is {F : Fz} {m : M} {H : Hp} {d e : D} {v u : V} (h : Is K F m H d v) (g : Is K F m H e u) (f : d.flat = true) (f' : e.flat = true) : eqV v u = D.feq d e := by
  cases d with
  | int i =>
    cases e with
    | int j => rw [is_int h, is_int g]; unfold eqV D.feq; first | rfl | (simp [Bool.beq_eq_decide_eq])
    | non => rw [is_int h, is_non g]; rfl
    | str j => rw [is_int h, is_str g]; rfl
    | _ => cases f'
  | non =>
    cases e with
    | int j => rw [is_non h, is_int g]; rfl
    | non => rw [is_non h, is_non g]; rfl
    | str j => rw [is_non h, is_str g]; rfl
    | _ => cases f'
  | str i =>
    cases e with
    | int j => rw [is_str h, is_int g]; rfl
    | non => rw [is_str h, is_non g]; rfl
    | str j => rw [is_str h, is_str g]; unfold eqV D.feq; first | rfl | (simp [Bool.beq_eq_decide_eq])
    | _ => cases f'
  | _ => cases f
theorem flats_is {F : Fz} {m : M} {H : Hp} : ∀ {ds : List D} {vs : List V}, IsL K F m H ds vs → ds.all D.flat = true → vs.all flatV = true
  | [], vs, h, f => by unfold IsL at h; subst h; rfl
  | d :: ds, vs, h, f => by
    unfold IsL at h
    obtain ⟨v, r, e, h1, h2⟩ := h
    subst e
    rw [List.all_cons, Bool.and_eq_true] at f ⊢
    exact ⟨flat_is h1 f.1, flats_is h2 f.2⟩
theorem anyIn_is {F : Fz} {m : M} {H : Hp} {x : D} {vx : V} (hx : Is K F m H x vx) (fx : x.flat = true) : ∀ {ds : List D} {vs : List V}, IsL K F m H ds vs → ds.all D.flat = true → inV vx vs = ds.any fun z => D.feq z x
  | [], vs, h, f => by unfold IsL at h; subst h; rfl
  | d :: ds, vs, h, f => by
    unfold IsL at h
    obtain ⟨v, r, e, h1, h2⟩ := h
    subst e
    rw [List.all_cons, Bool.and_eq_true] at f
    show ((v :: r).any fun y => eqV y vx) = _
    rw [List.any_cons, List.any_cons, feq_is h1 hx f.1 fx]
    have ih := anyIn_is hx fx h2 f.2
    unfold inV at ih
    rw [ih]
theorem b_in_core (neg : Bool) : ∀ (F : Fz) (m : M) (H : Hp) (x y : D) (vx vy : V) (k : D → M → Prop) (Q : VK), fIn neg x y m k → Rel K F m H → Is K F m H x vx → Is K F m H y vy → Want K F m H k Q →
    (∃ i j, vx = .str i ∧ vy = .str j ∧ Q (.bl (if neg then !(!(Builtin.Str.occurrences j i 0 j.length 1).isEmpty) else !(Builtin.Str.occurrences j i 0 j.length 1).isEmpty)) H) ∨ rDIn neg vx vy H Q ∨ rIn K neg vx vy H Q ∨
      (∃ d ds, Dp K H vx d ∧ Dp K H vy (.list ds) ∧ SeqAt.shaped d = true ∧ SeqAt.shaped (.list ds) = true ∧ Q (.bl (if neg then !(ds.any fun z => PyData.eqv z d) else ds.any fun z => PyData.eqv z d)) H) ∨ rInDT K neg vx vy H Q := by
  intro F m H x y vx vy k Q h r ix iy w
  unfold fIn at h
  split at h
  · split at h
    · exact .inl ⟨_, _, is_str ix, is_str iy, w.here r h bl_is⟩
    · exact h.elim
  · split at h
    · rename_i kvs e
      split at h
      · rename_i j e2
        obtain ⟨a, vs, ev, h1, h2⟩ := dsee_is e iy r
        subst ev
        rw [key_is e2 ix]
        refine .inr (.inl ⟨a, valV vs j, rfl, DGet.k h1, ?_⟩)
        have q := val_is (k := j) h2
        cases z : valD kvs j with
        | none =>
          rw [z] at h
          rw [q.2 z]
          exact w.here r h bl_is
        | some d =>
          rw [z] at h
          obtain ⟨v, e3, _⟩ := q.1 d z
          rw [e3]
          exact w.here r h bl_is
      · exact h.elim
    · split at h
      · rename_i ds e
        rcases h with ⟨f1, f2, h⟩ | ⟨p, ps, e1, s1, e2, h⟩
        · obtain ⟨a, vs, ev, h1, h2, _⟩ := seq_is e iy r
          refine .inr (.inr (.inl ⟨a, vs, ev, h1, flat_is ix f1, flats_is h2 f2, ?_⟩))
          rw [anyIn_is ix f1 h2 f2]
          exact w.here r h bl_is
        · rcases e2 with ⟨e2, s2⟩ | ⟨e2, s2⟩
          · exact .inr (.inr (.inr (.inl ⟨p, ps, dp_of ix e1, dp_see r iy e2, s1, s2, w.here r h bl_is⟩)))
          · exact .inr (.inr (.inr (.inr ⟨p, ps, dp_of ix e1, dp_of iy e2, s1, s2, w.here r h bl_is⟩)))
      · exact h.elim
theorem b_in : RB K (rInA K) (fIn false) := fun F m H x y vx vy k Q h r ix iy w => b_in_core false F m H x y vx vy k Q h r ix iy w
theorem b_notin : RB K (rNotInA K) (fIn true) := fun F m H x y vx vy k Q h r ix iy w => b_in_core true F m H x y vx vy k Q h r ix iy w

/-! ### slices -/
def cutD (xs : List D) (lo hi : Option Int) : List D := (xs.drop (HT.sIx xs.length 0 lo)).take (HT.sIx xs.length xs.length hi - HT.sIx xs.length 0 lo)
theorem cut_is {F : Fz} {m : M} {H : Hp} {ds : List D} {vs : List V} (h : IsL K F m H ds vs) (lo hi : Option Int) : IsL K F m H (cutD ds lo hi) (cutV vs lo hi) := by
  unfold cutD cutV
  rw [h.length]
  exact (h.drop _).take _
def partK (k : Option Int → M → Prop) : D → M → Prop := fun d m => match d with
  | .int i => k (some i) m
  | _ => False
def wPart (w : Option WE) (env : T.Env) (m : M) (k : Option Int → M → Prop) : Prop := match w with
  | none => k none m
  | some w => w env m (partK k)
def fSl (frz : Bool) (x : D) (lo hi : Option Int) (m : M) (k : D → M → Prop) : Prop := match x with
  | .str s => s.length ≤ 16777216 ∧ k (.str (cutS s lo hi)) m
  | .tup ds => k (.tup (cutD ds lo hi)) m
  | x => match m.lsee x with
    | some ds => alloc frz (cutD ds lo hi) m k
    | none => False
def wSl (frz : Bool) (a : WE) (lo hi : Option WE) : WE := fun env m k => a env m fun x m1 => wPart lo env m1 fun l m2 => wPart hi env m2 fun u m3 => fSl frz x l u m3 k
def upO (K : PySem.W.Frag) (w : Option WE) : TO := fun σ H Q => ∃ (F : Fz) (env : T.Env) (m : M) (k : Option Int → M → Prop), EnvIs K F m H env σ ∧ Rel K F m H ∧ wPart w env m k ∧ ∀ o m' H', k o m' → Step F m H F m' H' → Rel K F m' H' → Q o H'
theorem PO.imp {e : Option Expr} {t t' : TO} (h : PO X e t) (i : ∀ σ H Q, t' σ H Q → t σ H Q) : PO X e t' := ⟨fun p s σ H Q I q => h.run p s σ H Q I (i σ H Q q)⟩
theorem o_none : PO X none (upO X.K none) := PO.imp po_none fun σ H Q ⟨F, env, m, k, hE, hR, hw, hk⟩ => hk none m H hw Step.refl hR
theorem o_some {e : Expr} {w : WE} (h : PE X e (up X.K w)) : PO X (some e) (upO X.K (some w)) := PO.imp (po_some h) fun σ H Q ⟨F, env, m, k, hE, hR, hw, hk⟩ =>
  ⟨F, env, m, _, hE, hR, hw, fun d m1 v H1 q1 s1 r1 i1 => by
    unfold partK at q1
    split at q1
    · exact ⟨_, is_int i1, hk _ m1 H1 q1 s1 r1⟩
    · exact q1.elim⟩
abbrev rSlAll (K : PySem.W.Frag) : V → Option Int → Option Int → Hp → VK → Prop := fun x lo hi H Q => rSlS x lo hi H Q ∨ rSlA K x lo hi H Q ∨ rSlL K x lo hi H Q
theorem sl_all : SlR X (rSlAll X.K) := sl_str.or (sl_tupA.or sl_list)
theorem e_sl (frz : Bool) {e : Expr} {lo hi : Option Expr} {w : WE} {wl wh : Option WE} {p2 pos : Pos} (he : PE X e (up X.K w)) (hl : PO X lo (upO X.K wl)) (hh : PO X hi (upO X.K wh)) : PE X (.Subscript e (.Slice lo hi none p2) pos) (up X.K (wSl frz w wl wh)) := PE.imp (pe_slice sl_all he hl hh) fun σ H Q ⟨F, env, m, k, hE, hR, hw, hk⟩ =>
  ⟨F, env, m, _, hE, hR, hw, fun x m1 vx H1 q1 s1 r1 i1 => ⟨F, env, m1, _, hE.step s1, r1, q1, fun l m2 H2 q2 s2 r2 => ⟨F, env, m2, _, (hE.step s1).step s2, r2, q2, fun u m3 H3 q3 s3 r3 => by
    have i3 := i1.step (s2.trans s3)
    have w3 := Want.step hk ((s1.trans s2).trans s3)
    unfold fSl at q3
    split at q3
    · exact .inl ⟨_, is_str i3, q3.1, w3.here r3 q3.2 str_is⟩
    · rename_i ds
      have i4 := i3
      obtain ⟨a, vs, ev, h1, h2⟩ := is_tup i4
      subst ev
      have hz := SqT.fit r3.fits h1.sq
      have hl := h2.length
      refine .inr (.inl ⟨a, vs, rfl, h1.sq, fun z => ?_, fun _ => w3.tup r3 q3 (cut_is h2 l u) (Nat.le_trans (cutV_length vs l u) hz)⟩)
      have e : cutD ds l u = ds := by
        unfold cutD
        rw [← hl, z.1, z.2, List.drop_zero, Nat.sub_zero, hl]
        exact List.take_length
      rw [e] at q3
      exact w3.here r3 q3 i3
    · split at q3
      · rename_i ds e
        obtain ⟨a, vs, ev, h1, h2⟩ := lsee_is e i3 r3
        subst ev
        exact .inr (.inr ⟨a, vs, rfl, h1, alloc_at w3 r3 q3 (cut_is h2 l u) (Nat.le_trans (cutV_length vs l u) (SqL.fit r3.fits h1))⟩)
      · exact q3.elim⟩⟩⟩
/-- [::-1] of a list -/
def fRev (frz : Bool) : F1 := fun x m k => match m.lsee x with
  | some ds => alloc frz ds.reverse m k
  | none => False
theorem e_revL (frz : Bool) {e : Expr} {w : WE} {kk : Nat} {p1 p2 p3 pos : Pos} (he : PE X e (up X.K w)) : PE X (.Subscript e (.Slice none none (some (.UnaryOp .USub (.Constant (.int 1) kk p1) p2)) p3) pos) (up X.K (wU (fRev frz) w)) := PE.imp (pe_revL he) fun σ H Q ⟨F, env, m, k, hE, hR, hw, hk⟩ =>
  ⟨F, env, m, _, hE, hR, hw, fun x m1 vx H1 q1 s1 r1 i1 => by
    unfold fRev at q1
    split at q1
    · rename_i ds e
      obtain ⟨a, vs, ev, h1, h2⟩ := lsee_is e i1 r1
      exact ⟨a, vs, ev, h1, alloc_at (Want.step hk s1) r1 q1 h2.reverse (by rw [List.length_reverse]; exact SqL.fit r1.fits h1)⟩
    · exact q1.elim⟩

/-! ### built-in functions -/
theorem up_call {r : List V → Hp → VK → Prop} {f : FA} (hf : RC K r f) {as : WA} : ∀ σ H Q, up K (wCall f as) σ H Q → tCB r (upA K as) σ H Q := fun σ H Q ⟨F, env, m, k, hE, hR, hw, hk⟩ =>
  ⟨F, env, m, _, hE, hR, hw, fun xs m1 vs H1 q1 s1 r1 i1 => hf F m1 H1 xs vs k Q q1 r1 i1 (Want.step hk s1)⟩
theorem e_callB {id : String} {r : List V → Hp → VK → Prop} {f : FA} {x : Str} {p pos : Pos} {e : Expr} {es : List Expr} {as : WA} (hc : CallR X (.builtin id) r) (hf : RC X.K r f) (hg : Gl X x) (hm : X.mg x = none) (hv : bootBuiltins x = some (.builtin id)) (ha : PA X (e :: es) (upA X.K as)) (hn : x ≠ "__name__" := by decide) (hdb : (x == ("__debug__" : Str)) = false := by decide)
    (he : starEach (e :: es) X.env = (false, eval e X.env) :: starEach es X.env := by rfl) (hpl : (backTo pos (starEach es X.env)).any (·.1) = false := by rfl) : PE X (.Call (.Name x p) (e :: es) [] pos) (up X.K (wCall f as)) := PE.imp (pe_callB hc hg hm hv ha hn hdb he hpl) (up_call hf)
theorem e_callTy {t : String} {r : List V → Hp → VK → Prop} {f : FA} {x : Str} {p pos : Pos} {e : Expr} {es : List Expr} {as : WA} (hc : CallR X (.type t) r) (hf : RC X.K r f) (hg : Gl X x) (hm : X.mg x = none) (hv : bootBuiltins x = some (.type t)) (ha : PA X (e :: es) (upA X.K as)) (hn : x ≠ "__name__" := by decide) (hdb : (x == ("__debug__" : Str)) = false := by decide)
    (he : starEach (e :: es) X.env = (false, eval e X.env) :: starEach es X.env := by rfl) (hpl : (backTo pos (starEach es X.env)).any (·.1) = false := by rfl) : PE X (.Call (.Name x p) (e :: es) [] pos) (up X.K (wCall f as)) := PE.imp (pe_callTy hc hg hm hv ha hn hdb he hpl) (up_call hf)
/-- one argument -/
def f1 (f : F1) : FA := fun xs m k => match xs with
  | [x] => f x m k
  | _ => False
def f2 (f : F2) : FA := fun xs m k => match xs with
  | [x, y] => f x y m k
  | _ => False
theorem rc1 {r : List V → Hp → VK → Prop} {f : F1} (h : RU K (fun v H Q => r [v] H Q) f) : RC K r (f1 f) := by
  intro F m H xs vs k Q q rl is w
  match xs, q, is with
  | [x], q, is =>
    obtain ⟨v, e, i⟩ := is.one
    subst e
    exact h F m H x v k Q q rl i w
theorem rc2 {r : List V → Hp → VK → Prop} {f : F2} (h : RB K (fun v u H Q => r [v, u] H Q) f) : RC K r (f2 f) := by
  intro F m H xs vs k Q q rl is w
  match xs, q, is with
  | [x, y], q, is =>
    obtain ⟨v, u, e, i, j⟩ := is.two
    subst e
    exact h F m H x y v u k Q q rl i j w
def fLen : F1 := fun x m k => match x with
  | .str s => s.length ≤ 16777216 ∧ k (.int s.length) m
  | x => match m.seq x with
    | some ds => k (.int ds.length) m
    | none => match m.dsee x with
      | some kvs => k (.int kvs.length) m
      | none => False
abbrev rLenA (K : PySem.W.Frag) : List V → Hp → VK → Prop := fun xs H Q => (∃ x n, xs = [x] ∧ LenV K x H n ∧ Q (.int n) H) ∨ (∃ a kvs, xs = [.ref a] ∧ Rd H a (.dK kvs) ∧ Q (.int (kvs : List (Key × V)).length) H)
theorem call_lenA : CallR X (.builtin "len") (rLenA X.K) := call_len.or (by
  intro pins s σ H xs us Q I rs h
  obtain ⟨a, kvs, rfl, e, q⟩ := h
  obtain ⟨u, rfl, ru⟩ := vals1 rs
  cases (show u = Value.ref a from ru)
  exact d_len I e fun t s' I' => ⟨.int kvs.length, H, I', ⟨_, rfl⟩, q⟩)
theorem IsK.length {F : Fz} {m : M} {H : Hp} : ∀ {ds : List (Key × D)} {vs : List (Key × V)}, IsK K F m H ds vs → vs.length = ds.length
  | [], _, h => by unfold IsK at h; rw [h]; rfl
  | d :: ds, vs, h => by
    unfold IsK at h
    obtain ⟨v, r, e, _, h2⟩ := h
    rw [e, List.length_cons, List.length_cons, IsK.length h2]
end
end T

set_option Elab.async false
set_option linter.all false
set_option maxRecDepth 100000
set_option maxHeartbeats 2000000
namespace T
open PySem PySem.Spec PyProof.Rows L2
section
variable {X : Cx} {K : PySem.W.Frag}
theorem c_len : RC K (rLenA K) (f1 fLen) := rc1 (by
  intro F m H x v k Q h r ix w
  unfold fLen at h
  split at h
  · exact .inl ⟨_, _, rfl, by rw [is_str ix]; exact ⟨h.1, rfl⟩, w.here r h.2 int_is⟩
  · split at h
    · rename_i ds e
      obtain ⟨a, vs, ev, h1, h2, _⟩ := seq_is e ix r
      refine .inl ⟨_, vs.length, rfl, ?_, by rw [h2.length]; exact w.here r h int_is⟩
      rw [ev]
      rcases h1 with h1 | h1
      · exact .inl ⟨vs, h1, rfl⟩
      · exact .inr ⟨vs, h1, rfl⟩
    · split at h
      · rename_i kvs e
        obtain ⟨a, vs, ev, h1, h2⟩ := dsee_is e ix r
        exact .inr ⟨a, vs, by rw [ev], .inl h1, by rw [h2.length]; exact w.here r h int_is⟩
      · exact h.elim)
def fToInt : F1
  | .int i, m, k => k (.int i) m
  | .bl b, m, k => k (.int (if b then 1 else 0)) m
  | _, _, _ => False
theorem c_int : RC K (fun xs H Q => (∃ i, xs = [.int i] ∧ Q (.int i) H) ∨ ∃ k, xs = [.bl k] ∧ Q (.int (if k then 1 else 0)) H) (f1 fToInt) := rc1 (by
  intro F m H x v k Q h r ix w
  unfold fToInt at h
  split at h
  · exact .inl ⟨_, by rw [is_int ix], w.here r h int_is⟩
  · exact .inr ⟨_, by rw [is_bl ix], w.here r h int_is⟩
  · exact h.elim)
def fAbs : F1
  | .int i, m, k => k (.int (if i < 0 then -i else i)) m
  | _, _, _ => False
theorem c_abs : RC K (fun xs H Q => ∃ i, xs = [.int i] ∧ Q (.int (if i < 0 then -i else i)) H) (f1 fAbs) := rc1 (by
  intro F m H x v k Q h r ix w
  unfold fAbs at h
  split at h
  · exact ⟨_, by rw [is_int ix], w.here r h int_is⟩
  · exact h.elim)
/-! ### isinstance -/
def D.tyN : D → Option String
  | .non => some "NoneType"
  | .bl _ => some "bool"
  | .int _ => some "int"
  | .str _ => some "str"
  | .tup _ => some "tuple"
  | .lst _ => some "list"
  | .scr _ => some "list"
  | .dic _ => some "dict"
  | _ => none
def M.tyN (m : M) (d : D) : Option String := match d with
  | .ref a => match m a with
    | some (.lst _) => some "list"
    | some (.dic _) => some "dict"
    | _ => none
  | d => d.tyN
def tyNames : List String := ["NoneType", "bool", "int", "str", "tuple", "list", "dict"]
def isSub (t c : String) : Bool := t == c || (t == "bool" && c == "int")
theorem kit_tab : (tyNames.all fun t => tyNames.all fun c => decide (kitB t c = some (isSub t c))) = true := by decide +kernel
theorem kit_at {t c : String} (h1 : t ∈ tyNames) (h2 : c ∈ tyNames) : PySem.W.kitOne K (.type t) (.type c) = some (isSub t c) :=
  kit_ty (of_decide_eq_true (List.all_eq_true.mp (List.all_eq_true.mp kit_tab t h1) c h2))
theorem tup_ty {m : M} {H : Hp} {a : Addr} {vs : List V} (h : TupAt K m H a vs) : TyX K H (.ref a) (.type "tuple") := by
  rcases h with ⟨_, h | ⟨o, h⟩⟩ | h
  · exact .base (.tup h)
  · exact .fTuple h
  · rcases h (fun _ => none) with (h | ⟨o, h⟩) | ⟨o, its, n, h1, h2, _⟩
    · cases h
    · cases h
    · exact .kTuple h1 h2
theorem scr_ty {m : M} {H : Hp} {a : Addr} {vs : List V} (h : ScrAt K m H a vs) : TyX K H (.ref a) (.type "list") := by
  rcases h with ⟨_, o, h⟩ | h
  · exact .base (.frz h)
  · rcases h (fun _ => none) with (h | ⟨o, h⟩) | ⟨o, its, n, h1, h2, _⟩
    · cases h
    · cases h
    · exact .kList h1 h2
theorem ty_is {F : Fz} {m : M} {H : Hp} {d : D} {v : V} {t : String} (e : m.tyN d = some t) (i : Is K F m H d v) (r : Rel K F m H) : TyX K H v (.type t) ∧ t ∈ tyNames := by
  unfold M.tyN at e
  cases d with
  | ref a =>
    simp only at e
    rw [is_ref i]
    split at e
    · rename_i ds q
      cases e
      obtain ⟨vs, h1, _⟩ := r.obj a _ q
      exact ⟨.base (.lst h1), by decide⟩
    · rename_i ds q
      cases e
      obtain ⟨vs, h1, _⟩ := r.obj a _ q
      exact ⟨.base (.dK h1), by decide⟩
    · cases e
  | non => cases e; rw [is_non i]; exact ⟨.base .non, by decide⟩
  | bl b => cases e; rw [is_bl i]; exact ⟨.base (.bl b), by decide⟩
  | int b => cases e; rw [is_int i]; exact ⟨.base (.int b), by decide⟩
  | str b => cases e; rw [is_str i]; exact ⟨.base (.str b), by decide⟩
  | tup ds => cases e; obtain ⟨a, vs, ev, h1, _⟩ := is_tup i; rw [ev]; exact ⟨tup_ty h1, by decide⟩
  | lst ds => cases e; obtain ⟨a, vs, ev, h1, _⟩ := is_lst i; rw [ev]; exact ⟨.base (.lst h1), by decide⟩
  | scr ds => cases e; unfold Is at i; obtain ⟨a, ev, h1⟩ := i; rw [ev]; exact ⟨scr_ty h1, by decide⟩
  | dic ds => cases e; unfold Is at i; obtain ⟨a, vs, ev, h1, _⟩ := i; rw [ev]; exact ⟨.base (.dK h1), by decide⟩
  | ty n => cases e
def fIsi : F2 := fun x c m k => match c, m.tyN x with
  | .ty n, some t => n ∈ tyNames ∧ k (.bl (isSub t n)) m
  | _, _ => False
theorem c_isi : RC K (rIsi K) (f2 fIsi) := rc2 (by
  intro F m H x c vx vc k Q h r ix ic w
  unfold fIsi at h
  split at h
  · rename_i n t e
    obtain ⟨h1, h2⟩ := ty_is e ix r
    exact ⟨vx, vc, _, _, _, rfl, by rw [is_ty ic]; exact .ty n, h1, kit_at h2 h.1, w.here r h.2 bl_is⟩
  · exact h.elim)
theorem e_ty {x : Str} {n : String} {pos : Pos} (hg : Gl X x) (hm : X.mg x = none) (hv : bootBuiltins x = some (.type n)) (hn : x ≠ "__name__" := by decide) (hd : (x == ("__debug__" : Str)) = false := by decide) : PE X (.Name x pos) (up X.K (wC (.ty n))) :=
  PE.imp (pe_bltn hg hm hv (v := .ty n) rfl hn hd) (up_c fun _ _ _ => by unfold Is; rfl)
/-! ### all, any, max, min, sum, sorted of ints -/
def D.bls : List D → Option (List Bool)
  | [] => some []
  | .bl b :: r => (D.bls r).map (b :: ·)
  | _ => none
def D.ints : List D → Option (List Int)
  | [] => some []
  | .int b :: r => (D.ints r).map (b :: ·)
  | _ => none
theorem bls_map : ∀ (bs : List Bool), D.bls (bs.map D.bl) = some bs
  | [] => rfl
  | b :: bs => by show (D.bls (bs.map D.bl)).map (b :: ·) = _; rw [bls_map bs]; rfl
theorem ints_map : ∀ (bs : List Int), D.ints (bs.map D.int) = some bs
  | [] => rfl
  | b :: bs => by show (D.ints (bs.map D.int)).map (b :: ·) = _; rw [ints_map bs]; rfl
theorem bls_of : ∀ {ds : List D} {bs : List Bool}, D.bls ds = some bs → ds = bs.map D.bl
  | [], bs, h => by cases h; rfl
  | .bl b :: r, bs, h => by
    unfold D.bls at h
    cases q : D.bls r with
    | none => rw [q] at h; cases h
    | some cs => rw [q] at h; cases h; rw [bls_of q]; rfl
  | .non :: r, bs, h => by cases h
  | .int _ :: r, bs, h => by cases h
  | .str _ :: r, bs, h => by cases h
  | .tup _ :: r, bs, h => by cases h
  | .lst _ :: r, bs, h => by cases h
  | .scr _ :: r, bs, h => by cases h
  | .dic _ :: r, bs, h => by cases h
  | .ref _ :: r, bs, h => by cases h
  | .ty _ :: r, bs, h => by cases h
theorem ints_of : ∀ {ds : List D} {bs : List Int}, D.ints ds = some bs → ds = bs.map D.int
  | [], bs, h => by cases h; rfl
  | .int b :: r, bs, h => by
    unfold D.ints at h
    cases q : D.ints r with
    | none => rw [q] at h; cases h
    | some cs => rw [q] at h; cases h; rw [ints_of q]; rfl
  | .non :: r, bs, h => by cases h
  | .bl _ :: r, bs, h => by cases h
  | .str _ :: r, bs, h => by cases h
  | .tup _ :: r, bs, h => by cases h
  | .lst _ :: r, bs, h => by cases h
  | .scr _ :: r, bs, h => by cases h
  | .dic _ :: r, bs, h => by cases h
  | .ref _ :: r, bs, h => by cases h
  | .ty _ :: r, bs, h => by cases h
def lsInts (m : M) (x : D) (g : List Int → Prop) : Prop := match m.lsee x with
  | some ds => match D.ints ds with
    | some ns => g ns
    | none => False
  | none => False
theorem lsInts_is {F : Fz} {m : M} {H : Hp} {x : D} {v : V} {g : List Int → Prop} (h : lsInts m x g) (i : Is K F m H x v) (r : Rel K F m H) : ∃ a ns, v = .ref a ∧ SqL K H a (ns.map V.int) ∧ g ns := by
  unfold lsInts at h
  split at h
  · rename_i ds e
    split at h
    · rename_i ns e2
      obtain ⟨a, vs, ev, h1, h2⟩ := lsee_is e i r
      rw [ints_of e2] at h2
      rw [isL_ints h2] at h1
      exact ⟨a, ns, ev, h1, h⟩
    · exact h.elim
  · exact h.elim
def lsBls (m : M) (x : D) (g : List Bool → Prop) : Prop := match m.lsee x with
  | some ds => match D.bls ds with
    | some ns => g ns
    | none => False
  | none => False
theorem lsBls_is {F : Fz} {m : M} {H : Hp} {x : D} {v : V} {g : List Bool → Prop} (h : lsBls m x g) (i : Is K F m H x v) (r : Rel K F m H) : ∃ a ns, v = .ref a ∧ SqL K H a (ns.map V.bl) ∧ g ns := by
  unfold lsBls at h
  split at h
  · rename_i ds e
    split at h
    · rename_i ns e2
      obtain ⟨a, vs, ev, h1, h2⟩ := lsee_is e i r
      rw [bls_of e2] at h2
      rw [isL_bls h2] at h1
      exact ⟨a, ns, ev, h1, h⟩
    · exact h.elim
  · exact h.elim
def fAll : F1 := fun x m k => lsBls m x fun bs => k (.bl (bs.all id)) m
def fAny : F1 := fun x m k => lsBls m x fun bs => k (.bl (bs.any id)) m
def fMax : F1 := fun x m k => lsInts m x fun ns => 0 < ns.length ∧ ∀ i, i ∈ ns → (∀ y, y ∈ ns → y ≤ i) → k (.int i) m
def fMin : F1 := fun x m k => lsInts m x fun ns => 0 < ns.length ∧ ∀ i, i ∈ ns → (∀ y, y ∈ ns → i ≤ y) → k (.int i) m
def fSum : F1 := fun x m k => lsInts m x fun ns => k (.int ns.sum) m
theorem c_all : RC K (rAll K) (f1 fAll) := rc1 (by
  intro F m H x v k Q h r ix w
  obtain ⟨a, ns, ev, h1, h2⟩ := lsBls_is h ix r
  exact ⟨a, ns, by rw [ev], h1, w.here r h2 bl_is⟩)
theorem c_any : RC K (rAny K) (f1 fAny) := rc1 (by
  intro F m H x v k Q h r ix w
  obtain ⟨a, ns, ev, h1, h2⟩ := lsBls_is h ix r
  exact ⟨a, ns, by rw [ev], h1, w.here r h2 bl_is⟩)
theorem c_max : RC K (rMax K) (f1 fMax) := rc1 (by
  intro F m H x v k Q h r ix w
  obtain ⟨a, ns, ev, h1, h2, h3⟩ := lsInts_is h ix r
  exact ⟨a, ns, by rw [ev], h1, h2, fun i hi hy => w.here r (h3 i hi hy) int_is⟩)
theorem c_min : RC K (rMin K) (f1 fMin) := rc1 (by
  intro F m H x v k Q h r ix w
  obtain ⟨a, ns, ev, h1, h2, h3⟩ := lsInts_is h ix r
  exact ⟨a, ns, by rw [ev], h1, h2, fun i hi hy => w.here r (h3 i hi hy) int_is⟩)
theorem c_sum : RC K (rSum K) (f1 fSum) := rc1 (by
  intro F m H x v k Q h r ix w
  obtain ⟨a, ns, ev, h1, h2⟩ := lsInts_is h ix r
  exact ⟨a, ns, by rw [ev], h1, w.here r h2 int_is⟩)
def fMax2 : F2
  | .int i, .int j, m, k => k (.int (if j > i then j else i)) m
  | _, _, _, _ => False
def fMin2 : F2
  | .int i, .int j, m, k => k (.int (if j < i then j else i)) m
  | _, _, _, _ => False
theorem c_max2 : RC K (fun xs H Q => ∃ i j, xs = [.int i, .int j] ∧ Q (.int (if j > i then j else i)) H) (f2 fMax2) := rc2 (by
  intro F m H x y vx vy k Q h r ix iy w
  unfold fMax2 at h
  split at h
  · exact ⟨_, _, by rw [is_int ix, is_int iy], w.here r h int_is⟩
  · exact h.elim)
theorem c_min2 : RC K (fun xs H Q => ∃ i j, xs = [.int i, .int j] ∧ Q (.int (if j < i then j else i)) H) (f2 fMin2) := rc2 (by
  intro F m H x y vx vy k Q h r ix iy w
  unfold fMin2 at h
  split at h
  · exact ⟨_, _, by rw [is_int ix, is_int iy], w.here r h int_is⟩
  · exact h.elim)
/-- sorted of ints (below 64) -/
def sortI (ns : List Int) : List Int := ns.mergeSort (fun a b => decide (a ≤ b))
theorem sortI_one {ns out : List Int} (hp : out.Perm ns) (hs : out.Pairwise (· ≤ ·)) : out = sortI ns := by
  have h1 : (sortI ns).Perm ns := List.mergeSort_perm _ _
  have h2 : (sortI ns).Pairwise (fun a b => decide (a ≤ b) = true) := List.pairwise_mergeSort (by intro a b c h1 h2; simp at *; omega) (by intro a b; simp; omega) ns
  have h3 : (sortI ns).Pairwise (· ≤ ·) := h2.imp fun h => by simpa using h
  exact List.Perm.eq_of_pairwise (le := (· ≤ ·)) (fun a b _ _ h1 h2 => Int.le_antisymm h1 h2) hs h3 (hp.trans h1.symm)
def fSortI (frz : Bool) : F1 := fun x m k => lsInts m x fun ns => ns.length < 64 ∧ alloc frz ((sortI ns).map D.int) m k
theorem c_sortI (frz : Bool) : RC K (rSorted K) (f1 (fSortI frz)) := rc1 (by
  intro F m H x v k Q h r ix w
  obtain ⟨a, ns, ev, h1, h2, h3⟩ := lsInts_is h ix r
  refine ⟨a, ns, by rw [ev], h1, h2, fun out p hp hs hn => ?_⟩
  have e := sortI_one hp hs
  subst e
  exact alloc_at w r h3 (ints_isL _) (by rw [List.length_map, hp.length_eq]; exact small64 h2) p hn)
/-! ### list(x), tuple(x) -/
def fList (frz : Bool) : F1 := fun x m k => match m.seq x with
  | some ds => alloc frz ds m k
  | none => False
theorem c_list (frz : Bool) : RC K (fun xs H Q => ∃ p ys, xs = [.ref p] ∧ (SqL K H p ys ∨ SqT K H p ys) ∧ ∀ l, H l = none → Q (.ref l) (upd H l (.lst ys))) (f1 (fList frz)) := rc1 (by
  intro F m H x v k Q h r ix w
  unfold fList at h
  split at h
  · rename_i ds e
    obtain ⟨a, vs, ev, h1, h2, hz⟩ := seq_is e ix r
    exact ⟨a, vs, by rw [ev], h1, alloc_at w r h h2 (by rw [h2.length]; exact hz)⟩
  · exact h.elim)
def fTuple : F1 := fun x m k => match m.seq x with
  | some ds => k (.tup ds) m
  | none => False
theorem c_tuple : RC K (fun xs H Q => ∃ p ys, xs = [.ref p] ∧ ((SqL K H p ys ∧ ∀ l, H l = none → Q (.ref l) (upd H l (.tup ys))) ∨ (SqT K H p ys ∧ Q (.ref p) H))) (f1 fTuple) := rc1 (by
  intro F m H x v k Q h r ix w
  unfold fTuple at h
  split at h
  · rename_i ds e
    cases x with
    | tup es =>
      have e' : es = ds := by unfold M.seq at e; exact Option.some.inj e
      subst e'
      have i2 := ix
      obtain ⟨a, vs, ev, h1, h2⟩ := is_tup i2
      subst ev
      exact ⟨a, vs, rfl, .inr ⟨h1.sq, w.here r h ix⟩⟩
    | _ =>
      obtain ⟨a, vs, ev, h1, h2⟩ := lsee_is (by exact e) ix r
      subst ev
      exact ⟨a, vs, rfl, .inl ⟨h1, w.tup r h h2 (SqL.fit r.fits h1)⟩⟩
  · exact h.elim)
/-- list(range(..)), tuple(range(..)) -/
def upRg (K : PySem.W.Frag) (w : T.Env → M → (Int → Int → M → Prop) → Prop) : L2.St → Hp → (Int → Int → Hp → Prop) → Prop := fun σ H Q => ∃ (F : Fz) (env : T.Env) (m : M) (k : Int → Int → M → Prop), EnvIs K F m H env σ ∧ Rel K F m H ∧ w env m k ∧ ∀ i j m' H', k i j m' → Step F m H F m' H' → Rel K F m' H' → Q i j H'
end
end T

set_option Elab.async false
set_option linter.all false
set_option maxRecDepth 100000
set_option maxHeartbeats 2000000
namespace T
open PySem PySem.Spec PyProof.Rows L2
section
variable {X : Cx} {K : PySem.W.Frag}
/-! ### list(range(n)), tuple(range(n)) -/
def rgOne (w : WE) (g : List D → M → Prop) : T.Env → M → Prop := fun env m => w env m fun d m1 => match d with
  | .int n => (-(2 ^ 61) ≤ n ∧ n ≤ 16777216) ∧ g (rgL 0 n.toNat) m1
  | _ => False
def wListRg (frz : Bool) (w : WE) : WE := fun env m k => rgOne w (fun ds m1 => alloc frz ds m1 k) env m
def wTupRg (w : WE) : WE := fun env m k => rgOne w (fun ds m1 => k (.tup ds) m1) env m
theorem rg_is {F : Fz} {m : M} {H : Hp} (n : Int) : IsL K F m H (rgL 0 n.toNat) (rgV 0 n) := by
  have e1 : rgL 0 n.toNat = ((List.range n.toNat).map fun (i : Nat) => (0 : Int) + (i : Int)).map D.int := by unfold rgL; rw [List.map_map]; rfl
  have e2 : rgV 0 n = ((List.range n.toNat).map fun (i : Nat) => (0 : Int) + (i : Int)).map V.int := by unfold rgV; rw [List.map_map, Int.sub_zero]; rfl
  rw [e1, e2]
  exact ints_isL _
theorem e_listRg (frz : Bool) {a : Expr} {w : WE} {p1 p2 p3 p4 : Pos} (hc : X.calm = true) (hg : Gl X "list") (hm : X.mg "list" = none) (hg2 : Gl X "range") (hm2 : X.mg "range" = none) (ha : PE X a (up X.K w))
    (na : starEach [a] X.env = (false, eval a X.env) :: starEach [] X.env := by rfl) (na2 : starEach [Expr.Call (.Name "range" p1) [a] [] p2] X.env = (false, eval (Expr.Call (.Name "range" p1) [a] [] p2) X.env) :: starEach [] X.env := by rfl) :
    PE X (.Call (.Name "list" p3) [.Call (.Name "range" p1) [a] [] p2] [] p4) (up X.K (wListRg frz w)) := PE.imp (pe_listRg hc hg hm (prg_1 hg2 hm2 ha na) na2) fun σ H Q ⟨F, env, m, k, hE, hR, hw, hk⟩ =>
  ⟨F, env, m, _, hE, hR, hw, fun d m1 v H1 q1 s1 r1 i1 => by
    cases d with
    | int n =>
      obtain ⟨⟨h1, h2⟩, q⟩ : (-(2 ^ 61) ≤ n ∧ n ≤ 16777216) ∧ alloc frz (rgL 0 n.toNat) m1 k := q1
      refine ⟨n, is_int i1, ⟨by decide, by decide, by omega, by omega, by omega⟩, alloc_at (Want.step hk s1) r1 q (rg_is n) ?_⟩
      rw [rgV_length]; show (n - 0).toNat ≤ 16777216; omega
    | _ => exact (show False from q1).elim⟩
theorem e_tupRg {a : Expr} {w : WE} {p1 p2 p3 p4 : Pos} (hc : X.calm = true) (hg : Gl X "tuple") (hm : X.mg "tuple" = none) (hg2 : Gl X "range") (hm2 : X.mg "range" = none) (ha : PE X a (up X.K w))
    (na : starEach [a] X.env = (false, eval a X.env) :: starEach [] X.env := by rfl) (na2 : starEach [Expr.Call (.Name "range" p1) [a] [] p2] X.env = (false, eval (Expr.Call (.Name "range" p1) [a] [] p2) X.env) :: starEach [] X.env := by rfl) :
    PE X (.Call (.Name "tuple" p3) [.Call (.Name "range" p1) [a] [] p2] [] p4) (up X.K (wTupRg w)) := PE.imp (pe_tupRg hc hg hm (prg_1 hg2 hm2 ha na) na2) fun σ H Q ⟨F, env, m, k, hE, hR, hw, hk⟩ =>
  ⟨F, env, m, _, hE, hR, hw, fun d m1 v H1 q1 s1 r1 i1 => by
    cases d with
    | int n =>
      obtain ⟨⟨h1, h2⟩, q⟩ : (-(2 ^ 61) ≤ n ∧ n ≤ 16777216) ∧ k (.tup (rgL 0 n.toNat)) m1 := q1
      refine ⟨n, is_int i1, ⟨by decide, by decide, by omega, by omega, by omega⟩, Want.tup (Want.step hk s1) r1 q (rg_is n) ?_⟩
      rw [rgV_length]; show (n - 0).toNat ≤ 16777216; omega
    | _ => exact (show False from q1).elim⟩

/-! ### methods of lists and dicts -/
abbrev FM := D → List D → M → (D → M → Prop) → Prop
def RM (K : PySem.W.Frag) (r : V → List V → Hp → VK → Prop) (f : FM) : Prop := ∀ (F : Fz) (m : M) (H : Hp) (x : D) (xs : List D) (vx : V) (vs : List V) (k : D → M → Prop) (Q : VK), f x xs m k → Rel K F m H → Is K F m H x vx → IsL K F m H xs vs → Want K F m H k Q → r vx vs H Q
def isT (T : String) (x : D) (m : M) : Prop := match T with
  | "str" => match x with
    | .str _ => True
    | _ => False
  | "list" => (m.lsee x).isSome = true
  | "dict" => (m.dsee x).isSome = true
  | _ => False
theorem isT_is {F : Fz} {m : M} {H : Hp} {T : String} {x : D} {v : V} (h : isT T x m) (i : Is K F m H x v) (r : Rel K F m H) : tyV K T v H := by
  unfold isT at h
  split at h
  · split at h
    · rw [is_str i]; rfl
    · exact h.elim
  · cases q : m.lsee x with
    | none => rw [q] at h; cases h
    | some ds =>
      obtain ⟨a, vs, ev, h1, _⟩ := lsee_is q i r
      rw [ev]
      exact .inl ⟨rfl, vs, h1⟩
  · cases q : m.dsee x with
    | none => rw [q] at h; cases h
    | some ds =>
      obtain ⟨a, vs, ev, h1, _⟩ := dsee_is q i r
      rw [ev]
      exact .inr (.inr (.inl ⟨rfl, .inl ⟨vs, h1⟩⟩))
  · exact h.elim
def wMt (T : String) (f : FM) (o : WE) (as : WA) : WE := fun env m k => o env m fun x m1 => isT T x m1 ∧ as env m1 fun xs m2 => f x xs m2 k
theorem e_mt {tn id : String} {r : V → List V → Hp → VK → Prop} {f : FM} {o e : Expr} {es : List Expr} {wo : WE} {as : WA} {name : Str} {apos cpos : Pos} (pa : PlainAttrs tn) (slot : Slot tn name id) (hty : typeOf (.builtin id) = pure (.type "method_descriptor")) (hm : MtR X id r) (hf : RM X.K r f) (ho : PE X o (up X.K wo)) (ha : PA X (e :: es) (upA X.K as))
    (hbase : attributeBase o name X.env (eval o X.env) = eval o X.env := by rfl)
    (hfew : ((backTo cpos (starEach (e :: es) X.env)).all (fun x => !x.1) && (backToKw cpos (keywordEach [] X.env)).all (fun x => x.1.isSome)
      && decide ((e :: es).length + ([] : List Keyword).length + (if ([] : List Keyword).isEmpty then 0 else 1) < 30)) = true := by rfl)
    (hline : (apos.endLine == cpos.line) = true := by rfl) (hs : starEach (e :: es) X.env = (false, eval e X.env) :: starEach es X.env := by rfl) (hplain : (backTo cpos (starEach es X.env)).any (·.1) = false := by rfl) :
    PE X (.Call (.Attribute o name apos) (e :: es) [] cpos) (up X.K (wMt tn f wo as)) := PE.imp (pe_bm pa slot hty hm ho ha hbase hfew hline hs hplain) fun σ H Q ⟨F, env, m, k, hE, hR, hw, hk⟩ =>
  ⟨F, env, m, _, hE, hR, hw, fun x m1 v H1 q1 s1 r1 i1 => ⟨isT_is q1.1 i1 r1, F, env, m1, _, hE.step s1, r1, q1.2, fun xs m2 vs H2 q2 s2 r2 i2 => hf F m2 H2 x xs v vs k Q q2 r2 (i1.step s2) i2 (Want.step hk (s1.trans s2))⟩⟩
theorem e_mt0 {tn id : String} {r : V → List V → Hp → VK → Prop} {f : FM} {o : Expr} {wo : WE} {name : Str} {apos cpos : Pos} (pa : PlainAttrs tn) (slot : Slot tn name id) (hty : typeOf (.builtin id) = pure (.type "method_descriptor")) (hm : MtR X id r) (hf : RM X.K r f) (ho : PE X o (up X.K wo))
    (hbase : attributeBase o name X.env (eval o X.env) = eval o X.env := by rfl) (hline : (apos.endLine == cpos.line) = true := by rfl) : PE X (.Call (.Attribute o name apos) [] [] cpos) (up X.K (wMt tn f wo wNil)) := PE.imp (pe_bm0 pa slot hty hm ho hbase hline) fun σ H Q ⟨F, env, m, k, hE, hR, hw, hk⟩ =>
  ⟨F, env, m, _, hE, hR, hw, fun x m1 v H1 q1 s1 r1 i1 => ⟨isT_is q1.1 i1 r1, hf F m1 H1 x [] v [] k Q q1.2 r1 i1 .nil (Want.step hk s1)⟩⟩
/-- a tracked list -/
def trL (x : D) (m : M) (g : Addr → List D → Prop) : Prop := match x with
  | .ref a => match m a with
    | some (.lst ds) => g a ds
    | _ => False
  | _ => False
theorem trL_is {F : Fz} {m : M} {H : Hp} {x : D} {v : V} {g : Addr → List D → Prop} (h : trL x m g) (i : Is K F m H x v) (r : Rel K F m H) : ∃ a ds vs, x = .ref a ∧ v = .ref a ∧ m a = some (.lst ds) ∧ H a = some (.lst vs) ∧ IsL K F m H ds vs ∧ g a ds := by
  unfold trL at h
  split at h
  · rename_i a
    split at h
    · rename_i ds e
      obtain ⟨vs, h1, h2⟩ := r.obj a _ e
      exact ⟨a, ds, vs, rfl, is_ref i, e, h1, h2, h⟩
    · exact h.elim
  · exact h.elim
/-- a tracked list is stored anew -/
theorem Want.lset {F : Fz} {m : M} {H : Hp} {k : D → M → Prop} {Q : VK} (w : Want K F m H k Q) (r : Rel K F m H) {a : Addr} {ds es : List D} {us : List V} (e : m a = some (.lst ds)) (hz : us.length ≤ sizeLine) (i : IsL K F m H es us) {d : D} {v : V} (iv : Is K F m H d v) (h : k d (m.set a (.lst es))) : Q v (upd H a (.lst us)) := by
  have ne : m a ≠ none := by rw [e]; exact fun z => by cases z
  exact w _ _ _ _ h (Step.write (.inr ne)) (r.write (.inr ne) hz ⟨us, upd_same, i.step (Step.write (.inr ne))⟩) (iv.step (Step.write (.inr ne)))
def m1 (f : D → D → M → (D → M → Prop) → Prop) : FM := fun x xs m k => match xs with
  | [y] => f x y m k
  | _ => False
def m0 (f : D → M → (D → M → Prop) → Prop) : FM := fun x xs m k => match xs with
  | [] => f x m k
  | _ => False
theorem rm1 {r : V → List V → Hp → VK → Prop} {f : F2} (h : RB K (fun v u H Q => r v [u] H Q) f) : RM K r (m1 f) := by
  intro F m H x xs vx vs k Q q rl ix is w
  match xs, q, is with
  | [y], q, is =>
    obtain ⟨u, e, i⟩ := is.one
    subst e
    exact h F m H x y vx u k Q q rl ix i w
theorem rm0 {r : V → List V → Hp → VK → Prop} {f : F1} (h : RU K (fun v H Q => r v [] H Q) f) : RM K r (m0 f) := by
  intro F m H x xs vx vs k Q q rl ix is w
  match xs, q, is with
  | [], q, is =>
    unfold IsL at is
    subst is
    exact h F m H x vx k Q q rl ix w
def fAppend : F2 := fun x y m k => trL x m fun a ds => ds.length < 16777216 ∧ k .non (m.set a (.lst (ds ++ [y])))
theorem m_append : RM K rAppend (m1 fAppend) := rm1 (by
  intro F m H x y vx vy k Q h r ix iy w
  obtain ⟨a, ds, vs, rfl, rfl, e, h1, h2, hz, q⟩ := trL_is h ix r
  have hl := h2.length
  refine ⟨a, vs, vy, rfl, rfl, h1, by rw [hl]; exact hz, w.lset r e ?_ (h2.append (.cons iy .nil)) non_is q⟩
  rw [List.length_append]; show vs.length + 1 ≤ 16777216; omega)
def fExtend : F2 := fun x y m k => trL x m fun a ds => match m.lraw y with
  | some es => ds.length + es.length ≤ 16777216 ∧ k .non (m.set a (.lst (ds ++ es)))
  | none => False
theorem m_extend : RM K rExtend (m1 fExtend) := rm1 (by
  intro F m H x y vx vy k Q h r ix iy w
  obtain ⟨a, ds, vs, rfl, rfl, e, h1, h2, h⟩ := trL_is h ix r
  split at h
  · rename_i es e2
    obtain ⟨b, us, ev, h3, h4⟩ := lraw_is e2 iy r
    subst ev
    obtain ⟨hz, q⟩ := h
    have hl := h2.length
    have hl2 := h4.length
    have hz' : vs.length + us.length ≤ sizeLine := by rw [hl, hl2]; exact hz
    exact ⟨a, b, vs, us, rfl, rfl, h1, h3, hz', w.lset r e (by rw [List.length_append]; exact hz') (h2.append h4) non_is q⟩
  · exact h.elim)
def fPop : F1 := fun x m k => trL x m fun a ds => match ds[ds.length - 1]? with
  | some d => k d (m.set a (.lst ds.dropLast))
  | none => False
theorem IsL.dropLast {F : Fz} {m : M} {H : Hp} {ds : List D} {vs : List V} (h : IsL K F m H ds vs) : IsL K F m H ds.dropLast vs.dropLast := by
  rw [List.dropLast_eq_take, List.dropLast_eq_take, h.length]
  exact h.take _
theorem m_pop : RM K rPop (m0 fPop) := rm0 (by
  intro F m H x vx k Q h r ix w
  obtain ⟨a, ds, vs, rfl, rfl, e, h1, h2, h⟩ := trL_is h ix r
  split at h
  · rename_i d e2
    have hl := h2.length
    obtain ⟨v, e3, i3⟩ := h2.get e2
    rw [← hl] at e3
    have hz := r.fitL h1
    exact ⟨a, vs, v, rfl, rfl, h1, e3, w.lset r e (by rw [List.length_dropLast]; omega) h2.dropLast i3 h⟩
  · exact h.elim)
def fPopAt : F2 := fun x y m k => match y with
  | .int i => trL x m fun a ds => (-(2 ^ 63) ≤ i ∧ i < 2 ^ 63) ∧ match seqIndex? i ds.length with
    | some j => match ds[j]? with
      | some d => k d (m.set a (.lst (ds.eraseIdx j)))
      | none => False
    | none => False
  | _ => False
theorem m_popAt : RM K rPopAt (m1 fPopAt) := rm1 (by
  intro F m H x y vx vy k Q h r ix iy w
  unfold fPopAt at h
  split at h
  · obtain ⟨a, ds, vs, rfl, rfl, e, h1, h2, ⟨c1, c2⟩, h⟩ := trL_is h ix r
    split at h
    · rename_i j e2
      split at h
      · rename_i d e3
        obtain ⟨v, e4, i4⟩ := h2.get e3
        have hz := r.fitL h1
        have hl2 := len_erase vs j
        exact ⟨a, vs, _, j, v, rfl, by rw [is_int iy], h1, c1, c2, by rw [h2.length]; exact e2, e4, w.lset r e (by omega) (h2.eraseIdx j) i4 h⟩
      · exact h.elim
    · exact h.elim
  · exact h.elim)
/-- xs.remove(k), ints, k in xs -/
def fRemove : F2 := fun x y m k => match y with
  | .int i => trL x m fun a ds => match D.ints ds with
    | some ns => i ∈ ns ∧ k .non (m.set a (.lst ((ns.erase i).map D.int)))
    | none => False
  | _ => False
theorem m_remove : RM K rRemI (m1 fRemove) := rm1 (by
  intro F m H x y vx vy k Q h r ix iy w
  unfold fRemove at h
  split at h
  · rename_i i
    obtain ⟨a, ds, vs, rfl, rfl, e, h1, h2, h⟩ := trL_is h ix r
    split at h
    · rename_i ns e2
      obtain ⟨hm, h⟩ := h
      have ed := ints_of e2
      subst ed
      have ev := isL_ints h2
      subst ev
      have fa : ∀ (ns : List Int), i ∈ ns → ∃ j, ns[j]? = some i ∧ (∀ m : Nat, m < j → ns[m]? ≠ some i) ∧ ns.eraseIdx j = ns.erase i := by
        intro ns
        induction ns with
        | nil => intro z; cases z
        | cons n ns ih =>
          intro z
          by_cases hn : n = i
          · exact ⟨0, by rw [hn]; rfl, fun m hm => absurd hm (Nat.not_lt_zero m), by rw [hn, List.erase_cons_head]; rfl⟩
          · have hr : i ∈ ns := by
              rcases List.mem_cons.mp z with z | z
              · exact absurd z.symm hn
              · exact z
            obtain ⟨j, h1, h2, h3⟩ := ih hr
            refine ⟨j + 1, h1, fun m hm => ?_, ?_⟩
            · cases m with
              | zero => intro q; exact hn (Option.some.inj q)
              | succ m => exact h2 m (Nat.lt_of_succ_lt_succ hm)
            · rw [List.erase_cons_tail (by rw [beq_iff_eq]; exact hn), ← h3]; rfl
      obtain ⟨j, g1, g2, g3⟩ := fa ns hm
      have hz := r.fitL h1
      rw [List.length_map] at hz
      have hl2 := len_erase ns j
      refine ⟨a, ns, i, j, rfl, by rw [is_int iy], h1, g1, g2, w.lset r e (by rw [List.length_map]; omega) (by rw [g3]; exact ints_isL _) non_is h⟩
    · exact h.elim
  · exact h.elim)
/-- xs.index(x), flat items -/
def fIndex : F2 := fun x y m k => match m.lsee x with
  | some ds => y.flat = true ∧ ds.all D.flat = true ∧ ∃ j, ds[j]?.map (D.feq · y) = some true ∧ (∀ i d, i < j → ds[i]? = some d → D.feq d y = false) ∧ k (.int (j : Nat)) m
  | none => False
theorem m_index : RM K (rIndex K) (m1 fIndex) := rm1 (by
  intro F m H x y vx vy k Q h r ix iy w
  unfold fIndex at h
  split at h
  · rename_i ds e
    obtain ⟨f1, f2, j, e1, e2, h⟩ := h
    obtain ⟨a, vs, ev, h1, h2⟩ := lsee_is e ix r
    subst ev
    cases q : ds[j]? with
    | none => rw [q] at e1; cases e1
    | some d =>
      rw [q] at e1
      have e1' : D.feq d y = true := Option.some.inj e1
      obtain ⟨v, e3, i3⟩ := h2.get q
      have fl : ∀ (i : Nat) (d : D), ds[i]? = some d → d.flat = true := fun i d hd => List.all_eq_true.mp f2 d (List.mem_of_getElem? hd)
      refine ⟨a, vs, vy, j, v, rfl, rfl, h1, flat_is iy f1, flats_is h2 f2, e3, by rw [feq_is i3 iy (fl j d q) f1]; exact e1', fun i z hi hz => ?_, w.here r h int_is⟩
      obtain ⟨d2, e4, i4⟩ := h2.getV hz
      rw [feq_is i4 iy (fl i d2 e4) f1]
      exact e2 i d2 hi e4
  · exact h.elim)

/-! ### o[i] = v -/
def putD (kvs : List (Key × D)) (k : Key) (v : D) : List (Key × D) := if kvs.any (fun kv => decide (kv.1 = k)) then kvs.map (fun kv => if kv.1 = k then (kv.1, v) else kv) else kvs ++ [(k, v)]
def stO (x i v : D) (m : M) (g : M → Prop) : Prop := match x with
  | .ref a => match m a with
    | some (.lst ds) => match i with
      | .int j => match ixN ds.length j with
        | some n => g (m.set a (.lst (ds.set n v)))
        | none => False
      | _ => False
    | some (.dic kvs) => match i.key with
      | some key => kvs.length < 16777216 ∧ g (m.set a (.dic (putD kvs key v)))
      | none => False
    | _ => False
  | _ => False
def wStore (e o i : WE) : WS := fun k env m => e env m fun v m1 => o env m1 fun x m2 => i env m2 fun j m3 => stO x j v m3 fun m4 => k.nx env m4
theorem PSet.or {t t' : TSet} (h : PSet X t) (h' : PSet X t') : PSet X (fun o i v H Q => t o i v H Q ∨ t' o i v H Q) := by
  intro pins s σ H o i v ov iv u Q I ro ri rv q
  rcases q with q | q
  · exact h pins s σ H o i v ov iv u Q I ro ri rv q
  · exact h' pins s σ H o i v ov iv u Q I ro ri rv q
theorem isK_any {F : Fz} {m : M} {H : Hp} {key : Key} : ∀ {kvs : List (Key × D)} {vs : List (Key × V)}, IsK K F m H kvs vs → (vs.any fun kv => decide (kv.1 = key)) = kvs.any fun kv => decide (kv.1 = key)
  | [], vs, h => by unfold IsK at h; subst h; rfl
  | p :: r, vs, h => by
    unfold IsK at h
    obtain ⟨v, q, e, _, h2⟩ := h
    subst e
    rw [List.any_cons, List.any_cons, isK_any h2]
theorem isK_map {F : Fz} {m : M} {H : Hp} {key : Key} {d : D} {u : V} (i : Is K F m H d u) : ∀ {kvs : List (Key × D)} {vs : List (Key × V)}, IsK K F m H kvs vs → IsK K F m H (kvs.map fun kv => if kv.1 = key then (kv.1, d) else kv) (vs.map fun kv => if kv.1 = key then (kv.1, u) else kv)
  | [], vs, h => by unfold IsK at h; subst h; unfold List.map IsK; rfl
  | p :: r, vs, h => by
    unfold IsK at h
    obtain ⟨v, q, e, h1, h2⟩ := h
    subst e
    rw [List.map_cons, List.map_cons]
    unfold IsK
    by_cases hk : p.1 = key
    · rw [if_pos hk, if_pos hk]
      exact ⟨u, _, rfl, i, isK_map i h2⟩
    · rw [if_neg hk, if_neg hk]
      exact ⟨v, _, rfl, h1, isK_map i h2⟩
theorem isK_app {F : Fz} {m : M} {H : Hp} {key : Key} {d : D} {u : V} (i : Is K F m H d u) : ∀ {kvs : List (Key × D)} {vs : List (Key × V)}, IsK K F m H kvs vs → IsK K F m H (kvs ++ [(key, d)]) (vs ++ [(key, u)])
  | [], vs, h => by
    unfold IsK at h; subst h
    show IsK K F m H [(key, d)] [(key, u)]
    unfold IsK
    exact ⟨u, [], rfl, i, by unfold IsK; rfl⟩
  | p :: r, vs, h => by
    unfold IsK at h
    obtain ⟨v, q, e, h1, h2⟩ := h
    subst e
    show IsK K F m H (p :: (r ++ [(key, d)])) ((p.1, v) :: (q ++ [(key, u)]))
    unfold IsK
    exact ⟨v, _, rfl, h1, isK_app i h2⟩
theorem isK_put {F : Fz} {m : M} {H : Hp} {key : Key} {d : D} {u : V} {kvs : List (Key × D)} {vs : List (Key × V)} (h : IsK K F m H kvs vs) (i : Is K F m H d u) : IsK K F m H (putD kvs key d) (putK vs key u) := by
  unfold putD putK
  rw [isK_any h]
  split
  · exact isK_map i h
  · exact isK_app i h
theorem IsK.step' {F F' : Fz} {m m' : M} {H H' : Hp} {kvs : List (Key × D)} {vs : List (Key × V)} (s : Step F m H F' m' H') (h : IsK K F m H kvs vs) : IsK K F' m' H' kvs vs := IsK.step s h
theorem s_store {o i e : Expr} {we wo wi : WE} {tpos pos : Pos} (hu : X.A.units + 1 < cLine) (he : PE X e (up X.K we)) (ho : PE X o (up X.K wo)) (hi : PE X i (up X.K wi))
    (ha : ∀ v, assign (.Subscript o i tpos) X.env v = (do
      let ov ← holding [v] (eval o X.env)
      let iv ← holding [v, ov] (eval i X.env)
      standAt tpos
      holding [v, ov, iv] (setItem ov iv v)
      release [v, ov, iv] []) := by intro _; rfl)
    (hs : swapsWithSole [.Subscript o i tpos] e pos.line X.env = pure false := by rfl) (hw : swappedStores [.Subscript o i tpos] e X.env = pure none := by rfl)
    (h1 : (assignEach [.Subscript o i tpos] X.env).map (·.2) = [assign (.Subscript o i tpos) X.env] := by rfl) : PS X (.Assign [.Subscript o i tpos] e pos) (upS X.K (wStore we wo wi)) := PS.imp (ps_asg he (pg_sub ho hi (PSet.or set_list (set_dict hu)) ha) hs hw h1) fun E σ H ⟨F, env, m, k, hE, hR, hw, hk⟩ =>
  ⟨F, env, m, _, hE, hR, hw, fun v m1 vv H1 q1 s1 r1 iv => ⟨F, env, m1, _, hE.step s1, r1, q1, fun x m2 vx H2 q2 s2 r2 ix => ⟨F, env, m2, _, (hE.step s1).step s2, r2, q2, fun j m3 vj H3 q3 s3 r3 ij => by
    have iv3 := iv.step (s2.trans s3)
    have ix3 := ix.step s3
    have e3 := ((hE.step s1).step s2).step s3
    have st := (s1.trans s2).trans s3
    unfold stO at q3
    split at q3
    · rename_i a
      have evx := is_ref ix3
      subst evx
      split at q3
      · rename_i ds e
        split at q3
        · rename_i n
          split at q3
          · rename_i p e2
            obtain ⟨vs, h1, h2⟩ := r3.obj a _ e
            have ne : m3 a ≠ none := by rw [e]; exact fun z => by cases z
            refine .inl ⟨a, vs, n, p, rfl, is_int ij, h1, by rw [h2.length]; exact e2, ?_⟩
            refine hk.nx env _ σ _ q3 (st.trans (Step.write (.inr ne))) (r3.write (.inr ne) ?_ ⟨_, upd_same, (h2.set iv3 p).step (Step.write (.inr ne))⟩) (e3.step (Step.write (.inr ne)))
            show (vs.set p vv).length ≤ sizeLine
            rw [List.length_set]; exact r3.fitL h1
          · exact q3.elim
        · exact q3.elim
      · rename_i kvs e
        split at q3
        · rename_i key e2
          obtain ⟨vs, h1, h2⟩ := r3.obj a _ e
          obtain ⟨hz, q3⟩ := q3
          have ne : m3 a ≠ none := by rw [e]; exact fun z => by cases z
          have hl := h2.length
          rw [key_is e2 ij]
          refine .inr ⟨a, _, rfl, DPut.k h1 (by rw [hl]; exact hz), ?_⟩
          refine hk.nx env _ σ _ q3 (st.trans (Step.write (.inr ne))) (r3.write (.inr ne) ?_ ⟨_, upd_same, IsK.step (Step.write (.inr ne)) (isK_put h2 iv3)⟩) (e3.step (Step.write (.inr ne)))
          show (putK vs key vv).length ≤ sizeLine
          have := length_putK vs key vv
          have e4 : (sizeLine : Nat) = 16777216 := rfl
          omega
        · exact q3.elim
      · exact q3.elim
    · exact q3.elim⟩⟩⟩
/-- a, b, .. = a list -/
def wUnl (a : WE) (is : List Nat) : WS := fun k env m => a env m fun d m1 => match m1.lsee d with
  | some ds => ds.length = is.length ∧ k.nx (setAll is ds env) m1
  | none => False
theorem s_unl {es : List Expr} {kk : Nat} {e : Expr} {is : List Nat} {w : WE} {tpos pos : Pos} (hc : X.calm = true) (he : PE X e (up X.K w)) (h : PGs X es (gNames is)) (hn : (assignEach es X.env).length = is.length := by rfl) (hst : (assignEach es X.env).findIdx? (·.1) = none := by rfl)
    (hs : swapsWithSole [.Tuple es kk tpos] e pos.line X.env = pure false := by rfl) (hw : swappedStores [.Tuple es kk tpos] e X.env = pure none := by rfl)
    (h1 : (assignEach [.Tuple es kk tpos] X.env).map (·.2) = [assign (.Tuple es kk tpos) X.env] := by rfl) : PS X (.Assign [.Tuple es kk tpos] e pos) (upS X.K (wUnl w is)) := PS.imp (ps_asg he (pg_unl hc h hn hst) hs hw h1) fun E σ H ⟨F, env, m, k, hE, hR, hw, hk⟩ =>
  ⟨F, env, m, _, hE, hR, hw, fun d m1 v H1 q1 s1 r1 i1 => by
    split at q1
    · rename_i ds e
      obtain ⟨hl, q1⟩ := q1
      obtain ⟨a, vs, ev, h1, h2⟩ := lsee_is e i1 r1
      exact ⟨a, vs, ev, h1, by rw [h2.length]; exact hl, gNames_go (by rw [h2.length]; exact hl) (hk.nx _ m1 _ H1 q1 s1 r1 (setAll_is h2 (hE.step s1)))⟩
    · exact q1.elim⟩
end
end T

set_option Elab.async false
set_option linter.all false
set_option maxRecDepth 100000
set_option maxHeartbeats 2000000
namespace T
open PySem PySem.Spec PyProof.Rows L2
/-! ### defs and their calls -/
/-- what is handed back may be told otherwise: less is tracked, a list is frozen -/
def Frz (m : M) (d : D) (m' : M) (d' : D) : Prop := ∀ (K : PySem.W.Frag) (F : Fz) (H : Hp) (v : V), Rel K F m H → Is K F m H d v → Step F m H F m' H ∧ Rel K F m' H ∧ Is K F m' H d' v
theorem Frz.refl {m : M} {d : D} : Frz m d m d := fun _ _ _ _ r i => ⟨Step.refl, r, i⟩
theorem Frz.trans {m m1 m2 : M} {d d1 d2 : D} (a : Frz m d m1 d1) (b : Frz m1 d1 m2 d2) : Frz m d m2 d2 := fun K F H v r i => by
  obtain ⟨s1, r1, i1⟩ := a K F H v r i
  obtain ⟨s2, r2, i2⟩ := b K F H v r1 i1
  exact ⟨s1.trans s2, r2, i2⟩
/-- less is tracked -/
theorem Frz.drop {m m' : M} {d : D} (h : ∀ a o, m' a = some o → m a = some o) : Frz m d m' d := fun K F H v r i => by
  have s0 : ∀ a, m a = none → m' a = none := fun a n => by
    cases q : m' a with
    | none => rfl
    | some u => rw [h a u q] at n; cases n
  have s : Step F m H F m' H := fun a o e n => ⟨e, s0 a n, id⟩
  exact ⟨s, ⟨fun a o e => (r.obj a o (h a o e)).step s rfl, r.res, r.fits, fun a z => s0 a (r.dis a z)⟩, i.step s⟩
theorem Frz.lst {m : M} {a : Addr} {ds : List D} (h : m a = some (.lst ds)) : Frz m (.ref a) (m.del a) (.lst ds) := fun K F H v r i => by
  have s0 : ∀ b, m b = none → m.del a b = none := fun b n => by unfold M.del; split <;> first | rfl | exact n
  have s : Step F m H F (m.del a) H := fun b o e n => ⟨e, s0 b n, id⟩
  have hd : ∀ b o, m.del a b = some o → m b = some o := fun b o e => by
    unfold M.del at e
    split at e
    · cases e
    · exact e
  obtain ⟨vs, h1, h2⟩ := r.obj a _ h
  refine ⟨s, ⟨fun b o e => (r.obj b o (hd b o e)).step s rfl, r.res, r.fits, fun b z => s0 b (r.dis b z)⟩, ?_⟩
  unfold Is at i ⊢
  exact ⟨a, vs, i, h1, if_pos rfl, fun z => (by rw [r.dis a z] at h; cases h), h2.step s⟩
theorem Frz.dic {m : M} {a : Addr} {ds : List (Key × D)} (h : m a = some (.dic ds)) : Frz m (.ref a) (m.del a) (.dic ds) := fun K F H v r i => by
  have s0 : ∀ b, m b = none → m.del a b = none := fun b n => by unfold M.del; split <;> first | rfl | exact n
  have s : Step F m H F (m.del a) H := fun b o e n => ⟨e, s0 b n, id⟩
  have hd : ∀ b o, m.del a b = some o → m b = some o := fun b o e => by
    unfold M.del at e
    split at e
    · cases e
    · exact e
  obtain ⟨vs, h1, h2⟩ := r.obj a _ h
  refine ⟨s, ⟨fun b o e => (r.obj b o (hd b o e)).step s rfl, r.res, r.fits, fun b z => s0 b (r.dis b z)⟩, ?_⟩
  unfold Is at i ⊢
  exact ⟨a, vs, i, h1, if_pos rfl, fun z => (by rw [r.dis a z] at h; cases h), IsK.step s h2⟩
structure SpOk (sp : FA) (n : Nat) : Prop where
  len : ∀ ds m k, sp ds m k → ds.length = n
def spD (K : PySem.W.Frag) (sp : FA) : Sp := fun vs H Q _ => ∃ (F : Fz) (ds : List D) (m : M) (k : D → M → Prop), Rel K F m H ∧ IsL K F m H ds vs ∧ sp ds m k ∧ Want K F m H k Q
def retD (k : D → M → Prop) : D → M → Prop := fun d m => ∃ m' d', Frz m d m' d' ∧ k d' m'
theorem retD.here {k : D → M → Prop} {d : D} {m : M} (h : k d m) : retD k d m := ⟨m, d, .refl, h⟩
def endsD (k : D → M → Prop) : WK := { nx := fun _ m => retD k .non m, rt := retD k }
def startE (N : List Str) (ds : List D) : T.Env := ds.map some ++ List.replicate (N.length - ds.length) none
theorem start_is {K : PySem.W.Frag} {F : Fz} {m : M} {H : Hp} {N : List Str} {ds : List D} {vs : List V} (h : IsL K F m H ds vs) : EnvIs K F m H (startE N ds) (L2.start N vs) := by
  have hl := h.length
  refine ⟨by unfold startE L2.start; rw [List.length_append, List.length_append, List.length_map, List.length_map, List.length_replicate, List.length_replicate, hl], fun i d e => ?_⟩
  unfold startE at e
  by_cases hi : i < ds.length
  · rw [List.getElem?_append_left (by rw [List.length_map]; exact hi), List.getElem?_map] at e
    cases q : ds[i]? with
    | none => rw [q] at e; cases e
    | some z =>
      rw [q] at e
      have ez : z = d := Option.some.inj (Option.some.inj e)
      subst ez
      obtain ⟨v, h1, h2⟩ := h.get q
      refine ⟨v, ?_, h2⟩
      unfold L2.start
      rw [List.getElem?_append_left (by rw [List.length_map, hl]; exact hi), List.getElem?_map, h1]
      rfl
  · rw [List.getElem?_append_right (by rw [List.length_map]; omega), List.getElem?_replicate] at e
    split at e <;> cases e
section
variable {P : Program} {w : World} {K : PySem.W.Frag} {mg : Str → Option Value} {base : Heap}
theorem ok_def {x qual : Str} {st : Stmt} {f : Addr} {fd : FuncData} {N ps : List Str} {k : Nat} {sp : FA} (Fn : Fun K x qual st f fd) (S : FnScope N ps (defScope st)) (hlen : SpOk sp ps.length) (ws : WS)
    (hd : ∀ (cdv : Value) (A : Around) (outer : List PySem.Env) (s : Shared) (H : Hp) (E : XK), Room k (A.deeper (envOfC qual (defScope st) s.heap.objs.size f cdv)) → PSs (cxOf CX0 P w K mg base N qual (defScope st) f cdv A outer s H E).nox (defBody st) (upS K ws))
    (hw : ∀ ds m k, sp ds m k → ws (endsD k) (startE N ds) m) : FnOk P w K mg base CX0 (k + 1) f fd ps (spD K sp) := by
  refine Fn.ok S (fun vs H Q E h => ?_) (fun cdv A outer s H vs Q E hr h => ?_)
  · obtain ⟨F, ds, m, k, hR, hi, hs, hq⟩ := h
    rw [hi.length]; exact hlen.len ds m k hs
  · refine ⟨_, hd cdv A outer s H E hr, ?_⟩
    obtain ⟨F, ds, m, k, hR, hi, hs, hq⟩ := h
    have ret : ∀ d m' v H', retD k d m' → Step F m H F m' H' → Rel K F m' H' → Is K F m' H' d v → Q v H' := fun d m' v H' ⟨m2, d2, fz, q⟩ st rl i => by
      obtain ⟨s2, r2, i2⟩ := fz K F H' v rl i
      exact hq d2 m2 v H' q (st.trans s2) r2 i2
    exact ⟨F, startE N ds, m, endsD k, start_is hi, hR, hw ds m k hs, ⟨fun e n σ G q a b c => ret .non n .non G q a b (by unfold Is; rfl), ret, fun _ _ _ _ q => q.elim, fun _ _ _ _ q => q.elim⟩⟩
end
section
variable {X : Cx} {k : Nat} {f : Addr} {fd : FuncData} {ps : List Str} {sp : FA} {x : Str} {p pos : Pos} {e : Expr} {es : List Expr} {ws : WA}
theorem call_at {K : PySem.W.Frag} {ws : WA} {sp : FA} {E : XK} : ∀ σ H Q, up K (wCall sp ws) σ H Q → tCall (spD K sp) [] E (upA K ws) σ H Q := fun σ H Q ⟨F, env, m, k, hE, hR, hw, hk⟩ =>
  ⟨F, env, m, _, hE, hR, hw, fun ds m1 vs H1 q1 s1 r1 i1 => ⟨F, ds, m1, k, r1, by rw [List.append_nil]; exact i1, q1, Want.step hk s1⟩⟩
theorem e_call (Fk : FnOk X.prog X.w X.K X.mg X.base CX0 k f fd ps (spD X.K sp)) (hr : Room k X.A) (hg : Gl X x) (hm : X.mg x = some (.ref f)) (hk : PySem.W.keepIn X.K (.ref f) = true) (hb : Binds X.K fd ps []) (ha : PA X (e :: es) (upA X.K ws)) (hdb : (x == ("__debug__" : Str)) = false := by decide)
    (he : starEach (e :: es) X.env = (false, eval e X.env) :: starEach es X.env := by rfl) (hpl : (backTo pos (starEach es X.env)).any (·.1) = false := by rfl) : PE X (.Call (.Name x p) (e :: es) [] pos) (up X.K (wCall sp ws)) :=
  PE.imp (pe_call Fk hr hg hm hk hb .nil pass0 ha hdb he hpl) call_at
end
end T

set_option Elab.async false
set_option linter.all false
set_option maxRecDepth 100000
set_option maxHeartbeats 2000000
/-! sorted(xs), xs a list of alike data -/
namespace T
open PySem PySem.Spec PyProof.Rows L2
abbrev leP : PyData → PyData → Bool := PySem.W.dataLe false id
def D.pyD (d : D) : PyData := d.py.getD .none
def leD (a b : D) : Bool := leP a.pyD b.pyD
def sortD (ds : List D) : List D := ds.mergeSort leD
/-- what sorted asks of the items -/
structure SortOk (ds : List D) : Prop where
  py : ∀ d ∈ ds, d.py = some d.pyD
  alike : ∀ d ∈ ds, ∀ e ∈ ds, PySem.W.alike d.pyD e.pyD = true
  kind : (∀ d ∈ ds, ∃ x r, d.pyD = .tuple (x :: r)) ∨ ∀ d ∈ ds, d.pyD ≠ .none ∧ ∀ xs, d.pyD ≠ .tuple xs
  deep : ∀ d ∈ ds, d.pyD.depth ≤ 60
/-- an item as it stands: its value, its data -/
def rSortP (K : PySem.W.Frag) : List V → Hp → VK → Prop := fun xs H Q => ∃ (a : Addr) (ts : List (V × PyData)), xs = [V.ref a] ∧ SqL K H a (ts.map (·.1)) ∧ (∀ t ∈ ts, Dp K H t.1 t.2) ∧ PySem.W.AllAlike (ts.map (·.2)) ∧ PySem.W.Sortable (ts.map (·.2)) ∧ (∀ t ∈ ts, t.2.depth ≤ 60) ∧
  ∀ p, H p = none → Q (.ref p) (upd H p (.lst ((ts.mergeSort (fun a b => leP a.2 b.2)).map (·.1))))
theorem vals_each {ts : List (V × PyData)} : ∀ {us : List Value}, Vals (ts.map (·.1)) us → PySem.W.EachIs (fun (u : Value) (t : V × PyData) => RelV t.1 u) us ts := by
  induction ts with
  | nil => intro us h; cases h; exact .nil
  | cons t ts ih =>
    intro us h
    cases h with
    | cons r rs => exact .cons r (ih rs)
theorem each_vals {ts : List (V × PyData)} : ∀ {us : List Value}, PySem.W.EachIs (fun (u : Value) (t : V × PyData) => RelV t.1 u) us ts → Vals (ts.map (·.1)) us := by
  induction ts with
  | nil => intro us h; cases h; exact .nil
  | cons t ts ih =>
    intro us h
    cases h with
    | cons r rs => exact .cons r (ih rs)
section
variable {X : Cx} {K : PySem.W.Frag}
theorem reads_each {pins : List (Addr × Obj)} {σ : L2.St} {H : Hp} {s : Shared} (I : Inv X pins σ H s) {ts : List (V × PyData)} : ∀ {us : List Value}, (∀ t ∈ ts, Dp X.K H t.1 t.2) → Vals (ts.map (·.1)) us → PySem.W.EachIs (fun (u : Value) (t : V × PyData) => ∃ as, Reads s.heap u t.2 as) us ts := by
  induction ts with
  | nil => intro us _ h; cases h; exact .nil
  | cons t ts ih =>
    intro us hd h
    cases h with
    | cons r rs => exact .cons (Dp.reads I t.2 t.1 _ (hd t List.mem_cons_self) r) (ih (fun t ht => hd t (List.mem_cons_of_mem _ ht)) rs)
theorem cr_sortP (hu : X.A.units + 64 < cLine) : CallR X (.builtin "sorted") (rSortP X.K) := by
  intro pins s σ H xs us Q I rs h
  obtain ⟨a, ts, rfl, hs, hd, hal, hk, hdp, q⟩ := h
  obtain ⟨its, rv, hl, hz⟩ := I.list hs
  rw [Vals.ref1 rs]
  have hlen : ts.length = its.length := by have := rv.length; rw [List.length_map] at this; exact this
  rw [List.length_map] at hz
  refine PySem.W.sorted_data (R := fun u (t : V × PyData) => RelV t.1 u) (enc := fun t => t.2) (bs := ts) hl.isList (vals_each rv) (reads_each I hd rv) hal hk hz (fun t ht => by have := hdp t ht; omega) fun out ho he => ?_
  obtain ⟨ep, he'⟩ := PyProof.Rows.sortedAll_at s.heap its out.toArray
  have e1 := each_vals he
  have e2 : (PySem.W.dataLe false fun (t : V × PyData) => t.2) = fun a b => leP a.2 b.2 := rfl
  rw [e2] at e1
  have hz2 : ((ts.mergeSort (fun a b => leP a.2 b.2)).map (·.1)).length ≤ sizeLine := by rw [List.length_map, List.length_mergeSort]; exact hz
  exact ⟨.ref _, upd H (s.heap.objs.size + 1) (.lst ((ts.mergeSort (fun a b => leP a.2 b.2)).map (·.1))), I.laid (t' := s.toks) (fun _ _ => PyProof.Rows.sortedAll_old) (Nat.le_succ _) ⟨hz2, out, ep, e1, he'⟩, rfl, q _ (I.hok.fresh (Nat.le_succ _))⟩
theorem sort_tie {F : Fz} {m : M} {H : Hp} {ds : List D} {vs : List V} (h : IsL K F m H ds vs) (ok : SortOk ds) : ∃ ts : List (V × PyData), vs = ts.map (·.1) ∧ ds.map D.pyD = ts.map (·.2) ∧ (∀ t ∈ ts, Dp K H t.1 t.2) ∧ IsL K F m H (sortD ds) ((ts.mergeSort (fun a b => leP a.2 b.2)).map (·.1)) := by
  have mk : ∀ (ds : List D) (vs : List V), IsL K F m H ds vs → (∀ d ∈ ds, d.py = some d.pyD) → ∃ qs : List (D × V × PyData), ds = qs.map (·.1) ∧ vs = qs.map (·.2.1) ∧ ∀ q ∈ qs, Is K F m H q.1 q.2.1 ∧ q.2.2 = q.1.pyD ∧ Dp K H q.2.1 q.2.2 := by
    intro ds
    induction ds with
    | nil => intro vs h _; unfold IsL at h; subst h; exact ⟨[], rfl, rfl, fun q hq => by cases hq⟩
    | cons d ds ih =>
      intro vs h hp
      unfold IsL at h
      obtain ⟨v, r, e, h1, h2⟩ := h
      subst e
      obtain ⟨qs, e1, e2, h3⟩ := ih r h2 fun d hd => hp d (List.mem_cons_of_mem _ hd)
      refine ⟨(d, v, d.pyD) :: qs, by rw [List.map_cons, ← e1], by rw [List.map_cons, ← e2], fun q hq => ?_⟩
      rcases List.mem_cons.mp hq with e | hq
      · subst e
        exact ⟨h1, rfl, dp_of h1 (hp d List.mem_cons_self)⟩
      · exact h3 q hq
  obtain ⟨qs, e1, e2, h3⟩ := mk ds vs h ok.py
  refine ⟨qs.map (·.2), by rw [e2, List.map_map]; rfl, ?_, fun t ht => ?_, ?_⟩
  · rw [e1, List.map_map, List.map_map]
    exact List.map_congr_left fun q hq => ((h3 q hq).2.1).symm
  · obtain ⟨q, hq, e⟩ := List.mem_map.mp ht
    subst e
    exact (h3 q hq).2.2
  · have s1 : sortD ds = (qs.mergeSort (fun a b => leP a.2.2 b.2.2)).map (·.1) := by
      unfold sortD
      rw [e1]
      refine (List.map_mergeSort (f := fun q : D × V × PyData => q.1) fun a ha b hb => ?_).symm
      show leP a.2.2 b.2.2 = leD a.1 b.1
      rw [(h3 a ha).2.1, (h3 b hb).2.1]
      rfl
    have s2 : (qs.map (·.2)).mergeSort (fun a b => leP a.2 b.2) = (qs.mergeSort (fun a b => leP a.2.2 b.2.2)).map (·.2) := (List.map_mergeSort (f := fun q : D × V × PyData => q.2) fun a ha b hb => rfl).symm
    rw [s1, s2, List.map_map]
    have hp : ∀ q ∈ qs.mergeSort (fun a b => leP a.2.2 b.2.2), Is K F m H q.1 q.2.1 := fun q hq => (h3 q ((List.mergeSort_perm _ _).mem_iff.mp hq)).1
    generalize qs.mergeSort (fun a b => leP a.2.2 b.2.2) = rs at hp
    induction rs with
    | nil => exact .nil
    | cons r rs ih => exact .cons (hp r List.mem_cons_self) (ih fun q hq => hp q (List.mem_cons_of_mem _ hq))
def fSortD (frz : Bool) : F1 := fun x m k => match m.lsee x with
  | some ds => SortOk ds ∧ alloc frz (sortD ds) m k
  | none => False
theorem c_sortD (frz : Bool) : RC K (rSortP K) (f1 (fSortD frz)) := rc1 (by
  intro F m H x v k Q h r ix w
  unfold fSortD at h
  split at h
  · rename_i ds e
    obtain ⟨ok, h⟩ := h
    obtain ⟨a, vs, ev, h1, h2⟩ := lsee_is e ix r
    have hz := SqL.fit r.fits h1
    have hl := h2.length
    obtain ⟨ts, e1, e2, h3, h4⟩ := sort_tie h2 ok
    subst ev
    subst e1
    have mem : ∀ p ∈ ts.map (·.2), ∃ d ∈ ds, p = d.pyD := fun p hp => by
      rw [← e2] at hp
      obtain ⟨d, hd, e⟩ := List.mem_map.mp hp
      exact ⟨d, hd, e.symm⟩
    refine ⟨a, ts, rfl, h1, h3, ?_, ?_, ?_, ?_⟩
    · intro p hp q hq
      obtain ⟨d, hd, e⟩ := mem p hp
      obtain ⟨d', hd', e'⟩ := mem q hq
      rw [e, e']
      exact ok.alike d hd d' hd'
    · rcases ok.kind with kd | kd
      · refine .inl fun p hp => ?_
        obtain ⟨d, hd, e⟩ := mem p hp
        rw [e]; exact kd d hd
      · refine .inr fun p hp => ?_
        obtain ⟨d, hd, e⟩ := mem p hp
        rw [e]; exact kd d hd
    · intro t ht
      obtain ⟨d, hd, e⟩ := mem t.2 (List.mem_map_of_mem ht)
      rw [e]; exact ok.deep d hd
    · refine alloc_at w r h h4 ?_
      rw [List.length_map, List.length_mergeSort]
      rw [List.length_map] at hz
      exact hz
  · exact h.elim)
end
end T

set_option Elab.async false
set_option linter.all false
set_option maxRecDepth 100000
set_option maxHeartbeats 2000000
/-! sorted(d.items()) -/
namespace T
open PySem PySem.Spec PyProof.Rows L2
open L2.DX (itemsO itemsO_ok)
open PySem.Calls (call_function_entry)
def rItemsK : V → List V → Hp → VK → Prop := fun x xs H Q => ∃ (a : Addr) (kvs : List (Key × V)), x = .ref a ∧ xs = [] ∧ H a = some (.dK kvs) ∧ ∀ p, H p = none → Q (.ref p) (upd H p (itemsO p a))
/-- sorted of a view of items -/
def rSortIt (K : PySem.W.Frag) : List V → Hp → VK → Prop := fun xs H Q => ∃ (p a : Addr) (kvs : List (Key × V)), xs = [.ref p] ∧ H p = some (itemsO p a) ∧ H a = some (.dK kvs) ∧
  ∀ ts : List Addr, ts.length = kvs.length → ts.Nodup → (∀ t ∈ ts, H t = none) → ∃ qs : List (V × PyData), qs.map (·.1) = ts.map V.ref ∧ (∀ q ∈ qs, Dp K (LiI.putT H ts kvs) q.1 q.2) ∧ PySem.W.AllAlike (qs.map (·.2)) ∧ PySem.W.Sortable (qs.map (·.2)) ∧ (∀ q ∈ qs, q.2.depth ≤ 60) ∧
    ∀ b, LiI.putT H ts kvs b = none → Q (.ref b) (upd (LiI.putT H ts kvs) b (.lst ((qs.mergeSort (fun a b => leP a.2 b.2)).map (·.1))))
section
variable {X : Cx} {K : PySem.W.Frag}
theorem mt_itemsK : MtR X "dict.items" rItemsK := by
  intro pins s σ H x xs v us Q I rx rxs h
  obtain ⟨a, kvs, rfl, rfl, ha, q⟩ := h
  cases rx
  cases rxs
  obtain ⟨hz, hs0, vs, kv, hdo⟩ := I.hok a _ ha
  refine call_meetsIn F.slot_dict_items hdo.typeIs F.entry_dict_items (F.args_dict_items_1 _) (meets_dict_items (mixKind X.prog X.w) a hs0) ⟨⟨vs, hdo⟩, ?_⟩
  have hf : H s.heap.objs.size = none := I.hok.fresh (Nat.le_refl _)
  exact ⟨.ref s.heap.objs.size, upd H s.heap.objs.size (itemsO s.heap.objs.size a), I.laid (t' := s.toks) (fun b u e => Heap.get?_push_of_some _ e) (Nat.le_refl _) (itemsO_ok (Heap.get?_push_size _ rfl)), rfl, q _ hf⟩
theorem tups_laid {pins : List (Addr × Obj)} {σ : L2.St} {H : Hp} {s : Shared} {h' : Heap} {tk : Nat} {kvs : List (Key × V)} {vs : List (Key × Value)} {lo : Addr} {as : List Addr} (I : Inv X pins σ H s) (kv : KV kvs vs)
    (hk : ∀ b o, s.heap.get? b = some o → h'.get? b = some o) (hl : as.length = vs.length) (hlo : s.heap.objs.size ≤ lo) (hG : PySem.W.KdxG (mixKind X.prog X.w) vs lo h' as) :
    as.Nodup ∧ (∀ t ∈ as, H t = none) ∧ Inv X pins σ (LiI.putT H as kvs) { s with heap := h', toks := tk } := by
  have lk : kvs.length = vs.length := Paired.length kv
  have nd : as.Nodup := List.Pairwise.imp (fun {a b} (h : a < b) => Nat.ne_of_lt h) hG.rise
  have new : ∀ t ∈ as, H t = none := fun t ht => I.hok.fresh (Nat.le_trans hlo (Nat.le_of_lt (hG.above t ht)))
  have atP := LiI.putT_at as kvs H (by omega) nd
  have off : ∀ b, b ∉ as → LiI.putT H as kvs b = H b := fun b h1 => LiI.putT_off as kvs _ h1
  have low : ∀ b o, s.heap.get? b = some o → b ∉ as := fun b o e => fun z => absurd (Heap.lt_size e) (Nat.not_lt.mpr (Nat.le_trans hlo (Nat.le_of_lt (hG.above b z))))
  have kp : ∀ b u, H b = some u → LiI.putT H as kvs b = some u := fun b u e => by
    rw [off b (fun z => by rw [new b z] at e; cases e)]
    exact e
  refine ⟨nd, new, ?_⟩
  refine I.call' (ch := []) rfl ⟨fun b o q _ _ _ => hk b o q, fun b o q _ _ _ => ⟨o.slots, hk b o q⟩, fun b o q n _ => ?_, fun b o q _ => ⟨o, hk b o q⟩, fun b xs q => kp b _ q, fun b o u q => kp b _ q, fun b ps q => ⟨#[], by rw [kp b _ q]; simp⟩⟩ (fun b u q => ?_) I.bare fun b z => by simp at z
  · rw [off b (low b o q)]
    exact n
  · by_cases hb : b ∈ as
    · obtain ⟨j, pk, e1, e2, e3⟩ := LiI.paired_ix atP hb
      rw [e3] at q
      cases q
      obtain ⟨key, k, x, f1, f2, f3⟩ := hG.pairs j b e1
      obtain ⟨qv, g1, g2, g3⟩ := LiI.paired_get kv e2
      rw [f1] at g1
      cases g1
      have rk : RelV (kV pk.1) key := by
        rw [g2]
        exact relV_key (show keyIs k key = true from f2)
      exact ⟨by show 2 ≤ sizeLine; decide, [key, x], .cons rk (.cons g3 .nil), ⟨_, f3, rfl, _, rfl⟩⟩
    · rw [off b hb] at q
      exact (I.hok b u q).stay (fun d v _ y => hk d v y) (fun d y => kp d _ y) fun d xs y => kp d _ y
mutual
theorem reads_mem {h : Heap} {v : Value} {d : PyData} {as : List Addr} : Reads h v d as → ∀ a ∈ as, ∃ o, h.get? a = some o
  | .none, a, z => by cases z
  | .bool _, a, z => by cases z
  | .int _ _, a, z => by cases z
  | .str _ _, a, z => by cases z
  | .list g _ _ r, a, z => by
    rcases List.mem_cons.mp z with e | z
    · subst e; exact ⟨_, g⟩
    · exact readsAll_mem r a z
  | .tuple g _ _ r, a, z => readsAll_mem r a z
  | .dict g _ _ r1 r2, a, z => by
    rcases List.mem_append.mp z with z | z
    · rcases List.mem_cons.mp z with e | z
      · subst e; exact ⟨_, g⟩
      · exact readsAll_mem r1 a z
    · exact readsAll_mem r2 a z
theorem readsAll_mem {h : Heap} {v : List Value} {d : List PyData} {as : List Addr} : ReadsAll h v d as → ∀ a ∈ as, ∃ o, h.get? a = some o
  | .nil, a, z => by cases z
  | .cons r rs, a, z => by
    rcases List.mem_append.mp z with z | z
    · exact reads_mem r a z
    · exact readsAll_mem rs a z
end
theorem vals_refs' : ∀ as : List Addr, Vals (as.map V.ref) (as.map Value.ref)
  | [] => .nil
  | _ :: as => .cons rfl (vals_refs' as)
theorem cr_sortIt (hc : X.calm = true) (hu : X.A.units + 64 < cLine) : CallR X (.builtin "sorted") (rSortIt X.K) := by
  intro pins s σ H xs us Q I r h
  obtain ⟨p, a, kvs, rfl, hp, ha, q⟩ := h
  obtain rfl := Vals.ref1 r
  have view : s.heap.IsItemsView p a := (show ObjOk X.prog X.w H s.heap p (itemsO p a) from I.hok p _ hp).1
  obtain ⟨hz, hs0, vs, kv, hdo⟩ := I.hok a _ ha
  obtain ⟨ep, hat⟩ := hdo.dictAt
  have lk : kvs.length = vs.length := Paired.length kv
  have hzv : vs.length ≤ sizeLine := by omega
  have hh : X.A.handled = none := I.ok.hd hc
  refine call_function_entry kind_sorted plain_sorted entry_sorted (args_sorted1 _) ?_
  unfold Builtin.«sorted»
  refine wpAny_bind (m := checkCount "sorted" 1 1 _) (wpAny_pure ?_)
  refine wpAny_bind (PySem.W.kdx_collect (A := X.A.in1) (knd := mixKind X.prog X.w) (kvs := vs) (ep := ep) hh view hat hzv fun h' tk as hk hl hG => ?_)
  obtain ⟨nd, new, I'⟩ := tups_laid (tk := tk) I kv hk hl (Nat.le_refl _) hG
  obtain ⟨qs, e1, hd, hal, hks, hdp, q⟩ := q as (by omega) nd new
  have lq : qs.length = as.length := by have := congrArg List.length e1; rw [List.length_map, List.length_map] at this; exact this
  refine wpAny_bind (wpAny_newList ?_ (by rw [List.length_map, hl]; exact hzv))
  have hob : (h'.push { cls := .type "list", data := .seq (as.map Value.ref).toArray }).get? h'.objs.size = some (seqObj "list" (as.map Value.ref).toArray 0) := Heap.get?_push_size _ rfl
  have rv : Vals (qs.map (·.1)) (as.map Value.ref) := by rw [e1]; exact vals_refs' as
  have er := reads_each I' hd rv
  have ka : ∀ b o, h'.get? b = some o → (h'.push { cls := .type "list", data := .seq (as.map Value.ref).toArray }).get? b = some o := fun b o e => Heap.get?_push_of_some _ e
  have er2 : PySem.W.EachIs (fun (u : Value) (t : V × PyData) => ∃ bs, Reads (h'.push { cls := .type "list", data := .seq (as.map Value.ref).toArray }) u t.2 bs ∧ h'.objs.size ∉ bs) (as.map Value.ref) qs := er.mono fun u t ⟨bs, rd⟩ => ⟨bs, PyProof.Rows.Reads.keeps ka rd, fun z => by
    obtain ⟨o, e⟩ := T.reads_mem rd _ z
    exact absurd (Heap.lt_size e) (Nat.lt_irrefl _)⟩
  refine wpAny_bind (wpAny_holding (wpAny_mono (PySem.W.list_sort_data (Q := fun _ s' => EP X pins σ Q (.ref h'.objs.size) s') (R := fun u (t : V × PyData) => RelV t.1 u) (enc := fun t => t.2) (bs := qs) hob (vals_each rv) er2 hal hks (by omega) (fun t ht => by have := hdp t ht; show X.A.units + 1 + 1 + t.2.depth < cLine; omega) fun out ho he => ?_) (fun _ s' x => ?_) fun _ _ e => e))
  · obtain ⟨n', he'⟩ := PyProof.Rows.sortedHeap_at (vs := as.map Value.ref) (out := out.toArray) hob
    have e2 := each_vals he
    have e3 : (PySem.W.dataLe false fun (t : V × PyData) => t.2) = fun a b => leP a.2 b.2 := rfl
    rw [e3] at e2
    have hz2 : ((qs.mergeSort (fun a b => leP a.2 b.2)).map (·.1)).length ≤ sizeLine := by rw [List.length_map, List.length_mergeSort]; omega
    refine ⟨.ref _, upd (LiI.putT H as kvs) h'.objs.size (.lst ((qs.mergeSort (fun a b => leP a.2 b.2)).map (·.1))), I'.laid (t' := tk) (fun b o e => ?_) (Nat.le_refl _) ⟨hz2, out, n', e2, he'⟩, rfl, q _ (I'.hok.fresh (Nat.le_refl _))⟩
    have hlt : b < h'.objs.size := Heap.lt_size e
    exact (PyProof.Rows.sortedHeap_old (Nat.ne_of_lt hlt) (by rw [Heap.size_push]; exact Nat.lt_succ_of_lt hlt)).trans (ka b o e)
  · exact wpAny_pure ⟨_, rfl, x⟩
def D.ofK : Key → D
  | .inl i => .int i
  | .inr x => .str x
def itemD (kv : Key × D) : D := .tup [D.ofK kv.1, kv.2]
theorem is_ofK {F : Fz} {m : M} {H : Hp} : ∀ k : Key, Is K F m H (D.ofK k) (kV k)
  | .inl _ => by unfold D.ofK kV Is; rfl
  | .inr _ => by unfold D.ofK kV Is; rfl
theorem putT_rel {F : Fz} {m : M} : ∀ (ts : List Addr) (vs : List (Key × V)) (kvs : List (Key × D)) (H : Hp), Rel K F m H → ts.length = vs.length → ts.Nodup → (∀ t ∈ ts, H t = none) → IsK K F m H kvs vs →
    Step F m H F m (LiI.putT H ts vs) ∧ Rel K F m (LiI.putT H ts vs) ∧ IsL K F m (LiI.putT H ts vs) (kvs.map itemD) (ts.map V.ref)
  | [], [], kvs, H, r, _, _, _, i => by
    have e : kvs = [] := by
      cases kvs with
      | nil => rfl
      | cons kd ks =>
        unfold IsK at i
        obtain ⟨_, _, e, _⟩ := i
        cases e
    subst e
    exact ⟨Step.refl, r, .nil⟩
  | [], _ :: _, _, _, _, h, _, _, _ => by cases h
  | _ :: _, [], _, _, _, h, _, _, _ => by cases h
  | a :: ts, p :: vs, kvs, H, r, h, n, fr, i => by
    cases kvs with
    | nil => unfold IsK at i; cases i
    | cons kd ks =>
      unfold IsK at i
      obtain ⟨v, rr, e, h1, h2⟩ := i
      cases e
      have n' := List.nodup_cons.mp n
      have fa := fr a List.mem_cons_self
      have st : Step F m H F m (upd H a (.tup [kV kd.1, v])) := Step.fresh fa
      have r2 : Rel K F m (upd H a (.tup [kV kd.1, v])) := r.fresh fa (by show 2 ≤ sizeLine; decide)
      have i1 : Is K F m (upd H a (.tup [kV kd.1, v])) (itemD kd) (.ref a) := Is.tupNew r fa (.cons (is_ofK kd.1) (.cons h1 .nil))
      have fr2 : ∀ t ∈ ts, upd H a (.tup [kV kd.1, v]) t = none := fun t ht => by
        rw [upd_ne (fun z => n'.1 (by rw [← z]; exact ht))]
        exact fr t (List.mem_cons_of_mem _ ht)
      obtain ⟨s3, r3, i3⟩ := putT_rel ts vs ks _ r2 (Nat.succ.inj h) n'.2 fr2 (h2.step st)
      exact ⟨st.trans s3, r3, .cons (i1.step s3) i3⟩
def wSortIt (frz : Bool) (w : WE) : WE := fun env m k => w env m fun d m1 => match m1.dsee d with
  | some kvs => SortOk (kvs.map itemD) ∧ alloc frz (sortD (kvs.map itemD)) m1 k
  | none => False
theorem sort_any {F : Fz} {m : M} {H : Hp} {ds : List D} {vs : List V} (h2 : IsL K F m H ds vs) (ok : SortOk ds) : ∃ ts : List (V × PyData), vs = ts.map (·.1) ∧ (∀ t ∈ ts, Dp K H t.1 t.2) ∧ PySem.W.AllAlike (ts.map (·.2)) ∧ PySem.W.Sortable (ts.map (·.2)) ∧ (∀ t ∈ ts, t.2.depth ≤ 60) ∧ IsL K F m H (sortD ds) ((ts.mergeSort (fun a b => leP a.2 b.2)).map (·.1)) := by
  obtain ⟨ts, e1, e2, h3, h4⟩ := sort_tie h2 ok
  have mem : ∀ p ∈ ts.map (·.2), ∃ d ∈ ds, p = d.pyD := fun p hp => by
    rw [← e2] at hp
    obtain ⟨d, hd, e⟩ := List.mem_map.mp hp
    exact ⟨d, hd, e.symm⟩
  refine ⟨ts, e1, h3, ?_, ?_, ?_, h4⟩
  · intro p hp q hq
    obtain ⟨d, hd, e⟩ := mem p hp
    obtain ⟨d', hd', e'⟩ := mem q hq
    rw [e, e']
    exact ok.alike d hd d' hd'
  · rcases ok.kind with kd | kd
    · refine .inl fun p hp => ?_
      obtain ⟨d, hd, e⟩ := mem p hp
      rw [e]; exact kd d hd
    · refine .inr fun p hp => ?_
      obtain ⟨d, hd, e⟩ := mem p hp
      rw [e]; exact kd d hd
  · intro t ht
    obtain ⟨d, hd, e⟩ := mem t.2 (List.mem_map_of_mem ht)
    rw [e]; exact ok.deep d hd
/-- sorted(e.items()) -/
theorem e_sortIt (frz : Bool) {o : Expr} {wo : WE} {apos cpos p pos : Pos} (hc : X.calm = true) (hu : X.A.units + 64 < cLine) (hg : Gl X "sorted") (hm : X.mg "sorted" = none) (hv : bootBuiltins "sorted" = some (.builtin "sorted")) (ho : PE X o (up X.K wo))
    (hbase : attributeBase o "items" X.env (eval o X.env) = eval o X.env := by rfl) (hline : (apos.endLine == cpos.line) = true := by rfl)
    (hs : starEach [Expr.Call (.Attribute o "items" apos) [] [] cpos] X.env = (false, eval (.Call (.Attribute o "items" apos) [] [] cpos) X.env) :: starEach [] X.env := by rfl) (hpl : (backTo pos (starEach [] X.env)).any (·.1) = false := by rfl) :
    PE X (.Call (.Name "sorted" p) [.Call (.Attribute o "items" apos) [] [] cpos] [] pos) (up X.K (wSortIt frz wo)) :=
  PE.imp (pe_callB (cr_sortIt hc hu) hg hm hv (pa_cons (pe_bm0 F.plainAttrs_dict F.slot_dict_items F.type_dict_items mt_itemsK ho hbase hline) pa_nil hs) (by decide) (by decide) hs hpl) fun σ H Q ⟨F, env, m, k, hE, hR, hw, hk⟩ =>
  ⟨F, env, m, _, hE, hR, hw, fun d m1 v H1 q1 s1 r1 i1 => by
    have q1 : (match m1.dsee d with | some kvs => SortOk (kvs.map itemD) ∧ alloc frz (sortD (kvs.map itemD)) m1 k | none => False) := q1
    split at q1
    · rename_i kvs e
      obtain ⟨ok, h⟩ := q1
      obtain ⟨a, vs, ev, h1, h2⟩ := dsee_is e i1 r1
      have hz : vs.length ≤ sizeLine := r1.fits.2 a vs (.inl h1)
      subst ev
      refine ⟨.inr (.inr (.inl ⟨rfl, .inl ⟨vs, h1⟩⟩)), a, vs, rfl, rfl, h1, fun p hp => ?_⟩
      have st : Step F m1 H1 F m1 (upd H1 p (itemsO p a)) := Step.fresh hp
      have r2 : Rel X.K F m1 (upd H1 p (itemsO p a)) := r1.fresh hp (by unfold OkSize itemsO; trivial)
      refine ⟨p, a, vs, rfl, upd_same, by rw [upd_ne (fun z => by rw [z, hp] at h1; cases h1)]; exact h1, fun ts hl n fr => ?_⟩
      obtain ⟨s3, r3, i3⟩ := putT_rel ts vs kvs _ r2 hl n fr (h2.step st)
      obtain ⟨qs, e1, g1, g2, g3, g4, g5⟩ := sort_any i3 ok
      have hz2 : ((qs.mergeSort (fun a b => leP a.2 b.2)).map (·.1)).length ≤ sizeLine := by
        have := congrArg List.length e1
        rw [List.length_map, List.length_map] at this
        rw [List.length_map, List.length_mergeSort]; omega
      exact ⟨qs, e1.symm, g1, g2, g3, g4, alloc_at (Want.step hk (s1.trans (st.trans s3))) r3 h g5 hz2⟩
    · exact q1.elim⟩
end
end T

set_option Elab.async false
set_option linter.all false
set_option maxRecDepth 100000
set_option maxHeartbeats 2000000
/-! the def law itself: the promise, where nothing but the script is known -/
namespace T
open PySem PySem.Spec PyProof.Rows L2
theorem fits_inv {X : Cx} {pins : List (Addr × Obj)} {σ : L2.St} {H : Hp} {s : Shared} (I : Inv X pins σ H s) : Fits H := by
  refine ⟨fun a xs q => ?_, fun a kvs q => ?_⟩
  · rcases q with (q | ⟨o, q⟩) | (q | ⟨o, q⟩)
    · exact (I.hok a _ q).1
    · exact (I.hok a _ q).2.1
    · exact (I.hok a _ q).1
    · exact (I.hok a _ q).2.1
  · rcases q with q | ⟨o, q⟩
    · exact (I.hok a _ q).1
    · exact (I.hok a _ q).2.1
/-- the script alone -/
def spL (K : PySem.W.Frag) (sp : FA) : Sp := fun vs H Q _ => ∃ (ns : List Int) (a : Addr) (k : D → M → Prop), vs = [.ref a] ∧ ScrAt K (fun _ => none) H a (ns.map V.int) ∧ sp [.scr ns] (fun _ => none) k ∧ (∀ m' H' v, k (.bl true) m' → Is K (fun _ => False) m' H' (.bl true) v → Q v H') ∧ ∀ d m', k d m' → d = .bl true
def upL (K : PySem.W.Frag) (w : WS) (N : List Str) (ns : List Int) (k : D → M → Prop) : TS := fun E σ H => EnvIs K (fun _ => False) (fun _ => none) H (startE N [.scr ns]) σ ∧ w (endsD k) (startE N [.scr ns]) (fun _ => none) ∧ Conv K (fun _ => False) (fun _ => none) H (endsD k) E
theorem PSs.scr {X : Cx} {b : List Stmt} {w : WS} {N : List Str} {ns : List Int} {k : D → M → Prop} (h : PSs X b (upS X.K w)) : PSs X b (upL X.K w N ns k) := ⟨fun p s σ H E I ⟨q1, q2, q3⟩ =>
  h.run p s σ H E I ⟨fun _ => False, _, fun _ => none, endsD k, q1, ⟨(fun _ _ e => by cases e), fun _ z => False.elim z, fits_inv I, fun _ z => False.elim z⟩, q2, q3⟩⟩
section
variable {P : Program} {w : World} {K : PySem.W.Frag} {mg : Str → Option Value} {base : Heap}
theorem ok_lawS {x qual : Str} {st : Stmt} {f : Addr} {fd : FuncData} {N : List Str} {k : Nat} {sp : FA} (Fn : Fun K x qual st f fd) (S : FnScope N ["script"] (defScope st)) (ws : WS)
    (hd : ∀ (cdv : Value) (A : Around) (outer : List PySem.Env) (s : Shared) (H : Hp) (E : XK), Room k (A.deeper (envOfC qual (defScope st) s.heap.objs.size f cdv)) → PSs (cxOf CX0 P w K mg base N qual (defScope st) f cdv A outer s H E).nox (defBody st) (upS K ws))
    (hw : ∀ ds m k, sp ds m k → ws (endsD k) (startE N ds) m) : FnOk P w K mg base CX0 (k + 1) f fd ["script"] (spL K sp) := by
  refine Fn.ok S (fun vs H Q E h => ?_) (fun cdv A outer s H vs Q E hr h => ?_)
  · obtain ⟨ns, a, k, e, _⟩ := h
    rw [e]; rfl
  · obtain ⟨ns, a, kk, e, hs, hsp, hq, he⟩ := h
    refine ⟨_, PSs.scr (N := N) (ns := ns) (k := kk) (hd cdv A outer s H E hr), ?_⟩
    have i : IsL K (fun _ => False) (fun _ => none) H [.scr ns] vs := by rw [e]; exact .cons (by unfold Is; exact ⟨a, rfl, hs⟩) .nil
    have ret : ∀ d m' v H', retD kk d m' → Step (fun _ => False) (fun _ => none) H (fun _ => False) m' H' → Rel K (fun _ => False) m' H' → Is K (fun _ => False) m' H' d v → Q v H' := fun d m' v H' ⟨m2, d2, fz, q⟩ st rl i => by
      obtain ⟨s2, r2, i2⟩ := fz K _ H' v rl i
      obtain rfl := he _ _ q
      exact hq m2 H' v q i2
    exact ⟨start_is i, hw _ _ kk hsp, ⟨fun e n σ G q a b c => ret .non n .non G q a b (by unfold Is; rfl), ret, fun _ _ _ _ q => q.elim, fun _ _ _ _ q => q.elim⟩⟩
end
theorem hsp_of {sp : FA} (h : ∀ ns : List Int, ns.length ≤ 63 → sp [.scr ns] (fun _ => none) (fun d _ => d = .bl true)) (K : PySem.W.Frag) (H : Hp) (a : Addr) (ns : List Int) (hl : ns.length ≤ 63) (hO : Only H) (hS : SqL K H a (ns.map V.int)) :
    spL K sp [.ref a] H (fun v _ => v = .bl true) fun _ _ _ => False := by
  refine ⟨ns, a, _, rfl, ?_, h ns hl, fun m' H' v _ i => i, fun d m' e => e⟩
  rcases hS with h1 | h1
  · refine .inl ⟨rfl, ?_⟩
    rcases h1 with h1 | ⟨o, h1⟩
    · rcases hO a with z | ⟨o, xs, z⟩ <;> (rw [z] at h1; cases h1)
    · exact ⟨o, h1⟩
  · exact .inr fun H' => .inr h1
end T

set_option Elab.async false
set_option linter.all false
set_option maxRecDepth 100000
set_option maxHeartbeats 2000000
/-! the w-terms in a form that steps by unfolding; where a step hangs on something not known, one of the words on.. stands ahead -/
namespace T
open PySem PySem.Spec PyProof.Rows L2
inductive onS : Option (D) → (D → Prop) → Prop
  | mk {d : D} {k : D → Prop} (q : k d) : onS (some d) k
theorem eS {o : Option (D)} {k : D → Prop} : (match o with | some d => k d | none => False) = onS o k := by
  cases o with
  | none => exact propext ⟨fun h => h.elim, fun h => by cases h⟩
  | some d => exact propext ⟨fun h => .mk h, fun h => by cases h with | mk q => exact q⟩
theorem sS {o : Option (D)} {k : D → Prop} {d : D} (h : o = some d) (q : k d) : onS o k := by rw [h]; exact .mk q
inductive onN : Option (Nat) → (Nat → Prop) → Prop
  | mk {d : Nat} {k : Nat → Prop} (q : k d) : onN (some d) k
theorem eN {o : Option (Nat)} {k : Nat → Prop} : (match o with | some d => k d | none => False) = onN o k := by
  cases o with
  | none => exact propext ⟨fun h => h.elim, fun h => by cases h⟩
  | some d => exact propext ⟨fun h => .mk h, fun h => by cases h with | mk q => exact q⟩
theorem sN {o : Option (Nat)} {k : Nat → Prop} {d : Nat} (h : o = some d) (q : k d) : onN o k := by rw [h]; exact .mk q
inductive onL : Option (List D) → (List D → Prop) → Prop
  | mk {d : List D} {k : List D → Prop} (q : k d) : onL (some d) k
theorem eL {o : Option (List D)} {k : List D → Prop} : (match o with | some d => k d | none => False) = onL o k := by
  cases o with
  | none => exact propext ⟨fun h => h.elim, fun h => by cases h⟩
  | some d => exact propext ⟨fun h => .mk h, fun h => by cases h with | mk q => exact q⟩
theorem sL {o : Option (List D)} {k : List D → Prop} {d : List D} (h : o = some d) (q : k d) : onL o k := by rw [h]; exact .mk q
inductive onI : Option (List Int) → (List Int → Prop) → Prop
  | mk {d : List Int} {k : List Int → Prop} (q : k d) : onI (some d) k
theorem eI {o : Option (List Int)} {k : List Int → Prop} : (match o with | some d => k d | none => False) = onI o k := by
  cases o with
  | none => exact propext ⟨fun h => h.elim, fun h => by cases h⟩
  | some d => exact propext ⟨fun h => .mk h, fun h => by cases h with | mk q => exact q⟩
theorem sI {o : Option (List Int)} {k : List Int → Prop} {d : List Int} (h : o = some d) (q : k d) : onI o k := by rw [h]; exact .mk q
inductive onBl : Option (List Bool) → (List Bool → Prop) → Prop
  | mk {d : List Bool} {k : List Bool → Prop} (q : k d) : onBl (some d) k
theorem eBl {o : Option (List Bool)} {k : List Bool → Prop} : (match o with | some d => k d | none => False) = onBl o k := by
  cases o with
  | none => exact propext ⟨fun h => h.elim, fun h => by cases h⟩
  | some d => exact propext ⟨fun h => .mk h, fun h => by cases h with | mk q => exact q⟩
theorem sBl {o : Option (List Bool)} {k : List Bool → Prop} {d : List Bool} (h : o = some d) (q : k d) : onBl o k := by rw [h]; exact .mk q
inductive onD : Option (List (Key × D)) → (List (Key × D) → Prop) → Prop
  | mk {d : List (Key × D)} {k : List (Key × D) → Prop} (q : k d) : onD (some d) k
theorem eD {o : Option (List (Key × D))} {k : List (Key × D) → Prop} : (match o with | some d => k d | none => False) = onD o k := by
  cases o with
  | none => exact propext ⟨fun h => h.elim, fun h => by cases h⟩
  | some d => exact propext ⟨fun h => .mk h, fun h => by cases h with | mk q => exact q⟩
theorem sD {o : Option (List (Key × D))} {k : List (Key × D) → Prop} {d : List (Key × D)} (h : o = some d) (q : k d) : onD o k := by rw [h]; exact .mk q
inductive onM : Option MO → (List D → Prop) → (List (Key × D) → Prop) → Prop
  | lst {ds : List D} {kl : List D → Prop} {kd : List (Key × D) → Prop} (q : kl ds) : onM (some (.lst ds)) kl kd
  | dic {ds : List (Key × D)} {kl : List D → Prop} {kd : List (Key × D) → Prop} (q : kd ds) : onM (some (.dic ds)) kl kd
theorem eM {o : Option MO} {kl : List D → Prop} {kd : List (Key × D) → Prop} : (match o with | some (.lst ds) => kl ds | some (.dic ds) => kd ds | _ => False) = onM o kl kd := by
  cases o with
  | none => exact propext ⟨fun h => h.elim, fun h => by cases h⟩
  | some u => cases u with
    | lst ds => exact propext ⟨fun h => .lst h, fun h => by cases h with | lst q => exact q⟩
    | dic ds => exact propext ⟨fun h => .dic h, fun h => by cases h with | dic q => exact q⟩
    | ins C fs => exact propext ⟨fun h => h.elim, fun h => by cases h⟩
theorem eM0 {o : Option MO} {kl : List D → Prop} : (match o with | some (.lst ds) => kl ds | _ => False) = onM o kl fun _ => False := by
  cases o with
  | none => exact propext ⟨fun h => h.elim, fun h => by cases h⟩
  | some u => cases u with
    | lst ds => exact propext ⟨fun h => .lst h, fun h => by cases h with | lst q => exact q⟩
    | dic ds => exact propext ⟨fun h => h.elim, fun h => by cases h with | dic q => exact q⟩
    | ins C fs => exact propext ⟨fun h => h.elim, fun h => by cases h⟩
theorem sM {o : Option MO} {kl : List D → Prop} {kd : List (Key × D) → Prop} {ds : List D} (h : o = some (.lst ds)) (q : kl ds) : onM o kl kd := by rw [h]; exact .lst q
theorem sMd {o : Option MO} {kl : List D → Prop} {kd : List (Key × D) → Prop} {ds : List (Key × D)} (h : o = some (.dic ds)) (q : kd ds) : onM o kl kd := by rw [h]; exact .dic q
@[simp] theorem on_m0 {kl : List D → Prop} {kd : List (Key × D) → Prop} : onM none kl kd ↔ False := ⟨fun h => (by cases h), fun h => h.elim⟩
@[simp] theorem on_mx {C : Addr} {fs : List (Str × D)} {kl : List D → Prop} {kd : List (Key × D) → Prop} : onM (some (.ins C fs)) kl kd ↔ False := ⟨fun h => (by cases h), fun h => h.elim⟩
@[simp] theorem on_ml {ds : List D} {kl : List D → Prop} {kd : List (Key × D) → Prop} : onM (some (.lst ds)) kl kd ↔ kl ds := ⟨fun h => by cases h with | lst q => exact q, .lst⟩
@[simp] theorem on_md {ds : List (Key × D)} {kl : List D → Prop} {kd : List (Key × D) → Prop} : onM (some (.dic ds)) kl kd ↔ kd ds := ⟨fun h => by cases h with | dic q => exact q, .dic⟩
inductive IfB : Bool → Prop → Prop → Prop
  | t {a b : Prop} (q : a) : IfB true a b
  | f {a b : Prop} (q : b) : IfB false a b
theorem eB {c : Bool} {a b : Prop} : (if c = true then a else b) = IfB c a b := by
  cases c with
  | true => rw [if_pos rfl]; exact propext ⟨fun h => .t h, fun h => by cases h with | t q => exact q⟩
  | false => rw [if_neg Bool.false_ne_true]; exact propext ⟨fun h => .f h, fun h => by cases h with | f q => exact q⟩
theorem sB {c : Bool} {a b : Prop} (h1 : c = true → a) (h2 : c = false → b) : IfB c a b := by
  cases c with
  | true => exact .t (h1 rfl)
  | false => exact .f (h2 rfl)
theorem sT {c : Bool} {a b : Prop} (h : c = true) (q : a) : IfB c a b := by rw [h]; exact .t q
theorem sF {c : Bool} {a b : Prop} (h : c = false) (q : b) : IfB c a b := by rw [h]; exact .f q
/-- what is not to be unfolded -/
structure Rg (p : Prop) : Prop where
  mk :: (go : p)
theorem eR {p : Prop} : p = Rg p := propext ⟨.mk, Rg.go⟩
/-! combinators -/
def yAnd (a b : WT) : WT := fun env m k => a env m fun c m1 => IfB c (b env m1 k) (k false m1)
theorem and_y : wAnd = yAnd := by funext a b env m k; show a env m _ = a env m _; congr 1; funext c m1; exact eB
def yOr (a b : WT) : WT := fun env m k => a env m fun c m1 => IfB c (k true m1) (b env m1 k)
theorem or_y : wOr = yOr := by funext a b env m k; show a env m _ = a env m _; congr 1; funext c m1; exact eB
def yAndK (b : WE) (env : T.Env) (k : D → M → Prop) : D → M → Prop := fun d m1 => match d with
  | .bl c => IfB c (b env m1 k) (k (.bl false) m1)
  | _ => False
def yOrK (b : WE) (env : T.Env) (k : D → M → Prop) : D → M → Prop := fun d m1 => match d with
  | .bl c => IfB c (k (.bl true) m1) (b env m1 k)
  | _ => False
def yAndV (a b : WE) : WE := fun env m k => a env m (yAndK b env k)
theorem andV_y : wAndV = yAndV := by
  funext a b env m k; show a env m _ = a env m _; congr 1; funext d m1
  cases d with
  | bl c => exact eB
  | _ => rfl
def yOrV (a b : WE) : WE := fun env m k => a env m (yOrK b env k)
theorem orV_y : wOrV = yOrV := by
  funext a b env m k; show a env m _ = a env m _; congr 1; funext d m1
  cases d with
  | bl c => exact eB
  | _ => rfl
def yIf (t : WT) (a b : WE) : WE := fun env m k => t env m fun c m1 => IfB c (a env m1 k) (b env m1 k)
theorem if_y : wIf = yIf := by funext t a b env m k; show t env m _ = t env m _; congr 1; funext c m1; exact eB
def yChK (g : F2) (c : WE) (env : T.Env) (y : D) (k : D → M → Prop) : D → M → Prop := fun z m3 => match z with
  | .bl t => IfB t (c env m3 (fun u m4 => g y u m4 k)) (k (.bl false) m3)
  | _ => False
def yChain (f g : F2) (a b c : WE) : WE := fun env m k => a env m fun x m1 => b env m1 fun y m2 => f x y m2 (yChK g c env y k)
theorem chain_y : wChain = yChain := by
  funext f g a b c env m k; show a env m _ = a env m _; congr 1; funext x m1; congr 1; funext y m2; congr 1; funext d m3
  cases d with
  | bl c => exact eB
  | _ => rfl
def yIfS (t : WT) (a b : WS) : WS := fun k env m => t env m fun c m1 => IfB c (a k env m1) (b k env m1)
theorem ifS_y : wIfS = yIfS := by funext t a b k env m; show t env m _ = t env m _; congr 1; funext c m1; exact eB
/-- for -/
def goForX (P : M → Prop) (tg : Tg) (b : WS) (k : WK) : List D → T.Env → M → Prop
  | [], env, m => P m ∧ k.nx env m
  | d :: ds, env, m => P m ∧ bindTg tg d env fun env1 => b { nx := fun e n => Rg (goForX P tg b k ds e n), rt := k.rt, bk := k.nx, ct := fun e n => Rg (goForX P tg b k ds e n) } env1 m
theorem goForX_e {P : M → Prop} {tg : Tg} {b : WS} {k : WK} : ∀ ds : List D, goFor P tg b k ds = fun e n => Rg (goForX P tg b k ds e n)
  | [] => by funext e n; exact eR
  | d :: ds => by
    funext e n
    rw [← eR]
    show (P n ∧ bindTg tg d e fun env1 => b { nx := goFor P tg b k ds, rt := k.rt, bk := k.nx, ct := goFor P tg b k ds } env1 n) = _
    rw [goForX_e ds]
    rfl
def yFor (i : WI) (tg : Tg) (b : WS) : WS := fun k env m => i env m fun items P m1 => Rg (goForX P tg b k items env m1)
theorem for_y : wFor = yFor := by
  funext i tg b k env m; show i env m _ = i env m _; congr 1; funext items P m1; rw [goForX_e]
def goWhileX (t : WT) (b : WS) (k : WK) : Nat → T.Env → M → Prop
  | 0, _, _ => False
  | n + 1, env, m => t env m fun c m1 => IfB c (b { nx := fun e u => Rg (goWhileX t b k n e u), rt := k.rt, bk := k.nx, ct := fun e u => Rg (goWhileX t b k n e u) } env m1) (k.nx env m1)
theorem goWhileX_e {t : WT} {b : WS} {k : WK} : ∀ n : Nat, goWhile t b k n = fun e u => Rg (goWhileX t b k n e u)
  | 0 => by funext e n; exact eR
  | n + 1 => by
    funext e u
    rw [← eR]
    show (t e u fun c m1 => if c = true then b { nx := goWhile t b k n, rt := k.rt, bk := k.nx, ct := goWhile t b k n } e m1 else k.nx e m1) = _
    rw [goWhileX_e n]
    show t e u _ = t e u _
    congr 1; funext c m1; exact eB
def yWhile (t : WT) (b : WS) : WS := fun k env m => Rg (∃ n, goWhileX t b k n env m)
theorem while_y : wWhile = yWhile := by
  funext t b k env m; show (∃ n, goWhile t b k n env m) = _
  refine Eq.trans ?_ eR
  congr 1; funext n; rw [goWhileX_e]; exact eR.symm
/-- a comprehension -/
def lcGoX (P : M → Prop) (tg : Tg) (tt : WT) (te : WE) (env : T.Env) (k : List D → M → Prop) : List D → List D → M → Prop
  | [], acc, m => P m ∧ k acc m
  | d :: ds, acc, m => P m ∧ bindTg tg d env fun env1 => tt env1 m fun b m1 => IfB b (te env1 m1 fun y m2 => Rg (lcGoX P tg tt te env k ds (acc ++ [y]) m2)) (Rg (lcGoX P tg tt te env k ds acc m1))
theorem lcGoX_e {P : M → Prop} {tg : Tg} {tt : WT} {te : WE} {env : T.Env} {k : List D → M → Prop} : ∀ (ds acc : List D) (m : M), lcGo P tg tt te env k ds acc m = Rg (lcGoX P tg tt te env k ds acc m)
  | [], acc, m => eR
  | d :: ds, acc, m => by
    rw [← eR]
    show (P m ∧ bindTg tg d env fun env1 => tt env1 m fun b m1 => if b = true then te env1 m1 fun y m2 => lcGo P tg tt te env k ds (acc ++ [y]) m2 else lcGo P tg tt te env k ds acc m1) = (P m ∧ bindTg tg d env fun env1 => tt env1 m fun b m1 => IfB b (te env1 m1 fun y m2 => Rg (lcGoX P tg tt te env k ds (acc ++ [y]) m2)) (Rg (lcGoX P tg tt te env k ds acc m1)))
    congr 1; congr 1; funext env1; congr 1; funext b m1
    rw [← eB, lcGoX_e ds acc m1]
    congr 1
    congr 1; funext y m2; exact lcGoX_e ds _ m2
def yLc (frz : Bool) (i : WI) (tg : Tg) (tt : WT) (te : WE) (vs : List Nat) : WE := fun env m k => i env m fun items P m1 => Rg (lcGoX P tg tt te (wipeE env vs) (fun acc m2 => alloc frz acc m2 k) items [] m1)
theorem lc_y : wLc = yLc := by
  funext frz i tg tt te vs env m k; show i env m _ = i env m _; congr 1; funext items P m1; exact lcGoX_e _ _ _
/-- what stands at i, read off i -/
def xat {α : Type} (xs : List α) : Int → Option α
  | .ofNat n => xs[n]?
  | .negSucc n => if n < xs.length then xs[xs.length - (n + 1)]? else none
theorem xat_e {α : Type} {xs : List α} {i : Int} : atI xs i = xat xs i := by
  unfold atI ixN
  cases i with
  | ofNat n =>
    rw [if_pos (show 0 ≤ Int.ofNat n from Int.natCast_nonneg n)]
    by_cases h : n < xs.length
    · rw [if_pos (by show (n : Int) < xs.length; omega)]; rfl
    · rw [if_neg (by show ¬ (n : Int) < xs.length; omega)]
      show none = xs[n]?
      rw [List.getElem?_eq_none (by omega)]
  | negSucc n =>
    rw [if_neg (by omega)]
    show (if -(xs.length : Int) ≤ Int.negSucc n then some (Int.negSucc n + xs.length).toNat else none).bind (fun j => xs[j]?) = if n < xs.length then xs[xs.length - (n + 1)]? else none
    by_cases h : n < xs.length
    · rw [if_pos h, if_pos (by omega)]
      show xs[(Int.negSucc n + xs.length).toNat]? = _
      rw [show (Int.negSucc n + xs.length).toNat = xs.length - (n + 1) by omega]
    · rw [if_neg h, if_neg (by omega)]; rfl
def xin (n : Nat) : Int → Option Nat
  | .ofNat j => if j < n then some j else none
  | .negSucc j => if j < n then some (n - (j + 1)) else none
theorem xin_e {n : Nat} {i : Int} : ixN n i = xin n i := by
  unfold ixN
  cases i with
  | ofNat j =>
    rw [if_pos (show 0 ≤ Int.ofNat j from Int.natCast_nonneg j)]
    by_cases h : j < n
    · rw [if_pos (by show (j : Int) < n; omega)]; show _ = if j < n then some j else none; rw [if_pos h]; rfl
    · rw [if_neg (by show ¬ (j : Int) < n; omega)]; show _ = if j < n then some j else none; rw [if_neg h]
  | negSucc j =>
    rw [if_neg (by omega)]
    show (if -(n : Int) ≤ Int.negSucc j then some (Int.negSucc j + n).toNat else none) = if j < n then some (n - (j + 1)) else none
    by_cases h : j < n
    · rw [if_pos h, if_pos (by omega), show (Int.negSucc j + n).toNat = n - (j + 1) by omega]
    · rw [if_neg h, if_neg (by omega)]
def xAtL (ds : List D) (y : D) (m : M) (k : D → M → Prop) : Prop := match y with
  | .int i => onS (xat ds i) fun d => k d m
  | _ => False
def xAtK (kvs : List (Key × D)) (y : D) (m : M) (k : D → M → Prop) : Prop := match y with
  | .int i => onS (valD kvs (.inl i)) fun d => k d m
  | .str i => onS (valD kvs (.inr i)) fun d => k d m
  | _ => False
def xIx : F2 := fun x y m k => match x with
  | .str s => (match y with
    | .int i => ixS s i m k
    | _ => False)
  | .tup ds => xAtL ds y m k
  | .lst ds => xAtL ds y m k
  | .scr ns => xAtL (ns.map D.int) y m k
  | .ref a => onM (m a) (fun ds => xAtL ds y m k) (fun kvs => xAtK kvs y m k)
  | .dic kvs => xAtK kvs y m k
  | _ => False
theorem xAtL_e {ds : List D} {y : D} {m : M} {k : D → M → Prop} : ixL ds y m k = xAtL ds y m k := by
  cases y with
  | int i =>
    show (match atI ds i with | some d => k d m | none => False) = onS (xat ds i) fun d => k d m
    rw [xat_e]; exact eS
  | _ => rfl
theorem xAtK_e {kvs : List (Key × D)} {y : D} {m : M} {k : D → M → Prop} : ixD (some kvs) y m k = xAtK kvs y m k := by
  cases y with
  | int i =>
    show (match valD kvs (.inl i) with | some d => k d m | none => False) = onS (valD kvs (.inl i)) fun d => k d m
    exact eS
  | str i =>
    show (match valD kvs (.inr i) with | some d => k d m | none => False) = onS (valD kvs (.inr i)) fun d => k d m
    exact eS
  | _ => rfl
theorem fIx_x : fIx = xIx := by
  funext x y m k
  cases x with
  | str s => rfl
  | tup ds => exact xAtL_e
  | lst ds => exact xAtL_e
  | scr ds => exact xAtL_e
  | dic kvs => exact xAtK_e
  | ref a =>
    show (match m.seq (.ref a) with | some ds => ixL ds y m k | none => ixD (m.dsee (.ref a)) y m k) = onM (m a) _ _
    cases h : m a with
    | none => simp [M.seq, M.lsee, M.lraw, M.dsee, h, ixD]
    | some o => cases o with
      | lst ds => simp [M.seq, M.lsee, M.lraw, h, xAtL_e]
      | dic ds => simp [M.seq, M.lsee, M.lraw, M.dsee, h, xAtK_e]
      | ins C fs => simp [M.seq, M.lsee, M.lraw, M.dsee, h, ixD]
  | _ => rfl
def xLen : F1 := fun x m k => match x with
  | .str s => s.length ≤ 16777216 ∧ k (.int s.length) m
  | .tup ds => k (.int ds.length) m
  | .lst ds => k (.int ds.length) m
  | .scr ns => k (.int ns.length) m
  | .ref a => onM (m a) (fun ds => k (.int ds.length) m) (fun kvs => k (.int kvs.length) m)
  | .dic kvs => k (.int kvs.length) m
  | _ => False
theorem fLen_x : fLen = xLen := by
  funext x m k
  cases x with
  | scr ns => show k (.int (ns.map D.int).length) m = k (.int ns.length) m; rw [List.length_map]
  | ref p =>
    show (match m.seq (.ref p) with | some ds => k (.int ds.length) m | none => (match m.dsee (.ref p) with | some kvs => k (.int kvs.length) m | none => False)) = onM (m p) _ _
    cases h : m p with
    | none => simp [M.seq, M.lsee, M.lraw, M.dsee, h]
    | some o => cases o <;> simp [M.seq, M.lsee, M.lraw, M.dsee, h]
  | _ => rfl
def M.seqX (m : M) (d : D) (P : Option (List D)) : Prop := m.seq d = P
def xSeqK (k : KI) : D → M → Prop := fun d m => match d with
  | .tup ds => k ds (fun _ => True) m
  | .lst ds => k ds (fun _ => True) m
  | .scr ns => k (ns.map D.int) (fun _ => True) m
  | .ref a => onM (m a) (fun ds => k ds (fun m' => m' a = some (.lst ds)) m) (fun _ => False)
  | _ => False
theorem seq_ref {m : M} {a : Addr} {ds : List D} : (m.seq (.ref a) = some ds) = (m a = some (.lst ds)) := by
  cases h : m a with
  | none => simp [M.seq, M.lsee, M.lraw, h]
  | some o => cases o <;> simp [M.seq, M.lsee, M.lraw, h]
def ySeqI (w : WE) : WI := fun env m k => w env m (xSeqK k)
theorem seqI_y : wSeqI = ySeqI := by
  funext w env m k
  show w env m (fun d m1 => match m1.seq d with | some ds => k ds (fun m' => m'.seq d = some ds) m1 | none => False) = w env m (xSeqK k)
  congr 1
  funext d m1
  cases d with
  | tup ds => show k ds (fun _ => some ds = some ds) m1 = k ds (fun _ => True) m1; congr 1; funext _; exact eq_true rfl
  | lst ds => show k ds (fun _ => some ds = some ds) m1 = k ds (fun _ => True) m1; congr 1; funext _; exact eq_true rfl
  | scr ds => show k (ds.map D.int) (fun _ => some (ds.map D.int) = some (ds.map D.int)) m1 = k (ds.map D.int) (fun _ => True) m1; congr 1; funext _; exact eq_true rfl
  | ref a =>
    show (match m1.seq (.ref a) with | some ds => k ds (fun m' => m'.seq (.ref a) = some ds) m1 | none => False) = onM (m1 a) _ _
    cases h : m1 a with
    | none => simp [M.seq, M.lsee, M.lraw, h]
    | some o => cases o with
      | lst ds =>
        rw [show m1.seq (.ref a) = some ds by rw [seq_ref]; exact h]
        refine Eq.trans ?_ (propext on_ml).symm
        show k ds (fun m' => m'.seq (.ref a) = some ds) m1 = k ds (fun m' => m' a = some (.lst ds)) m1
        congr 1; funext m'; exact seq_ref
      | dic ds => simp [M.seq, M.lsee, M.lraw, h]
      | ins C fs => simp [M.seq, M.lsee, M.lraw, h]
  | _ => rfl
def xEnumK (k : KI) : D → M → Prop := xSeqK fun ds P m => k (enumD ds) P m
def yEnum (w : WE) : WI := fun env m k => w env m (xEnumK k)
theorem enum_y : wEnum = yEnum := by
  funext w env m k
  show wSeqI w env m (fun ds P m => k (enumD ds) P m) = _
  rw [seqI_y]; rfl
def xTrL (x : D) (m : M) (g : Addr → List D → Prop) : Prop := match x with
  | .ref a => onM (m a) (g a) (fun _ => False)
  | _ => False
theorem trL_x : trL = xTrL := by
  funext x m g
  cases x with
  | ref p =>
    exact eM0
  | _ => rfl
def xAppend : F2 := fun x y m k => xTrL x m fun a ds => ds.length < 16777216 ∧ k .non (m.set a (.lst (ds ++ [y])))
theorem fAppend_x : fAppend = xAppend := by funext x y m k; unfold fAppend xAppend; rw [trL_x]
def xExtend : F2 := fun x y m k => xTrL x m fun a ds => onL (m.lraw y) fun es => ds.length + es.length ≤ 16777216 ∧ k .non (m.set a (.lst (ds ++ es)))
theorem fExtend_x : fExtend = xExtend := by
  funext x y m k; unfold fExtend xExtend; rw [trL_x]; congr 1; funext a ds; exact eL
def xPop : F1 := fun x m k => xTrL x m fun a ds => onS (ds[ds.length - 1]?) fun d => k d (m.set a (.lst ds.dropLast))
theorem fPop_x : fPop = xPop := by
  funext x m k; unfold fPop xPop; rw [trL_x]; congr 1; funext a ds; exact eS
def xPopAt : F2 := fun x y m k => match y with
  | .int i => xTrL x m fun a ds => (-(2 ^ 63) ≤ i ∧ i < 2 ^ 63) ∧ onN (seqIndex? i ds.length) fun j => onS (ds[j]?) fun d => k d (m.set a (.lst (ds.eraseIdx j)))
  | _ => False
theorem fPopAt_x : fPopAt = xPopAt := by
  funext x y m k
  cases y with
  | int i =>
    show trL x m (fun a ds => (-(2 ^ 63) ≤ i ∧ i < 2 ^ 63) ∧ match seqIndex? i ds.length with
      | some j => match ds[j]? with
        | some d => k d (m.set a (.lst (ds.eraseIdx j)))
        | none => False
      | none => False) = xTrL x m _
    rw [trL_x]; congr 1; funext a ds; congr 1
    refine Eq.trans ?_ eN
    cases seqIndex? i ds.length with
    | none => rfl
    | some j => exact eS
  | _ => rfl
def xRemove : F2 := fun x y m k => match y with
  | .int i => xTrL x m fun a ds => onI (D.ints ds) fun ns => i ∈ ns ∧ k .non (m.set a (.lst ((ns.erase i).map D.int)))
  | _ => False
theorem fRemove_x : fRemove = xRemove := by
  funext x y m k
  cases y with
  | int i =>
    show trL x m (fun a ds => match D.ints ds with
    | some ns => i ∈ ns ∧ k .non (m.set a (.lst ((ns.erase i).map D.int)))
    | none => False) = xTrL x m _
    rw [trL_x]; congr 1; funext a ds; exact eI
  | _ => rfl
def xStO (x i v : D) (m : M) (g : M → Prop) : Prop := match x with
  | .ref a => onM (m a) (fun ds => match i with
      | .int j => onN (xin ds.length j) fun n => g (m.set a (.lst (ds.set n v)))
      | _ => False) (fun kvs => match i with
      | .int j => kvs.length < 16777216 ∧ g (m.set a (.dic (putD kvs (.inl j) v)))
      | .str j => kvs.length < 16777216 ∧ g (m.set a (.dic (putD kvs (.inr j) v)))
      | _ => False)
  | _ => False
theorem stO_x : stO = xStO := by
  funext x i v m g
  cases x with
  | ref a =>
    show (match m a with | some (.lst ds) => (match i with | .int j => (match ixN ds.length j with | some n => g (m.set a (.lst (ds.set n v))) | none => False) | _ => False) | some (.dic kvs) => (match i.key with | some key => kvs.length < 16777216 ∧ g (m.set a (.dic (putD kvs key v))) | none => False) | _ => False) = onM (m a) _ _
    refine Eq.trans ?_ eM
    cases h : m a with
    | none => rfl
    | some o =>
      cases o with
      | lst ds =>
        cases i with
        | int j =>
          show (match ixN ds.length j with | some n => g (m.set a (.lst (ds.set n v))) | none => False) = onN (xin ds.length j) _
          rw [xin_e]; exact eN
        | _ => rfl
      | dic kvs => cases i <;> rfl
      | ins C fs => rfl
  | _ => rfl
def yStore (e o i : WE) : WS := fun k env m => e env m fun v m1 => o env m1 fun x m2 => i env m2 fun j m3 => xStO x j v m3 fun m4 => k.nx env m4
theorem store_y : wStore = yStore := by funext e o i; unfold wStore yStore; rw [stO_x]
def xAll : F1 := fun x m k => onL (m.lsee x) fun ds => onBl (D.bls ds) fun bs => k (.bl (bs.all id)) m
def xAny : F1 := fun x m k => onL (m.lsee x) fun ds => onBl (D.bls ds) fun bs => k (.bl (bs.any id)) m
theorem lsBls_x {m : M} {x : D} {g : List Bool → Prop} : lsBls m x g = onL (m.lsee x) fun ds => onBl (D.bls ds) g := by
  refine Eq.trans ?_ eL
  unfold lsBls
  cases m.lsee x with
  | none => rfl
  | some ds => exact eBl
theorem lsInts_x {m : M} {x : D} {g : List Int → Prop} : lsInts m x g = onL (m.lsee x) fun ds => onI (D.ints ds) g := by
  refine Eq.trans ?_ eL
  unfold lsInts
  cases m.lsee x with
  | none => rfl
  | some ds => exact eI
theorem fAll_x : fAll = xAll := by funext x m k; exact lsBls_x
theorem fAny_x : fAny = xAny := by funext x m k; exact lsBls_x
def xMax : F1 := fun x m k => onL (m.lsee x) fun ds => onI (D.ints ds) fun ns => 0 < ns.length ∧ ∀ i, i ∈ ns → (∀ y, y ∈ ns → y ≤ i) → k (.int i) m
def xMin : F1 := fun x m k => onL (m.lsee x) fun ds => onI (D.ints ds) fun ns => 0 < ns.length ∧ ∀ i, i ∈ ns → (∀ y, y ∈ ns → i ≤ y) → k (.int i) m
def xSum : F1 := fun x m k => onL (m.lsee x) fun ds => onI (D.ints ds) fun ns => k (.int ns.sum) m
theorem fMax_x : fMax = xMax := by funext x m k; exact lsInts_x
theorem fMin_x : fMin = xMin := by funext x m k; exact lsInts_x
theorem fSum_x : fSum = xSum := by funext x m k; exact lsInts_x
def xSortI (frz : Bool) : F1 := fun x m k => onL (m.lsee x) fun ds => onI (D.ints ds) fun ns => ns.length < 64 ∧ alloc frz ((sortI ns).map D.int) m k
theorem fSortI_x : fSortI = xSortI := by funext b x m k; exact lsInts_x
def xSortD (frz : Bool) : F1 := fun x m k => onL (m.lsee x) fun ds => SortOk ds ∧ alloc frz (sortD ds) m k
theorem fSortD_x : fSortD = xSortD := by
  funext b x m k; exact eL
def ySortIt (frz : Bool) (w : WE) : WE := fun env m k => w env m fun d m1 => onD (m1.dsee d) fun kvs => SortOk (kvs.map itemD) ∧ alloc frz (sortD (kvs.map itemD)) m1 k
theorem sortIt_y : wSortIt = ySortIt := by
  funext b w env m k; show w env m _ = w env m _; congr 1; funext d m1; exact eD
def xSq (m : M) (x : D) (k : List D → Prop) : Prop := match x with
  | .tup ds => k ds
  | .lst ds => k ds
  | .scr ns => k (ns.map D.int)
  | .ref a => onM (m a) k fun _ => False
  | _ => False
theorem sq_x {m : M} {x : D} {k : List D → Prop} : (match m.seq x with | some ds => k ds | none => False) = xSq m x k := by
  cases x with
  | ref a =>
    show _ = onM (m a) k _
    cases h : m a with
    | none => simp [M.seq, M.lsee, M.lraw, h]
    | some o => cases o <;> simp [M.seq, M.lsee, M.lraw, h]
  | _ => rfl
def xList (frz : Bool) : F1 := fun x m k => xSq m x fun ds => alloc frz ds m k
theorem fList_x : fList = xList := by
  funext b x m k
  show (match m.seq x with | some ds => alloc b ds m k | none => False) = _
  exact (sq_x (k := fun ds => alloc b ds m k))
def xTuple : F1 := fun x m k => xSq m x fun ds => k (.tup ds) m
theorem fTuple_x : fTuple = xTuple := by
  funext x m k
  show (match m.seq x with | some ds => k (.tup ds) m | none => False) = _
  exact (sq_x (k := fun ds => k (.tup ds) m))
def xRev (frz : Bool) : F1 := fun x m k => onL (m.lsee x) fun ds => alloc frz ds.reverse m k
theorem fRev_x : fRev = xRev := by
  funext b x m k; exact eL
def xSl (frz : Bool) (x : D) (lo hi : Option Int) (m : M) (k : D → M → Prop) : Prop := match x with
  | .str s => s.length ≤ 16777216 ∧ k (.str (cutS s lo hi)) m
  | .tup ds => k (.tup (cutD ds lo hi)) m
  | .lst ds => alloc frz (cutD ds lo hi) m k
  | .scr ns => alloc frz (cutD (ns.map D.int) lo hi) m k
  | .ref a => onM (m a) (fun ds => alloc frz (cutD ds lo hi) m k) fun _ => False
  | _ => False
theorem fSl_x : fSl = xSl := by
  funext b x lo hi m k
  cases x with
  | ref a =>
    show (match m.lsee (.ref a) with | some ds => alloc b (cutD ds lo hi) m k | none => False) = onM (m a) _ _
    cases h : m a with
    | none => simp [M.lsee, M.lraw, h]
    | some o => cases o <;> simp [M.lsee, M.lraw, h]
  | _ => rfl
def ySl (frz : Bool) (a : WE) (lo hi : Option WE) : WE := fun env m k => a env m fun x m1 => wPart lo env m1 fun l m2 => wPart hi env m2 fun u m3 => xSl frz x l u m3 k
theorem sl_y : wSl = ySl := by funext b a lo hi; unfold wSl ySl; rw [fSl_x]
def yUnl (a : WE) (is : List Nat) : WS := fun k env m => a env m fun d m1 => onL (m1.lsee d) fun ds => ds.length = is.length ∧ k.nx (setAll is ds env) m1
theorem unl_y : wUnl = yUnl := by
  funext a is k env m; show a env m _ = a env m _; congr 1; funext d m1; exact eL
def xInL (neg : Bool) (x y : D) (ds : List D) (m : M) (k : D → M → Prop) : Prop := (x.flat = true ∧ ds.all D.flat = true ∧ k (.bl (if neg then !(ds.any fun z => D.feq z x) else ds.any fun z => D.feq z x)) m) ∨ inDeep neg x y m k
def xInK (neg : Bool) (x : D) (kvs : List (Key × D)) (m : M) (k : D → M → Prop) : Prop := match x with
  | .int j => k (.bl (if neg then !(valD kvs (.inl j)).isSome else (valD kvs (.inl j)).isSome)) m
  | .str j => k (.bl (if neg then !(valD kvs (.inr j)).isSome else (valD kvs (.inr j)).isSome)) m
  | _ => False
def xIn (neg : Bool) : F2 := fun x y m k => match y with
  | .str z => (match x with
    | .str s => k (.bl (if neg then !(!(Builtin.Str.occurrences z s 0 z.length 1).isEmpty) else !(Builtin.Str.occurrences z s 0 z.length 1).isEmpty)) m
    | _ => False)
  | .tup ds => xInL neg x (.tup ds) ds m k
  | .lst ds => xInL neg x (.lst ds) ds m k
  | .scr ns => xInL neg x (.scr ns) (ns.map D.int) m k
  | .dic kvs => xInK neg x kvs m k
  | .ref a => onM (m a) (fun ds => xInL neg x (.ref a) ds m k) (fun kvs => xInK neg x kvs m k)
  | _ => False
theorem fIn_x : fIn = xIn := by
  funext b x y m k
  have hk : ∀ kvs : List (Key × D), (match x.key with | some j => k (.bl (if b then !(valD kvs j).isSome else (valD kvs j).isSome)) m | none => False) = xInK b x kvs m k := fun kvs => by cases x <;> rfl
  cases y with
  | dic kvs => exact hk kvs
  | ref a =>
    cases h : m a with
    | none => simp [fIn, xIn, M.seq, M.lsee, M.lraw, M.dsee, h]
    | some o => cases o with
      | lst ds => simp [fIn, xIn, xInL, M.seq, M.lsee, M.lraw, M.dsee, h]
      | dic ds =>
        have := hk ds
        simp only [fIn, xIn, M.dsee, h, on_md]
        exact this
      | ins C fs => simp [fIn, xIn, M.seq, M.lsee, M.lraw, M.dsee, h]
  | _ => rfl
def xIndex : F2 := fun x y m k => onL (m.lsee x) fun ds => y.flat = true ∧ ds.all D.flat = true ∧ ∃ j, ds[j]?.map (D.feq · y) = some true ∧ (∀ i d, i < j → ds[i]? = some d → D.feq d y = false) ∧ k (.int (j : Nat)) m
theorem fIndex_x : fIndex = xIndex := by
  funext x y m k; exact eL
def xIsi : F2 := fun x c m k => match c with
  | .ty n => (match x with
    | .ref a => onM (m a) (fun _ => n ∈ tyNames ∧ k (.bl (isSub "list" n)) m) (fun _ => n ∈ tyNames ∧ k (.bl (isSub "dict" n)) m)
    | .non => n ∈ tyNames ∧ k (.bl (isSub "NoneType" n)) m
    | .bl _ => n ∈ tyNames ∧ k (.bl (isSub "bool" n)) m
    | .int _ => n ∈ tyNames ∧ k (.bl (isSub "int" n)) m
    | .str _ => n ∈ tyNames ∧ k (.bl (isSub "str" n)) m
    | .tup _ => n ∈ tyNames ∧ k (.bl (isSub "tuple" n)) m
    | .lst _ => n ∈ tyNames ∧ k (.bl (isSub "list" n)) m
    | .scr _ => n ∈ tyNames ∧ k (.bl (isSub "list" n)) m
    | .dic _ => n ∈ tyNames ∧ k (.bl (isSub "dict" n)) m
    | _ => False)
  | _ => False
theorem fIsi_x : fIsi = xIsi := by
  funext x c m k
  cases c with
  | ty n =>
    cases x with
    | ref a =>
      cases h : m a with
      | none => simp [fIsi, xIsi, M.tyN, h]
      | some o => cases o <;> simp [fIsi, xIsi, M.tyN, h]
    | _ => rfl
  | _ => rfl
theorem seq_split {A B : WS} {k : WK} {env : T.Env} {m : M} (J : T.Env → M → Prop) (h2 : ∀ e n, J e n → B k e n) (h1 : (∀ e n, J e n → B k e n) → A { k with nx := B k } env m) : wSeq A B k env m := h1 h2
/-! reading -/
theorem xat_map {α β : Type} (f : α → β) (xs : List α) (i : Int) : xat (xs.map f) i = (xat xs i).map f := by
  cases i with
  | ofNat n => show (xs.map f)[n]? = (xs[n]?).map f; rw [List.getElem?_map]
  | negSucc n =>
    show (if n < (xs.map f).length then (xs.map f)[(xs.map f).length - (n + 1)]? else none) = (if n < xs.length then xs[xs.length - (n + 1)]? else none).map f
    rw [List.length_map, List.getElem?_map]
    split <;> rfl
theorem xat_enc {α : Type} {enc : α → D} {xs : List α} {i : Int} {x : α} (h : xat xs i = some x) : xat (xs.map enc) i = some (enc x) := by rw [xat_map, h]; rfl
theorem xat_nat {α : Type} {xs : List α} {i : Nat} {x : α} (h : xs[i]? = some x) : xat xs (i : Int) = some x := h
theorem xat_lt {α : Type} {xs : List α} {i : Int} (h0 : 0 ≤ i) (h1 : i < xs.length) : ∃ (j : Nat) (x : α), i = (j : Nat) ∧ xs[j]? = some x ∧ xat xs i = some x ∧ x ∈ xs := by
  obtain ⟨j, rfl⟩ := Int.eq_ofNat_of_zero_le h0
  have hj : j < xs.length := by omega
  exact ⟨j, xs[j], rfl, List.getElem?_eq_getElem hj, List.getElem?_eq_getElem hj, List.getElem_mem hj⟩
theorem xat_last {α : Type} {xs : List α} {x : α} (h : xs.getLast? = some x) : xat xs (-1) = some x := by
  show (if 0 < xs.length then xs[xs.length - 1]? else none) = some x
  rw [List.getLast?_eq_getElem?] at h
  by_cases h0 : 0 < xs.length
  · rw [if_pos h0]; exact h
  · rw [List.getElem?_eq_none (by omega)] at h; cases h
theorem xin_nat {n i : Nat} (h : i < n) : xin n (i : Int) = some i := if_pos h
/-- a comprehension that reads alone -/
theorem lc_pure {α : Type} {P : M → Prop} {tg : Tg} {tt : WT} {te : WE} {env : T.Env} {k : List D → M → Prop} {m : M} (enc : α → D) (f : α → Bool) (g : α → D) (hP : P m) (xs : List α) (acc : List D)
    (h : ∀ x ∈ xs, ∀ K : T.Env → Prop, (∀ e, (∀ k : Bool → M → Prop, k (f x) m → tt e m k) → (f x = true → ∀ k : D → M → Prop, k (g x) m → te e m k) → K e) → bindTg tg (enc x) env K) (q : k (acc ++ (xs.filter f).map g) m) : Rg (lcGoX P tg tt te env k (xs.map enc) acc m) := by
  refine ⟨?_⟩
  induction xs generalizing acc with
  | nil => exact ⟨hP, by simpa using q⟩
  | cons x xs ih =>
    refine ⟨hP, h x List.mem_cons_self _ fun e h1 h2 => h1 _ ?_⟩
    refine sB (fun hf => ?_) (fun hf => ?_)
    · refine h2 hf _ ⟨ih _ (fun y hy => h y (List.mem_cons_of_mem _ hy)) ?_⟩
      rw [List.filter_cons_of_pos hf, List.map_cons] at q
      simpa using q
    · refine ⟨ih _ (fun y hy => h y (List.mem_cons_of_mem _ hy)) ?_⟩
      rw [List.filter_cons_of_neg (by simp [hf])] at q
      exact q
end T

set_option Elab.async false
set_option linter.all false
set_option maxRecDepth 100000
set_option maxHeartbeats 2000000
/-! the pool of draws -/
namespace T
open PySem PySem.Spec PyProof.Rows L2
def w__law_pool : WS :=
  (wRet (wLst false (wCons (wLc true (wSeqI (wSl true (wV 0) none (some (wC (.int 63))))) (.one 1) wYes (wCall (f1 fAbs) (wCons (wCall (f1 fToInt) (wCons (wV 1) wNil)) wNil)) [1]) (wCons (wC (.int 0)) (wCons (wC (.int 0)) (wCons (wB fAdd (wC (.int 1)) (wCall (f1 fLen) (wCons (wV 0) wNil))) (wCons (wC (.int 0)) wNil)))))))
def v__law_pool : WS :=
  (wRet (wLst false (wCons (yLc true (ySeqI (ySl true (wV 0) none (some (wC (.int 63))))) (.one 1) wYes (wCall (f1 fAbs) (wCons (wCall (f1 fToInt) (wCons (wV 1) wNil)) wNil)) [1]) (wCons (wC (.int 0)) (wCons (wC (.int 0)) (wCons (wB fAdd (wC (.int 1)) (wCall (f1 xLen) (wCons (wV 0) wNil))) (wCons (wC (.int 0)) wNil)))))))
theorem wv__law_pool : w__law_pool = v__law_pool := by simp only [w__law_pool, v__law_pool, fIx_x, fLen_x, fAppend_x, fExtend_x, fPop_x, fPopAt_x, fRemove_x, fAll_x, fAny_x, fMax_x, fMin_x, fSum_x, fSortI_x, fSortD_x, fList_x, fTuple_x, fRev_x, fIn_x, fIndex_x, fIsi_x, seqI_y, enum_y, store_y, sortIt_y, sl_y, unl_y, and_y, or_y, andV_y, orV_y, if_y, chain_y, ifS_y, for_y, while_y, lc_y]
inductive sp__law_pool : FA
  | mk {x0 : D} {m : M} {k : D → M → Prop} (h : v__law_pool (endsD k) [some x0, none] m) : sp__law_pool [x0] m k
def w__law_draw : WS :=
  (wSeq (wIfS (wAnd (wTv (wB (fEq false) (wB fIx (wV 0) (wC (.int 2))) (wC (.int 0)))) (wTv (wB fLt (wB fIx (wV 0) (wC (.int 1))) (wCall (f1 fLen) (wCons (wB fIx (wV 0) (wC (.int 0))) wNil)))))
    (wSeq (wSet (wB fIx (wB fIx (wV 0) (wC (.int 0))) (wB fIx (wV 0) (wC (.int 1)))) (.one 2))
    (wSeq (wStore (wB fAdd (wB fIx (wV 0) (wC (.int 1))) (wC (.int 1))) (wV 0) (wC (.int 1)))
    (wIfS (wTv (wB fGe (wV 2) (wB fPow (wC (.int 10)) (wC (.int 18)))))
      (wStore (wV 2) (wV 0) (wC (.int 2)))
      (wStore (wB fMod (wCall (f1 fToInt) (wCons (wB fAdd (wB fAdd (wB fMul (wB fIx (wV 0) (wC (.int 3))) (wC (.int 48271))) (wB fMul (wB fMod (wCall (f1 fToInt) (wCons (wV 2) wNil)) (wC (.int 2147483629))) (wC (.int 69621)))) (wB fIx (wV 0) (wC (.int 1)))) wNil)) (wC (.int 2147483647))) (wV 0) (wC (.int 3))))))
    wNext)
  (wSeq (wIfS (wTv (wB fGt (wB fIx (wV 0) (wC (.int 2))) (wC (.int 0))))
    (wSeq (wSet (wB fMod (wCall (f1 fToInt) (wCons (wB fIx (wV 0) (wC (.int 2))) wNil)) (wV 1)) (.one 3))
    (wSeq (wStore (wB fDiv (wCall (f1 fToInt) (wCons (wB fIx (wV 0) (wC (.int 2))) wNil)) (wV 1)) (wV 0) (wC (.int 2)))
    (wRet (wV 3))))
    wNext)
  (wSeq (wStore (wB fAdd (wB fIx (wV 0) (wC (.int 4))) (wC (.int 1))) (wV 0) (wC (.int 4)))
  (wSeq (wStore (wB fMod (wCall (f1 fToInt) (wCons (wB fAdd (wB fAdd (wB fMul (wB fIx (wV 0) (wC (.int 3))) (wC (.int 40692))) (wB fMul (wC (.int 7919)) (wB fIx (wV 0) (wC (.int 4))))) (wC (.int 30103))) wNil)) (wC (.int 2147483399))) (wV 0) (wC (.int 3)))
  (wSeq (wSet (wB fMod (wCall (f1 fToInt) (wCons (wB fMul (wB fIx (wV 0) (wC (.int 3))) (wB fAdd (wB fDiv (wB fIx (wV 0) (wC (.int 3))) (wC (.int 1009))) (wC (.int 69621)))) wNil)) (wC (.int 2147483647))) (.one 4))
  (wSeq (wSet (wB fMod (wCall (f1 fToInt) (wCons (wB fMul (wV 4) (wB fAdd (wB fDiv (wV 4) (wC (.int 2003))) (wC (.int 48271)))) wNil)) (wC (.int 2147483629))) (.one 4))
  (wRet (wB fMod (wCall (f1 fToInt) (wCons (wB fDiv (wV 4) (wC (.int 16))) wNil)) (wV 1)))))))))
def v__law_draw : WS :=
  (wSeq (yIfS (yAnd (wTv (wB (fEq false) (wB xIx (wV 0) (wC (.int 2))) (wC (.int 0)))) (wTv (wB fLt (wB xIx (wV 0) (wC (.int 1))) (wCall (f1 xLen) (wCons (wB xIx (wV 0) (wC (.int 0))) wNil)))))
    (wSeq (wSet (wB xIx (wB xIx (wV 0) (wC (.int 0))) (wB xIx (wV 0) (wC (.int 1)))) (.one 2))
    (wSeq (yStore (wB fAdd (wB xIx (wV 0) (wC (.int 1))) (wC (.int 1))) (wV 0) (wC (.int 1)))
    (yIfS (wTv (wB fGe (wV 2) (wB fPow (wC (.int 10)) (wC (.int 18)))))
      (yStore (wV 2) (wV 0) (wC (.int 2)))
      (yStore (wB fMod (wCall (f1 fToInt) (wCons (wB fAdd (wB fAdd (wB fMul (wB xIx (wV 0) (wC (.int 3))) (wC (.int 48271))) (wB fMul (wB fMod (wCall (f1 fToInt) (wCons (wV 2) wNil)) (wC (.int 2147483629))) (wC (.int 69621)))) (wB xIx (wV 0) (wC (.int 1)))) wNil)) (wC (.int 2147483647))) (wV 0) (wC (.int 3))))))
    wNext)
  (wSeq (yIfS (wTv (wB fGt (wB xIx (wV 0) (wC (.int 2))) (wC (.int 0))))
    (wSeq (wSet (wB fMod (wCall (f1 fToInt) (wCons (wB xIx (wV 0) (wC (.int 2))) wNil)) (wV 1)) (.one 3))
    (wSeq (yStore (wB fDiv (wCall (f1 fToInt) (wCons (wB xIx (wV 0) (wC (.int 2))) wNil)) (wV 1)) (wV 0) (wC (.int 2)))
    (wRet (wV 3))))
    wNext)
  (wSeq (yStore (wB fAdd (wB xIx (wV 0) (wC (.int 4))) (wC (.int 1))) (wV 0) (wC (.int 4)))
  (wSeq (yStore (wB fMod (wCall (f1 fToInt) (wCons (wB fAdd (wB fAdd (wB fMul (wB xIx (wV 0) (wC (.int 3))) (wC (.int 40692))) (wB fMul (wC (.int 7919)) (wB xIx (wV 0) (wC (.int 4))))) (wC (.int 30103))) wNil)) (wC (.int 2147483399))) (wV 0) (wC (.int 3)))
  (wSeq (wSet (wB fMod (wCall (f1 fToInt) (wCons (wB fMul (wB xIx (wV 0) (wC (.int 3))) (wB fAdd (wB fDiv (wB xIx (wV 0) (wC (.int 3))) (wC (.int 1009))) (wC (.int 69621)))) wNil)) (wC (.int 2147483647))) (.one 4))
  (wSeq (wSet (wB fMod (wCall (f1 fToInt) (wCons (wB fMul (wV 4) (wB fAdd (wB fDiv (wV 4) (wC (.int 2003))) (wC (.int 48271)))) wNil)) (wC (.int 2147483629))) (.one 4))
  (wRet (wB fMod (wCall (f1 fToInt) (wCons (wB fDiv (wV 4) (wC (.int 16))) wNil)) (wV 1)))))))))
theorem wv__law_draw : w__law_draw = v__law_draw := by simp only [w__law_draw, v__law_draw, fIx_x, fLen_x, fAppend_x, fExtend_x, fPop_x, fPopAt_x, fRemove_x, fAll_x, fAny_x, fMax_x, fMin_x, fSum_x, fSortI_x, fSortD_x, fList_x, fTuple_x, fRev_x, fIn_x, fIndex_x, fIsi_x, seqI_y, enum_y, store_y, sortIt_y, sl_y, unl_y, and_y, or_y, andV_y, orV_y, if_y, chain_y, ifS_y, for_y, while_y, lc_y]
inductive sp__law_draw : FA
  | mk {x0 x1 : D} {m : M} {k : D → M → Prop} (h : v__law_draw (endsD k) [some x0, some x1, none, none, none] m) : sp__law_draw [x0, x1] m k
def w__law_any : WS :=
  (wRet (wB fIx (wV 1) (wCall sp__law_draw (wCons (wV 0) (wCons (wCall (f1 fLen) (wCons (wV 1) wNil)) wNil)))))
def v__law_any : WS :=
  (wRet (wB xIx (wV 1) (wCall sp__law_draw (wCons (wV 0) (wCons (wCall (f1 xLen) (wCons (wV 1) wNil)) wNil)))))
theorem wv__law_any : w__law_any = v__law_any := by simp only [w__law_any, v__law_any, fIx_x, fLen_x, fAppend_x, fExtend_x, fPop_x, fPopAt_x, fRemove_x, fAll_x, fAny_x, fMax_x, fMin_x, fSum_x, fSortI_x, fSortD_x, fList_x, fTuple_x, fRev_x, fIn_x, fIndex_x, fIsi_x, seqI_y, enum_y, store_y, sortIt_y, sl_y, unl_y, and_y, or_y, andV_y, orV_y, if_y, chain_y, ifS_y, for_y, while_y, lc_y]
inductive sp__law_any : FA
  | mk {x0 x1 : D} {m : M} {k : D → M → Prop} (h : v__law_any (endsD k) [some x0, some x1] m) : sp__law_any [x0, x1] m k
structure PoolAt (m : M) (p : Addr) (cs : List Int) (a b c d : Int) : Prop where
  at' : m p = some (.lst [.lst (cs.map D.int), .int a, .int b, .int c, .int d])
  pos : ∀ x ∈ cs, 0 ≤ x
  a0 : 0 ≤ a
  b0 : 0 ≤ b
def Pool (m : M) (p : Addr) : Prop := ∃ cs a b c d, PoolAt m p cs a b c d
/-- all but p stays -/
def But (p : Addr) (m m' : M) : Prop := ∀ x, x ≠ p → m' x = m x
theorem But.refl {p : Addr} {m : M} : But p m m := fun _ _ => rfl
theorem But.trans {p : Addr} {m m1 m2 : M} (a : But p m m1) (b : But p m1 m2) : But p m m2 := fun x h => (b x h).trans (a x h)
theorem But.set {p : Addr} {m : M} {o : MO} : But p m (m.set p o) := fun x h => M.set_ne h
/-- the second half: no cell is taken -/
theorem draw_ok {p : Addr} {n : Int} {m : M} {k : D → M → Prop} (hp : Pool m p) (h0 : 0 < n) (h1 : n < 1073741824) (q : ∀ i m', 0 ≤ i → i < n → Pool m' p → But p m m' → k (.int i) m') : sp__law_draw [.ref p, .int n] m k := by
  obtain ⟨cs, a, b, c, d, hp⟩ := hp
  have ha := hp.at'
  refine .mk ?_
  unfold v__law_draw
  refine seq_split (fun e m' => ∃ a b c d x, e = [some (.ref p), some (.int n), x, none, none] ∧ PoolAt m' p cs a b c d ∧ But p m m') ?_ fun hJ => ?_
  · rintro e m1 ⟨a, b, c, d, x, rfl, hp, hb⟩
    have ha := hp.at'
    refine seq_split (fun e m' => e = [some (.ref p), some (.int n), x, none, none] ∧ PoolAt m' p cs a b c d ∧ But p m m') ?_ fun hJ => ?_
    · rintro e m1 ⟨rfl, hp, hb⟩
      have ha := hp.at'
      repeat (first | refine sM ha ?_ | refine sM M.set_same ?_ | refine sS rfl ?_ | refine sN rfl ?_)
      refine And.intro (.inr (by decide)) ?_
      repeat (first | refine sM ha ?_ | refine sM M.set_same ?_ | refine sS rfl ?_ | refine sN rfl ?_)
      refine And.intro (.inl (by decide)) ?_
      refine And.intro (by decide) ?_
      repeat (first | refine sM ha ?_ | refine sM M.set_same ?_ | refine sS rfl ?_ | refine sN rfl ?_)
      refine And.intro (by decide) ?_
      have h3 := Int.emod_nonneg (c * 40692 + 7919 * (d + 1) + 30103) (show (2147483399 : Int) ≠ 0 by decide)
      have h4 := Int.emod_lt_of_pos (c * 40692 + 7919 * (d + 1) + 30103) (show (0 : Int) < 2147483399 by decide)
      refine And.intro (.inl ⟨by omega, by omega⟩) ?_
      refine And.intro (by decide) ?_
      generalize he : ((c * 40692 + 7919 * (d + 1) + 30103) % 2147483399 * ((c * 40692 + 7919 * (d + 1) + 30103) % 2147483399 / 1009 + 69621)) % 2147483647 = e
      have h5 : 0 ≤ e := by rw [← he]; exact Int.emod_nonneg _ (by decide)
      have h6 : e < 2147483647 := by rw [← he]; exact Int.emod_lt_of_pos _ (by decide)
      refine And.intro (by decide) ?_
      refine And.intro (.inl ⟨by omega, by omega⟩) ?_
      refine And.intro (by decide) ?_
      refine And.intro (by decide) ?_
      refine And.intro h0 ?_
      refine retD.here (q _ _ (Int.emod_nonneg _ (by omega)) (Int.emod_lt_of_pos _ h0) ⟨cs, a, b, _, _, ⟨M.set_same, hp.pos, hp.a0, hp.b0⟩⟩ (hb.trans (But.set.trans But.set)))
    · repeat (first | refine sM ha ?_ | refine sM M.set_same ?_ | refine sS rfl ?_ | refine sN rfl ?_)
      refine sB (fun hc => ?_) (fun hc => hJ _ _ ⟨rfl, hp, hb⟩)
      repeat (first | refine sM ha ?_ | refine sM M.set_same ?_ | refine sS rfl ?_ | refine sN rfl ?_)
      refine And.intro h0 ?_
      repeat (first | refine sM ha ?_ | refine sM M.set_same ?_ | refine sS rfl ?_ | refine sN rfl ?_)
      refine And.intro ⟨h0, h1⟩ ?_
      repeat (first | refine sM ha ?_ | refine sM M.set_same ?_ | refine sS rfl ?_ | refine sN rfl ?_)
      refine retD.here (q _ _ (Int.emod_nonneg _ (by omega)) (Int.emod_lt_of_pos _ h0) ⟨cs, a, _, _, _, ⟨M.set_same, hp.pos, hp.a0, Int.ediv_nonneg hp.b0 (by omega)⟩⟩ (hb.trans But.set))
  repeat (first | refine sM ha ?_ | refine sM M.set_same ?_ | refine sS rfl ?_ | refine sN rfl ?_)
  refine sB (fun hb => ?_) (fun hb => ?_)
  rotate_left
  · exact sF rfl (hJ _ _ ⟨a, b, c, d, none, rfl, hp, But.refl⟩)
  repeat (first | refine sM ha ?_ | refine sM M.set_same ?_ | refine sS rfl ?_ | refine sN rfl ?_)
  refine sB (fun hc => ?_) (fun hc => hJ _ _ ⟨a, b, c, d, none, rfl, hp, But.refl⟩)
  refine sM ha ?_
  refine sS rfl ?_
  refine sM ha ?_
  refine sS rfl ?_
  obtain ⟨j, x, e1, e2, e3, e4⟩ := xat_lt (xs := cs) hp.a0 (by simpa using hc)
  have hx := hp.pos x e4
  have ha0 := hp.a0
  refine sS (xat_enc e3) ?_
  repeat (first | refine sM ha ?_ | refine sM M.set_same ?_ | refine sS rfl ?_ | refine sN rfl ?_)
  refine And.intro (by decide) ?_
  refine sB (fun hd => ?_) (fun hd => ?_)
  · refine sM M.set_same ?_
    refine sN rfl ?_
    exact hJ _ _ ⟨a + 1, x, c, d, some (.int x), rfl, ⟨M.set_same, hp.pos, by omega, hx⟩, But.set.trans But.set⟩
  · repeat (first | refine sM ha ?_ | refine sM M.set_same ?_ | refine sS rfl ?_ | refine sN rfl ?_)
    refine And.intro (.inr (by decide)) ?_
    refine And.intro (by decide) ?_
    refine And.intro (.inr (by decide)) ?_
    repeat (first | refine sM ha ?_ | refine sM M.set_same ?_ | refine sS rfl ?_ | refine sN rfl ?_)
    refine And.intro (by decide) ?_
    refine sM M.set_same ?_
    refine sN rfl ?_
    exact hJ _ _ ⟨a + 1, b, _, d, some (.int x), rfl, ⟨M.set_same, hp.pos, by omega, hp.b0⟩, But.set.trans But.set⟩
theorem any_ok {p : Addr} {ds : List D} {m : M} {k : D → M → Prop} (hp : Pool m p) (h0 : ds ≠ []) (h1 : ds.length < 1073741824) (q : ∀ d m', d ∈ ds → Pool m' p → But p m m' → k d m') : sp__law_any [.ref p, .lst ds] m k := by
  have hl : 0 < ds.length := by cases ds with | nil => exact absurd rfl h0 | cons _ _ => exact Nat.succ_pos _
  refine .mk ?_
  refine draw_ok hp (by omega) (by omega) fun i m' hi1 hi2 hp' hb => ?_
  obtain ⟨j, x, e1, e2, e3, e4⟩ := xat_lt (xs := ds) hi1 hi2
  exact sS e3 (retD.here (q x m' e4 hp' hb))
theorem any_okT {p : Addr} {ds : List D} {m : M} {k : D → M → Prop} (hp : Pool m p) (h0 : ds ≠ []) (h1 : ds.length < 1073741824) (q : ∀ d m', d ∈ ds → Pool m' p → But p m m' → k d m') : sp__law_any [.ref p, .tup ds] m k := by
  have hl : 0 < ds.length := by cases ds with | nil => exact absurd rfl h0 | cons _ _ => exact Nat.succ_pos _
  refine .mk ?_
  refine draw_ok hp (by omega) (by omega) fun i m' hi1 hi2 hp' hb => ?_
  obtain ⟨j, x, e1, e2, e3, e4⟩ := xat_lt (xs := ds) hi1 hi2
  exact sS e3 (retD.here (q x m' e4 hp' hb))
theorem cutD_map (f : Int → D) (xs : List Int) (lo hi : Option Int) : ∃ ys : List Int, cutD (xs.map f) lo hi = ys.map f := by
  unfold cutD
  rw [← List.map_drop, ← List.map_take]
  exact ⟨_, rfl⟩
theorem pool_ok {ns : List Int} {m : M} {k : D → M → Prop} (q : ∀ p m', m p = none → Pool m' p → But p m m' → k (.ref p) m') : sp__law_pool [.scr ns] m k := by
  refine .mk ?_
  unfold v__law_pool
  obtain ⟨ys, ey⟩ := cutD_map D.int ns none (some 63)
  show Rg (lcGoX (fun _ => True) _ _ _ _ _ (cutD (ns.map D.int) none (some 63)) [] m)
  rw [ey]
  refine lc_pure D.int (fun _ => true) (fun x => .int (if x < 0 then -x else x)) trivial ys [] (fun x hx K hK => hK _ (fun k q => q) (fun _ k q => q)) ?_
  refine And.intro (by simp) ?_
  refine fun p hp => ?_
  refine retD.here (q p _ hp ⟨ys.map (fun x => if x < 0 then -x else x), 0, 0, 1 + (ns.length : Int), 0, ⟨?_, ?_, by decide, by decide⟩⟩ But.set)
  · refine M.set_same.trans ?_
    rw [show ys.filter (fun _ => true) = ys from List.filter_eq_self.mpr fun _ _ => rfl, List.map_map]
    rfl
  · intro x hx
    obtain ⟨y, _, e⟩ := List.mem_map.mp hx
    subst e
    split <;> omega
end T

set_option Elab.async false
set_option linter.all false
set_option maxRecDepth 100000
set_option maxHeartbeats 2000000
/-! the module histories: what its defs answer -/
namespace T
open PySem PySem.Spec PyProof.Rows L2
def w_is_integer : WS :=
  (wRet (wAndV (wCall (f2 fIsi) (wCons (wV 0) (wCons (wC (.ty "int")) wNil))) (wNotV (wCall (f2 fIsi) (wCons (wV 0) (wCons (wC (.ty "bool")) wNil))))))
def v_is_integer : WS :=
  (wRet (yAndV (wCall (f2 xIsi) (wCons (wV 0) (wCons (wC (.ty "int")) wNil))) (wNotV (wCall (f2 xIsi) (wCons (wV 0) (wCons (wC (.ty "bool")) wNil))))))
theorem wv_is_integer : w_is_integer = v_is_integer := by simp only [w_is_integer, v_is_integer, fIx_x, fLen_x, fAppend_x, fExtend_x, fPop_x, fPopAt_x, fRemove_x, fAll_x, fAny_x, fMax_x, fMin_x, fSum_x, fSortI_x, fSortD_x, fList_x, fTuple_x, fRev_x, fIn_x, fIndex_x, fIsi_x, seqI_y, enum_y, store_y, sortIt_y, sl_y, unl_y, and_y, or_y, andV_y, orV_y, if_y, chain_y, ifS_y, for_y, while_y, lc_y]
inductive sp_is_integer : FA
  | mk {x0 : D} {m : M} {k : D → M → Prop} (h : v_is_integer (endsD k) [some x0] m) : sp_is_integer [x0] m k
def w_is_between : WS :=
  (wRet (wAndV (wCall sp_is_integer (wCons (wV 0) wNil)) (wChain fLe fLe (wV 1) (wV 0) (wV 2))))
def v_is_between : WS :=
  (wRet (yAndV (wCall sp_is_integer (wCons (wV 0) wNil)) (yChain fLe fLe (wV 1) (wV 0) (wV 2))))
theorem wv_is_between : w_is_between = v_is_between := by simp only [w_is_between, v_is_between, fIx_x, fLen_x, fAppend_x, fExtend_x, fPop_x, fPopAt_x, fRemove_x, fAll_x, fAny_x, fMax_x, fMin_x, fSum_x, fSortI_x, fSortD_x, fList_x, fTuple_x, fRev_x, fIn_x, fIndex_x, fIsi_x, seqI_y, enum_y, store_y, sortIt_y, sl_y, unl_y, and_y, or_y, andV_y, orV_y, if_y, chain_y, ifS_y, for_y, while_y, lc_y]
inductive sp_is_between : FA
  | mk {x0 x1 x2 : D} {m : M} {k : D → M → Prop} (h : v_is_between (endsD k) [some x0, some x1, some x2] m) : sp_is_between [x0, x1, x2] m k
def w_are_writes : WS :=
  (wSeq (wIfS (wOr (wNot (wTv (wCall (f2 fIsi) (wCons (wV 0) (wCons (wC (.ty "tuple")) wNil))))) (wNot (wTv (wCall (f1 fAll) (wCons (wLc true (wSeqI (wV 0)) (.one 1) wYes (wCall sp_is_between (wCons (wV 1) (wCons (wC (.int 0)) (wCons (wC (.int 99)) wNil)))) [1]) wNil)))))
    (wRet (wC (.bl false)))
    wNext)
  (wRet (wCall (f1 fAll) (wCons (wLc true (wZip (wV 0) (wSl true (wV 0) (some (wC (.int 1))) none)) (.tup [2, 3]) wYes (wB fLt (wV 2) (wV 3)) [2, 3]) wNil))))
def v_are_writes : WS :=
  (wSeq (yIfS (yOr (wNot (wTv (wCall (f2 xIsi) (wCons (wV 0) (wCons (wC (.ty "tuple")) wNil))))) (wNot (wTv (wCall (f1 xAll) (wCons (yLc true (ySeqI (wV 0)) (.one 1) wYes (wCall sp_is_between (wCons (wV 1) (wCons (wC (.int 0)) (wCons (wC (.int 99)) wNil)))) [1]) wNil)))))
    (wRet (wC (.bl false)))
    wNext)
  (wRet (wCall (f1 xAll) (wCons (yLc true (wZip (wV 0) (ySl true (wV 0) (some (wC (.int 1))) none)) (.tup [2, 3]) wYes (wB fLt (wV 2) (wV 3)) [2, 3]) wNil))))
theorem wv_are_writes : w_are_writes = v_are_writes := by simp only [w_are_writes, v_are_writes, fIx_x, fLen_x, fAppend_x, fExtend_x, fPop_x, fPopAt_x, fRemove_x, fAll_x, fAny_x, fMax_x, fMin_x, fSum_x, fSortI_x, fSortD_x, fList_x, fTuple_x, fRev_x, fIn_x, fIndex_x, fIsi_x, seqI_y, enum_y, store_y, sortIt_y, sl_y, unl_y, and_y, or_y, andV_y, orV_y, if_y, chain_y, ifS_y, for_y, while_y, lc_y]
inductive sp_are_writes : FA
  | mk {x0 : D} {m : M} {k : D → M → Prop} (h : v_are_writes (endsD k) [some x0, none, none, none] m) : sp_are_writes [x0] m k
def w_is_read : WS :=
  (wSeq (wIfS (wOr (wNot (wTv (wCall (f2 fIsi) (wCons (wV 0) (wCons (wC (.ty "tuple")) wNil))))) (wOr (wTv (wB (fEq true) (wCall (f1 fLen) (wCons (wV 0) wNil)) (wC (.int 2)))) (wNot (wTv (wCall sp_is_between (wCons (wB fIx (wV 0) (wC (.int 0))) (wCons (wC (.int 0)) (wCons (wC (.int 99)) wNil))))))))
    (wRet (wC (.bl false)))
    wNext)
  (wSeq (wIfS (wNot (wTv (wCall sp_is_between (wCons (wB fIx (wV 0) (wC (.int 1))) (wCons (wU fNeg (wC (.int 1))) (wCons (wB fSub (wCall (f1 fLen) (wCons (wV 1) wNil)) (wC (.int 1))) wNil))))))
    (wRet (wC (.bl false)))
    wNext)
  (wRet (wOrV (wB (fEq false) (wB fIx (wV 0) (wC (.int 1))) (wU fNeg (wC (.int 1)))) (wB (fIn false) (wB fIx (wV 0) (wC (.int 0))) (wB fIx (wB fIx (wV 1) (wB fIx (wV 0) (wC (.int 1)))) (wC (.int 1))))))))
def v_is_read : WS :=
  (wSeq (yIfS (yOr (wNot (wTv (wCall (f2 xIsi) (wCons (wV 0) (wCons (wC (.ty "tuple")) wNil))))) (yOr (wTv (wB (fEq true) (wCall (f1 xLen) (wCons (wV 0) wNil)) (wC (.int 2)))) (wNot (wTv (wCall sp_is_between (wCons (wB xIx (wV 0) (wC (.int 0))) (wCons (wC (.int 0)) (wCons (wC (.int 99)) wNil))))))))
    (wRet (wC (.bl false)))
    wNext)
  (wSeq (yIfS (wNot (wTv (wCall sp_is_between (wCons (wB xIx (wV 0) (wC (.int 1))) (wCons (wU fNeg (wC (.int 1))) (wCons (wB fSub (wCall (f1 xLen) (wCons (wV 1) wNil)) (wC (.int 1))) wNil))))))
    (wRet (wC (.bl false)))
    wNext)
  (wRet (yOrV (wB (fEq false) (wB xIx (wV 0) (wC (.int 1))) (wU fNeg (wC (.int 1)))) (wB (xIn false) (wB xIx (wV 0) (wC (.int 0))) (wB xIx (wB xIx (wV 1) (wB xIx (wV 0) (wC (.int 1)))) (wC (.int 1))))))))
theorem wv_is_read : w_is_read = v_is_read := by simp only [w_is_read, v_is_read, fIx_x, fLen_x, fAppend_x, fExtend_x, fPop_x, fPopAt_x, fRemove_x, fAll_x, fAny_x, fMax_x, fMin_x, fSum_x, fSortI_x, fSortD_x, fList_x, fTuple_x, fRev_x, fIn_x, fIndex_x, fIsi_x, seqI_y, enum_y, store_y, sortIt_y, sl_y, unl_y, and_y, or_y, andV_y, orV_y, if_y, chain_y, ifS_y, for_y, while_y, lc_y]
inductive sp_is_read : FA
  | mk {x0 x1 : D} {m : M} {k : D → M → Prop} (h : v_is_read (endsD k) [some x0, some x1] m) : sp_is_read [x0, x1] m k
def w_are_reads : WS :=
  (wSeq (wIfS (wOr (wNot (wTv (wCall (f2 fIsi) (wCons (wV 0) (wCons (wC (.ty "tuple")) wNil))))) (wNot (wTv (wCall (f1 fAll) (wCons (wLc true (wSeqI (wV 0)) (.one 3) wYes (wCall sp_is_read (wCons (wV 3) (wCons (wV 2) wNil))) [3]) wNil)))))
    (wRet (wC (.bl false)))
    wNext)
  (wSeq (wIfS (wTv (wCall (f1 fAny) (wCons (wLc true (wSeqI (wV 0)) (.one 3) wYes (wB (fEq false) (wB fIx (wV 3) (wC (.int 1))) (wV 1)) [3]) wNil)))
    (wRet (wC (.bl false)))
    wNext)
  (wRet (wCall (f1 fAll) (wCons (wLc true (wZip (wV 0) (wSl true (wV 0) (some (wC (.int 1))) none)) (.tup [4, 5]) wYes (wB fLt (wB fIx (wV 4) (wC (.int 0))) (wB fIx (wV 5) (wC (.int 0)))) [4, 5]) wNil)))))
def v_are_reads : WS :=
  (wSeq (yIfS (yOr (wNot (wTv (wCall (f2 xIsi) (wCons (wV 0) (wCons (wC (.ty "tuple")) wNil))))) (wNot (wTv (wCall (f1 xAll) (wCons (yLc true (ySeqI (wV 0)) (.one 3) wYes (wCall sp_is_read (wCons (wV 3) (wCons (wV 2) wNil))) [3]) wNil)))))
    (wRet (wC (.bl false)))
    wNext)
  (wSeq (yIfS (wTv (wCall (f1 xAny) (wCons (yLc true (ySeqI (wV 0)) (.one 3) wYes (wB (fEq false) (wB xIx (wV 3) (wC (.int 1))) (wV 1)) [3]) wNil)))
    (wRet (wC (.bl false)))
    wNext)
  (wRet (wCall (f1 xAll) (wCons (yLc true (wZip (wV 0) (ySl true (wV 0) (some (wC (.int 1))) none)) (.tup [4, 5]) wYes (wB fLt (wB xIx (wV 4) (wC (.int 0))) (wB xIx (wV 5) (wC (.int 0)))) [4, 5]) wNil)))))
theorem wv_are_reads : w_are_reads = v_are_reads := by simp only [w_are_reads, v_are_reads, fIx_x, fLen_x, fAppend_x, fExtend_x, fPop_x, fPopAt_x, fRemove_x, fAll_x, fAny_x, fMax_x, fMin_x, fSum_x, fSortI_x, fSortD_x, fList_x, fTuple_x, fRev_x, fIn_x, fIndex_x, fIsi_x, seqI_y, enum_y, store_y, sortIt_y, sl_y, unl_y, and_y, or_y, andV_y, orV_y, if_y, chain_y, ifS_y, for_y, while_y, lc_y]
inductive sp_are_reads : FA
  | mk {x0 x1 x2 : D} {m : M} {k : D → M → Prop} (h : v_are_reads (endsD k) [some x0, some x1, some x2, none, none, none] m) : sp_are_reads [x0, x1, x2] m k
def w_is_history : WS :=
  (wSeq (wIfS (wOr (wNot (wTv (wCall (f2 fIsi) (wCons (wV 0) (wCons (wC (.ty "tuple")) wNil))))) (wTv (wB fGt (wCall (f1 fLen) (wCons (wV 0) wNil)) (wC (.int 12)))))
    (wRet (wC (.bl false)))
    wNext)
  (wSeq (wIfS (wNot (wTv (wCall (f1 fAll) (wCons (wLc true (wSeqI (wV 0)) (.one 1) wYes (wAndV (wCall (f2 fIsi) (wCons (wV 1) (wCons (wC (.ty "tuple")) wNil))) (wAndV (wB (fEq false) (wCall (f1 fLen) (wCons (wV 1) wNil)) (wC (.int 2))) (wCall sp_are_writes (wCons (wB fIx (wV 1) (wC (.int 1))) wNil)))) [1]) wNil))))
    (wRet (wC (.bl false)))
    wNext)
  (wRet (wCall (f1 fAll) (wCons (wLc true (wEnum (wV 0)) (.tup [2, 1]) wYes (wCall sp_are_reads (wCons (wB fIx (wV 1) (wC (.int 0))) (wCons (wV 2) (wCons (wV 0) wNil)))) [2, 1]) wNil)))))
def v_is_history : WS :=
  (wSeq (yIfS (yOr (wNot (wTv (wCall (f2 xIsi) (wCons (wV 0) (wCons (wC (.ty "tuple")) wNil))))) (wTv (wB fGt (wCall (f1 xLen) (wCons (wV 0) wNil)) (wC (.int 12)))))
    (wRet (wC (.bl false)))
    wNext)
  (wSeq (yIfS (wNot (wTv (wCall (f1 xAll) (wCons (yLc true (ySeqI (wV 0)) (.one 1) wYes (yAndV (wCall (f2 xIsi) (wCons (wV 1) (wCons (wC (.ty "tuple")) wNil))) (yAndV (wB (fEq false) (wCall (f1 xLen) (wCons (wV 1) wNil)) (wC (.int 2))) (wCall sp_are_writes (wCons (wB xIx (wV 1) (wC (.int 1))) wNil)))) [1]) wNil))))
    (wRet (wC (.bl false)))
    wNext)
  (wRet (wCall (f1 xAll) (wCons (yLc true (yEnum (wV 0)) (.tup [2, 1]) wYes (wCall sp_are_reads (wCons (wB xIx (wV 1) (wC (.int 0))) (wCons (wV 2) (wCons (wV 0) wNil)))) [2, 1]) wNil)))))
theorem wv_is_history : w_is_history = v_is_history := by simp only [w_is_history, v_is_history, fIx_x, fLen_x, fAppend_x, fExtend_x, fPop_x, fPopAt_x, fRemove_x, fAll_x, fAny_x, fMax_x, fMin_x, fSum_x, fSortI_x, fSortD_x, fList_x, fTuple_x, fRev_x, fIn_x, fIndex_x, fIsi_x, seqI_y, enum_y, store_y, sortIt_y, sl_y, unl_y, and_y, or_y, andV_y, orV_y, if_y, chain_y, ifS_y, for_y, while_y, lc_y]
inductive sp_is_history : FA
  | mk {x0 : D} {m : M} {k : D → M → Prop} (h : v_is_history (endsD k) [some x0, none, none] m) : sp_is_history [x0] m k
def w_check_history : WS :=
  (wIfS (wNot (wTv (wCall sp_is_history (wCons (wV 0) wNil))))
    wNever
    wNext)
def v_check_history : WS :=
  (yIfS (wNot (wTv (wCall sp_is_history (wCons (wV 0) wNil))))
    wNever
    wNext)
theorem wv_check_history : w_check_history = v_check_history := by simp only [w_check_history, v_check_history, fIx_x, fLen_x, fAppend_x, fExtend_x, fPop_x, fPopAt_x, fRemove_x, fAll_x, fAny_x, fMax_x, fMin_x, fSum_x, fSortI_x, fSortD_x, fList_x, fTuple_x, fRev_x, fIn_x, fIndex_x, fIsi_x, seqI_y, enum_y, store_y, sortIt_y, sl_y, unl_y, and_y, or_y, andV_y, orV_y, if_y, chain_y, ifS_y, for_y, while_y, lc_y]
inductive sp_check_history : FA
  | mk {x0 : D} {m : M} {k : D → M → Prop} (h : v_check_history (endsD k) [some x0] m) : sp_check_history [x0] m k
def w_writers : WS :=
  (wRet (wLc true (wEnum (wV 0)) (.tup [2, 3]) (wTv (wB (fIn false) (wV 1) (wB fIx (wV 3) (wC (.int 1))))) (wV 2) [2, 3]))
def v_writers : WS :=
  (wRet (yLc true (yEnum (wV 0)) (.tup [2, 3]) (wTv (wB (xIn false) (wV 1) (wB xIx (wV 3) (wC (.int 1))))) (wV 2) [2, 3]))
theorem wv_writers : w_writers = v_writers := by simp only [w_writers, v_writers, fIx_x, fLen_x, fAppend_x, fExtend_x, fPop_x, fPopAt_x, fRemove_x, fAll_x, fAny_x, fMax_x, fMin_x, fSum_x, fSortI_x, fSortD_x, fList_x, fTuple_x, fRev_x, fIn_x, fIndex_x, fIsi_x, seqI_y, enum_y, store_y, sortIt_y, sl_y, unl_y, and_y, or_y, andV_y, orV_y, if_y, chain_y, ifS_y, for_y, while_y, lc_y]
inductive sp_writers : FA
  | mk {x0 x1 : D} {m : M} {k : D → M → Prop} (h : v_writers (endsD k) [some x0, some x1, none, none] m) : sp_writers [x0, x1] m k
def w_next_writer : WS :=
  (wSeq (wSet (wLc true (wSeqI (wCall sp_writers (wCons (wV 0) (wCons (wV 1) wNil)))) (.one 4) (wTv (wB fGt (wV 4) (wV 2))) (wV 4) [4]) (.one 3))
  (wSeq (wIfS (wTv (wB (fEq false) (wCall (f1 fLen) (wCons (wV 3) wNil)) (wC (.int 0))))
    (wRet (wC .non))
    wNext)
  (wRet (wB fIx (wV 3) (wC (.int 0))))))
def v_next_writer : WS :=
  (wSeq (wSet (yLc true (ySeqI (wCall sp_writers (wCons (wV 0) (wCons (wV 1) wNil)))) (.one 4) (wTv (wB fGt (wV 4) (wV 2))) (wV 4) [4]) (.one 3))
  (wSeq (yIfS (wTv (wB (fEq false) (wCall (f1 xLen) (wCons (wV 3) wNil)) (wC (.int 0))))
    (wRet (wC .non))
    wNext)
  (wRet (wB xIx (wV 3) (wC (.int 0))))))
theorem wv_next_writer : w_next_writer = v_next_writer := by simp only [w_next_writer, v_next_writer, fIx_x, fLen_x, fAppend_x, fExtend_x, fPop_x, fPopAt_x, fRemove_x, fAll_x, fAny_x, fMax_x, fMin_x, fSum_x, fSortI_x, fSortD_x, fList_x, fTuple_x, fRev_x, fIn_x, fIndex_x, fIsi_x, seqI_y, enum_y, store_y, sortIt_y, sl_y, unl_y, and_y, or_y, andV_y, orV_y, if_y, chain_y, ifS_y, for_y, while_y, lc_y]
inductive sp_next_writer : FA
  | mk {x0 x1 x2 : D} {m : M} {k : D → M → Prop} (h : v_next_writer (endsD k) [some x0, some x1, some x2, none, none] m) : sp_next_writer [x0, x1, x2] m k
def w_edges_of : WS :=
  (wSeq (wSet (wLst false wNil) (.one 1))
  (wSeq (wFor (wEnum (wV 0)) (.tup [2, 3])
    (wSeq (wFor (wSeqI (wB fIx (wV 3) (wC (.int 1)))) (.one 4)
      (wDrop (wMt "list" (m1 fExtend) (wV 1) (wCons (wLc true (wSeqI (wCall sp_writers (wCons (wV 0) (wCons (wV 4) wNil)))) (.one 5) (wTv (wB fGt (wV 5) (wV 2))) (wTup (wCons (wV 2) (wCons (wV 5) (wCons (wC (.str "wrote")) (wCons (wV 4) wNil))))) [5]) wNil))))
    (wFor (wSeqI (wB fIx (wV 3) (wC (.int 0)))) (.tup [4, 6])
      (wSeq (wIfS (wTv (wB (fEq true) (wV 6) (wU fNeg (wC (.int 1)))))
        (wDrop (wMt "list" (m1 fAppend) (wV 1) (wCons (wTup (wCons (wV 6) (wCons (wV 2) (wCons (wC (.str "read")) (wCons (wV 4) wNil))))) wNil)))
        wNext)
      (wSeq (wSet (wCall sp_next_writer (wCons (wV 0) (wCons (wV 4) (wCons (wV 6) wNil)))) (.one 7))
      (wIfS (wAnd (wTv (wB (fIs true) (wV 7) (wC .non))) (wTv (wB (fEq true) (wV 7) (wV 2))))
        (wDrop (wMt "list" (m1 fAppend) (wV 1) (wCons (wTup (wCons (wV 2) (wCons (wV 7) (wCons (wC (.str "over")) (wCons (wV 4) wNil))))) wNil)))
        wNext))))))
  (wRet (wCall (f1 (fSortD true)) (wCons (wV 1) wNil)))))
def v_edges_of : WS :=
  (wSeq (wSet (wLst false wNil) (.one 1))
  (wSeq (yFor (yEnum (wV 0)) (.tup [2, 3])
    (wSeq (yFor (ySeqI (wB xIx (wV 3) (wC (.int 1)))) (.one 4)
      (wDrop (wMt "list" (m1 xExtend) (wV 1) (wCons (yLc true (ySeqI (wCall sp_writers (wCons (wV 0) (wCons (wV 4) wNil)))) (.one 5) (wTv (wB fGt (wV 5) (wV 2))) (wTup (wCons (wV 2) (wCons (wV 5) (wCons (wC (.str "wrote")) (wCons (wV 4) wNil))))) [5]) wNil))))
    (yFor (ySeqI (wB xIx (wV 3) (wC (.int 0)))) (.tup [4, 6])
      (wSeq (yIfS (wTv (wB (fEq true) (wV 6) (wU fNeg (wC (.int 1)))))
        (wDrop (wMt "list" (m1 xAppend) (wV 1) (wCons (wTup (wCons (wV 6) (wCons (wV 2) (wCons (wC (.str "read")) (wCons (wV 4) wNil))))) wNil)))
        wNext)
      (wSeq (wSet (wCall sp_next_writer (wCons (wV 0) (wCons (wV 4) (wCons (wV 6) wNil)))) (.one 7))
      (yIfS (yAnd (wTv (wB (fIs true) (wV 7) (wC .non))) (wTv (wB (fEq true) (wV 7) (wV 2))))
        (wDrop (wMt "list" (m1 xAppend) (wV 1) (wCons (wTup (wCons (wV 2) (wCons (wV 7) (wCons (wC (.str "over")) (wCons (wV 4) wNil))))) wNil)))
        wNext))))))
  (wRet (wCall (f1 (xSortD true)) (wCons (wV 1) wNil)))))
theorem wv_edges_of : w_edges_of = v_edges_of := by simp only [w_edges_of, v_edges_of, fIx_x, fLen_x, fAppend_x, fExtend_x, fPop_x, fPopAt_x, fRemove_x, fAll_x, fAny_x, fMax_x, fMin_x, fSum_x, fSortI_x, fSortD_x, fList_x, fTuple_x, fRev_x, fIn_x, fIndex_x, fIsi_x, seqI_y, enum_y, store_y, sortIt_y, sl_y, unl_y, and_y, or_y, andV_y, orV_y, if_y, chain_y, ifS_y, for_y, while_y, lc_y]
inductive sp_edges_of : FA
  | mk {x0 : D} {m : M} {k : D → M → Prop} (h : v_edges_of (endsD k) [some x0, none, none, none, none, none, none, none] m) : sp_edges_of [x0] m k
def w_edges : WS :=
  (wSeq (wDrop (wCall sp_check_history (wCons (wV 0) wNil)))
  (wRet (wCall sp_edges_of (wCons (wV 0) wNil))))
def v_edges : WS :=
  (wSeq (wDrop (wCall sp_check_history (wCons (wV 0) wNil)))
  (wRet (wCall sp_edges_of (wCons (wV 0) wNil))))
theorem wv_edges : w_edges = v_edges := by simp only [w_edges, v_edges, fIx_x, fLen_x, fAppend_x, fExtend_x, fPop_x, fPopAt_x, fRemove_x, fAll_x, fAny_x, fMax_x, fMin_x, fSum_x, fSortI_x, fSortD_x, fList_x, fTuple_x, fRev_x, fIn_x, fIndex_x, fIsi_x, seqI_y, enum_y, store_y, sortIt_y, sl_y, unl_y, and_y, or_y, andV_y, orV_y, if_y, chain_y, ifS_y, for_y, while_y, lc_y]
inductive sp_edges : FA
  | mk {x0 : D} {m : M} {k : D → M → Prop} (h : v_edges (endsD k) [some x0] m) : sp_edges [x0] m k
def w_webs : WS :=
  (wSeq (wSet (wLc true (wSeqI (wV 0)) (.one 2) wYes wDic0 [2]) (.one 1))
  (wSeq (wFor (wSeqI (wCall sp_edges_of (wCons (wV 0) wNil))) (.tup [3, 4, 2, 2])
    (wStore (wC (.bl true)) (wB fIx (wV 1) (wV 3)) (wV 4)))
  (wRet (wV 1))))
def v_webs : WS :=
  (wSeq (wSet (yLc true (ySeqI (wV 0)) (.one 2) wYes wDic0 [2]) (.one 1))
  (wSeq (yFor (ySeqI (wCall sp_edges_of (wCons (wV 0) wNil))) (.tup [3, 4, 2, 2])
    (yStore (wC (.bl true)) (wB xIx (wV 1) (wV 3)) (wV 4)))
  (wRet (wV 1))))
theorem wv_webs : w_webs = v_webs := by simp only [w_webs, v_webs, fIx_x, fLen_x, fAppend_x, fExtend_x, fPop_x, fPopAt_x, fRemove_x, fAll_x, fAny_x, fMax_x, fMin_x, fSum_x, fSortI_x, fSortD_x, fList_x, fTuple_x, fRev_x, fIn_x, fIndex_x, fIsi_x, seqI_y, enum_y, store_y, sortIt_y, sl_y, unl_y, and_y, or_y, andV_y, orV_y, if_y, chain_y, ifS_y, for_y, while_y, lc_y]
inductive sp_webs : FA
  | mk {x0 : D} {m : M} {k : D → M → Prop} (h : v_webs (endsD k) [some x0, none, none, none, none] m) : sp_webs [x0] m k
def w_order_of : WS :=
  (wSeq (wSet (wCall sp_webs (wCons (wV 0) wNil)) (.one 1))
  (wSeq (wSet (wListRg false (wCall (f1 fLen) (wCons (wV 0) wNil))) (.one 2))
  (wSeq (wSet (wLst false wNil) (.one 3))
  (wWhile (wTv (wC (.bl true)))
    (wSeq (wSet (wLc true (wSeqI (wV 2)) (.one 5) (wNot (wTv (wCall (f1 fAny) (wCons (wLc true (wSeqI (wV 2)) (.one 6) wYes (wB (fIn false) (wV 5) (wB fIx (wV 1) (wV 6))) [6]) wNil)))) (wV 5) [5]) (.one 4))
    (wSeq (wIfS (wTv (wB (fEq false) (wCall (f1 fLen) (wCons (wV 4) wNil)) (wC (.int 0))))
      (wRet (wCall (f1 fTuple) (wCons (wV 3) wNil)))
      wNext)
    (wSeq (wDrop (wMt "list" (m1 fAppend) (wV 3) (wCons (wB fIx (wV 4) (wC (.int 0))) wNil)))
    (wDrop (wMt "list" (m1 fRemove) (wV 2) (wCons (wB fIx (wV 4) (wC (.int 0))) wNil))))))))))
def v_order_of : WS :=
  (wSeq (wSet (wCall sp_webs (wCons (wV 0) wNil)) (.one 1))
  (wSeq (wSet (wListRg false (wCall (f1 xLen) (wCons (wV 0) wNil))) (.one 2))
  (wSeq (wSet (wLst false wNil) (.one 3))
  (yWhile (wTv (wC (.bl true)))
    (wSeq (wSet (yLc true (ySeqI (wV 2)) (.one 5) (wNot (wTv (wCall (f1 xAny) (wCons (yLc true (ySeqI (wV 2)) (.one 6) wYes (wB (xIn false) (wV 5) (wB xIx (wV 1) (wV 6))) [6]) wNil)))) (wV 5) [5]) (.one 4))
    (wSeq (yIfS (wTv (wB (fEq false) (wCall (f1 xLen) (wCons (wV 4) wNil)) (wC (.int 0))))
      (wRet (wCall (f1 xTuple) (wCons (wV 3) wNil)))
      wNext)
    (wSeq (wDrop (wMt "list" (m1 xAppend) (wV 3) (wCons (wB xIx (wV 4) (wC (.int 0))) wNil)))
    (wDrop (wMt "list" (m1 xRemove) (wV 2) (wCons (wB xIx (wV 4) (wC (.int 0))) wNil))))))))))
theorem wv_order_of : w_order_of = v_order_of := by simp only [w_order_of, v_order_of, fIx_x, fLen_x, fAppend_x, fExtend_x, fPop_x, fPopAt_x, fRemove_x, fAll_x, fAny_x, fMax_x, fMin_x, fSum_x, fSortI_x, fSortD_x, fList_x, fTuple_x, fRev_x, fIn_x, fIndex_x, fIsi_x, seqI_y, enum_y, store_y, sortIt_y, sl_y, unl_y, and_y, or_y, andV_y, orV_y, if_y, chain_y, ifS_y, for_y, while_y, lc_y]
inductive sp_order_of : FA
  | mk {x0 : D} {m : M} {k : D → M → Prop} (h : v_order_of (endsD k) [some x0, none, none, none, none, none, none] m) : sp_order_of [x0] m k
def w_one_order : WS :=
  (wSeq (wDrop (wCall sp_check_history (wCons (wV 0) wNil)))
  (wSeq (wSet (wCall sp_order_of (wCons (wV 0) wNil)) (.one 1))
  (wSeq (wIfS (wTv (wB fLt (wCall (f1 fLen) (wCons (wV 1) wNil)) (wCall (f1 fLen) (wCons (wV 0) wNil))))
    (wRet (wC .non))
    wNext)
  (wRet (wV 1)))))
def v_one_order : WS :=
  (wSeq (wDrop (wCall sp_check_history (wCons (wV 0) wNil)))
  (wSeq (wSet (wCall sp_order_of (wCons (wV 0) wNil)) (.one 1))
  (wSeq (yIfS (wTv (wB fLt (wCall (f1 xLen) (wCons (wV 1) wNil)) (wCall (f1 xLen) (wCons (wV 0) wNil))))
    (wRet (wC .non))
    wNext)
  (wRet (wV 1)))))
theorem wv_one_order : w_one_order = v_one_order := by simp only [w_one_order, v_one_order, fIx_x, fLen_x, fAppend_x, fExtend_x, fPop_x, fPopAt_x, fRemove_x, fAll_x, fAny_x, fMax_x, fMin_x, fSum_x, fSortI_x, fSortD_x, fList_x, fTuple_x, fRev_x, fIn_x, fIndex_x, fIsi_x, seqI_y, enum_y, store_y, sortIt_y, sl_y, unl_y, and_y, or_y, andV_y, orV_y, if_y, chain_y, ifS_y, for_y, while_y, lc_y]
inductive sp_one_order : FA
  | mk {x0 : D} {m : M} {k : D → M → Prop} (h : v_one_order (endsD k) [some x0, none] m) : sp_one_order [x0] m k
def w_ring : WS :=
  (wSeq (wDrop (wCall sp_check_history (wCons (wV 0) wNil)))
  (wSeq (wSet (wCall sp_webs (wCons (wV 0) wNil)) (.one 1))
  (wSeq (wSet (wCall sp_order_of (wCons (wV 0) wNil)) (.one 2))
  (wSeq (wSet (wLc true (wRng1 (wCall (f1 fLen) (wCons (wV 0) wNil))) (.one 4) (wTv (wB (fIn true) (wV 4) (wV 2))) (wV 4) [4]) (.one 3))
  (wSeq (wIfS (wTv (wB (fEq false) (wCall (f1 fLen) (wCons (wV 3) wNil)) (wC (.int 0))))
    (wRet (wC .non))
    wNext)
  (wSeq (wSet (wLst false (wCons (wB fIx (wV 3) (wC (.int 0))) wNil)) (.one 5))
  (wSeq (wWhile (wTv (wB (fIn true) (wB fIx (wV 5) (wU fNeg (wC (.int 1)))) (wSl true (wV 5) none (some (wU fNeg (wC (.int 1)))))))
    (wDrop (wMt "list" (m1 fAppend) (wV 5) (wCons (wB fIx (wLc true (wSeqI (wV 3)) (.one 4) (wTv (wB (fIn false) (wB fIx (wV 5) (wU fNeg (wC (.int 1)))) (wB fIx (wV 1) (wV 4)))) (wV 4) [4]) (wC (.int 0))) wNil))))
  (wSeq (wSet (wSl true (wV 5) (some (wMt "list" (m1 fIndex) (wV 5) (wCons (wB fIx (wV 5) (wU fNeg (wC (.int 1)))) wNil))) (some (wU fNeg (wC (.int 1))))) (.one 6))
  (wRet (wCall (f1 fTuple) (wCons (wU (fRev true) (wV 6)) wNil)))))))))))
def v_ring : WS :=
  (wSeq (wDrop (wCall sp_check_history (wCons (wV 0) wNil)))
  (wSeq (wSet (wCall sp_webs (wCons (wV 0) wNil)) (.one 1))
  (wSeq (wSet (wCall sp_order_of (wCons (wV 0) wNil)) (.one 2))
  (wSeq (wSet (yLc true (wRng1 (wCall (f1 xLen) (wCons (wV 0) wNil))) (.one 4) (wTv (wB (xIn true) (wV 4) (wV 2))) (wV 4) [4]) (.one 3))
  (wSeq (yIfS (wTv (wB (fEq false) (wCall (f1 xLen) (wCons (wV 3) wNil)) (wC (.int 0))))
    (wRet (wC .non))
    wNext)
  (wSeq (wSet (wLst false (wCons (wB xIx (wV 3) (wC (.int 0))) wNil)) (.one 5))
  (wSeq (yWhile (wTv (wB (xIn true) (wB xIx (wV 5) (wU fNeg (wC (.int 1)))) (ySl true (wV 5) none (some (wU fNeg (wC (.int 1)))))))
    (wDrop (wMt "list" (m1 xAppend) (wV 5) (wCons (wB xIx (yLc true (ySeqI (wV 3)) (.one 4) (wTv (wB (xIn false) (wB xIx (wV 5) (wU fNeg (wC (.int 1)))) (wB xIx (wV 1) (wV 4)))) (wV 4) [4]) (wC (.int 0))) wNil))))
  (wSeq (wSet (ySl true (wV 5) (some (wMt "list" (m1 xIndex) (wV 5) (wCons (wB xIx (wV 5) (wU fNeg (wC (.int 1)))) wNil))) (some (wU fNeg (wC (.int 1))))) (.one 6))
  (wRet (wCall (f1 xTuple) (wCons (wU (xRev true) (wV 6)) wNil)))))))))))
theorem wv_ring : w_ring = v_ring := by simp only [w_ring, v_ring, fIx_x, fLen_x, fAppend_x, fExtend_x, fPop_x, fPopAt_x, fRemove_x, fAll_x, fAny_x, fMax_x, fMin_x, fSum_x, fSortI_x, fSortD_x, fList_x, fTuple_x, fRev_x, fIn_x, fIndex_x, fIsi_x, seqI_y, enum_y, store_y, sortIt_y, sl_y, unl_y, and_y, or_y, andV_y, orV_y, if_y, chain_y, ifS_y, for_y, while_y, lc_y]
inductive sp_ring : FA
  | mk {x0 : D} {m : M} {k : D → M → Prop} (h : v_ring (endsD k) [some x0, none, none, none, none, none, none] m) : sp_ring [x0] m k
def w_suits : WS :=
  (wSeq (wSet (wB fIx (wV 0) (wV 1)) (.tup [3, 4]))
  (wSeq (wFor (wSeqI (wV 3)) (.tup [5, 6])
    (wSeq (wSet (wLc true (wSeqI (wCall sp_writers (wCons (wV 0) (wCons (wV 5) wNil)))) (.one 8) (wTv (wB fLt (wV 8) (wV 2))) (wV 8) [8]) (.one 7))
    (wIfS (wTv (wB (fEq true) (wB fIx (wB fAdd (wLst true (wCons (wU fNeg (wC (.int 1))) wNil)) (wV 7)) (wU fNeg (wC (.int 1)))) (wV 6)))
      (wRet (wC (.bl false)))
      wNext)))
  (wSeq (wSet (wLc true (wRng2 (wV 2) (wV 1)) (.one 8) (wTv (wCall (f1 fAny) (wCons (wLc true (wSeqI (wV 4)) (.one 5) wYes (wB (fIn false) (wV 5) (wB fIx (wB fIx (wV 0) (wV 8)) (wC (.int 1)))) [5]) wNil))) (wV 8) [8]) (.one 9))
  (wRet (wB (fEq false) (wCall (f1 fLen) (wCons (wV 9) wNil)) (wC (.int 0)))))))
def v_suits : WS :=
  (wSeq (wSet (wB xIx (wV 0) (wV 1)) (.tup [3, 4]))
  (wSeq (yFor (ySeqI (wV 3)) (.tup [5, 6])
    (wSeq (wSet (yLc true (ySeqI (wCall sp_writers (wCons (wV 0) (wCons (wV 5) wNil)))) (.one 8) (wTv (wB fLt (wV 8) (wV 2))) (wV 8) [8]) (.one 7))
    (yIfS (wTv (wB (fEq true) (wB xIx (wB fAdd (wLst true (wCons (wU fNeg (wC (.int 1))) wNil)) (wV 7)) (wU fNeg (wC (.int 1)))) (wV 6)))
      (wRet (wC (.bl false)))
      wNext)))
  (wSeq (wSet (yLc true (wRng2 (wV 2) (wV 1)) (.one 8) (wTv (wCall (f1 xAny) (wCons (yLc true (ySeqI (wV 4)) (.one 5) wYes (wB (xIn false) (wV 5) (wB xIx (wB xIx (wV 0) (wV 8)) (wC (.int 1)))) [5]) wNil))) (wV 8) [8]) (.one 9))
  (wRet (wB (fEq false) (wCall (f1 xLen) (wCons (wV 9) wNil)) (wC (.int 0)))))))
theorem wv_suits : w_suits = v_suits := by simp only [w_suits, v_suits, fIx_x, fLen_x, fAppend_x, fExtend_x, fPop_x, fPopAt_x, fRemove_x, fAll_x, fAny_x, fMax_x, fMin_x, fSum_x, fSortI_x, fSortD_x, fList_x, fTuple_x, fRev_x, fIn_x, fIndex_x, fIsi_x, seqI_y, enum_y, store_y, sortIt_y, sl_y, unl_y, and_y, or_y, andV_y, orV_y, if_y, chain_y, ifS_y, for_y, while_y, lc_y]
inductive sp_suits : FA
  | mk {x0 x1 x2 : D} {m : M} {k : D → M → Prop} (h : v_suits (endsD k) [some x0, some x1, some x2, none, none, none, none, none, none, none] m) : sp_suits [x0, x1, x2] m k
def w_moment_of : WS :=
  (wSeq (wSet (wLc true (wRng1 (wB fAdd (wV 1) (wC (.int 1)))) (.one 3) (wTv (wCall sp_suits (wCons (wV 0) (wCons (wV 1) (wCons (wV 3) wNil))))) (wV 3) [3]) (.one 2))
  (wSeq (wIfS (wTv (wB (fEq false) (wCall (f1 fLen) (wCons (wV 2) wNil)) (wC (.int 0))))
    (wRet (wC .non))
    wNext)
  (wRet (wB fIx (wV 2) (wU fNeg (wC (.int 1)))))))
def v_moment_of : WS :=
  (wSeq (wSet (yLc true (wRng1 (wB fAdd (wV 1) (wC (.int 1)))) (.one 3) (wTv (wCall sp_suits (wCons (wV 0) (wCons (wV 1) (wCons (wV 3) wNil))))) (wV 3) [3]) (.one 2))
  (wSeq (yIfS (wTv (wB (fEq false) (wCall (f1 xLen) (wCons (wV 2) wNil)) (wC (.int 0))))
    (wRet (wC .non))
    wNext)
  (wRet (wB xIx (wV 2) (wU fNeg (wC (.int 1)))))))
theorem wv_moment_of : w_moment_of = v_moment_of := by simp only [w_moment_of, v_moment_of, fIx_x, fLen_x, fAppend_x, fExtend_x, fPop_x, fPopAt_x, fRemove_x, fAll_x, fAny_x, fMax_x, fMin_x, fSum_x, fSortI_x, fSortD_x, fList_x, fTuple_x, fRev_x, fIn_x, fIndex_x, fIsi_x, seqI_y, enum_y, store_y, sortIt_y, sl_y, unl_y, and_y, or_y, andV_y, orV_y, if_y, chain_y, ifS_y, for_y, while_y, lc_y]
inductive sp_moment_of : FA
  | mk {x0 x1 : D} {m : M} {k : D → M → Prop} (h : v_moment_of (endsD k) [some x0, some x1, none, none] m) : sp_moment_of [x0, x1] m k
def w_moments : WS :=
  (wSeq (wDrop (wCall sp_check_history (wCons (wV 0) wNil)))
  (wRet (wCall (f1 fTuple) (wCons (wLc true (wRng1 (wCall (f1 fLen) (wCons (wV 0) wNil))) (.one 1) wYes (wCall sp_moment_of (wCons (wV 0) (wCons (wV 1) wNil))) [1]) wNil))))
def v_moments : WS :=
  (wSeq (wDrop (wCall sp_check_history (wCons (wV 0) wNil)))
  (wRet (wCall (f1 xTuple) (wCons (yLc true (wRng1 (wCall (f1 xLen) (wCons (wV 0) wNil))) (.one 1) wYes (wCall sp_moment_of (wCons (wV 0) (wCons (wV 1) wNil))) [1]) wNil))))
theorem wv_moments : w_moments = v_moments := by simp only [w_moments, v_moments, fIx_x, fLen_x, fAppend_x, fExtend_x, fPop_x, fPopAt_x, fRemove_x, fAll_x, fAny_x, fMax_x, fMin_x, fSum_x, fSortI_x, fSortD_x, fList_x, fTuple_x, fRev_x, fIn_x, fIndex_x, fIsi_x, seqI_y, enum_y, store_y, sortIt_y, sl_y, unl_y, and_y, or_y, andV_y, orV_y, if_y, chain_y, ifS_y, for_y, while_y, lc_y]
inductive sp_moments : FA
  | mk {x0 : D} {m : M} {k : D → M → Prop} (h : v_moments (endsD k) [some x0, none] m) : sp_moments [x0] m k
def w_by_snapshots : WS :=
  (wSeq (wDrop (wCall sp_check_history (wCons (wV 0) wNil)))
  (wRet (wB (fIn true) (wC .non) (wLc true (wRng1 (wCall (f1 fLen) (wCons (wV 0) wNil))) (.one 1) wYes (wCall sp_moment_of (wCons (wV 0) (wCons (wV 1) wNil))) [1]))))
def v_by_snapshots : WS :=
  (wSeq (wDrop (wCall sp_check_history (wCons (wV 0) wNil)))
  (wRet (wB (xIn true) (wC .non) (yLc true (wRng1 (wCall (f1 xLen) (wCons (wV 0) wNil))) (.one 1) wYes (wCall sp_moment_of (wCons (wV 0) (wCons (wV 1) wNil))) [1]))))
theorem wv_by_snapshots : w_by_snapshots = v_by_snapshots := by simp only [w_by_snapshots, v_by_snapshots, fIx_x, fLen_x, fAppend_x, fExtend_x, fPop_x, fPopAt_x, fRemove_x, fAll_x, fAny_x, fMax_x, fMin_x, fSum_x, fSortI_x, fSortD_x, fList_x, fTuple_x, fRev_x, fIn_x, fIndex_x, fIsi_x, seqI_y, enum_y, store_y, sortIt_y, sl_y, unl_y, and_y, or_y, andV_y, orV_y, if_y, chain_y, ifS_y, for_y, while_y, lc_y]
inductive sp_by_snapshots : FA
  | mk {x0 : D} {m : M} {k : D → M → Prop} (h : v_by_snapshots (endsD k) [some x0, none] m) : sp_by_snapshots [x0] m k
end T

set_option Elab.async false
set_option linter.all false
set_option maxRecDepth 100000
set_option maxHeartbeats 2000000
/-! the module histories: what its defs answer -/
namespace T
open PySem PySem.Spec PyProof.Rows L2
/-! data, histories -/
mutual
def D.dat : D → Bool
  | .ref _ => false
  | .ty _ => false
  | .tup ds => D.datL ds
  | .lst ds => D.datL ds
  | .dic _ => true
  | _ => true
def D.datL : List D → Bool
  | [] => true
  | d :: ds => D.dat d && D.datL ds
end
theorem datL_mem : ∀ {ds : List D} {d : D}, D.datL ds = true → d ∈ ds → d.dat = true
  | d :: ds, x, h, hx => by
    unfold D.datL at h
    have h := Bool.and_eq_true_iff.mp h
    rcases List.mem_cons.mp hx with e | hx
    · rw [e]; exact h.1
    · exact datL_mem h.2 hx
theorem dat_tup {ds : List D} (h : (D.tup ds).dat = true) {d : D} (hd : d ∈ ds) : d.dat = true := datL_mem (by unfold D.dat at h; exact h) hd
/-- bools, each by its item -/
theorem lc_bls {P : M → Prop} {tg : Tg} {te : WE} {env : T.Env} {k : List D → M → Prop} {m : M} {p : D → Prop} (hP : P m) (xs : List D)
    (h : ∀ x ∈ xs, ∀ K : T.Env → Prop, (∀ e, (∀ kk : D → M → Prop, (∀ b, (b = true ↔ p x) → kk (.bl b) m) → te e m kk) → K e) → bindTg tg x env K)
    (q : ∀ bs : List Bool, (bs.all id = true ↔ ∀ x ∈ xs, p x) → (bs.any id = true ↔ ∃ x ∈ xs, p x) → k (bs.map D.bl) m) : Rg (lcGoX P tg wYes te env k xs [] m) := by
  have main : ∀ (xs : List D) (cs : List Bool), (∀ x ∈ xs, ∀ K : T.Env → Prop, (∀ e, (∀ kk : D → M → Prop, (∀ b, (b = true ↔ p x) → kk (.bl b) m) → te e m kk) → K e) → bindTg tg x env K) →
      (∀ bs : List Bool, (bs.all id = true ↔ ∀ x ∈ xs, p x) → (bs.any id = true ↔ ∃ x ∈ xs, p x) → k ((cs ++ bs).map D.bl) m) → lcGoX P tg wYes te env k xs (cs.map D.bl) m := by
    intro xs
    induction xs with
    | nil => intro cs _ q; exact ⟨hP, by have := q [] (by simp) (by simp); rwa [List.append_nil] at this⟩
    | cons x xs ih =>
      intro cs h q
      refine ⟨hP, h x List.mem_cons_self _ fun e h1 => ?_⟩
      refine sT rfl ?_
      refine h1 _ fun b hb => ⟨?_⟩
      have := ih (cs ++ [b]) (fun y hy => h y (List.mem_cons_of_mem _ hy)) (fun bs h2 h3 => by
        have := q (b :: bs) ?_ ?_
        · rwa [List.append_assoc]
        · simp only [List.all_cons, Bool.and_eq_true, h2, id, hb, List.forall_mem_cons]
        · rw [List.any_cons, Bool.or_eq_true, h3]; simp [hb])
      rwa [List.map_append] at this
  exact ⟨main xs [] h q⟩
theorem lc_map {α : Type} {P : M → Prop} {tg : Tg} {te : WE} {env : T.Env} {k : List D → M → Prop} {m : M} (enc g : α → D) (hP : P m) (xs : List α)
    (h : ∀ x ∈ xs, ∀ K : T.Env → Prop, (∀ e, (∀ k : D → M → Prop, k (g x) m → te e m k) → K e) → bindTg tg (enc x) env K) (q : k (xs.map g) m) : Rg (lcGoX P tg wYes te env k (xs.map enc) [] m) :=
  lc_pure enc (fun _ => true) g hP xs [] (fun x hx K hK => h x hx K fun e h1 => hK e (fun _ q => q) fun _ => h1) (by rw [List.filter_eq_self.mpr (fun _ _ => rfl)]; exact q)
theorem lc_filt {α : Type} {P : M → Prop} {tg : Tg} {tt : WT} {te : WE} {env : T.Env} {k : List D → M → Prop} {m : M} (enc : α → D) (f : α → Bool) (g : α → D) (hP : P m) (xs : List α)
    (h : ∀ x ∈ xs, ∀ K : T.Env → Prop, (∀ e, (∀ k : Bool → M → Prop, k (f x) m → tt e m k) → (f x = true → ∀ k : D → M → Prop, k (g x) m → te e m k) → K e) → bindTg tg (enc x) env K) (q : k ((xs.filter f).map g) m) : Rg (lcGoX P tg tt te env k (xs.map enc) [] m) :=
  lc_pure enc f g hP xs [] h q
theorem in_ints {neg : Bool} {x : Int} {y : D} {ns : List Int} {m : M} {k : D → M → Prop} (q : k (.bl (if neg then !ns.contains x else ns.contains x)) m) : xInL neg (.int x) y (ns.map D.int) m k := by
  refine .inl ⟨rfl, by rw [List.all_map]; exact List.all_eq_true.mpr fun _ _ => rfl, ?_⟩
  have e : (ns.map D.int).any (fun z => D.feq z (.int x)) = ns.contains x := by
    rw [List.any_map]
    clear q
    induction ns with
    | nil => rfl
    | cons n ns ih =>
      rw [List.any_cons, List.contains_cons, ih]
      congr 1
      show decide (n = x) = (x == n)
      by_cases h : n = x
      · rw [decide_eq_true h, h, beq_self_eq_true]
      · rw [decide_eq_false h, beq_eq_false_iff_ne.mpr (Ne.symm h)]
  rw [e]; exact q
/-! checks -/
theorem is_integer_ok {x : D} {m : M} {k : D → M → Prop} (hx : x.dat = true) (q : ∀ b, (b = true ↔ ∃ i, x = .int i) → k (.bl b) m) : sp_is_integer [x] m k := by
  refine .mk ?_
  unfold v_is_integer
  cases x with
  | ref a => cases hx
  | ty a => cases hx
  | int i =>
    refine And.intro (by decide) ?_
    refine sT rfl ?_
    refine And.intro (by decide) ?_
    exact retD.here (q true (by simp))
  | bl i =>
    refine And.intro (by decide) ?_
    refine sT rfl ?_
    refine And.intro (by decide) ?_
    exact retD.here (q false (by simp))
  | _ =>
    refine And.intro (by decide) ?_
    refine sF rfl ?_
    exact retD.here (q false (by simp))
theorem is_between_ok {x : D} {lo hi : Int} {m : M} {k : D → M → Prop} (hx : x.dat = true) (q : ∀ b, (b = true ↔ ∃ i, x = .int i ∧ lo ≤ i ∧ i ≤ hi) → k (.bl b) m) : sp_is_between [x, .int lo, .int hi] m k := by
  refine .mk ?_
  unfold v_is_between
  refine is_integer_ok hx fun b hb => ?_
  refine sB (fun h => ?_) (fun h => ?_)
  · obtain ⟨i, rfl⟩ := hb.mp h
    refine sB (fun h => ?_) (fun h => ?_)
    · exact retD.here (q _ (by simp at h ⊢; omega))
    · exact retD.here (q _ (by simp at h ⊢; omega))
  · refine retD.here (q false ⟨fun z => (by cases z), fun ⟨i, e, _⟩ => by rw [hb.mpr ⟨i, e⟩] at h; cases h⟩)

theorem int_dat {i : Int} : (D.int i).dat = true := by unfold D.dat; rfl
/-- strictly upward -/
theorem zip_asc : ∀ ns : List Int, (∀ p ∈ List.zip ns (ns.drop 1), p.1 < p.2) ↔ ns.Pairwise (· < ·)
  | [] => by simp
  | [a] => by simp
  | a :: b :: r => by
    have ih := zip_asc (b :: r)
    show (∀ p ∈ (a, b) :: List.zip (b :: r) r, p.1 < p.2) ↔ _
    rw [List.forall_mem_cons, List.pairwise_cons]
    have e : List.zip (b :: r) r = List.zip (b :: r) ((b :: r).drop 1) := rfl
    rw [e, ih]
    constructor
    · intro ⟨h1, h2⟩
      refine ⟨fun x hx => ?_, h2⟩
      rcases List.mem_cons.mp hx with z | z
      · rw [z]; exact h1
      · have := (List.pairwise_cons.mp h2).1 x z
        have h1 : a < b := h1
        omega
    · intro ⟨h1, h2⟩
      exact ⟨h1 b List.mem_cons_self, h2⟩
theorem cutD_tail (ds : List D) : cutD ds (some 1) none = ds.drop 1 := by
  unfold cutD
  cases ds with
  | nil => rfl
  | cons d r =>
    have e1 : HT.sIx (d :: r).length 0 (some 1) = 1 := by unfold HT.sIx; simp
    have e2 : HT.sIx (d :: r).length (d :: r).length none = (d :: r).length := by unfold HT.sIx; simp
    rw [e1, e2]
    show ((d :: r).drop 1).take ((d :: r).length - 1) = _
    simp
theorem zipD_map {α : Type} (f : α → D) (xs ys : List α) : zipD (xs.map f) (ys.map f) = (List.zip xs ys).map fun p => .tup [f p.1, f p.2] := by
  unfold zipD
  rw [List.zipWith_map]
  induction xs generalizing ys with
  | nil => rfl
  | cons x xs ih => cases ys with
    | nil => rfl
    | cons y ys => rw [List.zipWith_cons_cons, List.zip_cons_cons, List.map_cons, ih]
theorem all_enc {α : Type} {enc : α → D} {p : α → Prop} : ∀ {ds : List D}, (∀ x ∈ ds, ∃ i, x = enc i ∧ p i) → ∃ ns : List α, ds = ns.map enc ∧ ∀ n ∈ ns, p n
  | [], _ => ⟨[], rfl, fun _ h => by cases h⟩
  | d :: ds, h => by
    obtain ⟨i, e, hp⟩ := h d List.mem_cons_self
    obtain ⟨ns, e2, h2⟩ := all_enc (fun x hx => h x (List.mem_cons_of_mem _ hx))
    refine ⟨i :: ns, by rw [List.map_cons, ← e, ← e2], fun n hn => ?_⟩
    rcases List.mem_cons.mp hn with z | z
    · rw [z]; exact hp
    · exact h2 n z
theorem inj_ints {as bs : List Int} (h : as.map D.int = bs.map D.int) : as = bs := by
  induction as generalizing bs with
  | nil => cases bs with
    | nil => rfl
    | cons _ _ => cases h
  | cons a as ih => cases bs with
    | nil => cases h
    | cons b bs =>
      rw [List.map_cons, List.map_cons] at h
      injection h with h1 h2
      injection h1 with h1
      rw [h1, ih h2]
structure WrOk (ws : List Int) : Prop where
  rng : ∀ n ∈ ws, 0 ≤ n ∧ n ≤ 99
  asc : ws.Pairwise (· < ·)
theorem bool_iff {b : Bool} {p : Prop} (h : b = true ↔ p) : b = false ↔ ¬ p := by
  rw [← h]; cases b <;> simp
theorem are_writes_ok {x : D} {m : M} {k : D → M → Prop} (hx : x.dat = true) (q : ∀ b, (b = true ↔ ∃ ns, x = .tup (ns.map D.int) ∧ WrOk ns) → k (.bl b) m) : sp_are_writes [x] m k := by
  refine .mk ?_
  unfold v_are_writes
  have no : (∀ ns : List Int, x = .tup (ns.map D.int) → ¬ WrOk ns) → k (.bl false) m := fun h => q false ⟨fun z => (by cases z), fun ⟨ns, e, w⟩ => absurd w (h ns e)⟩
  cases x with
  | ref a => cases hx
  | ty a => cases hx
  | tup ds =>
    refine And.intro (by decide) ?_
    refine sF rfl ?_
    refine lc_bls (p := fun x => ∃ i, x = .int i ∧ 0 ≤ i ∧ i ≤ 99) trivial ds (fun x hd K hK => hK _ fun kk hk => is_between_ok (dat_tup hx hd) hk) fun bs h1 h2 => ?_
    refine sL rfl ?_
    refine sBl (bls_map bs) ?_
    refine sB (fun h => ?_) (fun h => ?_)
    · have h3 := mt h1.mpr (by simpa using h)
      refine retD.here (no fun ns e w => h3 fun x hx => ?_)
      injection e with e
      rw [e] at hx
      obtain ⟨i, hi, e⟩ := List.mem_map.mp hx
      exact ⟨i, e.symm, w.rng i hi⟩
    · have h3 := h1.mp (by simpa using h)
      obtain ⟨ns, rfl, hn⟩ := all_enc h3
      show Rg (lcGoX (fun _ => True) _ _ _ _ _ (zipD (ns.map D.int) (cutD (ns.map D.int) (some 1) none)) [] m)
      rw [cutD_tail, ← List.map_drop, zipD_map]
      refine lc_map (fun p : Int × Int => .tup [.int p.1, .int p.2]) (fun p => .bl (decide (p.1 < p.2))) trivial _ (fun x hx K hK => ⟨rfl, hK _ fun kk hk => hk⟩) ?_
      refine sL rfl ?_
      refine sBl (d := (List.zip ns (ns.drop 1)).map fun p => decide (p.1 < p.2)) (by rw [← bls_map, List.map_map]; rfl) ?_
      refine retD.here (q _ ?_)
      rw [List.all_map, List.all_eq_true]
      constructor
      · intro z
        exact ⟨ns, rfl, ⟨hn, (zip_asc ns).mp fun p hp => of_decide_eq_true (z p hp)⟩⟩
      · rintro ⟨ns', e, w⟩ p hp
        injection e with e
        have e := inj_ints e
        subst e
        exact decide_eq_true ((zip_asc ns).mpr w.asc p hp)
  | _ =>
    refine And.intro (by decide) ?_
    refine sT rfl ?_
    refine sT rfl ?_
    exact retD.here (no fun ns e => by cases e)

def eP (p : Int × Int) : D := .tup [.int p.1, .int p.2]
/-- a deal whose reads aren't looked at yet -/
def ePH (p : D × List Int) : D := .tup [p.1, .tup (p.2.map D.int)]
structure RdOk (ws : List (List Int)) (r : Int × Int) : Prop where
  rng : 0 ≤ r.1 ∧ r.1 ≤ 99
  src : r.2 = -1 ∨ ∃ w, 0 ≤ r.2 ∧ ws[r.2.toNat]? = some w ∧ r.1 ∈ w
theorem is_read_ok {x : D} {ph : List (D × List Int)} {m : M} {k : D → M → Prop} (hx : x.dat = true) (q : ∀ b, (b = true ↔ ∃ r, x = eP r ∧ RdOk (ph.map (·.2)) r) → k (.bl b) m) : sp_is_read [x, .tup (ph.map ePH)] m k := by
  refine .mk ?_
  unfold v_is_read
  have no : (∀ r, x = eP r → ¬ RdOk (ph.map (·.2)) r) → k (.bl false) m := fun h => q false ⟨fun z => (by cases z), fun ⟨ns, e, w⟩ => absurd w (h ns e)⟩
  cases x with
  | ref a => cases hx
  | ty a => cases hx
  | tup ds =>
    refine And.intro (by decide) ?_
    refine sF rfl ?_
    refine sB (fun h => ?_) (fun h => ?_)
    · refine sT rfl ?_
      refine retD.here (no fun r e => ?_)
      injection e with e
      subst e
      exfalso; simp at h
    · match ds, hx, q, no, h with
      | [a, b], hx, q, no, h =>
        refine sS rfl ?_
        refine is_between_ok (dat_tup hx (by simp)) fun c hc => ?_
        refine sB (fun h => ?_) (fun h => ?_)
        · refine retD.here (no fun r e w => ?_)
          injection e with e
          injection e with e1 e2
          have := hc.mpr ⟨r.1, e1, w.rng⟩
          rw [this] at h
          cases h
        · obtain ⟨key, rfl, hk⟩ := hc.mp (by simpa using h)
          refine sS rfl ?_
          refine is_between_ok (dat_tup hx (by simp)) fun d hd => ?_
          refine sB (fun h2 => ?_) (fun h2 => ?_)
          · refine retD.here (no fun r e w => ?_)
            injection e with e
            injection e with e1 e2
            injection e2 with e2
            have := hd.mpr ⟨r.2, e2, ?_⟩
            · rw [this] at h2
              cases h2
            · rcases w.src with z | ⟨w, z1, z2, z3⟩
              · rw [z]; refine ⟨by decide, ?_⟩; show -1 ≤ ((ph.map ePH).length : Int) - 1; omega
              · have := (List.getElem?_eq_some_iff.mp z2).1
                rw [List.length_map] at this
                refine ⟨?_, ?_⟩
                · show (-1 : Int) ≤ r.2; omega
                · show r.2 ≤ ((ph.map ePH).length : Int) - 1; rw [List.length_map]; omega
          · obtain ⟨src, rfl, hs⟩ := hd.mp (by simpa using h2)
            refine sS rfl ?_
            have hs2 : src ≤ (ph.length : Int) - 1 := by
              have h : src ≤ ((ph.map ePH).length : Int) - 1 := hs.2
              rwa [List.length_map] at h
            have rd : ∀ r : Int × Int, D.tup [.int key, .int src] = eP r → r = (key, src) := fun r e => by
              injection e with e
              injection e with e1 e2
              injection e2 with e2
              injection e1 with e1
              injection e2 with e2
              rw [e1, e2]
            refine sB (fun h3 => ?_) (fun h3 => ?_)
            · exact retD.here (q true ⟨fun _ => ⟨(key, src), rfl, ⟨hk, .inl (by simpa using h3)⟩⟩, fun _ => rfl⟩)
            · have hs0 : 0 ≤ src := by
                have h3 : ¬ src = -1 := by simpa using h3
                omega
              obtain ⟨j, p, e1, e2, e3, _⟩ := xat_lt (xs := ph) hs0 (by omega)
              refine sS rfl ?_
              refine sS rfl ?_
              refine sS (xat_enc e3) ?_
              refine sS rfl ?_
              refine in_ints ?_
              refine retD.here (q _ ?_)
              rw [if_neg Bool.false_ne_true, List.contains_iff_mem]
              have e4 : (ph.map (·.2))[src.toNat]? = some p.2 := by
                rw [List.getElem?_map, e1, Int.toNat_natCast, e2]; rfl
              constructor
              · exact fun z => ⟨(key, src), rfl, ⟨hk, .inr ⟨p.2, hs0, e4, z⟩⟩⟩
              · rintro ⟨r, e, w⟩
                have := rd r e
                subst this
                rcases w.src with z | ⟨w, z1, z2, z3⟩
                · exfalso; have z : src = -1 := z; omega
                · have z2 : (ph.map (·.2))[src.toNat]? = some w := z2
                  rw [e4] at z2
                  injection z2 with z2
                  rw [z2]; exact z3
      | [], hx, q, no, h => exfalso; simp at h
      | [_], hx, q, no, h => exfalso; simp at h
      | _ :: _ :: _ :: l, hx, q, no, h => exfalso; simp at h; omega
  | _ =>
    refine And.intro (by decide) ?_
    refine sT rfl ?_
    refine sT rfl ?_
    exact retD.here (no fun ns e => by cases e)
end T

set_option Elab.async false
set_option linter.all false
set_option maxRecDepth 100000
set_option maxHeartbeats 2000000
namespace T
open PySem PySem.Spec PyProof.Rows L2
theorem eP_inj {a b : Int × Int} (e : eP a = eP b) : a = b := by
  injection e with e
  injection e with e1 e2
  injection e2 with e2
  injection e1 with e1
  injection e2 with e2
  exact Prod.ext e1 e2
theorem map_inj {α : Type} {f : α → D} (hf : ∀ a b, f a = f b → a = b) : ∀ {as bs : List α}, as.map f = bs.map f → as = bs
  | [], [], _ => rfl
  | [], _ :: _, h => by cases h
  | _ :: _, [], h => by cases h
  | a :: as, b :: bs, h => by
    rw [List.map_cons, List.map_cons] at h
    injection h with h1 h2
    rw [hf a b h1, map_inj hf h2]
theorem zip_ascF {α : Type} (f : α → Int) : ∀ ns : List α, (∀ p ∈ List.zip ns (ns.drop 1), f p.1 < f p.2) ↔ (ns.map f).Pairwise (· < ·) := fun ns => by
  rw [← zip_asc (ns.map f), ← List.map_drop]
  have e : List.zip (ns.map f) ((ns.drop 1).map f) = (List.zip ns (ns.drop 1)).map (Prod.map f f) := List.zip_map
  rw [e]
  constructor
  · intro h p hp
    obtain ⟨q, hq, eq⟩ := List.mem_map.mp hp
    rw [← eq]; exact h q hq
  · intro h p hp
    exact h _ (List.mem_map_of_mem hp)
structure RdsOk (ws : List (List Int)) (i : Int) (rs : List (Int × Int)) : Prop where
  each : ∀ r ∈ rs, RdOk ws r ∧ r.2 ≠ i
  asc : (rs.map (·.1)).Pairwise (· < ·)
theorem are_reads_ok {x : D} {i : Int} {ph : List (D × List Int)} {m : M} {k : D → M → Prop} (hx : x.dat = true) (q : ∀ b, (b = true ↔ ∃ rs, x = .tup (rs.map eP) ∧ RdsOk (ph.map (·.2)) i rs) → k (.bl b) m) : sp_are_reads [x, .int i, .tup (ph.map ePH)] m k := by
  refine .mk ?_
  unfold v_are_reads
  have no : (∀ rs : List (Int × Int), x = .tup (rs.map eP) → ¬ RdsOk (ph.map (·.2)) i rs) → k (.bl false) m := fun h => q false ⟨fun z => (by cases z), fun ⟨ns, e, w⟩ => absurd w (h ns e)⟩
  cases x with
  | ref a => cases hx
  | ty a => cases hx
  | tup ds =>
    refine And.intro (by decide) ?_
    refine sF rfl ?_
    refine lc_bls (p := fun x => ∃ r, x = eP r ∧ RdOk (ph.map (·.2)) r) trivial ds (fun x hd K hK => hK _ fun kk hk => is_read_ok (dat_tup hx hd) hk) fun bs h1 h2 => ?_
    refine sL rfl ?_
    refine sBl (bls_map bs) ?_
    refine sB (fun h => ?_) (fun h => ?_)
    · have h3 := mt h1.mpr (by simpa using h)
      refine retD.here (no fun ns e w => h3 fun x hx => ?_)
      injection e with e
      rw [e] at hx
      obtain ⟨i, hi, e⟩ := List.mem_map.mp hx
      exact ⟨i, e.symm, (w.each i hi).1⟩
    · have h3 := h1.mp (by simpa using h)
      obtain ⟨rs, rfl, hn⟩ := all_enc h3
      refine lc_map eP (fun r => .bl (decide (r.2 = i))) trivial rs (fun x hx K hK => hK _ fun kk hk => sS rfl hk) ?_
      refine sL rfl ?_
      refine sBl (d := rs.map fun r => decide (r.2 = i)) (by rw [← bls_map, List.map_map]; rfl) ?_
      refine sB (fun h => ?_) (fun h => ?_)
      · rw [List.any_map, List.any_eq_true] at h
        obtain ⟨r, hr, e⟩ := h
        refine retD.here (no fun ns e2 w => ?_)
        injection e2 with e2
        have e2 := map_inj (fun _ _ => eP_inj) e2
        subst e2
        exact (w.each r hr).2 (of_decide_eq_true e)
      · have hni : ∀ r ∈ rs, r.2 ≠ i := fun r hr e => by
          rw [List.any_map, List.any_eq_false] at h
          exact h r hr (decide_eq_true e)
        show Rg (lcGoX (fun _ => True) _ _ _ _ _ (zipD (rs.map eP) (cutD (rs.map eP) (some 1) none)) [] m)
        rw [cutD_tail, ← List.map_drop, zipD_map]
        refine lc_map (fun p : (Int × Int) × (Int × Int) => .tup [eP p.1, eP p.2]) (fun p => .bl (decide (p.1.1 < p.2.1))) trivial _ (fun x hx K hK => ⟨rfl, hK _ fun kk hk => sS rfl (sS rfl hk)⟩) ?_
        refine sL rfl ?_
        refine sBl (d := (List.zip rs (rs.drop 1)).map fun p => decide (p.1.1 < p.2.1)) (by rw [← bls_map, List.map_map]; rfl) ?_
        refine retD.here (q _ ?_)
        rw [List.all_map, List.all_eq_true]
        constructor
        · intro z
          exact ⟨rs, rfl, ⟨fun r hr => ⟨hn r hr, hni r hr⟩, (zip_ascF (fun r : Int × Int => r.1) rs).mp fun p hp => of_decide_eq_true (z p hp)⟩⟩
        · rintro ⟨ns', e, w⟩ p hp
          injection e with e
          have e := map_inj (fun _ _ => eP_inj) e
          subst e
          exact decide_eq_true ((zip_ascF (fun r : Int × Int => r.1) rs).mpr w.asc p hp)
  | _ =>
    refine And.intro (by decide) ?_
    refine sT rfl ?_
    refine sT rfl ?_
    exact retD.here (no fun ns e => by cases e)
/-! histories -/
abbrev Dl := List (Int × Int) × List Int
abbrev Hs := List Dl
def eDl (d : Dl) : D := .tup [.tup (d.1.map eP), .tup (d.2.map D.int)]
def eH (h : Hs) : D := .tup (h.map eDl)
structure HsOk (h : Hs) : Prop where
  len : h.length ≤ 12
  wr : ∀ d ∈ h, WrOk d.2
  rd : ∀ (i : Nat) d, h[i]? = some d → RdsOk (h.map (·.2)) i d.1
theorem eDl_inj {a b : Dl} (e : eDl a = eDl b) : a = b := by
  injection e with e
  injection e with e1 e2
  injection e2 with e2
  injection e1 with e1
  injection e2 with e2
  exact Prod.ext (map_inj (fun _ _ => eP_inj) e1) (inj_ints e2)
theorem eH_inj {a b : Hs} (e : eH a = eH b) : a = b := by
  injection e with e
  exact map_inj (fun _ _ => eDl_inj) e
theorem enumD_map {α : Type} (f : α → D) (xs : List α) : enumD (xs.map f) = (xs.mapIdx fun i x => (i, x)).map fun p : Nat × α => .tup [.int p.1, f p.2] := by
  unfold enumD
  refine List.ext_getElem? fun i => ?_
  rw [List.getElem?_mapIdx, List.getElem?_map, List.getElem?_map, List.getElem?_mapIdx]
  cases xs[i]? <;> rfl
def toP (d : Dl) : D × List Int := (.tup (d.1.map eP), d.2)
theorem ePH_inj {a b : D × List Int} (e : ePH a = ePH b) : a = b := by
  injection e with e
  injection e with e1 e2
  injection e2 with e2
  injection e2 with e2
  exact Prod.ext e1 (inj_ints e2)
theorem all_toP : ∀ {ph : List (D × List Int)}, (∀ p ∈ ph, ∃ d : Dl, p = toP d ∧ True) → ∃ h : Hs, ph = h.map toP
  | [], _ => ⟨[], rfl⟩
  | p :: ph, h => by
    obtain ⟨d, e, _⟩ := h p List.mem_cons_self
    obtain ⟨t, e2⟩ := all_toP (fun x hx => h x (List.mem_cons_of_mem _ hx))
    exact ⟨d :: t, by rw [List.map_cons, ← e, ← e2]⟩
theorem is_history_ok {x : D} {m : M} {k : D → M → Prop} (hx : x.dat = true) (q : ∀ b, (b = true ↔ ∃ h, x = eH h ∧ HsOk h) → k (.bl b) m) : sp_is_history [x] m k := by
  refine .mk ?_
  unfold v_is_history
  have no : (∀ h : Hs, x = eH h → ¬ HsOk h) → k (.bl false) m := fun h => q false ⟨fun z => (by cases z), fun ⟨ns, e, w⟩ => absurd w (h ns e)⟩
  cases x with
  | ref a => cases hx
  | ty a => cases hx
  | tup ds =>
    refine And.intro (by decide) ?_
    refine sF rfl ?_
    refine sB (fun h => ?_) (fun h => ?_)
    · refine retD.here (no fun ns e w => ?_)
      injection e with e
      have h : (12 : Int) < ds.length := by simpa using h
      rw [e, List.length_map] at h
      have := w.len
      omega
    · have hlen : ds.length ≤ 12 := by
        have h : ¬ (12 : Int) < ds.length := by simpa using h
        omega
      refine lc_bls (p := fun x => ∃ p : D × List Int, x = ePH p ∧ WrOk p.2) trivial ds (fun x hd K hK => hK _ fun kk hk => ?_) fun bs h1 h2 => ?_
      · have hxd := dat_tup hx hd
        cases x with
        | ref a => cases hxd
        | ty a => cases hxd
        | tup es =>
          refine And.intro (by decide) ?_
          refine sT rfl ?_
          refine sB (fun h => ?_) (fun h => ?_)
          · match es, hxd, hd, h with
            | [a, b], hxd, hd, h =>
              refine sS rfl ?_
              refine are_writes_ok (dat_tup hxd (by simp)) fun c hc => hk c ?_
              rw [hc]
              constructor
              · rintro ⟨ns, rfl, w⟩
                exact ⟨(a, ns), rfl, w⟩
              · rintro ⟨p, e, w⟩
                injection e with e
                injection e with e1 e2
                injection e2 with e2
                exact ⟨p.2, e2, w⟩
            | [], _, _, h => exfalso; simp at h
            | [_], _, _, h => exfalso; simp at h
            | _ :: _ :: _ :: l, _, _, h => exfalso; simp at h; omega
          · refine hk false ⟨fun z => (by cases z), ?_⟩
            rintro ⟨p, e, w⟩
            injection e with e
            subst e
            exfalso; simp at h
        | _ =>
          refine And.intro (by decide) ?_
          refine sF rfl ?_
          refine hk false ⟨fun z => (by cases z), ?_⟩
          rintro ⟨p, e, w⟩
          cases e
      · refine sL rfl ?_
        refine sBl (bls_map bs) ?_
        refine sB (fun h => ?_) (fun h => ?_)
        · have h3 := mt h1.mpr (by simpa using h)
          refine retD.here (no fun ns e w => h3 fun x hx => ?_)
          injection e with e
          rw [e] at hx
          obtain ⟨d, hd, e⟩ := List.mem_map.mp hx
          exact ⟨(.tup (d.1.map eP), d.2), e.symm, w.wr d hd⟩
        · have h3 := h1.mp (by simpa using h)
          obtain ⟨ph, rfl, hn⟩ := all_enc h3
          show Rg (lcGoX (fun _ => True) _ _ _ _ _ (enumD (ph.map ePH)) [] m)
          rw [enumD_map]
          refine lc_bls (p := fun x => ∃ (i : Nat) (rs : List (Int × Int)) (ws : List Int), x = .tup [.int i, ePH (.tup (rs.map eP), ws)] ∧ RdsOk (ph.map (·.2)) i rs) trivial _ (fun x hd K hK => ?_) fun bs h1 h2 => ?_
          · obtain ⟨⟨i, p⟩, hip, rfl⟩ := List.mem_map.mp hd
            obtain ⟨j, hj, ej⟩ := List.mem_mapIdx.mp hip
            injection ej with e1 e2
            have hp : p ∈ ph := by rw [← e2]; exact List.getElem_mem _
            have hpd : p.1.dat = true := dat_tup (dat_tup hx (List.mem_map_of_mem hp)) (by simp)
            refine ⟨rfl, hK _ fun kk hk => sS rfl (are_reads_ok hpd fun b hb => hk b ?_)⟩
            rw [hb]
            constructor
            · rintro ⟨rs, e, w⟩
              exact ⟨i, rs, p.2, by show _ = D.tup [.int i, .tup [.tup (rs.map eP), .tup (p.2.map D.int)]]; rw [← e]; rfl, w⟩
            · rintro ⟨i', rs, ws, e, w⟩
              injection e with e
              injection e with e1 e2
              injection e2 with e2
              injection e1 with e1
              injection e2 with e2
              injection e2 with e2
              exact ⟨rs, e2, by rw [e1]; exact w⟩
          · refine sL rfl ?_
            refine sBl (bls_map bs) ?_
            refine retD.here (q _ ?_)
            rw [h1]
            have key : ∀ (i : Nat) (p : D × List Int), ph[i]? = some p → (D.tup [.int i, ePH p]) ∈ (ph.mapIdx fun i x => (i, x)).map fun p : Nat × (D × List Int) => D.tup [.int p.1, ePH p.2] := fun i p hp => by
              refine List.mem_map.mpr ⟨(i, p), ?_, rfl⟩
              refine List.mem_mapIdx.mpr ⟨i, (List.getElem?_eq_some_iff.mp hp).1, ?_⟩
              rw [(List.getElem?_eq_some_iff.mp hp).2]
            constructor
            · intro z
              have z2 : ∀ p ∈ ph, ∃ d : Dl, p = toP d ∧ True := fun p hp => by
                obtain ⟨i, hi⟩ := List.mem_iff_getElem?.mp hp
                obtain ⟨i', rs, ws, e, w⟩ := z _ (key i p hi)
                injection e with e
                injection e with e1 e2
                injection e2 with e2
                exact ⟨(rs, ws), ePH_inj e2, trivial⟩
              clear h
              obtain ⟨h, rfl⟩ := all_toP z2
              refine ⟨h, by unfold eH; rw [List.map_map]; rfl, ?_, ?_, ?_⟩
              · rw [List.length_map, List.length_map] at hlen; exact hlen
              · intro d hd
                exact hn (toP d) (List.mem_map_of_mem hd)
              · intro i d hd
                obtain ⟨i', rs, ws, e, w⟩ := z _ (key i (toP d) (by rw [List.getElem?_map, hd]; rfl))
                injection e with e
                injection e with e1 e2
                injection e2 with e2
                injection e1 with e1
                have e3 := ePH_inj e2
                have e4 : D.tup (d.1.map eP) = .tup (rs.map eP) := congrArg Prod.fst e3
                injection e4 with e4
                rw [map_inj (fun _ _ => eP_inj) e4, e1]
                rw [List.map_map] at w
                exact w
            · clear h
              rintro ⟨h, e, w⟩ x hx
              injection e with e
              have e5 : ph.map ePH = (h.map toP).map ePH := by rw [e, List.map_map]; rfl
              have e6 := map_inj (fun _ _ => ePH_inj) e5
              subst e6
              obtain ⟨⟨i, p⟩, hip, rfl⟩ := List.mem_map.mp hx
              obtain ⟨j, hj, ej⟩ := List.mem_mapIdx.mp hip
              injection ej with e1 e2
              have hj' : j < h.length := by rw [List.length_map] at hj; exact hj
              have hd : h[j]? = some h[j] := List.getElem?_eq_getElem hj'
              refine ⟨i, h[j].1, h[j].2, ?_, ?_⟩
              · rw [← e2, List.getElem_map]; rfl
              · have := w.rd j _ hd
                rw [List.map_map, ← e1]
                exact this
  | _ =>
    refine And.intro (by decide) ?_
    refine sT rfl ?_
    refine sT rfl ?_
    exact retD.here (no fun ns e => by cases e)
end T

set_option Elab.async false
set_option linter.all false
set_option maxRecDepth 100000
set_option maxHeartbeats 2000000
namespace T
open PySem PySem.Spec PyProof.Rows L2
theorem in_intsT {neg : Bool} {x : Int} {ns : List Int} {m : M} {k : D → M → Prop} (q : k (.bl (if neg then !ns.contains x else ns.contains x)) m) : xIn neg (.int x) (.tup (ns.map D.int)) m k := in_ints q
theorem in_intsL {neg : Bool} {x : Int} {ns : List Int} {m : M} {k : D → M → Prop} (q : k (.bl (if neg then !ns.contains x else ns.contains x)) m) : xIn neg (.int x) (.lst (ns.map D.int)) m k := in_ints q
/-! loops -/
theorem for_inv {α : Type} {P : M → Prop} {tg : Tg} {b : WS} {k : WK} {env : T.Env} {m : M} (enc : α → D) (xs : List α) (I : List α → T.Env → M → Prop) (h0 : I [] env m)
    (step : ∀ dn x rest e n, xs = dn ++ x :: rest → I dn e n → ∀ K : T.Env → M → Prop, (∀ e' n', I (dn ++ [x]) e' n' → K e' n') → P n ∧ bindTg tg (enc x) e fun e1 => b { nx := K, rt := k.rt, bk := k.nx, ct := K } e1 n)
    (fin : ∀ e n, I xs e n → P n ∧ k.nx e n) : Rg (goForX P tg b k (xs.map enc) env m) := by
  have main : ∀ (rest dn : List α) (e : T.Env) (n : M), xs = dn ++ rest → I dn e n → goForX P tg b k (rest.map enc) e n := by
    intro rest
    induction rest with
    | nil => intro dn e n h i; rw [List.append_nil] at h; subst h; exact fin e n i
    | cons x rest ih =>
      intro dn e n h i
      have := step dn x rest e n h i (fun e n => Rg (goForX P tg b k (rest.map enc) e n)) fun e' n' i' => ⟨ih (dn ++ [x]) e' n' (by rw [h, List.append_assoc]; rfl) i'⟩
      exact this
  exact ⟨main xs [] env m rfl h0⟩
theorem while_inv {t : WT} {b : WS} {k : WK} {env : T.Env} {m : M} (I : Nat → T.Env → M → Prop)
    (step : ∀ n e u, I n e u → ∀ K : T.Env → M → Prop, (∀ n' e' u', n' < n → I n' e' u' → K e' u') → t e u fun c m1 => IfB c (b { nx := K, rt := k.rt, bk := k.nx, ct := K } e m1) (k.nx e m1)) (n : Nat) (h : I n env m) : Rg (∃ n, goWhileX t b k n env m) := by
  have main : ∀ (f n : Nat) (e : T.Env) (u : M), n < f → I n e u → goWhileX t b k f e u := by
    intro f
    induction f with
    | zero => intro n e u h _; exact absurd h (Nat.not_lt_zero _)
    | succ f ih =>
      intro n e u h i
      exact step n e u i (fun e u => Rg (goWhileX t b k f e u)) fun n' e' u' h' i' => ⟨ih n' e' u' (by omega) i'⟩
  exact ⟨n + 1, main (n + 1) n env m (Nat.lt_succ_self n) h⟩
/-! histories that are right -/
theorem datL_of : ∀ {ds : List D}, (∀ d ∈ ds, d.dat = true) → D.datL ds = true
  | [], _ => by unfold D.datL; rfl
  | d :: ds, h => by
    unfold D.datL
    rw [h d List.mem_cons_self, datL_of fun x hx => h x (List.mem_cons_of_mem _ hx)]; rfl
theorem tup_dat {ds : List D} (h : ∀ d ∈ ds, d.dat = true) : (D.tup ds).dat = true := by unfold D.dat; exact datL_of h
theorem ints_dat (ns : List Int) : (D.tup (ns.map D.int)).dat = true := tup_dat fun d hd => by
  obtain ⟨n, _, e⟩ := List.mem_map.mp hd
  rw [← e]; exact int_dat
theorem eP_dat (p : Int × Int) : (eP p).dat = true := tup_dat fun d hd => by
  rcases List.mem_cons.mp hd with e | hd
  · rw [e]; exact int_dat
  · rcases List.mem_cons.mp hd with e | hd
    · rw [e]; exact int_dat
    · cases hd
theorem eDl_dat (d : Dl) : (eDl d).dat = true := tup_dat fun x hx => by
  rcases List.mem_cons.mp hx with e | hx
  · rw [e]
    refine tup_dat fun y hy => ?_
    obtain ⟨p, _, e⟩ := List.mem_map.mp hy
    rw [← e]; exact eP_dat p
  · rcases List.mem_cons.mp hx with e | hx
    · rw [e]; exact ints_dat _
    · cases hx
theorem eH_dat (h : Hs) : (eH h).dat = true := tup_dat fun x hx => by
  obtain ⟨d, _, e⟩ := List.mem_map.mp hx
  rw [← e]; exact eDl_dat d
theorem is_history_eH {h : Hs} {m : M} {k : D → M → Prop} (hw : HsOk h) (q : k (.bl true) m) : sp_is_history [eH h] m k :=
  is_history_ok (eH_dat h) fun b hb => by rw [hb.mpr ⟨h, rfl, hw⟩]; exact q
theorem check_ok {h : Hs} {m : M} {k : D → M → Prop} (hw : HsOk h) (q : k .non m) : sp_check_history [eH h] m k := by
  refine .mk ?_
  unfold v_check_history
  refine is_history_eH hw ?_
  refine sF rfl ?_
  exact retD.here q
def ixs {α : Type} (xs : List α) : List (Nat × α) := xs.mapIdx fun i x => (i, x)
theorem mem_ixs {α : Type} {xs : List α} {p : Nat × α} : p ∈ ixs xs ↔ xs[p.1]? = some p.2 := by
  unfold ixs
  rw [List.mem_mapIdx]
  constructor
  · rintro ⟨i, hi, e⟩
    rw [← e]; exact List.getElem?_eq_getElem hi
  · intro h
    obtain ⟨h1, h2⟩ := List.getElem?_eq_some_iff.mp h
    exact ⟨p.1, h1, by rw [h2]⟩
theorem ixs_asc {α : Type} (xs : List α) : ((ixs xs).map (·.1)).Pairwise (· < ·) := by
  have e : (ixs xs).map (·.1) = List.range xs.length := by
    refine List.ext_getElem? fun i => ?_
    unfold ixs
    rw [List.getElem?_map, List.getElem?_mapIdx]
    by_cases h : i < xs.length
    · rw [List.getElem?_eq_getElem h, List.getElem?_range h]; rfl
    · rw [List.getElem?_eq_none (by omega), List.getElem?_eq_none (by rw [List.length_range]; omega)]; rfl
  rw [e]
  exact List.pairwise_lt_range
/-- the deals that write a key -/
def wr (h : Hs) (key : Int) : List Nat := ((ixs h).filter fun p => p.2.2.contains key).map (·.1)
theorem mem_wr {h : Hs} {key : Int} {i : Nat} : i ∈ wr h key ↔ ∃ d, h[i]? = some d ∧ key ∈ d.2 := by
  unfold wr
  rw [List.mem_map]
  constructor
  · rintro ⟨p, hp, e⟩
    obtain ⟨h1, h2⟩ := List.mem_filter.mp hp
    rw [← e]
    exact ⟨p.2, mem_ixs.mp h1, List.contains_iff_mem.mp h2⟩
  · rintro ⟨d, h1, h2⟩
    exact ⟨(i, d), List.mem_filter.mpr ⟨mem_ixs.mpr h1, List.contains_iff_mem.mpr h2⟩, rfl⟩
theorem wr_asc (h : Hs) (key : Int) : (wr h key).Pairwise (· < ·) := by
  have := ixs_asc h
  rw [List.pairwise_map] at this
  unfold wr
  rw [List.pairwise_map]
  exact List.Pairwise.filter _ this
def dN (i : Nat) : D := .int (i : Int)
theorem writers_ok {h : Hs} {key : Int} {m : M} {k : D → M → Prop} (q : k (.lst ((wr h key).map dN)) m) : sp_writers [eH h, .int key] m k := by
  refine .mk ?_
  unfold v_writers
  show Rg (lcGoX (fun _ => True) _ _ _ _ _ (enumD (h.map eDl)) [] m)
  rw [enumD_map]
  refine lc_filt (fun p : Nat × Dl => .tup [.int p.1, eDl p.2]) (fun p => p.2.2.contains key) (fun p => dN p.1) trivial (ixs h) (fun x hx K hK => ⟨rfl, hK _ (fun kk hk => sS rfl (by refine in_intsT ?_; exact hk)) fun _ kk hk => hk⟩) ?_
  refine retD.here ?_
  unfold wr at q
  rw [List.map_map] at q
  exact q
/-- the first of them behind last -/
def nw (h : Hs) (key last : Int) : Option Nat := ((wr h key).filter fun i : Nat => decide (last < (i : Int))).head?
def dO : Option Nat → D
  | some i => dN i
  | none => .non
theorem next_writer_ok {h : Hs} {key last : Int} {m : M} {k : D → M → Prop} (q : k (dO (nw h key last)) m) : sp_next_writer [eH h, .int key, .int last] m k := by
  refine .mk ?_
  unfold v_next_writer
  refine writers_ok ?_
  refine lc_filt dN (fun i : Nat => decide (last < (i : Int))) dN trivial (wr h key) (fun x hx K hK => hK _ (fun kk hk => hk) fun _ kk hk => hk) ?_
  unfold nw at q
  generalize (wr h key).filter (fun i : Nat => decide (last < (i : Int))) = l at q
  cases l with
  | nil =>
    refine sT rfl ?_
    exact retD.here q
  | cons i l =>
    refine sF (by simp; omega) ?_
    refine sS rfl ?_
    exact retD.here q

theorem ixs_len {α : Type} (xs : List α) : (ixs xs).length = xs.length := List.length_mapIdx
theorem wr_len (h : Hs) (key : Int) : (wr h key).length ≤ h.length := by
  unfold wr
  rw [List.length_map, ← ixs_len h]
  exact List.length_filter_le _ _
/-- the last of them ahead of t, or -1 -/
def lastI (l : List Nat) : Int := match l.getLast? with
  | some i => (i : Int)
  | none => -1
def lastW (h : Hs) (key : Int) (t : Nat) : Int := lastI ((wr h key).filter fun i => decide ((i : Int) < (t : Int)))
theorem lastI_at (l : List Nat) : xat ([D.int (-1)] ++ l.map dN) (-1) = some (.int (lastI l)) := by
  refine xat_last ?_
  unfold lastI
  cases h : l.getLast? with
  | none =>
    rw [List.getLast?_eq_none_iff] at h
    subst h; rfl
  | some i =>
    rw [List.getLast?_append, List.getLast?_map, h]
    rfl
structure Suit (h : Hs) (i t : Nat) (d : Dl) : Prop where
  rd : ∀ r ∈ d.1, lastW h r.1 t = r.2
  free : ∀ o e, t ≤ o → o < i → h[o]? = some e → ∀ key ∈ d.2, key ∉ e.2
theorem any_bls {bs : List Bool} {m : M} {k : D → M → Prop} (q : k (.bl (bs.any id)) m) : xAny (.lst (bs.map D.bl)) m k := sL rfl (sBl (bls_map bs) q)
theorem rgL_eq (lo n : Nat) : rgL (lo : Int) n = ((List.range n).map (lo + ·)).map dN := by
  unfold rgL
  rw [List.map_map]
  rfl
theorem suits_ok {h : Hs} {i t : Nat} {d : Dl} {m : M} {k : D → M → Prop} (hl : h.length ≤ 12) (hi : h[i]? = some d) (ht : t ≤ i) (q : ∀ b, (b = true ↔ Suit h i t d) → k (.bl b) m) : sp_suits [eH h, .int i, .int t] m k := by
  refine .mk ?_
  unfold v_suits
  have hi2 : i < h.length := (List.getElem?_eq_some_iff.mp hi).1
  refine sS (xat_enc (xat_nat hi)) ?_
  refine And.intro rfl ?_
  refine for_inv eP d.1 (fun dn e n => n = m ∧ (∀ r ∈ dn, lastW h r.1 t = r.2) ∧ ∃ x5 x6 x7, e = [some (eH h), some (.int i), some (.int t), some (.tup (d.1.map eP)), some (.tup (d.2.map D.int)), x5, x6, x7, none, none]) ⟨rfl, fun _ hr => (by cases hr), _, _, _, rfl⟩ ?_ ?_
  · rintro dn r rest e n hd ⟨rfl, hdn, x5, x6, x7, rfl⟩ K hK
    refine ⟨trivial, rfl, ?_⟩
    refine writers_ok ?_
    refine lc_filt dN (fun i : Nat => decide ((i : Int) < (t : Int))) dN trivial (wr h r.1) (fun x hx K hK => hK _ (fun kk hk => hk) fun _ kk hk => hk) ?_
    refine And.intro (by simp) ?_
    have hf : ((wr h r.1).filter fun i : Nat => decide ((i : Int) < (t : Int))).length ≤ 12 := Nat.le_trans (List.length_filter_le _ _) (Nat.le_trans (wr_len h r.1) hl)
    refine And.intro (by rw [List.length_map]; simp only [List.length_cons, List.length_nil]; omega) ?_
    refine sS (lastI_at _) ?_
    refine sB (fun hc => ?_) (fun hc => ?_)
    · refine retD.here (q false ⟨fun z => (by cases z), fun w => ?_⟩)
      have := w.rd r (by rw [hd]; simp)
      have hc : ¬ lastW h r.1 t = r.2 := by simpa [lastW] using hc
      exact absurd this hc
    · have hc : lastW h r.1 t = r.2 := by simpa [lastW] using hc
      refine hK _ _ ⟨rfl, fun y hy => ?_, _, _, _, rfl⟩
      rcases List.mem_append.mp hy with z | z
      · exact hdn y z
      · rw [List.mem_singleton.mp z]; exact hc
  · rintro e n ⟨rfl, hdn, x5, x6, x7, rfl⟩
    refine ⟨trivial, ?_⟩
    refine And.intro ⟨by omega, by omega, by omega, by omega, by omega⟩ ?_
    rw [show ((i : Int) - (t : Int)).toNat = i - t by omega, rgL_eq]
    refine lc_filt dN (fun o : Nat => d.2.any fun key => (((h[o]?).map (·.2)).getD []).contains key) dN trivial _ (fun o ho K hK => hK _ (fun kk hk => ?_) fun _ kk hk => hk) ?_
    · have ho2 : o < h.length := by
        obtain ⟨j, hj, e⟩ := List.mem_map.mp ho
        have := List.mem_range.mp hj
        omega
      have hg : h[o]? = some h[o] := List.getElem?_eq_getElem ho2
      refine lc_map D.int (fun key => .bl (h[o].2.contains key)) trivial d.2 (fun key hkey K hK => hK _ fun kk hk => ?_) ?_
      · refine sS (xat_enc (xat_nat hg)) ?_
        refine sS rfl ?_
        exact in_intsT hk
      · have e : d.2.map (fun key => D.bl (h[o].2.contains key)) = (d.2.map fun key => h[o].2.contains key).map D.bl := by rw [List.map_map]; rfl
        rw [e]
        refine sL rfl ?_
        refine sBl (bls_map _) ?_
        rw [List.any_map]
        rw [hg] at hk
        exact hk
    · refine retD.here (q _ ?_)
      rw [if_neg Bool.false_ne_true, decide_eq_true_iff, List.length_map]
      constructor
      · intro z
        have z : ((List.range (i - t)).map (t + ·)).filter (fun o : Nat => d.2.any fun key => (((h[o]?).map (·.2)).getD []).contains key) = [] := List.eq_nil_of_length_eq_zero (by omega)
        rw [List.filter_eq_nil_iff] at z
        refine ⟨hdn, fun o e h1 h2 h3 key hkey hke => ?_⟩
        refine z o (List.mem_map.mpr ⟨o - t, List.mem_range.mpr (by omega), by omega⟩) ?_
        rw [h3, List.any_eq_true]
        exact ⟨key, hkey, List.contains_iff_mem.mpr hke⟩
      · intro w
        have z : ((List.range (i - t)).map (t + ·)).filter (fun o : Nat => d.2.any fun key => (((h[o]?).map (·.2)).getD []).contains key) = [] := by
          rw [List.filter_eq_nil_iff]
          intro o ho hc
          obtain ⟨j, hj, e⟩ := List.mem_map.mp ho
          have hj := List.mem_range.mp hj
          have ho2 : o < h.length := by omega
          have hg : h[o]? = some h[o] := List.getElem?_eq_getElem ho2
          rw [hg, List.any_eq_true] at hc
          obtain ⟨key, h1, h2⟩ := hc
          exact w.free o _ (by omega) (by omega) hg key h1 (List.contains_iff_mem.mp h2)
        rw [z]; rfl
end T

set_option Elab.async false
set_option linter.all false
set_option maxRecDepth 100000
set_option maxHeartbeats 2000000
namespace T
open PySem PySem.Spec PyProof.Rows L2
theorem rgL0 (n : Nat) : rgL 0 n = (List.range n).map dN := by
  rw [show rgL 0 n = _ from rgL_eq 0 n, show (fun x => 0 + x) = (id : Nat → Nat) by funext x; exact Nat.zero_add x, List.map_id]
theorem range_ixs {α : Type} (xs : List α) : List.range xs.length = (ixs xs).map (·.1) := by
  refine List.ext_getElem? fun i => ?_
  unfold ixs
  rw [List.getElem?_map, List.getElem?_mapIdx]
  by_cases h : i < xs.length
  · rw [List.getElem?_eq_getElem h, List.getElem?_range h]; rfl
  · rw [List.getElem?_eq_none (l := xs) (by omega), List.getElem?_eq_none (l := List.range xs.length) (by rw [List.length_range]; omega)]; rfl
open Classical in
noncomputable def mof (h : Hs) (i : Nat) (d : Dl) : Option Nat := ((List.range (i + 1)).filter fun t => decide (Suit h i t d)).getLast?
theorem last_at {l : List Nat} {i : Nat} (h : l.getLast? = some i) : xat (l.map dN) (-1) = some (dN i) := xat_last (by rw [List.getLast?_map, h]; rfl)
open Classical in
theorem moment_of_ok {h : Hs} {i : Nat} {d : Dl} {m : M} {k : D → M → Prop} (hl : h.length ≤ 12) (hi : h[i]? = some d) (q : k (dO (mof h i d)) m) : sp_moment_of [eH h, .int i] m k := by
  refine .mk ?_
  unfold v_moment_of
  have hi2 : i < h.length := (List.getElem?_eq_some_iff.mp hi).1
  refine And.intro ⟨by omega, by omega⟩ ?_
  rw [show ((i : Int) + 1).toNat = i + 1 by omega, rgL0]
  refine lc_filt dN (fun t : Nat => decide (Suit h i t d)) dN trivial _ (fun t ht K hK => hK _ (fun kk hk => ?_) fun _ kk hk => hk) ?_
  · have ht := List.mem_range.mp ht
    refine suits_ok hl hi (by omega) fun b hb => ?_
    have e : b = decide (Suit h i t d) := Bool.eq_iff_iff.mpr (by rw [hb, decide_eq_true_iff])
    show kk b m
    rw [e]; exact hk
  · unfold mof at q
    generalize (List.range (i + 1)).filter (fun t : Nat => decide (Suit h i t d)) = l at q ⊢
    cases l with
    | nil =>
      refine sT rfl ?_
      exact retD.here q
    | cons j l =>
      refine sF (by simp; omega) ?_
      cases e : (j :: l).getLast? with
      | none => rw [List.getLast?_eq_none_iff] at e; cases e
      | some y =>
        rw [e] at q
        refine sS (last_at e) ?_
        exact retD.here q
/-- all of them -/
noncomputable def mol (h : Hs) : List (Option Nat) := h.mapIdx fun i d => mof h i d
theorem moments_lc {h : Hs} {P : M → Prop} {x1 : Option D} {m : M} {k : List D → M → Prop} (hP : P m) (hl : h.length ≤ 12) (q : k ((mol h).map dO) m) :
    Rg (lcGoX P (.one 1) wYes (wCall sp_moment_of (wCons (wV 0) (wCons (wV 1) wNil))) [some (eH h), x1] k (rgL 0 h.length) [] m) := by
  have e : rgL 0 h.length = (ixs h).map fun p => dN p.1 := by
    rw [rgL0, range_ixs, List.map_map]; rfl
  rw [e]
  refine lc_map (fun p : Nat × Dl => dN p.1) (fun p => dO (mof h p.1 p.2)) hP (ixs h) (fun p hp K hK => hK _ fun kk hk => moment_of_ok hl (mem_ixs.mp hp) hk) ?_
  have e2 : (ixs h).map (fun p => dO (mof h p.1 p.2)) = (mol h).map dO := by
    refine List.ext_getElem? fun i => ?_
    unfold ixs mol
    rw [List.getElem?_map, List.getElem?_map, List.getElem?_mapIdx, List.getElem?_mapIdx]
    cases h[i]? <;> rfl
  rw [e2]; exact q
theorem moments_ok {h : Hs} {m : M} {k : D → M → Prop} (hw : HsOk h) (q : k (.tup ((mol h).map dO)) m) : sp_moments [eH h] m k := by
  refine .mk ?_
  unfold v_moments
  refine check_ok hw ?_
  have hl := hw.len
  refine And.intro ⟨by rw [List.length_map]; omega, by rw [List.length_map]; omega⟩ ?_
  rw [List.length_map, Int.toNat_natCast]
  refine moments_lc trivial hl ?_
  exact retD.here q
theorem none_in (l : List (Option Nat)) : ((l.map dO).any fun z => D.feq z .non) = true ↔ none ∈ l := by
  rw [List.any_map, List.any_eq_true]
  constructor
  · rintro ⟨o, h, e⟩
    cases o with
    | none => exact h
    | some i => cases e
  · intro h
    exact ⟨none, h, rfl⟩
theorem dO_flat (l : List (Option Nat)) : (l.map dO).all D.flat = true := by
  rw [List.all_map, List.all_eq_true]
  intro o _
  cases o <;> rfl
theorem mem_mol {h : Hs} : none ∉ mol h ↔ ∀ i d, h[i]? = some d → ∃ t, t ≤ i ∧ Suit h i t d := by
  unfold mol
  have e : ∀ i d, mof h i d ≠ none ↔ ∃ t, t ≤ i ∧ Suit h i t d := fun i d => by
    unfold mof
    rw [ne_eq, List.getLast?_eq_none_iff, List.filter_eq_nil_iff]
    constructor
    · intro z
      refine Classical.byContradiction fun c => z fun t ht hd => c ⟨t, by have := List.mem_range.mp ht; omega, by simpa using hd⟩
    · rintro ⟨t, h1, h2⟩ z
      exact z t (List.mem_range.mpr (by omega)) (by simpa using h2)
  constructor
  · intro z i d hd
    refine (e i d).mp fun c => z ?_
    refine List.mem_mapIdx.mpr ⟨i, (List.getElem?_eq_some_iff.mp hd).1, ?_⟩
    rw [(List.getElem?_eq_some_iff.mp hd).2]; exact c
  · intro z c
    obtain ⟨i, hi, ec⟩ := List.mem_mapIdx.mp c
    exact (e i _).mpr (z i _ (List.getElem?_eq_getElem hi)) ec
theorem by_snapshots_ok {h : Hs} {m : M} {k : D → M → Prop} (hw : HsOk h) (q : ∀ b, (b = true ↔ ∀ i d, h[i]? = some d → ∃ t, t ≤ i ∧ Suit h i t d) → k (.bl b) m) : sp_by_snapshots [eH h] m k := by
  refine .mk ?_
  unfold v_by_snapshots
  refine check_ok hw ?_
  have hl := hw.len
  refine And.intro ⟨by rw [List.length_map]; omega, by rw [List.length_map]; omega⟩ ?_
  rw [List.length_map, Int.toNat_natCast]
  refine moments_lc trivial hl ?_
  refine Or.inl ⟨rfl, dO_flat _, retD.here (q _ ?_)⟩
  rw [if_pos rfl, Bool.not_eq_true', ← mem_mol]
  exact (bool_iff (none_in _))
theorem m_lsee_ref {m : M} {p : Addr} {ds : List D} (h : m p = some (.lst ds)) : m.lsee (.ref p) = some ds := by simp [M.lsee, M.lraw, h]
theorem isT_list {m : M} {p : Addr} {ds : List D} (h : m p = some (.lst ds)) : isT "list" (.ref p) m := by
  show (m.lsee (.ref p)).isSome = true
  rw [m_lsee_ref h]; rfl
end T

set_option Elab.async false
set_option linter.all false
set_option maxRecDepth 100000
set_option maxHeartbeats 2000000
namespace T
open PySem PySem.Spec PyProof.Rows L2
theorem asc_len : ∀ (l : List Int) (lo hi : Int), l.Pairwise (· < ·) → (∀ x ∈ l, lo ≤ x ∧ x ≤ hi) → l.length ≤ (hi - lo + 1).toNat
  | [], _, _, _, _ => Nat.zero_le _
  | a :: l, lo, hi, h, r => by
    have h' := List.pairwise_cons.mp h
    have ha := r a List.mem_cons_self
    have ih := asc_len l (a + 1) hi h'.2 fun x hx => ⟨by have := h'.1 x hx; omega, (r x (List.mem_cons_of_mem _ hx)).2⟩
    rw [List.length_cons]
    omega
/-! edges -/
abbrev Ed := Int × Int × Str × Int
def eE (e : Ed) : D := .tup [.int e.1, .int e.2.1, .str e.2.2.1, .int e.2.2.2]
def edW (h : Hs) (i : Nat) (key : Int) : List Ed := ((wr h key).filter fun o : Nat => decide ((i : Int) < (o : Int))).map fun o : Nat => ((i : Int), (o : Int), "wrote", key)
def edO (h : Hs) (i : Nat) (r : Int × Int) : List Ed := match nw h r.1 r.2 with
  | some b => if (b : Int) = i then [] else [((i : Int), (b : Int), ("over" : Str), r.1)]
  | none => []
theorem edO_some {h : Hs} {i b : Nat} {r : Int × Int} (e : nw h r.1 r.2 = some b) : edO h i r = if (b : Int) = i then [] else [((i : Int), (b : Int), ("over" : Str), r.1)] := by unfold edO; rw [e]
theorem edO_none {h : Hs} {i : Nat} {r : Int × Int} (e : nw h r.1 r.2 = none) : edO h i r = [] := by unfold edO; rw [e]
def edS (i : Nat) (r : Int × Int) : List Ed := if r.2 = -1 then [] else [(r.2, (i : Int), ("read" : Str), r.1)]
def edR (h : Hs) (i : Nat) (r : Int × Int) : List Ed := edS i r ++ edO h i r
def edI (h : Hs) (p : Nat × Dl) : List Ed := p.2.2.flatMap (edW h p.1) ++ p.2.1.flatMap (edR h p.1)
def edL (h : Hs) : List Ed := (ixs h).flatMap (edI h)
theorem len_flat {α β : Type} (f : α → List β) (n : Nat) : ∀ xs : List α, (∀ x ∈ xs, (f x).length ≤ n) → (xs.flatMap f).length ≤ xs.length * n
  | [], _ => by simp
  | x :: xs, h => by
    rw [List.flatMap_cons, List.length_append, List.length_cons, Nat.succ_mul]
    have := h x List.mem_cons_self
    have := len_flat f n xs fun y hy => h y (List.mem_cons_of_mem _ hy)
    omega
theorem ed_len {h : Hs} (hw : HsOk h) : (edL h).length ≤ 100000 := by
  have hl := hw.len
  have h1 : ∀ p ∈ ixs h, (edI h p).length ≤ 1400 := fun p hp => by
    have hd := mem_ixs.mp hp
    have w := hw.wr p.2 (List.mem_of_getElem? hd)
    have r := hw.rd p.1 p.2 hd
    have l1 := asc_len p.2.2 0 99 w.asc w.rng
    have l2 := asc_len (p.2.1.map (·.1)) 0 99 r.asc fun x hx => by
      obtain ⟨y, hy, e⟩ := List.mem_map.mp hx
      rw [← e]; exact (r.each y hy).1.rng
    rw [List.length_map] at l2
    have l3 := len_flat (edW h p.1) 12 p.2.2 fun key _ => by
      unfold edW
      rw [List.length_map]
      exact Nat.le_trans (List.length_filter_le _ _) (Nat.le_trans (wr_len h key) hl)
    have l4 := len_flat (edR h p.1) 2 p.2.1 fun rr _ => by
      unfold edR
      rw [List.length_append]
      have a : (edS p.1 rr).length ≤ 1 := by unfold edS; split <;> simp
      have b : (edO h p.1 rr).length ≤ 1 := by
        unfold edO
        split
        · split <;> simp
        · simp
      omega
    unfold edI
    rw [List.length_append]
    have e1 : (99 - 0 + 1 : Int).toNat = 100 := rfl
    rw [e1] at l1 l2
    omega
  have := len_flat (edI h) 1400 (ixs h) h1
  rw [ixs_len] at this
  unfold edL
  omega
theorem eE_py (e : Ed) : (eE e).py = some (.tuple [.int e.1, .int e.2.1, .str e.2.2.1, .int e.2.2.2]) := rfl
theorem eE_pyD (e : Ed) : (eE e).pyD = .tuple [.int e.1, .int e.2.1, .str e.2.2.1, .int e.2.2.2] := rfl
theorem sortOk_eE (l : List Ed) : SortOk (l.map eE) := by
  have h : ∀ d ∈ l.map eE, ∃ e : Ed, d = eE e := fun d hd => by
    obtain ⟨e, _, r⟩ := List.mem_map.mp hd
    exact ⟨e, r.symm⟩
  refine ⟨fun d hd => ?_, fun d hd e he => ?_, .inl fun d hd => ?_, fun d hd => ?_⟩
  · obtain ⟨e, rfl⟩ := h d hd; rfl
  · obtain ⟨a, rfl⟩ := h d hd
    obtain ⟨b, rfl⟩ := h e he
    rw [eE_pyD, eE_pyD]; rfl
  · obtain ⟨a, rfl⟩ := h d hd
    exact ⟨_, _, eE_pyD a⟩
  · obtain ⟨a, rfl⟩ := h d hd
    rw [eE_pyD]
    show _ ≤ 60
    have e : (PyData.tuple [.int a.1, .int a.2.1, .str a.2.2.1, .int a.2.2.2]).depth = 1 := rfl
    rw [e]; decide
theorem retD.less {k : D → M → Prop} {d : D} {m m1 : M} (h : ∀ a o, m a = some o → m1 a = some o) (q : k d m) : retD k d m1 := ⟨m, d, Frz.drop h, q⟩
theorem edges_of_ok {h : Hs} {m : M} {k : D → M → Prop} (hw : HsOk h) (q : k (.lst (sortD ((edL h).map eE))) m) : sp_edges_of [eH h] m k := by
  refine .mk ?_
  unfold v_edges_of
  refine And.intro (by decide) ?_
  refine fun p hp => ?_
  have tot := ed_len hw
  have hl := hw.len
  show Rg (goForX (fun _ => True) _ _ _ (enumD (h.map eDl)) _ _)
  rw [enumD_map]
  refine for_inv (fun p : Nat × Dl => .tup [.int p.1, eDl p.2]) (ixs h) (fun dn e n => n p = some (.lst ((dn.flatMap (edI h)).map eE)) ∧ But p m n ∧ ∃ x2 x3 x4 x5 x6 x7, e = [some (eH h), some (.ref p), x2, x3, x4, x5, x6, x7]) ⟨M.set_same, But.set, _, _, _, _, _, _, rfl⟩ ?_ ?_
  · rintro dn ⟨i, d⟩ rest e n hd ⟨hn, hb, x2, x3, x4, x5, x6, x7, rfl⟩ K hK
    refine ⟨trivial, rfl, ?_⟩
    refine sS rfl ?_
    have bd : (dn.flatMap (edI h)).length + (edI h (i, d)).length ≤ 100000 := by
      have : edL h = dn.flatMap (edI h) ++ (edI h (i, d) ++ rest.flatMap (edI h)) := by unfold edL; rw [hd, List.flatMap_append, List.flatMap_cons]
      rw [this, List.length_append, List.length_append] at tot
      omega
    refine for_inv D.int d.2 (fun dw e n => n p = some (.lst ((dn.flatMap (edI h) ++ dw.flatMap (edW h i)).map eE)) ∧ But p m n ∧ ∃ x4 x5 x6 x7, e = [some (eH h), some (.ref p), some (.int i), some (eDl d), x4, x5, x6, x7]) ⟨by rw [List.flatMap_nil, List.append_nil]; exact hn, hb, _, _, _, _, rfl⟩ ?_ ?_
    · rintro dw key rw' e n hdw ⟨hn, hb, x4, x5, x6, x7, rfl⟩ K hK
      refine ⟨trivial, ?_⟩
      refine And.intro (isT_list hn) ?_
      refine writers_ok ?_
      refine lc_filt dN (fun o : Nat => decide ((i : Int) < (o : Int))) (fun o : Nat => eE ((i : Int), (o : Int), "wrote", key)) trivial (wr h key) (fun x hx K hK => hK _ (fun kk hk => hk) fun _ kk hk => And.intro (by simp) hk) ?_
      have e1 : ((wr h key).filter fun o : Nat => decide ((i : Int) < (o : Int))).map (fun o : Nat => eE ((i : Int), (o : Int), "wrote", key)) = (edW h i key).map eE := by unfold edW; rw [List.map_map]; rfl
      rw [e1]
      have bd2 : (dn.flatMap (edI h) ++ dw.flatMap (edW h i)).length + (edW h i key).length ≤ 100000 := by
        have e2 : edI h (i, d) = dw.flatMap (edW h i) ++ (edW h i key ++ rw'.flatMap (edW h i)) ++ d.1.flatMap (edR h i) := by
          show d.2.flatMap (edW h i) ++ _ = _
          rw [hdw, List.flatMap_append, List.flatMap_cons]
        rw [e2] at bd
        simp only [List.length_append] at bd ⊢
        omega
      refine sM hn ?_
      refine sL rfl ?_
      refine And.intro (by rw [List.length_map, List.length_map]; omega) ?_
      refine hK _ _ ⟨?_, hb.trans But.set, _, _, _, _, rfl⟩
      rw [M.set_same]
      simp only [List.flatMap_append, List.flatMap_cons, List.flatMap_nil, List.append_nil, List.map_append, List.append_assoc]
    · rintro e n ⟨hn, hb, x4, x5, x6, x7, rfl⟩
      refine ⟨trivial, ?_⟩
      refine sS rfl ?_
      refine for_inv eP d.1 (fun dr e n => n p = some (.lst ((dn.flatMap (edI h) ++ d.2.flatMap (edW h i) ++ dr.flatMap (edR h i)).map eE)) ∧ But p m n ∧ ∃ x4 x5 x6 x7, e = [some (eH h), some (.ref p), some (.int i), some (eDl d), x4, x5, x6, x7]) ⟨by rw [List.flatMap_nil, List.append_nil]; exact hn, hb, _, _, _, _, rfl⟩ ?_ ?_
      · rintro dr r rr e n hdr ⟨hn, hb, x4, x5, x6, x7, rfl⟩ K hK
        refine ⟨trivial, rfl, ?_⟩
        have bd3 : (dn.flatMap (edI h) ++ d.2.flatMap (edW h i) ++ dr.flatMap (edR h i)).length + (edR h i r).length ≤ 100000 := by
          have e2 : edI h (i, d) = d.2.flatMap (edW h i) ++ (dr.flatMap (edR h i) ++ (edR h i r ++ rr.flatMap (edR h i))) := by
            show _ ++ d.1.flatMap (edR h i) = _
            rw [hdr, List.flatMap_append, List.flatMap_cons]
          rw [e2] at bd
          simp only [List.length_append] at bd ⊢
          omega
        generalize hA : dn.flatMap (edI h) ++ d.2.flatMap (edW h i) ++ dr.flatMap (edR h i) = A at hn bd3
        have fin : ∀ (e : T.Env) (n : M), n p = some (.lst ((A ++ edR h i r).map eE)) → But p m n → (∃ x4 x5 x6 x7, e = [some (eH h), some (.ref p), some (.int i), some (eDl d), x4, x5, x6, x7]) → K e n := fun e n h1 h2 h3 => by
          refine hK e n ⟨?_, h2, h3⟩
          rw [h1, List.flatMap_append, List.flatMap_cons, List.flatMap_nil, List.append_nil, ← List.append_assoc, hA]
        refine seq_split (fun e n => n p = some (.lst ((A ++ edS i r).map eE)) ∧ But p m n ∧ e = [some (eH h), some (.ref p), some (.int i), some (eDl d), some (.int r.1), x5, some (.int r.2), x7]) ?_ fun hJ => ?_
        · rintro e n ⟨hn, hb, rfl⟩
          refine next_writer_ok ?_
          unfold edR at fin bd3
          cases hnw : nw h r.1 r.2 with
          | none =>
            rw [edO_none hnw] at fin
            refine sF rfl ?_
            refine sF rfl ?_
            refine fin _ _ ?_ hb ⟨_, _, _, _, rfl⟩
            rw [hn, List.append_nil]
          | some b =>
            rw [edO_some hnw] at fin bd3
            refine sT rfl ?_
            refine sB (fun hc => ?_) (fun hc => ?_)
            · have hc : ¬ (b : Int) = i := by simpa using hc
              refine And.intro (isT_list hn) ?_
              refine And.intro (show (4 : Nat) ≤ 16777216 by decide) ?_
              refine sM hn ?_
              refine And.intro ?_ ?_
              · rw [if_neg hc] at bd3
                simp only [List.length_append, List.length_map, List.length_cons, List.length_nil] at bd3 ⊢
                omega
              · refine fin _ _ ?_ (hb.trans But.set) ⟨_, _, _, _, rfl⟩
                rw [M.set_same, if_neg hc, ← List.append_assoc, List.map_append (l₂ := [_])]
                rfl
            · have hc : (b : Int) = i := by simpa using hc
              refine fin _ _ ?_ hb ⟨_, _, _, _, rfl⟩
              rw [hn, if_pos hc, List.append_nil]
        · refine sB (fun hc => ?_) (fun hc => ?_)
          · have hc : ¬ r.2 = -1 := by simpa using hc
            refine And.intro (isT_list hn) ?_
            refine And.intro (show (4 : Nat) ≤ 16777216 by decide) ?_
            refine sM hn ?_
            refine And.intro ?_ ?_
            · rw [List.length_map]; omega
            · refine hJ _ _ ⟨?_, hb.trans But.set, rfl⟩
              rw [M.set_same, show edS i r = _ from if_neg hc, List.map_append]; rfl
          · have hc : r.2 = -1 := by simpa using hc
            refine hJ _ _ ⟨?_, hb, rfl⟩
            rw [hn, show edS i r = _ from if_pos hc, List.append_nil]
      · rintro e n ⟨hn, hb, x4, x5, x6, x7, rfl⟩
        refine ⟨trivial, ?_⟩
        refine hK _ _ ⟨?_, hb, _, _, _, _, _, _, rfl⟩
        rw [hn, List.flatMap_append, List.flatMap_cons, List.flatMap_nil, List.append_nil]
        show _ = some (MO.lst ((dn.flatMap (edI h) ++ (d.2.flatMap (edW h i) ++ d.1.flatMap (edR h i))).map eE))
        rw [List.append_assoc]
  · rintro e n ⟨hn, hb, x2, x3, x4, x5, x6, x7, rfl⟩
    refine ⟨trivial, ?_⟩
    refine sL (m_lsee_ref hn) ?_
    refine And.intro (sortOk_eE _) ?_
    refine retD.less (m := m) (fun a o ho => ?_) q
    rw [hb a (fun z => by rw [z, hp] at ho; cases ho)]
    exact ho
theorem edges_ok {h : Hs} {m : M} {k : D → M → Prop} (hw : HsOk h) (q : k (.lst (sortD ((edL h).map eE))) m) : sp_edges [eH h] m k := by
  refine .mk ?_
  unfold v_edges
  refine check_ok hw ?_
  exact edges_of_ok hw (retD.here q)
theorem sort_mem {ds : List D} {d : D} : d ∈ sortD ds ↔ d ∈ ds := (List.mergeSort_perm _ _).mem_iff
/-- sorted, still edges -/
theorem sort_eE (l : List Ed) : ∃ l' : List Ed, sortD (l.map eE) = l'.map eE ∧ l'.Perm l := by
  refine ⟨l.mergeSort fun a b => leD (eE a) (eE b), ?_, List.mergeSort_perm _ _⟩
  unfold sortD
  exact (List.map_mergeSort (f := eE) fun a _ b _ => rfl).symm
end T

set_option Elab.async false
set_option linter.all false
set_option maxRecDepth 100000
set_option maxHeartbeats 2000000
namespace T
open PySem PySem.Spec PyProof.Rows L2
/-! dicts of ints -/
theorem valD_c {k j : Key} {v : D} {kvs : List (Key × D)} : valD ((k, v) :: kvs) j = if k = j then some v else valD kvs j := by
  unfold valD
  by_cases h : k = j
  · rw [List.find?_cons_of_pos (by simpa using h), if_pos h]; rfl
  · rw [List.find?_cons_of_neg (by simpa using h), if_neg h]
theorem valD_app {j : Key} {v : D} {k : Key} : ∀ {kvs : List (Key × D)}, valD (kvs ++ [(k, v)]) j = match valD kvs j with
    | some x => some x
    | none => if k = j then some v else none
  | [] => by rw [List.nil_append, valD_c]; rfl
  | (k', v') :: kvs => by
    rw [List.cons_append, valD_c, valD_c]
    by_cases h : k' = j
    · rw [if_pos h, if_pos h]
    · rw [if_neg h, if_neg h, valD_app]
theorem valD_upd {j : Key} {v : D} {k : Key} : ∀ {kvs : List (Key × D)}, (valD (kvs.map (fun kv => if kv.1 = k then (kv.1, v) else kv)) j) = if k = j then (valD kvs j).map (fun _ => v) else valD kvs j
  | [] => by unfold valD; simp
  | (k', v') :: kvs => by
    rw [List.map_cons]
    by_cases h : k' = k
    · rw [if_pos h, valD_c, valD_c, valD_upd]
      have h : k' = k := h
      subst h
      by_cases h2 : k' = j
      · rw [if_pos h2, if_pos h2, if_pos h2]; rfl
      · simp [h2]
    · rw [if_neg h, valD_c, valD_upd]
      have h : ¬ k' = k := h
      show (if k' = j then some v' else _) = _
      rw [valD_c]
      by_cases h2 : k' = j
      · subst h2
        rw [if_pos rfl, if_neg (Ne.symm h)]; simp
      · rw [if_neg h2, if_neg h2]
theorem any_valD {kvs : List (Key × D)} {k : Key} : kvs.any (fun kv => decide (kv.1 = k)) = (valD kvs k).isSome := by
  induction kvs with
  | nil => rfl
  | cons p kvs ih =>
    obtain ⟨k', v⟩ := p
    rw [List.any_cons, valD_c, ih]
    by_cases h : k' = k
    · rw [if_pos h, decide_eq_true h]; rfl
    · rw [if_neg h, decide_eq_false h]; rfl
theorem valD_put {kvs : List (Key × D)} {k j : Key} {v : D} : valD (putD kvs k v) j = if k = j then some v else valD kvs j := by
  unfold putD
  rw [any_valD]
  cases h : valD kvs k with
  | none =>
    rw [if_neg (by simp), valD_app]
    by_cases hj : k = j
    · subst hj; rw [h]
    · rw [if_neg hj]
      cases valD kvs j with
      | none => simp [hj]
      | some x => rw [if_neg hj]
  | some x =>
    rw [if_pos (by simp), valD_upd]
    by_cases hj : k = j
    · subst hj; rw [if_pos rfl, if_pos rfl, h]; rfl
    · rw [if_neg hj, if_neg hj]
theorem putD_len (kvs : List (Key × D)) (k : Key) (v : D) : (putD kvs k v).length ≤ kvs.length + 1 := by
  unfold putD
  split
  · rw [List.length_map]; omega
  · rw [List.length_append]; simp
/-- new dicts, one an item -/
theorem lc_dics {P : M → Prop} {tg : Tg} {env : T.Env} {k : List D → M → Prop} {m : M} (hP : ∀ m, P m) (xs : List D) (hb : ∀ x ∈ xs, ∀ K : T.Env → Prop, (∀ e, K e) → bindTg tg x env K)
    (q : ∀ (as : List Addr) (m' : M), as.length = xs.length → as.Nodup → (∀ a ∈ as, m a = none ∧ m' a = some (.dic [])) → (∀ b, b ∉ as → m' b = m b) → k (as.map D.ref) m') : Rg (lcGoX P tg wYes wDic0 env k xs [] m) := by
  have main : ∀ (xs : List D) (done : List Addr) (m1 : M), (∀ x ∈ xs, ∀ K : T.Env → Prop, (∀ e, K e) → bindTg tg x env K) → done.Nodup → (∀ a ∈ done, m a = none ∧ m1 a = some (.dic [])) → (∀ b, b ∉ done → m1 b = m b) →
      (∀ (as : List Addr) (m' : M), as.length = done.length + xs.length → as.Nodup → (∀ a ∈ as, m a = none ∧ m' a = some (.dic [])) → (∀ b, b ∉ as → m' b = m b) → k (as.map D.ref) m') → lcGoX P tg wYes wDic0 env k xs (done.map D.ref) m1 := by
    intro xs
    induction xs with
    | nil => intro done m1 _ h1 h2 h3 q; exact ⟨hP _, q done m1 rfl h1 h2 h3⟩
    | cons x xs ih =>
      intro done m1 hb h1 h2 h3 q
      refine ⟨hP _, hb x List.mem_cons_self _ fun e => ?_⟩
      refine sT rfl ?_
      refine fun p hp => ⟨?_⟩
      have hpd : p ∉ done := fun z => by rw [(h2 p z).2] at hp; cases hp
      have := ih (done ++ [p]) (m1.set p (.dic [])) (fun y hy => hb y (List.mem_cons_of_mem _ hy)) ?_ ?_ ?_ ?_
      · rwa [List.map_append] at this
      · rw [List.nodup_append]
        refine ⟨h1, by simp, fun a ha b hb e => ?_⟩
        rw [List.mem_singleton.mp hb] at e
        exact hpd (by rw [← e]; exact ha)
      · intro a ha
        rcases List.mem_append.mp ha with z | z
        · exact ⟨(h2 a z).1, by rw [M.set_ne (fun y => hpd (by rw [← y]; exact z))]; exact (h2 a z).2⟩
        · rw [List.mem_singleton.mp z]
          exact ⟨by rw [← h3 p hpd]; exact hp, M.set_same⟩
      · intro b hb
        rw [M.set_ne (fun y => hb (by rw [y]; simp))]
        exact h3 b fun z => hb (List.mem_append_left _ z)
      · intro as m' hl
        refine q as m' ?_
        rw [hl, List.length_append, List.length_cons]; simp only [List.length_cons, List.length_nil]; omega
  exact ⟨main xs [] m hb List.nodup_nil (fun a h => by cases h) (fun b _ => rfl) (fun as m' hl => q as m' (by rw [hl]; simp))⟩
/-! webs -/
def Eg (l : List Ed) (i o : Nat) : Prop := ∃ e ∈ l, e.1 = (i : Int) ∧ e.2.1 = (o : Int)
structure WebAt (l : List Ed) (n : Nat) (as : List Addr) (m : M) : Prop where
  len : as.length = n
  at' : ∀ (i : Nat) a, as[i]? = some a → ∃ kvs, m a = some (.dic kvs) ∧ kvs.length ≤ l.length ∧ ∀ o : Nat, (valD kvs (.inl (o : Int))).isSome = true ↔ Eg l i o
theorem webs_ok {h : Hs} {m : M} {k : D → M → Prop} (hw : HsOk h) (hE : ∀ e ∈ edL h, ∃ i o : Nat, e.1 = (i : Int) ∧ e.2.1 = (o : Int) ∧ i < h.length ∧ o < h.length)
    (q : ∀ as m', as.Nodup → WebAt (edL h) h.length as m' → (∀ a ∈ as, m a = none) → (∀ b, b ∉ as → m' b = m b) → k (.lst (as.map D.ref)) m') : sp_webs [eH h] m k := by
  refine .mk ?_
  unfold v_webs
  refine lc_dics (fun _ => trivial) _ (fun x hx K hK => hK _) fun as m1 hlen hnd h1 h2 => ?_
  rw [List.length_map] at hlen
  refine edges_of_ok hw ?_
  obtain ⟨l, el, pl⟩ := sort_eE (edL h)
  rw [el]
  have hln : l.length ≤ 100000 := by rw [pl.length_eq]; exact ed_len hw
  refine for_inv eE l (fun dn e n => WebAt dn h.length as n ∧ (∀ b, b ∉ as → n b = m b) ∧ ∃ x2 x3 x4, e = [some (eH h), some (.lst (as.map D.ref)), x2, x3, x4]) ⟨⟨hlen, fun i a ha => ?_⟩, h2, _, _, _, rfl⟩ ?_ ?_
  · exact ⟨[], (h1 a (List.mem_of_getElem? ha)).2, by simp, fun o => ⟨fun z => (by cases z), fun ⟨_, z, _⟩ => (by cases z)⟩⟩
  · rintro dn e rest env n hd ⟨wa, hb, x2, x3, x4, rfl⟩ K hK
    obtain ⟨i, o, ei, eo, hi, ho⟩ := hE e (pl.mem_iff.mp (by rw [hd]; simp))
    have hi2 : i < as.length := by omega
    have ha : as[i]? = some as[i] := List.getElem?_eq_getElem hi2
    obtain ⟨kvs, hk1, hk2, hk3⟩ := wa.at' i _ ha
    refine ⟨trivial, rfl, ?_⟩
    refine sS (d := .ref as[i]) (by rw [ei]; exact xat_enc (xat_nat ha)) ?_
    refine sMd hk1 ?_
    have hdl : dn.length + 1 ≤ 100000 := by rw [hd, List.length_append, List.length_cons] at hln; omega
    refine And.intro (by omega) ?_
    refine hK _ _ ⟨⟨hlen, fun j a hj => ?_⟩, fun b hb2 => ?_, _, _, _, rfl⟩
    · by_cases hji : j = i
      · subst hji
        rw [ha] at hj
        injection hj with hj
        subst hj
        refine ⟨_, M.set_same, Nat.le_trans (putD_len _ _ _) (by rw [List.length_append, List.length_singleton]; omega), fun o' => ?_⟩
        rw [valD_put]
        by_cases hoo : (Sum.inl e.2.1 : Key) = .inl (o' : Int)
        · rw [if_pos hoo]
          injection hoo with hoo
          exact ⟨fun _ => ⟨e, by simp, ei, hoo⟩, fun _ => rfl⟩
        · rw [if_neg hoo, hk3 o']
          constructor
          · rintro ⟨e', h1, h2⟩
            exact ⟨e', List.mem_append_left _ h1, h2⟩
          · rintro ⟨e', h1, h2, h3⟩
            rcases List.mem_append.mp h1 with z | z
            · exact ⟨e', z, h2, h3⟩
            · rw [List.mem_singleton.mp z] at h3
              exact absurd (by rw [h3]) hoo
      · obtain ⟨kvs', g1, g2, g3⟩ := wa.at' j a hj
        have hne : a ≠ as[i] := fun z => hji (by
          have h3 := (List.getElem?_eq_some_iff.mp hj)
          obtain ⟨h3, h4⟩ := h3
          exact (List.getElem_inj hnd).mp (h4.trans z))
        refine ⟨kvs', by rw [M.set_ne hne]; exact g1, by rw [List.length_append]; omega, fun o' => ?_⟩
        rw [g3 o']
        constructor
        · rintro ⟨e', h1, h2⟩
          exact ⟨e', List.mem_append_left _ h1, h2⟩
        · rintro ⟨e', h1, h2, h3⟩
          rcases List.mem_append.mp h1 with z | z
          · exact ⟨e', z, h2, h3⟩
          · rw [List.mem_singleton.mp z, ei] at h2
            exact absurd (by omega : j = i) hji
    · rw [M.set_ne (fun z => hb2 (by rw [z]; exact List.getElem_mem hi2))]
      exact hb b hb2
  · rintro e n ⟨wa, hb, x2, x3, x4, rfl⟩
    refine ⟨trivial, retD.here (q as n hnd ⟨wa.len, fun i a ha => ?_⟩ (fun a ha => (h1 a ha).1) hb)⟩
    obtain ⟨kvs, g1, g2, g3⟩ := wa.at' i a ha
    refine ⟨kvs, g1, by rw [← pl.length_eq]; exact g2, fun o => ?_⟩
    rw [g3 o]
    exact ⟨fun ⟨e, h1, h2⟩ => ⟨e, pl.mem_iff.mp h1, h2⟩, fun ⟨e, h1, h2⟩ => ⟨e, pl.mem_iff.mpr h1, h2⟩⟩
end T

set_option Elab.async false
set_option linter.all false
set_option maxRecDepth 100000
set_option maxHeartbeats 2000000
namespace T
open PySem PySem.Spec PyProof.Rows L2
theorem nw_spec {h : Hs} {key last : Int} {b : Nat} (e : nw h key last = some b) : b ∈ wr h key ∧ last < (b : Int) ∧ ∀ o ∈ wr h key, last < (o : Int) → b ≤ o := by
  unfold nw at e
  have hm : b ∈ (wr h key).filter fun i : Nat => decide (last < (i : Int)) := List.mem_of_head? e
  obtain ⟨h1, h2⟩ := List.mem_filter.mp hm
  refine ⟨h1, by simpa using h2, fun o ho hl => ?_⟩
  have hp := (wr_asc h key).filter fun i : Nat => decide (last < (i : Int))
  have ho2 : o ∈ (wr h key).filter fun i : Nat => decide (last < (i : Int)) := List.mem_filter.mpr ⟨ho, by simpa using hl⟩
  generalize (wr h key).filter (fun i : Nat => decide (last < (i : Int))) = l at e hp ho2
  cases l with
  | nil => cases e
  | cons x l =>
    have : x = b := by simpa using e
    subst this
    rcases List.mem_cons.mp ho2 with z | z
    · omega
    · exact Nat.le_of_lt ((List.pairwise_cons.mp hp).1 o z)
theorem nw_none {h : Hs} {key last : Int} (e : nw h key last = none) : ∀ o ∈ wr h key, ¬ last < (o : Int) := fun o ho hl => by
  unfold nw at e
  rw [List.head?_eq_none_iff, List.filter_eq_nil_iff] at e
  exact e o ho (by simpa using hl)
inductive EdAt (h : Hs) : Ed → Prop
  | wrote (i o : Nat) (key : Int) : i ∈ wr h key → o ∈ wr h key → i < o → EdAt h ((i : Int), (o : Int), "wrote", key)
  | read (i : Nat) (d : Dl) (r : Int × Int) : h[i]? = some d → r ∈ d.1 → r.2 ≠ -1 → EdAt h (r.2, (i : Int), "read", r.1)
  | over (i b : Nat) (d : Dl) (r : Int × Int) : h[i]? = some d → r ∈ d.1 → nw h r.1 r.2 = some b → b ≠ i → EdAt h ((i : Int), (b : Int), "over", r.1)
theorem mem_edL {h : Hs} {e : Ed} : e ∈ edL h ↔ EdAt h e := by
  unfold edL
  rw [List.mem_flatMap]
  constructor
  · rintro ⟨⟨i, d⟩, hp, he⟩
    have hd := mem_ixs.mp hp
    rcases List.mem_append.mp he with he | he
    · obtain ⟨key, hk, he⟩ := List.mem_flatMap.mp he
      obtain ⟨o, ho, rfl⟩ := List.mem_map.mp he
      obtain ⟨h1, h2⟩ := List.mem_filter.mp ho
      exact .wrote i o key (mem_wr.mpr ⟨d, hd, hk⟩) h1 (by simpa using h2)
    · obtain ⟨r, hr, he⟩ := List.mem_flatMap.mp he
      rcases List.mem_append.mp he with he | he
      · unfold edS at he
        split at he
        · cases he
        · rename_i hn
          rw [List.mem_singleton.mp he]
          exact .read i d r hd hr hn
      · unfold edO at he
        split at he
        · rename_i b hb
          split at he
          · cases he
          · rename_i hn
            rw [List.mem_singleton.mp he]
            exact .over i b d r hd hr hb (fun z => hn (by rw [z]))
        · cases he
  · intro he
    cases he with
    | wrote i o key h1 h2 h3 =>
      obtain ⟨d, hd, hk⟩ := mem_wr.mp h1
      refine ⟨(i, d), mem_ixs.mpr hd, List.mem_append_left _ (List.mem_flatMap.mpr ⟨key, hk, List.mem_map.mpr ⟨o, List.mem_filter.mpr ⟨h2, by simpa using h3⟩, rfl⟩⟩)⟩
    | read i d r hd hr hn =>
      refine ⟨(i, d), mem_ixs.mpr hd, List.mem_append_right _ (List.mem_flatMap.mpr ⟨r, hr, List.mem_append_left _ ?_⟩)⟩
      unfold edS
      rw [if_neg hn]; simp
    | over i b d r hd hr hb hn =>
      refine ⟨(i, d), mem_ixs.mpr hd, List.mem_append_right _ (List.mem_flatMap.mpr ⟨r, hr, List.mem_append_right _ ?_⟩)⟩
      rw [edO_some hb, if_neg (fun z => hn (by omega))]; simp
theorem ed_rng {h : Hs} (hw : HsOk h) : ∀ e ∈ edL h, ∃ i o : Nat, e.1 = (i : Int) ∧ e.2.1 = (o : Int) ∧ i < h.length ∧ o < h.length := fun e he => by
  have lt : ∀ {i : Nat} {d : Dl}, h[i]? = some d → i < h.length := fun e => (List.getElem?_eq_some_iff.mp e).1
  have ltw : ∀ {i : Nat} {key : Int}, i ∈ wr h key → i < h.length := fun e => by
    obtain ⟨d, hd, _⟩ := mem_wr.mp e
    exact lt hd
  cases mem_edL.mp he with
  | wrote i o key h1 h2 h3 => exact ⟨i, o, rfl, rfl, ltw h1, ltw h2⟩
  | read i d r hd hr hn =>
    rcases ((hw.rd i d hd).each r hr).1.src with z | ⟨w, z1, z2, z3⟩
    · exact absurd z hn
    · refine ⟨r.2.toNat, i, ?_, rfl, ?_, lt hd⟩
      · show r.2 = (r.2.toNat : Int); omega
      · have := (List.getElem?_eq_some_iff.mp z2).1
        rwa [List.length_map] at this
  | over i b d r hd hr hb hn => exact ⟨i, b, rfl, rfl, lt hd, ltw (nw_spec hb).1⟩
/-! the order -/
open Classical in
noncomputable def readyL (l : List Ed) (left : List Nat) : List Nat := left.filter fun d => !(left.any fun o => decide (Eg l o d))
noncomputable def ordF (l : List Ed) : Nat → List Nat → List Nat
  | 0, _ => []
  | n + 1, left => match (readyL l left).head? with
    | some x => x :: ordF l n (left.erase x)
    | none => []
theorem ordF_succ {l : List Ed} {n : Nat} {left : List Nat} : ordF l (n + 1) left = match (readyL l left).head? with
    | some x => x :: ordF l n (left.erase x)
    | none => [] := rfl
noncomputable def order (h : Hs) : List Nat := ordF (edL h) h.length (List.range h.length)
theorem erase_cast (x : Nat) : ∀ l : List Nat, (l.map (fun n : Nat => (n : Int))).erase (x : Int) = (l.erase x).map (fun n : Nat => (n : Int))
  | [] => rfl
  | a :: l => by
    rw [List.map_cons, List.erase_cons, List.erase_cons]
    by_cases h : a = x
    · subst h; simp
    · rw [if_neg (by simp; omega), if_neg (by simp [h]), List.map_cons, erase_cast]
theorem dN_map (l : List Nat) : l.map dN = (l.map (fun n : Nat => (n : Int))).map D.int := by rw [List.map_map]; rfl
open Classical in
theorem order_of_ok {h : Hs} {m : M} {k : D → M → Prop} (hw : HsOk h) (q : k (.tup ((order h).map dN)) m) : sp_order_of [eH h] m k := by
  refine .mk ?_
  unfold v_order_of
  refine webs_ok hw (ed_rng hw) fun as m1 hnd wa hnew hb => ?_
  have hl := hw.len
  refine And.intro ⟨by rw [List.length_map]; omega, by rw [List.length_map]; omega⟩ ?_
  rw [List.length_map, Int.toNat_natCast, rgL0]
  refine fun pl hpl => ?_
  refine And.intro (by decide) ?_
  refine fun pf hpf => ?_
  have hne : pf ≠ pl := fun z => by rw [z, M.set_same] at hpf; cases hpf
  have hpfm : m1 pf = none := by rwa [M.set_ne hne] at hpf
  have nas : ∀ a ∈ as, a ≠ pl ∧ a ≠ pf := fun a ha => by
    obtain ⟨i, hi⟩ := List.mem_iff_getElem?.mp ha
    obtain ⟨kvs, g, _⟩ := wa.at' i a hi
    exact ⟨fun z => (by rw [z, hpl] at g; cases g), fun z => (by rw [z, hpfm] at g; cases g)⟩
  refine while_inv (fun n e u => ∃ left fnd x4 x5 x6, e = [some (eH h), some (.lst (as.map D.ref)), some (.ref pl), some (.ref pf), x4, x5, x6] ∧ u pl = some (.lst (left.map dN)) ∧ u pf = some (.lst (fnd.map dN)) ∧ (∀ b, b ≠ pl → b ≠ pf → u b = m1 b) ∧
    left.length = n ∧ (∀ x ∈ left, x < h.length) ∧ left.Nodup ∧ fnd ++ ordF (edL h) n left = order h ∧ fnd.length + n ≤ h.length) ?_ h.length ?_
  · rintro n e u ⟨left, fnd, x4, x5, x6, rfl, hul, huf, hub, hln, hlt, hnl, hor, hfl⟩ K hK
    refine sT rfl ?_
    refine sM hul ?_
    refine lc_filt dN (fun d => !(left.any fun o => decide (Eg (edL h) o d))) dN hul left (fun d hd K hK => hK _ (fun kk hk => ?_) fun _ kk hk => hk) ?_
    · refine sM hul ?_
      refine lc_map dN (fun o => .bl (decide (Eg (edL h) o d))) hul left (fun o ho K hK => hK _ fun kk hk => ?_) ?_
      · have hol := hlt o ho
        have ha : as[o]? = some (as[o]'(by rw [wa.len]; exact hol)) := List.getElem?_eq_getElem _
        obtain ⟨kvs, g1, g2, g3⟩ := wa.at' o _ ha
        have hn := nas _ (List.mem_of_getElem? ha)
        refine sS (xat_enc (xat_nat ha)) ?_
        refine sMd (by rw [hub _ hn.1 hn.2]; exact g1) ?_
        have e : (valD kvs (.inl (d : Int))).isSome = decide (Eg (edL h) o d) := Bool.eq_iff_iff.mpr (by rw [g3 d, decide_eq_true_iff])
        show kk (.bl (valD kvs (.inl (d : Int))).isSome) u
        rw [e]; exact hk
      · have e : left.map (fun o => D.bl (decide (Eg (edL h) o d))) = (left.map fun o => decide (Eg (edL h) o d)).map D.bl := by rw [List.map_map]; rfl
        rw [e]
        refine sL rfl ?_
        refine sBl (bls_map _) ?_
        rw [List.any_map]
        exact hk
    · have er : left.filter (fun d => !(left.any fun o => decide (Eg (edL h) o d))) = readyL (edL h) left := rfl
      rw [er]
      cases hr : readyL (edL h) left with
      | nil =>
        refine sT rfl ?_
        refine sM huf ?_
        have : order h = fnd := by
          rw [← hor]
          cases n with
          | zero => unfold ordF; rw [List.append_nil]
          | succ n => unfold ordF; rw [hr]; exact List.append_nil _
        rw [← this]
        refine retD.less (m := m) (fun a o ho => ?_) q
        have h1 : a ∉ as := fun z => by rw [hnew a z] at ho; cases ho
        have h2 : m1 a = m a := hb a h1
        rw [hub a (fun z => by rw [z] at h2; rw [hpl] at h2; rw [z, ← h2] at ho; cases ho) (fun z => by rw [z] at h2; rw [hpfm] at h2; rw [z, ← h2] at ho; cases ho), h2]
        exact ho
      | cons x rs =>
        have hxl : x ∈ left := by
          have : x ∈ readyL (edL h) left := by rw [hr]; simp
          exact (List.mem_filter.mp this).1
        refine sF (by simp; omega) ?_
        refine And.intro (isT_list huf) ?_
        refine sS rfl ?_
        refine sM huf ?_
        refine And.intro (by rw [List.length_map]; omega) ?_
        have hul2 : (u.set pf (.lst (fnd.map dN ++ [dN x]))) pl = some (.lst (left.map dN)) := by rw [M.set_ne (Ne.symm hne)]; exact hul
        refine And.intro (isT_list hul2) ?_
        refine sS rfl ?_
        refine sM hul2 ?_
        refine sI (d := left.map fun n : Nat => (n : Int)) (by rw [dN_map, ints_map]) ?_
        refine And.intro (List.mem_map_of_mem (f := fun n : Nat => (n : Int)) hxl) ?_
        have hn : left.length = (left.erase x).length + 1 := by rw [List.length_erase_of_mem hxl]; have := List.length_pos_of_mem hxl; omega
        refine hK (left.erase x).length _ _ (by omega) ⟨left.erase x, fnd ++ [x], _, _, _, rfl, ?_, ?_, ?_, rfl, ?_, ?_, ?_, ?_⟩
        · rw [M.set_same, erase_cast, dN_map]
        · rw [M.set_ne hne, M.set_same, List.map_append]; rfl
        · intro b h1 h2
          rw [M.set_ne h1, M.set_ne h2]; exact hub b h1 h2
        · intro y hy; exact hlt y (List.mem_of_mem_erase hy)
        · exact hnl.erase x
        · rw [← hor, ← hln, hn]
          rw [ordF_succ, hr, List.append_assoc]; rfl
        · rw [List.length_append, List.length_singleton]; omega
  · refine ⟨List.range h.length, [], _, _, _, rfl, ?_, M.set_same, ?_, List.length_range, ?_, ?_, rfl, ?_⟩
    · rw [M.set_ne (Ne.symm hne)]; exact M.set_same
    · intro b h1 h2
      rw [M.set_ne h2, M.set_ne h1]
    · intro x hx; exact List.mem_range.mp hx
    · exact List.nodup_range
    · simp
end T

set_option Elab.async false
set_option linter.all false
set_option maxRecDepth 100000
set_option maxHeartbeats 2000000
namespace T
open PySem PySem.Spec PyProof.Rows L2
theorem one_order_ok {h : Hs} {m : M} {k : D → M → Prop} (hw : HsOk h) (q1 : (order h).length < h.length → k .non m) (q2 : ¬ (order h).length < h.length → k (.tup ((order h).map dN)) m) : sp_one_order [eH h] m k := by
  refine .mk ?_
  unfold v_one_order
  refine check_ok hw ?_
  refine order_of_ok hw ?_
  refine sB (fun hc => ?_) (fun hc => ?_)
  · refine retD.here (q1 ?_)
    simpa using hc
  · refine retD.here (q2 ?_)
    simpa using hc
theorem in_dN (x : Nat) (l : List Nat) : (l.map fun n : Nat => (n : Int)).contains (x : Int) = l.contains x := by
  induction l with
  | nil => rfl
  | cons a l ih =>
    rw [List.map_cons, List.contains_cons, List.contains_cons, ih]
    congr 1
    by_cases h : x = a
    · subst h; simp
    · rw [beq_eq_false_iff_ne.mpr h, beq_eq_false_iff_ne.mpr (by omega)]
/-- all are in the order -/
theorem ring_none_ok {h : Hs} {m : M} {k : D → M → Prop} (hw : HsOk h) (ho : ∀ i, i < h.length → i ∈ order h) (q : k .non m) : sp_ring [eH h] m k := by
  refine .mk ?_
  unfold v_ring
  refine check_ok hw ?_
  refine webs_ok hw (ed_rng hw) fun as m1 hnd wa hnew hb => ?_
  refine order_of_ok hw ?_
  have hl := hw.len
  refine And.intro ⟨by rw [List.length_map]; omega, by rw [List.length_map]; omega⟩ ?_
  rw [List.length_map, Int.toNat_natCast, rgL0]
  refine lc_filt dN (fun i => !(order h).contains i) dN trivial _ (fun i hi K hK => hK _ (fun kk hk => ?_) fun _ kk hk => hk) ?_
  · rw [dN_map]
    show xIn true (.int i) (.tup (((order h).map fun n : Nat => (n : Int)).map D.int)) m1 (fun d m1 => match d with | .bl b => kk b m1 | _ => False)
    refine in_intsT ?_
    rw [if_pos rfl, in_dN]
    exact hk
  · have e : (List.range h.length).filter (fun i => !(order h).contains i) = [] := by
      rw [List.filter_eq_nil_iff]
      intro i hi
      have := ho i (List.mem_range.mp hi)
      simp [this]
    rw [e]
    refine sT rfl ?_
    refine retD.less (m := m) (fun a o hao => ?_) q
    rw [hb a (fun z => by rw [hnew a z] at hao; cases hao)]
    exact hao
/-- no edge leads back: all are in the order -/
theorem order_all {h : Hs} (hf : ∀ i o, Eg (edL h) i o → i < o) : order h = List.range h.length := by
  have main : ∀ (n : Nat) (left : List Nat), left.length = n → left.Pairwise (· < ·) → ordF (edL h) n left = left := by
    intro n
    induction n with
    | zero => intro left hl _; rw [List.eq_nil_of_length_eq_zero hl]; rfl
    | succ n ih =>
      intro left hl hp
      cases left with
      | nil => cases hl
      | cons a left =>
        have hp' := List.pairwise_cons.mp hp
        have hr : (readyL (edL h) (a :: left)).head? = some a := by
          unfold readyL
          rw [List.filter_cons_of_pos]
          · rfl
          · rw [Bool.not_eq_true', List.any_eq_false]
            intro o ho hd
            have := hf o a (by simpa using hd)
            rcases List.mem_cons.mp ho with z | z
            · omega
            · have := hp'.1 o z; omega
        rw [ordF_succ, hr]
        show a :: ordF (edL h) n ((a :: left).erase a) = _
        rw [List.erase_cons_head, ih left (by simpa using hl) hp'.2]
  exact main _ _ List.length_range List.pairwise_lt_range
end T

set_option Elab.async false
set_option linter.all false
set_option maxRecDepth 100000
set_option maxHeartbeats 2000000
/-! histories that were led: the plain law -/
namespace T
open PySem PySem.Spec PyProof.Rows L2
/-- z is the last deal ahead of t that writes key, or -1 -/
def IsLast (h : Hs) (key : Int) (t : Nat) (z : Int) : Prop := (z = -1 ∧ ∀ o ∈ wr h key, ¬ o < t) ∨ ∃ o : Nat, z = (o : Int) ∧ o ∈ wr h key ∧ o < t ∧ ∀ o' ∈ wr h key, o' < t → o' ≤ o
theorem lastW_is (h : Hs) (key : Int) (t : Nat) : IsLast h key t (lastW h key t) := by
  unfold lastW lastI
  have ha := (wr_asc h key).filter fun i : Nat => decide ((i : Int) < (t : Int))
  have hm : ∀ o, o ∈ (wr h key).filter (fun i : Nat => decide ((i : Int) < (t : Int))) ↔ o ∈ wr h key ∧ o < t := fun o => by
    rw [List.mem_filter]; simp
  generalize (wr h key).filter (fun i : Nat => decide ((i : Int) < (t : Int))) = l at ha hm
  cases e : l.getLast? with
  | none =>
    rw [List.getLast?_eq_none_iff] at e
    subst e
    exact .inl ⟨rfl, fun o ho hlt => by have := (hm o).mpr ⟨ho, hlt⟩; cases this⟩
  | some o =>
    have ho := List.mem_of_getLast? e
    obtain ⟨h1, h2⟩ := (hm o).mp ho
    refine .inr ⟨o, rfl, h1, h2, fun o' h3 h4 => ?_⟩
    have ho' := (hm o').mpr ⟨h3, h4⟩
    obtain ⟨l', rfl⟩ := List.getLast?_eq_some_iff.mp e
    rcases List.mem_append.mp ho' with z | z
    · have := (List.pairwise_append.mp ha).2.2 o' z o (by simp)
      omega
    · rw [List.mem_singleton.mp z]; exact Nat.le_refl _
theorem IsLast.uniq {h : Hs} {key : Int} {t : Nat} {z z' : Int} (a : IsLast h key t z) (b : IsLast h key t z') : z = z' := by
  rcases a with ⟨e, a⟩ | ⟨o, e, h1, h2, h3⟩ <;> rcases b with ⟨e', b⟩ | ⟨o', e', g1, g2, g3⟩
  · rw [e, e']
  · exact absurd g2 (a o' g1)
  · exact absurd h2 (b o h1)
  · have := h3 o' g1 g2
    have := g3 o h1 h2
    omega
theorem wr_app {h : Hs} {d : Dl} {key : Int} {o : Nat} (ho : o < h.length) : o ∈ wr (h ++ [d]) key ↔ o ∈ wr h key := by
  rw [mem_wr, mem_wr, List.getElem?_append_left ho]
theorem lastW_app {h : Hs} {d : Dl} {key : Int} {t : Nat} (ht : t ≤ h.length) : lastW (h ++ [d]) key t = lastW h key t := by
  refine IsLast.uniq (lastW_is _ _ _) ?_
  rcases lastW_is h key t with ⟨e, a⟩ | ⟨o, e, h1, h2, h3⟩
  · exact .inl ⟨e, fun o ho hlt => a o ((wr_app (by omega)).mp ho) hlt⟩
  · exact .inr ⟨o, e, (wr_app (by omega)).mpr h1, h2, fun o' ho hlt => h3 o' ((wr_app (by omega)).mp ho) hlt⟩
/-- a deal that was led, from moment b on, the i-th -/
structure LedAt (one : Bool) (h : Hs) (i b : Nat) (d : Dl) : Prop where
  le : b ≤ i
  one' : one = true → b = i
  rdk : ∀ r ∈ d.1, 0 ≤ r.1 ∧ r.1 ≤ 99
  rds : ∀ r ∈ d.1, r.2 = lastW h r.1 b
  rda : (d.1.map (·.1)).Pairwise (· < ·)
  wr' : WrOk d.2
  free : ∀ o e, b ≤ o → o < i → h[o]? = some e → ∀ key ∈ d.2, key ∉ e.2
structure Led (one : Bool) (h : Hs) (bs : List Nat) : Prop where
  len : bs.length = h.length
  most : h.length ≤ 12
  at' : ∀ (i : Nat) d b, h[i]? = some d → bs[i]? = some b → LedAt one h i b d
theorem Led.app {one : Bool} {h : Hs} {bs : List Nat} {b : Nat} {d : Dl} (L : Led one h bs) (hl : h.length < 12) (a : LedAt one h h.length b d) : Led one (h ++ [d]) (bs ++ [b]) := by
  refine ⟨by rw [List.length_append, List.length_append, L.len]; rfl, by rw [List.length_append, List.length_singleton]; omega, fun i d' b' h1 h2 => ?_⟩
  by_cases hi : i < h.length
  · rw [List.getElem?_append_left hi] at h1
    rw [List.getElem?_append_left (by rw [L.len]; exact hi)] at h2
    have x := L.at' i d' b' h1 h2
    refine ⟨x.le, x.one', x.rdk, fun r hr => ?_, x.rda, x.wr', fun o e h3 h4 h5 => ?_⟩
    · rw [lastW_app (by have := x.le; omega)]; exact x.rds r hr
    · rw [List.getElem?_append_left (by omega)] at h5
      exact x.free o e h3 h4 h5
  · have hi2 : i = h.length := by
      have := (List.getElem?_eq_some_iff.mp h1).1
      rw [List.length_append, List.length_singleton] at this
      omega
    subst hi2
    rw [List.getElem?_append_right (Nat.le_refl _), Nat.sub_self] at h1
    rw [List.getElem?_append_right (by rw [L.len]; exact Nat.le_refl _), L.len, Nat.sub_self] at h2
    injection h1 with h1
    injection h2 with h2
    subst h1; subst h2
    refine ⟨a.le, a.one', a.rdk, fun r hr => ?_, a.rda, a.wr', fun o e h3 h4 h5 => ?_⟩
    · rw [lastW_app a.le]; exact a.rds r hr
    · rw [List.getElem?_append_left h4] at h5
      exact a.free o e h3 h4 h5
theorem Led.get {one : Bool} {h : Hs} {bs : List Nat} (L : Led one h bs) {i : Nat} {d : Dl} (hd : h[i]? = some d) : ∃ b, bs[i]? = some b ∧ LedAt one h i b d := by
  have hi : i < bs.length := by rw [L.len]; exact (List.getElem?_eq_some_iff.mp hd).1
  exact ⟨_, List.getElem?_eq_getElem hi, L.at' i d _ hd (List.getElem?_eq_getElem hi)⟩
theorem Led.ok {one : Bool} {h : Hs} {bs : List Nat} (L : Led one h bs) : HsOk h := by
  refine ⟨L.most, fun d hd => ?_, fun i d hd => ?_⟩
  · obtain ⟨i, hi⟩ := List.mem_iff_getElem?.mp hd
    obtain ⟨b, _, x⟩ := L.get hi
    exact x.wr'
  · obtain ⟨b, _, x⟩ := L.get hd
    refine ⟨fun r hr => ?_, x.rda⟩
    have e := x.rds r hr
    rcases lastW_is h r.1 b with ⟨z, a⟩ | ⟨o, z, h1, h2, h3⟩
    · refine ⟨⟨x.rdk r hr, .inl (by rw [e, z])⟩, ?_⟩
      rw [e, z]; omega
    · obtain ⟨d', hd', hk⟩ := mem_wr.mp h1
      refine ⟨⟨x.rdk r hr, .inr ⟨d'.2, by rw [e, z]; omega, ?_, hk⟩⟩, ?_⟩
      · rw [e, z, Int.toNat_natCast, List.getElem?_map, hd']; rfl
      · rw [e, z]; have := x.le; omega
theorem LedAt.suit {one : Bool} {h : Hs} {i b : Nat} {d : Dl} (x : LedAt one h i b d) : Suit h i b d := ⟨fun r hr => (x.rds r hr).symm, x.free⟩
theorem Led.snaps {one : Bool} {h : Hs} {bs : List Nat} (L : Led one h bs) : ∀ i d, h[i]? = some d → ∃ t, t ≤ i ∧ Suit h i t d := fun i d hd => by
  obtain ⟨b, _, x⟩ := L.get hd
  exact ⟨b, x.le, x.suit⟩
open Classical in
theorem mof_ge {h : Hs} {i b : Nat} {d : Dl} (hb : b ≤ i) (s : Suit h i b d) : ∃ t, mof h i d = some t ∧ b ≤ t ∧ t ≤ i := by
  unfold mof
  have hm : b ∈ (List.range (i + 1)).filter fun t => decide (Suit h i t d) := List.mem_filter.mpr ⟨List.mem_range.mpr (by omega), by simpa using s⟩
  have hp : ((List.range (i + 1)).filter fun t => decide (Suit h i t d)).Pairwise (· < ·) := List.pairwise_lt_range.filter _
  have hr : ∀ t ∈ (List.range (i + 1)).filter (fun t => decide (Suit h i t d)), t ≤ i := fun t ht => by
    have := List.mem_range.mp (List.mem_filter.mp ht).1
    omega
  generalize (List.range (i + 1)).filter (fun t => decide (Suit h i t d)) = l at hm hp hr
  cases e : l.getLast? with
  | none => rw [List.getLast?_eq_none_iff] at e; subst e; cases hm
  | some t =>
    obtain ⟨l', rfl⟩ := List.getLast?_eq_some_iff.mp e
    refine ⟨t, rfl, ?_, hr t (by simp)⟩
    rcases List.mem_append.mp hm with z | z
    · have := (List.pairwise_append.mp hp).2.2 b z t (by simp)
      omega
    · rw [List.mem_singleton.mp z]; exact Nat.le_refl _
theorem Led.mol {one : Bool} {h : Hs} {bs : List Nat} (L : Led one h bs) {i b : Nat} (hb : bs[i]? = some b) : ∃ t, (T.mol h)[i]? = some (some t) ∧ b ≤ t ∧ t ≤ i := by
  have hi : i < h.length := by rw [← L.len]; exact (List.getElem?_eq_some_iff.mp hb).1
  have hd : h[i]? = some h[i] := List.getElem?_eq_getElem hi
  have x := L.at' i _ b hd hb
  obtain ⟨t, h1, h2⟩ := mof_ge x.le x.suit
  refine ⟨t, ?_, h2⟩
  unfold T.mol
  rw [List.getElem?_mapIdx, hd]
  show some (mof h i h[i]) = _
  rw [h1]
theorem mol_len (h : Hs) : (mol h).length = h.length := List.length_mapIdx
theorem Led.mol1 {h : Hs} {bs : List Nat} (L : Led true h bs) : T.mol h = (List.range h.length).map some := by
  refine List.ext_getElem? fun i => ?_
  by_cases hi : i < h.length
  · have hd : h[i]? = some h[i] := List.getElem?_eq_getElem hi
    obtain ⟨b, hb, x⟩ := L.get hd
    obtain ⟨t, h1, h2, h3⟩ := L.mol hb
    have := x.one' rfl
    rw [h1, List.getElem?_map, List.getElem?_range hi]
    have : t = i := by omega
    rw [this]; rfl
  · rw [List.getElem?_eq_none (by rw [mol_len]; omega), List.getElem?_eq_none (by rw [List.length_map, List.length_range]; omega)]
/-- led one behind another: no edge leads back -/
theorem Led.fwd {h : Hs} {bs : List Nat} (L : Led true h bs) {e : Ed} (he : e ∈ edL h) : e.1 < e.2.1 := by
  cases mem_edL.mp he with
  | wrote i o key h1 h2 h3 => show (i : Int) < (o : Int); omega
  | read i d r hd hr hn =>
    obtain ⟨b, hb, x⟩ := L.get hd
    have e := x.rds r hr
    have e1 := x.one' rfl
    show r.2 < (i : Int)
    rcases lastW_is h r.1 b with ⟨z, a⟩ | ⟨o, z, h1, h2, h3⟩
    · rw [e, z]; omega
    · rw [e, z]; omega
  | over i b d r hd hr hb hn =>
    obtain ⟨b', hb', x⟩ := L.get hd
    have e := x.rds r hr
    have e1 := x.one' rfl
    obtain ⟨n1, n2, n3⟩ := nw_spec hb
    show (i : Int) < (b : Int)
    rcases lastW_is h r.1 b' with ⟨z, a⟩ | ⟨o, z, h1, h2, h3⟩
    · have := a b n1
      omega
    · by_cases hlt : b < b'
      · have := h3 b n1 hlt
        rw [e, z] at n2
        omega
      · omega
theorem Led.order {h : Hs} {bs : List Nat} (L : Led true h bs) : T.order h = List.range h.length := order_all fun i o ⟨e, he, h1, h2⟩ => by
  have := L.fwd he
  omega
end T

set_option Elab.async false
set_option linter.all false
set_option maxRecDepth 100000
set_option maxHeartbeats 2000000
/-! the law's own leader of deals -/
namespace T
open PySem PySem.Spec PyProof.Rows L2
def w__law_last : WS :=
  (wRet (wCall (f1 fMax) (wCons (wB fAdd (wLst true (wCons (wU fNeg (wC (.int 1))) wNil)) (wLc true (wRng1 (wV 1)) (.one 3) (wTv (wB (fIn false) (wV 2) (wB fIx (wB fIx (wV 0) (wV 3)) (wC (.int 1))))) (wV 3) [3])) wNil)))
def v__law_last : WS :=
  (wRet (wCall (f1 xMax) (wCons (wB fAdd (wLst true (wCons (wU fNeg (wC (.int 1))) wNil)) (yLc true (wRng1 (wV 1)) (.one 3) (wTv (wB (xIn false) (wV 2) (wB xIx (wB xIx (wV 0) (wV 3)) (wC (.int 1))))) (wV 3) [3])) wNil)))
theorem wv__law_last : w__law_last = v__law_last := by simp only [w__law_last, v__law_last, fIx_x, fLen_x, fAppend_x, fExtend_x, fPop_x, fPopAt_x, fRemove_x, fAll_x, fAny_x, fMax_x, fMin_x, fSum_x, fSortI_x, fSortD_x, fList_x, fTuple_x, fRev_x, fIn_x, fIndex_x, fIsi_x, seqI_y, enum_y, store_y, sortIt_y, sl_y, unl_y, and_y, or_y, andV_y, orV_y, if_y, chain_y, ifS_y, for_y, while_y, lc_y]
inductive sp__law_last : FA
  | mk {x0 x1 x2 : D} {m : M} {k : D → M → Prop} (h : v__law_last (endsD k) [some x0, some x1, some x2, none] m) : sp__law_last [x0, x1, x2] m k
def w__law_led : WS :=
  (wSeq (wSet (wLst false wNil) (.one 3))
  (wSeq (wSet (wLst false wNil) (.one 4))
  (wSeq (wSet (wLst false wNil) (.one 5))
  (wSeq (wFor (wRng1 (wC (.int 60))) (.one 6)
    (wSeq (wSet (wCall sp__law_draw (wCons (wV 0) (wCons (wC (.int 5)) wNil))) (.one 7))
    (wIfS (wAnd (wTv (wB (fEq false) (wV 7) (wC (.int 0)))) (wTv (wB fLt (wCall (f1 fLen) (wCons (wV 5) wNil)) (wV 2))))
      (wDrop (wMt "list" (m1 fAppend) (wV 5) (wCons (wLst false (wCons (wCall (f1 fLen) (wCons (wV 3) wNil)) (wCons wDic0 (wCons (wLst false wNil) wNil)))) wNil)))
      (wIfS (wTv (wB fGt (wCall (f1 fLen) (wCons (wV 5) wNil)) (wC (.int 0))))
        (wSeq (wSet (wCall sp__law_draw (wCons (wV 0) (wCons (wCall (f1 fLen) (wCons (wV 5) wNil)) wNil))) (.one 8))
        (wSeq (wUnl (wB fIx (wV 5) (wV 8)) [9, 10, 11])
        (wSeq (wSet (wCall sp__law_any (wCons (wV 0) (wCons (wV 1) wNil))) (.one 12))
        (wIfS (wAnd (wTv (wB fLt (wV 7) (wC (.int 3)))) (wTv (wB (fIn true) (wV 12) (wV 11))))
          (wStore (wCall sp__law_last (wCons (wV 3) (wCons (wV 9) (wCons (wV 12) wNil)))) (wV 10) (wV 12))
          (wIfS (wAnd (wTv (wB (fEq false) (wV 7) (wC (.int 3)))) (wTv (wB (fIn true) (wV 12) (wV 11))))
            (wDrop (wMt "list" (m1 fAppend) (wV 11) (wCons (wV 12) wNil)))
            (wIfS (wTv (wB (fEq false) (wV 7) (wC (.int 4))))
              (wSeq (wDrop (wMt "list" (m1 fPopAt) (wV 5) (wCons (wV 8) wNil)))
              (wSeq (wSet (wLc true (wSeqI (wV 11)) (.one 14) (wTv (wB fGe (wCall sp__law_last (wCons (wV 3) (wCons (wCall (f1 fLen) (wCons (wV 3) wNil)) (wCons (wV 14) wNil)))) (wV 9))) (wV 14) [14]) (.one 13))
              (wIfS (wAnd (wTv (wB (fEq false) (wCall (f1 fLen) (wCons (wV 13) wNil)) (wC (.int 0)))) (wTv (wB fLt (wCall (f1 fLen) (wCons (wV 3) wNil)) (wC (.int 12)))))
                (wSeq (wDrop (wMt "list" (m1 fAppend) (wV 3) (wCons (wTup (wCons (wCall (f1 fTuple) (wCons (wSortIt true (wV 10)) wNil)) (wCons (wCall (f1 fTuple) (wCons (wCall (f1 (fSortI true)) (wCons (wV 11) wNil)) wNil)) wNil))) wNil)))
                (wDrop (wMt "list" (m1 fAppend) (wV 4) (wCons (wV 9) wNil))))
                wNext)))
              wNext))))))
        wNext))))
  (wRet (wTup (wCons (wCall (f1 fTuple) (wCons (wV 3) wNil)) (wCons (wV 4) wNil))))))))
def v__law_led : WS :=
  (wSeq (wSet (wLst false wNil) (.one 3))
  (wSeq (wSet (wLst false wNil) (.one 4))
  (wSeq (wSet (wLst false wNil) (.one 5))
  (wSeq (yFor (wRng1 (wC (.int 60))) (.one 6)
    (wSeq (wSet (wCall sp__law_draw (wCons (wV 0) (wCons (wC (.int 5)) wNil))) (.one 7))
    (yIfS (yAnd (wTv (wB (fEq false) (wV 7) (wC (.int 0)))) (wTv (wB fLt (wCall (f1 xLen) (wCons (wV 5) wNil)) (wV 2))))
      (wDrop (wMt "list" (m1 xAppend) (wV 5) (wCons (wLst false (wCons (wCall (f1 xLen) (wCons (wV 3) wNil)) (wCons wDic0 (wCons (wLst false wNil) wNil)))) wNil)))
      (yIfS (wTv (wB fGt (wCall (f1 xLen) (wCons (wV 5) wNil)) (wC (.int 0))))
        (wSeq (wSet (wCall sp__law_draw (wCons (wV 0) (wCons (wCall (f1 xLen) (wCons (wV 5) wNil)) wNil))) (.one 8))
        (wSeq (yUnl (wB xIx (wV 5) (wV 8)) [9, 10, 11])
        (wSeq (wSet (wCall sp__law_any (wCons (wV 0) (wCons (wV 1) wNil))) (.one 12))
        (yIfS (yAnd (wTv (wB fLt (wV 7) (wC (.int 3)))) (wTv (wB (xIn true) (wV 12) (wV 11))))
          (yStore (wCall sp__law_last (wCons (wV 3) (wCons (wV 9) (wCons (wV 12) wNil)))) (wV 10) (wV 12))
          (yIfS (yAnd (wTv (wB (fEq false) (wV 7) (wC (.int 3)))) (wTv (wB (xIn true) (wV 12) (wV 11))))
            (wDrop (wMt "list" (m1 xAppend) (wV 11) (wCons (wV 12) wNil)))
            (yIfS (wTv (wB (fEq false) (wV 7) (wC (.int 4))))
              (wSeq (wDrop (wMt "list" (m1 xPopAt) (wV 5) (wCons (wV 8) wNil)))
              (wSeq (wSet (yLc true (ySeqI (wV 11)) (.one 14) (wTv (wB fGe (wCall sp__law_last (wCons (wV 3) (wCons (wCall (f1 xLen) (wCons (wV 3) wNil)) (wCons (wV 14) wNil)))) (wV 9))) (wV 14) [14]) (.one 13))
              (yIfS (yAnd (wTv (wB (fEq false) (wCall (f1 xLen) (wCons (wV 13) wNil)) (wC (.int 0)))) (wTv (wB fLt (wCall (f1 xLen) (wCons (wV 3) wNil)) (wC (.int 12)))))
                (wSeq (wDrop (wMt "list" (m1 xAppend) (wV 3) (wCons (wTup (wCons (wCall (f1 xTuple) (wCons (ySortIt true (wV 10)) wNil)) (wCons (wCall (f1 xTuple) (wCons (wCall (f1 (xSortI true)) (wCons (wV 11) wNil)) wNil)) wNil))) wNil)))
                (wDrop (wMt "list" (m1 xAppend) (wV 4) (wCons (wV 9) wNil))))
                wNext)))
              wNext))))))
        wNext))))
  (wRet (wTup (wCons (wCall (f1 xTuple) (wCons (wV 3) wNil)) (wCons (wV 4) wNil))))))))
theorem wv__law_led : w__law_led = v__law_led := by simp only [w__law_led, v__law_led, fIx_x, fLen_x, fAppend_x, fExtend_x, fPop_x, fPopAt_x, fRemove_x, fAll_x, fAny_x, fMax_x, fMin_x, fSum_x, fSortI_x, fSortD_x, fList_x, fTuple_x, fRev_x, fIn_x, fIndex_x, fIsi_x, seqI_y, enum_y, store_y, sortIt_y, sl_y, unl_y, and_y, or_y, andV_y, orV_y, if_y, chain_y, ifS_y, for_y, while_y, lc_y]
inductive sp__law_led : FA
  | mk {x0 x1 x2 : D} {m : M} {k : D → M → Prop} (h : v__law_led (endsD k) [some x0, some x1, some x2, none, none, none, none, none, none, none, none, none, none, none, none] m) : sp__law_led [x0, x1, x2] m k
def w_law : WS :=
  (wSeq (wSet (wCall sp__law_pool (wCons (wV 0) wNil)) (.one 1))
  (wSeq (wFor (wRng1 (wC (.int 3))) (.one 2)
    (wSeq (wSet (wCall sp__law_any (wCons (wV 1) (wCons (wLst true (wCons (wTup (wCons (wC (.int 0)) (wCons (wC (.int 1)) (wCons (wC (.int 7)) (wCons (wC (.int 99)) wNil))))) (wCons (wTup (wCons (wC (.int 3)) (wCons (wC (.int 4)) wNil))) (wCons (wTup (wCons (wC (.int 5)) wNil)) (wCons (wTup (wCons (wC (.int 0)) (wCons (wC (.int 2)) (wCons (wC (.int 50)) wNil)))) wNil))))) wNil))) (.one 3))
    (wSeq (wSet (wB fAdd (wC (.int 1)) (wCall sp__law_draw (wCons (wV 1) (wCons (wC (.int 4)) wNil)))) (.one 4))
    (wSeq (wSet (wCall sp__law_led (wCons (wV 1) (wCons (wV 3) (wCons (wV 4) wNil)))) (.tup [5, 6]))
    (wSeq (wIfS (wOr (wTv (wB (fIs true) (wCall sp_is_history (wCons (wV 5) wNil)) (wC (.bl true)))) (wTv (wB (fIs true) (wCall sp_by_snapshots (wCons (wV 5) wNil)) (wC (.bl true)))))
      (wRet (wC (.bl false)))
      wNext)
    (wSeq (wSet (wCall sp_moments (wCons (wV 5) wNil)) (.one 7))
    (wSeq (wIfS (wOr (wNot (wTv (wCall (f2 fIsi) (wCons (wV 7) (wCons (wC (.ty "tuple")) wNil))))) (wOr (wTv (wB (fEq true) (wCall (f1 fLen) (wCons (wV 7) wNil)) (wCall (f1 fLen) (wCons (wV 5) wNil)))) (wTv (wB (fIn false) (wC .non) (wV 7)))))
      (wRet (wC (.bl false)))
      wNext)
    (wSeq (wIfS (wTv (wB fGt (wCall (f1 fLen) (wCons (wLc true (wRng1 (wCall (f1 fLen) (wCons (wV 5) wNil))) (.one 8) (wOr (wTv (wB fLt (wB fIx (wV 7) (wV 8)) (wB fIx (wV 6) (wV 8)))) (wTv (wB fGt (wB fIx (wV 7) (wV 8)) (wV 8)))) (wV 8) [8]) wNil)) (wC (.int 0))))
      (wRet (wC (.bl false)))
      wNext)
    (wIfS (wTv (wB (fEq false) (wV 4) (wC (.int 1))))
      (wSeq (wIfS (wOr (wTv (wB (fEq true) (wV 7) (wTupRg (wCall (f1 fLen) (wCons (wV 5) wNil))))) (wOr (wTv (wB (fIs true) (wCall sp_ring (wCons (wV 5) wNil)) (wC .non))) (wTv (wB (fIs false) (wCall sp_one_order (wCons (wV 5) wNil)) (wC .non)))))
        (wRet (wC (.bl false)))
        wNext)
      (wIfS (wTv (wB fGt (wCall (f1 fLen) (wCons (wLc true (wSeqI (wCall sp_edges (wCons (wV 5) wNil))) (.one 9) (wTv (wB fGt (wB fIx (wV 9) (wC (.int 0))) (wB fIx (wV 9) (wC (.int 1))))) (wV 9) [9]) wNil)) (wC (.int 0))))
        (wRet (wC (.bl false)))
        wNext))
      wNext)))))))))
  (wRet (wC (.bl true)))))
def v_law : WS :=
  (wSeq (wSet (wCall sp__law_pool (wCons (wV 0) wNil)) (.one 1))
  (wSeq (yFor (wRng1 (wC (.int 3))) (.one 2)
    (wSeq (wSet (wCall sp__law_any (wCons (wV 1) (wCons (wLst true (wCons (wTup (wCons (wC (.int 0)) (wCons (wC (.int 1)) (wCons (wC (.int 7)) (wCons (wC (.int 99)) wNil))))) (wCons (wTup (wCons (wC (.int 3)) (wCons (wC (.int 4)) wNil))) (wCons (wTup (wCons (wC (.int 5)) wNil)) (wCons (wTup (wCons (wC (.int 0)) (wCons (wC (.int 2)) (wCons (wC (.int 50)) wNil)))) wNil))))) wNil))) (.one 3))
    (wSeq (wSet (wB fAdd (wC (.int 1)) (wCall sp__law_draw (wCons (wV 1) (wCons (wC (.int 4)) wNil)))) (.one 4))
    (wSeq (wSet (wCall sp__law_led (wCons (wV 1) (wCons (wV 3) (wCons (wV 4) wNil)))) (.tup [5, 6]))
    (wSeq (yIfS (yOr (wTv (wB (fIs true) (wCall sp_is_history (wCons (wV 5) wNil)) (wC (.bl true)))) (wTv (wB (fIs true) (wCall sp_by_snapshots (wCons (wV 5) wNil)) (wC (.bl true)))))
      (wRet (wC (.bl false)))
      wNext)
    (wSeq (wSet (wCall sp_moments (wCons (wV 5) wNil)) (.one 7))
    (wSeq (yIfS (yOr (wNot (wTv (wCall (f2 xIsi) (wCons (wV 7) (wCons (wC (.ty "tuple")) wNil))))) (yOr (wTv (wB (fEq true) (wCall (f1 xLen) (wCons (wV 7) wNil)) (wCall (f1 xLen) (wCons (wV 5) wNil)))) (wTv (wB (xIn false) (wC .non) (wV 7)))))
      (wRet (wC (.bl false)))
      wNext)
    (wSeq (yIfS (wTv (wB fGt (wCall (f1 xLen) (wCons (yLc true (wRng1 (wCall (f1 xLen) (wCons (wV 5) wNil))) (.one 8) (yOr (wTv (wB fLt (wB xIx (wV 7) (wV 8)) (wB xIx (wV 6) (wV 8)))) (wTv (wB fGt (wB xIx (wV 7) (wV 8)) (wV 8)))) (wV 8) [8]) wNil)) (wC (.int 0))))
      (wRet (wC (.bl false)))
      wNext)
    (yIfS (wTv (wB (fEq false) (wV 4) (wC (.int 1))))
      (wSeq (yIfS (yOr (wTv (wB (fEq true) (wV 7) (wTupRg (wCall (f1 xLen) (wCons (wV 5) wNil))))) (yOr (wTv (wB (fIs true) (wCall sp_ring (wCons (wV 5) wNil)) (wC .non))) (wTv (wB (fIs false) (wCall sp_one_order (wCons (wV 5) wNil)) (wC .non)))))
        (wRet (wC (.bl false)))
        wNext)
      (yIfS (wTv (wB fGt (wCall (f1 xLen) (wCons (yLc true (ySeqI (wCall sp_edges (wCons (wV 5) wNil))) (.one 9) (wTv (wB fGt (wB xIx (wV 9) (wC (.int 0))) (wB xIx (wV 9) (wC (.int 1))))) (wV 9) [9]) wNil)) (wC (.int 0))))
        (wRet (wC (.bl false)))
        wNext))
      wNext)))))))))
  (wRet (wC (.bl true)))))
theorem wv_law : w_law = v_law := by simp only [w_law, v_law, fIx_x, fLen_x, fAppend_x, fExtend_x, fPop_x, fPopAt_x, fRemove_x, fAll_x, fAny_x, fMax_x, fMin_x, fSum_x, fSortI_x, fSortD_x, fList_x, fTuple_x, fRev_x, fIn_x, fIndex_x, fIsi_x, seqI_y, enum_y, store_y, sortIt_y, sl_y, unl_y, and_y, or_y, andV_y, orV_y, if_y, chain_y, ifS_y, for_y, while_y, lc_y]
inductive sp_law : FA
  | mk {x0 : D} {m : M} {k : D → M → Prop} (h : v_law (endsD k) [some x0, none, none, none, none, none, none, none, none, none] m) : sp_law [x0] m k
end T

set_option Elab.async false
set_option linter.all false
set_option maxRecDepth 100000
set_option maxHeartbeats 2000000
namespace T
open PySem PySem.Spec PyProof.Rows L2
theorem law_last_ok {p : Addr} {h : Hs} {t : Nat} {key : Int} {m : M} {k : D → M → Prop} (hm : m p = some (.lst (h.map eDl))) (hl : h.length ≤ 12) (ht : t ≤ h.length) (q : k (.int (lastW h key t)) m) : sp__law_last [.ref p, .int t, .int key] m k := by
  refine .mk ?_
  unfold v__law_last
  refine And.intro (by simp) ?_
  refine And.intro ⟨by omega, by omega⟩ ?_
  rw [Int.toNat_natCast, rgL0]
  refine lc_filt dN (fun o : Nat => (((h[o]?).map (·.2)).getD []).contains key) dN trivial _ (fun o ho K hK => hK _ (fun kk hk => ?_) fun _ kk hk => hk) ?_
  · have ho2 : o < h.length := by have := List.mem_range.mp ho; omega
    have hg : h[o]? = some h[o] := List.getElem?_eq_getElem ho2
    refine sM hm ?_
    refine sS (xat_enc (xat_nat hg)) ?_
    refine sS rfl ?_
    refine in_intsT ?_
    rw [hg] at hk
    exact hk
  · have hmem : ∀ o, o ∈ (List.range t).filter (fun o : Nat => (((h[o]?).map (·.2)).getD []).contains key) ↔ o ∈ wr h key ∧ o < t := fun o => by
      rw [List.mem_filter, List.mem_range, mem_wr]
      constructor
      · rintro ⟨h1, h2⟩
        have hg : h[o]? = some (h[o]'(by omega)) := List.getElem?_eq_getElem _
        rw [hg] at h2
        exact ⟨⟨_, hg, List.contains_iff_mem.mp h2⟩, h1⟩
      · rintro ⟨⟨d, h1, h2⟩, h3⟩
        refine ⟨h3, ?_⟩
        rw [h1]
        exact List.contains_iff_mem.mpr h2
    have hlen : ((List.range t).filter (fun o : Nat => (((h[o]?).map (·.2)).getD []).contains key)).length ≤ t := Nat.le_trans (List.length_filter_le _ _) (by rw [List.length_range]; exact Nat.le_refl _)
    generalize (List.range t).filter (fun o : Nat => (((h[o]?).map (·.2)).getD []).contains key) = l at hmem hlen
    refine And.intro (by rw [List.length_map]; simp only [List.length_cons, List.length_nil]; omega) ?_
    refine sL rfl ?_
    refine sI (d := -1 :: l.map fun n : Nat => (n : Int)) (by
      have e : ([D.int (-1)] ++ l.map dN) = (-1 :: l.map fun n : Nat => (n : Int)).map D.int := by rw [dN_map]; rfl
      show D.ints ([D.int (-1)] ++ l.map dN) = _
      rw [e, ints_map]) ?_
    refine And.intro (by simp) ?_
    intro i hi hmax
    have e : i = lastW h key t := by
      refine IsLast.uniq ?_ (lastW_is h key t)
      rcases List.mem_cons.mp hi with z | z
      · refine .inl ⟨z, fun o ho hlt => ?_⟩
        have := hmax (o : Int) (List.mem_cons_of_mem _ (List.mem_map_of_mem (f := fun n : Nat => (n : Int)) ((hmem o).mpr ⟨ho, hlt⟩)))
        omega
      · obtain ⟨o, ho, e⟩ := List.mem_map.mp z
        obtain ⟨h1, h2⟩ := (hmem o).mp ho
        refine .inr ⟨o, e.symm, h1, h2, fun o' h3 h4 => ?_⟩
        have := hmax (o' : Int) (List.mem_cons_of_mem _ (List.mem_map_of_mem (f := fun n : Nat => (n : Int)) ((hmem o').mpr ⟨h3, h4⟩)))
        omega
    rw [e]
    exact retD.here q
/-- a deal that runs -/
structure Rec where
  r : Addr
  s : Addr
  w : Addr
  b : Nat
  seen : List Int
  ws : List Int
def Rec.as (x : Rec) : List Addr := [x.r, x.s, x.w]
def seenD (h : Hs) (b : Nat) (seen : List Int) : List (Key × D) := seen.map fun key => (.inl key, .int (lastW h key b))
structure RecOk (one : Bool) (m : M) (h : Hs) (t : Nat) (x : Rec) : Prop where
  mr : m x.r = some (.lst [.int x.b, .ref x.s, .ref x.w])
  ms : m x.s = some (.dic (seenD h x.b x.seen))
  mw : m x.w = some (.lst (x.ws.map D.int))
  bl : x.b ≤ h.length
  b1 : one = true → x.b = h.length
  sn : x.seen.Nodup
  sr : ∀ n ∈ x.seen, 0 ≤ n ∧ n ≤ 99
  wn : x.ws.Nodup
  wr' : ∀ n ∈ x.ws, 0 ≤ n ∧ n ≤ 99
  sl : x.seen.length ≤ t
  wl : x.ws.length ≤ t
structure LedSt (one : Bool) (p p3 p4 p5 : Addr) (t : Nat) (m : M) (h : Hs) (bs : List Nat) (rs : List Rec) : Prop where
  pool : Pool m p
  m3 : m p3 = some (.lst (h.map eDl))
  m4 : m p4 = some (.lst (bs.map dN))
  m5 : m p5 = some (.lst (rs.map fun x => D.ref x.r))
  fx : [p, p3, p4, p5].Nodup
  off : ∀ u ∈ rs.map Rec.as, u.Nodup ∧ ∀ a ∈ u, a ∉ [p, p3, p4, p5]
  dis : (rs.map Rec.as).Pairwise fun u v => ∀ a ∈ u, ∀ b ∈ v, a ≠ b
  rec' : ∀ x ∈ rs, RecOk one m h t x
  led : Led one h bs
  rl : rs.length ≤ t
  r1 : one = true → rs.length ≤ 1
theorem RecOk.frame {one : Bool} {m m' : M} {h : Hs} {t t' : Nat} {x : Rec} (a : RecOk one m h t x) (hm : ∀ y ∈ x.as, m' y = m y) (ht : t ≤ t') : RecOk one m' h t' x :=
  ⟨by rw [hm _ (by simp [Rec.as])]; exact a.mr, by rw [hm _ (by simp [Rec.as])]; exact a.ms, by rw [hm _ (by simp [Rec.as])]; exact a.mw, a.bl, a.b1, a.sn, a.sr, a.wn, a.wr', Nat.le_trans a.sl ht, Nat.le_trans a.wl ht⟩
theorem LedSt.ne {one : Bool} {p p3 p4 p5 : Addr} {t : Nat} {m : M} {h : Hs} {bs : List Nat} {rs : List Rec} (S : LedSt one p p3 p4 p5 t m h bs rs) {i j : Nat} {x y : Rec} (hi : rs[i]? = some x) (hj : rs[j]? = some y) (hij : i ≠ j) : ∀ a ∈ x.as, ∀ b ∈ y.as, a ≠ b := by
  have pw := List.pairwise_iff_getElem.mp S.dis
  obtain ⟨h1, e1⟩ := List.getElem?_eq_some_iff.mp hi
  obtain ⟨h2, e2⟩ := List.getElem?_eq_some_iff.mp hj
  intro a ha b hb
  rcases Nat.lt_or_gt_of_ne hij with z | z
  · have := pw i j (by rw [List.length_map]; exact h1) (by rw [List.length_map]; exact h2) z
    rw [List.getElem_map, List.getElem_map, e1, e2] at this
    exact this a ha b hb
  · have := pw j i (by rw [List.length_map]; exact h2) (by rw [List.length_map]; exact h1) z
    rw [List.getElem_map, List.getElem_map, e1, e2] at this
    exact Ne.symm (this b hb a ha)
theorem set_as {rs : List Rec} {j : Nat} {x x' : Rec} (hj : rs[j]? = some x) (e : x'.as = x.as) : (rs.set j x').map Rec.as = rs.map Rec.as := by
  refine List.ext_getElem? fun i => ?_
  rw [List.getElem?_map, List.getElem?_map, List.getElem?_set]
  by_cases hij : j = i
  · subst hij
    rw [if_pos rfl, hj, if_pos (List.getElem?_eq_some_iff.mp hj).1]
    show some x'.as = some x.as
    rw [e]
  · rw [if_neg hij]
theorem set_r {rs : List Rec} {j : Nat} {x x' : Rec} (hj : rs[j]? = some x) (e : x'.r = x.r) : (rs.set j x').map (fun x => D.ref x.r) = rs.map fun x => D.ref x.r := by
  refine List.ext_getElem? fun i => ?_
  rw [List.getElem?_map, List.getElem?_map, List.getElem?_set]
  by_cases hij : j = i
  · subst hij
    rw [if_pos rfl, hj, if_pos (List.getElem?_eq_some_iff.mp hj).1]
    show some (D.ref x'.r) = some (D.ref x.r)
    rw [e]
  · rw [if_neg hij]
/-- one record is told anew -/
theorem LedSt.upd {one : Bool} {p p3 p4 p5 : Addr} {t : Nat} {m m' : M} {h : Hs} {bs : List Nat} {rs : List Rec} (S : LedSt one p p3 p4 p5 t m h bs rs) {j : Nat} {x x' : Rec} (hj : rs[j]? = some x) (e : x'.as = x.as) (er : x'.r = x.r)
    (fr : ∀ a, a ∉ x.as → m' a = m a) (ok : RecOk one m' h (t + 1) x') : LedSt one p p3 p4 p5 (t + 1) m' h bs (rs.set j x') := by
  have hx := (S.off x.as (List.mem_map_of_mem (List.mem_of_getElem? hj))).2
  have f0 : ∀ a ∈ [p, p3, p4, p5], m' a = m a := fun a ha => fr a fun z => hx a z ha
  refine ⟨?_, by rw [f0 _ (by simp)]; exact S.m3, by rw [f0 _ (by simp)]; exact S.m4, by rw [f0 _ (by simp), set_r hj er]; exact S.m5, S.fx, by rw [set_as hj e]; exact S.off, by rw [set_as hj e]; exact S.dis, fun y hy => ?_, S.led, by rw [List.length_set]; have := S.rl; omega, by rw [List.length_set]; exact S.r1⟩
  · obtain ⟨cs, a, b, c, d, P⟩ := S.pool
    exact ⟨cs, a, b, c, d, by rw [f0 _ (by simp)]; exact P.at', P.pos, P.a0, P.b0⟩
  · obtain ⟨i, hi⟩ := List.mem_iff_getElem?.mp hy
    rw [List.getElem?_set] at hi
    split at hi
    · split at hi
      · injection hi with hi; rw [← hi]; exact ok
      · cases hi
    · rename_i hij
      exact (S.rec' y (List.mem_of_getElem? hi)).frame (fun a ha => fr a fun z => S.ne hi hj (Ne.symm hij) a ha a z rfl) (Nat.le_succ _)
theorem LedSt.more {one : Bool} {p p3 p4 p5 : Addr} {t t' : Nat} {m m' : M} {h : Hs} {bs : List Nat} {rs : List Rec} (S : LedSt one p p3 p4 p5 t m h bs rs) (ht : t ≤ t') (hp : Pool m' p) (hb : But p m m') : LedSt one p p3 p4 p5 t' m' h bs rs := by
  have fx := S.fx
  simp only [List.nodup_cons, List.mem_cons, not_or, List.not_mem_nil] at fx
  refine ⟨hp, by rw [hb _ (Ne.symm fx.1.1)]; exact S.m3, by rw [hb _ (Ne.symm fx.1.2.1)]; exact S.m4, by rw [hb _ (Ne.symm fx.1.2.2.1)]; exact S.m5, S.fx, S.off, S.dis, fun x hx => ?_, S.led, Nat.le_trans S.rl ht, S.r1⟩
  refine (S.rec' x hx).frame (fun a ha => hb a fun z => ?_) ht
  exact (S.off x.as (List.mem_map_of_mem hx)).2 a ha (by rw [z]; simp)
/-- what is new is none of ours -/
theorem LedSt.new {one : Bool} {p p3 p4 p5 : Addr} {t : Nat} {m : M} {h : Hs} {bs : List Nat} {rs : List Rec} (S : LedSt one p p3 p4 p5 t m h bs rs) {a : Addr} (ha : m a = none) : a ∉ [p, p3, p4, p5] ∧ ∀ x ∈ rs, a ∉ x.as := by
  refine ⟨fun z => ?_, fun x hx z => ?_⟩
  · obtain ⟨cs, a', b, c, d, P⟩ := S.pool
    simp only [List.mem_cons, List.not_mem_nil, or_false] at z
    rcases z with z | z | z | z <;> rw [z] at ha
    · rw [P.at'] at ha; cases ha
    · rw [S.m3] at ha; cases ha
    · rw [S.m4] at ha; cases ha
    · rw [S.m5] at ha; cases ha
  · have R := S.rec' x hx
    simp only [Rec.as, List.mem_cons, List.not_mem_nil, or_false] at z
    rcases z with z | z | z <;> rw [z] at ha
    · rw [R.mr] at ha; cases ha
    · rw [R.ms] at ha; cases ha
    · rw [R.mw] at ha; cases ha
end T

set_option Elab.async false
set_option linter.all false
set_option maxRecDepth 100000
set_option maxHeartbeats 2000000
namespace T
open PySem PySem.Spec PyProof.Rows L2
/-- one more begins -/
theorem LedSt.start {one : Bool} {p p3 p4 p5 : Addr} {t : Nat} {m m' : M} {h : Hs} {bs : List Nat} {rs : List Rec} (S : LedSt one p p3 p4 p5 t m h bs rs) {r s w : Addr} (hn : m r = none ∧ m s = none ∧ m w = none) (ne : [r, s, w].Nodup)
    (mr : m' r = some (.lst [.int h.length, .ref s, .ref w])) (ms : m' s = some (.dic [])) (mw : m' w = some (.lst [])) (m5 : m' p5 = some (.lst ((rs.map fun x => D.ref x.r) ++ [.ref r]))) (fr : ∀ a, a ∉ [r, s, w] → a ≠ p5 → m' a = m a)
    (h1 : one = true → rs.length = 0) : LedSt one p p3 p4 p5 (t + 1) m' h bs (rs ++ [⟨r, s, w, h.length, [], []⟩]) := by
  have nr := S.new hn.1
  have ns := S.new hn.2.1
  have nw := S.new hn.2.2
  have fx := S.fx
  simp only [List.nodup_cons, List.mem_cons, not_or, List.not_mem_nil] at fx
  have f0 : ∀ a ∈ [p, p3, p4], m' a = m a := fun a ha => by
    have ha4 : a ∈ [p, p3, p4, p5] := by
      simp only [List.mem_cons, List.not_mem_nil, or_false] at ha ⊢
      rcases ha with z | z | z
      · exact .inl z
      · exact .inr (.inl z)
      · exact .inr (.inr (.inl z))
    refine fr a (fun z => ?_) ?_
    · simp only [List.mem_cons, List.not_mem_nil, or_false] at z
      rcases z with z | z | z
      · exact nr.1 (by rw [← z]; exact ha4)
      · exact ns.1 (by rw [← z]; exact ha4)
      · exact nw.1 (by rw [← z]; exact ha4)
    · simp only [List.mem_cons, List.not_mem_nil, or_false] at ha
      rcases ha with z | z | z
      · rw [z]; exact fx.1.2.2.1
      · rw [z]; exact fx.2.1.2.1
      · rw [z]; exact fx.2.2.1.1
  have fx' : ∀ x ∈ rs, ∀ a ∈ x.as, m' a = m a := fun x hx a ha => by
    refine fr a (fun z => ?_) fun z => ?_
    · simp only [List.mem_cons, List.not_mem_nil, or_false] at z
      rcases z with z | z | z
      · exact nr.2 x hx (by rw [← z]; exact ha)
      · exact ns.2 x hx (by rw [← z]; exact ha)
      · exact nw.2 x hx (by rw [← z]; exact ha)
    · exact (S.off x.as (List.mem_map_of_mem hx)).2 a ha (by rw [z]; simp)
  refine ⟨?_, by rw [f0 _ (by simp)]; exact S.m3, by rw [f0 _ (by simp)]; exact S.m4, by rw [m5, List.map_append]; rfl, S.fx, ?_, ?_, ?_, S.led, by rw [List.length_append, List.length_singleton]; have := S.rl; omega, fun o => by rw [List.length_append, h1 o]; exact Nat.le_refl _⟩
  · obtain ⟨cs, a, b, c, d, P⟩ := S.pool
    exact ⟨cs, a, b, c, d, by rw [f0 _ (by simp)]; exact P.at', P.pos, P.a0, P.b0⟩
  · intro u hu
    rw [List.map_append] at hu
    rcases List.mem_append.mp hu with z | z
    · exact S.off u z
    · rw [List.mem_singleton.mp z]
      refine ⟨ne, fun a ha => ?_⟩
      simp only [Rec.as, List.mem_cons, List.not_mem_nil, or_false] at ha
      rcases ha with z | z | z <;> rw [z]
      · exact nr.1
      · exact ns.1
      · exact nw.1
  · rw [List.map_append, List.pairwise_append]
    refine ⟨S.dis, by simp, fun u hu v hv a ha b hb e => ?_⟩
    obtain ⟨x, hx, rfl⟩ := List.mem_map.mp hu
    rw [List.mem_singleton.mp hv] at hb
    simp only [Rec.as, List.mem_cons, List.not_mem_nil, or_false] at hb
    rcases hb with z | z | z
    · exact nr.2 x hx (by rw [← z, ← e]; exact ha)
    · exact ns.2 x hx (by rw [← z, ← e]; exact ha)
    · exact nw.2 x hx (by rw [← z, ← e]; exact ha)
  · intro x hx
    rcases List.mem_append.mp hx with z | z
    · exact (S.rec' x z).frame (fx' x z) (Nat.le_succ _)
    · rw [List.mem_singleton.mp z]
      exact ⟨mr, ms, mw, Nat.le_refl _, fun _ => rfl, List.nodup_nil, (fun n hn => by cases hn), List.nodup_nil, (fun n hn => by cases hn), Nat.zero_le _, Nat.zero_le _⟩
/-- one ends -/
theorem LedSt.stop {one : Bool} {p p3 p4 p5 : Addr} {t : Nat} {m : M} {h : Hs} {bs : List Nat} {rs : List Rec} (S : LedSt one p p3 p4 p5 t m h bs rs) {j : Nat} {x : Rec} (hj : rs[j]? = some x) :
    LedSt one p p3 p4 p5 t (m.set p5 (.lst ((rs.map fun x => D.ref x.r).eraseIdx j))) h bs (rs.eraseIdx j) ∧ RecOk one (m.set p5 (.lst ((rs.map fun x => D.ref x.r).eraseIdx j))) h t x := by
  have fx := S.fx
  simp only [List.nodup_cons, List.mem_cons, not_or, List.not_mem_nil] at fx
  have fr : ∀ y ∈ rs, ∀ a ∈ y.as, (m.set p5 (.lst ((rs.map fun x => D.ref x.r).eraseIdx j))) a = m a := fun y hy a ha => M.set_ne fun z => (S.off y.as (List.mem_map_of_mem hy)).2 a ha (by rw [z]; simp)
  have e : ∀ {β : Type} (f : Rec → β), (rs.eraseIdx j).map f = (rs.map f).eraseIdx j := fun f => DT.map_erase f rs j
  refine ⟨⟨?_, by rw [M.set_ne fx.2.1.2.1]; exact S.m3, by rw [M.set_ne fx.2.2.1.1]; exact S.m4, by rw [M.set_same, e], S.fx, fun u hu => ?_, ?_, fun y hy => ?_, S.led, by rw [List.length_eraseIdx]; have := S.rl; split <;> omega, fun o => by rw [List.length_eraseIdx]; have := S.r1 o; split <;> omega⟩, ?_⟩
  · obtain ⟨cs, a, b, c, d, P⟩ := S.pool
    exact ⟨cs, a, b, c, d, by rw [M.set_ne fx.1.2.2.1]; exact P.at', P.pos, P.a0, P.b0⟩
  · rw [e] at hu
    exact S.off u (List.mem_of_mem_eraseIdx hu)
  · rw [e]
    exact S.dis.sublist (List.eraseIdx_sublist _ _)
  · have := List.mem_of_mem_eraseIdx hy
    exact (S.rec' y this).frame (fr y this) (Nat.le_refl _)
  · have := List.mem_of_getElem? hj
    exact (S.rec' x this).frame (fr x this) (Nat.le_refl _)
/-- one is written down -/
theorem LedSt.commit {one : Bool} {p p3 p4 p5 : Addr} {t : Nat} {m : M} {h : Hs} {bs : List Nat} {rs : List Rec} (S : LedSt one p p3 p4 p5 t m h bs rs) (hr : one = true → rs = []) {b : Nat} {d : Dl} (hl : h.length < 12) (a : LedAt one h h.length b d) :
    LedSt one p p3 p4 p5 (t + 1) ((m.set p3 (.lst ((h ++ [d]).map eDl))).set p4 (.lst ((bs ++ [b]).map dN))) (h ++ [d]) (bs ++ [b]) rs := by
  have fx := S.fx
  simp only [List.nodup_cons, List.mem_cons, not_or, List.not_mem_nil] at fx
  refine ⟨?_, by rw [M.set_ne fx.2.1.1]; exact M.set_same, M.set_same, by rw [M.set_ne (Ne.symm fx.2.2.1.1), M.set_ne (Ne.symm fx.2.1.2.1)]; exact S.m5, S.fx, S.off, S.dis, fun y hy => ?_, S.led.app hl a, Nat.le_succ_of_le S.rl, S.r1⟩
  · obtain ⟨cs, a, b, c, d, P⟩ := S.pool
    exact ⟨cs, a, b, c, d, by rw [M.set_ne fx.1.2.1, M.set_ne fx.1.1]; exact P.at', P.pos, P.a0, P.b0⟩
  · have R := S.rec' y hy
    have off := (S.off y.as (List.mem_map_of_mem hy)).2
    have fr : ∀ a ∈ y.as, ((m.set p3 (.lst ((h ++ [d]).map eDl))).set p4 (.lst ((bs ++ [b]).map dN))) a = m a := fun a ha => by
      rw [M.set_ne (fun z => off a ha (by rw [z]; simp)), M.set_ne (fun z => off a ha (by rw [z]; simp))]
    refine ⟨by rw [fr _ (by simp [Rec.as])]; exact R.mr, ?_, by rw [fr _ (by simp [Rec.as])]; exact R.mw, by rw [List.length_append]; have := R.bl; omega, fun o => ?_, R.sn, R.sr, R.wn, R.wr', Nat.le_succ_of_le R.sl, Nat.le_succ_of_le R.wl⟩
    · rw [fr _ (by simp [Rec.as]), R.ms]
      unfold seenD
      congr 2
      exact List.map_congr_left fun key _ => by rw [lastW_app R.bl]
    · rw [hr o] at hy; cases hy
end T

set_option Elab.async false
set_option linter.all false
set_option maxRecDepth 100000
set_option maxHeartbeats 2000000
namespace T
open PySem PySem.Spec PyProof.Rows L2
/-! sorting pairs, ints -/
def leII (a b : Int × Int) : Bool := decide (a.1 < b.1 ∨ (a.1 = b.1 ∧ a.2 ≤ b.2))
theorem leD_eP (a b : Int × Int) : leD (eP a) (eP b) = leII a b := by
  have e := congrFun (congrFun (PySem.W.dataLe_ii (fun p : Int × Int => p.1) (fun p : Int × Int => p.2)) a) b
  exact e
theorem sort_eP {l : List (Int × Int)} (hn : (l.map (·.1)).Nodup) : ∃ l' : List (Int × Int), sortD (l.map eP) = l'.map eP ∧ l'.Perm l ∧ (l'.map (·.1)).Pairwise (· < ·) := by
  refine ⟨l.mergeSort leII, ?_, List.mergeSort_perm _ _, ?_⟩
  · unfold sortD
    exact (List.map_mergeSort (f := eP) (r := leII) fun a _ b _ => (leD_eP a b).symm).symm
  · have hp := List.pairwise_mergeSort (le := leII) (fun a b c h1 h2 => by
      unfold leII at *
      rw [decide_eq_true_iff] at *
      omega) (fun a b => by
      unfold leII
      rw [Bool.or_eq_true, decide_eq_true_iff, decide_eq_true_iff]
      omega) l
    have hn' : ((l.mergeSort leII).map (·.1)).Nodup := ((List.mergeSort_perm l leII).map _).nodup_iff.mpr hn
    rw [List.pairwise_map]
    rw [List.Nodup, List.pairwise_map] at hn'
    refine (hp.and hn').imp fun {a b} h => ?_
    have h1 : leII a b = true := h.1
    have h2 : a.1 ≠ b.1 := h.2
    unfold leII at h1
    rw [decide_eq_true_iff] at h1
    omega
theorem sort_int {l : List Int} (hn : l.Nodup) : (sortI l).Perm l ∧ (sortI l).Pairwise (· < ·) := by
  refine ⟨List.mergeSort_perm _ _, ?_⟩
  have hp := List.pairwise_mergeSort (le := fun a b : Int => decide (a ≤ b)) (fun a b c h1 h2 => by
      rw [decide_eq_true_iff] at *; omega) (fun a b => by rw [Bool.or_eq_true, decide_eq_true_iff, decide_eq_true_iff]; omega) l
  have hn' : (sortI l).Nodup := (List.mergeSort_perm l _).nodup_iff.mpr hn
  refine (hp.and hn').imp fun {a b} h => ?_
  have h1 : a ≤ b := of_decide_eq_true h.1
  have h2 : a ≠ b := h.2
  omega
theorem eP_pyD (p : Int × Int) : (eP p).pyD = .tuple [.int p.1, .int p.2] := rfl
theorem sortOk_eP (l : List (Int × Int)) : SortOk (l.map eP) := by
  have h : ∀ d ∈ l.map eP, ∃ e : Int × Int, d = eP e := fun d hd => by
    obtain ⟨e, _, r⟩ := List.mem_map.mp hd
    exact ⟨e, r.symm⟩
  refine ⟨fun d hd => ?_, fun d hd e he => ?_, .inl fun d hd => ?_, fun d hd => ?_⟩
  · obtain ⟨e, rfl⟩ := h d hd; rfl
  · obtain ⟨a, rfl⟩ := h d hd
    obtain ⟨b, rfl⟩ := h e he
    rw [eP_pyD, eP_pyD]; rfl
  · obtain ⟨a, rfl⟩ := h d hd
    exact ⟨_, _, eP_pyD a⟩
  · obtain ⟨a, rfl⟩ := h d hd
    rw [eP_pyD]
    show _ ≤ 60
    have e : (PyData.tuple [.int a.1, .int a.2]).depth = 1 := rfl
    rw [e]; decide
/-! the dict of what is seen -/
theorem seen_val {h : Hs} {b : Nat} : ∀ {seen : List Int} {key : Int}, (valD (seenD h b seen) (.inl key)).isSome = seen.contains key
  | [], _ => rfl
  | a :: seen, key => by
    unfold seenD
    rw [List.map_cons, valD_c, List.contains_cons]
    by_cases e : a = key
    · subst e; simp
    · rw [if_neg (by simp; exact e), show (key == a) = false from beq_eq_false_iff_ne.mpr (Ne.symm e), Bool.false_or]
      exact seen_val
def addS (seen : List Int) (key : Int) : List Int := if seen.contains key then seen else seen ++ [key]
theorem seen_put {h : Hs} {b : Nat} {seen : List Int} {key : Int} : putD (seenD h b seen) (.inl key) (.int (lastW h key b)) = seenD h b (addS seen key) := by
  unfold putD addS
  rw [any_valD, seen_val]
  cases e : seen.contains key with
  | false =>
    rw [if_neg (by simp), if_neg (by simp)]
    unfold seenD
    rw [List.map_append]; rfl
  | true =>
    rw [if_pos rfl, if_pos rfl]
    unfold seenD
    rw [List.map_map]
    refine List.map_congr_left fun a _ => ?_
    show (if (Sum.inl a : Key) = Sum.inl key then ((Sum.inl a : Key), D.int (lastW h key b)) else ((Sum.inl a : Key), D.int (lastW h a b))) = _
    by_cases z : a = key
    · subst z; rw [if_pos rfl]
    · rw [if_neg (by simp; exact z)]
theorem seen_items (h : Hs) (b : Nat) (seen : List Int) : (seenD h b seen).map itemD = (seen.map fun key => (key, lastW h key b)).map eP := by
  unfold seenD
  rw [List.map_map, List.map_map]
  rfl
end T

set_option Elab.async false
set_option linter.all false
set_option maxRecDepth 100000
set_option maxHeartbeats 2000000
namespace T
open PySem PySem.Spec PyProof.Rows L2
theorem bind1 {i : Nat} {d : D} {env : T.Env} {K : T.Env → Prop} (h : K (env.set i (some d))) : bindTg (.one i) d env K := h
theorem nx_of {a : T.Env → M → Prop} {rt : D → M → Prop} {bk ct : T.Env → M → Prop} {env : T.Env} {m : M} (h : a env m) : WK.nx { nx := a, rt := rt, bk := bk, ct := ct } env m := h
theorem alloc_t {ds : List D} {m : M} {k : D → M → Prop} (h : k (.lst ds) m) : alloc true ds m k := by unfold alloc; rw [if_pos rfl]; exact h
theorem if_any {t : WT} {a b : WS} {k : WK} {env : T.Env} {m : M} (R : Bool → Prop) (ht : ∀ kt : Bool → M → Prop, (∀ c, R c → kt c m) → t env m kt) (h1 : R true → a k env m) (h2 : R false → b k env m) : yIfS t a b k env m :=
  ht _ fun c hc => sB (fun e => h1 (by rw [← e]; exact hc)) (fun e => h2 (by rw [← e]; exact hc))
theorem seqIx {n i : Nat} (h : i < n) : seqIndex? (i : Int) n = some i := (ixN_seq (by rw [xin_e]; exact xin_nat h)).1
theorem dsee_ref {m : M} {p : Addr} {ds : List (Key × D)} (h : m p = some (.dic ds)) : m.dsee (.ref p) = some ds := by simp [M.dsee, h]
theorem led_ok {p : Addr} {ks : List Int} {most : Int} {m : M} {k : D → M → Prop} (hp : Pool m p) (hk0 : ks ≠ []) (hkl : ks.length ≤ 100) (hkr : ∀ n ∈ ks, 0 ≤ n ∧ n ≤ 99)
    (q : ∀ h bs m' p4, Led (decide (most = 1)) h bs → Pool m' p → m' p4 = some (.lst (bs.map dN)) → p4 ≠ p → k (.tup [eH h, .ref p4]) m') : sp__law_led [.ref p, .tup (ks.map D.int), .int most] m k := by
  refine .mk ?_
  unfold v__law_led
  obtain ⟨cs, a, b, c, d, hp⟩ := hp
  refine And.intro (by decide) ?_
  refine fun p3 h3 => ?_
  refine And.intro (by decide) ?_
  refine fun p4 h4 => ?_
  refine And.intro (by decide) ?_
  refine fun p5 h5 => ?_
  refine And.intro (by decide) ?_
  have n43 : p4 ≠ p3 := fun z => by rw [z, M.set_same] at h4; cases h4
  have n54 : p5 ≠ p4 := fun z => by rw [z, M.set_same] at h5; cases h5
  rw [M.set_ne n54] at h5
  have n53 : p5 ≠ p3 := fun z => by rw [z, M.set_same] at h5; cases h5
  rw [M.set_ne n53] at h5
  rw [M.set_ne n43] at h4
  have n3 : p ≠ p3 := fun z => by rw [← z, hp.at'] at h3; cases h3
  have n4 : p ≠ p4 := fun z => by rw [← z, hp.at'] at h4; cases h4
  have n5 : p ≠ p5 := fun z => by rw [← z, hp.at'] at h5; cases h5
  show Rg (goForX (fun _ => True) _ _ _ (rgL 0 60) _ _)
  rw [rgL0]
  refine for_inv dN (List.range 60) (fun dn e n => ∃ h bs rs x6 x7 x8 x9 x10 x11 x12 x13, LedSt (decide (most = 1)) p p3 p4 p5 dn.length n h bs rs ∧ e = [some (.ref p), some (.tup (ks.map D.int)), some (.int most), some (.ref p3), some (.ref p4), some (.ref p5), x6, x7, x8, x9, x10, x11, x12, x13, none]) ?_ ?_ ?_
  · refine ⟨[], [], [], none, none, none, none, none, none, none, none, ⟨?_, ?_, ?_, M.set_same, ?_, ?_, ?_, ?_, ?_, Nat.zero_le _, fun _ => Nat.zero_le _⟩, rfl⟩
    · exact ⟨cs, a, b, c, d, by rw [M.set_ne n5, M.set_ne n4, M.set_ne n3]; exact hp.at', hp.pos, hp.a0, hp.b0⟩
    · rw [M.set_ne (Ne.symm n53), M.set_ne (Ne.symm n43)]; exact M.set_same
    · rw [M.set_ne (Ne.symm n54)]; exact M.set_same
    · simp only [List.nodup_cons, List.mem_cons, not_or, List.not_mem_nil]
      exact ⟨⟨n3, n4, n5, fun z => z⟩, ⟨Ne.symm n43, Ne.symm n53, fun z => z⟩, ⟨Ne.symm n54, fun z => z⟩, fun z => z, List.nodup_nil⟩
    · intro u hu; cases hu
    · exact List.Pairwise.nil
    · intro x hx; cases hx
    · exact ⟨rfl, Nat.zero_le _, fun i d b h1 => by cases h1⟩
  · rintro dn turn rest e n hd ⟨h, bs, rs, x6, x7, x8, x9, x10, x11, x12, x13, S, rfl⟩ K hK
    refine ⟨trivial, ?_⟩
    have ht : dn.length + 1 ≤ 60 := by
      have := congrArg List.length hd
      rw [List.length_range, List.length_append, List.length_cons] at this
      omega
    have fin : ∀ (n' : M) (h : Hs) (bs : List Nat) (rs : List Rec) (x6 x7 x8 x9 x10 x11 x12 x13 : Option D), LedSt (decide (most = 1)) p p3 p4 p5 (dn.length + 1) n' h bs rs → K [some (.ref p), some (.tup (ks.map D.int)), some (.int most), some (.ref p3), some (.ref p4), some (.ref p5), x6, x7, x8, x9, x10, x11, x12, x13, none] n' :=
      fun n' h bs rs x6 x7 x8 x9 x10 x11 x12 x13 S' => hK _ _ ⟨h, bs, rs, x6, x7, x8, x9, x10, x11, x12, x13, by rw [List.length_append]; exact S', rfl⟩
    refine draw_ok S.pool (by decide) (by decide) fun kind n1 hk1 hk2 hp1 hb1 => ?_
    have S1 := S.more (Nat.le_refl _) hp1 hb1
    have fx := S1.fx
    simp only [List.nodup_cons, List.mem_cons, not_or, List.not_mem_nil] at fx
    refine bind1 ?_
    refine nx_of ?_
    refine if_any (fun c => c = true → kind = 0 ∧ (rs.length : Int) < most) (fun kt hkt => ?_) (fun hR => ?_) (fun _ => ?_)
    · refine sB (fun hc => ?_) (fun hc => hkt false (fun z => (by cases z)))
      refine sM S1.m5 ?_
      exact hkt _ fun z => ⟨by simpa using hc, by simpa using z⟩
    · have hR := hR rfl
      refine And.intro (isT_list S1.m5) ?_
      refine sM S1.m3 ?_
      refine fun s hs => ?_
      refine And.intro (by decide) ?_
      refine fun w hw => ?_
      refine And.intro (by simp) ?_
      refine fun r hr => ?_
      have nws : w ≠ s := fun z => by rw [z, M.set_same] at hw; cases hw
      have nrw : r ≠ w := fun z => by rw [z, M.set_same] at hr; cases hr
      rw [M.set_ne nrw] at hr
      have nrs : r ≠ s := fun z => by rw [z, M.set_same] at hr; cases hr
      rw [M.set_ne nrs] at hr
      rw [M.set_ne nws] at hw
      have o5 : ∀ a, n1 a = none → p5 ≠ a := fun a ha z => (S1.new ha).1 (by rw [z]; simp)
      refine sM (ds := rs.map fun x => D.ref x.r) (by rw [M.set_ne (o5 r hr), M.set_ne (o5 w hw), M.set_ne (o5 s hs)]; exact S1.m5) ?_
      refine And.intro (by rw [List.length_map]; have := S1.rl; omega) ?_
      refine fin _ _ _ _ _ _ _ _ _ _ _ _ (S1.start (r := r) (s := s) (w := w) ⟨hr, hs, hw⟩ ?_ ?_ ?_ ?_ M.set_same ?_ ?_)
      · simp only [List.nodup_cons, List.mem_cons, not_or, List.not_mem_nil]
        exact ⟨⟨nrs, nrw, fun z => z⟩, ⟨Ne.symm nws, fun z => z⟩, fun z => z, List.nodup_nil⟩
      · rw [M.set_ne (Ne.symm (o5 r hr)), M.set_same, List.length_map]
      · rw [M.set_ne (Ne.symm (o5 s hs)), M.set_ne (Ne.symm nrs), M.set_ne (Ne.symm nws), M.set_same]
      · rw [M.set_ne (Ne.symm (o5 w hw)), M.set_ne (Ne.symm nrw), M.set_same]
      · intro a ha h5
        simp only [List.mem_cons, not_or, List.not_mem_nil] at ha
        rw [M.set_ne h5, M.set_ne ha.1, M.set_ne ha.2.2.1, M.set_ne ha.2.1]
      · intro o
        have := hR.2
        rw [of_decide_eq_true o] at this
        omega
    · refine sM S1.m5 ?_
      refine sB (fun hc => ?_) (fun hc => fin _ _ _ _ _ _ _ _ _ _ _ _ (S1.more (Nat.le_succ _) S1.pool But.refl))
      have hrl : 0 < rs.length := by
        have : (0 : Int) < ((rs.map fun x => D.ref x.r).length : Nat) := by simpa using hc
        rw [List.length_map] at this
        omega
      refine sM S1.m5 ?_
      refine draw_ok S1.pool (by rw [List.length_map]; omega) (by rw [List.length_map]; have := S1.rl; omega) fun place n2 hl1 hl2 hp2 hb2 => ?_
      have S2 := S1.more (Nat.le_refl _) hp2 hb2
      obtain ⟨j, x, e1, e2, e3, e4⟩ := xat_lt (xs := rs) hl1 (by rw [List.length_map] at hl2; exact hl2)
      have R2 := S2.rec' x e4
      refine sM S2.m5 ?_
      refine sS (xat_enc (enc := fun x : Rec => D.ref x.r) e3) ?_
      refine sL (m_lsee_ref R2.mr) ?_
      refine And.intro rfl ?_
      refine any_okT S2.pool (by simpa using hk0) (by rw [List.length_map]; omega) fun dk n3 hdk hp3 hb3 => ?_
      obtain ⟨key, hkey, rfl⟩ := List.mem_map.mp hdk
      have hkr' := hkr key hkey
      have S3 := S2.more (Nat.le_refl _) hp3 hb3
      have R3 := S3.rec' x e4
      refine bind1 ?_
      refine nx_of ?_
      refine if_any (fun c => c = true → key ∉ x.ws) (fun kt hkt => ?_) (fun hR => ?_) (fun _ => ?_)
      · refine sB (fun hc => ?_) (fun hc => hkt false (fun z => (by cases z)))
        refine sM R3.mw ?_
        refine in_ints ?_
        exact hkt _ fun z => by simpa using z
      · refine law_last_ok S3.m3 S3.led.most R3.bl ?_
        refine sMd R3.ms ?_
        refine And.intro (by unfold seenD; rw [List.length_map]; have := R3.sl; omega) ?_
        rw [seen_put]
        have hsw : x.s ≠ x.r ∧ x.s ≠ x.w := by
          have := (S3.off x.as (List.mem_map_of_mem e4)).1
          simp only [Rec.as, List.nodup_cons, List.mem_cons, not_or, List.not_mem_nil] at this
          exact ⟨Ne.symm this.1.1, this.2.1.1⟩
        refine fin _ _ _ _ _ _ _ _ _ _ _ _ (S3.upd (x' := { x with seen := addS x.seen key }) e2 rfl rfl (fun a ha => M.set_ne fun z => ha (by rw [z]; simp [Rec.as])) ⟨by rw [M.set_ne (Ne.symm hsw.1)]; exact R3.mr, M.set_same, by rw [M.set_ne (Ne.symm hsw.2)]; exact R3.mw, R3.bl, R3.b1, ?_, ?_, R3.wn, R3.wr', ?_, Nat.le_succ_of_le R3.wl⟩)
        · show (addS x.seen key).Nodup
          unfold addS
          cases hc : x.seen.contains key with
          | true => exact R3.sn
          | false =>
            rw [if_neg (by simp), List.nodup_append]
            refine ⟨R3.sn, by simp, fun a ha b hb e => ?_⟩
            rw [List.mem_singleton.mp hb] at e
            rw [e] at ha
            rw [List.contains_iff_mem.mpr ha] at hc
            cases hc
        · intro y hy
          have hy : y ∈ addS x.seen key := hy
          unfold addS at hy
          split at hy
          · exact R3.sr y hy
          · rcases List.mem_append.mp hy with z | z
            · exact R3.sr y z
            · rw [List.mem_singleton.mp z]; exact hkr'
        · show (addS x.seen key).length ≤ _
          unfold addS
          have := R3.sl
          split
          · omega
          · rw [List.length_append, List.length_singleton]; omega
      · refine if_any (fun c => c = true → key ∉ x.ws) (fun kt hkt => ?_) (fun hR => ?_) (fun _ => ?_)
        · refine sB (fun hc => ?_) (fun hc => hkt false (fun z => (by cases z)))
          refine sM R3.mw ?_
          refine in_ints ?_
          exact hkt _ fun z => by simpa using z
        · have hR := hR rfl
          refine And.intro (isT_list R3.mw) ?_
          refine sM R3.mw ?_
          refine And.intro (by rw [List.length_map]; have := R3.wl; omega) ?_
          have hsw : x.w ≠ x.r ∧ x.w ≠ x.s := by
            have := (S3.off x.as (List.mem_map_of_mem e4)).1
            simp only [Rec.as, List.nodup_cons, List.mem_cons, not_or, List.not_mem_nil] at this
            exact ⟨Ne.symm this.1.2.1, Ne.symm this.2.1.1⟩
          refine fin _ _ _ _ _ _ _ _ _ _ _ _ (S3.upd (x' := { x with ws := x.ws ++ [key] }) e2 rfl rfl (fun a ha => M.set_ne fun z => ha (by rw [z]; simp [Rec.as])) ⟨by rw [M.set_ne (Ne.symm hsw.1)]; exact R3.mr, by rw [M.set_ne (Ne.symm hsw.2)]; exact R3.ms, by rw [M.set_same, List.map_append]; rfl, R3.bl, R3.b1, R3.sn, R3.sr, ?_, ?_, Nat.le_succ_of_le R3.sl, ?_⟩)
          · show (x.ws ++ [key]).Nodup
            rw [List.nodup_append]
            refine ⟨R3.wn, by simp, fun a ha b hb e => ?_⟩
            rw [List.mem_singleton.mp hb] at e
            exact hR (by rw [← e]; exact ha)
          · intro y hy
            rcases List.mem_append.mp hy with z | z
            · exact R3.wr' y z
            · rw [List.mem_singleton.mp z]; exact hkr'
          · show (x.ws ++ [key]).length ≤ _
            have := R3.wl
            rw [List.length_append, List.length_singleton]; omega
        · refine sB (fun hc => ?_) (fun hc => fin _ _ _ _ _ _ _ _ _ _ _ _ (S3.more (Nat.le_succ _) S3.pool But.refl))
          refine And.intro (isT_list S3.m5) ?_
          refine sM S3.m5 ?_
          have hjl : j < rs.length := (List.getElem?_eq_some_iff.mp e2).1
          refine And.intro ⟨by rw [e1]; omega, by rw [e1]; have := S3.rl; omega⟩ ?_
          refine sN (d := j) (by rw [e1]; exact seqIx (by rw [List.length_map]; exact hjl)) ?_
          refine sS (d := .ref x.r) (by rw [List.getElem?_map, e2]; rfl) ?_
          obtain ⟨S4, R4⟩ := S3.stop e2
          generalize hn4 : n3.set p5 (.lst ((rs.map fun x => D.ref x.r).eraseIdx j)) = n4 at S4 R4
          refine sM R4.mw ?_
          refine lc_filt D.int (fun key => decide ((x.b : Int) ≤ lastW h key (h.map eDl).length)) D.int R4.mw x.ws (fun key hkey K hK => hK _ (fun kk hk => ?_) fun _ kk hk => hk) ?_
          · refine sM S4.m3 ?_
            exact law_last_ok S4.m3 S4.led.most (by rw [List.length_map]; exact Nat.le_refl _) hk
          · refine alloc_t ?_
            refine bind1 ?_
            refine nx_of ?_
            refine if_any (fun c => c = true → x.ws.filter (fun key => decide ((x.b : Int) ≤ lastW h key (h.map eDl).length)) = [] ∧ h.length < 12) (fun kt hkt => ?_) (fun hR => ?_) (fun _ => fin _ _ _ _ _ _ _ _ _ _ _ _ (S4.more (Nat.le_succ _) S4.pool But.refl))
            · refine sB (fun hc => ?_) (fun hc => hkt false (fun z => (by cases z)))
              refine sM S4.m3 ?_
              refine hkt _ fun z => ⟨?_, ?_⟩
              · have hc : (((x.ws.filter (fun key => decide ((x.b : Int) ≤ lastW h key (h.map eDl).length))).map D.int).length : Int) = 0 := by
                  simpa using hc
                rw [List.length_map] at hc
                exact List.eq_nil_of_length_eq_zero (by omega)
              · have z : ((h.map eDl).length : Int) < 12 := of_decide_eq_true z
                rw [List.length_map] at z
                omega
            · obtain ⟨hcl, hl12⟩ := hR rfl
              obtain ⟨rs', er1, er2, er3⟩ := sort_eP (l := x.seen.map fun key => (key, lastW h key x.b)) (by rw [List.map_map]; show (x.seen.map id).Nodup; rw [List.map_id]; exact R4.sn)
              obtain ⟨ew1, ew2⟩ := sort_int R4.wn
              refine And.intro (isT_list S4.m3) ?_
              refine sD (dsee_ref R4.ms) ?_
              refine And.intro (by rw [seen_items]; exact sortOk_eP _) ?_
              rw [seen_items, er1]
              refine sL (m_lsee_ref R4.mw) ?_
              refine sI (ints_map x.ws) ?_
              refine And.intro (by have := R4.wl; omega) ?_
              refine And.intro (show (2 : Nat) ≤ 16777216 by decide) ?_
              refine sM S4.m3 ?_
              refine And.intro (by rw [List.length_map]; omega) ?_
              have hd : LedAt (decide (most = 1)) h h.length x.b (rs', sortI x.ws) := by
                refine ⟨R4.bl, R4.b1, fun r hr => ?_, fun r hr => ?_, er3, ⟨fun y hy => R4.wr' y (ew1.mem_iff.mp hy), ew2⟩, fun o e h1 h2 h3 key hk1 hk2 => ?_⟩
                · obtain ⟨key, hk, e⟩ := List.mem_map.mp (er2.mem_iff.mp hr)
                  rw [← e]; exact R4.sr key hk
                · obtain ⟨key, hk, e⟩ := List.mem_map.mp (er2.mem_iff.mp hr)
                  rw [← e]
                · have hk3 : key ∈ x.ws := ew1.mem_iff.mp hk1
                  rw [List.filter_eq_nil_iff] at hcl
                  refine hcl key hk3 (decide_eq_true ?_)
                  rw [List.length_map]
                  have ho : o ∈ wr h key := mem_wr.mpr ⟨e, h3, hk2⟩
                  rcases lastW_is h key h.length with ⟨z, a⟩ | ⟨o', z, g1, g2, g3⟩
                  · exact absurd h2 (a o ho)
                  · rw [z]
                    have := g3 o ho h2
                    omega
              have S5 := S4.commit (b := x.b) (fun o => by
                have h1 := S3.r1 o
                have : (rs.eraseIdx j).length = 0 := by rw [List.length_eraseIdx, if_pos hjl]; omega
                exact List.eq_nil_of_length_eq_zero this) hl12 hd
              have fx4 := S4.fx
              simp only [List.nodup_cons, List.mem_cons, not_or, List.not_mem_nil] at fx4
              have e5 : n4.set p3 (.lst (h.map eDl ++ [.tup [.tup (rs'.map eP), .tup ((sortI x.ws).map D.int)]])) = n4.set p3 (.lst ((h ++ [(rs', sortI x.ws)]).map eDl)) := by rw [List.map_append]; rfl
              have m4' : (n4.set p3 (.lst (h.map eDl ++ [.tup [.tup (rs'.map eP), .tup ((sortI x.ws).map D.int)]]))) p4 = some (.lst (bs.map dN)) := by rw [M.set_ne (Ne.symm fx4.2.1.1)]; exact S4.m4
              refine And.intro (isT_list m4') ?_
              refine sM m4' ?_
              refine And.intro (by rw [List.length_map, S4.led.len]; omega) ?_
              refine fin _ _ _ _ _ _ _ _ _ _ _ _ (by
                have e6 : bs.map dN ++ [D.int x.b] = (bs ++ [x.b]).map dN := by rw [List.map_append]; rfl
                show LedSt _ p p3 p4 p5 _ ((n4.set p3 (.lst (h.map eDl ++ [.tup [.tup (rs'.map eP), .tup ((sortI x.ws).map D.int)]]))).set p4 (.lst (bs.map dN ++ [D.int x.b]))) _ _ _
                rw [e5, e6]
                exact S5)
  · rintro e n ⟨h, bs, rs, x6, x7, x8, x9, x10, x11, x12, x13, S, rfl⟩
    refine ⟨trivial, ?_⟩
    refine sM S.m3 ?_
    refine And.intro (show (2 : Nat) ≤ 16777216 by decide) ?_
    exact retD.here (q h bs n p4 S.led S.pool S.m4 (Ne.symm n4))
end T

set_option Elab.async false
set_option linter.all false
set_option maxRecDepth 100000
set_option maxHeartbeats 2000000
namespace T
open PySem PySem.Spec PyProof.Rows L2
theorem ints_py (ns : List Int) : D.pyL (ns.map D.int) = some (ns.map PyData.int) := by
  induction ns with
  | nil => rfl
  | cons n ns ih => rw [List.map_cons, D.pyL, ih]; rfl
theorem tupInts_py (ns : List Int) : (D.tup (ns.map D.int)).py = some (.tuple (ns.map .int)) := by
  show (D.pyL (ns.map D.int)).map PyData.tuple = _
  rw [ints_py]; rfl
theorem ints_lay0 : ∀ ns : List Int, PyData.canLayAll0 (ns.map PyData.int) = true
  | [] => by simp [PyData.canLayAll0]
  | _ :: r => by simp [PyData.canLayAll0, PyData.canLay0, ints_lay0 r]
theorem ints_depth : ∀ ns : List Int, PyData.depthAll (ns.map PyData.int) = 0
  | [] => rfl
  | _ :: r => by simp [PyData.depthAll, PyData.depth, ints_depth r]
theorem ints_lay (ns : List Int) : SeqAt.shaped (.tuple (ns.map PyData.int)) = true := by
  simp [SeqAt.shaped, PyData.canLay0, PyData.depth, ints_lay0, ints_depth]
theorem ints_alike : ∀ ns : List Int, PySem.W.alikeAll (ns.map PyData.int) (ns.map PyData.int) = true
  | [] => rfl
  | n :: ns => by
    rw [List.map_cons]
    show (PySem.W.alike (.int n) (.int n) && PySem.W.alikeAll (ns.map PyData.int) (ns.map PyData.int)) = true
    rw [ints_alike ns]; rfl
theorem ints_eqv (ns : List Int) : PyData.eqv (.tuple (ns.map .int)) (.tuple (ns.map .int)) = true := PySem.W.eqv_refl_alike _ (ints_alike ns)
theorem law_true (ns : List Int) (h : ns.length ≤ 63) : sp_law [.scr ns] (fun _ => none) (fun d _ => d = .bl true) := by
  refine .mk ?_
  unfold v_law
  refine pool_ok fun p m0 _ hp0 _ => ?_
  refine And.intro (by decide) ?_
  show Rg (goForX (fun _ => True) _ _ _ (rgL 0 3) _ _)
  rw [rgL0]
  refine for_inv dN (List.range 3) (fun dn e n => Pool n p ∧ ∃ x2 x3 x4 x5 x6 x7, e = [some (.scr ns), some (.ref p), x2, x3, x4, x5, x6, x7, none, none]) ⟨hp0, _, _, _, _, _, _, rfl⟩ ?_ ?_
  · rintro dn turn rest e n hd ⟨hp, x2, x3, x4, x5, x6, x7, rfl⟩ K hK
    refine ⟨trivial, ?_⟩
    refine And.intro (by simp) ?_
    refine And.intro (by simp) ?_
    refine And.intro (by simp) ?_
    refine And.intro (by simp) ?_
    refine And.intro (by simp) ?_
    refine any_ok hp (by simp) (by simp) fun dks n1 hdk hp1 hb1 => ?_
    obtain ⟨ks, rfl, hk0, hkl, hkr⟩ : ∃ ks : List Int, dks = .tup (ks.map D.int) ∧ ks ≠ [] ∧ ks.length ≤ 100 ∧ ∀ n ∈ ks, 0 ≤ n ∧ n ≤ 99 := by
      simp only [List.mem_cons, List.not_mem_nil, or_false] at hdk
      rcases hdk with e | e | e | e
      · exact ⟨[0, 1, 7, 99], e, by simp, by simp, by simp⟩
      · exact ⟨[3, 4], e, by simp, by simp, by simp⟩
      · exact ⟨[5], e, by simp, by simp, by simp⟩
      · exact ⟨[0, 2, 50], e, by simp, by simp, by simp⟩
    refine draw_ok hp1 (by decide) (by decide) fun most n2 hm1 hm2 hp2 hb2 => ?_
    refine led_ok hp2 hk0 hkl hkr fun h bs n3 p4 L hp3 hm4 hne => ?_
    have hw := L.ok
    have hl := hw.len
    refine And.intro rfl ?_
    have fin : ∀ x2 x3 x4 x5 x6 x7, K [some (.scr ns), some (.ref p), x2, x3, x4, x5, x6, x7, none, none] n3 := fun x2 x3 x4 x5 x6 x7 => hK _ _ ⟨hp3, x2, x3, x4, x5, x6, x7, rfl⟩
    refine is_history_eH hw ?_
    refine sF rfl ?_
    refine by_snapshots_ok hw fun b hb => ?_
    rw [hb.mpr L.snaps]
    refine sF rfl ?_
    refine moments_ok hw ?_
    refine And.intro (by decide) ?_
    refine sF rfl ?_
    refine sF (by simp [mol_len]) ?_
    refine Or.inl ⟨rfl, dO_flat _, ?_⟩
    have hnn : ((mol h).map dO).any (fun z => D.feq z .non) = false := (bool_iff (none_in _)).mpr fun c => mem_mol.mpr L.snaps c
    rw [hnn]
    refine sF rfl ?_
    refine And.intro ⟨by rw [List.length_map]; omega, by rw [List.length_map]; omega⟩ ?_
    rw [List.length_map, Int.toNat_natCast, rgL0]
    refine lc_filt dN (fun _ => false) dN trivial _ (fun i hi K hK => hK _ (fun kk hk => ?_) fun z => by cases z) ?_
    · have hi := List.mem_range.mp hi
      have hib : i < bs.length := by rw [L.len]; exact hi
      have hg : bs[i]? = some bs[i] := List.getElem?_eq_getElem hib
      obtain ⟨t, h1, h2, h3⟩ := L.mol hg
      have hx : xat ((mol h).map dO) (i : Int) = some (dN t) := xat_enc (enc := dO) (xat_nat h1)
      refine sS hx ?_
      refine sM hm4 ?_
      refine sS (xat_enc (xat_nat hg)) ?_
      refine sF (by simp; omega) ?_
      refine sS hx ?_
      have e : decide ((i : Int) < (t : Int)) = false := by simp; omega
      show kk (decide ((i : Int) < (t : Int))) n3
      rw [e]; exact hk
    · rw [show (List.range h.length).filter (fun _ => false) = [] by simp]
      refine sF rfl ?_
      refine sB (fun hc => ?_) (fun _ => fin _ _ _ _ _ _)
      have hone : decide (1 + most = 1) = true := hc
      rw [hone] at L
      have em : (mol h).map dO = ((List.range h.length).map fun n : Nat => (n : Int)).map D.int := by
        rw [L.mol1, List.map_map, List.map_map]; rfl
      rw [em]
      refine And.intro ⟨by rw [List.length_map]; omega, by rw [List.length_map]; omega⟩ ?_
      rw [List.length_map, Int.toNat_natCast, rgL0, dN_map]
      refine ⟨_, _, tupInts_py _, tupInts_py _, ints_lay _, ints_lay _, ?_⟩
      refine sF (by rw [ints_eqv]; rfl) ?_
      refine ring_none_ok hw (fun i hi => by rw [L.order]; exact List.mem_range.mpr hi) ?_
      refine sF rfl ?_
      refine one_order_ok hw (fun z => by rw [L.order, List.length_range] at z; omega) fun _ => ?_
      refine sF rfl ?_
      refine edges_ok hw ?_
      obtain ⟨l, el, pl⟩ := sort_eE (edL h)
      rw [el]
      refine lc_filt eE (fun _ => false) eE trivial l (fun e he K hK => hK _ (fun kk hk => ?_) fun z => by cases z) ?_
      · refine sS rfl ?_
        refine sS rfl ?_
        have := L.fwd (pl.mem_iff.mp he)
        have e0 : decide (e.2.1 < e.1) = false := by simp; omega
        show kk (decide (e.2.1 < e.1)) n3
        rw [e0]; exact hk
      · rw [show l.filter (fun _ => false) = [] by simp]
        refine sF rfl ?_
        exact fin _ _ _ _ _ _
  · rintro e n ⟨hp, x2, x3, x4, x5, x6, x7, rfl⟩
    exact ⟨trivial, retD.here rfl⟩
end T
set_option Elab.async false
set_option linter.all false
set_option maxRecDepth 100000
set_option maxHeartbeats 4000000
namespace T
open PySem PySem.Spec PyProof.Rows L2
theorem room65 {k : Nat} {A : Around} (h : Room k A) : A.units + 65 < cLine := by have := h.un; omega
def topS (i : Nat) : Stmt := PySem.Challenge.pw_tornsectors_k89_whole_histories_that_dea.main.body.getD i (.Pass ⟨0, 0, 0, 0⟩)
abbrev s_is_integer : Stmt := topS 4
theorem sc_is_integer : FnScope ["thing"] ["thing"] (defScope s_is_integer) := ⟨rfl, rfl, rfl, by decide +kernel, rfl, by decide +kernel, by decide +kernel⟩
abbrev s_is_between : Stmt := topS 5
theorem sc_is_between : FnScope ["thing", "least", "most"] ["thing", "least", "most"] (defScope s_is_between) := ⟨rfl, rfl, rfl, by decide +kernel, rfl, by decide +kernel, by decide +kernel⟩
abbrev s_are_writes : Stmt := topS 9
theorem sc_are_writes : FnScope ["thing", "key", "one", "other"] ["thing"] (defScope s_are_writes) := ⟨rfl, rfl, rfl, by decide +kernel, rfl, by decide +kernel, by decide +kernel⟩
abbrev s_is_read : Stmt := topS 10
theorem sc_is_read : FnScope ["thing", "history"] ["thing", "history"] (defScope s_is_read) := ⟨rfl, rfl, rfl, by decide +kernel, rfl, by decide +kernel, by decide +kernel⟩
abbrev s_are_reads : Stmt := topS 11
theorem sc_are_reads : FnScope ["thing", "index", "history", "pair", "one", "other"] ["thing", "index", "history"] (defScope s_are_reads) := ⟨rfl, rfl, rfl, by decide +kernel, rfl, by decide +kernel, by decide +kernel⟩
abbrev s_is_history : Stmt := topS 12
theorem sc_is_history : FnScope ["thing", "deal", "index"] ["thing"] (defScope s_is_history) := ⟨rfl, rfl, rfl, by decide +kernel, rfl, by decide +kernel, by decide +kernel⟩
abbrev s_check_history : Stmt := topS 13
theorem sc_check_history : FnScope ["thing"] ["thing"] (defScope s_check_history) := ⟨rfl, rfl, rfl, by decide +kernel, rfl, by decide +kernel, by decide +kernel⟩
abbrev s_writers : Stmt := topS 14
theorem sc_writers : FnScope ["history", "key", "index", "deal"] ["history", "key"] (defScope s_writers) := ⟨rfl, rfl, rfl, by decide +kernel, rfl, by decide +kernel, by decide +kernel⟩
abbrev s_next_writer : Stmt := topS 15
theorem sc_next_writer : FnScope ["history", "key", "last", "later", "index"] ["history", "key", "last"] (defScope s_next_writer) := ⟨rfl, rfl, rfl, by decide +kernel, rfl, by decide +kernel, by decide +kernel⟩
abbrev s_edges_of : Stmt := topS 16
theorem sc_edges_of : FnScope ["history", "found", "index", "deal", "key", "other", "source", "behind"] ["history"] (defScope s_edges_of) := ⟨rfl, rfl, rfl, by decide +kernel, rfl, by decide +kernel, by decide +kernel⟩
abbrev s_edges : Stmt := topS 17
theorem sc_edges : FnScope ["history"] ["history"] (defScope s_edges) := ⟨rfl, rfl, rfl, by decide +kernel, rfl, by decide +kernel, by decide +kernel⟩
abbrev s_webs : Stmt := topS 18
theorem sc_webs : FnScope ["history", "found", "_", "one", "other"] ["history"] (defScope s_webs) := ⟨rfl, rfl, rfl, by decide +kernel, rfl, by decide +kernel, by decide +kernel⟩
abbrev s_order_of : Stmt := topS 19
theorem sc_order_of : FnScope ["history", "web", "left", "found", "ready", "deal", "other"] ["history"] (defScope s_order_of) := ⟨rfl, rfl, rfl, by decide +kernel, rfl, by decide +kernel, by decide +kernel⟩
abbrev s_one_order : Stmt := topS 20
theorem sc_one_order : FnScope ["history", "found"] ["history"] (defScope s_one_order) := ⟨rfl, rfl, rfl, by decide +kernel, rfl, by decide +kernel, by decide +kernel⟩
abbrev s_ring : Stmt := topS 21
theorem sc_ring : FnScope ["history", "web", "done", "left", "deal", "row", "found"] ["history"] (defScope s_ring) := ⟨rfl, rfl, rfl, by decide +kernel, rfl, by decide +kernel, by decide +kernel⟩
abbrev s_suits : Stmt := topS 22
theorem sc_suits : FnScope ["history", "index", "moment", "reads", "writes", "key", "source", "ahead", "other", "between"] ["history", "index", "moment"] (defScope s_suits) := ⟨rfl, rfl, rfl, by decide +kernel, rfl, by decide +kernel, by decide +kernel⟩
abbrev s_moment_of : Stmt := topS 23
theorem sc_moment_of : FnScope ["history", "index", "found", "moment"] ["history", "index"] (defScope s_moment_of) := ⟨rfl, rfl, rfl, by decide +kernel, rfl, by decide +kernel, by decide +kernel⟩
abbrev s_moments : Stmt := topS 24
theorem sc_moments : FnScope ["history", "index"] ["history"] (defScope s_moments) := ⟨rfl, rfl, rfl, by decide +kernel, rfl, by decide +kernel, by decide +kernel⟩
abbrev s_by_snapshots : Stmt := topS 25
theorem sc_by_snapshots : FnScope ["history", "index"] ["history"] (defScope s_by_snapshots) := ⟨rfl, rfl, rfl, by decide +kernel, rfl, by decide +kernel, by decide +kernel⟩
abbrev s__law_pool : Stmt := topS 27
theorem sc__law_pool : FnScope ["script", "cell"] ["script"] (defScope s__law_pool) := ⟨rfl, rfl, rfl, by decide +kernel, rfl, by decide +kernel, by decide +kernel⟩
abbrev s__law_draw : Stmt := topS 28
theorem sc__law_draw : FnScope ["pool", "many", "cell", "digit", "mixed"] ["pool", "many"] (defScope s__law_draw) := ⟨rfl, rfl, rfl, by decide +kernel, rfl, by decide +kernel, by decide +kernel⟩
abbrev s__law_any : Stmt := topS 29
theorem sc__law_any : FnScope ["pool", "things"] ["pool", "things"] (defScope s__law_any) := ⟨rfl, rfl, rfl, by decide +kernel, rfl, by decide +kernel, by decide +kernel⟩
abbrev s__law_last : Stmt := topS 30
theorem sc__law_last : FnScope ["told", "many", "key", "other"] ["told", "many", "key"] (defScope s__law_last) := ⟨rfl, rfl, rfl, by decide +kernel, rfl, by decide +kernel, by decide +kernel⟩
abbrev s__law_led : Stmt := topS 31
theorem sc__law_led : FnScope ["pool", "names", "most", "done", "begins", "running", "turn", "kind", "place", "begin", "seen", "wrote", "key", "clash", "one"] ["pool", "names", "most"] (defScope s__law_led) := ⟨rfl, rfl, rfl, by decide +kernel, rfl, by decide +kernel, by decide +kernel⟩
abbrev s_law : Stmt := topS 32
theorem sc_law : FnScope ["script", "pool", "turn", "names", "most", "told", "begins", "found", "k", "edge"] ["script"] (defScope s_law) := ⟨rfl, rfl, rfl, by decide +kernel, rfl, by decide +kernel, by decide +kernel⟩
theorem bb_abs : bootBuiltins "abs" = some (.builtin "abs") := by decide +kernel
theorem bb_all : bootBuiltins "all" = some (.builtin "all") := by decide +kernel
theorem bb_any : bootBuiltins "any" = some (.builtin "any") := by decide +kernel
theorem bb_bool : bootBuiltins "bool" = some (.type "bool") := by decide +kernel
theorem bb_int : bootBuiltins "int" = some (.type "int") := by decide +kernel
theorem bb_isinstance : bootBuiltins "isinstance" = some (.builtin "isinstance") := by decide +kernel
theorem bb_len : bootBuiltins "len" = some (.builtin "len") := by decide +kernel
theorem bb_list : bootBuiltins "list" = some (.type "list") := by decide +kernel
theorem bb_max : bootBuiltins "max" = some (.builtin "max") := by decide +kernel
theorem bb_sorted : bootBuiltins "sorted" = some (.builtin "sorted") := by decide +kernel
theorem bb_tuple : bootBuiltins "tuple" = some (.type "tuple") := by decide +kernel
/-- what the module's names hold -/
structure Tx (K : PySem.W.Frag) (mg : Str → Option Value) where
  a_is_integer : Addr
  d_is_integer : FuncData
  F_is_integer : Fun K "is_integer" "is_integer" s_is_integer a_is_integer d_is_integer
  g_is_integer : mg "is_integer" = some (.ref a_is_integer)
  b_is_integer : Binds K d_is_integer ["thing"] []
  a_is_between : Addr
  d_is_between : FuncData
  F_is_between : Fun K "is_between" "is_between" s_is_between a_is_between d_is_between
  g_is_between : mg "is_between" = some (.ref a_is_between)
  b_is_between : Binds K d_is_between ["thing", "least", "most"] []
  a_are_writes : Addr
  d_are_writes : FuncData
  F_are_writes : Fun K "are_writes" "are_writes" s_are_writes a_are_writes d_are_writes
  g_are_writes : mg "are_writes" = some (.ref a_are_writes)
  b_are_writes : Binds K d_are_writes ["thing"] []
  a_is_read : Addr
  d_is_read : FuncData
  F_is_read : Fun K "is_read" "is_read" s_is_read a_is_read d_is_read
  g_is_read : mg "is_read" = some (.ref a_is_read)
  b_is_read : Binds K d_is_read ["thing", "history"] []
  a_are_reads : Addr
  d_are_reads : FuncData
  F_are_reads : Fun K "are_reads" "are_reads" s_are_reads a_are_reads d_are_reads
  g_are_reads : mg "are_reads" = some (.ref a_are_reads)
  b_are_reads : Binds K d_are_reads ["thing", "index", "history"] []
  a_is_history : Addr
  d_is_history : FuncData
  F_is_history : Fun K "is_history" "is_history" s_is_history a_is_history d_is_history
  g_is_history : mg "is_history" = some (.ref a_is_history)
  b_is_history : Binds K d_is_history ["thing"] []
  a_check_history : Addr
  d_check_history : FuncData
  F_check_history : Fun K "check_history" "check_history" s_check_history a_check_history d_check_history
  g_check_history : mg "check_history" = some (.ref a_check_history)
  b_check_history : Binds K d_check_history ["thing"] []
  a_writers : Addr
  d_writers : FuncData
  F_writers : Fun K "writers" "writers" s_writers a_writers d_writers
  g_writers : mg "writers" = some (.ref a_writers)
  b_writers : Binds K d_writers ["history", "key"] []
  a_next_writer : Addr
  d_next_writer : FuncData
  F_next_writer : Fun K "next_writer" "next_writer" s_next_writer a_next_writer d_next_writer
  g_next_writer : mg "next_writer" = some (.ref a_next_writer)
  b_next_writer : Binds K d_next_writer ["history", "key", "last"] []
  a_edges_of : Addr
  d_edges_of : FuncData
  F_edges_of : Fun K "edges_of" "edges_of" s_edges_of a_edges_of d_edges_of
  g_edges_of : mg "edges_of" = some (.ref a_edges_of)
  b_edges_of : Binds K d_edges_of ["history"] []
  a_edges : Addr
  d_edges : FuncData
  F_edges : Fun K "edges" "edges" s_edges a_edges d_edges
  g_edges : mg "edges" = some (.ref a_edges)
  b_edges : Binds K d_edges ["history"] []
  a_webs : Addr
  d_webs : FuncData
  F_webs : Fun K "webs" "webs" s_webs a_webs d_webs
  g_webs : mg "webs" = some (.ref a_webs)
  b_webs : Binds K d_webs ["history"] []
  a_order_of : Addr
  d_order_of : FuncData
  F_order_of : Fun K "order_of" "order_of" s_order_of a_order_of d_order_of
  g_order_of : mg "order_of" = some (.ref a_order_of)
  b_order_of : Binds K d_order_of ["history"] []
  a_one_order : Addr
  d_one_order : FuncData
  F_one_order : Fun K "one_order" "one_order" s_one_order a_one_order d_one_order
  g_one_order : mg "one_order" = some (.ref a_one_order)
  b_one_order : Binds K d_one_order ["history"] []
  a_ring : Addr
  d_ring : FuncData
  F_ring : Fun K "ring" "ring" s_ring a_ring d_ring
  g_ring : mg "ring" = some (.ref a_ring)
  b_ring : Binds K d_ring ["history"] []
  a_suits : Addr
  d_suits : FuncData
  F_suits : Fun K "suits" "suits" s_suits a_suits d_suits
  g_suits : mg "suits" = some (.ref a_suits)
  b_suits : Binds K d_suits ["history", "index", "moment"] []
  a_moment_of : Addr
  d_moment_of : FuncData
  F_moment_of : Fun K "moment_of" "moment_of" s_moment_of a_moment_of d_moment_of
  g_moment_of : mg "moment_of" = some (.ref a_moment_of)
  b_moment_of : Binds K d_moment_of ["history", "index"] []
  a_moments : Addr
  d_moments : FuncData
  F_moments : Fun K "moments" "moments" s_moments a_moments d_moments
  g_moments : mg "moments" = some (.ref a_moments)
  b_moments : Binds K d_moments ["history"] []
  a_by_snapshots : Addr
  d_by_snapshots : FuncData
  F_by_snapshots : Fun K "by_snapshots" "by_snapshots" s_by_snapshots a_by_snapshots d_by_snapshots
  g_by_snapshots : mg "by_snapshots" = some (.ref a_by_snapshots)
  b_by_snapshots : Binds K d_by_snapshots ["history"] []
  a__law_pool : Addr
  d__law_pool : FuncData
  F__law_pool : Fun K "_law_pool" "_law_pool" s__law_pool a__law_pool d__law_pool
  g__law_pool : mg "_law_pool" = some (.ref a__law_pool)
  b__law_pool : Binds K d__law_pool ["script"] []
  a__law_draw : Addr
  d__law_draw : FuncData
  F__law_draw : Fun K "_law_draw" "_law_draw" s__law_draw a__law_draw d__law_draw
  g__law_draw : mg "_law_draw" = some (.ref a__law_draw)
  b__law_draw : Binds K d__law_draw ["pool", "many"] []
  a__law_any : Addr
  d__law_any : FuncData
  F__law_any : Fun K "_law_any" "_law_any" s__law_any a__law_any d__law_any
  g__law_any : mg "_law_any" = some (.ref a__law_any)
  b__law_any : Binds K d__law_any ["pool", "things"] []
  a__law_last : Addr
  d__law_last : FuncData
  F__law_last : Fun K "_law_last" "_law_last" s__law_last a__law_last d__law_last
  g__law_last : mg "_law_last" = some (.ref a__law_last)
  b__law_last : Binds K d__law_last ["told", "many", "key"] []
  a__law_led : Addr
  d__law_led : FuncData
  F__law_led : Fun K "_law_led" "_law_led" s__law_led a__law_led d__law_led
  g__law_led : mg "_law_led" = some (.ref a__law_led)
  b__law_led : Binds K d__law_led ["pool", "names", "most"] []
  a_law : Addr
  d_law : FuncData
  F_law : Fun K "law" "law" s_law a_law d_law
  g_law : mg "law" = some (.ref a_law)
  b_law : Binds K d_law ["script"] []
  n_abs : mg "abs" = none
  n_all : mg "all" = none
  n_any : mg "any" = none
  n_bool : mg "bool" = none
  n_enumerate : mg "enumerate" = none
  n_int : mg "int" = none
  n_isinstance : mg "isinstance" = none
  n_len : mg "len" = none
  n_list : mg "list" = none
  n_max : mg "max" = none
  n_range : mg "range" = none
  n_sorted : mg "sorted" = none
  n_tuple : mg "tuple" = none
  n_zip : mg "zip" = none
  c_MOST_DEALS : ∃ t, mg "MOST_DEALS" = some (.int 12 t)
  c_MOST_KEY : ∃ t, mg "MOST_KEY" = some (.int 99 t)
theorem dv_is_integer {P : Program} {w : World} {K : PySem.W.Frag} {mg : Str → Option Value} {base : Heap} (T : Tx K mg) 
    (cdv : Value) (A : Around) (outer : List PySem.Env) (s : Shared) (H : Hp) (E : XK) (hr : Room 0 (A.deeper (envOfC "is_integer" (defScope s_is_integer) s.heap.objs.size T.a_is_integer cdv))) :
    PSs (cxOf CX0 P w K mg base ["thing"] "is_integer" (defScope s_is_integer) T.a_is_integer cdv A outer s H E).nox (defBody s_is_integer) (upS K w_is_integer) := by
  have hu64 := hr.units
  have hu65 := room65 hr
  have hu1 := hu_of hr
  exact
    (ss_one (s_ret (e_and (e_callB call_isi c_isi rfl T.n_isinstance bb_isinstance (a_cons (e_v 0) (a_cons (e_ty rfl T.n_int bb_int) a_nil))) (e_one (e_not (e_callB call_isi c_isi rfl T.n_isinstance bb_isinstance (a_cons (e_v 0) (a_cons (e_ty rfl T.n_bool bb_bool) a_nil))))))))

theorem dv_is_between {P : Program} {w : World} {K : PySem.W.Frag} {mg : Str → Option Value} {base : Heap} (T : Tx K mg) (h_is_integer : FnOk P w K mg base CX0 1 T.a_is_integer T.d_is_integer ["thing"] (spD K sp_is_integer))
    (cdv : Value) (A : Around) (outer : List PySem.Env) (s : Shared) (H : Hp) (E : XK) (hr : Room 1 (A.deeper (envOfC "is_between" (defScope s_is_between) s.heap.objs.size T.a_is_between cdv))) :
    PSs (cxOf CX0 P w K mg base ["thing", "least", "most"] "is_between" (defScope s_is_between) T.a_is_between cdv A outer s H E).nox (defBody s_is_between) (upS K w_is_between) := by
  have hu64 := hr.units
  have hu65 := room65 hr
  have hu1 := hu_of hr
  exact
    (ss_one (s_ret (e_and (e_call h_is_integer (hr.mono (by decide)) rfl T.g_is_integer T.F_is_integer.kp T.b_is_integer (a_cons (e_v 0) a_nil)) (e_one (e_chain op_le op_le b_le b_le (e_v 1) (e_v 0) (e_v 2))))))

theorem dv_are_writes {P : Program} {w : World} {K : PySem.W.Frag} {mg : Str → Option Value} {base : Heap} (T : Tx K mg) (h_is_between : FnOk P w K mg base CX0 2 T.a_is_between T.d_is_between ["thing", "least", "most"] (spD K sp_is_between))
    (cdv : Value) (A : Around) (outer : List PySem.Env) (s : Shared) (H : Hp) (E : XK) (hr : Room 2 (A.deeper (envOfC "are_writes" (defScope s_are_writes) s.heap.objs.size T.a_are_writes cdv))) :
    PSs (cxOf CX0 P w K mg base ["thing", "key", "one", "other"] "are_writes" (defScope s_are_writes) T.a_are_writes cdv A outer s H E).nox (defBody s_are_writes) (upS K w_are_writes) := by
  have hu64 := hr.units
  have hu65 := room65 hr
  have hu1 := hu_of hr
  exact
    (ss_cons (s_if (PW.pt (t_or (t_not (t_val (e_callB call_isi c_isi rfl T.n_isinstance bb_isinstance (a_cons (e_v 0) (a_cons (e_ty rfl T.n_tuple bb_tuple) a_nil))))) (t_or1 (t_not (t_val (e_callB (cr_all rfl) c_all rfl T.n_all bb_all (a_cons (e_lc true (own := [("key", 1)]) rfl sc_are_writes.nd  (i_seq (e_v 0)) (blkOk_by (N := ["thing", "key", "one", "other"]) (sc := defScope s_are_writes) (by decide +kernel)) (by decide) (fun _ _ _ _ _ => (g_one (i := 1) sc_are_writes.nd rfl (by first | exact .inl rfl | exact .inr rfl))) (fun _ _ _ _ _ => ts_nil) (fun _ _ _ _ _ => (e_call h_is_between (hr.mono (by decide)) rfl T.g_is_between T.F_is_between.kp T.b_is_between (a_cons (e_v 1) (a_cons e_int (a_cons (e_gint rfl T.c_MOST_KEY) a_nil)))))) a_nil)))))))
      (ss_one (s_ret e_bl))
      ss_nil)
    (ss_one (s_ret (e_callB (cr_all rfl) c_all rfl T.n_all bb_all (a_cons (e_lc true (own := [("one", 2), ("other", 3)]) rfl sc_are_writes.nd  (i_zip rfl T.n_zip (e_v 0) (e_sl true (e_v 0) (o_some e_int) o_none)) (blkOk_by (N := ["thing", "key", "one", "other"]) (sc := defScope s_are_writes) (by decide +kernel)) (by decide) (fun _ _ _ _ _ => (g_tup rfl (gs_cons (i := 2) sc_are_writes.nd rfl (by first | exact .inl rfl | exact .inr rfl) (gs_cons (i := 3) sc_are_writes.nd rfl (by first | exact .inl rfl | exact .inr rfl) gs_nil)))) (fun _ _ _ _ _ => ts_nil) (fun _ _ _ _ _ => (e_cmp op_lt b_lt (e_v 2) (e_v 3) (nomark _)))) a_nil)))))

theorem dv_is_read {P : Program} {w : World} {K : PySem.W.Frag} {mg : Str → Option Value} {base : Heap} (T : Tx K mg) (h_is_between : FnOk P w K mg base CX0 2 T.a_is_between T.d_is_between ["thing", "least", "most"] (spD K sp_is_between))
    (cdv : Value) (A : Around) (outer : List PySem.Env) (s : Shared) (H : Hp) (E : XK) (hr : Room 2 (A.deeper (envOfC "is_read" (defScope s_is_read) s.heap.objs.size T.a_is_read cdv))) :
    PSs (cxOf CX0 P w K mg base ["thing", "history"] "is_read" (defScope s_is_read) T.a_is_read cdv A outer s H E).nox (defBody s_is_read) (upS K w_is_read) := by
  have hu64 := hr.units
  have hu65 := room65 hr
  have hu1 := hu_of hr
  exact
    (ss_cons (s_if (PW.pt (t_or (t_not (t_val (e_callB call_isi c_isi rfl T.n_isinstance bb_isinstance (a_cons (e_v 0) (a_cons (e_ty rfl T.n_tuple bb_tuple) a_nil))))) (t_or (t_cmp (op_neA hu64) b_ne (e_callB call_lenA c_len rfl T.n_len bb_len (a_cons (e_v 0) a_nil)) e_int (nomark _)) (t_or1 (t_not (t_val (e_call h_is_between (hr.mono (by decide)) rfl T.g_is_between T.F_is_between.kp T.b_is_between (a_cons (e_ix (ix_A hu1) b_ix (e_v 0) e_int (fun _ _ => rfl)) (a_cons e_int (a_cons (e_gint rfl T.c_MOST_KEY) a_nil))))))))))
      (ss_one (s_ret e_bl))
      ss_nil)
    (ss_cons (s_if (t_not (t_val (e_call h_is_between (hr.mono (by decide)) rfl T.g_is_between T.F_is_between.kp T.b_is_between (a_cons (e_ix (ix_A hu1) b_ix (e_v 0) e_int (fun _ _ => rfl)) (a_cons (e_un un_neg u_neg e_int) (a_cons (e_op op_sub b_sub (e_callB call_lenA c_len rfl T.n_len bb_len (a_cons (e_v 1) a_nil)) e_int) a_nil))))))
      (ss_one (s_ret e_bl))
      ss_nil)
    (ss_one (s_ret (e_or (e_cmp (op_eqA hu64) b_eq (e_ix (ix_A hu1) b_ix (e_v 0) e_int (fun _ _ => rfl)) (e_un un_neg u_neg e_int) (nomark _)) (e_one (e_cmp (op_inA hu65) b_in (e_ix (ix_A hu1) b_ix (e_v 0) e_int (fun _ _ => rfl)) (e_ix (ix_A hu1) b_ix (e_ix (ix_A hu1) b_ix (e_v 1) (e_ix (ix_A hu1) b_ix (e_v 0) e_int (fun _ _ => rfl)) (fun _ _ => rfl)) e_int (fun _ _ => rfl)) rfl)))))))

theorem dv_are_reads {P : Program} {w : World} {K : PySem.W.Frag} {mg : Str → Option Value} {base : Heap} (T : Tx K mg) (h_is_read : FnOk P w K mg base CX0 3 T.a_is_read T.d_is_read ["thing", "history"] (spD K sp_is_read))
    (cdv : Value) (A : Around) (outer : List PySem.Env) (s : Shared) (H : Hp) (E : XK) (hr : Room 3 (A.deeper (envOfC "are_reads" (defScope s_are_reads) s.heap.objs.size T.a_are_reads cdv))) :
    PSs (cxOf CX0 P w K mg base ["thing", "index", "history", "pair", "one", "other"] "are_reads" (defScope s_are_reads) T.a_are_reads cdv A outer s H E).nox (defBody s_are_reads) (upS K w_are_reads) := by
  have hu64 := hr.units
  have hu65 := room65 hr
  have hu1 := hu_of hr
  exact
    (ss_cons (s_if (PW.pt (t_or (t_not (t_val (e_callB call_isi c_isi rfl T.n_isinstance bb_isinstance (a_cons (e_v 0) (a_cons (e_ty rfl T.n_tuple bb_tuple) a_nil))))) (t_or1 (t_not (t_val (e_callB (cr_all rfl) c_all rfl T.n_all bb_all (a_cons (e_lc true (own := [("pair", 3)]) rfl sc_are_reads.nd  (i_seq (e_v 0)) (blkOk_by (N := ["thing", "index", "history", "pair", "one", "other"]) (sc := defScope s_are_reads) (by decide +kernel)) (by decide) (fun _ _ _ _ _ => (g_one (i := 3) sc_are_reads.nd rfl (by first | exact .inl rfl | exact .inr rfl))) (fun _ _ _ _ _ => ts_nil) (fun _ _ _ _ _ => (e_call h_is_read (hr.mono (by decide)) rfl T.g_is_read T.F_is_read.kp T.b_is_read (a_cons (e_v 3) (a_cons (e_v 2) a_nil))))) a_nil)))))))
      (ss_one (s_ret e_bl))
      ss_nil)
    (ss_cons (s_if (t_val (e_callB (cr_any rfl) c_any rfl T.n_any bb_any (a_cons (e_lc true (own := [("pair", 3)]) rfl sc_are_reads.nd  (i_seq (e_v 0)) (blkOk_by (N := ["thing", "index", "history", "pair", "one", "other"]) (sc := defScope s_are_reads) (by decide +kernel)) (by decide) (fun _ _ _ _ _ => (g_one (i := 3) sc_are_reads.nd rfl (by first | exact .inl rfl | exact .inr rfl))) (fun _ _ _ _ _ => ts_nil) (fun _ _ _ _ _ => (e_cmp (op_eqA hu64) b_eq (e_ix (ix_A hu1) b_ix (e_v 3) e_int (fun _ _ => rfl)) (e_v 1) (nomark _)))) a_nil)))
      (ss_one (s_ret e_bl))
      ss_nil)
    (ss_one (s_ret (e_callB (cr_all rfl) c_all rfl T.n_all bb_all (a_cons (e_lc true (own := [("one", 4), ("other", 5)]) rfl sc_are_reads.nd  (i_zip rfl T.n_zip (e_v 0) (e_sl true (e_v 0) (o_some e_int) o_none)) (blkOk_by (N := ["thing", "index", "history", "pair", "one", "other"]) (sc := defScope s_are_reads) (by decide +kernel)) (by decide) (fun _ _ _ _ _ => (g_tup rfl (gs_cons (i := 4) sc_are_reads.nd rfl (by first | exact .inl rfl | exact .inr rfl) (gs_cons (i := 5) sc_are_reads.nd rfl (by first | exact .inl rfl | exact .inr rfl) gs_nil)))) (fun _ _ _ _ _ => ts_nil) (fun _ _ _ _ _ => (e_cmp op_lt b_lt (e_ix (ix_A hu1) b_ix (e_v 4) e_int (fun _ _ => rfl)) (e_ix (ix_A hu1) b_ix (e_v 5) e_int (fun _ _ => rfl)) (nomark _)))) a_nil))))))

theorem dv_is_history {P : Program} {w : World} {K : PySem.W.Frag} {mg : Str → Option Value} {base : Heap} (T : Tx K mg) (h_are_reads : FnOk P w K mg base CX0 4 T.a_are_reads T.d_are_reads ["thing", "index", "history"] (spD K sp_are_reads)) (h_are_writes : FnOk P w K mg base CX0 3 T.a_are_writes T.d_are_writes ["thing"] (spD K sp_are_writes))
    (cdv : Value) (A : Around) (outer : List PySem.Env) (s : Shared) (H : Hp) (E : XK) (hr : Room 4 (A.deeper (envOfC "is_history" (defScope s_is_history) s.heap.objs.size T.a_is_history cdv))) :
    PSs (cxOf CX0 P w K mg base ["thing", "deal", "index"] "is_history" (defScope s_is_history) T.a_is_history cdv A outer s H E).nox (defBody s_is_history) (upS K w_is_history) := by
  have hu64 := hr.units
  have hu65 := room65 hr
  have hu1 := hu_of hr
  exact
    (ss_cons (s_if (PW.pt (t_or (t_not (t_val (e_callB call_isi c_isi rfl T.n_isinstance bb_isinstance (a_cons (e_v 0) (a_cons (e_ty rfl T.n_tuple bb_tuple) a_nil))))) (t_or1 (t_cmp op_gt b_gt (e_callB call_lenA c_len rfl T.n_len bb_len (a_cons (e_v 0) a_nil)) (e_gint rfl T.c_MOST_DEALS) (nomark _)))))
      (ss_one (s_ret e_bl))
      ss_nil)
    (ss_cons (s_if (t_not (t_val (e_callB (cr_all rfl) c_all rfl T.n_all bb_all (a_cons (e_lc true (own := [("deal", 1)]) rfl sc_is_history.nd  (i_seq (e_v 0)) (blkOk_by (N := ["thing", "deal", "index"]) (sc := defScope s_is_history) (by decide +kernel)) (by decide) (fun _ _ _ _ _ => (g_one (i := 1) sc_is_history.nd rfl (by first | exact .inl rfl | exact .inr rfl))) (fun _ _ _ _ _ => ts_nil) (fun _ _ _ _ _ => (e_and (e_callB call_isi c_isi rfl T.n_isinstance bb_isinstance (a_cons (e_v 1) (a_cons (e_ty rfl T.n_tuple bb_tuple) a_nil))) (e_and (e_cmp (op_eqA hu64) b_eq (e_callB call_lenA c_len rfl T.n_len bb_len (a_cons (e_v 1) a_nil)) e_int (nomark _)) (e_one (e_call h_are_writes (hr.mono (by decide)) rfl T.g_are_writes T.F_are_writes.kp T.b_are_writes (a_cons (e_ix (ix_A hu1) b_ix (e_v 1) e_int (fun _ _ => rfl)) a_nil))))))) a_nil))))
      (ss_one (s_ret e_bl))
      ss_nil)
    (ss_one (s_ret (e_callB (cr_all rfl) c_all rfl T.n_all bb_all (a_cons (e_lc true (own := [("index", 2), ("deal", 1)]) rfl sc_is_history.nd  (i_enum rfl T.n_enumerate (e_v 0)) (blkOk_by (N := ["thing", "deal", "index"]) (sc := defScope s_is_history) (by decide +kernel)) (by decide) (fun _ _ _ _ _ => (g_tup rfl (gs_cons (i := 2) sc_is_history.nd rfl (by first | exact .inl rfl | exact .inr rfl) (gs_cons (i := 1) sc_is_history.nd rfl (by first | exact .inl rfl | exact .inr rfl) gs_nil)))) (fun _ _ _ _ _ => ts_nil) (fun _ _ _ _ _ => (e_call h_are_reads (hr.mono (by decide)) rfl T.g_are_reads T.F_are_reads.kp T.b_are_reads (a_cons (e_ix (ix_A hu1) b_ix (e_v 1) e_int (fun _ _ => rfl)) (a_cons (e_v 2) (a_cons (e_v 0) a_nil)))))) a_nil))))))

theorem dv_check_history {P : Program} {w : World} {K : PySem.W.Frag} {mg : Str → Option Value} {base : Heap} (T : Tx K mg) (h_is_history : FnOk P w K mg base CX0 5 T.a_is_history T.d_is_history ["thing"] (spD K sp_is_history))
    (cdv : Value) (A : Around) (outer : List PySem.Env) (s : Shared) (H : Hp) (E : XK) (hr : Room 5 (A.deeper (envOfC "check_history" (defScope s_check_history) s.heap.objs.size T.a_check_history cdv))) :
    PSs (cxOf CX0 P w K mg base ["thing"] "check_history" (defScope s_check_history) T.a_check_history cdv A outer s H E).nox (defBody s_check_history) (upS K w_check_history) := by
  have hu64 := hr.units
  have hu65 := room65 hr
  have hu1 := hu_of hr
  exact
    (ss_one (s_if (t_not (t_val (e_call h_is_history (hr.mono (by decide)) rfl T.g_is_history T.F_is_history.kp T.b_is_history (a_cons (e_v 0) a_nil))))
      (ss_one s_never)
      ss_nil))

theorem dv_writers {P : Program} {w : World} {K : PySem.W.Frag} {mg : Str → Option Value} {base : Heap} (T : Tx K mg) 
    (cdv : Value) (A : Around) (outer : List PySem.Env) (s : Shared) (H : Hp) (E : XK) (hr : Room 0 (A.deeper (envOfC "writers" (defScope s_writers) s.heap.objs.size T.a_writers cdv))) :
    PSs (cxOf CX0 P w K mg base ["history", "key", "index", "deal"] "writers" (defScope s_writers) T.a_writers cdv A outer s H E).nox (defBody s_writers) (upS K w_writers) := by
  have hu64 := hr.units
  have hu65 := room65 hr
  have hu1 := hu_of hr
  exact
    (ss_one (s_ret (e_lc true (own := [("index", 2), ("deal", 3)]) rfl sc_writers.nd  (i_enum rfl T.n_enumerate (e_v 0)) (blkOk_by (N := ["history", "key", "index", "deal"]) (sc := defScope s_writers) (by decide +kernel)) (by decide) (fun _ _ _ _ _ => (g_tup rfl (gs_cons (i := 2) sc_writers.nd rfl (by first | exact .inl rfl | exact .inr rfl) (gs_cons (i := 3) sc_writers.nd rfl (by first | exact .inl rfl | exact .inr rfl) gs_nil)))) (fun _ _ _ _ _ => (ts_one (t_cmp (op_inA hu65) b_in (e_v 1) (e_ix (ix_A hu1) b_ix (e_v 3) e_int (fun _ _ => rfl)) rfl))) (fun _ _ _ _ _ => (e_v 2)))))

theorem dv_next_writer {P : Program} {w : World} {K : PySem.W.Frag} {mg : Str → Option Value} {base : Heap} (T : Tx K mg) (h_writers : FnOk P w K mg base CX0 1 T.a_writers T.d_writers ["history", "key"] (spD K sp_writers))
    (cdv : Value) (A : Around) (outer : List PySem.Env) (s : Shared) (H : Hp) (E : XK) (hr : Room 1 (A.deeper (envOfC "next_writer" (defScope s_next_writer) s.heap.objs.size T.a_next_writer cdv))) :
    PSs (cxOf CX0 P w K mg base ["history", "key", "last", "later", "index"] "next_writer" (defScope s_next_writer) T.a_next_writer cdv A outer s H E).nox (defBody s_next_writer) (upS K w_next_writer) := by
  have hu64 := hr.units
  have hu65 := room65 hr
  have hu1 := hu_of hr
  exact
    (ss_cons (s_setLc true (i := 3) (own := [("index", 4)]) rfl sc_next_writer.nd rfl rfl (sw_true rfl rfl rfl (by decide +kernel)) (i_seq (e_call h_writers (hr.mono (by decide)) rfl T.g_writers T.F_writers.kp T.b_writers (a_cons (e_v 0) (a_cons (e_v 1) a_nil)))) (blkOk_by (N := ["history", "key", "last", "later", "index"]) (sc := defScope s_next_writer) (by decide +kernel)) (by decide) (fun _ _ _ _ _ => (g_one (i := 4) sc_next_writer.nd rfl (by first | exact .inl rfl | exact .inr rfl))) (fun _ _ _ _ _ => (ts_one (t_cmp op_gt b_gt (e_v 4) (e_v 2) (nomark _)))) (fun _ _ _ _ _ => (e_v 4)))
    (ss_cons (s_if (t_cmp (op_eqA hu64) b_eq (e_callB call_lenA c_len rfl T.n_len bb_len (a_cons (e_v 3) a_nil)) e_int (nomark _))
      (ss_one (s_ret e_non))
      ss_nil)
    (ss_one (s_ret (e_ix (ix_A hu1) b_ix (e_v 3) e_int (fun _ _ => rfl))))))

theorem dv_edges_of {P : Program} {w : World} {K : PySem.W.Frag} {mg : Str → Option Value} {base : Heap} (T : Tx K mg) (h_next_writer : FnOk P w K mg base CX0 2 T.a_next_writer T.d_next_writer ["history", "key", "last"] (spD K sp_next_writer)) (h_writers : FnOk P w K mg base CX0 1 T.a_writers T.d_writers ["history", "key"] (spD K sp_writers))
    (cdv : Value) (A : Around) (outer : List PySem.Env) (s : Shared) (H : Hp) (E : XK) (hr : Room 2 (A.deeper (envOfC "edges_of" (defScope s_edges_of) s.heap.objs.size T.a_edges_of cdv))) :
    PSs (cxOf CX0 P w K mg base ["history", "found", "index", "deal", "key", "other", "source", "behind"] "edges_of" (defScope s_edges_of) T.a_edges_of cdv A outer s H E).nox (defBody s_edges_of) (upS K w_edges_of) := by
  have hu64 := hr.units
  have hu65 := room65 hr
  have hu1 := hu_of hr
  exact
    (ss_cons (s_set (i := 1) sc_edges_of.nd rfl (by first | exact .inl rfl | exact .inr rfl) (e_lst false a_nil))
    (ss_cons (s_for PassesOwn.never rfl (i_enum rfl T.n_enumerate (e_v 0)) (g_tup rfl (gs_cons (i := 2) sc_edges_of.nd rfl (by first | exact .inl rfl | exact .inr rfl) (gs_cons (i := 3) sc_edges_of.nd rfl (by first | exact .inl rfl | exact .inr rfl) gs_nil)))
      (ss_cons (s_for PassesOwn.never rfl (i_seq (e_ix (ix_A hu1) b_ix (e_v 3) e_int (fun _ _ => rfl))) (g_one (i := 4) sc_edges_of.nd rfl (by first | exact .inl rfl | exact .inr rfl))
        (ss_one (s_expr (e_mt PySem.F.plainAttrs_list PySem.F.slot_list_extend PySem.F.type_list_extend mt_extend m_extend (e_v 1) (a_cons (e_lc true (own := [("other", 5)]) rfl sc_edges_of.nd  (i_seq (e_call h_writers (hr.mono (by decide)) rfl T.g_writers T.F_writers.kp T.b_writers (a_cons (e_v 0) (a_cons (e_v 4) a_nil)))) (blkOk_by (N := ["history", "found", "index", "deal", "key", "other", "source", "behind"]) (sc := defScope s_edges_of) (by decide +kernel)) (by decide) (fun _ _ _ _ _ => (g_one (i := 5) sc_edges_of.nd rfl (by first | exact .inl rfl | exact .inr rfl))) (fun _ _ _ _ _ => (ts_one (t_cmp op_gt b_gt (e_v 5) (e_v 2) (nomark _)))) (fun _ _ _ _ _ => (e_tup (a_cons (e_v 2) (a_cons (e_v 5) (a_cons e_str (a_cons (e_v 4) a_nil))))))) a_nil)))))
      (ss_one (s_for PassesOwn.never rfl (i_seq (e_ix (ix_A hu1) b_ix (e_v 3) e_int (fun _ _ => rfl))) (g_tup rfl (gs_cons (i := 4) sc_edges_of.nd rfl (by first | exact .inl rfl | exact .inr rfl) (gs_cons (i := 6) sc_edges_of.nd rfl (by first | exact .inl rfl | exact .inr rfl) gs_nil)))
        (ss_cons (s_if (t_cmp (op_neA hu64) b_ne (e_v 6) (e_un un_neg u_neg e_int) (nomark _))
          (ss_one (s_expr (e_mt PySem.F.plainAttrs_list PySem.F.slot_list_append PySem.F.type_list_append mt_append m_append (e_v 1) (a_cons (e_tup (a_cons (e_v 6) (a_cons (e_v 2) (a_cons e_str (a_cons (e_v 4) a_nil))))) a_nil))))
          ss_nil)
        (ss_cons (s_set (i := 7) sc_edges_of.nd rfl (by first | exact .inl rfl | exact .inr rfl) (e_call h_next_writer (hr.mono (by decide)) rfl T.g_next_writer T.F_next_writer.kp T.b_next_writer (a_cons (e_v 0) (a_cons (e_v 4) (a_cons (e_v 6) a_nil)))))
        (ss_one (s_if (PW.pt (t_and (t_cmp op_isnotA b_isnot (e_v 7) e_non (nomark _)) (t_and1 (t_cmp (op_neA hu64) b_ne (e_v 7) (e_v 2) (nomark _)))))
          (ss_one (s_expr (e_mt PySem.F.plainAttrs_list PySem.F.slot_list_append PySem.F.type_list_append mt_append m_append (e_v 1) (a_cons (e_tup (a_cons (e_v 2) (a_cons (e_v 7) (a_cons e_str (a_cons (e_v 4) a_nil))))) a_nil))))
          ss_nil))))))))
    (ss_one (s_ret (e_callB (cr_sortP hu64) (c_sortD true) rfl T.n_sorted bb_sorted (a_cons (e_v 1) a_nil))))))

theorem dv_edges {P : Program} {w : World} {K : PySem.W.Frag} {mg : Str → Option Value} {base : Heap} (T : Tx K mg) (h_check_history : FnOk P w K mg base CX0 6 T.a_check_history T.d_check_history ["thing"] (spD K sp_check_history)) (h_edges_of : FnOk P w K mg base CX0 3 T.a_edges_of T.d_edges_of ["history"] (spD K sp_edges_of))
    (cdv : Value) (A : Around) (outer : List PySem.Env) (s : Shared) (H : Hp) (E : XK) (hr : Room 6 (A.deeper (envOfC "edges" (defScope s_edges) s.heap.objs.size T.a_edges cdv))) :
    PSs (cxOf CX0 P w K mg base ["history"] "edges" (defScope s_edges) T.a_edges cdv A outer s H E).nox (defBody s_edges) (upS K w_edges) := by
  have hu64 := hr.units
  have hu65 := room65 hr
  have hu1 := hu_of hr
  exact
    (ss_cons (s_expr (e_call h_check_history (hr.mono (by decide)) rfl T.g_check_history T.F_check_history.kp T.b_check_history (a_cons (e_v 0) a_nil)))
    (ss_one (s_ret (e_call h_edges_of (hr.mono (by decide)) rfl T.g_edges_of T.F_edges_of.kp T.b_edges_of (a_cons (e_v 0) a_nil)))))

theorem dv_webs {P : Program} {w : World} {K : PySem.W.Frag} {mg : Str → Option Value} {base : Heap} (T : Tx K mg) (h_edges_of : FnOk P w K mg base CX0 3 T.a_edges_of T.d_edges_of ["history"] (spD K sp_edges_of))
    (cdv : Value) (A : Around) (outer : List PySem.Env) (s : Shared) (H : Hp) (E : XK) (hr : Room 3 (A.deeper (envOfC "webs" (defScope s_webs) s.heap.objs.size T.a_webs cdv))) :
    PSs (cxOf CX0 P w K mg base ["history", "found", "_", "one", "other"] "webs" (defScope s_webs) T.a_webs cdv A outer s H E).nox (defBody s_webs) (upS K w_webs) := by
  have hu64 := hr.units
  have hu65 := room65 hr
  have hu1 := hu_of hr
  exact
    (ss_cons (s_setLc true (i := 1) (own := [("_", 2)]) rfl sc_webs.nd rfl rfl (sw_true rfl rfl rfl (by decide +kernel)) (i_seq (e_v 0)) (blkOk_by (N := ["history", "found", "_", "one", "other"]) (sc := defScope s_webs) (by decide +kernel)) (by decide) (fun _ _ _ _ _ => (g_one (i := 2) sc_webs.nd rfl (by first | exact .inl rfl | exact .inr rfl))) (fun _ _ _ _ _ => ts_nil) (fun _ _ _ _ _ => e_dic0))
    (ss_cons (s_for PassesOwn.never rfl (i_seq (e_call h_edges_of (hr.mono (by decide)) rfl T.g_edges_of T.F_edges_of.kp T.b_edges_of (a_cons (e_v 0) a_nil))) (g_tup rfl (gs_cons (i := 3) sc_webs.nd rfl (by first | exact .inl rfl | exact .inr rfl) (gs_cons (i := 4) sc_webs.nd rfl (by first | exact .inl rfl | exact .inr rfl) (gs_cons (i := 2) sc_webs.nd rfl (by first | exact .inl rfl | exact .inr rfl) (gs_cons (i := 2) sc_webs.nd rfl (by first | exact .inl rfl | exact .inr rfl) gs_nil)))))
      (ss_one (s_store hu1 e_bl (e_ix (ix_A hu1) b_ix (e_v 1) (e_v 3) (fun _ _ => rfl)) (e_v 4))))
    (ss_one (s_ret (e_v 1)))))

theorem dv_order_of {P : Program} {w : World} {K : PySem.W.Frag} {mg : Str → Option Value} {base : Heap} (T : Tx K mg) (h_webs : FnOk P w K mg base CX0 4 T.a_webs T.d_webs ["history"] (spD K sp_webs))
    (cdv : Value) (A : Around) (outer : List PySem.Env) (s : Shared) (H : Hp) (E : XK) (hr : Room 4 (A.deeper (envOfC "order_of" (defScope s_order_of) s.heap.objs.size T.a_order_of cdv))) :
    PSs (cxOf CX0 P w K mg base ["history", "web", "left", "found", "ready", "deal", "other"] "order_of" (defScope s_order_of) T.a_order_of cdv A outer s H E).nox (defBody s_order_of) (upS K w_order_of) := by
  have hu64 := hr.units
  have hu65 := room65 hr
  have hu1 := hu_of hr
  exact
    (ss_cons (s_set (i := 1) sc_order_of.nd rfl (by first | exact .inl rfl | exact .inr rfl) (e_call h_webs (hr.mono (by decide)) rfl T.g_webs T.F_webs.kp T.b_webs (a_cons (e_v 0) a_nil)))
    (ss_cons (s_set (i := 2) sc_order_of.nd rfl (by first | exact .inl rfl | exact .inr rfl) (e_listRg false rfl rfl T.n_list rfl T.n_range (e_callB call_lenA c_len rfl T.n_len bb_len (a_cons (e_v 0) a_nil))))
    (ss_cons (s_set (i := 3) sc_order_of.nd rfl (by first | exact .inl rfl | exact .inr rfl) (e_lst false a_nil))
    (ss_one (s_while PassesOwn.never (t_val e_bl)
      (ss_cons (s_setLc true (i := 4) (own := [("deal", 5)]) rfl sc_order_of.nd rfl rfl (sw_true rfl rfl rfl (by decide +kernel)) (i_seq (e_v 2)) (blkOk_by (N := ["history", "web", "left", "found", "ready", "deal", "other"]) (sc := defScope s_order_of) (by decide +kernel)) (by decide) (fun _ _ _ _ _ => (g_one (i := 5) sc_order_of.nd rfl (by first | exact .inl rfl | exact .inr rfl))) (fun _ _ _ _ _ => (ts_one (t_not (t_val (e_callB (cr_any rfl) c_any rfl T.n_any bb_any (a_cons (e_lc true (own := [("other", 6)]) rfl sc_order_of.nd  (i_seq (e_v 2)) (blkOk_by (by rfl)) (by decide) (fun _ _ _ _ _ => (g_one (i := 6) sc_order_of.nd rfl (by first | exact .inl rfl | exact .inr rfl))) (fun _ _ _ _ _ => ts_nil) (fun _ _ _ _ _ => (e_cmp (op_inA hu65) b_in (e_v 5) (e_ix (ix_A hu1) b_ix (e_v 1) (e_v 6) (fun _ _ => rfl)) rfl))) a_nil)))))) (fun _ _ _ _ _ => (e_v 5)))
      (ss_cons (s_if (t_cmp (op_eqA hu64) b_eq (e_callB call_lenA c_len rfl T.n_len bb_len (a_cons (e_v 4) a_nil)) e_int (nomark _))
        (ss_one (s_ret (e_callTy call_tuple_of c_tuple rfl T.n_tuple bb_tuple (a_cons (e_v 3) a_nil))))
        ss_nil)
      (ss_cons (s_expr (e_mt PySem.F.plainAttrs_list PySem.F.slot_list_append PySem.F.type_list_append mt_append m_append (e_v 3) (a_cons (e_ix (ix_A hu1) b_ix (e_v 4) e_int (fun _ _ => rfl)) a_nil)))
      (ss_one (s_expr (e_mt PySem.F.plainAttrs_list PySem.F.slot_list_remove PySem.F.type_list_remove mt_remove m_remove (e_v 2) (a_cons (e_ix (ix_A hu1) b_ix (e_v 4) e_int (fun _ _ => rfl)) a_nil))))))))))))

theorem dv_one_order {P : Program} {w : World} {K : PySem.W.Frag} {mg : Str → Option Value} {base : Heap} (T : Tx K mg) (h_check_history : FnOk P w K mg base CX0 6 T.a_check_history T.d_check_history ["thing"] (spD K sp_check_history)) (h_order_of : FnOk P w K mg base CX0 5 T.a_order_of T.d_order_of ["history"] (spD K sp_order_of))
    (cdv : Value) (A : Around) (outer : List PySem.Env) (s : Shared) (H : Hp) (E : XK) (hr : Room 6 (A.deeper (envOfC "one_order" (defScope s_one_order) s.heap.objs.size T.a_one_order cdv))) :
    PSs (cxOf CX0 P w K mg base ["history", "found"] "one_order" (defScope s_one_order) T.a_one_order cdv A outer s H E).nox (defBody s_one_order) (upS K w_one_order) := by
  have hu64 := hr.units
  have hu65 := room65 hr
  have hu1 := hu_of hr
  exact
    (ss_cons (s_expr (e_call h_check_history (hr.mono (by decide)) rfl T.g_check_history T.F_check_history.kp T.b_check_history (a_cons (e_v 0) a_nil)))
    (ss_cons (s_set (i := 1) sc_one_order.nd rfl (by first | exact .inl rfl | exact .inr rfl) (e_call h_order_of (hr.mono (by decide)) rfl T.g_order_of T.F_order_of.kp T.b_order_of (a_cons (e_v 0) a_nil)))
    (ss_cons (s_if (t_cmp op_lt b_lt (e_callB call_lenA c_len rfl T.n_len bb_len (a_cons (e_v 1) a_nil)) (e_callB call_lenA c_len rfl T.n_len bb_len (a_cons (e_v 0) a_nil)) (nomark _))
      (ss_one (s_ret e_non))
      ss_nil)
    (ss_one (s_ret (e_v 1))))))

theorem dv_ring {P : Program} {w : World} {K : PySem.W.Frag} {mg : Str → Option Value} {base : Heap} (T : Tx K mg) (h_check_history : FnOk P w K mg base CX0 6 T.a_check_history T.d_check_history ["thing"] (spD K sp_check_history)) (h_order_of : FnOk P w K mg base CX0 5 T.a_order_of T.d_order_of ["history"] (spD K sp_order_of)) (h_webs : FnOk P w K mg base CX0 4 T.a_webs T.d_webs ["history"] (spD K sp_webs))
    (cdv : Value) (A : Around) (outer : List PySem.Env) (s : Shared) (H : Hp) (E : XK) (hr : Room 6 (A.deeper (envOfC "ring" (defScope s_ring) s.heap.objs.size T.a_ring cdv))) :
    PSs (cxOf CX0 P w K mg base ["history", "web", "done", "left", "deal", "row", "found"] "ring" (defScope s_ring) T.a_ring cdv A outer s H E).nox (defBody s_ring) (upS K w_ring) := by
  have hu64 := hr.units
  have hu65 := room65 hr
  have hu1 := hu_of hr
  exact
    (ss_cons (s_expr (e_call h_check_history (hr.mono (by decide)) rfl T.g_check_history T.F_check_history.kp T.b_check_history (a_cons (e_v 0) a_nil)))
    (ss_cons (s_set (i := 1) sc_ring.nd rfl (by first | exact .inl rfl | exact .inr rfl) (e_call h_webs (hr.mono (by decide)) rfl T.g_webs T.F_webs.kp T.b_webs (a_cons (e_v 0) a_nil)))
    (ss_cons (s_set (i := 2) sc_ring.nd rfl (by first | exact .inl rfl | exact .inr rfl) (e_call h_order_of (hr.mono (by decide)) rfl T.g_order_of T.F_order_of.kp T.b_order_of (a_cons (e_v 0) a_nil)))
    (ss_cons (s_setLc true (i := 3) (own := [("deal", 4)]) rfl sc_ring.nd rfl rfl (sw_true rfl rfl rfl (by decide +kernel)) (i_rng1 rfl T.n_range (e_callB call_lenA c_len rfl T.n_len bb_len (a_cons (e_v 0) a_nil))) (blkOk_by (N := ["history", "web", "done", "left", "deal", "row", "found"]) (sc := defScope s_ring) (by decide +kernel)) (by decide) (fun _ _ _ _ _ => (g_one (i := 4) sc_ring.nd rfl (by first | exact .inl rfl | exact .inr rfl))) (fun _ _ _ _ _ => (ts_one (t_cmp (op_notInA hu65) b_notin (e_v 4) (e_v 2) rfl))) (fun _ _ _ _ _ => (e_v 4)))
    (ss_cons (s_if (t_cmp (op_eqA hu64) b_eq (e_callB call_lenA c_len rfl T.n_len bb_len (a_cons (e_v 3) a_nil)) e_int (nomark _))
      (ss_one (s_ret e_non))
      ss_nil)
    (ss_cons (s_set (i := 5) sc_ring.nd rfl (by first | exact .inl rfl | exact .inr rfl) (e_lst false (a_cons (e_ix (ix_A hu1) b_ix (e_v 3) e_int (fun _ _ => rfl)) a_nil)))
    (ss_cons (s_while PassesOwn.never (t_cmp (op_notInA hu65) b_notin (e_ix (ix_A hu1) b_ix (e_v 5) (e_un un_neg u_neg e_int) (fun _ _ => rfl)) (e_sl true (e_v 5) o_none (o_some (e_un un_neg u_neg e_int))) rfl)
      (ss_one (s_expr (e_mt PySem.F.plainAttrs_list PySem.F.slot_list_append PySem.F.type_list_append mt_append m_append (e_v 5) (a_cons (e_ix (ix_A hu1) b_ix (e_lc true (own := [("deal", 4)]) rfl sc_ring.nd  (i_seq (e_v 3)) (blkOk_by (N := ["history", "web", "done", "left", "deal", "row", "found"]) (sc := defScope s_ring) (by decide +kernel)) (by decide) (fun _ _ _ _ _ => (g_one (i := 4) sc_ring.nd rfl (by first | exact .inl rfl | exact .inr rfl))) (fun _ _ _ _ _ => (ts_one (t_cmp (op_inA hu65) b_in (e_ix (ix_A hu1) b_ix (e_v 5) (e_un un_neg u_neg e_int) (fun _ _ => rfl)) (e_ix (ix_A hu1) b_ix (e_v 1) (e_v 4) (fun _ _ => rfl)) rfl))) (fun _ _ _ _ _ => (e_v 4))) e_int (fun _ _ => rfl)) a_nil)))))
    (ss_cons (s_set (i := 6) sc_ring.nd rfl (by first | exact .inl rfl | exact .inr rfl) (e_sl true (e_v 5) (o_some (e_mt PySem.F.plainAttrs_list PySem.F.slot_list_index PySem.F.type_list_index mt_index m_index (e_v 5) (a_cons (e_ix (ix_A hu1) b_ix (e_v 5) (e_un un_neg u_neg e_int) (fun _ _ => rfl)) a_nil))) (o_some (e_un un_neg u_neg e_int))))
    (ss_one (s_ret (e_callTy call_tuple_of c_tuple rfl T.n_tuple bb_tuple (a_cons (e_revL true (e_v 6)) a_nil))))))))))))

theorem dv_suits {P : Program} {w : World} {K : PySem.W.Frag} {mg : Str → Option Value} {base : Heap} (T : Tx K mg) (h_writers : FnOk P w K mg base CX0 1 T.a_writers T.d_writers ["history", "key"] (spD K sp_writers))
    (cdv : Value) (A : Around) (outer : List PySem.Env) (s : Shared) (H : Hp) (E : XK) (hr : Room 1 (A.deeper (envOfC "suits" (defScope s_suits) s.heap.objs.size T.a_suits cdv))) :
    PSs (cxOf CX0 P w K mg base ["history", "index", "moment", "reads", "writes", "key", "source", "ahead", "other", "between"] "suits" (defScope s_suits) T.a_suits cdv A outer s H E).nox (defBody s_suits) (upS K w_suits) := by
  have hu64 := hr.units
  have hu65 := room65 hr
  have hu1 := hu_of hr
  exact
    (ss_cons (s_unp (e_ix (ix_A hu1) b_ix (e_v 0) (e_v 1) (fun _ _ => rfl)) (g_tup rfl (gs_cons (i := 3) sc_suits.nd rfl (by first | exact .inl rfl | exact .inr rfl) (gs_cons (i := 4) sc_suits.nd rfl (by first | exact .inl rfl | exact .inr rfl) gs_nil))))
    (ss_cons (s_for PassesOwn.never rfl (i_seq (e_v 3)) (g_tup rfl (gs_cons (i := 5) sc_suits.nd rfl (by first | exact .inl rfl | exact .inr rfl) (gs_cons (i := 6) sc_suits.nd rfl (by first | exact .inl rfl | exact .inr rfl) gs_nil)))
      (ss_cons (s_setLc true (i := 7) (own := [("other", 8)]) rfl sc_suits.nd rfl rfl (sw_true rfl rfl rfl (by decide +kernel)) (i_seq (e_call h_writers (hr.mono (by decide)) rfl T.g_writers T.F_writers.kp T.b_writers (a_cons (e_v 0) (a_cons (e_v 5) a_nil)))) (blkOk_by (N := ["history", "index", "moment", "reads", "writes", "key", "source", "ahead", "other", "between"]) (sc := defScope s_suits) (by decide +kernel)) (by decide) (fun _ _ _ _ _ => (g_one (i := 8) sc_suits.nd rfl (by first | exact .inl rfl | exact .inr rfl))) (fun _ _ _ _ _ => (ts_one (t_cmp op_lt b_lt (e_v 8) (e_v 2) (nomark _)))) (fun _ _ _ _ _ => (e_v 8)))
      (ss_one (s_if (t_cmp (op_neA hu64) b_ne (e_ix (ix_A hu1) b_ix (e_op op_addA b_add (e_lst true (a_cons (e_un un_neg u_neg e_int) a_nil)) (e_v 7)) (e_un un_neg u_neg e_int) (fun _ _ => rfl)) (e_v 6) (nomark _))
        (ss_one (s_ret e_bl))
        ss_nil))))
    (ss_cons (s_setLc true (i := 9) (own := [("other", 8)]) rfl sc_suits.nd rfl rfl (sw_true rfl rfl rfl (by decide +kernel)) (i_rng2 rfl T.n_range (e_v 2) (e_v 1)) (blkOk_by (N := ["history", "index", "moment", "reads", "writes", "key", "source", "ahead", "other", "between"]) (sc := defScope s_suits) (by decide +kernel)) (by decide) (fun _ _ _ _ _ => (g_one (i := 8) sc_suits.nd rfl (by first | exact .inl rfl | exact .inr rfl))) (fun _ _ _ _ _ => (ts_one (t_val (e_callB (cr_any rfl) c_any rfl T.n_any bb_any (a_cons (e_lc true (own := [("key", 5)]) rfl sc_suits.nd  (i_seq (e_v 4)) (blkOk_by (by rfl)) (by decide) (fun _ _ _ _ _ => (g_one (i := 5) sc_suits.nd rfl (by first | exact .inl rfl | exact .inr rfl))) (fun _ _ _ _ _ => ts_nil) (fun _ _ _ _ _ => (e_cmp (op_inA hu65) b_in (e_v 5) (e_ix (ix_A hu1) b_ix (e_ix (ix_A hu1) b_ix (e_v 0) (e_v 8) (fun _ _ => rfl)) e_int (fun _ _ => rfl)) rfl))) a_nil))))) (fun _ _ _ _ _ => (e_v 8)))
    (ss_one (s_ret (e_cmp (op_eqA hu64) b_eq (e_callB call_lenA c_len rfl T.n_len bb_len (a_cons (e_v 9) a_nil)) e_int (nomark _)))))))

theorem dv_moment_of {P : Program} {w : World} {K : PySem.W.Frag} {mg : Str → Option Value} {base : Heap} (T : Tx K mg) (h_suits : FnOk P w K mg base CX0 2 T.a_suits T.d_suits ["history", "index", "moment"] (spD K sp_suits))
    (cdv : Value) (A : Around) (outer : List PySem.Env) (s : Shared) (H : Hp) (E : XK) (hr : Room 2 (A.deeper (envOfC "moment_of" (defScope s_moment_of) s.heap.objs.size T.a_moment_of cdv))) :
    PSs (cxOf CX0 P w K mg base ["history", "index", "found", "moment"] "moment_of" (defScope s_moment_of) T.a_moment_of cdv A outer s H E).nox (defBody s_moment_of) (upS K w_moment_of) := by
  have hu64 := hr.units
  have hu65 := room65 hr
  have hu1 := hu_of hr
  exact
    (ss_cons (s_setLc true (i := 2) (own := [("moment", 3)]) rfl sc_moment_of.nd rfl rfl (sw_true rfl rfl rfl (by decide +kernel)) (i_rng1 rfl T.n_range (e_op op_addA b_add (e_v 1) e_int)) (blkOk_by (N := ["history", "index", "found", "moment"]) (sc := defScope s_moment_of) (by decide +kernel)) (by decide) (fun _ _ _ _ _ => (g_one (i := 3) sc_moment_of.nd rfl (by first | exact .inl rfl | exact .inr rfl))) (fun _ _ _ _ _ => (ts_one (t_val (e_call h_suits (hr.mono (by decide)) rfl T.g_suits T.F_suits.kp T.b_suits (a_cons (e_v 0) (a_cons (e_v 1) (a_cons (e_v 3) a_nil))))))) (fun _ _ _ _ _ => (e_v 3)))
    (ss_cons (s_if (t_cmp (op_eqA hu64) b_eq (e_callB call_lenA c_len rfl T.n_len bb_len (a_cons (e_v 2) a_nil)) e_int (nomark _))
      (ss_one (s_ret e_non))
      ss_nil)
    (ss_one (s_ret (e_ix (ix_A hu1) b_ix (e_v 2) (e_un un_neg u_neg e_int) (fun _ _ => rfl))))))

theorem dv_moments {P : Program} {w : World} {K : PySem.W.Frag} {mg : Str → Option Value} {base : Heap} (T : Tx K mg) (h_check_history : FnOk P w K mg base CX0 6 T.a_check_history T.d_check_history ["thing"] (spD K sp_check_history)) (h_moment_of : FnOk P w K mg base CX0 3 T.a_moment_of T.d_moment_of ["history", "index"] (spD K sp_moment_of))
    (cdv : Value) (A : Around) (outer : List PySem.Env) (s : Shared) (H : Hp) (E : XK) (hr : Room 6 (A.deeper (envOfC "moments" (defScope s_moments) s.heap.objs.size T.a_moments cdv))) :
    PSs (cxOf CX0 P w K mg base ["history", "index"] "moments" (defScope s_moments) T.a_moments cdv A outer s H E).nox (defBody s_moments) (upS K w_moments) := by
  have hu64 := hr.units
  have hu65 := room65 hr
  have hu1 := hu_of hr
  exact
    (ss_cons (s_expr (e_call h_check_history (hr.mono (by decide)) rfl T.g_check_history T.F_check_history.kp T.b_check_history (a_cons (e_v 0) a_nil)))
    (ss_one (s_ret (e_callTy call_tuple_of c_tuple rfl T.n_tuple bb_tuple (a_cons (e_lc true (own := [("index", 1)]) rfl sc_moments.nd  (i_rng1 rfl T.n_range (e_callB call_lenA c_len rfl T.n_len bb_len (a_cons (e_v 0) a_nil))) (blkOk_by (N := ["history", "index"]) (sc := defScope s_moments) (by decide +kernel)) (by decide) (fun _ _ _ _ _ => (g_one (i := 1) sc_moments.nd rfl (by first | exact .inl rfl | exact .inr rfl))) (fun _ _ _ _ _ => ts_nil) (fun _ _ _ _ _ => (e_call h_moment_of (hr.mono (by decide)) rfl T.g_moment_of T.F_moment_of.kp T.b_moment_of (a_cons (e_v 0) (a_cons (e_v 1) a_nil))))) a_nil)))))

theorem dv_by_snapshots {P : Program} {w : World} {K : PySem.W.Frag} {mg : Str → Option Value} {base : Heap} (T : Tx K mg) (h_check_history : FnOk P w K mg base CX0 6 T.a_check_history T.d_check_history ["thing"] (spD K sp_check_history)) (h_moment_of : FnOk P w K mg base CX0 3 T.a_moment_of T.d_moment_of ["history", "index"] (spD K sp_moment_of))
    (cdv : Value) (A : Around) (outer : List PySem.Env) (s : Shared) (H : Hp) (E : XK) (hr : Room 6 (A.deeper (envOfC "by_snapshots" (defScope s_by_snapshots) s.heap.objs.size T.a_by_snapshots cdv))) :
    PSs (cxOf CX0 P w K mg base ["history", "index"] "by_snapshots" (defScope s_by_snapshots) T.a_by_snapshots cdv A outer s H E).nox (defBody s_by_snapshots) (upS K w_by_snapshots) := by
  have hu64 := hr.units
  have hu65 := room65 hr
  have hu1 := hu_of hr
  exact
    (ss_cons (s_expr (e_call h_check_history (hr.mono (by decide)) rfl T.g_check_history T.F_check_history.kp T.b_check_history (a_cons (e_v 0) a_nil)))
    (ss_one (s_ret (e_cmp (op_notInA hu65) b_notin e_non (e_lc true (own := [("index", 1)]) rfl sc_by_snapshots.nd  (i_rng1 rfl T.n_range (e_callB call_lenA c_len rfl T.n_len bb_len (a_cons (e_v 0) a_nil))) (blkOk_by (N := ["history", "index"]) (sc := defScope s_by_snapshots) (by decide +kernel)) (by decide) (fun _ _ _ _ _ => (g_one (i := 1) sc_by_snapshots.nd rfl (by first | exact .inl rfl | exact .inr rfl))) (fun _ _ _ _ _ => ts_nil) (fun _ _ _ _ _ => (e_call h_moment_of (hr.mono (by decide)) rfl T.g_moment_of T.F_moment_of.kp T.b_moment_of (a_cons (e_v 0) (a_cons (e_v 1) a_nil))))) rfl))))

theorem dv__law_pool {P : Program} {w : World} {K : PySem.W.Frag} {mg : Str → Option Value} {base : Heap} (T : Tx K mg) 
    (cdv : Value) (A : Around) (outer : List PySem.Env) (s : Shared) (H : Hp) (E : XK) (hr : Room 0 (A.deeper (envOfC "_law_pool" (defScope s__law_pool) s.heap.objs.size T.a__law_pool cdv))) :
    PSs (cxOf CX0 P w K mg base ["script", "cell"] "_law_pool" (defScope s__law_pool) T.a__law_pool cdv A outer s H E).nox (defBody s__law_pool) (upS K w__law_pool) := by
  have hu64 := hr.units
  have hu65 := room65 hr
  have hu1 := hu_of hr
  exact
    (ss_one (s_ret (e_lst false (a_cons (e_lc true (own := [("cell", 1)]) rfl sc__law_pool.nd  (i_seq (e_sl true (e_v 0) o_none (o_some e_int))) (blkOk_by (N := ["script", "cell"]) (sc := defScope s__law_pool) (by decide +kernel)) (by decide) (fun _ _ _ _ _ => (g_one (i := 1) sc__law_pool.nd rfl (by first | exact .inl rfl | exact .inr rfl))) (fun _ _ _ _ _ => ts_nil) (fun _ _ _ _ _ => (e_callB call_abs c_abs rfl T.n_abs bb_abs (a_cons (e_callTy call_int1 c_int rfl T.n_int bb_int (a_cons (e_v 1) a_nil)) a_nil)))) (a_cons e_int (a_cons e_int (a_cons (e_op op_addA b_add e_int (e_callB call_lenA c_len rfl T.n_len bb_len (a_cons (e_v 0) a_nil))) (a_cons e_int a_nil))))))))

theorem dv__law_draw {P : Program} {w : World} {K : PySem.W.Frag} {mg : Str → Option Value} {base : Heap} (T : Tx K mg) 
    (cdv : Value) (A : Around) (outer : List PySem.Env) (s : Shared) (H : Hp) (E : XK) (hr : Room 0 (A.deeper (envOfC "_law_draw" (defScope s__law_draw) s.heap.objs.size T.a__law_draw cdv))) :
    PSs (cxOf CX0 P w K mg base ["pool", "many", "cell", "digit", "mixed"] "_law_draw" (defScope s__law_draw) T.a__law_draw cdv A outer s H E).nox (defBody s__law_draw) (upS K w__law_draw) := by
  have hu64 := hr.units
  have hu65 := room65 hr
  have hu1 := hu_of hr
  exact
    (ss_cons (s_if (PW.pt (t_and (t_cmp (op_eqA hu64) b_eq (e_ix (ix_A hu1) b_ix (e_v 0) e_int (fun _ _ => rfl)) e_int (nomark _)) (t_and1 (t_cmp op_lt b_lt (e_ix (ix_A hu1) b_ix (e_v 0) e_int (fun _ _ => rfl)) (e_callB call_lenA c_len rfl T.n_len bb_len (a_cons (e_ix (ix_A hu1) b_ix (e_v 0) e_int (fun _ _ => rfl)) a_nil)) (nomark _)))))
      (ss_cons (s_set (i := 2) sc__law_draw.nd rfl (by first | exact .inl rfl | exact .inr rfl) (e_ix (ix_A hu1) b_ix (e_ix (ix_A hu1) b_ix (e_v 0) e_int (fun _ _ => rfl)) (e_ix (ix_A hu1) b_ix (e_v 0) e_int (fun _ _ => rfl)) (fun _ _ => rfl)))
      (ss_cons (s_store hu1 (e_op op_addA b_add (e_ix (ix_A hu1) b_ix (e_v 0) e_int (fun _ _ => rfl)) e_int) (e_v 0) e_int)
      (ss_one (s_if (t_cmp op_ge b_ge (e_v 2) (e_op op_pow b_pow e_int e_int) (nomark _))
        (ss_one (s_store hu1 (e_v 2) (e_v 0) e_int))
        (ss_one (s_store hu1 (e_op op_mod b_mod (e_callTy call_int1 c_int rfl T.n_int bb_int (a_cons (e_op op_addA b_add (e_op op_addA b_add (e_op op_mulA b_mul (e_ix (ix_A hu1) b_ix (e_v 0) e_int (fun _ _ => rfl)) e_int) (e_op op_mulA b_mul (e_op op_mod b_mod (e_callTy call_int1 c_int rfl T.n_int bb_int (a_cons (e_v 2) a_nil)) e_int) e_int)) (e_ix (ix_A hu1) b_ix (e_v 0) e_int (fun _ _ => rfl))) a_nil)) e_int) (e_v 0) e_int))))))
      ss_nil)
    (ss_cons (s_if (t_cmp op_gt b_gt (e_ix (ix_A hu1) b_ix (e_v 0) e_int (fun _ _ => rfl)) e_int (nomark _))
      (ss_cons (s_set (i := 3) sc__law_draw.nd rfl (by first | exact .inl rfl | exact .inr rfl) (e_op op_mod b_mod (e_callTy call_int1 c_int rfl T.n_int bb_int (a_cons (e_ix (ix_A hu1) b_ix (e_v 0) e_int (fun _ _ => rfl)) a_nil)) (e_v 1)))
      (ss_cons (s_store hu1 (e_op op_fdiv b_div (e_callTy call_int1 c_int rfl T.n_int bb_int (a_cons (e_ix (ix_A hu1) b_ix (e_v 0) e_int (fun _ _ => rfl)) a_nil)) (e_v 1)) (e_v 0) e_int)
      (ss_one (s_ret (e_v 3)))))
      ss_nil)
    (ss_cons (s_store hu1 (e_op op_addA b_add (e_ix (ix_A hu1) b_ix (e_v 0) e_int (fun _ _ => rfl)) e_int) (e_v 0) e_int)
    (ss_cons (s_store hu1 (e_op op_mod b_mod (e_callTy call_int1 c_int rfl T.n_int bb_int (a_cons (e_op op_addA b_add (e_op op_addA b_add (e_op op_mulA b_mul (e_ix (ix_A hu1) b_ix (e_v 0) e_int (fun _ _ => rfl)) e_int) (e_op op_mulA b_mul e_int (e_ix (ix_A hu1) b_ix (e_v 0) e_int (fun _ _ => rfl)))) e_int) a_nil)) e_int) (e_v 0) e_int)
    (ss_cons (s_set (i := 4) sc__law_draw.nd rfl (by first | exact .inl rfl | exact .inr rfl) (e_op op_mod b_mod (e_callTy call_int1 c_int rfl T.n_int bb_int (a_cons (e_op op_mulA b_mul (e_ix (ix_A hu1) b_ix (e_v 0) e_int (fun _ _ => rfl)) (e_op op_addA b_add (e_op op_fdiv b_div (e_ix (ix_A hu1) b_ix (e_v 0) e_int (fun _ _ => rfl)) e_int) e_int)) a_nil)) e_int))
    (ss_cons (s_set (i := 4) sc__law_draw.nd rfl (by first | exact .inl rfl | exact .inr rfl) (e_op op_mod b_mod (e_callTy call_int1 c_int rfl T.n_int bb_int (a_cons (e_op op_mulA b_mul (e_v 4) (e_op op_addA b_add (e_op op_fdiv b_div (e_v 4) e_int) e_int)) a_nil)) e_int))
    (ss_one (s_ret (e_op op_mod b_mod (e_callTy call_int1 c_int rfl T.n_int bb_int (a_cons (e_op op_fdiv b_div (e_v 4) e_int) a_nil)) (e_v 1))))))))))

theorem dv__law_any {P : Program} {w : World} {K : PySem.W.Frag} {mg : Str → Option Value} {base : Heap} (T : Tx K mg) (h__law_draw : FnOk P w K mg base CX0 1 T.a__law_draw T.d__law_draw ["pool", "many"] (spD K sp__law_draw))
    (cdv : Value) (A : Around) (outer : List PySem.Env) (s : Shared) (H : Hp) (E : XK) (hr : Room 1 (A.deeper (envOfC "_law_any" (defScope s__law_any) s.heap.objs.size T.a__law_any cdv))) :
    PSs (cxOf CX0 P w K mg base ["pool", "things"] "_law_any" (defScope s__law_any) T.a__law_any cdv A outer s H E).nox (defBody s__law_any) (upS K w__law_any) := by
  have hu64 := hr.units
  have hu65 := room65 hr
  have hu1 := hu_of hr
  exact
    (ss_one (s_ret (e_ix (ix_A hu1) b_ix (e_v 1) (e_call h__law_draw (hr.mono (by decide)) rfl T.g__law_draw T.F__law_draw.kp T.b__law_draw (a_cons (e_v 0) (a_cons (e_callB call_lenA c_len rfl T.n_len bb_len (a_cons (e_v 1) a_nil)) a_nil))) (fun _ _ => rfl))))

theorem dv__law_last {P : Program} {w : World} {K : PySem.W.Frag} {mg : Str → Option Value} {base : Heap} (T : Tx K mg) 
    (cdv : Value) (A : Around) (outer : List PySem.Env) (s : Shared) (H : Hp) (E : XK) (hr : Room 0 (A.deeper (envOfC "_law_last" (defScope s__law_last) s.heap.objs.size T.a__law_last cdv))) :
    PSs (cxOf CX0 P w K mg base ["told", "many", "key", "other"] "_law_last" (defScope s__law_last) T.a__law_last cdv A outer s H E).nox (defBody s__law_last) (upS K w__law_last) := by
  have hu64 := hr.units
  have hu65 := room65 hr
  have hu1 := hu_of hr
  exact
    (ss_one (s_ret (e_callB (cr_max rfl) c_max rfl T.n_max bb_max (a_cons (e_op op_addA b_add (e_lst true (a_cons (e_un un_neg u_neg e_int) a_nil)) (e_lc true (own := [("other", 3)]) rfl sc__law_last.nd  (i_rng1 rfl T.n_range (e_v 1)) (blkOk_by (N := ["told", "many", "key", "other"]) (sc := defScope s__law_last) (by decide +kernel)) (by decide) (fun _ _ _ _ _ => (g_one (i := 3) sc__law_last.nd rfl (by first | exact .inl rfl | exact .inr rfl))) (fun _ _ _ _ _ => (ts_one (t_cmp (op_inA hu65) b_in (e_v 2) (e_ix (ix_A hu1) b_ix (e_ix (ix_A hu1) b_ix (e_v 0) (e_v 3) (fun _ _ => rfl)) e_int (fun _ _ => rfl)) rfl))) (fun _ _ _ _ _ => (e_v 3)))) a_nil))))

theorem dv__law_led {P : Program} {w : World} {K : PySem.W.Frag} {mg : Str → Option Value} {base : Heap} (T : Tx K mg) (h__law_any : FnOk P w K mg base CX0 2 T.a__law_any T.d__law_any ["pool", "things"] (spD K sp__law_any)) (h__law_draw : FnOk P w K mg base CX0 1 T.a__law_draw T.d__law_draw ["pool", "many"] (spD K sp__law_draw)) (h__law_last : FnOk P w K mg base CX0 1 T.a__law_last T.d__law_last ["told", "many", "key"] (spD K sp__law_last))
    (cdv : Value) (A : Around) (outer : List PySem.Env) (s : Shared) (H : Hp) (E : XK) (hr : Room 2 (A.deeper (envOfC "_law_led" (defScope s__law_led) s.heap.objs.size T.a__law_led cdv))) :
    PSs (cxOf CX0 P w K mg base ["pool", "names", "most", "done", "begins", "running", "turn", "kind", "place", "begin", "seen", "wrote", "key", "clash", "one"] "_law_led" (defScope s__law_led) T.a__law_led cdv A outer s H E).nox (defBody s__law_led) (upS K w__law_led) := by
  have hu64 := hr.units
  have hu65 := room65 hr
  have hu1 := hu_of hr
  exact
    (ss_cons (s_set (i := 3) sc__law_led.nd rfl (by first | exact .inl rfl | exact .inr rfl) (e_lst false a_nil))
    (ss_cons (s_set (i := 4) sc__law_led.nd rfl (by first | exact .inl rfl | exact .inr rfl) (e_lst false a_nil))
    (ss_cons (s_set (i := 5) sc__law_led.nd rfl (by first | exact .inl rfl | exact .inr rfl) (e_lst false a_nil))
    (ss_cons (s_for PassesOwn.never rfl (i_rng1 rfl T.n_range e_int) (g_one (i := 6) sc__law_led.nd rfl (by first | exact .inl rfl | exact .inr rfl))
      (ss_cons (s_set (i := 7) sc__law_led.nd rfl (by first | exact .inl rfl | exact .inr rfl) (e_call h__law_draw (hr.mono (by decide)) rfl T.g__law_draw T.F__law_draw.kp T.b__law_draw (a_cons (e_v 0) (a_cons e_int a_nil))))
      (ss_one (s_if (PW.pt (t_and (t_cmp (op_eqA hu64) b_eq (e_v 7) e_int (nomark _)) (t_and1 (t_cmp op_lt b_lt (e_callB call_lenA c_len rfl T.n_len bb_len (a_cons (e_v 5) a_nil)) (e_v 2) (nomark _)))))
        (ss_one (s_expr (e_mt PySem.F.plainAttrs_list PySem.F.slot_list_append PySem.F.type_list_append mt_append m_append (e_v 5) (a_cons (e_lst false (a_cons (e_callB call_lenA c_len rfl T.n_len bb_len (a_cons (e_v 3) a_nil)) (a_cons e_dic0 (a_cons (e_lst false a_nil) a_nil)))) a_nil))))
        (ss_one (s_if (t_cmp op_gt b_gt (e_callB call_lenA c_len rfl T.n_len bb_len (a_cons (e_v 5) a_nil)) e_int (nomark _))
          (ss_cons (s_set (i := 8) sc__law_led.nd rfl (by first | exact .inl rfl | exact .inr rfl) (e_call h__law_draw (hr.mono (by decide)) rfl T.g__law_draw T.F__law_draw.kp T.b__law_draw (a_cons (e_v 0) (a_cons (e_callB call_lenA c_len rfl T.n_len bb_len (a_cons (e_v 5) a_nil)) a_nil))))
          (ss_cons (s_unl rfl (e_ix (ix_A hu1) b_ix (e_v 5) (e_v 8) (fun _ _ => rfl)) (gs_cons (i := 9) sc__law_led.nd rfl (by first | exact .inl rfl | exact .inr rfl) (gs_cons (i := 10) sc__law_led.nd rfl (by first | exact .inl rfl | exact .inr rfl) (gs_cons (i := 11) sc__law_led.nd rfl (by first | exact .inl rfl | exact .inr rfl) gs_nil))))
          (ss_cons (s_set (i := 12) sc__law_led.nd rfl (by first | exact .inl rfl | exact .inr rfl) (e_call h__law_any (hr.mono (by decide)) rfl T.g__law_any T.F__law_any.kp T.b__law_any (a_cons (e_v 0) (a_cons (e_v 1) a_nil))))
          (ss_one (s_if (PW.pt (t_and (t_cmp op_lt b_lt (e_v 7) e_int (nomark _)) (t_and1 (t_cmp (op_notInA hu65) b_notin (e_v 12) (e_v 11) rfl))))
            (ss_one (s_store hu1 (e_call h__law_last (hr.mono (by decide)) rfl T.g__law_last T.F__law_last.kp T.b__law_last (a_cons (e_v 3) (a_cons (e_v 9) (a_cons (e_v 12) a_nil)))) (e_v 10) (e_v 12)))
            (ss_one (s_if (PW.pt (t_and (t_cmp (op_eqA hu64) b_eq (e_v 7) e_int (nomark _)) (t_and1 (t_cmp (op_notInA hu65) b_notin (e_v 12) (e_v 11) rfl))))
              (ss_one (s_expr (e_mt PySem.F.plainAttrs_list PySem.F.slot_list_append PySem.F.type_list_append mt_append m_append (e_v 11) (a_cons (e_v 12) a_nil))))
              (ss_one (s_if (t_cmp (op_eqA hu64) b_eq (e_v 7) e_int (nomark _))
                (ss_cons (s_expr (e_mt PySem.F.plainAttrs_list PySem.F.slot_list_pop PySem.F.type_list_pop mt_popAt m_popAt (e_v 5) (a_cons (e_v 8) a_nil)))
                (ss_cons (s_setLc true (i := 13) (own := [("one", 14)]) rfl sc__law_led.nd rfl rfl (sw_true rfl rfl rfl (by decide +kernel)) (i_seq (e_v 11)) (blkOk_by (N := ["pool", "names", "most", "done", "begins", "running", "turn", "kind", "place", "begin", "seen", "wrote", "key", "clash", "one"]) (sc := defScope s__law_led) (by decide +kernel)) (by decide) (fun _ _ _ _ _ => (g_one (i := 14) sc__law_led.nd rfl (by first | exact .inl rfl | exact .inr rfl))) (fun _ _ _ _ _ => (ts_one (t_cmp op_ge b_ge (e_call h__law_last (hr.mono (by decide)) rfl T.g__law_last T.F__law_last.kp T.b__law_last (a_cons (e_v 3) (a_cons (e_callB call_lenA c_len rfl T.n_len bb_len (a_cons (e_v 3) a_nil)) (a_cons (e_v 14) a_nil)))) (e_v 9) (nomark _)))) (fun _ _ _ _ _ => (e_v 14)))
                (ss_one (s_if (PW.pt (t_and (t_cmp (op_eqA hu64) b_eq (e_callB call_lenA c_len rfl T.n_len bb_len (a_cons (e_v 13) a_nil)) e_int (nomark _)) (t_and1 (t_cmp op_lt b_lt (e_callB call_lenA c_len rfl T.n_len bb_len (a_cons (e_v 3) a_nil)) e_int (nomark _)))))
                  (ss_cons (s_expr (e_mt PySem.F.plainAttrs_list PySem.F.slot_list_append PySem.F.type_list_append mt_append m_append (e_v 3) (a_cons (e_tup (a_cons (e_callTy call_tuple_of c_tuple rfl T.n_tuple bb_tuple (a_cons (e_sortIt true rfl hu64 rfl T.n_sorted bb_sorted (e_v 10)) a_nil)) (a_cons (e_callTy call_tuple_of c_tuple rfl T.n_tuple bb_tuple (a_cons (e_callB cr_sorted (c_sortI true) rfl T.n_sorted bb_sorted (a_cons (e_v 11) a_nil)) a_nil)) a_nil))) a_nil)))
                  (ss_one (s_expr (e_mt PySem.F.plainAttrs_list PySem.F.slot_list_append PySem.F.type_list_append mt_append m_append (e_v 4) (a_cons (e_v 9) a_nil)))))
                  ss_nil))))
                ss_nil)))))))))
          ss_nil))))))
    (ss_one (s_ret (e_tup (a_cons (e_callTy call_tuple_of c_tuple rfl T.n_tuple bb_tuple (a_cons (e_v 3) a_nil)) (a_cons (e_v 4) a_nil)))))))))

theorem dv_law {P : Program} {w : World} {K : PySem.W.Frag} {mg : Str → Option Value} {base : Heap} (T : Tx K mg) (h__law_any : FnOk P w K mg base CX0 2 T.a__law_any T.d__law_any ["pool", "things"] (spD K sp__law_any)) (h__law_draw : FnOk P w K mg base CX0 1 T.a__law_draw T.d__law_draw ["pool", "many"] (spD K sp__law_draw)) (h__law_led : FnOk P w K mg base CX0 3 T.a__law_led T.d__law_led ["pool", "names", "most"] (spD K sp__law_led)) (h__law_pool : FnOk P w K mg base CX0 1 T.a__law_pool T.d__law_pool ["script"] (spD K sp__law_pool)) (h_by_snapshots : FnOk P w K mg base CX0 7 T.a_by_snapshots T.d_by_snapshots ["history"] (spD K sp_by_snapshots)) (h_edges : FnOk P w K mg base CX0 7 T.a_edges T.d_edges ["history"] (spD K sp_edges)) (h_is_history : FnOk P w K mg base CX0 5 T.a_is_history T.d_is_history ["thing"] (spD K sp_is_history)) (h_moments : FnOk P w K mg base CX0 7 T.a_moments T.d_moments ["history"] (spD K sp_moments)) (h_one_order : FnOk P w K mg base CX0 7 T.a_one_order T.d_one_order ["history"] (spD K sp_one_order)) (h_ring : FnOk P w K mg base CX0 7 T.a_ring T.d_ring ["history"] (spD K sp_ring))
    (cdv : Value) (A : Around) (outer : List PySem.Env) (s : Shared) (H : Hp) (E : XK) (hr : Room 7 (A.deeper (envOfC "law" (defScope s_law) s.heap.objs.size T.a_law cdv))) :
    PSs (cxOf CX0 P w K mg base ["script", "pool", "turn", "names", "most", "told", "begins", "found", "k", "edge"] "law" (defScope s_law) T.a_law cdv A outer s H E).nox (defBody s_law) (upS K w_law) := by
  have hu64 := hr.units
  have hu65 := room65 hr
  have hu1 := hu_of hr
  exact
    (ss_cons (s_set (i := 1) sc_law.nd rfl (by first | exact .inl rfl | exact .inr rfl) (e_call h__law_pool (hr.mono (by decide)) rfl T.g__law_pool T.F__law_pool.kp T.b__law_pool (a_cons (e_v 0) a_nil)))
    (ss_cons (s_for PassesOwn.never rfl (i_rng1 rfl T.n_range e_int) (g_one (i := 2) sc_law.nd rfl (by first | exact .inl rfl | exact .inr rfl))
      (ss_cons (s_set (i := 3) sc_law.nd rfl (by first | exact .inl rfl | exact .inr rfl) (e_call h__law_any (hr.mono (by decide)) rfl T.g__law_any T.F__law_any.kp T.b__law_any (a_cons (e_v 1) (a_cons (e_lst true (a_cons (e_tup (a_cons e_int (a_cons e_int (a_cons e_int (a_cons e_int a_nil))))) (a_cons (e_tup (a_cons e_int (a_cons e_int a_nil))) (a_cons (e_tup (a_cons e_int a_nil)) (a_cons (e_tup (a_cons e_int (a_cons e_int (a_cons e_int a_nil)))) a_nil))))) a_nil))))
      (ss_cons (s_set (i := 4) sc_law.nd rfl (by first | exact .inl rfl | exact .inr rfl) (e_op op_addA b_add e_int (e_call h__law_draw (hr.mono (by decide)) rfl T.g__law_draw T.F__law_draw.kp T.b__law_draw (a_cons (e_v 1) (a_cons e_int a_nil)))))
      (ss_cons (s_unp (e_call h__law_led (hr.mono (by decide)) rfl T.g__law_led T.F__law_led.kp T.b__law_led (a_cons (e_v 1) (a_cons (e_v 3) (a_cons (e_v 4) a_nil)))) (g_tup rfl (gs_cons (i := 5) sc_law.nd rfl (by first | exact .inl rfl | exact .inr rfl) (gs_cons (i := 6) sc_law.nd rfl (by first | exact .inl rfl | exact .inr rfl) gs_nil))))
      (ss_cons (s_if (PW.pt (t_or (t_cmp op_isnotA b_isnot (e_call h_is_history (hr.mono (by decide)) rfl T.g_is_history T.F_is_history.kp T.b_is_history (a_cons (e_v 5) a_nil)) e_bl (nomark _)) (t_or1 (t_cmp op_isnotA b_isnot (e_call h_by_snapshots (hr.mono (by decide)) rfl T.g_by_snapshots T.F_by_snapshots.kp T.b_by_snapshots (a_cons (e_v 5) a_nil)) e_bl (nomark _)))))
        (ss_one (s_ret e_bl))
        ss_nil)
      (ss_cons (s_set (i := 7) sc_law.nd rfl (by first | exact .inl rfl | exact .inr rfl) (e_call h_moments (hr.mono (by decide)) rfl T.g_moments T.F_moments.kp T.b_moments (a_cons (e_v 5) a_nil)))
      (ss_cons (s_if (PW.pt (t_or (t_not (t_val (e_callB call_isi c_isi rfl T.n_isinstance bb_isinstance (a_cons (e_v 7) (a_cons (e_ty rfl T.n_tuple bb_tuple) a_nil))))) (t_or (t_cmp (op_neA hu64) b_ne (e_callB call_lenA c_len rfl T.n_len bb_len (a_cons (e_v 7) a_nil)) (e_callB call_lenA c_len rfl T.n_len bb_len (a_cons (e_v 5) a_nil)) (nomark _)) (t_or1 (t_cmp (op_inA hu65) b_in e_non (e_v 7) rfl)))))
        (ss_one (s_ret e_bl))
        ss_nil)
      (ss_cons (s_if (t_cmp op_gt b_gt (e_callB call_lenA c_len rfl T.n_len bb_len (a_cons (e_lc true (own := [("k", 8)]) rfl sc_law.nd  (i_rng1 rfl T.n_range (e_callB call_lenA c_len rfl T.n_len bb_len (a_cons (e_v 5) a_nil))) (blkOk_by (N := ["script", "pool", "turn", "names", "most", "told", "begins", "found", "k", "edge"]) (sc := defScope s_law) (by decide +kernel)) (by decide) (fun _ _ _ _ _ => (g_one (i := 8) sc_law.nd rfl (by first | exact .inl rfl | exact .inr rfl))) (fun _ _ _ _ _ => (ts_one (PW.pt (t_or (t_cmp op_lt b_lt (e_ix (ix_A hu1) b_ix (e_v 7) (e_v 8) (fun _ _ => rfl)) (e_ix (ix_A hu1) b_ix (e_v 6) (e_v 8) (fun _ _ => rfl)) (nomark _)) (t_or1 (t_cmp op_gt b_gt (e_ix (ix_A hu1) b_ix (e_v 7) (e_v 8) (fun _ _ => rfl)) (e_v 8) (nomark _))))))) (fun _ _ _ _ _ => (e_v 8))) a_nil)) e_int (nomark _))
        (ss_one (s_ret e_bl))
        ss_nil)
      (ss_one (s_if (t_cmp (op_eqA hu64) b_eq (e_v 4) e_int (nomark _))
        (ss_cons (s_if (PW.pt (t_or (t_cmp (op_neA hu64) b_ne (e_v 7) (e_tupRg rfl rfl T.n_tuple rfl T.n_range (e_callB call_lenA c_len rfl T.n_len bb_len (a_cons (e_v 5) a_nil))) (nomark _)) (t_or (t_cmp op_isnotA b_isnot (e_call h_ring (hr.mono (by decide)) rfl T.g_ring T.F_ring.kp T.b_ring (a_cons (e_v 5) a_nil)) e_non (nomark _)) (t_or1 (t_cmp op_isA b_is (e_call h_one_order (hr.mono (by decide)) rfl T.g_one_order T.F_one_order.kp T.b_one_order (a_cons (e_v 5) a_nil)) e_non (nomark _))))))
          (ss_one (s_ret e_bl))
          ss_nil)
        (ss_one (s_if (t_cmp op_gt b_gt (e_callB call_lenA c_len rfl T.n_len bb_len (a_cons (e_lc true (own := [("edge", 9)]) rfl sc_law.nd  (i_seq (e_call h_edges (hr.mono (by decide)) rfl T.g_edges T.F_edges.kp T.b_edges (a_cons (e_v 5) a_nil))) (blkOk_by (N := ["script", "pool", "turn", "names", "most", "told", "begins", "found", "k", "edge"]) (sc := defScope s_law) (by decide +kernel)) (by decide) (fun _ _ _ _ _ => (g_one (i := 9) sc_law.nd rfl (by first | exact .inl rfl | exact .inr rfl))) (fun _ _ _ _ _ => (ts_one (t_cmp op_gt b_gt (e_ix (ix_A hu1) b_ix (e_v 9) e_int (fun _ _ => rfl)) (e_ix (ix_A hu1) b_ix (e_v 9) e_int (fun _ _ => rfl)) (nomark _)))) (fun _ _ _ _ _ => (e_v 9))) a_nil)) e_int (nomark _))
          (ss_one (s_ret e_bl))
          ss_nil)))
        ss_nil))))))))))
    (ss_one (s_ret e_bl))))
section
variable {P : Program} {w : World} {K : PySem.W.Frag} {mg : Str → Option Value} {base : Heap}
theorem len_is_integer : SpOk sp_is_integer 1 := ⟨fun ds m k h => by
  cases h
  rfl⟩
theorem hw_is_integer : ∀ ds m k, sp_is_integer ds m k → w_is_integer (endsD k) (startE ["thing"] ds) m := fun ds m k h => by
  cases h with
  | mk h => rw [wv_is_integer]; exact h
theorem ok_is_integer (T : Tx K mg) : FnOk P w K mg base CX0 1 T.a_is_integer T.d_is_integer ["thing"] (spD K sp_is_integer) := ok_def T.F_is_integer sc_is_integer len_is_integer w_is_integer (fun cdv A outer s H E hr => dv_is_integer T  cdv A outer s H E hr) hw_is_integer
theorem len_is_between : SpOk sp_is_between 3 := ⟨fun ds m k h => by
  cases h
  rfl⟩
theorem hw_is_between : ∀ ds m k, sp_is_between ds m k → w_is_between (endsD k) (startE ["thing", "least", "most"] ds) m := fun ds m k h => by
  cases h with
  | mk h => rw [wv_is_between]; exact h
theorem ok_is_between (T : Tx K mg) : FnOk P w K mg base CX0 2 T.a_is_between T.d_is_between ["thing", "least", "most"] (spD K sp_is_between) := ok_def T.F_is_between sc_is_between len_is_between w_is_between (fun cdv A outer s H E hr => dv_is_between T (ok_is_integer T) cdv A outer s H E hr) hw_is_between
theorem len_are_writes : SpOk sp_are_writes 1 := ⟨fun ds m k h => by
  cases h
  rfl⟩
theorem hw_are_writes : ∀ ds m k, sp_are_writes ds m k → w_are_writes (endsD k) (startE ["thing", "key", "one", "other"] ds) m := fun ds m k h => by
  cases h with
  | mk h => rw [wv_are_writes]; exact h
theorem ok_are_writes (T : Tx K mg) : FnOk P w K mg base CX0 3 T.a_are_writes T.d_are_writes ["thing"] (spD K sp_are_writes) := ok_def T.F_are_writes sc_are_writes len_are_writes w_are_writes (fun cdv A outer s H E hr => dv_are_writes T (ok_is_between T) cdv A outer s H E hr) hw_are_writes
theorem len_is_read : SpOk sp_is_read 2 := ⟨fun ds m k h => by
  cases h
  rfl⟩
theorem hw_is_read : ∀ ds m k, sp_is_read ds m k → w_is_read (endsD k) (startE ["thing", "history"] ds) m := fun ds m k h => by
  cases h with
  | mk h => rw [wv_is_read]; exact h
theorem ok_is_read (T : Tx K mg) : FnOk P w K mg base CX0 3 T.a_is_read T.d_is_read ["thing", "history"] (spD K sp_is_read) := ok_def T.F_is_read sc_is_read len_is_read w_is_read (fun cdv A outer s H E hr => dv_is_read T (ok_is_between T) cdv A outer s H E hr) hw_is_read
theorem len_are_reads : SpOk sp_are_reads 3 := ⟨fun ds m k h => by
  cases h
  rfl⟩
theorem hw_are_reads : ∀ ds m k, sp_are_reads ds m k → w_are_reads (endsD k) (startE ["thing", "index", "history", "pair", "one", "other"] ds) m := fun ds m k h => by
  cases h with
  | mk h => rw [wv_are_reads]; exact h
theorem ok_are_reads (T : Tx K mg) : FnOk P w K mg base CX0 4 T.a_are_reads T.d_are_reads ["thing", "index", "history"] (spD K sp_are_reads) := ok_def T.F_are_reads sc_are_reads len_are_reads w_are_reads (fun cdv A outer s H E hr => dv_are_reads T (ok_is_read T) cdv A outer s H E hr) hw_are_reads
theorem len_is_history : SpOk sp_is_history 1 := ⟨fun ds m k h => by
  cases h
  rfl⟩
theorem hw_is_history : ∀ ds m k, sp_is_history ds m k → w_is_history (endsD k) (startE ["thing", "deal", "index"] ds) m := fun ds m k h => by
  cases h with
  | mk h => rw [wv_is_history]; exact h
theorem ok_is_history (T : Tx K mg) : FnOk P w K mg base CX0 5 T.a_is_history T.d_is_history ["thing"] (spD K sp_is_history) := ok_def T.F_is_history sc_is_history len_is_history w_is_history (fun cdv A outer s H E hr => dv_is_history T (ok_are_reads T) (ok_are_writes T) cdv A outer s H E hr) hw_is_history
theorem len_check_history : SpOk sp_check_history 1 := ⟨fun ds m k h => by
  cases h
  rfl⟩
theorem hw_check_history : ∀ ds m k, sp_check_history ds m k → w_check_history (endsD k) (startE ["thing"] ds) m := fun ds m k h => by
  cases h with
  | mk h => rw [wv_check_history]; exact h
theorem ok_check_history (T : Tx K mg) : FnOk P w K mg base CX0 6 T.a_check_history T.d_check_history ["thing"] (spD K sp_check_history) := ok_def T.F_check_history sc_check_history len_check_history w_check_history (fun cdv A outer s H E hr => dv_check_history T (ok_is_history T) cdv A outer s H E hr) hw_check_history
theorem len_writers : SpOk sp_writers 2 := ⟨fun ds m k h => by
  cases h
  rfl⟩
theorem hw_writers : ∀ ds m k, sp_writers ds m k → w_writers (endsD k) (startE ["history", "key", "index", "deal"] ds) m := fun ds m k h => by
  cases h with
  | mk h => rw [wv_writers]; exact h
theorem ok_writers (T : Tx K mg) : FnOk P w K mg base CX0 1 T.a_writers T.d_writers ["history", "key"] (spD K sp_writers) := ok_def T.F_writers sc_writers len_writers w_writers (fun cdv A outer s H E hr => dv_writers T  cdv A outer s H E hr) hw_writers
theorem len_next_writer : SpOk sp_next_writer 3 := ⟨fun ds m k h => by
  cases h
  rfl⟩
theorem hw_next_writer : ∀ ds m k, sp_next_writer ds m k → w_next_writer (endsD k) (startE ["history", "key", "last", "later", "index"] ds) m := fun ds m k h => by
  cases h with
  | mk h => rw [wv_next_writer]; exact h
theorem ok_next_writer (T : Tx K mg) : FnOk P w K mg base CX0 2 T.a_next_writer T.d_next_writer ["history", "key", "last"] (spD K sp_next_writer) := ok_def T.F_next_writer sc_next_writer len_next_writer w_next_writer (fun cdv A outer s H E hr => dv_next_writer T (ok_writers T) cdv A outer s H E hr) hw_next_writer
theorem len_edges_of : SpOk sp_edges_of 1 := ⟨fun ds m k h => by
  cases h
  rfl⟩
theorem hw_edges_of : ∀ ds m k, sp_edges_of ds m k → w_edges_of (endsD k) (startE ["history", "found", "index", "deal", "key", "other", "source", "behind"] ds) m := fun ds m k h => by
  cases h with
  | mk h => rw [wv_edges_of]; exact h
theorem ok_edges_of (T : Tx K mg) : FnOk P w K mg base CX0 3 T.a_edges_of T.d_edges_of ["history"] (spD K sp_edges_of) := ok_def T.F_edges_of sc_edges_of len_edges_of w_edges_of (fun cdv A outer s H E hr => dv_edges_of T (ok_next_writer T) (ok_writers T) cdv A outer s H E hr) hw_edges_of
theorem len_edges : SpOk sp_edges 1 := ⟨fun ds m k h => by
  cases h
  rfl⟩
theorem hw_edges : ∀ ds m k, sp_edges ds m k → w_edges (endsD k) (startE ["history"] ds) m := fun ds m k h => by
  cases h with
  | mk h => rw [wv_edges]; exact h
theorem ok_edges (T : Tx K mg) : FnOk P w K mg base CX0 7 T.a_edges T.d_edges ["history"] (spD K sp_edges) := ok_def T.F_edges sc_edges len_edges w_edges (fun cdv A outer s H E hr => dv_edges T (ok_check_history T) (ok_edges_of T) cdv A outer s H E hr) hw_edges
theorem len_webs : SpOk sp_webs 1 := ⟨fun ds m k h => by
  cases h
  rfl⟩
theorem hw_webs : ∀ ds m k, sp_webs ds m k → w_webs (endsD k) (startE ["history", "found", "_", "one", "other"] ds) m := fun ds m k h => by
  cases h with
  | mk h => rw [wv_webs]; exact h
theorem ok_webs (T : Tx K mg) : FnOk P w K mg base CX0 4 T.a_webs T.d_webs ["history"] (spD K sp_webs) := ok_def T.F_webs sc_webs len_webs w_webs (fun cdv A outer s H E hr => dv_webs T (ok_edges_of T) cdv A outer s H E hr) hw_webs
theorem len_order_of : SpOk sp_order_of 1 := ⟨fun ds m k h => by
  cases h
  rfl⟩
theorem hw_order_of : ∀ ds m k, sp_order_of ds m k → w_order_of (endsD k) (startE ["history", "web", "left", "found", "ready", "deal", "other"] ds) m := fun ds m k h => by
  cases h with
  | mk h => rw [wv_order_of]; exact h
theorem ok_order_of (T : Tx K mg) : FnOk P w K mg base CX0 5 T.a_order_of T.d_order_of ["history"] (spD K sp_order_of) := ok_def T.F_order_of sc_order_of len_order_of w_order_of (fun cdv A outer s H E hr => dv_order_of T (ok_webs T) cdv A outer s H E hr) hw_order_of
theorem len_one_order : SpOk sp_one_order 1 := ⟨fun ds m k h => by
  cases h
  rfl⟩
theorem hw_one_order : ∀ ds m k, sp_one_order ds m k → w_one_order (endsD k) (startE ["history", "found"] ds) m := fun ds m k h => by
  cases h with
  | mk h => rw [wv_one_order]; exact h
theorem ok_one_order (T : Tx K mg) : FnOk P w K mg base CX0 7 T.a_one_order T.d_one_order ["history"] (spD K sp_one_order) := ok_def T.F_one_order sc_one_order len_one_order w_one_order (fun cdv A outer s H E hr => dv_one_order T (ok_check_history T) (ok_order_of T) cdv A outer s H E hr) hw_one_order
theorem len_ring : SpOk sp_ring 1 := ⟨fun ds m k h => by
  cases h
  rfl⟩
theorem hw_ring : ∀ ds m k, sp_ring ds m k → w_ring (endsD k) (startE ["history", "web", "done", "left", "deal", "row", "found"] ds) m := fun ds m k h => by
  cases h with
  | mk h => rw [wv_ring]; exact h
theorem ok_ring (T : Tx K mg) : FnOk P w K mg base CX0 7 T.a_ring T.d_ring ["history"] (spD K sp_ring) := ok_def T.F_ring sc_ring len_ring w_ring (fun cdv A outer s H E hr => dv_ring T (ok_check_history T) (ok_order_of T) (ok_webs T) cdv A outer s H E hr) hw_ring
theorem len_suits : SpOk sp_suits 3 := ⟨fun ds m k h => by
  cases h
  rfl⟩
theorem hw_suits : ∀ ds m k, sp_suits ds m k → w_suits (endsD k) (startE ["history", "index", "moment", "reads", "writes", "key", "source", "ahead", "other", "between"] ds) m := fun ds m k h => by
  cases h with
  | mk h => rw [wv_suits]; exact h
theorem ok_suits (T : Tx K mg) : FnOk P w K mg base CX0 2 T.a_suits T.d_suits ["history", "index", "moment"] (spD K sp_suits) := ok_def T.F_suits sc_suits len_suits w_suits (fun cdv A outer s H E hr => dv_suits T (ok_writers T) cdv A outer s H E hr) hw_suits
theorem len_moment_of : SpOk sp_moment_of 2 := ⟨fun ds m k h => by
  cases h
  rfl⟩
theorem hw_moment_of : ∀ ds m k, sp_moment_of ds m k → w_moment_of (endsD k) (startE ["history", "index", "found", "moment"] ds) m := fun ds m k h => by
  cases h with
  | mk h => rw [wv_moment_of]; exact h
theorem ok_moment_of (T : Tx K mg) : FnOk P w K mg base CX0 3 T.a_moment_of T.d_moment_of ["history", "index"] (spD K sp_moment_of) := ok_def T.F_moment_of sc_moment_of len_moment_of w_moment_of (fun cdv A outer s H E hr => dv_moment_of T (ok_suits T) cdv A outer s H E hr) hw_moment_of
theorem len_moments : SpOk sp_moments 1 := ⟨fun ds m k h => by
  cases h
  rfl⟩
theorem hw_moments : ∀ ds m k, sp_moments ds m k → w_moments (endsD k) (startE ["history", "index"] ds) m := fun ds m k h => by
  cases h with
  | mk h => rw [wv_moments]; exact h
theorem ok_moments (T : Tx K mg) : FnOk P w K mg base CX0 7 T.a_moments T.d_moments ["history"] (spD K sp_moments) := ok_def T.F_moments sc_moments len_moments w_moments (fun cdv A outer s H E hr => dv_moments T (ok_check_history T) (ok_moment_of T) cdv A outer s H E hr) hw_moments
theorem len_by_snapshots : SpOk sp_by_snapshots 1 := ⟨fun ds m k h => by
  cases h
  rfl⟩
theorem hw_by_snapshots : ∀ ds m k, sp_by_snapshots ds m k → w_by_snapshots (endsD k) (startE ["history", "index"] ds) m := fun ds m k h => by
  cases h with
  | mk h => rw [wv_by_snapshots]; exact h
theorem ok_by_snapshots (T : Tx K mg) : FnOk P w K mg base CX0 7 T.a_by_snapshots T.d_by_snapshots ["history"] (spD K sp_by_snapshots) := ok_def T.F_by_snapshots sc_by_snapshots len_by_snapshots w_by_snapshots (fun cdv A outer s H E hr => dv_by_snapshots T (ok_check_history T) (ok_moment_of T) cdv A outer s H E hr) hw_by_snapshots
theorem len__law_pool : SpOk sp__law_pool 1 := ⟨fun ds m k h => by
  cases h
  rfl⟩
theorem hw__law_pool : ∀ ds m k, sp__law_pool ds m k → w__law_pool (endsD k) (startE ["script", "cell"] ds) m := fun ds m k h => by
  cases h with
  | mk h => rw [wv__law_pool]; exact h
theorem ok__law_pool (T : Tx K mg) : FnOk P w K mg base CX0 1 T.a__law_pool T.d__law_pool ["script"] (spD K sp__law_pool) := ok_def T.F__law_pool sc__law_pool len__law_pool w__law_pool (fun cdv A outer s H E hr => dv__law_pool T  cdv A outer s H E hr) hw__law_pool
theorem len__law_draw : SpOk sp__law_draw 2 := ⟨fun ds m k h => by
  cases h
  rfl⟩
theorem hw__law_draw : ∀ ds m k, sp__law_draw ds m k → w__law_draw (endsD k) (startE ["pool", "many", "cell", "digit", "mixed"] ds) m := fun ds m k h => by
  cases h with
  | mk h => rw [wv__law_draw]; exact h
theorem ok__law_draw (T : Tx K mg) : FnOk P w K mg base CX0 1 T.a__law_draw T.d__law_draw ["pool", "many"] (spD K sp__law_draw) := ok_def T.F__law_draw sc__law_draw len__law_draw w__law_draw (fun cdv A outer s H E hr => dv__law_draw T  cdv A outer s H E hr) hw__law_draw
theorem len__law_any : SpOk sp__law_any 2 := ⟨fun ds m k h => by
  cases h
  rfl⟩
theorem hw__law_any : ∀ ds m k, sp__law_any ds m k → w__law_any (endsD k) (startE ["pool", "things"] ds) m := fun ds m k h => by
  cases h with
  | mk h => rw [wv__law_any]; exact h
theorem ok__law_any (T : Tx K mg) : FnOk P w K mg base CX0 2 T.a__law_any T.d__law_any ["pool", "things"] (spD K sp__law_any) := ok_def T.F__law_any sc__law_any len__law_any w__law_any (fun cdv A outer s H E hr => dv__law_any T (ok__law_draw T) cdv A outer s H E hr) hw__law_any
theorem len__law_last : SpOk sp__law_last 3 := ⟨fun ds m k h => by
  cases h
  rfl⟩
theorem hw__law_last : ∀ ds m k, sp__law_last ds m k → w__law_last (endsD k) (startE ["told", "many", "key", "other"] ds) m := fun ds m k h => by
  cases h with
  | mk h => rw [wv__law_last]; exact h
theorem ok__law_last (T : Tx K mg) : FnOk P w K mg base CX0 1 T.a__law_last T.d__law_last ["told", "many", "key"] (spD K sp__law_last) := ok_def T.F__law_last sc__law_last len__law_last w__law_last (fun cdv A outer s H E hr => dv__law_last T  cdv A outer s H E hr) hw__law_last
theorem len__law_led : SpOk sp__law_led 3 := ⟨fun ds m k h => by
  cases h
  rfl⟩
theorem hw__law_led : ∀ ds m k, sp__law_led ds m k → w__law_led (endsD k) (startE ["pool", "names", "most", "done", "begins", "running", "turn", "kind", "place", "begin", "seen", "wrote", "key", "clash", "one"] ds) m := fun ds m k h => by
  cases h with
  | mk h => rw [wv__law_led]; exact h
theorem ok__law_led (T : Tx K mg) : FnOk P w K mg base CX0 3 T.a__law_led T.d__law_led ["pool", "names", "most"] (spD K sp__law_led) := ok_def T.F__law_led sc__law_led len__law_led w__law_led (fun cdv A outer s H E hr => dv__law_led T (ok__law_any T) (ok__law_draw T) (ok__law_last T) cdv A outer s H E hr) hw__law_led
theorem len_law : SpOk sp_law 1 := ⟨fun ds m k h => by
  cases h
  rfl⟩
theorem hw_law : ∀ ds m k, sp_law ds m k → w_law (endsD k) (startE ["script", "pool", "turn", "names", "most", "told", "begins", "found", "k", "edge"] ds) m := fun ds m k h => by
  cases h with
  | mk h => rw [wv_law]; exact h
theorem ok_law (T : Tx K mg) : FnOk P w K mg base CX0 8 T.a_law T.d_law ["script"] (spL K sp_law) := ok_lawS T.F_law sc_law w_law (fun cdv A outer s H E hr => dv_law T (ok__law_any T) (ok__law_draw T) (ok__law_led T) (ok__law_pool T) (ok_by_snapshots T) (ok_edges T) (ok_is_history T) (ok_moments T) (ok_one_order T) (ok_ring T) cdv A outer s H E hr) hw_law
end
theorem all_mk {l : PySem.W.OpenLaw} {w : World} {K : PySem.W.Frag} {h : Heap} {mg : Str → Option Value} {fa : Addr} (X : K.In h) (G : h.Ns mainGlobals mg) (hfa : mg "law" = some (.ref fa))
    {f0 : Addr} {od0 an0 : Option Addr} {sl0 : Array (Option Value)} {oc0 kV0 dc0 pm0 cd0 ct0 : Value}
    (a0 : PySem.W.nsIn K mainGlobals "is_integer" = some (some (.ref f0))) (l0 : K.lookup f0 = some ⟨oc0, od0, .func (PySem.W.fnOf "is_integer" "is_integer" (defArgs s_is_integer) (defBody s_is_integer) (defScope s_is_integer) .none kV0 dc0 pm0 an0 cd0 ct0), sl0⟩) (c0 : PySem.W.codeIn K cd0 "is_integer" = true) (k0 : PySem.W.keepIn K (.ref f0) = true)
    {f1 : Addr} {od1 an1 : Option Addr} {sl1 : Array (Option Value)} {oc1 kV1 dc1 pm1 cd1 ct1 : Value}
    (a1 : PySem.W.nsIn K mainGlobals "is_between" = some (some (.ref f1))) (l1 : K.lookup f1 = some ⟨oc1, od1, .func (PySem.W.fnOf "is_between" "is_between" (defArgs s_is_between) (defBody s_is_between) (defScope s_is_between) .none kV1 dc1 pm1 an1 cd1 ct1), sl1⟩) (c1 : PySem.W.codeIn K cd1 "is_between" = true) (k1 : PySem.W.keepIn K (.ref f1) = true)
    {f2 : Addr} {od2 an2 : Option Addr} {sl2 : Array (Option Value)} {oc2 kV2 dc2 pm2 cd2 ct2 : Value}
    (a2 : PySem.W.nsIn K mainGlobals "are_writes" = some (some (.ref f2))) (l2 : K.lookup f2 = some ⟨oc2, od2, .func (PySem.W.fnOf "are_writes" "are_writes" (defArgs s_are_writes) (defBody s_are_writes) (defScope s_are_writes) .none kV2 dc2 pm2 an2 cd2 ct2), sl2⟩) (c2 : PySem.W.codeIn K cd2 "are_writes" = true) (k2 : PySem.W.keepIn K (.ref f2) = true)
    {f3 : Addr} {od3 an3 : Option Addr} {sl3 : Array (Option Value)} {oc3 kV3 dc3 pm3 cd3 ct3 : Value}
    (a3 : PySem.W.nsIn K mainGlobals "is_read" = some (some (.ref f3))) (l3 : K.lookup f3 = some ⟨oc3, od3, .func (PySem.W.fnOf "is_read" "is_read" (defArgs s_is_read) (defBody s_is_read) (defScope s_is_read) .none kV3 dc3 pm3 an3 cd3 ct3), sl3⟩) (c3 : PySem.W.codeIn K cd3 "is_read" = true) (k3 : PySem.W.keepIn K (.ref f3) = true)
    {f4 : Addr} {od4 an4 : Option Addr} {sl4 : Array (Option Value)} {oc4 kV4 dc4 pm4 cd4 ct4 : Value}
    (a4 : PySem.W.nsIn K mainGlobals "are_reads" = some (some (.ref f4))) (l4 : K.lookup f4 = some ⟨oc4, od4, .func (PySem.W.fnOf "are_reads" "are_reads" (defArgs s_are_reads) (defBody s_are_reads) (defScope s_are_reads) .none kV4 dc4 pm4 an4 cd4 ct4), sl4⟩) (c4 : PySem.W.codeIn K cd4 "are_reads" = true) (k4 : PySem.W.keepIn K (.ref f4) = true)
    {f5 : Addr} {od5 an5 : Option Addr} {sl5 : Array (Option Value)} {oc5 kV5 dc5 pm5 cd5 ct5 : Value}
    (a5 : PySem.W.nsIn K mainGlobals "is_history" = some (some (.ref f5))) (l5 : K.lookup f5 = some ⟨oc5, od5, .func (PySem.W.fnOf "is_history" "is_history" (defArgs s_is_history) (defBody s_is_history) (defScope s_is_history) .none kV5 dc5 pm5 an5 cd5 ct5), sl5⟩) (c5 : PySem.W.codeIn K cd5 "is_history" = true) (k5 : PySem.W.keepIn K (.ref f5) = true)
    {f6 : Addr} {od6 an6 : Option Addr} {sl6 : Array (Option Value)} {oc6 kV6 dc6 pm6 cd6 ct6 : Value}
    (a6 : PySem.W.nsIn K mainGlobals "check_history" = some (some (.ref f6))) (l6 : K.lookup f6 = some ⟨oc6, od6, .func (PySem.W.fnOf "check_history" "check_history" (defArgs s_check_history) (defBody s_check_history) (defScope s_check_history) .none kV6 dc6 pm6 an6 cd6 ct6), sl6⟩) (c6 : PySem.W.codeIn K cd6 "check_history" = true) (k6 : PySem.W.keepIn K (.ref f6) = true)
    {f7 : Addr} {od7 an7 : Option Addr} {sl7 : Array (Option Value)} {oc7 kV7 dc7 pm7 cd7 ct7 : Value}
    (a7 : PySem.W.nsIn K mainGlobals "writers" = some (some (.ref f7))) (l7 : K.lookup f7 = some ⟨oc7, od7, .func (PySem.W.fnOf "writers" "writers" (defArgs s_writers) (defBody s_writers) (defScope s_writers) .none kV7 dc7 pm7 an7 cd7 ct7), sl7⟩) (c7 : PySem.W.codeIn K cd7 "writers" = true) (k7 : PySem.W.keepIn K (.ref f7) = true)
    {f8 : Addr} {od8 an8 : Option Addr} {sl8 : Array (Option Value)} {oc8 kV8 dc8 pm8 cd8 ct8 : Value}
    (a8 : PySem.W.nsIn K mainGlobals "next_writer" = some (some (.ref f8))) (l8 : K.lookup f8 = some ⟨oc8, od8, .func (PySem.W.fnOf "next_writer" "next_writer" (defArgs s_next_writer) (defBody s_next_writer) (defScope s_next_writer) .none kV8 dc8 pm8 an8 cd8 ct8), sl8⟩) (c8 : PySem.W.codeIn K cd8 "next_writer" = true) (k8 : PySem.W.keepIn K (.ref f8) = true)
    {f9 : Addr} {od9 an9 : Option Addr} {sl9 : Array (Option Value)} {oc9 kV9 dc9 pm9 cd9 ct9 : Value}
    (a9 : PySem.W.nsIn K mainGlobals "edges_of" = some (some (.ref f9))) (l9 : K.lookup f9 = some ⟨oc9, od9, .func (PySem.W.fnOf "edges_of" "edges_of" (defArgs s_edges_of) (defBody s_edges_of) (defScope s_edges_of) .none kV9 dc9 pm9 an9 cd9 ct9), sl9⟩) (c9 : PySem.W.codeIn K cd9 "edges_of" = true) (k9 : PySem.W.keepIn K (.ref f9) = true)
    {f10 : Addr} {od10 an10 : Option Addr} {sl10 : Array (Option Value)} {oc10 kV10 dc10 pm10 cd10 ct10 : Value}
    (a10 : PySem.W.nsIn K mainGlobals "edges" = some (some (.ref f10))) (l10 : K.lookup f10 = some ⟨oc10, od10, .func (PySem.W.fnOf "edges" "edges" (defArgs s_edges) (defBody s_edges) (defScope s_edges) .none kV10 dc10 pm10 an10 cd10 ct10), sl10⟩) (c10 : PySem.W.codeIn K cd10 "edges" = true) (k10 : PySem.W.keepIn K (.ref f10) = true)
    {f11 : Addr} {od11 an11 : Option Addr} {sl11 : Array (Option Value)} {oc11 kV11 dc11 pm11 cd11 ct11 : Value}
    (a11 : PySem.W.nsIn K mainGlobals "webs" = some (some (.ref f11))) (l11 : K.lookup f11 = some ⟨oc11, od11, .func (PySem.W.fnOf "webs" "webs" (defArgs s_webs) (defBody s_webs) (defScope s_webs) .none kV11 dc11 pm11 an11 cd11 ct11), sl11⟩) (c11 : PySem.W.codeIn K cd11 "webs" = true) (k11 : PySem.W.keepIn K (.ref f11) = true)
    {f12 : Addr} {od12 an12 : Option Addr} {sl12 : Array (Option Value)} {oc12 kV12 dc12 pm12 cd12 ct12 : Value}
    (a12 : PySem.W.nsIn K mainGlobals "order_of" = some (some (.ref f12))) (l12 : K.lookup f12 = some ⟨oc12, od12, .func (PySem.W.fnOf "order_of" "order_of" (defArgs s_order_of) (defBody s_order_of) (defScope s_order_of) .none kV12 dc12 pm12 an12 cd12 ct12), sl12⟩) (c12 : PySem.W.codeIn K cd12 "order_of" = true) (k12 : PySem.W.keepIn K (.ref f12) = true)
    {f13 : Addr} {od13 an13 : Option Addr} {sl13 : Array (Option Value)} {oc13 kV13 dc13 pm13 cd13 ct13 : Value}
    (a13 : PySem.W.nsIn K mainGlobals "one_order" = some (some (.ref f13))) (l13 : K.lookup f13 = some ⟨oc13, od13, .func (PySem.W.fnOf "one_order" "one_order" (defArgs s_one_order) (defBody s_one_order) (defScope s_one_order) .none kV13 dc13 pm13 an13 cd13 ct13), sl13⟩) (c13 : PySem.W.codeIn K cd13 "one_order" = true) (k13 : PySem.W.keepIn K (.ref f13) = true)
    {f14 : Addr} {od14 an14 : Option Addr} {sl14 : Array (Option Value)} {oc14 kV14 dc14 pm14 cd14 ct14 : Value}
    (a14 : PySem.W.nsIn K mainGlobals "ring" = some (some (.ref f14))) (l14 : K.lookup f14 = some ⟨oc14, od14, .func (PySem.W.fnOf "ring" "ring" (defArgs s_ring) (defBody s_ring) (defScope s_ring) .none kV14 dc14 pm14 an14 cd14 ct14), sl14⟩) (c14 : PySem.W.codeIn K cd14 "ring" = true) (k14 : PySem.W.keepIn K (.ref f14) = true)
    {f15 : Addr} {od15 an15 : Option Addr} {sl15 : Array (Option Value)} {oc15 kV15 dc15 pm15 cd15 ct15 : Value}
    (a15 : PySem.W.nsIn K mainGlobals "suits" = some (some (.ref f15))) (l15 : K.lookup f15 = some ⟨oc15, od15, .func (PySem.W.fnOf "suits" "suits" (defArgs s_suits) (defBody s_suits) (defScope s_suits) .none kV15 dc15 pm15 an15 cd15 ct15), sl15⟩) (c15 : PySem.W.codeIn K cd15 "suits" = true) (k15 : PySem.W.keepIn K (.ref f15) = true)
    {f16 : Addr} {od16 an16 : Option Addr} {sl16 : Array (Option Value)} {oc16 kV16 dc16 pm16 cd16 ct16 : Value}
    (a16 : PySem.W.nsIn K mainGlobals "moment_of" = some (some (.ref f16))) (l16 : K.lookup f16 = some ⟨oc16, od16, .func (PySem.W.fnOf "moment_of" "moment_of" (defArgs s_moment_of) (defBody s_moment_of) (defScope s_moment_of) .none kV16 dc16 pm16 an16 cd16 ct16), sl16⟩) (c16 : PySem.W.codeIn K cd16 "moment_of" = true) (k16 : PySem.W.keepIn K (.ref f16) = true)
    {f17 : Addr} {od17 an17 : Option Addr} {sl17 : Array (Option Value)} {oc17 kV17 dc17 pm17 cd17 ct17 : Value}
    (a17 : PySem.W.nsIn K mainGlobals "moments" = some (some (.ref f17))) (l17 : K.lookup f17 = some ⟨oc17, od17, .func (PySem.W.fnOf "moments" "moments" (defArgs s_moments) (defBody s_moments) (defScope s_moments) .none kV17 dc17 pm17 an17 cd17 ct17), sl17⟩) (c17 : PySem.W.codeIn K cd17 "moments" = true) (k17 : PySem.W.keepIn K (.ref f17) = true)
    {f18 : Addr} {od18 an18 : Option Addr} {sl18 : Array (Option Value)} {oc18 kV18 dc18 pm18 cd18 ct18 : Value}
    (a18 : PySem.W.nsIn K mainGlobals "by_snapshots" = some (some (.ref f18))) (l18 : K.lookup f18 = some ⟨oc18, od18, .func (PySem.W.fnOf "by_snapshots" "by_snapshots" (defArgs s_by_snapshots) (defBody s_by_snapshots) (defScope s_by_snapshots) .none kV18 dc18 pm18 an18 cd18 ct18), sl18⟩) (c18 : PySem.W.codeIn K cd18 "by_snapshots" = true) (k18 : PySem.W.keepIn K (.ref f18) = true)
    {f19 : Addr} {od19 an19 : Option Addr} {sl19 : Array (Option Value)} {oc19 kV19 dc19 pm19 cd19 ct19 : Value}
    (a19 : PySem.W.nsIn K mainGlobals "_law_pool" = some (some (.ref f19))) (l19 : K.lookup f19 = some ⟨oc19, od19, .func (PySem.W.fnOf "_law_pool" "_law_pool" (defArgs s__law_pool) (defBody s__law_pool) (defScope s__law_pool) .none kV19 dc19 pm19 an19 cd19 ct19), sl19⟩) (c19 : PySem.W.codeIn K cd19 "_law_pool" = true) (k19 : PySem.W.keepIn K (.ref f19) = true)
    {f20 : Addr} {od20 an20 : Option Addr} {sl20 : Array (Option Value)} {oc20 kV20 dc20 pm20 cd20 ct20 : Value}
    (a20 : PySem.W.nsIn K mainGlobals "_law_draw" = some (some (.ref f20))) (l20 : K.lookup f20 = some ⟨oc20, od20, .func (PySem.W.fnOf "_law_draw" "_law_draw" (defArgs s__law_draw) (defBody s__law_draw) (defScope s__law_draw) .none kV20 dc20 pm20 an20 cd20 ct20), sl20⟩) (c20 : PySem.W.codeIn K cd20 "_law_draw" = true) (k20 : PySem.W.keepIn K (.ref f20) = true)
    {f21 : Addr} {od21 an21 : Option Addr} {sl21 : Array (Option Value)} {oc21 kV21 dc21 pm21 cd21 ct21 : Value}
    (a21 : PySem.W.nsIn K mainGlobals "_law_any" = some (some (.ref f21))) (l21 : K.lookup f21 = some ⟨oc21, od21, .func (PySem.W.fnOf "_law_any" "_law_any" (defArgs s__law_any) (defBody s__law_any) (defScope s__law_any) .none kV21 dc21 pm21 an21 cd21 ct21), sl21⟩) (c21 : PySem.W.codeIn K cd21 "_law_any" = true) (k21 : PySem.W.keepIn K (.ref f21) = true)
    {f22 : Addr} {od22 an22 : Option Addr} {sl22 : Array (Option Value)} {oc22 kV22 dc22 pm22 cd22 ct22 : Value}
    (a22 : PySem.W.nsIn K mainGlobals "_law_last" = some (some (.ref f22))) (l22 : K.lookup f22 = some ⟨oc22, od22, .func (PySem.W.fnOf "_law_last" "_law_last" (defArgs s__law_last) (defBody s__law_last) (defScope s__law_last) .none kV22 dc22 pm22 an22 cd22 ct22), sl22⟩) (c22 : PySem.W.codeIn K cd22 "_law_last" = true) (k22 : PySem.W.keepIn K (.ref f22) = true)
    {f23 : Addr} {od23 an23 : Option Addr} {sl23 : Array (Option Value)} {oc23 kV23 dc23 pm23 cd23 ct23 : Value}
    (a23 : PySem.W.nsIn K mainGlobals "_law_led" = some (some (.ref f23))) (l23 : K.lookup f23 = some ⟨oc23, od23, .func (PySem.W.fnOf "_law_led" "_law_led" (defArgs s__law_led) (defBody s__law_led) (defScope s__law_led) .none kV23 dc23 pm23 an23 cd23 ct23), sl23⟩) (c23 : PySem.W.codeIn K cd23 "_law_led" = true) (k23 : PySem.W.keepIn K (.ref f23) = true)
    {f24 : Addr} {od24 an24 : Option Addr} {sl24 : Array (Option Value)} {oc24 kV24 dc24 pm24 cd24 ct24 : Value}
    (a24 : PySem.W.nsIn K mainGlobals "law" = some (some (.ref f24))) (l24 : K.lookup f24 = some ⟨oc24, od24, .func (PySem.W.fnOf "law" "law" (defArgs s_law) (defBody s_law) (defScope s_law) .none kV24 dc24 pm24 an24 cd24 ct24), sl24⟩) (c24 : PySem.W.codeIn K cd24 "law" = true) (k24 : PySem.W.keepIn K (.ref f24) = true)
    (n_abs : PySem.W.nsIn K mainGlobals "abs" = some none)
    (n_all : PySem.W.nsIn K mainGlobals "all" = some none)
    (n_any : PySem.W.nsIn K mainGlobals "any" = some none)
    (n_bool : PySem.W.nsIn K mainGlobals "bool" = some none)
    (n_enumerate : PySem.W.nsIn K mainGlobals "enumerate" = some none)
    (n_int : PySem.W.nsIn K mainGlobals "int" = some none)
    (n_isinstance : PySem.W.nsIn K mainGlobals "isinstance" = some none)
    (n_len : PySem.W.nsIn K mainGlobals "len" = some none)
    (n_list : PySem.W.nsIn K mainGlobals "list" = some none)
    (n_max : PySem.W.nsIn K mainGlobals "max" = some none)
    (n_range : PySem.W.nsIn K mainGlobals "range" = some none)
    (n_sorted : PySem.W.nsIn K mainGlobals "sorted" = some none)
    (n_tuple : PySem.W.nsIn K mainGlobals "tuple" = some none)
    (n_zip : PySem.W.nsIn K mainGlobals "zip" = some none)
    {t_MOST_DEALS : Tok} (c_MOST_DEALS : PySem.W.nsIn K mainGlobals "MOST_DEALS" = some (some (.int 12 t_MOST_DEALS)))
    {t_MOST_KEY : Tok} (c_MOST_KEY : PySem.W.nsIn K mainGlobals "MOST_KEY" = some (some (.int 99 t_MOST_KEY)))
    : ∃ fd : FuncData, (∀ (s : Shared) (v : Value), BindsTo s fd ⟨[v], []⟩ [("script", v)]) ∧ ∀ base : Heap, K.In base → base.Ns mainGlobals mg → FnOk l.prog w K mg base CX0 8 fa fd ["script"] (spL K sp_law) := by
  have e := (PySem.W.mg_of X G a24).symm.trans hfa
  cases e
  have F0 := fun_mk (st := s_is_integer) l0 c0 k0
  have b0 := F0.binds (ps := ["thing"]) fun _ _ _ _ _ _ us hl => match us, hl with | [_], _ => rfl
  have F1 := fun_mk (st := s_is_between) l1 c1 k1
  have b1 := F1.binds (ps := ["thing", "least", "most"]) fun _ _ _ _ _ _ us hl => match us, hl with | [_, _, _], _ => rfl
  have F2 := fun_mk (st := s_are_writes) l2 c2 k2
  have b2 := F2.binds (ps := ["thing"]) fun _ _ _ _ _ _ us hl => match us, hl with | [_], _ => rfl
  have F3 := fun_mk (st := s_is_read) l3 c3 k3
  have b3 := F3.binds (ps := ["thing", "history"]) fun _ _ _ _ _ _ us hl => match us, hl with | [_, _], _ => rfl
  have F4 := fun_mk (st := s_are_reads) l4 c4 k4
  have b4 := F4.binds (ps := ["thing", "index", "history"]) fun _ _ _ _ _ _ us hl => match us, hl with | [_, _, _], _ => rfl
  have F5 := fun_mk (st := s_is_history) l5 c5 k5
  have b5 := F5.binds (ps := ["thing"]) fun _ _ _ _ _ _ us hl => match us, hl with | [_], _ => rfl
  have F6 := fun_mk (st := s_check_history) l6 c6 k6
  have b6 := F6.binds (ps := ["thing"]) fun _ _ _ _ _ _ us hl => match us, hl with | [_], _ => rfl
  have F7 := fun_mk (st := s_writers) l7 c7 k7
  have b7 := F7.binds (ps := ["history", "key"]) fun _ _ _ _ _ _ us hl => match us, hl with | [_, _], _ => rfl
  have F8 := fun_mk (st := s_next_writer) l8 c8 k8
  have b8 := F8.binds (ps := ["history", "key", "last"]) fun _ _ _ _ _ _ us hl => match us, hl with | [_, _, _], _ => rfl
  have F9 := fun_mk (st := s_edges_of) l9 c9 k9
  have b9 := F9.binds (ps := ["history"]) fun _ _ _ _ _ _ us hl => match us, hl with | [_], _ => rfl
  have F10 := fun_mk (st := s_edges) l10 c10 k10
  have b10 := F10.binds (ps := ["history"]) fun _ _ _ _ _ _ us hl => match us, hl with | [_], _ => rfl
  have F11 := fun_mk (st := s_webs) l11 c11 k11
  have b11 := F11.binds (ps := ["history"]) fun _ _ _ _ _ _ us hl => match us, hl with | [_], _ => rfl
  have F12 := fun_mk (st := s_order_of) l12 c12 k12
  have b12 := F12.binds (ps := ["history"]) fun _ _ _ _ _ _ us hl => match us, hl with | [_], _ => rfl
  have F13 := fun_mk (st := s_one_order) l13 c13 k13
  have b13 := F13.binds (ps := ["history"]) fun _ _ _ _ _ _ us hl => match us, hl with | [_], _ => rfl
  have F14 := fun_mk (st := s_ring) l14 c14 k14
  have b14 := F14.binds (ps := ["history"]) fun _ _ _ _ _ _ us hl => match us, hl with | [_], _ => rfl
  have F15 := fun_mk (st := s_suits) l15 c15 k15
  have b15 := F15.binds (ps := ["history", "index", "moment"]) fun _ _ _ _ _ _ us hl => match us, hl with | [_, _, _], _ => rfl
  have F16 := fun_mk (st := s_moment_of) l16 c16 k16
  have b16 := F16.binds (ps := ["history", "index"]) fun _ _ _ _ _ _ us hl => match us, hl with | [_, _], _ => rfl
  have F17 := fun_mk (st := s_moments) l17 c17 k17
  have b17 := F17.binds (ps := ["history"]) fun _ _ _ _ _ _ us hl => match us, hl with | [_], _ => rfl
  have F18 := fun_mk (st := s_by_snapshots) l18 c18 k18
  have b18 := F18.binds (ps := ["history"]) fun _ _ _ _ _ _ us hl => match us, hl with | [_], _ => rfl
  have F19 := fun_mk (st := s__law_pool) l19 c19 k19
  have b19 := F19.binds (ps := ["script"]) fun _ _ _ _ _ _ us hl => match us, hl with | [_], _ => rfl
  have F20 := fun_mk (st := s__law_draw) l20 c20 k20
  have b20 := F20.binds (ps := ["pool", "many"]) fun _ _ _ _ _ _ us hl => match us, hl with | [_, _], _ => rfl
  have F21 := fun_mk (st := s__law_any) l21 c21 k21
  have b21 := F21.binds (ps := ["pool", "things"]) fun _ _ _ _ _ _ us hl => match us, hl with | [_, _], _ => rfl
  have F22 := fun_mk (st := s__law_last) l22 c22 k22
  have b22 := F22.binds (ps := ["told", "many", "key"]) fun _ _ _ _ _ _ us hl => match us, hl with | [_, _, _], _ => rfl
  have F23 := fun_mk (st := s__law_led) l23 c23 k23
  have b23 := F23.binds (ps := ["pool", "names", "most"]) fun _ _ _ _ _ _ us hl => match us, hl with | [_, _, _], _ => rfl
  have F24 := fun_mk (st := s_law) l24 c24 k24
  have b24 := F24.binds (ps := ["script"]) fun _ _ _ _ _ _ us hl => match us, hl with | [_], _ => rfl
  let T : Tx K mg := ⟨f0, _, F0, PySem.W.mg_of X G a0, b0, f1, _, F1, PySem.W.mg_of X G a1, b1, f2, _, F2, PySem.W.mg_of X G a2, b2, f3, _, F3, PySem.W.mg_of X G a3, b3, f4, _, F4, PySem.W.mg_of X G a4, b4, f5, _, F5, PySem.W.mg_of X G a5, b5, f6, _, F6, PySem.W.mg_of X G a6, b6, f7, _, F7, PySem.W.mg_of X G a7, b7, f8, _, F8, PySem.W.mg_of X G a8, b8, f9, _, F9, PySem.W.mg_of X G a9, b9, f10, _, F10, PySem.W.mg_of X G a10, b10, f11, _, F11, PySem.W.mg_of X G a11, b11, f12, _, F12, PySem.W.mg_of X G a12, b12, f13, _, F13, PySem.W.mg_of X G a13, b13, f14, _, F14, PySem.W.mg_of X G a14, b14, f15, _, F15, PySem.W.mg_of X G a15, b15, f16, _, F16, PySem.W.mg_of X G a16, b16, f17, _, F17, PySem.W.mg_of X G a17, b17, f18, _, F18, PySem.W.mg_of X G a18, b18, f19, _, F19, PySem.W.mg_of X G a19, b19, f20, _, F20, PySem.W.mg_of X G a20, b20, f21, _, F21, PySem.W.mg_of X G a21, b21, f22, _, F22, PySem.W.mg_of X G a22, b22, f23, _, F23, PySem.W.mg_of X G a23, b23, fa, _, F24, PySem.W.mg_of X G a24, b24, PySem.W.mg_none_of X G n_abs, PySem.W.mg_none_of X G n_all, PySem.W.mg_none_of X G n_any, PySem.W.mg_none_of X G n_bool, PySem.W.mg_none_of X G n_enumerate, PySem.W.mg_none_of X G n_int, PySem.W.mg_none_of X G n_isinstance, PySem.W.mg_none_of X G n_len, PySem.W.mg_none_of X G n_list, PySem.W.mg_none_of X G n_max, PySem.W.mg_none_of X G n_range, PySem.W.mg_none_of X G n_sorted, PySem.W.mg_none_of X G n_tuple, PySem.W.mg_none_of X G n_zip, ⟨t_MOST_DEALS, PySem.W.mg_of X G c_MOST_DEALS⟩, ⟨t_MOST_KEY, PySem.W.mg_of X G c_MOST_KEY⟩⟩
  exact ⟨PySem.W.fnOf "law" "law" (defArgs s_law) (defBody s_law) (defScope s_law) .none kV24 dc24 pm24 an24 cd24 ct24, fun s v => .of_eq rfl, fun base _ _ => ok_law T⟩
end T
set_option maxHeartbeats 0 in
open PySem PySem.W PyProof.Rows in
theorem PySem.Challenge.cw_tornsectors_k89_whole_histories_that_dea_holds : PySem.Challenge.rw_tornsectors_k89_whole_histories_that_dea.Holds := by
  w_on; o_law; k_head; (case hw => w_witness2)
  k_fill
  refine L2.walk_of (l := PySem.Challenge.rw_tornsectors_k89_whole_histories_that_dea) (n := 63) (k := 8) (x := "script") (CX := fun _ => L2.CX0) (sp := fun w => T.spL _ T.sp_law) rfl (by decide) rfl ⟨rfl, by decide, by decide⟩ (fun w h Y => PySem.W.kIn_of Y) ?F (fun w H a ns hl hO hS => T.hsp_of T.law_true _ H a ns hl hO hS) (fun _ _ _ _ _ h => h)
  case F =>
    intro w mg fa h KX G hmg
    refine' T.all_mk KX G hmg ?a0 ?l0 ?c0 ?k0 ?a1 ?l1 ?c1 ?k1 ?a2 ?l2 ?c2 ?k2 ?a3 ?l3 ?c3 ?k3 ?a4 ?l4 ?c4 ?k4 ?a5 ?l5 ?c5 ?k5 ?a6 ?l6 ?c6 ?k6 ?a7 ?l7 ?c7 ?k7 ?a8 ?l8 ?c8 ?k8 ?a9 ?l9 ?c9 ?k9 ?a10 ?l10 ?c10 ?k10 ?a11 ?l11 ?c11 ?k11 ?a12 ?l12 ?c12 ?k12 ?a13 ?l13 ?c13 ?k13 ?a14 ?l14 ?c14 ?k14 ?a15 ?l15 ?c15 ?k15 ?a16 ?l16 ?c16 ?k16 ?a17 ?l17 ?c17 ?k17 ?a18 ?l18 ?c18 ?k18 ?a19 ?l19 ?c19 ?k19 ?a20 ?l20 ?c20 ?k20 ?a21 ?l21 ?c21 ?k21 ?a22 ?l22 ?c22 ?k22 ?a23 ?l23 ?c23 ?k23 ?a24 ?l24 ?c24 ?k24 ?n_abs ?n_all ?n_any ?n_bool ?n_enumerate ?n_int ?n_isinstance ?n_len ?n_list ?n_max ?n_range ?n_sorted ?n_tuple ?n_zip ?c_MOST_DEALS ?c_MOST_KEY
    (case a0 => k_is); (case l0 => k_is); (case c0 => k_is); (case k0 => k_is); (case a1 => k_is); (case l1 => k_is); (case c1 => k_is); (case k1 => k_is); (case a2 => k_is); (case l2 => k_is); (case c2 => k_is); (case k2 => k_is); (case a3 => k_is); (case l3 => k_is); (case c3 => k_is); (case k3 => k_is); (case a4 => k_is); (case l4 => k_is); (case c4 => k_is); (case k4 => k_is); (case a5 => k_is); (case l5 => k_is); (case c5 => k_is); (case k5 => k_is); (case a6 => k_is); (case l6 => k_is); (case c6 => k_is); (case k6 => k_is); (case a7 => k_is); (case l7 => k_is); (case c7 => k_is); (case k7 => k_is); (case a8 => k_is); (case l8 => k_is); (case c8 => k_is); (case k8 => k_is); (case a9 => k_is); (case l9 => k_is); (case c9 => k_is); (case k9 => k_is); (case a10 => k_is); (case l10 => k_is); (case c10 => k_is); (case k10 => k_is); (case a11 => k_is); (case l11 => k_is); (case c11 => k_is); (case k11 => k_is); (case a12 => k_is); (case l12 => k_is); (case c12 => k_is); (case k12 => k_is); (case a13 => k_is); (case l13 => k_is); (case c13 => k_is); (case k13 => k_is); (case a14 => k_is); (case l14 => k_is); (case c14 => k_is); (case k14 => k_is); (case a15 => k_is); (case l15 => k_is); (case c15 => k_is); (case k15 => k_is); (case a16 => k_is); (case l16 => k_is); (case c16 => k_is); (case k16 => k_is); (case a17 => k_is); (case l17 => k_is); (case c17 => k_is); (case k17 => k_is); (case a18 => k_is); (case l18 => k_is); (case c18 => k_is); (case k18 => k_is); (case a19 => k_is); (case l19 => k_is); (case c19 => k_is); (case k19 => k_is); (case a20 => k_is); (case l20 => k_is); (case c20 => k_is); (case k20 => k_is); (case a21 => k_is); (case l21 => k_is); (case c21 => k_is); (case k21 => k_is); (case a22 => k_is); (case l22 => k_is); (case c22 => k_is); (case k22 => k_is); (case a23 => k_is); (case l23 => k_is); (case c23 => k_is); (case k23 => k_is); (case a24 => k_is); (case l24 => k_is); (case c24 => k_is); (case k24 => k_is); (case n_abs => k_is); (case n_all => k_is); (case n_any => k_is); (case n_bool => k_is); (case n_enumerate => k_is); (case n_int => k_is); (case n_isinstance => k_is); (case n_len => k_is); (case n_list => k_is); (case n_max => k_is); (case n_range => k_is); (case n_sorted => k_is); (case n_tuple => k_is); (case n_zip => k_is); (case c_MOST_DEALS => k_is); (case c_MOST_KEY => k_is)
