import PyProof.Rows.All
import Wide.All
import OpenK.AllK
import Wide.FinOn
import HandS.ForMost
import HandS.Walk
import HandS.Defaults
import HandS.EndBits
import HandS.HeadEnd
import HandS.IsInst
import HandS.Wide
import HandS.Flow
import HandS.Style
import HandS.FStr
import HandS.RaiseMore
import HandS.SetKeys
import HandS.Deep
import HandS.TupAny
import KE.GoesEnum
import KE.GoesMore
import PyProof.ReprRoads
import HandS.HeadHook1
import HandS.Text
import PyProof.Rows.CountFlat
import PyProof.SliceStr2
import HandS.Conv
import OpenK.KOps
import KE.KCallOwn
import HandS.More
import HandS.OwnEq
import HandS.NoneIn
import KE.KDictZip
import PyProof.ListNew
import HandS.CallLocal
import HandS.HeadHook3
import KE.KUnpackStar
import KE.SortData
import KE.OsSortAny
import KE.KMinKey
import HandS.SortKw
import PyProof.InstEq
import PyProof.WalkInts
import KE.KStateDown
import HandS.WordsExc
import HandS.Head0
import HandS.Head1
import HandS.Head2
import HandS.HeadHook2
import HandS.HeadHook4
import PySem.Challenge.RW_markersplice_k08_strip_equality_and_flip
set_option Elab.async false
set_option linter.all false
set_option maxRecDepth 100000
set_option maxHeartbeats 4000000
/-! Lay1: plain data D over the hand layer's abstract heap; frozen part G of a heap H; slots; readings over data alone. -/
namespace Ms
open PySem L2

inductive D where
  | non | bl (b : Bool) | int (i : Int) | str (x : Str) | lst (xs : List D) | tup (xs : List D) | dic (kvs : List (Key × D)) | ins (C : Addr) (fs : List (Str × D)) | scr (ns : List Int) | ty (n : String) | cls (C : Addr) | at (a : Addr) | dz (kvs : List (Key × D))

mutual
def Rep (K : PySem.W.Frag) (G : Hp) : D → V → Prop
  | .non, v => v = .non
  | .bl b, v => v = .bl b
  | .int i, v => v = .int i
  | .str x, v => v = .str x
  | .lst ds, v => ∃ a xs, v = .ref a ∧ G a = some (.lst xs) ∧ Reps K G ds xs
  | .tup ds, v => ∃ a xs, v = .ref a ∧ SqT K G a xs ∧ Reps K G ds xs
  | .dic kvs, v => ∃ a xs, v = .ref a ∧ G a = some (.dK xs) ∧ RepK K G kvs xs
  | .ins C fs, v => ∃ a dx xs, v = .ref a ∧ G a = some (.ins C dx xs) ∧ RepF K G fs xs
  | .scr ns, v => ∃ a, v = .ref a ∧ SqL K G a (ns.map V.int)
  | .ty n, v => v = .ty n
  | .cls C, v => v = .ref C
  | .at a, v => v = .ref a
  | .dz kvs, v => ∃ a o xs, v = .ref a ∧ G a = some (.frz o (.dK xs)) ∧ RepK K G kvs xs
def Reps (K : PySem.W.Frag) (G : Hp) : List D → List V → Prop
  | [], xs => xs = []
  | d :: ds, xs => ∃ v r, xs = v :: r ∧ Rep K G d v ∧ Reps K G ds r
def RepK (K : PySem.W.Frag) (G : Hp) : List (Key × D) → List (Key × V) → Prop
  | [], xs => xs = []
  | (k, d) :: ds, xs => ∃ v r, xs = (k, v) :: r ∧ Rep K G d v ∧ RepK K G ds r
def RepF (K : PySem.W.Frag) (G : Hp) : List (Str × D) → List (Str × V) → Prop
  | [], xs => xs = []
  | (k, d) :: ds, xs => ∃ v r, xs = (k, v) :: r ∧ Rep K G d v ∧ RepF K G ds r
end

theorem sqT_mono {K : PySem.W.Frag} {G G' : Hp} {a : Addr} {xs : List V} (e : Same G G') (h : SqT K G a xs) : SqT K G' a xs := by
  rcases h with (h | ⟨o, h⟩) | h
  · exact .inl (.inl (e _ _ h))
  · exact .inl (.inr ⟨o, e _ _ h⟩)
  · exact .inr h
theorem sqL_mono {K : PySem.W.Frag} {G G' : Hp} {a : Addr} {xs : List V} (e : Same G G') (h : SqL K G a xs) : SqL K G' a xs := e.seq h

mutual
theorem Rep.mono {K : PySem.W.Frag} {G G' : Hp} (e : Same G G') : ∀ {d : D} {v : V}, Rep K G d v → Rep K G' d v
  | .non, _, h => h
  | .bl _, _, h => h
  | .int _, _, h => h
  | .str _, _, h => h
  | .lst ds, _, h => by
    simp only [Rep] at h ⊢
    obtain ⟨a, xs, e1, h1, h2⟩ := h
    exact ⟨a, xs, e1, e _ _ h1, Reps.mono e h2⟩
  | .tup ds, _, h => by
    simp only [Rep] at h ⊢
    obtain ⟨a, xs, e1, h1, h2⟩ := h
    exact ⟨a, xs, e1, sqT_mono e h1, Reps.mono e h2⟩
  | .dic ds, _, h => by
    simp only [Rep] at h ⊢
    obtain ⟨a, xs, e1, h1, h2⟩ := h
    exact ⟨a, xs, e1, e _ _ h1, RepK.mono e h2⟩
  | .ins C ds, _, h => by
    simp only [Rep] at h ⊢
    obtain ⟨a, dx, xs, e1, h1, h2⟩ := h
    exact ⟨a, dx, xs, e1, e _ _ h1, RepF.mono e h2⟩
  | .scr ns, _, h => by
    simp only [Rep] at h ⊢
    obtain ⟨a, e1, h1⟩ := h
    exact ⟨a, e1, sqL_mono e h1⟩
  | .ty _, _, h => h
  | .cls _, _, h => h
  | .at _, _, h => h
  | .dz ds, _, h => by
    simp only [Rep] at h ⊢
    obtain ⟨a, o, xs, e1, h1, h2⟩ := h
    exact ⟨a, o, xs, e1, e _ _ h1, RepK.mono e h2⟩
theorem Reps.mono {K : PySem.W.Frag} {G G' : Hp} (e : Same G G') : ∀ {ds : List D} {vs : List V}, Reps K G ds vs → Reps K G' ds vs
  | [], _, h => by simpa only [Reps] using h
  | d :: ds, _, h => by
    simp only [Reps] at h ⊢
    obtain ⟨v, r, e1, h1, h2⟩ := h
    exact ⟨v, r, e1, Rep.mono e h1, Reps.mono e h2⟩
theorem RepK.mono {K : PySem.W.Frag} {G G' : Hp} (e : Same G G') : ∀ {ds : List (Key × D)} {vs : List (Key × V)}, RepK K G ds vs → RepK K G' ds vs
  | [], _, h => by simpa only [RepK] using h
  | (k, d) :: ds, _, h => by
    simp only [RepK] at h ⊢
    obtain ⟨v, r, e1, h1, h2⟩ := h
    exact ⟨v, r, e1, Rep.mono e h1, RepK.mono e h2⟩
theorem RepF.mono {K : PySem.W.Frag} {G G' : Hp} (e : Same G G') : ∀ {ds : List (Str × D)} {vs : List (Str × V)}, RepF K G ds vs → RepF K G' ds vs
  | [], _, h => by simpa only [RepF] using h
  | (k, d) :: ds, _, h => by
    simp only [RepF] at h ⊢
    obtain ⟨v, r, e1, h1, h2⟩ := h
    exact ⟨v, r, e1, Rep.mono e h1, RepF.mono e h2⟩
end

section
variable {K : PySem.W.Frag} {G : Hp}
theorem Reps.len : ∀ {ds : List D} {vs : List V}, Reps K G ds vs → vs.length = ds.length
  | [], _, h => by simp only [Reps] at h; subst h; rfl
  | d :: ds, _, h => by
    simp only [Reps] at h
    obtain ⟨v, r, rfl, _, h2⟩ := h
    simp [Reps.len h2]
theorem Reps.get : ∀ {ds : List D} {vs : List V} {i : Nat} {d : D}, Reps K G ds vs → ds[i]? = some d → ∃ v, vs[i]? = some v ∧ Rep K G d v
  | [], _, _, _, _, e => by simp at e
  | d :: ds, _, 0, _, h, e => by
    simp only [Reps] at h
    obtain ⟨v, r, rfl, h1, _⟩ := h
    simp at e; subst e
    exact ⟨v, rfl, h1⟩
  | d :: ds, _, i + 1, _, h, e => by
    simp only [Reps] at h
    obtain ⟨v, r, rfl, _, h2⟩ := h
    obtain ⟨u, e2, h3⟩ := Reps.get (i := i) h2 (by simpa using e)
    exact ⟨u, by simpa using e2, h3⟩
theorem Reps.getV : ∀ {ds : List D} {vs : List V} {i : Nat} {v : V}, Reps K G ds vs → vs[i]? = some v → ∃ d, ds[i]? = some d ∧ Rep K G d v := fun {ds vs i v} h e => by
  have hi : i < vs.length := (List.getElem?_eq_some_iff.mp e).1
  rw [h.len] at hi
  obtain ⟨u, e2, h3⟩ := h.get (i := i) (d := ds[i]) (by simp [hi])
  rw [e] at e2; cases e2
  exact ⟨ds[i], by simp [hi], h3⟩
theorem Reps.append : ∀ {ds es : List D} {vs ws : List V}, Reps K G ds vs → Reps K G es ws → Reps K G (ds ++ es) (vs ++ ws)
  | [], _, _, _, h, h' => by simp only [Reps] at h; subst h; exact h'
  | d :: ds, es, _, ws, h, h' => by
    simp only [Reps] at h
    obtain ⟨v, r, rfl, h1, h2⟩ := h
    show Reps K G (d :: (ds ++ es)) (v :: (r ++ ws))
    simp only [Reps]
    exact ⟨v, _, rfl, h1, Reps.append h2 h'⟩
theorem Reps.one {d : D} {v : V} (h : Rep K G d v) : Reps K G [d] [v] := by
  simp only [Reps]; exact ⟨v, [], rfl, h, rfl⟩
theorem Reps.nil : Reps K G [] [] := by simp only [Reps]
theorem Reps.cons {d : D} {v : V} {ds : List D} {vs : List V} (h : Rep K G d v) (h2 : Reps K G ds vs) : Reps K G (d :: ds) (v :: vs) := by
  simp only [Reps]; exact ⟨v, vs, rfl, h, h2⟩
theorem Reps.nil_inv {vs : List V} (h : Reps K G [] vs) : vs = [] := by simpa only [Reps] using h
theorem Reps.cons_inv {d : D} {ds : List D} {vs : List V} (h : Reps K G (d :: ds) vs) : ∃ v r, vs = v :: r ∧ Rep K G d v ∧ Reps K G ds r := by simpa only [Reps] using h
theorem Reps.take : ∀ {ds : List D} {vs : List V} (n : Nat), Reps K G ds vs → Reps K G (ds.take n) (vs.take n)
  | _, _, 0, _ => by simp only [List.take_zero]; exact .nil
  | [], _, n + 1, h => by rw [h.nil_inv]; simp only [List.take_nil]; exact .nil
  | d :: ds, _, n + 1, h => by
    obtain ⟨v, r, rfl, h1, h2⟩ := h.cons_inv
    simp only [List.take_succ_cons]
    exact .cons h1 (Reps.take n h2)
theorem Reps.drop : ∀ {ds : List D} {vs : List V} (n : Nat), Reps K G ds vs → Reps K G (ds.drop n) (vs.drop n)
  | _, _, 0, h => by simpa only [List.drop_zero] using h
  | [], _, n + 1, h => by rw [h.nil_inv]; simp only [List.drop_nil]; exact .nil
  | d :: ds, _, n + 1, h => by
    obtain ⟨v, r, rfl, h1, h2⟩ := h.cons_inv
    simp only [List.drop_succ_cons]
    exact Reps.drop n h2
theorem Reps.set : ∀ {ds : List D} {vs : List V} (n : Nat) {d : D} {v : V}, Rep K G d v → Reps K G ds vs → Reps K G (ds.set n d) (vs.set n v)
  | [], _, n, _, _, _, h => by rw [h.nil_inv]; simp only [List.set_nil]; exact .nil
  | d :: ds, _, 0, _, _, hd, h => by
    obtain ⟨v, r, rfl, h1, h2⟩ := h.cons_inv
    simp only [List.set_cons_zero]
    exact .cons hd h2
  | d :: ds, _, n + 1, _, _, hd, h => by
    obtain ⟨v, r, rfl, h1, h2⟩ := h.cons_inv
    simp only [List.set_cons_succ]
    exact .cons h1 (Reps.set n hd h2)
theorem Reps.reverse : ∀ {ds : List D} {vs : List V}, Reps K G ds vs → Reps K G ds.reverse vs.reverse
  | [], _, h => by rw [h.nil_inv]; simp only [List.reverse_nil]; exact .nil
  | d :: ds, _, h => by
    obtain ⟨v, r, rfl, h1, h2⟩ := h.cons_inv
    simp only [List.reverse_cons]
    exact (Reps.reverse h2).append (.one h1)
/-- lists of data given by a function -/
theorem Reps.mapD {α : Type} {f : α → D} {g : α → V} (h : ∀ x, Rep K G (f x) (g x)) : ∀ l : List α, Reps K G (l.map f) (l.map g)
  | [] => by simp only [List.map_nil]; exact .nil
  | x :: l => by simp only [List.map_cons]; exact .cons (h x) (Reps.mapD h l)
theorem Rep.int_inv {i : Int} {v : V} (h : Rep K G (.int i) v) : v = .int i := by simpa only [Rep] using h
theorem Rep.str_inv {x : Str} {v : V} (h : Rep K G (.str x) v) : v = .str x := by simpa only [Rep] using h
theorem Rep.bl_inv {b : Bool} {v : V} (h : Rep K G (.bl b) v) : v = .bl b := by simpa only [Rep] using h
theorem Rep.non_inv {v : V} (h : Rep K G .non v) : v = .non := by simpa only [Rep] using h
theorem Rep.lst_inv {ds : List D} {v : V} (h : Rep K G (.lst ds) v) : ∃ a xs, v = .ref a ∧ G a = some (.lst xs) ∧ Reps K G ds xs := by simpa only [Rep] using h
theorem Rep.tup_inv {ds : List D} {v : V} (h : Rep K G (.tup ds) v) : ∃ a xs, v = .ref a ∧ SqT K G a xs ∧ Reps K G ds xs := by simpa only [Rep] using h
theorem Rep.dic_inv {ds : List (Key × D)} {v : V} (h : Rep K G (.dic ds) v) : ∃ a xs, v = .ref a ∧ G a = some (.dK xs) ∧ RepK K G ds xs := by simpa only [Rep] using h
theorem Rep.ins_inv {C : Addr} {ds : List (Str × D)} {v : V} (h : Rep K G (.ins C ds) v) : ∃ a dx xs, v = .ref a ∧ G a = some (.ins C dx xs) ∧ RepF K G ds xs := by simpa only [Rep] using h
theorem Rep.scr_inv {ns : List Int} {v : V} (h : Rep K G (.scr ns) v) : ∃ a, v = .ref a ∧ SqL K G a (ns.map V.int) := by simpa only [Rep] using h
theorem rep_scr {ns : List Int} {a : Addr} (h : SqL K G a (ns.map V.int)) : Rep K G (.scr ns) (.ref a) := by simp only [Rep]; exact ⟨a, rfl, h⟩
theorem Rep.ty_inv {n : String} {v : V} (h : Rep K G (.ty n) v) : v = .ty n := by simpa only [Rep] using h
theorem Rep.cls_inv {C : Addr} {v : V} (h : Rep K G (.cls C) v) : v = .ref C := by simpa only [Rep] using h
theorem Rep.at_inv {a : Addr} {v : V} (h : Rep K G (.at a) v) : v = .ref a := by simpa only [Rep] using h
theorem rep_at (a : Addr) : Rep K G (.at a) (.ref a) := by simp only [Rep]
theorem Rep.dz_inv {ds : List (Key × D)} {v : V} (h : Rep K G (.dz ds) v) : ∃ a o xs, v = .ref a ∧ G a = some (.frz o (.dK xs)) ∧ RepK K G ds xs := by simpa only [Rep] using h
theorem rep_dz {ds : List (Key × D)} {a : Addr} {o : Obj} {xs : List (Key × V)} (h : G a = some (.frz o (.dK xs))) (r : RepK K G ds xs) : Rep K G (.dz ds) (.ref a) := by simp only [Rep]; exact ⟨a, o, xs, rfl, h, r⟩
theorem rep_ty (n : String) : Rep K G (.ty n) (.ty n) := by simp only [Rep]
theorem rep_cls (C : Addr) : Rep K G (.cls C) (.ref C) := by simp only [Rep]
theorem rep_int (i : Int) : Rep K G (.int i) (.int i) := by simp only [Rep]
theorem rep_str (x : Str) : Rep K G (.str x) (.str x) := by simp only [Rep]
theorem rep_bl (b : Bool) : Rep K G (.bl b) (.bl b) := by simp only [Rep]
theorem rep_non : Rep K G .non .non := by simp only [Rep]
theorem rep_lst {ds : List D} {a : Addr} {xs : List V} (h : G a = some (.lst xs)) (r : Reps K G ds xs) : Rep K G (.lst ds) (.ref a) := by simp only [Rep]; exact ⟨a, xs, rfl, h, r⟩
theorem rep_tup {ds : List D} {a : Addr} {xs : List V} (h : SqT K G a xs) (r : Reps K G ds xs) : Rep K G (.tup ds) (.ref a) := by simp only [Rep]; exact ⟨a, xs, rfl, h, r⟩
theorem rep_dic {ds : List (Key × D)} {a : Addr} {xs : List (Key × V)} (h : G a = some (.dK xs)) (r : RepK K G ds xs) : Rep K G (.dic ds) (.ref a) := by simp only [Rep]; exact ⟨a, xs, rfl, h, r⟩
theorem rep_ins {C : Addr} {ds : List (Str × D)} {a dx : Addr} {xs : List (Str × V)} (h : G a = some (.ins C dx xs)) (r : RepF K G ds xs) : Rep K G (.ins C ds) (.ref a) := by simp only [Rep]; exact ⟨a, dx, xs, rfl, h, r⟩
end

/-! ### heaps that grow -/
structure Grow (M : List Addr) (G H G' H' : Hp) : Prop where
  g : Same G G'
  gh : Same G' H'
  h : ∀ a o, H a = some o → a ∉ M → H' a = some o
  dom : ∀ a, H a ≠ none → H' a ≠ none
  nw : ∀ a, H a ≠ none → G' a = G a
theorem Grow.refl {M : List Addr} {G H : Hp} (e : Same G H) : Grow M G H G H := ⟨Same.refl _, e, fun _ _ h _ => h, fun _ h => h, fun _ _ => rfl⟩
theorem Grow.trans {M : List Addr} {G H G1 H1 G2 H2 : Hp} (a : Grow M G H G1 H1) (b : Grow M G1 H1 G2 H2) : Grow M G H G2 H2 :=
  ⟨a.g.trans b.g, b.gh, fun x o h m => b.h x o (a.h x o h m) m, fun x h => b.dom x (a.dom x h), fun x h => (b.nw x (a.dom x h)).trans (a.nw x h)⟩
theorem Grow.same {G H G' H' : Hp} (a : Grow [] G H G' H') : Same H H' := fun x o h => a.h x o h (by simp)
/-- a new frozen object -/
theorem Grow.new {M : List Addr} {G H : Hp} {p : Addr} {o : HO} (e : Same G H) (hp : H p = none) : Grow M G H (upd G p o) (upd H p o) where
  g := fun a u h => by
    have : a ≠ p := ne_of_none (e _ _ h) hp
    rw [upd_ne this]; exact h
  gh := fun a u h => by
    by_cases ha : a = p
    · subst ha; rw [upd_same] at h ⊢; exact h
    · rw [upd_ne ha] at h ⊢; exact e _ _ h
  h := fun a u h _ => by rw [upd_ne (ne_of_none h hp)]; exact h
  dom := fun a h => by
    by_cases ha : a = p
    · subst ha; rw [upd_same]; simp
    · rw [upd_ne ha]; exact h
  nw := fun a h => by
    have : a ≠ p := fun z => h (z ▸ hp)
    rw [upd_ne this]
/-- a new object, not frozen -/
theorem Grow.newH {M : List Addr} {G H : Hp} {p : Addr} {o : HO} (e : Same G H) (hp : H p = none) : Grow M G H G (upd H p o) where
  g := Same.refl _
  gh := fun a u h => by rw [upd_ne (ne_of_none (e _ _ h) hp)]; exact e _ _ h
  h := fun a u h _ => by rw [upd_ne (ne_of_none h hp)]; exact h
  dom := fun a h => by
    by_cases ha : a = p
    · subst ha; rw [upd_same]; simp
    · rw [upd_ne ha]; exact h
  nw := fun a _ => rfl

/-! ### slots -/
inductive OD where
  | lst (ds : List D) | dic (kvs : List (Key × D)) | ins (C : Addr) (fs : List (Str × D))
abbrev OD.d : OD → D
  | .lst ds => .lst ds
  | .dic kvs => .dic kvs
  | .ins C fs => .ins C fs
inductive Sl where
  | no | sh (d : D) | ow (o : OD) | bx (b : Addr) (n : Nat) | mo (a : Addr) (o : OD)
def Sl.own : Sl → Bool
  | .no => false
  | .sh _ => false
  | .ow _ => true
  | .bx _ _ => true
  | .mo _ _ => true
def OwnAt (K : PySem.W.Frag) (G H : Hp) (a : Addr) : OD → Prop
  | .lst ds => ∃ xs, H a = some (.lst xs) ∧ Reps K G ds xs
  | .dic kvs => ∃ xs, H a = some (.dK xs) ∧ RepK K G kvs xs
  | .ins C fs => ∃ dx xs, H a = some (.ins C dx xs) ∧ RepF K G fs xs
theorem OwnAt.mono {K : PySem.W.Frag} {G H G' H' : Hp} {a : Addr} {o : OD} (g : Same G G') (h : ∀ u, H a = some u → H' a = some u) (w : OwnAt K G H a o) : OwnAt K G' H' a o := by
  cases o with
  | lst ds => obtain ⟨xs, e, r⟩ := w; exact ⟨xs, h _ e, r.mono g⟩
  | dic ds => obtain ⟨xs, e, r⟩ := w; exact ⟨xs, h _ e, r.mono g⟩
  | ins C ds => obtain ⟨dx, xs, e, r⟩ := w; exact ⟨dx, xs, h _ e, r.mono g⟩
theorem OwnAt.is {K : PySem.W.Frag} {G H : Hp} {a : Addr} {o : OD} (w : OwnAt K G H a o) : ∃ u, H a = some u := by
  cases o with
  | lst ds => obtain ⟨xs, e, r⟩ := w; exact ⟨_, e⟩
  | dic ds => obtain ⟨xs, e, r⟩ := w; exact ⟨_, e⟩
  | ins C ds => obtain ⟨dx, xs, e, r⟩ := w; exact ⟨_, e⟩
/-- frozen where it stands -/
theorem OwnAt.freeze {K : PySem.W.Frag} {G H : Hp} {a : Addr} {o : OD} (w : OwnAt K G H a o) (n : G a = none) : ∃ u, H a = some u ∧ Rep K (upd G a u) o.d (.ref a) := by
  have s : ∀ u, Same G (upd G a u) := fun u b v e => by rw [upd_ne (ne_of_none e n)]; exact e
  cases o with
  | lst ds => obtain ⟨xs, e, r⟩ := w; exact ⟨_, e, rep_lst upd_same (r.mono (s _))⟩
  | dic ds => obtain ⟨xs, e, r⟩ := w; exact ⟨_, e, rep_dic upd_same (r.mono (s _))⟩
  | ins C ds => obtain ⟨dx, xs, e, r⟩ := w; exact ⟨_, e, rep_ins upd_same (r.mono (s _))⟩
/-- a box: three ints, how large at most, how many draws were mixed at most -/
def BoxAt (H : Hp) (b : Addr) (n : Nat) : Prop := ∃ (x y z : Int) (m : Nat), H b = some (.lst [.int x, .int y, .int z]) ∧ 0 ≤ x ∧ x.natAbs < 2 ^ m ∧ m ≤ 1048640 ∧ 0 ≤ y ∧ y < 2147483648 ∧ 0 ≤ z ∧ z ≤ n
def SlOk (K : PySem.W.Frag) (M : List Addr) (H0 G H : Hp) : Sl → Option V → Prop
  | .no, _ => True
  | .sh d, x => ∃ v, x = some v ∧ Rep K G d v
  | .ow o, x => ∃ a, x = some (.ref a) ∧ G a = none ∧ H0 a = none ∧ OwnAt K G H a o
  | .bx a n, x => x = some (.ref a) ∧ G a = none ∧ (a ∈ M ∨ H0 a = none) ∧ BoxAt H a n
  | .mo a o, x => x = some (.ref a) ∧ G a = none ∧ (a ∈ M ∨ H0 a = none) ∧ OwnAt K G H a o

structure Cur (K : PySem.W.Frag) (M : List Addr) (L : List (Addr × HO)) (G0 H0 G H : Hp) (σ : St) (δ : List Sl) : Prop where
  gr : Grow M G0 H0 G H
  len : δ.length = σ.length
  ok : ∀ (i : Nat) (s : Sl), δ[i]? = some s → ∃ x, σ[i]? = some x ∧ SlOk K M H0 G H s x
  ap : ∀ (i j : Nat) (s t : Sl) (a : Addr), i ≠ j → δ[i]? = some s → δ[j]? = some t → s.own = true → t.own = true → σ[i]? = some (some (.ref a)) → σ[j]? = some (some (.ref a)) → False
  pn : ∀ p ∈ L, H p.1 = some p.2 ∧ G p.1 = none ∧ H0 p.1 = none ∧ ∀ (i : Nat) (s : Sl), δ[i]? = some s → s.own = true → σ[i]? ≠ some (some (.ref p.1))

section
variable {K : PySem.W.Frag} {M : List Addr} {L : List (Addr × HO)} {G0 H0 G H G' H' : Hp} {σ : St} {δ : List Sl}
/-- only new things -/
theorem SlOk.grow {s : Sl} {x : Option V} (w : SlOk K M H0 G H s x) (g : Grow [] G H G' H') (e : Same G H) : SlOk K M H0 G' H' s x := by
  cases s with
  | no => trivial
  | sh d => obtain ⟨v, e1, r⟩ := w; exact ⟨v, e1, r.mono g.g⟩
  | ow o =>
    obtain ⟨a, e1, n, h0, r⟩ := w
    obtain ⟨u, hu⟩ := r.is
    refine ⟨a, e1, ?_, h0, r.mono g.g fun u h => g.same _ _ h⟩
    rw [g.nw a (by rw [hu]; simp)]; exact n
  | bx a k =>
    obtain ⟨e1, n, h0, x, y, z, m, hx, r⟩ := w
    refine ⟨e1, ?_, h0, x, y, z, m, g.same _ _ hx, r⟩
    rw [g.nw a (by rw [hx]; simp)]; exact n
  | mo a o =>
    obtain ⟨e1, n, h0, r⟩ := w
    obtain ⟨u, hu⟩ := r.is
    refine ⟨e1, ?_, h0, r.mono g.g fun u h => g.same _ _ h⟩
    rw [g.nw a (by rw [hu]; simp)]; exact n
theorem grow_up {G2 H2 : Hp} (a : Grow M G0 H0 G H) (b : Grow [] G H G2 H2) : Grow M G0 H0 G2 H2 :=
  ⟨a.g.trans b.g, b.gh, fun x o h m => b.same x o (a.h x o h m), fun x h => b.dom x (a.dom x h), fun x h => (b.nw x (a.dom x h)).trans (a.nw x h)⟩
theorem Cur.grow (c : Cur K M L G0 H0 G H σ δ) (g : Grow [] G H G' H') : Cur K M L G0 H0 G' H' σ δ where
  gr := grow_up c.gr g
  len := c.len
  ok := fun i s h => by
    obtain ⟨x, e, w⟩ := c.ok i s h
    exact ⟨x, e, w.grow g c.gr.gh⟩
  ap := c.ap
  pn := fun p hp => by
    obtain ⟨e, n, h0, q⟩ := c.pn p hp
    exact ⟨g.same _ _ e, by rw [g.nw p.1 (by rw [e]; simp)]; exact n, h0, q⟩
/-- a slot is stored with data -/
theorem Cur.setSh (c : Cur K M L G0 H0 G H σ δ) (i : Nat) {d : D} {v : V} (r : Rep K G d v) : Cur K M L G0 H0 G H (σ.set i (some v)) (δ.set i (.sh d)) where
  gr := c.gr
  len := by simp [c.len]
  ok := fun j s h => by
    rw [List.getElem?_set] at h
    by_cases e : i = j
    · subst e
      simp only [if_true] at h
      split at h
      · rename_i hl
        cases h
        exact ⟨some v, by rw [List.getElem?_set_self (by rw [← c.len]; exact hl)], v, rfl, r⟩
      · cases h
    · rw [if_neg e] at h
      obtain ⟨x, e2, w⟩ := c.ok j s h
      exact ⟨x, by rw [List.getElem?_set_ne e]; exact e2, w⟩
  ap := fun j k s t a ne h1 h2 o1 o2 e1 e2 => by
    have nj : i ≠ j := fun e => by
      subst e
      rw [List.getElem?_set] at h1
      simp only [if_true] at h1
      split at h1
      · cases h1; cases o1
      · cases h1
    have nk : i ≠ k := fun e => by
      subst e
      rw [List.getElem?_set] at h2
      simp only [if_true] at h2
      split at h2
      · cases h2; cases o2
      · cases h2
    rw [List.getElem?_set_ne nj] at h1 e1
    rw [List.getElem?_set_ne nk] at h2 e2
    exact c.ap j k s t a ne h1 h2 o1 o2 e1 e2
  pn := fun p hp => by
    obtain ⟨e, n, h0, q⟩ := c.pn p hp
    refine ⟨e, n, h0, fun j s h o => ?_⟩
    have nj : i ≠ j := fun e => by
      subst e
      rw [List.getElem?_set] at h
      simp only [if_true] at h
      split at h
      · cases h; cases o
      · cases h
    rw [List.getElem?_set_ne nj] at h ⊢
    exact q j s h o
/-- a slot is stored with a new thing of one's own -/
theorem Cur.setG (c : Cur K M L G0 H0 G H σ δ) (i : Nat) {s0 : Sl} {a : Addr} (w0 : SlOk K M H0 G H s0 (some (.ref a))) (apart : ∀ (j : Nat) (s : Sl), δ[j]? = some s → s.own = true → σ[j]? ≠ some (some (.ref a)))
    (hL : ∀ p ∈ L, p.1 ≠ a) : Cur K M L G0 H0 G H (σ.set i (some (.ref a))) (δ.set i s0) where
  gr := c.gr
  len := by simp [c.len]
  ok := fun j s h => by
    rw [List.getElem?_set] at h
    by_cases e : i = j
    · subst e
      simp only [if_true] at h
      split at h
      · rename_i hl
        cases h
        exact ⟨some (.ref a), by rw [List.getElem?_set_self (by rw [← c.len]; exact hl)], w0⟩
      · cases h
    · rw [if_neg e] at h
      obtain ⟨x, e2, w⟩ := c.ok j s h
      exact ⟨x, by rw [List.getElem?_set_ne e]; exact e2, w⟩
  ap := fun j k s t b ne h1 h2 o1 o2 e1 e2 => by
    by_cases nj : i = j
    · subst nj
      have nk : i ≠ k := ne
      rw [List.getElem?_set_ne nk] at h2 e2
      rw [List.getElem?_set] at e1
      simp only [if_true] at e1
      split at e1
      · cases e1
        exact apart k t h2 o2 e2
      · cases e1
    · rw [List.getElem?_set_ne nj] at h1 e1
      by_cases nk : i = k
      · subst nk
        rw [List.getElem?_set] at e2
        simp only [if_true] at e2
        split at e2
        · cases e2
          exact apart j s h1 o1 e1
        · cases e2
      · rw [List.getElem?_set_ne nk] at h2 e2
        exact c.ap j k s t b ne h1 h2 o1 o2 e1 e2
  pn := fun p hp => by
    obtain ⟨e, n, h0, q⟩ := c.pn p hp
    refine ⟨e, n, h0, fun j s h o => ?_⟩
    by_cases nj : i = j
    · subst nj
      rw [List.getElem?_set]
      simp only [if_true]
      split
      · intro z
        cases z
        exact hL p hp rfl
      · simp
    · rw [List.getElem?_set_ne nj] at h ⊢
      exact q j s h o
theorem Cur.setOw (c : Cur K M L G0 H0 G H σ δ) (i : Nat) {o : OD} {a : Addr} (n : G a = none) (h0 : H0 a = none) (r : OwnAt K G H a o) (apart : ∀ (j : Nat) (s : Sl), δ[j]? = some s → s.own = true → σ[j]? ≠ some (some (.ref a)))
    (hL : ∀ p ∈ L, p.1 ≠ a) : Cur K M L G0 H0 G H (σ.set i (some (.ref a))) (δ.set i (.ow o)) := c.setG i (s0 := .ow o) ⟨a, rfl, n, h0, r⟩ apart hL
/-- an own thing is frozen -/
theorem Cur.freeze (c : Cur K M L G0 H0 G H σ δ) {i : Nat} {o : OD} (hi : δ[i]? = some (.ow o)) : ∃ a u, σ[i]? = some (some (.ref a)) ∧ H a = some u ∧ G a = none ∧ Rep K (upd G a u) o.d (.ref a) ∧ Cur K M L G0 H0 (upd G a u) H σ (δ.set i (.sh o.d)) := by
  obtain ⟨x, ex, a, e1, n, h0, w⟩ := c.ok i _ hi
  subst e1
  obtain ⟨u, hu, r⟩ := w.freeze n
  have s : Same G (upd G a u) := fun b v e => by rw [upd_ne (ne_of_none e n)]; exact e
  have hlt : i < δ.length := (List.getElem?_eq_some_iff.mp hi).1
  refine ⟨a, u, ex, hu, n, r, ⟨⟨c.gr.g.trans s, fun b v e => ?_, c.gr.h, c.gr.dom, fun b hb => ?_⟩, by simp [c.len], fun j t h => ?_, fun j k s1 t b ne h1 h2 o1 o2 e1 e2 => ?_, fun p hp => ?_⟩⟩
  · by_cases hb : b = a
    · subst hb; rw [upd_same] at e; cases e; exact hu
    · rw [upd_ne hb] at e; exact c.gr.gh _ _ e
  · have : b ≠ a := fun z => hb (z ▸ h0)
    rw [upd_ne this]; exact c.gr.nw b hb
  · rw [List.getElem?_set] at h
    by_cases e : i = j
    · subst e
      simp only [if_true, hlt, if_pos] at h
      cases h
      exact ⟨_, ex, _, rfl, r⟩
    · rw [if_neg e] at h
      obtain ⟨x, e2, w2⟩ := c.ok j t h
      refine ⟨x, e2, ?_⟩
      cases t with
      | no => trivial
      | sh d => obtain ⟨v, e3, r3⟩ := w2; exact ⟨v, e3, r3.mono s⟩
      | ow o2 =>
        obtain ⟨b, e3, n3, h3, r3⟩ := w2
        subst e3
        refine ⟨b, rfl, ?_, h3, r3.mono s fun _ h => h⟩
        have : b ≠ a := fun z => by subst z; exact c.ap i j _ _ b e hi h rfl rfl ex e2
        rw [upd_ne this]; exact n3
      | bx b k =>
        obtain ⟨e3, n3, h3, r3⟩ := w2
        subst e3
        refine ⟨rfl, ?_, h3, r3⟩
        have : b ≠ a := fun z => by subst z; exact c.ap i j _ _ b e hi h rfl rfl ex e2
        rw [upd_ne this]; exact n3
      | mo b k =>
        obtain ⟨e3, n3, h3, r3⟩ := w2
        subst e3
        refine ⟨rfl, ?_, h3, r3.mono s fun _ h => h⟩
        have : b ≠ a := fun z => by subst z; exact c.ap i j _ _ b e hi h rfl rfl ex e2
        rw [upd_ne this]; exact n3
  · have nj : i ≠ j := fun e => by
      subst e
      rw [List.getElem?_set] at h1
      simp only [if_true, hlt, if_pos] at h1
      cases h1; cases o1
    have nk : i ≠ k := fun e => by
      subst e
      rw [List.getElem?_set] at h2
      simp only [if_true, hlt, if_pos] at h2
      cases h2; cases o2
    rw [List.getElem?_set_ne nj] at h1
    rw [List.getElem?_set_ne nk] at h2
    exact c.ap j k s1 t b ne h1 h2 o1 o2 e1 e2
  · obtain ⟨e, n5, h5, q⟩ := c.pn p hp
    refine ⟨e, ?_, h5, fun j t h o5 => ?_⟩
    · have : p.1 ≠ a := fun z => by
        have := q i _ hi rfl
        rw [z] at this
        exact this ex
      rw [upd_ne this]; exact n5
    · have nj : i ≠ j := fun e => by
        subst e
        rw [List.getElem?_set] at h
        simp only [if_true, hlt, if_pos] at h
        cases h; cases o5
      rw [List.getElem?_set_ne nj] at h
      exact q j t h o5
/-- an own thing is changed -/
theorem Cur.write (c : Cur K M L G0 H0 G H σ δ) {i : Nat} {o o' : OD} {a : Addr} {u : HO} (hi : δ[i]? = some (.ow o)) (ex : σ[i]? = some (some (.ref a))) (r : OwnAt K G (upd H a u) a o') : Cur K M L G0 H0 G (upd H a u) σ (δ.set i (.ow o')) := by
  obtain ⟨x, ex', a', e1, n, h0, w⟩ := c.ok i _ hi
  rw [ex] at ex'; cases ex'; cases e1
  have hlt : i < δ.length := (List.getElem?_eq_some_iff.mp hi).1
  have keep : ∀ b v, b ≠ a → H b = some v → upd H a u b = some v := fun b v hb e => by rw [upd_ne hb]; exact e
  refine ⟨⟨c.gr.g, fun b v e => ?_, fun b v e m => ?_, fun b e => ?_, c.gr.nw⟩, by simp [c.len], fun j t h => ?_, fun j k s1 t b ne h1 h2 o1 o2 e1 e2 => ?_, fun p hp => ?_⟩
  · exact keep b v (ne_of_none e n) (c.gr.gh _ _ e)
  · exact keep b v (ne_of_none e h0) (c.gr.h b v e m)
  · by_cases hb : b = a
    · subst hb; rw [upd_same]; simp
    · rw [upd_ne hb]; exact c.gr.dom b e
  · rw [List.getElem?_set] at h
    by_cases e : i = j
    · subst e
      simp only [if_true, hlt, if_pos] at h
      cases h
      exact ⟨_, ex, a, rfl, n, h0, r⟩
    · rw [if_neg e] at h
      obtain ⟨x, e2, w2⟩ := c.ok j t h
      refine ⟨x, e2, ?_⟩
      cases t with
      | no => trivial
      | sh d => exact w2
      | ow o2 =>
        obtain ⟨b, e3, n3, h3, r3⟩ := w2
        subst e3
        have : b ≠ a := fun z => by subst z; exact c.ap i j _ _ b e hi h rfl rfl ex e2
        exact ⟨b, rfl, n3, h3, r3.mono (Same.refl _) fun v hv => keep b v this hv⟩
      | bx b k =>
        obtain ⟨e3, n3, h3, x, y, z, m, hx, r3⟩ := w2
        subst e3
        have : b ≠ a := fun z => by subst z; exact c.ap i j _ _ b e hi h rfl rfl ex e2
        exact ⟨rfl, n3, h3, x, y, z, m, keep b _ this hx, r3⟩
      | mo b k =>
        obtain ⟨e3, n3, h3, r3⟩ := w2
        subst e3
        have : b ≠ a := fun z => by subst z; exact c.ap i j _ _ b e hi h rfl rfl ex e2
        exact ⟨rfl, n3, h3, r3.mono (Same.refl _) fun v hv => keep b v this hv⟩
  · have hj : (∃ s', δ[j]? = some s' ∧ s'.own = true) := by
      rw [List.getElem?_set] at h1
      by_cases e : i = j
      · subst e; exact ⟨_, hi, rfl⟩
      · rw [if_neg e] at h1; exact ⟨_, h1, o1⟩
    have hk : (∃ s', δ[k]? = some s' ∧ s'.own = true) := by
      rw [List.getElem?_set] at h2
      by_cases e : i = k
      · subst e; exact ⟨_, hi, rfl⟩
      · rw [if_neg e] at h2; exact ⟨_, h2, o2⟩
    obtain ⟨s', hj1, hj2⟩ := hj
    obtain ⟨t', hk1, hk2⟩ := hk
    exact c.ap j k s' t' b ne hj1 hk1 hj2 hk2 e1 e2
  · obtain ⟨e, n5, h5, q⟩ := c.pn p hp
    have : p.1 ≠ a := fun z => by
      have := q i _ hi rfl
      rw [z] at this
      exact this ex
    refine ⟨keep _ _ this e, n5, h5, fun j t h o5 => ?_⟩
    rw [List.getElem?_set] at h
    by_cases e : i = j
    · subst e; exact q i _ hi rfl
    · rw [if_neg e] at h; exact q j t h o5
/-- the box at slot i was used -/
theorem Cur.box (c : Cur K M L G0 H0 G H σ δ) {i : Nat} {k k' : Nat} {b : Addr} (hi : δ[i]? = some (.bx b k)) (g : Grow [b] G H G' H') (nb : G' b = none) (r : BoxAt H' b k') : Cur K M L G0 H0 G' H' σ (δ.set i (.bx b k')) := by
  obtain ⟨x, ex, e1, n, h0, w⟩ := c.ok i _ hi
  subst e1
  have hlt : i < δ.length := (List.getElem?_eq_some_iff.mp hi).1
  have keep : ∀ a v, a ≠ b → H a = some v → H' a = some v := fun a v hb e => g.h a v e (by simp [hb])
  refine ⟨⟨c.gr.g.trans g.g, g.gh, fun a v e m => ?_, fun a e => g.dom a (c.gr.dom a e), fun a e => (g.nw a (c.gr.dom a e)).trans (c.gr.nw a e)⟩, by simp [c.len], fun j t h => ?_, fun j k s1 t b ne h1 h2 o1 o2 e1 e2 => ?_, fun p hp => ?_⟩
  · refine keep a v (fun z => ?_) (c.gr.h a v e m)
    subst z
    rcases h0 with h0 | h0
    · exact m h0
    · rw [h0] at e; cases e
  · rw [List.getElem?_set] at h
    by_cases e : i = j
    · subst e
      simp only [if_true, hlt, if_pos] at h
      cases h
      exact ⟨_, ex, rfl, nb, h0, r⟩
    · rw [if_neg e] at h
      obtain ⟨x, e2, w2⟩ := c.ok j t h
      refine ⟨x, e2, ?_⟩
      cases t with
      | no => trivial
      | sh d => obtain ⟨v, e3, r3⟩ := w2; exact ⟨v, e3, r3.mono g.g⟩
      | ow o2 =>
        obtain ⟨a, e3, n3, h3, r3⟩ := w2
        subst e3
        have : a ≠ b := fun z => by subst z; exact c.ap i j _ _ a e hi h rfl rfl ex e2
        obtain ⟨u, hu⟩ := r3.is
        exact ⟨a, rfl, by rw [g.nw a (by rw [hu]; simp)]; exact n3, h3, r3.mono g.g fun v hv => keep a v this hv⟩
      | bx a k =>
        obtain ⟨e3, n3, h3, x, y, z, m, hx, r3⟩ := w2
        subst e3
        have : a ≠ b := fun z => by subst z; exact c.ap i j _ _ a e hi h rfl rfl ex e2
        exact ⟨rfl, by rw [g.nw a (by rw [hx]; simp)]; exact n3, h3, x, y, z, m, keep a _ this hx, r3⟩
      | mo a k =>
        obtain ⟨e3, n3, h3, r3⟩ := w2
        subst e3
        have : a ≠ b := fun z => by subst z; exact c.ap i j _ _ a e hi h rfl rfl ex e2
        obtain ⟨u, hu⟩ := r3.is
        exact ⟨rfl, by rw [g.nw a (by rw [hu]; simp)]; exact n3, h3, r3.mono g.g fun v hv => keep a v this hv⟩
  · have hj : (∃ s', δ[j]? = some s' ∧ s'.own = true) := by
      rw [List.getElem?_set] at h1
      by_cases e : i = j
      · subst e; exact ⟨_, hi, rfl⟩
      · rw [if_neg e] at h1; exact ⟨_, h1, o1⟩
    have hk : (∃ s', δ[k]? = some s' ∧ s'.own = true) := by
      rw [List.getElem?_set] at h2
      by_cases e : i = k
      · subst e; exact ⟨_, hi, rfl⟩
      · rw [if_neg e] at h2; exact ⟨_, h2, o2⟩
    obtain ⟨s', hj1, hj2⟩ := hj
    obtain ⟨t', hk1, hk2⟩ := hk
    exact c.ap j k s' t' b ne hj1 hk1 hj2 hk2 e1 e2
  · obtain ⟨e, n5, h5, q⟩ := c.pn p hp
    have : p.1 ≠ b := fun z => by
      have := q i _ hi rfl
      rw [z] at this
      exact this ex
    refine ⟨keep _ _ this e, by rw [g.nw p.1 (by rw [e]; simp)]; exact n5, h5, fun j t h o5 => ?_⟩
    rw [List.getElem?_set] at h
    by_cases e : i = j
    · subst e; exact q i _ hi rfl
    · rw [if_neg e] at h; exact q j t h o5
/-- the same thing, seen otherwise -/
theorem Cur.reslot (c : Cur K M L G0 H0 G H σ δ) {i : Nat} {s s' : Sl} (hi : δ[i]? = some s) (ho : s.own = true) (h : ∀ x, SlOk K M H0 G H s x → SlOk K M H0 G H s' x) : Cur K M L G0 H0 G H σ (δ.set i s') := by
  have hlt : i < δ.length := (List.getElem?_eq_some_iff.mp hi).1
  have old : ∀ (j : Nat) (t : Sl), (δ.set i s')[j]? = some t → t.own = true → ∃ t', δ[j]? = some t' ∧ t'.own = true := fun j t h1 o1 => by
    rw [List.getElem?_set] at h1
    by_cases e : i = j
    · subst e; exact ⟨_, hi, ho⟩
    · rw [if_neg e] at h1; exact ⟨_, h1, o1⟩
  refine ⟨c.gr, by simp [c.len], fun j t ht => ?_, fun j k s1 t b ne h1 h2 o1 o2 e1 e2 => ?_, fun p hp => ?_⟩
  · rw [List.getElem?_set] at ht
    by_cases e : i = j
    · subst e
      simp only [if_true, hlt, if_pos] at ht
      cases ht
      obtain ⟨x, ex, w⟩ := c.ok i _ hi
      exact ⟨x, ex, h x w⟩
    · rw [if_neg e] at ht; exact c.ok j t ht
  · obtain ⟨s2, h3, o3⟩ := old j s1 h1 o1
    obtain ⟨t2, h4, o4⟩ := old k t h2 o2
    exact c.ap j k s2 t2 b ne h3 h4 o3 o4 e1 e2
  · obtain ⟨e, n5, h5, q⟩ := c.pn p hp
    refine ⟨e, n5, h5, fun j t h1 o1 => ?_⟩
    obtain ⟨t', h3, o3⟩ := old j t h1 o1
    exact q j t' h3 o3
theorem Cur.writeM (c : Cur K M L G0 H0 G H σ δ) {i : Nat} {o o' : OD} {a : Addr} {u : HO} (hi : δ[i]? = some (.mo a o)) (r : OwnAt K G (upd H a u) a o') : Cur K M L G0 H0 G (upd H a u) σ (δ.set i (.mo a o')) := by
  obtain ⟨x, ex, e1, n, h0, w⟩ := c.ok i _ hi
  subst e1
  have hlt : i < δ.length := (List.getElem?_eq_some_iff.mp hi).1
  have keep : ∀ b v, b ≠ a → H b = some v → upd H a u b = some v := fun b v hb e => by rw [upd_ne hb]; exact e
  have old : ∀ (j : Nat) (t : Sl), (δ.set i (.mo a o'))[j]? = some t → t.own = true → ∃ t', δ[j]? = some t' ∧ t'.own = true := fun j t h1 o1 => by
    rw [List.getElem?_set] at h1
    by_cases e : i = j
    · subst e; exact ⟨_, hi, rfl⟩
    · rw [if_neg e] at h1; exact ⟨_, h1, o1⟩
  refine ⟨⟨c.gr.g, fun b v e => keep b v (ne_of_none e n) (c.gr.gh _ _ e), fun b v e m => ?_, fun b e => ?_, c.gr.nw⟩, by simp [c.len], fun j t h => ?_, fun j k s1 t b ne h1 h2 o1 o2 e1 e2 => ?_, fun p hp => ?_⟩
  · refine keep b v (fun z => ?_) (c.gr.h b v e m)
    subst z
    rcases h0 with h0 | h0
    · exact m h0
    · rw [h0] at e; cases e
  · by_cases hb : b = a
    · subst hb; rw [upd_same]; simp
    · rw [upd_ne hb]; exact c.gr.dom b e
  · rw [List.getElem?_set] at h
    by_cases e : i = j
    · subst e
      simp only [if_true, hlt, if_pos] at h
      cases h
      exact ⟨_, ex, rfl, n, h0, r⟩
    · rw [if_neg e] at h
      obtain ⟨x, e2, w2⟩ := c.ok j t h
      refine ⟨x, e2, ?_⟩
      cases t with
      | no => trivial
      | sh d => exact w2
      | ow o2 =>
        obtain ⟨b, e3, n3, h3, r3⟩ := w2
        subst e3
        have : b ≠ a := fun z => by subst z; exact c.ap i j _ _ b e hi h rfl rfl ex e2
        exact ⟨b, rfl, n3, h3, r3.mono (Same.refl _) fun v hv => keep b v this hv⟩
      | bx b k =>
        obtain ⟨e3, n3, h3, x, y, z, m, hx, r3⟩ := w2
        subst e3
        have : b ≠ a := fun z => by subst z; exact c.ap i j _ _ b e hi h rfl rfl ex e2
        exact ⟨rfl, n3, h3, x, y, z, m, keep b _ this hx, r3⟩
      | mo b k =>
        obtain ⟨e3, n3, h3, r3⟩ := w2
        subst e3
        have : b ≠ a := fun z => by subst z; exact c.ap i j _ _ b e hi h rfl rfl ex e2
        exact ⟨rfl, n3, h3, r3.mono (Same.refl _) fun v hv => keep b v this hv⟩
  · obtain ⟨s2, h3, o3⟩ := old j s1 h1 o1
    obtain ⟨t2, h4, o4⟩ := old k t h2 o2
    exact c.ap j k s2 t2 b ne h3 h4 o3 o4 e1 e2
  · obtain ⟨e, n5, h5, q⟩ := c.pn p hp
    have ne : p.1 ≠ a := fun z => by
      have := q i _ hi rfl
      rw [z] at this
      exact this ex
    refine ⟨keep _ _ ne e, n5, h5, fun j t h1 o1 => ?_⟩
    obtain ⟨t', h3, o3⟩ := old j t h1 o1
    exact q j t' h3 o3
end
end Ms

/-! Lay2: readings over data: judgements and the rules of the layer's own combinators. -/
namespace Ms
open PySem L2

/-- a def's end: data, or a new thing of nobody's -/
inductive Rs where
  | val (d : D) | new (o : OD)
abbrev Rs.d : Rs → D
  | .val d => d
  | .new o => o.d
def RsOk (K : PySem.W.Frag) (H0 G H : Hp) : Rs → V → Prop
  | .val d, v => Rep K G d v
  | .new o, v => ∃ a, v = .ref a ∧ H0 a = none ∧ G a = none ∧ OwnAt K G H a o
def Apart (σ : St) (δ : List Sl) (a : Addr) : Prop := ∀ (j : Nat) (s : Sl), δ[j]? = some s → s.own = true → σ[j]? ≠ some (some (.ref a))

def EvD (K : PySem.W.Frag) (te : TE) (δ : List Sl) (Φ : D → List Sl → Prop) : Prop :=
  ∀ (M : List Addr) (L : List (Addr × HO)) (G0 H0 G H : Hp) (σ : St), Cur K M L G0 H0 G H σ δ → ∀ Q : VK,
    (∀ d δ' v G' H', Same G G' → Cur K M L G0 H0 G' H' σ δ' → Rep K G' d v → Φ d δ' → Q v H') → te σ H Q
def EvN (K : PySem.W.Frag) (te : TE) (δ : List Sl) (Φ : OD → List Sl → Prop) : Prop :=
  ∀ (M : List Addr) (L : List (Addr × HO)) (G0 H0 G H : Hp) (σ : St), Cur K M L G0 H0 G H σ δ → ∀ Q : VK,
    (∀ o δ' a G' H', Same G G' → Cur K M L G0 H0 G' H' σ δ' → G' a = none → H0 a = none → OwnAt K G' H' a o → Apart σ δ' a → (∀ p ∈ L, p.1 ≠ a) → Φ o δ' → Q (.ref a) H') → te σ H Q
def EvT (K : PySem.W.Frag) (tt : TT) (δ : List Sl) (Φ : Bool → List Sl → Prop) : Prop :=
  ∀ (M : List Addr) (L : List (Addr × HO)) (G0 H0 G H : Hp) (σ : St), Cur K M L G0 H0 G H σ δ → ∀ Q : Bool → Hp → Prop,
    (∀ b δ' G' H', Same G G' → Cur K M L G0 H0 G' H' σ δ' → Φ b δ' → Q b H') → tt σ H Q
def EvA (K : PySem.W.Frag) (ta : TA) (δ : List Sl) (Φ : List D → List Sl → Prop) : Prop :=
  ∀ (M : List Addr) (L : List (Addr × HO)) (G0 H0 G H : Hp) (σ : St), Cur K M L G0 H0 G H σ δ → ∀ Q : List V → Hp → Prop,
    (∀ ds δ' vs G' H', Same G G' → Cur K M L G0 H0 G' H' σ δ' → Reps K G' ds vs → Φ ds δ' → Q vs H') → ta σ H Q
def EvO (K : PySem.W.Frag) (to : TO) (δ : List Sl) (Φ : Option Int → List Sl → Prop) : Prop :=
  ∀ (M : List Addr) (L : List (Addr × HO)) (G0 H0 G H : Hp) (σ : St), Cur K M L G0 H0 G H σ δ → ∀ Q : Option Int → Hp → Prop,
    (∀ o δ' G' H', Same G G' → Cur K M L G0 H0 G' H' σ δ' → Φ o δ' → Q o H') → to σ H Q
/-- what is wanted behind a statement -/
structure Po where
  nx : List Sl → Prop
  rt : Rs → List Sl → Prop
  bk : List Sl → Prop := fun _ => False
  ct : List Sl → Prop := fun _ => False
def SD (K : PySem.W.Frag) (ts : TS) (δ : List Sl) (P : Po) : Prop :=
  ∀ (M : List Addr) (L : List (Addr × HO)) (G0 H0 G H : Hp) (σ : St) (E : Ends), Cur K M L G0 H0 G H σ δ →
    (∀ δ' σ' G' H', Same G G' → Cur K M L G0 H0 G' H' σ' δ' → P.nx δ' → E.nx σ' H') →
    (∀ r δ' v σ' G' H', Cur K M L G0 H0 G' H' σ' δ' → RsOk K H0 G' H' r v → P.rt r δ' → E.rt v H') →
    (∀ δ' σ' G' H', Same G G' → Cur K M L G0 H0 G' H' σ' δ' → P.bk δ' → E.bk σ' H') →
    (∀ δ' σ' G' H', Same G G' → Cur K M L G0 H0 G' H' σ' δ' → P.ct δ' → E.ct σ' H') → ts E σ H
/-- an operation by values: data, or a new thing -/
def RD (K : PySem.W.Frag) (G H : Hp) (p : VK → Prop) (Ψ : D → Prop) : Prop := ∀ Q : VK, (∀ z u G' H', Grow [] G H G' H' → Rep K G' z u → Ψ z → Q u H') → p Q
def RN (K : PySem.W.Frag) (G H : Hp) (p : VK → Prop) (Ψ : OD → Prop) : Prop := ∀ Q : VK, (∀ o a G' H', Grow [] G H G' H' → H a = none → G' a = none → OwnAt K G' H' a o → Ψ o → Q (.ref a) H') → p Q
def R2D (K : PySem.W.Frag) (r : R2) (x y : D) (Ψ : D → Prop) : Prop := ∀ G H v w, Same G H → Rep K G x v → Rep K G y w → RD K G H (r v w H) Ψ
def R2N (K : PySem.W.Frag) (r : R2) (x y : D) (Ψ : OD → Prop) : Prop := ∀ G H v w, Same G H → Rep K G x v → Rep K G y w → RN K G H (r v w H) Ψ
def R1D (K : PySem.W.Frag) (r : V → Hp → VK → Prop) (x : D) (Ψ : D → Prop) : Prop := ∀ G H v, Same G H → Rep K G x v → RD K G H (r v H) Ψ
def RAD (K : PySem.W.Frag) (r : List V → Hp → VK → Prop) (xs : List D) (Ψ : D → Prop) : Prop := ∀ G H vs, Same G H → Reps K G xs vs → RD K G H (r vs H) Ψ
def RAN (K : PySem.W.Frag) (r : List V → Hp → VK → Prop) (xs : List D) (Ψ : OD → Prop) : Prop := ∀ G H vs, Same G H → Reps K G xs vs → RN K G H (r vs H) Ψ
def RMD (K : PySem.W.Frag) (T : String) (r : V → List V → Hp → VK → Prop) (x : D) (xs : List D) (Ψ : D → Prop) : Prop := ∀ G H v vs, Same G H → Rep K G x v → Reps K G xs vs → RD K G H (r v vs H) Ψ
def RMN (K : PySem.W.Frag) (T : String) (r : V → List V → Hp → VK → Prop) (x : D) (xs : List D) (Ψ : OD → Prop) : Prop := ∀ G H v vs, Same G H → Rep K G x v → Reps K G xs vs → RN K G H (r v vs H) Ψ
def TyD (K : PySem.W.Frag) (T : String) (x : D) : Prop := ∀ G H v, Same G H → Rep K G x v → tyV K T v H

section
variable {K : PySem.W.Frag} {M : List Addr} {L : List (Addr × HO)} {G0 H0 G H G' H' : Hp} {σ : St} {δ : List Sl}
theorem Cur.gh (c : Cur K M L G0 H0 G H σ δ) : Same G H := c.gr.gh
theorem Cur.fresh (c : Cur K M L G0 H0 G H σ δ) {a : Addr} (h : H a = none) : H0 a = none ∧ G a = none ∧ Apart σ δ a ∧ ∀ p ∈ L, p.1 ≠ a := by
  refine ⟨?_, ?_, fun j s hj ho e => ?_, fun p hp e => ?_⟩
  · cases q : H0 a with
    | none => rfl
    | some o => exact absurd h (c.gr.dom a (by rw [q]; simp))
  · exact Same.free c.gh h
  · obtain ⟨x, ex, w⟩ := c.ok j s hj
    rw [e] at ex; cases ex
    cases s with
    | no => cases ho
    | sh d => cases ho
    | ow o =>
      obtain ⟨b, e1, _, _, r⟩ := w
      cases e1
      obtain ⟨u, hu⟩ := r.is
      rw [h] at hu; cases hu
    | bx b n =>
      obtain ⟨e1, _, _, x, y, z, m, hx, _⟩ := w
      cases e1
      rw [h] at hx; cases hx
    | mo b o =>
      obtain ⟨e1, _, _, r⟩ := w
      cases e1
      obtain ⟨u, hu⟩ := r.is
      rw [h] at hu; cases hu
  · obtain ⟨q, _⟩ := c.pn p hp
    rw [e, h] at q; cases q
/-- a thing that no slot holds is frozen -/
theorem Cur.freezeNew (c : Cur K M L G0 H0 G H σ δ) {a : Addr} {u : HO} (n : G a = none) (h0 : H0 a = none) (hu : H a = some u) (ap : Apart σ δ a) (hL : ∀ p ∈ L, p.1 ≠ a) : Cur K M L G0 H0 (upd G a u) H σ δ := by
  have s : Same G (upd G a u) := fun b v e => by rw [upd_ne (ne_of_none e n)]; exact e
  refine ⟨⟨c.gr.g.trans s, fun b v e => ?_, c.gr.h, c.gr.dom, fun b hb => ?_⟩, c.len, fun j t h => ?_, c.ap, fun p hp => ?_⟩
  · by_cases hb : b = a
    · subst hb; rw [upd_same] at e; cases e; exact hu
    · rw [upd_ne hb] at e; exact c.gr.gh _ _ e
  · have : b ≠ a := fun z => hb (z ▸ h0)
    rw [upd_ne this]; exact c.gr.nw b hb
  · obtain ⟨x, e2, w2⟩ := c.ok j t h
    refine ⟨x, e2, ?_⟩
    cases t with
    | no => trivial
    | sh d => obtain ⟨v, e3, r3⟩ := w2; exact ⟨v, e3, r3.mono s⟩
    | ow o2 =>
      obtain ⟨b, e3, n3, h3, r3⟩ := w2
      subst e3
      refine ⟨b, rfl, ?_, h3, r3.mono s fun _ h => h⟩
      have : b ≠ a := fun z => by subst z; exact ap j _ h rfl e2
      rw [upd_ne this]; exact n3
    | bx b k =>
      obtain ⟨e3, n3, h3, r3⟩ := w2
      subst e3
      refine ⟨rfl, ?_, h3, r3⟩
      have : b ≠ a := fun z => by subst z; exact ap j _ h rfl e2
      rw [upd_ne this]; exact n3
    | mo b k =>
      obtain ⟨e3, n3, h3, r3⟩ := w2
      subst e3
      refine ⟨rfl, ?_, h3, r3.mono s fun _ h => h⟩
      have : b ≠ a := fun z => by subst z; exact ap j _ h rfl e2
      rw [upd_ne this]; exact n3
  · obtain ⟨e, n5, h5, q⟩ := c.pn p hp
    refine ⟨e, ?_, h5, q⟩
    rw [upd_ne (hL p hp)]; exact n5
theorem same_upd {a : Addr} {u : HO} (n : G a = none) : Same G (upd G a u) := fun b v e => by rw [upd_ne (ne_of_none e n)]; exact e
end

section
variable {K : PySem.W.Frag} {δ : List Sl} {te ta tb tc : TE} {t u : TT} {Φ : D → List Sl → Prop}
/-- a new thing, frozen -/
theorem EvN.d (h : EvN K te δ fun o δ' => Φ o.d δ') : EvD K te δ Φ := fun M L G0 H0 G H σ c Q q => by
  refine h M L G0 H0 G H σ c Q fun o δ' a G' H' s c' n h0 w ap hL p => ?_
  obtain ⟨v, hv, r⟩ := w.freeze n
  exact q o.d δ' _ _ H' (s.trans (same_upd n)) (c'.freezeNew n h0 hv ap hL) r p
theorem RN.d {G H : Hp} {p : VK → Prop} {Ψ : D → Prop} (h : RN K G H p fun o => Ψ o.d) : RD K G H p Ψ := fun Q q => by
  refine h Q fun o a G' H' g na n w z => ?_
  obtain ⟨v, hv, r⟩ := w.freeze n
  refine q o.d _ _ H' ⟨g.g.trans (same_upd n), fun b x e => ?_, g.h, g.dom, fun b hb => ?_⟩ r z
  · by_cases hb : b = a
    · subst hb; rw [upd_same] at e; cases e; exact hv
    · rw [upd_ne hb] at e; exact g.gh _ _ e
  · have : b ≠ a := fun z => hb (z ▸ na)
    rw [upd_ne this]; exact g.nw b hb
theorem R2N.d {r : R2} {x y : D} {Ψ : D → Prop} (h : R2N K r x y fun o => Ψ o.d) : R2D K r x y Ψ := fun G H v w s a b => (h G H v w s a b).d
theorem RAN.d {r : List V → Hp → VK → Prop} {xs : List D} {Ψ : D → Prop} (h : RAN K r xs fun o => Ψ o.d) : RAD K r xs Ψ := fun G H vs s a => (h G H vs s a).d
theorem RMN.d {T : String} {r : V → List V → Hp → VK → Prop} {x : D} {xs : List D} {Ψ : D → Prop} (h : RMN K T r x xs fun o => Ψ o.d) : RMD K T r x xs Ψ := fun G H v vs s a b => (h G H v vs s a b).d
/-- a value, nothing made -/
theorem RD.val {G H : Hp} {p : VK → Prop} {Ψ : D → Prop} {z : D} {u : V} (e : Same G H) (r : Rep K G z u) (w : Ψ z) (h : ∀ Q : VK, Q u H → p Q) : RD K G H p Ψ := fun Q q => h Q (q z u G H (.refl e) r w)
/-- a new list -/
theorem RN.lst {G H : Hp} {p : VK → Prop} {Ψ : OD → Prop} {ds : List D} {xs : List V} (e : Same G H) (r : Reps K G ds xs) (w : Ψ (.lst ds)) (h : ∀ Q : VK, (∀ a, H a = none → Q (.ref a) (upd H a (.lst xs))) → p Q) : RN K G H p Ψ := fun Q q =>
  h Q fun a na => q (.lst ds) a G _ (.newH e na) na (Same.free e na) ⟨xs, upd_same, r⟩ w
/-- a new tuple -/
theorem RD.tup {G H : Hp} {p : VK → Prop} {Ψ : D → Prop} {ds : List D} {xs : List V} (e : Same G H) (r : Reps K G ds xs) (w : Ψ (.tup ds)) (h : ∀ Q : VK, (∀ a, H a = none → Q (.ref a) (upd H a (.tup xs))) → p Q) : RD K G H p Ψ := fun Q q =>
  h Q fun a na => q (.tup ds) _ _ _ (.new e na) (rep_tup (SqT.of upd_same) (r.mono (same_upd (Same.free e na)))) w

/-! ### expressions -/
theorem ev_var {i : Nat} {d : D} (h : δ[i]? = some (.sh d)) (k : Φ d δ) : EvD K (tVar i) δ Φ := fun M L G0 H0 G H σ c Q q => by
  obtain ⟨x, ex, v, e1, r⟩ := c.ok i _ h
  subst e1
  exact ⟨v, ex, q d δ v G H (.refl _) c r k⟩
/-- an own thing read as data: it is frozen -/
theorem ev_varF {i : Nat} {o : OD} (h : δ[i]? = some (.ow o)) (k : Φ o.d (δ.set i (.sh o.d))) : EvD K (tVar i) δ Φ := fun M L G0 H0 G H σ c Q q => by
  obtain ⟨a, u, ex, hu, n, r, c'⟩ := c.freeze h
  exact ⟨_, ex, q o.d _ _ _ H (same_upd n) c' r k⟩
theorem ev_c {v : V} {d : D} (r : ∀ G, Rep K G d v) (k : Φ d δ) : EvD K (tC v) δ Φ := fun M L G0 H0 G H σ c Q q => q d δ v G H (.refl _) c (r G) k
theorem ev_int {i : Int} (k : Φ (.int i) δ) : EvD K (tC (.int i)) δ Φ := ev_c (fun _ => rep_int i) k
theorem ev_str {x : Str} (k : Φ (.str x) δ) : EvD K (tC (.str x)) δ Φ := ev_c (fun _ => rep_str x) k
theorem ev_bl {b : Bool} (k : Φ (.bl b) δ) : EvD K (tC (.bl b)) δ Φ := ev_c (fun _ => rep_bl b) k
theorem ev_non (k : Φ .non δ) : EvD K (tC .non) δ Φ := ev_c (fun _ => rep_non) k
theorem ev_op {r : R2} (h : EvD K ta δ fun x δ1 => EvD K tb δ1 fun y δ2 => R2D K r x y fun z => Φ z δ2) : EvD K (tOp r ta tb) δ Φ := fun M L G0 H0 G H σ c Q q =>
  h M L G0 H0 G H σ c _ fun x δ1 v G1 H1 s1 c1 r1 h1 => h1 M L G0 H0 G1 H1 σ c1 _ fun y δ2 w G2 H2 s2 c2 r2 h2 =>
    h2 G2 H2 v w c2.gh (r1.mono s2) r2 Q fun z u G' H' g rz hz => q z δ2 u G' H' ((s1.trans s2).trans g.g) (c2.grow g) rz hz
theorem en_op {r : R2} {Φ : OD → List Sl → Prop} (h : EvD K ta δ fun x δ1 => EvD K tb δ1 fun y δ2 => R2N K r x y fun z => Φ z δ2) : EvN K (tOp r ta tb) δ Φ := fun M L G0 H0 G H σ c Q q =>
  h M L G0 H0 G H σ c _ fun x δ1 v G1 H1 s1 c1 r1 h1 => h1 M L G0 H0 G1 H1 σ c1 _ fun y δ2 w G2 H2 s2 c2 r2 h2 =>
    h2 G2 H2 v w c2.gh (r1.mono s2) r2 Q fun o a G' H' g na n w hz => let f := c2.fresh na; q o δ2 a G' H' ((s1.trans s2).trans g.g) (c2.grow g) n f.1 w f.2.2.1 f.2.2.2 hz
theorem ev_un {r : V → Hp → VK → Prop} (h : EvD K ta δ fun x δ1 => R1D K r x fun z => Φ z δ1) : EvD K (tUn r ta) δ Φ := fun M L G0 H0 G H σ c Q q =>
  h M L G0 H0 G H σ c _ fun x δ1 v G1 H1 s1 c1 r1 h1 => h1 G1 H1 v c1.gh r1 Q fun z u G' H' g rz hz => q z δ1 u G' H' (s1.trans g.g) (c1.grow g) rz hz
theorem ea_nil {Φ : List D → List Sl → Prop} (k : Φ [] δ) : EvA K tNil δ Φ := fun M L G0 H0 G H σ c Q q => q [] δ [] G H (.refl _) c .nil k
theorem ea_cons {tr : TA} {Φ : List D → List Sl → Prop} (h : EvD K ta δ fun x δ1 => EvA K tr δ1 fun xs δ2 => Φ (x :: xs) δ2) : EvA K (tCons ta tr) δ Φ := fun M L G0 H0 G H σ c Q q =>
  h M L G0 H0 G H σ c _ fun x δ1 v G1 H1 s1 c1 r1 h1 => h1 M L G0 H0 G1 H1 σ c1 _ fun xs δ2 vs G2 H2 s2 c2 r2 h2 => q (x :: xs) δ2 (v :: vs) G2 H2 (s1.trans s2) c2 (.cons (r1.mono s2) r2) h2
theorem ev_cb {r : List V → Hp → VK → Prop} {t : TA} (h : EvA K t δ fun xs δ1 => RAD K r xs fun z => Φ z δ1) : EvD K (tCB r t) δ Φ := fun M L G0 H0 G H σ c Q q =>
  h M L G0 H0 G H σ c _ fun x δ1 v G1 H1 s1 c1 r1 h1 => h1 G1 H1 v c1.gh r1 Q fun z u G' H' g rz hz => q z δ1 u G' H' (s1.trans g.g) (c1.grow g) rz hz
theorem en_cb {r : List V → Hp → VK → Prop} {t : TA} {Φ : OD → List Sl → Prop} (h : EvA K t δ fun xs δ1 => RAN K r xs fun z => Φ z δ1) : EvN K (tCB r t) δ Φ := fun M L G0 H0 G H σ c Q q =>
  h M L G0 H0 G H σ c _ fun x δ1 v G1 H1 s1 c1 r1 h1 => h1 G1 H1 v c1.gh r1 Q fun o a G' H' g na n w hz => let f := c1.fresh na; q o δ1 a G' H' (s1.trans g.g) (c1.grow g) n f.1 w f.2.2.1 f.2.2.2 hz
theorem ev_bm {T : String} {r : V → List V → Hp → VK → Prop} {t : TA} (h : EvD K ta δ fun x δ1 => TyD K T x ∧ EvA K t δ1 fun xs δ2 => RMD K T r x xs fun z => Φ z δ2) : EvD K (tBM K T r ta t) δ Φ := fun M L G0 H0 G H σ c Q q =>
  h M L G0 H0 G H σ c _ fun x δ1 v G1 H1 s1 c1 r1 ⟨ty, h1⟩ => ⟨ty G1 H1 v c1.gh r1, h1 M L G0 H0 G1 H1 σ c1 _ fun xs δ2 vs G2 H2 s2 c2 r2 h2 =>
    h2 G2 H2 v vs c2.gh (r1.mono s2) r2 Q fun z u G' H' g rz hz => q z δ2 u G' H' ((s1.trans s2).trans g.g) (c2.grow g) rz hz⟩
theorem en_bm {T : String} {r : V → List V → Hp → VK → Prop} {t : TA} {Φ : OD → List Sl → Prop} (h : EvD K ta δ fun x δ1 => TyD K T x ∧ EvA K t δ1 fun xs δ2 => RMN K T r x xs fun z => Φ z δ2) : EvN K (tBM K T r ta t) δ Φ := fun M L G0 H0 G H σ c Q q =>
  h M L G0 H0 G H σ c _ fun x δ1 v G1 H1 s1 c1 r1 ⟨ty, h1⟩ => ⟨ty G1 H1 v c1.gh r1, h1 M L G0 H0 G1 H1 σ c1 _ fun xs δ2 vs G2 H2 s2 c2 r2 h2 =>
    h2 G2 H2 v vs c2.gh (r1.mono s2) r2 Q fun o a G' H' g na n w hz => let f := c2.fresh na; q o δ2 a G' H' ((s1.trans s2).trans g.g) (c2.grow g) n f.1 w f.2.2.1 f.2.2.2 hz⟩
theorem ev_bm0 {T : String} {r : V → List V → Hp → VK → Prop} (h : EvD K ta δ fun x δ1 => TyD K T x ∧ RMD K T r x [] fun z => Φ z δ1) : EvD K (tBM0 K T r ta) δ Φ := fun M L G0 H0 G H σ c Q q =>
  h M L G0 H0 G H σ c _ fun x δ1 v G1 H1 s1 c1 r1 ⟨ty, h2⟩ => ⟨ty G1 H1 v c1.gh r1,
    h2 G1 H1 v [] c1.gh r1 .nil Q fun z u G' H' g rz hz => q z δ1 u G' H' (s1.trans g.g) (c1.grow g) rz hz⟩
/-- methods of texts -/
theorem ev_m0 {r : V → List V → Hp → VK → Prop} (h : EvD K ta δ fun x δ1 => (∃ z, x = .str z) ∧ RMD K "str" r x [] fun z => Φ z δ1) : EvD K (tM0 r ta) δ Φ := fun M L G0 H0 G H σ c Q q =>
  h M L G0 H0 G H σ c _ fun x δ1 v G1 H1 s1 c1 r1 ⟨⟨z, ez⟩, h2⟩ => ⟨⟨z, by subst ez; exact r1.str_inv⟩,
    h2 G1 H1 v [] c1.gh r1 .nil Q fun z u G' H' g rz hz => q z δ1 u G' H' (s1.trans g.g) (c1.grow g) rz hz⟩
theorem ev_m1 {r : V → List V → Hp → VK → Prop} (h : EvD K ta δ fun x δ1 => (∃ z, x = .str z) ∧ EvD K tb δ1 fun y δ2 => RMD K "str" r x [y] fun z => Φ z δ2) : EvD K (tM1 r ta tb) δ Φ := fun M L G0 H0 G H σ c Q q =>
  h M L G0 H0 G H σ c _ fun x δ1 v G1 H1 s1 c1 r1 ⟨⟨z, ez⟩, h1⟩ => ⟨⟨z, by subst ez; exact r1.str_inv⟩, h1 M L G0 H0 G1 H1 σ c1 _ fun y δ2 w G2 H2 s2 c2 r2 h2 =>
    h2 G2 H2 v [w] c2.gh (r1.mono s2) (.one r2) Q fun z u G' H' g rz hz => q z δ2 u G' H' ((s1.trans s2).trans g.g) (c2.grow g) rz hz⟩
theorem en_m1 {r : V → List V → Hp → VK → Prop} {Φ : OD → List Sl → Prop} (h : EvD K ta δ fun x δ1 => (∃ z, x = .str z) ∧ EvD K tb δ1 fun y δ2 => RMN K "str" r x [y] fun z => Φ z δ2) : EvN K (tM1 r ta tb) δ Φ := fun M L G0 H0 G H σ c Q q =>
  h M L G0 H0 G H σ c _ fun x δ1 v G1 H1 s1 c1 r1 ⟨⟨z, ez⟩, h1⟩ => ⟨⟨z, by subst ez; exact r1.str_inv⟩, h1 M L G0 H0 G1 H1 σ c1 _ fun y δ2 w G2 H2 s2 c2 r2 h2 =>
    h2 G2 H2 v [w] c2.gh (r1.mono s2) (.one r2) Q fun o a G' H' g na n w hz => let f := c2.fresh na; q o δ2 a G' H' ((s1.trans s2).trans g.g) (c2.grow g) n f.1 w f.2.2.1 f.2.2.2 hz⟩
theorem ev_tup {t : TA} (h : EvA K t δ fun xs δ1 => xs.length ≤ sizeLine ∧ Φ (.tup xs) δ1) : EvD K (tTup t) δ Φ := fun M L G0 H0 G H σ c Q q =>
  h M L G0 H0 G H σ c _ fun ds δ1 vs G1 H1 s1 c1 r1 ⟨hl, h1⟩ => ⟨by rw [r1.len]; exact hl, fun p hp => by
    have g : Grow [] G1 H1 (upd G1 p (.tup vs)) (upd H1 p (.tup vs)) := .new c1.gh hp
    exact q _ δ1 _ _ _ (s1.trans g.g) (c1.grow g) (rep_tup (SqT.of upd_same) (r1.mono g.g)) h1⟩
theorem en_lst {t : TA} {Φ : OD → List Sl → Prop} (h : EvA K t δ fun xs δ1 => xs.length ≤ sizeLine ∧ Φ (.lst xs) δ1) : EvN K (tLst t) δ Φ := fun M L G0 H0 G H σ c Q q =>
  h M L G0 H0 G H σ c _ fun ds δ1 vs G1 H1 s1 c1 r1 ⟨hl, h1⟩ => ⟨by rw [r1.len]; exact hl, fun p hp => by
    have f := c1.fresh hp
    exact q (.lst ds) δ1 p G1 _ s1 (c1.grow (.newH c1.gh hp)) f.2.1 f.1 ⟨vs, upd_same, r1⟩ f.2.2.1 f.2.2.2 h1⟩
theorem en_dnew {Φ : OD → List Sl → Prop} (k : Φ (.dic []) δ) : EvN K tDNewK δ Φ := fun M L G0 H0 G H σ c Q q p hp => by
  have f := c.fresh hp
  exact q (.dic []) δ p G _ (.refl _) (c.grow (.newH c.gh hp)) f.2.1 f.1 ⟨[], upd_same, by simp only [RepK]⟩ f.2.2.1 f.2.2.2 k
/-! ### tests -/
variable {Ψ : Bool → List Sl → Prop}
theorem et_B (h : EvD K te δ fun d δ1 => ∃ b, d = .bl b ∧ Ψ b δ1) : EvT K (tB te) δ Ψ := fun M L G0 H0 G H σ c Q q =>
  h M L G0 H0 G H σ c _ fun d δ1 v G1 H1 s1 c1 r1 ⟨b, e, h1⟩ => ⟨b, by subst e; exact r1.bl_inv, q b δ1 G1 H1 s1 c1 h1⟩
theorem et_test (h : EvD K te δ fun d δ1 => ∃ b, d = .bl b ∧ Ψ b δ1) : EvT K (tTest te) δ Ψ := fun M L G0 H0 G H σ c Q q =>
  h M L G0 H0 G H σ c _ fun d δ1 v G1 H1 s1 c1 r1 ⟨b, e, h1⟩ => ⟨b, by subst e; exact r1.bl_inv, q b δ1 G1 H1 s1 c1 h1⟩
theorem et_and (h : EvT K t δ fun b δ1 => if b = true then EvT K u δ1 Ψ else Ψ false δ1) : EvT K (tAnd t u) δ Ψ := fun M L G0 H0 G H σ c Q q =>
  h M L G0 H0 G H σ c _ fun b δ1 G1 H1 s1 c1 h1 => by
    cases b with
    | true => exact iteT ((show EvT K u δ1 Ψ from h1) M L G0 H0 G1 H1 σ c1 Q fun b δ2 G2 H2 s2 c2 h2 => q b δ2 G2 H2 (s1.trans s2) c2 h2)
    | false => exact iteF (q false δ1 G1 H1 s1 c1 h1)
theorem et_or (h : EvT K t δ fun b δ1 => if b = true then Ψ true δ1 else EvT K u δ1 Ψ) : EvT K (tOr t u) δ Ψ := fun M L G0 H0 G H σ c Q q =>
  h M L G0 H0 G H σ c _ fun b δ1 G1 H1 s1 c1 h1 => by
    cases b with
    | true => exact iteT (q true δ1 G1 H1 s1 c1 h1)
    | false => exact iteF ((show EvT K u δ1 Ψ from h1) M L G0 H0 G1 H1 σ c1 Q fun b δ2 G2 H2 s2 c2 h2 => q b δ2 G2 H2 (s1.trans s2) c2 h2)
theorem et_not (h : EvT K t δ fun b δ1 => Ψ (!b) δ1) : EvT K (tNot t) δ Ψ := fun M L G0 H0 G H σ c Q q =>
  h M L G0 H0 G H σ c _ fun b δ1 G1 H1 s1 c1 h1 => q (!b) δ1 G1 H1 s1 c1 h1
theorem ev_and (h : EvD K ta δ fun d δ1 => ∃ b, d = .bl b ∧ if b = true then EvD K tb δ1 Φ else Φ (.bl false) δ1) : EvD K (tAndV ta tb) δ Φ := fun M L G0 H0 G H σ c Q q =>
  h M L G0 H0 G H σ c _ fun d δ1 v G1 H1 s1 c1 r1 ⟨b, e, h1⟩ => ⟨b, by subst e; exact r1.bl_inv, by
    cases b with
    | true => exact iteT ((show EvD K tb δ1 Φ from h1) M L G0 H0 G1 H1 σ c1 Q fun d δ2 v G2 H2 s2 c2 r2 h2 => q d δ2 v G2 H2 (s1.trans s2) c2 r2 h2)
    | false => exact iteF (q _ δ1 _ G1 H1 s1 c1 (rep_bl false) h1)⟩
theorem ev_or (h : EvD K ta δ fun d δ1 => ∃ b, d = .bl b ∧ if b = true then Φ (.bl true) δ1 else EvD K tb δ1 Φ) : EvD K (tOrV ta tb) δ Φ := fun M L G0 H0 G H σ c Q q =>
  h M L G0 H0 G H σ c _ fun d δ1 v G1 H1 s1 c1 r1 ⟨b, e, h1⟩ => ⟨b, by subst e; exact r1.bl_inv, by
    cases b with
    | true => exact iteT (q _ δ1 _ G1 H1 s1 c1 (rep_bl true) h1)
    | false => exact iteF ((show EvD K tb δ1 Φ from h1) M L G0 H0 G1 H1 σ c1 Q fun d δ2 v G2 H2 s2 c2 r2 h2 => q d δ2 v G2 H2 (s1.trans s2) c2 r2 h2)⟩
theorem ev_not (h : EvD K ta δ fun d δ1 => ∃ b, d = .bl b ∧ Φ (.bl (!b)) δ1) : EvD K (tNotV ta) δ Φ := fun M L G0 H0 G H σ c Q q =>
  h M L G0 H0 G H σ c _ fun d δ1 v G1 H1 s1 c1 r1 ⟨b, e, h1⟩ => ⟨b, by subst e; exact r1.bl_inv, q _ δ1 _ G1 H1 s1 c1 (rep_bl _) h1⟩
theorem ev_if (h : EvT K t δ fun b δ1 => if b = true then EvD K ta δ1 Φ else EvD K tb δ1 Φ) : EvD K (tIf t ta tb) δ Φ := fun M L G0 H0 G H σ c Q q =>
  h M L G0 H0 G H σ c _ fun b δ1 G1 H1 s1 c1 h1 => by
    cases b with
    | true => exact iteT ((show EvD K ta δ1 Φ from h1) M L G0 H0 G1 H1 σ c1 Q fun d δ2 v G2 H2 s2 c2 r2 h2 => q d δ2 v G2 H2 (s1.trans s2) c2 r2 h2)
    | false => exact iteF ((show EvD K tb δ1 Φ from h1) M L G0 H0 G1 H1 σ c1 Q fun d δ2 v G2 H2 s2 c2 r2 h2 => q d δ2 v G2 H2 (s1.trans s2) c2 r2 h2)
theorem en_if {Φ : OD → List Sl → Prop} (h : EvT K t δ fun b δ1 => if b = true then EvN K ta δ1 Φ else EvN K tb δ1 Φ) : EvN K (tIf t ta tb) δ Φ := fun M L G0 H0 G H σ c Q q =>
  h M L G0 H0 G H σ c _ fun b δ1 G1 H1 s1 c1 h1 => by
    cases b with
    | true => exact iteT ((show EvN K ta δ1 Φ from h1) M L G0 H0 G1 H1 σ c1 Q fun d δ2 v G2 H2 s2 c2 r2 => q d δ2 v G2 H2 (s1.trans s2) c2 r2)
    | false => exact iteF ((show EvN K tb δ1 Φ from h1) M L G0 H0 G1 H1 σ c1 Q fun d δ2 v G2 H2 s2 c2 r2 => q d δ2 v G2 H2 (s1.trans s2) c2 r2)
theorem ev_chain {r r' : R2} (h : EvD K ta δ fun x δ1 => EvD K tb δ1 fun y δ2 => R2D K r x y fun z => ∃ b, z = .bl b ∧ if b = true then EvD K tc δ2 (fun w δ3 => R2D K r' y w fun z => Φ z δ3) else Φ (.bl false) δ2) : EvD K (tChain r r' ta tb tc) δ Φ := fun M L G0 H0 G H σ c Q q =>
  h M L G0 H0 G H σ c _ fun x δ1 v G1 H1 s1 c1 r1 h1 => h1 M L G0 H0 G1 H1 σ c1 _ fun y δ2 w G2 H2 s2 c2 r2 h2 =>
    h2 G2 H2 v w c2.gh (r1.mono s2) r2 _ fun z u G3 H3 g rz ⟨b, e, hz⟩ => ⟨b, by subst e; exact rz.bl_inv, by
      cases b with
      | true => exact iteT ((show EvD K tc δ2 (fun w δ3 => R2D K r' y w fun z => Φ z δ3) from hz) M L G0 H0 G3 H3 σ (c2.grow g) _ fun w' δ3 v' G4 H4 s4 c4 r4 h4 =>
          h4 G4 H4 w v' c4.gh ((r2.mono g.g).mono s4) r4 Q fun z u G5 H5 g5 rz hz => q z δ3 u G5 H5 ((((s1.trans s2).trans g.g).trans s4).trans g5.g) (c4.grow g5) rz hz)
      | false => exact iteF (q _ δ2 _ G3 H3 ((s1.trans s2).trans g.g) (c2.grow g) (rep_bl false) hz)⟩
/-! ### slices -/
theorem eo_none {Φ : Option Int → List Sl → Prop} (k : Φ none δ) : EvO K tNoPart δ Φ := fun M L G0 H0 G H σ c Q q => q none δ G H (.refl _) c k
theorem eo_some {Φ : Option Int → List Sl → Prop} (h : EvD K te δ fun d δ1 => ∃ i, d = .int i ∧ Φ (some i) δ1) : EvO K (tPart te) δ Φ := fun M L G0 H0 G H σ c Q q =>
  h M L G0 H0 G H σ c _ fun d δ1 v G1 H1 s1 c1 r1 ⟨i, e, h1⟩ => ⟨i, by subst e; exact r1.int_inv, q _ δ1 G1 H1 s1 c1 h1⟩
def RSD (K : PySem.W.Frag) (r : V → Option Int → Option Int → Hp → VK → Prop) (x : D) (lo hi : Option Int) (Ψ : D → Prop) : Prop := ∀ G H v, Same G H → Rep K G x v → RD K G H (r v lo hi H) Ψ
def RSN (K : PySem.W.Frag) (r : V → Option Int → Option Int → Hp → VK → Prop) (x : D) (lo hi : Option Int) (Ψ : OD → Prop) : Prop := ∀ G H v, Same G H → Rep K G x v → RN K G H (r v lo hi H) Ψ
theorem ev_sl {r : V → Option Int → Option Int → Hp → VK → Prop} {tl th : TO} (h : EvD K te δ fun x δ1 => EvO K tl δ1 fun lo δ2 => EvO K th δ2 fun hi δ3 => RSD K r x lo hi fun z => Φ z δ3) : EvD K (tSl r te tl th) δ Φ := fun M L G0 H0 G H σ c Q q =>
  h M L G0 H0 G H σ c _ fun x δ1 v G1 H1 s1 c1 r1 h1 => h1 M L G0 H0 G1 H1 σ c1 _ fun lo δ2 G2 H2 s2 c2 h2 => h2 M L G0 H0 G2 H2 σ c2 _ fun hi δ3 G3 H3 s3 c3 h3 =>
    h3 G3 H3 v c3.gh ((r1.mono s2).mono s3) Q fun z u G' H' g rz hz => q z δ3 u G' H' (((s1.trans s2).trans s3).trans g.g) (c3.grow g) rz hz
theorem en_sl {r : V → Option Int → Option Int → Hp → VK → Prop} {tl th : TO} {Φ : OD → List Sl → Prop} (h : EvD K te δ fun x δ1 => EvO K tl δ1 fun lo δ2 => EvO K th δ2 fun hi δ3 => RSN K r x lo hi fun z => Φ z δ3) : EvN K (tSl r te tl th) δ Φ := fun M L G0 H0 G H σ c Q q =>
  h M L G0 H0 G H σ c _ fun x δ1 v G1 H1 s1 c1 r1 h1 => h1 M L G0 H0 G1 H1 σ c1 _ fun lo δ2 G2 H2 s2 c2 h2 => h2 M L G0 H0 G2 H2 σ c2 _ fun hi δ3 G3 H3 s3 c3 h3 =>
    h3 G3 H3 v c3.gh ((r1.mono s2).mono s3) Q fun o a G' H' g na n w hz => let f := c3.fresh na; q o δ3 a G' H' (((s1.trans s2).trans s3).trans g.g) (c3.grow g) n f.1 w f.2.2.1 f.2.2.2 hz
end

/-! ### promises over data -/
abbrev FS := List D → (Rs → Prop) → Prop
def spG (K : PySem.W.Frag) (A : FS) : Sp := fun vs H Q _ => ∃ (G : Hp) (ds : List D) (post : Rs → Prop), Same G H ∧ Reps K G ds vs ∧ A ds post ∧ ∀ r v G' H', Grow [] G H G' H' → RsOk K H G' H' r v → post r → Q v H'
/-- .. of a def whose first argument is a box -/
abbrev FX := Nat → List D → (Rs → Nat → Prop) → Prop
def spX (K : PySem.W.Frag) (A : FX) : Sp := fun vs H Q _ => ∃ (G : Hp) (b : Addr) (ws : List V) (ds : List D) (n : Nat) (post : Rs → Nat → Prop), Same G H ∧ vs = .ref b :: ws ∧ Reps K G ds ws ∧ G b = none ∧ BoxAt H b n ∧ A n ds post ∧
  ∀ r v m G' H', Grow [b] G H G' H' → G' b = none → BoxAt H' b m → RsOk K H G' H' r v → post r m → Q v H'
section
variable {K : PySem.W.Frag} {δ : List Sl} {t : TA} {E : XK} {Φ : D → List Sl → Prop}
theorem ev_call {A : FS} (h : EvA K t δ fun ds δ1 => A ds fun r => Φ r.d δ1) : EvD K (tCall (spG K A) [] E t) δ Φ := fun M L G0 H0 G H σ c Q q =>
  h M L G0 H0 G H σ c _ fun ds δ1 vs G1 H1 s1 c1 r1 h1 => by
    rw [List.append_nil]
    refine ⟨G1, ds, _, c1.gh, r1, h1, fun r v G' H' g ok p => ?_⟩
    cases r with
    | val d => exact q d δ1 v G' H' (s1.trans g.g) (c1.grow g) ok p
    | new o =>
      obtain ⟨a, rfl, na, n, w⟩ := ok
      obtain ⟨u, hu, rz⟩ := w.freeze n
      have f := c1.fresh na
      have c2 := c1.grow g
      exact q o.d δ1 _ _ H' ((s1.trans g.g).trans (same_upd n)) (c2.freezeNew n f.1 hu f.2.2.1 f.2.2.2) rz p
theorem en_call {A : FS} {Φ : OD → List Sl → Prop} (h : EvA K t δ fun ds δ1 => A ds fun r => ∃ o, r = .new o ∧ Φ o δ1) : EvN K (tCall (spG K A) [] E t) δ Φ := fun M L G0 H0 G H σ c Q q =>
  h M L G0 H0 G H σ c _ fun ds δ1 vs G1 H1 s1 c1 r1 h1 => by
    rw [List.append_nil]
    refine ⟨G1, ds, _, c1.gh, r1, h1, fun r v G' H' g ok ⟨o, e, p⟩ => ?_⟩
    subst e
    obtain ⟨a, rfl, na, n, w⟩ := ok
    have f := c1.fresh na
    exact q o δ1 _ _ H' (s1.trans g.g) (c1.grow g) n f.1 w f.2.2.1 f.2.2.2 p
theorem ev_callX {A : FX} {i n : Nat} {b : Addr} (hb : δ[i]? = some (.bx b n)) (h : EvA K t δ fun ds δ1 => ∃ m, δ1[i]? = some (.bx b m) ∧ A m ds fun r m' => Φ r.d (δ1.set i (.bx b m'))) : EvD K (tCall (spX K A) [] E (tCons (tVar i) t)) δ Φ := fun M L G0 H0 G H σ c Q q => by
  obtain ⟨x, ex, e1, _⟩ := c.ok i _ hb
  subst e1
  refine ⟨_, ex, h M L G0 H0 G H σ c _ fun ds δ1 vs G1 H1 s1 c1 r1 ⟨m, hm, h1⟩ => ?_⟩
  obtain ⟨y, ey, e2, nb, hM, box⟩ := c1.ok i _ hm
  rw [List.append_nil]
  refine ⟨G1, b, vs, ds, m, _, c1.gh, rfl, r1, nb, box, h1, fun r v m' G' H' g nb' box' ok p => ?_⟩
  have c2 := c1.box hm g nb' box'
  cases r with
  | val d => exact q d _ v G' H' (s1.trans g.g) c2 ok p
  | new o =>
    obtain ⟨a, rfl, na, n2, w⟩ := ok
    obtain ⟨u, hu, rz⟩ := w.freeze n2
    have f := c1.fresh na
    have ap : Apart σ (δ1.set i (.bx b m')) a := fun j s hj ho => by
      rw [List.getElem?_set] at hj
      by_cases e : i = j
      · subst e; exact f.2.2.1 i _ hm rfl
      · rw [if_neg e] at hj; exact f.2.2.1 j s hj ho
    exact q o.d _ _ _ H' ((s1.trans g.g).trans (same_upd n2)) (c2.freezeNew n2 f.1 hu ap f.2.2.2) rz p
theorem en_callX {A : FX} {i n : Nat} {b : Addr} {Φ : OD → List Sl → Prop} (hb : δ[i]? = some (.bx b n)) (h : EvA K t δ fun ds δ1 => ∃ m, δ1[i]? = some (.bx b m) ∧ A m ds fun r m' => ∃ o, r = .new o ∧ Φ o (δ1.set i (.bx b m'))) : EvN K (tCall (spX K A) [] E (tCons (tVar i) t)) δ Φ := fun M L G0 H0 G H σ c Q q => by
  obtain ⟨x, ex, e1, _⟩ := c.ok i _ hb
  subst e1
  refine ⟨_, ex, h M L G0 H0 G H σ c _ fun ds δ1 vs G1 H1 s1 c1 r1 ⟨m, hm, h1⟩ => ?_⟩
  obtain ⟨y, ey, e2, nb, hM, box⟩ := c1.ok i _ hm
  rw [List.append_nil]
  refine ⟨G1, b, vs, ds, m, _, c1.gh, rfl, r1, nb, box, h1, fun r v m' G' H' g nb' box' ok ⟨o, e, p⟩ => ?_⟩
  have c2 := c1.box hm g nb' box'
  subst e
  obtain ⟨a, rfl, na, n2, w⟩ := ok
  have f := c1.fresh na
  have ap : Apart σ (δ1.set i (.bx b m')) a := fun j s hj ho => by
    rw [List.getElem?_set] at hj
    by_cases e : i = j
    · subst e; exact f.2.2.1 i _ hm rfl
    · rw [if_neg e] at hj; exact f.2.2.1 j s hj ho
  exact q o _ _ _ H' (s1.trans g.g) c2 n2 f.1 w ap f.2.2.2 p
end

/-! ### statements -/
section
variable {K : PySem.W.Frag} {δ : List Sl} {te ta tb tc : TE} {t : TT} {tu tw tz : TS} {P : Po}
theorem sd_next (k : P.nx δ) : SD K tNext δ P := fun M L G0 H0 G H σ E c n r b ct => n δ σ G H (.refl _) c k
theorem sd_seq (h : SD K tu δ { P with nx := fun δ' => SD K tz δ' P }) : SD K (tSeq tu tz) δ P := fun M L G0 H0 G H σ E c n r b ct =>
  h M L G0 H0 G H σ _ c (fun δ' σ' G' H' s c' k => k M L G0 H0 G' H' σ' E c' (fun d2 z2 G2 H2 s2 => n d2 z2 G2 H2 (s.trans s2)) r (fun d2 z2 G2 H2 s2 => b d2 z2 G2 H2 (s.trans s2)) (fun d2 z2 G2 H2 s2 => ct d2 z2 G2 H2 (s.trans s2))) r b ct
theorem sd_break (k : P.bk δ) : SD K tBreak δ P := fun M L G0 H0 G H σ E c n r b ct => b δ σ G H (.refl _) c k
theorem sd_cont (k : P.ct δ) : SD K tCont δ P := fun M L G0 H0 G H σ E c n r b ct => ct δ σ G H (.refl _) c k
theorem sd_drop (h : EvD K te δ fun _ δ1 => P.nx δ1) : SD K (tDrop te) δ P := fun M L G0 H0 G H σ E c n r b ct =>
  h M L G0 H0 G H σ c _ fun d δ1 v G1 H1 s1 c1 r1 k => n δ1 σ G1 H1 s1 c1 k
theorem sd_ret (h : EvD K te δ fun d δ1 => P.rt (.val d) δ1) : SD K (tRet te) δ P := fun M L G0 H0 G H σ E c n r b ct =>
  h M L G0 H0 G H σ c _ fun d δ1 v G1 H1 s1 c1 r1 k => r (.val d) δ1 v σ G1 H1 c1 r1 k
theorem sd_retN (h : EvN K te δ fun o δ1 => P.rt (.new o) δ1) : SD K (tRet te) δ P := fun M L G0 H0 G H σ E c n r b ct =>
  h M L G0 H0 G H σ c _ fun o δ1 a G1 H1 s1 c1 na h0 w ap hL k => r (.new o) δ1 _ σ G1 H1 c1 ⟨a, rfl, h0, na, w⟩ k
/-- an own local handed back as it is -/
theorem sd_retO {i : Nat} {o : OD} (h : δ[i]? = some (.ow o)) (k : P.rt (.new o) δ) : SD K (tRet (tVar i)) δ P := fun M L G0 H0 G H σ E c n r b ct => by
  obtain ⟨x, ex, a, e1, na, h0, w⟩ := c.ok i _ h
  subst e1
  exact ⟨_, ex, r (.new o) δ _ σ G H c ⟨a, rfl, h0, na, w⟩ k⟩
theorem sd_ret0 (k : P.rt (.val .non) δ) : SD K tRetN δ P := fun M L G0 H0 G H σ E c n r b ct => r (.val .non) δ _ σ G H c (rep_non (K := K) (G := G)) k
theorem sd_if (h : EvT K t δ fun b δ1 => if b = true then SD K tu δ1 P else SD K tw δ1 P) : SD K (tIfS t tu tw) δ P := fun M L G0 H0 G H σ E c n r bk ct =>
  h M L G0 H0 G H σ c _ fun b δ1 G1 H1 s1 c1 h1 => by
    cases b with
    | true => exact iteT ((show SD K tu δ1 P from h1) M L G0 H0 G1 H1 σ E c1 (fun d2 z2 G2 H2 s2 => n d2 z2 G2 H2 (s1.trans s2)) r (fun d2 z2 G2 H2 s2 => bk d2 z2 G2 H2 (s1.trans s2)) (fun d2 z2 G2 H2 s2 => ct d2 z2 G2 H2 (s1.trans s2)))
    | false => exact iteF ((show SD K tw δ1 P from h1) M L G0 H0 G1 H1 σ E c1 (fun d2 z2 G2 H2 s2 => n d2 z2 G2 H2 (s1.trans s2)) r (fun d2 z2 G2 H2 s2 => bk d2 z2 G2 H2 (s1.trans s2)) (fun d2 z2 G2 H2 s2 => ct d2 z2 G2 H2 (s1.trans s2)))
theorem sd_asg {i : Nat} (h : EvD K te δ fun d δ1 => P.nx (δ1.set i (.sh d))) : SD K (tAsg te (gName i)) δ P := fun M L G0 H0 G H σ E c n r b ct =>
  h M L G0 H0 G H σ c _ fun d δ1 v G1 H1 s1 c1 r1 k => n _ _ G1 H1 s1 (c1.setSh i r1) k
theorem sd_asgN {i : Nat} (h : EvN K te δ fun o δ1 => P.nx (δ1.set i (.ow o))) : SD K (tAsg te (gName i)) δ P := fun M L G0 H0 G H σ E c n r b ct =>
  h M L G0 H0 G H σ c _ fun o δ1 a G1 H1 s1 c1 na h0 w ap hL k => n _ _ G1 H1 s1 (c1.setOw i na h0 w ap hL) k
theorem sd_par {i j : Nat} {t : TA} (h : EvA K t δ fun ds δ1 => ∃ d e, ds = [d, e] ∧ P.nx ((δ1.set i (.sh d)).set j (.sh e))) : SD K (tPar i j t) δ P := fun M L G0 H0 G H σ E c n r b ct =>
  h M L G0 H0 G H σ c _ fun ds δ1 vs G1 H1 s1 c1 r1 ⟨d, e, e1, k⟩ => by
    subst e1
    obtain ⟨v, r', rfl, h1, h2⟩ := r1.cons_inv
    obtain ⟨w, r2, rfl, h3, h4⟩ := h2.cons_inv
    rw [h4.nil_inv]
    exact ⟨v, w, rfl, n _ _ G1 H1 s1 ((c1.setSh i h1).setSh j h3) k⟩
/-- xs.append(e), xs an own list -/
theorem sd_append {i : Nat} {ds0 : List D} (hi : δ[i]? = some (.ow (.lst ds0))) (h : EvD K te δ fun d δ1 => ∃ ds, δ1[i]? = some (.ow (.lst ds)) ∧ ds.length < sizeLine ∧ P.nx (δ1.set i (.ow (.lst (ds ++ [d]))))) :
    SD K (tDrop (tBM K "list" rAppend (tVar i) (tCons te tNil))) δ P := fun M L G0 H0 G H σ E c n r b ct => by
  obtain ⟨x, ex, a, e1, na, h0, xs, hx, _⟩ := c.ok i _ hi
  subst e1
  refine ⟨_, ex, .inl ⟨rfl, _, SqL.of hx⟩, h M L G0 H0 G H σ c _ fun d δ1 v G1 H1 s1 c1 r1 ⟨ds, hd, hl, k⟩ => ?_⟩
  obtain ⟨y, ey, a', e2, na', h0', ys, hy, ry⟩ := c1.ok i _ hd
  rw [ex] at ey; cases ey; cases e2
  refine ⟨a, ys, v, rfl, rfl, hy, by rw [ry.len]; exact hl, n _ σ G1 _ s1 (c1.write (o' := .lst (ds ++ [d])) hd ex ⟨_, upd_same, ry.append (.one r1)⟩) k⟩
/-- xs[k] = e, xs an own list -/
theorem sd_setI {i : Nat} {ds0 : List D} {ti : TE} (hi : δ[i]? = some (.ow (.lst ds0))) (h : EvD K te δ fun d δ1 => ∃ ds1, δ1[i]? = some (.ow (.lst ds1)) ∧ EvD K ti δ1 fun e δ2 => ∃ (k : Int) (j : Nat) (ds : List D), e = .int k ∧ δ2[i]? = some (.ow (.lst ds)) ∧ ixN ds.length k = some j ∧ P.nx (δ2.set i (.ow (.lst (ds.set j d))))) :
    SD K (tAsg te (gSub (tVar i) ti rSetL)) δ P := fun M L G0 H0 G H σ E c n r b ct =>
  h M L G0 H0 G H σ c _ fun d δ1 v G1 H1 s1 c1 r1 ⟨ds1, hd1, h1⟩ => by
    obtain ⟨x, ex, a, e1, na, h0, xs, hx, _⟩ := c1.ok i _ hd1
    subst e1
    refine ⟨_, ex, h1 M L G0 H0 G1 H1 σ c1 _ fun e δ2 w G2 H2 s2 c2 r2 ⟨k, j, ds, e3, hd, hj, kk⟩ => ?_⟩
    subst e3
    obtain ⟨y, ey, a', e2, na', h0', ys, hy, ry⟩ := c2.ok i _ hd
    rw [ex] at ey; cases ey; cases e2
    exact ⟨a, ys, k, j, rfl, r2.int_inv, hy, by rw [ry.len]; exact hj, n _ σ G2 _ (s1.trans s2) (c2.write (o' := .lst (ds.set j d)) hd ex ⟨_, upd_same, ry.set j (r1.mono s2)⟩) kk⟩
/-- an own list's length, an item of it, read without freezing -/
theorem ev_lenO {i : Nat} {ds : List D} {r : List V → Hp → VK → Prop} {Φ : D → List Sl → Prop} (hr : ∀ (p : Addr) (xs : List V) (H : Hp) (Q : VK), H p = some (.lst xs) → Q (.int xs.length) H → r [.ref p] H Q) (hi : δ[i]? = some (.ow (.lst ds))) (k : Φ (.int ds.length) δ) : EvD K (tCB r (tCons (tVar i) tNil)) δ Φ := fun M L G0 H0 G H σ c Q q => by
  obtain ⟨x, ex, a, e1, na, h0, xs, hx, rx⟩ := c.ok i _ hi
  subst e1
  refine ⟨_, ex, hr a xs H Q hx ?_⟩
  rw [rx.len]
  exact q _ δ _ G H (.refl _) c (rep_int _) k
theorem ev_ixO {i : Nat} {ds0 : List D} {ti : TE} {r : R2} {Φ : D → List Sl → Prop} (hr : ∀ (p : Addr) (xs : List V) (k : Int) (v : V) (H : Hp) (Q : VK), H p = some (.lst xs) → atI xs k = some v → Q v H → r (.ref p) (.int k) H Q) (hi : δ[i]? = some (.ow (.lst ds0)))
    (h : EvD K ti δ fun e δ1 => ∃ (k : Int) (d : D) (ds : List D), e = .int k ∧ δ1[i]? = some (.ow (.lst ds)) ∧ atI ds k = some d ∧ Φ d δ1) : EvD K (tOp r (tVar i) ti) δ Φ := fun M L G0 H0 G H σ c Q q => by
  obtain ⟨x, ex, a, e1, na, h0, xs, hx, rx⟩ := c.ok i _ hi
  subst e1
  refine ⟨_, ex, h M L G0 H0 G H σ c _ fun e δ1 w G1 H1 s1 c1 r1 ⟨k, d, ds, e3, hd, ha, kk⟩ => ?_⟩
  subst e3
  obtain ⟨y, ey, a', e2, na', h0', ys, hy, ry⟩ := c1.ok i _ hd
  rw [ex] at ey; cases ey; cases e2
  have : ∃ v, atI ys k = some v ∧ Rep K G1 d v := by
    unfold atI at ha ⊢
    rw [ry.len]
    cases ej : ixN ds.length k with
    | none => rw [ej] at ha; cases ha
    | some j =>
      rw [ej] at ha
      obtain ⟨v, ev, rv⟩ := ry.get (i := j) (d := d) ha
      exact ⟨v, ev, rv⟩
  obtain ⟨v, ev, rv⟩ := this
  rw [r1.int_inv]
  exact hr a ys k v H1 Q hy ev (q d δ1 v G1 H1 s1 c1 rv kk)
/-- a box opened: its three ints; closed again -/
theorem sd_open {t : TS} {i n : Nat} {b : Addr} (hi : δ[i]? = some (.bx b n)) (h : ∀ (x y z : Int) (m : Nat), 0 ≤ x → x.natAbs < 2 ^ m → m ≤ 1048640 → 0 ≤ y → y < 2147483648 → 0 ≤ z → z ≤ n → SD K t (δ.set i (.mo b (.lst [.int x, .int y, .int z]))) P) : SD K t δ P := fun M L G0 H0 G H σ E c n1 r bk ct => by
  obtain ⟨v, ex, e1, nb, hM, x, y, z, m, hx, h1, h2, h3, h4, h5, h6, h7⟩ := c.ok i _ hi
  refine h x y z m h1 h2 h3 h4 h5 h6 h7 M L G0 H0 G H σ E (c.reslot hi rfl fun w hw => ?_) n1 r bk ct
  obtain ⟨q1, q2, q3, _⟩ := hw
  exact ⟨q1, q2, q3, _, hx, .cons (rep_int _) (.cons (rep_int _) (.one (rep_int _)))⟩
theorem ev_ixM {i : Nat} {a : Addr} {ds0 : List D} {ti : TE} {r : R2} {Φ : D → List Sl → Prop} (hr : ∀ (p : Addr) (xs : List V) (k : Int) (v : V) (H : Hp) (Q : VK), H p = some (.lst xs) → atI xs k = some v → Q v H → r (.ref p) (.int k) H Q) (hi : δ[i]? = some (.mo a (.lst ds0)))
    (h : EvD K ti δ fun e δ1 => ∃ (k : Int) (d : D) (ds : List D), e = .int k ∧ δ1[i]? = some (.mo a (.lst ds)) ∧ atI ds k = some d ∧ Φ d δ1) : EvD K (tOp r (tVar i) ti) δ Φ := fun M L G0 H0 G H σ c Q q => by
  obtain ⟨x, ex, e1, na, h0, xs, hx, rx⟩ := c.ok i _ hi
  subst e1
  refine ⟨_, ex, h M L G0 H0 G H σ c _ fun e δ1 w G1 H1 s1 c1 r1 ⟨k, d, ds, e3, hd, ha, kk⟩ => ?_⟩
  subst e3
  obtain ⟨y, ey, e2, na', h0', ys, hy, ry⟩ := c1.ok i _ hd
  have : ∃ v, atI ys k = some v ∧ Rep K G1 d v := by
    unfold atI at ha ⊢
    rw [ry.len]
    cases ej : ixN ds.length k with
    | none => rw [ej] at ha; cases ha
    | some j =>
      rw [ej] at ha
      obtain ⟨v, ev, rv⟩ := ry.get (i := j) (d := d) ha
      exact ⟨v, ev, rv⟩
  obtain ⟨v, ev, rv⟩ := this
  rw [r1.int_inv]
  exact hr a ys k v H1 Q hy ev (q d δ1 v G1 H1 s1 c1 rv kk)
theorem sd_setM {i : Nat} {a : Addr} {ti : TE} (h : EvD K te δ fun d δ1 => ∃ ds1, δ1[i]? = some (.mo a (.lst ds1)) ∧ EvD K ti δ1 fun e δ2 => ∃ (k : Int) (j : Nat) (ds : List D), e = .int k ∧ δ2[i]? = some (.mo a (.lst ds)) ∧ ixN ds.length k = some j ∧ P.nx (δ2.set i (.mo a (.lst (ds.set j d))))) :
    SD K (tAsg te (gSub (tVar i) ti rSetL)) δ P := fun M L G0 H0 G H σ E c n r b ct =>
  h M L G0 H0 G H σ c _ fun d δ1 v G1 H1 s1 c1 r1 ⟨ds1, hd1, h1⟩ => by
    obtain ⟨x, ex, e1, na, h0, xs, hx, _⟩ := c1.ok i _ hd1
    subst e1
    refine ⟨_, ex, h1 M L G0 H0 G1 H1 σ c1 _ fun e δ2 w G2 H2 s2 c2 r2 ⟨k, j, ds, e3, hd, hj, kk⟩ => ?_⟩
    subst e3
    obtain ⟨y, ey, e2, na', h0', ys, hy, ry⟩ := c2.ok i _ hd
    exact ⟨a, ys, k, j, rfl, r2.int_inv, hy, by rw [ry.len]; exact hj, n _ σ G2 _ (s1.trans s2) (c2.writeM (o' := .lst (ds.set j d)) hd ⟨_, upd_same, ry.set j (r1.mono s2)⟩) kk⟩
/-- a new list of three ints becomes a box -/
theorem sd_asgB {i : Nat} (h : EvN K te δ fun o δ1 => ∃ (x y z : Int) (m n : Nat), o = .lst [.int x, .int y, .int z] ∧ 0 ≤ x ∧ x.natAbs < 2 ^ m ∧ m ≤ 1048640 ∧ 0 ≤ y ∧ y < 2147483648 ∧ 0 ≤ z ∧ z ≤ n ∧ ∀ b, P.nx (δ1.set i (.bx b n))) : SD K (tAsg te (gName i)) δ P := fun M L G0 H0 G H σ E c n r b ct =>
  h M L G0 H0 G H σ c _ fun o δ1 a G1 H1 s1 c1 na h0 w ap hL ⟨x, y, z, m, k, e, h1, h2, h3, h4, h5, h6, h7, kk⟩ => by
    subst e
    obtain ⟨xs, hx, rx⟩ := w
    have ex : xs = [V.int x, V.int y, V.int z] := by
      obtain ⟨v1, r1, rfl, q1, rx⟩ := rx.cons_inv
      obtain ⟨v2, r2, rfl, q2, rx⟩ := rx.cons_inv
      obtain ⟨v3, r3, rfl, q3, rx⟩ := rx.cons_inv
      rw [rx.nil_inv, q1.int_inv, q2.int_inv, q3.int_inv]
    subst ex
    exact n _ _ G1 H1 s1 (c1.setG i (s0 := .bx a k) ⟨rfl, na, .inr h0, x, y, z, m, hx, h1, h2, h3, h4, h5, h6, h7⟩ ap hL) (kk a)
end
end Ms

/-! Lay3: loops and comprehensions over data; a def's promise from its body. -/
namespace Ms
open PySem L2

structure WalkD (K : PySem.W.Frag) (G : Hp) (J : It) (xs : List D) : Prop where
  goes : ∀ (i : Nat) (H : Hp), i < xs.length → Same G H → J.go i H
  stops : ∀ H : Hp, Same G H → J.stop xs.length H
  yields : ∀ (i : Nat) (H : Hp) (x : V) (H' G1 : Hp), i < xs.length → Same G G1 → Same G1 H → J.yld i H x H' → ∃ d G2, xs[i]? = some d ∧ Grow [] G1 H G2 H' ∧ Rep K G2 d x
def EvI (K : PySem.W.Frag) (wi : TI) (δ : List Sl) (Φ : List D → List Sl → Prop) : Prop :=
  ∀ (M : List Addr) (L : List (Addr × HO)) (G0 H0 G H : Hp) (σ : St), Cur K M L G0 H0 G H σ δ → ∀ R : It → Hp → Prop,
    (∀ xs δ' J G' H', Same G G' → Cur K M L G0 H0 G' H' σ δ' → WalkD K G' J xs → Φ xs δ' → R J H') → wi σ H R
/-- a target; js: the slots that it may store -/
def TgD (K : PySem.W.Frag) (js : List Nat) (g : TG) (d : D) (δ : List Sl) (Ψ : List Sl → Prop) : Prop :=
  ∀ (M : List Addr) (L : List (Addr × HO)) (G0 H0 G H : Hp) (σ : St) (v : V), Cur K M L G0 H0 G H σ δ → Rep K G d v → ∀ Q : St → Hp → Prop,
    (∀ δ' σ' G' H', Same G G' → Cur K M L G0 H0 G' H' σ' δ' → σ'.length = σ.length → (∀ i : Nat, i ∉ js → σ'[i]? = σ[i]?) → Ψ δ' → Q σ' H') → g v σ H Q
def TgsD (K : PySem.W.Frag) (js : List Nat) (g : TGs) (ds : List D) (δ : List Sl) (Ψ : List Sl → Prop) : Prop :=
  ∀ (M : List Addr) (L : List (Addr × HO)) (G0 H0 G H : Hp) (σ : St) (vs : List V), Cur K M L G0 H0 G H σ δ → Reps K G ds vs → ∀ Q : St → Hp → Prop,
    (∀ δ' σ' G' H', Same G G' → Cur K M L G0 H0 G' H' σ' δ' → σ'.length = σ.length → (∀ i : Nat, i ∉ js → σ'[i]? = σ[i]?) → Ψ δ' → Q σ' H') → g vs σ H Q
section
variable {K : PySem.W.Frag} {δ : List Sl} {Ψ : List Sl → Prop}
theorem tg_name {j : Nat} {d : D} (k : Ψ (δ.set j (.sh d))) : TgD K [j] (gName j) d δ Ψ := fun M L G0 H0 G H σ v c r Q q =>
  q _ _ G H (.refl _) (c.setSh j r) (by simp) (fun i hi => List.getElem?_set_ne (fun e => hi (by simp [e]))) k
theorem tgs_nil : Ψ δ → TgsD K [] gNil [] δ Ψ := fun k M L G0 H0 G H σ vs c r Q q => ⟨r.nil_inv, q δ σ G H (.refl _) c rfl (fun _ _ => rfl) k⟩
theorem tgs_cons {g : TG} {u : TGs} {js ks : List Nat} {d : D} {ds : List D} (h : TgD K js g d δ fun δ1 => TgsD K ks u ds δ1 Ψ) : TgsD K (js ++ ks) (gCons g u) (d :: ds) δ Ψ := fun M L G0 H0 G H σ vs c r Q q => by
  obtain ⟨v, r', rfl, h1, h2⟩ := r.cons_inv
  refine ⟨v, r', rfl, h M L G0 H0 G H σ v c h1 _ fun δ1 σ1 G1 H1 s1 c1 l1 k1 p => p M L G0 H0 G1 H1 σ1 r' c1 (h2.mono s1) _ fun δ2 σ2 G2 H2 s2 c2 l2 k2 p2 => ?_⟩
  exact q δ2 σ2 G2 H2 (s1.trans s2) c2 (l2.trans l1) (fun i hi => (k2 i fun z => hi (List.mem_append_right _ z)).trans (k1 i fun z => hi (List.mem_append_left _ z))) p2
theorem tg_tup {u : TGs} {js : List Nat} {ds : List D} {n : Nat} (hn : ds.length = n) (h : TgsD K js u ds δ Ψ) : TgD K js (gTup K n u) (.tup ds) δ Ψ := fun M L G0 H0 G H σ v c r Q q => by
  obtain ⟨a, xs, rfl, hs, rx⟩ := r.tup_inv
  exact ⟨a, xs, rfl, sqT_mono c.gh hs, by rw [rx.len]; exact hn, h M L G0 H0 G H σ xs c rx Q q⟩
/-! ### for -/
variable {wi : TI} {g : TG} {tb : TS} {P : Po} {js : List Nat}
theorem sd_for (h : EvI K wi δ fun xs δ1 => ∃ I : Nat → List Sl → Prop, I 0 δ1 ∧ (∀ i x δ', xs[i]? = some x → I i δ' → TgD K js g x δ' fun δ2 => SD K tb δ2 { P with nx := I (i + 1), ct := I (i + 1), bk := P.nx }) ∧ ∀ δ', I xs.length δ' → P.nx δ') :
    SD K (tFor wi g tb) δ P := fun M L G0 H0 G H σ E c n r b ct =>
  h M L G0 H0 G H σ c _ fun xs δ1 J G1 H1 s1 c1 w ⟨I, i0, it, ie⟩ => by
    refine ⟨fun i m σ' H' => m = xs.length - i ∧ i ≤ xs.length ∧ ∃ δ' G', Cur K M L G0 H0 G' H' σ' δ' ∧ Same G1 G' ∧ I i δ', ⟨_, rfl, Nat.zero_le _, δ1, G1, c1, .refl _, i0⟩, ?_⟩
    rintro i m σ2 H2 ⟨rfl, hi, δ2, G2, c2, s2, k2⟩
    by_cases hlt : i < xs.length
    · refine .inr ⟨w.goes i H2 hlt (s2.trans c2.gh), fun σ' H' => ∃ δ' G', Cur K M L G0 H0 G' H' σ' δ' ∧ Same G1 G' ∧ I (i + 1) δ', fun σ' H' ⟨δ', G', c', s', k'⟩ => ⟨xs.length - (i + 1), by omega, rfl, hlt, δ', G', c', s', k'⟩, fun x H' y => ?_⟩
      obtain ⟨d, G3, hd, g3, r3⟩ := w.yields i H2 x H' G2 hlt s2 c2.gh y
      refine it i d δ2 hd k2 M L G0 H0 G3 H' σ2 x (c2.grow g3) r3 _ fun δ4 σ4 G4 H4 s4 c4 _ _ sd => ?_
      have s24 : Same G1 G4 := (s2.trans g3.g).trans s4
      exact sd M L G0 H0 G4 H4 σ4 _ c4 (fun δ5 σ5 G5 H5 s5 c5 k5 => ⟨δ5, G5, c5, s24.trans s5, k5⟩) r (fun δ5 σ5 G5 H5 s5 c5 k5 => n δ5 σ5 G5 H5 ((s1.trans s24).trans s5) c5 k5) (fun δ5 σ5 G5 H5 s5 c5 k5 => ⟨δ5, G5, c5, s24.trans s5, k5⟩)
    · have e : i = xs.length := by omega
      subst e
      exact .inl ⟨w.stops H2 (s2.trans c2.gh), n δ2 σ2 G2 H2 (s1.trans s2) c2 (ie δ2 k2)⟩
end

/-! ### comprehensions -/
def wipeS (δ : List Sl) : List Nat → List Sl
  | [] => δ
  | v :: vs => (wipeS δ vs).set v .no
def restS (δ δ1 : List Sl) : List Nat → List Sl
  | [] => δ
  | v :: vs => (restS δ δ1 vs).set v (δ1.getD v .no)
theorem wipeS_length (δ : List Sl) : ∀ vs, (wipeS δ vs).length = δ.length
  | [] => rfl
  | v :: vs => by unfold wipeS; rw [List.length_set]; exact wipeS_length δ vs
theorem restS_length (δ δ1 : List Sl) : ∀ vs, (restS δ δ1 vs).length = δ.length
  | [] => rfl
  | v :: vs => by unfold restS; rw [List.length_set]; exact restS_length δ δ1 vs
theorem wipeS_get (δ : List Sl) (i : Nat) : ∀ vs, (wipeS δ vs)[i]? = if i ∈ vs then (if i < δ.length then some .no else none) else δ[i]?
  | [] => by simp [wipeS]
  | v :: vs => by
    unfold wipeS
    rw [List.getElem?_set, wipeS_length, wipeS_get δ i vs]
    by_cases e : v = i
    · subst e; simp
    · rw [if_neg e]
      have : (i ∈ v :: vs) ↔ i ∈ vs := by simp [Ne.symm e]
      simp only [this]
theorem wipe_get (σ : St) (i : Nat) : ∀ vs, (wipe σ vs)[i]? = if i ∈ vs then (if i < σ.length then some none else none) else σ[i]?
  | [] => by simp [wipe]
  | v :: vs => by
    unfold wipe
    rw [List.getElem?_set, wipe_length, wipe_get σ i vs]
    by_cases e : v = i
    · subst e; simp
    · rw [if_neg e]
      have : (i ∈ v :: vs) ↔ i ∈ vs := by simp [Ne.symm e]
      simp only [this]
theorem restS_get (δ δ1 : List Sl) (i : Nat) : ∀ vs, (restS δ δ1 vs)[i]? = if i ∈ vs then (if i < δ.length then some (δ1.getD i .no) else none) else δ[i]?
  | [] => by simp [restS]
  | v :: vs => by
    unfold restS
    rw [List.getElem?_set, restS_length, restS_get δ δ1 i vs]
    by_cases e : v = i
    · subst e; simp
    · rw [if_neg e]
      have : (i ∈ v :: vs) ↔ i ∈ vs := by simp [Ne.symm e]
      simp only [this]
theorem wipe_eq {σ σ2 : St} {vs : List Nat} (hl : σ2.length = (wipe σ vs).length) (hk : ∀ i : Nat, i ∉ vs → σ2[i]? = (wipe σ vs)[i]?) : wipe σ2 vs = wipe σ vs := by
  apply List.ext_getElem?
  intro i
  rw [wipe_get, wipe_get]
  by_cases hi : i ∈ vs
  · simp only [hi, if_true]
    rw [hl, wipe_length]
  · simp only [hi, if_false]
    rw [hk i hi, wipe_get]
    simp only [hi, if_false]
def NoOwn (δ : List Sl) (vs : List Nat) : Prop := ∀ i ∈ vs, (δ.getD i .no).own = false
section
variable {K : PySem.W.Frag} {M : List Addr} {L : List (Addr × HO)} {G0 H0 G H G1 H1 : Hp} {σ : St} {δ δ1 : List Sl}
theorem Cur.wiped (c : Cur K M L G0 H0 G H σ δ) (vs : List Nat) : Cur K M L G0 H0 G H (wipe σ vs) (wipeS δ vs) where
  gr := c.gr
  len := by rw [wipeS_length, wipe_length]; exact c.len
  ok := fun i s h => by
    rw [wipeS_get] at h
    rw [wipe_get]
    by_cases hi : i ∈ vs
    · simp only [hi, if_true] at h ⊢
      split at h
      · rename_i hl
        rw [c.len] at hl
        rw [if_pos hl]
        cases h
        exact ⟨none, rfl, trivial⟩
      · cases h
    · simp only [hi, if_false] at h ⊢
      exact c.ok i s h
  ap := fun i j s t a ne h1 h2 o1 o2 e1 e2 => by
    rw [wipeS_get] at h1 h2
    rw [wipe_get] at e1 e2
    by_cases hi : i ∈ vs
    · simp only [hi, if_true] at e1
      split at e1 <;> cases e1
    · by_cases hj : j ∈ vs
      · simp only [hj, if_true] at e2
        split at e2 <;> cases e2
      · simp only [hi, hj, if_false] at h1 h2 e1 e2
        exact c.ap i j s t a ne h1 h2 o1 o2 e1 e2
  pn := fun p hp => by
    obtain ⟨a, b, d, q⟩ := c.pn p hp
    refine ⟨a, b, d, fun i s h o e => ?_⟩
    rw [wipeS_get] at h
    rw [wipe_get] at e
    by_cases hi : i ∈ vs
    · simp only [hi, if_true] at e
      split at e <;> cases e
    · simp only [hi, if_false] at h e
      exact q i s h o e
theorem Cur.restored {vs : List Nat} (c : Cur K M L G0 H0 G H (wipe σ vs) δ) (c1 : Cur K M L G0 H0 G1 H1 σ δ1) (s : Same G1 G) (no : NoOwn δ1 vs) : Cur K M L G0 H0 G H σ (restS δ δ1 vs) where
  gr := c.gr
  len := by rw [restS_length, c.len, wipe_length]
  ok := fun i t h => by
    rw [restS_get] at h
    by_cases hi : i ∈ vs
    · simp only [hi, if_true] at h
      split at h
      · rename_i hl
        cases h
        have hl1 : i < δ1.length := by rw [c1.len]; rw [c.len, wipe_length] at hl; exact hl
        have e1 : δ1[i]? = some (δ1.getD i .no) := by rw [List.getD_eq_getElem?_getD]; simp [hl1]
        obtain ⟨x, ex, w⟩ := c1.ok i _ e1
        refine ⟨x, ex, ?_⟩
        have hn := no i hi
        cases q : δ1.getD i .no with
        | no => trivial
        | sh d => rw [q] at w; obtain ⟨v, e3, r3⟩ := w; exact ⟨v, e3, r3.mono s⟩
        | ow o => rw [q] at hn; cases hn
        | bx a n => rw [q] at hn; cases hn
        | mo a n => rw [q] at hn; cases hn
      · cases h
    · simp only [hi, if_false] at h
      obtain ⟨x, ex, w⟩ := c.ok i t h
      rw [wipe_get] at ex
      simp only [hi, if_false] at ex
      exact ⟨x, ex, w⟩
  ap := fun i j s t a ne h1 h2 o1 o2 e1 e2 => by
    have nv : ∀ (k : Nat) (u : Sl), (restS δ δ1 vs)[k]? = some u → u.own = true → k ∉ vs := fun k u h o hk => by
      rw [restS_get] at h
      simp only [hk, if_true] at h
      split at h
      · cases h
        rw [no k hk] at o; cases o
      · cases h
    have hi := nv i s h1 o1
    have hj := nv j t h2 o2
    rw [restS_get] at h1 h2
    simp only [hi, hj, if_false] at h1 h2
    refine c.ap i j s t a ne h1 h2 o1 o2 ?_ ?_
    · rw [wipe_get]; simp only [hi, if_false]; exact e1
    · rw [wipe_get]; simp only [hj, if_false]; exact e2
  pn := fun p hp => by
    obtain ⟨a, b, d, q⟩ := c.pn p hp
    refine ⟨a, b, d, fun k u h o e => ?_⟩
    have hk : k ∉ vs := fun hk => by
      rw [restS_get] at h
      simp only [hk, if_true] at h
      split at h
      · cases h
        rw [no k hk] at o; cases o
      · cases h
    rw [restS_get] at h
    simp only [hk, if_false] at h
    refine q k u h o ?_
    rw [wipe_get]; simp only [hk, if_false]; exact e
theorem Cur.unpin {p : Addr × HO} (c : Cur K M (p :: L) G0 H0 G H σ δ) : Cur K M L G0 H0 G H σ δ := ⟨c.gr, c.len, c.ok, c.ap, fun q hq => c.pn q (List.mem_cons_of_mem _ hq)⟩
theorem Cur.pinNew (c : Cur K M L G0 H0 G H σ δ) {a : Addr} {o : HO} (na : H a = none) : Cur K M ((a, o) :: L) G0 H0 G (upd H a o) σ δ := by
  have f := c.fresh na
  have c2 := c.grow (.newH (o := o) c.gh na)
  refine ⟨c2.gr, c2.len, c2.ok, c2.ap, fun q hq => ?_⟩
  rcases List.mem_cons.mp hq with rfl | hq
  · exact ⟨upd_same, f.2.1, f.1, f.2.2.1⟩
  · exact c2.pn q hq
theorem Cur.writePin {a : Addr} {o o' : HO} (c : Cur K M ((a, o) :: L) G0 H0 G H σ δ) (hL : ∀ p ∈ L, p.1 ≠ a) : Cur K M ((a, o') :: L) G0 H0 G (upd H a o') σ δ := by
  obtain ⟨ha, na, h0, ap⟩ := c.pn (a, o) List.mem_cons_self
  have keep : ∀ b v, b ≠ a → H b = some v → upd H a o' b = some v := fun b v hb e => by rw [upd_ne hb]; exact e
  refine ⟨⟨c.gr.g, fun b v e => keep b v (ne_of_none e na) (c.gr.gh _ _ e), fun b v e m => keep b v (ne_of_none e h0) (c.gr.h b v e m), fun b e => ?_, c.gr.nw⟩, c.len, fun j t h => ?_, c.ap, fun q hq => ?_⟩
  · by_cases hb : b = a
    · subst hb; rw [upd_same]; simp
    · rw [upd_ne hb]; exact c.gr.dom b e
  · obtain ⟨x, e2, w2⟩ := c.ok j t h
    refine ⟨x, e2, ?_⟩
    cases t with
    | no => trivial
    | sh d => exact w2
    | ow o2 =>
      obtain ⟨b, e3, n3, h3, r3⟩ := w2
      subst e3
      have : b ≠ a := fun z => by subst z; exact ap j _ h rfl e2
      exact ⟨b, rfl, n3, h3, r3.mono (Same.refl _) fun v hv => keep b v this hv⟩
    | bx b k =>
      obtain ⟨e3, n3, h3, x, y, z, m, hx, r3⟩ := w2
      subst e3
      have : b ≠ a := fun z => by subst z; exact ap j _ h rfl e2
      exact ⟨rfl, n3, h3, x, y, z, m, keep b _ this hx, r3⟩
    | mo b k =>
      obtain ⟨e3, n3, h3, r3⟩ := w2
      subst e3
      have : b ≠ a := fun z => by subst z; exact ap j _ h rfl e2
      exact ⟨rfl, n3, h3, r3.mono (Same.refl _) fun v hv => keep b v this hv⟩
  · rcases List.mem_cons.mp hq with rfl | hq
    · exact ⟨upd_same, na, h0, ap⟩
    · obtain ⟨e, n5, h5, q5⟩ := c.pn q (List.mem_cons_of_mem _ hq)
      exact ⟨keep _ _ (hL q hq) e, n5, h5, q5⟩
end
section
variable {K : PySem.W.Frag} {δ : List Sl} {wi : TI} {g : TG} {tt : TT} {te : TE} {vs js : List Nat} {Φ : OD → List Sl → Prop}
theorem en_lc (hjs : ∀ j ∈ js, j ∈ vs) (h : EvI K wi δ fun xs δ1 => NoOwn δ1 vs ∧ xs.length < sizeLine ∧ ∃ I : Nat → List D → List Sl → Prop, I 0 [] (wipeS δ1 vs) ∧
      (∀ i x acc δ', xs[i]? = some x → acc.length ≤ i → I i acc δ' → TgD K js g x δ' fun δ2 => EvT K tt δ2 fun b δ3 => if b = true then EvD K te δ3 (fun y δ4 => I (i + 1) (acc ++ [y]) (wipeS δ4 vs)) else I (i + 1) acc (wipeS δ3 vs)) ∧
      ∀ acc δ', I xs.length acc δ' → Φ (.lst acc) (restS δ' δ1 vs)) : EvN K (tLc wi g tt te vs) δ Φ := fun M L G0 H0 G H σ c Q q =>
  h M L G0 H0 G H σ c _ fun xs δ1 J G1 H1 s1 c1 w ⟨no, hz, I, i0, it, ie⟩ Dl hD => by
    have f := c1.fresh hD
    refine ⟨fun i m Hc => m = xs.length - i ∧ i ≤ xs.length ∧ ∃ acc accv δ' G', Cur K M ((Dl, .lst accv) :: L) G0 H0 G' Hc (wipe σ vs) δ' ∧ Same G1 G' ∧ Reps K G' acc accv ∧ acc.length ≤ i ∧ I i acc δ',
      ⟨_, rfl, Nat.zero_le _, [], [], wipeS δ1 vs, G1, (c1.wiped vs).pinNew hD, .refl _, .nil, Nat.le_refl _, i0⟩, ?_⟩
    rintro i m Hc ⟨rfl, hi, acc, accv, δ', G', c', s', ra, hl, k'⟩
    by_cases hlt : i < xs.length
    · refine .inr ⟨w.goes i Hc hlt (s'.trans c'.gh), fun Hn => ∃ acc accv δ' G', Cur K M ((Dl, .lst accv) :: L) G0 H0 G' Hn (wipe σ vs) δ' ∧ Same G1 G' ∧ Reps K G' acc accv ∧ acc.length ≤ i + 1 ∧ I (i + 1) acc δ', fun Hn ⟨a1, a2, a3, a4, a5, a6, a7, a8, a9⟩ => ⟨xs.length - (i + 1), by omega, rfl, hlt, a1, a2, a3, a4, a5, a6, a7, a8, a9⟩, fun x H' y => ?_⟩
      obtain ⟨d, G3, hd, g3, r3⟩ := w.yields i Hc x H' G' hlt s' c'.gh y
      refine it i d acc δ' hd hl k' M ((Dl, .lst accv) :: L) G0 H0 G3 H' (wipe σ vs) x (c'.grow g3) r3 _ fun δ2 σ2 G2 H2 s2 c2 l2 e2 kt => ?_
      have ew : wipe σ2 vs = wipe σ vs := wipe_eq l2 fun i hi => e2 i fun z => hi (hjs i z)
      refine ⟨ew, kt M ((Dl, .lst accv) :: L) G0 H0 G2 H2 σ2 c2 _ fun b δ3 G4 H4 s4 c4 kb => ?_⟩
      have s14 : Same G1 G4 := ((s'.trans g3.g).trans s2).trans s4
      have ra4 : Reps K G4 acc accv := ((ra.mono g3.g).mono s2).mono s4
      cases b with
      | false =>
        refine iteF ⟨acc, accv, wipeS δ3 vs, G4, ?_, s14, ra4, by omega, kb⟩
        have := c4.wiped vs
        rw [ew] at this
        exact this
      | true =>
        refine iteT ((show EvD K te δ3 _ from kb) M ((Dl, .lst accv) :: L) G0 H0 G4 H4 σ2 c4 _ fun y δ5 v G5 H5 s5 c5 r5 k5 => ?_)
        obtain ⟨p1, p2, p3, p4⟩ := c5.pn (Dl, .lst accv) List.mem_cons_self
        refine ⟨accv, p1, by rw [ra4.len]; omega, acc ++ [y], accv ++ [v], wipeS δ5 vs, G5, ?_, s14.trans s5, (ra4.mono s5).append (.one r5), by simp; omega, k5⟩
        have := c5.wiped vs
        rw [ew] at this
        exact this.writePin f.2.2.2
    · have e : i = xs.length := by omega
      subst e
      obtain ⟨p1, p2, p3, p4⟩ := c'.pn (Dl, .lst accv) List.mem_cons_self
      have cr := c'.unpin.restored c1 s' no
      refine .inl ⟨w.stops Hc (s'.trans c'.gh), q (.lst acc) _ Dl G' Hc (s1.trans s') cr p2 p3 ⟨accv, p1, ra⟩ (fun k u hk ho ek => ?_) f.2.2.2 (ie acc δ' k')⟩
      have hkv : k ∉ vs := fun hkv => by
        rw [restS_get] at hk
        simp only [hkv, if_true] at hk
        split at hk
        · cases hk
          rw [no k hkv] at ho; cases ho
        · cases hk
      rw [restS_get] at hk
      simp only [hkv, if_false] at hk
      refine p4 k u hk ho ?_
      rw [wipe_get]; simp only [hkv, if_false]; exact ek
end

/-! ### what is walked -/
section
variable {K : PySem.W.Frag} {δ : List Sl} {tl : TE} {t : TA} {Φ : List D → List Sl → Prop}
theorem sqL_of_rep {G : Hp} {ds : List D} {v : V} (r : Rep K G (.lst ds) v) : ∃ a xs, v = .ref a ∧ SqL K G a xs ∧ Reps K G ds xs := by
  obtain ⟨a, xs, e, h, rx⟩ := r.lst_inv
  exact ⟨a, xs, e, SqL.of h, rx⟩
theorem ei_list {I : TE} (h : EvD K tl δ fun d δ1 => ∃ ds, d = .lst ds ∧ Φ ds δ1) : EvI K (iList K tl) δ Φ := fun M L G0 H0 G H σ c R q =>
  h M L G0 H0 G H σ c _ fun d δ1 v G1 H1 s1 c1 r1 ⟨ds, e, k⟩ => by
    subst e
    obtain ⟨a, xs, rfl, hs, rx⟩ := sqL_of_rep r1
    refine ⟨a, rfl, ⟨xs, sqL_mono c1.gh hs⟩, q ds δ1 _ G1 H1 s1 c1 ⟨fun i H' hi s => ?_, fun H' s => ?_, fun i H' x H2 G2 hi s s2 y => ?_⟩ k⟩
    · exact (walk_list (K := K) (a := a) (xs := xs)).goes i H' (by rw [rx.len]; exact hi) (sqL_mono s hs)
    · rw [← rx.len]; exact (walk_list (K := K) (a := a) (xs := xs)).stops H' (sqL_mono s hs)
    · obtain ⟨e, hx⟩ := (walk_list (K := K) (a := a) (xs := xs)).yields i H' x H2 (by rw [rx.len]; exact hi) (sqL_mono (s.trans s2) hs) y
      subst e
      obtain ⟨d, hd, rd⟩ := rx.getV hx
      exact ⟨d, G2, hd, .refl s2, rd.mono s⟩
theorem ei_tup (h : EvD K tl δ fun d δ1 => ∃ ds, d = .tup ds ∧ Φ ds δ1) : EvI K (iTup K tl) δ Φ := fun M L G0 H0 G H σ c R q =>
  h M L G0 H0 G H σ c _ fun d δ1 v G1 H1 s1 c1 r1 ⟨ds, e, k⟩ => by
    subst e
    obtain ⟨a, xs, rfl, hs, rx⟩ := r1.tup_inv
    refine ⟨a, rfl, ⟨xs, sqT_mono c1.gh hs⟩, q ds δ1 _ G1 H1 s1 c1 ⟨fun i H' hi s => ?_, fun H' s => ?_, fun i H' x H2 G2 hi s s2 y => ?_⟩ k⟩
    · exact (walk_tup (K := K) (a := a) (xs := xs)).goes i H' (by rw [rx.len]; exact hi) (sqT_mono s hs)
    · rw [← rx.len]; exact (walk_tup (K := K) (a := a) (xs := xs)).stops H' (sqT_mono s hs)
    · obtain ⟨e, hx⟩ := (walk_tup (K := K) (a := a) (xs := xs)).yields i H' x H2 (by rw [rx.len]; exact hi) (sqT_mono (s.trans s2) hs) y
      subst e
      obtain ⟨d, hd, rd⟩ := rx.getV hx
      exact ⟨d, G2, hd, .refl s2, rd.mono s⟩
def rangeD (lo : Int) (n : Nat) : List D := (List.range n).map fun i => .int (lo + (i : Nat))
theorem rangeD_len (lo : Int) (n : Nat) : (rangeD lo n).length = n := by simp [rangeD]
theorem rangeD_get (lo : Int) (n i : Nat) (h : i < n) : (rangeD lo n)[i]? = some (.int (lo + (i : Nat))) := by simp [rangeD, h]
theorem walkD_range {G : Hp} {lo : Int} {n : Nat} : WalkD K G (Itr lo n) (rangeD lo n) := by
  refine ⟨fun i H' hi s => ?_, fun H' s => ?_, fun i H' x H2 G2 hi s s2 y => ?_⟩
  · exact (walk_range (lo := lo) (n := n)).goes i H' (by rw [rangeD_len] at hi; exact hi) trivial
  · rw [rangeD_len]; exact (walk_range (lo := lo) (n := n)).stops H' trivial
  · rw [rangeD_len] at hi
    obtain ⟨e, hx⟩ := (walk_range (lo := lo) (n := n)).yields i H' x H2 hi trivial y
    subst e hx
    exact ⟨_, G2, rangeD_get lo n i hi, .refl s2, rep_int _⟩
theorem ei_range1 (h : EvA K t δ fun ds δ1 => ∃ j : Int, ds = [.int j] ∧ j < 2 ^ 62 ∧ -(2 ^ 62) ≤ j ∧ Φ (rangeD 0 j.toNat) δ1) : EvI K (iRng1 t) δ Φ := fun M L G0 H0 G H σ c R q =>
  h M L G0 H0 G H σ c _ fun ds δ1 vs G1 H1 s1 c1 r1 ⟨j, e, hj, hj2, k⟩ => by
    subst e
    obtain ⟨v, r', rfl, h1, h2⟩ := r1.cons_inv
    rw [h2.nil_inv, h1.int_inv]
    exact ⟨j, rfl, hj2, hj, q _ δ1 _ G1 H1 s1 c1 walkD_range k⟩
theorem ei_range2 (h : EvA K t δ fun ds δ1 => ∃ i j : Int, ds = [.int i, .int j] ∧ (-(2 ^ 62) ≤ i ∧ i < 2 ^ 62 ∧ -(2 ^ 62) ≤ j ∧ j < 2 ^ 62) ∧ Φ (rangeD i (j - i).toNat) δ1) : EvI K (iRng2 t) δ Φ := fun M L G0 H0 G H σ c R q =>
  h M L G0 H0 G H σ c _ fun ds δ1 vs G1 H1 s1 c1 r1 ⟨i, j, e, hj, k⟩ => by
    subst e
    obtain ⟨v, r', rfl, h1, h2⟩ := r1.cons_inv
    obtain ⟨w, r2, rfl, h3, h4⟩ := h2.cons_inv
    rw [h4.nil_inv, h1.int_inv, h3.int_inv]
    exact ⟨i, j, rfl, hj, q _ δ1 _ G1 H1 s1 c1 walkD_range k⟩
/-- the signs of a text, one by one -/
def signsD (z : Str) : List D := z.cps.toList.map fun c => .str ⟨#[c]⟩
theorem ei_str (h : EvD K tl δ fun d δ1 => ∃ z, d = .str z ∧ Φ (signsD z) δ1) : EvI K (iStr tl) δ Φ := fun M L G0 H0 G H σ c R q =>
  h M L G0 H0 G H σ c _ fun d δ1 v G1 H1 s1 c1 r1 ⟨z, e, k⟩ => by
    subst e
    have hl : (signsD z).length = z.cps.size := by simp [signsD]
    refine ⟨z, r1.str_inv, q _ δ1 _ G1 H1 s1 c1 ⟨fun i H' hi s => ?_, fun H' s => ?_, fun i H' x H2 G2 hi s s2 y => ?_⟩ k⟩
    · exact (walk_str (z := z)).goes i H' (by rw [hl] at hi; exact hi) trivial
    · rw [hl]; exact (walk_str (z := z)).stops H' trivial
    · obtain ⟨e, c, hc, hx⟩ := (walk_str (z := z)).yields i H' x H2 (by rw [hl] at hi; exact hi) trivial y
      subst e hx
      refine ⟨.str ⟨#[c]⟩, G2, ?_, .refl s2, rep_str _⟩
      unfold signsD
      rw [List.getElem?_map, Array.getElem?_toList, hc]
      rfl
/-- (0, x0), (1, x1), .. -/
def enumD (ds : List D) : List D := ds.zipIdx.map fun p => .tup [.int (p.2 : Nat), p.1]
theorem enumD_len (ds : List D) : (enumD ds).length = ds.length := by simp [enumD]
theorem enumD_get {ds : List D} {i : Nat} {d : D} (h : ds[i]? = some d) : (enumD ds)[i]? = some (.tup [.int (i : Nat), d]) := by simp [enumD, h]
theorem ei_enum (h : EvA K t δ fun xs δ1 => ∃ ds, xs = [.lst ds] ∧ Φ (enumD ds) δ1) : EvI K (iEnum K t) δ Φ := fun M L G0 H0 G H σ c R q =>
  h M L G0 H0 G H σ c _ fun d δ1 v G1 H1 s1 c1 r1 ⟨ds, e, k⟩ => by
    subst e
    obtain ⟨v, r', rfl, h1, h2⟩ := r1.cons_inv
    rw [h2.nil_inv]
    obtain ⟨a, xs, rfl, hs, rx⟩ := sqL_of_rep h1
    refine ⟨a, xs, rfl, sqL_mono c1.gh hs, q _ δ1 _ G1 H1 s1 c1 ⟨fun i H' hi s => ?_, fun H' s => ?_, fun i H' x H2 G2 hi s s2 y => ?_⟩ k⟩
    · exact (walk_enum (K := K) (a := a) (xs := xs)).goes i H' (by rw [enumD_len] at hi; rw [rx.len]; exact hi) (sqL_mono s hs)
    · rw [enumD_len, ← rx.len]; exact (walk_enum (K := K) (a := a) (xs := xs)).stops H' (sqL_mono s hs)
    · rw [enumD_len] at hi
      obtain ⟨T, y1, y2, hv, hT, hH, h1', h2'⟩ := (walk_enum (K := K) (a := a) (xs := xs)).yields i H' x H2 (by rw [rx.len]; exact hi) (sqL_mono (s.trans s2) hs) y
      subst hv hH
      obtain ⟨d, hd, rd⟩ := rx.getV h2'
      cases h1'
      have g : Grow [] G2 H' (upd G2 T (.tup [.int (i : Nat), y2])) (upd H' T (.tup [.int (i : Nat), y2])) := .new s2 hT
      exact ⟨_, _, enumD_get hd, g, rep_tup (SqT.of upd_same) (.cons (rep_int _) (.one ((rd.mono s).mono g.g)))⟩
end

/-! ### a def's promise -/
section
variable {K : PySem.W.Frag}
theorem start_get {N : List Str} {vs : List V} (hl : vs.length ≤ N.length) (i : Nat) : (start N vs)[i]? = if i < vs.length then (vs[i]?).map some else if i < N.length then some none else none := by
  unfold L2.start
  by_cases h : i < vs.length
  · rw [List.getElem?_append_left (by simpa using h), List.getElem?_map, if_pos h]
  · rw [List.getElem?_append_right (by simpa using h), List.getElem?_replicate, if_neg h]
    simp only [List.length_map]
    by_cases h2 : i < N.length
    · rw [if_pos (by omega), if_pos h2]
    · rw [if_neg (by omega), if_neg h2]
def initS (N : List Str) (ds : List D) : List Sl := ds.map Sl.sh ++ List.replicate (N.length - ds.length) .no
theorem initS_get {N : List Str} {ds : List D} (hl : ds.length ≤ N.length) (i : Nat) : (initS N ds)[i]? = if i < ds.length then (ds[i]?).map .sh else if i < N.length then some .no else none := by
  unfold initS
  by_cases h : i < ds.length
  · rw [List.getElem?_append_left (by simpa using h), List.getElem?_map, if_pos h]
  · rw [List.getElem?_append_right (by simpa using h), List.getElem?_replicate, if_neg h]
    simp only [List.length_map]
    by_cases h2 : i < N.length
    · rw [if_pos (by omega), if_pos h2]
    · rw [if_neg (by omega), if_neg h2]
theorem cur_start {N : List Str} {G H : Hp} {ds : List D} {vs : List V} (hl : ds.length ≤ N.length) (e : Same G H) (r : Reps K G ds vs) : Cur K [] [] G H G H (start N vs) (initS N ds) where
  gr := .refl e
  len := by simp [initS, L2.start, r.len]
  ok := fun i s h => by
    rw [initS_get hl] at h
    rw [start_get (by rw [r.len]; exact hl), r.len]
    by_cases hi : i < ds.length
    · rw [if_pos hi] at h ⊢
      cases q : ds[i]? with
      | none => rw [q] at h; cases h
      | some d =>
        rw [q] at h; cases h
        obtain ⟨v, hv, rv⟩ := r.get q
        rw [hv]
        exact ⟨_, rfl, v, rfl, rv⟩
    · rw [if_neg hi] at h ⊢
      split at h
      · rename_i h2
        rw [if_pos h2]
        cases h
        exact ⟨_, rfl, trivial⟩
      · cases h
  ap := fun i j s t a ne h1 h2 o1 o2 _ _ => by
    rw [initS_get hl] at h1
    split at h1
    · cases q : ds[i]? with
      | none => rw [q] at h1; cases h1
      | some d => rw [q] at h1; cases h1; cases o1
    · split at h1
      · cases h1; cases o1
      · cases h1
  pn := fun p hp => by cases hp
theorem liftG {N : List Str} {t : TS} {G H : Hp} {ds : List D} {vs : List V} {Q : VK} {post : Rs → Prop} (hl : ds.length ≤ N.length) (e : Same G H) (r : Reps K G ds vs) (k : ∀ r v G' H', Grow [] G H G' H' → RsOk K H G' H' r v → post r → Q v H')
    (s : SD K t (initS N ds) { nx := fun _ => post (.val .non), rt := fun r _ => post r }) : t { nx := fun _ H' => Q .non H', rt := Q } (start N vs) H :=
  s [] [] G H G H (start N vs) _ (cur_start hl e r) (fun δ' σ' G' H' _ c p => k (.val .non) .non G' H' c.gr (rep_non (K := K) (G := G')) p) (fun r δ' v σ' G' H' c ok p => k r v G' H' c.gr ok p) (fun _ _ _ _ _ _ p => p.elim) (fun _ _ _ _ _ _ p => p.elim)
theorem cur_startX {N : List Str} {G H : Hp} {ds : List D} {ws : List V} {b : Addr} {n : Nat} (hl : ds.length + 1 ≤ N.length) (e : Same G H) (r : Reps K G ds ws) (nb : G b = none) (box : BoxAt H b n) : Cur K [b] [] G H G H (start N (.ref b :: ws)) (.bx b n :: initS (N.drop 1) ds) where
  gr := .refl e
  len := by simp [initS, L2.start, r.len]; omega
  ok := fun i s h => by
    have hl' : ds.length ≤ (N.drop 1).length := by simp; omega
    rw [start_get (by simp [r.len]; omega)]
    cases i with
    | zero =>
      simp at h; subst h
      exact ⟨_, by simp, rfl, nb, .inl (by simp), box⟩
    | succ i =>
      rw [List.getElem?_cons_succ, initS_get hl'] at h
      simp only [List.length_cons, List.getElem?_cons_succ, Nat.add_lt_add_iff_right, r.len]
      by_cases hi : i < ds.length
      · rw [if_pos hi] at h ⊢
        cases q : ds[i]? with
        | none => rw [q] at h; cases h
        | some d =>
          rw [q] at h; cases h
          obtain ⟨v, hv, rv⟩ := r.get q
          rw [hv]
          exact ⟨_, rfl, v, rfl, rv⟩
      · rw [if_neg hi] at h ⊢
        split at h
        · rename_i h2
          rw [if_pos (by simp at h2; omega)]
          cases h
          exact ⟨_, rfl, trivial⟩
        · cases h
  ap := fun i j s t a ne h1 h2 o1 o2 _ _ => by
    have hl' : ds.length ≤ (N.drop 1).length := by simp; omega
    have nown : ∀ (k : Nat) (u : Sl), (Sl.bx b n :: initS (N.drop 1) ds)[k + 1]? = some u → u.own = true → False := fun k u h o => by
      rw [List.getElem?_cons_succ, initS_get hl'] at h
      split at h
      · cases q : ds[k]? with
        | none => rw [q] at h; cases h
        | some d => rw [q] at h; cases h; cases o
      · split at h
        · cases h; cases o
        · cases h
    cases i with
    | zero =>
      cases j with
      | zero => exact ne rfl
      | succ j => exact nown j t h2 o2
    | succ i => exact nown i s h1 o1
  pn := fun p hp => by cases hp
/-- what a box's slot says at the end -/
def BoxS (b : Addr) (m : Nat) : Option Sl → Prop
  | some (.bx a n) => a = b ∧ n ≤ m
  | some (.mo a (.lst [.int x, .int y, .int z])) => a = b ∧ 0 ≤ x ∧ (∃ k, x.natAbs < 2 ^ k ∧ k ≤ 1048640) ∧ 0 ≤ y ∧ y < 2147483648 ∧ 0 ≤ z ∧ z ≤ m
  | _ => False
theorem BoxAt.le {H : Hp} {b : Addr} {n m : Nat} (h : BoxAt H b n) (e : n ≤ m) : BoxAt H b m := by
  obtain ⟨x, y, z, k, h1, h2, h3, h4, h5, h6, h7, h8⟩ := h
  exact ⟨x, y, z, k, h1, h2, h3, h4, h5, h6, h7, by omega⟩
theorem boxS_ok {M : List Addr} {L : List (Addr × HO)} {G0 H0 G H : Hp} {σ : St} {δ : List Sl} {b : Addr} {m : Nat} (c : Cur K M L G0 H0 G H σ δ) (h : BoxS b m δ[0]?) : G b = none ∧ BoxAt H b m := by
  unfold BoxS at h
  split at h
  · rename_i a n q
    obtain ⟨rfl, e⟩ := h
    obtain ⟨x, ex, e1, nb, _, box⟩ := c.ok 0 _ q
    exact ⟨nb, box.le e⟩
  · rename_i a x y z q
    obtain ⟨rfl, h1, ⟨k, h2, h3⟩, h4, h5, h6, h7⟩ := h
    obtain ⟨v, ex, e1, nb, _, xs, hx, rx⟩ := c.ok 0 _ q
    have exs : xs = [V.int x, V.int y, V.int z] := by
      obtain ⟨v1, r1, rfl, q1, rx⟩ := rx.cons_inv
      obtain ⟨v2, r2, rfl, q2, rx⟩ := rx.cons_inv
      obtain ⟨v3, r3, rfl, q3, rx⟩ := rx.cons_inv
      rw [rx.nil_inv, q1.int_inv, q2.int_inv, q3.int_inv]
    subst exs
    exact ⟨nb, x, y, z, k, hx, h1, h2, h3, h4, h5, h6, h7⟩
  · exact h.elim
theorem liftX {N : List Str} {t : TS} {G H : Hp} {ds : List D} {ws : List V} {b : Addr} {n : Nat} {Q : VK} {post : Rs → Nat → Prop} (hl : ds.length + 1 ≤ N.length) (e : Same G H) (r : Reps K G ds ws) (nb : G b = none) (box : BoxAt H b n)
    (k : ∀ r v m G' H', Grow [b] G H G' H' → G' b = none → BoxAt H' b m → RsOk K H G' H' r v → post r m → Q v H')
    (s : SD K t (.bx b n :: initS (N.drop 1) ds) { nx := fun δ' => ∃ m, BoxS b m δ'[0]? ∧ post (.val .non) m, rt := fun r δ' => ∃ m, BoxS b m δ'[0]? ∧ post r m }) : t { nx := fun _ H' => Q .non H', rt := Q } (start N (.ref b :: ws)) H :=
  s [b] [] G H G H (start N (.ref b :: ws)) _ (cur_startX hl e r nb box) (fun δ' σ' G' H' _ c ⟨m, hm, p⟩ => k (.val .non) .non m G' H' c.gr (boxS_ok c hm).1 (boxS_ok c hm).2 (rep_non (K := K) (G := G')) p) (fun r δ' v σ' G' H' c ok ⟨m, hm, p⟩ => k r v m G' H' c.gr (boxS_ok c hm).1 (boxS_ok c hm).2 ok p) (fun _ _ _ _ _ _ p => p.elim) (fun _ _ _ _ _ _ p => p.elim)
end
end Ms

/-! Lay4: defs by name; the same where no repr is under way (guards told); the law's end. -/
namespace Ms
open PySem PySem.Spec PyProof.Rows L2
/-- a def's promise, asked only where no repr is under way -/
structure FnG (P : Program) (w : World) (K : PySem.W.Frag) (mg : Str → Option Value) (base : Heap) (k : Nat) (f : Addr) (fd : FuncData) (ps : List Str) (sp : Sp) : Prop where
  len : ∀ vs H Q E, sp vs H Q E → vs.length = ps.length
  run : ∀ (A : Around) (outer : List Env) (s : Shared) (H : Hp) (args : Args) (us : List Value) (vs : List V) (Q : VK) (E : XK), A.guards = some [] → Room k A → Env0 P w K mg base A outer s H → BindsTo s fd args (ps.zip us) →
    Vals vs us → sp vs H Q E → codeAny (model P w) A (.call (.ref f) args) (CR CX0 outer P w H s Q E) s
theorem fnG_of {P : Program} {w : World} {K : PySem.W.Frag} {mg : Str → Option Value} {base : Heap} {k : Nat} {x qual : Str} {params : Arguments} {body : List Stmt} {scope : Scope} {dvs : List V} {kws : List (Str × V)} {f : Addr} {fd : FuncData}
    {N ps : List Str} {sp : Sp} (F : FunD K x qual params body scope dvs kws f fd) (S : FnScope N ps scope) (len : ∀ vs H Q E, sp vs H Q E → vs.length = ps.length)
    (hb : ∀ (cdv : Value) (A : Around) (outer : List Env) (s : Shared) (H : Hp) (vs : List V) (Q : VK) (E : XK), (A.deeper (envOfC qual scope s.heap.objs.size f cdv)).guards = some [] → Room k (A.deeper (envOfC qual scope s.heap.objs.size f cdv)) → sp vs H Q E →
      ∃ t, PSs (cxOf CX0 P w K mg base N qual scope f cdv A outer s H E) body t ∧ t { nx := fun _ H' => Q .non H', rt := Q } (L2.start N vs) H) : FnG P w K mg base (k + 1) f fd ps sp := by
  obtain ⟨oc, od, dV, kV, doc, pm, an, cdv, ct, osl, rfl, lk, hcd, _, _⟩ := F.ex
  refine ⟨len, fun A outer s H args us vs Q E hgd room e0 hbind rv hsp => ?_⟩
  have lenv := len _ _ _ _ hsp
  have kin : K.In s.heap := e0.mod.kin.keeps fun b o e => (e0.bs b o e).1
  have nol : s.heap.NoLimit := e0.mod.nolimit.keeps fun b o e => (e0.bs b o e).1
  have kinds : ∀ y ∈ ps.zip us, scope.names.lookup y.1 = some .local ∨ (scope.names.lookup y.1 = some .cell ∧ ((cellsFrom (s.heap.objs.size + 1) scope.names []).lookup y.1).isSome = true) := by
    rintro ⟨n, v⟩ hy
    rcases S.par n (List.of_mem_zip hy).1 with q | q
    · exact .inl q
    · exact .inr ⟨q, PySem.W.cellsFrom_some _ _ _ (.inl q)⟩
  refine codeAny_call_function room.depth (kin _ _ lk) rfl S.co S.gen rfl (PySem.W.codeRec_of kin hcd) (hbind _ _ _ _ (wpAny_newFunctionEnv_cells S.kind kinds fun env he s1 ic => ?_))
  subst he
  refine ⟨nol.keeps ic.toInCall.keep, codeAny_func ?_⟩
  obtain ⟨t, ht, hq⟩ := hb cdv A outer s H vs Q E hgd (room.deeper _) hsp
  refine wpAny_mono (ht.run [] s1 (L2.start N vs) H _ (inv_start S room.hd e0 lenv rv ic) hq) (fun fl s' hs => ?_) fun e s' hs => hs
  have ends : ∀ {σ' : L2.St} {H' : Hp} {v : V} {u : Value}, Inv (cxOf CX0 P w K mg base N qual scope f cdv A outer s H E) [] σ' H' s' → RelV v u → Q v H' → CE outer P w H s Q u s' := fun {σ' H' v u} J r q => ⟨v, H', J.os, J.bare, J.base, J.hok, r, q⟩
  cases fl with
  | ret u => obtain ⟨v, σ', H', J, r, q⟩ := hs; exact ends J r q
  | next => obtain ⟨σ', H', J, q⟩ := hs; exact ends (v := V.non) (u := Value.none) J rfl q
  | brk => obtain ⟨_, _, _, q⟩ := hs; exact q.elim
  | cont => obtain ⟨_, _, _, q⟩ := hs; exact q.elim
/-- a def of the module, by its name -/
structure Fn (P : Program) (w : World) (K : PySem.W.Frag) (mg : Str → Option Value) (base : Heap) (k : Nat) (x : Str) (ps : List Str) (sp : Sp) : Prop where
  ex : ∃ f fd, FnOk P w K mg base CX0 k f fd ps sp ∧ mg x = some (.ref f) ∧ PySem.W.keepIn K (.ref f) = true ∧ Binds K fd ps []
structure Gn (P : Program) (w : World) (K : PySem.W.Frag) (mg : Str → Option Value) (base : Heap) (k : Nat) (x : Str) (ps : List Str) (sp : Sp) : Prop where
  ex : ∃ f fd, FnG P w K mg base k f fd ps sp ∧ mg x = some (.ref f) ∧ PySem.W.keepIn K (.ref f) = true ∧ Binds K fd ps []
section
variable {X : Cx} {k : Nat} {x : Str} {ps : List Str} {sp : Sp} {p pos : Pos} {e : Expr} {es : List Expr} {t : TA}
theorem pe_fn (F : Fn X.prog X.w X.K X.mg X.base k x ps sp) (hr : Room k X.A) (hg : Gl X x) (ha : PA X (e :: es) t) (hdb : (x == ("__debug__" : Str)) = false := by decide)
    (he : starEach (e :: es) X.env = (false, eval e X.env) :: starEach es X.env := by rfl) (hpl : (backTo pos (starEach es X.env)).any (·.1) = false := by rfl) : PE X (.Call (.Name x p) (e :: es) [] pos) (tCall sp [] E0 t) := by
  obtain ⟨f, fd, h1, h2, h3, h4⟩ := F.ex
  exact pe_call h1 hr hg h2 h3 h4 .nil pass0 ha hdb he hpl
theorem pe_gn (F : Gn X.prog X.w X.K X.mg X.base k x ps sp) (hgd : X.A.guards = some []) (hr : Room k X.A) (hg : Gl X x) (ha : PA X (e :: es) t) (hdb : (x == ("__debug__" : Str)) = false := by decide)
    (he : starEach (e :: es) X.env = (false, eval e X.env) :: starEach es X.env := by rfl) (hpl : (backTo pos (starEach es X.env)).any (·.1) = false := by rfl) : PE X (.Call (.Name x p) (e :: es) [] pos) (tCall sp [] E0 t) := by
  obtain ⟨f, fd, h1, h2, h3, h4⟩ := F.ex
  refine ⟨fun pins s σ H Q I h => wpAny_Call_Name_kw (ld_glob I hg h2 ?_ hdb)⟩
  refine PySem.W.callWith_K (h₀ := X.base) I.ok.mod.kin h3 (thn (ha.run pos pins s σ H _ I h) fun us s1 ⟨vs, H1, I1, r, q⟩ => ⟨I1.kIn, ?_⟩) he hpl
  have q : sp (vs ++ []) H1 Q E0 := q
  rw [List.append_nil] at q
  have hl : us.length = ps.length := by rw [← r.length]; exact h1.len _ _ _ _ q
  have b := h4 s1 us I1.kIn (by simpa using hl)
  rw [List.append_nil] at b
  refine wpAny_call (codeAny_mono (h1.run X.A X.stack s1 H1 ⟨us, []⟩ us vs Q E0 hgd hr I1.env0 b r q) fun res s' hq => ?_)
  cases res with
  | error er => exact hq.elim
  | ok fl =>
    cases fl with
    | ret u => exact I1.after hq
    | next => exact hq.elim
    | brk => exact hq.elim
    | cont => exact hq.elim
/-- constants of the module -/
theorem pe_gstr {z : Str} (h : ∃ u, X.mg x = some (.str z u)) (hg : Gl X x) (hd : (x == ("__debug__" : Str)) = false := by decide) : PE X (.Name x pos) (tC (.str z)) := by
  obtain ⟨u, h⟩ := h
  exact pe_glob hg h ⟨_, rfl⟩ hd
theorem pe_gint {i : Int} (h : ∃ u, X.mg x = some (.int i u)) (hg : Gl X x) (hd : (x == ("__debug__" : Str)) = false := by decide) : PE X (.Name x pos) (tC (.int i)) := by
  obtain ⟨u, h⟩ := h
  exact pe_glob hg h ⟨_, rfl⟩ hd
theorem pe_gref {a : Addr} (h : X.mg x = some (.ref a)) (hg : Gl X x) (hd : (x == ("__debug__" : Str)) = false := by decide) : PE X (.Name x pos) (tC (.ref a)) := pe_glob hg h rfl hd
end
section
variable {P : Program} {w : World} {K : PySem.W.Frag} {mg : Str → Option Value} {base : Heap} {k : Nat} {x : Str} {params : Arguments} {body : List Stmt} {scope : Scope} {f : Addr} {fd : FuncData} {N ps : List Str}
/-- from a body to the promise over data -/
theorem fn_mk {A : FS} (F : ∃ fd, FunD K x x params body scope [] [] f fd) (gx : mg x = some (.ref f)) (S : FnScope N ps scope) (hlen : ∀ ds post, A ds post → ds.length = ps.length) (hpl : ps.length ≤ N.length)
    (hbind : ∀ (kV doc pm : Value) (an : Option Addr) (cdv ct : Value) (us : List Value), us.length = ps.length → bindArgs (PySem.W.fnOf x x params body scope .none kV doc pm an cdv ct) ⟨us, []⟩ = pure (ps.zip us))
    (hb : ∀ (cdv : Value) (B : Around) (outer : List Env) (s : Shared) (H : Hp) (E : XK), Room k (B.deeper (envOfC x scope s.heap.objs.size f cdv)) →
      ∃ t, PSs (cxOf CX0 P w K mg base N x scope f cdv B outer s H E) body t ∧ ∀ ds post, A ds post → SD K t (initS N ds) { nx := fun _ => post (.val .non), rt := fun r _ => post r }) : Fn P w K mg base (k + 1) x ps (spG K A) := by
  obtain ⟨fd, F⟩ := F
  refine ⟨f, fd, F.ok S (fun vs H Q E h => ?_) (fun cdv B outer s H vs Q E hr h => ?_), gx, F.kp, F.bindsN hbind⟩
  · obtain ⟨G, ds, post, e, r, a, _⟩ := h
    rw [r.len, hlen ds post a]
  · obtain ⟨G, ds, post, e, r, a, k⟩ := h
    obtain ⟨t, ht, hs⟩ := hb cdv B outer s H E hr
    exact ⟨t, ht, liftG (by rw [hlen ds post a]; exact hpl) e r k (hs ds post a)⟩
theorem gn_mk {A : FS} (F : ∃ fd, FunD K x x params body scope [] [] f fd) (gx : mg x = some (.ref f)) (S : FnScope N ps scope) (hlen : ∀ ds post, A ds post → ds.length = ps.length) (hpl : ps.length ≤ N.length)
    (hbind : ∀ (kV doc pm : Value) (an : Option Addr) (cdv ct : Value) (us : List Value), us.length = ps.length → bindArgs (PySem.W.fnOf x x params body scope .none kV doc pm an cdv ct) ⟨us, []⟩ = pure (ps.zip us))
    (hb : ∀ (cdv : Value) (B : Around) (outer : List Env) (s : Shared) (H : Hp) (E : XK), (B.deeper (envOfC x scope s.heap.objs.size f cdv)).guards = some [] → Room k (B.deeper (envOfC x scope s.heap.objs.size f cdv)) →
      ∃ t, PSs (cxOf CX0 P w K mg base N x scope f cdv B outer s H E) body t ∧ ∀ ds post, A ds post → SD K t (initS N ds) { nx := fun _ => post (.val .non), rt := fun r _ => post r }) : Gn P w K mg base (k + 1) x ps (spG K A) := by
  obtain ⟨fd, F⟩ := F
  refine ⟨f, fd, fnG_of F S (fun vs H Q E h => ?_) (fun cdv B outer s H vs Q E hgd hr h => ?_), gx, F.kp, F.bindsN hbind⟩
  · obtain ⟨G, ds, post, e, r, a, _⟩ := h
    rw [r.len, hlen ds post a]
  · obtain ⟨G, ds, post, e, r, a, k⟩ := h
    obtain ⟨t, ht, hs⟩ := hb cdv B outer s H E hgd hr
    exact ⟨t, ht, liftG (by rw [hlen ds post a]; exact hpl) e r k (hs ds post a)⟩
/-- .. its first parameter a box -/
theorem fnX_mk {A : FX} (F : ∃ fd, FunD K x x params body scope [] [] f fd) (gx : mg x = some (.ref f)) (S : FnScope N ps scope) (hlen : ∀ n ds post, A n ds post → ds.length + 1 = ps.length) (hpl : ps.length ≤ N.length)
    (hbind : ∀ (kV doc pm : Value) (an : Option Addr) (cdv ct : Value) (us : List Value), us.length = ps.length → bindArgs (PySem.W.fnOf x x params body scope .none kV doc pm an cdv ct) ⟨us, []⟩ = pure (ps.zip us))
    (hb : ∀ (cdv : Value) (B : Around) (outer : List Env) (s : Shared) (H : Hp) (E : XK), Room k (B.deeper (envOfC x scope s.heap.objs.size f cdv)) →
      ∃ t, PSs (cxOf CX0 P w K mg base N x scope f cdv B outer s H E) body t ∧ ∀ b n ds post, A n ds post → SD K t (.bx b n :: initS (N.drop 1) ds) { nx := fun δ' => ∃ m, BoxS b m δ'[0]? ∧ post (.val .non) m, rt := fun r δ' => ∃ m, BoxS b m δ'[0]? ∧ post r m }) :
    Fn P w K mg base (k + 1) x ps (spX K A) := by
  obtain ⟨fd, F⟩ := F
  refine ⟨f, fd, F.ok S (fun vs H Q E h => ?_) (fun cdv B outer s H vs Q E hr h => ?_), gx, F.kp, F.bindsN hbind⟩
  · obtain ⟨G, b, ws, ds, n, post, e, rfl, r, nb, box, a, _⟩ := h
    rw [List.length_cons, r.len, hlen n ds post a]
  · obtain ⟨G, b, ws, ds, n, post, e, rfl, r, nb, box, a, k⟩ := h
    obtain ⟨t, ht, hs⟩ := hb cdv B outer s H E hr
    exact ⟨t, ht, liftX (by rw [hlen n ds post a]; exact hpl) e r nb box k (hs b n ds post a)⟩
end
/-! ### the law's end -/
theorem law_run {P : Program} {w : World} {K : PySem.W.Frag} {mg mb : Str → Option Value} {k : Nat} {fa a : Addr} {fd : FuncData} {x : Str} {sp : Sp} {s1 : Shared} {vs : List Value} {ns : List Int}
    (KX : K.In s1.heap) (hns : s1.heap.Ns mainGlobals mg) (hb : s1.heap.Ns builtinsNs mb) (hbb : ∀ x : Str, x ≠ "__name__" → mb x = bootBuiltins x) (lim : s1.heap.NoLimit) (hg : s1.gens = #[])
    (ha : s1.heap.get? a = some { cls := .type "list", data := .seq vs.toArray }) (hi : IntsAre vs ns) (hl : ns.length ≤ sizeLine) (hr : Room k callerA)
    (F : ∀ base : Heap, K.In base → base.Ns mainGlobals mg → FnG P w K mg base k fa fd [x] sp) (hbind : ∀ (s : Shared) (u : Value), BindsTo s fd ⟨[u], []⟩ [(x, u)])
    (hsp : ∀ H : Hp, Only H → SqL K H a (ns.map V.int) → sp [.ref a] H (fun v _ => v = .bl true) fun _ _ _ => False) :
    codeAny (model P w) callerA (.call (.ref fa) ⟨[.ref a], []⟩) (fun r s' => r = .ok (.ret (.bool true)) ∧ OldK s1.heap s'.heap ∧ s'.os = s1.os ∧ AllBare s'.gens) s1 := by
  -- whatever is tracked at the start is the script
  have go : ∀ H : Hp, Only H → SqL K H a (ns.map V.int) → HOk P w H s1.heap → (∀ b, H b ≠ none → b = a) → (H a ≠ none → K.lookup a = none) →
      codeAny (model P w) callerA (.call (.ref fa) ⟨[.ref a], []⟩) (fun r s' => r = .ok (.ret (.bool true)) ∧ OldK s1.heap s'.heap ∧ s'.os = s1.os ∧ AllBare s'.gens) s1 := by
    intro H only hS ok hA hK
    have isA : ∀ {b : Addr} {u : HO}, H b = some u → b = a := fun {b u} q => hA b (by rw [q]; simp)
    have dicts : ∀ {b : Addr} {o : Obj} {es : Array DictEntry} {ep : Nat}, s1.heap.get? b = some o → o.data = .dict es ep → H b = none := by
      intro b o es ep e d
      cases q : H b with
      | none => rfl
      | some u =>
        have e' := isA q
        subst e'
        rw [ha] at e; cases e
        exact nomatch (show Data.seq vs.toArray _ = Data.dict es ep from d)
    have nss : ∀ {b : Addr} {m : Str → Option Value}, s1.heap.Ns b m → (hidT s1.heap H).Ns b m := fun {b m} ⟨o, es, ep, e, d, r⟩ => ⟨o, es, ep, hidT_get e (dicts e d), d, r⟩
    have kb : K.In (hidT s1.heap H) := fun b o e => by
      refine hidT_get (KX b o e) ?_
      cases q : H b with
      | none => rfl
      | some u =>
        have e' := isA q
        subst e'
        rw [hK (by rw [q]; simp)] at e; cases e
    have md : Mod K mg (hidT s1.heap H) := ⟨kb, nss hns, ⟨mb, nss hb, hbb⟩, let ⟨mc, h1, h2⟩ := lim; ⟨mc, nss h1, h2⟩⟩
    have e0 : Env0 P w K mg (hidT s1.heap H) callerA [] s1 H := ⟨rfl, md, fun b o e => of_hidT e, Nat.le_of_eq (hidT_size _ _), trivial, fun b hb => absurd (show b ∈ ([] : List Addr) from hb) (by simp), ok, .of_eq hg⟩
    refine codeAny_mono ((F _ kb (nss hns)).run callerA [] s1 H ⟨[.ref a], []⟩ [.ref a] [.ref a] _ _ rfl hr e0 (hbind s1 (.ref a)) (.cons rfl .nil) (hsp H only hS)) fun r s' h => ?_
    cases r with
    | error e => exact h.elim
    | ok fl =>
      cases fl with
      | next => exact h.elim
      | brk => exact h.elim
      | cont => exact h.elim
      | ret u =>
        obtain ⟨v, H', os, bare, un, ok', r', q⟩ := h
        cases (show v = .bl true from q)
        cases (show u = Value.bool true from r')
        refine ⟨rfl, OldK.of_keep fun b o e => ?_, os, bare⟩
        cases q : H b with
        | none => exact un.keep b o e q (fun z => absurd (show b ∈ ([] : List Addr) from z) (by simp)) (by simp)
        | some u =>
          rcases only b with z | ⟨ob, xs, z⟩
          · rw [q] at z; cases z
          · obtain ⟨e1, _⟩ := ok b _ z
            obtain ⟨e2, _⟩ := ok' b _ (un.frzs b ob _ z)
            rw [e] at e1; cases e1
            exact e2
  have rv := vals_ints hi
  have lv := hi.length
  cases hk : K.lookup a with
  | some o =>
    have e := KX a o hk
    rw [ha] at e; cases e
    exact go (fun _ => none) (fun _ => .inl rfl) (.inr ⟨_, vs.toArray, _, hk, rfl, rfl, rfl, by rw [List.size_toArray, lv]; exact hl, by simpa using rv⟩) (fun b u z => nomatch (show (none : Option HO) = some u from z)) (fun b z => absurd rfl z) fun z => absurd rfl z
  | none =>
    refine go (fun b => if b = a then some (.frz { cls := .type "list", data := .seq vs.toArray } (.lst (ns.map V.int))) else none) (fun b => ?_) (.inl (.inr ⟨_, if_pos rfl⟩)) (fun b u z => ?_) (fun b z => ?_) fun _ => hk
    · by_cases h : b = a
      · exact .inr ⟨_, _, if_pos h⟩
      · exact .inl (if_neg h)
    · by_cases h : b = a
      · cases (if_pos h).symm.trans z
        subst h
        exact ⟨ha, by rw [List.length_map]; exact hl, vs, _, rv, ha⟩
      · cases (if_neg h).symm.trans z
    · by_cases h : b = a
      · exact h
      · exact absurd (if_neg h) z
theorem walk_law {l : PySem.W.OpenLaw} {n k : Nat} {q : Program} {loose : List Str} {XP : (Str → Option Value) → Heap → Prop} {YP : World → Heap → Prop} {d : DefRec} {x : Str}
    (hn : l.most = some n) (hn2 : n ≤ sizeLine) (hdf : d.params.defaults = []) (hr : Room k callerA)
    (F : ∀ (w : World) (mg : Str → Option Value) (fa : Addr) (h : Heap), YP w h → h.Ns mainGlobals mg → mg d.name = some (.ref fa) →
      ∃ (K : PySem.W.Frag) (fd : FuncData) (sp : Sp), K.In h ∧ (∀ (s : Shared) (u : Value), BindsTo s fd ⟨[u], []⟩ [(x, u)]) ∧
        (∀ (H : Hp) (a : Addr) (ns : List Int), ns.length ≤ n → (∀ z ∈ ns, Builtin.Int.intBits z ≤ 1048576) → SqL K H a (ns.map V.int) → sp [.ref a] H (fun v _ => v = .bl true) fun _ _ _ => False) ∧
        ∀ base : Heap, K.In base → base.Ns mainGlobals mg → FnG l.prog w K mg base k fa fd [x] sp) :
    PySem.W.WalkO q loose XP YP l.row.toRowW d [] (fun f vs => PySem.call f vs) := by
  refine Att.attach_callB hn hdf fun w s₀ s₁ mg mb fa o pm cd doc a vs ns G Y ho hd hcd hmg hobj hints hlen hbits hg => ?_
  obtain ⟨K, fd, sp, KX, hb, hsp, hF⟩ := F w mg fa _ Y G.T.g hmg
  exact law_run KX G.T.g G.T.b G.T.builtins G.T.nolimit hg hobj hints (Nat.le_trans hlen hn2) hr hF hb fun H _ hS => hsp H a ns hlen hbits hS
end Ms

/-! Lay5: further rules of the machine: enumerate over a tuple, repr of data, text * int, isinstance with a tuple of classes. -/
namespace Ms
open PySem PySem.Spec PyProof.Rows L2

/-! ### enumerate over anything that begins -/
theorem meets_enum1 {v : Value} {o : Obj} {H : Heap → Prop} (B : Begins v o H) : Meets (Builtin.«enumerate.__new__» ⟨[.type "enumerate", v], []⟩) (fun _ R s => H s.heap ∧
      R (.ok (.ret (.ref (s.heap.push o).objs.size))) { s with heap := (s.heap.push o).push { cls := .type "enumerate", data := .fields #[.none, .bool false, .ref s.heap.objs.size, rawInt 0, .none, .none] } }) :=
  .of_wp fun prog w A R s h => by
    obtain ⟨hp, g, d, tk, os⟩ := s
    obtain ⟨hB, h⟩ := h
    have hsub := sub_enumerate
    have qi : ∀ {A' : Around} {E : Value → Shared → Prop} {Q : Value → Shared → Prop}, Q (.ref hp.objs.size) ⟨hp.push o, g, d, tk, os⟩ → wpAny (model prog w) A' (pyIter v) Q E ⟨hp, g, d, tk, os⟩ := fun q => B.iter prog w _ _ ⟨hp, g, d, tk, os⟩ _ hB q
    wp_walk using qi
    refine wpAny_stack_any fun st => wpAny_pure ?_
    split
    · rename_i c _ _ _ _ _
      cases (c == Value.type "enumerate") <;> (wp_walk using qi; exact ⟨_, rfl, h⟩)
    · wp_walk using qi
      exact ⟨_, rfl, h⟩
theorem enum1 {prog : Program} {w : World} {A : Around} {E : Value → Shared → Prop} {s : Shared} {v : Value} {o : Obj} {H : Heap → Prop} {Q : Value → Shared → Prop} (B : Begins v o H) (hB : H s.heap)
    (h : ∀ h', IsEnum h' (s.heap.objs.size + 1) s.heap.objs.size 0 .none → h'.get? s.heap.objs.size = some o → (∀ b o, s.heap.get? b = some o → h'.get? b = some o) → Q (.ref (s.heap.objs.size + 1)) { s with heap := h' }) :
    wpAny (model prog w) A (call (.type "enumerate") [v]) Q E s := by
  refine callType_new F.called_enumerate (by decide) (F.typeCall_enumerate_1 _) (F.newCall_enumerate_1 _) (fun obj => F.args_object_init_2 obj _) F.entry_enumerate_new (meets_enum1 B) ⟨hB, ?_⟩
  have sz : (s.heap.push o).objs.size = s.heap.objs.size + 1 := Heap.size_push ..
  show _ ∧ _
  rw [sz]
  have he : IsEnum ((s.heap.push o).push { cls := .type "enumerate", data := .fields #[.none, .bool false, .ref s.heap.objs.size, rawInt 0, .none, .none] }) (s.heap.objs.size + 1) s.heap.objs.size 0 .none := by
    have z := Heap.get?_push_size (s.heap.push o) (o := { cls := .type "enumerate", data := .fields #[.none, .bool false, .ref s.heap.objs.size, rawInt 0, .none, .none] }) rfl
    rw [sz] at z; exact z
  exact ⟨⟨_, he, rfl⟩, h _ he (Heap.get?_push_of_some _ (Heap.get?_push_size _ B.free)) fun b o x => Heap.get?_push_of_some _ (Heap.get?_push_of_some _ x)⟩
/-- the tuple at a, each item in a new pair -/
def ItE (K : PySem.W.Frag) (a : Addr) : It :=
  ⟨fun i H => ∃ (xs : List V) (x : V), SqT K H a xs ∧ xs[i]? = some x, fun i H v H' => ∃ T x, v = .ref T ∧ H T = none ∧ H' = upd H T (.tup [.int (i : Nat), x]) ∧ ∀ xs, SqT K H a xs → xs[i]? = some x, fun i H => ∃ xs : List V, SqT K H a xs ∧ xs.length = i⟩
theorem turn_enumT {P : Program} {w : World} {K : PySem.W.Frag} {elts : List Expr} {kk : Nat} {tpos : Pos} (a e it : Addr) :
    Turn P w K (.Tuple elts kk tpos) (ItE K a) [e, it] e (fun i h => (∃ old, IsEnum h e it ((i : Nat) : Int) old) ∧ h.IsTupleIter it a i ∧ e ≠ it ∧ e ≠ a ∧ a ≠ it) where
  mem := by simp
  obj := fun i h st b hb => by
    obtain ⟨⟨old, he⟩, ⟨o, ho, hc, hd⟩, _⟩ := st
    rcases (show b = e ∨ b = it by simpa using hb) with z | z
    · rw [z]; exact ⟨_, he, fun v q => nomatch q⟩
    · rw [z]; exact ⟨o, ho, fun v q => by rw [hd] at q; cases q⟩
  keep := fun i h h' st k => let ⟨⟨old, he⟩, hi, hne⟩ := st; ⟨⟨old, k e (by simp) _ he⟩, hi.at fun o q => k it (by simp) o q, hne⟩
  item := by
    intro X hP hw hK hc i pins s σ H E I hf st hg
    subst hP hw hK
    obtain ⟨⟨old, he⟩, hit, hne, hea, hai⟩ := st
    obtain ⟨xs, x, hq, hx⟩ := hg
    obtain ⟨its, rv, p, hz⟩ := I.tuple hq
    obtain ⟨u, hu, ru⟩ := rv.get hx
    have hel : e < s.heap.objs.size := Heap.lt_size he
    have hil : it < s.heap.objs.size := by obtain ⟨_, q, _⟩ := hit; exact Heap.lt_size q
    have hlt : i < its.toArray.size := by
      have := (List.getElem?_eq_some_iff.mp hu).1
      simpa using this
    refine wpAny_pyNext_enum_itemD (Draws.tuple (A := X.A.in1) (I.ok.hd hc) it a hai its.toArray) he ⟨hit, p⟩ hlt hne (by simp [hne, hea]) fun u' h' tk hu' ho hit' hT hsz hk => ?_
    have eu : u' = u := by
      have : its.toArray[i]? = some u := by simpa using hu
      rw [this] at hu'; cases hu'; rfl
    subst eu
    refine ⟨_, rfl, wpAny_letOwnedTupleGo_enum (s := { s with heap := h', toks := tk + 1 }) ho fun h'' he' sb => ?_⟩
    have hT2 : h''.get? s.heap.objs.size = some { cls := .type "tuple", data := .seq #[.int i tk, u'] } := (sb.2 _ (Nat.ne_of_gt hel)).trans hT
    have new : ObjOk X.prog X.w (upd H s.heap.objs.size (.tup [.int (i : Nat), x])) h'' s.heap.objs.size (.tup [.int (i : Nat), x]) :=
      ⟨by show 2 ≤ sizeLine; decide, [.int i tk, u'], .cons ⟨_, rfl⟩ (.cons ru .nil), ⟨_, hT2, rfl, _, rfl⟩⟩
    have I1 : L2.Inv X pins σ (upd H s.heap.objs.size (.tup [.int (i : Nat), x])) { s with heap := h'', toks := tk + 1 } :=
      I.turnedNew (ch := [e, it]) (fun b ob hb q => (sb.2 b (fun z => hb (by simp [z]))).trans (hk b ob (fun z => hb (by simp [z])) (fun z => hb (by simp [z])) q)) hf (Nat.le_refl _) new
    refine ⟨.ref s.heap.objs.size, _, I1, rfl, ⟨_, x, rfl, I.hok.fresh (Nat.le_refl _), rfl, fun ys hy => by rw [I.tuple_inj hy hq]; exact hx⟩, ⟨⟨u', ?_⟩, hit'.1.at fun o q => (sb.2 it (Ne.symm hne)).trans q, hne, hea, hai⟩, fun b hb => ?_⟩
    · rw [show ((i + 1 : Nat) : Int) = (i : Int) + 1 by omega]; exact he'
    · have hb' : b < s.heap.objs.size := by
        rcases (show b = e ∨ b = it by simpa using hb) with z | z
        · rw [z]; exact hel
        · rw [z]; exact hil
      rw [upd_ne (Nat.ne_of_lt hb')]
      exact (hf b hb).1
  done := by
    intro X hP hw hK hc i pins s σ H E I hf st hg
    subst hP hw hK
    obtain ⟨⟨old, he⟩, hit, hne, hea, hai⟩ := st
    obtain ⟨xs, hq, hx⟩ := hg
    obtain ⟨its, rv, p, hz⟩ := I.tuple hq
    obtain ⟨f0, f1, f2, f3, f4, f5⟩ := hf it (by simp)
    have hl := rv.length
    have e1 : its.toArray.size = i := by simp; omega
    refine wpAny_pyNext_enum_endD (Draws.tuple (A := X.A.in1) (I.ok.hd hc) it a hai its.toArray) he (by rw [e1]; exact ⟨hit, p⟩) fun h' eb => ⟨rfl, I.turned (t' := s.toks) (fun b o hb q => eb b o hb q) f0 f1 f3 f4 f5⟩
  self := fun A i s Q E st h => let ⟨⟨_, he⟩, _⟩ := st; wpAny_pyIter_enum he h
theorem walk_enumT {K : PySem.W.Frag} {a : Addr} {xs : List V} : Walk (ItE K a) xs.length (fun H => SqT K H a xs) (YPair (fun i => some (.int (i : Nat))) (fun i => xs[i]?)) := by
  refine ⟨fun i _ hi q => ⟨xs, xs[i], q, by simp [hi]⟩, fun _ q => ⟨xs, q, rfl⟩, fun i H v H' _ q y => ?_⟩
  obtain ⟨T, x, h1, h2, h3, h4⟩ := y
  exact ⟨T, .int (i : Nat), x, h1, h2, h3, rfl, h4 xs q⟩
/-- enumerate(v), v a list or a tuple -/
def iEnU (K : PySem.W.Frag) (ta : TA) : TI := fun σ H R => ta σ H fun vs H1 => (∃ a xs, vs = [.ref a] ∧ SqL K H1 a xs ∧ R (Ite K a) H1) ∨ ∃ a xs, vs = [.ref a] ∧ SqT K H1 a xs ∧ R (ItE K a) H1
theorem pi_enU {X : Cx} {e : Expr} {ta : TA} {p pos tpos : Pos} {elts : List Expr} {kk : Nat} (hg : Gl X "enumerate") (hm : X.mg "enumerate" = none) (ha : PA X [e] ta) (hs : starEach [e] X.env = [(false, eval e X.env)] := by rfl) :
    PI X (.Tuple elts kk tpos) (.Call (.Name "enumerate" p) [e] [] pos) (iEnU X.K ta) := by
  refine ⟨fun pins s σ H R I h => Call_ (ld_blt I hg hm boot_enumerate (PyProof.Rows.callWith_type1 (thn (ha.run pos pins s σ H _ I h) fun us s1 ⟨vs, H1, I1, r1, q1⟩ => ?_) hs rfl))⟩
  have low : ∀ b, b ∈ [s1.heap.objs.size + 1, s1.heap.objs.size] → s1.heap.objs.size ≤ b := fun b hb => by
    rcases (show b = s1.heap.objs.size + 1 ∨ b = s1.heap.objs.size by simpa using hb) with z | z
    · rw [z]; exact Nat.le_add_right _ _
    · rw [z]; exact Nat.le_refl _
  rcases q1 with ⟨a, xs, ex, hq, q⟩ | ⟨a, xs, ex, hq, q⟩
  · subst ex
    cases r1 with
    | cons r rr =>
      cases rr; cases r
      obtain ⟨its, rv, p', hz⟩ := I1.list hq
      refine call_enumerate_list p'.isList fun h' he hit hsz hk => wpAny_pyIter_enum he ?_
      have I2 : L2.Inv X pins σ H1 { s1 with heap := h' } := I1.kept (t' := s1.toks) hk
      exact ⟨s1.heap.objs.size + 1, [s1.heap.objs.size + 1, s1.heap.objs.size], _, _, H1, rfl, I2, turn_enum a (s1.heap.objs.size + 1) s1.heap.objs.size, ⟨⟨.none, he⟩, hit, Nat.succ_ne_self _⟩, fun b hb => I1.fpOk (low b hb) (I1.hok.fresh (low b hb)), q⟩
  · subst ex
    cases r1 with
    | cons r rr =>
      cases rr; cases r
      obtain ⟨its, rv, p', hz⟩ := I1.tuple hq
      have alt : a < s1.heap.objs.size := by obtain ⟨o, q, _⟩ := p'; exact Heap.lt_size q
      refine enum1 (begins_tuple a its.toArray) p' fun h' he hit hk => wpAny_pyIter_enum he ?_
      have I2 : L2.Inv X pins σ H1 { s1 with heap := h' } := I1.kept (t' := s1.toks) hk
      exact ⟨s1.heap.objs.size + 1, [s1.heap.objs.size + 1, s1.heap.objs.size], _, _, H1, rfl, I2, turn_enumT a (s1.heap.objs.size + 1) s1.heap.objs.size, ⟨⟨.none, he⟩, ⟨_, hit, rfl, rfl⟩, Nat.succ_ne_self _, Nat.ne_of_gt (Nat.lt_succ_of_lt alt), Nat.ne_of_lt alt⟩, fun b hb => I1.fpOk (low b hb) (I1.hok.fresh (low b hb)), q⟩
section
variable {K : PySem.W.Frag} {δ : List Sl} {t : TA} {Φ : List D → List Sl → Prop}
theorem walkD_pairs {G : Hp} {J : It} {Gd : Hp → Prop} {ds : List D} {xs : List V} (w : Walk J xs.length Gd (YPair (fun i => some (.int (i : Nat))) (fun i => xs[i]?))) (hG : ∀ H, Same G H → Gd H) (rx : Reps K G ds xs) : WalkD K G J (enumD ds) := by
  refine ⟨fun i H' hi s => w.goes i H' (by rw [enumD_len] at hi; rw [rx.len]; exact hi) (hG H' s), fun H' s => by rw [enumD_len, ← rx.len]; exact w.stops H' (hG H' s), fun i H' x H2 G2 hi s s2 y => ?_⟩
  rw [enumD_len] at hi
  obtain ⟨T, y1, y2, hv, hT, hH, h1', h2'⟩ := w.yields i H' x H2 (by rw [rx.len]; exact hi) (hG H' (s.trans s2)) y
  subst hv hH
  obtain ⟨d, hd, rd⟩ := rx.getV h2'
  cases h1'
  have g : Grow [] G2 H' (upd G2 T (.tup [.int (i : Nat), y2])) (upd H' T (.tup [.int (i : Nat), y2])) := .new s2 hT
  exact ⟨_, _, enumD_get hd, g, rep_tup (SqT.of upd_same) (.cons (rep_int _) (.one ((rd.mono s).mono g.g)))⟩
theorem ei_enU (h : EvA K t δ fun xs δ1 => ∃ ds, (xs = [.lst ds] ∨ xs = [.tup ds]) ∧ Φ (enumD ds) δ1) : EvI K (iEnU K t) δ Φ := fun M L G0 H0 G H σ c R q =>
  h M L G0 H0 G H σ c _ fun d δ1 v G1 H1 s1 c1 r1 ⟨ds, e, k⟩ => by
    rcases e with e | e
    · subst e
      obtain ⟨v, r', rfl, h1, h2⟩ := r1.cons_inv
      rw [h2.nil_inv]
      obtain ⟨a, xs, rfl, hs, rx⟩ := sqL_of_rep h1
      exact .inl ⟨a, xs, rfl, sqL_mono c1.gh hs, q _ δ1 _ G1 H1 s1 c1 (walkD_pairs walk_enum (fun H s => sqL_mono s hs) rx) k⟩
    · subst e
      obtain ⟨v, r', rfl, h1, h2⟩ := r1.cons_inv
      rw [h2.nil_inv]
      obtain ⟨a, xs, rfl, hs, rx⟩ := h1.tup_inv
      exact .inr ⟨a, xs, rfl, sqT_mono c1.gh hs, q _ δ1 _ G1 H1 s1 c1 (walkD_pairs walk_enumT (fun H s => sqT_mono s hs) rx) k⟩
end

/-! ### plain data as the library has it -/
mutual
def D.py : D → PyData
  | .non => .none
  | .bl b => .bool b
  | .int i => .int i
  | .str x => .str x
  | .lst ds => .list (pys ds)
  | .tup ds => .tuple (pys ds)
  | .dic _ => .none
  | .ins _ _ => .none
  | .scr ns => .list (ns.map .int)
  | .ty _ => .none
  | .cls _ => .none
  | .at _ => .none
  | .dz _ => .none
def pys : List D → List PyData
  | [] => []
  | d :: ds => d.py :: pys ds
end
mutual
def D.isPy : D → Bool
  | .non => true
  | .bl _ => true
  | .int _ => true
  | .str _ => true
  | .lst ds => arePy ds
  | .tup ds => arePy ds
  | .dic _ => false
  | .ins _ _ => false
  | .scr _ => true
  | .ty _ => false
  | .cls _ => false
  | .at _ => false
  | .dz _ => false
def arePy : List D → Bool
  | [] => true
  | d :: ds => d.isPy && arePy ds
end
theorem dpAll_ints {K : PySem.W.Frag} {H : Hp} : ∀ ns : List Int, DpAll K H (ns.map V.int) (ns.map .int)
  | [] => .nil
  | n :: ns => .cons (.int n) (dpAll_ints ns)
mutual
theorem dp_of {K : PySem.W.Frag} {G H : Hp} (e : Same G H) : ∀ {d : D} {v : V}, d.isPy = true → Rep K G d v → Dp K H v d.py
  | .non, _, _, r => by rw [r.non_inv]; simp only [D.py]; exact .non
  | .bl b, _, _, r => by rw [r.bl_inv]; simp only [D.py]; exact .bl b
  | .int i, _, _, r => by rw [r.int_inv]; simp only [D.py]; exact .int i
  | .str x, _, _, r => by rw [r.str_inv]; simp only [D.py]; exact .str x
  | .lst ds, _, h, r => by
    obtain ⟨a, xs, rfl, hs, rx⟩ := r.lst_inv
    simp only [D.isPy] at h
    simp only [D.py]
    exact .lst (SqL.of (e _ _ hs)) (dpAll_of e h rx)
  | .tup ds, _, h, r => by
    obtain ⟨a, xs, rfl, hs, rx⟩ := r.tup_inv
    simp only [D.isPy] at h
    simp only [D.py]
    exact .tup (sqT_mono e hs) (dpAll_of e h rx)
  | .dic _, _, h, _ => by simp [D.isPy] at h
  | .ins _ _, _, h, _ => by simp [D.isPy] at h
  | .scr ns, _, h, r => by
    obtain ⟨a, rfl, hs⟩ := r.scr_inv
    simp only [D.py]
    exact .lst (sqL_mono e hs) (dpAll_ints ns)
  | .ty _, _, h, _ => by simp [D.isPy] at h
  | .cls _, _, h, _ => by simp [D.isPy] at h
  | .at _, _, h, _ => by simp [D.isPy] at h
  | .dz _, _, h, _ => by simp [D.isPy] at h
theorem dpAll_of {K : PySem.W.Frag} {G H : Hp} (e : Same G H) : ∀ {ds : List D} {vs : List V}, arePy ds = true → Reps K G ds vs → DpAll K H vs (pys ds)
  | [], _, _, r => by rw [r.nil_inv]; simp only [pys]; exact .nil
  | d :: ds, _, h, r => by
    obtain ⟨v, r', rfl, h1, h2⟩ := r.cons_inv
    simp only [arePy, Bool.and_eq_true] at h
    simp only [pys]
    exact .cons (dp_of e h.1 h1) (dpAll_of e h.2 h2)
end
/-! ### repr -/
def rRepr (K : PySem.W.Frag) : List V → Hp → VK → Prop := fun xs H Q => ∃ x d, xs = [x] ∧ Dp K H x d ∧ d.showable = true ∧ d.hasDict = false ∧ d.depth ≤ 60 ∧ d.shown.length ≤ sizeLine ∧ Q (.str d.shown) H
theorem call_repr {X : Cx} (hg : X.A.guards = some []) (hu : X.A.units + 64 < cLine) : CallR X (.builtin "repr") (rRepr X.K) := by
  intro pins s σ H xs us Q I r h
  obtain ⟨x, d, rfl, dp, hs, hd, hdep, hz, q⟩ := h
  obtain ⟨u, rfl, ru⟩ := vals1 r
  cases dp with
  | non =>
    cases (show u = Value.none from ru)
    exact PySem.P.repr_of_none ⟨.str _, H, I.tok _, ⟨_, rfl⟩, by simpa only [PyData.shown] using q⟩
  | bl b =>
    cases (show u = Value.bool b from ru)
    exact PySem.P.repr_of_bool ⟨.str _, H, I.tok _, ⟨_, rfl⟩, by simpa only [PyData.shown] using q⟩
  | int i =>
    obtain ⟨t, rfl⟩ := ru
    exact PySem.P.repr_of_int (by simpa [PyData.showable] using hs) ⟨.str _, H, I.tok _, ⟨_, rfl⟩, by simpa only [PyData.shown] using q⟩
  | str z =>
    obtain ⟨t, rfl⟩ := ru
    exact PySem.P.repr_of_str ⟨.str _, H, I.tok _, ⟨_, rfl⟩, by simpa only [PyData.shown] using q⟩ (by simpa only [PyData.shown] using hz)
  | lst hs1 hall =>
    obtain ⟨as, rd⟩ := Dp.reads I _ _ u (.lst hs1 hall) ru
    cases (show u = Value.ref _ from ru)
    exact repr_of_reads' rd hs (PyData.noDict_hsm hd) hg (by omega) (fun _ _ e => e) (fun h' w tk hk => ⟨.str _, H, I.kept (t' := tk) hk, ⟨_, rfl⟩, q⟩) hz
  | tup hs1 hall =>
    obtain ⟨as, rd⟩ := Dp.reads I _ _ u (.tup hs1 hall) ru
    cases (show u = Value.ref _ from ru)
    exact repr_of_reads' rd hs (PyData.noDict_hsm hd) hg (by omega) (fun _ _ e => e) (fun h' w tk hk => ⟨.str _, H, I.kept (t' := tk) hk, ⟨_, rfl⟩, q⟩) hz
/-! ### text * int -/
def rMulS : R2 := fun x y H Q => ∃ (z : Str) (n : Int), x = .str z ∧ y = .int n ∧ MulOk z n ∧ Q (.str (Txt.mul z n)) H
theorem op_mulS {X : Cx} : OpR X (binaryOp .Mult) rMulS := by
  intro pins s σ H x y v u Q I rx ry h
  obtain ⟨z, n, rfl, rfl, ok, q⟩ := h
  obtain ⟨t, rfl⟩ := rx
  obtain ⟨t', rfl⟩ := ry
  refine PySem.P.mul_str ok.1 ok.2.1 ok.2.2 ?_
  unfold Txt.mul at q
  by_cases h1 : n < 1
  · rw [if_pos h1] at q ⊢
    exact ⟨by decide, ⟨.str _, H, I.tok _, ⟨_, rfl⟩, q⟩⟩
  · rw [if_neg h1] at q ⊢
    by_cases h2 : (n == 1 || z.length == 0) = true
    · rw [if_pos h2] at q ⊢
      exact ⟨.str z, H, I, ⟨t, rfl⟩, q⟩
    · rw [if_neg h2] at q ⊢
      have h3 := ok.2.2 h1 (by simpa using h2)
      refine ⟨?_, ⟨.str _, H, I.tok _, ⟨_, rfl⟩, q⟩⟩
      have e3 : z.length * n.toNat ≤ sizeLine := by
        have : decide (z.length * n.toNat > sizeLine) = false := h3
        have := of_decide_eq_false this
        omega
      have e4 := len_reps z.cps n.toNat #[]
      show ((List.replicate n.toNat z.cps).foldl (· ++ ·) #[]).size ≤ sizeLine
      rw [e4]
      have e5 : z.cps.size = z.length := rfl
      rw [e5]
      simp
      rw [Nat.mul_comm]; exact e3
/-! ### isinstance with a tuple of classes -/
def rIsiS (K : PySem.W.Frag) : List V → Hp → VK → Prop := fun xs H Q => ∃ (x : V) (tp : Addr) (cs : List V) (t : Value) (us : List Value) (b : Bool), xs = [x, .ref tp] ∧ SqT K H tp cs ∧ Paired ClsV cs us ∧ TyX K H x t ∧ PySem.W.kitAny K t us = some b ∧ Q (.bl b) H
theorem call_isiS {X : Cx} : CallR X (.builtin "isinstance") (rIsiS X.K) := by
  intro pins s σ H xs us Q I r h
  obtain ⟨x, tp, cs, t, ws, b, rfl, hT, k, ty, e, q⟩ := h
  obtain ⟨u1, u2, rfl, r1, r2⟩ := vals2 r
  cases (show u2 = Value.ref tp from r2)
  obtain ⟨P, Z, p, hx⟩ := kit_of I r1 ty
  obtain ⟨its, rv, ⟨o, h1, h2, n, h3⟩, _⟩ := I.tuple hT
  have e3 := ClsV.all k rv
  subst e3
  obtain ⟨oc, od, dt, sl⟩ := o
  simp only at h2 h3
  subst h2 h3
  exact PySem.W.kia_tup Z I.kIn p h1 e hx fun tk => ⟨.bl b, H, I.tok tk, rfl, q⟩
end Ms

/-! Lay6: operators, comparisons, subscripts, built-ins: one rule a word whatever the kinds, and what it says of data. -/
namespace Ms
open PySem PySem.Spec PyProof.Rows L2
open PySem (Str)
section
variable {K : PySem.W.Frag} {X : Cx} {Ψ : D → Prop}
theorem Reps.two {G : Hp} {x y : D} {vs : List V} (r : Reps K G [x, y] vs) : ∃ v w, vs = [v, w] ∧ Rep K G x v ∧ Rep K G y w := by
  obtain ⟨v, r', rfl, h1, h2⟩ := r.cons_inv
  obtain ⟨w, r2, rfl, h3, h4⟩ := h2.cons_inv
  rw [h4.nil_inv]
  exact ⟨v, w, rfl, h1, h3⟩
theorem Reps.just {G : Hp} {x : D} {vs : List V} (r : Reps K G [x] vs) : ∃ v, vs = [v] ∧ Rep K G x v := by
  obtain ⟨v, r', rfl, h1, h2⟩ := r.cons_inv
  rw [h2.nil_inv]
  exact ⟨v, rfl, h1⟩
/-! ### + -/
def rStrAdd : R2 := fun x y H Q => ∃ i j : Str, x = .str i ∧ y = .str j ∧ i.length + j.length ≤ sizeLine ∧ Q (.str (i ++ j)) H
def rAddU (K : PySem.W.Frag) : R2 := fun x y H Q => (rI0 fun i j => .int (i + j)) x y H Q ∨ rStrAdd x y H Q ∨ rCat x y H Q ∨ rCatA K x y H Q
theorem op_addU : OpR X (binaryOp .Add) (rAddU X.K) := OpR.or op_add (OpR.or op_add_str (OpR.or op_cat op_catA))
theorem add_ii {i j : Int} (k : Ψ (.int (i + j))) : R2D K (rAddU K) (.int i) (.int j) Ψ := fun G H v w s rx ry => RD.val s (rep_int _) k fun Q q => .inl ⟨i, j, rx.int_inv, ry.int_inv, q⟩
theorem add_ss {i j : Str} (h : i.length + j.length ≤ sizeLine) (k : Ψ (.str (i ++ j))) : R2D K (rAddU K) (.str i) (.str j) Ψ := fun G H v w s rx ry => RD.val s (rep_str _) k fun Q q => .inr (.inl ⟨i, j, rx.str_inv, ry.str_inv, h, q⟩)
theorem add_llN {a b : List D} {Ψ : OD → Prop} (h : a.length + b.length ≤ sizeLine) (k : Ψ (.lst (a ++ b))) : R2N K (rAddU K) (.lst a) (.lst b) Ψ := fun G H v w s rx ry => by
  obtain ⟨p, xs, rfl, hp, r1⟩ := rx.lst_inv
  obtain ⟨q, ys, rfl, hq, r2⟩ := ry.lst_inv
  exact RN.lst s (r1.append r2) k fun Q q' => .inr (.inr (.inl ⟨p, q, xs, ys, rfl, rfl, s _ _ hp, s _ _ hq, by rw [r1.len, r2.len]; exact h, q'⟩))
theorem add_ll {a b : List D} (h : a.length + b.length ≤ sizeLine) (k : Ψ (.lst (a ++ b))) : R2D K (rAddU K) (.lst a) (.lst b) Ψ := R2N.d (add_llN h k)
theorem add_tt {a b : List D} (h : a.length + b.length ≤ sizeLine) (k : Ψ (.tup (a ++ b))) : R2D K (rAddU K) (.tup a) (.tup b) Ψ := fun G H v w s rx ry Q q => by
  obtain ⟨p, xs, rfl, hp, r1⟩ := rx.tup_inv
  obtain ⟨p', ys, rfl, hq, r2⟩ := ry.tup_inv
  refine .inr (.inr (.inr ⟨p, p', xs, ys, rfl, rfl, sqT_mono s hp, sqT_mono s hq, by rw [r1.len, r2.len]; exact h, fun e => ?_, fun _ e => ?_, fun _ _ a na => ?_⟩))
  · subst e
    have : a = [] := by have := r1.len; simp at this; exact List.length_eq_zero_iff.mp this.symm
    subst this
    exact q _ _ G H (.refl s) (rep_tup hq r2) (by simpa using k)
  · subst e
    have : b = [] := by have := r2.len; simp at this; exact List.length_eq_zero_iff.mp this.symm
    subst this
    rw [List.append_nil] at k
    exact q _ _ G H (.refl s) (rep_tup hp r1) k
  · have g : Grow [] G H (upd G a (.tup (xs ++ ys))) (upd H a (.tup (xs ++ ys))) := .new s na
    exact q _ _ _ _ g (rep_tup (SqT.of upd_same) ((r1.append r2).mono g.g)) k
/-! ### - * // % ** -/
def rSubU : R2 := rI0 fun i j => .int (i - j)
theorem op_subU : OpR X (binaryOp .Sub) rSubU := op_sub
theorem sub_ii {i j : Int} (k : Ψ (.int (i - j))) : R2D K rSubU (.int i) (.int j) Ψ := fun G H v w s rx ry => RD.val s (rep_int _) k fun Q q => ⟨i, j, rx.int_inv, ry.int_inv, q⟩
def rMulU : R2 := fun x y H Q => (rI CMul fun i j => .int (i * j)) x y H Q ∨ rMulS x y H Q ∨ rRep x y H Q
theorem op_mulU : OpR X (binaryOp .Mult) rMulU := OpR.or op_mul (OpR.or op_mulS op_rep)
theorem mul_ii {i j : Int} (h : CMul i j) (k : Ψ (.int (i * j))) : R2D K rMulU (.int i) (.int j) Ψ := fun G H v w s rx ry => RD.val s (rep_int _) k fun Q q => .inl ⟨i, j, rx.int_inv, ry.int_inv, h, q⟩
theorem mul_si {z : Str} {n : Int} (h : MulOk z n) (k : Ψ (.str (Txt.mul z n))) : R2D K rMulU (.str z) (.int n) Ψ := fun G H v w s rx ry => RD.val s (rep_str _) k fun Q q => .inr (.inl ⟨z, n, rx.str_inv, ry.int_inv, h, q⟩)
theorem Reps.flat {G : Hp} {ds : List D} {xs : List V} (r : Reps K G ds xs) : ∀ n : Nat, Reps K G (List.replicate n ds).flatten (List.replicate n xs).flatten
  | 0 => by simp only [List.replicate_zero, List.flatten_nil]; exact .nil
  | n + 1 => by simp only [List.replicate_succ, List.flatten_cons]; exact r.append (Reps.flat r n)
theorem mul_liN {a : List D} {n : Int} {Ψ : OD → Prop} (h1 : -(2 ^ 63) ≤ n) (h2 : n < 2 ^ 63) (h : a.length * n.toNat ≤ sizeLine) (k : Ψ (.lst (List.replicate n.toNat a).flatten)) : R2N K rMulU (.lst a) (.int n) Ψ := fun G H v w s rx ry => by
  obtain ⟨p, xs, rfl, hp, r1⟩ := rx.lst_inv
  exact RN.lst s (r1.flat n.toNat) k fun Q q' => .inr (.inr ⟨p, n, xs, rfl, ry.int_inv, s _ _ hp, h1, h2, by rw [r1.len]; exact h, q'⟩)
theorem mul_li {a : List D} {n : Int} (h1 : -(2 ^ 63) ≤ n) (h2 : n < 2 ^ 63) (h : a.length * n.toNat ≤ sizeLine) (k : Ψ (.lst (List.replicate n.toNat a).flatten)) : R2D K rMulU (.lst a) (.int n) Ψ := R2N.d (mul_liN h1 h2 h k)
def rDivU : R2 := rI CDivW fun i j => .int (i / j)
theorem op_divU : OpR X (binaryOp .FloorDiv) rDivU := op_fdivW
theorem div_ii {i j : Int} (h0 : 0 < j) (h : j.natAbs.log2 < 9000) (k : Ψ (.int (i / j))) : R2D K rDivU (.int i) (.int j) Ψ := fun G H v w s rx ry => RD.val s (rep_int _) k fun Q q => ⟨i, j, rx.int_inv, ry.int_inv, ⟨h0, h⟩, q⟩
def rModU : R2 := rI (fun _ j => 0 < j) fun i j => .int (i % j)
theorem op_modU : OpR X (binaryOp .Mod) rModU := op_mod
theorem mod_ii {i j : Int} (h0 : 0 < j) (k : Ψ (.int (i % j))) : R2D K rModU (.int i) (.int j) Ψ := fun G H v w s rx ry => RD.val s (rep_int _) k fun Q q => ⟨i, j, rx.int_inv, ry.int_inv, h0, q⟩
def rPowU : R2 := rI CPow fun i j => .int (i ^ j.toNat)
theorem op_powU : OpR X (binaryOp .Pow) rPowU := op_pow
theorem pow_ii {i j : Int} (h : CPow i j) (k : Ψ (.int (i ^ j.toNat))) : R2D K rPowU (.int i) (.int j) Ψ := fun G H v w s rx ry => RD.val s (rep_int _) k fun Q q => ⟨i, j, rx.int_inv, ry.int_inv, h, q⟩
def rNegU : V → Hp → VK → Prop := rU fun i => .int (-i)
theorem un_negU : UnR X (unaryOp .USub) rNegU := un_neg
theorem neg_i {i : Int} (k : Ψ (.int (-i))) : R1D K rNegU (.int i) Ψ := fun G H v s rx => RD.val s (rep_int _) k fun Q q => ⟨i, rx.int_inv, q⟩
/-! ### comparisons -/
def rEqU (K : PySem.W.Frag) : R2 := fun x y H Q => rEq x y H Q ∨ rEqD K x y H Q
def rNeU (K : PySem.W.Frag) : R2 := fun x y H Q => rNe x y H Q ∨ rNeD K x y H Q
theorem op_eqU (hu : X.A.units + 64 < cLine) : OpR X (compareOp .Eq) (rEqU X.K) := OpR.or op_eq (op_eqD hu)
theorem op_neU (hu : X.A.units + 64 < cLine) : OpR X (compareOp .NotEq) (rNeU X.K) := OpR.or op_ne (op_neD hu)
theorem eq_ii {i j : Int} (k : Ψ (.bl (decide (i = j)))) : R2D K (rEqU K) (.int i) (.int j) Ψ := fun G H v w s rx ry => by
  rw [rx.int_inv, ry.int_inv]
  refine RD.val s (rep_bl _) k fun Q q => .inl ⟨rfl, ?_⟩
  rw [dec_int, ← Bool.beq_eq_decide_eq] at *
  exact q
theorem ne_ii {i j : Int} (k : Ψ (.bl (!decide (i = j)))) : R2D K (rNeU K) (.int i) (.int j) Ψ := fun G H v w s rx ry => by
  rw [rx.int_inv, ry.int_inv]
  refine RD.val s (rep_bl _) k fun Q q => .inl ⟨rfl, ?_⟩
  rw [dec_int, ← Bool.beq_eq_decide_eq] at *
  exact q
theorem eq_ss {i j : Str} (k : Ψ (.bl (decide (i = j)))) : R2D K (rEqU K) (.str i) (.str j) Ψ := fun G H v w s rx ry => by
  rw [rx.str_inv, ry.str_inv]
  refine RD.val s (rep_bl _) k fun Q q => .inl ⟨rfl, ?_⟩
  have e : decide (V.str i = V.str j) = decide (i = j) := by simp
  rw [e]; exact q
theorem ne_ss {i j : Str} (k : Ψ (.bl (!decide (i = j)))) : R2D K (rNeU K) (.str i) (.str j) Ψ := fun G H v w s rx ry => by
  rw [rx.str_inv, ry.str_inv]
  refine RD.val s (rep_bl _) k fun Q q => .inl ⟨rfl, ?_⟩
  have e : decide (V.str i = V.str j) = decide (i = j) := by simp
  rw [e]; exact q
theorem eq_bb {i j : Bool} (k : Ψ (.bl (decide (i = j)))) : R2D K (rEqU K) (.bl i) (.bl j) Ψ := fun G H v w s rx ry => by
  rw [rx.bl_inv, ry.bl_inv]
  refine RD.val s (rep_bl _) k fun Q q => .inl ⟨rfl, ?_⟩
  have e : decide (V.bl i = V.bl j) = decide (i = j) := by simp
  rw [e]; exact q
/-- plain data that may be compared -/
def okPy (d : D) : Bool := d.isPy && SeqAt.shaped d.py
theorem eq_dd {x y : D} (hx : okPy x = true) (hy : okPy y = true) (k : Ψ (.bl (PyData.eqv x.py y.py))) : R2D K (rEqU K) x y Ψ := fun G H v w s rx ry => by
  unfold okPy at hx hy
  rw [Bool.and_eq_true] at hx hy
  exact RD.val s (rep_bl _) k fun Q q => .inr ⟨_, _, dp_of s hx.1 rx, dp_of s hy.1 ry, hx.2, hy.2, q⟩
theorem ne_dd {x y : D} (hx : okPy x = true) (hy : okPy y = true) (k : Ψ (.bl (!PyData.eqv x.py y.py))) : R2D K (rNeU K) x y Ψ := fun G H v w s rx ry => by
  unfold okPy at hx hy
  rw [Bool.and_eq_true] at hx hy
  exact RD.val s (rep_bl _) k fun Q q => .inr ⟨_, _, dp_of s hx.1 rx, dp_of s hy.1 ry, hx.2, hy.2, q⟩
def rStrLt : R2 := fun x y H Q => ∃ i j : Str, x = .str i ∧ y = .str j ∧ Q (.bl (decide (i.cps.toList < j.cps.toList))) H
def rLtU : R2 := fun x y H Q => (rI0 fun i j => .bl (decide (i < j))) x y H Q ∨ rStrLt x y H Q
def rLeU : R2 := rI0 fun i j => .bl (decide (i ≤ j))
def rGtU : R2 := rI0 fun i j => .bl (decide (j < i))
def rGeU : R2 := rI0 fun i j => .bl (decide (j ≤ i))
theorem op_ltU : OpR X (compareOp .Lt) rLtU := OpR.or op_lt op_lt_str
theorem op_leU : OpR X (compareOp .LtE) rLeU := op_le
theorem op_gtU : OpR X (compareOp .Gt) rGtU := op_gt
theorem op_geU : OpR X (compareOp .GtE) rGeU := op_ge
theorem lt_ii {i j : Int} (k : Ψ (.bl (decide (i < j)))) : R2D K rLtU (.int i) (.int j) Ψ := fun G H v w s rx ry => RD.val s (rep_bl _) k fun Q q => .inl ⟨i, j, rx.int_inv, ry.int_inv, q⟩
theorem lt_ss {i j : Str} (k : Ψ (.bl (decide (i.cps.toList < j.cps.toList)))) : R2D K rLtU (.str i) (.str j) Ψ := fun G H v w s rx ry => RD.val s (rep_bl _) k fun Q q => .inr ⟨i, j, rx.str_inv, ry.str_inv, q⟩
theorem le_ii {i j : Int} (k : Ψ (.bl (decide (i ≤ j)))) : R2D K rLeU (.int i) (.int j) Ψ := fun G H v w s rx ry => RD.val s (rep_bl _) k fun Q q => ⟨i, j, rx.int_inv, ry.int_inv, q⟩
theorem gt_ii {i j : Int} (k : Ψ (.bl (decide (j < i)))) : R2D K rGtU (.int i) (.int j) Ψ := fun G H v w s rx ry => RD.val s (rep_bl _) k fun Q q => ⟨i, j, rx.int_inv, ry.int_inv, q⟩
theorem ge_ii {i j : Int} (k : Ψ (.bl (decide (j ≤ i)))) : R2D K rGeU (.int i) (.int j) Ψ := fun G H v w s rx ry => RD.val s (rep_bl _) k fun Q q => ⟨i, j, rx.int_inv, ry.int_inv, q⟩
/-! ### in -/
/-- a flat datum's value -/
def D.v : D → V
  | .bl b => .bl b
  | .int i => .int i
  | .str x => .str x
  | _ => .non
def D.isFlat : D → Bool
  | .non => true
  | .bl _ => true
  | .int _ => true
  | .str _ => true
  | _ => false
theorem Rep.flat {G : Hp} {d : D} {v : V} (h : d.isFlat = true) (r : Rep K G d v) : v = d.v ∧ flatV v = true := by
  cases d with
  | non => rw [r.non_inv]; exact ⟨rfl, rfl⟩
  | bl b => rw [r.bl_inv]; exact ⟨rfl, rfl⟩
  | int i => rw [r.int_inv]; exact ⟨rfl, rfl⟩
  | str x => rw [r.str_inv]; exact ⟨rfl, rfl⟩
  | _ => cases h
theorem Reps.flats {G : Hp} : ∀ {ds : List D} {vs : List V}, ds.all D.isFlat = true → Reps K G ds vs → vs = ds.map D.v ∧ vs.all flatV = true
  | [], _, _, r => by rw [r.nil_inv]; exact ⟨rfl, rfl⟩
  | d :: ds, _, h, r => by
    obtain ⟨v, r', rfl, h1, h2⟩ := r.cons_inv
    simp only [List.all_cons, Bool.and_eq_true] at h
    obtain ⟨e1, f1⟩ := h1.flat h.1
    obtain ⟨e2, f2⟩ := h2.flats h.2
    exact ⟨by rw [e1, e2]; rfl, by simp only [List.all_cons, f1, f2, Bool.and_self]⟩
def inF (d : D) (ds : List D) : Bool := inV d.v (ds.map D.v)
def rSign (b : Bool) : R2 := fun x y H Q => ∃ (c : Nat) (z : Str), x = .str ⟨#[c]⟩ ∧ y = .str z ∧ Q (.bl (if b then !decide (c ∈ z.cps.toList) else decide (c ∈ z.cps.toList))) H
theorem op_signIn : OpR X (compareOp .In) (rSign false) := op_in_sign
theorem op_signNotIn : OpR X (compareOp .NotIn) (rSign true) := op_notIn_sign
def rInU (K : PySem.W.Frag) : R2 := fun x y H Q => rSign false x y H Q ∨ rIn K false x y H Q
def rNotInU (K : PySem.W.Frag) : R2 := fun x y H Q => rSign true x y H Q ∨ rIn K true x y H Q
theorem op_inU : OpR X (compareOp .In) (rInU X.K) := OpR.or op_signIn op_in_seq
theorem op_notInU : OpR X (compareOp .NotIn) (rNotInU X.K) := OpR.or op_signNotIn op_notIn_seq
theorem in_sign {c : Nat} {z : Str} (k : Ψ (.bl (decide (c ∈ z.cps.toList)))) : R2D K (rInU K) (.str ⟨#[c]⟩) (.str z) Ψ := fun G H v w s rx ry => RD.val s (rep_bl _) k fun Q q => .inl ⟨c, z, rx.str_inv, ry.str_inv, q⟩
theorem nin_sign {c : Nat} {z : Str} (k : Ψ (.bl (!decide (c ∈ z.cps.toList)))) : R2D K (rNotInU K) (.str ⟨#[c]⟩) (.str z) Ψ := fun G H v w s rx ry => RD.val s (rep_bl _) k fun Q q => .inl ⟨c, z, rx.str_inv, ry.str_inv, q⟩
theorem in_l {d : D} {ds : List D} (hd : d.isFlat = true) (hs : ds.all D.isFlat = true) (k : Ψ (.bl (inF d ds))) : R2D K (rInU K) d (.lst ds) Ψ := fun G H v w s rx ry => by
  obtain ⟨p, xs, rfl, hp, r1⟩ := ry.lst_inv
  obtain ⟨e1, f1⟩ := rx.flat hd
  obtain ⟨e2, f2⟩ := r1.flats hs
  refine RD.val s (rep_bl _) k fun Q q => .inr ⟨p, xs, rfl, .inl (SqL.of (s _ _ hp)), f1, f2, ?_⟩
  rw [e1, e2]; exact q
theorem nin_l {d : D} {ds : List D} (hd : d.isFlat = true) (hs : ds.all D.isFlat = true) (k : Ψ (.bl (!inF d ds))) : R2D K (rNotInU K) d (.lst ds) Ψ := fun G H v w s rx ry => by
  obtain ⟨p, xs, rfl, hp, r1⟩ := ry.lst_inv
  obtain ⟨e1, f1⟩ := rx.flat hd
  obtain ⟨e2, f2⟩ := r1.flats hs
  refine RD.val s (rep_bl _) k fun Q q => .inr ⟨p, xs, rfl, .inl (SqL.of (s _ _ hp)), f1, f2, ?_⟩
  rw [e1, e2]; exact q
theorem in_t {d : D} {ds : List D} (hd : d.isFlat = true) (hs : ds.all D.isFlat = true) (k : Ψ (.bl (inF d ds))) : R2D K (rInU K) d (.tup ds) Ψ := fun G H v w s rx ry => by
  obtain ⟨p, xs, rfl, hp, r1⟩ := ry.tup_inv
  obtain ⟨e1, f1⟩ := rx.flat hd
  obtain ⟨e2, f2⟩ := r1.flats hs
  refine RD.val s (rep_bl _) k fun Q q => .inr ⟨p, xs, rfl, .inr (sqT_mono s hp), f1, f2, ?_⟩
  rw [e1, e2]; exact q
theorem nin_t {d : D} {ds : List D} (hd : d.isFlat = true) (hs : ds.all D.isFlat = true) (k : Ψ (.bl (!inF d ds))) : R2D K (rNotInU K) d (.tup ds) Ψ := fun G H v w s rx ry => by
  obtain ⟨p, xs, rfl, hp, r1⟩ := ry.tup_inv
  obtain ⟨e1, f1⟩ := rx.flat hd
  obtain ⟨e2, f2⟩ := r1.flats hs
  refine RD.val s (rep_bl _) k fun Q q => .inr ⟨p, xs, rfl, .inr (sqT_mono s hp), f1, f2, ?_⟩
  rw [e1, e2]; exact q
/-! ### len -/
def rLenU (K : PySem.W.Frag) : List V → Hp → VK → Prop := fun xs H Q => (∃ x n, xs = [x] ∧ LenV K x H n ∧ Q (.int n) H) ∨ ∃ a kvs, xs = [V.ref a] ∧ H a = some (.dK kvs) ∧ Q (.int kvs.length) H
theorem call_lenU : CallR X (.builtin "len") (rLenU X.K) := CallR.or call_len call_lenD
theorem len_s {z : Str} (h : z.length ≤ sizeLine) (k : Ψ (.int z.length)) : RAD K (rLenU K) [.str z] Ψ := fun G H vs s r => by
  obtain ⟨v, rfl, rx⟩ := r.just
  rw [rx.str_inv]
  exact RD.val s (rep_int _) k fun Q q => .inl ⟨_, _, rfl, ⟨h, rfl⟩, q⟩
theorem len_l {ds : List D} (k : Ψ (.int ds.length)) : RAD K (rLenU K) [.lst ds] Ψ := fun G H vs s r => by
  obtain ⟨v, rfl, rx⟩ := r.just
  obtain ⟨p, xs, rfl, hp, r1⟩ := rx.lst_inv
  rw [← r1.len] at k
  exact RD.val s (rep_int _) k fun Q q => .inl ⟨_, _, rfl, .inl ⟨xs, SqL.of (s _ _ hp), rfl⟩, q⟩
theorem len_t {ds : List D} (k : Ψ (.int ds.length)) : RAD K (rLenU K) [.tup ds] Ψ := fun G H vs s r => by
  obtain ⟨v, rfl, rx⟩ := r.just
  obtain ⟨p, xs, rfl, hp, r1⟩ := rx.tup_inv
  rw [← r1.len] at k
  exact RD.val s (rep_int _) k fun Q q => .inl ⟨_, _, rfl, .inr ⟨xs, sqT_mono s hp, rfl⟩, q⟩
theorem len_scr {ns : List Int} (k : Ψ (.int ns.length)) : RAD K (rLenU K) [.scr ns] Ψ := fun G H vs s r => by
  obtain ⟨v, rfl, rx⟩ := r.just
  obtain ⟨p, rfl, hp⟩ := rx.scr_inv
  exact RD.val s (rep_int _) k fun Q q => .inl ⟨_, _, rfl, .inl ⟨_, sqL_mono s hp, by simp⟩, q⟩
theorem RepK.len {G : Hp} : ∀ {ds : List (Key × D)} {vs : List (Key × V)}, RepK K G ds vs → vs.length = ds.length
  | [], _, h => by simp only [RepK] at h; subst h; rfl
  | (k, d) :: ds, _, h => by
    simp only [RepK] at h
    obtain ⟨v, r, rfl, _, h2⟩ := h
    simp [RepK.len h2]
theorem len_dic {kvs : List (Key × D)} (k : Ψ (.int kvs.length)) : RAD K (rLenU K) [.dic kvs] Ψ := fun G H vs s r => by
  obtain ⟨v, rfl, rx⟩ := r.just
  obtain ⟨p, xs, rfl, hp, r1⟩ := rx.dic_inv
  rw [← r1.len] at k
  exact RD.val s (rep_int _) k fun Q q => .inr ⟨_, _, rfl, s _ _ hp, q⟩
/-- .. of an own list, not frozen -/
theorem lenU_own (p : Addr) (xs : List V) (H : Hp) (Q : VK) (h : H p = some (.lst xs)) (q : Q (.int xs.length) H) : rLenU K [.ref p] H Q := .inl ⟨_, _, rfl, .inl ⟨xs, SqL.of h, rfl⟩, q⟩
/-! ### isinstance -/
/-- the built-in type of a datum -/
def tyN : D → Option String
  | .non => some "NoneType"
  | .bl _ => some "bool"
  | .int _ => some "int"
  | .str _ => some "str"
  | .lst _ => some "list"
  | .tup _ => some "tuple"
  | .dic _ => some "dict"
  | _ => none
theorem tyX_of {G H : Hp} {d : D} {v : V} {t : String} (s : Same G H) (h : tyN d = some t) (r : Rep K G d v) : TyX K H v (.type t) := by
  cases d with
  | non => cases h; rw [r.non_inv]; exact .base .non
  | bl b => cases h; rw [r.bl_inv]; exact .base (.bl b)
  | int i => cases h; rw [r.int_inv]; exact .base (.int i)
  | str x => cases h; rw [r.str_inv]; exact .base (.str x)
  | lst ds => cases h; obtain ⟨p, xs, rfl, hp, r1⟩ := r.lst_inv; exact .base (.lst (s _ _ hp))
  | tup ds =>
    cases h
    obtain ⟨p, xs, rfl, hp, r1⟩ := r.tup_inv
    rcases hp with (hp | ⟨o, hp⟩) | ⟨o, its, n, hl, hc, _⟩
    · exact .base (.tup (s _ _ hp))
    · exact .fTuple (s _ _ hp)
    · exact .kTuple hl hc
  | dic ds => cases h; obtain ⟨p, xs, rfl, hp, r1⟩ := r.dic_inv; exact .base (.dK (s _ _ hp))
  | ins C fs => cases h
  | scr ns => cases h
  | ty n => cases h
  | cls C => cases h
  | «at» a => cases h
  | dz ds => cases h
/-- what isinstance wants to know of an own class -/
structure InsT (K : PySem.W.Frag) (C : Addr) : Prop where
  cl : Cls K C
  ha : PySem.W.findIn K (.ref C) "__class__" = some (some (.builtin "object.__class__"))
  hn : PySem.W.specialIn K (.builtin "object.__class__") "__get__" = some (some (.builtin "getset_descriptor.__get__"))
  htk : PySem.W.takesIn K (.builtin "object.__class__") = some true
  hm : PySem.W.mroIn K C (.type "object") = some true
theorem tyX_ins {G H : Hp} {C : Addr} {fs : List (Str × D)} {v : V} (s : Same G H) (h : InsT K C) (r : Rep K G (.ins C fs) v) : TyX K H v (.ref C) := by
  obtain ⟨a, dx, xs, rfl, hp, _⟩ := r.ins_inv
  exact .base (.ins (s _ _ hp) h.cl h.ha h.hn h.htk h.hm)
def rIsiU (K : PySem.W.Frag) : List V → Hp → VK → Prop := fun xs H Q => rIsi K xs H Q ∨ rIsiS K xs H Q
theorem call_isiU : CallR X (.builtin "isinstance") (rIsiU X.K) := CallR.or call_isi call_isiS
theorem isi_ty {d : D} {t T : String} {b : Bool} (h : tyN d = some t) (hk : kitB t T = some b) (k : Ψ (.bl b)) : RAD K (rIsiU K) [d, .ty T] Ψ := fun G H vs s r => by
  obtain ⟨v, w, rfl, r1, r2⟩ := r.two
  rw [r2.ty_inv]
  exact RD.val s (rep_bl _) k fun Q q => .inl ⟨v, _, _, _, b, rfl, .ty T, tyX_of s h r1, kit_ty hk, q⟩
theorem isi_ins {C : Addr} {fs : List (Str × D)} {T : String} {b : Bool} (h : InsT K C) (hk : PySem.W.kitOne K (.ref C) (.type T) = some b) (k : Ψ (.bl b)) : RAD K (rIsiU K) [.ins C fs, .ty T] Ψ := fun G H vs s r => by
  obtain ⟨v, w, rfl, r1, r2⟩ := r.two
  rw [r2.ty_inv]
  exact RD.val s (rep_bl _) k fun Q q => .inl ⟨v, _, _, _, b, rfl, .ty T, tyX_ins s h r1, hk, q⟩
theorem isi_insC {C C' : Addr} {fs : List (Str × D)} {b : Bool} (h : InsT K C) (hk : PySem.W.kitOne K (.ref C) (.ref C') = some b) (k : Ψ (.bl b)) : RAD K (rIsiU K) [.ins C fs, .cls C'] Ψ := fun G H vs s r => by
  obtain ⟨v, w, rfl, r1, r2⟩ := r.two
  rw [r2.cls_inv]
  exact RD.val s (rep_bl _) k fun Q q => .inl ⟨v, _, _, _, b, rfl, .own C', tyX_ins s h r1, hk, q⟩
theorem isi_tyC {d : D} {t : String} {C' : Addr} {b : Bool} (h : tyN d = some t) (hk : PySem.W.kitOne K (.type t) (.ref C') = some b) (k : Ψ (.bl b)) : RAD K (rIsiU K) [d, .cls C'] Ψ := fun G H vs s r => by
  obtain ⟨v, w, rfl, r1, r2⟩ := r.two
  rw [r2.cls_inv]
  exact RD.val s (rep_bl _) k fun Q q => .inl ⟨v, _, _, _, b, rfl, .own C', tyX_of s h r1, hk, q⟩
/-- isinstance(d, (list, tuple)) -/
theorem isi_two {d : D} {t T U : String} {b c : Bool} (h : tyN d = some t) (hk : kitB t T = some b) (hc : kitB t U = some c) (k : Ψ (.bl (b || c))) : RAD K (rIsiU K) [d, .tup [.ty T, .ty U]] Ψ := fun G H vs s r => by
  obtain ⟨v, w, rfl, r1, r2⟩ := r.two
  obtain ⟨p, xs, rfl, hp, rx⟩ := r2.tup_inv
  obtain ⟨v1, v2, rfl, q1, q2⟩ := rx.two
  rw [q1.ty_inv, q2.ty_inv] at hp
  refine RD.val s (rep_bl _) k fun Q q => .inr ⟨v, p, _, _, _, b || c, rfl, sqT_mono s hp, .cons (.ty T) (.cons (.ty U) .nil), tyX_of s h r1, ?_, q⟩
  refine kitAny_cons (kit_ty hk) (fun hb => ?_) (fun hb => by rw [hb]; rfl)
  refine kitAny_cons (kit_ty hc) (fun hb2 => ?_) (fun hb2 => by rw [hb, hb2]; rfl)
  rw [hb, hb2]; exact kitAny_nil
theorem isi_insTwo {C : Addr} {fs : List (Str × D)} {T U : String} {b c : Bool} (h : InsT K C) (hk : PySem.W.kitOne K (.ref C) (.type T) = some b) (hc : PySem.W.kitOne K (.ref C) (.type U) = some c) (k : Ψ (.bl (b || c))) : RAD K (rIsiU K) [.ins C fs, .tup [.ty T, .ty U]] Ψ := fun G H vs s r => by
  obtain ⟨v, w, rfl, r1, r2⟩ := r.two
  obtain ⟨p, xs, rfl, hp, rx⟩ := r2.tup_inv
  obtain ⟨v1, v2, rfl, q1, q2⟩ := rx.two
  rw [q1.ty_inv, q2.ty_inv] at hp
  refine RD.val s (rep_bl _) k fun Q q => .inr ⟨v, p, _, _, _, b || c, rfl, sqT_mono s hp, .cons (.ty T) (.cons (.ty U) .nil), tyX_ins s h r1, ?_, q⟩
  refine kitAny_cons hk (fun hb => ?_) (fun hb => by rw [hb]; rfl)
  refine kitAny_cons hc (fun hb2 => ?_) (fun hb2 => by rw [hb, hb2]; rfl)
  rw [hb, hb2]; exact kitAny_nil
/-! ### built-ins -/
def rAllU (K : PySem.W.Frag) : List V → Hp → VK → Prop := rAll K
def rAnyU (K : PySem.W.Frag) : List V → Hp → VK → Prop := rAny K
theorem call_allU (hc : X.calm = true) : CallR X (.builtin "all") (rAllU X.K) := cr_all hc
theorem call_anyU (hc : X.calm = true) : CallR X (.builtin "any") (rAnyU X.K) := cr_any hc
theorem reps_bls {G : Hp} : ∀ {bs : List Bool} {vs : List V}, Reps K G (bs.map .bl) vs → vs = bs.map V.bl
  | [], _, r => r.nil_inv
  | b :: bs, _, r => by
    obtain ⟨v, r', rfl, h1, h2⟩ := Reps.cons_inv (show Reps K G (.bl b :: bs.map .bl) _ from r)
    rw [h1.bl_inv, reps_bls h2]; rfl
theorem reps_ints {G : Hp} : ∀ {bs : List Int} {vs : List V}, Reps K G (bs.map .int) vs → vs = bs.map V.int
  | [], _, r => r.nil_inv
  | b :: bs, _, r => by
    obtain ⟨v, r', rfl, h1, h2⟩ := Reps.cons_inv (show Reps K G (.int b :: bs.map .int) _ from r)
    rw [h1.int_inv, reps_ints h2]; rfl
theorem reps_strs {G : Hp} : ∀ {bs : List Str} {vs : List V}, Reps K G (bs.map .str) vs → vs = bs.map V.str
  | [], _, r => r.nil_inv
  | b :: bs, _, r => by
    obtain ⟨v, r', rfl, h1, h2⟩ := Reps.cons_inv (show Reps K G (.str b :: bs.map .str) _ from r)
    rw [h1.str_inv, reps_strs h2]; rfl
theorem all_bs {ds : List D} {bs : List Bool} (e : ds = bs.map .bl) (k : Ψ (.bl (bs.all id))) : RAD K (rAllU K) [.lst ds] Ψ := fun G H vs s r => by
  subst e
  obtain ⟨v, rfl, rx⟩ := r.just
  obtain ⟨p, xs, rfl, hp, r1⟩ := rx.lst_inv
  rw [reps_bls r1] at hp
  exact RD.val s (rep_bl _) k fun Q q => ⟨p, bs, rfl, SqL.of (s _ _ hp), q⟩
theorem any_bs {ds : List D} {bs : List Bool} (e : ds = bs.map .bl) (k : Ψ (.bl (bs.any id))) : RAD K (rAnyU K) [.lst ds] Ψ := fun G H vs s r => by
  subst e
  obtain ⟨v, rfl, rx⟩ := r.just
  obtain ⟨p, xs, rfl, hp, r1⟩ := rx.lst_inv
  rw [reps_bls r1] at hp
  exact RD.val s (rep_bl _) k fun Q q => ⟨p, bs, rfl, SqL.of (s _ _ hp), q⟩
def rMax2 : List V → Hp → VK → Prop := fun xs H Q => ∃ i j, xs = [.int i, .int j] ∧ Q (.int (if j > i then j else i)) H
def rMin2 : List V → Hp → VK → Prop := fun xs H Q => ∃ i j, xs = [.int i, .int j] ∧ Q (.int (if j < i then j else i)) H
theorem call_max2U (hc : X.calm = true) : CallR X (.builtin "max") rMax2 := call_max2 hc
theorem call_min2U (hc : X.calm = true) : CallR X (.builtin "min") rMin2 := call_min2 hc
theorem max_ii {i j : Int} (k : Ψ (.int (max i j))) : RAD K rMax2 [.int i, .int j] Ψ := fun G H vs s r => by
  obtain ⟨v, w, rfl, r1, r2⟩ := r.two
  rw [r1.int_inv, r2.int_inv]
  have e : max i j = if j > i then j else i := by split <;> omega
  rw [e] at k
  exact RD.val s (rep_int _) k fun Q q => ⟨i, j, rfl, q⟩
theorem min_ii {i j : Int} (k : Ψ (.int (min i j))) : RAD K rMin2 [.int i, .int j] Ψ := fun G H vs s r => by
  obtain ⟨v, w, rfl, r1, r2⟩ := r.two
  rw [r1.int_inv, r2.int_inv]
  have e : min i j = if j < i then j else i := by split <;> omega
  rw [e] at k
  exact RD.val s (rep_int _) k fun Q q => ⟨i, j, rfl, q⟩
def rInt1 : List V → Hp → VK → Prop := fun xs H Q => (∃ i, xs = [.int i] ∧ Q (.int i) H) ∨ ∃ k, xs = [.bl k] ∧ Q (.int (if k then 1 else 0)) H
theorem call_intU : CallR X (.type "int") rInt1 := call_int1
theorem int_b {b : Bool} (k : Ψ (.int (if b then 1 else 0))) : RAD K rInt1 [.bl b] Ψ := fun G H vs s r => by
  obtain ⟨v, rfl, rx⟩ := r.just
  rw [rx.bl_inv]
  exact RD.val s (rep_int _) k fun Q q => .inr ⟨b, rfl, q⟩
theorem int_i {i : Int} (k : Ψ (.int i)) : RAD K rInt1 [.int i] Ψ := fun G H vs s r => by
  obtain ⟨v, rfl, rx⟩ := r.just
  rw [rx.int_inv]
  exact RD.val s (rep_int _) k fun Q q => .inl ⟨i, rfl, q⟩
def rListU (K : PySem.W.Frag) : List V → Hp → VK → Prop := fun xs H Q => ∃ p ys, xs = [.ref p] ∧ (SqL K H p ys ∨ SqT K H p ys) ∧ ∀ l, H l = none → Q (.ref l) (upd H l (.lst ys))
theorem call_listU : CallR X (.type "list") (rListU X.K) := call_list_of
theorem list_lN {ds : List D} {Ψ : OD → Prop} (k : Ψ (.lst ds)) : RAN K (rListU K) [.lst ds] Ψ := fun G H vs s r => by
  obtain ⟨v, rfl, rx⟩ := r.just
  obtain ⟨p, xs, rfl, hp, r1⟩ := rx.lst_inv
  exact RN.lst s r1 k fun Q q => ⟨p, xs, rfl, .inl (SqL.of (s _ _ hp)), q⟩
theorem list_tN {ds : List D} {Ψ : OD → Prop} (k : Ψ (.lst ds)) : RAN K (rListU K) [.tup ds] Ψ := fun G H vs s r => by
  obtain ⟨v, rfl, rx⟩ := r.just
  obtain ⟨p, xs, rfl, hp, r1⟩ := rx.tup_inv
  exact RN.lst s r1 k fun Q q => ⟨p, xs, rfl, .inr (sqT_mono s hp), q⟩
theorem list_l {ds : List D} (k : Ψ (.lst ds)) : RAD K (rListU K) [.lst ds] Ψ := RAN.d (list_lN k)
theorem list_t {ds : List D} (k : Ψ (.lst ds)) : RAD K (rListU K) [.tup ds] Ψ := RAN.d (list_tN k)
def rTupleU (K : PySem.W.Frag) : List V → Hp → VK → Prop := fun xs H Q => ∃ p ys, xs = [.ref p] ∧ ((SqL K H p ys ∧ ∀ l, H l = none → Q (.ref l) (upd H l (.tup ys))) ∨ (SqT K H p ys ∧ Q (.ref p) H))
theorem call_tupleU : CallR X (.type "tuple") (rTupleU X.K) := call_tuple_of
theorem tuple_l {ds : List D} (k : Ψ (.tup ds)) : RAD K (rTupleU K) [.lst ds] Ψ := fun G H vs s r => by
  obtain ⟨v, rfl, rx⟩ := r.just
  obtain ⟨p, xs, rfl, hp, r1⟩ := rx.lst_inv
  exact RD.tup s r1 k fun Q q => ⟨p, xs, rfl, .inl ⟨SqL.of (s _ _ hp), q⟩⟩
theorem tuple_t {ds : List D} (k : Ψ (.tup ds)) : RAD K (rTupleU K) [.tup ds] Ψ := fun G H vs s r => by
  obtain ⟨v, rfl, rx⟩ := r.just
  obtain ⟨p, xs, rfl, hp, r1⟩ := rx.tup_inv
  exact RD.val s (rep_tup hp r1) k fun Q q => ⟨p, xs, rfl, .inr ⟨sqT_mono s hp, q⟩⟩
/-- a text of data that may be shown -/
def okShow (d : D) : Bool := d.isPy && (d.py.showable && (!d.py.hasDict && (decide (d.py.depth ≤ 60) && decide (d.py.shown.length ≤ sizeLine))))
theorem repr_d {d : D} (h : okShow d = true) (k : Ψ (.str d.py.shown)) : RAD K (rRepr K) [d] Ψ := fun G H vs s r => by
  obtain ⟨v, rfl, rx⟩ := r.just
  unfold okShow at h
  simp only [Bool.and_eq_true, decide_eq_true_eq, Bool.not_eq_true'] at h
  exact RD.val s (rep_str _) k fun Q q => ⟨v, _, rfl, dp_of s h.1 rx, h.2.1, h.2.2.1, h.2.2.2.1, h.2.2.2.2, q⟩
/-! ### subscripts, slices -/
theorem atI_rep {G : Hp} {ds : List D} {xs : List V} {i : Int} {d : D} (r : Reps K G ds xs) (h : atI ds i = some d) : ∃ v, atI xs i = some v ∧ Rep K G d v := by
  unfold atI at h ⊢
  rw [r.len]
  cases ej : ixN ds.length i with
  | none => rw [ej] at h; cases h
  | some j =>
    rw [ej] at h
    obtain ⟨v, ev, rv⟩ := r.get (i := j) (d := d) h
    exact ⟨v, ev, rv⟩
def rIxU (K : PySem.W.Frag) : R2 := rIx K
theorem ix_U : IxR X (rIxU X.K) := ix_seq
theorem ix_l {ds : List D} {i : Int} {d : D} (h : atI ds i = some d) (k : Ψ d) : R2D K (rIxU K) (.lst ds) (.int i) Ψ := fun G H v w s rx ry => by
  obtain ⟨p, xs, rfl, hp, r1⟩ := rx.lst_inv
  obtain ⟨u, hu, ru⟩ := atI_rep r1 h
  exact RD.val s ru k fun Q q => .inl ⟨p, xs, i, u, rfl, ry.int_inv, SqL.of (s _ _ hp), hu, q⟩
theorem ix_t {ds : List D} {i : Int} {d : D} (h : atI ds i = some d) (k : Ψ d) : R2D K (rIxU K) (.tup ds) (.int i) Ψ := fun G H v w s rx ry => by
  obtain ⟨p, xs, rfl, hp, r1⟩ := rx.tup_inv
  obtain ⟨u, hu, ru⟩ := atI_rep r1 h
  exact RD.val s ru k fun Q q => .inr (.inl ⟨p, xs, i, u, rfl, ry.int_inv, sqT_mono s hp, hu, q⟩)
theorem ix_s {z : Str} {i : Int} {c : Nat} (hl : z.length ≤ sizeLine) (h : atI z.cps.toList i = some c) (k : Ψ (.str ⟨#[c]⟩)) : R2D K (rIxU K) (.str z) (.int i) Ψ := fun G H v w s rx ry =>
  RD.val s (rep_str _) k fun Q q => .inr (.inr ⟨z, i, c, rx.str_inv, ry.int_inv, hl, h, q⟩)
theorem ix_scr {ns : List Int} {i : Int} {n : Int} (h : atI ns i = some n) (k : Ψ (.int n)) : R2D K (rIxU K) (.scr ns) (.int i) Ψ := fun G H v w s rx ry => by
  obtain ⟨p, rfl, hp⟩ := rx.scr_inv
  refine RD.val s (rep_int _) k fun Q q => .inl ⟨p, _, i, .int n, rfl, ry.int_inv, sqL_mono s hp, ?_, q⟩
  unfold atI at h ⊢
  rw [List.length_map]
  cases ej : ixN ns.length i with
  | none => rw [ej] at h; cases h
  | some j =>
    rw [ej] at h
    have h : ns[j]? = some n := h
    show (ns.map V.int)[j]? = some (.int n)
    rw [List.getElem?_map, h]; rfl
theorem ixU_own (p : Addr) (xs : List V) (k : Int) (v : V) (H : Hp) (Q : VK) (h : H p = some (.lst xs)) (ha : atI xs k = some v) (q : Q v H) : rIxU K (.ref p) (.int k) H Q := .inl ⟨p, xs, k, v, rfl, rfl, SqL.of h, ha, q⟩
def cutL {α : Type} (xs : List α) (lo hi : Option Int) : List α := (xs.drop (HT.sIx xs.length 0 lo)).take (HT.sIx xs.length xs.length hi - HT.sIx xs.length 0 lo)
theorem cut_rep {G : Hp} {ds : List D} {xs : List V} (lo hi : Option Int) (r : Reps K G ds xs) : Reps K G (cutL ds lo hi) (cutV xs lo hi) := by
  unfold cutL cutV
  rw [r.len]
  exact (r.drop _).take _
def rSlU (K : PySem.W.Frag) : V → Option Int → Option Int → Hp → VK → Prop := fun x lo hi H Q => rSlL K x lo hi H Q ∨ rSlS x lo hi H Q ∨ rSlA K x lo hi H Q
theorem sl_U : L2.SlR X (rSlU X.K) := L2.SlR.or sl_list (L2.SlR.or sl_str sl_tupA)
theorem sl_lN {ds : List D} {lo hi : Option Int} {Ψ : OD → Prop} (k : Ψ (.lst (cutL ds lo hi))) : RSN K (rSlU K) (.lst ds) lo hi Ψ := fun G H v s rx => by
  obtain ⟨p, xs, rfl, hp, r1⟩ := rx.lst_inv
  exact RN.lst s (cut_rep lo hi r1) k fun Q q => .inl ⟨p, xs, rfl, SqL.of (s _ _ hp), q⟩
theorem RSN.d {r : V → Option Int → Option Int → Hp → VK → Prop} {x : D} {lo hi : Option Int} {Ψ : D → Prop} (h : RSN K r x lo hi fun o => Ψ o.d) : RSD K r x lo hi Ψ := fun G H v s a => (h G H v s a).d
theorem sl_l {ds : List D} {lo hi : Option Int} (k : Ψ (.lst (cutL ds lo hi))) : RSD K (rSlU K) (.lst ds) lo hi Ψ := RSN.d (sl_lN k)
theorem sl_s {z : Str} {lo hi : Option Int} (hl : z.length ≤ sizeLine) (k : Ψ (.str (cutS z lo hi))) : RSD K (rSlU K) (.str z) lo hi Ψ := fun G H v s rx =>
  RD.val s (rep_str _) k fun Q q => .inr (.inl ⟨z, rx.str_inv, hl, q⟩)
theorem sl_t {ds : List D} {lo hi : Option Int} (k : Ψ (.tup (cutL ds lo hi))) : RSD K (rSlU K) (.tup ds) lo hi Ψ := fun G H v s rx Q q => by
  obtain ⟨p, xs, rfl, hp, r1⟩ := rx.tup_inv
  refine .inr (.inr ⟨p, xs, rfl, sqT_mono s hp, fun ⟨e1, e2⟩ => ?_, fun _ a na => ?_⟩)
  · have e : cutL ds lo hi = ds := by
      unfold cutL
      rw [← r1.len, e1, e2, r1.len]
      simp
    rw [e] at k
    exact q _ _ G H (.refl s) (rep_tup hp r1) k
  · have g : Grow [] G H (upd G a (.tup (cutV xs lo hi))) (upd H a (.tup (cutV xs lo hi))) := .new s na
    exact q _ _ _ _ g (rep_tup (SqT.of upd_same) ((cut_rep lo hi r1).mono g.g)) k
/-! ### methods of texts -/
def rJoin (K : PySem.W.Frag) : V → List V → Hp → VK → Prop := fun x xs H Q => ∃ a p, ∃ ys : List Str, x = .str a ∧ xs = [.ref p] ∧ (SqL K H p (ys.map V.str) ∨ SqT K H p (ys.map V.str)) ∧ (ys.map (·.length)).sum + ys.length * a.length ≤ 16777216 ∧ Q (.str (Txt.join a ys)) H
theorem mt_joinU : MtR X "str.join" (rJoin X.K) := mt_join
theorem join_l {a : Str} {ds : List D} {ys : List Str} (e : ds = ys.map .str) (h : (ys.map (·.length)).sum + ys.length * a.length ≤ 16777216) (k : Ψ (.str (Txt.join a ys))) : RMD K "str" (rJoin K) (.str a) [.lst ds] Ψ := fun G H v vs s rx r => by
  subst e
  obtain ⟨w, rfl, ry⟩ := r.just
  obtain ⟨p, xs, rfl, hp, r1⟩ := ry.lst_inv
  rw [reps_strs r1] at hp
  exact RD.val s (rep_str _) k fun Q q => ⟨a, p, ys, rx.str_inv, rfl, .inl (SqL.of (s _ _ hp)), h, q⟩
def rUpper : V → List V → Hp → VK → Prop := fun x xs H Q => ∃ a : Str, x = .str a ∧ xs = [] ∧ a.length ≤ 5592405 ∧ Q (.str (Txt.upper a)) H
theorem mt_upperU : MtR X "str.upper" rUpper := mt_upper
theorem upper_s {a : Str} (h : a.length ≤ 5592405) (k : Ψ (.str (Txt.upper a))) : RMD K "str" rUpper (.str a) [] Ψ := fun G H v vs s rx r => by
  rw [r.nil_inv]
  exact RD.val s (rep_str _) k fun Q q => ⟨a, rx.str_inv, rfl, h, q⟩
end
end Ms

/-! Lay7: what is walked, whatever its kind; comprehensions in the usual shapes. -/
namespace Ms
open PySem PySem.Spec PyProof.Rows L2
def iSeqU (K : PySem.W.Frag) (tl : TE) : TI := fun σ H R => iList K tl σ H R ∨ iTup K tl σ H R ∨ iStr tl σ H R
theorem pi_seqU {X : Cx} {tg l : Expr} {tl : TE} (hl : PE X l tl) : PI X tg l (iSeqU X.K tl) :=
  ⟨fun pins s σ H R I h => by
    rcases h with h | h | h
    · exact (pi_list hl).run pins s σ H R I h
    · exact (pi_tup hl).run pins s σ H R I h
    · exact (pi_str hl).run pins s σ H R I h⟩
section
variable {K : PySem.W.Frag} {δ : List Sl} {tl : TE} {Φ : List D → List Sl → Prop}
theorem ei_seqL (h : EvD K tl δ fun d δ1 => ∃ ds, d = .lst ds ∧ Φ ds δ1) : EvI K (iSeqU K tl) δ Φ := fun M L G0 H0 G H σ c R q => .inl (ei_list (I := tl) h M L G0 H0 G H σ c R q)
theorem ei_seqT (h : EvD K tl δ fun d δ1 => ∃ ds, d = .tup ds ∧ Φ ds δ1) : EvI K (iSeqU K tl) δ Φ := fun M L G0 H0 G H σ c R q => .inr (.inl (ei_tup h M L G0 H0 G H σ c R q))
theorem ei_seqS (h : EvD K tl δ fun d δ1 => ∃ z, d = .str z ∧ Φ (signsD z) δ1) : EvI K (iSeqU K tl) δ Φ := fun M L G0 H0 G H σ c R q => .inr (.inr (ei_str h M L G0 H0 G H σ c R q))
theorem et_yes {Ψ : Bool → List Sl → Prop} (k : Ψ true δ) : EvT K tYes δ Ψ := fun M L G0 H0 G H σ c Q q => q true δ G H (.refl _) c k
theorem ite_t {b : Bool} {A B : Prop} (h : b = true) (a : A) : if b = true then A else B := by rw [if_pos h]; exact a
theorem ite_f {b : Bool} {A B : Prop} (h : b = false) (a : B) : if b = true then A else B := by rw [h]; exact iteF a
theorem ite_b {b : Bool} {A B : Prop} (h1 : b = true → A) (h2 : b = false → B) : if b = true then A else B := by
  cases b with
  | true => exact iteT (h1 rfl)
  | false => exact iteF (h2 rfl)
theorem rest_wipe (δ : List Sl) (vs : List Nat) : restS (wipeS δ vs) δ vs = δ := by
  apply List.ext_getElem?
  intro i
  rw [restS_get]
  by_cases hi : i ∈ vs
  · simp only [hi, if_true, wipeS_length]
    by_cases hl : i < δ.length
    · rw [if_pos hl, List.getD_eq_getElem?_getD]; simp [hl]
    · rw [if_neg hl]; simp at hl; simp [hl]
  · simp only [hi, if_false]
    rw [wipeS_get]; simp only [hi, if_false]
section
variable {wi : TI} {g : TG} {te : TE} {tt : TT} {vs js : List Nat} {Θ : OD → List Sl → Prop}
/-- [f(x) for x in xs], nothing else changed -/
theorem en_lcM (f : D → D) (hjs : ∀ j ∈ js, j ∈ vs) (h : EvI K wi δ fun xs δ1 => NoOwn δ1 vs ∧ xs.length < sizeLine ∧ (∀ (i : Nat) x, xs[i]? = some x → TgD K js g x (wipeS δ1 vs) fun δ2 => EvD K te δ2 fun y δ3 => y = f x ∧ wipeS δ3 vs = wipeS δ1 vs) ∧ Θ (.lst (xs.map f)) δ1) :
    EvN K (tLc wi g tYes te vs) δ Θ := by
  refine en_lc hjs fun M L G0 H0 G H σ c R q => h M L G0 H0 G H σ c R fun xs δ1 J G1 H1 s1 c1 w ⟨no, hz, hx, k⟩ => q xs δ1 J G1 H1 s1 c1 w ⟨no, hz, fun i acc δ' => δ' = wipeS δ1 vs ∧ acc = (xs.take i).map f, ⟨rfl, rfl⟩, ?_, ?_⟩
  · rintro i x acc δ' ex hl ⟨rfl, rfl⟩
    refine fun M L G0 H0 G H σ v c r Q q => hx i x ex M L G0 H0 G H σ v c r Q fun δ2 σ2 G2 H2 s2 c2 l2 k2 p => q δ2 σ2 G2 H2 s2 c2 l2 k2 (et_yes (iteT ?_))
    refine fun M L G0 H0 G H σ c Q q => p M L G0 H0 G H σ c Q fun d δ3 v G3 H3 s3 c3 r3 ⟨e1, e2⟩ => q d δ3 v G3 H3 s3 c3 r3 ⟨e2, ?_⟩
    subst e1
    rw [List.take_add_one, ex]; simp
  · rintro acc δ' ⟨rfl, rfl⟩
    rw [rest_wipe, List.take_length]; exact k
/-- [f(x) for x in xs if p(x)] -/
theorem en_lcF (p : D → Bool) (f : D → D) (hjs : ∀ j ∈ js, j ∈ vs) (h : EvI K wi δ fun xs δ1 => NoOwn δ1 vs ∧ xs.length < sizeLine ∧ (∀ (i : Nat) x, xs[i]? = some x → TgD K js g x (wipeS δ1 vs) fun δ2 => EvT K tt δ2 fun b δ3 => b = p x ∧ wipeS δ3 vs = wipeS δ1 vs ∧ (p x = true → EvD K te δ3 fun y δ4 => y = f x ∧ wipeS δ4 vs = wipeS δ1 vs)) ∧ Θ (.lst ((xs.filter p).map f)) δ1) :
    EvN K (tLc wi g tt te vs) δ Θ := by
  refine en_lc hjs fun M L G0 H0 G H σ c R q => h M L G0 H0 G H σ c R fun xs δ1 J G1 H1 s1 c1 w ⟨no, hz, hx, k⟩ => q xs δ1 J G1 H1 s1 c1 w ⟨no, hz, fun i acc δ' => δ' = wipeS δ1 vs ∧ acc = ((xs.take i).filter p).map f, ⟨rfl, rfl⟩, ?_, ?_⟩
  · rintro i x acc δ' ex hl ⟨rfl, rfl⟩
    refine fun M L G0 H0 G H σ v c r Q q => hx i x ex M L G0 H0 G H σ v c r Q fun δ2 σ2 G2 H2 s2 c2 l2 k2 pp => q δ2 σ2 G2 H2 s2 c2 l2 k2 ?_
    refine fun M L G0 H0 G H σ c Q q => pp M L G0 H0 G H σ c Q fun b δ3 G3 H3 s3 c3 ⟨e1, e2, e3⟩ => q b δ3 G3 H3 s3 c3 ?_
    subst e1
    refine ite_b (fun hb => ?_) (fun hb => ⟨e2, ?_⟩)
    · refine fun M L G0 H0 G H σ c Q q => e3 hb M L G0 H0 G H σ c Q fun d δ4 v G3 H3 s3 c3 r3 ⟨e4, e5⟩ => q d δ4 v G3 H3 s3 c3 r3 ⟨e5, ?_⟩
      subst e4
      rw [List.take_add_one, ex]; simp [hb]
    · rw [List.take_add_one, ex]; simp [hb]
  · rintro acc δ' ⟨rfl, rfl⟩
    rw [rest_wipe, List.take_length]; exact k
end
def noOwn (δ : List Sl) (vs : List Nat) : Bool := vs.all fun i => !(δ.getD i .no).own
theorem noOwn_ok {δ : List Sl} {vs : List Nat} (h : noOwn δ vs = true) : NoOwn δ vs := fun i hi => by
  have := List.all_eq_true.mp h i hi
  simpa using this
section
variable {te : TE} {tt : TT} {j j2 : Nat} {t : TA} {Θ : OD → List Sl → Prop}
/-- [f(c) for c in text] -/
theorem en_lcS (f : Nat → D) (h : EvD K tl δ fun d δ1 => ∃ z, d = .str z ∧ noOwn δ1 [j] = true ∧ z.length < sizeLine ∧ (∀ c, c ∈ z.cps.toList → EvD K te ((wipeS δ1 [j]).set j (.sh (.str ⟨#[c]⟩))) fun y δ3 => y = f c ∧ wipeS δ3 [j] = wipeS δ1 [j]) ∧ Θ (.lst (z.cps.toList.map f)) δ1) :
    EvN K (tLc (iSeqU K tl) (gName j) tYes te [j]) δ Θ := by
  refine en_lcM (js := [j]) (fun x => match x with | .str y => f (y.cps.getD 0 0) | _ => .non) (by simp) (ei_seqS fun M L G0 H0 G H σ c Q q => h M L G0 H0 G H σ c Q fun d δ1 v G1 H1 s1 c1 r1 ⟨z, e, no, hz, hc, k⟩ => q d δ1 v G1 H1 s1 c1 r1 ⟨z, e, noOwn_ok no, ?_, fun i x ex => ?_, ?_⟩)
  · rw [show (signsD z).length = z.length by simp [signsD]; rfl]; exact hz
  · unfold signsD at ex
    rw [List.getElem?_map] at ex
    cases q : z.cps.toList[i]? with
    | none => rw [q] at ex; cases ex
    | some c =>
      rw [q] at ex; cases ex
      exact tg_name (hc c (List.mem_of_getElem? q))
  · unfold signsD
    rw [List.map_map]
    exact k
/-- [f(c) for c in text if p(c)] -/
theorem en_lcSF (p : Nat → Bool) (f : Nat → D) (h : EvD K tl δ fun d δ1 => ∃ z, d = .str z ∧ noOwn δ1 [j] = true ∧ z.length < sizeLine ∧ (∀ c, c ∈ z.cps.toList → EvT K tt ((wipeS δ1 [j]).set j (.sh (.str ⟨#[c]⟩))) fun b δ3 => b = p c ∧ wipeS δ3 [j] = wipeS δ1 [j] ∧ (p c = true → EvD K te δ3 fun y δ4 => y = f c ∧ wipeS δ4 [j] = wipeS δ1 [j])) ∧ Θ (.lst ((z.cps.toList.filter p).map f)) δ1) :
    EvN K (tLc (iSeqU K tl) (gName j) tt te [j]) δ Θ := by
  refine en_lcF (js := [j]) (fun x => match x with | .str y => p (y.cps.getD 0 0) | _ => false) (fun x => match x with | .str y => f (y.cps.getD 0 0) | _ => .non) (by simp) (ei_seqS fun M L G0 H0 G H σ c Q q => h M L G0 H0 G H σ c Q fun d δ1 v G1 H1 s1 c1 r1 ⟨z, e, no, hz, hc, k⟩ => q d δ1 v G1 H1 s1 c1 r1 ⟨z, e, noOwn_ok no, ?_, fun i x ex => ?_, ?_⟩)
  · rw [show (signsD z).length = z.length by simp [signsD]; rfl]; exact hz
  · unfold signsD at ex
    rw [List.getElem?_map] at ex
    cases q : z.cps.toList[i]? with
    | none => rw [q] at ex; cases ex
    | some c =>
      rw [q] at ex; cases ex
      exact tg_name (hc c (List.mem_of_getElem? q))
  · unfold signsD
    rw [List.filter_map, List.map_map]
    exact k
/-- [f(x) for x in list] -/
theorem en_lcL (f : D → D) (h : EvD K tl δ fun d δ1 => ∃ ds, d = .lst ds ∧ noOwn δ1 [j] = true ∧ ds.length < sizeLine ∧ (∀ (i : Nat) x, ds[i]? = some x → EvD K te ((wipeS δ1 [j]).set j (.sh x)) fun y δ3 => y = f x ∧ wipeS δ3 [j] = wipeS δ1 [j]) ∧ Θ (.lst (ds.map f)) δ1) :
    EvN K (tLc (iSeqU K tl) (gName j) tYes te [j]) δ Θ :=
  en_lcM (js := [j]) f (by simp) (ei_seqL fun M L G0 H0 G H σ c Q q => h M L G0 H0 G H σ c Q fun d δ1 v G1 H1 s1 c1 r1 ⟨z, e, no, hz, hc, k⟩ => q d δ1 v G1 H1 s1 c1 r1 ⟨z, e, noOwn_ok no, hz, fun i x ex => tg_name (hc i x ex), k⟩)
/-- [f(i, x) for i, x in enumerate(xs)] -/
def mapIx (f : Nat → D → D) (ds : List D) : List D := ds.zipIdx.map fun p => f p.2 p.1
theorem en_lcE (f : Nat → D → D) (h : EvA K t δ fun xs δ1 => ∃ ds, (xs = [.lst ds] ∨ xs = [.tup ds]) ∧ noOwn δ1 [j, j2] = true ∧ ds.length < sizeLine ∧ (∀ (i : Nat) x, ds[i]? = some x → EvD K te (((wipeS δ1 [j, j2]).set j (.sh (.int (i : Nat)))).set j2 (.sh x)) fun y δ3 => y = f i x ∧ wipeS δ3 [j, j2] = wipeS δ1 [j, j2]) ∧ Θ (.lst (mapIx f ds)) δ1) :
    EvN K (tLc (iEnU K t) (gTup K 2 (gCons (gName j) (gCons (gName j2) gNil))) tYes te [j, j2]) δ Θ := by
  refine en_lcM (js := [j] ++ ([j2] ++ [])) (fun x => match x with | .tup [.int i, d] => f i.toNat d | _ => .non) (by simp) (ei_enU fun M L G0 H0 G H σ c Q q => h M L G0 H0 G H σ c Q fun d δ1 v G1 H1 s1 c1 r1 ⟨z, e, no, hz, hc, k⟩ => q d δ1 v G1 H1 s1 c1 r1 ⟨z, e, noOwn_ok no, ?_, fun i x ex => ?_, ?_⟩)
  · rw [enumD_len]; exact hz
  · have hi : i < z.length := by
      have := (List.getElem?_eq_some_iff.mp ex).1
      rw [enumD_len] at this; exact this
    have e1 : z[i]? = some z[i] := by simp [hi]
    rw [enumD_get e1] at ex; cases ex
    exact tg_tup rfl (tgs_cons (tg_name (tgs_cons (tg_name (tgs_nil (hc i _ e1))))))
  · unfold enumD
    rw [List.map_map]
    exact k
/-- .. if p(i, x) -/
theorem en_lcEF (p : Nat → D → Bool) (f : Nat → D → D) (h : EvA K t δ fun xs δ1 => ∃ ds, (xs = [.lst ds] ∨ xs = [.tup ds]) ∧ noOwn δ1 [j, j2] = true ∧ ds.length < sizeLine ∧ (∀ (i : Nat) x, ds[i]? = some x → EvT K tt (((wipeS δ1 [j, j2]).set j (.sh (.int (i : Nat)))).set j2 (.sh x)) fun b δ3 => b = p i x ∧ wipeS δ3 [j, j2] = wipeS δ1 [j, j2] ∧ (p i x = true → EvD K te δ3 fun y δ4 => y = f i x ∧ wipeS δ4 [j, j2] = wipeS δ1 [j, j2])) ∧
      Θ (.lst ((ds.zipIdx.filter fun q => p q.2 q.1).map fun q => f q.2 q.1)) δ1) :
    EvN K (tLc (iEnU K t) (gTup K 2 (gCons (gName j) (gCons (gName j2) gNil))) tt te [j, j2]) δ Θ := by
  refine en_lcF (js := [j] ++ ([j2] ++ [])) (fun x => match x with | .tup [.int i, d] => p i.toNat d | _ => false) (fun x => match x with | .tup [.int i, d] => f i.toNat d | _ => .non) (by simp) (ei_enU fun M L G0 H0 G H σ c Q q => h M L G0 H0 G H σ c Q fun d δ1 v G1 H1 s1 c1 r1 ⟨z, e, no, hz, hc, k⟩ => q d δ1 v G1 H1 s1 c1 r1 ⟨z, e, noOwn_ok no, ?_, fun i x ex => ?_, ?_⟩)
  · rw [enumD_len]; exact hz
  · have hi : i < z.length := by
      have := (List.getElem?_eq_some_iff.mp ex).1
      rw [enumD_len] at this; exact this
    have e1 : z[i]? = some z[i] := by simp [hi]
    rw [enumD_get e1] at ex; cases ex
    exact tg_tup rfl (tgs_cons (tg_name (tgs_cons (tg_name (tgs_nil (hc i _ e1))))))
  · unfold enumD
    rw [List.filter_map, List.map_map]
    exact k
/-- a comprehension over range(n) that draws: the box at slot b0 counts up; P: what holds of each item -/
theorem en_lcX {b0 m0 cst : Nat} {ba : Addr} {P : D → Prop} (hb : b0 ≠ j) (h : EvA K t δ fun xs δ1 => ∃ n : Int, xs = [.int n] ∧ 0 ≤ n ∧ n < 10000000 ∧ noOwn δ1 [j] = true ∧ δ1[b0]? = some (.bx ba m0) ∧
      (∀ (i m : Nat), (i : Int) < n → m ≤ m0 + i * cst → EvD K te (((wipeS δ1 [j]).set b0 (.bx ba m)).set j (.sh (.int (i : Nat)))) fun y δ3 => P y ∧ ∃ m', m' ≤ m + cst ∧ wipeS δ3 [j] = (wipeS δ1 [j]).set b0 (.bx ba m')) ∧
      ∀ (acc : List D) (m : Nat), acc.length = n.toNat → (∀ y ∈ acc, P y) → m ≤ m0 + n.toNat * cst → Θ (.lst acc) (δ1.set b0 (.bx ba m))) :
    EvN K (tLc (iRng1 t) (gName j) tYes te [j]) δ Θ := by
  refine en_lc (js := [j]) (by simp) (ei_range1 fun M L G0 H0 G H σ c Q q => h M L G0 H0 G H σ c Q fun d δ1 v G1 H1 s1 c1 r1 ⟨n, e, n0, n1, no, hb0, hc, k⟩ => q d δ1 v G1 H1 s1 c1 r1 ⟨n, e, by omega, by omega, noOwn_ok no, ?_, fun i acc δ' => (∃ m, m ≤ m0 + i * cst ∧ δ' = (wipeS δ1 [j]).set b0 (.bx ba m)) ∧ acc.length = i ∧ ∀ y ∈ acc, P y, ⟨⟨m0, by simp, ?_⟩, rfl, by simp⟩, ?_, ?_⟩)
  · rw [rangeD_len]
    exact Nat.lt_of_lt_of_le (by omega : n.toNat < 10000000) (by decide)
  · have e2 : (wipeS δ1 [j])[b0]? = some (.bx ba m0) := by rw [wipeS_get]; simp [hb, hb0]
    apply List.ext_getElem?
    intro i
    rw [List.getElem?_set]
    by_cases ei : b0 = i
    · subst ei; rw [if_pos rfl, e2]
      rw [if_pos (List.getElem?_eq_some_iff.mp e2).1]
    · rw [if_neg ei]
  · rintro i x acc δ' ex hl ⟨⟨m, hm, rfl⟩, rfl, hP⟩
    have hi : acc.length < n.toNat := by
      have := (List.getElem?_eq_some_iff.mp ex).1
      rw [rangeD_len] at this; exact this
    rw [rangeD_get _ _ _ hi] at ex
    have ex' : x = .int (acc.length : Nat) := by
      have := Option.some.inj ex
      rw [← this]; simp
    subst ex'
    refine tg_name (et_yes (iteT ?_))
    refine fun M L G0 H0 G H σ c Q q => hc acc.length m (by omega) hm M L G0 H0 G H σ c Q fun d δ3 v G3 H3 s3 c3 r3 ⟨pd, m', hm', e3⟩ => q d δ3 v G3 H3 s3 c3 r3 ⟨⟨m', ?_, e3⟩, by simp, fun y hy => ?_⟩
    · rw [Nat.add_mul]; omega
    · rcases List.mem_append.mp hy with z | z
      · exact hP y z
      · simp at z; subst z; exact pd
  · rintro acc δ' ⟨⟨m, hm, rfl⟩, hl, hP⟩
    rw [rangeD_len] at hl hm
    have e3 : restS ((wipeS δ1 [j]).set b0 (.bx ba m)) δ1 [j] = δ1.set b0 (.bx ba m) := by
      apply List.ext_getElem?
      intro i
      rw [restS_get, List.getElem?_set, List.length_set, wipeS_length, List.getElem?_set]
      by_cases hi : i = j
      · subst hi
        simp only [List.mem_singleton, if_true]
        rw [if_neg hb]
        by_cases hl : i < δ1.length
        · rw [if_pos hl, List.getD_eq_getElem?_getD]; simp [hl]
        · rw [if_neg hl]; simp at hl; simp [hl]
      · simp only [List.mem_singleton, hi, if_false]
        by_cases e : b0 = i
        · simp only [e, if_true]
        · simp only [e, if_false]
          rw [wipeS_get]; simp [hi]
    rw [e3]
    exact k acc m hl hP hm
end
theorem all_map {Ψ : D → Prop} {xs : List D} {g : D → Bool} (k : Ψ (.bl (xs.all g))) : RAD K (rAllU K) [.lst (xs.map fun x => .bl (g x))] Ψ := all_bs (bs := xs.map g) (by simp) (by simpa [Function.comp_def] using k)
theorem any_map {Ψ : D → Prop} {xs : List D} {g : D → Bool} (k : Ψ (.bl (xs.any g))) : RAD K (rAnyU K) [.lst (xs.map fun x => .bl (g x))] Ψ := any_bs (bs := xs.map g) (by simp) (by simpa [Function.comp_def] using k)
end
end Ms

/-! Lay8: any value that the laws hand in; isinstance of it. -/
namespace Ms
open PySem PySem.Spec PyProof.Rows L2
/-- what isinstance says of the instances of the class at C -/
structure InsK (K : PySem.W.Frag) (C : Addr) : Prop where
  t : InsT K C
  int : PySem.W.kitOne K (.ref C) (.type "int") = some false
  bool : PySem.W.kitOne K (.ref C) (.type "bool") = some false
  str : PySem.W.kitOne K (.ref C) (.type "str") = some false
  list : PySem.W.kitOne K (.ref C) (.type "list") = some false
  tuple : PySem.W.kitOne K (.ref C) (.type "tuple") = some false
  dict : PySem.W.kitOne K (.ref C) (.type "dict") = some false
abbrev big : Nat := 16000000
mutual
/-- a value of bounded size -/
def OkD (K : PySem.W.Frag) : D → Prop
  | .non => True
  | .bl _ => True
  | .int _ => True
  | .str z => z.length < big ∧ PyData.strOk z = true
  | .lst ds => ds.length < big ∧ OkDs K ds
  | .tup ds => ds.length < big ∧ OkDs K ds
  | .dic _ => True
  | .ins C _ => InsK K C
  | .scr _ => False
  | .ty _ => False
  | .cls _ => False
  | .at _ => False
  | .dz _ => False
def OkDs (K : PySem.W.Frag) : List D → Prop
  | [] => True
  | d :: ds => OkD K d ∧ OkDs K ds
end
theorem OkDs.get {K : PySem.W.Frag} : ∀ {ds : List D} {i : Nat} {d : D}, OkDs K ds → ds[i]? = some d → OkD K d
  | [], _, _, _, e => by simp at e
  | d :: ds, 0, _, h, e => by simp only [OkDs] at h; simp at e; subst e; exact h.1
  | d :: ds, i + 1, _, h, e => by simp only [OkDs] at h; exact OkDs.get (i := i) h.2 (by simpa using e)
theorem OkD.str {K : PySem.W.Frag} {z : Str} (h : OkD K (.str z)) : z.length < big := by
  simp only [OkD] at h; exact h.1
theorem OkD.sok {K : PySem.W.Frag} {z : Str} (h : OkD K (.str z)) : PyData.strOk z = true := by
  simp only [OkD] at h; exact h.2
theorem OkD.lst {K : PySem.W.Frag} {ds : List D} (h : OkD K (.lst ds)) : ds.length < big ∧ OkDs K ds := by simpa only [OkD] using h
theorem OkD.tup {K : PySem.W.Frag} {ds : List D} (h : OkD K (.tup ds)) : ds.length < big ∧ OkDs K ds := by simpa only [OkD] using h
theorem big_le {n : Nat} (h : n < big) : n ≤ sizeLine := Nat.le_trans (Nat.le_of_lt h) (by decide)
theorem big_lt {n : Nat} (h : n < big) : n < sizeLine := Nat.lt_of_lt_of_le h (by decide)
def isStr : D → Bool
  | .str _ => true
  | _ => false
def isTup : D → Bool
  | .tup _ => true
  | _ => false
def isLst : D → Bool
  | .lst _ => true
  | _ => false
def isBl : D → Bool
  | .bl _ => true
  | _ => false
def isInt : D → Bool
  | .int _ => true
  | .bl _ => true
  | _ => false
def isSeq : D → Bool
  | .lst _ => true
  | .tup _ => true
  | _ => false
def isDic : D → Bool
  | .dic _ => true
  | _ => false
section
variable {K : PySem.W.Frag} {Ψ : D → Prop} {d : D}
theorem isi_str (h : OkD K d) (k : Ψ (.bl (isStr d))) : RAD K (rIsiU K) [d, .ty "str"] Ψ := by
  cases d with
  | ins C fs => exact isi_ins (show InsK K C by simpa only [OkD] using h).t (show InsK K C by simpa only [OkD] using h).str k
  | scr ns => exact (show False by simpa only [OkD] using h).elim
  | ty n => exact (show False by simpa only [OkD] using h).elim
  | cls C => exact (show False by simpa only [OkD] using h).elim
  | «at» a => exact (show False by simpa only [OkD] using h).elim
  | dz a => exact (show False by simpa only [OkD] using h).elim
  | _ => first | exact isi_ty (b := true) rfl (by decide +kernel) k | exact isi_ty (b := false) rfl (by decide +kernel) k
theorem isi_tuple (h : OkD K d) (k : Ψ (.bl (isTup d))) : RAD K (rIsiU K) [d, .ty "tuple"] Ψ := by
  cases d with
  | ins C fs => exact isi_ins (show InsK K C by simpa only [OkD] using h).t (show InsK K C by simpa only [OkD] using h).tuple k
  | scr ns => exact (show False by simpa only [OkD] using h).elim
  | ty n => exact (show False by simpa only [OkD] using h).elim
  | cls C => exact (show False by simpa only [OkD] using h).elim
  | «at» a => exact (show False by simpa only [OkD] using h).elim
  | dz a => exact (show False by simpa only [OkD] using h).elim
  | _ => first | exact isi_ty (b := true) rfl (by decide +kernel) k | exact isi_ty (b := false) rfl (by decide +kernel) k
theorem isi_list (h : OkD K d) (k : Ψ (.bl (isLst d))) : RAD K (rIsiU K) [d, .ty "list"] Ψ := by
  cases d with
  | ins C fs => exact isi_ins (show InsK K C by simpa only [OkD] using h).t (show InsK K C by simpa only [OkD] using h).list k
  | scr ns => exact (show False by simpa only [OkD] using h).elim
  | ty n => exact (show False by simpa only [OkD] using h).elim
  | cls C => exact (show False by simpa only [OkD] using h).elim
  | «at» a => exact (show False by simpa only [OkD] using h).elim
  | dz a => exact (show False by simpa only [OkD] using h).elim
  | _ => first | exact isi_ty (b := true) rfl (by decide +kernel) k | exact isi_ty (b := false) rfl (by decide +kernel) k
theorem isi_dict (h : OkD K d) (k : Ψ (.bl (isDic d))) : RAD K (rIsiU K) [d, .ty "dict"] Ψ := by
  cases d with
  | ins C fs => exact isi_ins (show InsK K C by simpa only [OkD] using h).t (show InsK K C by simpa only [OkD] using h).dict k
  | scr ns => exact (show False by simpa only [OkD] using h).elim
  | ty n => exact (show False by simpa only [OkD] using h).elim
  | cls C => exact (show False by simpa only [OkD] using h).elim
  | «at» a => exact (show False by simpa only [OkD] using h).elim
  | dz a => exact (show False by simpa only [OkD] using h).elim
  | _ => first | exact isi_ty (b := true) rfl (by decide +kernel) k | exact isi_ty (b := false) rfl (by decide +kernel) k
theorem isi_bool (h : OkD K d) (k : Ψ (.bl (isBl d))) : RAD K (rIsiU K) [d, .ty "bool"] Ψ := by
  cases d with
  | ins C fs => exact isi_ins (show InsK K C by simpa only [OkD] using h).t (show InsK K C by simpa only [OkD] using h).bool k
  | scr ns => exact (show False by simpa only [OkD] using h).elim
  | ty n => exact (show False by simpa only [OkD] using h).elim
  | cls C => exact (show False by simpa only [OkD] using h).elim
  | «at» a => exact (show False by simpa only [OkD] using h).elim
  | dz a => exact (show False by simpa only [OkD] using h).elim
  | _ => first | exact isi_ty (b := true) rfl (by decide +kernel) k | exact isi_ty (b := false) rfl (by decide +kernel) k
theorem isi_int (h : OkD K d) (k : Ψ (.bl (isInt d))) : RAD K (rIsiU K) [d, .ty "int"] Ψ := by
  cases d with
  | ins C fs => exact isi_ins (show InsK K C by simpa only [OkD] using h).t (show InsK K C by simpa only [OkD] using h).int k
  | scr ns => exact (show False by simpa only [OkD] using h).elim
  | ty n => exact (show False by simpa only [OkD] using h).elim
  | cls C => exact (show False by simpa only [OkD] using h).elim
  | «at» a => exact (show False by simpa only [OkD] using h).elim
  | dz a => exact (show False by simpa only [OkD] using h).elim
  | _ => first | exact isi_ty (b := true) rfl (by decide +kernel) k | exact isi_ty (b := false) rfl (by decide +kernel) k
theorem isi_seq (h : OkD K d) (k : Ψ (.bl (isSeq d))) : RAD K (rIsiU K) [d, .tup [.ty "list", .ty "tuple"]] Ψ := by
  cases d with
  | ins C fs => exact isi_insTwo (show InsK K C by simpa only [OkD] using h).t (show InsK K C by simpa only [OkD] using h).list (show InsK K C by simpa only [OkD] using h).tuple k
  | scr ns => exact (show False by simpa only [OkD] using h).elim
  | ty n => exact (show False by simpa only [OkD] using h).elim
  | cls C => exact (show False by simpa only [OkD] using h).elim
  | «at» a => exact (show False by simpa only [OkD] using h).elim
  | dz a => exact (show False by simpa only [OkD] using h).elim
  | lst ds => exact isi_two (b := true) (c := false) rfl (by decide +kernel) (by decide +kernel) k
  | tup ds => exact isi_two (b := false) (c := true) rfl (by decide +kernel) (by decide +kernel) k
  | _ => exact isi_two (b := false) (c := false) rfl (by decide +kernel) (by decide +kernel) k
end
/-! ### the rows' own kinds, over data -/
def lowS : Str := "abcdefghijklmnopqrstuvwxyz"
def uppS : Str := "ABCDEFGHIJKLMNOPQRSTUVWXYZ"
def isLow (c : Nat) : Bool := decide (c ∈ lowS.cps.toList)
def isUpp (c : Nat) : Bool := decide (c ∈ uppS.cps.toList)
def nameS (z : Str) : Bool := decide (1 ≤ z.length) && decide (z.length ≤ 4) && z.cps.toList.all isLow
def pieceS (z : Str) : Bool := z.cps.toList.all fun c => isLow c || isUpp c
def isName : D → Bool
  | .str z => nameS z
  | _ => false
def isPiece : D → Bool
  | .str z => pieceS z
  | _ => false
def isMarker : D → Bool
  | .tup [a, b] => isName a && isBl b
  | _ => false
def seqOf : D → Option (List D)
  | .lst ds => some ds
  | .tup ds => some ds
  | _ => none
/-- pieces and markers in turn, from place i on -/
def itemsFrom : Nat → List D → Bool
  | _, [] => true
  | i, d :: ds => (if i % 2 = 1 then isMarker d else isPiece d) && itemsFrom (i + 1) ds
def isRow (d : D) : Bool := match seqOf d with
  | some ds => decide (ds.length % 2 = 1) && itemsFrom 0 ds
  | none => false
def A_is_integer (K : PySem.W.Frag) : FS := fun ds post => ∃ (d : D) (l h : Int), ds = [d, .int l, .int h] ∧ OkD K d ∧ post (.val (.bl (match d with | .int i => decide (l ≤ i) && decide (i ≤ h) | _ => false)))
def A_is_name (K : PySem.W.Frag) : FS := fun ds post => ∃ d, ds = [d] ∧ OkD K d ∧ post (.val (.bl (isName d)))
def A_is_piece (K : PySem.W.Frag) : FS := fun ds post => ∃ d, ds = [d] ∧ OkD K d ∧ post (.val (.bl (isPiece d)))
def A_is_marker (K : PySem.W.Frag) : FS := fun ds post => ∃ d, ds = [d] ∧ OkD K d ∧ post (.val (.bl (isMarker d)))
def A_is_sequence (K : PySem.W.Frag) : FS := fun ds post => ∃ d, ds = [d] ∧ OkD K d ∧ post (.val (.bl (isSeq d)))
def A_is_row (K : PySem.W.Frag) : FS := fun ds post => ∃ d, ds = [d] ∧ OkD K d ∧ post (.val (.bl (isRow d)))
end Ms

/-! Lay9: what the laws' own first defs do: a cell of the script, a box, a draw. -/
namespace Ms
open PySem PySem.Spec PyProof.Rows L2
/-- an int of at most 2 ^ 20 bits -/
def Huge (v : Int) : Prop := ∃ m : Nat, v.natAbs < 2 ^ m ∧ m ≤ 1048576
theorem huge_of_bits {v : Int} (h : Builtin.Int.intBits v ≤ 1048576) : Huge v := by
  unfold Builtin.Int.intBits at h
  by_cases e : v = 0
  · subst e; exact ⟨0, by decide, by decide⟩
  · rw [if_neg (by simpa using e)] at h
    exact ⟨_, Nat.lt_log2_self, h⟩
theorem huge_small {v : Int} (h0 : 0 ≤ v) (h : v < 4294967296) : Huge v := ⟨32, by
  have e : (2 : Nat) ^ 32 = 4294967296 := by decide
  rw [e]; omega, by decide⟩
def A_law_cell : FS := fun ds post => ∃ (ns : List Int) (k : Int), ds = [.scr ns, .int k] ∧ 0 ≤ k ∧ k < 1000 ∧ (∀ z ∈ ns, Huge z) ∧ ∀ v : Int, Huge v → post (.val (.int v))
def A_law_box : FS := fun ds post => ∃ v : Int, ds = [.int v] ∧ Huge v ∧ ∀ (x y : Int) (m : Nat), 0 ≤ x → x.natAbs < 2 ^ m → m ≤ 1048640 → 0 ≤ y → y < 2147483648 → post (.new (.lst [.int x, .int y, .int 0]))
abbrev lim : Nat := 1099511627776
def A_law_take : FX := fun n ds post => ∃ k : Int, ds = [.int k] ∧ 0 < k ∧ k.natAbs.log2 < 9000 ∧ n + 1 ≤ lim ∧ ∀ r : Int, 0 ≤ r → r < k → post (.val (.int r)) (n + 1)
end Ms

/-! Lay10: slices with a step; instances: made, stored, read; a quiet loop over a dict's items. -/
namespace Ms
open PySem PySem.Spec PyProof.Rows L2
/-! ### slices with a step -/
def pickS {α : Type} (lo hi st : Option Int) (xs : List α) : List α :=
  (sliceRange (sliceBounds lo hi st xs.length).1 (sliceBounds lo hi st xs.length).2.1 (sliceBounds lo hi st xs.length).2.2).filterMap (xs[·]?)
theorem vals_get : ∀ {xs : List V} {us : List Value}, Vals xs us → ∀ i : Nat, (xs[i]? = none ∧ us[i]? = none) ∨ ∃ x u, xs[i]? = some x ∧ us[i]? = some u ∧ RelV x u
  | _, _, .nil, i => .inl ⟨by simp, by simp⟩
  | _, _, .cons h r, 0 => .inr ⟨_, _, rfl, rfl, h⟩
  | _, _, .cons h r, i + 1 => by simpa using vals_get r i
theorem vals_picks {xs : List V} {us : List Value} (h : Vals xs us) : ∀ l : List Nat, Vals (l.filterMap (xs[·]?)) (l.filterMap (us[·]?))
  | [] => .nil
  | i :: l => by
    rw [List.filterMap_cons, List.filterMap_cons]
    rcases vals_get h i with ⟨a, b⟩ | ⟨x, u, a, b, r⟩
    · rw [a, b]; exact vals_picks h l
    · rw [a, b]; exact .cons r (vals_picks h l)
theorem slicePick_eq (us : List Value) (lo hi st : Option Int) : slicePick us.toArray lo hi st = (pickS lo hi st us).toArray := by
  unfold slicePick pickS
  simp only [List.size_toArray, List.getElem?_toArray]
theorem pickS_len {α : Type} (lo hi st : Option Int) (xs : List α) : (pickS lo hi st xs).length ≤ xs.length := by
  have e : ∀ ys : List α, (pickS lo hi st ys).length ≤ (sliceRange (sliceBounds lo hi st ys.length).1 (sliceBounds lo hi st ys.length).2.1 (sliceBounds lo hi st ys.length).2.2).length := fun ys => List.length_filterMap_le _ _
  refine Nat.le_trans (e xs) (sliceRange_length_le _ _ _ _ (fun hc => ?_) fun hc => ?_)
  · simp only [sliceBounds] at hc ⊢
    simp only [hc, if_true]
    constructor
    · cases lo with
      | none => simp
      | some i => dsimp only; omega
    · cases hi with
      | none => simp
      | some i => dsimp only; omega
  · simp only [sliceBounds] at hc ⊢
    simp only [hc, if_false]
    constructor
    · cases lo with
      | none => simp
      | some i => dsimp only; omega
    · cases hi with
      | none => simp
      | some i => dsimp only; omega
def rStepL (K : PySem.W.Frag) (lo hi st : Option Int) : V → Hp → VK → Prop := fun x H Q => ∃ a xs, x = .ref a ∧ SqL K H a xs ∧ ∀ p, H p = none → Q (.ref p) (upd H p (.lst (pickS lo hi st xs)))
section
variable {X : Cx} {e : Expr} {te : TE} {lo hi st : Option Expr} {l u t : Option Int} {tl th tt : TO} {p3 pos : Pos}
theorem pe_stepL (he : PE X e te) (hl : PO X lo tl) (hh : PO X hi th) (ht : PO X st tt) (cl : ∀ σ H Q, Q l H → tl σ H Q) (ch : ∀ σ H Q, Q u H → th σ H Q) (ct : ∀ σ H Q, Q t H → tt σ H Q) (h0 : t ≠ some 0) (hsub : ∀ a b : Addr, subscripted (.Slice lo hi st p3) false (.ref a) (.ref b) = operate [.ref a, .ref b] (getItem (.ref a) (.ref b)) := by intros; with_unfolding_all rfl) :
    PE X (.Subscript e (.Slice lo hi st p3) pos) (tUn (rStepL X.K l u t) te) := by
  refine ⟨fun pins s σ H Q I h => ?_⟩
  refine Subscript_ (thn (he.run pins s σ H _ I h) fun v s1 ⟨x, H1, I1, r1, q1⟩ => ?_)
  obtain ⟨a, xs, ex, hx, q⟩ := q1
  subst ex
  cases r1
  refine wpAny_Slice (thn (hl.run pins s1 σ H1 (fun o H2 => o = l ∧ H2 = H1) I1 (cl _ _ _ ⟨rfl, rfl⟩)) fun vl s2 ⟨l', H2, I2, pl, el, e2⟩ => ?_)
  subst el e2
  refine thn (hh.run pins s2 σ H2 (fun o H3 => o = u ∧ H3 = H2) I2 (ch _ _ _ ⟨rfl, rfl⟩)) fun vu s3 ⟨u', H3, I3, pu, eu, e3⟩ => ?_
  subst eu e3
  refine thn (ht.run pins s3 σ H3 (fun o H4 => o = t ∧ H4 = H3) I3 (ct _ _ _ ⟨rfl, rfl⟩)) fun vs s4 ⟨o, H4, I4, ps, eo, e4⟩ => ?_
  subst eo e4
  have I5 : Inv X pins σ H4 { s4 with heap := s4.heap.push { cls := .type "slice", data := .fields #[vl, vu, vs] } } := I4.kept (t' := s4.toks) fun b ob q => Heap.get?_push_of_some _ q
  obtain ⟨its, r, ht, hz⟩ := I5.list hx
  have hlen := r.length
  show wpAny (model X.prog X.w) X.A (subscriptTail e (.Slice lo hi st p3) (.ref a) (.ref s4.heap.objs.size)) (EP X pins σ Q) X.xe { s4 with heap := s4.heap.push { cls := .type "slice", data := .fields #[vl, vu, vs] } }
  refine tail_any (ops := [.ref a, .ref s4.heap.objs.size]) ht.isList.typeIs (PySem.slot_list_getitem.lookup) ?_ (hsub _ _)
  refine wpAny_getItem_list_slice ht.isList (Heap.IsSliceOf.new _ vl vu vs) pl pu ps h0 ?_ (by rw [List.size_toArray]; omega)
  rw [slicePick_eq]
  have rp : Vals (pickS l' u' o xs) (pickS l' u' o its) := by
    unfold pickS
    rw [hlen]
    exact vals_picks r _
  refine ⟨.ref _, _, I5.laid (t' := s4.toks) (o := .lst (pickS l' u' o xs)) (fun b ob q => Heap.get?_push_of_some _ q) (Nat.le_refl _) ?_, rfl, q _ (I5.hok.fresh (Nat.le_refl _))⟩
  exact ⟨Nat.le_trans (pickS_len _ _ _ _) hz, _, 0, rp, Heap.get?_push_size _ rfl⟩
end
section
variable {K : PySem.W.Frag}
theorem Reps.picks {G : Hp} {ds : List D} {xs : List V} (r : Reps K G ds xs) : ∀ l : List Nat, Reps K G (l.filterMap (ds[·]?)) (l.filterMap (xs[·]?))
  | [] => .nil
  | i :: l => by
    rw [List.filterMap_cons, List.filterMap_cons]
    cases e : ds[i]? with
    | none =>
      have : xs[i]? = none := by
        rw [List.getElem?_eq_none_iff] at e ⊢
        rw [r.len]; exact e
      rw [this]; exact Reps.picks r l
    | some d =>
      obtain ⟨v, ev, rv⟩ := r.get e
      rw [ev]; exact .cons rv (Reps.picks r l)
theorem Reps.pickS {G : Hp} {ds : List D} {xs : List V} {lo hi st : Option Int} (r : Reps K G ds xs) : Reps K G (Ms.pickS lo hi st ds) (Ms.pickS lo hi st xs) := by
  unfold Ms.pickS
  rw [r.len]
  exact r.picks _
def R1N (K : PySem.W.Frag) (r : V → Hp → VK → Prop) (x : D) (Ψ : OD → Prop) : Prop := ∀ G H v, Same G H → Rep K G x v → RN K G H (r v H) Ψ
theorem R1N.d {r : V → Hp → VK → Prop} {x : D} {Ψ : D → Prop} (h : R1N K r x fun o => Ψ o.d) : R1D K r x Ψ := fun G H v s a => (h G H v s a).d
theorem en_un {δ : List Sl} {ta : TE} {Φ : OD → List Sl → Prop} {r : V → Hp → VK → Prop} (h : EvD K ta δ fun x δ1 => R1N K r x fun z => Φ z δ1) : EvN K (tUn r ta) δ Φ := fun M L G0 H0 G H σ c Q q =>
  h M L G0 H0 G H σ c _ fun x δ1 v G1 H1 s1 c1 r1 h1 => h1 G1 H1 v c1.gh r1 Q fun o a G' H' g na n w hz => let f := c1.fresh na; q o δ1 a G' H' (s1.trans g.g) (c1.grow g) n f.1 w f.2.2.1 f.2.2.2 hz
theorem step_lN {lo hi st : Option Int} {ds : List D} {Ψ : OD → Prop} (k : Ψ (.lst (pickS lo hi st ds))) : R1N K (rStepL K lo hi st) (.lst ds) Ψ := fun G H v s rx => by
  obtain ⟨p, xs, rfl, hp, r1⟩ := rx.lst_inv
  exact RN.lst s r1.pickS k fun Q q => ⟨p, xs, rfl, SqL.of (s _ _ hp), q⟩
theorem step_l {lo hi st : Option Int} {ds : List D} {Ψ : D → Prop} (k : Ψ (.lst (pickS lo hi st ds))) : R1D K (rStepL K lo hi st) (.lst ds) Ψ := R1N.d (step_lN k)
end
/-! ### fields -/
def putD (f : Str) (d : D) : List (Str × D) → List (Str × D)
  | [] => [(f, d)]
  | (g, x) :: r => if g = f then (g, d) :: r else (g, x) :: putD f d r
section
variable {K : PySem.W.Frag} {G : Hp}
theorem RepF.nil_inv {vs : List (Str × V)} (h : RepF K G [] vs) : vs = [] := by simpa only [RepF] using h
theorem RepF.cons_inv {k : Str} {d : D} {ds : List (Str × D)} {vs : List (Str × V)} (h : RepF K G ((k, d) :: ds) vs) : ∃ v r, vs = (k, v) :: r ∧ Rep K G d v ∧ RepF K G ds r := by simpa only [RepF] using h
theorem RepF.nil : RepF K G [] [] := by simp only [RepF]
theorem RepF.cons {k : Str} {d : D} {v : V} {ds : List (Str × D)} {vs : List (Str × V)} (h : Rep K G d v) (h2 : RepF K G ds vs) : RepF K G ((k, d) :: ds) ((k, v) :: vs) := by simp only [RepF]; exact ⟨v, vs, rfl, h, h2⟩
theorem RepF.put {f : Str} {d : D} {v : V} (hd : Rep K G d v) : ∀ {ds : List (Str × D)} {vs : List (Str × V)}, RepF K G ds vs → RepF K G (putD f d ds) (putF f v vs)
  | [], _, h => by rw [h.nil_inv]; exact .cons hd .nil
  | (g, x) :: r, _, h => by
    obtain ⟨w, r', rfl, h1, h2⟩ := h.cons_inv
    unfold putD putF
    by_cases e : g = f
    · rw [if_pos e, if_pos e]; exact .cons hd h2
    · rw [if_neg e, if_neg e]; exact .cons h1 (RepF.put hd h2)
theorem RepF.look {f : Str} {d : D} : ∀ {ds : List (Str × D)} {vs : List (Str × V)}, RepF K G ds vs → ds.lookup f = some d → ∃ v, vs.lookup f = some v ∧ Rep K G d v
  | [], _, _, e => by cases e
  | (g, x) :: r, _, h, e => by
    obtain ⟨w, r', rfl, h1, h2⟩ := h.cons_inv
    rw [List.lookup_cons] at e ⊢
    cases q : (f == g) with
    | true => rw [q] at e; cases e; exact ⟨w, rfl, h1⟩
    | false => rw [q] at e; exact RepF.look h2 e
theorem RepF.len : ∀ {ds : List (Str × D)} {vs : List (Str × V)}, RepF K G ds vs → vs.length = ds.length
  | [], _, h => by rw [h.nil_inv]; rfl
  | (g, x) :: r, _, h => by
    obtain ⟨w, r', rfl, h1, h2⟩ := h.cons_inv
    simp [RepF.len h2]
theorem RepK.nil_inv {vs : List (Key × V)} (h : RepK K G [] vs) : vs = [] := by simpa only [RepK] using h
theorem RepK.cons_inv {k : Key} {d : D} {ds : List (Key × D)} {vs : List (Key × V)} (h : RepK K G ((k, d) :: ds) vs) : ∃ v r, vs = (k, v) :: r ∧ Rep K G d v ∧ RepK K G ds r := by simpa only [RepK] using h
theorem RepK.nil : RepK K G [] [] := by simp only [RepK]
theorem RepK.cons {k : Key} {d : D} {v : V} {ds : List (Key × D)} {vs : List (Key × V)} (h : Rep K G d v) (h2 : RepK K G ds vs) : RepK K G ((k, d) :: ds) ((k, v) :: vs) := by simp only [RepK]; exact ⟨v, vs, rfl, h, h2⟩
theorem RepK.getV : ∀ {ds : List (Key × D)} {vs : List (Key × V)} {i : Nat} {k : Key} {v : V}, RepK K G ds vs → vs[i]? = some (k, v) → ∃ d, ds[i]? = some (k, d) ∧ Rep K G d v
  | [], _, _, _, _, h, e => by rw [h.nil_inv] at e; simp at e
  | (g, x) :: r, _, 0, _, _, h, e => by
    obtain ⟨w, r', rfl, h1, h2⟩ := h.cons_inv
    simp at e; obtain ⟨rfl, rfl⟩ := e
    exact ⟨x, rfl, h1⟩
  | (g, x) :: r, _, i + 1, _, _, h, e => by
    obtain ⟨w, r', rfl, h1, h2⟩ := h.cons_inv
    obtain ⟨d, e2, h3⟩ := RepK.getV (i := i) h2 (by simpa using e)
    exact ⟨d, by simpa using e2, h3⟩
end
section
variable {K : PySem.W.Frag} {δ : List Sl} {te ta : TE} {P : Po} {Φ : D → List Sl → Prop}
/-- self.f = e -/
theorem sd_fld {i : Nat} {a C : Addr} {f : Str} (h : EvD K te δ fun d δ1 => ∃ fs, δ1[i]? = some (.mo a (.ins C fs)) ∧ Cls K C ∧ NoAttr K C f ∧ fs.length < 1000 ∧ P.nx (δ1.set i (.mo a (.ins C (putD f d fs))))) :
    SD K (sFld K (tVar i) te f) δ P := fun M L G0 H0 G H σ E c n r b ct =>
  h M L G0 H0 G H σ c _ fun d δ1 v G1 H1 s1 c1 r1 ⟨fs, hi, hc, hn, hl, k⟩ => by
    obtain ⟨x, ex, e1, na, h0, dx, xs, hx, rx⟩ := c1.ok i _ hi
    subst e1
    exact ⟨_, ex, a, C, dx, xs, rfl, hx, hc, hn, by rw [rx.len]; exact hl, n _ σ G1 _ s1 (c1.writeM (o' := .ins C (putD f d fs)) hi ⟨dx, _, upd_same, rx.put r1⟩) k⟩
theorem ev_fldM {i : Nat} {a C : Addr} {f : Str} {fs : List (Str × D)} {d : D} (hi : δ[i]? = some (.mo a (.ins C fs))) (hc : Cls K C) (hn : NoAttr K C f) (hl : fs.lookup f = some d) (k : Φ d δ) : EvD K (tFld K (tVar i) f) δ Φ := fun M L G0 H0 G H σ c Q q => by
  obtain ⟨x, ex, e1, na, h0, dx, xs, hx, rx⟩ := c.ok i _ hi
  subst e1
  obtain ⟨v, hv, rv⟩ := rx.look hl
  exact ⟨_, ex, a, C, dx, xs, v, rfl, hx, hc, hn, hv, q d δ v G H (.refl _) c rv k⟩
theorem ev_fld {f : Str} (h : EvD K ta δ fun x δ1 => ∃ C fs d, x = .ins C fs ∧ Cls K C ∧ NoAttr K C f ∧ fs.lookup f = some d ∧ Φ d δ1) : EvD K (tFld K ta f) δ Φ := fun M L G0 H0 G H σ c Q q =>
  h M L G0 H0 G H σ c _ fun x δ1 v G1 H1 s1 c1 r1 ⟨C, fs, d, e, hc, hn, hl, k⟩ => by
    subst e
    obtain ⟨a, dx, xs, rfl, hx, rx⟩ := r1.ins_inv
    obtain ⟨w, hw, rw⟩ := rx.look hl
    exact ⟨a, C, dx, xs, w, rfl, c1.gh _ _ hx, hc, hn, hw, q d δ1 w G1 H1 s1 c1 rw k⟩
end
/-! ### classes that are made -/
/-- what __init__ promises: fs the new instance's fields -/
abbrev FI := List D → (List (Str × D) → Prop) → Prop
def spI (K : PySem.W.Frag) (C : Addr) (A : FI) : Sp := fun vs H Q _ => ∃ (G : Hp) (x dx : Addr) (ws : List V) (ds : List D) (post : List (Str × D) → Prop), Same G H ∧ vs = .ref x :: ws ∧ Reps K G ds ws ∧ G x = none ∧ H x = some (.ins C dx []) ∧ A ds post ∧
  ∀ fs G' H', Grow [x] G H G' H' → G' x = none → OwnAt K G' H' x (.ins C fs) → post fs → Q .non H'
section
variable {K : PySem.W.Frag} {δ : List Sl} {t : TA} {E : XK} {C : Addr} {A : FI}
theorem en_make {Φ : OD → List Sl → Prop} (h : EvA K t δ fun ds δ1 => A ds fun fs => Φ (.ins C fs) δ1) : EvN K (tMake C (spI K C A) [] E t) δ Φ := fun M L G0 H0 G H σ c Q q =>
  h M L G0 H0 G H σ c _ fun ds δ1 vs G1 H1 s1 c1 r1 h1 => by
    intro x dx nx ndx ne
    rw [List.append_nil]
    have f := c1.fresh nx
    have g1 : Grow [] G1 H1 G1 (upd H1 dx (.own x)) := .newH c1.gh ndx
    have nx2 : upd H1 dx (.own x) x = none := by rw [upd_ne (Ne.symm ne)]; exact nx
    have g2 : Grow [] G1 (upd H1 dx (.own x)) G1 (upd (upd H1 dx (.own x)) x (.ins C dx [])) := .newH g1.gh nx2
    refine ⟨G1, x, dx, vs, ds, _, g2.gh, rfl, r1, f.2.1, upd_same, h1, fun fs G' H' g n w p => ⟨rfl, ?_⟩⟩
    have g3 : Grow [] G1 H1 G' H' := by
      refine ⟨g.g, g.gh, fun a o ha _ => ?_, fun a ha => ?_, fun a ha => ?_⟩
      · have e1 : (upd (upd H1 dx (.own x)) x (.ins C dx [])) a = some o := g2.h a o (g1.h a o ha (by simp)) (by simp)
        exact g.h a o e1 (by simp; exact ne_of_none ha nx)
      · exact g.dom a (g2.dom a (g1.dom a ha))
      · exact g.nw a (g2.dom a (g1.dom a ha))
    exact q (.ins C fs) δ1 x G' H' (s1.trans g3.g) (c1.grow g3) n f.1 w f.2.2.1 f.2.2.2 p
theorem cur_startI {N : List Str} {G H : Hp} {ds : List D} {ws : List V} {x dx : Addr} (hl : ds.length + 1 ≤ N.length) (e : Same G H) (r : Reps K G ds ws) (nx : G x = none) (hx : H x = some (.ins C dx [])) : Cur K [x] [] G H G H (start N (.ref x :: ws)) (.mo x (.ins C []) :: initS (N.drop 1) ds) where
  gr := .refl e
  len := by simp [initS, L2.start, r.len]; omega
  ok := fun i s h => by
    have hl' : ds.length ≤ (N.drop 1).length := by simp; omega
    rw [start_get (by simp [r.len]; omega)]
    cases i with
    | zero =>
      simp at h; subst h
      exact ⟨_, by simp, rfl, nx, .inl (by simp), dx, [], hx, .nil⟩
    | succ i =>
      rw [List.getElem?_cons_succ, initS_get hl'] at h
      simp only [List.length_cons, List.getElem?_cons_succ, Nat.add_lt_add_iff_right, r.len]
      by_cases hi : i < ds.length
      · rw [if_pos hi] at h ⊢
        cases q : ds[i]? with
        | none => rw [q] at h; cases h
        | some d =>
          rw [q] at h; cases h
          obtain ⟨v, hv, rv⟩ := r.get q
          rw [hv]
          exact ⟨_, rfl, v, rfl, rv⟩
      · rw [if_neg hi] at h ⊢
        split at h
        · rename_i h2
          cases h
          rw [if_pos (by simp at h2; omega)]
          exact ⟨_, rfl, trivial⟩
        · cases h
  ap := fun i j s t a ne h1 h2 o1 o2 e1 e2 => by
    have hl' : ds.length ≤ (N.drop 1).length := by simp; omega
    have z : ∀ (k : Nat) (u : Sl), (Sl.mo x (.ins C []) :: initS (N.drop 1) ds)[k]? = some u → u.own = true → k = 0 := fun k u h o => by
      cases k with
      | zero => rfl
      | succ k =>
        rw [List.getElem?_cons_succ, initS_get hl'] at h
        split at h
        · cases q : ds[k]? with
          | none => rw [q] at h; cases h
          | some d => rw [q] at h; cases h; cases o
        · split at h
          · cases h; cases o
          · cases h
    exact ne ((z i s h1 o1).trans (z j t h2 o2).symm)
  pn := fun p hp => by cases hp
theorem liftI {N : List Str} {t : TS} {G H : Hp} {ds : List D} {ws : List V} {x dx : Addr} {Q : VK} {post : List (Str × D) → Prop} (hl : ds.length + 1 ≤ N.length) (e : Same G H) (r : Reps K G ds ws) (nx : G x = none) (hx : H x = some (.ins C dx []))
    (k : ∀ fs G' H', Grow [x] G H G' H' → G' x = none → OwnAt K G' H' x (.ins C fs) → post fs → Q .non H')
    (s : SD K t (.mo x (.ins C []) :: initS (N.drop 1) ds) { nx := fun δ' => ∃ fs, δ'[0]? = some (.mo x (.ins C fs)) ∧ post fs, rt := fun _ _ => False }) : t { nx := fun _ H' => Q .non H', rt := Q } (start N (.ref x :: ws)) H :=
  s [x] [] G H G H (start N (.ref x :: ws)) _ (cur_startI hl e r nx hx) (fun δ' σ' G' H' _ c ⟨fs, hm, p⟩ => by
      obtain ⟨y, ey, e1, n2, _, w⟩ := c.ok 0 _ hm
      exact k fs G' H' c.gr n2 w p)
    (fun r δ' v σ' G' H' c ok p => p.elim) (fun _ _ _ _ _ _ p => p.elim) (fun _ _ _ _ _ _ p => p.elim)
end
/-- a class of the module, by its name -/
structure Mn (P : Program) (w : World) (K : PySem.W.Frag) (mg : Str → Option Value) (base : Heap) (k : Nat) (x : Str) (ps : List Str) (sp : Sp) : Prop where
  ex : ∃ f fd, FnOk P w K mg base CX0 k f fd ps sp ∧ Mk K (He.ga K x) f ∧ mg x = some (.ref (He.ga K x)) ∧ Binds K fd ps []
theorem pe_mkU {X : Cx} {k : Nat} {x : Str} {ps : List Str} {sp : Sp} {p pos : Pos} {e : Expr} {es : List Expr} {t : TA} (F : Mn X.prog X.w X.K X.mg X.base k x ps sp) (hr : Room (k + 1) X.A) (hg : Gl X x) (ha : PA X (e :: es) t) (hdb : (x == ("__debug__" : Str)) = false := by decide)
    (he : starEach (e :: es) X.env = (false, eval e X.env) :: starEach es X.env := by rfl) (hpl : (backTo pos (starEach es X.env)).any (·.1) = false := by rfl) : PE X (.Call (.Name x p) (e :: es) [] pos) (tMake (He.ga X.K x) sp [] E0 t) := by
  obtain ⟨f, fd, h1, h2, h3, h4⟩ := F.ex
  exact pe_make h2 h1 hr hg h3 h4 .nil pass0 ha hdb he hpl
theorem mn_mk {P : Program} {w : World} {K : PySem.W.Frag} {mg : Str → Option Value} {base : Heap} {k : Nat} {x qual : Str} {params : Arguments} {body : List Stmt} {scope : Scope} {f : Addr} {N ps : List Str} {A : FI}
    (F : ∃ fd, FunD K "__init__" qual params body scope [] [] f fd) (M : Mk K (He.ga K x) f) (gx : mg x = some (.ref (He.ga K x))) (S : FnScope N ps scope) (hlen : ∀ ds post, A ds post → ds.length + 1 = ps.length) (hpl : ps.length ≤ N.length)
    (hbind : ∀ (kV doc pm : Value) (an : Option Addr) (cdv ct : Value) (us : List Value), us.length = ps.length → bindArgs (PySem.W.fnOf "__init__" qual params body scope .none kV doc pm an cdv ct) ⟨us, []⟩ = pure (ps.zip us))
    (hb : ∀ (cdv : Value) (B : Around) (outer : List Env) (s : Shared) (H : Hp) (E : XK), Room k (B.deeper (envOfC qual scope s.heap.objs.size f cdv)) →
      ∃ t, PSs (cxOf CX0 P w K mg base N qual scope f cdv B outer s H E) body t ∧ ∀ a ds post, A ds post → SD K t (.mo a (.ins (He.ga K x) []) :: initS (N.drop 1) ds) { nx := fun δ' => ∃ fs, δ'[0]? = some (.mo a (.ins (He.ga K x) fs)) ∧ post fs, rt := fun _ _ => False }) :
    Mn P w K mg base (k + 1) x ps (spI K (He.ga K x) A) := by
  obtain ⟨fd, F⟩ := F
  refine ⟨f, fd, F.ok S (fun vs H Q E h => ?_) (fun cdv B outer s H vs Q E hr h => ?_), M, gx, F.bindsN hbind⟩
  · obtain ⟨G, a, dx, ws, ds, post, e, rfl, r, nb, hx, q, _⟩ := h
    rw [List.length_cons, r.len, hlen ds post q]
  · obtain ⟨G, a, dx, ws, ds, post, e, rfl, r, nb, hx, q, k⟩ := h
    obtain ⟨t, ht, hs⟩ := hb cdv B outer s H E hr
    exact ⟨t, ht, liftI (by rw [hlen ds post q]; exact hpl) e r nb hx k (hs a ds post q)⟩
/-! ### a quiet loop over a dict's items -/
section
variable {K : PySem.W.Frag} {M : List Addr} {L : List (Addr × HO)} {G0 H0 G H : Hp} {σ σ' : L2.St} {δ : List Sl}
theorem Cur.agree (c : Cur K M L G0 H0 G H σ δ) (vs : List Nat) (hl : σ'.length = σ.length) (hk : ∀ i : Nat, i ∉ vs → σ'[i]? = σ[i]?) : Cur K M L G0 H0 G H σ' (wipeS δ vs) where
  gr := c.gr
  len := by rw [wipeS_length, hl]; exact c.len
  ok := fun i s h => by
    rw [wipeS_get] at h
    by_cases hi : i ∈ vs
    · simp only [hi, if_true] at h
      split at h
      · rename_i hl2
        rw [c.len, ← hl] at hl2
        cases h
        exact ⟨σ'[i], by simp [hl2], trivial⟩
      · cases h
    · simp only [hi, if_false] at h
      rw [hk i hi]
      exact c.ok i s h
  ap := fun i j s t a ne h1 h2 o1 o2 e1 e2 => by
    have nv : ∀ (k : Nat) (u : Sl), (wipeS δ vs)[k]? = some u → u.own = true → k ∉ vs := fun k u h o hk => by
      rw [wipeS_get] at h
      simp only [hk, if_true] at h
      split at h
      · cases h; cases o
      · cases h
    have hi := nv i s h1 o1
    have hj := nv j t h2 o2
    rw [wipeS_get] at h1 h2
    simp only [hi, hj, if_false] at h1 h2
    rw [hk i hi] at e1
    rw [hk j hj] at e2
    exact c.ap i j s t a ne h1 h2 o1 o2 e1 e2
  pn := fun p hp => by
    obtain ⟨a, b, d, q⟩ := c.pn p hp
    refine ⟨a, b, d, fun i s h o e => ?_⟩
    rw [wipeS_get] at h
    by_cases hi : i ∈ vs
    · simp only [hi, if_true] at h
      split at h
      · cases h; cases o
      · cases h
    · simp only [hi, if_false] at h
      rw [hk i hi] at e
      exact q i s h o e
theorem rep_flat {d : D} {v : V} {G' : Hp} (h : d.isFlat = true) (r : Rep K G d v) : Rep K G' d v := by
  cases d with
  | non => rw [r.non_inv]; exact rep_non
  | bl b => rw [r.bl_inv]; exact rep_bl _
  | int i => rw [r.int_inv]; exact rep_int _
  | str x => rw [r.str_inv]; exact rep_str _
  | _ => cases h
theorem reps_flat {G' : Hp} : ∀ {ds : List D} {vs : List V}, ds.all D.isFlat = true → Reps K G ds vs → Reps K G' ds vs
  | [], _, _, r => by rw [r.nil_inv]; exact .nil
  | d :: ds, _, h, r => by
    obtain ⟨v, r', rfl, h1, h2⟩ := r.cons_inv
    simp only [List.all_cons, Bool.and_eq_true] at h
    exact .cons (rep_flat h.1 h1) (reps_flat h.2 h2)
variable {P : Po}
/-- for k, v in self.f.items(): if test(v): raise ..; the test is always false -/
theorem sd_items {i0 i1 i2 : Nat} {a C : Addr} {f : Str} {fs : List (Str × D)} {kvs : List (Key × D)} {tt : TT} (hi : δ[i0]? = some (.mo a (.ins C fs))) (hc : Cls K C) (hn : NoAttr K C f) (hl : fs.lookup f = some (.dic kvs)) (h12 : i1 ≠ i2)
    (hq : ∀ k dv, (k, dv) ∈ kvs → ∃ ds, dv = .lst ds ∧ ds.all D.isFlat = true ∧ ∀ n, i2 < n → EvT K tt ((List.replicate n Sl.no).set i2 (.sh dv)) fun b _ => b = false) (hd2 : i2 < δ.length)
    (k : P.nx (wipeS δ [i1, i2])) : SD K (tLock (tFor (iItems (tFld K (tVar i0) f)) (gTup K 2 (gCons (gName i1) (gCons (gName i2) gNil))) (tIfS tt tNever tNext))) δ P := fun M L G0 H0 G H σ E c n r b ct => by
  obtain ⟨x, ex, e1, na, h0, dx, xs, hx, rx⟩ := c.ok i0 _ hi
  subst e1
  obtain ⟨v, hv, rv⟩ := rx.look hl
  obtain ⟨d, ys, rfl, hd, rk⟩ := rv.dic_inv
  have hHd : H d = some (.dK ys) := c.gh _ _ hd
  have nad : a ≠ d := fun z => by rw [z, hd] at na; cases na
  refine ⟨d, .dK ys, hHd, trivial, fun od => ?_⟩
  refine ⟨_, ex, a, C, dx, xs, _, rfl, by rw [upd_ne nad]; exact hx, hc, hn, hv, d, od, ys, rfl, upd_same, ?_⟩
  -- the frozen part without d
  let Gl : Hp := fun y => if y = d then none else G y
  have gl_ne : ∀ y, y ≠ d → Gl y = G y := fun y hy => if_neg hy
  have gl_d : Gl d = none := if_pos rfl
  have sl : Same Gl (upd H d (.frz od (.dK ys))) := fun y o hy => by
    by_cases e : y = d
    · subst e; rw [gl_d] at hy; cases hy
    · rw [gl_ne y e] at hy; rw [upd_ne e]; exact c.gh _ _ hy
  refine ⟨fun i m σ' H' => m = ys.length - i ∧ i ≤ ys.length ∧ σ'.length = σ.length ∧ (∀ j : Nat, j ∉ [i1, i2] → σ'[j]? = σ[j]?) ∧ ∃ G', Grow [] Gl (upd H d (.frz od (.dK ys))) G' H', ⟨_, rfl, Nat.zero_le _, rfl, fun _ _ => rfl, Gl, .refl sl⟩, ?_⟩
  rintro i m σ2 H2 ⟨rfl, hle, l2, k2, G2, g2⟩
  have hd2' : H2 d = some (.frz od (.dK ys)) := g2.h d _ upd_same (by simp)
  by_cases hlt : i < ys.length
  · refine .inr ⟨⟨hd2', hlt⟩, fun σ' H' => σ'.length = σ.length ∧ (∀ j : Nat, j ∉ [i1, i2] → σ'[j]? = σ[j]?) ∧ ∃ G', Grow [] Gl (upd H d (.frz od (.dK ys))) G' H', fun σ' H' ⟨q1, q2, q3⟩ => ⟨ys.length - (i + 1), by omega, rfl, hlt, q1, q2, q3⟩, ?_⟩
    rintro x H3 ⟨T, ky, w, hw, rfl, nT, rfl⟩
    refine ⟨T, _, rfl, SqT.of upd_same, rfl, _, _, rfl, _, _, rfl, rfl, ?_⟩
    obtain ⟨dv, hdv, rdv⟩ := rk.getV hw
    obtain ⟨ds, rfl, fl, hev⟩ := hq ky dv (List.mem_of_getElem? hdv)
    have g3 : Grow [] G2 H2 G2 (upd H2 T (.tup [kV ky, w])) := .newH g2.gh nT
    have l3 : ((σ2.set i1 (some (kV ky))).set i2 (some w)).length = σ.length := by simp [l2]
    have i2l : i2 < σ.length := by rw [← c.len]; exact hd2
    have rdv2 : Rep K G2 (.lst ds) w := by
      obtain ⟨p, zs, rfl, hp, rz⟩ := rdv.lst_inv
      have hpd : p ≠ d := fun z => by rw [z, hd] at hp; cases hp
      exact rep_lst (g2.g _ _ (by rw [gl_ne p hpd]; exact hp)) (reps_flat fl rz)
    refine hev σ.length i2l [] [] G2 _ G2 _ ((σ2.set i1 (some (kV ky))).set i2 (some w)) ⟨.refl g3.gh, by simp [l2], fun j s hj => ?_, fun j j' s t q ne h1 h2 o1 o2 => ?_, fun p hp => by cases hp⟩ _ fun bb δ' G4 H4 s4 c4 eb => ?_
    · rw [List.getElem?_set] at hj
      by_cases e : i2 = j
      · subst e
        rw [if_pos rfl] at hj
        split at hj
        · cases hj
          exact ⟨some w, by rw [List.getElem?_set_self (by simp [l2]; exact i2l)], w, rfl, rdv2⟩
        · cases hj
      · rw [if_neg e, List.getElem?_replicate] at hj
        split at hj
        · rename_i hjl
          cases hj
          exact ⟨_, List.getElem?_eq_getElem (by rw [l3]; exact hjl), trivial⟩
        · cases hj
    · have z : ∀ (kk : Nat) (u : Sl), ((List.replicate σ.length Sl.no).set i2 (.sh (.lst ds)))[kk]? = some u → u.own = false := fun kk u h => by
        rw [List.getElem?_set] at h
        split at h
        · split at h
          · cases h; rfl
          · cases h
        · rw [List.getElem?_replicate] at h
          split at h
          · cases h; rfl
          · cases h
      rw [z j s h1] at o1; cases o1
    · subst eb
      refine iteF ⟨l3, fun j hj => ?_, G4, (g2.trans g3).trans c4.gr⟩
      have n1 : i1 ≠ j := fun z => hj (by simp [z])
      have n2 : i2 ≠ j := fun z => hj (by simp [z])
      rw [List.getElem?_set_ne n2, List.getElem?_set_ne n1]
      exact k2 j hj
  · have e : i = ys.length := by omega
    refine .inl ⟨⟨hd2', by omega⟩, hd2', ?_⟩
    have g2d : G2 d = none := by rw [g2.nw d (by rw [upd_same]; simp)]; exact gl_d
    have gg : Grow [] G H (upd G2 d (.dK ys)) (upd H2 d (.dK ys)) := by
      refine ⟨fun y o hy => ?_, fun y o hy => ?_, fun y o hy _ => ?_, fun y hy => ?_, fun y hy => ?_⟩
      · by_cases ey : y = d
        · subst ey; rw [upd_same]; rw [hd] at hy; exact hy
        · rw [upd_ne ey]; exact g2.g _ _ (by rw [gl_ne y ey]; exact hy)
      · by_cases ey : y = d
        · subst ey; rw [upd_same] at hy ⊢; exact hy
        · rw [upd_ne ey] at hy ⊢; exact g2.gh _ _ hy
      · by_cases ey : y = d
        · subst ey; rw [upd_same]; rw [hHd] at hy; exact hy
        · rw [upd_ne ey]; exact g2.h y o (by rw [upd_ne ey]; exact hy) (by simp)
      · by_cases ey : y = d
        · subst ey; rw [upd_same]; simp
        · rw [upd_ne ey]; exact g2.dom y (by rw [upd_ne ey]; exact hy)
      · by_cases ey : y = d
        · subst ey; rw [upd_same]; exact hd.symm
        · rw [upd_ne ey, g2.nw y (by rw [upd_ne ey]; exact hy)]; exact gl_ne y ey
    exact n _ σ2 _ _ gg.g ((c.grow gg).agree [i1, i2] l2 k2) k
end
end Ms

/-! Lay11: facts about texts, flat lists, small dict displays, nesting. -/
namespace Ms
open PySem PySem.Spec PyProof.Rows L2
open TL (tl tl_append joinL tl_join join_eq mk_tl)
abbrev sg (z : Str) : List Nat := z.cps.toList
theorem sg_len (z : Str) : (sg z).length = z.length := by simp [sg]; rfl
theorem strOk_iff (z : Str) : PyData.strOk z = true ↔ ∀ c ∈ sg z, c < 1114112 := by
  unfold PyData.strOk
  rw [← Array.all_toList, List.all_eq_true]
  simp
theorem sg_append (x y : Str) : sg (x ++ y) = sg x ++ sg y := tl_append x y
theorem joinL_nil : ∀ ps : List (List Nat), joinL [] ps = ps.flatten
  | [] => rfl
  | [p] => by simp [joinL]
  | p :: q :: r => by simp [joinL, joinL_nil (q :: r)]
theorem sg_join0 (ys : List Str) : sg (Txt.join "" ys) = (ys.map sg).flatten := by
  have e : tl (Txt.join "" ys) = joinL (tl "") (ys.map tl) := by rw [join_eq]; exact tl_join _ ys
  have e2 : tl ("" : Str) = [] := rfl
  rw [e2, joinL_nil] at e
  exact e
theorem join0_signs (cs : List Nat) : Txt.join "" (cs.map fun c => (⟨#[c]⟩ : Str)) = ⟨cs.toArray⟩ := by
  have e := sg_join0 (cs.map fun c => (⟨#[c]⟩ : Str))
  have e2 : ((cs.map fun c => (⟨#[c]⟩ : Str)).map sg).flatten = cs := by
    rw [List.map_map]
    show (cs.map fun c => [c]).flatten = cs
    clear e
    induction cs with
    | nil => rfl
    | cons c cs ih => simp [ih]
  rw [e2] at e
  rw [← mk_tl (Txt.join "" (cs.map fun c => (⟨#[c]⟩ : Str)))]
  exact congrArg (fun l : List Nat => (⟨l.toArray⟩ : Str)) e
theorem foldl_cat : ∀ (l : List (Array Nat)) (acc : Array Nat), (l.foldl (· ++ ·) acc).toList = acc.toList ++ (l.map (·.toList)).flatten
  | [], acc => by simp
  | a :: l, acc => by rw [List.foldl_cons, foldl_cat l]; simp
theorem sg_mul (x : Str) (n : Int) : sg (Txt.mul x n) = (List.replicate n.toNat (sg x)).flatten := by
  unfold Txt.mul
  by_cases h : n < 1
  · rw [if_pos h, show n.toNat = 0 by omega]; rfl
  · rw [if_neg h]
    by_cases h2 : (n == 1 || x.length == 0) = true
    · rw [if_pos h2]
      simp only [Bool.or_eq_true, beq_iff_eq] at h2
      rcases h2 with h2 | h2
      · subst h2; simp
      · have : sg x = [] := List.length_eq_zero_iff.mp (by rw [sg_len]; exact h2)
        rw [this]
        generalize n.toNat = m
        induction m with
        | zero => rfl
        | succ m ih => simpa [List.replicate_succ] using ih
    · rw [if_neg h2]
      have e := foldl_cat (List.replicate n.toNat x.cps) #[]
      rw [List.map_replicate, List.nil_append] at e
      exact e
theorem mulOk_of {z : Str} {n : Int} (h0 : 0 ≤ n) (h1 : n < 1000000) (h : z.length * n.toNat ≤ sizeLine) : MulOk z n := by
  have e63 : (2 : Int) ^ 63 = 9223372036854775808 := by decide
  have es : sizeLine = 16777216 := by decide
  refine ⟨?_, fun hn _ hc => ?_, fun _ _ => ?_⟩
  · simp only [e63, Bool.or_eq_false_iff, decide_eq_false_iff_not]
    omega
  · rw [e63] at hc
    have hz : (z.length : Int) * n ≤ 16777216 := by
      have : ((z.length * n.toNat : Nat) : Int) ≤ 16777216 := by omega
      rw [Int.natCast_mul, Int.toNat_of_nonneg h0] at this
      exact this
    have h2 : (z.length : Int) ≤ 16777216 := by
      have : (z.length : Int) * 1 ≤ z.length * n := Int.mul_le_mul_of_nonneg_left (by omega) (by omega)
      omega
    have h3 : (9223372036854775808 - 1) / n < 16777216 := by omega
    have h4 : 9223372036854775808 - 1 < 16777216 * n := Int.lt_mul_of_ediv_lt (by omega) h3 |> fun x => by omega
    omega
  · unfold Builtin.Str.tooLong
    first
    | (simp only [decide_eq_false_iff_not]; omega)
    | (simp; omega)
theorem mul_len (x : Str) (n : Int) : (Txt.mul x n).length = n.toNat * x.length := by
  rw [← sg_len, sg_mul, List.length_flatten, List.map_replicate, List.sum_replicate_nat, sg_len]
theorem mul_sok {x : Str} {n : Int} (h : PyData.strOk x = true) : PyData.strOk (Txt.mul x n) = true := by
  rw [strOk_iff] at h ⊢
  intro c hc
  rw [sg_mul] at hc
  obtain ⟨l, hl, hcl⟩ := List.mem_flatten.mp hc
  rw [(List.mem_replicate.mp hl).2] at hcl
  exact h c hcl
/-! ### flat lists that may be compared -/
def flatOk : D → Bool
  | .non => true
  | .bl _ => true
  | .int _ => true
  | .str z => PyData.strOk z
  | _ => false
theorem flat_py {d : D} (h : flatOk d = true) : d.isPy = true ∧ d.py.canLay0 = true ∧ d.py.depth = 0 := by
  cases d with
  | non => exact ⟨rfl, rfl, by simp [D.py, PyData.depth]⟩
  | bl b => exact ⟨rfl, rfl, by simp [D.py, PyData.depth]⟩
  | int i => exact ⟨rfl, rfl, by simp [D.py, PyData.depth]⟩
  | str z => exact ⟨rfl, h, by simp [D.py, PyData.depth]⟩
  | _ => cases h
theorem flats_py : ∀ {ds : List D}, ds.all flatOk = true → arePy ds = true ∧ PyData.canLayAll0 (pys ds) = true ∧ PyData.depthAll (pys ds) = 0
  | [], _ => ⟨by simp [arePy], by simp [pys, PyData.canLayAll0], by simp [pys, PyData.depthAll]⟩
  | d :: ds, h => by
    simp only [List.all_cons, Bool.and_eq_true] at h
    obtain ⟨a, b, c⟩ := flat_py h.1
    obtain ⟨a2, b2, c2⟩ := flats_py h.2
    exact ⟨by simp [arePy, a, a2], by simp [pys, PyData.canLayAll0, b, b2], by simp [pys, PyData.depthAll, c, c2]⟩
theorem okPy_flats {ds : List D} (h : ds.all flatOk = true) : okPy (.lst ds) = true := by
  obtain ⟨a, b, c⟩ := flats_py h
  unfold okPy
  simp only [D.isPy, D.py, Bool.and_eq_true]
  refine ⟨a, ?_⟩
  unfold PySem.SeqAt.shaped
  simp [PyData.canLay0, PyData.depth, b, c]
theorem eqv_nil (ds : List D) : PyData.eqv (D.lst ds).py (D.lst []).py = ds.isEmpty := by
  cases ds with
  | nil => simp [D.py, pys, PyData.eqv, PyData.eqvAll]
  | cons d ds => simp [D.py, pys, PyData.eqv, PyData.eqvAll]
/-! ### one-pair dict displays of constants -/
section
variable {K : PySem.W.Frag} {δ : List Sl}
theorem en_disp1 {k : Key} {v : V} {d : D} {Φ : OD → List Sl → Prop} (r : ∀ G, Rep K G d v) (w : Φ (.dic [(k, d)]) δ) : EvN K (tDisp [(tC (kV k), tC v)]) δ Φ := fun M L G0 H0 G H σ c Q q p hp => by
  have f := c.fresh hp
  refine ⟨upd_same, [(k, v)], rfl, by simp, ?_⟩
  have e : upd (upd H p (.dK [])) p (.dK (mergeK [] [(k, v)])) = upd H p (.dK [(k, v)]) := by
    have e2 : mergeK [] [(k, v)] = [(k, v)] := by first | rfl | simp [mergeK]
    rw [e2]
    funext y
    by_cases ey : y = p
    · subst ey; rw [upd_same, upd_same]
    · rw [upd_ne ey, upd_ne ey, upd_ne ey]
  rw [e]
  exact q (.dic [(k, d)]) δ p G _ (.refl _) (c.grow (.newH c.gh hp)) f.2.1 f.1 ⟨_, upd_same, by simp only [RepK]; exact ⟨v, [], rfl, r G, rfl⟩⟩ f.2.2.1 f.2.2.2 w
end
/-! ### nesting -/
mutual
def dep : D → Nat
  | .lst ds => deps ds + 1
  | .tup ds => deps ds + 1
  | _ => 1
def deps : List D → Nat
  | [] => 0
  | d :: ds => max (dep d) (deps ds)
end
theorem dep_get : ∀ {ds : List D} {i : Nat} {d : D}, ds[i]? = some d → dep d ≤ deps ds
  | [], _, _, e => by simp at e
  | d :: ds, 0, _, e => by simp at e; subst e; simp only [deps]; omega
  | d :: ds, i + 1, _, e => by
    have := dep_get (ds := ds) (i := i) (by simpa using e)
    simp only [deps]; omega
/-- bounded values nested at most n deep -/
def Val (K : PySem.W.Frag) (n : Nat) (d : D) : Prop := OkD K d ∧ dep d ≤ n
theorem Val.le {K : PySem.W.Frag} {n m : Nat} {d : D} (h : Val K n d) (e : n ≤ m) : Val K m d := ⟨h.1, Nat.le_trans h.2 e⟩
def Vals' (K : PySem.W.Frag) (n : Nat) (ds : List D) : Prop := ∀ d ∈ ds, Val K n d
theorem okDs_of {K : PySem.W.Frag} : ∀ {ds : List D}, (∀ d ∈ ds, OkD K d) → OkDs K ds
  | [], _ => by simp only [OkDs]
  | d :: ds, h => by
    simp only [OkDs]
    exact ⟨h d List.mem_cons_self, okDs_of fun x hx => h x (List.mem_cons_of_mem _ hx)⟩
theorem deps_of {n : Nat} : ∀ {ds : List D}, (∀ d ∈ ds, dep d ≤ n) → deps ds ≤ n
  | [], _ => by simp [deps]
  | d :: ds, h => by
    simp only [deps]
    have h1 := h d List.mem_cons_self
    have h2 := deps_of (n := n) (ds := ds) fun x hx => h x (List.mem_cons_of_mem _ hx)
    omega
theorem val_lst {K : PySem.W.Frag} {n : Nat} {ds : List D} (hl : ds.length < big) (h : Vals' K n ds) : Val K (n + 1) (.lst ds) :=
  ⟨by simp only [OkD]; exact ⟨hl, okDs_of fun d hd => (h d hd).1⟩, by simp only [dep]; have := deps_of fun d hd => (h d hd).2; omega⟩
theorem val_tup {K : PySem.W.Frag} {n : Nat} {ds : List D} (hl : ds.length < big) (h : Vals' K n ds) : Val K (n + 1) (.tup ds) :=
  ⟨by simp only [OkD]; exact ⟨hl, okDs_of fun d hd => (h d hd).1⟩, by simp only [dep]; have := deps_of fun d hd => (h d hd).2; omega⟩
theorem val_str {K : PySem.W.Frag} {z : Str} (hl : z.length < big) (h : PyData.strOk z = true) : Val K 1 (.str z) := ⟨by simp only [OkD]; exact ⟨hl, h⟩, by simp [dep]⟩
theorem val_non {K : PySem.W.Frag} : Val K 1 .non := ⟨by simp only [OkD], by simp [dep]⟩
theorem val_bl {K : PySem.W.Frag} {b : Bool} : Val K 1 (.bl b) := ⟨by simp only [OkD], by simp [dep]⟩
theorem val_int {K : PySem.W.Frag} {i : Int} : Val K 1 (.int i) := ⟨by simp only [OkD], by simp [dep]⟩
theorem val_dic {K : PySem.W.Frag} {kvs : List (Key × D)} : Val K 1 (.dic kvs) := ⟨by simp only [OkD], by simp [dep]⟩
theorem val_ins {K : PySem.W.Frag} {C : Addr} {fs : List (Str × D)} (h : InsK K C) : Val K 1 (.ins C fs) := ⟨by simp only [OkD]; exact h, by simp [dep]⟩
theorem vals_nil {K : PySem.W.Frag} {n : Nat} : Vals' K n [] := fun d hd => by cases hd
theorem vals_cons {K : PySem.W.Frag} {n : Nat} {d : D} {ds : List D} (h : Val K n d) (h2 : Vals' K n ds) : Vals' K n (d :: ds) := fun x hx => by
  rcases List.mem_cons.mp hx with rfl | hx
  · exact h
  · exact h2 x hx
theorem vals_append {K : PySem.W.Frag} {n : Nat} {ds es : List D} (h : Vals' K n ds) (h2 : Vals' K n es) : Vals' K n (ds ++ es) := fun x hx => by
  rcases List.mem_append.mp hx with hx | hx
  · exact h x hx
  · exact h2 x hx
theorem vals_set {K : PySem.W.Frag} {n : Nat} {d : D} {ds : List D} {i : Nat} (h : Val K n d) (h2 : Vals' K n ds) : Vals' K n (ds.set i d) := fun x hx => by
  rcases List.mem_or_eq_of_mem_set hx with hx | rfl
  · exact h2 x hx
  · exact h
theorem vals_take {K : PySem.W.Frag} {n i : Nat} {ds : List D} (h2 : Vals' K n ds) : Vals' K n (ds.take i) := fun x hx => h2 x (List.mem_of_mem_take hx)
theorem vals_drop {K : PySem.W.Frag} {n i : Nat} {ds : List D} (h2 : Vals' K n ds) : Vals' K n (ds.drop i) := fun x hx => h2 x (List.mem_of_mem_drop hx)
theorem vals_cut {K : PySem.W.Frag} {n : Nat} {lo hi : Option Int} {ds : List D} (h2 : Vals' K n ds) : Vals' K n (cutL ds lo hi) := vals_take (vals_drop h2)
theorem cutL_len {α : Type} (ds : List α) (lo hi : Option Int) : (cutL ds lo hi).length ≤ ds.length := by
  unfold cutL
  rw [List.length_take, List.length_drop]; omega
/-- an index in range -/
theorem atI_at {α : Type} {xs : List α} {i : Int} (h0 : 0 ≤ i) (h : i < xs.length) : ∃ (x : α), atI xs i = some x ∧ x ∈ xs ∧ xs[i.toNat]? = some x := by
  have hi : i.toNat < xs.length := by omega
  refine ⟨xs[i.toNat], ?_, List.getElem_mem hi, by simp [hi]⟩
  unfold atI ixN
  rw [if_pos h0, if_pos h]
  simp [hi]
theorem ixN_at {n : Nat} {i : Int} (h0 : 0 ≤ i) (h : i < n) : ixN n i = some i.toNat := by
  unfold ixN
  rw [if_pos h0, if_pos h]
end Ms

/-! Lay12: promises of the functions that law k01 reaches. -/
namespace Ms
open PySem PySem.Spec PyProof.Rows L2
def A_require_piece (K : PySem.W.Frag) : FS := fun ds post => ∃ d, ds = [d] ∧ OkD K d ∧ isPiece d = true ∧ post (.val .non)
def A_require_marker (K : PySem.W.Frag) : FS := fun ds post => ∃ d, ds = [d] ∧ OkD K d ∧ isMarker d = true ∧ post (.val .non)
def A_require_items (K : PySem.W.Frag) : FS := fun ds post => ∃ d xs, ds = [d] ∧ (d = .lst xs ∨ d = .tup xs) ∧ OkD K d ∧ itemsFrom 0 xs = true ∧ post (.val .non)
def A_require_row (K : PySem.W.Frag) : FS := fun ds post => ∃ d, ds = [d] ∧ OkD K d ∧ isRow d = true ∧ post (.val .non)
/-- a row without markers -/
def A_marker_numbers0 : FS := fun ds post => ∃ d, ds = [.lst [d]] ∧ post (.new (.dic []))
def A_Strip0 (K : PySem.W.Frag) : FI := fun ds post => ∃ d, ds = [.lst [d]] ∧ OkD K d ∧ isPiece d = true ∧ Cls K (He.ga K "Strip") ∧ NoAttr K (He.ga K "Strip") "kept_row" ∧ NoAttr K (He.ga K "Strip") "kept_places" ∧ post [("kept_row", .lst [d]), ("kept_places", .dic [])]
def A_law_text : FX := fun n ds post => ds = [] ∧ n + 8 ≤ lim ∧ ∀ z : Str, z.length ≤ 5 → PyData.strOk z = true → post (.val (.str z)) (n + 8)
def A_law_odd (K : PySem.W.Frag) : FX := fun n ds post => ds = [] ∧ n + 1 ≤ lim ∧ InsK K (He.ga K "Strip") ∧ NoAttr K (He.ga K "Strip") "kept_row" ∧ NoAttr K (He.ga K "Strip") "kept_places" ∧ ∀ d, Val K 2 d → post (.val d) (n + 1)
def A_law_row (K : PySem.W.Frag) : FX := fun n ds post => ds = [] ∧ n + 1000 ≤ lim ∧ InsK K (He.ga K "Strip") ∧ NoAttr K (He.ga K "Strip") "kept_row" ∧ NoAttr K (He.ga K "Strip") "kept_places" ∧ ∀ d, Val K 3 d → post (.val d) (n + 1000)
def textOf (s : Str) : D → Bool
  | .str z => (sg z).all fun c => decide (c ∈ sg s)
  | _ => false
def A_law_is_text (K : PySem.W.Frag) : FS := fun ds post => ∃ d s, ds = [d, .str s] ∧ OkD K d ∧ post (.val (.bl (textOf s d)))
def A_law_kinds (K : PySem.W.Frag) (n : Nat) : FS := fun ds post => ∃ d, ds = [d] ∧ Val K n d ∧ post (.new (.lst [.bl (isName d), .bl (isPiece d), .bl (isMarker d), .bl (isRow d)]))
end Ms

/-! Lay13: the law's own def; what the head tells of a class. -/
namespace Ms
open PySem PySem.Spec PyProof.Rows L2
theorem gnG_mk {P : Program} {w : World} {K : PySem.W.Frag} {mg : Str → Option Value} {base : Heap} {k : Nat} {x : Str} {params : Arguments} {body : List Stmt} {scope : Scope} {f : Addr} {fd : FuncData} {N ps : List Str} {A : FS}
    (F : FunD K x x params body scope [] [] f fd) (S : FnScope N ps scope) (hlen : ∀ ds post, A ds post → ds.length = ps.length) (hpl : ps.length ≤ N.length)
    (hb : ∀ (cdv : Value) (B : Around) (outer : List Env) (s : Shared) (H : Hp) (E : XK), (B.deeper (envOfC x scope s.heap.objs.size f cdv)).guards = some [] → Room k (B.deeper (envOfC x scope s.heap.objs.size f cdv)) →
      ∃ t, PSs (cxOf CX0 P w K mg base N x scope f cdv B outer s H E) body t ∧ ∀ ds post, A ds post → SD K t (initS N ds) { nx := fun _ => post (.val .non), rt := fun r _ => post r }) : FnG P w K mg base (k + 1) f fd ps (spG K A) := by
  refine fnG_of F S (fun vs H Q E h => ?_) (fun cdv B outer s H vs Q E hgd hr h => ?_)
  · obtain ⟨G, ds, post, e, r, a, _⟩ := h
    rw [r.len, hlen ds post a]
  · obtain ⟨G, ds, post, e, r, a, k⟩ := h
    obtain ⟨t, ht, hs⟩ := hb cdv B outer s H E hgd hr
    exact ⟨t, ht, liftG (by rw [hlen ds post a]; exact hpl) e r k (hs ds post a)⟩
theorem law_binds {K : PySem.W.Frag} {x y : Str} {params : Arguments} {body : List Stmt} {scope : Scope} {f : Addr} {fd : FuncData} (F : FunD K x x params body scope [] [] f fd)
    (hbind : ∀ (kV doc pm : Value) (an : Option Addr) (cdv ct : Value) (u : Value), bindArgs (PySem.W.fnOf x x params body scope .none kV doc pm an cdv ct) ⟨[u], []⟩ = pure [(y, u)]) (s : Shared) (u : Value) : BindsTo s fd ⟨[u], []⟩ [(y, u)] := by
  obtain ⟨oc, od, dV, kV, doc, pm, an, cdv, ct, osl, rfl, lk, hcd, hD, hK⟩ := F.ex
  rcases hD with ⟨_, rfl⟩ | ⟨e, _⟩
  · exact .of_eq (hbind _ _ _ _ _ _ u)
  · exact absurd rfl e
/-- the law's script at the start -/
theorem law_start {K : PySem.W.Frag} {A : FS} {H : Hp} {a : Addr} {ns : List Int} {E : XK} (hS : SqL K H a (ns.map V.int)) (h : A [.scr ns] fun r => r = .val (.bl true)) : spG K A [.ref a] H (fun v _ => v = .bl true) E :=
  ⟨H, [.scr ns], _, .refl _, .one (rep_scr hS), h, fun r v G' H' g ok e => by subst e; exact Rep.bl_inv (show Rep K G' (.bl true) v from ok)⟩
/-- what the head tells of an own class -/
def insB (x : Str) (K : PySem.W.Frag) : Bool :=
  He.eqO (PySem.W.findIn K (.ref (He.ga K x)) "__class__") (some (some (.builtin "object.__class__"))) && (He.eqO (PySem.W.specialIn K (.builtin "object.__class__") "__get__") (some (some (.builtin "getset_descriptor.__get__"))) &&
  (decide (PySem.W.takesIn K (.builtin "object.__class__") = some true) && (decide (PySem.W.mroIn K (He.ga K x) (.type "object") = some true) && (decide (PySem.W.kitOne K (.ref (He.ga K x)) (.type "int") = some false) &&
  (decide (PySem.W.kitOne K (.ref (He.ga K x)) (.type "bool") = some false) && (decide (PySem.W.kitOne K (.ref (He.ga K x)) (.type "str") = some false) && (decide (PySem.W.kitOne K (.ref (He.ga K x)) (.type "list") = some false) &&
  (decide (PySem.W.kitOne K (.ref (He.ga K x)) (.type "tuple") = some false) && decide (PySem.W.kitOne K (.ref (He.ga K x)) (.type "dict") = some false)))))))))
theorem insB_ok {x : Str} {K : PySem.W.Frag} (hc : Cls K (He.ga K x)) (h : insB x K = true) : InsK K (He.ga K x) := by
  unfold insB at h
  simp only [Bool.and_eq_true, decide_eq_true_eq] at h
  obtain ⟨h1, h2, h3, h4, h5, h6, h7, h8, h9, h10⟩ := h
  exact ⟨⟨hc, He.eqO_ok h1, He.eqO_ok h2, h3, h4⟩, h5, h6, h7, h8, h9, h10⟩
theorem huges {ns : List Int} (h : ∀ z ∈ ns, Builtin.Int.intBits z ≤ 1048576) : ∀ z ∈ ns, Huge z := fun z hz => huge_of_bits (h z hz)
end Ms

/-! Lay14: slices with a step of lists, tuples, texts; a thing frozen as it is read; further methods of lists and texts. -/
namespace Ms
open PySem PySem.Spec PyProof.Rows L2
/-! ### slices with a step, any kind -/
theorem adjust_bounds (lo hi : Option Int) (c : Int) (hc0 : c ≠ 0) (n : Nat) : Builtin.Slice.sliceAdjust lo hi c (n : Int) = ((sliceBounds lo hi (some c) n).1, (sliceBounds lo hi (some c) n).2.1) := by
  unfold Builtin.Slice.sliceAdjust sliceBounds
  simp only [Option.getD_some]
  by_cases hc : c > 0
  · have h1 : ¬ c < 0 := by omega
    simp only [hc, h1, if_true, if_false]
    refine Prod.ext ?_ ?_
    · cases lo with
      | none => rfl
      | some v => dsimp only; split <;> omega
    · cases hi with
      | none => rfl
      | some v => dsimp only; split <;> omega
  · have h1 : c < 0 := by omega
    simp only [hc, h1, if_true, if_false]
    refine Prod.ext ?_ ?_
    · cases lo with
      | none => rfl
      | some v => dsimp only; split <;> omega
    · cases hi with
      | none => rfl
      | some v => dsimp only; split <;> omega
theorem places_range (a b c : Int) (hc0 : c ≠ 0) : sliceRange a b c = (List.range (Builtin.Slice.slicePlaces a b c)).map fun (k : Nat) => (a + (k : Int) * c).toNat := by
  unfold sliceRange Builtin.Slice.slicePlaces
  have e1 : (fun (k : Nat) => (a + c * (k : Int)).toNat) = fun (k : Nat) => (a + (k : Int) * c).toNat := by
    funext k; rw [Int.mul_comm]
  simp only [e1]
  congr 2
  by_cases hc : c > 0
  · simp only [hc, if_true]
    by_cases h : a < b
    · simp only [h, if_true]
      have : b - a + c - 1 = (b - a - 1) + 1 * c := by omega
      rw [this, Int.add_mul_ediv_right _ _ hc0]
    · simp only [h, if_false]
  · simp only [hc, if_false]
    by_cases h : a > b
    · simp only [h, if_true]
      have : a - b - c - 1 = (a - b - 1) + 1 * (-c) := by omega
      rw [this, Int.add_mul_ediv_right _ _ (by omega)]
    · simp only [h, if_false]
theorem sliceApplied_step {prog : Program} {w : World} {A : Around} {E : Value → Shared → Prop} {s : Shared} {sl : Addr} {vl vu vs : Value} {lo hi : Option Int} {c : Int} {n : Nat} {Q : Int × Int × Nat → Shared → Prop} (hs : s.heap.IsSliceOf sl vl vu vs) (pl : IsPart vl lo) (pu : IsPart vu hi) (ps : IsPart vs (some c)) (hc : c ≠ 0)
    (h : Q ((sliceBounds lo hi (some c) n).1, c, Builtin.Slice.slicePlaces (sliceBounds lo hi (some c) n).1 (sliceBounds lo hi (some c) n).2.1 c) s) : wpAny (model prog w) A (Builtin.Slice.sliceApplied (.ref sl) (pure (n : Int))) Q E s := by
  obtain ⟨os, hos, hcs, hds⟩ := id hs
  unfold Builtin.Slice.sliceApplied Builtin.Slice.sliceFields
  refine wpAny_bind (wpAny_bind (wpAny_field hos hds (x := vl) rfl (wpAny_bind (wpAny_field hos hds (x := vu) rfl (wpAny_bind (wpAny_field hos hds (x := vs) rfl (wpAny_pure ?_)))))))
  refine wpAny_bind (HT.slicePart_ ps ?_)
  show wpAny _ _ (if (c == 0) = true then _ else _) _ _ s
  rw [if_neg (by simpa using hc)]
  refine wpAny_bind (HT.slicePart_ pl (wpAny_bind (HT.slicePart_ pu (wpAny_bind (wpAny_pure ?_)))))
  show wpAny _ _ (match Builtin.Slice.sliceAdjust lo hi c (n : Int) with | (lo, hi) => pure (lo, c, Builtin.Slice.slicePlaces lo hi c)) _ _ s
  rw [adjust_bounds lo hi c hc n]
  exact wpAny_pure h
theorem getItem_tuple_step {prog : Program} {w : World} {A : Around} {E : Value → Shared → Prop} {s : Shared} {t sl : Addr} {items : Array Value} {vl vu vs : Value} {lo hi : Option Int} {c : Int} {Q : Value → Shared → Prop} (ht : IsTup s.heap t items) (hs : s.heap.IsSliceOf sl vl vu vs) (pl : IsPart vl lo) (pu : IsPart vu hi) (ps : IsPart vs (some c)) (hc : c ≠ 0) (hc1 : c ≠ 1)
    (h : Q (.ref s.heap.objs.size) { s with heap := s.heap.push { cls := .type "tuple", data := .seq (pickS lo hi (some c) items.toList).toArray } })
    (hsz : items.size ≤ sizeLine) : wpAny (model prog w) A (getItem (.ref t) (.ref sl)) Q E s := by
  have htake : sizeOk (.seq (pickS lo hi (some c) items.toList).toArray) := by
    show (pickS lo hi (some c) items.toList).toArray.size ≤ sizeLine
    rw [List.size_toArray]
    exact Nat.le_trans (pickS_len _ _ _ _) (by rw [Array.length_toList]; exact hsz)
  obtain ⟨os, hos, hcs, hds⟩ := id hs
  have hTs : s.TypeIs (.ref sl) "slice" := ⟨os, hos, hcs⟩
  unfold getItem
  try with_reducible refine wpAny_holding ?_
  first | refine wpAny_bind (wpAny_pure ?_) | skip
  refine wpAny_bind (wpAny_sequenceKey ht.typeIs (by decide) ?_)
  refine wpAny_bind (wpAny_callSpecial?_slot (name := Str.ofString "__getitem__") ht.typeIs PyProof.Rows.slot_tuple_getitem
    (wpAny_call_entry PyProof.Rows.slot_tuple_getitem ht.typeIs entry_tuple_getitem ?_ (args_tuple_getitem _ _)))
  show wpAny _ _ (Builtin.Tuple.tupleItemsOf (.ref t) >>= _) _ _ s
  refine wpAny_bind (tupleItemsOf_ ht ?_)
  refine wpAny_bind (wpAny_typeOf hTs ?_)
  rw [if_pos (by decide)]
  refine wpAny_bind (sliceApplied_step hs pl pu ps hc ?_)
  have hno : ¬ (((sliceBounds lo hi (some c) items.size).1 == 0 && c == 1 && (Builtin.Slice.slicePlaces (sliceBounds lo hi (some c) items.size).1 (sliceBounds lo hi (some c) items.size).2.1 c) == items.size) = true) := by
    intro q
    rw [Bool.and_eq_true, Bool.and_eq_true] at q
    exact hc1 (eq_of_beq q.1.2)
  show wpAny _ _ (if ((sliceBounds lo hi (some c) items.size).1 == 0 && c == 1 && (Builtin.Slice.slicePlaces (sliceBounds lo hi (some c) items.size).1 (sliceBounds lo hi (some c) items.size).2.1 c) == items.size) = true then _ else _) _ _ s
  rw [if_neg hno]
  have ep : ((List.range (Builtin.Slice.slicePlaces (sliceBounds lo hi (some c) items.size).1 (sliceBounds lo hi (some c) items.size).2.1 c)).filterMap fun (k : Nat) => items[((sliceBounds lo hi (some c) items.size).1 + (k : Int) * c).toNat]?) = pickS lo hi (some c) items.toList := by
    unfold pickS
    rw [Array.length_toList]
    have : (sliceBounds lo hi (some c) items.size).2.2 = c := rfl
    rw [this, places_range _ _ _ hc, List.filterMap_map]
    simp only [Array.getElem?_toList, Function.comp_def]
  rw [ep]
  first
    | exact wpAny_bind (m := Builtin.Tuple.tupleExact _) (wpAny_newObj_type (wpAny_pure ⟨_, rfl, wpAny_pure h⟩) htake)
    | exact wpAny_bind (m := Builtin.Tuple.tupleExact _) (wpAny_newObj_type (wpAny_bind (wpAny_pure (wpAny_pure ⟨_, rfl, wpAny_pure h⟩))) htake)
    | exact wpAny_bind (wpAny_bind (m := Builtin.Tuple.tupleExact _) (wpAny_newObj_type (wpAny_pure (wpAny_pure ⟨_, rfl, wpAny_pure h⟩)) htake))
    | exact wpAny_bind (wpAny_bind (m := Builtin.Tuple.tupleExact _) (wpAny_newObj_type (wpAny_pure ⟨_, rfl, wpAny_pure h⟩) htake))
def pickZ (lo hi : Option Int) (c : Int) (z : Str) : Str := ⟨(pickS lo hi (some c) z.cps.toList).toArray⟩
def rStepT (K : PySem.W.Frag) (lo hi : Option Int) (c : Int) : V → Hp → VK → Prop := fun x H Q => ∃ a xs, x = .ref a ∧ SqT K H a xs ∧ ∀ p, H p = none → Q (.ref p) (upd H p (.tup (pickS lo hi (some c) xs)))
def rStepS (lo hi : Option Int) (c : Int) : V → Hp → VK → Prop := fun x H Q => ∃ z, x = .str z ∧ z.length ≤ sizeLine ∧ Q (.str (pickZ lo hi c z)) H
def rStepU (K : PySem.W.Frag) (lo hi : Option Int) (c : Int) : V → Hp → VK → Prop := fun x H Q => rStepL K lo hi (some c) x H Q ∨ rStepT K lo hi c x H Q ∨ rStepS lo hi c x H Q
section
variable {X : Cx} {e : Expr} {te : TE} {lo hi st : Option Expr} {l u : Option Int} {c : Int} {tl th tt : TO} {p3 pos : Pos}
theorem pe_stepU (he : PE X e te) (hl : PO X lo tl) (hh : PO X hi th) (ht : PO X st tt) (cl : ∀ σ H Q, Q l H → tl σ H Q) (ch : ∀ σ H Q, Q u H → th σ H Q) (ct : ∀ σ H Q, Q (some c) H → tt σ H Q) (h0 : c ≠ 0) (h1 : c ≠ 1)
    (hsub : ∀ (a : Value) (b : Addr), subscripted (.Slice lo hi st p3) false a (.ref b) = operate [a, .ref b] (getItem a (.ref b)) := by intros; with_unfolding_all rfl) :
    PE X (.Subscript e (.Slice lo hi st p3) pos) (tUn (rStepU X.K l u c) te) := by
  refine ⟨fun pins s σ H Q I h => ?_⟩
  refine Subscript_ (thn (he.run pins s σ H _ I h) fun v s1 ⟨x, H1, I1, r1, q1⟩ => ?_)
  refine wpAny_Slice (thn (hl.run pins s1 σ H1 (fun o H2 => o = l ∧ H2 = H1) I1 (cl _ _ _ ⟨rfl, rfl⟩)) fun vl s2 ⟨l', H2, I2, pl, el, e2⟩ => ?_)
  subst el e2
  refine thn (hh.run pins s2 σ H2 (fun o H3 => o = u ∧ H3 = H2) I2 (ch _ _ _ ⟨rfl, rfl⟩)) fun vu s3 ⟨u', H3, I3, pu, eu, e3⟩ => ?_
  subst eu e3
  refine thn (ht.run pins s3 σ H3 (fun o H4 => o = some c ∧ H4 = H3) I3 (ct _ _ _ ⟨rfl, rfl⟩)) fun vs s4 ⟨o, H4, I4, ps, eo, e4⟩ => ?_
  subst eo e4
  have I5 : Inv X pins σ H4 { s4 with heap := s4.heap.push { cls := .type "slice", data := .fields #[vl, vu, vs] } } := I4.kept (t' := s4.toks) fun b ob q => Heap.get?_push_of_some _ q
  show wpAny (model X.prog X.w) X.A (subscriptTail e (.Slice lo hi st p3) v (.ref s4.heap.objs.size)) (EP X pins σ Q) X.xe { s4 with heap := s4.heap.push { cls := .type "slice", data := .fields #[vl, vu, vs] } }
  rcases q1 with q1 | q1 | q1
  · obtain ⟨a, xs, ex, hx, q⟩ := q1
    subst ex
    cases r1
    obtain ⟨its, r, ht, hz⟩ := I5.list hx
    have hlen := r.length
    refine tail_any (ops := [.ref a, .ref s4.heap.objs.size]) ht.isList.typeIs (PySem.slot_list_getitem.lookup) ?_ (hsub _ _)
    refine wpAny_getItem_list_slice ht.isList (Heap.IsSliceOf.new _ vl vu vs) pl pu ps (by simpa using h0) ?_ (by rw [List.size_toArray]; omega)
    rw [slicePick_eq]
    have rp : Vals (pickS l' u' (some c) xs) (pickS l' u' (some c) its) := by
      unfold pickS
      rw [hlen]
      exact vals_picks r _
    refine ⟨.ref _, _, I5.laid (t' := s4.toks) (o := .lst (pickS l' u' (some c) xs)) (fun b ob q => Heap.get?_push_of_some _ q) (Nat.le_refl _) ?_, rfl, q _ (I5.hok.fresh (Nat.le_refl _))⟩
    exact ⟨Nat.le_trans (pickS_len _ _ _ _) hz, _, 0, rp, Heap.get?_push_size _ rfl⟩
  · obtain ⟨a, xs, ex, hx, q⟩ := q1
    subst ex
    cases r1
    obtain ⟨its, r, ht, hz⟩ := I5.tuple hx
    have hlen := r.length
    refine tail_any (ops := [.ref a, .ref s4.heap.objs.size]) ht.typeIs (PyProof.Rows.slot_tuple_getitem.lookup) ?_ (hsub _ _)
    refine getItem_tuple_step ht (Heap.IsSliceOf.new _ vl vu vs) pl pu ps h0 h1 ?_ (by rw [List.size_toArray]; omega)
    have rp : Vals (pickS l' u' (some c) xs) (pickS l' u' (some c) its) := by
      unfold pickS
      rw [hlen]
      exact vals_picks r _
    refine ⟨.ref _, _, I5.laid (t' := s4.toks) (o := .tup (pickS l' u' (some c) xs)) (fun b ob q => Heap.get?_push_of_some _ q) (Nat.le_refl _) ?_, rfl, q _ (I5.hok.fresh (Nat.le_refl _))⟩
    exact ⟨Nat.le_trans (pickS_len _ _ _ _) hz, _, rp, IsTup.new _ _⟩
  · obtain ⟨z, rfl, hz, q⟩ := q1
    obtain ⟨t, rfl⟩ := r1
    obtain ⟨l2, rfl, rfl⟩ := IsPart.raw pl
    obtain ⟨u2, rfl, rfl⟩ := IsPart.raw pu
    obtain ⟨c2, ev, ec⟩ := IsPart.raw ps
    refine tail_any (ops := [.str z t, .ref s4.heap.objs.size]) (typeIs_str _ _ _) (F.slot_str_getitem.lookup) ?_ (hsub _ _)
    cases c2 with
    | none => cases ec
    | some c2 =>
    obtain ⟨c2, tc⟩ := c2
    have ec2 : c = c2 := by simpa using ec.symm
    subst ec2
    subst ev
    refine wpAny_getItem_str_slice (l := l2) (u := u2) (st := some (_, tc)) ⟨_, Heap.get?_push_size _ rfl, rfl, rfl⟩ (by simpa using h0) ?_
    have hl : (pickZ (l2.map (·.1)) (u2.map (·.1)) c z).length ≤ sizeLine := by
      refine Nat.le_trans ?_ hz
      show (pickS _ _ _ z.cps.toList).toArray.size ≤ z.cps.size
      rw [List.size_toArray]
      exact Nat.le_trans (pickS_len _ _ _ _) (by rw [Array.length_toList]; exact Nat.le_refl _)
    have hno : ¬ (((((some (c, tc) : Option (Int × Tok)).map (·.1)).getD 1) == 1 && (slicePicked z l2 u2 (some (c, tc))).length == z.length) = true) := by
      intro q
      rw [Bool.and_eq_true] at q
      exact h1 (eq_of_beq q.1)
    unfold sliceMade
    rw [if_neg hno]
    have ez : (⟨((slicePicked z l2 u2 (some (c, tc))).filterMap (z.cps[·]?)).toArray⟩ : Str) = pickZ (l2.map (·.1)) (u2.map (·.1)) c z := by
      unfold pickZ pickS slicePicked
      simp only [Array.getElem?_toList, Array.length_toList]
      rfl
    rw [ez]
    exact ⟨hl, .str _, _, I5.tok _, ⟨_, rfl⟩, q⟩
end
section
variable {K : PySem.W.Frag} {Ψ : D → Prop} {lo hi : Option Int} {c : Int}
theorem stepU_lN {ds : List D} {Ψ : OD → Prop} (k : Ψ (.lst (pickS lo hi (some c) ds))) : R1N K (rStepU K lo hi c) (.lst ds) Ψ := fun G H v s rx => by
  obtain ⟨p, xs, rfl, hp, r1⟩ := rx.lst_inv
  exact RN.lst s r1.pickS k fun Q q => .inl ⟨p, xs, rfl, SqL.of (s _ _ hp), q⟩
theorem stepU_l {ds : List D} (k : Ψ (.lst (pickS lo hi (some c) ds))) : R1D K (rStepU K lo hi c) (.lst ds) Ψ := R1N.d (stepU_lN k)
theorem stepU_t {ds : List D} (k : Ψ (.tup (pickS lo hi (some c) ds))) : R1D K (rStepU K lo hi c) (.tup ds) Ψ := fun G H v s rx => by
  obtain ⟨p, xs, rfl, hp, r1⟩ := rx.tup_inv
  exact RD.tup s r1.pickS k fun Q q => .inr (.inl ⟨p, xs, rfl, sqT_mono s hp, q⟩)
theorem stepU_s {z : Str} (h : z.length ≤ sizeLine) (k : Ψ (.str (pickZ lo hi c z))) : R1D K (rStepU K lo hi c) (.str z) Ψ := fun G H v s rx =>
  RD.val s (rep_str _) k fun Q q => .inr (.inr ⟨z, rx.str_inv, h, q⟩)
end
/-! ### what the usual steps pick -/
def odds {α : Type} : List α → List α
  | [] => []
  | [_] => []
  | _ :: y :: r => y :: odds r
def evens {α : Type} : List α → List α
  | [] => []
  | [x] => [x]
  | x :: _ :: r => x :: evens r
theorem fmap_congr {α β : Type} {f g : α → Option β} : ∀ {l : List α}, (∀ a ∈ l, f a = g a) → l.filterMap f = l.filterMap g
  | [], _ => rfl
  | a :: l, h => by rw [List.filterMap_cons, List.filterMap_cons, h a List.mem_cons_self, fmap_congr fun b hb => h b (List.mem_cons_of_mem _ hb)]
theorem filterMap_range_shift {α : Type} (f : Nat → Option α) (n : Nat) : (List.range (n + 1)).filterMap f = (f 0).toList ++ (List.range n).filterMap fun k => f (k + 1) := by
  rw [List.range_succ_eq_map, List.filterMap_cons, List.filterMap_map]
  cases f 0 <;> rfl
theorem odds_range {α : Type} : ∀ (xs : List α), (List.range (xs.length / 2)).filterMap (fun k => xs[1 + 2 * k]?) = odds xs
  | [] => by simp [odds, evens]
  | [_] => by simp [odds, evens, List.range_succ]
  | x :: y :: r => by
    have e : (x :: y :: r).length / 2 = r.length / 2 + 1 := by simp only [List.length_cons]; omega
    rw [e, filterMap_range_shift]
    have e2 : (fun k : Nat => (x :: y :: r)[1 + 2 * (k + 1)]?) = fun k => r[1 + 2 * k]? := by
      funext k
      rw [show 1 + 2 * (k + 1) = (1 + 2 * k) + 1 + 1 by omega]
      rfl
    rw [e2, odds_range r]
    rfl
theorem evens_range {α : Type} : ∀ (xs : List α), (List.range ((xs.length + 1) / 2)).filterMap (fun k => xs[2 * k]?) = evens xs
  | [] => by simp [odds, evens]
  | [_] => by simp [odds, evens, List.range_succ]
  | x :: y :: r => by
    have e : ((x :: y :: r).length + 1) / 2 = (r.length + 1) / 2 + 1 := by simp only [List.length_cons]; omega
    rw [e, filterMap_range_shift]
    have e2 : (fun k : Nat => (x :: y :: r)[2 * (k + 1)]?) = fun k => r[2 * k]? := by
      funext k
      rw [show 2 * (k + 1) = (2 * k) + 1 + 1 by omega]
      rfl
    rw [e2, evens_range r]
    rfl
theorem get_range {α : Type} : ∀ (xs : List α), (List.range xs.length).filterMap (fun k => xs[k]?) = xs
  | [] => rfl
  | x :: r => by
    rw [List.length_cons, filterMap_range_shift]
    have e2 : (fun k : Nat => (x :: r)[k + 1]?) = fun k => r[k]? := by funext k; rfl
    rw [e2, get_range r]
    rfl
theorem rev_range {α : Type} (xs : List α) : (List.range xs.length).filterMap (fun k => xs[xs.length - 1 - k]?) = xs.reverse := by
  have : (List.range xs.length).filterMap (fun k => xs[xs.length - 1 - k]?) = (List.range xs.reverse.length).filterMap (fun k => xs.reverse[k]?) := by
    rw [List.length_reverse]
    refine fmap_congr fun k hk => ?_
    rw [List.getElem?_reverse (by simpa using hk)]
  rw [this, get_range]
theorem pick_odds {α : Type} (xs : List α) : pickS (some 1) none (some 2) xs = odds xs := by
  rw [← odds_range]
  unfold pickS
  have e : sliceBounds (some 1) none (some 2) xs.length = (min 1 (xs.length : Int), (xs.length : Int), 2) := by
    unfold sliceBounds
    simp
    omega
  rw [e]
  unfold sliceRange
  rw [List.filterMap_map]
  simp only []
  cases xs with
  | nil => simp
  | cons x r =>
    have e1 : min 1 (((x :: r).length : Nat) : Int) = 1 := by simp only [List.length_cons]; omega
    rw [e1]
    have e2 : (if (2 : Int) > 0 then if 1 < (((x :: r).length : Nat) : Int) then ((((x :: r).length : Nat) : Int) - 1 + 2 - 1) / 2 else 0 else if 1 > (((x :: r).length : Nat) : Int) then (1 - (((x :: r).length : Nat) : Int) - 2 - 1) / -2 else 0).toNat = (x :: r).length / 2 := by
      rw [if_pos (by decide)]
      split <;> omega
    rw [e2]
    refine fmap_congr fun k _ => ?_
    show (x :: r)[(1 + 2 * (k : Int)).toNat]? = _
    rw [show (1 + 2 * (k : Int)).toNat = 1 + 2 * k by omega]
theorem pick_evens {α : Type} (xs : List α) : pickS none none (some 2) xs = evens xs := by
  rw [← evens_range]
  unfold pickS
  have e : sliceBounds none none (some 2) xs.length = (0, (xs.length : Int), 2) := by
    unfold sliceBounds
    simp
  rw [e]
  unfold sliceRange
  rw [List.filterMap_map]
  simp only []
  have e2 : (if (2 : Int) > 0 then if 0 < ((xs.length : Nat) : Int) then (((xs.length : Nat) : Int) - 0 + 2 - 1) / 2 else 0 else if 0 > ((xs.length : Nat) : Int) then (0 - ((xs.length : Nat) : Int) - 2 - 1) / -2 else 0).toNat = (xs.length + 1) / 2 := by
    rw [if_pos (by decide)]
    split <;> omega
  rw [e2]
  refine fmap_congr fun k _ => ?_
  show xs[(0 + 2 * (k : Int)).toNat]? = _
  rw [show (0 + 2 * (k : Int)).toNat = 2 * k by omega]
theorem pick_rev {α : Type} (xs : List α) : pickS none none (some (-1)) xs = xs.reverse := by
  rw [← rev_range]
  unfold pickS
  have e : sliceBounds none none (some (-1)) xs.length = ((xs.length : Int) - 1, -1, -1) := by
    unfold sliceBounds
    simp
  rw [e]
  unfold sliceRange
  rw [List.filterMap_map]
  simp only []
  have e2 : (if (-1 : Int) > 0 then if ((xs.length : Nat) : Int) - 1 < -1 then (-1 - (((xs.length : Nat) : Int) - 1) + -1 - 1) / -1 else 0 else if ((xs.length : Nat) : Int) - 1 > -1 then (((xs.length : Nat) : Int) - 1 - -1 - -1 - 1) / - -1 else 0).toNat = xs.length := by
    rw [if_neg (by decide)]
    rw [show (- -1 : Int) = 1 by decide, Int.ediv_one]
    split <;> omega
  rw [e2]
  refine fmap_congr fun k hk => ?_
  have hk' : k < xs.length := by simpa using hk
  show xs[((xs.length : Int) - 1 + -1 * (k : Int)).toNat]? = _
  rw [show ((xs.length : Int) - 1 + -1 * (k : Int)).toNat = xs.length - 1 - k by omega]
end Ms

/-! Lay15: a new dict walked; methods of own lists; range with a step; count; swapcase; data that may be shown and compared. -/
namespace Ms
open PySem PySem.Spec PyProof.Rows L2
/-! ### what is read is frozen as it stands -/
def tFrz (te : TE) : TE := fun σ H Q => te σ H fun x H1 => ∃ d u, x = .ref d ∧ H1 d = some u ∧ Mut (some u) ∧ ∀ od, Q x (upd H1 d (.frz od u))
theorem pe_frz {X : Cx} {e : Expr} {te : TE} (h : PE X e te) : PE X e (tFrz te) :=
  ⟨fun pins s σ H Q I hq => thn (h.run pins s σ H _ I hq) fun v s1 ⟨x, H1, I1, r, d, u, ex, hd, mu, q⟩ => by
    obtain ⟨od, I2⟩ := I1.lock hd mu
    exact ⟨x, _, I2, r, q od⟩⟩
section
variable {K : PySem.W.Frag} {M : List Addr} {L : List (Addr × HO)} {G0 H0 G H : Hp} {σ : L2.St} {δ : List Sl}
theorem Cur.pinAp (c : Cur K M L G0 H0 G H σ δ) {a : Addr} {u : HO} (n : G a = none) (h0 : H0 a = none) (hu : H a = some u) (ap : Apart σ δ a) : Cur K M ((a, u) :: L) G0 H0 G H σ δ :=
  ⟨c.gr, c.len, c.ok, c.ap, fun q hq => by
    rcases List.mem_cons.mp hq with rfl | hq
    · exact ⟨hu, n, h0, ap⟩
    · exact c.pn q hq⟩
/-- a thing that no slot holds is changed and frozen -/
theorem Cur.freezeAs (c : Cur K M L G0 H0 G H σ δ) {a : Addr} {u u' : HO} (n : G a = none) (h0 : H0 a = none) (hu : H a = some u) (ap : Apart σ δ a) (hL : ∀ p ∈ L, p.1 ≠ a) : Cur K M L G0 H0 (upd G a u') (upd H a u') σ δ :=
  ((c.pinAp n h0 hu ap).writePin (o' := u') hL).unpin.freezeNew n h0 upd_same ap hL
end
section
variable {K : PySem.W.Frag} {δ : List Sl} {te : TE} {Φ : List D → List Sl → Prop}
/-- the values of a new dict -/
theorem ei_valsN (h : EvN K te δ fun o δ1 => ∃ kvs, o = .dic kvs ∧ Φ (kvs.map Prod.snd) δ1) : EvI K (iVals (tFrz te)) δ Φ := fun M L G0 H0 G H σ c R q =>
  h M L G0 H0 G H σ c _ fun o δ1 a G1 H1 s1 c1 na h0 w ap hL ⟨kvs, e, k⟩ => by
    subst e
    obtain ⟨xs, hx, rx⟩ := w
    refine ⟨a, .dK xs, rfl, hx, trivial, fun od => ⟨a, od, xs, rfl, upd_same, ?_⟩⟩
    have c2 := c1.freezeAs (u' := .frz od (.dK xs)) na h0 hx ap hL
    have s2 : Same G1 (upd G1 a (.frz od (.dK xs))) := same_upd na
    have hl : xs.length = (kvs.map Prod.snd).length := by rw [List.length_map, rx.len]
    refine q _ δ1 _ _ _ (s1.trans s2) c2 ⟨fun i H' hi s => ?_, fun H' s => ?_, fun i H' x H2 G2 hi s s2' y => ?_⟩ k
    · exact ⟨s _ _ upd_same, by rw [hl]; exact hi⟩
    · exact ⟨s _ _ upd_same, by rw [hl]; exact Nat.le_refl _⟩
    · obtain ⟨e, ky, hk⟩ := y
      subst e
      obtain ⟨d, hd, rd⟩ := rx.getV hk
      exact ⟨d, G2, by rw [List.getElem?_map, hd]; rfl, .refl s2', (rd.mono s2).mono s⟩
end
/-! ### own lists -/
section
variable {K : PySem.W.Frag} {δ : List Sl} {te : TE} {P : Po}
theorem sd_extend {i : Nat} {ds0 : List D} (hi : δ[i]? = some (.ow (.lst ds0))) (h : EvD K te δ fun d δ1 => ∃ es ds, d = .lst es ∧ δ1[i]? = some (.ow (.lst ds)) ∧ ds.length + es.length ≤ sizeLine ∧ P.nx (δ1.set i (.ow (.lst (ds ++ es))))) :
    SD K (tDrop (tBM K "list" rExtend (tVar i) (tCons te tNil))) δ P := fun M L G0 H0 G H σ E c n r b ct => by
  obtain ⟨x, ex, a, e1, na, h0, xs, hx, _⟩ := c.ok i _ hi
  subst e1
  refine ⟨_, ex, .inl ⟨rfl, _, SqL.of hx⟩, h M L G0 H0 G H σ c _ fun d δ1 v G1 H1 s1 c1 r1 ⟨es, ds, e4, hd, hl, k⟩ => ?_⟩
  subst e4
  obtain ⟨y, ey, a', e2, na', h0', ys, hy, ry⟩ := c1.ok i _ hd
  rw [ex] at ey; cases ey; cases e2
  obtain ⟨p, zs, rfl, hp, rz⟩ := r1.lst_inv
  refine ⟨a, p, ys, zs, rfl, rfl, hy, c1.gh _ _ hp, by rw [ry.len, rz.len]; exact hl, n _ σ G1 _ s1 (c1.write (o' := .lst (ds ++ es)) hd ex ⟨_, upd_same, ry.append rz⟩) k⟩
theorem sd_clear {i : Nat} {ds : List D} (hi : δ[i]? = some (.ow (.lst ds))) (k : P.nx (δ.set i (.ow (.lst [])))) : SD K (tDrop (tBM0 K "list" rClear (tVar i))) δ P := fun M L G0 H0 G H σ E c n r b ct => by
  obtain ⟨x, ex, a, e1, na, h0, xs, hx, _⟩ := c.ok i _ hi
  subst e1
  exact ⟨_, ex, .inl ⟨rfl, _, SqL.of hx⟩, a, xs, rfl, rfl, hx, n _ σ G _ (.refl _) (c.write (o' := .lst []) hi ex ⟨_, upd_same, .nil⟩) k⟩
theorem sd_reverse {i : Nat} {ds : List D} (hi : δ[i]? = some (.ow (.lst ds))) (k : P.nx (δ.set i (.ow (.lst ds.reverse)))) : SD K (tDrop (tBM0 K "list" rReverse (tVar i))) δ P := fun M L G0 H0 G H σ E c n r b ct => by
  obtain ⟨x, ex, a, e1, na, h0, xs, hx, rx⟩ := c.ok i _ hi
  subst e1
  exact ⟨_, ex, .inl ⟨rfl, _, SqL.of hx⟩, a, xs, rfl, rfl, hx, n _ σ G _ (.refl _) (c.write (o' := .lst ds.reverse) hi ex ⟨_, upd_same, rx.reverse⟩) k⟩
theorem sd_par3 {i j l : Nat} {t : TA} (h : EvA K t δ fun ds δ1 => ∃ d e f, ds = [d, e, f] ∧ P.nx (((δ1.set i (.sh d)).set j (.sh e)).set l (.sh f))) : SD K (tPar3 i j l t) δ P := fun M L G0 H0 G H σ E c n r b ct =>
  h M L G0 H0 G H σ c _ fun ds δ1 vs G1 H1 s1 c1 r1 ⟨d, e, f, e1, k⟩ => by
    subst e1
    obtain ⟨v, r', rfl, h1, h2⟩ := r1.cons_inv
    obtain ⟨w, r2, rfl, h3, h4⟩ := h2.cons_inv
    obtain ⟨z, r3, rfl, h5, h6⟩ := h4.cons_inv
    rw [h6.nil_inv]
    exact ⟨v, w, z, rfl, n _ _ G1 H1 s1 (((c1.setSh i h1).setSh j h3).setSh l h5) k⟩
end
/-! ### range(i, j, -1) -/
def rangeDown (i : Int) (n : Nat) : List D := (List.range n).map fun k => .int (i - (k : Nat))
theorem rangeDown_len (i : Int) (n : Nat) : (rangeDown i n).length = n := by simp [rangeDown]
theorem rangeDown_get (i : Int) (n k : Nat) (h : k < n) : (rangeDown i n)[k]? = some (.int (i - (k : Nat))) := by simp [rangeDown, h]
section
variable {K : PySem.W.Frag} {δ : List Sl} {t : TA} {Φ : List D → List Sl → Prop}
theorem ei_range3 (h : EvA K t δ fun ds δ1 => ∃ i j : Int, ds = [.int i, .int j, .int (-1)] ∧ (-(2 ^ 62) ≤ i ∧ i < 2 ^ 62 ∧ -(2 ^ 62) ≤ j ∧ j < 2 ^ 62) ∧ Φ (rangeDown i (i - j).toNat) δ1) : EvI K (iRng3 t) δ Φ := fun M L G0 H0 G H σ c R q =>
  h M L G0 H0 G H σ c _ fun ds δ1 vs G1 H1 s1 c1 r1 ⟨i, j, e, hj, k⟩ => by
    subst e
    obtain ⟨v, r', rfl, h1, h2⟩ := r1.cons_inv
    obtain ⟨w, r2, rfl, h3, h4⟩ := h2.cons_inv
    obtain ⟨z, r3, rfl, h5, h6⟩ := h4.cons_inv
    rw [h6.nil_inv, h1.int_inv, h3.int_inv, h5.int_inv]
    refine ⟨i, j, -1, _, rfl, RgC.neg hj.1 hj.2.1 hj.2.2.1 hj.2.2.2, q _ δ1 _ G1 H1 s1 c1 ⟨fun m H' hm s => ?_, fun H' s => ?_, fun m H' x H2 G2 hm s s2 y => ?_⟩ k⟩
    · rw [rangeDown_len] at hm; exact hm
    · rw [rangeDown_len]; exact Nat.le_refl _
    · rw [rangeDown_len] at hm
      obtain ⟨e, ex⟩ := y
      subst e ex
      refine ⟨_, G2, rangeDown_get _ _ _ hm, .refl s2, ?_⟩
      rw [show i + (m : Nat) * (-1 : Int) = i - (m : Nat) by omega]
      exact rep_int _
end
/-! ### list(range(n)) -/
section
variable {K : PySem.W.Frag} {δ : List Sl} {ta : TE} {Φ : OD → List Sl → Prop}
theorem en_listRg1 (h : EvD K ta δ fun d δ1 => ∃ n : Int, d = .int n ∧ 0 ≤ n ∧ n ≤ 16777216 ∧ Φ (.lst (rangeD 0 n.toNat)) δ1) : EvN K (tLstRg (tRg1 ta)) δ Φ := fun M L G0 H0 G H σ c Q q =>
  h M L G0 H0 G H σ c _ fun d δ1 v G1 H1 s1 c1 r1 ⟨n, e, h0, hn, k⟩ => by
    subst e
    refine ⟨n, r1.int_inv, RgOk.of_le (by decide) hn (by decide) h0, fun p hp => ?_⟩
    have f := c1.fresh hp
    have rr : Reps K G1 (rangeD 0 n.toNat) (rgV 0 n) := by
      unfold rangeD rgV
      rw [Int.sub_zero]
      exact Reps.mapD (f := fun i : Nat => D.int (0 + (i : Nat))) (g := fun i : Nat => V.int (0 + (i : Nat))) (fun i => rep_int _) _
    exact q (.lst (rangeD 0 n.toNat)) δ1 p G1 _ s1 (c1.grow (.newH c1.gh hp)) f.2.1 f.1 ⟨_, upd_same, rr⟩ f.2.2.1 f.2.2.2 k
end
/-! ### count -/
def rCount (K : PySem.W.Frag) : V → List V → Hp → VK → Prop := fun x xs H Q => ∃ (p : Addr) (ys : List Str) (z : Str), x = .ref p ∧ xs = [.str z] ∧ SqL K H p (ys.map V.str) ∧ Q (.int (ys.count z : Nat)) H
theorem countIn_strs (z : Str) : ∀ ys : List Str, countIn (.str z) (ys.map PyData.str) = ((ys.count z : Nat) : Int)
  | [] => rfl
  | y :: ys => by
    rw [countIn_strs_sum]
    have ih := countIn_strs z ys
    rw [countIn_strs_sum] at ih
    rw [List.map_cons, List.sum_cons, ih, List.count_cons]
    by_cases h : (y == z) = true
    · rw [if_pos h, if_pos h]; omega
    · rw [if_neg h, if_neg h]; omega
theorem mt_countU {X : Cx} : MtR X "list.count" (rCount X.K) := by
  intro pins s σ H x xs v us Q I rx rxs h
  obtain ⟨p, ys, z, rfl, rfl, hs, q⟩ := h
  cases rx
  obtain ⟨u, rfl, ru⟩ := rxs.one
  obtain ⟨t, rfl⟩ := ru
  obtain ⟨its, rv, ⟨o, n, ho, hc, _, hd⟩, hlen⟩ := I.list hs
  refine count_list_strs (vs := its) ⟨o, ho, hc, n, hd⟩ (strs_of_vals rv) ?_
  rw [countIn_strs]
  exact ⟨.int (ys.count z : Nat), H, I.tok _, ⟨s.toks, rfl⟩, q⟩
theorem count_l {K : PySem.W.Frag} {Ψ : D → Prop} {ds : List D} {ys : List Str} {z : Str} (e : ds = ys.map .str) (k : Ψ (.int (ys.count z : Nat))) : RMD K "list" (rCount K) (.lst ds) [.str z] Ψ := fun G H v vs s rx r => by
  subst e
  obtain ⟨w, rfl, ry⟩ := r.just
  obtain ⟨p, xs, rfl, hp, r1⟩ := rx.lst_inv
  rw [reps_strs r1] at hp
  rw [ry.str_inv]
  exact RD.val s (rep_int _) k fun Q q => ⟨p, ys, z, rfl, rfl, SqL.of (s _ _ hp), q⟩
theorem tyd_l {K : PySem.W.Frag} {ds : List D} : TyD K "list" (.lst ds) := fun G H v s r => by
  obtain ⟨p, xs, rfl, hp, r1⟩ := r.lst_inv
  exact .inl ⟨rfl, _, SqL.of (s _ _ hp)⟩
/-! ### swapcase -/
def rSwap : V → List V → Hp → VK → Prop := fun x xs H Q => ∃ a : Str, x = .str a ∧ xs = [] ∧ a.length ≤ 5592405 ∧ Q (.str (Txt.swapcase a)) H
theorem mt_swapU {X : Cx} : MtR X "str.swapcase" rSwap :=
  mt0 (C := fun a => a.length ≤ 5592405) (g := fun a => .str (Txt.swapcase a)) fun a _ s _ hc h =>
    PySem.SC.swapcase (PyProof.Rows.short24 (by have h1 : a.length ≤ 5592405 := hc; have := PyProof.Rows.len_swapcase a; omega)) (h _ (s.toks + 1) ⟨_, rfl⟩)
theorem swap_s {K : PySem.W.Frag} {Ψ : D → Prop} {a : Str} (h : a.length ≤ 5592405) (k : Ψ (.str (Txt.swapcase a))) : RMD K "str" rSwap (.str a) [] Ψ := fun G H v vs s rx r => by
  rw [r.nil_inv]
  exact RD.val s (rep_str _) k fun Q q => ⟨a, rx.str_inv, rfl, h, q⟩
/-! ### data that may be shown and compared -/
mutual
def nice : D → Bool
  | .non => true
  | .bl _ => true
  | .int i => decide (i.natAbs < 1000000000000)
  | .str z => PyData.strOk z
  | .lst ds => niceAll ds
  | .tup ds => niceAll ds
  | _ => false
def niceAll : List D → Bool
  | [] => true
  | d :: ds => nice d && niceAll ds
end
mutual
def wD : D → Nat
  | .str z => z.length
  | .int _ => 64
  | .lst ds => wDs ds
  | .tup ds => wDs ds
  | _ => 0
def wDs : List D → Nat
  | [] => 0
  | d :: ds => wD d + 1 + wDs ds
end
mutual
theorem nice_py : ∀ {d : D}, nice d = true → d.isPy = true ∧ d.py.canLay0 = true ∧ d.py.showable = true ∧ d.py.intsShort 13 = true ∧ d.py.weight ≤ wD d
  | .non, _ => ⟨rfl, rfl, rfl, rfl, Nat.le_refl _⟩
  | .bl b, _ => ⟨rfl, rfl, rfl, rfl, Nat.le_refl _⟩
  | .int i, h => by
    simp only [nice, decide_eq_true_eq] at h
    have hl : i.natAbs.log2 < 41 := by
      by_cases h0 : i.natAbs = 0
      · rw [h0]; decide
      · exact (Nat.log2_lt h0).mpr (by have e : (2 : Nat) ^ 41 = 2199023255552 := by decide
                                       omega)
    refine ⟨rfl, rfl, ?_, ?_, ?_⟩
    · simp only [D.py, PyData.showable, decide_eq_true_eq]; omega
    · have := PyData.intsShortAll_ints [i] (by simpa using h)
      simp only [List.map_cons, List.map_nil, PyData.intsShortAll, Bool.and_true] at this
      exact this
    · simp only [D.py, PyData.weight, wD]
      split <;> omega
  | .str z, h => ⟨rfl, h, rfl, rfl, Nat.le_refl _⟩
  | .lst ds, h => by
    obtain ⟨a, b, c, d, e⟩ := nices_py (ds := ds) (by simpa only [nice] using h)
    exact ⟨by simpa only [D.isPy] using a, by simpa only [D.py, PyData.canLay0] using b, by simpa only [D.py, PyData.showable] using c, by simpa only [D.py, PyData.intsShort] using d, by simpa only [D.py, PyData.weight, wD] using e⟩
  | .tup ds, h => by
    obtain ⟨a, b, c, d, e⟩ := nices_py (ds := ds) (by simpa only [nice] using h)
    exact ⟨by simpa only [D.isPy] using a, by simpa only [D.py, PyData.canLay0] using b, by simpa only [D.py, PyData.showable] using c, by simpa only [D.py, PyData.intsShort] using d, by simpa only [D.py, PyData.weight, wD] using e⟩
  | .dic _, h => by simp [nice] at h
  | .ins _ _, h => by simp [nice] at h
  | .scr _, h => by simp [nice] at h
  | .ty _, h => by simp [nice] at h
  | .cls _, h => by simp [nice] at h
  | .at _, h => by simp [nice] at h
  | .dz _, h => by simp [nice] at h
theorem nices_py : ∀ {ds : List D}, niceAll ds = true → arePy ds = true ∧ PyData.canLayAll0 (pys ds) = true ∧ PyData.showableAll (pys ds) = true ∧ PyData.intsShortAll 13 (pys ds) = true ∧ PyData.weightAll (pys ds) ≤ wDs ds
  | [], _ => ⟨rfl, rfl, rfl, rfl, Nat.le_refl _⟩
  | d :: ds, h => by
    simp only [niceAll, Bool.and_eq_true] at h
    obtain ⟨a, b, c, e, f⟩ := nice_py h.1
    obtain ⟨a2, b2, c2, e2, f2⟩ := nices_py h.2
    refine ⟨by simp only [arePy, a, a2, Bool.and_self], by simp only [pys, PyData.canLayAll0, b, b2, Bool.and_self], by simp only [pys, PyData.showableAll, c, c2, Bool.and_self], by simp only [pys, PyData.intsShortAll, e, e2, Bool.and_self], ?_⟩
    simp only [pys, PyData.weightAll, wDs]
    omega
end
theorem nice_eqv {d : D} (h : nice d = true) : PyData.eqv d.py d.py = true := PySem.SeqAt.eqv_refl d.py (nice_py h).2.1
mutual
def dpD : D → Nat
  | .lst ds => dpDs ds + 1
  | .tup ds => dpDs ds + 1
  | _ => 0
def dpDs : List D → Nat
  | [] => 0
  | d :: ds => max (dpD d) (dpDs ds)
end
mutual
theorem dp_py : ∀ {d : D}, nice d = true → d.py.depth = dpD d
  | .non, _ => rfl
  | .bl _, _ => rfl
  | .int _, _ => rfl
  | .str _, _ => rfl
  | .lst ds, h => by simp only [D.py, PyData.depth, dpD, dps_py (ds := ds) (by simpa only [nice] using h)]
  | .tup ds, h => by simp only [D.py, PyData.depth, dpD, dps_py (ds := ds) (by simpa only [nice] using h)]
  | .dic _, h => by simp [nice] at h
  | .ins _ _, h => by simp [nice] at h
  | .scr _, h => by simp [nice] at h
  | .ty _, h => by simp [nice] at h
  | .cls _, h => by simp [nice] at h
  | .at _, h => by simp [nice] at h
  | .dz _, h => by simp [nice] at h
theorem dps_py : ∀ {ds : List D}, niceAll ds = true → PyData.depthAll (pys ds) = dpDs ds
  | [], _ => rfl
  | d :: ds, h => by
    simp only [niceAll, Bool.and_eq_true] at h
    simp only [pys, PyData.depthAll, dpDs, dp_py h.1, dps_py h.2]
end
theorem nice_ok {d : D} (h : nice d = true) (hd : dpD d ≤ 60) : okPy d = true := by
  have n := nice_py h
  unfold okPy SeqAt.shaped
  rw [n.1, n.2.1, dp_py h]
  simp; omega
theorem nice_show {d : D} (h : nice d = true) (hd : dpD d ≤ 60) (hw : wD d ≤ 1048576) : okShow d = true := by
  have n := nice_py h
  have hs : d.py.shown.length ≤ sizeLine := PyData.shown_fits_of_layable0 (B := 13) (by decide) (by decide) (by
    unfold PyData.layable0
    rw [n.2.1, dp_py h]
    have e : (2 : Nat) ^ 20 = 1048576 := by decide
    rw [e]
    simp; omega) n.2.2.2.1
  unfold okShow
  rw [n.1, n.2.2.1, PyData.hasDict_of_canLay _ n.2.1, dp_py h]
  simp [hs, hd]
theorem niceAll_iff : ∀ {ds : List D}, niceAll ds = true ↔ ∀ d ∈ ds, nice d = true
  | [] => by simp [niceAll]
  | d :: ds => by simp only [niceAll, Bool.and_eq_true, List.mem_cons, forall_eq_or_imp, niceAll_iff]
theorem dpDs_le {n : Nat} : ∀ {ds : List D}, dpDs ds ≤ n ↔ ∀ d ∈ ds, dpD d ≤ n
  | [] => by simp [dpDs]
  | d :: ds => by
    simp only [dpDs, List.mem_cons, forall_eq_or_imp, ← dpDs_le (ds := ds)]
    omega
theorem wDs_append : ∀ (a b : List D), wDs (a ++ b) = wDs a + wDs b
  | [], b => by simp [wDs]
  | d :: a, b => by simp only [List.cons_append, wDs, wDs_append a b]; omega
/-- x != y of the same data -/
theorem ne_same {K : PySem.W.Frag} {Ψ : D → Prop} {x y : D} (e : x = y) (h : nice x = true) (hd : dpD x ≤ 60) (k : Ψ (.bl false)) : R2D K (rNeU K) x y Ψ := by
  subst e
  refine ne_dd (nice_ok h hd) (nice_ok h hd) ?_
  rw [nice_eqv h]; exact k
theorem eq_same {K : PySem.W.Frag} {Ψ : D → Prop} {x y : D} (e : x = y) (h : nice x = true) (hd : dpD x ≤ 60) (k : Ψ (.bl true)) : R2D K (rEqU K) x y Ψ := by
  subst e
  refine eq_dd (nice_ok h hd) (nice_ok h hd) ?_
  rw [nice_eqv h]; exact k
end Ms

/-! Lay16: a dict of own lists that grow: found.setdefault(name, []).append(number); rows as plain pairs. -/
namespace Ms
open PySem PySem.Spec PyProof.Rows L2
/-! ### names with their numbers -/
def addNum : List (Str × List Int) → Str → Int → List (Str × List Int)
  | [], x, n => [(x, [n])]
  | (y, ns) :: r, x, n => if y = x then (y, ns ++ [n]) :: r else (y, ns) :: addNum r x n
abbrev NL := Str × List Int × Addr
def nlD (ps : List NL) : List (Key × V) := ps.map fun p => (.inr p.1, .ref p.2.2)
def nlP (ps : List NL) : List (Addr × HO) := ps.map fun p => (p.2.2, .lst (p.2.1.map V.int))
def nlK (ps : List NL) : List (Str × List Int) := ps.map fun p => (p.1, p.2.1)
def nlA (ps : List NL) : List Addr := ps.map fun p => p.2.2
theorem nl_find : ∀ {ps : List NL} {x : Str} {v : V}, valV (nlD ps) (.inr x) = some v → ∃ pre ns l post, ps = pre ++ (x, ns, l) :: post ∧ v = .ref l ∧ (∀ n, nlK (pre ++ (x, ns ++ [n], l) :: post) = addNum (nlK ps) x n)
  | [], _, _, h => by simp [nlD, valV] at h
  | (y, ns, l) :: r, x, v, h => by
    by_cases e : y = x
    · subst e
      simp [nlD, valV] at h
      exact ⟨[], ns, l, r, rfl, h.symm, fun n => by simp [nlK, addNum]⟩
    · have h2 : valV (nlD r) (.inr x) = some v := by
        unfold valV nlD at h ⊢
        rw [List.map_cons, List.find?_cons] at h
        have : decide ((Sum.inr y : Key) = .inr x) = false := by simpa using e
        simp only [this] at h
        exact h
      obtain ⟨pre, ms, k, post, e1, e2, e3⟩ := nl_find h2
      refine ⟨(y, ns, l) :: pre, ms, k, post, by rw [e1]; rfl, e2, fun n => ?_⟩
      have := e3 n
      simp only [nlK, List.map_cons, List.cons_append, addNum, if_neg e] at this ⊢
      rw [this]
theorem nl_none : ∀ {ps : List NL} {x : Str}, valV (nlD ps) (.inr x) = none → (∀ n l, nlK (ps ++ [(x, [n], l)]) = addNum (nlK ps) x n) ∧ ∀ v, putK (nlD ps) (.inr x) v = nlD ps ++ [(.inr x, v)]
  | ps, x, h => by
    have hn : ∀ p ∈ ps, p.1 ≠ x := fun p hp e => by
      unfold valV at h
      rw [Option.map_eq_none_iff, List.find?_eq_none] at h
      exact h (.inr p.1, .ref p.2.2) (List.mem_map.mpr ⟨p, hp, rfl⟩) (by simp [e])
    refine ⟨fun n l => ?_, fun v => ?_⟩
    · clear h
      induction ps with
      | nil => rfl
      | cons q r ih =>
        have := ih fun p hp => hn p (List.mem_cons_of_mem _ hp)
        simp only [nlK, List.cons_append, List.map_cons, addNum, if_neg (hn q List.mem_cons_self)] at this ⊢
        rw [this]
    · unfold putK
      rw [if_neg]
      intro z
      rw [List.any_eq_true] at z
      obtain ⟨kv, hk, e⟩ := z
      obtain ⟨p, hp, rfl⟩ := List.mem_map.mp hk
      simp at e
      exact hn p hp e
section
variable {K : PySem.W.Frag} {M : List Addr} {L L' : List (Addr × HO)} {G0 H0 G H : Hp} {σ : L2.St} {δ : List Sl}
theorem Cur.subpins (c : Cur K M L G0 H0 G H σ δ) (h : ∀ p ∈ L', p ∈ L) : Cur K M L' G0 H0 G H σ δ := ⟨c.gr, c.len, c.ok, c.ap, fun p hp => c.pn p (h p hp)⟩
theorem Cur.apart (c : Cur K M L G0 H0 G H σ δ) {p : Addr × HO} (hp : p ∈ L) : H p.1 = some p.2 ∧ G p.1 = none ∧ H0 p.1 = none ∧ Apart σ δ p.1 := c.pn p hp
theorem nl_step {ps : List NL} {a : Addr} {x : Str} {n : Int} {i1 i2 i3 : Nat} (c : Cur K M ((a, .dK (nlD ps)) :: (nlP ps ++ L)) G0 H0 G H σ δ) (nd : (a :: nlA ps).Nodup) (hL : ∀ p ∈ L, ∀ b ∈ a :: nlA ps, p.1 ≠ b)
    (s1 : σ[i1]? = some (some (.ref a))) (s2 : σ[i2]? = some (some (.int n))) (s3 : σ[i3]? = some (some (.str x))) (hz : ps.length < sizeLine) (hz2 : ∀ p ∈ ps, p.2.1.length < sizeLine) {Q : VK}
    (q : ∀ (ps' : List NL) (H' : Hp), nlK ps' = addNum (nlK ps) x n → Cur K M ((a, .dK (nlD ps')) :: (nlP ps' ++ L)) G0 H0 G H' σ δ → (a :: nlA ps').Nodup → (∀ p ∈ L, ∀ b ∈ a :: nlA ps', p.1 ≠ b) → Q .non H') :
    tBM K "list" rAppend (tDSetd (tVar i1) (tVar i3) (tLst tNil)) (tCons (tVar i2) tNil) σ H Q := by
  obtain ⟨ha, na, h0a, apa⟩ := c.apart (p := (a, .dK (nlD ps))) List.mem_cons_self
  refine ⟨.ref a, s1, a, rfl, .inl ⟨_, .of ha⟩, .str x, s3, Nat.zero_le _, fun p hp => ?_⟩
  have c2 := c.grow (.newH (o := .lst []) c.gh hp)
  have fp := c.fresh hp
  have nap : a ≠ p := ne_of_none ha hp
  have ha2 : upd H p (.lst []) a = some (.dK (nlD ps)) := by rw [upd_ne nap]; exact ha
  refine ⟨nlD ps, .inr x, ha2, rfl, by simpa [nlD] using hz, fun v hv => ?_, fun hv => ?_⟩
  · obtain ⟨pre, ns, l, post, e1, rfl, e3⟩ := nl_find hv
    have hl := (c2.apart (p := (l, .lst (ns.map V.int))) (by rw [e1]; simp [nlP]))
    refine ⟨.inl ⟨rfl, _, SqL.of hl.1⟩, .int n, s2, l, ns.map V.int, .int n, rfl, rfl, hl.1, by rw [List.length_map]; exact hz2 (x, ns, l) (by rw [e1]; simp), ?_⟩
    have ed : nlD (pre ++ (x, ns ++ [n], l) :: post) = nlD ps := by rw [e1]; simp [nlD]
    have eA : nlA (pre ++ (x, ns ++ [n], l) :: post) = nlA ps := by rw [e1]; simp [nlA]
    refine q (pre ++ (x, ns ++ [n], l) :: post) _ (e3 n) ?_ (by rw [eA]; exact nd) (by rw [eA]; exact hL)
    rw [ed]
    -- the pins other than l
    have nd2 : (a :: nlA (pre ++ (x, ns, l) :: post)).Nodup := by rw [← e1]; exact nd
    simp only [nlA, List.map_append, List.map_cons, List.nodup_cons, List.nodup_append, List.mem_append, List.mem_cons] at nd2
    obtain ⟨nd3, nd4, ⟨nd5, nd6⟩, nd7⟩ := nd2
    have c3 : Cur K M ((l, .lst (ns.map V.int)) :: ((a, .dK (nlD ps)) :: (nlP pre ++ nlP post) ++ L)) G0 H0 G (upd H p (.lst [])) σ δ := by
      refine c2.subpins fun z hz => ?_
      rw [e1]
      simp only [nlP, List.map_append, List.map_cons, List.mem_append, List.mem_cons, List.cons_append] at hz ⊢
      rcases hz with h | h | (h | h) | h
      · exact .inr (.inl (.inr (.inl h)))
      · left; rw [h, e1]
      · exact .inr (.inl (.inl h))
      · exact .inr (.inl (.inr (.inr h)))
      · exact .inr (.inr h)
    have c4 := c3.writePin (o' := .lst (ns.map V.int ++ [.int n])) (fun z hz => by
      simp only [nlP, List.mem_append, List.mem_cons, List.mem_map, List.cons_append] at hz
      rcases hz with h | (⟨w, hw, h⟩ | ⟨w, hw, h⟩) | h
      · rw [h]; exact fun e => nd3 (.inr (.inl e))
      · rw [← h]
        exact nd7 _ (List.mem_map.mpr ⟨w, hw, rfl⟩) _ (.inl rfl)
      · rw [← h]
        exact fun e => nd5 (List.mem_map.mpr ⟨w, hw, e⟩)
      · exact hL z h l (by rw [e1]; simp [nlA]))
    refine c4.subpins fun z hz => ?_
    simp only [nlP, List.map_append, List.map_cons, List.mem_append, List.mem_cons, List.cons_append] at hz ⊢
    rcases hz with h | (h | h | h) | h
    · exact .inr (.inl h)
    · exact .inr (.inr (.inl (.inl h)))
    · left; rw [h]; rfl
    · exact .inr (.inr (.inl (.inr h)))
    · exact .inr (.inr (.inr h))
  · obtain ⟨e3, e4⟩ := nl_none hv
    rw [e4]
    have hp3 : upd (upd H p (.lst [])) a (.dK (nlD ps ++ [(.inr x, .ref p)])) p = some (.lst []) := by rw [upd_ne (Ne.symm nap), upd_same]
    refine ⟨.inl ⟨rfl, _, SqL.of hp3⟩, .int n, s2, p, [], .int n, rfl, rfl, hp3, Nat.lt_of_lt_of_le (by decide) (show 1 ≤ sizeLine by decide), ?_⟩
    have npl : ∀ z ∈ nlP ps ++ L, z.1 ≠ p := fun z hz e => by
      have := c.apart (p := z) (List.mem_cons_of_mem _ hz)
      rw [e, hp] at this
      cases this.1
    refine q (ps ++ [(x, [n], p)]) _ (e3 n p) ?_ ?_ ?_
    · have eP : nlP (ps ++ [(x, [n], p)]) = nlP ps ++ [(p, .lst [.int n])] := by simp [nlP]
      have eD : nlD (ps ++ [(x, [n], p)]) = nlD ps ++ [(.inr x, .ref p)] := by simp [nlD]
      rw [eP, eD]
      have nda : ∀ z ∈ nlP ps ++ L, z.1 ≠ a := fun z hz => by
        rcases List.mem_append.mp hz with h | h
        · obtain ⟨w, hw, rfl⟩ := List.mem_map.mp h
          rw [List.nodup_cons] at nd
          exact fun e => nd.1 (by rw [← e]; exact List.mem_map.mpr ⟨w, hw, rfl⟩)
        · exact hL z h a List.mem_cons_self
      have c3 := c2.writePin (o' := .dK (nlD ps ++ [(.inr x, .ref p)])) nda
      have c4 := c3.pinAp (a := p) (u := .lst []) fp.2.1 fp.1 hp3 fp.2.2.1
      have c5 := c4.writePin (o' := .lst [.int n]) (fun z hz => by
        rcases List.mem_cons.mp hz with h | h
        · rw [h]; exact nap
        · exact npl z h)
      refine c5.subpins fun z hz => ?_
      simp only [List.mem_append, List.mem_cons, List.cons_append, List.not_mem_nil, or_false] at hz ⊢
      rcases hz with h | (h | h) | h
      · exact .inr (.inl h)
      · exact .inr (.inr (.inl h))
      · exact .inl h
      · exact .inr (.inr (.inr h))
    · have eA : nlA (ps ++ [(x, [n], p)]) = nlA ps ++ [p] := by simp [nlA]
      rw [eA, ← List.cons_append, List.nodup_append]
      refine ⟨nd, by simp, fun b hb b2 hb2 e => ?_⟩
      simp at hb2
      subst hb2
      subst e
      rcases List.mem_cons.mp hb with h | h
      · exact nap h.symm
      · obtain ⟨w, hw, e⟩ := List.mem_map.mp h
        exact npl (w.2.2, .lst (w.2.1.map V.int)) (List.mem_append_left _ (List.mem_map.mpr ⟨w, hw, rfl⟩)) e
    · intro z hz b hb
      have eA : nlA (ps ++ [(x, [n], p)]) = nlA ps ++ [p] := by simp [nlA]
      rw [eA, ← List.cons_append] at hb
      rcases List.mem_append.mp hb with h | h
      · exact hL z hz b h
      · simp at h
        subst h
        exact npl z (List.mem_append_right _ hz)
theorem nl_freeze : ∀ {ps : List NL} {G : Hp}, Cur K M (nlP ps ++ L) G0 H0 G H σ δ → (nlA ps).Nodup → (∀ p ∈ L, ∀ b ∈ nlA ps, p.1 ≠ b) → ∃ G', Same G G' ∧ Cur K M L G0 H0 G' H σ δ ∧ (∀ p ∈ ps, G' p.2.2 = some (.lst (p.2.1.map V.int))) ∧ ∀ b, b ∉ nlA ps → G' b = G b
  | [], G, c, _, _ => ⟨G, .refl _, c, (fun p hp => nomatch hp), fun _ _ => rfl⟩
  | q :: r, G, c, nd, hL => by
    obtain ⟨h1, h2, h3, h4⟩ := c.apart (p := (q.2.2, .lst (q.2.1.map V.int))) (by simp [nlP])
    have nd' : (q.2.2 :: nlA r).Nodup := nd
    rw [List.nodup_cons] at nd'
    have c1 : Cur K M (nlP r ++ L) G0 H0 G H σ δ := c.subpins fun z hz => by
      show z ∈ (q.2.2, HO.lst (q.2.1.map V.int)) :: (nlP r ++ L)
      exact List.mem_cons_of_mem _ hz
    have hl : ∀ z ∈ nlP r ++ L, z.1 ≠ q.2.2 := fun z hz e => by
      rcases List.mem_append.mp hz with h | h
      · obtain ⟨w, hw, rfl⟩ := List.mem_map.mp h
        exact nd'.1 (by rw [← e]; exact List.mem_map.mpr ⟨w, hw, rfl⟩)
      · exact hL z h q.2.2 (by simp [nlA]) e
    have c2 := c1.freezeNew h2 h3 h1 h4 hl
    obtain ⟨G', s, c3, h5, h6⟩ := nl_freeze c2 nd'.2 fun p hp b hb => hL p hp b (by
      show b ∈ q.2.2 :: nlA r
      exact List.mem_cons_of_mem _ hb)
    refine ⟨G', (same_upd h2).trans s, c3, fun p hp => ?_, fun b hb => ?_⟩
    · rcases List.mem_cons.mp hp with rfl | hp
      · rw [h6 _ nd'.1, upd_same]
      · exact h5 p hp
    · have hb' : b ∉ q.2.2 :: nlA r := hb
      rw [List.mem_cons, not_or] at hb'
      rw [h6 b hb'.2, upd_ne hb'.1]
end
def numsD (kvs : List (Str × List Int)) : List (Key × D) := kvs.map fun p => (.inr p.1, .lst (p.2.map .int))
theorem nl_rep {K : PySem.W.Frag} {G : Hp} : ∀ {ps : List NL}, (∀ p ∈ ps, G p.2.2 = some (.lst (p.2.1.map V.int))) → RepK K G (numsD (nlK ps)) (nlD ps)
  | [], _ => .nil
  | q :: r, h => .cons (rep_lst (h q List.mem_cons_self) (Reps.mapD (fun i => rep_int i) _)) (nl_rep fun p hp => h p (List.mem_cons_of_mem _ hp))
/-- the numbers of each name: from number i on -/
def numsFrom (kvs : List (Str × List Int)) : Nat → List Str → List (Str × List Int)
  | _, [] => kvs
  | i, x :: xs => numsFrom (addNum kvs x (i : Nat)) (i + 1) xs
theorem numsFrom_snoc : ∀ (xs : List Str) (kvs : List (Str × List Int)) (i : Nat) (x : Str), numsFrom kvs i (xs ++ [x]) = addNum (numsFrom kvs i xs) x ((i + xs.length : Nat) : Int)
  | [], kvs, i, x => rfl
  | y :: ys, kvs, i, x => by
    rw [List.cons_append]
    show numsFrom (addNum kvs y (i : Nat)) (i + 1) (ys ++ [x]) = _
    rw [numsFrom_snoc ys _ (i + 1) x]
    show addNum (numsFrom (addNum kvs y (i : Nat)) (i + 1) ys) x _ = addNum (numsFrom (addNum kvs y (i : Nat)) (i + 1) ys) x _
    simp only [List.length_cons]
    rw [show i + 1 + ys.length = i + (ys.length + 1) by omega]
theorem addNum_len (kvs : List (Str × List Int)) (x : Str) (n : Int) : (addNum kvs x n).length ≤ kvs.length + 1 := by
  induction kvs with
  | nil => simp [addNum]
  | cons p r ih =>
    obtain ⟨y, ns⟩ := p
    unfold addNum
    split
    · simp
    · simp; omega
theorem addNum_vals (m : Nat) : ∀ (kvs : List (Str × List Int)) (x : Str) (n : Int), (∀ p ∈ kvs, p.2.length ≤ m) → ∀ p ∈ addNum kvs x n, p.2.length ≤ m + 1
  | [], x, n, _, p, hp => by simp [addNum] at hp; subst hp; simp
  | (y, ns) :: r, x, n, h, p, hp => by
    unfold addNum at hp
    split at hp
    · rcases List.mem_cons.mp hp with rfl | hp
      · have := h (y, ns) List.mem_cons_self; simp at this ⊢; exact this
      · have := h p (List.mem_cons_of_mem _ hp); omega
    · rcases List.mem_cons.mp hp with rfl | hp
      · have := h (y, ns) List.mem_cons_self; simp at this ⊢; omega
      · exact addNum_vals m r x n (fun p hp => h p (List.mem_cons_of_mem _ hp)) p hp
theorem numsFrom_ok (xs : List Str) : (numsFrom [] 0 xs).length ≤ xs.length ∧ ∀ p ∈ numsFrom [] 0 xs, p.2.length ≤ xs.length := by
  have h : ∀ (n : Nat), (numsFrom [] 0 (xs.take n)).length ≤ n ∧ ∀ p ∈ numsFrom [] 0 (xs.take n), p.2.length ≤ n := by
    intro n
    induction n with
    | zero => simp [numsFrom]
    | succ n ih =>
      by_cases hn : n < xs.length
      · rw [List.take_succ_eq_append_getElem hn, numsFrom_snoc]
        exact ⟨Nat.le_trans (addNum_len _ _ _) (by omega), addNum_vals n _ _ _ ih.2⟩
      · rw [List.take_of_length_le (by omega)] at ih ⊢
        exact ⟨by omega, fun p hp => by have := ih.2 p hp; omega⟩
  have := h xs.length
  rwa [List.take_of_length_le (Nat.le_refl _)] at this
/-- markers as data -/
abbrev Mk := Str × Bool
def mkD (m : Mk) : D := .tup [.str m.1, .bl m.2]
theorem sd_numbers {K : PySem.W.Frag} {P : Po} {d : D} {ms : List Mk} {wi : TI} (hms : ms.length < big) (hI : ∀ δ1 : List Sl, δ1[0]? = some (.sh d) → EvI K wi δ1 fun xs δ' => xs = enumD (ms.map mkD) ∧ δ' = δ1)
    (k : ∀ x1 x2 x3, P.rt (.new (.dic (numsD (numsFrom [] 0 (ms.map Prod.fst))))) [.sh d, .no, x1, x2, x3]) :
    SD K (tSeq (tAsg tDNewK (gName 1)) (tSeq (tFor wi (gTup K 2 (gCons (gName 2) (gCons (gTup K 2 (gCons (gName 3) (gCons (gName 4) gNil))) gNil))) (tDrop (tBM K "list" rAppend (tDSetd (tVar 1) (tVar 3) (tLst tNil)) (tCons (tVar 2) tNil)))) (tRet (tVar 1)))) [.sh d, .no, .no, .no, .no] P := fun M L G0 H0 G H σ E c n r b ct => by
  intro p hp
  have hσ : σ.length = 5 := by have := c.len; simpa using this.symm
  have c1 := (c.pinNew (o := .dK []) hp).agree (σ' := σ.set 1 (some (.ref p))) [1] (by simp) (fun i hi => List.getElem?_set_ne (fun e => hi (by simp [e])))
  have fp := c.fresh hp
  refine hI _ rfl M _ G0 H0 G _ _ c1 _ fun xs δ1 J G1 H1 s1 c2 w ⟨ex, eδ⟩ => ?_
  subst ex eδ
  have hlen : (enumD (ms.map mkD)).length = ms.length := by rw [enumD_len, List.length_map]
  refine ⟨fun i m σ' H' => m = ms.length - i ∧ i ≤ ms.length ∧ ∃ G' ps x2 x3 x4, Cur K M ((p, .dK (nlD ps)) :: (nlP ps ++ L)) G0 H0 G' H' σ' [.sh d, .no, x2, x3, x4] ∧ Same G1 G' ∧ σ'[1]? = some (some (.ref p)) ∧ (p :: nlA ps).Nodup ∧ (∀ q ∈ L, ∀ b ∈ p :: nlA ps, q.1 ≠ b) ∧ nlK ps = numsFrom [] 0 ((ms.take i).map Prod.fst),
    ⟨_, rfl, Nat.zero_le _, G1, [], .no, .no, .no, c2, .refl _, by rw [List.getElem?_set_self (by omega)], by simp [nlA], fun q hq b hb => ?_, rfl⟩, ?_⟩
  · simp [nlA] at hb
    subst hb
    exact fp.2.2.2 q hq
  rintro i m σ2 H2 ⟨rfl, hi, G2, ps, x2, x3, x4, c3, s3, e1, nd, hL, ek⟩
  by_cases hlt : i < ms.length
  · refine .inr ⟨w.goes i H2 (by rw [hlen]; exact hlt) (s3.trans c3.gh), fun σ' H' => ∃ G' ps x2 x3 x4, Cur K M ((p, .dK (nlD ps)) :: (nlP ps ++ L)) G0 H0 G' H' σ' [.sh d, .no, x2, x3, x4] ∧ Same G1 G' ∧ σ'[1]? = some (some (.ref p)) ∧ (p :: nlA ps).Nodup ∧ (∀ q ∈ L, ∀ b ∈ p :: nlA ps, q.1 ≠ b) ∧ nlK ps = numsFrom [] 0 ((ms.take (i + 1)).map Prod.fst),
      fun σ' H' h => ⟨ms.length - (i + 1), by omega, rfl, hlt, h⟩, fun x H' y => ?_⟩
    obtain ⟨dx, G3, hd, g3, r3⟩ := w.yields i H2 x H' G2 (by rw [hlen]; exact hlt) s3 c3.gh y
    have hm : (ms.map mkD)[i]? = some (mkD ms[i]) := by rw [List.getElem?_map, List.getElem?_eq_getElem hlt]; rfl
    rw [enumD_get hm] at hd
    cases hd
    have tg : TgD K ([2] ++ (([3] ++ ([4] ++ [])) ++ [])) (gTup K 2 (gCons (gName 2) (gCons (gTup K 2 (gCons (gName 3) (gCons (gName 4) gNil))) gNil))) (.tup [.int (i : Nat), mkD ms[i]]) [.sh d, .no, x2, x3, x4] fun δ' => δ' = [.sh d, .no, .sh (.int (i : Nat)), .sh (.str ms[i].1), .sh (.bl ms[i].2)] :=
      tg_tup rfl (tgs_cons (tg_name (tgs_cons (tg_tup rfl (tgs_cons (tg_name (tgs_cons (tg_name (tgs_nil (tgs_nil rfl))))))))))
    refine tg M _ G0 H0 G3 H' σ2 x (c3.grow g3) r3 _ fun δ4 σ4 G4 H4 s4 c4 l4 k4 ed => ?_
    subst ed
    obtain ⟨v2, e2, u2, rfl, ru2⟩ := c4.ok 2 _ rfl
    obtain ⟨v3, e3, u3, rfl, ru3⟩ := c4.ok 3 _ rfl
    rw [ru2.int_inv] at e2
    rw [ru3.str_inv] at e3
    have hb := numsFrom_ok ((ms.take i).map Prod.fst)
    rw [← ek, List.length_map, List.length_take] at hb
    have hbig : big ≤ sizeLine := by decide
    refine nl_step c4 nd hL ((k4 1 (by simp)).trans e1) e2 e3 ?_ ?_ fun ps' H5 ek' c5 nd' hL' => ?_
    · have := hb.1
      simp only [nlK, List.length_map] at this
      omega
    · intro q hq
      have := hb.2 (q.1, q.2.1) (List.mem_map.mpr ⟨q, hq, rfl⟩)
      simp only at this
      omega
    · refine ⟨G4, ps', _, _, _, c5, (s3.trans g3.g).trans s4, (k4 1 (by simp)).trans e1, nd', hL', ?_⟩
      rw [ek', ek, List.take_succ_eq_append_getElem hlt, List.map_append, List.map_cons, List.map_nil, numsFrom_snoc, List.length_map, List.length_take]
      rw [show 0 + min i ms.length = i by omega]
  · have e : i = ms.length := by omega
    subst e
    refine .inl ⟨?_, .ref p, e1, ?_⟩
    · have := w.stops H2 (s3.trans c3.gh)
      rw [hlen] at this; exact this
    · have ha := c3.apart (p := (p, .dK (nlD ps))) List.mem_cons_self
      rw [List.nodup_cons] at nd
      obtain ⟨G5, s5, c5, h5, h6⟩ := nl_freeze c3.unpin nd.2 fun q hq b hb => hL q hq b (List.mem_cons_of_mem _ hb)
      rw [List.take_of_length_le (Nat.le_refl _)] at ek
      refine r (.new (.dic (numsD (numsFrom [] 0 (ms.map Prod.fst))))) _ _ σ2 G5 H2 c5 ⟨p, rfl, ha.2.2.1, by rw [h6 p nd.1]; exact ha.2.1, nlD ps, ha.1, ?_⟩ (k _ _ _)
      rw [← ek]
      exact nl_rep h5
end Ms

/-! Lay17: rows as a first piece and (marker, piece) pairs; promises over rows. -/
namespace Ms
open PySem PySem.Spec PyProof.Rows L2
abbrev It2 := Mk × Str
def itD (x : It2) : List D := [mkD x.1, .str x.2]
def rowL (p : Str) (ms : List It2) : List D := .str p :: ms.flatMap itD
structure RowOk (p : Str) (ms : List It2) : Prop where
  p0 : pieceS p = true
  nm : ∀ x ∈ ms, nameS x.1.1 = true
  pc : ∀ x ∈ ms, pieceS x.2 = true
def lets (ms : List It2) : Nat := (ms.map fun x => x.2.length).sum
def rowW (p : Str) (ms : List It2) : Nat := p.length + lets ms
theorem lets_cons (x : It2) (ms : List It2) : lets (x :: ms) = x.2.length + lets ms := by simp [lets]
theorem lets_mem : ∀ {ms : List It2} {x : It2}, x ∈ ms → x.2.length ≤ lets ms
  | y :: ms, x, h => by
    rw [lets_cons]
    rcases List.mem_cons.mp h with rfl | h
    · omega
    · have := lets_mem h; omega
theorem lets_le {m : Nat} : ∀ {ms : List It2}, (∀ x ∈ ms, x.2.length ≤ m) → lets ms ≤ ms.length * m
  | [], _ => by simp [lets]
  | x :: ms, h => by
    rw [lets_cons]
    have h1 := h x List.mem_cons_self
    have h2 := lets_le fun y hy => h y (List.mem_cons_of_mem _ hy)
    simp only [List.length_cons]
    rw [Nat.add_mul]; omega
theorem rowL_len (p : Str) (ms : List It2) : (rowL p ms).length = 2 * ms.length + 1 := by
  unfold rowL
  rw [List.length_cons]
  induction ms with
  | nil => rfl
  | cons x r ih => rw [List.flatMap_cons, List.length_append]; simp [itD] at ih ⊢; omega
theorem rowL_odd : ∀ {p : Str} {ms : List It2} {k : Nat} {x : It2}, ms[k]? = some x → (rowL p ms)[2 * k + 1]? = some (mkD x.1)
  | p, y :: ms, 0, x, h => by simp at h; subst h; rfl
  | p, y :: ms, k + 1, x, h => by
    have := rowL_odd (p := y.2) (ms := ms) (k := k) (x := x) (by simpa using h)
    rw [show 2 * (k + 1) + 1 = (2 * k + 1) + 1 + 1 by omega]
    exact this
theorem rowL_even : ∀ {p : Str} {ms : List It2} {k : Nat} {x : It2}, ms[k]? = some x → (rowL p ms)[2 * k + 2]? = some (.str x.2)
  | p, y :: ms, 0, x, h => by simp at h; subst h; rfl
  | p, y :: ms, k + 1, x, h => by
    have := rowL_even (p := y.2) (ms := ms) (k := k) (x := x) (by simpa using h)
    rw [show 2 * (k + 1) + 2 = (2 * k + 2) + 1 + 1 by omega]
    exact this
theorem rowL_zero (p : Str) (ms : List It2) : (rowL p ms)[0]? = some (.str p) := rfl
theorem odds_row : ∀ (p : Str) (ms : List It2), odds (rowL p ms) = ms.map fun x => mkD x.1
  | p, [] => rfl
  | p, x :: ms => by
    show mkD x.1 :: odds (rowL x.2 ms) = _
    rw [odds_row]; rfl
theorem evens_row : ∀ (p : Str) (ms : List It2), evens (rowL p ms) = .str p :: ms.map fun x => .str x.2
  | p, [] => rfl
  | p, x :: ms => by
    show .str p :: evens (rowL x.2 ms) = _
    rw [evens_row]; rfl
/-! ### kinds -/
theorem low_lt {c : Nat} (h : isLow c = true) : c < 128 := by
  have : ∀ c ∈ lowS.cps.toList, c < 128 := by decide +kernel
  exact this c (by simpa [isLow] using h)
theorem upp_lt {c : Nat} (h : isUpp c = true) : c < 128 := by
  have : ∀ c ∈ uppS.cps.toList, c < 128 := by decide +kernel
  exact this c (by simpa [isUpp] using h)
theorem piece_ok {z : Str} (h : pieceS z = true) : PyData.strOk z = true := (strOk_iff z).mpr fun c hc => by
  have := List.all_eq_true.mp h c hc
  simp only [Bool.or_eq_true] at this
  rcases this with q | q
  · have := low_lt q; omega
  · have := upp_lt q; omega
theorem name_all {z : Str} (h : nameS z = true) : 1 ≤ z.length ∧ z.length ≤ 4 ∧ z.cps.toList.all isLow = true := by
  simpa [nameS, and_assoc] using h
theorem name_piece {z : Str} (h : nameS z = true) : pieceS z = true := by
  have := (name_all h).2.2
  unfold pieceS
  rw [List.all_eq_true] at this ⊢
  intro c hc
  rw [this c hc]; rfl
theorem name_ok {z : Str} (h : nameS z = true) : PyData.strOk z = true := piece_ok (name_piece h)
theorem piece_app {a b : Str} (h1 : pieceS a = true) (h2 : pieceS b = true) : pieceS (a ++ b) = true := by
  unfold pieceS at *
  have : (a ++ b).cps.toList = a.cps.toList ++ b.cps.toList := sg_append a b
  rw [this, List.all_append, h1, h2]; rfl
theorem len_app (a b : Str) : (a ++ b).length = a.length + b.length := by
  rw [← sg_len, sg_append, List.length_append, sg_len, sg_len]
theorem items_row : ∀ {p : Str} {ms : List It2} {n : Nat}, RowOk p ms → n % 2 = 0 → itemsFrom n (rowL p ms) = true
  | p, [], n, h, hn => by
    show ((if n % 2 = 1 then isMarker (.str p) else isPiece (.str p)) && true) = true
    rw [if_neg (by omega), Bool.and_true]; exact h.p0
  | p, x :: ms, n, h, hn => by
    show ((if n % 2 = 1 then isMarker (.str p) else isPiece (.str p)) && ((if (n + 1) % 2 = 1 then isMarker (mkD x.1) else isPiece (mkD x.1)) && itemsFrom (n + 1 + 1) (rowL x.2 ms))) = true
    rw [if_neg (by omega), if_pos (by omega), items_row (p := x.2) (ms := ms) ⟨h.pc x List.mem_cons_self, fun y hy => h.nm y (List.mem_cons_of_mem _ hy), fun y hy => h.pc y (List.mem_cons_of_mem _ hy)⟩ (by omega)]
    rw [Bool.and_true, Bool.and_eq_true]
    refine ⟨h.p0, ?_⟩
    show (isName (.str x.1.1) && isBl (.bl x.1.2)) = true
    rw [Bool.and_eq_true]
    exact ⟨h.nm x List.mem_cons_self, rfl⟩
theorem RowOk.tail {p : Str} {x : It2} {ms : List It2} (h : RowOk p (x :: ms)) : RowOk x.2 ms := ⟨h.pc x List.mem_cons_self, fun y hy => h.nm y (List.mem_cons_of_mem _ hy), fun y hy => h.pc y (List.mem_cons_of_mem _ hy)⟩
theorem isRow_row {p : Str} {ms : List It2} (h : RowOk p ms) : isRow (.lst (rowL p ms)) = true ∧ isRow (.tup (rowL p ms)) = true := by
  have h2 := items_row (n := 0) h rfl
  have h3 := rowL_len p ms
  constructor
  · show (decide ((rowL p ms).length % 2 = 1) && itemsFrom 0 (rowL p ms)) = true
    rw [h2, h3]; simp
  · show (decide ((rowL p ms).length % 2 = 1) && itemsFrom 0 (rowL p ms)) = true
    rw [h2, h3]; simp
theorem mem_row : ∀ {p : Str} {ms : List It2} {d : D}, d ∈ rowL p ms → d = .str p ∨ ∃ x ∈ ms, d = mkD x.1 ∨ d = .str x.2
  | p, ms, d, h => by
    rcases List.mem_cons.mp h with h | h
    · exact .inl h
    · obtain ⟨x, hx, h⟩ := List.mem_flatMap.mp h
      simp [itD] at h
      exact .inr ⟨x, hx, h⟩
theorem okDs_row {K : PySem.W.Frag} {p : Str} {ms : List It2} (h : RowOk p ms) (hw : rowW p ms < big) : OkDs K (rowL p ms) := by
  refine okDs_of fun d hd => ?_
  unfold rowW at hw
  rcases mem_row hd with rfl | ⟨x, hx, rfl | rfl⟩
  · simp only [OkD]; exact ⟨by omega, piece_ok h.p0⟩
  · have hn := h.nm x hx
    simp only [mkD, OkD, OkDs]
    exact ⟨Nat.le_of_ble_eq_true rfl, ⟨Nat.lt_of_le_of_lt (name_all hn).2.1 (by decide), name_ok hn⟩, trivial, trivial⟩
  · have := lets_mem hx
    simp only [OkD]; exact ⟨by omega, piece_ok (h.pc x hx)⟩
theorem okL_row {K : PySem.W.Frag} {p : Str} {ms : List It2} (h : RowOk p ms) (hw : rowW p ms < big) (hl : ms.length < 1000000) : OkD K (.lst (rowL p ms)) := by
  simp only [OkD]; exact ⟨by rw [rowL_len]; exact Nat.lt_of_lt_of_le (show 2 * ms.length + 1 < 3000000 by omega) (by decide), okDs_row h hw⟩
theorem okT_row {K : PySem.W.Frag} {p : Str} {ms : List It2} (h : RowOk p ms) (hw : rowW p ms < big) (hl : ms.length < 1000000) : OkD K (.tup (rowL p ms)) := by
  simp only [OkD]; exact ⟨by rw [rowL_len]; exact Nat.lt_of_lt_of_le (show 2 * ms.length + 1 < 3000000 by omega) (by decide), okDs_row h hw⟩
/-- a list or a tuple of these items -/
def SeqD (d : D) (xs : List D) : Prop := d = .lst xs ∨ d = .tup xs
theorem seq_ok {K : PySem.W.Frag} {d : D} {p : Str} {ms : List It2} (hd : SeqD d (rowL p ms)) (h : RowOk p ms) (hw : rowW p ms < big) (hl : ms.length < 1000000) : OkD K d := by
  rcases hd with rfl | rfl
  · exact okL_row h hw hl
  · exact okT_row h hw hl
theorem seq_row {d : D} {p : Str} {ms : List It2} (hd : SeqD d (rowL p ms)) (h : RowOk p ms) : isRow d = true := by
  rcases hd with rfl | rfl
  · exact (isRow_row h).1
  · exact (isRow_row h).2
theorem nice_row {p : Str} {ms : List It2} (h : RowOk p ms) : niceAll (rowL p ms) = true := niceAll_iff.mpr fun d hd => by
  rcases mem_row hd with rfl | ⟨x, hx, rfl | rfl⟩
  · exact piece_ok h.p0
  · show (PyData.strOk x.1.1 && (true && true)) = true
    rw [name_ok (h.nm x hx)]; rfl
  · exact piece_ok (h.pc x hx)
theorem dp_row (p : Str) (ms : List It2) : dpDs (rowL p ms) ≤ 1 := dpDs_le.mpr fun d hd => by
  rcases mem_row hd with rfl | ⟨x, hx, rfl | rfl⟩
  · exact Nat.zero_le _
  · exact Nat.le_refl _
  · exact Nat.zero_le _
theorem w_row : ∀ {p : Str} {ms : List It2}, (∀ x ∈ ms, nameS x.1.1 = true) → wDs (rowL p ms) ≤ rowW p ms + 8 * ms.length + 1
  | p, [], _ => by simp [rowL, wDs, wD, rowW, lets]
  | p, x :: ms, h => by
    have h1 := w_row (p := x.2) (ms := ms) fun y hy => h y (List.mem_cons_of_mem _ hy)
    have h2 := (name_all (h x List.mem_cons_self)).2.1
    show wD (.str p) + 1 + (wD (mkD x.1) + 1 + wDs (rowL x.2 ms)) ≤ _
    have e1 : wD (mkD x.1) = x.1.1.length + 1 + (0 + 1 + 0) := rfl
    have e2 : wD (.str p) = p.length := rfl
    unfold rowW at *
    rw [lets_cons]
    simp only [List.length_cons]
    omega
theorem show_row {p : Str} {ms : List It2} (h : RowOk p ms) (hw : rowW p ms ≤ 100000) (hl : ms.length ≤ 100000) : okShow (.lst (rowL p ms)) = true := by
  have h3 := w_row (p := p) h.nm
  refine nice_show (by simpa only [nice] using nice_row h) ?_ ?_
  · have := dp_row p ms
    simp only [dpD]; omega
  · simp only [wD]; omega
theorem row_nice {p : Str} {ms : List It2} (h : RowOk p ms) : nice (.lst (rowL p ms)) = true ∧ dpD (.lst (rowL p ms)) ≤ 60 := by
  refine ⟨by simpa only [nice] using nice_row h, ?_⟩
  have := dp_row p ms
  simp only [dpD]; omega
/-! ### slices from and to a place -/
theorem cutL_from {α : Type} (xs : List α) (k : Nat) : cutL xs (some (k : Int)) none = xs.drop k := by
  unfold cutL
  rw [HT.sIx_nat, HT.sIx_none]
  by_cases h : k ≤ xs.length
  · rw [show min k xs.length = k by omega, List.take_of_length_le (by rw [List.length_drop]; exact Nat.le_refl _)]
  · rw [show min k xs.length = xs.length by omega, Nat.sub_self, List.take_zero, List.drop_eq_nil_of_le (by omega)]
theorem cutL_to {α : Type} (xs : List α) (k : Nat) : cutL xs none (some (k : Int)) = xs.take k := by
  unfold cutL
  rw [HT.sIx_nat, HT.sIx_none, List.drop_zero, Nat.sub_zero]
  by_cases h : k ≤ xs.length
  · rw [show min k xs.length = k by omega]
  · rw [show min k xs.length = xs.length by omega, List.take_of_length_le (Nat.le_refl _), List.take_of_length_le (by omega)]
theorem inF_ints (i : Int) (gs : List Int) : inF (.int i) (gs.map .int) = decide (i ∈ gs) := by
  unfold inF
  rw [List.map_map]
  have e : (gs.map (D.v ∘ D.int)) = gs.map V.int := by simp [Function.comp_def, D.v]
  rw [e]
  show (gs.map V.int).any (fun y => eqV y (.int i)) = _
  induction gs with
  | nil => rfl
  | cons g gs ih =>
    rw [List.map_cons, List.any_cons, ih (by simp [Function.comp_def, D.v])]
    by_cases h : g = i
    · subst h; simp [eqV]
    · have h' : ¬ i = g := fun z => h z.symm
      simp [eqV, h, h']
/-! ### markers removed -/
def rem (f : Nat → Bool) : Nat → Str → List It2 → Str × List It2
  | _, p, [] => (p, [])
  | i, p, x :: r => if f i then rem f (i + 1) (p ++ x.2) r else (p, (x.1, (rem f (i + 1) x.2 r).1) :: (rem f (i + 1) x.2 r).2)
theorem str_ext {a b : Str} (h : sg a = sg b) : a = b := by
  cases a with | mk a => cases b with | mk b => exact congrArg Str.mk (by simpa [sg] using h)
theorem app_assoc (a b c : Str) : a ++ b ++ c = a ++ (b ++ c) := str_ext (by simp only [sg_append, List.append_assoc])
theorem rem_app (f : Nat → Bool) : ∀ (r : List It2) (i : Nat) (a p : Str), rem f i (a ++ p) r = (a ++ (rem f i p r).1, (rem f i p r).2)
  | [], _, _, _ => rfl
  | x :: r, i, a, p => by
    unfold rem
    by_cases h : f i
    · rw [if_pos h, if_pos h, app_assoc, rem_app f r]
    · rw [if_neg h, if_neg h]
theorem rem_ok (f : Nat → Bool) : ∀ {ms : List It2} {i : Nat} {p : Str}, RowOk p ms → RowOk (rem f i p ms).1 (rem f i p ms).2
  | [], _, _, h => h
  | x :: r, i, p, h => by
    unfold rem
    by_cases hf : f i
    · rw [if_pos hf]
      exact rem_ok f ⟨piece_app h.p0 (h.pc x List.mem_cons_self), h.tail.nm, h.tail.pc⟩
    · rw [if_neg hf]
      have ih := rem_ok f (i := i + 1) h.tail
      refine ⟨h.p0, fun y hy => ?_, fun y hy => ?_⟩
      · rcases List.mem_cons.mp hy with rfl | hy
        · exact h.nm x List.mem_cons_self
        · exact ih.nm y hy
      · rcases List.mem_cons.mp hy with rfl | hy
        · exact ih.p0
        · exact ih.pc y hy
theorem rem_w (f : Nat → Bool) : ∀ (ms : List It2) (i : Nat) (p : Str), rowW (rem f i p ms).1 (rem f i p ms).2 = rowW p ms ∧ (rem f i p ms).2.length ≤ ms.length
  | [], _, _ => ⟨rfl, Nat.le_refl _⟩
  | x :: r, i, p => by
    unfold rem
    by_cases hf : f i
    · rw [if_pos hf]
      obtain ⟨h1, h2⟩ := rem_w f r (i + 1) (p ++ x.2)
      refine ⟨?_, by simp only [List.length_cons]; omega⟩
      rw [h1]; unfold rowW; rw [len_app, lets_cons]; omega
    · rw [if_neg hf]
      obtain ⟨h1, h2⟩ := rem_w f r (i + 1) x.2
      refine ⟨?_, by simp only [List.length_cons]; omega⟩
      have e : lets ((x.1, (rem f (i + 1) x.2 r).1) :: (rem f (i + 1) x.2 r).2) = (rem f (i + 1) x.2 r).1.length + lets (rem f (i + 1) x.2 r).2 := lets_cons _ _
      unfold rowW at *
      show p.length + lets ((x.1, (rem f (i + 1) x.2 r).1) :: (rem f (i + 1) x.2 r).2) = p.length + lets (x :: r)
      rw [e, lets_cons]
      omega
theorem rem_congr {f g : Nat → Bool} : ∀ (ms : List It2) (i : Nat) (p : Str), (∀ k, i ≤ k → k < i + ms.length → f k = g k) → rem f i p ms = rem g i p ms
  | [], _, _, _ => rfl
  | x :: r, i, p, h => by
    unfold rem
    have h1 := h i (Nat.le_refl _) (by simp)
    have h2 : ∀ q, rem f (i + 1) q r = rem g (i + 1) q r := fun q => rem_congr r (i + 1) q fun k a b => h k (by omega) (by simp only [List.length_cons]; omega)
    rw [h1, h2, h2]
theorem rem_none {f : Nat → Bool} : ∀ (ms : List It2) (i : Nat) (p : Str), (∀ k, i ≤ k → k < i + ms.length → f k = false) → rem f i p ms = (p, ms)
  | [], _, _, _ => rfl
  | x :: r, i, p, h => by
    unfold rem
    rw [h i (Nat.le_refl _) (by simp), rem_none r (i + 1) x.2 fun k a b => h k (by omega) (by simp only [List.length_cons]; omega)]
    rfl
def remL (f : Nat → Bool) (p : Str) (ms : List It2) : List D := rowL (rem f 0 p ms).1 (rem f 0 p ms).2
/-- forward, with what is done -/
def remF (f : Nat → Bool) : List D → Str → Nat → List It2 → List D
  | done, cur, _, [] => done ++ [.str cur]
  | done, cur, i, x :: r => if f i then remF f done (cur ++ x.2) (i + 1) r else remF f (done ++ [.str cur, mkD x.1]) x.2 (i + 1) r
theorem remF_eq (f : Nat → Bool) : ∀ (ms : List It2) (done : List D) (cur : Str) (i : Nat), remF f done cur i ms = done ++ rowL (rem f i cur ms).1 (rem f i cur ms).2
  | [], _, _, _ => rfl
  | x :: r, done, cur, i => by
    unfold remF rem
    by_cases h : f i
    · rw [if_pos h, if_pos h, remF_eq f r]
    · rw [if_neg h, if_neg h, remF_eq f r, List.append_assoc]; rfl
/-! ### the numbers that are removed -/
def goneOf (names : List Str) : List Int := (numsFrom [] 0 names).flatMap fun kv => if kv.2.length = 1 then kv.2 else kv.2.drop 2
def inI (gs : List Int) (i : Nat) : Bool := decide ((i : Int) ∈ gs)
/-! ### own things lent for a look -/
def lendS : Sl → Sl
  | .no => .no
  | .sh d => .sh d
  | .ow o => .sh o.d
  | .bx _ _ => .no
  | .mo _ _ => .no
def lend (δ : List Sl) : List Sl := δ.map lendS
section
variable {K : PySem.W.Frag} {M : List Addr} {L : List (Addr × HO)} {G0 H0 G H : Hp} {σ : L2.St} {δ : List Sl} {te : TE} {tt : TT}
open Classical in
theorem Cur.lent (c : Cur K M L G0 H0 G H σ δ) : ∃ G1, Cur K [] [] G1 H G1 H σ (lend δ) := by
  let G1 : Hp := fun a => if ∃ (i : Nat) (o : OD), δ[i]? = some (Sl.ow o) ∧ σ[i]? = some (some (V.ref a)) then H a else G a
  have own : ∀ a, (∃ (i : Nat) (o : OD), δ[i]? = some (Sl.ow o) ∧ σ[i]? = some (some (V.ref a))) → G1 a = H a ∧ G a = none := fun a h => by
    refine ⟨if_pos h, ?_⟩
    obtain ⟨i, o, h1, h2⟩ := h
    obtain ⟨x, ex, b, e1, n, _⟩ := c.ok i _ h1
    rw [ex] at h2; subst e1; cases h2; exact n
  have s : Same G G1 := fun a u e => by
    by_cases h : ∃ (i : Nat) (o : OD), δ[i]? = some (Sl.ow o) ∧ σ[i]? = some (some (V.ref a))
    · rw [(own a h).2] at e; cases e
    · show (if _ then H a else G a) = _
      rw [if_neg h]; exact e
  have sh : Same G1 H := fun a u e => by
    by_cases h : ∃ (i : Nat) (o : OD), δ[i]? = some (Sl.ow o) ∧ σ[i]? = some (some (V.ref a))
    · rw [(own a h).1] at e; exact e
    · have : G1 a = G a := if_neg h
      rw [this] at e; exact c.gh _ _ e
  have no : ∀ (i : Nat) (t : Sl), (lend δ)[i]? = some t → t.own = false := fun i t h => by
    unfold lend at h
    rw [List.getElem?_map] at h
    cases q : δ[i]? with
    | none => rw [q] at h; cases h
    | some s => rw [q] at h; cases h; cases s <;> rfl
  refine ⟨G1, .refl sh, by simp [lend, c.len], fun i t h => ?_, fun i j s t a ne h1 h2 o1 => ?_, fun p hp => by cases hp⟩
  · unfold lend at h
    rw [List.getElem?_map] at h
    cases q : δ[i]? with
    | none => rw [q] at h; cases h
    | some s0 =>
      rw [q] at h; cases h
      obtain ⟨x, ex, w⟩ := c.ok i s0 q
      refine ⟨x, ex, ?_⟩
      cases s0 with
      | no => trivial
      | sh d => obtain ⟨v, e, r⟩ := w; exact ⟨v, e, r.mono s⟩
      | ow o =>
        obtain ⟨a, e, n, h0, r⟩ := w
        subst e
        refine ⟨.ref a, rfl, ?_⟩
        have e1 := (own a ⟨i, o, q, ex⟩).1
        cases o with
        | lst ds => obtain ⟨xs, hx, rx⟩ := r; exact rep_lst (e1.trans hx) (rx.mono s)
        | dic ds => obtain ⟨xs, hx, rx⟩ := r; exact rep_dic (e1.trans hx) (rx.mono s)
        | ins C ds => obtain ⟨dx, xs, hx, rx⟩ := r; exact rep_ins (e1.trans hx) (rx.mono s)
      | bx b n => trivial
      | mo b o => trivial
  · rw [no i s h1] at o1; cases o1
theorem Cur.back (c : Cur K M L G0 H0 G H σ δ) {G1 G2 H2 : Hp} (g : Grow [] G1 H G2 H2) : Cur K M L G0 H0 G H2 σ δ :=
  c.grow ⟨.refl _, fun a u e => g.h a u (c.gh a u e) (by simp), fun a u e _ => g.h a u e (by simp), g.dom, fun _ _ => rfl⟩
theorem ev_lend {Φ : D → List Sl → Prop} (h : EvD K te (lend δ) fun d _ => d.isFlat = true ∧ Φ d δ) : EvD K te δ Φ := fun M L G0 H0 G H σ c Q q => by
  obtain ⟨G1, c1⟩ := c.lent
  exact h [] [] G1 H G1 H σ c1 Q fun d δ' v G2 H2 s c2 r ⟨fl, k⟩ => q d δ v G H2 (.refl _) (c.back c2.gr) (rep_flat fl r) k
theorem et_lend {Ψ : Bool → List Sl → Prop} (h : EvT K tt (lend δ) fun b _ => Ψ b δ) : EvT K tt δ Ψ := fun M L G0 H0 G H σ c Q q => by
  obtain ⟨G1, c1⟩ := c.lent
  exact h [] [] G1 H G1 H σ c1 Q fun b δ' G2 H2 s c2 k => q b δ G H2 (.refl _) (c.back c2.gr) k
end
/-! ### promises -/
def A_remove_markers (K : PySem.W.Frag) : FS := fun ds post => ∃ (d e : D) (p : Str) (ms : List It2) (gs : List Int), ds = [d, e] ∧ SeqD d (rowL p ms) ∧ SeqD e (gs.map .int) ∧ rowW p ms ≤ 1000000 ∧ ms.length ≤ 1000000 ∧ post (.new (.lst (remL (inI gs) p ms)))
def A_without_markers (K : PySem.W.Frag) : FS := fun ds post => ∃ (d e : D) (p : Str) (ms : List It2) (gs : List Int), ds = [d, e] ∧ SeqD d (rowL p ms) ∧ SeqD e (gs.map .int) ∧ RowOk p ms ∧ rowW p ms ≤ 100000 ∧ ms.length ≤ 100000 ∧ gs.length ≤ 100000 ∧ (∀ g : Int, g ∈ gs → 0 ≤ g ∧ g < (ms.length : Int)) ∧ post (.new (.lst (remL (inI gs) p ms)))
def A_marker_numbers (K : PySem.W.Frag) : FS := fun ds post => ∃ d p ms, ds = [d] ∧ SeqD d (rowL p ms) ∧ ms.length < big ∧ post (.new (.dic (numsD (numsFrom [] 0 (ms.map fun x => x.1.1)))))
def A_clean_row (K : PySem.W.Frag) : FS := fun ds post => ∃ d p ms, ds = [d] ∧ SeqD d (rowL p ms) ∧ RowOk p ms ∧ rowW p ms ≤ 100000 ∧ ms.length ≤ 100000 ∧ post (.new (.lst (remL (inI (goneOf (ms.map fun x => x.1.1))) p ms)))
/-! ### what the laws draw -/
def A_law_names : FX := fun n ds post => ∃ many : Int, ds = [.int many] ∧ 0 ≤ many ∧ many ≤ 26 ∧ n + 10 ≤ lim ∧ ∀ ys : List Str, (ys.length : Int) = many → (∀ y ∈ ys, nameS y = true) → ys.Nodup → post (.new (.lst (ys.map .str))) (n + 10)
def A_law_piece : FX := fun n ds post => ds = [] ∧ n + 50 ≤ lim ∧ ∀ z : Str, z.length ≤ 40 → pieceS z = true → post (.val (.str z)) (n + 50)
end Ms

/-! Lay18: any target of an assignment; comprehensions over a range; texts by their signs; names of a law. -/
namespace Ms
open PySem PySem.Spec PyProof.Rows L2
section
variable {K : PySem.W.Frag} {δ : List Sl} {te : TE} {P : Po} {t : TA} {j : Nat} {Θ : OD → List Sl → Prop}
theorem sd_asgT {g : TG} {js : List Nat} (h : EvD K te δ fun d δ1 => TgD K js g d δ1 P.nx) : SD K (tAsg te g) δ P := fun M L G0 H0 G H σ E c n r b ct =>
  h M L G0 H0 G H σ c _ fun d δ1 v G1 H1 s1 c1 r1 k => k M L G0 H0 G1 H1 σ v c1 r1 _ fun δ2 σ2 G2 H2 s2 c2 _ _ p => n δ2 σ2 G2 H2 (s1.trans s2) c2 p
/-- [f(i) for i in range(n)] -/
theorem en_lcR (f : Nat → D) (h : EvA K t δ fun xs δ1 => ∃ n : Int, xs = [.int n] ∧ 0 ≤ n ∧ n < 10000000 ∧ noOwn δ1 [j] = true ∧
      (∀ (i : Nat), i < n.toNat → EvD K te ((wipeS δ1 [j]).set j (.sh (.int (i : Nat)))) fun y δ3 => y = f i ∧ wipeS δ3 [j] = wipeS δ1 [j]) ∧ Θ (.lst ((List.range n.toNat).map f)) δ1) : EvN K (tLc (iRng1 t) (gName j) tYes te [j]) δ Θ := by
  refine en_lcM (js := [j]) (fun x => match x with | .int i => f i.toNat | _ => .non) (by simp) (ei_range1 fun M L G0 H0 G H σ c Q q => h M L G0 H0 G H σ c Q fun d δ1 v G1 H1 s1 c1 r1 ⟨n, e, n0, n1, no, hc, k⟩ => q d δ1 v G1 H1 s1 c1 r1 ⟨n, e, by omega, by omega, noOwn_ok no, ?_, fun i x ex => ?_, ?_⟩)
  · rw [rangeD_len]; exact Nat.lt_of_lt_of_le (by omega : n.toNat < 10000000) (by decide)
  · have hi : i < n.toNat := by
      have := (List.getElem?_eq_some_iff.mp ex).1
      rw [rangeD_len] at this; exact this
    rw [rangeD_get _ _ _ hi] at ex
    have ex' : x = .int (i : Nat) := by
      have := Option.some.inj ex
      rw [← this]; simp
    subst ex'
    exact tg_name (hc i hi)
  · unfold rangeD
    rw [List.map_map]
    have e2 : ((fun x : D => match x with | .int i => f i.toNat | _ => .non) ∘ fun i : Nat => D.int (0 + (i : Nat))) = f := by
      funext i
      show f (0 + (i : Int)).toNat = f i
      congr 1; omega
    rw [e2]; exact k
end
/-! ### texts by their signs -/
theorem sg_cut (z : Str) (lo hi : Option Int) : sg (cutS z lo hi) = cutL (sg z) lo hi := by
  unfold cutS cutL
  rw [sg_len]
theorem sg_to (z : Str) (k : Nat) : sg (cutS z none (some (k : Int))) = (sg z).take k := by rw [sg_cut, cutL_to]
theorem sg_from (z : Str) (k : Nat) : sg (cutS z (some (k : Int)) none) = (sg z).drop k := by rw [sg_cut, cutL_from]
theorem cut_len (z : Str) (lo hi : Option Int) : (cutS z lo hi).length ≤ z.length := by
  rw [← sg_len, sg_cut, ← sg_len z]; exact cutL_len _ _ _
theorem nameS_of {z : Str} (h1 : 1 ≤ (sg z).length) (h2 : (sg z).length ≤ 4) (h3 : ∀ c ∈ sg z, isLow c = true) : nameS z = true := by
  rw [sg_len] at h1 h2
  unfold nameS
  rw [show z.cps.toList.all isLow = true from List.all_eq_true.mpr h3]
  simp [h1, h2]
theorem nodup_rangeMap {α : Type} {n : Nat} {g : Nat → α} (h : ∀ i j, i < n → j < n → g i = g j → i = j) : ((List.range n).map g).Nodup := by
  unfold List.Nodup
  rw [List.pairwise_map]
  refine List.Pairwise.imp_of_mem (fun {a b} ha hb hab e => hab (h a b (by simpa using ha) (by simpa using hb) e)) List.nodup_range
theorem signs_of {P : Nat → Prop} : ∀ {acc : List D}, (∀ y ∈ acc, ∃ c : Nat, y = .str ⟨#[c]⟩ ∧ P c) → ∃ cs : List Nat, acc = cs.map (fun c => D.str ⟨#[c]⟩) ∧ ∀ c ∈ cs, P c
  | [], _ => ⟨[], rfl, by simp⟩
  | y :: ys, h => by
    obtain ⟨cs, e1, e2⟩ := signs_of fun y hy => h y (List.mem_cons_of_mem _ hy)
    obtain ⟨c, e3, e4⟩ := h y List.mem_cons_self
    refine ⟨c :: cs, by rw [e3, e1]; rfl, fun x hx => ?_⟩
    rcases List.mem_cons.mp hx with rfl | hx
    · exact e4
    · exact e2 x hx
theorem sum_ones : ∀ l : List Nat, ((l.map fun c => (⟨#[c]⟩ : Str)).map (·.length)).sum = l.length
  | [] => rfl
  | a :: l => by
    have := sum_ones l
    simp only [List.map_cons, List.sum_cons, List.length_cons, this]
    have e : (⟨#[a]⟩ : Str).length = 1 := rfl
    rw [e]; omega
/-- ''.join of single signs -/
theorem join_signs {K : PySem.W.Frag} {Ψ : D → Prop} {cs : List Nat} (h : cs.length ≤ 1000000) (k : Ψ (.str ⟨cs.toArray⟩)) : RMD K "str" (rJoin K) (.str "") [.lst (cs.map fun c => D.str ⟨#[c]⟩)] Ψ := by
  refine join_l (ys := cs.map fun c => (⟨#[c]⟩ : Str)) (by rw [List.map_map]; rfl) ?_ ?_
  · rw [sum_ones, List.length_map]
    have e3 : (Str.ofString "").length = 0 := rfl
    rw [show ("" : Str).length = 0 from e3]; omega
  · rw [join0_signs]; exact k
/-! ### letters -/
def ltr (r : Int) : Nat := 97 + (r % 26).toNat
theorem low_sg : sg "abcdefghijklmnopqrstuvwxyz" = (List.range 26).map fun i => 97 + i := by decide +kernel
theorem low_at {r : Int} (h0 : 0 ≤ r) (h1 : r < 26) : atI (sg "abcdefghijklmnopqrstuvwxyz") r = some (97 + r.toNat) := by
  rw [low_sg]
  unfold atI ixN
  rw [if_pos h0, List.length_map, List.length_range, if_pos (by omega)]
  show ((List.range 26).map fun i => 97 + i)[r.toNat]? = _
  rw [List.getElem?_map, List.getElem?_range (by omega)]
  rfl
theorem low_is {i : Nat} (h : i < 26) : isLow (97 + i) = true := by
  unfold isLow
  rw [decide_eq_true_eq]
  show 97 + i ∈ sg "abcdefghijklmnopqrstuvwxyz"
  rw [low_sg, List.mem_map]
  exact ⟨i, by simpa using h, rfl⟩
theorem ltr_low (r : Int) : isLow (ltr r) = true := low_is (by have := Int.emod_lt_of_pos r (show (0 : Int) < 26 by decide); have := Int.emod_nonneg r (show (26 : Int) ≠ 0 by decide); omega)
theorem ltr_inj {first step : Int} (hs : step = 1 ∨ step = 3 ∨ step = 5 ∨ step = 7 ∨ step = 9 ∨ step = 11) {i j : Nat} (hi : i < 26) (hj : j < 26) (h : ltr (first + step * (i : Nat)) = ltr (first + step * (j : Nat))) : i = j := by
  unfold ltr at h
  rcases hs with rfl | rfl | rfl | rfl | rfl | rfl <;> omega
/-- the twelve words of two letters -/
def glued (x y : Nat) : List (List Nat) := [[x], [y], [x, y], [y, x], [x, x], [y, y], [x, y, x], [y, x, y], [x, x, y], [y, y, x], [x, y, x, y], [y, x, y, x]]
theorem glued_nodup {x y : Nat} (h : x ≠ y) : (glued x y).Nodup := by
  have h' : ¬ y = x := fun e => h e.symm
  simp [glued, h, h']
theorem glued_name {x y : Nat} (hx : isLow x = true) (hy : isLow y = true) : ∀ l ∈ glued x y, 1 ≤ l.length ∧ l.length ≤ 4 ∧ ∀ c ∈ l, isLow c = true := by
  intro l hl
  simp only [glued, List.mem_cons, List.not_mem_nil, or_false] at hl
  rcases hl with rfl | rfl | rfl | rfl | rfl | rfl | rfl | rfl | rfl | rfl | rfl | rfl <;> simp [hx, hy]
theorem app_signs (a b : List Nat) : (⟨a.toArray⟩ : Str) ++ (⟨b.toArray⟩ : Str) = ⟨(a ++ b).toArray⟩ := str_ext (by rw [sg_append])
theorem rowL_snoc (p : Str) (ms : List It2) (x : It2) : rowL p (ms ++ [x]) = rowL p ms ++ itD x := by
  unfold rowL
  rw [List.flatMap_append, List.flatMap_cons, List.flatMap_nil, List.append_nil]; rfl
theorem snoc_ind {α : Type} {P : List α → Prop} (h0 : P []) (hs : ∀ l a, P l → P (l ++ [a])) : ∀ l, P l := by
  intro l
  rw [← List.reverse_reverse l]
  induction l.reverse with
  | nil => exact h0
  | cons a r ih => rw [List.reverse_cons]; exact hs _ _ ih
end Ms

/-! Lay19: methods; len, str, repr by an own class; locked dicts: walked, read. -/
namespace Ms
open PySem PySem.Spec PyProof.Rows L2
/-! ### methods -/
structure Me (P : Program) (w : World) (K : PySem.W.Frag) (mg : Str → Option Value) (base : Heap) (k : Nat) (C : Addr) (m : Str) (ps : List Str) (sp : Sp) : Prop where
  ex : ∃ f fd, FnOk P w K mg base CX0 k f fd ps sp ∧ Meth K C m f ∧ Cls K C ∧ Binds K fd ps []
section
variable {X : Cx} {k : Nat} {C : Addr} {m : Str} {ps : List Str} {sp : Sp} {apos pos : Pos} {o e : Expr} {es : List Expr} {t : TA} {ta : TE}
theorem pe_me {pl : Sem Bool} (F : Me X.prog X.w X.K X.mg X.base k C m ps sp) (hr : Room k X.A) (he : PE X o ta) (ha : PA X (e :: es) t)
    (hst : starEach (e :: es) X.env = (false, eval e X.env) :: starEach es X.env := by rfl) (hpl : (backTo pos (starEach es X.env)).any (·.1) = false := by rfl)
    (ht : eval (.Call (.Attribute o m apos) (e :: es) [] pos) X.env = (do
      let ov ← eval o X.env
      standAt apos.atName
      let (f, first) ← holding [ov] (getMethod ov m pl)
      callWith pos f first (backTo pos (starEach (e :: es) X.env)) (backToKw pos (keywordEach [] X.env))) := by rfl) : PE X (.Call (.Attribute o m apos) (e :: es) [] pos) (tMeth C m sp [] E0 ta t) := by
  obtain ⟨f, fd, h1, h2, h3, h4⟩ := F.ex
  exact pe_meth (pl := pl) he h3 h2 h1 hr h4 .nil pass0 ha hst hpl ht
theorem pe_me0 {pl : Sem Bool} (F : Me X.prog X.w X.K X.mg X.base k C m ps sp) (hr : Room k X.A) (he : PE X o ta)
    (ht : eval (.Call (.Attribute o m apos) [] [] pos) X.env = (do
      let ov ← eval o X.env
      standAt apos.atName
      let (f, first) ← holding [ov] (getMethod ov m pl)
      callWith pos f first (backTo pos (starEach [] X.env)) (backToKw pos (keywordEach [] X.env))) := by rfl) : PE X (.Call (.Attribute o m apos) [] [] pos) (tMeth C m sp [] E0 ta tNil) := by
  obtain ⟨f, fd, h1, h2, h3, h4⟩ := F.ex
  exact pe_meth0 (pl := pl) he h3 h2 h1 hr h4 .nil pass0 ht
end
theorem me_mk {P : Program} {w : World} {K : PySem.W.Frag} {mg : Str → Option Value} {base : Heap} {k : Nat} {C : Addr} {m qual : Str} {params : Arguments} {body : List Stmt} {scope : Scope} {f : Addr} {N ps : List Str} {A : FS}
    (F : ∃ fd, FunD K m qual params body scope [] [] f fd) (M : Meth K C m f) (c : Cls K C) (S : FnScope N ps scope) (hlen : ∀ ds post, A ds post → ds.length = ps.length) (hpl : ps.length ≤ N.length)
    (hbind : ∀ (kV doc pm : Value) (an : Option Addr) (cdv ct : Value) (us : List Value), us.length = ps.length → bindArgs (PySem.W.fnOf m qual params body scope .none kV doc pm an cdv ct) ⟨us, []⟩ = pure (ps.zip us))
    (hb : ∀ (cdv : Value) (B : Around) (outer : List Env) (s : Shared) (H : Hp) (E : XK), Room k (B.deeper (envOfC qual scope s.heap.objs.size f cdv)) →
      ∃ t, PSs (cxOf CX0 P w K mg base N qual scope f cdv B outer s H E) body t ∧ ∀ ds post, A ds post → SD K t (initS N ds) { nx := fun _ => post (.val .non), rt := fun r _ => post r }) : Me P w K mg base (k + 1) C m ps (spG K A) := by
  obtain ⟨fd, F⟩ := F
  refine ⟨f, fd, F.ok S (fun vs H Q E h => ?_) (fun cdv B outer s H vs Q E hr h => ?_), M, c, F.bindsN hbind⟩
  · obtain ⟨G, ds, post, e, r, a, _⟩ := h
    rw [r.len, hlen ds post a]
  · obtain ⟨G, ds, post, e, r, a, k⟩ := h
    obtain ⟨t, ht, hs⟩ := hb cdv B outer s H E hr
    exact ⟨t, ht, liftG (by rw [hlen ds post a]; exact hpl) e r k (hs ds post a)⟩
section
variable {K : PySem.W.Frag} {δ : List Sl} {ta : TE} {t : TA} {C : Addr} {m : Str} {E : XK} {A : FS}
theorem RepF.lookN {G : Hp} {f : Str} : ∀ {ds : List (Str × D)} {vs : List (Str × V)}, RepF K G ds vs → ds.lookup f = none → vs.lookup f = none
  | [], _, h, _ => by rw [h.nil_inv]; rfl
  | (g, x) :: r, _, h, e => by
    obtain ⟨w, r', rfl, h1, h2⟩ := h.cons_inv
    rw [List.lookup_cons] at e ⊢
    cases q : (f == g) with
    | true => rw [q] at e; cases e
    | false => rw [q] at e; exact RepF.lookN h2 e
theorem ev_meth {Φ : D → List Sl → Prop} (h : EvD K ta δ fun x δ1 => ∃ fs, x = .ins C fs ∧ fs.lookup m = none ∧ EvA K t δ1 fun ds δ2 => A (.ins C fs :: ds) fun r => Φ r.d δ2) : EvD K (tMeth C m (spG K A) [] E ta t) δ Φ := fun M L G0 H0 G H σ c Q q =>
  h M L G0 H0 G H σ c _ fun x δ1 v G1 H1 s1 c1 r1 ⟨fs, ex, hn, h1⟩ => by
    subst ex
    obtain ⟨a, dx, xs, rfl, hx, rx⟩ := r1.ins_inv
    refine ⟨a, dx, xs, rfl, c1.gh _ _ hx, rx.lookN hn, h1 M L G0 H0 G1 H1 σ c1 _ fun ds δ2 vs G2 H2 s2 c2 r2 h2 => ?_⟩
    rw [List.append_nil]
    refine ⟨G2, _, _, c2.gh, .cons (r1.mono s2) r2, h2, fun r v G' H' g ok p => ?_⟩
    cases r with
    | val d => exact q d δ2 v G' H' ((s1.trans s2).trans g.g) (c2.grow g) ok p
    | new o =>
      obtain ⟨b, rfl, nb, n, w⟩ := ok
      obtain ⟨u, hu, rz⟩ := w.freeze n
      have f := c2.fresh nb
      exact q o.d δ2 _ _ H' (((s1.trans s2).trans g.g).trans (same_upd n)) ((c2.grow g).freezeNew n f.1 hu f.2.2.1 f.2.2.2) rz p
theorem en_meth {Φ : OD → List Sl → Prop} (h : EvD K ta δ fun x δ1 => ∃ fs, x = .ins C fs ∧ fs.lookup m = none ∧ EvA K t δ1 fun ds δ2 => A (.ins C fs :: ds) fun r => ∃ o, r = .new o ∧ Φ o δ2) : EvN K (tMeth C m (spG K A) [] E ta t) δ Φ := fun M L G0 H0 G H σ c Q q =>
  h M L G0 H0 G H σ c _ fun x δ1 v G1 H1 s1 c1 r1 ⟨fs, ex, hn, h1⟩ => by
    subst ex
    obtain ⟨a, dx, xs, rfl, hx, rx⟩ := r1.ins_inv
    refine ⟨a, dx, xs, rfl, c1.gh _ _ hx, rx.lookN hn, h1 M L G0 H0 G1 H1 σ c1 _ fun ds δ2 vs G2 H2 s2 c2 r2 h2 => ?_⟩
    rw [List.append_nil]
    refine ⟨G2, _, _, c2.gh, .cons (r1.mono s2) r2, h2, fun r v G' H' g ok ⟨o, e, p⟩ => ?_⟩
    subst e
    obtain ⟨b, rfl, nb, n, w⟩ := ok
    have f := c2.fresh nb
    exact q o δ2 _ _ H' ((s1.trans s2).trans g.g) (c2.grow g) n f.1 w f.2.2.1 f.2.2.2 p
end
/-! ### len(x), str(x), repr(x), x of an own class -/
def rOwn (C : Addr) (sp : Sp) (P : V → Prop) : List V → Hp → VK → Prop := fun xs H Q => ∃ a dx fs, xs = [.ref a] ∧ H a = some (.ins C dx fs) ∧ sp [.ref a] H (fun v H' => P v ∧ Q v H') E0
section
variable {X : Cx} {k : Nat} {C : Addr} {ps : List Str} {sp : Sp}
theorem own_run {m : Str} {f : Addr} {fd : FuncData} (F : FnOk X.prog X.w X.K X.mg X.base CX0 k f fd ps sp) (hb : Binds X.K fd ps []) {A : Around} (hf : A.frames = X.A.frames) (hr : Room k A) {pins : List (Addr × Obj)} {s : Shared} {σ : L2.St} {H : Hp} {a : Addr} {Q : VK} (I : Inv X pins σ H s) (q : sp [.ref a] H Q E0) :
    wpAny (model X.prog X.w) A (call (.ref f) [.ref a]) (EP X pins σ Q) X.xe s := by
  have e0 : Env0 X.prog X.w X.K X.mg X.base A X.stack s H := by
    have e := I.env0
    exact ⟨by rw [hf]; exact e.frames, e.mod, e.bs, e.bsz, e.funs, e.frf, e.hok, e.bare⟩
  have hl := F.len _ _ _ _ q
  refine wpAny_call (codeAny_mono (F.run A X.stack s H ⟨[.ref a], []⟩ [.ref a] [.ref a] _ E0 hr e0 (by
    have := hb s [.ref a] I.kIn (by simpa using hl)
    simpa using this) (.cons rfl .nil) q) fun r s' hq => ?_)
  cases r with
  | error e => exact hq.elim
  | ok fl =>
    cases fl with
    | ret w => exact I.after hq
    | next => exact hq.elim
    | brk => exact hq.elim
    | cont => exact hq.elim
theorem call_lenOwn (F : Me X.prog X.w X.K X.mg X.base k C "__len__" ps sp) (hr : Room (k + 1) X.A) : CallR X (.builtin "len") (rOwn C sp fun v => ∃ n : Int, v = .int n ∧ 0 ≤ n ∧ n < 2 ^ 63) := by
  intro pins s σ H xs us Q I r h
  obtain ⟨a, dx, fs, rfl, ha, q⟩ := h
  obtain ⟨u, rfl, ru⟩ := r.one
  cases ru
  obtain ⟨f, fd, h1, h2, h3, h4⟩ := F.ex
  obtain ⟨mA, J, _⟩ := ins_get I.hok ha
  obtain ⟨od, J, _⟩ := J.look
  obtain ⟨m, hF⟩ := I.fr
  refine PySem.W.len_K hF I.ok.mod.kin J h2.at_ h2.fn (wpAny_mono (own_run (m := "__len__") (A := X.A.in1) h1 h4 rfl hr.in1 I q) (fun v s' z => ?_) fun _ _ x => x)
  obtain ⟨y, H', I', ry, ⟨n, e, n0, n1⟩, qq⟩ := z
  subst e
  obtain ⟨tk, rfl⟩ := ry
  exact ⟨⟨n0, n1⟩, .int n, H', I'.tok _, ⟨_, rfl⟩, qq⟩
theorem call_reprOwn (F : Me X.prog X.w X.K X.mg X.base k C "__repr__" ps sp) (hr : Room (k + 1) X.A) : CallR X (.builtin "repr") (rOwn C sp fun v => ∃ z : Str, v = .str z) := by
  intro pins s σ H xs us Q I r h
  obtain ⟨a, dx, fs, rfl, ha, q⟩ := h
  obtain ⟨u, rfl, ru⟩ := r.one
  cases ru
  obtain ⟨f, fd, h1, h2, h3, h4⟩ := F.ex
  obtain ⟨mA, J, _⟩ := ins_get I.hok ha
  obtain ⟨od, J, _⟩ := J.look
  obtain ⟨m, hF⟩ := I.fr
  refine PySem.W.repr_K hr.in1.units0 hF I.ok.mod.kin J h2.at_ h2.fn (wpAny_mono (own_run (m := "__repr__") (A := X.A.in1) h1 h4 rfl hr.in1 I q) (fun v s' z => ?_) fun _ _ x => x)
  obtain ⟨y, H', I', ry, ⟨n, e⟩, qq⟩ := z
  subst e
  obtain ⟨tk, rfl⟩ := ry
  exact ⟨.str n, H', I', ⟨_, rfl⟩, qq⟩
theorem call_strOwn (F : Me X.prog X.w X.K X.mg X.base k C "__str__" ps sp) (hr : Room (k + 2) X.A) : CallR X (.type "str") (rOwn C sp fun v => ∃ z : Str, v = .str z) := by
  intro pins s σ H xs us Q I r h
  obtain ⟨a, dx, fs, rfl, ha, q⟩ := h
  obtain ⟨u, rfl, ru⟩ := r.one
  cases ru
  obtain ⟨f, fd, h1, h2, h3, h4⟩ := F.ex
  obtain ⟨mA, J, _⟩ := ins_get I.hok ha
  obtain ⟨od, J, _⟩ := J.look
  refine PySem.W.kso_call hr.in1.in1.units0 I.kIn J h2.at_ h2.fn (wpAny_mono (own_run (m := "__str__") (A := X.A.in1.in1) h1 h4 rfl hr.in1.in1 I q) (fun v s' z => ?_) fun _ _ x => x)
  obtain ⟨y, H', I', ry, ⟨n, e⟩, qq⟩ := z
  subst e
  obtain ⟨tk, rfl⟩ := ry
  exact ⟨.str n, H', I', ⟨_, rfl⟩, qq⟩
end
theorem own_d {K : PySem.W.Frag} {C : Addr} {A : FS} {P : V → Prop} {fs : List (Str × D)} {Ψ : D → Prop} (h : A [.ins C fs] fun r => ∃ d, r = .val d ∧ (∀ G v, Rep K G d v → P v) ∧ Ψ d) : RAD K (rOwn C (spG K A) P) [.ins C fs] Ψ := fun G H vs s r Q q => by
  obtain ⟨v, rfl, rx⟩ := r.just
  obtain ⟨a, dx, xs, rfl, hx, rf⟩ := rx.ins_inv
  refine ⟨a, dx, xs, rfl, s _ _ hx, G, _, _, s, .one rx, h, fun r v G' H' g ok ⟨d, e, hp, k⟩ => ?_⟩
  subst e
  exact ⟨hp G' v ok, q d v G' H' g ok k⟩
/-! ### locked dicts -/
section
variable {K : PySem.W.Frag} {δ : List Sl} {te tl : TE}
/-- a new dict is locked for good -/
theorem ev_frz {Φ : D → List Sl → Prop} (h : EvN K te δ fun o δ1 => ∃ kvs, o = .dic kvs ∧ Φ (.dz kvs) δ1) : EvD K (tFrz te) δ Φ := fun M L G0 H0 G H σ c Q q =>
  h M L G0 H0 G H σ c _ fun o δ1 a G1 H1 s1 c1 na h0 w ap hL ⟨kvs, e, k⟩ => by
    subst e
    obtain ⟨xs, hx, rx⟩ := w
    refine ⟨a, .dK xs, rfl, hx, trivial, fun od => ?_⟩
    have c2 := c1.freezeAs (u' := .frz od (.dK xs)) na h0 hx ap hL
    have s2 : Same G1 (upd G1 a (.frz od (.dK xs))) := same_upd na
    exact q _ δ1 _ _ _ (s1.trans s2) c2 (rep_dz upd_same (rx.mono s2)) k
def keyD : Key → D
  | .inl i => .int i
  | .inr x => .str x
theorem rep_key {G : Hp} (k : Key) : Rep K G (keyD k) (kV k) := by
  cases k with
  | inl i => exact rep_int i
  | inr x => exact rep_str x
def itemsD (kvs : List (Key × D)) : List D := kvs.map fun p => .tup [keyD p.1, p.2]
theorem ei_items {Φ : List D → List Sl → Prop} (h : EvD K tl δ fun d δ1 => ∃ kvs, d = .dz kvs ∧ Φ (itemsD kvs) δ1) : EvI K (iItems tl) δ Φ := fun M L G0 H0 G H σ c R q =>
  h M L G0 H0 G H σ c _ fun d δ1 v G1 H1 s1 c1 r1 ⟨kvs, e, k⟩ => by
    subst e
    obtain ⟨a, od, xs, rfl, hd, rx⟩ := r1.dz_inv
    have hl : xs.length = (itemsD kvs).length := by unfold itemsD; rw [List.length_map, rx.len]
    refine ⟨a, od, xs, rfl, c1.gh _ _ hd, q _ δ1 _ G1 H1 s1 c1 ⟨fun i H' hi s => ⟨s _ _ hd, by rw [hl]; exact hi⟩, fun H' s => ⟨s _ _ hd, by rw [hl]; exact Nat.le_refl _⟩, fun i H' x H2 G2 hi s s2 y => ?_⟩ k⟩
    obtain ⟨T, ky, w, hw, rfl, nT, rfl⟩ := y
    obtain ⟨dv, hdv, rdv⟩ := rx.getV hw
    have g : Grow [] G2 H' (upd G2 T (.tup [kV ky, w])) (upd H' T (.tup [kV ky, w])) := .new s2 nT
    refine ⟨.tup [keyD ky, dv], _, ?_, g, rep_tup (SqT.of upd_same) (.cons (rep_key ky) (.one ((rdv.mono s).mono g.g)))⟩
    unfold itemsD
    rw [List.getElem?_map, hdv]; rfl
theorem ei_vals {Φ : List D → List Sl → Prop} (h : EvD K tl δ fun d δ1 => ∃ kvs, d = .dz kvs ∧ Φ (kvs.map Prod.snd) δ1) : EvI K (iVals tl) δ Φ := fun M L G0 H0 G H σ c R q =>
  h M L G0 H0 G H σ c _ fun d δ1 v G1 H1 s1 c1 r1 ⟨kvs, e, k⟩ => by
    subst e
    obtain ⟨a, od, xs, rfl, hd, rx⟩ := r1.dz_inv
    have hl : xs.length = (kvs.map Prod.snd).length := by rw [List.length_map, rx.len]
    refine ⟨a, od, xs, rfl, c1.gh _ _ hd, q _ δ1 _ G1 H1 s1 c1 ⟨fun i H' hi s => ⟨s _ _ hd, by rw [hl]; exact hi⟩, fun H' s => ⟨s _ _ hd, by rw [hl]; exact Nat.le_refl _⟩, fun i H' x H2 G2 hi s s2 y => ?_⟩ k⟩
    obtain ⟨e, ky, hk⟩ := y
    subst e
    obtain ⟨d, hd', rd⟩ := rx.getV hk
    exact ⟨d, G2, by rw [List.getElem?_map, hd']; rfl, .refl s2, rd.mono s⟩
/-! ### d[k], k in d -/
def valD (kvs : List (Key × D)) (k : Key) : Option D := (kvs.find? fun kv => decide (kv.1 = k)).map (·.2)
theorem RepK.val {G : Hp} {k : Key} : ∀ {ds : List (Key × D)} {vs : List (Key × V)}, RepK K G ds vs → (∀ d, valD ds k = some d → ∃ v, valV vs k = some v ∧ Rep K G d v) ∧ (valD ds k = none → valV vs k = none)
  | [], _, h => by rw [h.nil_inv]; exact ⟨(fun d e => nomatch (show (none : Option D) = some d from e)), fun _ => rfl⟩
  | (g, x) :: r, _, h => by
    obtain ⟨w, r', rfl, h1, h2⟩ := h.cons_inv
    obtain ⟨i1, i2⟩ := RepK.val (k := k) h2
    unfold valD valV at *
    by_cases e : g = k
    · subst e
      simp only [List.find?_cons, decide_true, Option.map_some]
      exact ⟨(fun d e => by cases e; exact ⟨w, rfl, h1⟩), (fun e => by cases e)⟩
    · simp only [List.find?_cons, decide_eq_false e]
      exact ⟨i1, i2⟩
theorem dget_of {G H : Hp} {d : D} {v : V} {kvs : List (Key × D)} {k : Key} (s : Same G H) (h : d = .dz kvs ∨ d = .dic kvs) (r : Rep K G d v) : ∃ a o, v = .ref a ∧ DGet H a (kV k) o ∧ (∀ x, valD kvs k = some x → ∃ u, o = some u ∧ Rep K G x u) ∧ (valD kvs k = none → o = none) := by
  rcases h with rfl | rfl
  · obtain ⟨a, od, xs, rfl, hd, rx⟩ := r.dz_inv
    obtain ⟨i1, i2⟩ := rx.val (k := k)
    exact ⟨a, valV xs k, rfl, .inl ⟨xs, k, .inr ⟨od, s _ _ hd⟩, rfl, rfl⟩, i1, i2⟩
  · obtain ⟨a, xs, rfl, hd, rx⟩ := r.dic_inv
    obtain ⟨i1, i2⟩ := rx.val (k := k)
    exact ⟨a, valV xs k, rfl, .inl ⟨xs, k, .inl (s _ _ hd), rfl, rfl⟩, i1, i2⟩
variable {td ty : TE} {Φ : D → List Sl → Prop}
theorem ev_dget (h : EvD K td δ fun x δ1 => EvD K ty δ1 fun y δ2 => ∃ kvs k d, (x = .dz kvs ∨ x = .dic kvs) ∧ y = keyD k ∧ valD kvs k = some d ∧ Φ d δ2) : EvD K (tDGet td ty) δ Φ := fun M L G0 H0 G H σ c Q q =>
  h M L G0 H0 G H σ c _ fun x δ1 v G1 H1 s1 c1 r1 h1 => h1 M L G0 H0 G1 H1 σ c1 _ fun y δ2 w G2 H2 s2 c2 r2 ⟨kvs, k, d, ex, ey, hv, kk⟩ => by
    subst ey
    obtain ⟨a, o, rfl, g, i1, _⟩ := dget_of (k := k) c2.gh ex (r1.mono s2)
    obtain ⟨u, rfl, ru⟩ := i1 d hv
    have ew : w = kV k := by
      cases k with
      | inl i => exact r2.int_inv
      | inr x => exact r2.str_inv
    rw [ew]
    exact ⟨a, u, rfl, g, q d δ2 u G2 H2 (s1.trans s2) c2 ru kk⟩
theorem ev_din (h : EvD K ty δ fun y δ1 => EvD K td δ1 fun x δ2 => ∃ kvs k, (x = .dz kvs ∨ x = .dic kvs) ∧ y = keyD k ∧ Φ (.bl (valD kvs k).isSome) δ2) : EvD K (tDIn ty td) δ Φ := fun M L G0 H0 G H σ c Q q =>
  h M L G0 H0 G H σ c _ fun y δ1 w G1 H1 s1 c1 r1 h1 => h1 M L G0 H0 G1 H1 σ c1 _ fun x δ2 v G2 H2 s2 c2 r2 ⟨kvs, k, ex, ey, kk⟩ => by
    subst ey
    obtain ⟨a, o, rfl, g, i1, i2⟩ := dget_of (k := k) c2.gh ex r2
    have ew : w = kV k := by
      cases k with
      | inl i => exact r1.int_inv
      | inr x => exact r1.str_inv
    rw [ew]
    have eo : o.isSome = (valD kvs k).isSome := by
      cases e : valD kvs k with
      | none => rw [i2 e]; rfl
      | some d => obtain ⟨u, hu, _⟩ := i1 d e; rw [hu]; rfl
    refine ⟨a, o, rfl, g, ?_⟩
    rw [eo]
    exact q _ δ2 _ G2 H2 (s1.trans s2) c2 (rep_bl _) kk
theorem ev_dnotin (h : EvD K ty δ fun y δ1 => EvD K td δ1 fun x δ2 => ∃ kvs k, (x = .dz kvs ∨ x = .dic kvs) ∧ y = keyD k ∧ Φ (.bl (!(valD kvs k).isSome)) δ2) : EvD K (tDNotIn ty td) δ Φ := fun M L G0 H0 G H σ c Q q =>
  h M L G0 H0 G H σ c _ fun y δ1 w G1 H1 s1 c1 r1 h1 => h1 M L G0 H0 G1 H1 σ c1 _ fun x δ2 v G2 H2 s2 c2 r2 ⟨kvs, k, ex, ey, kk⟩ => by
    subst ey
    obtain ⟨a, o, rfl, g, i1, i2⟩ := dget_of (k := k) c2.gh ex r2
    have ew : w = kV k := by
      cases k with
      | inl i => exact r1.int_inv
      | inr x => exact r1.str_inv
    rw [ew]
    have eo : o.isSome = (valD kvs k).isSome := by
      cases e : valD kvs k with
      | none => rw [i2 e]; rfl
      | some d => obtain ⟨u, hu, _⟩ := i1 d e; rw [hu]; rfl
    refine ⟨a, o, rfl, g, ?_⟩
    rw [eo]
    exact q _ δ2 _ G2 H2 (s1.trans s2) c2 (rep_bl _) kk
end
end Ms

/-! Lay20: a list unpacked; pop; f-strings; slices with a step and bounds that are computed; list(dict). -/
namespace Ms
open PySem PySem.Spec PyProof.Rows L2
section
variable {K : PySem.W.Frag} {δ : List Sl} {te ti : TE} {Φ : D → List Sl → Prop} {Ψ : List Sl → Prop}
theorem tg_unl {u : TGs} {js : List Nat} {ds : List D} {n : Nat} (hn : ds.length = n) (h : TgsD K js u ds δ Ψ) : TgD K js (gUnl K n u) (.lst ds) δ Ψ := fun M L G0 H0 G H σ v c r Q q => by
  obtain ⟨a, xs, rfl, hs, rx⟩ := r.lst_inv
  exact ⟨a, xs, rfl, SqL.of (c.gh _ _ hs), by rw [rx.len]; exact hn, h M L G0 H0 G H σ xs c rx Q q⟩
/-! ### xs.pop(k), xs an own list -/
theorem Reps.erase {G : Hp} : ∀ {ds : List D} {vs : List V} (n : Nat), Reps K G ds vs → Reps K G (ds.eraseIdx n) (vs.eraseIdx n)
  | [], _, n, h => by rw [h.nil_inv]; exact .nil
  | d :: ds, _, 0, h => by
    obtain ⟨v, r, rfl, h1, h2⟩ := h.cons_inv
    exact h2
  | d :: ds, _, n + 1, h => by
    obtain ⟨v, r, rfl, h1, h2⟩ := h.cons_inv
    exact .cons h1 (Reps.erase n h2)
theorem seqIx_nat {n k : Nat} (h : k < n) : seqIndex? (k : Int) n = some k := by
  unfold seqIndex?
  simp
  omega
theorem ev_popO {i : Nat} {ds0 : List D} (hi : δ[i]? = some (.ow (.lst ds0))) (h : EvD K ti δ fun e δ1 => ∃ (k : Nat) (d : D) (ds : List D), e = .int (k : Nat) ∧ δ1[i]? = some (.ow (.lst ds)) ∧ ds[k]? = some d ∧ k < 1000000 ∧ Φ d (δ1.set i (.ow (.lst (ds.eraseIdx k))))) :
    EvD K (tBM K "list" rPopAt (tVar i) (tCons ti tNil)) δ Φ := fun M L G0 H0 G H σ c Q q => by
  obtain ⟨x, ex, a, e1, na, h0, xs, hx, _⟩ := c.ok i _ hi
  subst e1
  refine ⟨_, ex, .inl ⟨rfl, _, SqL.of hx⟩, h M L G0 H0 G H σ c _ fun e δ1 v G1 H1 s1 c1 r1 ⟨k, d, ds, ee, hd, hk, hz, kk⟩ => ?_⟩
  subst ee
  obtain ⟨y, ey, a', e2, na', h0', ys, hy, ry⟩ := c1.ok i _ hd
  rw [ex] at ey; cases ey; cases e2
  obtain ⟨u, hu, ru⟩ := ry.get hk
  have hlt : k < ys.length := (List.getElem?_eq_some_iff.mp hu).1
  refine ⟨a, ys, (k : Nat), k, u, rfl, by rw [r1.int_inv], hy, by omega, by omega, seqIx_nat hlt, hu, q d _ u G1 _ s1 (c1.write (o' := .lst (ds.eraseIdx k)) hd ex ⟨_, upd_same, ry.erase k⟩) ru kk⟩
/-! ### f-strings -/
theorem ev_fmt (h : EvD K te δ fun d δ1 => ∃ z, d = .str z ∧ z.length ≤ sizeLine ∧ Φ (.str z) δ1) : EvD K (tFmt te) δ Φ := fun M L G0 H0 G H σ c Q q =>
  h M L G0 H0 G H σ c _ fun d δ1 v G1 H1 s1 c1 r1 ⟨z, e, hz, k⟩ => by
    subst e
    exact .inl ⟨z, r1.str_inv, hz, q _ δ1 _ G1 H1 s1 c1 (rep_str _) k⟩
def tFs (ts : List TE) : TE := fun σ H Q => tJs ts Str.empty σ H fun out H1 => Q (.str out) H1
def EvJ (K : PySem.W.Frag) (ts : List TE) (acc : Str) (δ : List Sl) (Ψ : Str → List Sl → Prop) : Prop :=
  ∀ (M : List Addr) (L : List (Addr × HO)) (G0 H0 G H : Hp) (σ : L2.St), Cur K M L G0 H0 G H σ δ → ∀ Q : Str → Hp → Prop,
    (∀ z δ' G' H', Same G G' → Cur K M L G0 H0 G' H' σ δ' → Ψ z δ' → Q z H') → tJs ts acc σ H Q
theorem ej_nil {acc : Str} {Ψ : Str → List Sl → Prop} (k : Ψ acc δ) : EvJ K [] acc δ Ψ := fun M L G0 H0 G H σ c Q q => q acc δ G H (.refl _) c k
theorem ej_cons {acc : Str} {ts : List TE} {Ψ : Str → List Sl → Prop} (h : EvD K te δ fun d δ1 => ∃ z, d = .str z ∧ (acc ++ z).length ≤ sizeLine ∧ EvJ K ts (acc ++ z) δ1 Ψ) : EvJ K (te :: ts) acc δ Ψ := fun M L G0 H0 G H σ c Q q =>
  h M L G0 H0 G H σ c _ fun d δ1 v G1 H1 s1 c1 r1 ⟨z, e, hz, k⟩ => by
    subst e
    exact ⟨z, r1.str_inv, hz, k M L G0 H0 G1 H1 σ c1 Q fun z' δ2 G2 H2 s2 c2 k2 => q z' δ2 G2 H2 (s1.trans s2) c2 k2⟩
theorem ev_fs {ts : List TE} (h : EvJ K ts Str.empty δ fun z δ1 => Φ (.str z) δ1) : EvD K (tFs ts) δ Φ := fun M L G0 H0 G H σ c Q q =>
  h M L G0 H0 G H σ c _ fun z δ1 G1 H1 s1 c1 k => q _ δ1 _ G1 H1 s1 c1 (rep_str _) k
/-! ### list(dict) -/
def rListK : List V → Hp → VK → Prop := fun xs H Q => ∃ (a : Addr) (kvs : List (Key × V)), xs = [.ref a] ∧ Rd H a (.dK kvs) ∧ ∀ p, H p = none → Q (.ref p) (upd H p (.lst (kvs.map fun kv => kV kv.1)))
theorem call_listK {X : Cx} (hc : X.calm = true) : CallR X (.type "list") rListK := call_listD hc
theorem RepK.keys {G : Hp} : ∀ {ds : List (Key × D)} {vs : List (Key × V)}, RepK K G ds vs → vs.map Prod.fst = ds.map Prod.fst
  | [], _, h => by rw [h.nil_inv]; rfl
  | (g, x) :: r, _, h => by
    obtain ⟨w, r', rfl, h1, h2⟩ := h.cons_inv
    rw [List.map_cons, List.map_cons, RepK.keys h2]
theorem listK_N {kvs : List (Key × D)} {Ψ : OD → Prop} (k : Ψ (.lst (kvs.map fun p => keyD p.1))) : RAN K rListK [.dz kvs] Ψ := fun G H vs s r => by
  obtain ⟨v, rfl, rx⟩ := r.just
  obtain ⟨a, od, xs, rfl, hd, rk⟩ := rx.dz_inv
  have rr : Reps K G (kvs.map fun p => keyD p.1) (xs.map fun kv => kV kv.1) := by
    have e := rk.keys
    have e1 : (xs.map fun kv => kV kv.1) = (xs.map Prod.fst).map kV := by rw [List.map_map]; rfl
    have e2 : (kvs.map fun p => keyD p.1) = (kvs.map Prod.fst).map keyD := by rw [List.map_map]; rfl
    rw [e1, e2, e]
    exact Reps.mapD (fun k => rep_key k) _
  exact RN.lst s rr k fun Q q => ⟨a, xs, rfl, .inr ⟨od, s _ _ hd⟩, q⟩
theorem listK_d {kvs : List (Key × D)} {Ψ : D → Prop} (k : Ψ (.lst (kvs.map fun p => keyD p.1))) : RAD K rListK [.dz kvs] Ψ := RAN.d (listK_N k)
end
/-! ### len of a locked dict -/
def rLenK : List V → Hp → VK → Prop := fun xs H Q => ∃ (a : Addr) (kvs : List (Key × V)), xs = [.ref a] ∧ Rd H a (.dK kvs) ∧ Q (.int kvs.length) H
theorem call_lenK {X : Cx} : CallR X (.builtin "len") rLenK := by
  intro pins s σ H xs us Q I r h
  obtain ⟨a, kvs, rfl, hd, q⟩ := h
  obtain ⟨u, rfl, ru⟩ := r.one
  cases ru
  exact d_len I hd fun t s' I' => ⟨.int kvs.length, H, I', ⟨t, rfl⟩, q⟩
theorem lenK_d {K : PySem.W.Frag} {kvs : List (Key × D)} {Ψ : D → Prop} (k : Ψ (.int kvs.length)) : RAD K rLenK [.dz kvs] Ψ := fun G H vs s r => by
  obtain ⟨v, rfl, rx⟩ := r.just
  obtain ⟨a, od, xs, rfl, hd, rk⟩ := rx.dz_inv
  rw [← rk.len] at k
  exact RD.val s (rep_int _) k fun Q q => ⟨a, xs, rfl, .inr ⟨od, s _ _ hd⟩, q⟩
/-! ### a slice with a step, its bounds computed -/
def tStV (K : PySem.W.Frag) (c : Int) (te : TE) (tl th : TO) : TE := fun σ H Q => te σ H fun x H1 => tl σ H1 fun l H2 => th σ H2 fun u H3 => rStepL K l u (some c) x H3 Q
section
variable {X : Cx} {e : Expr} {te : TE} {lo hi st : Option Expr} {c : Int} {tl th tt : TO} {p3 pos : Pos}
theorem pe_stepV (he : PE X e te) (hl : PO X lo tl) (hh : PO X hi th) (ht : PO X st tt) (ct : ∀ σ H Q, Q (some c) H → tt σ H Q) (h0 : c ≠ 0)
    (hsub : ∀ (a : Value) (b : Addr), subscripted (.Slice lo hi st p3) false a (.ref b) = operate [a, .ref b] (getItem a (.ref b)) := by intros; with_unfolding_all rfl) :
    PE X (.Subscript e (.Slice lo hi st p3) pos) (tStV X.K c te tl th) := by
  refine ⟨fun pins s σ H Q I h => ?_⟩
  refine Subscript_ (thn (he.run pins s σ H _ I h) fun v s1 ⟨x, H1, I1, r1, q1⟩ => ?_)
  refine wpAny_Slice (thn (hl.run pins s1 σ H1 _ I1 q1) fun vl s2 ⟨l', H2, I2, pl, q2⟩ => ?_)
  refine thn (hh.run pins s2 σ H2 _ I2 q2) fun vu s3 ⟨u', H3, I3, pu, q3⟩ => ?_
  refine thn (ht.run pins s3 σ H3 (fun o H4 => o = some c ∧ H4 = H3) I3 (ct _ _ _ ⟨rfl, rfl⟩)) fun vs s4 ⟨o, H4, I4, ps, eo, e4⟩ => ?_
  subst eo e4
  have I5 : Inv X pins σ H4 { s4 with heap := s4.heap.push { cls := .type "slice", data := .fields #[vl, vu, vs] } } := I4.kept (t' := s4.toks) fun b ob q => Heap.get?_push_of_some _ q
  show wpAny (model X.prog X.w) X.A (subscriptTail e (.Slice lo hi st p3) v (.ref s4.heap.objs.size)) (EP X pins σ Q) X.xe { s4 with heap := s4.heap.push { cls := .type "slice", data := .fields #[vl, vu, vs] } }
  obtain ⟨a, xs, ex, hx, q⟩ := q3
  subst ex
  cases r1
  obtain ⟨its, r, ht, hz⟩ := I5.list hx
  have hlen := r.length
  refine tail_any (ops := [.ref a, .ref s4.heap.objs.size]) ht.isList.typeIs (PySem.slot_list_getitem.lookup) ?_ (hsub _ _)
  refine wpAny_getItem_list_slice ht.isList (Heap.IsSliceOf.new _ vl vu vs) pl pu ps (by simpa using h0) ?_ (by rw [List.size_toArray]; omega)
  rw [slicePick_eq]
  have rp : Vals (pickS l' u' (some c) xs) (pickS l' u' (some c) its) := by
    unfold pickS
    rw [hlen]
    exact vals_picks r _
  refine ⟨.ref _, _, I5.laid (t' := s4.toks) (o := .lst (pickS l' u' (some c) xs)) (fun b ob q => Heap.get?_push_of_some _ q) (Nat.le_refl _) ?_, rfl, q _ (I5.hok.fresh (Nat.le_refl _))⟩
  exact ⟨Nat.le_trans (pickS_len _ _ _ _) hz, _, 0, rp, Heap.get?_push_size _ rfl⟩
end
section
variable {K : PySem.W.Frag} {δ : List Sl} {te : TE} {tl th : TO} {c : Int}
theorem en_stV {Φ : OD → List Sl → Prop} (h : EvD K te δ fun x δ1 => EvO K tl δ1 fun lo δ2 => EvO K th δ2 fun hi δ3 => ∃ ds, x = .lst ds ∧ Φ (.lst (pickS lo hi (some c) ds)) δ3) : EvN K (tStV K c te tl th) δ Φ := fun M L G0 H0 G H σ cu Q q =>
  h M L G0 H0 G H σ cu _ fun x δ1 v G1 H1 s1 c1 r1 h1 => h1 M L G0 H0 G1 H1 σ c1 _ fun lo δ2 G2 H2 s2 c2 h2 => h2 M L G0 H0 G2 H2 σ c2 _ fun hi δ3 G3 H3 s3 c3 ⟨ds, e, k⟩ => by
    subst e
    have r3 := (r1.mono s2).mono s3
    obtain ⟨p, xs, rfl, hp, rx⟩ := r3.lst_inv
    refine ⟨p, xs, rfl, SqL.of (c3.gh _ _ hp), fun a na => ?_⟩
    have f := c3.fresh na
    exact q (.lst _) δ3 a G3 _ ((s1.trans s2).trans s3) (c3.grow (.newH c3.gh na)) f.2.1 f.1 ⟨_, upd_same, rx.pickS⟩ f.2.2.1 f.2.2.2 k
end
end Ms

/-! Lay21: things that no slot owns, known by their place (ghosts): a list of new lists; each of them grows. -/
namespace Ms
open PySem PySem.Spec PyProof.Rows L2
abbrev Gh := List (Addr × OD)
def OwnHO (K : PySem.W.Frag) (G : Hp) (h : HO) (o : OD) : Prop := ∀ (H : Hp) (a : Addr), H a = some h → OwnAt K G H a o
theorem OwnHO.mono {K : PySem.W.Frag} {G G' : Hp} (s : Same G G') {h : HO} {o : OD} (w : OwnHO K G h o) : OwnHO K G' h o := fun H a e => (w H a e).mono s fun _ q => q
theorem OwnHO.of {K : PySem.W.Frag} {G H : Hp} {a : Addr} {o : OD} (w : OwnAt K G H a o) : ∃ h, H a = some h ∧ OwnHO K G h o := by
  cases o with
  | lst ds => obtain ⟨xs, e, r⟩ := w; exact ⟨_, e, fun H' a' e' => ⟨xs, e', r⟩⟩
  | dic ds => obtain ⟨xs, e, r⟩ := w; exact ⟨_, e, fun H' a' e' => ⟨xs, e', r⟩⟩
  | ins C ds => obtain ⟨dx, xs, e, r⟩ := w; exact ⟨_, e, fun H' a' e' => ⟨dx, xs, e', r⟩⟩
/-- the ghosts' objects, one by one -/
inductive GhOk (K : PySem.W.Frag) (G : Hp) : List (Addr × HO) → Gh → Prop
  | nil : GhOk K G [] []
  | cons {a h o Lx Γ} : OwnHO K G h o → GhOk K G Lx Γ → GhOk K G ((a, h) :: Lx) ((a, o) :: Γ)
theorem GhOk.mono {K : PySem.W.Frag} {G G' : Hp} (s : Same G G') {Lx : List (Addr × HO)} {Γ : Gh} (h : GhOk K G Lx Γ) : GhOk K G' Lx Γ := by
  induction h with
  | nil => exact .nil
  | cons w _ ih => exact .cons (w.mono s) ih
theorem GhOk.fst {K : PySem.W.Frag} {G : Hp} {Lx : List (Addr × HO)} {Γ : Gh} (h : GhOk K G Lx Γ) : Lx.map Prod.fst = Γ.map Prod.fst := by
  induction h with
  | nil => rfl
  | cons _ _ ih => rw [List.map_cons, List.map_cons, ih]
theorem GhOk.append {K : PySem.W.Frag} {G : Hp} {Lx Ly : List (Addr × HO)} {Γ Δ : Gh} (h : GhOk K G Lx Γ) (h2 : GhOk K G Ly Δ) : GhOk K G (Lx ++ Ly) (Γ ++ Δ) := by
  induction h with
  | nil => exact h2
  | cons w _ ih => exact .cons w ih
structure Pg where
  nx : Gh → List Sl → Prop
  rt : Rs → List Sl → Prop
  bk : Gh → List Sl → Prop := fun _ _ => False
  ct : Gh → List Sl → Prop := fun _ _ => False
/-- pins and ghosts in a state -/
structure CurG (K : PySem.W.Frag) (M : List Addr) (L : List (Addr × HO)) (G0 H0 G H : Hp) (σ : L2.St) (δ : List Sl) (Γ : Gh) : Prop where
  ex : ∃ Lx, Cur K M (Lx ++ L) G0 H0 G H σ δ ∧ GhOk K G Lx Γ
  nd : (Γ.map Prod.fst).Nodup
  ap : ∀ p ∈ L, p.1 ∉ Γ.map Prod.fst
theorem CurG.cur {K : PySem.W.Frag} {M : List Addr} {L : List (Addr × HO)} {G0 H0 G H : Hp} {σ : L2.St} {δ : List Sl} {Γ : Gh} (c : CurG K M L G0 H0 G H σ δ Γ) : Cur K M L G0 H0 G H σ δ := by
  obtain ⟨Lx, c1, _⟩ := c.ex
  exact c1.subpins fun p hp => List.mem_append_right _ hp
theorem CurG.bare {K : PySem.W.Frag} {M : List Addr} {L : List (Addr × HO)} {G0 H0 G H : Hp} {σ : L2.St} {δ : List Sl} (c : Cur K M L G0 H0 G H σ δ) : CurG K M L G0 H0 G H σ δ [] := ⟨⟨[], c, .nil⟩, by simp, by simp⟩
def SDg (K : PySem.W.Frag) (Γ : Gh) (ts : TS) (δ : List Sl) (P : Pg) : Prop :=
  ∀ (M : List Addr) (L : List (Addr × HO)) (G0 H0 G H : Hp) (σ : L2.St) (E : Ends), CurG K M L G0 H0 G H σ δ Γ →
    (∀ Γ' δ' σ' G' H', Same G G' → CurG K M L G0 H0 G' H' σ' δ' Γ' → P.nx Γ' δ' → E.nx σ' H') →
    (∀ r δ' v σ' G' H', Cur K M L G0 H0 G' H' σ' δ' → RsOk K H0 G' H' r v → P.rt r δ' → E.rt v H') →
    (∀ Γ' δ' σ' G' H', Same G G' → CurG K M L G0 H0 G' H' σ' δ' Γ' → P.bk Γ' δ' → E.bk σ' H') →
    (∀ Γ' δ' σ' G' H', Same G G' → CurG K M L G0 H0 G' H' σ' δ' Γ' → P.ct Γ' δ' → E.ct σ' H') → ts E σ H
section
variable {K : PySem.W.Frag} {δ : List Sl} {Γ : Gh} {ts tu tw : TS} {P : Pg}
theorem sdg_start {P : Po} (h : SDg K [] ts δ { nx := fun _ => P.nx, rt := P.rt, bk := fun _ => P.bk, ct := fun _ => P.ct }) : SD K ts δ P := fun M L G0 H0 G H σ E c n r b ct =>
  h M L G0 H0 G H σ E (.bare c) (fun _ δ' σ' G' H' s c' k => n δ' σ' G' H' s c'.cur k) r (fun _ δ' σ' G' H' s c' k => b δ' σ' G' H' s c'.cur k) (fun _ δ' σ' G' H' s c' k => ct δ' σ' G' H' s c'.cur k)
/-- a statement that leaves the ghosts alone -/
theorem sdg_lift (h : SD K ts δ { nx := P.nx Γ, rt := P.rt, bk := P.bk Γ, ct := P.ct Γ }) : SDg K Γ ts δ P := fun M L G0 H0 G H σ E c n r b ct => by
  obtain ⟨Lx, c1, g⟩ := c.ex
  exact h M (Lx ++ L) G0 H0 G H σ E c1 (fun δ' σ' G' H' s c' k => n Γ δ' σ' G' H' s ⟨⟨Lx, c', g.mono s⟩, c.nd, c.ap⟩ k)
    (fun r' δ' v σ' G' H' c' ok k => r r' δ' v σ' G' H' (c'.subpins fun p hp => List.mem_append_right _ hp) ok k)
    (fun δ' σ' G' H' s c' k => b Γ δ' σ' G' H' s ⟨⟨Lx, c', g.mono s⟩, c.nd, c.ap⟩ k) (fun δ' σ' G' H' s c' k => ct Γ δ' σ' G' H' s ⟨⟨Lx, c', g.mono s⟩, c.nd, c.ap⟩ k)
/-- the ghosts are forgotten -/
theorem sdg_forget (h : SD K ts δ { nx := P.nx [], rt := P.rt, bk := P.bk [], ct := P.ct [] }) : SDg K Γ ts δ P := fun M L G0 H0 G H σ E c n r b ct =>
  h M L G0 H0 G H σ E c.cur (fun δ' σ' G' H' s c' k => n [] δ' σ' G' H' s (.bare c') k) r (fun δ' σ' G' H' s c' k => b [] δ' σ' G' H' s (.bare c') k) (fun δ' σ' G' H' s c' k => ct [] δ' σ' G' H' s (.bare c') k)
theorem sdg_seq (h : SDg K Γ tu δ { P with nx := fun Γ' δ' => SDg K Γ' tw δ' P }) : SDg K Γ (tSeq tu tw) δ P := fun M L G0 H0 G H σ E c n r b ct =>
  h M L G0 H0 G H σ _ c (fun Γ' δ' σ' G' H' s c' k => k M L G0 H0 G' H' σ' E c' (fun g2 d2 z2 G2 H2 s2 => n g2 d2 z2 G2 H2 (s.trans s2)) r (fun g2 d2 z2 G2 H2 s2 => b g2 d2 z2 G2 H2 (s.trans s2)) (fun g2 d2 z2 G2 H2 s2 => ct g2 d2 z2 G2 H2 (s.trans s2))) r b ct
end
/-! ### new things, one by one, none of them frozen -/
def EvG (K : PySem.W.Frag) (t : TA) (δ : List Sl) (Φ : List OD → List Sl → Prop) : Prop :=
  ∀ (M : List Addr) (L : List (Addr × HO)) (G0 H0 G H : Hp) (σ : L2.St) (Γ : Gh), CurG K M L G0 H0 G H σ δ Γ → ∀ Q : List V → Hp → Prop,
    (∀ (os : List OD) (as : List Addr) (δ' : List Sl) (G' H' : Hp), Same G G' → as.length = os.length → CurG K M L G0 H0 G' H' σ δ' (as.zip os ++ Γ) → Φ os δ' → Q (as.map V.ref) H') → t σ H Q
section
variable {K : PySem.W.Frag} {δ : List Sl} {te : TE} {t : TA}
theorem eg_nil {Φ : List OD → List Sl → Prop} (k : Φ [] δ) : EvG K tNil δ Φ := fun M L G0 H0 G H σ Γ c Q q => q [] [] δ G H (.refl _) rfl c k
theorem CurG.add {M : List Addr} {L : List (Addr × HO)} {G0 H0 G H : Hp} {σ : L2.St} {Γ : Gh} {a : Addr} {o : OD} {Lx : List (Addr × HO)} (c : Cur K M (Lx ++ L) G0 H0 G H σ δ) (g : GhOk K G Lx Γ) (nd : (Γ.map Prod.fst).Nodup) (ap : ∀ p ∈ L, p.1 ∉ Γ.map Prod.fst)
    (na : G a = none) (h0 : H0 a = none) (w : OwnAt K G H a o) (apa : Apart σ δ a) (hL : ∀ p ∈ Lx ++ L, p.1 ≠ a) : CurG K M L G0 H0 G H σ δ ((a, o) :: Γ) := by
  obtain ⟨h, hh, wh⟩ := OwnHO.of w
  refine ⟨⟨(a, h) :: Lx, c.pinAp na h0 hh apa, .cons wh g⟩, ?_, fun p hp => ?_⟩
  · rw [List.map_cons, List.nodup_cons]
    refine ⟨fun hm => ?_, nd⟩
    rw [← g.fst] at hm
    obtain ⟨p, hp, e⟩ := List.mem_map.mp hm
    exact hL p (List.mem_append_left _ hp) e
  · rw [List.map_cons, List.mem_cons, not_or]
    exact ⟨hL p (List.mem_append_right _ hp), ap p hp⟩
theorem eg_cons {Φ : List OD → List Sl → Prop} (h : EvN K te δ fun o δ1 => EvG K t δ1 fun os δ2 => Φ (o :: os) δ2) : EvG K (tCons te t) δ Φ := fun M L G0 H0 G H σ Γ c Q q => by
  obtain ⟨Lx, c1, g⟩ := c.ex
  refine h M (Lx ++ L) G0 H0 G H σ c1 _ fun o δ1 a G1 H1 s1 c2 na h0 w apa hL k => ?_
  have c3 : CurG K M L G0 H0 G1 H1 σ δ1 ((a, o) :: Γ) := CurG.add c2 (g.mono s1) c.nd c.ap na h0 w apa hL
  refine k M L G0 H0 G1 H1 σ _ c3 _ fun os as δ2 G2 H2 s2 hl c4 k2 => ?_
  refine q (o :: os) (a :: as) δ2 G2 H2 (s1.trans s2) (by simp [hl]) ?_ k2
  -- the same ghosts in another order
  have perm : ∀ x : Addr × OD, x ∈ (a :: as).zip (o :: os) ++ Γ ↔ x ∈ as.zip os ++ (a, o) :: Γ := fun x => by
    simp only [List.zip_cons_cons, List.cons_append, List.mem_cons, List.mem_append]
    constructor
    · rintro (h | h | h)
      · exact .inr (.inl h)
      · exact .inl h
      · exact .inr (.inr h)
    · rintro (h | h | h)
      · exact .inr (.inl h)
      · exact .inl h
      · exact .inr (.inr h)
  obtain ⟨Ly, c5, g5⟩ := c4.ex
  -- reorder the pins
  have split : ∀ (A : Gh) (Lz : List (Addr × HO)) (B : Gh), GhOk K G2 Lz (A ++ B) → ∃ L1 L2, Lz = L1 ++ L2 ∧ GhOk K G2 L1 A ∧ GhOk K G2 L2 B := by
    intro A
    induction A with
    | nil => intro Lz B h; exact ⟨[], Lz, rfl, .nil, h⟩
    | cons x A ih =>
      intro Lz B h
      cases h with
      | cons w r =>
        obtain ⟨L1, L2, e, g1, g2⟩ := ih _ _ r
        exact ⟨_ :: L1, L2, by rw [e]; rfl, .cons w g1, g2⟩
  obtain ⟨L1, L2, rfl, g1, g2⟩ := split _ _ _ g5
  cases g2 with
  | cons w2 g3 =>
    rename_i hh Lw
    refine ⟨⟨(a, hh) :: (L1 ++ Lw), c5.subpins fun p hp => ?_, .cons w2 (g1.append g3)⟩, ?_, fun p hp => ?_⟩
    · simp only [List.cons_append, List.mem_cons, List.mem_append] at hp ⊢
      rcases hp with h | (h | h) | h
      · exact .inl (.inr (.inl h))
      · exact .inl (.inl h)
      · exact .inl (.inr (.inr h))
      · exact .inr h
    · have nd := c4.nd
      rw [List.map_append, List.map_cons] at nd
      rw [List.zip_cons_cons, List.cons_append, List.map_cons, List.map_append]
      exact (List.perm_middle (l₁ := (as.zip os).map Prod.fst) (l₂ := Γ.map Prod.fst) (a := a)).nodup_iff.mp nd
    · intro hm
      obtain ⟨x, hx, e⟩ := List.mem_map.mp hm
      exact c4.ap p hp (List.mem_map.mpr ⟨x, (perm x).mp hx, e⟩)
end
section
variable {K : PySem.W.Frag} {δ : List Sl} {t : TA} {P : Pg}
/-- told = [e1, e2, ..], all of them new -/
theorem sdg_told {i : Nat} (h : EvG K t δ fun os δ1 => os.length ≤ sizeLine ∧ ∀ (a : Addr) (as : List Addr), as.length = os.length → P.nx ((a, .lst (as.map D.at)) :: as.zip os) (δ1.set i (.sh (.at a)))) : SDg K [] (tAsg (tLst t) (gName i)) δ P := fun M L G0 H0 G H σ E c n r b ct => by
  refine h M L G0 H0 G H σ [] c _ fun os as δ1 G1 H1 s1 hl c1 ⟨hz, k⟩ => ?_
  refine ⟨by rw [List.length_map, hl]; exact hz, fun p hp => ?_⟩
  rw [List.append_nil] at c1
  obtain ⟨Lx, c2, g⟩ := c1.ex
  have f := c2.fresh hp
  have c3 := c2.grow (.newH (o := .lst (as.map V.ref)) c2.gh hp)
  have w : OwnAt K G1 (upd H1 p (.lst (as.map V.ref))) p (.lst (as.map D.at)) := ⟨_, upd_same, Reps.mapD (fun a => rep_at a) _⟩
  have c4 := CurG.add c3 g c1.nd c1.ap f.2.1 f.1 w f.2.2.1 f.2.2.2
  obtain ⟨Ly, c5, g5⟩ := c4.ex
  exact n _ _ _ G1 _ s1 ⟨⟨Ly, c5.setSh i (rep_at p), g5⟩, c4.nd, c4.ap⟩ (k p as hl)
end
/-! ### ghosts and own things lent for a look -/
inductive Res (Γ : Gh) : D → D → Prop
  | same (d : D) : Res Γ d d
  | ref {a : Addr} {ds ds' : List D} : (a, OD.lst ds) ∈ Γ → ds.length = ds'.length → (∀ (i : Nat) d d', ds[i]? = some d → ds'[i]? = some d' → Res Γ d d') → Res Γ (.at a) (.lst ds')
def LentSl (Γ : Gh) (s0 s : Sl) : Prop := s = .no ∨ ∃ d, s = .sh d ∧ ((∃ o, s0 = .ow o ∧ d = o.d) ∨ ∃ d0, s0 = .sh d0 ∧ Res Γ d0 d)
def LentTo (Γ : Gh) (δ δ1 : List Sl) : Prop := δ1.length = δ.length ∧ ∀ (i : Nat) s0 s, δ[i]? = some s0 → δ1[i]? = some s → LentSl Γ s0 s
theorem GhOk.mem {K : PySem.W.Frag} {G : Hp} {Lx : List (Addr × HO)} {Γ : Gh} (h : GhOk K G Lx Γ) {a : Addr} {o : OD} (m : (a, o) ∈ Γ) : ∃ u, (a, u) ∈ Lx ∧ OwnHO K G u o := by
  induction h with
  | nil => cases m
  | cons w _ ih =>
    rcases List.mem_cons.mp m with e | m
    · cases e; exact ⟨_, List.mem_cons_self, w⟩
    · obtain ⟨u, hu, wu⟩ := ih m; exact ⟨u, List.mem_cons_of_mem _ hu, wu⟩
theorem reps_all {K : PySem.W.Frag} {G G1 : Hp} : ∀ {ds ds' : List D} {xs : List V}, Reps K G ds xs → ds.length = ds'.length → (∀ (i : Nat) d d' v, ds[i]? = some d → ds'[i]? = some d' → Rep K G d v → Rep K G1 d' v) → Reps K G1 ds' xs
  | [], ds', _, r, e, _ => by
    rw [r.nil_inv]
    cases ds' with
    | nil => exact .nil
    | cons _ _ => cases e
  | d :: ds, ds', _, r, e, h => by
    obtain ⟨v, r', rfl, h1, h2⟩ := r.cons_inv
    cases ds' with
    | nil => cases e
    | cons d' ds' => exact .cons (h 0 d d' v rfl rfl h1) (reps_all h2 (by simpa using e) fun i x x' u e1 e2 => h (i + 1) x x' u (by simpa using e1) (by simpa using e2))
section
variable {K : PySem.W.Frag} {M : List Addr} {L : List (Addr × HO)} {G0 H0 G H : Hp} {σ : L2.St} {δ δ1 : List Sl} {Γ : Gh}
open Classical in
theorem CurG.lent (c : CurG K M L G0 H0 G H σ δ Γ) (hl : LentTo Γ δ δ1) : ∃ G1, Cur K [] [] G1 H G1 H σ δ1 := by
  obtain ⟨Lx, c0, g⟩ := c.ex
  let own : Addr → Prop := fun a => (∃ (i : Nat) (o : OD), δ[i]? = some (Sl.ow o) ∧ σ[i]? = some (some (V.ref a))) ∨ a ∈ Γ.map Prod.fst
  let G1 : Hp := fun a => if own a then H a else G a
  have isO : ∀ a, own a → G1 a = H a ∧ G a = none := fun a h => by
    refine ⟨if_pos h, ?_⟩
    rcases h with ⟨i, o, h1, h2⟩ | h
    · obtain ⟨x, ex, b, e1, n, _⟩ := c0.ok i _ h1
      rw [ex] at h2; subst e1; cases h2; exact n
    · rw [← g.fst] at h
      obtain ⟨p, hp, rfl⟩ := List.mem_map.mp h
      exact (c0.apart (List.mem_append_left _ hp)).2.1
  have s : Same G G1 := fun a u e => by
    by_cases h : own a
    · rw [(isO a h).2] at e; cases e
    · have : G1 a = G a := if_neg h
      rw [this]; exact e
  have sh : Same G1 H := fun a u e => by
    by_cases h : own a
    · rw [(isO a h).1] at e; exact e
    · have : G1 a = G a := if_neg h
      rw [this] at e; exact c0.gh _ _ e
  have rs : ∀ {d0 d : D}, Res Γ d0 d → ∀ {v : V}, Rep K G d0 v → Rep K G1 d v := by
    intro d0 d h
    induction h with
    | same d => intro v r; exact r.mono s
    | @ref a ds ds' hm hl _ ih =>
      intro v r
      rw [r.at_inv]
      obtain ⟨u, hu, wu⟩ := g.mem hm
      have hH := (c0.apart (List.mem_append_left _ hu)).1
      obtain ⟨xs, hx, rx⟩ := wu H a hH
      have ho : own a := .inr (List.mem_map.mpr ⟨_, hm, rfl⟩)
      exact rep_lst ((isO a ho).1.trans hx) (reps_all rx hl fun i x x' v e1 e2 rv => ih i x x' e1 e2 rv)
  have no : ∀ (i : Nat) (t : Sl), δ1[i]? = some t → t.own = false := fun i t h => by
    have hi : i < δ.length := by rw [← hl.1]; exact (List.getElem?_eq_some_iff.mp h).1
    rcases hl.2 i δ[i] t (List.getElem?_eq_getElem hi) h with rfl | ⟨d, rfl, _⟩ <;> rfl
  refine ⟨G1, .refl sh, by rw [hl.1, c0.len], fun i t h => ?_, fun i j s t a ne h1 h2 o1 => ?_, fun p hp => by cases hp⟩
  · have hi : i < δ.length := by rw [← hl.1]; exact (List.getElem?_eq_some_iff.mp h).1
    have e0 : δ[i]? = some δ[i] := List.getElem?_eq_getElem hi
    obtain ⟨x, ex, w⟩ := c0.ok i _ e0
    refine ⟨x, ex, ?_⟩
    rcases hl.2 i δ[i] t e0 h with rfl | ⟨d, rfl, ⟨o, eo, rfl⟩ | ⟨d0, ed, hr⟩⟩
    · trivial
    · rw [eo] at w e0
      obtain ⟨a, e, n, h0, r⟩ := w
      subst e
      refine ⟨.ref a, rfl, ?_⟩
      have e1 := (isO a (.inl ⟨i, o, e0, ex⟩)).1
      cases o with
      | lst ds => obtain ⟨xs, hx, rx⟩ := r; exact rep_lst (e1.trans hx) (rx.mono s)
      | dic ds => obtain ⟨xs, hx, rx⟩ := r; exact rep_dic (e1.trans hx) (rx.mono s)
      | ins C ds => obtain ⟨dx, xs, hx, rx⟩ := r; exact rep_ins (e1.trans hx) (rx.mono s)
    · rw [ed] at w
      obtain ⟨v, e, r⟩ := w
      exact ⟨v, e, rs hr r⟩
  · rw [no i s h1] at o1; cases o1
theorem CurG.back (c : CurG K M L G0 H0 G H σ δ Γ) {G1 G2 H2 : Hp} (g : Grow [] G1 H G2 H2) : CurG K M L G0 H0 G H2 σ δ Γ := by
  obtain ⟨Lx, c0, gh⟩ := c.ex
  exact ⟨⟨Lx, c0.back g, gh⟩, c.nd, c.ap⟩
end
section
variable {K : PySem.W.Frag} {δ : List Sl} {Γ : Gh} {tt : TT} {tu tw : TS} {P : Pg}
theorem sdg_if {δ1 : List Sl} (hl : LentTo Γ δ δ1) (h : EvT K tt δ1 fun b _ => if b = true then SDg K Γ tu δ P else SDg K Γ tw δ P) : SDg K Γ (tIfS tt tu tw) δ P := fun M L G0 H0 G H σ E c n r bk ct => by
  obtain ⟨G1, c1⟩ := c.lent hl
  refine h [] [] G1 H G1 H σ c1 _ fun b δ' G2 H2 s c2 k => ?_
  have c3 := c.back c2.gr
  cases b with
  | true => exact iteT ((show SDg K Γ tu δ P from k) M L G0 H0 G H2 σ E c3 n r bk ct)
  | false => exact iteF ((show SDg K Γ tw δ P from k) M L G0 H0 G H2 σ E c3 n r bk ct)
theorem sdg_next (k : P.nx Γ δ) : SDg K Γ tNext δ P := fun M L G0 H0 G H σ E c n r bk ct => n Γ δ σ G H (.refl _) c k
end
/-! ### each of the new lists grows -/
theorem zip_get {α β : Type} {as : List α} {bs : List β} {i : Nat} {a : α} {b : β} (ha : as[i]? = some a) (hb : bs[i]? = some b) : (a, b) ∈ as.zip bs := by
  refine List.mem_of_getElem? (i := i) ?_
  rw [List.getElem?_zip_eq_some]; exact ⟨ha, hb⟩
theorem ghok_lists {K : PySem.W.Frag} {G : Hp} : ∀ {as : List Addr} {dss : List (List D)} {Lx : List (Addr × HO)}, as.length = dss.length → GhOk K G Lx (as.zip (dss.map OD.lst)) → ∃ xss : List (List V), Lx = as.zip (xss.map HO.lst) ∧ xss.length = as.length ∧ ∀ (i : Nat) xs ds, xss[i]? = some xs → dss[i]? = some ds → xs.length = ds.length
  | [], [], _, _, g => by cases g; exact ⟨[], rfl, rfl, by simp⟩
  | [], _ :: _, _, e, _ => by cases e
  | _ :: _, [], _, e, _ => by cases e
  | a :: as, ds :: dss, _, e, g => by
    cases g with
    | cons w r =>
      obtain ⟨xss, e1, e2, e3⟩ := ghok_lists (by simpa using e) r
      obtain ⟨xs, hx, rx⟩ := w (fun _ => some _) 0 rfl
      cases hx
      refine ⟨xs :: xss, by rw [e1]; rfl, by simp [e2], fun i ys es h1 h2 => ?_⟩
      cases i with
      | zero => cases h1; cases h2; exact rx.len
      | succ i => exact e3 i ys es (by simpa using h1) (by simpa using h2)
theorem sdg_grown {K : PySem.W.Frag} {δ : List Sl} {P : Pg} {i j B : Nat} {a : Addr} {as : List Addr} {dss : List (List D)} {v : V} (hi : δ[i]? = some (.sh (.at a))) (hij : i ≠ j) (hj : j < δ.length) (hl : as.length = dss.length) (hB : ∀ ds ∈ dss, ds.length ≤ B) (hB2 : B + 1 < sizeLine)
    (k : P.nx [] (wipeS δ [j])) : SDg K ((a, .lst (as.map D.at)) :: as.zip (dss.map OD.lst)) (tFor (iSeqU K (tVar i)) (gName j) (tDrop (tBM K "list" rAppend (tVar j) (tCons (tC v) tNil)))) δ P := fun M L G0 H0 G H σ E c n r b ct => by
  obtain ⟨Lx, c0, g⟩ := c.ex
  cases g with
  | cons w g1 =>
    rename_i h0 Lw
    obtain ⟨xss, rfl, hxl, hxb⟩ := ghok_lists hl g1
    obtain ⟨xs0, hx0, rx0⟩ := w (fun _ => some h0) 0 rfl
    have hx0' : h0 = .lst xs0 := Option.some.inj hx0
    subst hx0'
    have exs : xs0 = as.map V.ref := by
      have : ∀ (l : List Addr) (vs : List V), Reps K G (l.map D.at) vs → vs = l.map V.ref := by
        intro l
        induction l with
        | nil => intro vs r; rw [r.nil_inv]; rfl
        | cons q l ih =>
          intro vs r
          obtain ⟨v, r', rfl, h1, h2⟩ := r.cons_inv
          rw [h1.at_inv, ih _ h2]; rfl
      exact this as xs0 rx0
    subst exs
    obtain ⟨x, ex, vx, e1, rx⟩ := c0.ok i _ hi
    subst e1
    have evx := rx.at_inv
    subst evx
    have hHa := (c0.apart (p := (a, .lst (as.map V.ref))) (by simp)).1
    have nd := c.nd
    have zf : (as.zip (dss.map OD.lst)).map Prod.fst = as := by rw [List.map_fst_zip (by rw [List.length_map]; omega)]
    rw [List.map_cons, zf, List.nodup_cons] at nd
    have apL : ∀ p ∈ L, p.1 ≠ a ∧ p.1 ∉ as := fun p hp => by
      have := c.ap p hp
      rw [List.map_cons, zf, List.mem_cons, not_or] at this
      exact this
    refine .inl ⟨.ref a, ex, a, rfl, ⟨_, SqL.of hHa⟩, ?_⟩
    have wl := walk_list (K := K) (a := a) (xs := as.map V.ref)
    have hjσ : j < σ.length := by rw [← c0.len]; exact hj
    refine ⟨fun t m σ' H' => m = as.length - t ∧ t ≤ as.length ∧ σ'.length = σ.length ∧ (∀ q : Nat, q ∉ [j] → σ'[q]? = σ[q]?) ∧ ∃ xss : List (List V), xss.length = as.length ∧ Cur K M (((a, HO.lst (as.map V.ref)) :: as.zip (xss.map HO.lst)) ++ L) G0 H0 G H' σ' (wipeS δ [j]) ∧ ∀ (q : Nat) xs, xss[q]? = some xs → xs.length ≤ B + (if q < t then 1 else 0),
      ⟨_, rfl, Nat.zero_le _, rfl, fun _ _ => rfl, xss, hxl, c0.agree [j] rfl (fun _ _ => rfl), fun q xs hq => ?_⟩, ?_⟩
    · have hq2 : q < dss.length := by rw [← hl, ← hxl]; exact (List.getElem?_eq_some_iff.mp hq).1
      have := hxb q xs _ hq (List.getElem?_eq_getElem hq2)
      have := hB _ (List.getElem_mem hq2)
      simp; omega
    rintro t m σ2 H2 ⟨rfl, ht, l2, k2, yss, hyl, c2, hyb⟩
    have hHa2 := (c2.apart (p := (a, .lst (as.map V.ref))) (by simp)).1
    by_cases hlt : t < as.length
    · refine .inr ⟨wl.goes t H2 (by rw [List.length_map]; exact hlt) (SqL.of hHa2), fun σ' H' => σ'.length = σ.length ∧ (∀ q : Nat, q ∉ [j] → σ'[q]? = σ[q]?) ∧ ∃ xss : List (List V), xss.length = as.length ∧ Cur K M (((a, HO.lst (as.map V.ref)) :: as.zip (xss.map HO.lst)) ++ L) G0 H0 G H' σ' (wipeS δ [j]) ∧ ∀ (q : Nat) xs, xss[q]? = some xs → xs.length ≤ B + (if q < t + 1 then 1 else 0),
        fun σ' H' h => ⟨as.length - (t + 1), by omega, rfl, hlt, h⟩, fun x H' y => ?_⟩
      obtain ⟨e, hx⟩ := wl.yields t H2 x H' (by rw [List.length_map]; exact hlt) (SqL.of hHa2) y
      subst e
      rw [List.getElem?_map, List.getElem?_eq_getElem hlt] at hx
      cases hx
      have hty : t < yss.length := by rw [hyl]; exact hlt
      have hpin : (as[t], HO.lst yss[t]) ∈ as.zip (yss.map HO.lst) := zip_get (i := t) (List.getElem?_eq_getElem hlt) (by rw [List.getElem?_map, List.getElem?_eq_getElem hty]; rfl)
      have hHt := (c2.apart (p := (as[t], HO.lst yss[t])) (by simp only [List.cons_append, List.mem_cons, List.mem_append]; exact .inr (.inl hpin))).1
      have hb := hyb t _ (List.getElem?_eq_getElem hty)
      rw [if_neg (Nat.lt_irrefl t)] at hb
      refine ⟨.ref as[t], by rw [List.getElem?_set_self (by rw [l2]; exact hjσ)], .inl ⟨rfl, _, SqL.of hHt⟩, as[t], yss[t], v, rfl, rfl, hHt, by omega, ?_⟩
      refine ⟨by simp [l2], fun q hq => ?_, yss.set t (yss[t] ++ [v]), by simp [hyl], ?_, fun q xs hq => ?_⟩
      · rw [List.getElem?_set_ne (fun e => hq (by simp [e]))]; exact k2 q hq
      · have c3 := c2.agree (σ' := σ2.set j (some (.ref as[t]))) [j] (by simp) (fun q hq => List.getElem?_set_ne (fun e => hq (by simp [e])))
        have ew : wipeS (wipeS δ [j]) [j] = wipeS δ [j] := by
          show ((δ.set j .no).set j .no) = δ.set j .no
          rw [List.set_set]
        rw [ew] at c3
        -- the pin at as[t] first, then the others
        have others : ∀ (q : Nat) (z : List V), q ≠ t → yss[q]? = some z → ∀ b, as[q]? = some b → b ≠ as[t] := fun q z hq _ b hb e => by
          subst e
          have hql := (List.getElem?_eq_some_iff.mp hb).1
          have := (List.getElem_inj (h₀ := hql) (h₁ := hlt) nd.2).mp (List.getElem?_eq_some_iff.mp hb).2
          exact hq this
        let rest : List (Addr × HO) := ((a, HO.lst (as.map V.ref)) :: (as.zip (yss.map HO.lst)).filter fun p => decide (p.1 ≠ as[t])) ++ L
        have c4 : Cur K M ((as[t], HO.lst yss[t]) :: rest) G0 H0 G H' (σ2.set j (some (.ref as[t]))) (wipeS δ [j]) := c3.subpins fun p hp => by
          simp only [rest, List.cons_append, List.mem_cons, List.mem_append, List.mem_filter] at hp ⊢
          rcases hp with rfl | rfl | hp | hp
          · exact .inr (.inl hpin)
          · exact .inl rfl
          · exact .inr (.inl hp.1)
          · exact .inr (.inr hp)
        have c5 := c4.writePin (o' := .lst (yss[t] ++ [v])) (fun p hp => by
          simp only [rest, List.cons_append, List.mem_cons, List.mem_append, List.mem_filter, decide_eq_true_eq] at hp
          rcases hp with rfl | hp | hp
          · exact fun e => nd.1 (by rw [show a = as[t] from e]; exact List.getElem_mem hlt)
          · exact hp.2
          · exact fun e => (apL p hp).2 (by rw [e]; exact List.getElem_mem hlt))
        refine c5.subpins fun p hp => ?_
        simp only [rest, List.cons_append, List.mem_cons, List.mem_append, List.mem_filter, decide_eq_true_eq] at hp ⊢
        rcases hp with rfl | hp | hp
        · exact .inr (.inl rfl)
        · obtain ⟨q, hq, e⟩ := List.mem_iff_getElem.mp hp
          have hq1 : q < as.length := by rw [List.length_zip] at hq; omega
          have e2 : (as.zip ((yss.set t (yss[t] ++ [v])).map HO.lst))[q]? = some p := by rw [List.getElem?_eq_getElem hq, e]
          rw [List.getElem?_zip_eq_some] at e2
          obtain ⟨f1, f2⟩ := e2
          rw [List.getElem?_map, List.getElem?_set] at f2
          by_cases hqt : t = q
          · subst hqt
            rw [if_pos rfl, if_pos hty] at f2
            rw [List.getElem?_eq_getElem hlt] at f1
            left
            obtain ⟨p1, p2⟩ := p
            cases f1; cases f2; rfl
          · rw [if_neg hqt] at f2
            have hq2 : q < yss.length := by rw [hyl]; exact hq1
            rw [List.getElem?_eq_getElem hq2] at f2
            refine .inr (.inr (.inl ⟨?_, others q _ (Ne.symm hqt) (List.getElem?_eq_getElem hq2) p.1 f1⟩))
            refine zip_get (i := q) (a := p.1) (b := p.2) f1 ?_
            rw [List.getElem?_map, List.getElem?_eq_getElem hq2]; exact f2
        · exact .inr (.inr (.inr hp))
      · rw [List.getElem?_set] at hq
        by_cases hqt : t = q
        · subst hqt
          rw [if_pos rfl, if_pos hty] at hq
          cases hq
          rw [if_pos (Nat.lt_succ_self _), List.length_append, List.length_singleton]; omega
        · rw [if_neg hqt] at hq
          have := hyb q xs hq
          split at this <;> split <;> omega
    · have e : t = as.length := by omega
      subst e
      refine .inl ⟨?_, n [] _ σ2 G H2 (.refl _) (.bare (c2.subpins fun p hp => by simp only [List.cons_append, List.mem_cons, List.mem_append]; exact .inr (.inr hp))) k⟩
      have := wl.stops H2 (SqL.of hHa2)
      rw [List.length_map] at this; exact this
theorem u1 {n c : Nat} (h : n + 64 < c) : n + 1 < c := by omega
abbrev rLenOwn (C : Addr) (sp : Sp) : List V → Hp → VK → Prop := rOwn C sp fun v => ∃ n : Int, v = .int n ∧ 0 ≤ n ∧ n < 2 ^ 63
abbrev rStrOwn (C : Addr) (sp : Sp) : List V → Hp → VK → Prop := rOwn C sp fun v => ∃ z : Str, v = .str z
end Ms

/-! Lay22: the places of a name; strips as data; promises of the class Strip. -/
namespace Ms
open PySem PySem.Spec PyProof.Rows L2
def posOf (xs : List Str) (y : Str) : List Nat := (List.range xs.length).filter fun i => decide (xs[i]? = some y)
theorem posOf_snoc (xs : List Str) (x y : Str) : posOf (xs ++ [x]) y = posOf xs y ++ (if x = y then [xs.length] else []) := by
  unfold posOf
  rw [List.length_append, List.length_singleton, List.range_succ, List.filter_append]
  congr 1
  · refine List.filter_congr fun i hi => ?_
    have : i < xs.length := by simpa using hi
    rw [List.getElem?_append_left this]
  · rw [List.filter_cons, List.filter_nil]
    have : (xs ++ [x])[xs.length]? = some x := by simp
    rw [this]
    by_cases h : x = y
    · subst h; simp
    · simp [h]
theorem posOf_len (y : Str) : ∀ xs : List Str, (posOf xs y).length = xs.count y :=
  snoc_ind rfl fun l a ih => by
    rw [posOf_snoc, List.length_append, ih, List.count_append]
    congr 1
    by_cases h : a = y
    · subst h; simp
    · rw [if_neg h]; simp [List.count_cons, h]
theorem posOf_mem {xs : List Str} {y : Str} {i : Nat} : i ∈ posOf xs y ↔ xs[i]? = some y := by
  unfold posOf
  rw [List.mem_filter]
  simp
  intro h
  exact (List.getElem?_eq_some_iff.mp h).1
theorem drop_snoc {α : Type} (l : List α) (a : α) (n : Nat) : (l ++ [a]).drop n = l.drop n ++ (if n ≤ l.length then [a] else []) := by
  rw [List.drop_append]
  congr 1
  by_cases h : n ≤ l.length
  · rw [if_pos h, show n - l.length = 0 by omega]; rfl
  · rw [if_neg h, List.drop_of_length_le (by simp; omega)]
theorem pos_drop (y : Str) : ∀ xs : List Str, ∀ i : Nat, i ∈ (posOf xs y).drop 2 ↔ xs[i]? = some y ∧ 2 ≤ (xs.take i).count y :=
  snoc_ind (fun i => by simp [posOf]) fun l a ih i => by
    rw [posOf_snoc]
    by_cases h : a = y
    · subst h
      rw [if_pos rfl, drop_snoc, List.mem_append, ih i, posOf_len]
      by_cases hi : i < l.length
      · rw [List.getElem?_append_left hi, List.take_append_of_le_length (by omega)]
        constructor
        · rintro (q | q)
          · exact q
          · split at q
            · simp at q; omega
            · cases q
        · exact fun q => .inl q
      · by_cases e : i = l.length
        · subst e
          have e1 : (l ++ [a])[l.length]? = some a := by simp
          have e2 : (l ++ [a]).take l.length = l := by simp
          rw [e1, e2]
          constructor
          · rintro (q | q)
            · rw [List.getElem?_eq_none (Nat.le_refl _)] at q; cases q.1
            · split at q
              · rename_i h2; exact ⟨rfl, h2⟩
              · cases q
          · rintro ⟨_, q⟩
            right; rw [if_pos q]; simp
        · have e1 : (l ++ [a])[i]? = none := List.getElem?_eq_none (by simp; omega)
          rw [e1, List.getElem?_eq_none (by omega)]
          constructor
          · rintro (q | q)
            · cases q.1
            · split at q
              · simp at q; omega
              · cases q
          · rintro ⟨q, _⟩; cases q
    · rw [if_neg h, List.append_nil, ih i]
      by_cases hi : i < l.length
      · rw [List.getElem?_append_left hi, List.take_append_of_le_length (by omega)]
      · by_cases e : i = l.length
        · subst e
          have e1 : (l ++ [a])[l.length]? = some a := by simp
          rw [e1, List.getElem?_eq_none (Nat.le_refl _)]
          constructor
          · rintro ⟨q, _⟩; cases q
          · rintro ⟨q, _⟩; exact absurd (Option.some.inj q) h
        · have e1 : (l ++ [a])[i]? = none := List.getElem?_eq_none (by simp; omega)
          rw [e1, List.getElem?_eq_none (by omega)]
          constructor
          · rintro ⟨q, _⟩; cases q
          · rintro ⟨q, _⟩; cases q
/-- what addNum does, the keys apart -/
theorem addNum_mem : ∀ {kvs : List (Str × List Int)} {x : Str} {n : Int}, (kvs.map Prod.fst).Nodup → ((addNum kvs x n).map Prod.fst).Nodup ∧ (∀ y, y ∈ (addNum kvs x n).map Prod.fst ↔ y = x ∨ y ∈ kvs.map Prod.fst) ∧
    ∀ kv ∈ addNum kvs x n, (kv.1 ≠ x ∧ kv ∈ kvs) ∨ (kv.1 = x ∧ ((∃ ns, (x, ns) ∈ kvs ∧ kv.2 = ns ++ [n]) ∨ (x ∉ kvs.map Prod.fst ∧ kv.2 = [n])))
  | [], x, n, _ => ⟨by simp [addNum], by simp [addNum], fun kv h => by
      simp [addNum] at h; subst h
      exact .inr ⟨rfl, .inr ⟨by simp, rfl⟩⟩⟩
  | (y, ns) :: r, x, n, nd => by
    rw [List.map_cons, List.nodup_cons] at nd
    unfold addNum
    by_cases e : y = x
    · subst e
      rw [if_pos rfl]
      refine ⟨by rw [List.map_cons, List.nodup_cons]; exact nd, by simp, fun kv h => ?_⟩
      rcases List.mem_cons.mp h with rfl | h
      · exact .inr ⟨rfl, .inl ⟨ns, by simp, rfl⟩⟩
      · refine .inl ⟨fun q => nd.1 ?_, List.mem_cons_of_mem _ h⟩
        exact List.mem_map.mpr ⟨kv, h, q⟩
    · rw [if_neg e]
      obtain ⟨i1, i2, i3⟩ := addNum_mem (x := x) (n := n) nd.2
      refine ⟨?_, fun z => ?_, fun kv h => ?_⟩
      · rw [List.map_cons, List.nodup_cons]
        refine ⟨fun q => ?_, i1⟩
        rcases (i2 y).mp q with q | q
        · exact e q
        · exact nd.1 q
      · rw [List.map_cons, List.mem_cons, i2 z, List.map_cons, List.mem_cons]
        constructor
        · rintro (q | q | q)
          · exact .inr (.inl q)
          · exact .inl q
          · exact .inr (.inr q)
        · rintro (q | q | q)
          · exact .inr (.inl q)
          · exact .inl q
          · exact .inr (.inr q)
      · rcases List.mem_cons.mp h with rfl | h
        · exact .inl ⟨e, List.mem_cons_self⟩
        · rcases i3 kv h with ⟨q1, q2⟩ | ⟨q1, ⟨ms, q2, q3⟩ | ⟨q2, q3⟩⟩
          · exact .inl ⟨q1, List.mem_cons_of_mem _ q2⟩
          · exact .inr ⟨q1, .inl ⟨ms, List.mem_cons_of_mem _ q2, q3⟩⟩
          · refine .inr ⟨q1, .inr ⟨fun q => ?_, q3⟩⟩
            rw [List.map_cons, List.mem_cons] at q
            rcases q with q | q
            · exact e q.symm
            · exact q2 q
def castI (l : List Nat) : List Int := l.map fun i => ((i : Nat) : Int)
theorem nums_ok : ∀ xs : List Str, ((numsFrom [] 0 xs).map Prod.fst).Nodup ∧ (∀ y, y ∈ (numsFrom [] 0 xs).map Prod.fst ↔ y ∈ xs) ∧ ∀ kv ∈ numsFrom [] 0 xs, kv.2 = castI (posOf xs kv.1) :=
  snoc_ind ⟨by simp [numsFrom], by simp [numsFrom], by simp [numsFrom]⟩ fun l a ⟨h1, h2, h3⟩ => by
    rw [numsFrom_snoc]
    obtain ⟨i1, i2, i3⟩ := addNum_mem (x := a) (n := ((0 + l.length : Nat) : Int)) h1
    refine ⟨i1, fun y => ?_, fun kv hk => ?_⟩
    · rw [i2 y, h2 y, List.mem_append, List.mem_singleton]
      exact ⟨fun q => q.symm, fun q => q.symm⟩
    · rw [posOf_snoc]
      rcases i3 kv hk with ⟨q1, q2⟩ | ⟨q1, ⟨ms, q2, q3⟩ | ⟨q2, q3⟩⟩
      · rw [if_neg (fun e => q1 e.symm), List.append_nil]
        exact h3 kv q2
      · have := h3 _ q2
        rw [q3, q1, if_pos rfl]
        unfold castI at *
        rw [List.map_append, ← this]
        simp
      · have hno : a ∉ l := fun q => q2 ((h2 a).mpr q)
        have : posOf l kv.1 = [] := by
          rw [q1]
          have := posOf_len a l
          rw [List.count_eq_zero_of_not_mem hno] at this
          exact List.eq_nil_of_length_eq_zero this
        rw [q3, this, q1, if_pos rfl]
        simp [castI]

theorem getD_some {xs : List Str} {i : Nat} (h : i < xs.length) : xs[i]? = some (xs.getD i "") := by
  rw [List.getD_eq_getElem?_getD, List.getElem?_eq_getElem h]; rfl
/-! ### strips -/
def namesOf (ms : List It2) : List Str := ms.map fun x => x.1.1
def numsOf (ms : List It2) : List (Str × List Int) := numsFrom [] 0 (namesOf ms)
def stripF (p : Str) (ms : List It2) : List (Str × D) := [("kept_row", .lst (rowL p ms)), ("kept_places", .dz (numsD (numsOf ms)))]
abbrev stC (K : PySem.W.Frag) : Addr := He.ga K "Strip"
abbrev stripD (K : PySem.W.Frag) (p : Str) (ms : List It2) : D := .ins (stC K) (stripF p ms)
structure StK (K : PySem.W.Frag) : Prop where
  ins : InsK K (stC K)
  n1 : NoAttr K (stC K) "kept_row"
  n2 : NoAttr K (stC K) "kept_places"
/-- a strip: each name twice, at most twelve names -/
structure StOk (p : Str) (ms : List It2) : Prop where
  row : RowOk p ms
  two : ∀ x ∈ namesOf ms, (namesOf ms).count x = 2
  few : (numsOf ms).length ≤ 12
  w : rowW p ms ≤ 100000
theorem castI_len (l : List Nat) : (castI l).length = l.length := by unfold castI; rw [List.length_map]
theorem StOk.nums {p : Str} {ms : List It2} (h : StOk p ms) : ∀ kv ∈ numsOf ms, kv.2.length = 2 ∧ kv.2 = castI (posOf (namesOf ms) kv.1) ∧ kv.1 ∈ namesOf ms := fun kv hk => by
  obtain ⟨_, h2, h3⟩ := nums_ok (namesOf ms)
  have e := h3 kv hk
  have hm : kv.1 ∈ namesOf ms := (h2 kv.1).mp (List.mem_map.mpr ⟨kv, hk, rfl⟩)
  refine ⟨?_, e, hm⟩
  rw [e, castI_len, posOf_len, h.two _ hm]
theorem sum_nums : ∀ (l : List (Str × List Int)), (∀ kv ∈ l, kv.2.length = 2) → (l.flatMap Prod.snd).length = 2 * l.length
  | [], _ => rfl
  | a :: l, h => by
    rw [List.flatMap_cons, List.length_append, sum_nums l fun kv hk => h kv (List.mem_cons_of_mem _ hk), h a List.mem_cons_self]
    simp; omega
theorem total_addN : ∀ (kvs : List (Str × List Int)) (x : Str) (n : Int), ((addNum kvs x n).flatMap Prod.snd).length = (kvs.flatMap Prod.snd).length + 1
  | [], x, n => rfl
  | (y, ns) :: r, x, n => by
    unfold addNum
    split
    · simp [List.flatMap_cons]; omega
    · have := total_addN r x n
      simp [List.flatMap_cons] at this ⊢; omega
theorem total_numsN (xs : List Str) : ∀ (kvs : List (Str × List Int)) (i : Nat), ((numsFrom kvs i xs).flatMap Prod.snd).length = (kvs.flatMap Prod.snd).length + xs.length := by
  induction xs with
  | nil => intro kvs i; rfl
  | cons x xs ih =>
    intro kvs i
    show ((numsFrom (addNum kvs x (i : Nat)) (i + 1) xs).flatMap Prod.snd).length = _
    rw [ih, total_addN, List.length_cons]; omega
theorem StOk.len {p : Str} {ms : List It2} (h : StOk p ms) : ms.length = 2 * (numsOf ms).length ∧ ms.length ≤ 24 := by
  have h1 := sum_nums (numsOf ms) fun kv hk => (h.nums kv hk).1
  have h2 := total_numsN (namesOf ms) [] 0
  simp only [List.flatMap_nil, List.length_nil, Nat.zero_add] at h2
  have h3 : (namesOf ms).length = ms.length := by unfold namesOf; rw [List.length_map]
  have h4 := h.few
  unfold numsOf at *
  omega
/-- the two places of a name -/
theorem StOk.places {p : Str} {ms : List It2} (h : StOk p ms) {x : Str} (hx : x ∈ namesOf ms) : ∃ i j : Nat, posOf (namesOf ms) x = [i, j] ∧ i < j ∧ j < ms.length ∧ (namesOf ms)[i]? = some x ∧ (namesOf ms)[j]? = some x := by
  have hl : (posOf (namesOf ms) x).length = 2 := by rw [posOf_len]; exact h.two x hx
  match hq : posOf (namesOf ms) x, hl with
  | [i, j], _ =>
    have hi : i ∈ posOf (namesOf ms) x := by rw [hq]; simp
    have hj : j ∈ posOf (namesOf ms) x := by rw [hq]; simp
    have hs : (posOf (namesOf ms) x).Pairwise (· < ·) := by
      unfold posOf
      exact List.Pairwise.filter _ List.pairwise_lt_range
    rw [hq] at hs
    simp at hs
    have ei := posOf_mem.mp hi
    have ej := posOf_mem.mp hj
    have := (List.getElem?_eq_some_iff.mp ej).1
    unfold namesOf at this
    rw [List.length_map] at this
    exact ⟨i, j, rfl, hs, this, ei, ej⟩
theorem name_at {ms : List It2} {i : Nat} {x : Str} (h : (namesOf ms)[i]? = some x) : ∃ m : It2, ms[i]? = some m ∧ m.1.1 = x := by
  unfold namesOf at h
  rw [List.getElem?_map] at h
  cases q : ms[i]? with
  | none => rw [q] at h; cases h
  | some m => rw [q] at h; exact ⟨m, rfl, Option.some.inj h⟩
/-- the numbers by name -/
theorem val_nums : ∀ {l : List (Str × List Int)} {x : Str} {ns : List Int}, (l.map Prod.fst).Nodup → (x, ns) ∈ l → valD (numsD l) (.inr x) = some (.lst (ns.map .int))
  | [], _, _, _, h => by cases h
  | (y, ms) :: l, x, ns, nd, h => by
    rw [List.map_cons, List.nodup_cons] at nd
    unfold valD numsD
    rw [List.map_cons, List.find?_cons]
    rcases List.mem_cons.mp h with e | h
    · cases e; simp
    · have hne : y ≠ x := fun e => nd.1 (by rw [e]; exact List.mem_map.mpr ⟨_, h, rfl⟩)
      have : decide ((Sum.inr y : Key) = .inr x) = false := by simpa using hne
      simp only [this]
      exact val_nums nd.2 h
theorem StOk.val {p : Str} {ms : List It2} (h : StOk p ms) {x : Str} {i j : Nat} (hp : posOf (namesOf ms) x = [i, j]) : valD (numsD (numsOf ms)) (.inr x) = some (.lst [.int (i : Nat), .int (j : Nat)]) := by
  obtain ⟨h1, h2, h3⟩ := nums_ok (namesOf ms)
  have hx : x ∈ namesOf ms := List.mem_of_getElem? (posOf_mem.mp (show i ∈ posOf (namesOf ms) x by rw [hp]; simp))
  obtain ⟨kv, hk, ek⟩ := List.mem_map.mp ((h2 x).mpr hx)
  have e := h3 kv hk
  rw [ek, hp] at e
  obtain ⟨k1, k2⟩ := kv
  cases ek
  cases e
  exact val_nums h1 hk
/-! ### texts of items -/
def itemText : D → Str
  | .str z => if z = "" then "_" else z
  | .tup [.str z, .bl b] => z ++ (if b then "+" else "-")
  | _ => ""
def itemsText (xs : List D) : Str := Txt.join " " (xs.map itemText)
/-! ### promises -/
def A_item_text (K : PySem.W.Frag) : FS := fun ds post => ∃ d, ds = [d] ∧ ((∃ z, d = .str z ∧ z.length ≤ 1000000 ∧ PyData.strOk z = true) ∨ ∃ z b, d = .tup [.str z, .bl b] ∧ z.length ≤ 1000000 ∧ PyData.strOk z = true) ∧ post (.val (.str (itemText d)))
def A_items_text (K : PySem.W.Frag) : FS := fun ds post => ∃ p ms, ds = [.lst (rowL p ms)] ∧ RowOk p ms ∧ rowW p ms ≤ 100000 ∧ ms.length ≤ 1000 ∧ post (.val (.str (itemsText (rowL p ms))))
def A_Strip_init (K : PySem.W.Frag) : FI := fun ds post => ∃ d p ms, ds = [d] ∧ SeqD d (rowL p ms) ∧ StOk p ms ∧ StK K ∧ post (stripF p ms)
def A_Strip_row (K : PySem.W.Frag) : FS := fun ds post => ∃ p ms, ds = [stripD K p ms] ∧ StK K ∧ post (.new (.lst (rowL p ms)))
def A_Strip_names (K : PySem.W.Frag) : FS := fun ds post => ∃ p ms, ds = [stripD K p ms] ∧ StK K ∧ post (.new (.lst ((numsOf ms).map fun kv => .str kv.1)))
def A_Strip_pieces (K : PySem.W.Frag) : FS := fun ds post => ∃ p ms, ds = [stripD K p ms] ∧ StK K ∧ post (.new (.lst (evens (rowL p ms))))
def A_Strip_require_name (K : PySem.W.Frag) : FS := fun ds post => ∃ p ms x, ds = [stripD K p ms, .str x] ∧ StK K ∧ StOk p ms ∧ x ∈ namesOf ms ∧ post (.val .non)
def A_Strip_places (K : PySem.W.Frag) : FS := fun ds post => ∃ p ms x i j, ds = [stripD K p ms, .str x] ∧ StK K ∧ StOk p ms ∧ posOf (namesOf ms) x = [i, j] ∧ post (.val (.tup [.int (i : Nat), .int (j : Nat)]))
def upAt (ms : List It2) (i : Nat) : Bool := ((ms[i]?).map fun m => m.1.2).getD false
def A_Strip_orientations (K : PySem.W.Frag) : FS := fun ds post => ∃ p ms x i j, ds = [stripD K p ms, .str x] ∧ StK K ∧ StOk p ms ∧ posOf (namesOf ms) x = [i, j] ∧ post (.val (.tup [.bl (upAt ms i), .bl (upAt ms j)]))
def A_Strip_is_direct (K : PySem.W.Frag) : FS := fun ds post => ∃ p ms x i j, ds = [stripD K p ms, .str x] ∧ StK K ∧ StOk p ms ∧ posOf (namesOf ms) x = [i, j] ∧ post (.val (.bl (decide (upAt ms i = upAt ms j))))
def betw (ms : List It2) (i j : Nat) : List Str := ((namesOf ms).take j).drop (i + 1)
def A_Strip_names_between (K : PySem.W.Frag) : FS := fun ds post => ∃ p ms x i j, ds = [stripD K p ms, .str x] ∧ StK K ∧ StOk p ms ∧ posOf (namesOf ms) x = [i, j] ∧ post (.new (.lst ((betw ms i j).map .str)))
def A_Strip_crosses (K : PySem.W.Frag) : FS := fun ds post => ∃ p ms x y i j, ds = [stripD K p ms, .str x, .str y] ∧ StK K ∧ StOk p ms ∧ posOf (namesOf ms) x = [i, j] ∧ y ∈ namesOf ms ∧ post (.val (.bl (!decide (x = y) && decide ((betw ms i j).count y = 1))))
def A_Strip_len (K : PySem.W.Frag) : FS := fun ds post => ∃ p ms, ds = [stripD K p ms] ∧ StK K ∧ post (.val (.int (numsOf ms).length))
def A_Strip_str (K : PySem.W.Frag) : FS := fun ds post => ∃ p ms, ds = [stripD K p ms] ∧ StK K ∧ StOk p ms ∧ post (.val (.str (itemsText (rowL p ms))))
def A_Strip_repr (K : PySem.W.Frag) : FS := fun ds post => ∃ p ms, ds = [stripD K p ms] ∧ StK K ∧ StOk p ms ∧ post (.val (.str (("Strip(" : Str) ++ itemsText (rowL p ms) ++ ")")))
end Ms

/-! Lay23: a dict of own lists of anything: found.setdefault(key, []).append(thing). -/
namespace Ms
open PySem PySem.Spec PyProof.Rows L2
def addX {α : Type} : List (Str × List α) → Str → α → List (Str × List α)
  | [], x, n => [(x, [n])]
  | (y, ns) :: r, x, n => if y = x then (y, ns ++ [n]) :: r else (y, ns) :: addX r x n
abbrev NV := Str × List V × Addr
def nvD (ps : List NV) : List (Key × V) := ps.map fun p => (.inr p.1, .ref p.2.2)
def nvP (ps : List NV) : List (Addr × HO) := ps.map fun p => (p.2.2, .lst p.2.1)
def nvK (ps : List NV) : List (Str × List V) := ps.map fun p => (p.1, p.2.1)
def nvA (ps : List NV) : List Addr := ps.map fun p => p.2.2
theorem nv_find : ∀ {ps : List NV} {x : Str} {v : V}, valV (nvD ps) (.inr x) = some v → ∃ pre ns l post, ps = pre ++ (x, ns, l) :: post ∧ v = .ref l ∧ (∀ n, nvK (pre ++ (x, ns ++ [n], l) :: post) = addX (nvK ps) x n)
  | [], _, _, h => by simp [nvD, valV] at h
  | (y, ns, l) :: r, x, v, h => by
    by_cases e : y = x
    · subst e
      simp [nvD, valV] at h
      exact ⟨[], ns, l, r, rfl, h.symm, fun n => by simp [nvK, addX]⟩
    · have h2 : valV (nvD r) (.inr x) = some v := by
        unfold valV nvD at h ⊢
        rw [List.map_cons, List.find?_cons] at h
        have : decide ((Sum.inr y : Key) = .inr x) = false := by simpa using e
        simp only [this] at h
        exact h
      obtain ⟨pre, ms, k, post, e1, e2, e3⟩ := nv_find h2
      refine ⟨(y, ns, l) :: pre, ms, k, post, by rw [e1]; rfl, e2, fun n => ?_⟩
      have := e3 n
      simp only [nvK, List.map_cons, List.cons_append, addX, if_neg e] at this ⊢
      rw [this]
theorem nv_none : ∀ {ps : List NV} {x : Str}, valV (nvD ps) (.inr x) = none → (∀ n l, nvK (ps ++ [(x, [n], l)]) = addX (nvK ps) x n) ∧ ∀ v, putK (nvD ps) (.inr x) v = nvD ps ++ [(.inr x, v)]
  | ps, x, h => by
    have hn : ∀ p ∈ ps, p.1 ≠ x := fun p hp e => by
      unfold valV at h
      rw [Option.map_eq_none_iff, List.find?_eq_none] at h
      exact h (.inr p.1, .ref p.2.2) (List.mem_map.mpr ⟨p, hp, rfl⟩) (by simp [e])
    refine ⟨fun n l => ?_, fun v => ?_⟩
    · clear h
      induction ps with
      | nil => rfl
      | cons q r ih =>
        have := ih fun p hp => hn p (List.mem_cons_of_mem _ hp)
        simp only [nvK, List.cons_append, List.map_cons, addX, if_neg (hn q List.mem_cons_self)] at this ⊢
        rw [this]
    · unfold putK
      rw [if_neg]
      intro z
      rw [List.any_eq_true] at z
      obtain ⟨kv, hk, e⟩ := z
      obtain ⟨p, hp, rfl⟩ := List.mem_map.mp hk
      simp at e
      exact hn p hp e
section
variable {K : PySem.W.Frag} {M : List Addr} {L L' : List (Addr × HO)} {G0 H0 G H : Hp} {σ : L2.St} {δ : List Sl}
theorem nv_step {ps : List NV} {a : Addr} {x : Str} {ty tv : TE} {dv : D} {i1 : Nat} (c : Cur K M ((a, .dK (nvD ps)) :: (nvP ps ++ L)) G0 H0 G H σ δ) (nd : (a :: nvA ps).Nodup) (hL : ∀ p ∈ L, ∀ b ∈ a :: nvA ps, p.1 ≠ b)
    (s1 : σ[i1]? = some (some (.ref a))) (hk : EvD K ty δ fun d δ1 => d = .str x ∧ δ1 = δ) (hv : EvD K tv δ fun d δ1 => d = dv ∧ δ1 = δ) (hz : ps.length < sizeLine) (hz2 : ∀ p ∈ ps, p.2.1.length < sizeLine) {Q : VK}
    (q : ∀ (ps' : List NV) (v : V) (G' H' : Hp), Same G G' → Rep K G' dv v → nvK ps' = addX (nvK ps) x v → Cur K M ((a, .dK (nvD ps')) :: (nvP ps' ++ L)) G0 H0 G' H' σ δ → (a :: nvA ps').Nodup → (∀ p ∈ L, ∀ b ∈ a :: nvA ps', p.1 ≠ b) → Q .non H') :
    tBM K "list" rAppend (tDSetd (tVar i1) ty (tLst tNil)) (tCons tv tNil) σ H Q := by
  obtain ⟨ha, na, h0a, apa⟩ := c.apart (p := (a, .dK (nvD ps))) List.mem_cons_self
  refine ⟨.ref a, s1, a, rfl, .inl ⟨_, .of ha⟩, hk M _ G0 H0 G H σ c _ fun d δ1 u G1 H1 t1 c1 r1 ⟨e1, e2⟩ => ?_⟩
  subst e1 e2
  have eu := r1.str_inv
  subst eu
  refine ⟨Nat.zero_le _, fun p hp => ?_⟩
  obtain ⟨ha, na, h0a, apa⟩ := c1.apart (p := (a, .dK (nvD ps))) List.mem_cons_self
  have c2 := c1.grow (.newH (o := .lst []) c1.gh hp)
  have fp := c1.fresh hp
  have nap : a ≠ p := ne_of_none ha hp
  have ha2 : upd H1 p (.lst []) a = some (.dK (nvD ps)) := by rw [upd_ne nap]; exact ha
  refine ⟨nvD ps, .inr x, ha2, rfl, by simpa [nvD] using hz, fun v hv' => ?_, fun hv' => ?_⟩
  · obtain ⟨pre, ns, l, post, e1, rfl, e3⟩ := nv_find hv'
    have hl := (c2.apart (p := (l, .lst ns)) (by rw [e1]; simp [nvP]))
    refine ⟨.inl ⟨rfl, _, SqL.of hl.1⟩, hv M _ G0 H0 G1 _ σ c2 _ fun d δ2 n G2 H2 t2 c2' r2 ⟨e4, e5⟩ => ?_⟩
    subst e4 e5
    have hl := (c2'.apart (p := (l, .lst ns)) (by rw [e1]; simp [nvP]))
    refine ⟨l, ns, n, rfl, rfl, hl.1, hz2 (x, ns, l) (by rw [e1]; simp), ?_⟩
    have ed : nvD (pre ++ (x, ns ++ [n], l) :: post) = nvD ps := by rw [e1]; simp [nvD]
    have eA : nvA (pre ++ (x, ns ++ [n], l) :: post) = nvA ps := by rw [e1]; simp [nvA]
    refine q (pre ++ (x, ns ++ [n], l) :: post) n G2 _ (t1.trans t2) r2 (e3 n) ?_ (by rw [eA]; exact nd) (by rw [eA]; exact hL)
    rw [ed]
    -- the pins other than l
    have nd2 : (a :: nvA (pre ++ (x, ns, l) :: post)).Nodup := by rw [← e1]; exact nd
    simp only [nvA, List.map_append, List.map_cons, List.nodup_cons, List.nodup_append, List.mem_append, List.mem_cons] at nd2
    obtain ⟨nd3, nd4, ⟨nd5, nd6⟩, nd7⟩ := nd2
    have c3 : Cur K M ((l, .lst ns) :: ((a, .dK (nvD ps)) :: (nvP pre ++ nvP post) ++ L)) G0 H0 G2 H2 σ δ2 := by
      refine c2'.subpins fun z hz => ?_
      rw [e1]
      simp only [nvP, List.map_append, List.map_cons, List.mem_append, List.mem_cons, List.cons_append] at hz ⊢
      rcases hz with h | h | (h | h) | h
      · exact .inr (.inl (.inr (.inl h)))
      · left; rw [h, e1]
      · exact .inr (.inl (.inl h))
      · exact .inr (.inl (.inr (.inr h)))
      · exact .inr (.inr h)
    have c4 := c3.writePin (o' := .lst (ns ++ [n])) (fun z hz => by
      simp only [nvP, List.mem_append, List.mem_cons, List.mem_map, List.cons_append] at hz
      rcases hz with h | (⟨w, hw, h⟩ | ⟨w, hw, h⟩) | h
      · rw [h]; exact fun e => nd3 (.inr (.inl e))
      · rw [← h]
        exact nd7 _ (List.mem_map.mpr ⟨w, hw, rfl⟩) _ (.inl rfl)
      · rw [← h]
        exact fun e => nd5 (List.mem_map.mpr ⟨w, hw, e⟩)
      · exact hL z h l (by rw [e1]; simp [nvA]))
    refine c4.subpins fun z hz => ?_
    simp only [nvP, List.map_append, List.map_cons, List.mem_append, List.mem_cons, List.cons_append] at hz ⊢
    rcases hz with h | (h | h | h) | h
    · exact .inr (.inl h)
    · exact .inr (.inr (.inl (.inl h)))
    · left; rw [h]
    · exact .inr (.inr (.inl (.inr h)))
    · exact .inr (.inr (.inr h))
  · obtain ⟨e3, e4⟩ := nv_none hv'
    rw [e4]
    have hp3 : upd (upd H1 p (.lst [])) a (.dK (nvD ps ++ [(.inr x, .ref p)])) p = some (.lst []) := by rw [upd_ne (Ne.symm nap), upd_same]
    have npl : ∀ z ∈ nvP ps ++ L, z.1 ≠ p := fun z hz e => by
      have := c1.apart (p := z) (List.mem_cons_of_mem _ hz)
      rw [e, hp] at this
      cases this.1
    have nda : ∀ z ∈ nvP ps ++ L, z.1 ≠ a := fun z hz => by
      rcases List.mem_append.mp hz with h | h
      · obtain ⟨w, hw, rfl⟩ := List.mem_map.mp h
        rw [List.nodup_cons] at nd
        exact fun e => nd.1 (by rw [← e]; exact List.mem_map.mpr ⟨w, hw, rfl⟩)
      · exact hL z h a List.mem_cons_self
    have c3 := c2.writePin (o' := .dK (nvD ps ++ [(.inr x, .ref p)])) nda
    have c4 := c3.pinAp (a := p) (u := .lst []) fp.2.1 fp.1 hp3 fp.2.2.1
    refine ⟨.inl ⟨rfl, _, SqL.of hp3⟩, hv M _ G0 H0 G1 _ σ c4 _ fun d δ2 n G2 H2 t2 c4' r2 ⟨e5, e6⟩ => ?_⟩
    subst e5 e6
    have hp4 := (c4'.apart (p := (p, .lst [])) List.mem_cons_self).1
    refine ⟨p, [], n, rfl, rfl, hp4, Nat.lt_of_lt_of_le (by decide) (show 1 ≤ sizeLine by decide), ?_⟩
    refine q (ps ++ [(x, [n], p)]) n G2 _ (t1.trans t2) r2 (e3 n p) ?_ ?_ ?_
    · have eP : nvP (ps ++ [(x, [n], p)]) = nvP ps ++ [(p, .lst [n])] := by simp [nvP]
      have eD : nvD (ps ++ [(x, [n], p)]) = nvD ps ++ [(.inr x, .ref p)] := by simp [nvD]
      rw [eP, eD]
      have c5 := c4'.writePin (o' := .lst [n]) (fun z hz => by
        rcases List.mem_cons.mp hz with h | h
        · rw [h]; exact nap
        · exact npl z h)
      refine c5.subpins fun z hz => ?_
      simp only [List.mem_append, List.mem_cons, List.cons_append, List.not_mem_nil, or_false] at hz ⊢
      rcases hz with h | (h | h) | h
      · exact .inr (.inl h)
      · exact .inr (.inr (.inl h))
      · exact .inl h
      · exact .inr (.inr (.inr h))
    · have eA : nvA (ps ++ [(x, [n], p)]) = nvA ps ++ [p] := by simp [nvA]
      rw [eA, ← List.cons_append, List.nodup_append]
      refine ⟨nd, by simp, fun b hb b2 hb2 e => ?_⟩
      simp at hb2
      subst hb2
      subst e
      rcases List.mem_cons.mp hb with h | h
      · exact nap h.symm
      · obtain ⟨w, hw, e⟩ := List.mem_map.mp h
        exact npl (w.2.2, .lst w.2.1) (List.mem_append_left _ (List.mem_map.mpr ⟨w, hw, rfl⟩)) e
    · intro z hz b hb
      have eA : nvA (ps ++ [(x, [n], p)]) = nvA ps ++ [p] := by simp [nvA]
      rw [eA, ← List.cons_append] at hb
      rcases List.mem_append.mp hb with h | h
      · exact hL z hz b h
      · simp at h
        subst h
        exact npl z (List.mem_append_right _ hz)
theorem nv_freeze : ∀ {ps : List NV} {G : Hp}, Cur K M (nvP ps ++ L) G0 H0 G H σ δ → (nvA ps).Nodup → (∀ p ∈ L, ∀ b ∈ nvA ps, p.1 ≠ b) → ∃ G', Same G G' ∧ Cur K M L G0 H0 G' H σ δ ∧ (∀ p ∈ ps, G' p.2.2 = some (.lst p.2.1)) ∧ ∀ b, b ∉ nvA ps → G' b = G b
  | [], G, c, _, _ => ⟨G, .refl _, c, (fun p hp => nomatch hp), fun _ _ => rfl⟩
  | q :: r, G, c, nd, hL => by
    obtain ⟨h1, h2, h3, h4⟩ := c.apart (p := (q.2.2, .lst q.2.1)) (by simp [nvP])
    have nd' : (q.2.2 :: nvA r).Nodup := nd
    rw [List.nodup_cons] at nd'
    have c1 : Cur K M (nvP r ++ L) G0 H0 G H σ δ := c.subpins fun z hz => by
      show z ∈ (q.2.2, HO.lst q.2.1) :: (nvP r ++ L)
      exact List.mem_cons_of_mem _ hz
    have hl : ∀ z ∈ nvP r ++ L, z.1 ≠ q.2.2 := fun z hz e => by
      rcases List.mem_append.mp hz with h | h
      · obtain ⟨w, hw, rfl⟩ := List.mem_map.mp h
        exact nd'.1 (by rw [← e]; exact List.mem_map.mpr ⟨w, hw, rfl⟩)
      · exact hL z h q.2.2 (by simp [nvA]) e
    have c2 := c1.freezeNew h2 h3 h1 h4 hl
    obtain ⟨G', s, c3, h5, h6⟩ := nv_freeze c2 nd'.2 fun p hp b hb => hL p hp b (by
      show b ∈ q.2.2 :: nvA r
      exact List.mem_cons_of_mem _ hb)
    refine ⟨G', (same_upd h2).trans s, c3, fun p hp => ?_, fun b hb => ?_⟩
    · rcases List.mem_cons.mp hp with rfl | hp
      · rw [h6 _ nd'.1, upd_same]
      · exact h5 p hp
    · have hb' : b ∉ q.2.2 :: nvA r := hb
      rw [List.mem_cons, not_or] at hb'
      rw [h6 b hb'.2, upd_ne hb'.1]
end
def dicX (kvs : List (Str × List D)) : List (Key × D) := kvs.map fun p => (.inr p.1, .lst p.2)
inductive RepX (K : PySem.W.Frag) (G : Hp) : List (Str × List D) → List (Str × List V) → Prop
  | nil : RepX K G [] []
  | cons {x ds vs r s} : Reps K G ds vs → RepX K G r s → RepX K G ((x, ds) :: r) ((x, vs) :: s)
theorem Reps.snoc1 {K : PySem.W.Frag} {G : Hp} : ∀ {ds : List D} {vs : List V} {d : D} {v : V}, Reps K G ds vs → Rep K G d v → Reps K G (ds ++ [d]) (vs ++ [v])
  | [], _, d, v, h, r => by rw [h.nil_inv]; exact .one r
  | x :: ds, _, d, v, h, r => by
    obtain ⟨w, r', rfl, h1, h2⟩ := h.cons_inv
    exact .cons h1 (Reps.snoc1 h2 r)
theorem RepX.mono {K : PySem.W.Frag} {G G' : Hp} (s : Same G G') {ds : List (Str × List D)} {vs : List (Str × List V)} (h : RepX K G ds vs) : RepX K G' ds vs := by
  induction h with
  | nil => exact .nil
  | cons w _ ih => exact .cons (w.mono s) ih
theorem RepX.add {K : PySem.W.Frag} {G : Hp} {ds : List (Str × List D)} {vs : List (Str × List V)} {x : Str} {d : D} {v : V} (h : RepX K G ds vs) (r : Rep K G d v) : RepX K G (addX ds x d) (addX vs x v) := by
  induction h with
  | nil => exact .cons (.one r) .nil
  | @cons y a b c e w w2 ih =>
    unfold addX
    by_cases q : y = x
    · rw [if_pos q, if_pos q]
      exact .cons (Reps.snoc1 w r) w2
    · rw [if_neg q, if_neg q]; exact .cons w ih
theorem nv_rep {K : PySem.W.Frag} {G : Hp} : ∀ {ps : List NV} {kvs : List (Str × List D)}, (∀ p ∈ ps, G p.2.2 = some (.lst p.2.1)) → RepX K G kvs (nvK ps) → RepK K G (dicX kvs) (nvD ps)
  | [], kvs, _, r => by cases r; exact .nil
  | q :: r, kvs, h, rx => by
    cases rx with
    | cons w w2 => exact .cons (rep_lst (h q List.mem_cons_self) w) (nv_rep (fun p hp => h p (List.mem_cons_of_mem _ hp)) w2)
/-- key and thing of each item -/
def gatherX (kvs : List (Str × List D)) : List (Str × D) → List (Str × List D)
  | [] => kvs
  | (x, d) :: r => gatherX (addX kvs x d) r
theorem gatherX_snoc : ∀ (xs : List (Str × D)) (kvs : List (Str × List D)) (x : Str × D), gatherX kvs (xs ++ [x]) = addX (gatherX kvs xs) x.1 x.2
  | [], _, _ => rfl
  | (y, d) :: ys, kvs, x => by
    rw [List.cons_append]
    show gatherX (addX kvs y d) (ys ++ [x]) = _
    rw [gatherX_snoc ys _ x]; rfl
theorem addX_len {α : Type} (kvs : List (Str × List α)) (x : Str) (n : α) : (addX kvs x n).length ≤ kvs.length + 1 := by
  induction kvs with
  | nil => simp [addX]
  | cons p r ih =>
    obtain ⟨y, ns⟩ := p
    unfold addX
    split
    · simp
    · simp; omega
theorem addX_vals {α : Type} (m : Nat) : ∀ (kvs : List (Str × List α)) (x : Str) (n : α), (∀ p ∈ kvs, p.2.length ≤ m) → ∀ p ∈ addX kvs x n, p.2.length ≤ m + 1
  | [], x, n, _, p, hp => by simp [addX] at hp; subst hp; simp
  | (y, ns) :: r, x, n, h, p, hp => by
    unfold addX at hp
    split at hp
    · rcases List.mem_cons.mp hp with rfl | hp
      · have := h (y, ns) List.mem_cons_self; simp at this ⊢; exact this
      · have := h p (List.mem_cons_of_mem _ hp); omega
    · rcases List.mem_cons.mp hp with rfl | hp
      · have := h (y, ns) List.mem_cons_self; simp at this ⊢; omega
      · exact addX_vals m r x n (fun p hp => h p (List.mem_cons_of_mem _ hp)) p hp
theorem RepX.len {K : PySem.W.Frag} {G : Hp} {ds : List (Str × List D)} {vs : List (Str × List V)} (h : RepX K G ds vs) : vs.length = ds.length := by
  induction h with
  | nil => rfl
  | cons _ _ ih => simp [ih]
theorem RepX.vals {K : PySem.W.Frag} {G : Hp} {ds : List (Str × List D)} {vs : List (Str × List V)} (h : RepX K G ds vs) {m : Nat} (hm : ∀ p ∈ ds, p.2.length ≤ m) : ∀ p ∈ vs, p.2.length ≤ m := by
  induction h with
  | nil => intro p hp; cases hp
  | cons w _ ih =>
    intro p hp
    rcases List.mem_cons.mp hp with rfl | hp
    · have := hm _ List.mem_cons_self
      rw [← w.len] at this; exact this
    · exact ih (fun q hq => hm q (List.mem_cons_of_mem _ hq)) p hp
theorem gatherX_ok (xs : List (Str × D)) : (gatherX [] xs).length ≤ xs.length ∧ ∀ p ∈ gatherX [] xs, p.2.length ≤ xs.length := by
  revert xs
  refine snoc_ind (by simp [gatherX]) fun l a ⟨h1, h2⟩ => ?_
  rw [gatherX_snoc, List.length_append, List.length_singleton]
  exact ⟨Nat.le_trans (addX_len _ _ _) (by omega), addX_vals _ _ _ _ h2⟩
/-- found = {}; for .. in ..: found.setdefault(key, []).append(thing); return found -/
theorem sd_gather {K : PySem.W.Frag} {P : Po} {i1 : Nat} {δ : List Sl} {js : List Nat} {g : TG} {ty tv : TE} {wi : TI} {its : List D} (f : D → Str × D) (hi1 : δ[i1]? = some .no) (hij : i1 ∉ js) (hlen : its.length < big)
    (hI : EvI K wi δ fun xs δ' => xs = its ∧ δ' = δ)
    (hg : ∀ (i : Nat) x δ1, its[i]? = some x → wipeS δ1 js = wipeS δ js → δ1.length = δ.length → δ1[i1]? = some .no → TgD K js g x δ1 fun δ2 => wipeS δ2 js = wipeS δ js ∧ δ2[i1]? = some .no ∧ (EvD K ty δ2 fun d δ3 => d = .str (f x).1 ∧ δ3 = δ2) ∧ EvD K tv δ2 fun d δ3 => d = (f x).2 ∧ δ3 = δ2)
    (k : ∀ δ', P.rt (.new (.dic (dicX (gatherX [] (its.map f))))) δ') :
    SD K (tSeq (tAsg tDNewK (gName i1)) (tSeq (tFor wi g (tDrop (tBM K "list" rAppend (tDSetd (tVar i1) ty (tLst tNil)) (tCons tv tNil)))) (tRet (tVar i1)))) δ P := fun M L G0 H0 G H σ E c n r b ct => by
  intro p hp
  have hδ : i1 < δ.length := (List.getElem?_eq_some_iff.mp hi1).1
  have hσ : i1 < σ.length := by rw [← c.len]; exact hδ
  have ewi : wipeS δ [i1] = δ := by
    show δ.set i1 .no = δ
    apply List.ext_getElem?
    intro q
    rw [List.getElem?_set]
    by_cases h : i1 = q
    · subst h; rw [if_pos rfl, if_pos hδ, hi1]
    · rw [if_neg h]
  have c1 := (c.pinNew (o := .dK []) hp).agree (σ' := σ.set i1 (some (.ref p))) [i1] (by simp) (fun i hi => List.getElem?_set_ne (fun e => hi (by simp [e])))
  rw [ewi] at c1
  have fp := c.fresh hp
  refine hI M _ G0 H0 G _ _ c1 _ fun xs δ1 J G1 H1 s1 c2 w ⟨ex, eδ⟩ => ?_
  subst ex eδ
  refine ⟨fun i m σ' H' => m = xs.length - i ∧ i ≤ xs.length ∧ ∃ G' ps δ', Cur K M ((p, .dK (nvD ps)) :: (nvP ps ++ L)) G0 H0 G' H' σ' δ' ∧ wipeS δ' js = wipeS δ1 js ∧ δ'[i1]? = some .no ∧ Same G1 G' ∧ σ'[i1]? = some (some (.ref p)) ∧ (p :: nvA ps).Nodup ∧ (∀ q ∈ L, ∀ b ∈ p :: nvA ps, q.1 ≠ b) ∧ RepX K G' (gatherX [] ((xs.take i).map f)) (nvK ps),
    ⟨_, rfl, Nat.zero_le _, G1, [], δ1, c2, rfl, hi1, .refl _, by rw [List.getElem?_set_self hσ], by simp [nvA], fun q hq b hb => ?_, .nil⟩, ?_⟩
  · simp [nvA] at hb
    subst hb
    exact fp.2.2.2 q hq
  rintro i m σ2 H2 ⟨rfl, hi, G2, ps, δ2, c3, ewd, hno, s3, e1, nd, hL, rk⟩
  have wlen : ∀ (l : List Sl) (js : List Nat), (wipeS l js).length = l.length := by
    intro l js
    induction js generalizing l with
    | nil => rfl
    | cons j js ih =>
      first
      | (show (wipeS (l.set j .no) js).length = _; rw [ih]; simp)
      | (show ((wipeS l js).set j .no).length = _; rw [List.length_set, ih])
  have hl2 : δ2.length = δ1.length := by
    have := congrArg List.length ewd
    rwa [wlen, wlen] at this
  by_cases hlt : i < xs.length
  · refine .inr ⟨w.goes i H2 hlt (s3.trans c3.gh), fun σ' H' => ∃ G' ps δ', Cur K M ((p, .dK (nvD ps)) :: (nvP ps ++ L)) G0 H0 G' H' σ' δ' ∧ wipeS δ' js = wipeS δ1 js ∧ δ'[i1]? = some .no ∧ Same G1 G' ∧ σ'[i1]? = some (some (.ref p)) ∧ (p :: nvA ps).Nodup ∧ (∀ q ∈ L, ∀ b ∈ p :: nvA ps, q.1 ≠ b) ∧ RepX K G' (gatherX [] ((xs.take (i + 1)).map f)) (nvK ps),
      fun σ' H' h => ⟨xs.length - (i + 1), by omega, rfl, hlt, h⟩, fun x H' y => ?_⟩
    obtain ⟨dx, G3, hd, g3, r3⟩ := w.yields i H2 x H' G2 hlt s3 c3.gh y
    refine hg i dx δ2 hd ewd hl2 hno M _ G0 H0 G3 H' σ2 x (c3.grow g3) r3 _ fun δ4 σ4 G4 H4 s4 c4 l4 k4 ⟨ed, hno4, hk, hv⟩ => ?_
    have hb := gatherX_ok ((xs.take i).map f)
    rw [List.length_map, List.length_take] at hb
    have hbig : big ≤ sizeLine := by decide
    have hr1 := rk.len
    have hr2 := rk.vals hb.2
    have e4 : σ4[i1]? = some (some (.ref p)) := (k4 i1 hij).trans e1
    refine nv_step c4 nd hL e4 hk hv ?_ ?_ fun ps' v G5 H5 s5 rv ek' c5 nd' hL' => ?_
    · have : (nvK ps).length = ps.length := by simp [nvK]
      omega
    · intro q hq
      have := hr2 (q.1, q.2.1) (List.mem_map.mpr ⟨q, hq, rfl⟩)
      simp only at this
      omega
    · refine ⟨G5, ps', δ4, c5, ed, hno4, ((s3.trans g3.g).trans s4).trans s5, e4, nd', hL', ?_⟩
      have hx : xs[i] = dx := by
        have := hd
        rw [List.getElem?_eq_getElem hlt] at this; exact Option.some.inj this
      rw [ek', List.take_succ_eq_append_getElem hlt, List.map_append, List.map_cons, List.map_nil, gatherX_snoc, hx]
      exact (((rk.mono g3.g).mono s4).mono s5).add rv
  · have e : i = xs.length := by omega
    subst e
    refine .inl ⟨w.stops H2 (s3.trans c3.gh), .ref p, e1, ?_⟩
    have ha := c3.apart (p := (p, .dK (nvD ps))) List.mem_cons_self
    rw [List.nodup_cons] at nd
    obtain ⟨G5, s5, c5, h5, h6⟩ := nv_freeze c3.unpin nd.2 fun q hq b hb => hL q hq b (List.mem_cons_of_mem _ hb)
    rw [List.take_of_length_le (Nat.le_refl _)] at rk
    exact r (.new (.dic (dicX (gatherX [] (xs.map f))))) _ _ σ2 G5 H2 c5 ⟨p, rfl, ha.2.2.1, by rw [h6 p nd.1]; exact ha.2.1, nvD ps, ha.1, nv_rep h5 (rk.mono s5)⟩ (k _)
end Ms

/-! Lay24: a class made of an own list that stays own: Strip(handed); handed.clear(). -/
namespace Ms
open PySem PySem.Spec PyProof.Rows L2
/-! ### own things and things of others lent for a look -/
def odS : Sl → Option OD
  | .ow o => some o
  | .mo _ o => some o
  | _ => none
def lendW (δ : List Sl) : List Sl := δ.map fun s => match s with
  | .sh d => .sh d
  | .ow o => .sh o.d
  | .mo _ o => .sh o.d
  | _ => .no
section
variable {K : PySem.W.Frag} {M : List Addr} {L : List (Addr × HO)} {G0 H0 G H : Hp} {σ : L2.St} {δ : List Sl} {te : TE} {tt : TT}
theorem slot_own {s : Sl} {o : OD} {x : Option V} (hs : odS s = some o) (w : SlOk K M H0 G H s x) : ∃ a, x = some (.ref a) ∧ G a = none ∧ OwnAt K G H a o := by
  cases s with
  | no => cases hs
  | sh d => cases hs
  | ow o' => cases hs; obtain ⟨a, e, n, _, r⟩ := w; exact ⟨a, e, n, r⟩
  | bx b n => cases hs
  | mo b o' => cases hs; obtain ⟨e, n, _, r⟩ := w; exact ⟨b, e, n, r⟩
open Classical in
theorem Cur.lentW (c : Cur K M L G0 H0 G H σ δ) : ∃ G1, Cur K [] [] G1 H G1 H σ (lendW δ) := by
  let own : Addr → Prop := fun a => ∃ (i : Nat) (s : Sl) (o : OD), δ[i]? = some s ∧ odS s = some o ∧ σ[i]? = some (some (V.ref a))
  let G1 : Hp := fun a => if own a then H a else G a
  have isO : ∀ a, own a → G1 a = H a ∧ G a = none := fun a h => by
    refine ⟨if_pos h, ?_⟩
    obtain ⟨i, s, o, h1, h2, h3⟩ := h
    obtain ⟨x, ex, w⟩ := c.ok i _ h1
    obtain ⟨b, e, n, _⟩ := slot_own h2 w
    rw [ex] at h3; subst e; cases h3; exact n
  have s : Same G G1 := fun a u e => by
    by_cases h : own a
    · rw [(isO a h).2] at e; cases e
    · have : G1 a = G a := if_neg h
      rw [this]; exact e
  have sh : Same G1 H := fun a u e => by
    by_cases h : own a
    · rw [(isO a h).1] at e; exact e
    · have : G1 a = G a := if_neg h
      rw [this] at e; exact c.gh _ _ e
  have rep : ∀ {a : Addr} {o : OD}, own a → OwnAt K G H a o → Rep K G1 o.d (.ref a) := fun {a o} h r => by
    have e1 := (isO a h).1
    cases o with
    | lst ds => obtain ⟨xs, hx, rx⟩ := r; exact rep_lst (e1.trans hx) (rx.mono s)
    | dic ds => obtain ⟨xs, hx, rx⟩ := r; exact rep_dic (e1.trans hx) (rx.mono s)
    | ins C ds => obtain ⟨dx, xs, hx, rx⟩ := r; exact rep_ins (e1.trans hx) (rx.mono s)
  have no : ∀ (i : Nat) (t : Sl), (lendW δ)[i]? = some t → t.own = false := fun i t h => by
    unfold lendW at h
    rw [List.getElem?_map] at h
    cases q : δ[i]? with
    | none => rw [q] at h; cases h
    | some s => rw [q] at h; cases h; cases s <;> rfl
  refine ⟨G1, .refl sh, by simp [lendW, c.len], fun i t h => ?_, fun i j s t a ne h1 h2 o1 => ?_, fun p hp => by cases hp⟩
  · unfold lendW at h
    rw [List.getElem?_map] at h
    cases q : δ[i]? with
    | none => rw [q] at h; cases h
    | some s0 =>
      rw [q] at h; cases h
      obtain ⟨x, ex, w⟩ := c.ok i s0 q
      refine ⟨x, ex, ?_⟩
      cases s0 with
      | no => trivial
      | sh d => obtain ⟨v, e, r⟩ := w; exact ⟨v, e, r.mono s⟩
      | ow o =>
        obtain ⟨a, e, n, r⟩ := slot_own (s := .ow o) rfl w
        subst e
        exact ⟨.ref a, rfl, rep ⟨i, _, o, q, rfl, ex⟩ r⟩
      | bx b n => trivial
      | mo b o =>
        obtain ⟨a, e, n, r⟩ := slot_own (s := .mo b o) rfl w
        subst e
        exact ⟨.ref a, rfl, rep ⟨i, _, o, q, rfl, ex⟩ r⟩
  · rw [no i s h1] at o1; cases o1
theorem ev_lendW {Φ : D → List Sl → Prop} (h : EvD K te (lendW δ) fun d _ => d.isFlat = true ∧ Φ d δ) : EvD K te δ Φ := fun M L G0 H0 G H σ c Q q => by
  obtain ⟨G1, c1⟩ := c.lentW
  exact h [] [] G1 H G1 H σ c1 Q fun d δ' v G2 H2 s c2 r ⟨fl, k⟩ => q d δ v G H2 (.refl _) (c.back c2.gr) (rep_flat fl r) k
/-- list(xs), xs of others -/
theorem en_listM {i : Nat} {a : Addr} {ds : List D} {Φ : OD → List Sl → Prop} (hi : δ[i]? = some (.mo a (.lst ds))) (k : Φ (.lst ds) δ) : EvN K (tCB (rListU K) (tCons (tVar i) tNil)) δ Φ := fun M L G0 H0 G H σ c Q q => by
  obtain ⟨x, ex, e1, na, h0, xs, hx, rx⟩ := c.ok i _ hi
  subst e1
  refine ⟨_, ex, a, xs, rfl, .inl (SqL.of hx), fun l nl => ?_⟩
  have f := c.fresh nl
  exact q (.lst ds) δ l G _ (.refl _) (c.grow (.newH c.gh nl)) f.2.1 f.1 ⟨_, upd_same, rx⟩ f.2.2.1 f.2.2.2 k
end
/-! ### made of an own list -/
abbrev FM := List D → (List (Str × D) → Prop) → Prop
def spM (K : PySem.W.Frag) (C : Addr) (B : FM) : Sp := fun vs H Q _ => ∃ (G : Hp) (x dx l : Addr) (ds : List D) (post : List (Str × D) → Prop), Same G H ∧ vs = [.ref x, .ref l] ∧ x ≠ l ∧ G x = none ∧ H x = some (.ins C dx []) ∧ G l = none ∧ OwnAt K G H l (.lst ds) ∧ B ds post ∧
  ∀ fs G' H', Grow [x, l] G H G' H' → G' x = none → G' l = none → OwnAt K G' H' x (.ins C fs) → OwnAt K G' H' l (.lst ds) → post fs → Q .non H'
def spJ (K : PySem.W.Frag) (C : Addr) (A : FI) (B : FM) : Sp := fun vs H Q E => spI K C A vs H Q E ∨ spM K C B vs H Q E
section
variable {K : PySem.W.Frag} {δ : List Sl} {t : TA} {E : XK} {C : Addr} {A : FI} {B : FM}
theorem upd_back {H : Hp} {l : Addr} {u v : HO} (h : H l = some u) : upd (upd H l v) l u = H := by
  funext a
  by_cases e : a = l
  · subst e; rw [upd_same]; exact h.symm
  · rw [upd_ne e, upd_ne e]
theorem en_makeJ {Φ : OD → List Sl → Prop} (ht : ∀ (P P' : List V → Hp → Prop), (∀ vs H, P vs H → P' vs H) → ∀ σ H, t σ H P → t σ H P') (h : EvA K t δ fun ds δ1 => A ds fun fs => Φ (.ins C fs) δ1) : EvN K (tMake C (spJ K C A B) [] E t) δ Φ := fun M L G0 H0 G H σ c Q q =>
  ht _ _ (fun vs H1 z x dx h1 h2 h3 => .inl (z x dx h1 h2 h3)) σ H (en_make (C := C) (A := A) (E := E) h M L G0 H0 G H σ c Q q)
/-- C(xs), xs own, and own behind it -/
theorem en_makeM {i : Nat} {ds : List D} {Φ : OD → List Sl → Prop} (hi : δ[i]? = some (.ow (.lst ds))) (h : B ds fun fs => Φ (.ins C fs) δ) : EvN K (tMake C (spJ K C A B) [] E (tCons (tVar i) tNil)) δ Φ := fun M L G0 H0 G H σ c Q q => by
  obtain ⟨v, ev, l, e1, nl, h0l, w⟩ := c.ok i _ hi
  subst e1
  refine ⟨_, ev, fun x dx nx ndx ne => .inr ?_⟩
  have hl : H l ≠ none := by obtain ⟨u, hu⟩ := w.is; rw [hu]; exact fun e => nomatch e
  have nxl : x ≠ l := fun e => hl (by rw [← e]; exact nx)
  have ndl : dx ≠ l := fun e => hl (by rw [← e]; exact ndx)
  have f := c.fresh nx
  have g1 : Grow [] G H G (upd H dx (.own x)) := .newH c.gh ndx
  have nx2 : upd H dx (.own x) x = none := by rw [upd_ne (Ne.symm ne)]; exact nx
  have g2 : Grow [] G (upd H dx (.own x)) G (upd (upd H dx (.own x)) x (.ins C dx [])) := .newH g1.gh nx2
  have w2 : OwnAt K G (upd (upd H dx (.own x)) x (.ins C dx [])) l (.lst ds) := w.mono (.refl _) fun u hu => by rw [upd_ne (Ne.symm nxl), upd_ne (Ne.symm ndl)]; exact hu
  refine ⟨G, x, dx, l, ds, _, g2.gh, rfl, nxl, f.2.1, upd_same, nl, w2, h, fun fs G' H' g n nl' wx wl p => ⟨rfl, ?_⟩⟩
  obtain ⟨u1, hu1⟩ := wl.is
  obtain ⟨u0, hu0⟩ := w.is
  have g3 : Grow [] G H G' (upd H' l u0) := by
    refine ⟨g.g, fun a o ha => ?_, fun a o ha _ => ?_, fun a ha => ?_, fun a ha => ?_⟩
    · have : a ≠ l := fun e => by rw [e, nl'] at ha; cases ha
      rw [upd_ne this]; exact g.gh a o ha
    · by_cases e : a = l
      · subst e; rw [upd_same, ← hu0]; exact ha
      · rw [upd_ne e]
        have e1 : (upd (upd H dx (.own x)) x (.ins C dx [])) a = some o := g2.h a o (g1.h a o ha (by simp)) (by simp)
        exact g.h a o e1 (by simp; exact ⟨ne_of_none ha nx, e⟩)
    · by_cases e : a = l
      · subst e; rw [upd_same]; exact fun e => nomatch e
      · rw [upd_ne e]; exact g.dom a (g2.dom a (g1.dom a ha))
    · exact g.nw a (g2.dom a (g1.dom a ha))
  have c3 := c.grow g3
  have c4 := c3.write (o' := .lst ds) (u := u1) hi ev (by rw [upd_back hu1]; exact wl)
  rw [upd_back hu1] at c4
  have eδ : δ.set i (.ow (.lst ds)) = δ := by
    apply List.ext_getElem?
    intro j
    rw [List.getElem?_set]
    by_cases e : i = j
    · subst e; rw [if_pos rfl, if_pos (List.getElem?_eq_some_iff.mp hi).1, hi]
    · rw [if_neg e]
  rw [eδ] at c4
  exact q (.ins C fs) δ x G' H' g.g c4 n f.1 wx f.2.2.1 f.2.2.2 p
theorem cur_startM {N : List Str} {G H : Hp} {ds : List D} {x dx l : Addr} (hl : 2 ≤ N.length) (e : Same G H) (nxl : x ≠ l) (nx : G x = none) (hx : H x = some (.ins C dx [])) (nl : G l = none) (w : OwnAt K G H l (.lst ds)) : Cur K [x, l] [] G H G H (start N [.ref x, .ref l]) (.mo x (.ins C []) :: .mo l (.lst ds) :: (N.drop 2).map fun _ => .no) where
  gr := .refl e
  len := by simp [L2.start]
  ok := fun i s h => by
    rw [start_get (by simp; omega)]
    match i, h with
    | 0, h => simp at h; subst h; exact ⟨_, by simp, rfl, nx, .inl (by simp), dx, [], hx, .nil⟩
    | 1, h => simp at h; subst h; exact ⟨_, by simp, rfl, nl, .inl (by simp), w⟩
    | i + 2, h =>
      have h : ((N.drop 2).map fun _ => Sl.no)[i]? = some s := h
      rw [List.getElem?_map] at h
      cases q : (N.drop 2)[i]? with
      | none => rw [q] at h; cases h
      | some y =>
        rw [q] at h; cases h
        have hb := (List.getElem?_eq_some_iff.mp q).1
        rw [List.length_drop] at hb
        rw [if_neg (by simp), if_pos (by omega)]
        exact ⟨_, rfl, trivial⟩
  ap := fun i j s t a ne h1 h2 o1 o2 e1 e2 => by
    have z : ∀ (k : Nat) (u : Sl), (Sl.mo x (.ins C []) :: .mo l (.lst ds) :: (N.drop 2).map fun _ => Sl.no)[k]? = some u → u.own = true → k = 0 ∨ k = 1 := fun k u h o => by
      match k, h with
      | 0, h => exact .inl rfl
      | 1, h => exact .inr rfl
      | k + 2, h =>
        have h : ((N.drop 2).map fun _ => Sl.no)[k]? = some u := h
        rw [List.getElem?_map] at h
        cases q : (N.drop 2)[k]? with
        | none => rw [q] at h; cases h
        | some y => rw [q] at h; cases h; cases o
    have g0 : (start N [V.ref x, V.ref l])[0]? = some (some (.ref x)) := by rw [start_get (by simp; omega)]; simp
    have g1 : (start N [V.ref x, V.ref l])[1]? = some (some (.ref l)) := by rw [start_get (by simp; omega)]; simp
    rcases z i s h1 o1 with rfl | rfl <;> rcases z j t h2 o2 with rfl | rfl
    · exact ne rfl
    · rw [g0] at e1; rw [g1] at e2; cases e1; cases e2; exact nxl rfl
    · rw [g1] at e1; rw [g0] at e2; cases e1; cases e2; exact nxl rfl
    · exact ne rfl
  pn := fun p hp => by cases hp
theorem liftM {N : List Str} {t : TS} {G H : Hp} {ds : List D} {x dx l : Addr} {Q : VK} {post : List (Str × D) → Prop} (hl : 2 ≤ N.length) (e : Same G H) (nxl : x ≠ l) (nx : G x = none) (hx : H x = some (.ins C dx [])) (nl : G l = none) (w : OwnAt K G H l (.lst ds))
    (k : ∀ fs G' H', Grow [x, l] G H G' H' → G' x = none → G' l = none → OwnAt K G' H' x (.ins C fs) → OwnAt K G' H' l (.lst ds) → post fs → Q .non H')
    (s : SD K t (.mo x (.ins C []) :: .mo l (.lst ds) :: (N.drop 2).map fun _ => .no) { nx := fun δ' => ∃ fs, δ'[0]? = some (.mo x (.ins C fs)) ∧ δ'[1]? = some (.mo l (.lst ds)) ∧ post fs, rt := fun _ _ => False }) : t { nx := fun _ H' => Q .non H', rt := Q } (start N [.ref x, .ref l]) H :=
  s [x, l] [] G H G H (start N [.ref x, .ref l]) _ (cur_startM hl e nxl nx hx nl w) (fun δ' σ' G' H' _ c ⟨fs, hm, hm2, p⟩ => by
      obtain ⟨y, ey, e1, n2, _, w⟩ := c.ok 0 _ hm
      obtain ⟨y2, ey2, e2, n3, _, w3⟩ := c.ok 1 _ hm2
      exact k fs G' H' c.gr n2 n3 w w3 p)
    (fun r δ' v σ' G' H' c ok p => p.elim) (fun _ _ _ _ _ _ p => p.elim) (fun _ _ _ _ _ _ p => p.elim)
end
theorem mnJ_mk {P : Program} {w : World} {K : PySem.W.Frag} {mg : Str → Option Value} {base : Heap} {k : Nat} {x qual : Str} {params : Arguments} {body : List Stmt} {scope : Scope} {f : Addr} {N ps : List Str} {A : FI} {B : FM}
    (F : ∃ fd, FunD K "__init__" qual params body scope [] [] f fd) (M : L2.Mk K (He.ga K x) f) (gx : mg x = some (.ref (He.ga K x))) (S : FnScope N ps scope) (hlen : ∀ ds post, A ds post → ds.length + 1 = ps.length) (hpl : ps.length ≤ N.length) (h2 : ps.length = 2)
    (hbind : ∀ (kV doc pm : Value) (an : Option Addr) (cdv ct : Value) (us : List Value), us.length = ps.length → bindArgs (PySem.W.fnOf "__init__" qual params body scope .none kV doc pm an cdv ct) ⟨us, []⟩ = pure (ps.zip us))
    (hb : ∀ (cdv : Value) (Bd : Around) (outer : List Env) (s : Shared) (H : Hp) (E : XK), Room k (Bd.deeper (envOfC qual scope s.heap.objs.size f cdv)) →
      ∃ t, PSs (cxOf CX0 P w K mg base N qual scope f cdv Bd outer s H E) body t ∧ (∀ a ds post, A ds post → SD K t (.mo a (.ins (He.ga K x) []) :: initS (N.drop 1) ds) { nx := fun δ' => ∃ fs, δ'[0]? = some (.mo a (.ins (He.ga K x) fs)) ∧ post fs, rt := fun _ _ => False }) ∧
        ∀ a l ds post, B ds post → SD K t (.mo a (.ins (He.ga K x) []) :: .mo l (.lst ds) :: (N.drop 2).map fun _ => .no) { nx := fun δ' => ∃ fs, δ'[0]? = some (.mo a (.ins (He.ga K x) fs)) ∧ δ'[1]? = some (.mo l (.lst ds)) ∧ post fs, rt := fun _ _ => False }) :
    Mn P w K mg base (k + 1) x ps (spJ K (He.ga K x) A B) := by
  obtain ⟨fd, F⟩ := F
  refine ⟨f, fd, F.ok S (fun vs H Q E h => ?_) (fun cdv B outer s H vs Q E hr h => ?_), M, gx, F.bindsN hbind⟩
  · rcases h with h | h
    · obtain ⟨G, a, dx, ws, ds, post, e, rfl, r, nb, hx, q, _⟩ := h
      rw [List.length_cons, r.len, hlen ds post q]
    · obtain ⟨G, a, dx, l, ds, post, e, rfl, _⟩ := h
      rw [h2]; rfl
  · obtain ⟨t, ht, hs1, hs2⟩ := hb cdv B outer s H E hr
    refine ⟨t, ht, ?_⟩
    rcases h with h | h
    · obtain ⟨G, a, dx, ws, ds, post, e, rfl, r, nb, hx, q, k⟩ := h
      exact liftI (by rw [hlen ds post q]; exact hpl) e r nb hx k (hs1 a ds post q)
    · obtain ⟨G, a, dx, l, ds, post, e, rfl, nxl, nb, hx, nl, wl, q, k⟩ := h
      exact liftM (by omega) e nxl nb hx nl wl k (hs2 a l ds post q)
/-- the promise over the items of an own list -/
def B_Strip_init (K : PySem.W.Frag) : FM := fun ds post => ∃ p ms, ds = rowL p ms ∧ StOk p ms ∧ StK K ∧ post (stripF p ms)
end Ms

/-! Lay25: list(zip(a, b)), a and b texts: the zip's tuples are kept by the list. -/
namespace Ms
open PySem PySem.Spec PyProof.Rows L2
section
variable {prog : Program} {w : World} {A : Around} {E : Value → Shared → Prop} {s : Shared} {z TI TO i1 i2 T : Addr} {fp1 fp2 : List Addr} {n1 n2 i : Nat} {P1 P2 : Nat → Value → Prop} {St1 St2 : Nat → Heap → Prop} {f : Bool} {oT : Obj}
theorem zh_next_item {Q : Value → Shared → Prop} (S : ZipSep2 z TI TO i1 i2 fp1 fp2) (D1 : Draws prog w A i1 fp1 n1 P1 St1) (D2 : Draws prog w A i2 fp2 n2 P2 St2)
    (hz : IsZipHeld s.heap z TI TO T f) (hT : s.heap.get? T = some oT) (hTI : IsTupOf2 s.heap TI (.ref i1) (.ref i2)) (st1 : St1 i s.heap) (st2 : St2 i s.heap) (hlt1 : i < n1) (hlt2 : i < n2)
    (hQ : ∀ x1 x2 h' tk, P1 i x1 → P2 i x2 → IsZipHeld h' z TI TO T true → St1 (i + 1) h' → St2 (i + 1) h' → IsTupOf2 h' s.heap.objs.size x1 x2 → h'.objs.size = s.heap.objs.size + 1 →
      (∀ c o, c ≠ z → c ≠ i1 → c ≠ i2 → s.heap.get? c = some o → h'.get? c = some o) → Q (.ref s.heap.objs.size) { s with heap := h', toks := tk }) :
    wpAny (model prog w) A (Builtin.«zip.__next__» ⟨[.ref z], []⟩) (fun fin s' => ∃ v, fin = .done (.ret v) ∧ Q v s') E s := by
  obtain ⟨hp, g, d, tk0, os⟩ := s
  show wpAny _ _ (field (.ref z) 2 >>= _) _ _ _
  refine wpAny_bind (wpAny_field hz rfl (x := .bool false) rfl ?_)
  show wpAny _ _ (field (.ref z) 3 >>= _) _ _ _
  refine wpAny_bind (wpAny_field hz rfl (x := .ref TI) rfl ?_)
  refine wpAny_bind (wpAny_seqItems hTI rfl ?_)
  show wpAny _ _ (Builtin.SmallTypes.ownedTupleIsFree (.ref z) >>= _) _ _ _
  refine wpAny_bind (wpAny_tupleHeld_zip hz hT fun h₁ hz₁ hs₁ => ?_)
  replace hs₁ : Heap.SameBut z hp h₁ := hs₁
  simp only [Bool.false_eq_true, if_false]
  refine wpAny_bind ?_
  rw [← Array.forIn_toList]
  simp only [List.forIn_cons, List.forIn_nil]
  refine wpAny_bind (wpAny_bind (wpAny_holding ?_))
  show wpAny _ _ (Builtin.SmallTypes.nextOf (.ref i1) >>= _) _ _ ⟨h₁, g, d, tk0, os⟩
  refine wpAny_bind (D1.item i _ _ _ hlt1 (D1.over st1 hs₁ S.zf1) fun x1 h₂ tk1 hx1 sn1 hs₂ => wpAny_pure ?_)
  replace hs₂ : Heap.SameBut i1 h₁ h₂ := hs₂
  refine wpAny_pure ?_
  refine wpAny_bind (wpAny_bind (wpAny_holding ?_))
  show wpAny _ _ (Builtin.SmallTypes.nextOf (.ref i2) >>= _) _ _ ⟨h₂, g, d, tk1, os⟩
  refine wpAny_bind (D2.item i _ _ _ hlt2 (D2.over (D2.over st2 hs₁ S.zf2) hs₂ S.sep1_2) fun x2 h₃ tk2 hx2 sn2 hs₃ => wpAny_pure ?_)
  replace hs₃ : Heap.SameBut i2 h₂ h₃ := hs₃
  refine wpAny_pure (wpAny_pure ?_)
  show wpAny _ _ (newTuple [x1, x2] >>= _) _ _ _
  refine wpAny_bind (wpAny_newTuple ?_)
  have hsz : h₃.objs.size = hp.objs.size := by rw [hs₃.1, hs₂.1, hs₁.1]
  have hz₃ : IsZipHeld h₃ z TI TO T true := hs₃.extBut _ _ S.zi2 (hs₂.extBut _ _ S.zi1 hz₁)
  have hk : ∀ c o, c ≠ z → c ≠ i1 → c ≠ i2 → hp.get? c = some o → h₃.get? c = some o := fun c o c1 c2 c3 e => hs₃.extBut _ _ c3 (hs₂.extBut _ _ c2 (hs₁.extBut _ _ c1 e))
  have j1 : St1 (i + 1) h₃ := D1.over sn1 hs₃ S.sep2_1
  refine wpAny_pure ⟨_, rfl, ?_⟩
  show Q (.ref h₃.objs.size) _
  have hp2 : IsTupOf2 (h₃.push { cls := .type "tuple", data := .seq #[x1, x2] }) h₃.objs.size x1 x2 := Heap.get?_push_size _ rfl
  have hz4 : (h₃.push { cls := .type "tuple", data := .seq #[x1, x2] }).objs.size = h₃.objs.size + 1 := Heap.size_push ..
  rw [hsz] at hp2 hz4 ⊢
  exact hQ x1 x2 _ tk2 hx1 hx2 (Heap.get?_push_of_some _ hz₃) (D1.frame _ _ _ j1 fun b _ o e => Heap.get?_push_of_some _ e) (D2.frame _ _ _ sn2 fun b _ o e => Heap.get?_push_of_some _ e) hp2 hz4 fun c o c1 c2 c3 e => Heap.get?_push_of_some _ (hk c o c1 c2 c3 e)
theorem zh_next_end {Q : Fin → Shared → Prop} (S : ZipSep2 z TI TO i1 i2 fp1 fp2) (D1 : Draws prog w A i1 fp1 n1 P1 St1) (D2 : Draws prog w A i2 fp2 n2 P2 St2)
    (hz : IsZipHeld s.heap z TI TO T f) (hT : s.heap.get? T = some oT) (hTI : IsTupOf2 s.heap TI (.ref i1) (.ref i2)) (st1 : St1 i s.heap) (st2 : St2 i s.heap) (hle1 : i ≤ n1) (hle2 : i ≤ n2) (hend : i = n1 ∨ i = n2)
    (hE : ∀ h' tk e, (∀ c o, c ≠ z → c ≠ i1 → c ≠ i2 → s.heap.get? c = some o → h'.get? c = some o) → (∃ o, h'.get? e = some o ∧ o.cls = .type "StopIteration") → E (.ref e) { s with heap := h', toks := tk }) :
    wpAny (model prog w) A (Builtin.«zip.__next__» ⟨[.ref z], []⟩) Q E s := by
  obtain ⟨hp, g, d, tk0, os⟩ := s
  show wpAny _ _ (field (.ref z) 2 >>= _) _ _ _
  refine wpAny_bind (wpAny_field hz rfl (x := .bool false) rfl ?_)
  show wpAny _ _ (field (.ref z) 3 >>= _) _ _ _
  refine wpAny_bind (wpAny_field hz rfl (x := .ref TI) rfl ?_)
  refine wpAny_bind (wpAny_seqItems hTI rfl ?_)
  show wpAny _ _ (Builtin.SmallTypes.ownedTupleIsFree (.ref z) >>= _) _ _ _
  refine wpAny_bind (wpAny_tupleHeld_zip hz hT fun h₁ hz₁ hs₁ => ?_)
  replace hs₁ : Heap.SameBut z hp h₁ := hs₁
  simp only [Bool.false_eq_true, if_false]
  refine wpAny_bind ?_
  rw [← Array.forIn_toList]
  simp only [List.forIn_cons, List.forIn_nil]
  refine wpAny_bind (wpAny_bind (wpAny_holding ?_))
  show wpAny _ _ (Builtin.SmallTypes.nextOf (.ref i1) >>= _) _ _ ⟨h₁, g, d, tk0, os⟩
  by_cases hlt1 : i < n1
  · refine wpAny_bind (D1.item i _ _ _ hlt1 (D1.over st1 hs₁ S.zf1) fun x1 h₂ tk1 hx1 sn1 hs₂ => wpAny_pure ?_)
    replace hs₂ : Heap.SameBut i1 h₁ h₂ := hs₂
    have hi2 : i = n2 := by omega
    refine wpAny_pure ?_
    refine wpAny_bind (wpAny_bind (wpAny_holding ?_))
    show wpAny _ _ (Builtin.SmallTypes.nextOf (.ref i2) >>= _) _ _ ⟨h₂, g, d, tk1, os⟩
    refine wpAny_bind (D2.done ⟨h₂, g, d, tk1, os⟩ _ _ (by rw [← hi2]; exact D2.over (D2.over st2 hs₁ S.zf2) hs₂ S.sep1_2) fun h₃ e hs₃ he => ?_)
    exact hE h₃ tk1 e (fun c o c1 c2 c3 x => hs₃ _ _ c3 (hs₂.extBut _ _ c2 (hs₁.extBut _ _ c1 x))) he
  · have hi1 : i = n1 := by omega
    refine wpAny_bind (D1.done ⟨h₁, g, d, tk0, os⟩ _ _ (by rw [← hi1]; exact D1.over st1 hs₁ S.zf1) fun h₂ e hs₂ he => ?_)
    exact hE h₂ tk0 e (fun c o c1 c2 _ x => hs₂ _ _ c2 (hs₁.extBut _ _ c1 x)) he
theorem zh_pyNext_item {Q : Option Value → Shared → Prop} (S : ZipSep2 z TI TO i1 i2 fp1 fp2) (D1 : Draws prog w A.in1 i1 fp1 n1 P1 St1) (D2 : Draws prog w A.in1 i2 fp2 n2 P2 St2)
    (hz : IsZipHeld s.heap z TI TO T f) (hT : s.heap.get? T = some oT) (hTI : IsTupOf2 s.heap TI (.ref i1) (.ref i2)) (st1 : St1 i s.heap) (st2 : St2 i s.heap) (hlt1 : i < n1) (hlt2 : i < n2)
    (hQ : ∀ x1 x2 h' tk, P1 i x1 → P2 i x2 → IsZipHeld h' z TI TO T true → St1 (i + 1) h' → St2 (i + 1) h' → IsTupOf2 h' s.heap.objs.size x1 x2 → h'.objs.size = s.heap.objs.size + 1 →
      (∀ c o, c ≠ z → c ≠ i1 → c ≠ i2 → s.heap.get? c = some o → h'.get? c = some o) → Q (some (.ref s.heap.objs.size)) { s with heap := h', toks := tk }) :
    wpAny (model prog w) A (pyNext (.ref z)) Q E s := by
  have hTy : s.TypeIs (.ref z) "zip" := ⟨_, hz, rfl⟩
  unfold pyNext
  exact wpAny_bind (wpAny_attempt (wpAny_callSpecial?_slot (name := Str.ofString "__next__") hTy F.slot_zip_next
    (wpAny_call_entry F.slot_zip_next hTy F.entry_zip_next
      (zh_next_item S D1 D2 hz hT hTI st1 st2 hlt1 hlt2 fun x1 x2 h' tk y1 y2 b1 d1 d2 b5 b6 b7 => wpAny_pure (hQ x1 x2 h' tk y1 y2 b1 d1 d2 b5 b6 b7)) (F.args_zip_next_1 _))))
theorem zh_pyNext_end {Q : Option Value → Shared → Prop} (S : ZipSep2 z TI TO i1 i2 fp1 fp2) (D1 : Draws prog w A.in1 i1 fp1 n1 P1 St1) (D2 : Draws prog w A.in1 i2 fp2 n2 P2 St2)
    (hz : IsZipHeld s.heap z TI TO T f) (hT : s.heap.get? T = some oT) (hTI : IsTupOf2 s.heap TI (.ref i1) (.ref i2)) (st1 : St1 i s.heap) (st2 : St2 i s.heap) (hle1 : i ≤ n1) (hle2 : i ≤ n2) (hend : i = n1 ∨ i = n2)
    (hQ : ∀ h' tk, (∀ c o, c ≠ z → c ≠ i1 → c ≠ i2 → s.heap.get? c = some o → h'.get? c = some o) → Q none { s with heap := h', toks := tk }) : wpAny (model prog w) A (pyNext (.ref z)) Q E s := by
  have hTy : s.TypeIs (.ref z) "zip" := ⟨_, hz, rfl⟩
  unfold pyNext
  refine wpAny_bind (wpAny_attempt (wpAny_callSpecial?_slot (name := Str.ofString "__next__") hTy F.slot_zip_next
    (wpAny_call_entry F.slot_zip_next hTy F.entry_zip_next (zh_next_end S D1 D2 hz hT hTI st1 st2 hle1 hle2 hend fun h' tk e hk he => ?_) (F.args_zip_next_1 _))))
  obtain ⟨o, ho, hc⟩ := he
  refine wpAny_bind (wpAny_isInstance (T := "StopIteration") (b := true) ⟨o, ho, hc⟩ isSubtype_stop ?_)
  exact wpAny_pure (hQ _ _ hk)
end
theorem far {a c : Addr} {b : Nat} (h : c < b) (h2 : b ≤ a) : a ≠ c := fun e => by subst e; exact absurd h (Nat.not_lt.mpr h2)
/-- the tuples that lie in the list -/
structure ZPairs (P1 P2 : Nat → Value → Prop) (b0 : Nat) (Ts : List Addr) (h : Heap) : Prop where
  up : Ts.Pairwise (· < ·)
  lo : ∀ T ∈ Ts, b0 ≤ T ∧ T < h.objs.size
  tup : ∀ (j : Nat) T, Ts[j]? = some T → ∃ x y, P1 j x ∧ P2 j y ∧ IsTupOf2 h T x y
theorem ZPairs.keep {P1 P2 : Nat → Value → Prop} {b0 : Nat} {Ts : List Addr} {h h' : Heap} (Z : ZPairs P1 P2 b0 Ts h) (hs : h.objs.size ≤ h'.objs.size) (hk : ∀ T ∈ Ts, ∀ o, h.get? T = some o → h'.get? T = some o) : ZPairs P1 P2 b0 Ts h' where
  up := Z.up
  lo := fun T hT => ⟨(Z.lo T hT).1, Nat.lt_of_lt_of_le (Z.lo T hT).2 hs⟩
  tup := fun j T e => by
    obtain ⟨x, y, h1, h2, h3⟩ := Z.tup j T e
    exact ⟨x, y, h1, h2, hk T (List.mem_of_getElem? e) _ h3⟩
theorem ZPairs.push {P1 P2 : Nat → Value → Prop} {b0 : Nat} {Ts : List Addr} {h h' : Heap} {T : Addr} {x y : Value} (Z : ZPairs P1 P2 b0 Ts h) (hT : T = h.objs.size) (hb : b0 ≤ T) (hs : h'.objs.size = h.objs.size + 1) (hk : ∀ T ∈ Ts, ∀ o, h.get? T = some o → h'.get? T = some o)
    (h1 : P1 Ts.length x) (h2 : P2 Ts.length y) (h3 : IsTupOf2 h' T x y) : ZPairs P1 P2 b0 (Ts ++ [T]) h' := by
  have Z' := Z.keep (h' := h') (by omega) hk
  refine ⟨?_, fun q hq => ?_, fun j q e => ?_⟩
  · rw [List.pairwise_append]
    refine ⟨Z.up, by simp, fun a ha b hb' => ?_⟩
    rw [List.mem_singleton.mp hb', hT]
    exact (Z.lo a ha).2
  · rcases List.mem_append.mp hq with hq | hq
    · exact Z'.lo q hq
    · rw [List.mem_singleton.mp hq]; exact ⟨hb, by rw [hT, hs]; exact Nat.lt_succ_self _⟩
  · by_cases hj : j < Ts.length
    · rw [List.getElem?_append_left hj] at e
      exact Z'.tup j q e
    · rw [List.getElem?_append_right (by omega)] at e
      have hj2 : j = Ts.length := by
        have := (List.getElem?_eq_some_iff.mp e).1
        simp at this; omega
      subst hj2
      simp at e
      subst e
      exact ⟨x, y, h1, h2, h3⟩
section
variable {prog : Program} {w : World} {A : Around} {z TI TO i1 i2 Sx : Addr} {fp1 fp2 : List Addr} {n1 n2 : Nat} {P1 P2 : Nat → Value → Prop} {St1 St2 : Nat → Heap → Prop} {R : Result → Shared → Prop} {b0 : Nat}
abbrev lstO (vs : List Value) (c : Nat) : Obj := { cls := .type "list", dict := none, data := .seq vs.toArray c, slots := #[] }
theorem zl_loop (S : ZipSep2 z TI TO i1 i2 fp1 fp2) (D1 : Draws prog w A.in1.in1 i1 fp1 n1 P1 St1) (D2 : Draws prog w A.in1.in1 i2 fp2 n2 P2 St2) (hx : Sx ≠ z ∧ Sx ≠ TI ∧ Sx ≠ TO ∧ Sx ∉ fp1 ∧ Sx ∉ fp2) (hb : z < b0 ∧ TI < b0 ∧ TO < b0 ∧ i1 < b0 ∧ i2 < b0 ∧ Sx < b0) (hTf : ∀ c ∈ fp1 ++ fp2, c < b0) (res : Value) (hn : min n1 n2 ≤ 100000) :
    ∀ (k i : Nat) (s : Shared) (Ts : List Addr) (c : Nat), min n1 n2 - i = k → i ≤ min n1 n2 →
      ((i = 0 ∧ IsZip s.heap z TI TO .none) ∨ ∃ T f o, IsZipHeld s.heap z TI TO T f ∧ s.heap.get? T = some o ∧ b0 ≤ T) → IsTupOf2 s.heap TI (.ref i1) (.ref i2) → (∃ a b, IsTupOf2 s.heap TO a b) → St1 i s.heap → St2 i s.heap → b0 ≤ s.heap.objs.size →
      s.heap.get? Sx = some (lstO (Ts.map .ref) c) → Ts.length = i → ZPairs P1 P2 b0 Ts s.heap →
      (∀ h' tk Ts' c', (∀ b o, b ∉ [Sx, z, TO, i1, i2] → s.heap.get? b = some o → h'.get? b = some o) → h'.get? Sx = some (lstO (Ts'.map .ref) c') → Ts'.length = min n1 n2 → ZPairs P1 P2 b0 Ts' h' → R (.ok (.ret res)) { s with heap := h', toks := tk }) →
      codeAny (model prog w) A (.builtin "list.extend.loop" ⟨[.ref Sx, .ref z, res], []⟩) R s := by
  obtain ⟨x1, x2, x3, x4, x5⟩ := hx
  obtain ⟨g1, g2, g3, g4, g5, g6⟩ := hb
  have si1 : Sx ≠ i1 := fun e => x4 (by rw [e]; exact S.mem1)
  have si2 : Sx ≠ i2 := fun e => x5 (by rw [e]; exact S.mem2)
  have big : 100000 < sizeLine := by decide
  intro k
  induction k with
  | zero =>
    intro i s Ts c hk hi hz hTI hTO st1 st2 hb0 hS hl Z hR
    have hin : i = min n1 n2 := by omega
    refine codeAny_builtin F.entry_extend_loop ?_
    rw [Around.under_plainId F.plain_extend_loop _]
    show wpAny _ A.in1 (pyNext (.ref z) >>= _) _ _ s
    have fin : ∀ h' tk, (∀ c o, c ≠ z → c ≠ TO → c ≠ i1 → c ≠ i2 → s.heap.get? c = some o → h'.get? c = some o) → ZPairs P1 P2 b0 Ts h' → R (.ok (.ret res)) { s with heap := h', toks := tk } := fun h' tk hkk Z' =>
      hR h' tk Ts c (fun b o hb e => by
        simp only [List.mem_cons, List.not_mem_nil, or_false, not_or] at hb
        exact hkk b o hb.2.1 hb.2.2.1 hb.2.2.2.1 hb.2.2.2.2 e) (hkk Sx _ x1 x3 si1 si2 hS) (hl.trans hin) Z'
    have zk : ∀ h', (∀ c o, c ≠ z → c ≠ TO → c ≠ i1 → c ≠ i2 → s.heap.get? c = some o → h'.get? c = some o) → ZPairs P1 P2 b0 Ts h' := fun h' hkk => by
      refine ⟨Z.up, fun T hT => ?_, fun j T e => ?_⟩
      · obtain ⟨j, hj⟩ := List.mem_iff_getElem?.mp hT
        obtain ⟨x, y, _, _, h3⟩ := Z.tup j T hj
        have := (Z.lo T hT).1
        exact ⟨this, Heap.lt_size (hkk T _ (far g1 this) (far g3 this) (far g4 this) (far g5 this) h3)⟩
      · obtain ⟨x, y, h1, h2, h3⟩ := Z.tup j T e
        have := (Z.lo T (List.mem_of_getElem? e)).1
        exact ⟨x, y, h1, h2, hkk T _ (far g1 this) (far g3 this) (far g4 this) (far g5 this) h3⟩
    rcases hz with ⟨_, hz⟩ | ⟨T, f, o, hz, hT, _⟩
    · obtain ⟨a, b, hTO⟩ := hTO
      refine wpAny_bind (wpAny_pyNext_zipD2_end S D1 D2 hz hTI hTO st1 st2 (by omega) (by omega) (by omega) fun h' tk hkk => ?_)
      exact wpAny_pure (fin h' tk hkk (zk h' hkk))
    · refine wpAny_bind (zh_pyNext_end S D1 D2 hz hT hTI st1 st2 (by omega) (by omega) (by omega) fun h' tk hkk => ?_)
      exact wpAny_pure (fin h' tk (fun c o a1 _ a3 a4 e => hkk c o a1 a3 a4 e) (zk h' fun c o a1 _ a3 a4 e => hkk c o a1 a3 a4 e))
  | succ k ih =>
    intro i s Ts c hk hi hz hTI hTO st1 st2 hb0 hS hl Z hR
    have hlt : i < min n1 n2 := by omega
    have hk1 : min n1 n2 - (i + 1) = k := by clear hz hTO; omega
    have hi3 : i ≤ 100000 := by clear hz hTO; omega
    refine codeAny_builtin F.entry_extend_loop ?_
    rw [Around.under_plainId F.plain_extend_loop _]
    show wpAny _ A.in1 (pyNext (.ref z) >>= _) _ _ s
    -- behind next
    have step : ∀ v1 v2 h' tk, P1 i v1 → P2 i v2 → (∃ T f o, IsZipHeld h' z TI TO T f ∧ h'.get? T = some o ∧ b0 ≤ T) → (∃ a b, IsTupOf2 h' TO a b) → St1 (i + 1) h' → St2 (i + 1) h' → IsTupOf2 h' s.heap.objs.size v1 v2 → h'.objs.size = s.heap.objs.size + 1 →
        (∀ c o, c ≠ z → c ≠ TO → c ≠ i1 → c ≠ i2 → s.heap.get? c = some o → h'.get? c = some o) →
        wpAny (model prog w) A.in1 (Builtin.List.listUpdate (.ref Sx) (·.push (.ref s.heap.objs.size)) >>= fun _ => again (.builtin "list.extend.loop" ⟨[.ref Sx, .ref z, res], []⟩))
          (fun fin s' => match fin with | .done f => R (.ok f) s' | .again c' => c'.quiet = true ∧ codeAny (model prog w) A c' R s') (fun e s' => R (.error e) s') { s with heap := h', toks := tk } := by
      intro v1 v2 h' tk p1 p2 hz' hTO' s1' s2' hT' hsz hkk
      have hS' : h'.get? Sx = some (lstO (Ts.map .ref) c) := hkk Sx _ x1 x3 si1 si2 hS
      show wpAny _ A.in1 (updateSeq Sx (·.push (.ref s.heap.objs.size)) >>= _) _ _ _
      have oth : ∀ b o, b ≠ Sx → h'.get? b = some o → (h'.update Sx (Obj.mapSeq (·.push (.ref s.heap.objs.size)))).get? b = some o := fun b o hb e => (Heap.get?_update_other _ _ (Ne.symm hb)).trans e
      have hsz2 : (h'.update Sx (Obj.mapSeq (·.push (.ref s.heap.objs.size)))).objs.size = h'.objs.size := (Heap.SameBut.update ..).1
      obtain ⟨c2, hS2⟩ : ∃ c2, (h'.update Sx (Obj.mapSeq (·.push (.ref s.heap.objs.size)))).get? Sx = some (lstO ((Ts ++ [s.heap.objs.size]).map .ref) c2) := by
        have := Heap.get?_update_self (Obj.mapSeq (·.push (Value.ref s.heap.objs.size))) hS' rfl
        rw [this]
        have e : ((Ts ++ [s.heap.objs.size]).map Value.ref).toArray = (Ts.map Value.ref).toArray.push (.ref s.heap.objs.size) := by simp
        unfold lstO
        rw [e]
        exact ⟨_, rfl⟩
      refine wpAny_bind ?_
      refine wpAny_updateSeq hS' rfl (wpAny_pure ⟨plainId_quiet F.plain_extend_loop _, ih (i + 1) _ (Ts ++ [s.heap.objs.size]) _ hk1 hlt (.inr ?_) ?_ ?_ ?_ ?_ ?_ hS2 (by rw [List.length_append, hl]; rfl) ?_ fun h'' tk' Ts' c' hk2 hS3 hl3 Z3 => ?_⟩)
        (by simp [hl]; omega) (by show ((Ts.map Value.ref).toArray.push _).size ≤ sizeLine + 1; rw [Array.size_push]; simp [hl]; omega)
      · obtain ⟨T, f, o, a1, a2, a3⟩ := hz'
        exact ⟨T, f, o, oth _ _ (Ne.symm x1) a1, oth _ _ (far g6 a3) a2, a3⟩
      · exact oth _ _ (Ne.symm x2) (hkk TI _ S.TIz S.TITO S.TIi1 S.TIi2 hTI)
      · obtain ⟨a, b, q⟩ := hTO'
        exact ⟨a, b, oth _ _ (Ne.symm x3) q⟩
      · exact D1.frame _ _ _ s1' fun b hb o e => oth b o (fun q => x4 (q ▸ hb)) e
      · exact D2.frame _ _ _ s2' fun b hb o e => oth b o (fun q => x5 (q ▸ hb)) e
      · show b0 ≤ _
        rw [hsz2]; omega
      · have Z' := Z.push (h' := h') (T := s.heap.objs.size) rfl hb0 hsz (fun T hT o e => by
          have := (Z.lo T hT).1
          exact hkk T o (far g1 this) (far g3 this) (far g4 this) (far g5 this) e) (hl ▸ p1) (hl ▸ p2) hT'
        exact Z'.keep (by rw [hsz2]; exact Nat.le_refl _) fun T hT o e => by
          have := (Z'.lo T hT).1
          exact oth T o (far g6 this) e
      · refine hR h'' tk' Ts' c' (fun b o hb e => hk2 b o hb ?_) hS3 hl3 Z3
        simp only [List.mem_cons, List.not_mem_nil, or_false, not_or] at hb
        exact oth b o hb.1 (hkk b o hb.2.1 hb.2.2.1 hb.2.2.2.1 hb.2.2.2.2 e)
    rcases hz with ⟨_, hz⟩ | ⟨T, f, o, hz, hT, hbT⟩
    · obtain ⟨a, b, hTO⟩ := hTO
      refine wpAny_bind (wpAny_pyNext_zipD2_item S D1 D2 hz hTI hTO st1 st2 (by omega) (by omega) fun v1 v2 h' tk p1 p2 q1 q2 q3 q4 q5 q6 q7 => ?_)
      exact step v1 v2 h' tk p1 p2 ⟨_, false, _, q1, q5, hb0⟩ ⟨_, _, q2⟩ q3 q4 q5 q6 q7
    · refine wpAny_bind (zh_pyNext_item S D1 D2 hz hT hTI st1 st2 (by omega) (by omega) fun v1 v2 h' tk p1 p2 q1 q3 q4 q5 q6 q7 => ?_)
      obtain ⟨a, b, hTO⟩ := hTO
      exact step v1 v2 h' tk p1 p2 ⟨T, true, o, q1, q7 T o (far g1 hbT) (far g4 hbT) (far g5 hbT) hT, hbT⟩ ⟨a, b, q7 TO _ S.TOz S.Ti1 S.Ti2 hTO⟩ q3 q4 q5 q6 fun c o a1 _ a3 a4 e => q7 c o a1 a3 a4 e
theorem zip_no_len : typeLookup (.type "zip") "__len__" = pure none := by rw [typeLookup_type, builtinLookup_eq_fast]; kernel_rfl
theorem zip_no_hint : typeLookup (.type "zip") "__length_hint__" = pure none := by rw [typeLookup_type, builtinLookup_eq_fast]; kernel_rfl
theorem zl_extend {s : Shared} (S : ZipSep2 z TI TO i1 i2 fp1 fp2) (D1 : Draws prog w A.in1.in1 i1 fp1 n1 P1 St1) (D2 : Draws prog w A.in1.in1 i2 fp2 n2 P2 St2) (hx : Sx ≠ z ∧ Sx ≠ TI ∧ Sx ≠ TO ∧ Sx ∉ fp1 ∧ Sx ∉ fp2) (hlt : ∀ c ∈ [z, TI, TO, i1, i2, Sx] ++ (fp1 ++ fp2), c < s.heap.objs.size) (res : Value) (hn : min n1 n2 ≤ 100000) (c0 : Nat)
    (hz : IsZip s.heap z TI TO .none) (hTI : IsTupOf2 s.heap TI (.ref i1) (.ref i2)) (hTO : ∃ a b, IsTupOf2 s.heap TO a b) (st1 : St1 0 s.heap) (st2 : St2 0 s.heap) (hS : s.heap.get? Sx = some { cls := .type "list", data := .seq #[] c0 })
    (hR : ∀ h' tk Ts' c', (∀ b o, b ∉ [Sx, z, TO, i1, i2] → s.heap.get? b = some o → h'.get? b = some o) → h'.get? Sx = some (lstO (Ts'.map .ref) c') → Ts'.length = min n1 n2 → ZPairs P1 P2 s.heap.objs.size Ts' h' → R (.ok (.ret res)) { s with heap := h', toks := tk }) :
    wpAny (model prog w) A.in1 (Builtin.List.listExtendWith (.ref Sx) (.ref z) res)
      (fun fin s' => match fin with | .done f => R (.ok f) s' | .again c' => c'.quiet = true ∧ codeAny (model prog w) A c' R s') (fun e s' => R (.error e) s') s := by
  have hT : s.TypeIs (.ref z) "zip" := ⟨_, hz, rfl⟩
  unfold Builtin.List.listExtendWith
  refine wpAny_bind (wpAny_typeOf hT ?_)
  have h1 : Builtin.List.listSameRef (.ref Sx) (.ref z) = false := by simp [Builtin.List.listSameRef, hx.1]
  have h2 : (Value.type "zip" == Value.type "list") = false := by decide
  have h3 : (Value.type "zip" == Value.type "tuple") = false := by decide
  simp only [h1, h2, h3, Bool.or_false, Bool.false_eq_true, if_false]
  refine wpAny_bind (wpAny_pyIter_zip hz ?_)
  refine wpAny_bind (wpAny_holding ?_)
  unfold Builtin.List.listLengthHint
  refine wpAny_bind (wpAny_specialOf hT zip_no_len ?_)
  show wpAny _ A.in1 (specialOf (Value.ref z) (Str.ofString "__length_hint__") >>= _) _ _ _
  refine wpAny_bind (wpAny_specialOf hT zip_no_hint ?_)
  refine wpAny_pure ?_
  show wpAny _ A.in1 (rule "list.extend.makes-room" >>= fun _ => Builtin.List.listTouch (.ref Sx) >>= fun _ =>
    again (.builtin "list.extend.loop" ⟨[.ref Sx, .ref z, res], []⟩)) _ _ _
  refine wpAny_bind (wpAny_rule ?_)
  refine wpAny_bind ?_
  show wpAny _ A.in1 (updateSeq Sx (·.push .none) >>= fun _ => updateSeq Sx (·.pop)) _ _ _
  refine wpAny_bind (wpAny_updateSeq hS rfl ?_)
  have hS₂ := Heap.get?_update_self (Obj.mapSeq (·.push Value.none)) hS rfl
  refine wpAny_updateSeq (hz := by seq_fits) hS₂ rfl ?_
  have hS₃ := Heap.get?_update_self (Obj.mapSeq (·.pop)) hS₂ rfl
  have oth : ∀ b o, b ≠ Sx → s.heap.get? b = some o → ((s.heap.update Sx (Obj.mapSeq (·.push Value.none))).update Sx (Obj.mapSeq (·.pop))).get? b = some o :=
    fun b o hb e => (Heap.get?_update_other _ _ (Ne.symm hb)).trans ((Heap.get?_update_other _ _ (Ne.symm hb)).trans e)
  have hsz : ((s.heap.update Sx (Obj.mapSeq (·.push Value.none))).update Sx (Obj.mapSeq (·.pop))).objs.size = s.heap.objs.size := by
    rw [(Heap.SameBut.update ..).1, (Heap.SameBut.update ..).1]
  have hl : ∀ c, c ∈ [z, TI, TO, i1, i2, Sx] → c < s.heap.objs.size := fun c hc => hlt c (List.mem_append_left _ hc)
  refine wpAny_pure ⟨plainId_quiet F.plain_extend_loop _, zl_loop S D1 D2 hx (b0 := s.heap.objs.size) ⟨hl z (by simp), hl TI (by simp), hl TO (by simp), hl i1 (by simp), hl i2 (by simp), hl Sx (by simp)⟩ (fun c hc => hlt c (List.mem_append_right _ hc)) res hn _ 0 _ [] _ rfl (Nat.zero_le _)
    (.inl ⟨rfl, oth z _ (Ne.symm hx.1) hz⟩) (oth TI _ (Ne.symm hx.2.1) hTI) ?_ (D1.frame _ _ _ st1 fun b hb o e => oth b o (fun q => hx.2.2.2.1 (q ▸ hb)) e) (D2.frame _ _ _ st2 fun b hb o e => oth b o (fun q => hx.2.2.2.2 (q ▸ hb)) e) (Nat.le_of_eq hsz.symm) hS₃ rfl ⟨by simp, by simp, by simp⟩ fun h' tk Ts' c' hkk hS' hl' Z => ?_⟩
  · obtain ⟨a, b, q⟩ := hTO
    exact ⟨a, b, oth TO _ (Ne.symm hx.2.2.1) q⟩
  · refine hR h' tk Ts' c' (fun b o hb e => hkk b o hb (oth b o (fun q => hb (by simp [q])) e)) hS' hl' Z
theorem zl_init {s : Shared} (S : ZipSep2 z TI TO i1 i2 fp1 fp2) (D1 : Draws prog w A.in1.in1 i1 fp1 n1 P1 St1) (D2 : Draws prog w A.in1.in1 i2 fp2 n2 P2 St2) (hx : Sx ≠ z ∧ Sx ≠ TI ∧ Sx ≠ TO ∧ Sx ∉ fp1 ∧ Sx ∉ fp2) (hlt : ∀ c ∈ [z, TI, TO, i1, i2, Sx] ++ (fp1 ++ fp2), c < s.heap.objs.size) (hn : min n1 n2 ≤ 100000)
    (hz : IsZip s.heap z TI TO .none) (hTI : IsTupOf2 s.heap TI (.ref i1) (.ref i2)) (hTO : ∃ a b, IsTupOf2 s.heap TO a b) (st1 : St1 0 s.heap) (st2 : St2 0 s.heap) (hS : s.heap.get? Sx = some { cls := .type "list", data := .seq #[] })
    (hR : ∀ h' tk Ts' c', (∀ b o, b ∉ [Sx, z, TO, i1, i2] → s.heap.get? b = some o → h'.get? b = some o) → h'.get? Sx = some (lstO (Ts'.map .ref) c') → Ts'.length = min n1 n2 → ZPairs P1 P2 s.heap.objs.size Ts' h' → R (.ok (.ret .none)) { s with heap := h', toks := tk }) :
    wpAny (model prog w) A.in1 (Builtin.«list.__init__» ⟨[.ref Sx, .ref z], []⟩)
      (fun fin s' => match fin with | .done f => R (.ok f) s' | .again c' => c'.quiet = true ∧ codeAny (model prog w) A c' R s') (fun e s' => R (.error e) s') s := by
  show wpAny _ A.in1 (do let old ← Builtin.List.listItems (.ref Sx); Builtin.List.listUpdate (.ref Sx) (fun _ => #[]); letGo old.toList.reverse; Builtin.List.listExtendWith (.ref Sx) (.ref z) .none) _ _ s
  refine wpAny_bind ?_
  unfold Builtin.List.listItems
  refine wpAny_bind (wpAny_seqItems hS rfl (wpAny_pure ?_))
  show wpAny _ A.in1 (updateSeq Sx (fun _ => #[]) >>= fun _ => letGo (#[] : Array Value).toList.reverse >>= fun _ => Builtin.List.listExtendWith (.ref Sx) (.ref z) .none) _ _ s
  refine wpAny_bind (wpAny_updateSeq hS rfl ?_)
  have hS₂ := Heap.get?_update_self (Obj.mapSeq (fun _ => (#[] : Array Value))) hS rfl
  have oth : ∀ b o, b ≠ Sx → s.heap.get? b = some o → (s.heap.update Sx (Obj.mapSeq (fun _ => (#[] : Array Value)))).get? b = some o :=
    fun b o hb e => (Heap.get?_update_other _ _ (Ne.symm hb)).trans e
  have hsz : (s.heap.update Sx (Obj.mapSeq (fun _ => (#[] : Array Value)))).objs.size = s.heap.objs.size := (Heap.SameBut.update ..).1
  refine wpAny_bind (wpAny_letGo ?_)
  refine zl_extend S D1 D2 hx (fun c hc => by show c < Array.size _; rw [hsz]; exact hlt c hc) .none hn _ (oth z _ (Ne.symm hx.1) hz) (oth TI _ (Ne.symm hx.2.1) hTI) ?_ (D1.frame _ _ _ st1 fun b hb o e => oth b o (fun q => hx.2.2.2.1 (q ▸ hb)) e) (D2.frame _ _ _ st2 fun b hb o e => oth b o (fun q => hx.2.2.2.2 (q ▸ hb)) e) hS₂ fun h' tk Ts' c' hkk hS' hl' Z => ?_
  · obtain ⟨a, b, q⟩ := hTO
    exact ⟨a, b, oth TO _ (Ne.symm hx.2.2.1) q⟩
  · refine hR h' tk Ts' c' (fun b o hb e => hkk b o hb (oth b o (fun q => hb (by simp [q])) e)) hS' hl' ?_
    have : (s.heap.update Sx (Obj.mapSeq (fun _ => (#[] : Array Value)))).objs.size = s.heap.objs.size := hsz
    rw [← this]; exact Z
end
section
variable {prog : Program} {w : World} {A : Around} {E : Value → Shared → Prop} {s : Shared}
/-- list(zip(a, b)) of two texts -/
theorem call_listZip {a b : Str} {ta tb : Tok} {Q : Value → Shared → Prop} (hh : A.handled = none) (hn : min a.cps.size b.cps.size ≤ 100000)
    (h : ∀ h' tk l Ts c, (∀ c o, s.heap.get? c = some o → h'.get? c = some o) → s.heap.objs.size ≤ l → h'.get? l = some (lstO (Ts.map .ref) c) → Ts.length = min a.cps.size b.cps.size →
      ZPairs (SignAt a) (SignAt b) s.heap.objs.size Ts h' → l ∉ Ts → Q (.ref l) { s with heap := h', toks := tk }) :
    wpAny (model prog w) A (call (.type "zip") [.str a ta, .str b tb]) (fun v s' => wpAny (model prog w) A (call (.type "list") [v]) Q E s') E s := by
  refine zip_begins2 (begins_text a ta) (begins_text b tb) trivial trivial fun h' hz hTI hTO g1 g2 hsz hk => ?_
  generalize hN : s.heap.objs.size = N at *
  have D1 := Draws.text (prog := prog) (w := w) (A := A.in1.in1.in1) hh N a ta
  have D2 := Draws.text (prog := prog) (w := w) (A := A.in1.in1.in1) hh (N + 1) b tb
  have S : ZipSep2 (N + 4) (N + 2) (N + 3) N (N + 1) [N] [N + 1] := by
    constructor <;> simp
  refine callType_codes (Q₁ := fun obj s₁ => obj = .ref h'.objs.size ∧ s₁ = { s with heap := h'.push { cls := .type "list", data := .seq #[] } }) F.called_list (F.typeCall_list_1 _) F.entry_list_init
    (code_list_new _ ⟨rfl, rfl⟩) fun obj s₁ h₁ => ?_
  obtain ⟨rfl, rfl⟩ := h₁
  rw [hsz]
  have hS : (h'.push { cls := .type "list", data := .seq #[] }).get? (N + 5) = some { cls := .type "list", data := .seq #[] } := by rw [← hsz]; exact Heap.get?_push_size _ rfl
  have pk : ∀ c o, h'.get? c = some o → (h'.push { cls := .type "list", data := .seq #[] }).get? c = some o := fun c o e => Heap.get?_push_of_some _ e
  have psz : (h'.push { cls := .type "list", data := .seq #[] }).objs.size = N + 6 := by rw [Heap.size_push, hsz]
  refine ⟨⟨_, hS, rfl⟩, F.args_list_init_2 _ _, zl_init (A := A.in1) (s := { s with heap := h'.push { cls := .type "list", data := .seq #[] } }) S D1 D2 ⟨by simp, by simp, by simp, by simp, by simp⟩ (fun c hc => ?_) hn (pk _ _ hz) (pk _ _ hTI) ⟨_, _, pk _ _ hTO⟩ ⟨_, pk _ _ g1, rfl, rfl⟩ ⟨_, pk _ _ g2, rfl, rfl⟩ hS fun h2 tk Ts c hkk hS2 hl Z => ?_⟩
  · show c < Array.size _
    rw [psz]
    simp at hc
    rcases hc with h | h | h | h | h | h | h | h <;> rw [h] <;> first | exact Nat.lt_add_of_pos_right (by decide) | exact Nat.add_lt_add_left (by decide) N
  · refine ⟨rfl, h h2 tk (N + 5) Ts c (fun c o e => ?_) (by omega) hS2 hl ?_ fun hm => ?_⟩
    · have hc : c < N := by rw [← hN]; exact Heap.lt_size e
      refine hkk c o ?_ (pk _ _ (hk c o e))
      simp only [List.mem_cons, List.not_mem_nil, or_false, not_or]
      refine ⟨?_, ?_, ?_, ?_, ?_⟩ <;> first | exact Nat.ne_of_lt hc | exact Nat.ne_of_lt (Nat.lt_of_lt_of_le hc (Nat.le_add_right _ _))
    · refine ⟨Z.up, fun T hT => ?_, Z.tup⟩
      have := Z.lo T hT
      refine ⟨Nat.le_trans ?_ this.1, this.2⟩
      show N ≤ Array.size _
      rw [psz]; omega
    · have := (Z.lo _ hm).1
      rw [show Array.size _ = N + 6 from psz] at this
      exact absurd this (by omega)
end
end Ms

/-! Lay26: list(zip(a, b)) over the abstract heap and over data. -/
namespace Ms
open PySem PySem.Spec PyProof.Rows L2
section
variable {X : Cx} {pins : List (Addr × Obj)} {σ : L2.St} {H H' : Hp} {s : Shared} {h' : Heap}
/-- many new objects laid and tracked at once -/
theorem laidG {t' : Nat} (I : Inv X pins σ H s) (k : ∀ b u, s.heap.get? b = some u → h'.get? b = some u) (hH : ∀ b u, H b = some u → H' b = some u) (hnew : ∀ b u, s.heap.get? b = some u → H b = none → H' b = none)
    (new : ∀ a o, H a = none → H' a = some o → ObjOk X.prog X.w H' h' a o) : Inv X pins σ H' { s with heap := h', toks := t' } := by
  refine I.un ⟨fun b u q _ _ _ => k b u q, fun b u q _ _ _ => ⟨u.slots, k b u q⟩, fun b u q n _ => hnew b u q n, fun b u q _ => ⟨u, k b u q⟩, fun b xs q => hH b _ q, fun b u xs q => hH b _ q, fun b ps q => ⟨#[], by rw [hH b _ q]; simp⟩⟩ fun a o e => ?_
  cases q : H a with
  | none => exact new a o q e
  | some u =>
    have := hH a u q
    rw [e] at this
    cases this
    exact (I.hok a o q).stay (fun c v _ z => k c v z) (fun c z => hH c _ z) fun c xs z => hH c _ z
end
def sgnA (a : Str) (j : Nat) : Str := ⟨#[a.cps.getD j 0]⟩
/-- the list and its pairs -/
def layZ (H : Hp) (a b : Str) (l : Addr) (Ts : List Addr) : Hp := fun c => if c = l then some (.lst (Ts.map V.ref)) else if c ∈ Ts then some (.tup [.str (sgnA a (Ts.idxOf c)), .str (sgnA b (Ts.idxOf c))]) else H c
def tLZ (t : TA) : TE := fun σ H Q => t σ H fun vs H2 => ∃ a b : Str, vs = [.str a, .str b] ∧ min a.cps.size b.cps.size ≤ 100000 ∧
  ∀ (l : Addr) (Ts : List Addr), Ts.length = min a.cps.size b.cps.size → Ts.Nodup → l ∉ Ts → H2 l = none → (∀ T ∈ Ts, H2 T = none) → Q (.ref l) (layZ H2 a b l Ts)
theorem vals_refs : ∀ (Ts : List Addr), Vals (Ts.map V.ref) (Ts.map Value.ref)
  | [] => .nil
  | T :: Ts => .cons rfl (vals_refs Ts)
theorem pe_lz {X : Cx} {e1 e2 : Expr} {t : TA} {p p2 pos pos2 : Pos} (hg : Gl X "list") (hm : X.mg "list" = none) (hg2 : Gl X "zip") (hm2 : X.mg "zip" = none) (hcalm : X.calm = true) (ha : PA X [e1, e2] t)
    (hs : starEach [e1, e2] X.env = (false, eval e1 X.env) :: starEach [e2] X.env := by rfl) (hpl : (backTo pos2 (starEach [e2] X.env)).any (·.1) = false := by rfl)
    (hz : starEach [.Call (.Name "zip" p2) [e1, e2] [] pos2] X.env = (false, eval (.Call (.Name "zip" p2) [e1, e2] [] pos2) X.env) :: starEach [] X.env := by rfl) :
    PE X (.Call (.Name "list" p) [.Call (.Name "zip" p2) [e1, e2] [] pos2] [] pos) (tLZ t) := by
  refine ⟨fun pins s σ H Q I h => ?_⟩
  refine wpAny_Call_Name_kw (ld_blt I hg hm PyProof.Rows.boot_list ?_)
  refine PyProof.Rows.callWith_type1 ?_ hz rfl
  rw [hz]
  show wpAny _ _ (spliced ((false, eval (.Call (.Name "zip" p2) [e1, e2] [] pos2) X.env) :: backTo pos (starEach [] X.env))) _ _ s
  refine Calls.spliced_cons ?_
  refine wpAny_Call_Name_kw (ld_blt I hg2 hm2 PyProof.Rows.boot_zip (PyProof.Rows.callWith_type1 (thn (ha.run pos2 pins s σ H _ I h) fun us s1 ⟨vs, H1, I1, r1, q1⟩ => ?_) hs hpl))
  · obtain ⟨a, b, ex, hn, q⟩ := q1
    subst ex
    obtain ⟨u1, u2, rfl, ⟨ta, rfl⟩, ⟨tb, rfl⟩⟩ := r1.two
    refine wpAny_mono (call_listZip (ta := ta) (tb := tb) (E := X.xe) (Q := EP X pins σ Q) (I1.ok.hd hcalm) hn fun h' tk l Ts c hk hl hL hlen Z hlT => ?_) (fun v s' z => Calls.spliced_nil z) fun _ _ x => x
    have hnone : ∀ c, s1.heap.objs.size ≤ c → H1 c = none := fun c hc => I1.hok.fresh hc
    have hnd : Ts.Nodup := Z.up.imp fun h => Nat.ne_of_lt h
    refine ⟨.ref l, layZ H1 a b l Ts, laidG (t' := tk) I1 hk (fun c u e => ?_) (fun c u e n => ?_) (fun c o n e => ?_), rfl, q l Ts hlen hnd hlT (hnone l hl) fun T hT => hnone T (Z.lo T hT).1⟩
    · have c1 : c ≠ l := fun z => by rw [z, hnone l hl] at e; cases e
      have c2 : c ∉ Ts := fun z => by rw [hnone c (Z.lo c z).1] at e; cases e
      unfold layZ
      rw [if_neg c1, if_neg c2]; exact e
    · have hc := Heap.lt_size e
      have c1 : c ≠ l := fun z => absurd hc (by rw [z]; exact Nat.not_lt.mpr hl)
      have c2 : c ∉ Ts := fun z => absurd hc (Nat.not_lt.mpr (Z.lo c z).1)
      unfold layZ
      rw [if_neg c1, if_neg c2]; exact n
    · unfold layZ at e
      by_cases c1 : c = l
      · rw [if_pos c1] at e
        cases e
        subst c1
        refine ⟨by rw [List.length_map, hlen]; exact Nat.le_trans hn (by decide), Ts.map Value.ref, _, vals_refs Ts, hL⟩
      · rw [if_neg c1] at e
        by_cases c2 : c ∈ Ts
        · rw [if_pos c2] at e
          cases e
          have hj : Ts[Ts.idxOf c]? = some c := by rw [List.getElem?_eq_getElem (List.idxOf_lt_length_iff.mpr c2), List.getElem_idxOf]
          obtain ⟨x, y, ⟨cx, ux, ex, rfl⟩, ⟨cy, uy, ey, rfl⟩, hT⟩ := Z.tup _ c hj
          have e1 : sgnA a (Ts.idxOf c) = ⟨#[cx]⟩ := by unfold sgnA; rw [Array.getD_eq_getD_getElem?, ex]; rfl
          have e2 : sgnA b (Ts.idxOf c) = ⟨#[cy]⟩ := by unfold sgnA; rw [Array.getD_eq_getD_getElem?, ey]; rfl
          refine ⟨Nat.le_of_ble_eq_true rfl, [.str ⟨#[cx]⟩ ux, .str ⟨#[cy]⟩ uy], ?_, ⟨_, hT, rfl, _, rfl⟩⟩
          rw [e1, e2]
          exact .cons ⟨_, rfl⟩ (.cons ⟨_, rfl⟩ .nil)
        · rw [if_neg c2, n] at e; cases e
def pairsD (a b : Str) : List D := (List.range (min a.cps.size b.cps.size)).map fun j => .tup [.str (sgnA a j), .str (sgnA b j)]
theorem reps_of {K : PySem.W.Frag} {G : Hp} : ∀ {ds : List D} {vs : List V}, ds.length = vs.length → (∀ (j : Nat) d v, ds[j]? = some d → vs[j]? = some v → Rep K G d v) → Reps K G ds vs
  | [], [], _, _ => .nil
  | [], _ :: _, e, _ => by cases e
  | _ :: _, [], e, _ => by cases e
  | d :: ds, v :: vs, e, h => .cons (h 0 d v rfl rfl) (reps_of (by simpa using e) fun j d' v' e1 e2 => h (j + 1) d' v' (by simpa using e1) (by simpa using e2))
theorem en_lz {K : PySem.W.Frag} {δ : List Sl} {t : TA} {Θ : OD → List Sl → Prop} (h : EvA K t δ fun ds δ1 => ∃ a b : Str, ds = [.str a, .str b] ∧ min a.cps.size b.cps.size ≤ 100000 ∧ Θ (.lst (pairsD a b)) δ1) : EvN K (tLZ t) δ Θ := fun M L G0 H0 G H σ c Q q =>
  h M L G0 H0 G H σ c _ fun ds δ1 vs G1 H1 s1 c1 r1 ⟨a, b, e, hn, k⟩ => by
    subst e
    obtain ⟨v1, r', rfl, q1, q2⟩ := r1.cons_inv
    obtain ⟨v2, r'', rfl, q3, q4⟩ := q2.cons_inv
    have e5 := q4.nil_inv
    subst e5
    refine ⟨a, b, by rw [q1.str_inv, q3.str_inv], hn, fun l Ts hlen hnd hlT nl nT => ?_⟩
    have f := c1.fresh nl
    let G2 : Hp := fun x => if x ∈ Ts then some (.tup [.str (sgnA a (Ts.idxOf x)), .str (sgnA b (Ts.idxOf x))]) else G1 x
    have gT : ∀ T ∈ Ts, G1 T = none := fun T hT => by
      cases e : G1 T with
      | none => rfl
      | some o => have := c1.gh _ _ e; rw [nT T hT] at this; cases this
    have g : Grow [] G1 H1 G2 (layZ H1 a b l Ts) := by
      refine ⟨fun x o e => ?_, fun x o e => ?_, fun x o e _ => ?_, fun x e => ?_, fun x e => ?_⟩
      · have : x ∉ Ts := fun hx => by rw [gT x hx] at e; cases e
        show (if x ∈ Ts then _ else G1 x) = _
        rw [if_neg this]; exact e
      · have e : (if x ∈ Ts then some (HO.tup [.str (sgnA a (Ts.idxOf x)), .str (sgnA b (Ts.idxOf x))]) else G1 x) = some o := e
        unfold layZ
        by_cases hx : x ∈ Ts
        · rw [if_pos hx] at e
          rw [if_neg (show ¬ x = l from fun z => hlT (by rw [← z]; exact hx)), if_pos hx]; exact e
        · rw [if_neg hx] at e
          have e2 := c1.gh _ _ e
          rw [if_neg (ne_of_none e2 nl), if_neg hx]; exact e2
      · unfold layZ
        rw [if_neg (ne_of_none e nl), if_neg (fun hx => by rw [nT x hx] at e; cases e)]; exact e
      · unfold layZ
        split
        · exact fun z => nomatch z
        · split
          · exact fun z => nomatch z
          · exact e
      · show (if x ∈ Ts then _ else G1 x) = _
        rw [if_neg (fun hx => e (nT x hx))]
    have c2 := c1.grow g
    refine q (.lst (pairsD a b)) δ1 l G2 _ (s1.trans g.g) c2 ?_ f.1 ⟨Ts.map V.ref, by unfold layZ; rw [if_pos rfl], reps_of ?_ fun j d v ed ev => ?_⟩ f.2.2.1 f.2.2.2 k
    · show (if l ∈ Ts then _ else G1 l) = none
      rw [if_neg hlT]; exact f.2.1
    · unfold pairsD; rw [List.length_map, List.length_map, List.length_range, hlen]
    · unfold pairsD at ed
      rw [List.getElem?_map] at ed ev
      cases hT : Ts[j]? with
      | none => rw [hT] at ev; cases ev
      | some T =>
        rw [hT] at ev
        cases ev
        have hj := (List.getElem?_eq_some_iff.mp hT)
        obtain ⟨hjl, hje⟩ := hj
        rw [List.getElem?_range (by omega)] at ed
        cases ed
        have hix : Ts.idxOf T = j := by rw [← hje]; exact hnd.idxOf_getElem j hjl
        have hG : G2 T = some (.tup [.str (sgnA a j), .str (sgnA b j)]) := by
          show (if T ∈ Ts then some (HO.tup [.str (sgnA a (Ts.idxOf T)), .str (sgnA b (Ts.idxOf T))]) else G1 T) = _
          rw [if_pos (List.mem_of_getElem? hT), hix]
        exact rep_tup (SqT.of hG) (.cons (rep_str _) (.one (rep_str _)))
end Ms

/-! Lay27: dict(list of pairs); the table of letters. -/
namespace Ms
open PySem PySem.Spec PyProof.Rows L2
def rDictP (K : PySem.W.Frag) : List V → Hp → VK → Prop := fun xs H Q => ∃ (a : Addr) (ps : List Addr) (kvs : List (Key × V)), xs = [.ref a] ∧ SqL K H a (ps.map V.ref) ∧ Paired (fun p kv => SqT K H p [kV kv.1, kv.2]) ps kvs ∧ ∀ p, H p = none → Q (.ref p) (upd H p (.dK (mergeK [] kvs)))
theorem call_dictPU {X : Cx} (hc : X.calm = true) : CallR X (.type "dict") (rDictP X.K) := call_dictP hc
theorem merge_nodup : ∀ (more kvs : List (Key × V)), ((kvs ++ more).map Prod.fst).Nodup → mergeK kvs more = kvs ++ more
  | [], kvs, _ => by simp [mergeK]
  | (k, v) :: r, kvs, nd => by
    have hn : (kvs.any fun kv => decide (kv.1 = k)) = false := by
      rw [List.any_eq_false]
      intro kv hk e
      rw [List.map_append, List.nodup_append] at nd
      exact nd.2.2 kv.1 (List.mem_map.mpr ⟨kv, hk, rfl⟩) k (by simp) (by simpa using e)
    have e : mergeK kvs ((k, v) :: r) = mergeK (putK kvs k v) r := rfl
    rw [e]
    unfold putK
    rw [if_neg (by rw [hn]; exact Bool.false_ne_true), merge_nodup r (kvs ++ [(k, v)]) (by rw [List.append_assoc]; exact nd), List.append_assoc]
    rfl
section
variable {K : PySem.W.Frag}
theorem pairs_inv {G : Hp} : ∀ {kvs : List (Key × D)} {vs : List V}, Reps K G (kvs.map fun kv => .tup [keyD kv.1, kv.2]) vs → ∃ (ps : List Addr) (ws : List (Key × V)), vs = ps.map V.ref ∧ RepK K G kvs ws ∧ Paired (fun p kv => SqT K G p [kV kv.1, kv.2]) ps ws ∧ ws.map Prod.fst = kvs.map Prod.fst
  | [], vs, h => ⟨[], [], h.nil_inv, .nil, .nil, rfl⟩
  | (k, d) :: r, vs, h => by
    obtain ⟨v, r', rfl, h1, h2⟩ := h.cons_inv
    obtain ⟨ps, ws, rfl, g2, g3, g4⟩ := pairs_inv h2
    obtain ⟨a, xs, rfl, hx, rx⟩ := h1.tup_inv
    obtain ⟨v1, r1, rfl, q1, q2⟩ := rx.cons_inv
    obtain ⟨v2, r2, rfl, q3, q4⟩ := q2.cons_inv
    have e5 := q4.nil_inv
    subst e5
    have ek : v1 = kV k := by
      cases k with
      | inl i => exact q1.int_inv
      | inr z => exact q1.str_inv
    subst ek
    exact ⟨a :: ps, (k, v2) :: ws, rfl, .cons q3 g2, .cons hx g3, by rw [List.map_cons, List.map_cons, g4]⟩
theorem paired_mono {α β : Type} {R R' : α → β → Prop} (h : ∀ a b, R a b → R' a b) : ∀ {as : List α} {bs : List β}, Paired R as bs → Paired R' as bs
  | _, _, .nil => .nil
  | _, _, .cons x r => .cons (h _ _ x) (paired_mono h r)
theorem dictP_N {kvs : List (Key × D)} {Ψ : OD → Prop} (nd : (kvs.map Prod.fst).Nodup) (k : Ψ (.dic kvs)) : RAN K (rDictP K) [.lst (kvs.map fun kv => .tup [keyD kv.1, kv.2])] Ψ := fun G H vs s r Q q => by
  obtain ⟨v, rfl, rx⟩ := r.just
  obtain ⟨a, xs, rfl, hx, rr⟩ := rx.lst_inv
  obtain ⟨ps, ws, rfl, g2, g3, g4⟩ := pairs_inv rr
  refine ⟨a, ps, ws, rfl, SqL.of (s _ _ hx), paired_mono (fun p kv h => sqT_mono s h) g3, fun p hp => ?_⟩
  have em : mergeK [] ws = ws := by rw [merge_nodup ws [] (by rw [List.nil_append, g4]; exact nd)]; rfl
  rw [em]
  have np : G p = none := by
    cases e : G p with
    | none => rfl
    | some o => have := s _ _ e; rw [hp] at this; cases this
  exact q (.dic kvs) p G _ (.newH s hp) hp np ⟨ws, upd_same, g2⟩ k
end
/-! ### the table of letters -/
def lowU : Str := "ABCDEFGHIJKLMNOPQRSTUVWXYZ"
def lowL : Str := "abcdefghijklmnopqrstuvwxyz"
/-- a letter's other case -/
def swapC (c : Nat) : Nat := if 97 ≤ c ∧ c ≤ 122 then c - 32 else c + 32
def tableD : List (Key × D) := ((List.range 26).map fun j => (.inr ⟨#[97 + j]⟩, .str ⟨#[65 + j]⟩)) ++ ((List.range 26).map fun j => (.inr ⟨#[65 + j]⟩, .str ⟨#[97 + j]⟩))
theorem table_nodup : (tableD.map Prod.fst).Nodup := by decide +kernel
theorem table_pairs : pairsD lowL lowU ++ pairsD lowU lowL = tableD.map fun kv => .tup [keyD kv.1, kv.2] := by
  have e1 : pairsD lowL lowU = (List.range 26).map fun j => D.tup [.str ⟨#[97 + j]⟩, .str ⟨#[65 + j]⟩] := by
    unfold pairsD
    have : min lowL.cps.size lowU.cps.size = 26 := by decide +kernel
    rw [this]
    refine List.map_congr_left fun j hj => ?_
    have hj : j < 26 := by simpa using hj
    have h1 : ∀ j : Fin 26, sgnA lowL j = ⟨#[97 + j]⟩ := by decide +kernel
    have h2 : ∀ j : Fin 26, sgnA lowU j = ⟨#[65 + j]⟩ := by decide +kernel
    rw [h1 ⟨j, hj⟩, h2 ⟨j, hj⟩]
  have e2 : pairsD lowU lowL = (List.range 26).map fun j => D.tup [.str ⟨#[65 + j]⟩, .str ⟨#[97 + j]⟩] := by
    unfold pairsD
    have : min lowU.cps.size lowL.cps.size = 26 := by decide +kernel
    rw [this]
    refine List.map_congr_left fun j hj => ?_
    have hj : j < 26 := by simpa using hj
    have h1 : ∀ j : Fin 26, sgnA lowL j = ⟨#[97 + j]⟩ := by decide +kernel
    have h2 : ∀ j : Fin 26, sgnA lowU j = ⟨#[65 + j]⟩ := by decide +kernel
    rw [h1 ⟨j, hj⟩, h2 ⟨j, hj⟩]
  rw [e1, e2]
  unfold tableD
  rw [List.map_append, List.map_map, List.map_map]
  rfl
theorem val_mem {l : List (Key × D)} {k : Key} {d : D} : ∀ {l : List (Key × D)}, (l.map Prod.fst).Nodup → (k, d) ∈ l → valD l k = some d
  | [], _, h => by cases h
  | (y, x) :: l, nd, h => by
    rw [List.map_cons, List.nodup_cons] at nd
    unfold valD
    rw [List.find?_cons]
    rcases List.mem_cons.mp h with e | h
    · cases e; simp
    · have hne : y ≠ k := fun e => nd.1 (by rw [e]; exact List.mem_map.mpr ⟨_, h, rfl⟩)
      simp only [decide_eq_false hne]
      exact val_mem (l := l) nd.2 h
theorem table_val {c : Nat} (h : (isLow c || isUpp c) = true) : valD tableD (.inr ⟨#[c]⟩) = some (.str ⟨#[swapC c]⟩) := by
  have h1 : ∀ c ∈ lowS.cps.toList, 97 ≤ c ∧ c ≤ 122 := by decide +kernel
  have h2 : ∀ c ∈ uppS.cps.toList, 65 ≤ c ∧ c ≤ 90 := by decide +kernel
  refine val_mem (l := tableD) table_nodup ?_
  unfold tableD
  rw [List.mem_append, List.mem_map, List.mem_map]
  simp only [Bool.or_eq_true] at h
  rcases h with h | h
  · have := h1 c (by simpa [isLow] using h)
    refine .inl ⟨c - 97, by simp; omega, ?_⟩
    unfold swapC
    rw [if_pos this, show 97 + (c - 97) = c by omega, show 65 + (c - 97) = c - 32 by omega]
  · have := h2 c (by simpa [isUpp] using h)
    refine .inr ⟨c - 65, by simp; omega, ?_⟩
    unfold swapC
    rw [if_neg (by omega), show 65 + (c - 65) = c by omega, show 97 + (c - 65) = c + 32 by omega]
end Ms

/-! Lay28: pieces, markers and rows flipped. -/
namespace Ms
open PySem PySem.Spec PyProof.Rows L2
theorem low_rng {c : Nat} (h : isLow c = true) : 97 ≤ c ∧ c ≤ 122 := by
  have : ∀ c ∈ lowS.cps.toList, 97 ≤ c ∧ c ≤ 122 := by decide +kernel
  exact this c (by simpa [isLow] using h)
theorem upp_rng {c : Nat} (h : isUpp c = true) : 65 ≤ c ∧ c ≤ 90 := by
  have : ∀ c ∈ uppS.cps.toList, 65 ≤ c ∧ c ≤ 90 := by decide +kernel
  exact this c (by simpa [isUpp] using h)
theorem ltr_is {c : Nat} : (isLow c || isUpp c) = true ↔ (97 ≤ c ∧ c ≤ 122) ∨ (65 ≤ c ∧ c ≤ 90) := by
  constructor
  · intro h
    rw [Bool.or_eq_true] at h
    exact h.imp low_rng upp_rng
  · have h1 : ∀ c : Fin 26, isLow (97 + c) = true := by decide +kernel
    have h2 : ∀ c : Fin 26, isUpp (65 + c) = true := by decide +kernel
    rintro (h | h)
    · have := h1 ⟨c - 97, by omega⟩
      rw [show 97 + (c - 97) = c by omega] at this
      rw [this]; rfl
    · have := h2 ⟨c - 65, by omega⟩
      rw [show 65 + (c - 65) = c by omega] at this
      rw [this]; simp
theorem swapC_ltr {c : Nat} (h : (isLow c || isUpp c) = true) : (isLow (swapC c) || isUpp (swapC c)) = true := by
  rw [ltr_is] at h ⊢
  unfold swapC
  split <;> omega
theorem swapC_twice {c : Nat} (h : (isLow c || isUpp c) = true) : swapC (swapC c) = c := by
  rw [ltr_is] at h
  unfold swapC
  split <;> split <;> omega
/-- a piece flipped -/
def flS (z : Str) : Str := ⟨((sg z).reverse.map swapC).toArray⟩
theorem sg_flS (z : Str) : sg (flS z) = (sg z).reverse.map swapC := rfl
theorem flS_len (z : Str) : (flS z).length = z.length := by rw [← sg_len, sg_flS, List.length_map, List.length_reverse, sg_len]
theorem flS_piece {z : Str} (h : pieceS z = true) : pieceS (flS z) = true := by
  unfold pieceS at *
  rw [List.all_eq_true] at *
  intro c hc
  have hc : c ∈ (sg z).reverse.map swapC := hc
  obtain ⟨d, hd, rfl⟩ := List.mem_map.mp hc
  exact swapC_ltr (h d (by simpa using hd))
theorem flS_twice {z : Str} (h : pieceS z = true) : flS (flS z) = z := str_ext (by
  rw [sg_flS, sg_flS, ← List.map_reverse, List.reverse_reverse, List.map_map]
  unfold pieceS at h
  rw [List.all_eq_true] at h
  conv => rhs; rw [← List.map_id (sg z)]
  exact List.map_congr_left fun c hc => swapC_twice (h c hc))
theorem swapcase_piece {z : Str} (h : pieceS z = true) : Txt.swapcase z = ⟨z.cps.map swapC⟩ := by
  unfold pieceS at h
  rw [List.all_eq_true] at h
  unfold Txt.swapcase
  have hu : ∀ c, c < 128 → Unicode.isUpper c = decide (65 ≤ c ∧ c ≤ 90) := by decide +kernel
  have hl : ∀ c, c < 128 → Unicode.isLower c = decide (97 ≤ c ∧ c ≤ 122) := by decide +kernel
  rw [placed_single z _ swapC fun i c hc => by
    have hc' : z.cps[i]? = some c := by simpa using hc
    have hL := ltr_is.mp (h c (List.mem_of_getElem? hc))
    have hlt : c < 128 := by omega
    rw [hu c hlt, hl c hlt]
    rcases hL with q | q
    · rw [if_neg (by simp; omega), if_pos (by simpa using q), upperOf_ascii c hlt]
      unfold up1 swapC
      rw [if_pos q, if_pos q]
    · rw [if_pos (by simpa using q)]
      unfold Unicode.lowerAt
      rw [hc']
      have hne : (c == 0x3A3) = false := by rw [beq_eq_false_iff_ne]; omega
      simp only [hne, Bool.false_and, Bool.false_eq_true, if_false]
      rw [lowerOf_ascii c hlt]
      unfold lo1 swapC
      rw [if_pos q, if_neg (by omega)]]
theorem pickZ_rev (z : Str) : pickZ none none (-1) z = ⟨(sg z).reverse.toArray⟩ := str_ext (by
  show (pickZ none none (-1) z).cps.toList = _
  unfold pickZ
  simp [pick_rev])
/-- an item flipped -/
def flI : D → D
  | .str z => .str (flS z)
  | .tup [d, .bl b] => .tup [d, .bl (!b)]
  | d => d
def flL (xs : List D) : List D := xs.reverse.map flI
def flM (m : Mk) : Mk := (m.1, !m.2)
theorem flI_mk (m : Mk) : flI (mkD m) = mkD (flM m) := rfl
/-- a row's end and the pairs before it, from the other side -/
def flR : Str → List It2 → Str × List It2
  | p, [] => (flS p, [])
  | p, x :: r => ((flR x.2 r).1, (flR x.2 r).2 ++ [(flM x.1, flS p)])
theorem flL_row : ∀ (p : Str) (ms : List It2), flL (rowL p ms) = rowL (flR p ms).1 (flR p ms).2
  | p, [] => rfl
  | p, x :: r => by
    have e : rowL p (x :: r) = .str p :: mkD x.1 :: rowL x.2 r := rfl
    rw [e]
    unfold flL
    rw [List.reverse_cons, List.reverse_cons, List.append_assoc, List.map_append]
    have := flL_row x.2 r
    unfold flL at this
    rw [this]
    show _ = rowL (flR x.2 r).1 ((flR x.2 r).2 ++ [(flM x.1, flS p)])
    rw [rowL_snoc]
    rfl
theorem flR_ok : ∀ {ms : List It2} {p : Str}, RowOk p ms → RowOk (flR p ms).1 (flR p ms).2
  | [], p, h => ⟨flS_piece h.p0, by simp [flR], by simp [flR]⟩
  | x :: r, p, h => by
    have ih := flR_ok h.tail
    refine ⟨ih.p0, fun y hy => ?_, fun y hy => ?_⟩
    · rcases List.mem_append.mp hy with hy | hy
      · exact ih.nm y hy
      · rw [List.mem_singleton.mp hy]; exact h.nm x List.mem_cons_self
    · rcases List.mem_append.mp hy with hy | hy
      · exact ih.pc y hy
      · rw [List.mem_singleton.mp hy]; exact flS_piece h.p0
theorem lets_app (a b : List It2) : lets (a ++ b) = lets a + lets b := by unfold lets; rw [List.map_append, List.sum_append]
theorem flR_w : ∀ (ms : List It2) (p : Str), rowW (flR p ms).1 (flR p ms).2 = rowW p ms ∧ (flR p ms).2.length = ms.length
  | [], p => ⟨by simp [flR, rowW, lets, flS_len], rfl⟩
  | x :: r, p => by
    obtain ⟨h1, h2⟩ := flR_w r x.2
    refine ⟨?_, by show ((flR x.2 r).2 ++ [_]).length = _; rw [List.length_append, h2]; rfl⟩
    show (flR x.2 r).1.length + lets ((flR x.2 r).2 ++ [(flM x.1, flS p)]) = p.length + lets (x :: r)
    unfold rowW at h1
    rw [lets_app, lets_cons x r]
    have : lets [(flM x.1, flS p)] = p.length := by simp [lets, flS_len]
    omega
theorem flI_twice {d : D} {p : Str} {ms : List It2} (ok : RowOk p ms) (h : d ∈ rowL p ms) : flI (flI d) = d := by
  rcases mem_row h with rfl | ⟨x, hx, rfl | rfl⟩
  · show D.str (flS (flS p)) = _; rw [flS_twice ok.p0]
  · show D.tup [_, .bl (!!x.1.2)] = _; rw [Bool.not_not]; rfl
  · show D.str (flS (flS x.2)) = _; rw [flS_twice (ok.pc x hx)]
theorem flL_twice {p : Str} {ms : List It2} (ok : RowOk p ms) : flL (flL (rowL p ms)) = rowL p ms := by
  unfold flL
  rw [← List.map_reverse, List.reverse_reverse, List.map_map]
  conv => rhs; rw [← List.map_id (rowL p ms)]
  exact List.map_congr_left fun d hd => flI_twice ok hd
/-! ### promises -/
def A_flipped_piece (K : PySem.W.Frag) : FS := fun ds post => ∃ z, ds = [.str z] ∧ pieceS z = true ∧ z.length ≤ 1000000 ∧ post (.val (.str (flS z)))
def A_flipped_marker (K : PySem.W.Frag) : FS := fun ds post => ∃ m : Mk, ds = [mkD m] ∧ post (.val (mkD (flM m)))
def A_flipped_item (K : PySem.W.Frag) : FS := fun ds post => ∃ d, ds = [d] ∧ OkD K d ∧ ((∃ z, d = .str z ∧ pieceS z = true ∧ z.length ≤ 1000000) ∨ ∃ m : Mk, d = mkD m) ∧ post (.val (flI d))
def A_flipped_items (K : PySem.W.Frag) : FS := fun ds post => ∃ d p ms, ds = [d] ∧ SeqD d (rowL p ms) ∧ RowOk p ms ∧ rowW p ms ≤ 100000 ∧ ms.length ≤ 100000 ∧ post (.new (.lst (flL (rowL p ms))))
def A_flip_piece (K : PySem.W.Frag) : FS := fun ds post => ∃ z, ds = [.str z] ∧ pieceS z = true ∧ z.length ≤ 1000000 ∧ post (.val (.str (flS z)))
def A_flip_marker (K : PySem.W.Frag) : FS := fun ds post => ∃ m : Mk, ds = [mkD m] ∧ nameS m.1 = true ∧ post (.val (mkD (flM m)))
def A_flip_row (K : PySem.W.Frag) : FS := fun ds post => ∃ d p ms, ds = [d] ∧ SeqD d (rowL p ms) ∧ RowOk p ms ∧ rowW p ms ≤ 100000 ∧ ms.length ≤ 100000 ∧ post (.new (.lst (flL (rowL p ms))))
end Ms

/-! Lay29: `in` over nested data; a starred target; a module's dict of defs, the call of a def held by a local; own dicts: get, put; insert; is None. -/
namespace Ms
open PySem PySem.Spec PyProof.Rows L2

theorem u65 {k : Nat} {A : Around} (hr : Room k A) : A.units + 65 < cLine := by have := hr.un; omega
/-! ### in -/
def inP (d : D) (ds : List D) : Bool := (pys ds).any fun z => PyData.eqv z d.py
section
variable {K : PySem.W.Frag} {Ψ : D → Prop}
theorem py_lst (ds : List D) : (D.lst ds).py = .list (pys ds) := by simp only [D.py]
theorem inD_l {d : D} {ds : List D} (hd : okPy d = true) (hs : okPy (.lst ds) = true) (k : Ψ (.bl (inP d ds))) : R2D K (rInD K) d (.lst ds) Ψ := fun G H v w s rx ry => by
  unfold okPy at hd hs
  obtain ⟨h1, h2⟩ := (Bool.and_eq_true _ _ ▸ hd : _ ∧ _)
  obtain ⟨h3, h4⟩ := (Bool.and_eq_true _ _ ▸ hs : _ ∧ _)
  refine RD.val s (rep_bl _) k fun Q q => ⟨d.py, pys ds, dp_of s h1 rx, ?_, h2, ?_, q⟩
  · rw [← py_lst]; exact dp_of s h3 ry
  · rw [← py_lst]; exact h4
theorem ninD_l {d : D} {ds : List D} (hd : okPy d = true) (hs : okPy (.lst ds) = true) (k : Ψ (.bl (!inP d ds))) : R2D K (rNotInD K) d (.lst ds) Ψ := fun G H v w s rx ry => by
  unfold okPy at hd hs
  obtain ⟨h1, h2⟩ := (Bool.and_eq_true _ _ ▸ hd : _ ∧ _)
  obtain ⟨h3, h4⟩ := (Bool.and_eq_true _ _ ▸ hs : _ ∧ _)
  refine RD.val s (rep_bl _) k fun Q q => ⟨d.py, pys ds, dp_of s h1 rx, ?_, h2, ?_, q⟩
  · rw [← py_lst]; exact dp_of s h3 ry
  · rw [← py_lst]; exact h4
end
/-! ### a, *b = a tuple -/
def gStar (K : PySem.W.Frag) (i n : Nat) (t : TGs) : TG := fun v σ H Q => ∃ a xs, v = .ref a ∧ SqT K H a xs ∧ i < n ∧ n ≤ xs.length + 1 ∧ xs.length ≤ 16384 ∧
  ∀ p, H p = none → t (xs.take i ++ [.ref p] ++ (xs.drop i).drop (xs.length + 1 - n)) σ (upd H p (.lst ((xs.drop i).take (xs.length + 1 - n)))) Q
theorem vvs_take : ∀ {xs : List V} {us : List Value} (n : Nat), Vals xs us → Vals (xs.take n) (us.take n)
  | _, _, 0, _ => by simp only [List.take_zero]; exact .nil
  | [], _, n + 1, h => by cases h; simp only [List.take_nil]; exact .nil
  | x :: xs, _, n + 1, h => by
    cases h with
    | cons r rr => simp only [List.take_succ_cons]; exact .cons r (vvs_take n rr)
theorem vvs_drop : ∀ {xs : List V} {us : List Value} (n : Nat), Vals xs us → Vals (xs.drop n) (us.drop n)
  | _, _, 0, h => by simpa only [List.drop_zero] using h
  | [], _, n + 1, h => by cases h; simp only [List.drop_nil]; exact .nil
  | x :: xs, _, n + 1, h => by
    cases h with
    | cons r rr => simp only [List.drop_succ_cons]; exact vvs_drop n rr
/-- the target without its star -/
def unstar : Expr → Expr
  | .Starred t _ => t
  | e => e
theorem pg_star {X : Cx} {es : List Expr} {k i n : Nat} {pos : Pos} {t : TGs} (hc : X.calm = true) (h : PGs X (es.map unstar) t)
    (hn : (assignEach es X.env).length = n := by rfl) (hst : (assignEach es X.env).findIdx? (·.1) = some i := by rfl) (hf : (assignEach es X.env).map (·.2) = (assignEach (es.map unstar) X.env).map (·.2) := by rfl) : PG X (.Tuple es k pos) (gStar X.K i n t) := by
  refine ⟨fun pins s σ H v u Q I r hw => ?_⟩
  obtain ⟨a, xs, e1, hq, hi, hle, hz, hw⟩ := hw
  subst e1
  cases r
  obtain ⟨its, rv, hl, hsz⟩ := I.tuple hq
  have hil : its.length = xs.length := rv.length.symm
  have hlt : a ≠ s.heap.objs.size := by obtain ⟨o, ho, _⟩ := hl; exact Nat.ne_of_lt (Heap.lt_size ho)
  rw [PyProof.Rows.assign_Tuple]
  refine wpAny_bind (wpAny_standAt ?_)
  unfold unpack
  rw [hn, hst, hf]
  refine wpAny_bind (wpAny_holding ?_)
  unfold unpackItems
  refine wpAny_bind ?_
  unfold notIterableAtAll
  refine wpAny_bind (wpAny_specialOf hl.typeIs PySem.F.slot_tuple_iter.lookup ?_)
  refine wpAny_pure ?_
  simp only [Bool.false_eq_true, if_false]
  refine wpAny_bind (wpAny_holding (iter_tuple hl ?_))
  refine wpAny_bind (wpAny_holding (draw_tuple hlt i 0 _ _ ⟨_, Heap.get?_push_size _ rfl, rfl, rfl⟩ (hl.push _) (by simp; omega) fun h₁ hit₁ hs₁ => ?_))
  have hl₁ : IsTup h₁ a its.toArray := (hl.push _).extBut hs₁.extBut hlt
  rw [Nat.zero_add] at hit₁
  have hit₁' := hit₁
  obtain ⟨oi, hoi, _⟩ := hit₁'
  have hl₁' := hl₁
  obtain ⟨ol, hol, _⟩ := hl₁'
  rw [List.drop_zero]
  have hts : its.toArray.toList = its := by simp
  have hss : its.toArray.size = its.length := by simp
  have hfl : (its.toArray.toList.take i).length = i := by rw [List.length_take, hts]; omega
  rw [if_neg (show ¬ ((its.toArray.toList.take i).length < i) by rw [hfl]; omega)]
  refine wpAny_bind (wpAny_holding (PySem.W.kun_collect (s := { s with heap := h₁ }) (T := "tuple_iterator") (.inr (.inr (.inr rfl))) (Walks.tuple (A := X.A.in1) (I.ok.hd hc) s.heap.objs.size a hlt its.toArray) (fun j u st => st.1.typeIs) (k := i) (by rw [hss]; omega) ⟨hit₁, hl₁⟩ (Heap.lt_size hoi) (Heap.lt_size hol) (fun h₂ tk hk => ?_) (by rw [hss, sizeLine_eq]; omega)))
  rw [hts]
  have hrl : (its.drop i).length = its.length - i := by rw [List.length_drop]
  have hmid : (its.drop i).length - (n - 1 - i) = xs.length + 1 - n := by rw [hrl]; omega
  show wpAny _ _ (if (its.drop i).length < n - 1 - i then _ else _) _ _ _
  rw [if_neg (by rw [hrl]; omega)]
  show wpAny _ _ (newList ((its.drop i).take ((its.drop i).length - (n - 1 - i))) >>= fun d => pure (its.take i ++ [d] ++ (its.drop i).drop ((its.drop i).length - (n - 1 - i)))) _ _ _
  rw [hmid]
  have I1 : Inv X pins σ H { s with heap := h₂, toks := tk } := I.kept (t' := tk) fun b o e => hk b o (Nat.ne_of_lt (Heap.lt_size e)) (hs₁.extBut b o (Nat.ne_of_lt (Heap.lt_size e)) (Heap.get?_push_of_some _ e))
  refine wpAny_bind (wpAny_newList (wpAny_pure ?_) (by rw [List.length_take, hrl, sizeLine_eq]; omega))
  have hfr : H h₂.objs.size = none := I1.hok.fresh (Nat.le_refl _)
  have rt : Vals ((xs.drop i).take (xs.length + 1 - n)) ((its.drop i).take (xs.length + 1 - n)) := vvs_take _ (vvs_drop _ rv)
  have I2 := I1.laid (a := h₂.objs.size) (o := .lst ((xs.drop i).take (xs.length + 1 - n))) (h' := h₂.push { cls := .type "list", data := .seq ((its.drop i).take (xs.length + 1 - n)).toArray }) (t' := tk) (fun b u e => Heap.get?_push_of_some _ e) (Nat.le_refl _)
    ⟨by rw [List.length_take, sizeLine_eq]; omega, _, 0, rt, Heap.get?_push_size _ rfl⟩
  exact h.run pins _ σ _ _ _ Q I2 (((vvs_take i rv).append (.cons (show RelV (.ref h₂.objs.size) (Value.ref h₂.objs.size) from rfl) .nil)).append (vvs_drop _ (vvs_drop _ rv))) (hw _ hfr)
/-! ### a dict of the module: texts to defs; the call of a def that a local holds -/
def rTab (K : PySem.W.Frag) (c : Str) (kvs : List (Str × Addr)) : R2 := fun x y H Q => ∃ z f, x = .ref (He.ga K c) ∧ y = .str z ∧ (z, f) ∈ kvs ∧ Q (.ref f) H
theorem ix_tab {X : Cx} {c : Str} {kvs : List (Str × Addr)} (h : ∀ z f, (z, f) ∈ kvs → KDct X.K X.w (He.ga X.K c) z (.ref f)) : IxR X (rTab X.K c kvs) := by
  intro value slice pins s σ H x y v u Q I rx ry ⟨z, f, e1, e2, hm, q⟩ hs
  exact ix_kdict value slice pins s σ H x y v u Q I rx ry ⟨_, z, _, e1, e2, h z f hm, q⟩ hs
def tCallM (i : Nat) (l : List (Addr × Sp)) (t : TA) : TE := fun σ H Q => ∃ f sp, (f, sp) ∈ l ∧ σ[i]? = some (some (.ref f)) ∧ t σ H fun vs H1 => sp vs H1 Q E0
theorem pe_callM {X : Cx} {k i : Nat} {x : Str} {p pos : Pos} {e : Expr} {es : List Expr} {t : TA} {l : List (Addr × Sp)} (A : ∀ f sp, (f, sp) ∈ l → Held X.prog X.w X.K X.mg X.base k f sp) (hr : Room k X.A) (ha : PA X (e :: es) t)
    (hN : X.N[i]? = some x := by rfl) (hv : Vis X.env.scope x := by first | exact Or.inl rfl | exact Or.inr (Or.inl rfl) | exact Or.inr (Or.inr rfl)) (hdb : (x == ("__debug__" : Str)) = false := by decide) (hcd : (x == ("__classdict__" : Str)) = false := by decide)
    (he : starEach (e :: es) X.env = (false, eval e X.env) :: starEach es X.env := by rfl) (hpl : (backTo pos (starEach es X.env)).any (·.1) = false := by rfl) : PE X (.Call (.Name x p) (e :: es) [] pos) (tCallM i l t) := by
  refine ⟨fun pins s σ H Q I h => ?_⟩
  obtain ⟨f, sp, hm, hs, ht⟩ := h
  obtain ⟨fd, ps, F, hk, hb⟩ := (A f sp hm).ex
  refine (pe_callL (i := i) (f := f) (sp := sp) (dvs := []) (E := fun _ _ _ => False) F hr hN hv hk hb .nil (fun _ _ _ _ _ _ _ z => z.elim) ha hdb hcd he hpl).run pins s σ H Q I ⟨hs, ?_⟩
  have e0 : (fun (vs : List V) (H1 : Hp) => sp (vs ++ []) H1 Q (fun _ _ _ => False)) = fun vs H1 => sp vs H1 Q E0 := by
    funext vs H1
    rw [List.append_nil]; first | done | rfl
  show t σ H (fun vs H1 => sp (vs ++ []) H1 Q (fun _ _ _ => False))
  rw [e0]
  exact ht
theorem held_of {P : Program} {w : World} {K : PySem.W.Frag} {mg : Str → Option Value} {base : Heap} {j k : Nat} {x : Str} {ps : List Str} {sp : Sp} {f : Addr} (F : Fn P w K mg base j x ps sp) (g : mg x = some (.ref f)) (h : j ≤ k) : Held P w K mg base k f sp := by
  obtain ⟨f', fd, F1, g1, kp, b⟩ := F.ex
  rw [g] at g1; cases g1
  exact ⟨fd, ps, F1.mono h, kp, b⟩
theorem held_nil {P : Program} {w : World} {K : PySem.W.Frag} {mg : Str → Option Value} {base : Heap} {k : Nat} : ∀ f sp, (f, sp) ∈ ([] : List (Addr × Sp)) → Held P w K mg base k f sp := fun _ _ h => by cases h
theorem held_cons {P : Program} {w : World} {K : PySem.W.Frag} {mg : Str → Option Value} {base : Heap} {k : Nat} {f0 : Addr} {sp0 : Sp} {l : List (Addr × Sp)} (h : Held P w K mg base k f0 sp0) (t : ∀ f sp, (f, sp) ∈ l → Held P w K mg base k f sp) : ∀ f sp, (f, sp) ∈ (f0, sp0) :: l → Held P w K mg base k f sp := fun f sp hm => by
  rcases List.mem_cons.mp hm with e | e
  · obtain ⟨rfl, rfl⟩ := Prod.mk.inj e; exact h
  · exact t f sp e
section
variable {K : PySem.W.Frag} {δ : List Sl} {te ty tx tv ti : TE} {P : Po}
theorem sd_star {i j : Nat} (h : EvD K te δ fun d δ1 => ∃ x ds, d = .tup (x :: ds) ∧ ds.length < 16000 ∧ P.nx ((δ1.set i (.sh x)).set j (.sh (.lst ds)))) : SD K (tAsg te (gStar K 1 2 (gCons (gName i) (gCons (gName j) gNil)))) δ P := fun M L G0 H0 G H σ E c n r b ct =>
  h M L G0 H0 G H σ c _ fun d δ1 v G1 H1 s1 c1 r1 ⟨x, ds, e, hl, k⟩ => by
    subst e
    obtain ⟨a, xs, rfl, hs, rx⟩ := r1.tup_inv
    obtain ⟨y, ys, rfl, ry, rr⟩ := rx.cons_inv
    have hlen := rr.len
    refine ⟨a, y :: ys, rfl, sqT_mono c1.gh hs, by decide, by simp, by simp; omega, fun p hp => ?_⟩
    have e1 : ((y :: ys).drop 1).drop ((y :: ys).length + 1 - 2) = [] := by simp
    have e2 : ((y :: ys).drop 1).take ((y :: ys).length + 1 - 2) = ys := by simp
    rw [e1, e2]
    have g : Grow [] G1 H1 (upd G1 p (.lst ys)) (upd H1 p (.lst ys)) := Grow.new c1.gh hp
    have c2 := c1.grow g
    have c3 := (c2.setSh i (ry.mono g.g)).setSh j (d := .lst ds) (v := .ref p) (rep_lst upd_same (rr.mono g.g))
    exact ⟨y, [.ref p], rfl, .ref p, [], rfl, rfl, n _ _ _ _ (s1.trans g.g) c3 k⟩
theorem tab_d {c : Str} {kvs : List (Str × Addr)} {z : Str} {f : Addr} {Ψ : D → Prop} (h : (z, f) ∈ kvs) (k : Ψ (.cls f)) : R2D K (rTab K c kvs) (.cls (He.ga K c)) (.str z) Ψ := fun G H v w s rx ry =>
  RD.val s (rep_cls f) k fun Q q => ⟨z, f, rx.cls_inv, ry.str_inv, h, q⟩
theorem en_callM {A : FS} {i : Nat} {f : Addr} {l : List (Addr × Sp)} {t : TA} {Φ : OD → List Sl → Prop} (hi : δ[i]? = some (.sh (.cls f))) (hm : (f, spG K A) ∈ l) (h : EvA K t δ fun ds δ1 => A ds fun r => ∃ o, r = .new o ∧ Φ o δ1) : EvN K (tCallM i l t) δ Φ := fun M L G0 H0 G H σ c Q q => by
  obtain ⟨x, ex, v, e1, rv⟩ := c.ok i _ hi
  subst e1
  rw [rv.cls_inv] at ex
  refine ⟨f, spG K A, hm, ex, ?_⟩
  exact h M L G0 H0 G H σ c _ fun ds δ1 vs G1 H1 s1 c1 r1 h1 => by
    refine ⟨G1, ds, _, c1.gh, r1, h1, fun r v G' H' g ok ⟨o, e, p⟩ => ?_⟩
    subst e
    obtain ⟨a, rfl, na, n, w⟩ := ok
    have f := c1.fresh na
    exact q o δ1 _ _ H' (s1.trans g.g) (c1.grow g) n f.1 w f.2.2.1 f.2.2.2 p
/-! ### own dicts -/
def putDK (kvs : List (Key × D)) (k : Key) (v : D) : List (Key × D) :=
  if (kvs.any fun kv => decide (kv.1 = k)) = true then kvs.map (fun kv => if kv.1 = k then (kv.1, v) else kv) else kvs ++ [(k, v)]
theorem RepK.anyK {G : Hp} {k : Key} : ∀ {ds : List (Key × D)} {vs : List (Key × V)}, RepK K G ds vs → (vs.any fun kv => decide (kv.1 = k)) = ds.any fun kv => decide (kv.1 = k)
  | [], _, h => by rw [h.nil_inv]; rfl
  | (q, d) :: ds, _, h => by
    obtain ⟨v, r, rfl, _, h2⟩ := h.cons_inv
    simp only [List.any_cons, RepK.anyK h2]
theorem RepK.mapP {G : Hp} {k : Key} {d : D} {v : V} (hd : Rep K G d v) : ∀ {ds : List (Key × D)} {vs : List (Key × V)}, RepK K G ds vs → RepK K G (ds.map fun kv => if kv.1 = k then (kv.1, d) else kv) (vs.map fun kv => if kv.1 = k then (kv.1, v) else kv)
  | [], _, h => by rw [h.nil_inv]; exact .nil
  | (q, e) :: ds, _, h => by
    obtain ⟨w, r, rfl, h1, h2⟩ := h.cons_inv
    simp only [List.map_cons]
    by_cases c : q = k
    · rw [if_pos c, if_pos c]; exact .cons hd (RepK.mapP hd h2)
    · rw [if_neg c, if_neg c]; exact .cons h1 (RepK.mapP hd h2)
theorem RepK.snoc {G : Hp} {k : Key} {d : D} {v : V} (hd : Rep K G d v) : ∀ {ds : List (Key × D)} {vs : List (Key × V)}, RepK K G ds vs → RepK K G (ds ++ [(k, d)]) (vs ++ [(k, v)])
  | [], _, h => by rw [h.nil_inv]; exact .cons hd .nil
  | (q, e) :: ds, _, h => by
    obtain ⟨w, r, rfl, h1, h2⟩ := h.cons_inv
    exact .cons h1 (RepK.snoc hd h2)
theorem RepK.put {G : Hp} {k : Key} {d : D} {v : V} (hd : Rep K G d v) {ds : List (Key × D)} {vs : List (Key × V)} (h : RepK K G ds vs) : RepK K G (putDK ds k d) (putK vs k v) := by
  unfold putDK putK
  rw [h.anyK]
  split
  · exact h.mapP hd
  · exact h.snoc hd
theorem rep_keyD_inv {G : Hp} {k : Key} {v : V} (r : Rep K G (keyD k) v) : v = kV k := by
  cases k with
  | inl i => exact r.int_inv
  | inr z => exact r.str_inv
theorem ev_dget2O {i : Nat} {kvs0 : List (Key × D)} {Φ : D → List Sl → Prop} (hi : δ[i]? = some (.ow (.dic kvs0))) (h : EvD K ty δ fun y δ1 => EvD K tx δ1 fun z δ2 => ∃ kvs k, y = keyD k ∧ δ2[i]? = some (.ow (.dic kvs)) ∧ Φ ((valD kvs k).getD z) δ2) : EvD K (tDGet2 (tVar i) ty tx) δ Φ := fun M L G0 H0 G H σ c Q q => by
  obtain ⟨x, ex, a, e1, na, h0, xs, hx, _⟩ := c.ok i _ hi
  subst e1
  refine ⟨_, ex, a, rfl, .inl ⟨xs, .inl hx⟩, h M L G0 H0 G H σ c _ fun y δ1 v G1 H1 s1 c1 r1 h1 => h1 M L G0 H0 G1 H1 σ c1 _ fun z δ2 w G2 H2 s2 c2 r2 ⟨kvs, k, e, hd, kk⟩ => ?_⟩
  subst e
  obtain ⟨y', ey, a', e2, na', h0', ys, hy, ry⟩ := c2.ok i _ hd
  rw [ex] at ey; cases ey; cases e2
  rw [rep_keyD_inv r1]
  refine ⟨_, DGet.k hy, ?_⟩
  have hv := ry.val (k := k)
  cases e3 : valD kvs k with
  | none =>
    rw [hv.2 e3]
    rw [e3] at kk
    exact q z δ2 w G2 H2 (s1.trans s2) c2 r2 kk
  | some d =>
    obtain ⟨u, eu, ru⟩ := hv.1 d e3
    rw [eu]
    rw [e3] at kk
    exact q d δ2 u G2 H2 (s1.trans s2) c2 ru kk
theorem sd_dputO {i : Nat} (h : EvD K tv δ fun v δ1 => ∃ kvs0, δ1[i]? = some (.ow (.dic kvs0)) ∧ EvD K ty δ1 fun y δ2 => ∃ kvs k, y = keyD k ∧ δ2[i]? = some (.ow (.dic kvs)) ∧ kvs.length < sizeLine ∧ P.nx (δ2.set i (.ow (.dic (putDK kvs k v))))) : SD K (sDPut (tVar i) ty tv) δ P := fun M L G0 H0 G H σ E c n r b ct =>
  h M L G0 H0 G H σ c _ fun d δ1 v G1 H1 s1 c1 r1 ⟨kvs0, hd1, h1⟩ => by
    obtain ⟨x, ex, a, e1, na, h0, xs, hx, _⟩ := c1.ok i _ hd1
    subst e1
    refine ⟨_, ex, h1 M L G0 H0 G1 H1 σ c1 _ fun y δ2 w G2 H2 s2 c2 r2 ⟨kvs, k, e, hd, hl, kk⟩ => ?_⟩
    subst e
    obtain ⟨y', ey, a', e2, na', h0', ys, hy, ry⟩ := c2.ok i _ hd
    rw [ex] at ey; cases ey; cases e2
    rw [rep_keyD_inv r2]
    exact ⟨a, _, rfl, .inl ⟨ys, k, hy, rfl, by rw [ry.len]; exact hl, rfl⟩, n _ σ G2 _ (s1.trans s2) (c2.write (o' := .dic (putDK kvs k d)) hd ex ⟨_, upd_same, ry.put (r1.mono s2)⟩) kk⟩
/-! ### insert, is None -/
def rInsert : V → List V → Hp → VK → Prop := fun x vs H Q => ∃ (l : Addr) (xs : List V) (i : Int) (y : V), x = .ref l ∧ vs = [.int i, y] ∧ H l = some (.lst xs) ∧ xs.length < sizeLine ∧ 0 ≤ i ∧ i < 2 ^ 63 ∧ Q .non (upd H l (.lst (xs.take i.toNat ++ [y] ++ xs.drop i.toNat)))
theorem mt_insertU {X : Cx} : MtR X "list.insert" rInsert := mt_insert
theorem sd_insert {i : Nat} {ds0 : List D} (hi : δ[i]? = some (.ow (.lst ds0))) (h : EvD K ti δ fun j δ1 => EvD K te δ1 fun d δ2 => ∃ (m : Int) (ds : List D), j = .int m ∧ 0 ≤ m ∧ m < 2 ^ 63 ∧ δ2[i]? = some (.ow (.lst ds)) ∧ ds.length < sizeLine ∧ P.nx (δ2.set i (.ow (.lst (ds.take m.toNat ++ [d] ++ ds.drop m.toNat))))) :
    SD K (tDrop (tBM K "list" rInsert (tVar i) (tCons ti (tCons te tNil)))) δ P := fun M L G0 H0 G H σ E c n r b ct => by
  obtain ⟨x, ex, a, e1, na, h0, xs, hx, _⟩ := c.ok i _ hi
  subst e1
  refine ⟨_, ex, .inl ⟨rfl, _, SqL.of hx⟩, h M L G0 H0 G H σ c _ fun j δ1 vj G1 H1 s1 c1 r1 h1 => h1 M L G0 H0 G1 H1 σ c1 _ fun d δ2 v G2 H2 s2 c2 r2 ⟨m, ds, e, m0, m1, hd, hl, k⟩ => ?_⟩
  subst e
  obtain ⟨y, ey, a', e2, na', h0', ys, hy, ry⟩ := c2.ok i _ hd
  rw [ex] at ey; cases ey; cases e2
  rw [r1.int_inv]
  exact ⟨a, ys, m, v, rfl, rfl, hy, by rw [ry.len]; exact hl, m0, m1, n _ σ G2 _ (s1.trans s2) (c2.write (o' := .lst (ds.take m.toNat ++ [d] ++ ds.drop m.toNat)) hd ex ⟨_, upd_same, ((ry.take _).append (.one r2)).append (ry.drop _)⟩) k⟩
def rIsNU : R2 := fun x y H Q => y = .non ∧ Q (.bl (decide (x = .non))) H
def rNotNU : R2 := fun x y H Q => y = .non ∧ Q (.bl (!decide (x = .non))) H
theorem op_isNU {X : Cx} : OpR X (compareOp .Is) rIsNU := op_isN
theorem op_notNU {X : Cx} : OpR X (compareOp .IsNot) rNotNU := op_notN
def isNonD : D → Bool
  | .non => true
  | _ => false
theorem rep_isNon {G : Hp} {d : D} {v : V} (r : Rep K G d v) : decide (v = V.non) = isNonD d := by
  cases d with
  | non => rw [r.non_inv]; rfl
  | bl b => rw [r.bl_inv]; rfl
  | int i => rw [r.int_inv]; rfl
  | str z => rw [r.str_inv]; rfl
  | lst ds => obtain ⟨a, _, rfl, _⟩ := r.lst_inv; rfl
  | tup ds => obtain ⟨a, _, rfl, _⟩ := r.tup_inv; rfl
  | dic ds => obtain ⟨a, _, rfl, _⟩ := r.dic_inv; rfl
  | ins C fs => obtain ⟨a, _, _, rfl, _⟩ := r.ins_inv; rfl
  | scr ns => obtain ⟨a, rfl, _⟩ := r.scr_inv; rfl
  | ty n => rw [r.ty_inv]; rfl
  | cls C => rw [r.cls_inv]; rfl
  | «at» a => rw [r.at_inv]; rfl
  | dz ds => obtain ⟨a, _, _, rfl, _⟩ := r.dz_inv; rfl
theorem isN_d {d : D} {Ψ : D → Prop} (k : Ψ (.bl (isNonD d))) : R2D K rIsNU d .non Ψ := fun G H v w s rx ry =>
  RD.val s (rep_bl _) k fun Q q => ⟨ry.non_inv, by rw [rep_isNon rx]; exact q⟩
theorem notN_d {d : D} {Ψ : D → Prop} (k : Ψ (.bl (!isNonD d))) : R2D K rNotNU d .non Ψ := fun G H v w s rx ry =>
  RD.val s (rep_bl _) k fun Q q => ⟨ry.non_inv, by rw [rep_isNon rx]; exact q⟩
/-- list(d), d a dict that is read -/
theorem listK_Nd {kvs : List (Key × D)} {Ψ : OD → Prop} (k : Ψ (.lst (kvs.map fun p => keyD p.1))) : RAN K rListK [.dic kvs] Ψ := fun G H vs s r => by
  obtain ⟨v, rfl, rv⟩ := r.just
  obtain ⟨a, xs, rfl, hx, rx⟩ := rv.dic_inv
  refine RN.lst s (ds := kvs.map fun p => keyD p.1) (xs := xs.map fun kv => kV kv.1) ?_ k fun Q q => ⟨a, xs, rfl, .inl (s _ _ hx), q⟩
  have e := rx.keys
  have : (xs.map fun kv => kV kv.1) = kvs.map fun kv => kV kv.1 := by
    have := congrArg (List.map kV) e
    simpa [List.map_map, Function.comp_def] using this
  rw [this]
  exact Reps.mapD (f := fun p : Key × D => keyD p.1) (g := fun p : Key × D => kV p.1) (fun x => rep_key x.1) kvs
end
end Ms

/-! Lay30: operations and blockers as data, promises of their defs. -/
namespace Ms
open PySem PySem.Spec PyProof.Rows L2
theorem tab_ok {K : PySem.W.Frag} {w : World} {a : Addr} {kvs : List (Str × Str)} (D : ∃ es n, KDict K w a es n) (h : He.valsB K a (kvs.map fun p => (p.1, He.Dv.glo p.2)) = true) : ∀ z f, (z, f) ∈ kvs.map (fun p => (p.1, He.ga K p.2)) → KDct K w a z (.ref f) := fun z f hm => by
  obtain ⟨es, n, D⟩ := D
  obtain ⟨p, hp, e⟩ := List.mem_map.mp hm
  obtain ⟨rfl, rfl⟩ := Prod.mk.inj e
  obtain ⟨u, e1, r⟩ := He.valsB_ok h (q := (p.1, He.Dv.glo p.2)) (List.mem_map.mpr ⟨p, hp, rfl⟩)
  exact ⟨es, n, u, D.at_, D.lit, e1, r⟩
theorem stok_of {p : Str} {ms : List It2} {names : List Str} {many : Nat} (ok : RowOk p ms) (hp : p.length ≤ 40) (hq : ∀ x ∈ ms, x.2.length ≤ 40) (nd : names.Nodup) (hl : names.length = many) (hm : many ≤ 12) (pm : (namesOf ms).Perm (names ++ names)) : StOk p ms := by
  have two : ∀ x ∈ namesOf ms, (namesOf ms).count x = 2 := fun x hx => by
    rw [pm.count_eq, List.count_append]
    have hx2 : x ∈ names := by
      have := pm.mem_iff.mp hx
      simpa using this
    have := nd.count (a := x)
    rw [if_pos hx2] at this
    omega
  have hml : ms.length = 2 * many := by
    have := pm.length_eq
    unfold namesOf at this
    rw [List.length_map, List.length_append] at this
    omega
  refine ⟨ok, two, ?_, ?_⟩
  · obtain ⟨h1, h2, h3⟩ := nums_ok (namesOf ms)
    have e1 := sum_nums (numsOf ms) fun kv hk => by
      rw [h3 kv hk, castI_len, posOf_len]
      exact two _ ((h2 kv.1).mp (List.mem_map.mpr ⟨kv, hk, rfl⟩))
    have e2 := total_numsN (namesOf ms) [] 0
    simp only [List.flatMap_nil, List.length_nil, Nat.zero_add] at e2
    have e3 : (namesOf ms).length = ms.length := by unfold namesOf; rw [List.length_map]
    unfold numsOf at *
    omega
  · have := lets_le hq
    unfold rowW
    have : ms.length * 40 ≤ 24 * 40 := Nat.mul_le_mul_right _ (by omega)
    omega
theorem map_erase (l : List Str) : ∀ k : Nat, (l.map D.str).eraseIdx k = (l.eraseIdx k).map D.str := by
  induction l with
  | nil => intro k; rfl
  | cons a l ih =>
    intro k
    cases k with
    | zero => rfl
    | succ k => show D.str a :: (l.map D.str).eraseIdx k = _; rw [ih]; rfl
theorem perm_pop : ∀ {l : List Str} {i : Nat} (h : i < l.length), (l[i] :: l.eraseIdx i).Perm l
  | a :: l, 0, h => .refl _
  | a :: l, i + 1, h => by
    have h' : i < l.length := by simpa using h
    have := perm_pop (l := l) (i := i) h'
    show (l[i] :: a :: l.eraseIdx i).Perm (a :: l)
    exact (List.Perm.swap _ _ _).trans (this.cons a)
theorem log_few {n : Nat} (h : n ≤ 24) : ((n : Nat) : Int).natAbs.log2 < 9000 := by
  rw [Int.natAbs_natCast]
  have : n.log2 ≤ n := Nat.log2_le_self n
  omega
theorem EvD.to {K : PySem.W.Frag} {te : TE} {δ : List Sl} {Φ : D → List Sl → Prop} {v : D} (h : EvD K te δ fun d δ' => d = v ∧ δ' = δ) (k : Φ v δ) : EvD K te δ Φ := fun M L G0 H0 G H σ c Q q =>
  h M L G0 H0 G H σ c Q fun d δ' u G' H' s c' r ⟨e1, e2⟩ => q d δ' u G' H' s c' r (by subst e1; subst e2; exact k)
/-! ### operations -/
def opD (k : Str) (ns : List Str) : D := .tup (.str k :: ns.map .str)
inductive OpS : Str → List Str → Prop
  | loop (x : Str) : OpS "loop" [x]
  | flip (x : Str) : OpS "flip" [x]
  | swap (x y : Str) (h : x ≠ y) : OpS "swap" [x, y]
structure OpK (K : PySem.W.Frag) : Prop where
  st : StK K
  isi : PySem.W.kitOne K (.ref (stC K)) (.ref (stC K)) = some true
  kinds : ∀ G, SqT K G (He.ga K "KINDS") [.str "loop", .str "flip", .str "swap"]
def blk1 (w n : Str) : D := .tup [.str w, .str n]
def blk2 (w a b : Str) : D := .tup [.str w, .str a, .str b]
def posP (ms : List It2) (x : Str) : Nat × Nat := match posOf (namesOf ms) x with
  | [i, j] => (i, j)
  | _ => (0, 0)
def dirS (ms : List It2) (x : Str) : Bool := decide (upAt ms (posP ms x).1 = upAt ms (posP ms x).2)
def btwS (ms : List It2) (x : Str) : List Str := betw ms (posP ms x).1 (posP ms x).2
def loopB (ms : List It2) (x : Str) : List D := (if dirS ms x then [] else [blk1 "inverted" x]) ++ (btwS ms x).map (blk1 "between")
def flipB (ms : List It2) (x : Str) : List D := if dirS ms x then [blk1 "direct" x] else []
def swapB (ms : List It2) (x y : Str) : List D := ([x, y].filter fun z => !dirS ms z).map (blk1 "inverted") ++ (if (btwS ms x).count y = 1 then [] else [blk2 "uncrossed" x y]) ++ (if (posP ms y).1 < (posP ms x).1 then [blk2 "order" x y] else [])
def blockB (ms : List It2) (k : Str) : List Str → List D
  | [x] => if k = "flip" then flipB ms x else loopB ms x
  | [x, y] => swapB ms x y
  | _ => []
theorem posP_of {ms : List It2} {x : Str} {i j : Nat} (h : posOf (namesOf ms) x = [i, j]) : posP ms x = (i, j) := by unfold posP; rw [h]
theorem StOk.pos {p : Str} {ms : List It2} (h : StOk p ms) {x : Str} (hx : x ∈ namesOf ms) : posOf (namesOf ms) x = [(posP ms x).1, (posP ms x).2] ∧ (posP ms x).1 < (posP ms x).2 ∧ (posP ms x).2 < ms.length := by
  obtain ⟨i, j, e, h1, h2, _⟩ := h.places hx
  rw [posP_of e]
  exact ⟨e, h1, h2⟩
theorem betw_len (ms : List It2) (i j : Nat) : (betw ms i j).length ≤ ms.length := by
  unfold betw namesOf
  rw [List.length_drop, List.length_take, List.length_map]; omega
theorem betw_mem {ms : List It2} {i j : Nat} {x : Str} (h : x ∈ betw ms i j) : x ∈ namesOf ms := List.mem_of_mem_take (List.mem_of_mem_drop h)
theorem RowOk.names {p : Str} {ms : List It2} (h : RowOk p ms) {x : Str} (hx : x ∈ namesOf ms) : nameS x = true := by
  obtain ⟨m, hm, rfl⟩ := List.mem_map.mp hx
  exact h.nm m hm
def wordS (w : Str) : Bool := PyData.strOk w && decide (w.length ≤ 20)
theorem nice_str {z : Str} (h : PyData.strOk z = true) : nice (.str z) = true := by simp only [nice]; exact h
/-- every blocker: a word, then names -/
def BlkOk (d : D) : Prop := nice d = true ∧ dpD d ≤ 1 ∧ wD d ≤ 100
theorem blk1_ok {w n : Str} (hw : wordS w = true) (hn : nameS n = true) : BlkOk (blk1 w n) := by
  unfold wordS at hw
  rw [Bool.and_eq_true, decide_eq_true_eq] at hw
  have := (name_all hn).2.1
  refine ⟨?_, ?_, ?_⟩
  · simp only [blk1, nice, niceAll, hw.1, name_ok hn, Bool.and_true, Bool.and_self]
  · simp only [blk1, dpD, dpDs]; decide
  · simp only [blk1, wD, wDs]; omega
theorem blk2_ok {w a b : Str} (hw : wordS w = true) (ha : nameS a = true) (hb : nameS b = true) : BlkOk (blk2 w a b) := by
  unfold wordS at hw
  rw [Bool.and_eq_true, decide_eq_true_eq] at hw
  have := (name_all ha).2.1
  have := (name_all hb).2.1
  refine ⟨?_, ?_, ?_⟩
  · simp only [blk2, nice, niceAll, hw.1, name_ok ha, name_ok hb, Bool.and_true, Bool.and_self]
  · simp only [blk2, dpD, dpDs]; decide
  · simp only [blk2, wD, wDs]; omega
theorem w_inv : wordS "inverted" = true := by decide +kernel
theorem w_btw : wordS "between" = true := by decide +kernel
theorem w_dir : wordS "direct" = true := by decide +kernel
theorem w_unc : wordS "uncrossed" = true := by decide +kernel
theorem w_ord : wordS "order" = true := by decide +kernel
theorem block_ok {p : Str} {ms : List It2} (h : StOk p ms) {k : Str} {ns : List Str} (hn : ∀ x ∈ ns, x ∈ namesOf ms) : (∀ d ∈ blockB ms k ns, BlkOk d) ∧ (blockB ms k ns).length ≤ 26 := by
  have hl := h.len.2
  have nm : ∀ {x : Str}, x ∈ namesOf ms → nameS x = true := fun hx => h.row.names hx
  match ns, hn with
  | [], _ => exact ⟨fun d hd => (by cases hd), Nat.zero_le _⟩
  | [x], hn =>
    have hx := hn x List.mem_cons_self
    have hb := betw_len ms (posP ms x).1 (posP ms x).2
    show (∀ d ∈ (if k = "flip" then flipB ms x else loopB ms x), BlkOk d) ∧ (if k = "flip" then flipB ms x else loopB ms x).length ≤ 26
    split
    · unfold flipB
      split
      · exact ⟨fun d hd => (by rw [List.mem_singleton] at hd; subst hd; exact blk1_ok w_dir (nm hx)), by simp⟩
      · exact ⟨fun d hd => (by cases hd), Nat.zero_le _⟩
    · unfold loopB
      refine ⟨fun d hd => ?_, ?_⟩
      · rcases List.mem_append.mp hd with hd | hd
        · split at hd
          · cases hd
          · rw [List.mem_singleton] at hd; subst hd; exact blk1_ok w_inv (nm hx)
        · obtain ⟨z, hz, rfl⟩ := List.mem_map.mp hd
          exact blk1_ok w_btw (nm (betw_mem hz))
      · rw [List.length_append, List.length_map]
        unfold btwS
        split <;> simp <;> omega
  | [x, y], hn =>
    have hx := hn x List.mem_cons_self
    have hy := hn y (List.mem_cons_of_mem _ List.mem_cons_self)
    show (∀ d ∈ swapB ms x y, BlkOk d) ∧ (swapB ms x y).length ≤ 26
    unfold swapB
    refine ⟨fun d hd => ?_, ?_⟩
    · rcases List.mem_append.mp hd with hd | hd
      · rcases List.mem_append.mp hd with hd | hd
        · obtain ⟨z, hz, rfl⟩ := List.mem_map.mp hd
          have hz := (List.mem_filter.mp hz).1
          simp only [List.mem_cons, List.not_mem_nil, or_false] at hz
          rcases hz with rfl | rfl
          · exact blk1_ok w_inv (nm hx)
          · exact blk1_ok w_inv (nm hy)
        · split at hd
          · cases hd
          · rw [List.mem_singleton] at hd; subst hd; exact blk2_ok w_unc (nm hx) (nm hy)
      · split at hd
        · rw [List.mem_singleton] at hd; subst hd; exact blk2_ok w_ord (nm hx) (nm hy)
        · cases hd
    · rw [List.length_append, List.length_append, List.length_map]
      have := List.length_filter_le (fun z => !dirS ms z) [x, y]
      have e : [x, y].length = 2 := rfl
      split <;> split <;> simp <;> simp at this <;> omega
  | _ :: _ :: _ :: _, _ => exact ⟨fun d hd => (by cases hd), Nat.zero_le _⟩
theorem blks_nice {ds : List D} (h : ∀ d ∈ ds, BlkOk d) : nice (.lst ds) = true ∧ dpD (.lst ds) ≤ 60 := by
  refine ⟨?_, ?_⟩
  · simp only [nice]; exact niceAll_iff.mpr fun d hd => (h d hd).1
  · have : dpDs ds ≤ 1 := dpDs_le.mpr fun d hd => (h d hd).2.1
    simp only [dpD]; omega
theorem blks_py {ds : List D} (h : ∀ d ∈ ds, BlkOk d) : okPy (.lst ds) = true := nice_ok (blks_nice h).1 (blks_nice h).2
/-! ### promises -/
def A_is_op (K : PySem.W.Frag) : FS := fun ds post => ∃ k ns, ds = [opD k ns] ∧ OpS k ns ∧ (∀ x ∈ ns, nameS x = true) ∧ OpK K ∧ post (.val (.bl true))
def A_require_op (K : PySem.W.Frag) : FS := fun ds post => ∃ k ns, ds = [opD k ns] ∧ OpS k ns ∧ (∀ x ∈ ns, nameS x = true) ∧ OpK K ∧ post (.val .non)
def A_require_strip (K : PySem.W.Frag) : FS := fun ds post => ∃ p ms, ds = [stripD K p ms] ∧ OpK K ∧ post (.val .non)
def A_loop_blockers (K : PySem.W.Frag) : FS := fun ds post => ∃ p ms x, ds = [stripD K p ms, .lst [.str x]] ∧ StK K ∧ StOk p ms ∧ x ∈ namesOf ms ∧ post (.new (.lst (loopB ms x)))
def A_flip_blockers (K : PySem.W.Frag) : FS := fun ds post => ∃ p ms x, ds = [stripD K p ms, .lst [.str x]] ∧ StK K ∧ StOk p ms ∧ x ∈ namesOf ms ∧ post (.new (.lst (flipB ms x)))
def A_swap_blockers (K : PySem.W.Frag) : FS := fun ds post => ∃ p ms x y, ds = [stripD K p ms, .lst [.str x, .str y]] ∧ x ≠ y ∧ StK K ∧ StOk p ms ∧ x ∈ namesOf ms ∧ y ∈ namesOf ms ∧ post (.new (.lst (swapB ms x y)))
def A_all_blockers (K : PySem.W.Frag) : FS := fun ds post => ∃ p ms k ns, ds = [stripD K p ms, opD k ns] ∧ OpS k ns ∧ StK K ∧ StOk p ms ∧ (∀ x ∈ ns, x ∈ namesOf ms) ∧ post (.new (.lst (blockB ms k ns)))
def A_require_known (K : PySem.W.Frag) : FS := fun ds post => ∃ p ms k ns, ds = [stripD K p ms, opD k ns] ∧ OpS k ns ∧ OpK K ∧ StOk p ms ∧ (∀ x ∈ ns, x ∈ namesOf ms) ∧ post (.val .non)
def A_blocker (K : PySem.W.Frag) : FS := fun ds post => ∃ p ms k ns, ds = [stripD K p ms, opD k ns] ∧ OpS k ns ∧ OpK K ∧ StOk p ms ∧ (∀ x ∈ ns, x ∈ namesOf ms) ∧ post (.val ((blockB ms k ns).headD .non))
def A_is_blocker (K : PySem.W.Frag) : FS := fun ds post => ∃ p ms k ns v, ds = [stripD K p ms, opD k ns, v] ∧ OpS k ns ∧ OpK K ∧ StOk p ms ∧ (∀ x ∈ ns, x ∈ namesOf ms) ∧ OkD K v ∧ (isTup v = true → okPy v = true) ∧ post (.val (.bl (isTup v && inP v (blockB ms k ns))))
end Ms
namespace Ms
open PySem
/-- a world whose word on one row is known -/
def tellW (w : World) (row : String) (b : Bool) : World := { w with params := { w.params with followText := fun s => match decide (s = row) with | true => b | false => w.params.followText s } }
theorem tellW_eq (w : World) (row : String) : w = tellW w row (w.params.followText row) := by
  obtain ⟨dr, pr⟩ := w
  unfold tellW
  congr 1
  have : pr.followText = fun s => match decide (s = row) with | true => pr.followText row | false => pr.followText s := by
    funext s
    by_cases h : s = row
    · subst h; simp
    · simp [h]
  cases pr
  simp only at this ⊢
  congr 1
theorem by_tell {P : World → Prop} (row : String) (h : ∀ w, P (tellW w row true) ∧ P (tellW w row false)) (w : World) : P w := by
  rw [tellW_eq w row]
  cases w.params.followText row
  · exact (h w).2
  · exact (h w).1
end Ms

/-! Lay31: sorted of alike data, list.index of texts, range with a step, the keys of a locked dict. -/
namespace Ms
open PySem PySem.Spec PyProof.Rows L2
/-! ### sorted -/
def rSortedU (K : PySem.W.Frag) : List V → Hp → VK → Prop := fun vs H Q => ∃ (a : Addr) (bs : List (V × PyData)), vs = [.ref a] ∧ SqL K H a (bs.map Prod.fst) ∧ (∀ b ∈ bs, Dp K H b.1 b.2) ∧ PySem.W.AllAlike (bs.map Prod.snd) ∧ PySem.W.Sortable (bs.map Prod.snd) ∧ (∀ b ∈ bs, b.2.depth ≤ 60) ∧
  ∀ p, H p = none → Q (.ref p) (upd H p (.lst ((bs.mergeSort (PySem.W.dataLe false Prod.snd)).map Prod.fst)))
theorem each_vals : ∀ {bs : List (V × PyData)} {us : List Value}, Vals (bs.map Prod.fst) us → PySem.W.EachIs (fun u b => RelV b.1 u) us bs
  | [], _, h => by cases h; exact .nil
  | b :: bs, _, h => by
    cases h with
    | cons h1 t => exact .cons h1 (each_vals t)
theorem vals_each : ∀ {bs : List (V × PyData)} {us : List Value}, PySem.W.EachIs (fun u (b : V × PyData) => RelV b.1 u) us bs → Vals (bs.map Prod.fst) us
  | [], _, h => by cases h; exact .nil
  | b :: bs, _, h => by
    cases h with
    | cons h1 t => exact .cons h1 (vals_each t)
theorem each_reads {X : Cx} {pins : List (Addr × Obj)} {s : Shared} {σ : L2.St} {H : Hp} (I : L2.Inv X pins σ H s) : ∀ {bs : List (V × PyData)} {us : List Value}, (∀ b ∈ bs, Dp X.K H b.1 b.2) → PySem.W.EachIs (fun u (b : V × PyData) => RelV b.1 u) us bs → PySem.W.EachIs (fun v (b : V × PyData) => ∃ as, Reads s.heap v b.2 as) us bs
  | [], _, _, h => by cases h; exact .nil
  | b :: bs, _, dp, h => by
    cases h with
    | cons h1 t => exact .cons (Dp.reads I _ _ _ (dp b List.mem_cons_self) h1) (each_reads I (fun c hc => dp c (List.mem_cons_of_mem _ hc)) t)
theorem call_sortedU {X : Cx} (hu : X.A.units + 64 < cLine) : CallR X (.builtin "sorted") (rSortedU X.K) := by
  intro pins s σ H vs us Q I r h
  obtain ⟨a, bs, rfl, hs, dp, hal, hk, hdep, q⟩ := h
  obtain ⟨its, rv, hl, hz⟩ := I.list hs
  rw [Vals.ref1 r]
  have e := each_vals rv
  have hbl : bs.length ≤ sizeLine := by rw [List.length_map] at hz; exact hz
  refine PySem.W.sorted_data (R := fun u (b : V × PyData) => RelV b.1 u) (enc := Prod.snd) hl.isList e (each_reads I dp e) hal hk hbl (fun b hb => by have := hdep b hb; omega) fun out hlen eo => ?_
  obtain ⟨ep, he'⟩ := PyProof.Rows.sortedAll_at s.heap its out.toArray
  have hlen2 : ((bs.mergeSort (PySem.W.dataLe false Prod.snd)).map Prod.fst).length ≤ sizeLine := by rw [List.length_map, List.length_mergeSort]; exact hbl
  exact ⟨.ref _, upd H (s.heap.objs.size + 1) (.lst ((bs.mergeSort (PySem.W.dataLe false Prod.snd)).map Prod.fst)), I.laid (t' := s.toks) (fun _ _ => PyProof.Rows.sortedAll_old) (Nat.le_succ _) ⟨hlen2, out, ep, vals_each eo, he'⟩, rfl, q _ (I.hok.fresh (Nat.le_succ _))⟩
def leD (a b : D) : Bool := PySem.W.dataLe false D.py a b
def sortD (ds : List D) : List D := ds.mergeSort leD
section
variable {K : PySem.W.Frag} {G H : Hp}
theorem reps_pairs : ∀ {cs : List (V × D)}, (∀ c ∈ cs, Rep K G c.2 c.1) → Reps K G (cs.map Prod.snd) (cs.map Prod.fst)
  | [], _ => .nil
  | c :: cs, h => .cons (h c List.mem_cons_self) (reps_pairs fun d hd => h d (List.mem_cons_of_mem _ hd))
theorem pairs_reps : ∀ {ds : List D} {xs : List V}, Reps K G ds xs → ∃ cs : List (V × D), cs.map Prod.snd = ds ∧ cs.map Prod.fst = xs ∧ ∀ c ∈ cs, Rep K G c.2 c.1
  | [], _, h => ⟨[], rfl, h.nil_inv.symm, fun c hc => by cases hc⟩
  | d :: ds, _, h => by
    obtain ⟨v, r, rfl, h1, h2⟩ := h.cons_inv
    obtain ⟨cs, e1, e2, h3⟩ := pairs_reps h2
    refine ⟨(v, d) :: cs, by simp [e1], by simp [e2], fun c hc => ?_⟩
    rcases List.mem_cons.mp hc with rfl | hc
    · exact h1
    · exact h3 c hc
theorem sorted_N {ds : List D} {Ψ : OD → Prop} (ho : ∀ d ∈ ds, d.isPy = true ∧ d.py.depth ≤ 60) (hal : PySem.W.AllAlike (ds.map D.py)) (hk : PySem.W.Sortable (ds.map D.py)) (k : Ψ (.lst (sortD ds))) : RAN K (rSortedU K) [.lst ds] Ψ := fun G H vs s r => by
  obtain ⟨v, rfl, rv⟩ := r.just
  obtain ⟨p, xs, rfl, hp, r1⟩ := rv.lst_inv
  obtain ⟨cs, rfl, rfl, hc⟩ := pairs_reps r1
  have e1 : (cs.map fun c => (c.1, c.2.py)).mergeSort (PySem.W.dataLe false Prod.snd) = (cs.mergeSort fun a b => leD a.2 b.2).map fun c => (c.1, c.2.py) := (List.map_mergeSort (f := fun c : V × D => (c.1, c.2.py)) (r := fun a b => leD a.2 b.2) (s := PySem.W.dataLe false Prod.snd) fun a _ b _ => rfl).symm
  have e2 : (cs.mergeSort fun a b => leD a.2 b.2).map Prod.snd = sortD (cs.map Prod.snd) := List.map_mergeSort (f := Prod.snd) (r := fun a b => leD a.2 b.2) (s := leD) fun a _ b _ => rfl
  have hr : Reps K G (sortD (cs.map Prod.snd)) (((cs.map fun c => (c.1, c.2.py)).mergeSort (PySem.W.dataLe false Prod.snd)).map Prod.fst) := by
    rw [e1, ← e2, List.map_map]
    exact reps_pairs fun c hm => hc c ((List.mergeSort_perm cs _).mem_iff.mp hm)
  refine RN.lst s hr k fun Q q => ⟨p, cs.map fun c => (c.1, c.2.py), rfl, ?_, fun b hb => ?_, ?_, ?_, fun b hb => ?_, q⟩
  · rw [List.map_map]; exact SqL.of (s _ _ hp)
  · obtain ⟨c, hm, rfl⟩ := List.mem_map.mp hb
    exact dp_of s (ho c.2 (List.mem_map.mpr ⟨c, hm, rfl⟩)).1 (hc c hm)
  · rw [List.map_map]; rw [List.map_map] at hal; exact hal
  · rw [List.map_map]; rw [List.map_map] at hk; exact hk
  · obtain ⟨c, hm, rfl⟩ := List.mem_map.mp hb
    exact (ho c.2 (List.mem_map.mpr ⟨c, hm, rfl⟩)).2
theorem sorted_d {ds : List D} {Ψ : D → Prop} (ho : ∀ d ∈ ds, d.isPy = true ∧ d.py.depth ≤ 60) (hal : PySem.W.AllAlike (ds.map D.py)) (hk : PySem.W.Sortable (ds.map D.py)) (k : Ψ (.lst (sortD ds))) : RAD K (rSortedU K) [.lst ds] Ψ := RAN.d (sorted_N ho hal hk k)
end
theorem sortD_perm (ds : List D) : (sortD ds).Perm ds := List.mergeSort_perm ds _
/-! texts, and tuples of texts -/
def tupS (zs : List Str) : D := .tup (zs.map .str)
theorem pys_str : ∀ zs : List Str, pys (zs.map .str) = zs.map .str
  | [] => by simp only [List.map_nil, pys]
  | z :: zs => by simp only [List.map_cons, pys, D.py]; rw [pys_str zs]
theorem arePy_str : ∀ zs : List Str, arePy (zs.map .str) = true
  | [] => by simp only [List.map_nil, arePy]
  | z :: zs => by simp only [List.map_cons, arePy, D.isPy]; rw [arePy_str zs]; rfl
theorem tupS_py (zs : List Str) : (tupS zs).py = .tuple (zs.map .str) := by unfold tupS; simp only [D.py]; rw [pys_str]
theorem depthAll_str : ∀ zs : List Str, PyData.depthAll (zs.map .str) = 0
  | [] => by simp [PyData.depthAll]
  | z :: zs => by simp [PyData.depthAll, PyData.depth, depthAll_str zs]
theorem tupS_ok (zs : List Str) : (tupS zs).isPy = true ∧ (tupS zs).py.depth ≤ 60 := by
  refine ⟨?_, ?_⟩
  · unfold tupS; simp only [D.isPy]; exact arePy_str zs
  · rw [tupS_py]; simp [PyData.depth, depthAll_str]
theorem alikeAll_str : ∀ a b : List Str, PySem.W.alikeAll (a.map .str) (b.map .str) = true
  | [], _ => by simp [PySem.W.alikeAll]
  | _ :: _, [] => by simp [PySem.W.alikeAll]
  | x :: a, y :: b => by simp [PySem.W.alikeAll, PySem.W.alike, alikeAll_str a b]
theorem alike_tups (l : List (List Str)) : PySem.W.AllAlike ((l.map tupS).map D.py) := by
  intro d hd d' hd'
  simp only [List.map_map, List.mem_map, Function.comp] at hd hd'
  obtain ⟨a, _, rfl⟩ := hd
  obtain ⟨b, _, rfl⟩ := hd'
  rw [tupS_py, tupS_py]
  simp [PySem.W.alike, alikeAll_str]
theorem sortable_tups (l : List (List Str)) (h : ∀ z ∈ l, z ≠ []) : PySem.W.Sortable ((l.map tupS).map D.py) := .inl fun d hd => by
  simp only [List.map_map, List.mem_map, Function.comp] at hd
  obtain ⟨a, ha, rfl⟩ := hd
  rw [tupS_py]
  cases a with
  | nil => exact absurd rfl (h _ ha)
  | cons x r => exact ⟨_, _, rfl⟩
theorem alike_strs (l : List Str) : PySem.W.AllAlike ((l.map D.str).map D.py) := by
  intro d hd d' hd'
  simp only [List.map_map, List.mem_map, Function.comp] at hd hd'
  obtain ⟨a, _, rfl⟩ := hd
  obtain ⟨b, _, rfl⟩ := hd'
  simp [D.py, PySem.W.alike]
theorem sortable_strs (l : List Str) : PySem.W.Sortable ((l.map D.str).map D.py) := .inr fun d hd => by
  simp only [List.map_map, List.mem_map, Function.comp] at hd
  obtain ⟨a, ha, rfl⟩ := hd
  simp [D.py]
theorem strs_ok (l : List Str) : ∀ d ∈ l.map D.str, d.isPy = true ∧ d.py.depth ≤ 60 := fun d hd => by
  obtain ⟨z, _, rfl⟩ := List.mem_map.mp hd
  simp [D.isPy, D.py, PyData.depth]
/-- the order of texts -/
def leS (a b : Str) : Bool := leD (.str a) (.str b)
def sortS (l : List Str) : List Str := l.mergeSort leS
theorem sortD_strs (l : List Str) : sortD (l.map .str) = (sortS l).map .str := (List.map_mergeSort (f := D.str) (r := leS) (s := leD) fun _ _ _ _ => rfl).symm
theorem sortS_perm (l : List Str) : (sortS l).Perm l := List.mergeSort_perm l _
theorem leD_trans (x y z : D) (h1 : leD x y = true) (h2 : leD y z = true) : leD x z = true := (PySem.W.sortLe_total (listOrd itemOrd) false fun d : D => PySem.W.keyToks d.py).trans x y z h1 h2
theorem leD_total (x y : D) : (leD x y || leD y x) = true := Bool.or_eq_true_iff.mpr ((PySem.W.sortLe_total (listOrd itemOrd) false fun d : D => PySem.W.keyToks d.py).total x y)
theorem leD_anti {x y : D} (h1 : leD x y = true) (h2 : leD y x = true) : PySem.W.keyToks x.py = PySem.W.keyToks y.py := by
  have e1 : lexLt itemOrd (PySem.W.keyToks y.py) (PySem.W.keyToks x.py) = false := by
    have : (!lexLt itemOrd (PySem.W.keyToks y.py) (PySem.W.keyToks x.py)) = true := h1
    simpa using this
  have e2 : lexLt itemOrd (PySem.W.keyToks x.py) (PySem.W.keyToks y.py) = false := by
    have : (!lexLt itemOrd (PySem.W.keyToks x.py) (PySem.W.keyToks y.py)) = true := h2
    simpa using this
  exact (lex_total (O := itemOrd) _ _ e2 e1)
theorem toks_strs : ∀ a b : List Str, PySem.W.keyToksAll (a.map .str) = PySem.W.keyToksAll (b.map .str) → a = b
  | [], [], _ => rfl
  | [], y :: b, h => by simp [PySem.W.keyToksAll] at h
  | x :: a, [], h => by simp [PySem.W.keyToksAll] at h
  | x :: a, y :: b, h => by
    simp only [List.map_cons, PySem.W.keyToksAll, PySem.W.keyToks, List.cons_append, List.nil_append, List.cons.injEq, Sum.inr.injEq, true_and] at h
    rw [PySem.W.str_of_cps h.1, toks_strs a b h.2]
theorem tupS_anti {a b : List Str} (h1 : leD (tupS a) (tupS b) = true) (h2 : leD (tupS b) (tupS a) = true) : a = b := by
  have h := leD_anti h1 h2
  rw [tupS_py, tupS_py] at h
  simp only [PySem.W.keyToks] at h
  exact toks_strs a b h
theorem sortD_tups_perm {a b : List (List Str)} (h : a.Perm b) : sortD (a.map tupS) = sortD (b.map tupS) := by
  have e : ∀ l : List (List Str), sortD (l.map tupS) = (l.mergeSort fun x y => leD (tupS x) (tupS y)).map tupS := fun l => (List.map_mergeSort (f := tupS) (r := fun x y => leD (tupS x) (tupS y)) (s := leD) fun _ _ _ _ => rfl).symm
  rw [e, e]
  congr 1
  exact PySem.W.Srt.the_of_perm (fun x y => leD (tupS x) (tupS y)) (fun x y z => leD_trans _ _ _) (fun x y => leD_total _ _) (fun x y h1 h2 => tupS_anti h1 h2) ((List.mergeSort_perm a _).trans h) (List.pairwise_mergeSort (le := fun x y => leD (tupS x) (tupS y)) (fun x y z => leD_trans (tupS x) (tupS y) (tupS z)) (fun x y => leD_total (tupS x) (tupS y)) a)
/-! ### list.index of texts -/
theorem mt_indexU {X : Cx} : MtR X "list.index" (L2.rIndex X.K) := mt_index
theorem index_l {K : PySem.W.Frag} {Ψ : D → Prop} {ys : List Str} {z : Str} {j : Nat} (hj : ys[j]? = some z) (hn : ∀ m, m < j → ys[m]? ≠ some z) (k : Ψ (.int (j : Nat))) : RMD K "list" (L2.rIndex K) (.lst (ys.map .str)) [.str z] Ψ := fun G H v vs s rx r => by
  obtain ⟨w, rfl, rw⟩ := r.just
  obtain ⟨p, xs, rfl, hp, r1⟩ := rx.lst_inv
  cases rw.str_inv
  have e : xs = ys.map V.str ∧ xs.all flatV = true := by
    have := r1.flats (by simp [D.isFlat])
    refine ⟨by rw [this.1, List.map_map]; rfl, this.2⟩
  refine RD.val s (rep_int _) k fun Q q => ⟨p, xs, .str z, j, .str z, rfl, rfl, SqL.of (s _ _ hp), rfl, e.2, by rw [e.1, List.getElem?_map, hj]; rfl, by simp [eqV], fun m z' hm hz => ?_, q⟩
  rw [e.1, List.getElem?_map] at hz
  cases hy : ys[m]? with
  | none => rw [hy] at hz; cases hz
  | some y =>
    rw [hy] at hz
    cases hz
    have : y ≠ z := fun e => hn m hm (by rw [hy, e])
    simp [eqV, this]
/-- where a text stands first -/
theorem index_at {ys : List Str} {z : Str} (h : z ∈ ys) : ∃ j, ys[j]? = some z ∧ (∀ m, m < j → ys[m]? ≠ some z) ∧ j < ys.length := by
  induction ys with
  | nil => cases h
  | cons y r ih =>
    by_cases e : y = z
    · exact ⟨0, by simp [e], fun m hm => by omega, by simp⟩
    · rcases List.mem_cons.mp h with h | h
      · exact absurd h.symm e
      · obtain ⟨j, h1, h2, h3⟩ := ih h
        refine ⟨j + 1, by simpa using h1, fun m hm => ?_, by simpa using h3⟩
        cases m with
        | zero => simpa using e
        | succ m => simpa using h2 m (by omega)
/-! ### range(i, j, c), c positive -/
def rangeC (i : Int) (c : Int) (n : Nat) : List D := (List.range n).map fun k => .int (i + (k : Nat) * c)
theorem rangeC_len (i c : Int) (n : Nat) : (rangeC i c n).length = n := by simp [rangeC]
theorem rangeC_get (i c : Int) (n k : Nat) (h : k < n) : (rangeC i c n)[k]? = some (.int (i + (k : Nat) * c)) := by simp [rangeC, h]
theorem ei_range3C {K : PySem.W.Frag} {δ : List Sl} {t : TA} {Φ : List D → List Sl → Prop} (h : EvA K t δ fun ds δ1 => ∃ (i j c : Int) (n : Nat), ds = [.int i, .int j, .int c] ∧ RgC i j c n ∧ Φ (rangeC i c n) δ1) : EvI K (iRng3 t) δ Φ := fun M L G0 H0 G H σ c R q =>
  h M L G0 H0 G H σ c _ fun ds δ1 vs G1 H1 s1 c1 r1 ⟨i, j, c, n, e, hj, k⟩ => by
    subst e
    obtain ⟨v, r', rfl, h1, h2⟩ := r1.cons_inv
    obtain ⟨w, r2, rfl, h3, h4⟩ := h2.cons_inv
    obtain ⟨z, r3, rfl, h5, h6⟩ := h4.cons_inv
    rw [h6.nil_inv, h1.int_inv, h3.int_inv, h5.int_inv]
    refine ⟨i, j, c, n, rfl, hj, q _ δ1 _ G1 H1 s1 c1 ⟨fun m H' hm s => ?_, fun H' s => ?_, fun m H' x H2 G2 hm s s2 y => ?_⟩ k⟩
    · rw [rangeC_len] at hm; exact hm
    · rw [rangeC_len]; exact Nat.le_refl _
    · rw [rangeC_len] at hm
      obtain ⟨e, ex⟩ := y
      subst e ex
      exact ⟨_, G2, rangeC_get _ _ _ _ hm, .refl s2, rep_int _⟩
/-! ### for k in d, d locked -/
theorem ei_keys {K : PySem.W.Frag} {δ : List Sl} {tl : TE} {Φ : List D → List Sl → Prop} (h : EvD K tl δ fun d δ1 => ∃ kvs, d = .dz kvs ∧ Φ (kvs.map fun p => keyD p.1) δ1) : EvI K (iKeys tl) δ Φ := fun M L G0 H0 G H σ c R q =>
  h M L G0 H0 G H σ c _ fun d δ1 v G1 H1 s1 c1 r1 ⟨kvs, e, k⟩ => by
    subst e
    obtain ⟨a, od, xs, rfl, hd, rx⟩ := r1.dz_inv
    have hl : xs.length = (kvs.map fun p => keyD p.1).length := by rw [List.length_map, rx.len]
    refine ⟨a, od, rfl, .inl ⟨xs, c1.gh _ _ hd, q _ δ1 _ G1 H1 s1 c1 ⟨fun i H' hi s => ⟨s _ _ hd, by rw [hl]; exact hi⟩, fun H' s => ⟨s _ _ hd, by rw [hl]; exact Nat.le_refl _⟩, fun i H' x H2 G2 hi s s2 y => ?_⟩ k⟩⟩
    obtain ⟨e, ky, w, hk, ex⟩ := y
    subst e ex
    obtain ⟨d, hd', rd⟩ := rx.getV hk
    exact ⟨keyD ky, G2, by rw [List.getElem?_map, hd']; rfl, .refl s2, rep_key ky⟩
/-! ### a < b < c < d as a test -/
def tCh3 (r1 r2 r3 : R2) (ta tb tc td : TE) : TT := fun σ H Q => ta σ H fun x H1 => tb σ H1 fun y H2 => r1 x y H2 fun z H3 => ∃ k, z = .bl k ∧
  (if k = true then tc σ H3 fun w H4 => r2 y w H4 fun z2 H5 => ∃ k2, z2 = .bl k2 ∧ (if k2 = true then td σ H5 fun u H6 => r3 w u H6 fun z3 H7 => ∃ k3, z3 = .bl k3 ∧ Q k3 H7 else Q false H5) else Q false H3)
theorem pt_ch3 {X : Cx} {a b c d : Expr} {ta tb tc td : TE} {pos : Pos} {o1 o2 o3 : CmpOp} {r1 r2 r3 : R2} (h1 : OpR X (compareOp o1) r1) (h2 : OpR X (compareOp o2) r2) (h3 : OpR X (compareOp o3) r3) (ha : PE X a ta) (hb : PE X b tb) (hc : PE X c tc) (hd : PE X d td)
    (hm : lastMarks [o1, o2, o3] [b, c, d] = false := by with_unfolding_all rfl) : PT X (.Compare a [o1, o2, o3] [b, c, d] pos) (tCh3 r1 r2 r3 ta tb tc td) := by
  refine ⟨fun pins s σ H Q I h => ?_⟩
  refine isTrue_chain (thn (ha.run pins s σ H _ I h) fun v s1 ⟨x, H1, I1, rx, q1⟩ => test_link (thn (hb.run pins s1 σ H1 _ I1 q1) fun u s2 ⟨y, H2, I2, ry, q2⟩ =>
    thn (h1 pins s2 σ H2 x y v u _ I2 rx ry q2) fun d3 s3 ⟨z, H3, I3, r3, k, e, q3⟩ => ?_)) hm
  subst e
  cases r3
  refine wpAny_truthy_bool ?_
  cases k with
  | false => exact ite_ff ⟨H3, I3, q3⟩
  | true =>
    refine ite_tt (test_link (thn (hc.run pins s3 σ H3 _ I3 q3) fun w' s4 ⟨z', H4, I4, r4, q4⟩ => thn (h2 pins s4 σ H4 y z' u w' _ I4 ry r4 q4) fun d' s5 ⟨z2, H5, I5, r5, k2, e2, q5⟩ => ?_))
    subst e2
    cases r5
    refine wpAny_truthy_bool ?_
    cases k2 with
    | false => exact ite_ff ⟨H5, I5, q5⟩
    | true =>
      refine ite_tt (test_last (thn (hd.run pins s5 σ H5 _ I5 q5) fun w2 s6 ⟨z6, H6, I6, r6, q6⟩ => thn (h3 pins s6 σ H6 z' z6 w' w2 _ I6 r4 r6 q6) fun d7 s7 ⟨z7, H7, I7, r7, k7, e7, q7⟩ => ?_))
      subst e7
      cases r7
      exact wpAny_truthy_bool ⟨H7, I7, q7⟩
theorem et_ch3 {K : PySem.W.Frag} {δ : List Sl} {ta tb tc td : TE} {r1 r2 r3 : R2} {Φ : Bool → List Sl → Prop} (h : EvD K ta δ fun x δ1 => EvD K tb δ1 fun y δ2 => R2D K r1 x y fun z => ∃ b, z = .bl b ∧ if b = true then EvD K tc δ2 (fun w δ3 => R2D K r2 y w fun z => ∃ b, z = .bl b ∧ if b = true then EvD K td δ3 (fun u δ4 => R2D K r3 w u fun z => ∃ b, z = .bl b ∧ Φ b δ4) else Φ false δ3) else Φ false δ2) : EvT K (tCh3 r1 r2 r3 ta tb tc td) δ Φ := fun M L G0 H0 G H σ c Q q =>
  h M L G0 H0 G H σ c _ fun x δ1 v G1 H1 s1 c1 rx h1 => h1 M L G0 H0 G1 H1 σ c1 _ fun y δ2 w G2 H2 s2 c2 ry h2 =>
    h2 G2 H2 v w c2.gh (rx.mono s2) ry _ fun z u G3 H3 g3 rz ⟨b, e, hz⟩ => ⟨b, by subst e; exact rz.bl_inv, by
      have s3 := (s1.trans s2).trans g3.g
      cases b with
      | false => exact iteF (q _ δ2 G3 H3 s3 (c2.grow g3) hz)
      | true =>
        refine iteT ((show EvD K tc δ2 _ from hz) M L G0 H0 G3 H3 σ (c2.grow g3) _ fun w' δ3 v' G4 H4 s4 c4 r4 h4 => h4 G4 H4 w v' c4.gh ((ry.mono g3.g).mono s4) r4 _ fun z u G5 H5 g5 rz ⟨b2, e2, hz2⟩ => ⟨b2, by subst e2; exact rz.bl_inv, ?_⟩)
        have s5 := (s3.trans s4).trans g5.g
        cases b2 with
        | false => exact iteF (q _ δ3 G5 H5 s5 (c4.grow g5) hz2)
        | true =>
          exact iteT ((show EvD K td δ3 _ from hz2) M L G0 H0 G5 H5 σ (c4.grow g5) _ fun w6 δ6 v6 G6 H6 s6 c6 r6 h6 => h6 G6 H6 v' v6 c6.gh ((r4.mono g5.g).mono s6) r6 _ fun z u G7 H7 g7 rz ⟨b3, e3, hz3⟩ => ⟨b3, by subst e3; exact rz.bl_inv, q b3 δ6 G7 H7 ((s5.trans s6).trans g7.g) (c6.grow g7) hz3⟩)⟩
end Ms

/-! Lay32: which operations are applicable, from places and orientations; the flipped strip. -/
namespace Ms
open PySem PySem.Spec PyProof.Rows L2
def nmsOf (ms : List It2) : List Str := (numsOf ms).map Prod.fst
theorem keys_nms (ms : List It2) : ((numsD (numsOf ms)).map fun p => keyD p.1) = (nmsOf ms).map D.str := by
  unfold nmsOf numsD
  rw [List.map_map, List.map_map]; rfl
theorem nms_mem {ms : List It2} {x : Str} : x ∈ nmsOf ms ↔ x ∈ namesOf ms := (nums_ok (namesOf ms)).2.1 x
theorem nms_nodup (ms : List It2) : (nmsOf ms).Nodup := (nums_ok (namesOf ms)).1
theorem StOk.nms {p : Str} {ms : List It2} (h : StOk p ms) : (nmsOf ms).length ≤ 12 := by unfold nmsOf; rw [List.length_map]; exact h.few
/-- a strip, from its counts -/
theorem stok_two {p : Str} {ms : List It2} (ok : RowOk p ms) (two : ∀ x ∈ namesOf ms, (namesOf ms).count x = 2) (hl : ms.length ≤ 25) (hw : rowW p ms ≤ 100000) : StOk p ms := by
  refine ⟨ok, two, ?_, hw⟩
  obtain ⟨h1, h2, h3⟩ := nums_ok (namesOf ms)
  have e1 := sum_nums (numsOf ms) fun kv hk => by
    rw [h3 kv hk, castI_len, posOf_len]
    exact two _ ((h2 kv.1).mp (List.mem_map.mpr ⟨kv, hk, rfl⟩))
  have e2 := total_numsN (namesOf ms) [] 0
  simp only [List.flatMap_nil, List.length_nil, Nat.zero_add] at e2
  have e3 : (namesOf ms).length = ms.length := by unfold namesOf; rw [List.length_map]
  unfold numsOf at *
  omega
/-! ### the other side -/
theorem flR_marks : ∀ (ms : List It2) (p : Str), (flR p ms).2.map Prod.fst = (ms.map fun x => flM x.1).reverse
  | [], p => rfl
  | x :: r, p => by
    show ((flR x.2 r).2 ++ [(flM x.1, flS p)]).map Prod.fst = _
    rw [List.map_append, flR_marks r x.2]
    simp
theorem flR_names (ms : List It2) (p : Str) : namesOf (flR p ms).2 = (namesOf ms).reverse := by
  have h := flR_marks ms p
  have : namesOf (flR p ms).2 = ((flR p ms).2.map Prod.fst).map Prod.fst := by unfold namesOf; rw [List.map_map]; rfl
  rw [this, h, List.map_reverse, List.map_map]
  rfl
theorem flR_len (ms : List It2) (p : Str) : (flR p ms).2.length = ms.length := (flR_w ms p).2
theorem flR_up {ms : List It2} {p : Str} {k : Nat} (h : k < ms.length) : upAt (flR p ms).2 k = !upAt ms (ms.length - 1 - k) := by
  have e : ((flR p ms).2.map Prod.fst)[k]? = ((ms.map fun x => flM x.1).reverse)[k]? := by rw [flR_marks]
  rw [List.getElem?_map, List.getElem?_reverse (by simpa using h), List.getElem?_map, List.length_map] at e
  unfold upAt
  have hk : ms.length - 1 - k < ms.length := by omega
  rw [List.getElem?_eq_getElem hk] at e ⊢
  rw [List.getElem?_eq_getElem (by rw [flR_len]; exact h)] at e ⊢
  simp only [Option.map_some, Option.some.injEq] at e
  simp only [Option.map_some, Option.getD_some]
  rw [e]; rfl
theorem StOk.flip {p : Str} {ms : List It2} (h : StOk p ms) : StOk (flR p ms).1 (flR p ms).2 := by
  refine stok_two (flR_ok h.row) (fun x hx => ?_) (by rw [flR_len]; have := h.len.2; omega) (by rw [(flR_w ms p).1]; exact h.w)
  rw [flR_names] at hx ⊢
  rw [List.count_reverse]
  exact h.two x (by simpa using hx)
theorem posOf_rev (xs : List Str) (y : Str) : posOf xs.reverse y = (posOf xs y).reverse.map fun k => xs.length - 1 - k := by
  unfold posOf
  rw [List.length_reverse, ← List.filter_reverse]
  have e : (List.range xs.length) = (List.range xs.length).reverse.map fun k => xs.length - 1 - k := by
    apply List.ext_getElem
    · simp
    · intro i h1 h2
      simp only [List.length_range] at h1
      simp only [List.getElem_range, List.getElem_map, List.getElem_reverse, List.length_range]
      omega
  conv => lhs; rw [e]
  rw [List.filter_map]
  congr 1
  apply List.filter_congr
  intro k hk
  have hk' : k < xs.length := by simpa using hk
  simp only [Function.comp]
  rw [List.getElem?_reverse (by omega)]
  rw [show xs.length - 1 - (xs.length - 1 - k) = k by omega]
theorem names_len (ms : List It2) : (namesOf ms).length = ms.length := by unfold namesOf; rw [List.length_map]
theorem posP_flip {p : Str} {ms : List It2} (h : StOk p ms) {x : Str} (hx : x ∈ namesOf ms) : posP (flR p ms).2 x = (ms.length - 1 - (posP ms x).2, ms.length - 1 - (posP ms x).1) := by
  obtain ⟨e, _, _⟩ := h.pos hx
  apply posP_of
  rw [flR_names, posOf_rev, e, names_len]
  rfl
theorem dirS_flip {p : Str} {ms : List It2} (h : StOk p ms) {x : Str} (hx : x ∈ namesOf ms) : dirS (flR p ms).2 x = dirS ms x := by
  obtain ⟨e, h1, h2⟩ := h.pos hx
  unfold dirS
  rw [posP_flip h hx]
  dsimp only
  rw [flR_up (by omega), flR_up (by omega), show ms.length - 1 - (ms.length - 1 - (posP ms x).2) = (posP ms x).2 by omega, show ms.length - 1 - (ms.length - 1 - (posP ms x).1) = (posP ms x).1 by omega]
  cases upAt ms (posP ms x).1 <;> cases upAt ms (posP ms x).2 <;> rfl
/-! ### how often a name lies between -/
theorem count_take (y : Str) : ∀ (xs : List Str) (k : Nat), (xs.take k).count y = ((posOf xs y).filter fun i => decide (i < k)).length :=
  snoc_ind (fun k => by simp [posOf]) fun xs x ih k => by
    rw [posOf_snoc, List.filter_append, List.length_append, ← ih]
    by_cases hk : k ≤ xs.length
    · rw [List.take_append_of_le_length hk]
      split
      · rw [List.filter_cons_of_neg (by simp; omega)]; simp
      · simp
    · rw [List.take_of_length_le (by simp; omega), List.take_of_length_le (l := xs) (by omega), List.count_append]
      congr 1
      split
      · rename_i e
        subst e
        rw [List.filter_cons_of_pos (by simp; omega)]
        simp
      · rename_i e
        simp [e]
theorem count_betw {ms : List It2} {x y : Str} {i j : Nat} (hij : i < j) : (betw ms i j).count y = ((posOf (namesOf ms) y).filter fun k => decide (k < j)).length - ((posOf (namesOf ms) y).filter fun k => decide (k < i + 1)).length := by
  have h := count_take y (namesOf ms) j
  have h2 := count_take y (namesOf ms) (i + 1)
  have e : (namesOf ms).take j = (namesOf ms).take (i + 1) ++ betw ms i j := by
    unfold betw
    conv => lhs; rw [← List.take_append_drop (i + 1) ((namesOf ms).take j)]
    rw [List.take_take, Nat.min_eq_left (by omega)]
  rw [e, List.count_append] at h
  omega
/-- two names cross: by their places -/
theorem cross_iff {p : Str} {ms : List It2} (h : StOk p ms) {x y : Str} (hx : x ∈ namesOf ms) (hy : y ∈ namesOf ms) (hxy : x ≠ y) :
    ((btwS ms x).count y = 1 ∧ ¬ (posP ms y).1 < (posP ms x).1) ↔ ((posP ms x).1 < (posP ms y).1 ∧ (posP ms y).1 < (posP ms x).2 ∧ (posP ms x).2 < (posP ms y).2) := by
  obtain ⟨ex, x1, x2⟩ := h.pos hx
  obtain ⟨ey, y1, y2⟩ := h.pos hy
  have mx : ∀ k ∈ posOf (namesOf ms) x, (namesOf ms)[k]? = some x := fun k hk => posOf_mem.mp hk
  have my : ∀ k ∈ posOf (namesOf ms) y, (namesOf ms)[k]? = some y := fun k hk => posOf_mem.mp hk
  rw [ex] at mx
  rw [ey] at my
  have ne : ∀ a b : Nat, (namesOf ms)[a]? = some x → (namesOf ms)[b]? = some y → a ≠ b := fun a b h1 h2 e => by
    subst e; rw [h1] at h2; exact hxy (Option.some.inj h2)
  have n1 := ne _ _ (mx _ List.mem_cons_self) (my _ List.mem_cons_self)
  have n2 := ne _ _ (mx _ List.mem_cons_self) (my _ (List.mem_cons_of_mem _ List.mem_cons_self))
  have n3 := ne _ _ (mx _ (List.mem_cons_of_mem _ List.mem_cons_self)) (my _ List.mem_cons_self)
  have n4 := ne _ _ (mx _ (List.mem_cons_of_mem _ List.mem_cons_self)) (my _ (List.mem_cons_of_mem _ List.mem_cons_self))
  unfold btwS
  rw [count_betw (x := x) x1, ey]
  generalize (posP ms x).1 = a at *
  generalize (posP ms x).2 = b at *
  generalize (posP ms y).1 = c at *
  generalize (posP ms y).2 = d at *
  have f : ∀ k : Nat, ([c, d].filter fun i => decide (i < k)).length = (if c < k then 1 else 0) + (if d < k then 1 else 0) := fun k => by
    by_cases h1 : c < k <;> by_cases h2 : d < k <;> simp [List.filter_cons, h1, h2]
  rw [f, f]
  split <;> split <;> split <;> split <;> omega
/-! ### applicable operations, as rows of words -/
abbrev oL (x : Str) : List Str := [("loop" : Str), x]
abbrev oF (x : Str) : List Str := [("flip" : Str), x]
abbrev oS (x y : Str) : List Str := [("swap" : Str), x, y]
theorem isE_app {α : Type} (a b : List α) : (a ++ b).isEmpty = (a.isEmpty && b.isEmpty) := by cases a <;> rfl
def candP (names : List Str) (x : Str) : List (List Str) := [(oL x), (oF x)] ++ (names.filter fun y => !decide (y = x)).map fun y => (oS x y)
def blkS (ms : List It2) : List Str → List D
  | k :: ns => blockB ms k ns
  | [] => []
def availP (ms : List It2) : List (List Str) := (nmsOf ms).flatMap fun x => (candP (nmsOf ms) x).filter fun o => (blkS ms o).isEmpty
def swapQ (ms : List It2) (x y : Str) : Bool := decide ((posP ms x).1 < (posP ms y).1) && decide ((posP ms y).1 < (posP ms x).2) && decide ((posP ms x).2 < (posP ms y).2) && dirS ms x && dirS ms y
def oneP (ms : List It2) (x : Str) : List (List Str) := if dirS ms x = true then (if (posP ms x).2 = (posP ms x).1 + 1 then [(oL x)] else []) else [(oF x)]
def lawP (ms : List It2) : List (List Str) := (nmsOf ms).flatMap fun x => oneP ms x ++ ((nmsOf ms).filter fun y => swapQ ms x y).map fun y => (oS x y)
theorem blk_loop (ms : List It2) (x : Str) : blkS ms (oL x) = loopB ms x := rfl
theorem blk_flip (ms : List It2) (x : Str) : blkS ms (oF x) = flipB ms x := rfl
theorem blk_swap (ms : List It2) (x y : Str) : blkS ms (oS x y) = swapB ms x y := rfl
theorem btw_empty {p : Str} {ms : List It2} (h : StOk p ms) {x : Str} (hx : x ∈ namesOf ms) : btwS ms x = [] ↔ (posP ms x).2 = (posP ms x).1 + 1 := by
  obtain ⟨ex, x1, x2⟩ := h.pos hx
  unfold btwS betw
  rw [← List.length_eq_zero_iff, List.length_drop, List.length_take, names_len]
  omega
theorem loop_empty {p : Str} {ms : List It2} (h : StOk p ms) {x : Str} (hx : x ∈ namesOf ms) : (loopB ms x).isEmpty = (dirS ms x && decide ((posP ms x).2 = (posP ms x).1 + 1)) := by
  unfold loopB
  cases hd : dirS ms x with
  | false => rfl
  | true =>
    simp only [if_true, List.nil_append, Bool.true_and]
    rw [List.isEmpty_map]
    by_cases e : btwS ms x = []
    · rw [e, decide_eq_true ((btw_empty h hx).mp e)]; rfl
    · rw [decide_eq_false fun q => e ((btw_empty h hx).mpr q)]
      cases hb : btwS ms x with
      | nil => exact absurd hb e
      | cons => rfl
theorem flip_empty (ms : List It2) (x : Str) : (flipB ms x).isEmpty = !dirS ms x := by
  unfold flipB
  cases dirS ms x <;> rfl
theorem swap_empty {p : Str} {ms : List It2} (h : StOk p ms) {x y : Str} (hx : x ∈ namesOf ms) (hy : y ∈ namesOf ms) (hxy : x ≠ y) : (swapB ms x y).isEmpty = swapQ ms x y := by
  have e : (swapB ms x y).isEmpty = (dirS ms x && dirS ms y && decide ((btwS ms x).count y = 1) && !decide ((posP ms y).1 < (posP ms x).1)) := by
    unfold swapB
    rw [isE_app, isE_app]
    congr 1
    · congr 1
      · rw [List.isEmpty_map]
        cases e1 : dirS ms x <;> cases e2 : dirS ms y <;> simp [List.filter_cons, e1, e2]
      · split
        · rename_i q; rw [decide_eq_true q]; rfl
        · rename_i q; rw [decide_eq_false q]; rfl
    · split
      · rename_i q; rw [decide_eq_true q]; rfl
      · rename_i q; rw [decide_eq_false q]; rfl
  rw [e]
  unfold swapQ
  have c := cross_iff h hx hy hxy
  rw [Bool.eq_iff_iff]
  simp only [Bool.and_eq_true, decide_eq_true_eq, Bool.not_eq_true', decide_eq_false_iff_not]
  constructor
  · rintro ⟨⟨⟨a, b⟩, d⟩, f⟩
    obtain ⟨g1, g2, g3⟩ := c.mp ⟨d, f⟩
    exact ⟨⟨⟨⟨g1, g2⟩, g3⟩, a⟩, b⟩
  · rintro ⟨⟨⟨⟨g1, g2⟩, g3⟩, a⟩, b⟩
    obtain ⟨d, f⟩ := c.mpr ⟨g1, g2, g3⟩
    exact ⟨⟨⟨a, b⟩, d⟩, f⟩
theorem swapQ_self (ms : List It2) (x : Str) : swapQ ms x x = false := by
  unfold swapQ
  simp
theorem flatMap_eq {α β : Type} {f g : α → List β} : ∀ {l : List α}, (∀ a ∈ l, f a = g a) → l.flatMap f = l.flatMap g
  | [], _ => rfl
  | a :: l, h => by
    rw [List.flatMap_cons, List.flatMap_cons, h a List.mem_cons_self, flatMap_eq fun b hb => h b (List.mem_cons_of_mem _ hb)]
/-- what the program finds is what the law finds -/
theorem avail_law {p : Str} {ms : List It2} (h : StOk p ms) : availP ms = lawP ms := by
  unfold availP lawP
  refine flatMap_eq fun x hx => ?_
  have hx' := nms_mem.mp hx
  unfold candP
  rw [List.filter_append]
  congr 1
  · rw [List.filter_cons, List.filter_cons, List.filter_nil, blk_loop, blk_flip, loop_empty h hx', flip_empty]
    unfold oneP
    cases dirS ms x with
    | true =>
      by_cases e : (posP ms x).2 = (posP ms x).1 + 1
      · simp [e]
      · simp [e]
    | false => simp
  · rw [List.filter_map]
    congr 1
    rw [List.filter_filter]
    refine List.filter_congr fun y hy => ?_
    simp only [Function.comp]
    by_cases e : y = x
    · subst e
      rw [swapQ_self]; simp
    · rw [blk_swap, swap_empty h hx' (nms_mem.mp hy) (Ne.symm e)]
      simp [e]
/-- what is in the law's list -/
theorem lawP_mem {ms : List It2} {o : List Str} : o ∈ lawP ms ↔ ∃ x, x ∈ namesOf ms ∧ ((o = (oF x) ∧ dirS ms x = false) ∨ (o = (oL x) ∧ dirS ms x = true ∧ (posP ms x).2 = (posP ms x).1 + 1) ∨ ∃ y, y ∈ namesOf ms ∧ o = (oS x y) ∧ swapQ ms x y = true) := by
  unfold lawP
  rw [List.mem_flatMap]
  refine exists_congr fun x => ?_
  rw [nms_mem]
  refine and_congr_right fun hx => ?_
  rw [List.mem_append, List.mem_map]
  unfold oneP
  have hs : (∃ a, a ∈ (nmsOf ms).filter (fun y => swapQ ms x y) ∧ (oS x a) = o) ↔ ∃ y, y ∈ namesOf ms ∧ o = (oS x y) ∧ swapQ ms x y = true := by
    constructor
    · rintro ⟨y, hy, rfl⟩
      obtain ⟨h1, h2⟩ := List.mem_filter.mp hy
      exact ⟨y, nms_mem.mp h1, rfl, h2⟩
    · rintro ⟨y, hy, rfl, h2⟩
      exact ⟨y, List.mem_filter.mpr ⟨nms_mem.mpr hy, h2⟩, rfl⟩
  rw [hs]
  cases dirS ms x with
  | true =>
    by_cases e : (posP ms x).2 = (posP ms x).1 + 1
    · simp [e]
    · simp [e]
  | false => simp
theorem nodup_flatMap {α β : Type} {f : α → List β} {l : List α} (hl : l.Nodup) (h1 : ∀ a ∈ l, (f a).Nodup) (h2 : ∀ a ∈ l, ∀ b ∈ l, ∀ y, y ∈ f a → y ∈ f b → a = b) : (l.flatMap f).Nodup := by
  induction l with
  | nil => exact List.nodup_nil
  | cons a l ih =>
    rw [List.flatMap_cons, List.nodup_append]
    obtain ⟨ha, hl⟩ := List.nodup_cons.mp hl
    refine ⟨h1 a List.mem_cons_self, ih hl (fun b hb => h1 b (List.mem_cons_of_mem _ hb)) (fun b hb c hc => h2 b (List.mem_cons_of_mem _ hb) c (List.mem_cons_of_mem _ hc)), fun y hy z hz e => ?_⟩
    subst e
    obtain ⟨b, hb, hyb⟩ := List.mem_flatMap.mp hz
    have := h2 a List.mem_cons_self b (List.mem_cons_of_mem _ hb) y hy hyb
    subst this
    exact ha hb
theorem nodup_map {α β : Type} {f : α → β} (hf : ∀ a b, f a = f b → a = b) : ∀ {l : List α}, l.Nodup → (l.map f).Nodup
  | [], _ => List.nodup_nil
  | a :: l, h => by
    obtain ⟨h1, h2⟩ := List.nodup_cons.mp h
    rw [List.map_cons, List.nodup_cons]
    refine ⟨fun hm => ?_, nodup_map hf h2⟩
    obtain ⟨b, hb, e⟩ := List.mem_map.mp hm
    rw [hf b a e] at hb
    exact h1 hb
theorem lawP_nodup (ms : List It2) : (lawP ms).Nodup := by
  unfold lawP
  refine nodup_flatMap (nms_nodup ms) (fun x hx => ?_) (fun a ha b hb y hy hz => ?_)
  · rw [List.nodup_append]
    refine ⟨?_, nodup_map (fun a b e => by simpa using e) ((nms_nodup ms).filter _), fun a ha b hb e => ?_⟩
    · unfold oneP; split
      · split <;> simp
      · simp
    · subst e
      obtain ⟨y, _, rfl⟩ := List.mem_map.mp hb
      unfold oneP at ha
      split at ha
      · split at ha <;> simp at ha
      · simp at ha
  · have g : ∀ c, y ∈ oneP ms c ++ ((nmsOf ms).filter fun y => swapQ ms c y).map (fun y => (oS c y)) → y[1]? = some c := fun c h => by
      rcases List.mem_append.mp h with h | h
      · unfold oneP at h
        split at h
        · split at h
          · simp at h; subst h; rfl
          · simp at h
        · simp at h; subst h; rfl
      · obtain ⟨z, _, rfl⟩ := List.mem_map.mp h; rfl
    have := (g a hy).symm.trans (g b hz)
    exact Option.some.inj this
def revOp : List Str → List Str
  | k :: ns => k :: ns.reverse
  | [] => []
theorem revOp_inj (a b : List Str) (h : revOp a = revOp b) : a = b := by
  cases a with
  | nil => cases b with
    | nil => rfl
    | cons => simp [revOp] at h
  | cons k ns => cases b with
    | nil => simp [revOp] at h
    | cons k' ns' =>
      simp only [revOp, List.cons.injEq, List.reverse_inj] at h
      rw [h.1, h.2]
theorem swapQ_flip {p : Str} {ms : List It2} (h : StOk p ms) {x y : Str} (hx : x ∈ namesOf ms) (hy : y ∈ namesOf ms) : swapQ (flR p ms).2 x y = swapQ ms y x := by
  obtain ⟨ex, x1, x2⟩ := h.pos hx
  obtain ⟨ey, y1, y2⟩ := h.pos hy
  unfold swapQ
  rw [posP_flip h hx, posP_flip h hy, dirS_flip h hx, dirS_flip h hy]
  dsimp only
  rw [Bool.eq_iff_iff]
  simp only [Bool.and_eq_true, decide_eq_true_eq]
  constructor
  · rintro ⟨⟨⟨⟨a, b⟩, c⟩, d⟩, e⟩
    exact ⟨⟨⟨⟨by omega, by omega⟩, by omega⟩, e⟩, d⟩
  · rintro ⟨⟨⟨⟨a, b⟩, c⟩, d⟩, e⟩
    exact ⟨⟨⟨⟨by omega, by omega⟩, by omega⟩, e⟩, d⟩
/-- the flipped strip has the same operations, the names of a swap reversed -/
theorem flip_law {p : Str} {ms : List It2} (h : StOk p ms) : ((lawP (flR p ms).2).map revOp).Perm (lawP ms) := by
  refine (List.perm_ext_iff_of_nodup (nodup_map revOp_inj (lawP_nodup _)) (lawP_nodup _)).mpr fun o => ?_
  have hn : ∀ x, x ∈ namesOf (flR p ms).2 ↔ x ∈ namesOf ms := fun x => by rw [flR_names]; simp
  have key : ∀ o, o ∈ lawP (flR p ms).2 ↔ revOp o ∈ lawP ms := fun o => by
    rw [lawP_mem, lawP_mem]
    constructor
    · rintro ⟨x, hx, h1⟩
      have hx' := (hn x).mp hx
      obtain ⟨ex, x1, x2⟩ := h.pos hx'
      rcases h1 with ⟨rfl, hd⟩ | ⟨rfl, hd, he⟩ | ⟨y, hy, rfl, hq⟩
      · exact ⟨x, hx', .inl ⟨rfl, by rw [← dirS_flip h hx']; exact hd⟩⟩
      · refine ⟨x, hx', .inr (.inl ⟨rfl, by rw [← dirS_flip h hx']; exact hd, ?_⟩)⟩
        rw [posP_flip h hx'] at he
        dsimp only at he
        omega
      · have hy' := (hn y).mp hy
        refine ⟨y, hy', .inr (.inr ⟨x, hx', rfl, ?_⟩)⟩
        rw [← swapQ_flip h hx' hy']; exact hq
    · rintro ⟨x, hx, h1⟩
      have hx' := (hn x).mpr hx
      obtain ⟨ex, x1, x2⟩ := h.pos hx
      rcases h1 with ⟨ho, hd⟩ | ⟨ho, hd, he⟩ | ⟨y, hy, ho, hq⟩
      · have : o = (oF x) := revOp_inj _ _ ho
        exact ⟨x, hx', .inl ⟨this, by rw [dirS_flip h hx]; exact hd⟩⟩
      · have : o = (oL x) := revOp_inj _ _ ho
        refine ⟨x, hx', .inr (.inl ⟨this, by rw [dirS_flip h hx]; exact hd, ?_⟩)⟩
        rw [posP_flip h hx]
        dsimp only
        omega
      · have : o = (oS y x) := revOp_inj _ (oS y x) ho
        exact ⟨y, (hn y).mpr hy, .inr (.inr ⟨x, hx', this, by rw [swapQ_flip h hy hx]; exact hq⟩)⟩
  constructor
  · intro ho
    obtain ⟨q, hq, rfl⟩ := List.mem_map.mp ho
    exact (key q).mp hq
  · intro ho
    have e : revOp (revOp o) = o := by
      cases o with
      | nil => rfl
      | cons k ns => simp [revOp]
    exact List.mem_map.mpr ⟨revOp o, (key _).mpr (by rw [e]; exact ho), e⟩
end Ms

/-! Lay33: draws in a comprehension over a list; a row with other marks; promises of available_ops and Strip.flipped. -/
namespace Ms
open PySem PySem.Spec PyProof.Rows L2
section
variable {K : PySem.W.Frag} {δ : List Sl} {tl te : TE} {j : Nat} {Θ : OD → List Sl → Prop}
theorem en_lcXL {b0 m0 cst : Nat} {ba : Addr} {P : D → Prop} (hb : b0 ≠ j) (h : EvD K tl δ fun d δ1 => ∃ ds, d = .lst ds ∧ ds.length < sizeLine ∧ noOwn δ1 [j] = true ∧ δ1[b0]? = some (.bx ba m0) ∧
      (∀ (i m : Nat) x, ds[i]? = some x → m ≤ m0 + i * cst → EvD K te (((wipeS δ1 [j]).set b0 (.bx ba m)).set j (.sh x)) fun y δ3 => P y ∧ ∃ m', m' ≤ m + cst ∧ wipeS δ3 [j] = (wipeS δ1 [j]).set b0 (.bx ba m')) ∧
      ∀ (acc : List D) (m : Nat), acc.length = ds.length → (∀ y ∈ acc, P y) → m ≤ m0 + ds.length * cst → Θ (.lst acc) (δ1.set b0 (.bx ba m))) :
    EvN K (tLc (iSeqU K tl) (gName j) tYes te [j]) δ Θ := by
  refine en_lc (js := [j]) (by simp) (ei_seqL fun M L G0 H0 G H σ c Q q => h M L G0 H0 G H σ c Q fun d δ1 v G1 H1 s1 c1 r1 ⟨ds, e, n1, no, hb0, hc, k⟩ => q d δ1 v G1 H1 s1 c1 r1 ⟨ds, e, noOwn_ok no, n1, fun i acc δ' => (∃ m, m ≤ m0 + i * cst ∧ δ' = (wipeS δ1 [j]).set b0 (.bx ba m)) ∧ acc.length = i ∧ ∀ y ∈ acc, P y, ⟨⟨m0, by simp, ?_⟩, rfl, by simp⟩, ?_, ?_⟩)
  · have e2 : (wipeS δ1 [j])[b0]? = some (.bx ba m0) := by rw [wipeS_get]; simp [hb, hb0]
    apply List.ext_getElem?
    intro i
    rw [List.getElem?_set]
    by_cases ei : b0 = i
    · subst ei; rw [if_pos rfl, e2]
      rw [if_pos (List.getElem?_eq_some_iff.mp e2).1]
    · rw [if_neg ei]
  · rintro i x acc δ' ex hl ⟨⟨m, hm, rfl⟩, rfl, hP⟩
    refine tg_name (et_yes (iteT ?_))
    refine fun M L G0 H0 G H σ c Q q => hc acc.length m x ex hm M L G0 H0 G H σ c Q fun d δ3 v G3 H3 s3 c3 r3 ⟨pd, m', hm', e3⟩ => q d δ3 v G3 H3 s3 c3 r3 ⟨⟨m', ?_, e3⟩, by simp, fun y hy => ?_⟩
    · rw [Nat.add_mul]; omega
    · rcases List.mem_append.mp hy with hy | hy
      · exact hP y hy
      · rw [List.mem_singleton.mp hy]; exact pd
  · rintro acc δ' ⟨⟨m, hm, rfl⟩, hl, hP⟩
    have e3 : restS ((wipeS δ1 [j]).set b0 (.bx ba m)) δ1 [j] = δ1.set b0 (.bx ba m) := by
      apply List.ext_getElem?
      intro i
      rw [restS_get, List.getElem?_set, List.length_set, wipeS_length, List.getElem?_set]
      by_cases hi : i = j
      · subst hi
        simp only [List.mem_singleton, if_true]
        rw [if_neg hb]
        by_cases hl : i < δ1.length
        · rw [if_pos hl, List.getD_eq_getElem?_getD]; simp [hl]
        · rw [if_neg hl]; simp at hl; simp [hl]
      · simp only [List.mem_singleton, hi, if_false]
        by_cases e : b0 = i
        · simp only [e, if_true]
        · simp only [e, if_false]
          rw [wipeS_get]; simp [hi]
    rw [e3]
    exact k acc m hl hP hm
end
/-! ### other marks -/
theorem row_set : ∀ {ms : List It2} {p : Str} {i : Nat} {m m0 : Mk} {q : Str}, ms[i]? = some (m0, q) → (rowL p ms).take (2 * i + 1) ++ [mkD m] ++ (rowL p ms).drop (2 * i + 2) = rowL p (ms.set i (m, q))
  | [], p, i, m, m0, q, h => by simp at h
  | x :: r, p, 0, m, m0, q, h => by
    simp at h; subst h
    rfl
  | x :: r, p, i + 1, m, m0, q, h => by
    have ih := row_set (p := x.2) (m := m) (show r[i]? = some (m0, q) by simpa using h)
    have e : rowL p (x :: r) = .str p :: mkD x.1 :: rowL x.2 r := rfl
    rw [e, show 2 * (i + 1) + 1 = (2 * i + 1) + 1 + 1 by omega, show 2 * (i + 1) + 2 = (2 * i + 2) + 1 + 1 by omega]
    simp only [List.take_succ_cons, List.drop_succ_cons, List.cons_append, List.set_cons_succ]
    rw [ih]; rfl
/-- rows of the same pieces -/
structure SameP (ms ms' : List It2) : Prop where
  pcs : ms'.map Prod.snd = ms.map Prod.snd
  nm : ∀ x ∈ ms', nameS x.1.1 = true
theorem SameP.len {ms ms' : List It2} (h : SameP ms ms') : ms'.length = ms.length := by have := congrArg List.length h.pcs; simpa using this
theorem SameP.set {ms ms' : List It2} (h : SameP ms ms') {i : Nat} {m m0 : Mk} {q : Str} (hi : ms'[i]? = some (m0, q)) (hm : nameS m.1 = true) : SameP ms (ms'.set i (m, q)) := by
  refine ⟨?_, fun x hx => ?_⟩
  · rw [← h.pcs, List.map_set]
    apply List.ext_getElem?
    intro k
    rw [List.getElem?_set]
    by_cases e : i = k
    · subst e
      rw [if_pos rfl]
      have := (List.getElem?_eq_some_iff.mp hi).1
      rw [if_pos (by simpa using this), List.getElem?_map, hi]; rfl
    · rw [if_neg e]
  · rcases List.mem_or_eq_of_mem_set hx with hx | rfl
    · exact h.nm x hx
    · exact hm
theorem SameP.row {ms ms' : List It2} {p : Str} (h : SameP ms ms') (ok : RowOk p ms) : RowOk p ms' := by
  refine ⟨ok.p0, h.nm, fun x hx => ?_⟩
  have : x.2 ∈ ms'.map Prod.snd := List.mem_map.mpr ⟨x, hx, rfl⟩
  rw [h.pcs] at this
  obtain ⟨y, hy, e⟩ := List.mem_map.mp this
  rw [← e]; exact ok.pc y hy
theorem SameP.w {ms ms' : List It2} {p : Str} (h : SameP ms ms') : rowW p ms' = rowW p ms := by
  unfold rowW lets
  have e : ∀ l : List It2, (l.map fun x => x.2.length) = (l.map Prod.snd).map (·.length) := fun l => by rw [List.map_map]; rfl
  rw [e, e, h.pcs]
theorem names_set (ms : List It2) (i : Nat) (m : Mk) (q : Str) : namesOf (ms.set i (m, q)) = (namesOf ms).set i m.1 := by unfold namesOf; rw [List.map_set]
/-! ### promises -/
def A_Strip_flipped (K : PySem.W.Frag) : FS := fun ds post => ∃ p ms, ds = [stripD K p ms] ∧ StK K ∧ StOk p ms ∧ post (.new (.ins (stC K) (stripF (flR p ms).1 (flR p ms).2)))
def A_available_ops (K : PySem.W.Frag) : FS := fun ds post => ∃ p ms, ds = [stripD K p ms] ∧ OpK K ∧ StOk p ms ∧ post (.new (.lst ((availP ms).map tupS)))
end Ms

/-! Lay34: min(list, key=def), the keys texts. -/
namespace Ms
open PySem PySem.Spec PyProof.Rows L2
section
variable {X : Cx} {k : Nat} {f : Addr} {fd : FuncData} {ps : List Str} {sp : Sp}
/-- a def called by a built-in with one argument -/
theorem arg_run (F : FnOk X.prog X.w X.K X.mg X.base CX0 k f fd ps sp) (hb : Binds X.K fd ps []) {A : Around} (hf : A.frames = X.A.frames) (hr : Room k A) {pins : List (Addr × Obj)} {s : Shared} {σ : L2.St} {H : Hp} {x : V} {u : Value} {Q : VK} {E : Value → Shared → Prop} (I : L2.Inv X pins σ H s) (rx : RelV x u) (q : sp [x] H Q E0) :
    wpAny (model X.prog X.w) A (call (.ref f) [u]) (EP X pins σ Q) E s := by
  have e0 : Env0 X.prog X.w X.K X.mg X.base A X.stack s H := by
    have e := I.env0
    exact ⟨by rw [hf]; exact e.frames, e.mod, e.bs, e.bsz, e.funs, e.frf, e.hok, e.bare⟩
  have hl := F.len _ _ _ _ q
  refine wpAny_call (codeAny_mono (F.run A X.stack s H ⟨[u], []⟩ [u] [x] _ E0 hr e0 (by
    have := hb s [u] I.kIn (by simpa using hl)
    simpa using this) (.cons rx .nil) q) fun r s' hq => ?_)
  cases r with
  | error e => exact hq.elim
  | ok fl =>
    cases fl with
    | ret w => exact I.after hq
    | next => exact hq.elim
    | brk => exact hq.elim
    | cont => exact hq.elim
theorem fp_to {pins : List (Addr × Obj)} {H H' : Hp} {b : Addr} (h : FpOk X pins H b) (e : H' b = none) : FpOk X pins H' b := ⟨e, h.2⟩
/-- the first with the least key -/
def leastK (kf : Nat → Str) (n i : Nat) : Prop := ∀ j, j < n → ¬ (kf j).cps.toList < (kf i).cps.toList ∧ (j < i → (kf i).cps.toList < (kf j).cps.toList)
theorem pins_two {pins : List (Addr × Obj)} {s : Shared} {σ : L2.St} {H : Hp} (I : L2.Inv X pins σ H s) {a b : Addr} {oa ob : Obj} (ha : s.heap.get? a = some oa) (hb : s.heap.get? b = some ob) (fa : FpOk X pins H a) (fb : FpOk X pins H b) (da : ∀ v, oa.data ≠ .cell v) (db : ∀ v, ob.data ≠ .cell v) : L2.Inv X (pins ++ [(a, oa), (b, ob)]) σ H s :=
  I.pins_of fun p hp => by
    rcases List.mem_append.mp hp with hp | hp
    · exact I.pin p (List.mem_append_right _ hp)
    · rcases List.mem_cons.mp hp with rfl | hp
      · exact ⟨ha, fa.1, fa.2.1, fa.2.2.1, da⟩
      · rw [List.mem_singleton.mp hp]
        exact ⟨hb, fb.1, fb.2.1, fb.2.2.1, db⟩
theorem str_lt_trans {a b c : List Nat} (h1 : a < b) (h2 : b < c) : a < c := List.lt_trans h1 h2
theorem mk_loop (hc : X.calm = true) (F : FnOk X.prog X.w X.K X.mg X.base CX0 k f fd ps sp) (hb : Binds X.K fd ps []) (hr : Room (k + 1) X.A) {a S It : Addr} {xs : List V} (kf : Nat → Str) (W : Nat → Hp → Prop)
    (hW : ∀ i H, W i H → SqL X.K H a xs) (step : ∀ i H x, W i H → xs[i]? = some x → sp [x] H (fun v H' => v = .str (kf i) ∧ W (i + 1) H') E0) {pins : List (Addr × Obj)} {σ : L2.St} {R : Result → Shared → Prop} (haI : a ≠ It) (hSI : S ≠ It)
    (hR : ∀ (i : Nat) x u s' H', xs[i]? = some x → RelV x u → leastK kf xs.length i → W xs.length H' → L2.Inv X pins σ H' s' → R (.ok (.ret u)) s') :
    ∀ (r j i : Nat) (s : Shared) (H : Hp) (vb : Value) (tb : Tok) (c : Nat) (oI : Obj), xs.length - (j + 1) = r → j + 1 ≤ xs.length → L2.Inv X pins σ H s → W (j + 1) H → FpOk X pins H S → FpOk X pins H It →
      s.heap.get? S = some (seqObj "list" #[vb, .str (kf i) tb] c) → s.heap.get? It = some oI → s.heap.IsListIter It a (j + 1) → (∃ x, xs[i]? = some x ∧ RelV x vb) → i ≤ j → leastK kf (j + 1) i →
      codeAny (model X.prog X.w) X.A (.builtin "min.loop" ⟨[.ref It, .ref f, .ref S], []⟩) R s := by
  have hname : (toString "min" ++ toString ".loop" : String) = "min.loop" := by decide
  intro r
  induction r with
  | zero =>
    intro j i s H vb tb c oI hrr hj I hw fS fI hS hIo hit hvb hij hbest
    have hin : j + 1 = xs.length := by omega
    obtain ⟨its, rv, hl, hz⟩ := I.list (hW _ _ hw)
    have hits : its.length = xs.length := rv.length.symm
    have Wk := Walks.list (prog := X.prog) (w := X.w) (A := X.A.in1) (I.ok.hd hc) It a haI its.toArray
    have hsz : its.toArray.size = its.length := List.size_toArray ..
    refine codeAny_builtin PySem.F.entry_min_loop ?_
    rw [Around.under_plainId PySem.F.plain_min_loop _]
    show wpAny _ X.A.in1 (seqItems? (.ref S) >>= _) _ _ _
    refine wpAny_bind (wpAny_seqItems hS rfl ?_)
    show wpAny _ X.A.in1 (tryCatch (pyNext (.ref It)) _ >>= _) _ _ _
    refine wpAny_bind (wpAny_tryCatch (Wk.done _ _ _ ⟨by rw [hsz, hits, ← hin]; exact hit, hl.isList⟩ fun h' tk' hk' => ?_))
    have I1 : L2.Inv X pins σ H { s with heap := h', toks := tk' } := I.turnedL (ch := [It]) (fun b o hb q => hk' b o hb q) fun b hb => by rw [List.mem_singleton.mp hb]; exact fI
    have hS' := hk' S _ (by simpa using hSI) hS
    have s1 := Heap.SameBut.update h' S (Obj.mapSeq fun _ => (#[] : Array Value))
    show wpAny _ X.A.in1 (updateSeq S (fun _ => #[]) >>= _) _ _ _
    refine wpAny_bind ?_
    refine wpAny_updateSeq hS' rfl (wpAny_bind (wpAny_letGo (wpAny_pure ?_)))
    obtain ⟨x, hx, rx⟩ := hvb
    refine hR i x vb _ H hx rx (hin ▸ hbest) (hin ▸ hw) ?_
    exact I1.turnedL (ch := [S]) (fun b o hb q => (s1.2 b (fun z => hb (by simp [z]))).trans q) fun b hb => by rw [List.mem_singleton.mp hb]; exact fS
  | succ r ih =>
    intro j i s H vb tb c oI hrr hj I hw fS fI hS hIo hit hvb hij hbest
    have hlt : j + 1 < xs.length := by omega
    obtain ⟨its, rv, hl, hz⟩ := I.list (hW _ _ hw)
    have hits : its.length = xs.length := rv.length.symm
    have Wk := Walks.list (prog := X.prog) (w := X.w) (A := X.A.in1) (I.ok.hd hc) It a haI its.toArray
    have hsz : its.toArray.size = its.length := List.size_toArray ..
    refine codeAny_builtin PySem.F.entry_min_loop ?_
    rw [Around.under_plainId PySem.F.plain_min_loop _]
    show wpAny _ X.A.in1 (seqItems? (.ref S) >>= _) _ _ _
    refine wpAny_bind (wpAny_seqItems hS rfl ?_)
    show wpAny _ X.A.in1 (tryCatch (pyNext (.ref It)) _ >>= _) _ _ _
    refine wpAny_bind (wpAny_tryCatch (Wk.item (j + 1) _ _ _ (by rw [hsz, hits]; exact hlt) ⟨hit, hl.isList⟩ fun v h' tk' hP hst' hk' => ?_))
    have hv : its[j + 1]? = some v := by simpa using hP
    obtain ⟨x, hx, rx⟩ : ∃ x, xs[j + 1]? = some x ∧ RelV x v := by
      rcases vals_get rv (j + 1) with ⟨_, h2⟩ | ⟨x, u, h1, h2, h3⟩
      · rw [hv] at h2; cases h2
      · rw [hv] at h2; cases h2; exact ⟨x, h1, h3⟩
    obtain ⟨oI', hoI', hoc, hod⟩ := id hst'.1
    have I1 : L2.Inv X pins σ H { s with heap := h', toks := tk' } := I.turnedL (ch := [It]) (fun b o hb q => hk' b o hb q) fun b hb => by rw [List.mem_singleton.mp hb]; exact fI
    have hS' := hk' S _ (by simpa using hSI) hS
    have I2 := pins_two I1 hS' hoI' fS fI (fun _ q => by cases q) (fun _ q => by rw [hod] at q; cases q)
    show wpAny _ X.A.in1 (tryCatch (holding [v] (call (.ref f) [v])) _ >>= _) _ _ _
    refine wpAny_bind (wpAny_tryCatch (wpAny_holding (wpAny_mono (arg_run (A := X.A.in1) F hb rfl hr.in1 I2 rx (step (j + 1) H x hw hx)) (fun y s'' he => ?_) fun _ _ hF => hF)))
    obtain ⟨y', H', I3, ry, ey, hw'⟩ := he
    subst ey
    obtain ⟨t2, rfl⟩ := ry
    have pS := I3.pin (S, _) (List.mem_append_right _ (List.mem_append_right _ (.head _)))
    have pI := I3.pin (It, oI') (List.mem_append_right _ (List.mem_append_right _ (.tail _ (.head _))))
    have I4 : L2.Inv X pins σ H' s'' := I3.unpinned
    have hit2 : s''.heap.IsListIter It a (j + 1 + 1) := ⟨oI', pI.1, hoc, hod⟩
    obtain ⟨h2, g2, d2, tk2, os2⟩ := s''
    show wpAny _ X.A.in1 (tryCatch (holding [v, .str (kf (j + 1)) t2] (richCompare .Lt (.str (kf (j + 1)) t2) (.str (kf i) tb) >>= _)) _ >>= _) _ _ _
    refine wpAny_bind (wpAny_tryCatch (wpAny_holding (wpAny_bind (show wpAny (model X.prog X.w) X.A.in1 (richCompare .Lt (.str (kf (j + 1)) t2) (.str (kf i) tb)) _ _ _ from PySem.P.lt_str ?_))))
    refine wpAny_bind (wpAny_holding (wpAny_truthy_bool ?_))
    refine wpAny_bind (wpAny_letGo (wpAny_pure ?_))
    by_cases hb' : (kf (j + 1)).cps.toList < (kf i).cps.toList
    · have s1 := Heap.SameBut.update h2 S (Obj.mapSeq fun _ => #[v, .str (kf (j + 1)) t2])
      obtain ⟨c2, hc2⟩ : ∃ c2, (h2.update S (Obj.mapSeq fun _ => #[v, .str (kf (j + 1)) t2])).get? S = some (seqObj "list" #[v, .str (kf (j + 1)) t2] c2) := ⟨_, get?_update_seq pS.1 fun _ => #[v, .str (kf (j + 1)) t2]⟩
      simp only [hb', decide_true, if_true]
      refine wpAny_bind ?_
      refine wpAny_updateSeq pS.1 rfl (wpAny_bind (wpAny_letGo ?_))
      rw [hname]
      refine wpAny_pure ⟨plainId_quiet PySem.F.plain_min_loop _, ih (j + 1) (j + 1) _ H' v t2 c2 oI' (by omega) hlt (I4.turnedL (ch := [S]) (fun b o hb q => (s1.2 b (fun z => hb (by simp [z]))).trans q) fun b hb => by rw [List.mem_singleton.mp hb]; exact fp_to fS pS.2.1) hw' (fp_to fS pS.2.1) (fp_to fI pI.2.1) hc2 ((s1.2 It hSI.symm).trans pI.1) ⟨oI', (s1.2 It hSI.symm).trans pI.1, hoc, hod⟩ ⟨x, hx, rx⟩ (Nat.le_refl _) fun j' hj' => ?_⟩
      by_cases e : j' = j + 1
      · subst e
        exact ⟨List.lt_irrefl _, fun h => absurd h (Nat.lt_irrefl _)⟩
      · have hb1 := hbest j' (by omega)
        refine ⟨fun q => hb1.1 (str_lt_trans q hb'), fun _ => ?_⟩
        by_cases e2 : (kf i).cps.toList < (kf j').cps.toList
        · exact str_lt_trans hb' e2
        · have : (kf i).cps.toList = (kf j').cps.toList := List.le_antisymm (List.not_lt.mp hb1.1) (List.not_lt.mp e2)
          rw [← this]; exact hb'
    · simp only [hb', decide_false, Bool.false_eq_true, if_false]
      refine wpAny_bind (wpAny_letGo ?_)
      rw [hname]
      refine wpAny_pure ⟨plainId_quiet PySem.F.plain_min_loop _, ih (j + 1) i _ H' vb tb c oI' (by omega) hlt I4 hw' (fp_to fS pS.2.1) (fp_to fI pI.2.1) pS.1 pI.1 hit2 hvb (by omega) fun j' hj' => ?_⟩
      by_cases e : j' = j + 1
      · subst e
        exact ⟨hb', fun h => absurd h (by omega)⟩
      · exact hbest j' (by omega)
/-- min(xs, key=f) -/
def rMinK (K : PySem.W.Frag) (f : Addr) (sp : Sp) : List V → List V → Hp → VK → Prop := fun vs zs H Q => ∃ (a : Addr) (xs : List V) (kf : Nat → Str) (W : Nat → Hp → Prop), vs = [.ref a] ∧ zs = [.ref f] ∧ xs ≠ [] ∧ W 0 H ∧ (∀ i H, W i H → SqL K H a xs) ∧
  (∀ i H x, W i H → xs[i]? = some x → sp [x] H (fun v H' => v = .str (kf i) ∧ W (i + 1) H') E0) ∧ ∀ (i : Nat) x H', xs[i]? = some x → leastK kf xs.length i → W xs.length H' → Q x H'
theorem call_minK (hc : X.calm = true) (F : FnOk X.prog X.w X.K X.mg X.base CX0 k f fd ps sp) (hb : Binds X.K fd ps []) (hr : Room (k + 1) X.A) : CallRK X (.builtin "min") [Str.ofString "key"] (rMinK X.K f sp) := by
  intro pins s σ H vs zs us ws Q I r1 r2 h
  obtain ⟨a, xs, kf, W, rfl, rfl, hne, hw, hW, step, q⟩ := h
  rw [Vals.ref1 r1, Vals.ref1 r2]
  have hname : (toString "min" ++ toString ".loop" : String) = "min.loop" := by decide
  obtain ⟨its, rv, hl, hz⟩ := I.list (hW _ _ hw)
  have hits : its.length = xs.length := rv.length.symm
  have hls := hl.isList
  obtain ⟨ol, hol, _⟩ := id hls
  have hll : a < s.heap.objs.size := Heap.lt_size hol
  have hpos : 0 < xs.length := List.length_pos_iff.mpr hne
  show wpAny (model X.prog X.w) X.A (call (.builtin "min") [.ref a] [(Str.ofString "key", .ref f)]) _ _ s
  refine kmk_tree PySem.F.kind_min PySem.F.plain_min PySem.F.entry_min (kmk_min_key _ _) ?_
  show wpAny _ X.A.in1 (Builtin.Builtins.bindParams "min" ["key", "default"] 0 ⟨[], [(Str.ofString "key", .ref f)]⟩ >>= _) _ _ s
  refine wpAny_bind (wpAny_of_eq (show Builtin.Builtins.bindParams "min" ["key", "default"] 0 ⟨[], [(Str.ofString "key", .ref f)]⟩ = pure [some (.ref f), none] from rfl) ?_)
  refine wpAny_bind (wpAny_pure ?_)
  refine wpAny_bind (wpAny_pyIter_list hls ?_)
  refine wpAny_bind (wpAny_newList ?_ (Nat.zero_le _))
  rw [hname]
  have hS : (s.heap.push { cls := .type "list_iterator", data := .fields #[.ref a, .int 0 0] }).objs.size = s.heap.objs.size + 1 := size_push' ..
  have haI : a ≠ s.heap.objs.size := Nat.ne_of_lt hll
  have hSI : (s.heap.push { cls := .type "list_iterator", data := .fields #[.ref a, .int 0 0] }).objs.size ≠ s.heap.objs.size := by rw [hS]; exact Nat.ne_of_gt (Nat.lt_succ_self _)
  refine wpAny_pure ⟨plainId_quiet PySem.F.plain_min_loop _, ?_⟩
  have old : ∀ b o, s.heap.get? b = some o → ((s.heap.push { cls := .type "list_iterator", data := .fields #[.ref a, .int 0 0] }).push (seqObj "list" #[] 0)).get? b = some o := fun b x e => Heap.get?_push_of_some _ (Heap.get?_push_of_some _ e)
  have gI : ((s.heap.push { cls := .type "list_iterator", data := .fields #[.ref a, .int 0 0] }).push (seqObj "list" #[] 0)).get? s.heap.objs.size = some { cls := .type "list_iterator", data := .fields #[.ref a, .int 0 0] } :=
    Heap.get?_push_of_some _ (Heap.get?_push_size _ rfl)
  have gS : ((s.heap.push { cls := .type "list_iterator", data := .fields #[.ref a, .int 0 0] }).push (seqObj "list" #[] 0)).get? (s.heap.push { cls := .type "list_iterator", data := .fields #[.ref a, .int 0 0] }).objs.size = some (seqObj "list" #[] 0) := Heap.get?_push_size _ rfl
  have fI : FpOk X pins H s.heap.objs.size := I.fpOk (Nat.le_refl _) (I.hok.fresh (Nat.le_refl _))
  have fS : FpOk X pins H (s.heap.push { cls := .type "list_iterator", data := .fields #[.ref a, .int 0 0] }).objs.size := I.fpOk (by rw [hS]; exact Nat.le_succ _) (I.hok.fresh (by rw [hS]; exact Nat.le_succ _))
  generalize hSa : (s.heap.push { cls := .type "list_iterator", data := .fields #[.ref a, .int 0 0] }).objs.size = S at *
  generalize hIa : s.heap.objs.size = It at *
  have I0 : L2.Inv X pins σ H { s with heap := (s.heap.push { cls := .type "list_iterator", data := .fields #[.ref a, .int 0 0] }).push (seqObj "list" #[] 0), toks := s.toks } := I.kept (t' := s.toks) old
  obtain ⟨its0, rv0, hl0, _⟩ := I0.list (hW _ _ hw)
  have hits0 : its0.length = xs.length := rv0.length.symm
  have Wk := Walks.list (prog := X.prog) (w := X.w) (A := X.A.in1) (I.ok.hd hc) It a haI its0.toArray
  have hsz : its0.toArray.size = its0.length := List.size_toArray ..
  refine codeAny_builtin PySem.F.entry_min_loop ?_
  rw [Around.under_plainId PySem.F.plain_min_loop _]
  show wpAny _ X.A.in1 (seqItems? (.ref _) >>= _) _ _ _
  refine wpAny_bind (wpAny_seqItems gS rfl ?_)
  show wpAny _ X.A.in1 (tryCatch (pyNext (.ref It)) _ >>= _) _ _ _
  refine wpAny_bind (wpAny_tryCatch (Wk.item 0 _ _ _ (by rw [hsz, hits0]; exact hpos) ⟨⟨_, gI, rfl, rfl⟩, hl0.isList⟩ fun v h' tk' hP hst' hk' => ?_))
  have hv : its0[0]? = some v := by simpa using hP
  obtain ⟨x, hx, rx⟩ : ∃ x, xs[0]? = some x ∧ RelV x v := by
    rcases vals_get rv0 0 with ⟨_, h2⟩ | ⟨x, u, h1, h2, h3⟩
    · rw [hv] at h2; cases h2
    · rw [hv] at h2; cases h2; exact ⟨x, h1, h3⟩
  obtain ⟨oI', hoI', hoc, hod⟩ := id hst'.1
  have I1 : L2.Inv X pins σ H { s with heap := h', toks := tk' } := Inv.turnedL (s := { s with heap := (s.heap.push { cls := .type "list_iterator", data := .fields #[.ref a, .int 0 0] }).push (seqObj "list" #[] 0), toks := s.toks }) (ch := [It]) I0 (fun b o hb q => hk' b o hb q) fun b hb => by rw [List.mem_singleton.mp hb]; exact fI
  have hS' := hk' S _ (by simpa using hSI) gS
  have I2 := pins_two I1 hS' hoI' fS fI (fun _ q => by cases q) (fun _ q => by rw [hod] at q; cases q)
  show wpAny _ X.A.in1 (tryCatch (holding [v] (call (.ref f) [v])) _ >>= _) _ _ _
  refine wpAny_bind (wpAny_tryCatch (wpAny_holding (wpAny_mono (arg_run (A := X.A.in1) F hb rfl hr.in1 I2 rx (step 0 H x hw hx)) (fun y s'' he => ?_) fun _ _ hF => hF)))
  obtain ⟨y', H', I3, ry, ey, hw'⟩ := he
  subst ey
  obtain ⟨t2, rfl⟩ := ry
  have pS := I3.pin (S, _) (List.mem_append_right _ (List.mem_append_right _ (.head _)))
  have pI := I3.pin (It, oI') (List.mem_append_right _ (List.mem_append_right _ (.tail _ (.head _))))
  have I4 : L2.Inv X pins σ H' s'' := I3.unpinned
  obtain ⟨h2, g2, d2, tk2, os2⟩ := s''
  have s1 := Heap.SameBut.update h2 S (Obj.mapSeq fun _ => #[v, .str (kf 0) t2])
  obtain ⟨c2, hc2⟩ : ∃ c2, (h2.update S (Obj.mapSeq fun _ => #[v, .str (kf 0) t2])).get? S = some (seqObj "list" #[v, .str (kf 0) t2] c2) := ⟨_, get?_update_seq pS.1 fun _ => #[v, .str (kf 0) t2]⟩
  show wpAny _ X.A.in1 (updateSeq S (fun _ => #[v, .str (kf 0) t2]) >>= _) _ _ _
  refine wpAny_bind ?_
  refine wpAny_updateSeq pS.1 rfl ?_
  rw [hname]
  refine wpAny_pure ⟨plainId_quiet PySem.F.plain_min_loop _, mk_loop hc F hb hr kf W hW step haI hSI (fun i x u s' H' hx rx hl hw I => ?_) _ 0 0 _ H' v t2 c2 oI' rfl hpos (I4.turnedL (ch := [S]) (fun b o hb q => (s1.2 b (fun z => hb (by simp [z]))).trans q) fun b hb => by rw [List.mem_singleton.mp hb]; exact fp_to fS pS.2.1) hw' (fp_to fS pS.2.1) (fp_to fI pI.2.1) hc2 ((s1.2 It hSI.symm).trans pI.1) ⟨oI', (s1.2 It hSI.symm).trans pI.1, hoc, hod⟩ ⟨x, hx, rx⟩ (Nat.le_refl _) fun j' hj' => ?_⟩
  · exact ⟨x, H', I, rx, q i x H' hx hl hw⟩
  · have e : j' = 0 := by omega
    subst e
    exact ⟨List.lt_irrefl _, fun h => absurd h (Nat.lt_irrefl _)⟩
end
end Ms

/-! Lay35: == and != by an own __eq__, whatever stands on the right. -/
namespace Ms
open PySem PySem.Spec PyProof.Rows L2
theorem ne_bind (self : Value) : bindSpecial (.builtin "object.__ne__") self = pure (.builtin "object.__ne__", [self]) :=
  (Slot.of (T := "object") (name := "__ne__") (owner := "object") (n := "__ne__") (by rw [typeLookup_type, builtinLookup_eq_fast]; kernel_rfl) (by decide +kernel) (by decide +kernel) (by decide +kernel)
    (.inl (by decide +kernel)) (by rw [isSubtype_type]; kernel_rfl)).bind self
section
variable {prog : Program} {w : World} {A : Around} {E : Value → Shared → Prop} {s : Shared} {K : PySem.W.Frag} {x C L f : Addr} {h₀ : Heap} {m : Str → Option Value} {ox : Obj} {od : Option Obj} {b tb : Value}
theorem check_slot_K {id owner n : String} {rest : List Value} {Q : Unit → Shared → Prop} (hk : builtinKind id = some .slot) (hs : splitId id = some (owner, n)) (ha : argsOk id ⟨.ref x :: rest, []⟩) (I : PySem.W.InstAt s.heap x ox C od) (X : K.In s.heap) (hm : PySem.W.subIn K (.ref C) (.type owner) = some true) (hq : Q () s) :
    wpAny (model prog w) A (checkBuiltinCall id ⟨.ref x :: rest, []⟩) Q E s := by
  simp only [checkBuiltinCall, hk, hs]
  have hi : ∀ {Q' : Bool → Shared → Prop}, Q' true s → wpAny (model prog w) A (isInstance (.ref x) (.type owner)) Q' E s := fun q => by
    unfold isInstance
    exact wpAny_bind (I.type.here ((PySem.W.looks_subIn X hm).here q))
  refine wpAny_bind (hi ?_)
  simp only [Bool.not_true, Bool.false_eq_true, if_false]
  cases hsig : Manifest.signature? id with
  | none => exact wpAny_pure hq
  | some sig =>
    simp only [argsOk, hsig] at ha
    have h2 : Bind.checkArgs id sig ⟨.ref x :: rest, []⟩ = pure () := ha
    show wpAny (model prog w) A (Bind.checkArgs id sig ⟨.ref x :: rest, []⟩) Q E _
    rw [h2]; exact wpAny_pure hq
theorem ne_K {Q : Value → Shared → Prop} (hu : A.units + 1 < cLine) (F : Fr h₀ L s.heap m) (X₀ : K.In h₀) (I : PySem.W.InstAt s.heap x ox C od) (hb : PySem.W.Looks (model prog w) s.heap (typeOf b) tb) (hn : PySem.W.notFirst K C tb = true)
    (hs : PySem.W.findIn K (.ref C) "__ne__" = some (some (.builtin "object.__ne__"))) (hm : PySem.W.subIn K (.ref C) (.type "object") = some true) (he : PySem.W.findIn K (.ref C) "__eq__" = some (some (.ref f))) (hf : PySem.W.isFn K (.ref f) = true)
    (h : wpAny (model prog w) A.in1 (call (.ref f) [.ref x, b]) (fun v s' => ∃ r, v = .bool r ∧ Q (.bool (!r)) s') E s) : wpAny (model prog w) A (richCompare .NotEq (.ref x) b) Q E s := by
  have X := X₀.keeps F.keep
  have body : wpAny (model prog w) A.in1 (Builtin.«object.__ne__» ⟨[.ref x, b], []⟩) (fun fin s' => ∃ r, fin = .done (.ret (.bool (!r))) ∧ Q (.bool (!r)) s') E s := by
    show wpAny _ A.in1 (cRoomFor "comparison" [.ref x, b] >>= _) _ _ s
    refine wpAny_bind (wpAny_cRoomFor hu ?_)
    refine wpAny_bind (PySem.W.ifBound_K X I he hf (wpAny_mono h (fun v s' hv => ?_) fun _ _ e => e))
    obtain ⟨r, rfl, q⟩ := hv
    show wpAny _ A.in1 (truthy (.bool r) >>= _) _ _ s'
    exact wpAny_bind (wpAny_truthy_bool (wpAny_pure ⟨r, rfl, q⟩))
  have one : wpAny (model prog w) A (tryCompare (.ref x) "__ne__" b) (fun r s' => ∃ v, r = some v ∧ Q v s') E s := by
    unfold tryCompare
    refine wpAny_bind ?_
    simp only [callSpecialIfBound?, bindSpecialIfBound?]
    refine wpAny_holding (wpAny_bind (wpAny_bind (wpAny_bind (I.type.here ((PySem.W.looks_findIn X hs).here ?_)))))
    simp only [ne_bind]
    refine wpAny_bind (wpAny_askSetting (wpAny_ite ?_))
    have fin : wpAny (model prog w) A (call (.builtin "object.__ne__") ([.ref x] ++ [b]) >>= fun v => pure (some v)) (fun r s' => wpAny (model prog w) A (match r with | some .notImplemented | none => pure none | some v => pure (some v)) (fun r s' => ∃ v, r = some v ∧ Q v s') E s') E s := by
      refine wpAny_bind (wpAny_call (codeAny_call_builtin (b := Builtin.«object.__ne__») (by decide +kernel) PySem.F.cmpEntry_ne ?_))
      have fin2 : wpAny (model prog w) A.in1 (Builtin.«object.__ne__» ⟨[.ref x, b], []⟩) (fun fin s' => match fin with
          | .done f => (match (Except.ok f : Result) with | .ok (.ret v) => wpAny (model prog w) A (pure (some v)) (fun r s' => wpAny (model prog w) A (match r with | some .notImplemented | none => pure none | some v => pure (some v)) (fun r s' => ∃ v, r = some v ∧ Q v s') E s') E s' | .ok _ => False | .error e => E e s')
          | .again c' => c'.quiet = true ∧ codeAny (model prog w) A c' (fun r s' => match r with | .ok (.ret v) => wpAny (model prog w) A (pure (some v)) (fun r s' => wpAny (model prog w) A (match r with | some .notImplemented | none => pure none | some v => pure (some v)) (fun r s' => ∃ v, r = some v ∧ Q v s') E s') E s' | .ok _ => False | .error e => E e s') s') E s := by
        refine wpAny_mono body (fun fin s' hv => ?_) fun _ _ e => e
        obtain ⟨r, rfl, q⟩ := hv
        exact wpAny_pure (wpAny_pure ⟨_, rfl, q⟩)
      exact check_slot_K PySem.F.cmpKind_ne PySem.F.cmpSplit_ne (PySem.F.cmpArgs_ne _ _) I X hm fin2
    split
    · exact wpAny_bind (wpAny_pure (wpAny_pure fin))
    · exact wpAny_tryCatch (wpAny_bind (wpAny_pure (wpAny_pure fin)))
  unfold richCompare
  simp only [oneThing_ref]
  refine wpAny_holding (wpAny_bind (wpAny_cRoomFor (by omega) ?_))
  refine wpAny_bind (I.type.here (wpAny_bind (hb.here ?_)))
  split
  · rename_i q
    have e : PySem.W.subIn K tb (.ref C) = some false := by
      rcases Bool.or_eq_true_iff.mp hn with e | e
      · rw [beq_iff_eq.mp e] at q; simp at q
      · exact beq_iff_eq.mp e
    refine wpAny_bind ((PySem.W.looks_subIn X e).here ?_)
    simp only [Bool.false_eq_true, if_false]
    refine wpAny_bind (wpAny_mono one (fun r s' z => ?_) fun _ _ e => e)
    obtain ⟨v, rfl, hq⟩ := z
    exact wpAny_pure hq
  · refine wpAny_bind (wpAny_pure ?_)
    simp only [Bool.false_eq_true, if_false]
    refine wpAny_bind (wpAny_mono one (fun r s' z => ?_) fun _ _ e => e)
    obtain ⟨v, rfl, hq⟩ := z
    exact wpAny_pure hq
end
end Ms

/-! Lay36: == and != of own classes, min with a key, over data. -/
namespace Ms
open PySem PySem.Spec PyProof.Rows L2
/-! ### the machine's rules -/
def ngB (neg r : Bool) : Bool := if neg then !r else r
def rCmpOwn (K : PySem.W.Frag) (C : Addr) (sp : Sp) (neg : Bool) : R2 := fun x y H Q => ∃ a dx fs t, x = .ref a ∧ H a = some (.ins C dx fs) ∧ TyX K H y t ∧ PySem.W.notFirst K C t = true ∧ sp [.ref a, y] H (fun v H' => ∃ r, v = .bl r ∧ Q (.bl (ngB neg r)) H') E0
section
variable {X : Cx} {k : Nat} {C : Addr} {ps : List Str} {sp : Sp}
theorem arg_run2 {f : Addr} {fd : FuncData} (F : FnOk X.prog X.w X.K X.mg X.base CX0 k f fd ps sp) (hb : Binds X.K fd ps []) {A : Around} (hf : A.frames = X.A.frames) (hr : Room k A) {pins : List (Addr × Obj)} {s : Shared} {σ : L2.St} {H : Hp} {x y : V} {u v : Value} {Q : VK} {E : Value → Shared → Prop} (I : L2.Inv X pins σ H s) (rx : RelV x u) (ry : RelV y v) (q : sp [x, y] H Q E0) :
    wpAny (model X.prog X.w) A (call (.ref f) [u, v]) (EP X pins σ Q) E s := by
  have e0 : Env0 X.prog X.w X.K X.mg X.base A X.stack s H := by
    have e := I.env0
    exact ⟨by rw [hf]; exact e.frames, e.mod, e.bs, e.bsz, e.funs, e.frf, e.hok, e.bare⟩
  have hl := F.len _ _ _ _ q
  refine wpAny_call (codeAny_mono (F.run A X.stack s H ⟨[u, v], []⟩ [u, v] [x, y] _ E0 hr e0 (by
    have := hb s [u, v] I.kIn (by simpa using hl)
    simpa using this) (.cons rx (.cons ry .nil)) q) fun r s' hq => ?_)
  cases r with
  | error e => exact hq.elim
  | ok fl =>
    cases fl with
    | ret w => exact I.after hq
    | next => exact hq.elim
    | brk => exact hq.elim
    | cont => exact hq.elim
theorem op_eqOwn (F : Me X.prog X.w X.K X.mg X.base k C "__eq__" ps sp) (hr : Room k X.A) : OpR X (compareOp .Eq) (rCmpOwn X.K C sp false) := by
  intro pins s σ H x y v u Q I rx ry hq
  obtain ⟨a, dx, fs, t, rfl, ha, ty, hn, q⟩ := hq
  cases rx
  obtain ⟨f, fd, h1, h2, h3, h4⟩ := F.ex
  obtain ⟨mA, J, _⟩ := ins_get I.hok ha
  obtain ⟨od, J, _⟩ := J.look
  obtain ⟨m, hF⟩ := I.fr
  obtain ⟨P, kx, hp, _⟩ := kit_of I ry ty
  show wpAny (model X.prog X.w) X.A (richCompare .Eq (.ref a) u) (EP X pins σ Q) X.xe s
  refine PySem.W.cmp_K (op := .Eq) (tb := t) hr.units0 hF I.ok.mod.kin J (kx.ty _ _ I.kIn hp) hn h2.at_ h2.fn (wpAny_mono (arg_run2 (A := X.A) (x := .ref a) h1 h4 rfl hr I rfl ry q) (fun w s' z => ?_) fun _ _ x => x)
  obtain ⟨y', H', I', ry', r, e, qq⟩ := z
  subst e
  cases ry'
  exact ⟨.bl r, H', I', rfl, qq⟩
theorem op_neOwn (F : Me X.prog X.w X.K X.mg X.base k C "__eq__" ps sp) (hne : PySem.W.findIn X.K (.ref C) "__ne__" = some (some (.builtin "object.__ne__"))) (hm : PySem.W.mroIn X.K C (.type "object") = some true) (hr : Room (k + 1) X.A) : OpR X (compareOp .NotEq) (rCmpOwn X.K C sp true) := by
  intro pins s σ H x y v u Q I rx ry hq
  obtain ⟨a, dx, fs, t, rfl, ha, ty, hn, q⟩ := hq
  cases rx
  obtain ⟨f, fd, h1, h2, h3, h4⟩ := F.ex
  obtain ⟨mA, J, _⟩ := ins_get I.hok ha
  obtain ⟨od, J, _⟩ := J.look
  obtain ⟨m, hF⟩ := I.fr
  obtain ⟨P, kx, hp, _⟩ := kit_of I ry ty
  show wpAny (model X.prog X.w) X.A (richCompare .NotEq (.ref a) u) (EP X pins σ Q) X.xe s
  refine ne_K (tb := t) hr.in1.units0 hF I.ok.mod.kin J (kx.ty _ _ I.kIn hp) hn hne hm h2.at_ h2.fn (wpAny_mono (arg_run2 (A := X.A.in1) (x := .ref a) h1 h4 rfl hr.in1 I rfl ry q) (fun w s' z => ?_) fun _ _ x => x)
  obtain ⟨y', H', I', ry', r, e, qq⟩ := z
  subst e
  cases ry'
  exact ⟨r, rfl, .bl (!r), H', I', rfl, qq⟩
theorem call_minF {x : Str} {f : Addr} (F : Fn X.prog X.w X.K X.mg X.base k x ps sp) (g : X.mg x = some (.ref f)) (hc : X.calm = true) (hr : Room (k + 1) X.A) : CallRK X (.builtin "min") [Str.ofString "key"] (rMinK X.K f sp) := by
  obtain ⟨f', fd, F1, g1, kp, b⟩ := F.ex
  rw [g] at g1; cases g1
  exact call_minK hc F1 b hr
end
/-! ### over data -/
section
variable {K : PySem.W.Frag} {δ : List Sl}
theorem cmp_own {C : Addr} {A : FS} {neg : Bool} {fs : List (Str × D)} {d : D} {t : Value} {Ψ : D → Prop} (ht : ∀ G H v, Same G H → Rep K G d v → TyX K H v t) (hn : PySem.W.notFirst K C t = true) (h : A [.ins C fs, d] fun r => ∃ b, r = .val (.bl b) ∧ Ψ (.bl (ngB neg b))) : R2D K (rCmpOwn K C (spG K A) neg) (.ins C fs) d Ψ := fun G H v w s rx ry Q q => by
  obtain ⟨a, dx, xs, rfl, hx, rf⟩ := rx.ins_inv
  refine ⟨a, dx, xs, t, rfl, s _ _ hx, ht G H w s ry, hn, G, _, _, s, .cons rx (.one ry), h, fun r v G' H' g ok ⟨b, e, k⟩ => ?_⟩
  subst e
  have e2 := (show Rep K G' (.bl b) v from ok).bl_inv
  subst e2
  exact ⟨b, rfl, q _ _ G' H' g (rep_bl _) k⟩
theorem ty_blt {d : D} {t : String} (h : tyN d = some t) : ∀ G H v, Same G H → Rep K G d v → TyX K H v (.type t) := fun G H v s r => tyX_of s h r
theorem ty_ins {C : Addr} {fs : List (Str × D)} (h : InsT K C) : ∀ G H v, Same G H → Rep K G (.ins C fs) v → TyX K H v (.ref C) := fun G H v s r => tyX_ins s h r
theorem notFirst_self (C : Addr) : PySem.W.notFirst K C (.ref C) = true := by simp [PySem.W.notFirst]
theorem notFirst_blt {C : Addr} {d : D} {t : String} (h : tyN d = some t) : PySem.W.notFirst K C (.type t) = true := by
  have key : ∀ (t b1 b2 : String) (l : List Value), fastBuiltinMro t = some l → (∀ v ∈ l, ∃ n, v = Value.type n) → PySem.W.notFirst K C (.type t) = true := fun t b1 b2 l e hv => by
    have : ¬ Value.ref C ∈ l := fun hc => by
      obtain ⟨n, e⟩ := hv _ hc
      cases e
    simp [PySem.W.notFirst, PySem.W.subIn, e, this]
  have k2 : ∀ (t b : String), fastBuiltinMro t = some [.type t, .type "object"] → PySem.W.notFirst K C (.type t) = true := fun t b e => key t b b _ e (by simp)
  cases d with
  | non => cases h; exact k2 "NoneType" "" (by kernel_rfl)
  | bl b => cases h; exact key "bool" "" "" [.type "bool", .type "int", .type "object"] (by kernel_rfl) (by simp)
  | int i => cases h; exact k2 "int" "" (by kernel_rfl)
  | str z => cases h; exact k2 "str" "" (by kernel_rfl)
  | lst l => cases h; exact k2 "list" "" (by kernel_rfl)
  | tup l => cases h; exact k2 "tuple" "" (by kernel_rfl)
  | dic l => cases h; exact k2 "dict" "" (by kernel_rfl)
  | ins C fs => cases h
  | scr ns => cases h
  | ty n => cases h
  | cls C => cases h
  | «at» a => cases h
  | dz kvs => cases h
theorem ev_minK {A : FS} {f : Addr} {te : TE} {key : D → Str} {Φ : D → List Sl → Prop} (h : EvD K te δ fun d δ1 => ∃ ls, d = .lst ls ∧ ls ≠ [] ∧ (∀ l ∈ ls, ∀ post : Rs → Prop, post (.val (.str (key l))) → A [l] post) ∧ ∀ d ∈ ls, (∀ e ∈ ls, ¬ (key e).cps.toList < (key d).cps.toList) → Φ d δ1) :
    EvD K (tCKw (rMinK K f (spG K A)) (tCons te tNil) (tCons (tC (.ref f)) tNil)) δ Φ := fun M L G0 H0 G H σ c Q q =>
  h M L G0 H0 G H σ c _ fun d δ1 v G1 H1 s1 c1 r1 ⟨ls, e, hne, hA, hk⟩ => by
    subst e
    obtain ⟨a, xs, rfl, hx, rx⟩ := r1.lst_inv
    refine ⟨a, xs, fun i => key (ls.getD i .non), fun i H' => ∃ G', Cur K M L G0 H0 G' H' σ δ1 ∧ Same G1 G', rfl, rfl, fun z => hne ?_, ⟨G1, c1, .refl _⟩, fun i H' ⟨G', c', s'⟩ => SqL.of (c'.gh _ _ (s' _ _ hx)), fun i H' x ⟨G', c', s'⟩ ex => ?_, fun i x H' ex hl ⟨G', c', s'⟩ => ?_⟩
    · have := rx.len
      rw [z] at this
      exact List.length_eq_zero_iff.mp this.symm
    · obtain ⟨d, hd, rd⟩ := rx.getV ex
      refine ⟨G', [d], _, c'.gh, .one (rd.mono s'), hA d (List.mem_of_getElem? hd) (fun r => r = .val (.str (key d))) rfl, fun r v G2 H2 g ok e => ?_⟩
      subst e
      have e2 := (show Rep K G2 (.str (key d)) v from ok).str_inv
      subst e2
      refine ⟨?_, G2, c'.grow g, s'.trans g.g⟩
      show V.str (key d) = V.str (key (ls.getD i .non))
      rw [List.getD_eq_getElem?_getD, hd]; rfl
    · obtain ⟨d, hd, rd⟩ := rx.getV ex
      refine q d δ1 x G' H' (s1.trans s') c' (rd.mono s') (hk d (List.mem_of_getElem? hd) fun e he => ?_)
      obtain ⟨j, hj⟩ := List.mem_iff_getElem?.mp he
      have hjl : j < xs.length := by rw [rx.len]; exact (List.getElem?_eq_some_iff.mp hj).1
      have : ¬ (key (ls.getD j .non)).cps.toList < (key (ls.getD i .non)).cps.toList := (hl j hjl).1
      rw [List.getD_eq_getElem?_getD, List.getD_eq_getElem?_getD, hd, hj] at this
      exact this
end
end Ms

/-! Lay37: rings: all readings of a reading, the text of a reading, the canonical one. -/
namespace Ms
open PySem PySem.Spec PyProof.Rows L2
/-! ### lists turned round -/
section
variable {α : Type}
def Rg (xs ys : List α) : Prop := ∃ a b, xs = a ++ b ∧ ys = b ++ a
theorem Rg.refl (xs : List α) : Rg xs xs := ⟨[], xs, rfl, by simp⟩
theorem Rg.symm {xs ys : List α} (h : Rg xs ys) : Rg ys xs := let ⟨a, b, h1, h2⟩ := h; ⟨b, a, h2, h1⟩
theorem Rg.trans {xs ys zs : List α} (h : Rg xs ys) (h' : Rg ys zs) : Rg xs zs := by
  obtain ⟨a, b, rfl, rfl⟩ := h
  obtain ⟨c, d, e, rfl⟩ := h'
  rcases List.append_eq_append_iff.mp e with ⟨u, rfl, rfl⟩ | ⟨u, rfl, rfl⟩
  · exact ⟨u, d ++ b, by simp, by simp⟩
  · exact ⟨a ++ c, u, by simp, by simp⟩
theorem Rg.map {β : Type} {xs ys : List α} (f : α → β) (h : Rg xs ys) : Rg (xs.map f) (ys.map f) := by
  obtain ⟨a, b, rfl, rfl⟩ := h
  exact ⟨a.map f, b.map f, by simp, by simp⟩
theorem Rg.rev {xs ys : List α} (h : Rg xs ys) : Rg xs.reverse ys.reverse := by
  obtain ⟨a, b, rfl, rfl⟩ := h
  exact ⟨b.reverse, a.reverse, by simp, by simp⟩
theorem Rg.len {xs ys : List α} (h : Rg xs ys) : ys.length = xs.length := by
  obtain ⟨a, b, rfl, rfl⟩ := h
  simp; omega
theorem Rg.mem {xs ys : List α} (h : Rg xs ys) {x : α} : x ∈ ys ↔ x ∈ xs := by
  obtain ⟨a, b, rfl, rfl⟩ := h
  simp [or_comm]
/-- from the other side -/
def bk (g : α → α) (xs : List α) : List α := xs.reverse.map g
theorem bk_len (g : α → α) (xs : List α) : (bk g xs).length = xs.length := by simp [bk]
theorem Rg.bk {g : α → α} {xs ys : List α} (h : Rg xs ys) : Rg (bk g xs) (bk g ys) := h.rev.map g
theorem bk_bk {g : α → α} {xs : List α} (h : ∀ x ∈ xs, g (g x) = x) : bk g (bk g xs) = xs := by
  unfold Ms.bk
  rw [← List.map_reverse, List.reverse_reverse, List.map_map]
  conv => rhs; rw [← List.map_id xs]
  exact List.map_congr_left fun x hx => h x hx
def Rdg (g : α → α) (xs ys : List α) : Prop := Rg xs ys ∨ Rg (bk g xs) ys
def Inv2 (g : α → α) (xs : List α) : Prop := ∀ x ∈ xs, g (g x) = x
theorem Inv2.bk {g : α → α} {xs : List α} (h : Inv2 g xs) : Inv2 g (bk g xs) := fun x hx => by
  unfold Ms.bk at hx
  obtain ⟨y, hy, rfl⟩ := List.mem_map.mp hx
  rw [h y (by simpa using hy)]
theorem Rdg.refl {g : α → α} (xs : List α) : Rdg g xs xs := .inl (.refl _)
theorem Rdg.symm {g : α → α} {xs ys : List α} (hg : Inv2 g xs) (h : Rdg g xs ys) : Rdg g ys xs := by
  rcases h with h | h
  · exact .inl h.symm
  · refine .inr ?_
    have := h.bk (g := g)
    rw [bk_bk hg] at this
    exact this.symm
theorem Rdg.trans {g : α → α} {xs ys zs : List α} (hg : Inv2 g xs) (h : Rdg g xs ys) (h' : Rdg g ys zs) : Rdg g xs zs := by
  rcases h with h | h
  · rcases h' with h' | h'
    · exact .inl (h.trans h')
    · exact .inr (h.bk.trans h')
  · rcases h' with h' | h'
    · exact .inr (h.trans h')
    · refine .inl ?_
      have := h.bk (g := g)
      rw [bk_bk hg] at this
      exact this.trans h'
theorem Rdg.inv {g : α → α} {xs ys : List α} (hg : Inv2 g xs) (h : Rdg g xs ys) : Inv2 g ys := fun x hx => by
  rcases h with h | h
  · exact hg x (h.mem.mp hx)
  · exact hg.bk x (h.mem.mp hx)
/-- all turns by single steps -/
def rots1 (xs : List α) : List (List α) := (List.range (max 1 xs.length)).map fun k => xs.drop k ++ xs.take k
theorem mem_rots1 {xs ys : List α} : ys ∈ rots1 xs ↔ Rg xs ys := by
  unfold rots1
  rw [List.mem_map]
  constructor
  · rintro ⟨k, _, rfl⟩
    exact ⟨xs.take k, xs.drop k, by simp, rfl⟩
  · rintro ⟨a, b, rfl, rfl⟩
    by_cases hb : b = []
    · subst hb
      exact ⟨0, by rw [List.mem_range]; omega, by simp⟩
    · have := List.length_pos_iff.mpr hb
      exact ⟨a.length, by rw [List.mem_range, List.length_append]; omega, by simp⟩
/-- by two steps -/
def rots2 (xs : List α) : List (List α) := (List.range (xs.length / 2)).map fun k => xs.drop (2 * k) ++ xs.take (2 * k)
theorem mem_rots2 {xs ys : List α} (he : xs.length % 2 = 0) (hp : 2 ≤ xs.length) : ys ∈ rots2 xs ↔ ∃ a b, xs = a ++ b ∧ ys = b ++ a ∧ a.length % 2 = 0 := by
  unfold rots2
  rw [List.mem_map]
  constructor
  · rintro ⟨k, hk, rfl⟩
    rw [List.mem_range] at hk
    refine ⟨xs.take (2 * k), xs.drop (2 * k), by simp, rfl, ?_⟩
    rw [List.length_take]; omega
  · rintro ⟨a, b, rfl, rfl, ha⟩
    by_cases hb : b = []
    · subst hb
      exact ⟨0, by rw [List.mem_range]; omega, by simp⟩
    · have := List.length_pos_iff.mpr hb
      rw [List.length_append] at he
      refine ⟨a.length / 2, by rw [List.mem_range, List.length_append]; omega, ?_⟩
      rw [show 2 * (a.length / 2) = a.length by omega]
      simp
end
/-! ### readings -/
theorem itemsFrom_app : ∀ (a b : List D) (n : Nat), itemsFrom n (a ++ b) = (itemsFrom n a && itemsFrom (n + a.length) b)
  | [], b, n => by simp [itemsFrom]
  | x :: a, b, n => by
    rw [List.cons_append, itemsFrom, itemsFrom, itemsFrom_app a b (n + 1), List.length_cons, Bool.and_assoc]
    rw [show n + 1 + a.length = n + (a.length + 1) by omega]
theorem itemsFrom_par : ∀ (a : List D) (n m : Nat), n % 2 = m % 2 → itemsFrom n a = itemsFrom m a
  | [], _, _, _ => rfl
  | x :: a, n, m, h => by
    rw [itemsFrom, itemsFrom, h, itemsFrom_par a (n + 1) (m + 1) (by omega)]
theorem itemsFrom_at : ∀ {a : List D} {n i : Nat} {d : D}, itemsFrom n a = true → a[i]? = some d → (if (n + i) % 2 = 1 then isMarker d else isPiece d) = true
  | [], _, _, _, _, e => by simp at e
  | x :: a, n, 0, d, h, e => by
    simp at e; subst e
    rw [itemsFrom, Bool.and_eq_true] at h
    exact h.1
  | x :: a, n, i + 1, d, h, e => by
    rw [itemsFrom, Bool.and_eq_true] at h
    have := itemsFrom_at (i := i) h.2 (by simpa using e)
    rw [show n + 1 + i = n + (i + 1) by omega] at this
    exact this
theorem itemsFrom_of : ∀ {a : List D} {n : Nat}, (∀ (i : Nat) d, a[i]? = some d → (if (n + i) % 2 = 1 then isMarker d else isPiece d) = true) → itemsFrom n a = true
  | [], _, _ => rfl
  | x :: a, n, h => by
    rw [itemsFrom, Bool.and_eq_true]
    refine ⟨by simpa using h 0 x rfl, itemsFrom_of fun i d e => ?_⟩
    have := h (i + 1) d (by simpa using e)
    rw [show n + (i + 1) = n + 1 + i by omega] at this
    exact this
theorem piece_inv {d : D} (h : isPiece d = true) : ∃ z, d = .str z ∧ pieceS z = true := by
  cases d with
  | str z => exact ⟨z, rfl, h⟩
  | _ => cases h
theorem marker_inv {d : D} (h : isMarker d = true) : ∃ m : Mk, d = mkD m ∧ nameS m.1 = true := by
  cases d with
  | tup l =>
    match l, h with
    | [a, b], h =>
      have h2 : (isName a && isBl b) = true := h
      rw [Bool.and_eq_true] at h2
      cases a with
      | str z =>
        cases b with
        | bl q => exact ⟨(z, q), rfl, h2.1⟩
        | _ => cases h2.2
      | _ => cases h2.1
  | _ => cases h
theorem flI_piece {z : Str} (h : pieceS z = true) : isPiece (flI (.str z)) = true ∧ flI (flI (.str z)) = .str z := ⟨flS_piece h, by show D.str (flS (flS z)) = _; rw [flS_twice h]⟩
theorem flI_marker {m : Mk} (h : nameS m.1 = true) : isMarker (flI (mkD m)) = true ∧ flI (flI (mkD m)) = mkD m := ⟨by show (nameS m.1 && true) = true; rw [h]; rfl, by show D.tup [_, .bl (!!m.2)] = _; rw [Bool.not_not]; rfl⟩
/-- a reading of pieces and markers -/
structure RgOk (xs : List D) : Prop where
  ev : xs.length % 2 = 0
  two : 2 ≤ xs.length
  it : itemsFrom 0 xs = true
theorem RgOk.item {xs : List D} (h : RgOk xs) {d : D} (hd : d ∈ xs) : isPiece d = true ∨ isMarker d = true := by
  obtain ⟨i, hi⟩ := List.mem_iff_getElem?.mp hd
  have := itemsFrom_at h.it hi
  split at this
  · exact .inr this
  · exact .inl this
theorem RgOk.inv2 {xs : List D} (h : RgOk xs) : Inv2 flI xs := fun d hd => by
  rcases h.item hd with h | h
  · obtain ⟨z, rfl, hz⟩ := piece_inv h
    exact (flI_piece hz).2
  · obtain ⟨m, rfl, hm⟩ := marker_inv h
    exact (flI_marker hm).2
theorem RgOk.rot {a b : List D} (h : RgOk (a ++ b)) (ha : a.length % 2 = 0) : RgOk (b ++ a) := by
  have h1 := h.ev
  have h2 := h.two
  rw [List.length_append] at h1 h2
  refine ⟨by rw [List.length_append]; omega, by rw [List.length_append]; omega, ?_⟩
  have h3 := h.it
  rw [itemsFrom_app, Bool.and_eq_true] at h3 ⊢
  refine ⟨?_, ?_⟩
  · rw [itemsFrom_par b 0 (0 + a.length) (by omega)]; exact h3.2
  · rw [itemsFrom_par a (0 + b.length) 0 (by omega)]; exact h3.1
def fl1 (xs : List D) : List D := (bk flI xs).drop 1 ++ (bk flI xs).take 1
theorem bk_items {xs : List D} (h : RgOk xs) : itemsFrom 1 (bk flI xs) = true := by
  refine itemsFrom_of fun i d e => ?_
  have hi : i < xs.length := by
    have := (List.getElem?_eq_some_iff.mp e).1
    rw [bk_len] at this; exact this
  unfold bk at e
  rw [List.getElem?_map, List.getElem?_reverse hi] at e
  have hj : xs.length - 1 - i < xs.length := by omega
  rw [List.getElem?_eq_getElem hj] at e
  have ed : d = flI xs[xs.length - 1 - i] := (Option.some.inj e).symm
  have hx := itemsFrom_at h.it (List.getElem?_eq_getElem hj)
  have hev := h.ev
  subst ed
  by_cases hp : (1 + i) % 2 = 1
  · rw [if_pos hp]
    rw [if_pos (by omega)] at hx
    obtain ⟨m, em, hm⟩ := marker_inv hx
    rw [em]; exact (flI_marker hm).1
  · rw [if_neg hp]
    rw [if_neg (by omega)] at hx
    obtain ⟨z, ez, hz⟩ := piece_inv hx
    rw [ez]; exact (flI_piece hz).1
theorem fl1_rg (xs : List D) : Rg (bk flI xs) (fl1 xs) := ⟨(bk flI xs).take 1, (bk flI xs).drop 1, (List.take_append_drop _ _).symm, rfl⟩
theorem RgOk.fl {xs : List D} (h : RgOk xs) : RgOk (fl1 xs) := by
  have hl := (fl1_rg xs).len
  rw [bk_len] at hl
  refine ⟨by rw [hl]; exact h.ev, by rw [hl]; exact h.two, ?_⟩
  have hb := bk_items h
  have h2 := h.two
  have e : bk flI xs = (bk flI xs).take 1 ++ (bk flI xs).drop 1 := (List.take_append_drop _ _).symm
  rw [e, itemsFrom_app, Bool.and_eq_true, List.length_take, bk_len, Nat.min_eq_left (by omega)] at hb
  unfold fl1
  rw [itemsFrom_app, Bool.and_eq_true, List.length_drop, bk_len]
  refine ⟨?_, ?_⟩
  · rw [itemsFrom_par _ 0 (1 + 1) (by omega)]; exact hb.2
  · rw [itemsFrom_par _ (0 + (xs.length - 1)) 1 (by have := h.ev; omega)]; exact hb.1
def rdM (xs : List D) : List (List D) := rots2 xs ++ rots2 (fl1 xs)
theorem not_both {d : D} (h1 : isPiece d = true) (h2 : isMarker d = true) : False := by
  obtain ⟨z, rfl, _⟩ := piece_inv h1
  cases h2
theorem rg_even {a b : List D} (h : RgOk (a ++ b)) (h' : RgOk (b ++ a)) (hb : b ≠ []) : a.length % 2 = 0 := by
  by_cases ha : a.length % 2 = 0
  · exact ha
  · exfalso
    have h3 := h.it
    rw [itemsFrom_app, Bool.and_eq_true] at h3
    have h4 := h'.it
    cases b with
    | nil => exact hb rfl
    | cons d r =>
      have e1 := itemsFrom_at h3.2 (i := 0) (d := d) rfl
      have e2 := itemsFrom_at h4 (i := 0) (d := d) rfl
      rw [if_pos (by omega)] at e1
      rw [if_neg (by omega)] at e2
      exact not_both e2 e1
theorem mem_two {xs ys : List D} (h : RgOk xs) (h' : RgOk ys) (r : Rg xs ys) : ys ∈ rots2 xs := by
  rw [mem_rots2 h.ev h.two]
  obtain ⟨a, b, rfl, rfl⟩ := r
  by_cases hb : b = []
  · subst hb
    exact ⟨[], a, by simp, by simp, rfl⟩
  · exact ⟨a, b, rfl, rfl, rg_even h h' hb⟩
theorem two_ok {xs ys : List D} (h : RgOk xs) (hy : ys ∈ rots2 xs) : RgOk ys ∧ Rg xs ys := by
  obtain ⟨a, b, rfl, rfl, ha⟩ := (mem_rots2 h.ev h.two).mp hy
  exact ⟨h.rot ha, ⟨a, b, rfl, rfl⟩⟩
theorem mem_rdM {xs ys : List D} (h : RgOk xs) : ys ∈ rdM xs ↔ RgOk ys ∧ Rdg flI xs ys := by
  unfold rdM
  rw [List.mem_append]
  constructor
  · rintro (hy | hy)
    · obtain ⟨h1, h2⟩ := two_ok h hy
      exact ⟨h1, .inl h2⟩
    · obtain ⟨h1, h2⟩ := two_ok h.fl hy
      exact ⟨h1, .inr ((fl1_rg xs).trans h2)⟩
  · rintro ⟨h', r | r⟩
    · exact .inl (mem_two h h' r)
    · exact .inr (mem_two h.fl h' ((fl1_rg xs).symm.trans r))
/-! one piece alone -/
def rdO (p : Str) : List (List D) := (rots1 (sg p)).map (fun l => [.str ⟨l.toArray⟩]) ++ (rots1 (sg (flS p))).map fun l => [.str ⟨l.toArray⟩]
theorem sg_mk (l : List Nat) : sg ⟨l.toArray⟩ = l := by simp [sg]
theorem mk_sg (p : Str) : (⟨(sg p).toArray⟩ : Str) = p := str_ext (sg_mk _)
theorem mem_rdO {p : Str} {ys : List D} : ys ∈ rdO p ↔ ∃ q, ys = [.str q] ∧ Rdg swapC (sg p) (sg q) := by
  unfold rdO
  rw [List.mem_append, List.mem_map, List.mem_map]
  have e : sg (flS p) = bk swapC (sg p) := rfl
  constructor
  · rintro (⟨l, hl, rfl⟩ | ⟨l, hl, rfl⟩)
    · exact ⟨_, rfl, .inl (by rw [sg_mk]; exact mem_rots1.mp hl)⟩
    · refine ⟨_, rfl, .inr ?_⟩
      rw [sg_mk, ← e]; exact mem_rots1.mp hl
  · rintro ⟨q, rfl, r | r⟩
    · exact .inl ⟨sg q, mem_rots1.mpr r, by rw [mk_sg]⟩
    · exact .inr ⟨sg q, mem_rots1.mpr r, by rw [mk_sg]⟩
theorem inv2_sg {p : Str} (h : pieceS p = true) : Inv2 swapC (sg p) := fun c hc => by
  unfold pieceS at h
  rw [List.all_eq_true] at h
  exact swapC_twice (h c hc)
theorem rd_piece {p q : Str} (h : pieceS p = true) (r : Rdg swapC (sg p) (sg q)) : pieceS q = true := by
  unfold pieceS at *
  rw [List.all_eq_true] at *
  intro c hc
  have hc : c ∈ sg q := hc
  rcases r with r | r
  · exact h c (r.mem.mp hc)
  · have := r.mem.mp hc
    unfold bk at this
    obtain ⟨d, hd, rfl⟩ := List.mem_map.mp this
    exact swapC_ltr (h d (by simpa using hd))
theorem rd_len {α : Type} {g : α → α} {xs ys : List α} (r : Rdg g xs ys) : ys.length = xs.length := by
  rcases r with r | r
  · exact r.len
  · rw [r.len, bk_len]
/-! any reading -/
inductive RiOk : List D → Prop
  | one (p : Str) (h : pieceS p = true) : RiOk [.str p]
  | many (xs : List D) (h : RgOk xs) : RiOk xs
def rdL (xs : List D) : List (List D) := match xs with
  | [.str p] => rdO p
  | _ => rdM xs
theorem rdL_one (p : Str) : rdL [.str p] = rdO p := rfl
theorem rdL_many {xs : List D} (h : 2 ≤ xs.length) : rdL xs = rdM xs := by
  match xs, h with
  | [], h => simp at h
  | [_], h => simp at h
  | a :: b :: r, _ => cases a <;> rfl
def RR (xs ys : List D) : Prop := (∃ p q, xs = [.str p] ∧ ys = [.str q] ∧ Rdg swapC (sg p) (sg q)) ∨ (RgOk xs ∧ RgOk ys ∧ Rdg flI xs ys)
theorem RR.refl {xs : List D} (h : RiOk xs) : RR xs xs := by
  cases h with
  | one p hp => exact .inl ⟨p, p, rfl, rfl, .refl _⟩
  | many h => exact .inr ⟨‹_›, ‹_›, .refl _⟩
theorem rgok_not {p : Str} (h : RgOk [.str p]) : False := by have := h.two; simp at this
theorem RR.symm {xs ys : List D} (h : RiOk xs) (r : RR xs ys) : RR ys xs := by
  rcases r with ⟨p, q, rfl, rfl, r⟩ | ⟨h1, h2, r⟩
  · cases h with
    | one _ hp => exact .inl ⟨q, p, rfl, rfl, r.symm (inv2_sg hp)⟩
    | many _ h => exact (rgok_not h).elim
  · exact .inr ⟨h2, h1, r.symm h1.inv2⟩
theorem RR.trans {xs ys zs : List D} (h : RiOk xs) (r : RR xs ys) (r' : RR ys zs) : RR xs zs := by
  rcases r with ⟨p, q, rfl, rfl, r⟩ | ⟨h1, h2, r⟩
  · cases h with
    | one _ hp =>
      rcases r' with ⟨p', q', e, rfl, r'⟩ | ⟨h1', _, _⟩
      · cases e
        exact .inl ⟨p, q', rfl, rfl, r.trans (inv2_sg hp) r'⟩
      · exact (rgok_not h1').elim
    | many _ h => exact (rgok_not h).elim
  · rcases r' with ⟨p', q', rfl, rfl, r'⟩ | ⟨h1', h2', r'⟩
    · exact (rgok_not h2).elim
    · exact .inr ⟨h1, h2', r.trans h1.inv2 r'⟩
theorem RR.ok {xs ys : List D} (h : RiOk xs) (r : RR xs ys) : RiOk ys := by
  rcases r with ⟨p, q, rfl, rfl, r⟩ | ⟨h1, h2, r⟩
  · cases h with
    | one _ hp => exact .one q (rd_piece hp r)
    | many _ h => exact (rgok_not h).elim
  · exact .many _ h2
theorem mem_rdL {xs ys : List D} (h : RiOk xs) : ys ∈ rdL xs ↔ RR xs ys := by
  cases h with
  | one p hp =>
    rw [rdL_one, mem_rdO]
    constructor
    · rintro ⟨q, rfl, r⟩; exact .inl ⟨p, q, rfl, rfl, r⟩
    · rintro (⟨p', q, e, rfl, r⟩ | ⟨h1, _, _⟩)
      · cases e; exact ⟨q, rfl, r⟩
      · exact (rgok_not h1).elim
  | many _ hx =>
    rw [rdL_many hx.two, mem_rdM hx]
    constructor
    · rintro ⟨h1, h2⟩; exact .inr ⟨hx, h1, h2⟩
    · rintro (⟨p', q, e, rfl, r⟩ | ⟨h1, h2, r⟩)
      · subst e; exact (rgok_not hx).elim
      · exact ⟨h2, r⟩
/-! ### texts -/
/-- the marker at the end comes first -/
def headL (xs : List D) : List D := if xs.length = 1 then xs else xs.drop (xs.length - 1) ++ xs.take (xs.length - 1)
def ringText (xs : List D) : Str := ("( " : Str) ++ itemsText (headL xs) ++ " )"
theorem headL_inj {xs ys : List D} (h : headL xs = headL ys) : xs = ys := by
  have hl : ∀ zs : List D, (headL zs).length = zs.length := fun zs => by
    unfold headL
    split
    · rfl
    · rw [List.length_append, List.length_drop, List.length_take]; omega
  have e : xs.length = ys.length := by rw [← hl xs, ← hl ys, h]
  unfold headL at h
  rw [e] at h
  split at h
  · exact h
  · have h2 := List.append_inj h (by rw [List.length_drop, List.length_drop, e])
    have a1 := List.take_append_drop (ys.length - 1) xs
    have a2 := List.take_append_drop (ys.length - 1) ys
    rw [h2.1, h2.2, a2] at a1
    exact a1.symm
theorem sg_joinB (ws : List Str) : sg (Txt.join " " ws) = TL.joinL [32] (ws.map sg) := by
  have e : TL.tl (Txt.join " " ws) = TL.joinL (TL.tl " ") (ws.map TL.tl) := by rw [TL.join_eq]; exact TL.tl_join _ ws
  exact e
theorem joinB_head {w : List Nat} {r : List (List Nat)} : ∃ t, TL.joinL [32] (w :: r) = w ++ t ∧ ((r = [] ∧ t = []) ∨ ∃ v r', r = v :: r' ∧ t = 32 :: TL.joinL [32] r) := by
  cases r with
  | nil => exact ⟨[], by simp [TL.joinL], .inl ⟨rfl, rfl⟩⟩
  | cons v r' => exact ⟨32 :: TL.joinL [32] (v :: r'), by simp [TL.joinL], .inr ⟨v, r', rfl, rfl⟩⟩
theorem cut_blank : ∀ {a b t u : List Nat}, 32 ∉ a → 32 ∉ b → (t = [] ∨ ∃ t', t = 32 :: t') → (u = [] ∨ ∃ u', u = 32 :: u') → a ++ t = b ++ u → a = b ∧ t = u
  | [], [], t, u, _, _, _, _, e => ⟨rfl, e⟩
  | [], y :: b, t, u, _, hb, ht, _, e => by
    rcases ht with rfl | ⟨t', rfl⟩
    · simp at e
    · simp at e
      exact absurd (by rw [e.1]; exact List.mem_cons_self) hb
  | x :: a, [], t, u, ha, _, _, hu, e => by
    rcases hu with rfl | ⟨u', rfl⟩
    · simp at e
    · simp at e
      exact absurd (by rw [← e.1]; exact List.mem_cons_self) ha
  | x :: a, y :: b, t, u, ha, hb, ht, hu, e => by
    simp only [List.cons_append, List.cons.injEq] at e
    obtain ⟨rfl, e⟩ := e
    obtain ⟨rfl, rfl⟩ := cut_blank (fun h => ha (List.mem_cons_of_mem _ h)) (fun h => hb (List.mem_cons_of_mem _ h)) ht hu e
    exact ⟨rfl, rfl⟩
theorem joinB_inj : ∀ {ws vs : List (List Nat)}, (∀ w ∈ ws, 32 ∉ w) → (∀ v ∈ vs, 32 ∉ v) → ws ≠ [] → vs ≠ [] → TL.joinL [32] ws = TL.joinL [32] vs → ws = vs
  | [], _, _, _, h, _, _ => absurd rfl h
  | _ :: _, [], _, _, _, h, _ => absurd rfl h
  | w :: r, v :: q, hw, hv, _, _, e => by
    obtain ⟨t, e1, c1⟩ := joinB_head (w := w) (r := r)
    obtain ⟨u, e2, c2⟩ := joinB_head (w := v) (r := q)
    rw [e1, e2] at e
    obtain ⟨rfl, rfl⟩ := cut_blank (hw w List.mem_cons_self) (hv v List.mem_cons_self) (by rcases c1 with ⟨_, h⟩ | ⟨_, _, _, h⟩; exact .inl h; exact .inr ⟨_, h⟩) (by rcases c2 with ⟨_, h⟩ | ⟨_, _, _, h⟩; exact .inl h; exact .inr ⟨_, h⟩) e
    rcases c1 with ⟨rfl, ht⟩ | ⟨a, r', rfl, ht⟩
    · rcases c2 with ⟨rfl, _⟩ | ⟨b, q', rfl, hu⟩
      · rfl
      · rw [ht] at hu; cases hu
    · rcases c2 with ⟨rfl, hu⟩ | ⟨b, q', rfl, hu⟩
      · rw [ht] at hu; cases hu
      · rw [ht] at hu
        have := (List.cons.inj hu).2
        rw [joinB_inj (fun x hx => hw x (List.mem_cons_of_mem _ hx)) (fun x hx => hv x (List.mem_cons_of_mem _ hx)) (by simp) (by simp) this]
/-- the signs of a word -/
theorem ltr_blank {c : Nat} (h : (isLow c || isUpp c) = true) : c ≠ 32 ∧ c ≠ 95 ∧ c ≠ 43 ∧ c ≠ 45 := by
  rw [ltr_is] at h
  refine ⟨?_, ?_, ?_, ?_⟩ <;> omega
theorem piece_signs {z : Str} (h : pieceS z = true) : ∀ c ∈ sg z, c ≠ 32 ∧ c ≠ 95 ∧ c ≠ 43 ∧ c ≠ 45 := fun c hc => by
  unfold pieceS at h
  rw [List.all_eq_true] at h
  exact ltr_blank (h c hc)
theorem piece_word (z : Str) : sg (itemText (.str z)) = if z = "" then [95] else sg z := by
  show sg (if z = "" then ("_" : Str) else z) = _
  split <;> rfl
theorem marker_word (m : Mk) : sg (itemText (mkD m)) = sg m.1 ++ [if m.2 = true then 43 else 45] := by
  obtain ⟨z, b⟩ := m
  cases b
  · show sg (z ++ ("-" : Str)) = _
    rw [sg_append]; rfl
  · show sg (z ++ ("+" : Str)) = _
    rw [sg_append]; rfl
def ItOk (d : D) : Prop := isPiece d = true ∨ isMarker d = true
theorem item_blank {d : D} (h : ItOk d) : 32 ∉ sg (itemText d) := by
  rcases h with h | h
  · obtain ⟨z, rfl, hz⟩ := piece_inv h
    rw [piece_word]
    split
    · simp
    · exact fun hc => (piece_signs hz 32 hc).1 rfl
  · obtain ⟨m, rfl, hm⟩ := marker_inv h
    rw [marker_word, List.mem_append, not_or]
    refine ⟨fun hc => (piece_signs (name_piece hm) 32 hc).1 rfl, ?_⟩
    split <;> simp
theorem item_inj {d e : D} (hd : ItOk d) (he : ItOk e) (h : itemText d = itemText e) : d = e := by
  have h : sg (itemText d) = sg (itemText e) := by rw [h]
  have pm : ∀ {z : Str} {m : Mk}, pieceS z = true → nameS m.1 = true → sg (itemText (.str z)) ≠ sg (itemText (mkD m)) := fun {z m} hz hm h => by
    rw [piece_word, marker_word] at h
    have hmem : (if m.2 = true then 43 else 45) ∈ (if z = "" then [95] else sg z) := by rw [h]; simp
    split at hmem
    · split at hmem <;> simp at hmem
    · have := piece_signs hz _ hmem
      split at this
      · exact this.2.2.1 rfl
      · exact this.2.2.2 rfl
  rcases hd with hd | hd
  · obtain ⟨z, rfl, hz⟩ := piece_inv hd
    rcases he with he | he
    · obtain ⟨y, rfl, hy⟩ := piece_inv he
      rw [piece_word, piece_word] at h
      split at h
      · rename_i e1
        split at h
        · rename_i e2; rw [e1, e2]
        · exact absurd rfl (piece_signs hy 95 (by rw [← h]; simp)).2.1
      · split at h
        · exact absurd rfl (piece_signs hz 95 (by rw [h]; simp)).2.1
        · rw [str_ext h]
    · obtain ⟨m, rfl, hm⟩ := marker_inv he
      exact (pm hz hm h).elim
  · obtain ⟨m, rfl, hm⟩ := marker_inv hd
    rcases he with he | he
    · obtain ⟨y, rfl, hy⟩ := piece_inv he
      exact (pm hy hm h.symm).elim
    · obtain ⟨k, rfl, hk⟩ := marker_inv he
      rw [marker_word, marker_word] at h
      have h2 := List.append_inj' h rfl
      obtain ⟨z, b⟩ := m
      obtain ⟨y, c⟩ := k
      have e1 : z = y := str_ext h2.1
      have e2 : b = c := by
        have := (List.cons.inj h2.2).1
        cases b <;> cases c <;> simp at this <;> rfl
      rw [e1, e2]
theorem itemsText_inj {xs ys : List D} (hx : ∀ d ∈ xs, ItOk d) (hy : ∀ d ∈ ys, ItOk d) (nx : xs ≠ []) (ny : ys ≠ []) (h : itemsText xs = itemsText ys) : xs = ys := by
  have h : sg (itemsText xs) = sg (itemsText ys) := by rw [h]
  unfold itemsText at h
  rw [sg_joinB, sg_joinB, List.map_map, List.map_map] at h
  have e := joinB_inj (ws := xs.map (sg ∘ itemText)) (vs := ys.map (sg ∘ itemText)) (fun w hw => by
    obtain ⟨d, hd, rfl⟩ := List.mem_map.mp hw
    exact item_blank (hx d hd)) (fun w hw => by
    obtain ⟨d, hd, rfl⟩ := List.mem_map.mp hw
    exact item_blank (hy d hd)) (by simpa using nx) (by simpa using ny) h
  have go : ∀ {xs ys : List D}, (∀ d ∈ xs, ItOk d) → (∀ d ∈ ys, ItOk d) → xs.map (sg ∘ itemText) = ys.map (sg ∘ itemText) → xs = ys := fun {xs} => by
    induction xs with
    | nil => intro ys _ _ e; cases ys with
      | nil => rfl
      | cons => simp at e
    | cons x xs ih =>
      intro ys hx hy e
      cases ys with
      | nil => simp at e
      | cons y ys =>
        simp only [List.map_cons, List.cons.injEq, Function.comp] at e
        rw [item_inj (hx x List.mem_cons_self) (hy y List.mem_cons_self) (str_ext e.1), ih (fun d hd => hx d (List.mem_cons_of_mem _ hd)) (fun d hd => hy d (List.mem_cons_of_mem _ hd)) e.2]
  exact go hx hy e
theorem RiOk.items {xs : List D} (h : RiOk xs) : (∀ d ∈ xs, ItOk d) ∧ xs ≠ [] := by
  cases h with
  | one p hp => exact ⟨fun d hd => by rw [List.mem_singleton.mp hd]; exact .inl hp, by simp⟩
  | many _ h => exact ⟨fun d hd => h.item hd, fun e => by subst e; have := h.two; simp at this⟩
theorem headL_mem {xs : List D} {d : D} : d ∈ headL xs ↔ d ∈ xs := by
  unfold headL
  split
  · exact Iff.rfl
  · rw [List.mem_append, or_comm, ← List.mem_append, List.take_append_drop]
theorem headL_ne {xs : List D} (h : xs ≠ []) : headL xs ≠ [] := by
  obtain ⟨d, hd⟩ := List.exists_mem_of_ne_nil xs h
  exact List.ne_nil_of_mem (headL_mem.mpr hd)
theorem ringText_inj {xs ys : List D} (hx : RiOk xs) (hy : RiOk ys) (h : ringText xs = ringText ys) : xs = ys := by
  have h : sg (ringText xs) = sg (ringText ys) := by rw [h]
  unfold ringText at h
  rw [sg_append, sg_append, sg_append, sg_append] at h
  have h2 := List.append_inj' h rfl
  have h3 := List.append_inj h2.1 rfl
  exact headL_inj (itemsText_inj (fun d hd => hx.items.1 d (headL_mem.mp hd)) (fun d hd => hy.items.1 d (headL_mem.mp hd)) (headL_ne hx.items.2) (headL_ne hy.items.2) (str_ext h3.2))
/-! ### the canonical reading -/
structure IsCan (xs r : List D) : Prop where
  mem : r ∈ rdL xs
  low : ∀ e ∈ rdL xs, ¬ (ringText e).cps.toList < (ringText r).cps.toList
theorem IsCan.ok {xs r : List D} (h : RiOk xs) (c : IsCan xs r) : RiOk r := ((mem_rdL h).mp c.mem).ok h
theorem IsCan.uniq {xs ys r r' : List D} (h : RiOk xs) (c : IsCan xs r) (h' : RiOk ys) (c' : IsCan ys r') (rr : RR xs ys) : r = r' := by
  have m1 : r ∈ rdL ys := (mem_rdL h').mpr ((rr.symm h).trans h' ((mem_rdL h).mp c.mem))
  have m2 : r' ∈ rdL xs := (mem_rdL h).mpr (rr.trans h ((mem_rdL h').mp c'.mem))
  have a := c.low r' m2
  have b := c'.low r m1
  exact ringText_inj (c.ok h) (c'.ok h') (str_ext (List.le_antisymm (List.not_lt.mp a) (List.not_lt.mp b)))
theorem IsCan.eq {xs ys r r' : List D} (h : RiOk xs) (c : IsCan xs r) (h' : RiOk ys) (c' : IsCan ys r') : r = r' ↔ ys ∈ rdL xs := by
  rw [mem_rdL h]
  constructor
  · intro e
    subst e
    exact ((mem_rdL h).mp c.mem).trans h (((mem_rdL h').mp c'.mem).symm h')
  · exact c.uniq h h' c'
end Ms

/-! Lay38: slices by -1, rows compared, facts of the classes for ==, promises of rings. -/
namespace Ms
open PySem PySem.Spec PyProof.Rows L2
theorem sIx_neg1 (n d : Nat) (h : 1 ≤ n) : HT.sIx n d (some (-1)) = n - 1 := by
  unfold HT.sIx
  simp [clipAt]
  omega
theorem cutL_last {α : Type} (xs : List α) (h : xs ≠ []) : cutL xs (some (-1)) none = xs.drop (xs.length - 1) := by
  have hp := List.length_pos_iff.mpr h
  unfold cutL
  rw [sIx_neg1 _ _ hp, HT.sIx_none, List.take_of_length_le (by rw [List.length_drop]; omega)]
theorem cutL_init {α : Type} (xs : List α) (h : xs ≠ []) : cutL xs none (some (-1)) = xs.take (xs.length - 1) := by
  have hp := List.length_pos_iff.mpr h
  unfold cutL
  rw [sIx_neg1 _ _ hp, HT.sIx_none, List.drop_zero, Nat.sub_zero]
theorem cutL_nil {α : Type} (lo hi : Option Int) : cutL ([] : List α) lo hi = [] := by unfold cutL; simp
/-! ### items compared -/
noncomputable instance decD : DecidableEq D := fun a b => Classical.propDecidable (a = b)
theorem item_eqv {d e : D} (hd : ItOk d) (he : ItOk e) : PyData.eqv d.py e.py = decide (d = e) := by
  rcases hd with hd | hd
  · obtain ⟨z, rfl, hz⟩ := piece_inv hd
    rcases he with he | he
    · obtain ⟨y, rfl, hy⟩ := piece_inv he
      simp [D.py, PyData.eqv]
      by_cases e : z = y <;> simp [e]
    · obtain ⟨m, rfl, hm⟩ := marker_inv he
      rw [decide_eq_false (p := D.str z = mkD m) (fun h => by cases h)]
      unfold mkD
      simp [D.py, PyData.eqv]
  · obtain ⟨m, rfl, hm⟩ := marker_inv hd
    rcases he with he | he
    · obtain ⟨y, rfl, hy⟩ := piece_inv he
      rw [decide_eq_false (p := mkD m = D.str y) (fun h => by cases h)]
      unfold mkD
      simp [D.py, PyData.eqv]
    · obtain ⟨k, rfl, hk⟩ := marker_inv he
      obtain ⟨z, b⟩ := m
      obtain ⟨y, c⟩ := k
      unfold mkD
      simp only [D.py, pys, PyData.eqv, PyData.eqvAll]
      by_cases h1 : z = y
      · subst h1
        by_cases h2 : b = c
        · subst h2; simp
        · have : ¬ (D.tup [D.str z, D.bl b] = D.tup [D.str z, D.bl c]) := fun h => h2 (by injection h with h; injection h with _ h; injection h with h; injection h)
          rw [decide_eq_false this]
          cases b <;> cases c <;> simp at h2 ⊢
      · have : ¬ (D.tup [D.str z, D.bl b] = D.tup [D.str y, D.bl c]) := fun h => h1 (by injection h with h; injection h with h; injection h)
        rw [decide_eq_false this]
        simp [h1]
theorem items_eqv : ∀ {xs ys : List D}, (∀ d ∈ xs, ItOk d) → (∀ d ∈ ys, ItOk d) → PyData.eqvAll (pys xs) (pys ys) = decide (xs = ys)
  | [], [], _, _ => by simp [pys, PyData.eqvAll]
  | [], y :: ys, _, _ => by simp [pys, PyData.eqvAll]
  | x :: xs, [], _, _ => by simp [pys, PyData.eqvAll]
  | x :: xs, y :: ys, hx, hy => by
    simp only [pys, PyData.eqvAll]
    rw [item_eqv (hx x List.mem_cons_self) (hy y List.mem_cons_self), items_eqv (fun d hd => hx d (List.mem_cons_of_mem _ hd)) (fun d hd => hy d (List.mem_cons_of_mem _ hd))]
    by_cases h1 : x = y
    · subst h1
      by_cases h2 : xs = ys
      · subst h2; simp
      · simp [h2]
    · simp [h1]
theorem rows_eqv {xs ys : List D} (hx : ∀ d ∈ xs, ItOk d) (hy : ∀ d ∈ ys, ItOk d) : PyData.eqv (D.lst xs).py (D.lst ys).py = decide (xs = ys) := by
  simp only [D.py, PyData.eqv]
  exact items_eqv hx hy
theorem item_nice {d : D} (h : ItOk d) : nice d = true ∧ dpD d ≤ 1 := by
  rcases h with h | h
  · obtain ⟨z, rfl, hz⟩ := piece_inv h
    exact ⟨nice_str (piece_ok hz), by simp [dpD]⟩
  · obtain ⟨m, rfl, hm⟩ := marker_inv h
    unfold mkD
    refine ⟨?_, ?_⟩
    · simp only [nice, niceAll]
      rw [show PyData.strOk m.1 = true from name_ok hm]; rfl
    · simp [dpD, dpDs]
theorem items_nice {xs : List D} (h : ∀ d ∈ xs, ItOk d) : nice (.lst xs) = true ∧ dpD (.lst xs) ≤ 60 := by
  refine ⟨?_, ?_⟩
  · simp only [nice]
    exact niceAll_iff.mpr fun d hd => (item_nice (h d hd)).1
  · simp only [dpD]
    have : dpDs xs ≤ 1 := dpDs_le.mpr fun d hd => (item_nice (h d hd)).2
    omega
theorem items_py {xs : List D} (h : ∀ d ∈ xs, ItOk d) : okPy (.lst xs) = true := nice_ok (items_nice h).1 (items_nice h).2
theorem row_items {p : Str} {ms : List It2} (h : RowOk p ms) : ∀ d ∈ rowL p ms, ItOk d := fun d hd => by
  rcases mem_row hd with rfl | ⟨x, hx, rfl | rfl⟩
  · exact .inl h.p0
  · exact .inr (by show (nameS x.1.1 && true) = true; rw [h.nm x hx]; rfl)
  · exact .inl (h.pc x hx)
/-- the width of items as text -/
def txW (xs : List D) : Nat := (xs.map fun d => (itemText d).length + 1).sum
theorem txW_cons (x : D) (xs : List D) : txW (x :: xs) = (itemText x).length + 1 + txW xs := by simp [txW]
theorem txW_app (a b : List D) : txW (a ++ b) = txW a + txW b := by simp [txW]
theorem txW_mem {xs : List D} {d : D} (h : d ∈ xs) : (itemText d).length + 1 ≤ txW xs := by
  induction xs with
  | nil => cases h
  | cons x xs ih =>
    rw [txW_cons]
    rcases List.mem_cons.mp h with rfl | h
    · omega
    · have := ih h; omega
theorem txW_len (xs : List D) : xs.length ≤ txW xs := by
  induction xs with
  | nil => simp
  | cons x xs ih => rw [txW_cons, List.length_cons]; omega
theorem txW_rg {xs ys : List D} (h : Rg xs ys) : txW ys = txW xs := by
  obtain ⟨a, b, rfl, rfl⟩ := h
  rw [txW_app, txW_app, Nat.add_comm]
theorem item_fl_len {d : D} (h : ItOk d) : (itemText (flI d)).length = (itemText d).length := by
  rw [← sg_len, ← sg_len]
  rcases h with h | h
  · obtain ⟨z, rfl, hz⟩ := piece_inv h
    show (sg (itemText (.str (flS z)))).length = _
    rw [piece_word, piece_word]
    have e : (flS z = "") ↔ (z = "") := by
      constructor
      · intro h
        have : (sg (flS z)).length = 0 := by rw [h]; rfl
        rw [sg_flS, List.length_map, List.length_reverse] at this
        exact str_ext (List.length_eq_zero_iff.mp this)
      · intro h; subst h; rfl
    by_cases hz : z = ""
    · rw [if_pos hz, if_pos (e.mpr hz)]
    · rw [if_neg hz, if_neg (fun q => hz (e.mp q)), sg_flS, List.length_map, List.length_reverse]
  · obtain ⟨m, rfl, hm⟩ := marker_inv h
    show (sg (itemText (mkD (flM m)))).length = _
    rw [marker_word, marker_word, List.length_append, List.length_append]
    rfl
theorem txW_bk {xs : List D} (h : ∀ d ∈ xs, ItOk d) : txW (bk flI xs) = txW xs := by
  unfold bk txW
  rw [List.map_map, List.map_reverse, List.sum_reverse]
  congr 1
  exact List.map_congr_left fun d hd => by simp only [Function.comp]; rw [item_fl_len (h d hd)]
theorem item_len {d : D} (h : ItOk d) : (∃ z, d = .str z ∧ pieceS z = true ∧ z.length ≤ (itemText d).length) ∨ ∃ m : Mk, d = mkD m ∧ nameS m.1 = true := by
  rcases h with h | h
  · obtain ⟨z, rfl, hz⟩ := piece_inv h
    refine .inl ⟨z, rfl, hz, ?_⟩
    rw [← sg_len, ← sg_len, piece_word]
    split
    · rename_i e; subst e; exact Nat.zero_le _
    · exact Nat.le_refl _
  · exact .inr (marker_inv h)
theorem item_okd {K : PySem.W.Frag} {d : D} (h : ItOk d) (hl : (itemText d).length < 1000000) : OkD K d := by
  rcases item_len h with ⟨z, rfl, hz, hzl⟩ | ⟨m, rfl, hm⟩
  · simp only [OkD]; exact ⟨by show _ < 16000000; omega, piece_ok hz⟩
  · unfold mkD
    simp only [OkD, OkDs]
    exact ⟨Nat.le_of_ble_eq_true rfl, ⟨Nat.lt_of_le_of_lt (name_all hm).2.1 (by decide), name_ok hm⟩, trivial, trivial⟩
theorem items_okd {K : PySem.W.Frag} {d : D} {xs : List D} (hd : SeqD d xs) (h : ∀ x ∈ xs, ItOk x) (hl : txW xs < 1000000) : OkD K d := by
  have h1 : OkDs K xs := okDs_of fun x hx => item_okd (h x hx) (by have := txW_mem hx; omega)
  have h2 := txW_len xs
  rcases hd with rfl | rfl <;> (simp only [OkD]; exact ⟨by show _ < 16000000; omega, h1⟩)
/-! ### facts of the classes -/
structure EqK (K : PySem.W.Frag) (C : Addr) : Prop where
  non : PySem.W.kitOne K (.type "NoneType") (.ref C) = some false
  bool : PySem.W.kitOne K (.type "bool") (.ref C) = some false
  int : PySem.W.kitOne K (.type "int") (.ref C) = some false
  str : PySem.W.kitOne K (.type "str") (.ref C) = some false
  list : PySem.W.kitOne K (.type "list") (.ref C) = some false
  tuple : PySem.W.kitOne K (.type "tuple") (.ref C) = some false
  dict : PySem.W.kitOne K (.type "dict") (.ref C) = some false
  self : PySem.W.kitOne K (.ref C) (.ref C) = some true
  ne : PySem.W.findIn K (.ref C) "__ne__" = some (some (.builtin "object.__ne__"))
def eqB (x : Str) (K : PySem.W.Frag) : Bool :=
  decide (PySem.W.kitOne K (.type "NoneType") (.ref (He.ga K x)) = some false) && (decide (PySem.W.kitOne K (.type "bool") (.ref (He.ga K x)) = some false) && (decide (PySem.W.kitOne K (.type "int") (.ref (He.ga K x)) = some false) && (decide (PySem.W.kitOne K (.type "str") (.ref (He.ga K x)) = some false) &&
  (decide (PySem.W.kitOne K (.type "list") (.ref (He.ga K x)) = some false) && (decide (PySem.W.kitOne K (.type "tuple") (.ref (He.ga K x)) = some false) && (decide (PySem.W.kitOne K (.type "dict") (.ref (He.ga K x)) = some false) && (decide (PySem.W.kitOne K (.ref (He.ga K x)) (.ref (He.ga K x)) = some true) &&
  He.eqO (PySem.W.findIn K (.ref (He.ga K x)) "__ne__") (some (some (.builtin "object.__ne__"))))))))))
theorem eqB_ok {x : Str} {K : PySem.W.Frag} (h : eqB x K = true) : EqK K (He.ga K x) := by
  unfold eqB at h
  simp only [Bool.and_eq_true, decide_eq_true_eq] at h
  obtain ⟨h1, h2, h3, h4, h5, h6, h7, h8, h9⟩ := h
  exact ⟨h1, h2, h3, h4, h5, h6, h7, h8, He.eqO_ok h9⟩
/-- of two classes, neither the other's base -/
structure ApK (K : PySem.W.Frag) (C C' : Addr) : Prop where
  isi : PySem.W.kitOne K (.ref C) (.ref C') = some false
  nf : PySem.W.notFirst K C' (.ref C) = true
def apB (x y : Str) (K : PySem.W.Frag) : Bool := decide (PySem.W.kitOne K (.ref (He.ga K x)) (.ref (He.ga K y)) = some false) && PySem.W.notFirst K (He.ga K y) (.ref (He.ga K x))
theorem apB_ok {x y : Str} {K : PySem.W.Frag} (h : apB x y K = true) : ApK K (He.ga K x) (He.ga K y) := by
  unfold apB at h
  simp only [Bool.and_eq_true, decide_eq_true_eq] at h
  exact ⟨h.1, h.2⟩
/-- what is no instance of C -/
inductive NotC (K : PySem.W.Frag) (C : Addr) : D → Prop
  | ty {d : D} {t : String} (h : tyN d = some t) : NotC K C d
  | ins {C' : Addr} {fs : List (Str × D)} (h : InsT K C') (h2 : ApK K C' C) : NotC K C (.ins C' fs)
section
variable {K : PySem.W.Frag} {C : Addr} {d : D} {Ψ : D → Prop}
theorem NotC.isi (e : EqK K C) (h : NotC K C d) (k : Ψ (.bl false)) : RAD K (rIsiU K) [d, .cls C] Ψ := by
  cases h with
  | ins h1 h2 => exact isi_insC h1 h2.isi k
  | ty h =>
    refine isi_tyC h ?_ k
    cases d <;> simp only [tyN, Option.some.injEq, reduceCtorEq] at h <;> subst h
    · exact e.non
    · exact e.bool
    · exact e.int
    · exact e.str
    · exact e.list
    · exact e.tuple
    · exact e.dict
theorem NotC.cmp {A : FS} {neg : Bool} {fs : List (Str × D)} (h : NotC K C d) (k : A [.ins C fs, d] fun r => ∃ b, r = .val (.bl b) ∧ Ψ (.bl (ngB neg b))) : R2D K (rCmpOwn K C (spG K A) neg) (.ins C fs) d Ψ := by
  cases h with
  | ins h1 h2 => exact cmp_own (ty_ins h1) h2.nf k
  | ty h => exact cmp_own (ty_blt h) (notFirst_blt h) k
theorem self_cmp {A : FS} {neg : Bool} {fs gs : List (Str × D)} (h : InsT K C) (k : A [.ins C fs, .ins C gs] fun r => ∃ b, r = .val (.bl b) ∧ Ψ (.bl (ngB neg b))) : R2D K (rCmpOwn K C (spG K A) neg) (.ins C fs) (.ins C gs) Ψ := cmp_own (ty_ins h) (notFirst_self C) k
end
/-! ### promises -/
abbrev rgC (K : PySem.W.Frag) : Addr := He.ga K "Ring"
abbrev ringF (r : List D) : List (Str × D) := [("kept_row", .lst r)]
abbrev ringD (K : PySem.W.Frag) (r : List D) : D := .ins (rgC K) (ringF r)
structure RgK (K : PySem.W.Frag) : Prop where
  ins : InsK K (rgC K)
  n1 : NoAttr K (rgC K) "kept_row"
  eq : EqK K (rgC K)
/-- a reading that is not too wide -/
structure RiW (xs : List D) : Prop where
  ok : RiOk xs
  w : txW xs ≤ 100000
def A_items_textG (K : PySem.W.Frag) : FS := fun ds post => ∃ d xs, ds = [d] ∧ SeqD d xs ∧ (∀ x ∈ xs, ItOk x) ∧ txW xs ≤ 500000 ∧ post (.val (.str (itemsText xs)))
def A_flipped_itemsG (K : PySem.W.Frag) : FS := fun ds post => ∃ d xs, ds = [d] ∧ SeqD d xs ∧ (∀ x ∈ xs, ItOk x) ∧ txW xs ≤ 500000 ∧ post (.new (.lst (bk flI xs)))
def A_reading_text (K : PySem.W.Frag) : FS := fun ds post => ∃ xs, ds = [.lst xs] ∧ RiW xs ∧ post (.val (.str (ringText xs)))
def A_readings (K : PySem.W.Frag) : FS := fun ds post => ∃ xs, ds = [.lst xs] ∧ RiW xs ∧ post (.new (.lst ((rdL xs).map .lst)))
def A_require_reading (K : PySem.W.Frag) : FS := fun ds post => ∃ d xs, ds = [d] ∧ SeqD d xs ∧ RiW xs ∧ post (.val .non)
def A_Ring_init (K : PySem.W.Frag) : FI := fun ds post => ∃ d xs, ds = [d] ∧ SeqD d xs ∧ RiW xs ∧ RgK K ∧ ∀ r, IsCan xs r → post (ringF r)
def A_Ring_row (K : PySem.W.Frag) : FS := fun ds post => ∃ r, ds = [ringD K r] ∧ RgK K ∧ post (.new (.lst r))
/-- the names, by the text -/
def rgNames (r : List D) : List D := (cutL (odds r) (some (-1)) none ++ cutL (odds r) none (some (-1))).map fun d => match d with | .tup [z, _] => z | _ => .non
def A_Ring_names (K : PySem.W.Frag) : FS := fun ds post => ∃ r, ds = [ringD K r] ∧ RgK K ∧ RiW r ∧ post (.new (.lst (rgNames r)))
def dLen : D → Nat
  | .str z => z.length
  | _ => 0
def A_Ring_letter_count (K : PySem.W.Frag) : FS := fun ds post => ∃ r, ds = [ringD K r] ∧ RgK K ∧ RiW r ∧ post (.val (.int (((evens r).map dLen).sum : Nat)))
def A_Ring_len (K : PySem.W.Frag) : FS := fun ds post => ∃ r, ds = [ringD K r] ∧ RgK K ∧ RiW r ∧ post (.val (.int ((odds r).length : Nat)))
def A_Ring_str (K : PySem.W.Frag) : FS := fun ds post => ∃ r, ds = [ringD K r] ∧ RgK K ∧ RiW r ∧ post (.val (.str (ringText r)))
def A_Ring_repr (K : PySem.W.Frag) : FS := fun ds post => ∃ r, ds = [ringD K r] ∧ RgK K ∧ RiW r ∧ post (.val (.str (("Ring(" : Str) ++ ringText r ++ ")")))
def A_Ring_eq (K : PySem.W.Frag) : FS := fun ds post => ∃ r d, ds = [ringD K r, d] ∧ RgK K ∧ RiW r ∧ ((∃ r', d = ringD K r' ∧ RiW r' ∧ post (.val (.bl (decide (r' = r))))) ∨ (NotC K (rgC K) d ∧ post (.val (.bl false))))
theorem can_w {xs r : List D} (h : RiW xs) (c : IsCan xs r) : RiW r := by
  refine ⟨c.ok h.ok, ?_⟩
  have hw := h.w
  rcases (mem_rdL h.ok).mp c.mem with ⟨p, q, rfl, rfl, rd⟩ | ⟨h1, h2, rd⟩
  · have e := rd_len rd
    simp only [txW, List.map_cons, List.map_nil, List.sum_cons, List.sum_nil] at hw ⊢
    rw [← sg_len, piece_word] at hw ⊢
    have e2 : (q = "") ↔ (p = "") := by
      constructor
      · intro h; subst h; exact str_ext (List.length_eq_zero_iff.mp (by rw [← e]; rfl))
      · intro h; subst h; exact str_ext (List.length_eq_zero_iff.mp (by rw [e]; rfl))
    by_cases hz : p = ""
    · rw [if_pos hz] at hw; rw [if_pos (e2.mpr hz)]; exact hw
    · rw [if_neg hz] at hw; rw [if_neg (fun z => hz (e2.mp z)), e]; exact hw
  · have hx := h.ok.items.1
    rcases rd with rd | rd
    · rw [txW_rg rd]; exact hw
    · rw [txW_rg rd, txW_bk hx]; exact hw
end Ms

/-! Lay39: xs[i] as a target among others, comprehensions over range with a step, widths of texts, ranges by two. -/
namespace Ms
open PySem PySem.Spec PyProof.Rows L2
theorem tg_sub {K : PySem.W.Frag} {δ : List Sl} {Ψ : List Sl → Prop} {i : Nat} {ti : TE} {d : D} {ds0 : List D} (hi : δ[i]? = some (.ow (.lst ds0))) (h : EvD K ti δ fun e δ2 => ∃ (k : Int) (j : Nat) (ds : List D), e = .int k ∧ δ2[i]? = some (.ow (.lst ds)) ∧ ixN ds.length k = some j ∧ Ψ (δ2.set i (.ow (.lst (ds.set j d))))) : TgD K [] (gSub (tVar i) ti rSetL) d δ Ψ := fun M L G0 H0 G H σ v c r Q q => by
  obtain ⟨x, ex, a, e1, na, h0, xs, hx, _⟩ := c.ok i _ hi
  subst e1
  refine ⟨_, ex, h M L G0 H0 G H σ c _ fun e δ2 w G2 H2 s2 c2 r2 ⟨k, j, ds, e3, hd, hj, kk⟩ => ?_⟩
  subst e3
  obtain ⟨y, ey, a', e2, na', h0', ys, hy, ry⟩ := c2.ok i _ hd
  rw [ex] at ey; cases ey; cases e2
  exact ⟨a, ys, k, j, rfl, r2.int_inv, hy, by rw [ry.len]; exact hj, q _ σ G2 _ s2 (c2.write (o' := .lst (ds.set j d)) hd ex ⟨_, upd_same, ry.set j (r.mono s2)⟩) rfl (fun _ _ => rfl) kk⟩
theorem small_pos {a b c : Int} {n : Nat} (e : Builtin.Range.rangeSize a b c = (n : Int)) (hc : 0 < c) (hc2 : c < 2 ^ 30) (hn : (n : Int) < 2 ^ 62) (ha : -(2 ^ 62) ≤ a) (ha' : a < 2 ^ 62) (hb : -(2 ^ 62) ≤ b) (hb' : b < 2 ^ 62) : Builtin.Range.small a b c = true := by
  unfold Builtin.Range.small
  rw [e]
  simp only [Builtin.Range.rangeFitsLong, Bool.and_eq_true, Bool.or_eq_true, decide_eq_true_eq, beq_iff_eq, show c > 0 from hc, if_true]
  omega
/-- range(0, n, 2) -/
theorem range_ev {n : Nat} (h : n ≤ 10000000) : RgC 0 ((n : Nat) : Int) 2 ((n + 1) / 2) := by
  have e : Builtin.Range.rangeSize 0 ((n : Nat) : Int) 2 = (((n + 1) / 2 : Nat) : Int) := by
    unfold Builtin.Range.rangeSize
    simp only [show (2 : Int) > 0 by decide, if_true]
    split <;> omega
  exact ⟨by decide, by decide, small_pos e (by decide) (by decide) (by omega) (by decide) (by decide) (by omega) (by omega), e⟩
/-- [f(k) for k in range(0, n, 2)] -/
theorem en_lcR2 {K : PySem.W.Frag} {δ : List Sl} {t : TA} {te : TE} {j : Nat} {Θ : OD → List Sl → Prop} (f : Nat → D) (h : EvA K t δ fun xs δ1 => ∃ n : Nat, xs = [.int 0, .int (n : Nat), .int 2] ∧ n ≤ 10000000 ∧ noOwn δ1 [j] = true ∧
      (∀ (i : Nat), i < (n + 1) / 2 → EvD K te ((wipeS δ1 [j]).set j (.sh (.int ((2 * i : Nat) : Int)))) fun y δ3 => y = f i ∧ wipeS δ3 [j] = wipeS δ1 [j]) ∧ Θ (.lst ((List.range ((n + 1) / 2)).map f)) δ1) : EvN K (tLc (iRng3 t) (gName j) tYes te [j]) δ Θ := by
  refine en_lcM (js := [j]) (fun x => match x with | .int i => f (i.toNat / 2) | _ => .non) (by simp) (ei_range3C fun M L G0 H0 G H σ c Q q => h M L G0 H0 G H σ c Q fun d δ1 v G1 H1 s1 c1 r1 ⟨n, e, n1, no, hc, k⟩ => q d δ1 v G1 H1 s1 c1 r1 ⟨0, ((n : Nat) : Int), 2, (n + 1) / 2, e, range_ev n1, noOwn_ok no, ?_, fun i x ex => ?_, ?_⟩)
  · rw [rangeC_len]; exact Nat.lt_of_le_of_lt (show (n + 1) / 2 ≤ 10000000 by omega) (by decide)
  · have hi : i < (n + 1) / 2 := by
      have := (List.getElem?_eq_some_iff.mp ex).1
      rw [rangeC_len] at this; exact this
    rw [rangeC_get _ _ _ _ hi] at ex
    have ex' := (Option.some.inj ex).symm
    subst ex'
    refine tg_name ?_
    rw [show (0 : Int) + ((i : Nat) : Int) * 2 = ((2 * i : Nat) : Int) by omega]
    have := hc i hi
    rw [show f i = (match D.int ((2 * i : Nat) : Int) with | .int i => f (i.toNat / 2) | _ => .non) by
      show f i = f (((2 * i : Nat) : Int).toNat / 2)
      rw [show ((2 * i : Nat) : Int).toNat / 2 = i by omega]] at this
    exact this
  · have : (rangeC 0 2 ((n + 1) / 2)).map (fun x => match x with | .int i => f (i.toNat / 2) | _ => .non) = (List.range ((n + 1) / 2)).map f := by
      unfold rangeC
      rw [List.map_map]
      refine List.map_congr_left fun i _ => ?_
      show f (((0 : Int) + ((i : Nat) : Int) * 2).toNat / 2) = f i
      rw [show ((0 : Int) + ((i : Nat) : Int) * 2).toNat / 2 = i by omega]
    rw [this]; exact k
/-! ### widths -/
theorem txW_sum (xs : List D) : ((xs.map itemText).map (·.length)).sum + xs.length = txW xs := by
  induction xs with
  | nil => rfl
  | cons x xs ih =>
    rw [txW_cons]
    simp only [List.map_cons, List.sum_cons, List.length_cons] at ih ⊢
    omega
theorem joinB_len : ∀ (ys : List (List Nat)), (TL.joinL [32] ys).length ≤ (ys.map (·.length)).sum + ys.length
  | [] => by simp [TL.joinL]
  | [p] => by simp [TL.joinL]
  | p :: q :: r => by
    have := joinB_len (q :: r)
    simp only [TL.joinL, List.length_append, List.map_cons, List.sum_cons, List.length_cons, List.length_nil] at this ⊢
    omega
theorem itemsText_len (xs : List D) : (itemsText xs).length ≤ txW xs := by
  rw [← sg_len]
  unfold itemsText
  rw [sg_joinB]
  have h := joinB_len ((xs.map itemText).map sg)
  have e : (((xs.map itemText).map sg).map (·.length)) = (xs.map itemText).map (·.length) := by
    rw [List.map_map]
    exact List.map_congr_left fun y _ => sg_len y
  have e2 : ((xs.map itemText).map sg).length = xs.length := by simp
  rw [e, e2, txW_sum] at h
  exact h
theorem headL_w (xs : List D) : txW (headL xs) = txW xs := by
  unfold headL
  split
  · rfl
  · rw [txW_app, Nat.add_comm, ← txW_app, List.take_append_drop]
theorem ringText_len (xs : List D) : (ringText xs).length ≤ txW xs + 4 := by
  unfold ringText
  rw [← sg_len, sg_append, sg_append, List.length_append, List.length_append, sg_len (itemsText _)]
  have := itemsText_len (headL xs)
  rw [headL_w] at this
  have e1 : (sg ("( " : Str)).length = 2 := rfl
  have e2 : (sg (" )" : Str)).length = 2 := rfl
  omega
/-- what is read is as wide -/
theorem rd_w {xs ys : List D} (h : RiW xs) (m : ys ∈ rdL xs) : RiW ys := by
  refine ⟨((mem_rdL h.ok).mp m).ok h.ok, ?_⟩
  have hw := h.w
  rcases (mem_rdL h.ok).mp m with ⟨p, q, rfl, rfl, rd⟩ | ⟨h1, h2, rd⟩
  · have e := rd_len rd
    simp only [txW, List.map_cons, List.map_nil, List.sum_cons, List.sum_nil] at hw ⊢
    rw [← sg_len, piece_word] at hw ⊢
    have e2 : (q = "") ↔ (p = "") := by
      constructor
      · intro h; subst h; exact str_ext (List.length_eq_zero_iff.mp (by rw [← e]; rfl))
      · intro h; subst h; exact str_ext (List.length_eq_zero_iff.mp (by rw [e]; rfl))
    by_cases hz : p = ""
    · rw [if_pos hz] at hw; rw [if_pos (e2.mpr hz)]; exact hw
    · rw [if_neg hz] at hw; rw [if_neg (fun z => hz (e2.mp z)), e]; exact hw
  · have hx := h.ok.items.1
    rcases rd with rd | rd
    · rw [txW_rg rd]; exact hw
    · rw [txW_rg rd, txW_bk hx]; exact hw
theorem rdL_ne {xs : List D} (h : RiOk xs) : rdL xs ≠ [] := List.ne_nil_of_mem ((mem_rdL h).mpr (.refl h))
theorem RiOk.from0 {xs : List D} (h : RiOk xs) : itemsFrom 0 xs = true := by
  cases h with
  | one p hp => show (isPiece (.str p) && true) = true; rw [show isPiece (.str p) = true from hp]; rfl
  | many _ h => exact h.it
theorem evens_mem {α : Type} {x : α} : ∀ {xs : List α}, x ∈ evens xs → x ∈ xs
  | [], h => by cases h
  | [a], h => h
  | a :: b :: r, h => by
    have h : x ∈ a :: evens r := h
    rcases List.mem_cons.mp h with rfl | h
    · exact List.mem_cons_self
    · exact List.mem_cons_of_mem _ (List.mem_cons_of_mem _ (evens_mem h))
theorem EvT.v {K : PySem.W.Frag} {tt : TT} {δ : List Sl} {Φ : Bool → List Sl → Prop} {v : Bool} (h : EvT K tt δ fun b δ' => b = v ∧ δ' = δ) (k : Φ v δ) : EvT K tt δ Φ := fun M L G0 H0 G H σ c Q q =>
  h M L G0 H0 G H σ c _ fun b δ' G' H' s c' ⟨e1, e2⟩ => by subst e1 e2; exact q b δ' G' H' s c' k
theorem mapAt {α : Type} {f : α → D} {N : List α} {i : Nat} {z : D} (ez : (N.map f)[i]? = some z) : ∃ h : i < N.length, z = f N[i] := by
  have h := (List.getElem?_eq_some_iff.mp ez).1
  rw [List.length_map] at h
  rw [List.getElem?_map, List.getElem?_eq_getElem h] at ez
  exact ⟨h, (Option.some.inj ez).symm⟩
theorem fm_len {α β : Type} {f : α → List β} {c : Nat} : ∀ {l : List α}, (∀ a ∈ l, (f a).length ≤ c) → (l.flatMap f).length ≤ l.length * c
  | [], _ => by simp
  | a :: l, h => by
    have ih := fm_len (l := l) fun b hb => h b (List.mem_cons_of_mem _ hb)
    have h1 := h a List.mem_cons_self
    rw [List.flatMap_cons, List.length_append, List.length_cons, Nat.succ_mul]
    omega
theorem fm_step {α β : Type} {f : α → List β} {N : List α} {i : Nat} (h : i < N.length) : (N.take (i + 1)).flatMap f = (N.take i).flatMap f ++ f N[i] := by
  rw [List.take_succ_eq_append_getElem h, List.flatMap_append]
  simp
end Ms

/-! Lay40: sum of a list of numbers; two names at once, the second an own thing; own things made and changed at once. -/
namespace Ms
open PySem PySem.Spec PyProof.Rows L2
/-! ### sum -/
theorem preSum_eq (val : Nat → Int) (ns : List Int) (h : ∀ i (hi : i < ns.length), val i = ns[i]) : ∀ n, n ≤ ns.length → preSum val n = (ns.take n).sum
  | 0, _ => by simp [preSum]
  | n + 1, hn => by
    rw [preSum, preSum_eq val ns h n (by omega), h n (by omega), List.take_succ_eq_append_getElem (by omega), List.sum_append]
    simp
theorem sum_nonneg : ∀ {ns : List Int}, (∀ n ∈ ns, 0 ≤ n) → 0 ≤ ns.sum
  | [], _ => by simp
  | n :: ns, h => by
    rw [List.sum_cons]
    have h1 := h n List.mem_cons_self
    have h2 := sum_nonneg fun m hm => h m (List.mem_cons_of_mem _ hm)
    omega
theorem sum_take_le {ns : List Int} (h : ∀ n ∈ ns, 0 ≤ n) (k : Nat) : 0 ≤ (ns.take k).sum ∧ (ns.take k).sum ≤ ns.sum := by
  have h2 := sum_nonneg (ns := ns.drop k) fun m hm => h m (List.mem_of_mem_drop hm)
  have e : (ns.take k).sum + (ns.drop k).sum = ns.sum := by rw [← List.sum_append, List.take_append_drop]
  exact ⟨sum_nonneg fun m hm => h m (List.mem_of_mem_take hm), by omega⟩
theorem mem_le_sum : ∀ {ns : List Int}, (∀ n ∈ ns, 0 ≤ n) → ∀ m ∈ ns, m ≤ ns.sum
  | [], _, _, hm => by cases hm
  | n :: ns, h, m, hm => by
    rw [List.sum_cons]
    have h0 := h n List.mem_cons_self
    have h2 := sum_nonneg fun m hm => h m (List.mem_cons_of_mem _ hm)
    rcases List.mem_cons.mp hm with rfl | hm
    · omega
    · have := mem_le_sum (fun m hm => h m (List.mem_cons_of_mem _ hm)) m hm
      omega
theorem vals_ints : ∀ {ns : List Int} {us : List Value}, Vals (ns.map V.int) us → ∃ xs : List (Int × Tok), us = xs.map (fun p => .int p.1 p.2) ∧ xs.map Prod.fst = ns
  | [], _, h => by cases h; exact ⟨[], rfl, rfl⟩
  | n :: ns, _, h => by
    cases h with
    | cons h1 h2 =>
      obtain ⟨xs, rfl, e⟩ := vals_ints h2
      obtain ⟨t, rfl⟩ := h1
      exact ⟨(n, t) :: xs, rfl, by simp [e]⟩
def rSumU (K : PySem.W.Frag) : List V → Hp → VK → Prop := fun vs H Q => ∃ (a : Addr) (ns : List Int), vs = [.ref a] ∧ SqL K H a (ns.map V.int) ∧ (∀ n ∈ ns, 0 ≤ n) ∧ ns.sum < 1000000000000 ∧ Q (.int ns.sum) H
theorem call_sumU {X : Cx} (hc : X.calm = true) : CallR X (.builtin "sum") (rSumU X.K) := by
  intro pins s σ H vs us Q I r h
  obtain ⟨a, ns, rfl, hs, hn, hb, q⟩ := h
  obtain ⟨its, rv, hl, hz⟩ := I.list hs
  rw [Vals.ref1 r]
  obtain ⟨xs, rfl, rfl⟩ := vals_ints rv
  have hv : ∀ i (hi : i < (xs.map Prod.fst).length), numAt xs.toArray i = (xs.map Prod.fst)[i] := fun i hi => by
    rw [List.length_map] at hi
    simp [numAt, hi]
  have hL : s.heap.IsList a (intItems xs.toArray) := by
    have := hl.isList
    have e : (xs.map fun p : Int × Tok => Value.int p.1 p.2).toArray = intItems xs.toArray := by simp [intItems]
    rw [e] at this; exact this
  refine sum_intList (I.ok.hd hc) hL (fun j hj => ?_) fun h' tk t' hk => ?_
  · have hj : j < xs.length := by simpa using hj
    rw [hv j (by rw [List.length_map]; exact hj), preSum_eq _ _ hv (j + 1) (by rw [List.length_map]; omega)]
    have h1 := hn _ (List.getElem_mem (l := xs.map Prod.fst) (n := j) (by rw [List.length_map]; exact hj))
    have h2 := mem_le_sum hn _ (List.getElem_mem (l := xs.map Prod.fst) (n := j) (by rw [List.length_map]; exact hj))
    have h3 := sum_take_le hn (j + 1)
    unfold InLong
    omega
  · rw [preSum_eq _ _ hv _ (by simp), List.take_of_length_le (by simp)]
    exact ⟨.int (xs.map Prod.fst).sum, H, I.kept (t' := tk) hk, ⟨t', rfl⟩, q⟩
section
variable {K : PySem.W.Frag} {Ψ : D → Prop}
theorem reps_int {G : Hp} : ∀ {ns : List Int} {xs : List V}, Reps K G (ns.map D.int) xs → xs = ns.map V.int
  | [], _, h => h.nil_inv
  | n :: ns, _, h => by
    obtain ⟨v, r, rfl, h1, h2⟩ := h.cons_inv
    rw [h1.int_inv, reps_int h2]; rfl
theorem sum_d {ns : List Int} {ds : List D} (e : ds = ns.map D.int) (h0 : ∀ n ∈ ns, 0 ≤ n) (hb : ns.sum < 1000000000000) (k : Ψ (.int ns.sum)) : RAD K (rSumU K) [.lst ds] Ψ := fun G H vs s r => by
  subst e
  obtain ⟨v, rfl, rx⟩ := r.just
  obtain ⟨p, xs, rfl, hp, r1⟩ := rx.lst_inv
  have := reps_int r1
  subst this
  exact RD.val s (rep_int _) k fun Q q => ⟨p, ns, rfl, SqL.of (s _ _ hp), h0, hb, q⟩
end
section
variable {K : PySem.W.Frag} {δ : List Sl} {P : Po}
section
variable {t : TA} {E : XK} {C : Addr} {A : FI} {B : FM}
theorem en_makeK {Φ : OD → List Sl → Prop} (h : EvA K t δ fun ds δ1 => A ds fun fs => Φ (.ins C fs) δ1) : EvN K (tMake C (spJ K C A B) [] E t) δ Φ := fun M L G0 H0 G H σ c Q q =>
  h M L G0 H0 G H σ c _ fun ds δ1 vs G1 H1 s1 c1 r1 h1 => by
    intro x dx nx ndx ne
    rw [List.append_nil]
    have f := c1.fresh nx
    have g1 : Grow [] G1 H1 G1 (upd H1 dx (.own x)) := .newH c1.gh ndx
    have nx2 : upd H1 dx (.own x) x = none := by rw [upd_ne (Ne.symm ne)]; exact nx
    have g2 : Grow [] G1 (upd H1 dx (.own x)) G1 (upd (upd H1 dx (.own x)) x (.ins C dx [])) := .newH g1.gh nx2
    refine .inl ⟨G1, x, dx, vs, ds, _, g2.gh, rfl, r1, f.2.1, upd_same, h1, fun fs G' H' g n w p => ⟨rfl, ?_⟩⟩
    have g3 : Grow [] G1 H1 G' H' := by
      refine ⟨g.g, g.gh, fun a o ha _ => ?_, fun a ha => ?_, fun a ha => ?_⟩
      · have e1 : (upd (upd H1 dx (.own x)) x (.ins C dx [])) a = some o := g2.h a o (g1.h a o ha (by simp)) (by simp)
        exact g.h a o e1 (by simp; exact ne_of_none ha nx)
      · exact g.dom a (g2.dom a (g1.dom a ha))
      · exact g.nw a (g2.dom a (g1.dom a ha))
    exact q (.ins C fs) δ1 x G' H' (s1.trans g3.g) (c1.grow g3) n f.1 w f.2.2.1 f.2.2.2 p
end
/-! ### two names, the second an own thing -/
theorem sd_parO {i j : Nat} {ta tb : TE} (h : EvD K ta δ fun d δ1 => EvN K tb δ1 fun o δ2 => P.nx ((δ2.set i (.sh d)).set j (.ow o))) : SD K (tPar i j (tCons ta (tCons tb tNil))) δ P := fun M L G0 H0 G H σ E c n r b ct =>
  h M L G0 H0 G H σ c _ fun d δ1 v G1 H1 s1 c1 r1 h1 => h1 M L G0 H0 G1 H1 σ c1 _ fun o δ2 a G2 H2 s2 c2 na h0 w ap hL k => by
    refine ⟨v, .ref a, rfl, n _ _ G2 H2 (s1.trans s2) ((c2.setSh i (r1.mono s2)).setOw j na h0 w (fun l s hs ho => ?_) hL) k⟩
    by_cases e : i = l
    · subst e
      by_cases hi : i < δ2.length
      · rw [List.getElem?_set_self hi] at hs
        cases hs; cases ho
      · rw [List.getElem?_eq_none (by rw [List.length_set]; omega)] at hs
        cases hs
    · rw [List.getElem?_set_ne e] at hs
      rw [List.getElem?_set_ne e]
      exact ap l s hs ho
theorem sd_appT {te tv : TE} (h : EvN K te δ fun o δ1 => ∃ ds, o = .lst ds ∧ ds.length < sizeLine ∧ EvD K tv δ1 fun _ δ2 => P.nx δ2) : SD K (tDrop (tBM K "list" rAppend te (tCons tv tNil))) δ P := fun M L G0 H0 G H σ E c n r b ct =>
  h M L G0 H0 G H σ c _ fun o δ1 a G1 H1 s1 c1 na h0 w ap hL ⟨ds, e, hz, hv⟩ => by
    subst e
    obtain ⟨xs, hx, rx⟩ := w
    refine ⟨.inl ⟨rfl, _, SqL.of hx⟩, hv M _ G0 H0 G1 H1 σ (c1.pinAp na h0 hx ap) _ fun d δ2 v G2 H2 s2 c2 r2 k => ?_⟩
    have hx2 := (c2.apart (p := (a, .lst xs)) List.mem_cons_self).1
    refine ⟨a, xs, v, rfl, rfl, hx2, by rw [rx.len]; exact hz, ?_⟩
    exact n δ2 σ G2 _ (s1.trans s2) (c2.writePin (o' := .lst (xs ++ [v])) hL).unpin k
theorem sd_clrT {te : TE} (h : EvN K te δ fun o δ1 => (∃ ds, o = .lst ds) ∧ P.nx δ1) : SD K (tDrop (tBM0 K "list" rClear te)) δ P := fun M L G0 H0 G H σ E c n r b ct =>
  h M L G0 H0 G H σ c _ fun o δ1 a G1 H1 s1 c1 na h0 w ap hL ⟨⟨ds, e⟩, k⟩ => by
    subst e
    obtain ⟨xs, hx, rx⟩ := w
    exact ⟨.inl ⟨rfl, _, SqL.of hx⟩, a, xs, rfl, rfl, hx, n δ1 σ G1 _ s1 ((c1.pinAp na h0 hx ap).writePin (o' := .lst []) hL).unpin k⟩
end
end Ms

namespace Ms
open PySem PySem.Spec PyProof.Rows L2
def top (i : Nat) : Stmt := PySem.Challenge.pw_markersplice_k08_strip_equality_and_flip.main.body.getD i (.Pass ⟨0, 0, 0, 0⟩)

structure LawK (K : PySem.W.Frag) : Prop where
  rg : RgK K
  st : StK K
  eq : EqK K (stC K)
  ap : ApK K (rgC K) (stC K)
def A_Strip_eq (K : PySem.W.Frag) : FS := fun ds post => ∃ p ms d, ds = [stripD K p ms, d] ∧ LawK K ∧ StOk p ms ∧ ((∃ q ns, d = stripD K q ns ∧ StOk q ns ∧ post (.val (.bl (decide (rowL q ns = rowL p ms))))) ∨ (NotC K (stC K) d ∧ post (.val (.bl false))))
def A_law_namesZ : FX := fun n ds post => ∃ many : Int, ds = [.int many] ∧ 0 ≤ many ∧ many ≤ 26 ∧ n + 10 ≤ lim ∧ ∀ ys : List Str, (ys.length : Int) = many → (∀ y ∈ ys, nameS y = true) → ys.Nodup → ¬ (("z" : Str) ∈ ys ∧ ("zz" : Str) ∈ ys ∧ ("zzzz" : Str) ∈ ys ∧ ("qqqq" : Str) ∈ ys) → post (.new (.lst (ys.map .str))) (n + 10)
def B_law_row : FX := fun n ds post => ∃ many : Int, ds = [.int many] ∧ 0 ≤ many ∧ many ≤ 12 ∧ n + 3000 ≤ lim ∧ ∀ (p : Str) (ms : List It2), StOk p ms → rowW p ms ≤ 1000 → (numsOf ms).length ≤ many → ¬ (("z" : Str) ∈ namesOf ms ∧ ("zz" : Str) ∈ namesOf ms ∧ ("zzzz" : Str) ∈ namesOf ms ∧ ("qqqq" : Str) ∈ namesOf ms) → post (.new (.lst (rowL p ms))) (n + 3000)
def B_law_turned (K : PySem.W.Frag) : FS := fun ds post => ∃ xs, ds = [.lst xs] ∧ (∀ x ∈ xs, ItOk x) ∧ txW xs ≤ 10000 ∧ post (.new (.lst (bk flI xs)))
def B_law_near : FX := fun n ds post => ∃ p ms, ds = [.lst (rowL p ms)] ∧ StOk p ms ∧ rowW p ms ≤ 1000 ∧ (numsOf ms).length ≤ 7 ∧ ¬ (("z" : Str) ∈ namesOf ms ∧ ("zz" : Str) ∈ namesOf ms ∧ ("zzzz" : Str) ∈ namesOf ms ∧ ("qqqq" : Str) ∈ namesOf ms) ∧ n + 10 ≤ lim ∧ ∀ (ls : List (List D)) (m : Nat), (∀ l ∈ ls, ∃ q ns, l = rowL q ns ∧ StOk q ns ∧ rowW q ns ≤ 3000) → ls.length ≤ 10 → m ≤ n + 10 → post (.val (.lst (ls.map .lst))) m
def B_law_palindrome : FX := fun n ds post => ∃ many : Int, ds = [.int many] ∧ 1 ≤ many ∧ many ≤ 6 ∧ n + 1000 ≤ lim ∧ ∀ (p : Str) (ms : List It2) (m : Nat), StOk p ms → rowW p ms ≤ 1000 → rowL (flR p ms).1 (flR p ms).2 = rowL p ms → m ≤ n + 1000 → post (.val (.lst (rowL p ms))) m
def B_law_like (K : PySem.W.Frag) : FS := fun ds post => ∃ p ms, ds = [stripD K p ms, .lst (rowL p ms)] ∧ LawK K ∧ StOk p ms ∧ rowW p ms ≤ 3000 ∧ post (.val (.bl true))
def B_law_right (K : PySem.W.Frag) : FS := fun ds post => ∃ (p : Str) (ms : List It2) (ls : List (List D)), ds = [.lst (rowL p ms), .lst (ls.map .lst)] ∧ LawK K ∧ StOk p ms ∧ rowW p ms ≤ 1000 ∧ (∀ l ∈ ls, ∃ q ns, l = rowL q ns ∧ StOk q ns ∧ rowW q ns ≤ 3000) ∧ ls.length ≤ 10 ∧ post (.val (.bl true))

structure Txt (K : PySem.W.Frag) (mg : Str → Option Value) : Prop where
  f_KeyError : mg "KeyError" = none
  f_ValueError : mg "ValueError" = none
  f_all : mg "all" = none
  f_bool : mg "bool" = none
  f_dict : mg "dict" = none
  f_enumerate : mg "enumerate" = none
  f_isinstance : mg "isinstance" = none
  f_len : mg "len" = none
  f_list : mg "list" = none
  f_max : mg "max" = none
  f_min : mg "min" = none
  f_range : mg "range" = none
  f_repr : mg "repr" = none
  f_str : mg "str" = none
  f_tuple : mg "tuple" = none
  f_zip : mg "zip" = none
  g_LOWER : ∃ u, mg "LOWER" = some (.str "abcdefghijklmnopqrstuvwxyz" u)
  g_UPPER : ∃ u, mg "UPPER" = some (.str "ABCDEFGHIJKLMNOPQRSTUVWXYZ" u)
  g_MAX_NAME_LENGTH : ∃ u, mg "MAX_NAME_LENGTH" = some (.int 4 u)
  g_MAX_NAMES : ∃ u, mg "MAX_NAMES" = some (.int 12 u)
  g_Ring : mg "Ring" = some (.ref (He.ga K "Ring"))
  g_Strip : mg "Strip" = some (.ref (He.ga K "Strip"))
  gd_reading_text : mg "reading_text" = some (.ref (He.ga K "reading_text"))
  ne_Ring : PySem.W.findIn K (.ref (He.ga K "Ring")) "__ne__" = some (some (.builtin "object.__ne__"))
  ob_Ring : PySem.W.mroIn K (He.ga K "Ring") (.type "object") = some true
  ne_Strip : PySem.W.findIn K (.ref (He.ga K "Strip")) "__ne__" = some (some (.builtin "object.__ne__"))
  ob_Strip : PySem.W.mroIn K (He.ga K "Strip") (.type "object") = some true
section
variable {P : Program} {w : World} {K : PySem.W.Frag} {mg : Str → Option Value} {base : Heap}
abbrev s_law_box : Stmt := top 38
abbrev n_law_box : List Str := ["_law_cell_here"]
abbrev p_law_box : List Str := ["_law_cell_here"]
theorem sc_law_box : FnScope n_law_box p_law_box (defScope s_law_box) := ⟨rfl, rfl, rfl, by decide +kernel, rfl, by decide +kernel, by decide +kernel⟩
def t_law_box (K : PySem.W.Frag) : TS :=
  (tRet (tLst (tCons (tCB rMax2 (tCons (tC (.int 0)) (tCons (tOp rSubU (tVar 0) (tOp rPowU (tC (.int 10)) (tC (.int 18)))) tNil))) (tCons (tOp rModU (tVar 0) (tC (.int 2147483629))) (tCons (tC (.int 0)) tNil)))))
theorem dv_law_box (T : Txt K mg)  {cdv : Value} {B : Around} {outer : List Env} {s : Shared} {H : Hp} {E : XK} {f : Addr} (hr : Room (0) (B.deeper (envOfC "_law_box" (defScope s_law_box) s.heap.objs.size f cdv))) :
    PSs (cxOf CX0 P w K mg base n_law_box "_law_box" (defScope s_law_box) f cdv B outer s H E) (defBody s_law_box) (t_law_box K) := by
  have nd := sc_law_box.nd
  exact PSs.nox (pss_one (ps_ret (pe_lst (pa_cons (pe_callB (call_max2U rfl) (by rfl) T.f_max (by decide +kernel) (pa_cons pe_int (pa_cons (pe_op op_subU (pv 0) (pe_op op_powU pe_int pe_int)) pa_nil))) (pa_cons (pe_op op_modU (pv 0) pe_int) (pa_cons pe_int pa_nil))))))
abbrev s_law_take : Stmt := top 39
abbrev n_law_take : List Str := ["_law_box_here", "_law_many", "_law_digit", "_law_mixed"]
abbrev p_law_take : List Str := ["_law_box_here", "_law_many"]
theorem sc_law_take : FnScope n_law_take p_law_take (defScope s_law_take) := ⟨rfl, rfl, rfl, by decide +kernel, rfl, by decide +kernel, by decide +kernel⟩
def t_law_take (K : PySem.W.Frag) : TS :=
  (tSeq (tIfS (tTest (tOp rGtU (tOp (rIxU K) (tVar 0) (tC (.int 0))) (tC (.int 0)))) (tSeq (tAsg (tOp rModU (tOp (rIxU K) (tVar 0) (tC (.int 0))) (tVar 1)) (gName 2))
  (tSeq (tAsg (tOp rDivU (tOp (rIxU K) (tVar 0) (tC (.int 0))) (tVar 1)) (gSub (tVar 0) (tC (.int 0)) rSetL))
  (tRet (tVar 2)))) tNext)
  (tSeq (tAsg (tOp (rAddU K) (tOp (rIxU K) (tVar 0) (tC (.int 2))) (tC (.int 1))) (gSub (tVar 0) (tC (.int 2)) rSetL))
  (tSeq (tAsg (tOp rModU (tOp rPowU (tOp (rAddU K) (tOp (rAddU K) (tOp (rIxU K) (tVar 0) (tC (.int 1))) (tOp rMulU (tC (.int 8563)) (tOp (rIxU K) (tVar 0) (tC (.int 2))))) (tC (.int 137))) (tC (.int 5))) (tC (.int 2147483647))) (gName 3))
  (tSeq (tAsg (tOp rModU (tOp rPowU (tOp (rAddU K) (tVar 3) (tOp rMulU (tC (.int 104729)) (tOp (rIxU K) (tVar 0) (tC (.int 2))))) (tC (.int 3))) (tC (.int 2147483587))) (gName 3))
  (tRet (tOp rModU (tOp rDivU (tVar 3) (tC (.int 16))) (tVar 1)))))))
theorem dv_law_take (T : Txt K mg)  {cdv : Value} {B : Around} {outer : List Env} {s : Shared} {H : Hp} {E : XK} {f : Addr} (hr : Room (0) (B.deeper (envOfC "_law_take" (defScope s_law_take) s.heap.objs.size f cdv))) :
    PSs (cxOf CX0 P w K mg base n_law_take "_law_take" (defScope s_law_take) f cdv B outer s H E) (defBody s_law_take) (t_law_take K) := by
  have nd := sc_law_take.nd
  exact PSs.nox (pss_cons (ps_if (pt_cmpR op_gtU (pe_ix ix_U (pv 0) pe_int (fun _ _ => rfl)) pe_int (nomark _)) (pss_cons (ps_set (i := 2) nd rfl (.inl rfl) (pe_op op_modU (pe_ix ix_U (pv 0) pe_int (fun _ _ => rfl)) (pv 1)))
      (pss_cons (ps_asg (pe_op op_divU (pe_ix ix_U (pv 0) pe_int (fun _ _ => rfl)) (pv 1)) (pg_sub (pv 0) pe_int set_list))
      (pss_one (ps_ret (pv 2))))) pss_nil)
      (pss_cons (ps_asg (pe_op op_addU (pe_ix ix_U (pv 0) pe_int (fun _ _ => rfl)) pe_int) (pg_sub (pv 0) pe_int set_list))
      (pss_cons (ps_set (i := 3) nd rfl (.inl rfl) (pe_op op_modU (pe_op op_powU (pe_op op_addU (pe_op op_addU (pe_ix ix_U (pv 0) pe_int (fun _ _ => rfl)) (pe_op op_mulU pe_int (pe_ix ix_U (pv 0) pe_int (fun _ _ => rfl)))) pe_int) pe_int) pe_int))
      (pss_cons (ps_set (i := 3) nd rfl (.inl rfl) (pe_op op_modU (pe_op op_powU (pe_op op_addU (pv 3) (pe_op op_mulU pe_int (pe_ix ix_U (pv 0) pe_int (fun _ _ => rfl)))) pe_int) pe_int))
      (pss_one (ps_ret (pe_op op_modU (pe_op op_divU (pv 3) pe_int) (pv 1))))))))
abbrev s_law_names : Stmt := top 40
abbrev n_law_names : List Str := ["_law_box_here", "_law_many", "_law_letters", "_law_first", "_law_step", "_law_way", "_law_singles", "_law_stem", "_law_at", "_law_one", "_law_two", "_law_glued", "_law_k"]
abbrev p_law_names : List Str := ["_law_box_here", "_law_many"]
theorem sc_law_names : FnScope n_law_names p_law_names (defScope s_law_names) := ⟨rfl, rfl, rfl, by decide +kernel, rfl, by decide +kernel, by decide +kernel⟩
def t_law_names (K : PySem.W.Frag) : TS :=
  (tSeq (tAsg (tC (.str "abcdefghijklmnopqrstuvwxyz")) (gName 2))
  (tSeq (tAsg (tTup (tCons (tCall (spX K (A_law_take)) [] E0 (tCons (tVar 0) (tCons (tC (.int 26)) tNil))) (tCons (tOp (rIxU K) (tLst (tCons (tC (.int 1)) (tCons (tC (.int 3)) (tCons (tC (.int 5)) (tCons (tC (.int 7)) (tCons (tC (.int 9)) (tCons (tC (.int 11)) tNil))))))) (tCall (spX K (A_law_take)) [] E0 (tCons (tVar 0) (tCons (tC (.int 6)) tNil)))) (tCons (tCall (spX K (A_law_take)) [] E0 (tCons (tVar 0) (tCons (tC (.int 5)) tNil))) tNil)))) (gTup K 3 (gCons (gName 3) (gCons (gName 4) (gCons (gName 5) gNil)))))
  (tSeq (tAsg (tLc (iRng1 (tCons (tVar 1) tNil)) (gName 12) tYes (tOp (rIxU K) (tVar 2) (tOp rModU (tOp (rAddU K) (tVar 3) (tOp rMulU (tVar 4) (tVar 12))) (tC (.int 26)))) [12]) (gName 6))
  (tSeq (tAsg (tM1 (rJoin K) (tC (.str "")) (tLc (iRng1 (tCons (tC (.int 3)) tNil)) (gName 12) tYes (tOp (rIxU K) (tVar 2) (tCall (spX K (A_law_take)) [] E0 (tCons (tVar 0) (tCons (tC (.int 26)) tNil)))) [12])) (gName 7))
  (tSeq (tIfS (tTest (tOp (rEqU K) (tVar 5) (tC (.int 3)))) (tSeq (tAsg (tCall (spX K (A_law_take)) [] E0 (tCons (tVar 0) (tCons (tC (.int 3)) tNil))) (gName 8))
  (tRet (tLc (iSeqU K (tVar 6)) (gName 9) tYes (tOp (rAddU K) (tOp (rAddU K) (tSl (rSlU K) (tVar 7) tNoPart (tPart (tVar 8))) (tVar 9)) (tSl (rSlU K) (tVar 7) (tPart (tVar 8)) tNoPart)) [9]))) tNext)
  (tSeq (tIfS (tAnd (tTest (tOp (rEqU K) (tVar 5) (tC (.int 4)))) (tTest (tOp rLtU (tVar 1) (tC (.int 13))))) (tSeq (tPar 9 10 (tCons (tOp (rIxU K) (tVar 2) (tVar 3)) (tCons (tOp (rIxU K) (tVar 2) (tOp rModU (tOp (rAddU K) (tVar 3) (tC (.int 7))) (tC (.int 26)))) tNil)))
  (tSeq (tAsg (tLst (tCons (tVar 9) (tCons (tVar 10) (tCons (tOp (rAddU K) (tVar 9) (tVar 10)) (tCons (tOp (rAddU K) (tVar 10) (tVar 9)) (tCons (tOp (rAddU K) (tVar 9) (tVar 9)) (tCons (tOp (rAddU K) (tVar 10) (tVar 10)) (tCons (tOp (rAddU K) (tOp (rAddU K) (tVar 9) (tVar 10)) (tVar 9)) (tCons (tOp (rAddU K) (tOp (rAddU K) (tVar 10) (tVar 9)) (tVar 10)) tNil))))))))) (gName 11))
  (tSeq (tAsg (tOp (rAddU K) (tVar 11) (tLst (tCons (tOp (rAddU K) (tOp (rAddU K) (tVar 9) (tVar 9)) (tVar 10)) (tCons (tOp (rAddU K) (tOp (rAddU K) (tVar 10) (tVar 10)) (tVar 9)) (tCons (tOp (rAddU K) (tOp (rAddU K) (tOp (rAddU K) (tVar 9) (tVar 10)) (tVar 9)) (tVar 10)) (tCons (tOp (rAddU K) (tOp (rAddU K) (tOp (rAddU K) (tVar 10) (tVar 9)) (tVar 10)) (tVar 9)) tNil)))))) (gName 11))
  (tRet (tLc (iRng1 (tCons (tVar 1) tNil)) (gName 12) tYes (tOp (rIxU K) (tVar 11) (tOp rModU (tOp (rAddU K) (tVar 3) (tOp rMulU (tC (.int 5)) (tVar 12))) (tC (.int 12)))) [12]))))) tNext)
  (tSeq (tIfS (tTest (tOp (rEqU K) (tVar 5) (tC (.int 0)))) (tRet (tVar 6)) tNext)
  (tSeq (tIfS (tTest (tOp (rEqU K) (tVar 5) (tC (.int 1)))) (tRet (tLc (iEnU K (tCons (tVar 6) tNil)) (gTup K 2 (gCons (gName 12) (gCons (gName 9) gNil))) tYes (tOp (rAddU K) (tSl (rSlU K) (tVar 7) tNoPart (tPart (tOp (rAddU K) (tC (.int 1)) (tOp rModU (tVar 12) (tC (.int 3)))))) (tVar 9)) [12, 9])) tNext)
  (tRet (tLc (iEnU K (tCons (tVar 6) tNil)) (gTup K 2 (gCons (gName 12) (gCons (gName 9) gNil))) tYes (tOp rMulU (tVar 9) (tOp (rAddU K) (tC (.int 1)) (tOp rModU (tVar 12) (tC (.int 4))))) [12, 9]))))))))))
theorem dv_law_names (T : Txt K mg) (c_law_take : Fn P w K mg base (0 + 1) "_law_take" ["_law_box_here", "_law_many"] (spX K (A_law_take))) {cdv : Value} {B : Around} {outer : List Env} {s : Shared} {H : Hp} {E : XK} {f : Addr} (hr : Room (1) (B.deeper (envOfC "_law_names" (defScope s_law_names) s.heap.objs.size f cdv))) :
    PSs (cxOf CX0 P w K mg base n_law_names "_law_names" (defScope s_law_names) f cdv B outer s H E) (defBody s_law_names) (t_law_names K) := by
  have nd := sc_law_names.nd
  exact PSs.nox (pss_cons (ps_set (i := 2) nd rfl (.inr rfl) pe_str)
      (pss_cons (ps_asg (pe_tup (pa_cons (pe_fn c_law_take (hr.mono (by omega)) (by rfl) (pa_cons (pv 0) (pa_cons pe_int pa_nil))) (pa_cons (pe_ix ix_U (pe_lst (pa_cons pe_int (pa_cons pe_int (pa_cons pe_int (pa_cons pe_int (pa_cons pe_int (pa_cons pe_int pa_nil))))))) (pe_fn c_law_take (hr.mono (by omega)) (by rfl) (pa_cons (pv 0) (pa_cons pe_int pa_nil))) (fun _ _ => rfl)) (pa_cons (pe_fn c_law_take (hr.mono (by omega)) (by rfl) (pa_cons (pv 0) (pa_cons pe_int pa_nil))) pa_nil)))) (pg_tup (by rfl) (pgs_cons (pg_name (i := 3) nd rfl (.inr rfl)) (pgs_cons (pg_name (i := 4) nd rfl (.inr rfl)) (pgs_cons (pg_name (i := 5) nd rfl (.inl rfl)) pgs_nil)))))
      (pss_cons (ps_setLc (i := 6) (own := [("_law_k", 12)]) (by rfl) nd rfl rfl (sw_true rfl rfl rfl (by decide +kernel)) (pi_range1 (by rfl) T.f_range (pa_cons (pv 1) pa_nil)) (blkOk_by (own := [("_law_k", 12)]) (N := n_law_names) (sc := defScope s_law_names) (by decide +kernel)) (fun _ _ _ _ _ => (pg_name (i := 12) nd rfl (.inl rfl))) (fun _ _ _ _ _ => pts_nil) (fun _ _ _ _ _ => (pe_ix ix_U (pv 2) (pe_op op_modU (pe_op op_addU (pv 3) (pe_op op_mulU (pv 4) (pv 12))) pe_int) (fun _ _ => rfl))))
      (pss_cons (ps_set (i := 7) nd rfl (.inr rfl) (pe_m1 PySem.F.slot_str_join PySem.F.type_str_join mt_joinU pe_str (pe_lc (own := [("_law_k", 12)]) (by rfl) nd (pi_range1 (by rfl) T.f_range (pa_cons pe_int pa_nil)) (blkOk_by (own := [("_law_k", 12)]) (N := n_law_names) (sc := defScope s_law_names) (by decide +kernel)) (fun _ _ _ _ _ => (pg_name (i := 12) nd rfl (.inl rfl))) (fun _ _ _ _ _ => pts_nil) (fun _ _ _ _ _ => (pe_ix ix_U (pv 2) (pe_fn c_law_take (hr.mono (by omega)) (by rfl) (pa_cons (pv 0) (pa_cons pe_int pa_nil))) (fun _ _ => rfl))))))
      (pss_cons (ps_if (pt_cmpR (op_eqU hr.units) (pv 5) pe_int (nomark _)) (pss_cons (ps_set (i := 8) nd rfl (.inr rfl) (pe_fn c_law_take (hr.mono (by omega)) (by rfl) (pa_cons (pv 0) (pa_cons pe_int pa_nil))))
      (pss_one (ps_ret (pe_lc (own := [("_law_one", 9)]) (by rfl) nd (pi_seqU (pv 6)) (blkOk_by (own := [("_law_one", 9)]) (N := n_law_names) (sc := defScope s_law_names) (by decide +kernel)) (fun _ _ _ _ _ => (pg_name (i := 9) nd rfl (.inl rfl))) (fun _ _ _ _ _ => pts_nil) (fun _ _ _ _ _ => (pe_op op_addU (pe_op op_addU (pe_slice sl_U (pv 7) po_none (po_some (pv 8))) (pv 9)) (pe_slice sl_U (pv 7) (po_some (pv 8)) po_none))))))) pss_nil)
      (pss_cons (ps_if (PW.pt (pw_and (pt_cmpR (op_eqU hr.units) (pv 5) pe_int (nomark _)) (pw_and1 (pt_cmpR op_ltU (pv 1) pe_int (nomark _))))) (pss_cons (ps_par (by rfl) nd rfl rfl (by decide) rfl rfl (pa_cons (pe_ix ix_U (pv 2) (pv 3) (fun _ _ => rfl)) (pa_cons (pe_ix ix_U (pv 2) (pe_op op_modU (pe_op op_addU (pv 3) pe_int) pe_int) (fun _ _ => rfl)) pa_nil)) (by rfl))
      (pss_cons (ps_set (i := 11) nd rfl (.inr rfl) (pe_lst (pa_cons (pv 9) (pa_cons (pv 10) (pa_cons (pe_op op_addU (pv 9) (pv 10)) (pa_cons (pe_op op_addU (pv 10) (pv 9)) (pa_cons (pe_op op_addU (pv 9) (pv 9)) (pa_cons (pe_op op_addU (pv 10) (pv 10)) (pa_cons (pe_op op_addU (pe_op op_addU (pv 9) (pv 10)) (pv 9)) (pa_cons (pe_op op_addU (pe_op op_addU (pv 10) (pv 9)) (pv 10)) pa_nil))))))))))
      (pss_cons (ps_set (i := 11) nd rfl (.inr rfl) (pe_op op_addU (pv 11) (pe_lst (pa_cons (pe_op op_addU (pe_op op_addU (pv 9) (pv 9)) (pv 10)) (pa_cons (pe_op op_addU (pe_op op_addU (pv 10) (pv 10)) (pv 9)) (pa_cons (pe_op op_addU (pe_op op_addU (pe_op op_addU (pv 9) (pv 10)) (pv 9)) (pv 10)) (pa_cons (pe_op op_addU (pe_op op_addU (pe_op op_addU (pv 10) (pv 9)) (pv 10)) (pv 9)) pa_nil)))))))
      (pss_one (ps_ret (pe_lc (own := [("_law_k", 12)]) (by rfl) nd (pi_range1 (by rfl) T.f_range (pa_cons (pv 1) pa_nil)) (blkOk_by (own := [("_law_k", 12)]) (N := n_law_names) (sc := defScope s_law_names) (by decide +kernel)) (fun _ _ _ _ _ => (pg_name (i := 12) nd rfl (.inl rfl))) (fun _ _ _ _ _ => pts_nil) (fun _ _ _ _ _ => (pe_ix ix_U (pv 11) (pe_op op_modU (pe_op op_addU (pv 3) (pe_op op_mulU pe_int (pv 12))) pe_int) (fun _ _ => rfl))))))))) pss_nil)
      (pss_cons (ps_if (pt_cmpR (op_eqU hr.units) (pv 5) pe_int (nomark _)) (pss_one (ps_ret (pv 6))) pss_nil)
      (pss_cons (ps_if (pt_cmpR (op_eqU hr.units) (pv 5) pe_int (nomark _)) (pss_one (ps_ret (pe_lc (own := [("_law_k", 12), ("_law_one", 9)]) (by rfl) nd (pi_enU (by rfl) T.f_enumerate (pa_cons (pv 6) pa_nil)) (blkOk_by (own := [("_law_k", 12), ("_law_one", 9)]) (N := n_law_names) (sc := defScope s_law_names) (by decide +kernel)) (fun _ _ _ _ _ => (pg_tup (by rfl) (pgs_cons (pg_name (i := 12) nd rfl (.inl rfl)) (pgs_cons (pg_name (i := 9) nd rfl (.inl rfl)) pgs_nil)))) (fun _ _ _ _ _ => pts_nil) (fun _ _ _ _ _ => (pe_op op_addU (pe_slice sl_U (pv 7) po_none (po_some (pe_op op_addU pe_int (pe_op op_modU (pv 12) pe_int)))) (pv 9)))))) pss_nil)
      (pss_one (ps_ret (pe_lc (own := [("_law_k", 12), ("_law_one", 9)]) (by rfl) nd (pi_enU (by rfl) T.f_enumerate (pa_cons (pv 6) pa_nil)) (blkOk_by (own := [("_law_k", 12), ("_law_one", 9)]) (N := n_law_names) (sc := defScope s_law_names) (by decide +kernel)) (fun _ _ _ _ _ => (pg_tup (by rfl) (pgs_cons (pg_name (i := 12) nd rfl (.inl rfl)) (pgs_cons (pg_name (i := 9) nd rfl (.inl rfl)) pgs_nil)))) (fun _ _ _ _ _ => pts_nil) (fun _ _ _ _ _ => (pe_op op_mulU (pv 9) (pe_op op_addU pe_int (pe_op op_modU (pv 12) pe_int)))))))))))))))
abbrev s_law_piece : Stmt := top 41
abbrev n_law_piece : List Str := ["_law_box_here", "_law_letters", "_law_long", "_law_k"]
abbrev p_law_piece : List Str := ["_law_box_here"]
theorem sc_law_piece : FnScope n_law_piece p_law_piece (defScope s_law_piece) := ⟨rfl, rfl, rfl, by decide +kernel, rfl, by decide +kernel, by decide +kernel⟩
def t_law_piece (K : PySem.W.Frag) : TS :=
  (tSeq (tAsg (tC (.str "abcdefghijklmnopqrstuvwxyzABCDEFGHIJKLMNOPQRSTUVWXYZ")) (gName 1))
  (tSeq (tAsg (tIf (tTest (tOp (rEqU K) (tCall (spX K (A_law_take)) [] E0 (tCons (tVar 0) (tCons (tC (.int 3)) tNil))) (tC (.int 0)))) (tOp (rIxU K) (tLst (tCons (tC (.int 0)) (tCons (tC (.int 1)) (tCons (tC (.int 2)) (tCons (tC (.int 6)) (tCons (tC (.int 40)) tNil)))))) (tCall (spX K (A_law_take)) [] E0 (tCons (tVar 0) (tCons (tC (.int 5)) tNil)))) (tCall (spX K (A_law_take)) [] E0 (tCons (tVar 0) (tCons (tC (.int 4)) tNil)))) (gName 2))
  (tRet (tM1 (rJoin K) (tC (.str "")) (tLc (iRng1 (tCons (tVar 2) tNil)) (gName 3) tYes (tOp (rIxU K) (tVar 1) (tCall (spX K (A_law_take)) [] E0 (tCons (tVar 0) (tCons (tC (.int 52)) tNil)))) [3])))))
theorem dv_law_piece (T : Txt K mg) (c_law_take : Fn P w K mg base (0 + 1) "_law_take" ["_law_box_here", "_law_many"] (spX K (A_law_take))) {cdv : Value} {B : Around} {outer : List Env} {s : Shared} {H : Hp} {E : XK} {f : Addr} (hr : Room (1) (B.deeper (envOfC "_law_piece" (defScope s_law_piece) s.heap.objs.size f cdv))) :
    PSs (cxOf CX0 P w K mg base n_law_piece "_law_piece" (defScope s_law_piece) f cdv B outer s H E) (defBody s_law_piece) (t_law_piece K) := by
  have nd := sc_law_piece.nd
  exact PSs.nox (pss_cons (ps_set (i := 1) nd rfl (.inr rfl) pe_str)
      (pss_cons (ps_set (i := 2) nd rfl (.inl rfl) (pe_ifExp (pt_cmpR (op_eqU hr.units) (pe_fn c_law_take (hr.mono (by omega)) (by rfl) (pa_cons (pv 0) (pa_cons pe_int pa_nil))) pe_int (nomark _)) (pe_ix ix_U (pe_lst (pa_cons pe_int (pa_cons pe_int (pa_cons pe_int (pa_cons pe_int (pa_cons pe_int pa_nil)))))) (pe_fn c_law_take (hr.mono (by omega)) (by rfl) (pa_cons (pv 0) (pa_cons pe_int pa_nil))) (fun _ _ => rfl)) (pe_fn c_law_take (hr.mono (by omega)) (by rfl) (pa_cons (pv 0) (pa_cons pe_int pa_nil)))))
      (pss_one (ps_ret (pe_m1 PySem.F.slot_str_join PySem.F.type_str_join mt_joinU pe_str (pe_lc (own := [("_law_k", 3)]) (by rfl) nd (pi_range1 (by rfl) T.f_range (pa_cons (pv 2) pa_nil)) (blkOk_by (own := [("_law_k", 3)]) (N := n_law_piece) (sc := defScope s_law_piece) (by decide +kernel)) (fun _ _ _ _ _ => (pg_name (i := 3) nd rfl (.inl rfl))) (fun _ _ _ _ _ => pts_nil) (fun _ _ _ _ _ => (pe_ix ix_U (pv 1) (pe_fn c_law_take (hr.mono (by omega)) (by rfl) (pa_cons (pv 0) (pa_cons pe_int pa_nil))) (fun _ _ => rfl)))))))))
abbrev s_law_row : Stmt := top 42
abbrev n_law_row : List Str := ["_law_box_here", "_law_many", "_law_slots", "_law_found", "_law_k"]
abbrev p_law_row : List Str := ["_law_box_here", "_law_many"]
theorem sc_law_row : FnScope n_law_row p_law_row (defScope s_law_row) := ⟨rfl, rfl, rfl, by decide +kernel, rfl, by decide +kernel, by decide +kernel⟩
def t_law_row (K : PySem.W.Frag) : TS :=
  (tSeq (tAsg (tOp rMulU (tCall (spX K (A_law_namesZ)) [] E0 (tCons (tVar 0) (tCons (tVar 1) tNil))) (tC (.int 2))) (gName 2))
  (tSeq (tAsg (tLst (tCons (tCall (spX K (A_law_piece)) [] E0 (tCons (tVar 0) tNil)) tNil)) (gName 3))
  (tSeq (tFor (iRng1 (tCons (tOp rMulU (tC (.int 2)) (tVar 1)) tNil)) (gName 4)
  (tSeq (tDrop (tBM K "list" rAppend (tVar 3) (tCons (tTup (tCons (tBM K "list" rPopAt (tVar 2) (tCons (tCall (spX K (A_law_take)) [] E0 (tCons (tVar 0) (tCons (tCB (rLenU K) (tCons (tVar 2) tNil)) tNil))) tNil)) (tCons (tOp (rEqU K) (tCall (spX K (A_law_take)) [] E0 (tCons (tVar 0) (tCons (tC (.int 2)) tNil))) (tC (.int 0))) tNil))) tNil)))
  (tDrop (tBM K "list" rAppend (tVar 3) (tCons (tCall (spX K (A_law_piece)) [] E0 (tCons (tVar 0) tNil)) tNil)))))
  (tRet (tVar 3)))))
theorem dv_law_row (T : Txt K mg) (c_law_piece : Fn P w K mg base (1 + 1) "_law_piece" ["_law_box_here"] (spX K (A_law_piece))) (c_law_take : Fn P w K mg base (0 + 1) "_law_take" ["_law_box_here", "_law_many"] (spX K (A_law_take))) (c_law_names : Fn P w K mg base (1 + 1) "_law_names" ["_law_box_here", "_law_many"] (spX K (A_law_namesZ))) {cdv : Value} {B : Around} {outer : List Env} {s : Shared} {H : Hp} {E : XK} {f : Addr} (hr : Room (2) (B.deeper (envOfC "_law_row" (defScope s_law_row) s.heap.objs.size f cdv))) :
    PSs (cxOf CX0 P w K mg base n_law_row "_law_row" (defScope s_law_row) f cdv B outer s H E) (defBody s_law_row) (t_law_row K) := by
  have nd := sc_law_row.nd
  exact PSs.nox (pss_cons (ps_set (i := 2) nd rfl (.inl rfl) (pe_op op_mulU (pe_fn c_law_names (hr.mono (by omega)) (by rfl) (pa_cons (pv 0) (pa_cons (pv 1) pa_nil))) pe_int))
      (pss_cons (ps_set (i := 3) nd rfl (.inl rfl) (pe_lst (pa_cons (pe_fn c_law_piece (hr.mono (by omega)) (by rfl) (pa_cons (pv 0) pa_nil)) pa_nil)))
      (pss_cons (ps_for PassesOwn.never rfl (pi_range1 (by rfl) T.f_range (pa_cons (pe_op op_mulU pe_int (pv 1)) pa_nil)) (pg_name (i := 4) nd rfl (.inl rfl))
      (pss_cons (ps_expr (pe_bm PySem.F.plainAttrs_list PySem.F.slot_list_append PySem.F.type_list_append mt_append (pv 3) (pa_cons (pe_tup (pa_cons (pe_bm PySem.F.plainAttrs_list PySem.F.slot_list_pop PySem.F.type_list_pop mt_popAt (pv 2) (pa_cons (pe_fn c_law_take (hr.mono (by omega)) (by rfl) (pa_cons (pv 0) (pa_cons (pe_callB call_lenU (by rfl) T.f_len (by decide +kernel) (pa_cons (pv 2) pa_nil)) pa_nil))) pa_nil)) (pa_cons (pe_cmpR (op_eqU hr.units) (pe_fn c_law_take (hr.mono (by omega)) (by rfl) (pa_cons (pv 0) (pa_cons pe_int pa_nil))) pe_int (nomark _)) pa_nil))) pa_nil)))
      (pss_one (ps_expr (pe_bm PySem.F.plainAttrs_list PySem.F.slot_list_append PySem.F.type_list_append mt_append (pv 3) (pa_cons (pe_fn c_law_piece (hr.mono (by omega)) (by rfl) (pa_cons (pv 0) pa_nil)) pa_nil))))))
      (pss_one (ps_ret (pv 3))))))
abbrev s_law_turned : Stmt := top 43
abbrev n_law_turned : List Str := ["_law_row_here", "_law_small", "_law_table", "_law_found", "_law_thing", "_law_sign"]
abbrev p_law_turned : List Str := ["_law_row_here"]
theorem sc_law_turned : FnScope n_law_turned p_law_turned (defScope s_law_turned) := ⟨rfl, rfl, rfl, by decide +kernel, rfl, by decide +kernel, by decide +kernel⟩
def t_law_turned (K : PySem.W.Frag) : TS :=
  (tSeq (tAsg (tC (.str "abcdefghijklmnopqrstuvwxyz")) (gName 1))
  (tSeq (tAsg (tCB (rDictP K) (tCons (tOp (rAddU K) (tLZ (tCons (tVar 1) (tCons (tM0 rUpper (tVar 1)) tNil))) (tLZ (tCons (tM0 rUpper (tVar 1)) (tCons (tVar 1) tNil)))) tNil)) (gName 2))
  (tSeq (tAsg (tLst tNil) (gName 3))
  (tSeq (tFor (iSeqU K (tVar 0)) (gName 4)
  (tIfS (tB (tCB (rIsiU K) (tCons (tVar 4) (tCons (tC (.ty "tuple")) tNil)))) (tDrop (tBM K "list" rInsert (tVar 3) (tCons (tC (.int 0)) (tCons (tTup (tCons (tOp (rIxU K) (tVar 4) (tC (.int 0))) (tCons (tNotV (tOp (rIxU K) (tVar 4) (tC (.int 1)))) tNil))) tNil)))) (tDrop (tBM K "list" rInsert (tVar 3) (tCons (tC (.int 0)) (tCons (tM1 (rJoin K) (tC (.str "")) (tLc (iSeqU K (tUn (rStepU K none none (-1)) (tVar 4))) (gName 5) tYes (tDGet (tVar 2) (tVar 5)) [5])) tNil))))))
  (tRet (tVar 3))))))
theorem dv_law_turned (T : Txt K mg)  {cdv : Value} {B : Around} {outer : List Env} {s : Shared} {H : Hp} {E : XK} {f : Addr} (hr : Room (0) (B.deeper (envOfC "_law_turned" (defScope s_law_turned) s.heap.objs.size f cdv))) :
    PSs (cxOf CX0 P w K mg base n_law_turned "_law_turned" (defScope s_law_turned) f cdv B outer s H E) (defBody s_law_turned) (t_law_turned K) := by
  have nd := sc_law_turned.nd
  exact PSs.nox (pss_cons (ps_set (i := 1) nd rfl (.inl rfl) pe_str)
      (pss_cons (ps_set (i := 2) nd rfl (.inr rfl) (pe_callTy (call_dictPU rfl) (by rfl) T.f_dict (by decide +kernel) (pa_cons (pe_op op_addU (pe_lz (by rfl) T.f_list (by rfl) T.f_zip rfl (pa_cons (pv 1) (pa_cons (pe_m0 PySem.F.slot_str_upper PySem.F.type_str_upper mt_upperU (pv 1)) pa_nil))) (pe_lz (by rfl) T.f_list (by rfl) T.f_zip rfl (pa_cons (pe_m0 PySem.F.slot_str_upper PySem.F.type_str_upper mt_upperU (pv 1)) (pa_cons (pv 1) pa_nil)))) pa_nil)))
      (pss_cons (ps_set (i := 3) nd rfl (.inl rfl) (pe_lst pa_nil))
      (pss_cons (ps_for PassesOwn.never rfl (pi_seqU (pv 0)) (pg_name (i := 4) nd rfl (.inl rfl))
      (pss_one (ps_if (pt_val (pe_callB call_isiU (by rfl) T.f_isinstance (by decide +kernel) (pa_cons (pv 4) (pa_cons (pe_bltn (v := .ty "tuple") (by rfl) T.f_tuple (by decide +kernel) rfl) pa_nil)))) (pss_one (ps_expr (pe_bm PySem.F.plainAttrs_list PySem.F.slot_list_insert PySem.F.type_list_insert mt_insertU (pv 3) (pa_cons pe_int (pa_cons (pe_tup (pa_cons (pe_ix ix_U (pv 4) pe_int (fun _ _ => rfl)) (pa_cons (pe_not (pe_ix ix_U (pv 4) pe_int (fun _ _ => rfl))) pa_nil))) pa_nil))))) (pss_one (ps_expr (pe_bm PySem.F.plainAttrs_list PySem.F.slot_list_insert PySem.F.type_list_insert mt_insertU (pv 3) (pa_cons pe_int (pa_cons (pe_m1 PySem.F.slot_str_join PySem.F.type_str_join mt_joinU pe_str (pe_lc (own := [("_law_sign", 5)]) (by rfl) nd (pi_seqU (pe_stepU (c := (-1)) (pv 4) po_none po_none (po_some (pe_un un_negU pe_int)) (fun _ _ _ q => q) (fun _ _ _ q => q) (fun _ _ _ q => ⟨1, rfl, -1, rfl, q⟩) (by decide) (by decide))) (blkOk_by (own := [("_law_sign", 5)]) (N := n_law_turned) (sc := defScope s_law_turned) (by decide +kernel)) (fun _ _ _ _ _ => (pg_name (i := 5) nd rfl (.inl rfl))) (fun _ _ _ _ _ => pts_nil) (fun _ _ _ _ _ => (pe_dget (u1 hr.units) (pv 2) (pv 5) (fun _ _ => rfl))))) pa_nil))))))))
      (pss_one (ps_ret (pv 3)))))))
abbrev s_law_palindrome : Stmt := top 45
abbrev n_law_palindrome : List Str := ["_law_box_here", "_law_many", "_law_half", "_law_k", "_law_side"]
abbrev p_law_palindrome : List Str := ["_law_box_here", "_law_many"]
theorem sc_law_palindrome : FnScope n_law_palindrome p_law_palindrome (defScope s_law_palindrome) := ⟨rfl, rfl, rfl, by decide +kernel, rfl, by decide +kernel, by decide +kernel⟩
def t_law_palindrome (K : PySem.W.Frag) : TS :=
  (tSeq (tAsg (tLst tNil) (gName 2))
  (tSeq (tFor (iRng1 (tCons (tVar 1) tNil)) (gName 3)
  (tAsg (tOp (rAddU K) (tVar 2) (tLst (tCons (tCall (spX K (A_law_piece)) [] E0 (tCons (tVar 0) tNil)) (tCons (tTup (tCons (tOp (rIxU K) (tC (.str "abcdefg")) (tVar 3)) (tCons (tOp (rEqU K) (tCall (spX K (A_law_take)) [] E0 (tCons (tVar 0) (tCons (tC (.int 2)) tNil))) (tC (.int 0))) tNil))) tNil)))) (gName 2)))
  (tSeq (tAsg (tCall (spX K (A_law_piece)) [] E0 (tCons (tVar 0) tNil)) (gName 4))
  (tRet (tOp (rAddU K) (tOp (rAddU K) (tVar 2) (tLst (tCons (tOp (rAddU K) (tVar 4) (tOp (rIxU K) (tCall (spG K (B_law_turned K)) [] E0 (tCons (tLst (tCons (tVar 4) tNil)) tNil)) (tC (.int 0)))) tNil))) (tCall (spG K (B_law_turned K)) [] E0 (tCons (tVar 2) tNil)))))))
theorem dv_law_palindrome (T : Txt K mg) (c_law_turned : Fn P w K mg base (0 + 1) "_law_turned" ["_law_row_here"] (spG K (B_law_turned K))) (c_law_piece : Fn P w K mg base (1 + 1) "_law_piece" ["_law_box_here"] (spX K (A_law_piece))) (c_law_take : Fn P w K mg base (0 + 1) "_law_take" ["_law_box_here", "_law_many"] (spX K (A_law_take))) {cdv : Value} {B : Around} {outer : List Env} {s : Shared} {H : Hp} {E : XK} {f : Addr} (hr : Room (2) (B.deeper (envOfC "_law_palindrome" (defScope s_law_palindrome) s.heap.objs.size f cdv))) :
    PSs (cxOf CX0 P w K mg base n_law_palindrome "_law_palindrome" (defScope s_law_palindrome) f cdv B outer s H E) (defBody s_law_palindrome) (t_law_palindrome K) := by
  have nd := sc_law_palindrome.nd
  exact PSs.nox (pss_cons (ps_set (i := 2) nd rfl (.inl rfl) (pe_lst pa_nil))
      (pss_cons (ps_for PassesOwn.never rfl (pi_range1 (by rfl) T.f_range (pa_cons (pv 1) pa_nil)) (pg_name (i := 3) nd rfl (.inl rfl))
      (pss_one (ps_set (i := 2) nd rfl (.inl rfl) (pe_op op_addU (pv 2) (pe_lst (pa_cons (pe_fn c_law_piece (hr.mono (by omega)) (by rfl) (pa_cons (pv 0) pa_nil)) (pa_cons (pe_tup (pa_cons (pe_ix ix_U pe_str (pv 3) (fun _ _ => rfl)) (pa_cons (pe_cmpR (op_eqU hr.units) (pe_fn c_law_take (hr.mono (by omega)) (by rfl) (pa_cons (pv 0) (pa_cons pe_int pa_nil))) pe_int (nomark _)) pa_nil))) pa_nil)))))))
      (pss_cons (ps_set (i := 4) nd rfl (.inl rfl) (pe_fn c_law_piece (hr.mono (by omega)) (by rfl) (pa_cons (pv 0) pa_nil)))
      (pss_one (ps_ret (pe_op op_addU (pe_op op_addU (pv 2) (pe_lst (pa_cons (pe_op op_addU (pv 4) (pe_ix ix_U (pe_fn c_law_turned (hr.mono (by omega)) (by rfl) (pa_cons (pe_lst (pa_cons (pv 4) pa_nil)) pa_nil)) pe_int (fun _ _ => rfl))) pa_nil))) (pe_fn c_law_turned (hr.mono (by omega)) (by rfl) (pa_cons (pv 2) pa_nil))))))))
abbrev s_law_cell : Stmt := top 37
abbrev n_law_cell : List Str := ["_law_script", "_law_k"]
abbrev p_law_cell : List Str := ["_law_script", "_law_k"]
theorem sc_law_cell : FnScope n_law_cell p_law_cell (defScope s_law_cell) := ⟨rfl, rfl, rfl, by decide +kernel, rfl, by decide +kernel, by decide +kernel⟩
def t_law_cell (K : PySem.W.Frag) : TS :=
  (tSeq (tIfS (tTest (tOp rLtU (tVar 1) (tCB (rLenU K) (tCons (tVar 0) tNil)))) (tRet (tOp (rIxU K) (tVar 0) (tVar 1))) tNext)
  (tRet (tOp (rAddU K) (tOp rMulU (tC (.int 8563)) (tVar 1)) (tC (.int 137)))))
theorem dv_law_cell (T : Txt K mg)  {cdv : Value} {B : Around} {outer : List Env} {s : Shared} {H : Hp} {E : XK} {f : Addr} (hr : Room (0) (B.deeper (envOfC "_law_cell" (defScope s_law_cell) s.heap.objs.size f cdv))) :
    PSs (cxOf CX0 P w K mg base n_law_cell "_law_cell" (defScope s_law_cell) f cdv B outer s H E) (defBody s_law_cell) (t_law_cell K) := by
  have nd := sc_law_cell.nd
  exact PSs.nox (pss_cons (ps_if (pt_cmpR op_ltU (pv 1) (pe_callB call_lenU (by rfl) T.f_len (by decide +kernel) (pa_cons (pv 0) pa_nil)) (nomark _)) (pss_one (ps_ret (pe_ix ix_U (pv 0) (pv 1) (fun _ _ => rfl)))) pss_nil)
      (pss_one (ps_ret (pe_op op_addU (pe_op op_mulU pe_int (pv 1)) pe_int))))
abbrev s_is_name : Stmt := top 14
abbrev n_is_name : List Str := ["value", "letter"]
abbrev p_is_name : List Str := ["value"]
theorem sc_is_name : FnScope n_is_name p_is_name (defScope s_is_name) := ⟨rfl, rfl, rfl, by decide +kernel, rfl, by decide +kernel, by decide +kernel⟩
def t_is_name (K : PySem.W.Frag) : TS :=
  (tSeq (tIfS (tOr (tNot (tB (tCB (rIsiU K) (tCons (tVar 0) (tCons (tC (.ty "str")) tNil))))) (tNot (tTest (tChain rLeU rLeU (tC (.int 1)) (tCB (rLenU K) (tCons (tVar 0) tNil)) (tC (.int 4)))))) (tRet (tC (.bl false))) tNext)
  (tRet (tCB (rAllU K) (tCons (tLc (iSeqU K (tVar 0)) (gName 1) tYes (tOp (rInU K) (tVar 1) (tC (.str "abcdefghijklmnopqrstuvwxyz"))) [1]) tNil))))
theorem dv_is_name (T : Txt K mg)  {cdv : Value} {B : Around} {outer : List Env} {s : Shared} {H : Hp} {E : XK} {f : Addr} (hr : Room (0) (B.deeper (envOfC "is_name" (defScope s_is_name) s.heap.objs.size f cdv))) :
    PSs (cxOf CX0 P w K mg base n_is_name "is_name" (defScope s_is_name) f cdv B outer s H E) (defBody s_is_name) (t_is_name K) := by
  have nd := sc_is_name.nd
  exact PSs.nox (pss_cons (ps_if (PW.pt (pw_or (pt_not (pt_val (pe_callB call_isiU (by rfl) T.f_isinstance (by decide +kernel) (pa_cons (pv 0) (pa_cons (pe_bltn (v := .ty "str") (by rfl) T.f_str (by decide +kernel) rfl) pa_nil))))) (pw_or1 (pt_not (pt_chain op_leU op_leU pe_int (pe_callB call_lenU (by rfl) T.f_len (by decide +kernel) (pa_cons (pv 0) pa_nil)) (pe_gint T.g_MAX_NAME_LENGTH (by rfl))))))) (pss_one (ps_ret pe_bl)) pss_nil)
      (pss_one (ps_ret (pe_callB (call_allU rfl) (by rfl) T.f_all (by decide +kernel) (pa_cons (pe_lc (own := [("letter", 1)]) (by rfl) nd (pi_seqU (pv 0)) (blkOk_by (own := [("letter", 1)]) (N := n_is_name) (sc := defScope s_is_name) (by decide +kernel)) (fun _ _ _ _ _ => (pg_name (i := 1) nd rfl (.inl rfl))) (fun _ _ _ _ _ => pts_nil) (fun _ _ _ _ _ => (pe_cmpR op_inU (pv 1) (pe_gstr T.g_LOWER (by rfl)) (by rfl)))) pa_nil)))))
abbrev s_is_marker : Stmt := top 16
abbrev n_is_marker : List Str := ["value"]
abbrev p_is_marker : List Str := ["value"]
theorem sc_is_marker : FnScope n_is_marker p_is_marker (defScope s_is_marker) := ⟨rfl, rfl, rfl, by decide +kernel, rfl, by decide +kernel, by decide +kernel⟩
def t_is_marker (K : PySem.W.Frag) : TS :=
  (tRet (tAndV (tCB (rIsiU K) (tCons (tVar 0) (tCons (tC (.ty "tuple")) tNil))) (tAndV (tOp (rEqU K) (tCB (rLenU K) (tCons (tVar 0) tNil)) (tC (.int 2))) (tAndV (tCall (spG K (A_is_name K)) [] E0 (tCons (tOp (rIxU K) (tVar 0) (tC (.int 0))) tNil)) (tCB (rIsiU K) (tCons (tOp (rIxU K) (tVar 0) (tC (.int 1))) (tCons (tC (.ty "bool")) tNil)))))))
theorem dv_is_marker (T : Txt K mg) (c_is_name : Fn P w K mg base (0 + 1) "is_name" ["value"] (spG K (A_is_name K))) {cdv : Value} {B : Around} {outer : List Env} {s : Shared} {H : Hp} {E : XK} {f : Addr} (hr : Room (1) (B.deeper (envOfC "is_marker" (defScope s_is_marker) s.heap.objs.size f cdv))) :
    PSs (cxOf CX0 P w K mg base n_is_marker "is_marker" (defScope s_is_marker) f cdv B outer s H E) (defBody s_is_marker) (t_is_marker K) := by
  have nd := sc_is_marker.nd
  exact PSs.nox (pss_one (ps_ret (pe_and (pe_callB call_isiU (by rfl) T.f_isinstance (by decide +kernel) (pa_cons (pv 0) (pa_cons (pe_bltn (v := .ty "tuple") (by rfl) T.f_tuple (by decide +kernel) rfl) pa_nil))) (pe_and (pe_cmpR (op_eqU hr.units) (pe_callB call_lenU (by rfl) T.f_len (by decide +kernel) (pa_cons (pv 0) pa_nil)) pe_int (nomark _)) (pe_and (pe_fn c_is_name (hr.mono (by omega)) (by rfl) (pa_cons (pe_ix ix_U (pv 0) pe_int (fun _ _ => rfl)) pa_nil)) (pe_one (pe_callB call_isiU (by rfl) T.f_isinstance (by decide +kernel) (pa_cons (pe_ix ix_U (pv 0) pe_int (fun _ _ => rfl)) (pa_cons (pe_bltn (v := .ty "bool") (by rfl) T.f_bool (by decide +kernel) rfl) pa_nil)))))))))
abbrev s_require_marker : Stmt := top 19
abbrev n_require_marker : List Str := ["value"]
abbrev p_require_marker : List Str := ["value"]
theorem sc_require_marker : FnScope n_require_marker p_require_marker (defScope s_require_marker) := ⟨rfl, rfl, rfl, by decide +kernel, rfl, by decide +kernel, by decide +kernel⟩
def t_require_marker (K : PySem.W.Frag) : TS :=
  (tIfS (tNot (tB (tCall (spG K (A_is_marker K)) [] E0 (tCons (tVar 0) tNil)))) tNever tNext)
theorem dv_require_marker (T : Txt K mg) (c_is_marker : Fn P w K mg base (1 + 1) "is_marker" ["value"] (spG K (A_is_marker K))) {cdv : Value} {B : Around} {outer : List Env} {s : Shared} {H : Hp} {E : XK} {f : Addr} (hr : Room (2) (B.deeper (envOfC "require_marker" (defScope s_require_marker) s.heap.objs.size f cdv))) :
    PSs (cxOf CX0 P w K mg base n_require_marker "require_marker" (defScope s_require_marker) f cdv B outer s H E) (defBody s_require_marker) (t_require_marker K) := by
  have nd := sc_require_marker.nd
  exact PSs.nox (pss_one (ps_if (pt_not (pt_val (pe_fn c_is_marker (hr.mono (by omega)) (by rfl) (pa_cons (pv 0) pa_nil)))) (pss_one ps_never) pss_nil))
abbrev s_is_piece : Stmt := top 15
abbrev n_is_piece : List Str := ["value", "letter"]
abbrev p_is_piece : List Str := ["value"]
theorem sc_is_piece : FnScope n_is_piece p_is_piece (defScope s_is_piece) := ⟨rfl, rfl, rfl, by decide +kernel, rfl, by decide +kernel, by decide +kernel⟩
def t_is_piece (K : PySem.W.Frag) : TS :=
  (tRet (tAndV (tCB (rIsiU K) (tCons (tVar 0) (tCons (tC (.ty "str")) tNil))) (tCB (rAllU K) (tCons (tLc (iSeqU K (tVar 0)) (gName 1) tYes (tOrV (tOp (rInU K) (tVar 1) (tC (.str "abcdefghijklmnopqrstuvwxyz"))) (tOp (rInU K) (tVar 1) (tC (.str "ABCDEFGHIJKLMNOPQRSTUVWXYZ")))) [1]) tNil))))
theorem dv_is_piece (T : Txt K mg)  {cdv : Value} {B : Around} {outer : List Env} {s : Shared} {H : Hp} {E : XK} {f : Addr} (hr : Room (0) (B.deeper (envOfC "is_piece" (defScope s_is_piece) s.heap.objs.size f cdv))) :
    PSs (cxOf CX0 P w K mg base n_is_piece "is_piece" (defScope s_is_piece) f cdv B outer s H E) (defBody s_is_piece) (t_is_piece K) := by
  have nd := sc_is_piece.nd
  exact PSs.nox (pss_one (ps_ret (pe_and (pe_callB call_isiU (by rfl) T.f_isinstance (by decide +kernel) (pa_cons (pv 0) (pa_cons (pe_bltn (v := .ty "str") (by rfl) T.f_str (by decide +kernel) rfl) pa_nil))) (pe_one (pe_callB (call_allU rfl) (by rfl) T.f_all (by decide +kernel) (pa_cons (pe_lc (own := [("letter", 1)]) (by rfl) nd (pi_seqU (pv 0)) (blkOk_by (own := [("letter", 1)]) (N := n_is_piece) (sc := defScope s_is_piece) (by decide +kernel)) (fun _ _ _ _ _ => (pg_name (i := 1) nd rfl (.inl rfl))) (fun _ _ _ _ _ => pts_nil) (fun _ _ _ _ _ => (pe_or (pe_cmpR op_inU (pv 1) (pe_gstr T.g_LOWER (by rfl)) (by rfl)) (pe_one (pe_cmpR op_inU (pv 1) (pe_gstr T.g_UPPER (by rfl)) (by rfl)))))) pa_nil))))))
abbrev s_require_piece : Stmt := top 18
abbrev n_require_piece : List Str := ["value"]
abbrev p_require_piece : List Str := ["value"]
theorem sc_require_piece : FnScope n_require_piece p_require_piece (defScope s_require_piece) := ⟨rfl, rfl, rfl, by decide +kernel, rfl, by decide +kernel, by decide +kernel⟩
def t_require_piece (K : PySem.W.Frag) : TS :=
  (tIfS (tNot (tB (tCall (spG K (A_is_piece K)) [] E0 (tCons (tVar 0) tNil)))) tNever tNext)
theorem dv_require_piece (T : Txt K mg) (c_is_piece : Fn P w K mg base (0 + 1) "is_piece" ["value"] (spG K (A_is_piece K))) {cdv : Value} {B : Around} {outer : List Env} {s : Shared} {H : Hp} {E : XK} {f : Addr} (hr : Room (1) (B.deeper (envOfC "require_piece" (defScope s_require_piece) s.heap.objs.size f cdv))) :
    PSs (cxOf CX0 P w K mg base n_require_piece "require_piece" (defScope s_require_piece) f cdv B outer s H E) (defBody s_require_piece) (t_require_piece K) := by
  have nd := sc_require_piece.nd
  exact PSs.nox (pss_one (ps_if (pt_not (pt_val (pe_fn c_is_piece (hr.mono (by omega)) (by rfl) (pa_cons (pv 0) pa_nil)))) (pss_one ps_never) pss_nil))
abbrev s_require_items : Stmt := top 20
abbrev n_require_items : List Str := ["items", "number", "item"]
abbrev p_require_items : List Str := ["items"]
theorem sc_require_items : FnScope n_require_items p_require_items (defScope s_require_items) := ⟨rfl, rfl, rfl, by decide +kernel, rfl, by decide +kernel, by decide +kernel⟩
def t_require_items (K : PySem.W.Frag) : TS :=
  (tFor (iEnU K (tCons (tVar 0) tNil)) (gTup K 2 (gCons (gName 1) (gCons (gName 2) gNil)))
  (tIfS (tTest (tOp (rEqU K) (tOp rModU (tVar 1) (tC (.int 2))) (tC (.int 1)))) (tDrop (tCall (spG K (A_require_marker K)) [] E0 (tCons (tVar 2) tNil))) (tDrop (tCall (spG K (A_require_piece K)) [] E0 (tCons (tVar 2) tNil)))))
theorem dv_require_items (T : Txt K mg) (c_require_marker : Fn P w K mg base (2 + 1) "require_marker" ["value"] (spG K (A_require_marker K))) (c_require_piece : Fn P w K mg base (1 + 1) "require_piece" ["value"] (spG K (A_require_piece K))) {cdv : Value} {B : Around} {outer : List Env} {s : Shared} {H : Hp} {E : XK} {f : Addr} (hr : Room (3) (B.deeper (envOfC "require_items" (defScope s_require_items) s.heap.objs.size f cdv))) :
    PSs (cxOf CX0 P w K mg base n_require_items "require_items" (defScope s_require_items) f cdv B outer s H E) (defBody s_require_items) (t_require_items K) := by
  have nd := sc_require_items.nd
  exact PSs.nox (pss_one (ps_for PassesOwn.never rfl (pi_enU (by rfl) T.f_enumerate (pa_cons (pv 0) pa_nil)) (pg_tup (by rfl) (pgs_cons (pg_name (i := 1) nd rfl (.inl rfl)) (pgs_cons (pg_name (i := 2) nd rfl (.inl rfl)) pgs_nil)))
      (pss_one (ps_if (pt_cmpR (op_eqU hr.units) (pe_op op_modU (pv 1) pe_int) pe_int (nomark _)) (pss_one (ps_expr (pe_fn c_require_marker (hr.mono (by omega)) (by rfl) (pa_cons (pv 2) pa_nil)))) (pss_one (ps_expr (pe_fn c_require_piece (hr.mono (by omega)) (by rfl) (pa_cons (pv 2) pa_nil))))))))
abbrev s_is_sequence : Stmt := top 17
abbrev n_is_sequence : List Str := ["value"]
abbrev p_is_sequence : List Str := ["value"]
theorem sc_is_sequence : FnScope n_is_sequence p_is_sequence (defScope s_is_sequence) := ⟨rfl, rfl, rfl, by decide +kernel, rfl, by decide +kernel, by decide +kernel⟩
def t_is_sequence (K : PySem.W.Frag) : TS :=
  (tRet (tCB (rIsiU K) (tCons (tVar 0) (tCons (tTup (tCons (tC (.ty "list")) (tCons (tC (.ty "tuple")) tNil))) tNil))))
theorem dv_is_sequence (T : Txt K mg)  {cdv : Value} {B : Around} {outer : List Env} {s : Shared} {H : Hp} {E : XK} {f : Addr} (hr : Room (0) (B.deeper (envOfC "is_sequence" (defScope s_is_sequence) s.heap.objs.size f cdv))) :
    PSs (cxOf CX0 P w K mg base n_is_sequence "is_sequence" (defScope s_is_sequence) f cdv B outer s H E) (defBody s_is_sequence) (t_is_sequence K) := by
  have nd := sc_is_sequence.nd
  exact PSs.nox (pss_one (ps_ret (pe_callB call_isiU (by rfl) T.f_isinstance (by decide +kernel) (pa_cons (pv 0) (pa_cons (pe_tup (pa_cons (pe_bltn (v := .ty "list") (by rfl) T.f_list (by decide +kernel) rfl) (pa_cons (pe_bltn (v := .ty "tuple") (by rfl) T.f_tuple (by decide +kernel) rfl) pa_nil))) pa_nil)))))
abbrev s_require_row : Stmt := top 21
abbrev n_require_row : List Str := ["row"]
abbrev p_require_row : List Str := ["row"]
theorem sc_require_row : FnScope n_require_row p_require_row (defScope s_require_row) := ⟨rfl, rfl, rfl, by decide +kernel, rfl, by decide +kernel, by decide +kernel⟩
def t_require_row (K : PySem.W.Frag) : TS :=
  (tSeq (tIfS (tOr (tNot (tB (tCall (spG K (A_is_sequence K)) [] E0 (tCons (tVar 0) tNil)))) (tTest (tOp (rEqU K) (tOp rModU (tCB (rLenU K) (tCons (tVar 0) tNil)) (tC (.int 2))) (tC (.int 0))))) tNever tNext)
  (tDrop (tCall (spG K (A_require_items K)) [] E0 (tCons (tVar 0) tNil))))
theorem dv_require_row (T : Txt K mg) (c_require_items : Fn P w K mg base (3 + 1) "require_items" ["items"] (spG K (A_require_items K))) (c_is_sequence : Fn P w K mg base (0 + 1) "is_sequence" ["value"] (spG K (A_is_sequence K))) {cdv : Value} {B : Around} {outer : List Env} {s : Shared} {H : Hp} {E : XK} {f : Addr} (hr : Room (4) (B.deeper (envOfC "require_row" (defScope s_require_row) s.heap.objs.size f cdv))) :
    PSs (cxOf CX0 P w K mg base n_require_row "require_row" (defScope s_require_row) f cdv B outer s H E) (defBody s_require_row) (t_require_row K) := by
  have nd := sc_require_row.nd
  exact PSs.nox (pss_cons (ps_if (PW.pt (pw_or (pt_not (pt_val (pe_fn c_is_sequence (hr.mono (by omega)) (by rfl) (pa_cons (pv 0) pa_nil)))) (pw_or1 (pt_cmpR (op_eqU hr.units) (pe_op op_modU (pe_callB call_lenU (by rfl) T.f_len (by decide +kernel) (pa_cons (pv 0) pa_nil)) pe_int) pe_int (nomark _))))) (pss_one ps_never) pss_nil)
      (pss_one (ps_expr (pe_fn c_require_items (hr.mono (by omega)) (by rfl) (pa_cons (pv 0) pa_nil)))))
abbrev s_marker_numbers : Stmt := top 26
abbrev n_marker_numbers : List Str := ["row", "found", "number", "name", "upright"]
abbrev p_marker_numbers : List Str := ["row"]
theorem sc_marker_numbers : FnScope n_marker_numbers p_marker_numbers (defScope s_marker_numbers) := ⟨rfl, rfl, rfl, by decide +kernel, rfl, by decide +kernel, by decide +kernel⟩
def t_marker_numbers (K : PySem.W.Frag) : TS :=
  (tSeq (tAsg tDNewK (gName 1))
  (tSeq (tFor (iEnU K (tCons (tUn (rStepU K (some 1) none 2) (tVar 0)) tNil)) (gTup K 2 (gCons (gName 2) (gCons (gTup K 2 (gCons (gName 3) (gCons (gName 4) gNil))) gNil)))
  (tDrop (tBM K "list" rAppend (tDSetd (tVar 1) (tVar 3) (tLst tNil)) (tCons (tVar 2) tNil))))
  (tRet (tVar 1))))
theorem dv_marker_numbers (T : Txt K mg)  {cdv : Value} {B : Around} {outer : List Env} {s : Shared} {H : Hp} {E : XK} {f : Addr} (hr : Room (0) (B.deeper (envOfC "marker_numbers" (defScope s_marker_numbers) s.heap.objs.size f cdv))) :
    PSs (cxOf CX0 P w K mg base n_marker_numbers "marker_numbers" (defScope s_marker_numbers) f cdv B outer s H E) (defBody s_marker_numbers) (t_marker_numbers K) := by
  have nd := sc_marker_numbers.nd
  exact PSs.nox (pss_cons (ps_set (i := 1) nd rfl (.inl rfl) pe_dnewK)
      (pss_cons (ps_for PassesOwn.never rfl (pi_enU (by rfl) T.f_enumerate (pa_cons (pe_stepU (c := 2) (pv 0) (po_some pe_int) po_none (po_some pe_int) (fun _ _ _ q => ⟨1, rfl, q⟩) (fun _ _ _ q => q) (fun _ _ _ q => ⟨2, rfl, q⟩) (by decide) (by decide)) pa_nil)) (pg_tup (by rfl) (pgs_cons (pg_name (i := 2) nd rfl (.inl rfl)) (pgs_cons (pg_tup (by rfl) (pgs_cons (pg_name (i := 3) nd rfl (.inl rfl)) (pgs_cons (pg_name (i := 4) nd rfl (.inl rfl)) pgs_nil))) pgs_nil)))
      (pss_one (ps_expr (pe_bm PySem.F.plainAttrs_list PySem.F.slot_list_append PySem.F.type_list_append mt_append (pe_dsetd (pv 1) (pv 3) (pe_lst pa_nil) ⟨rfl, rfl, rfl, rfl⟩) (pa_cons (pv 2) pa_nil)))))
      (pss_one (ps_ret (pv 1)))))
abbrev s_Strip_init : Stmt := inClass (top 32) 0
abbrev n_Strip_init : List Str := ["self", "row", "name", "numbers"]
abbrev p_Strip_init : List Str := ["self", "row"]
theorem sc_Strip_init : FnScope n_Strip_init p_Strip_init (defScope s_Strip_init) := ⟨rfl, rfl, rfl, by decide +kernel, rfl, by decide +kernel, by decide +kernel⟩
def t_Strip_init (K : PySem.W.Frag) : TS :=
  (tSeq (tDrop (tCall (spG K (A_require_row K)) [] E0 (tCons (tVar 1) tNil)))
  (tSeq (sFld K (tVar 0) (tCB (rListU K) (tCons (tVar 1) tNil)) "kept_row")
  (tSeq (sFld K (tVar 0) (tFrz (tCall (spG K (A_marker_numbers K)) [] E0 (tCons (tFld K (tVar 0) "kept_row") tNil))) "kept_places")
  (tSeq (tFor (iItems (tFld K (tVar 0) "kept_places")) (gTup K 2 (gCons (gName 2) (gCons (gName 3) gNil)))
  (tIfS (tTest (tOp (rNeU K) (tCB (rLenU K) (tCons (tVar 3) tNil)) (tC (.int 2)))) tNever tNext))
  (tIfS (tTest (tOp rGtU (tCB rLenK (tCons (tFld K (tVar 0) "kept_places") tNil)) (tC (.int 12)))) tNever tNext)))))
theorem dv_Strip_init (T : Txt K mg) (c_marker_numbers : Fn P w K mg base (0 + 1) "marker_numbers" ["row"] (spG K (A_marker_numbers K))) (c_require_row : Fn P w K mg base (4 + 1) "require_row" ["row"] (spG K (A_require_row K))) {cdv : Value} {B : Around} {outer : List Env} {s : Shared} {H : Hp} {E : XK} {f : Addr} (hr : Room (5) (B.deeper (envOfC "Strip.__init__" (defScope s_Strip_init) s.heap.objs.size f cdv))) :
    PSs (cxOf CX0 P w K mg base n_Strip_init "Strip.__init__" (defScope s_Strip_init) f cdv B outer s H E) (defBody s_Strip_init) (t_Strip_init K) := by
  have nd := sc_Strip_init.nd
  exact PSs.nox (pss_cons (ps_expr (pe_fn c_require_row (hr.mono (by omega)) (by rfl) (pa_cons (pv 1) pa_nil)))
      (pss_cons (ps_fld (pv 0) (pe_callTy call_listU (by rfl) T.f_list (by decide +kernel) (pa_cons (pv 1) pa_nil)) (by rfl))
      (pss_cons (ps_fld (pv 0) (pe_frz (pe_fn c_marker_numbers (hr.mono (by omega)) (by rfl) (pa_cons (pe_fld (pv 0) rfl) pa_nil))) (by rfl))
      (pss_cons (ps_for PassesOwn.never rfl (pi_items (pe_fld (pv 0) rfl)) (pg_tup (by rfl) (pgs_cons (pg_name (i := 2) nd rfl (.inl rfl)) (pgs_cons (pg_name (i := 3) nd rfl (.inl rfl)) pgs_nil)))
      (pss_one (ps_if (pt_cmpR (op_neU hr.units) (pe_callB call_lenU (by rfl) T.f_len (by decide +kernel) (pa_cons (pv 3) pa_nil)) pe_int (nomark _)) (pss_one ps_never) pss_nil)))
      (pss_one (ps_if (pt_cmpR op_gtU (pe_callB call_lenK (by rfl) T.f_len (by decide +kernel) (pa_cons (pe_fld (pv 0) rfl) pa_nil)) (pe_gint T.g_MAX_NAMES (by rfl)) (nomark _)) (pss_one ps_never) pss_nil))))))
abbrev s_item_text : Stmt := top 27
abbrev n_item_text : List Str := ["item"]
abbrev p_item_text : List Str := ["item"]
theorem sc_item_text : FnScope n_item_text p_item_text (defScope s_item_text) := ⟨rfl, rfl, rfl, by decide +kernel, rfl, by decide +kernel, by decide +kernel⟩
def t_item_text (K : PySem.W.Frag) : TS :=
  (tSeq (tIfS (tB (tCB (rIsiU K) (tCons (tVar 0) (tCons (tC (.ty "tuple")) tNil)))) (tRet (tOp (rAddU K) (tOp (rIxU K) (tVar 0) (tC (.int 0))) (tIf (tB (tOp (rIxU K) (tVar 0) (tC (.int 1)))) (tC (.str "+")) (tC (.str "-"))))) tNext)
  (tRet (tIf (tTest (tOp (rNeU K) (tVar 0) (tC (.str "")))) (tVar 0) (tC (.str "_")))))
theorem dv_item_text (T : Txt K mg)  {cdv : Value} {B : Around} {outer : List Env} {s : Shared} {H : Hp} {E : XK} {f : Addr} (hr : Room (0) (B.deeper (envOfC "item_text" (defScope s_item_text) s.heap.objs.size f cdv))) :
    PSs (cxOf CX0 P w K mg base n_item_text "item_text" (defScope s_item_text) f cdv B outer s H E) (defBody s_item_text) (t_item_text K) := by
  have nd := sc_item_text.nd
  exact PSs.nox (pss_cons (ps_if (pt_val (pe_callB call_isiU (by rfl) T.f_isinstance (by decide +kernel) (pa_cons (pv 0) (pa_cons (pe_bltn (v := .ty "tuple") (by rfl) T.f_tuple (by decide +kernel) rfl) pa_nil)))) (pss_one (ps_ret (pe_op op_addU (pe_ix ix_U (pv 0) pe_int (fun _ _ => rfl)) (pe_ifExp (pt_val (pe_ix ix_U (pv 0) pe_int (fun _ _ => rfl))) pe_str pe_str)))) pss_nil)
      (pss_one (ps_ret (pe_ifExp (pt_cmpR (op_neU hr.units) (pv 0) pe_str (nomark _)) (pv 0) pe_str))))
abbrev s_items_text : Stmt := top 28
abbrev n_items_text : List Str := ["items", "item"]
abbrev p_items_text : List Str := ["items"]
theorem sc_items_text : FnScope n_items_text p_items_text (defScope s_items_text) := ⟨rfl, rfl, rfl, by decide +kernel, rfl, by decide +kernel, by decide +kernel⟩
def t_items_text (K : PySem.W.Frag) : TS :=
  (tRet (tM1 (rJoin K) (tC (.str " ")) (tLc (iSeqU K (tVar 0)) (gName 1) tYes (tCall (spG K (A_item_text K)) [] E0 (tCons (tVar 1) tNil)) [1])))
theorem dv_items_text (T : Txt K mg) (c_item_text : Fn P w K mg base (0 + 1) "item_text" ["item"] (spG K (A_item_text K))) {cdv : Value} {B : Around} {outer : List Env} {s : Shared} {H : Hp} {E : XK} {f : Addr} (hr : Room (1) (B.deeper (envOfC "items_text" (defScope s_items_text) s.heap.objs.size f cdv))) :
    PSs (cxOf CX0 P w K mg base n_items_text "items_text" (defScope s_items_text) f cdv B outer s H E) (defBody s_items_text) (t_items_text K) := by
  have nd := sc_items_text.nd
  exact PSs.nox (pss_one (ps_ret (pe_m1 PySem.F.slot_str_join PySem.F.type_str_join mt_joinU pe_str (pe_lc (own := [("item", 1)]) (by rfl) nd (pi_seqU (pv 0)) (blkOk_by (own := [("item", 1)]) (N := n_items_text) (sc := defScope s_items_text) (by decide +kernel)) (fun _ _ _ _ _ => (pg_name (i := 1) nd rfl (.inl rfl))) (fun _ _ _ _ _ => pts_nil) (fun _ _ _ _ _ => (pe_fn c_item_text (hr.mono (by omega)) (by rfl) (pa_cons (pv 1) pa_nil)))))))
abbrev s_reading_text : Stmt := top 29
abbrev n_reading_text : List Str := ["row", "read"]
abbrev p_reading_text : List Str := ["row"]
theorem sc_reading_text : FnScope n_reading_text p_reading_text (defScope s_reading_text) := ⟨rfl, rfl, rfl, by decide +kernel, rfl, by decide +kernel, by decide +kernel⟩
def t_reading_text (K : PySem.W.Frag) : TS :=
  (tSeq (tAsg (tIf (tTest (tOp (rEqU K) (tCB (rLenU K) (tCons (tVar 0) tNil)) (tC (.int 1)))) (tVar 0) (tOp (rAddU K) (tSl (rSlU K) (tVar 0) (tPart (tUn rNegU (tC (.int 1)))) tNoPart) (tSl (rSlU K) (tVar 0) tNoPart (tPart (tUn rNegU (tC (.int 1))))))) (gName 1))
  (tRet (tFs [(tC (.str "( ")), (tFmt (tCall (spG K (A_items_textG K)) [] E0 (tCons (tVar 1) tNil))), (tC (.str " )"))])))
theorem dv_reading_text (T : Txt K mg) (c_items_text : Fn P w K mg base (1 + 1) "items_text" ["items"] (spG K (A_items_textG K))) {cdv : Value} {B : Around} {outer : List Env} {s : Shared} {H : Hp} {E : XK} {f : Addr} (hr : Room (2) (B.deeper (envOfC "reading_text" (defScope s_reading_text) s.heap.objs.size f cdv))) :
    PSs (cxOf CX0 P w K mg base n_reading_text "reading_text" (defScope s_reading_text) f cdv B outer s H E) (defBody s_reading_text) (t_reading_text K) := by
  have nd := sc_reading_text.nd
  exact PSs.nox (pss_cons (ps_set (i := 1) nd rfl (.inl rfl) (pe_ifExp (pt_cmpR (op_eqU hr.units) (pe_callB call_lenU (by rfl) T.f_len (by decide +kernel) (pa_cons (pv 0) pa_nil)) pe_int (nomark _)) (pv 0) (pe_op op_addU (pe_slice sl_U (pv 0) (po_some (pe_un un_negU pe_int)) po_none) (pe_slice sl_U (pv 0) po_none (po_some (pe_un un_negU pe_int))))))
      (pss_one (ps_ret (pe_joined (PJ.cons pe_str (PJ.cons (pe_fmt (pe_fn c_items_text (hr.mono (by omega)) (by rfl) (pa_cons (pv 1) pa_nil))) (PJ.cons pe_str PJ.nil)))))))
abbrev s_require_reading : Stmt := top 33
abbrev n_require_reading : List Str := ["row"]
abbrev p_require_reading : List Str := ["row"]
theorem sc_require_reading : FnScope n_require_reading p_require_reading (defScope s_require_reading) := ⟨rfl, rfl, rfl, by decide +kernel, rfl, by decide +kernel, by decide +kernel⟩
def t_require_reading (K : PySem.W.Frag) : TS :=
  (tSeq (tIfS (tOr (tNot (tB (tCall (spG K (A_is_sequence K)) [] E0 (tCons (tVar 0) tNil)))) (tOr (tTest (tOp (rEqU K) (tCB (rLenU K) (tCons (tVar 0) tNil)) (tC (.int 0)))) (tAnd (tTest (tOp rGtU (tCB (rLenU K) (tCons (tVar 0) tNil)) (tC (.int 1)))) (tTest (tOp (rEqU K) (tOp rModU (tCB (rLenU K) (tCons (tVar 0) tNil)) (tC (.int 2))) (tC (.int 1))))))) tNever tNext)
  (tDrop (tCall (spG K (A_require_items K)) [] E0 (tCons (tVar 0) tNil))))
theorem dv_require_reading (T : Txt K mg) (c_require_items : Fn P w K mg base (3 + 1) "require_items" ["items"] (spG K (A_require_items K))) (c_is_sequence : Fn P w K mg base (0 + 1) "is_sequence" ["value"] (spG K (A_is_sequence K))) {cdv : Value} {B : Around} {outer : List Env} {s : Shared} {H : Hp} {E : XK} {f : Addr} (hr : Room (4) (B.deeper (envOfC "require_reading" (defScope s_require_reading) s.heap.objs.size f cdv))) :
    PSs (cxOf CX0 P w K mg base n_require_reading "require_reading" (defScope s_require_reading) f cdv B outer s H E) (defBody s_require_reading) (t_require_reading K) := by
  have nd := sc_require_reading.nd
  exact PSs.nox (pss_cons (ps_if (PW.pt (pw_or (pt_not (pt_val (pe_fn c_is_sequence (hr.mono (by omega)) (by rfl) (pa_cons (pv 0) pa_nil)))) (pw_or (pt_cmpR (op_eqU hr.units) (pe_callB call_lenU (by rfl) T.f_len (by decide +kernel) (pa_cons (pv 0) pa_nil)) pe_int (nomark _)) (pw_or1 (PW.pt (pw_and (pt_cmpR op_gtU (pe_callB call_lenU (by rfl) T.f_len (by decide +kernel) (pa_cons (pv 0) pa_nil)) pe_int (nomark _)) (pw_and1 (pt_cmpR (op_eqU hr.units) (pe_op op_modU (pe_callB call_lenU (by rfl) T.f_len (by decide +kernel) (pa_cons (pv 0) pa_nil)) pe_int) pe_int (nomark _))))))))) (pss_one ps_never) pss_nil)
      (pss_one (ps_expr (pe_fn c_require_items (hr.mono (by omega)) (by rfl) (pa_cons (pv 0) pa_nil)))))
abbrev s_flipped_marker : Stmt := top 23
abbrev n_flipped_marker : List Str := ["marker"]
abbrev p_flipped_marker : List Str := ["marker"]
theorem sc_flipped_marker : FnScope n_flipped_marker p_flipped_marker (defScope s_flipped_marker) := ⟨rfl, rfl, rfl, by decide +kernel, rfl, by decide +kernel, by decide +kernel⟩
def t_flipped_marker (K : PySem.W.Frag) : TS :=
  (tRet (tTup (tCons (tOp (rIxU K) (tVar 0) (tC (.int 0))) (tCons (tNotV (tOp (rIxU K) (tVar 0) (tC (.int 1)))) tNil))))
theorem dv_flipped_marker (T : Txt K mg)  {cdv : Value} {B : Around} {outer : List Env} {s : Shared} {H : Hp} {E : XK} {f : Addr} (hr : Room (0) (B.deeper (envOfC "flipped_marker" (defScope s_flipped_marker) s.heap.objs.size f cdv))) :
    PSs (cxOf CX0 P w K mg base n_flipped_marker "flipped_marker" (defScope s_flipped_marker) f cdv B outer s H E) (defBody s_flipped_marker) (t_flipped_marker K) := by
  have nd := sc_flipped_marker.nd
  exact PSs.nox (pss_one (ps_ret (pe_tup (pa_cons (pe_ix ix_U (pv 0) pe_int (fun _ _ => rfl)) (pa_cons (pe_not (pe_ix ix_U (pv 0) pe_int (fun _ _ => rfl))) pa_nil)))))
abbrev s_flipped_piece : Stmt := top 22
abbrev n_flipped_piece : List Str := ["piece"]
abbrev p_flipped_piece : List Str := ["piece"]
theorem sc_flipped_piece : FnScope n_flipped_piece p_flipped_piece (defScope s_flipped_piece) := ⟨rfl, rfl, rfl, by decide +kernel, rfl, by decide +kernel, by decide +kernel⟩
def t_flipped_piece (K : PySem.W.Frag) : TS :=
  (tRet (tM0 rSwap (tUn (rStepU K none none (-1)) (tVar 0))))
theorem dv_flipped_piece (T : Txt K mg)  {cdv : Value} {B : Around} {outer : List Env} {s : Shared} {H : Hp} {E : XK} {f : Addr} (hr : Room (0) (B.deeper (envOfC "flipped_piece" (defScope s_flipped_piece) s.heap.objs.size f cdv))) :
    PSs (cxOf CX0 P w K mg base n_flipped_piece "flipped_piece" (defScope s_flipped_piece) f cdv B outer s H E) (defBody s_flipped_piece) (t_flipped_piece K) := by
  have nd := sc_flipped_piece.nd
  exact PSs.nox (pss_one (ps_ret (pe_m0 PySem.F.slot_str_swapcase PySem.F.type_str_swapcase mt_swapU (pe_stepU (c := (-1)) (pv 0) po_none po_none (po_some (pe_un un_negU pe_int)) (fun _ _ _ q => q) (fun _ _ _ q => q) (fun _ _ _ q => ⟨1, rfl, -1, rfl, q⟩) (by decide) (by decide)))))
abbrev s_flipped_item : Stmt := top 24
abbrev n_flipped_item : List Str := ["item"]
abbrev p_flipped_item : List Str := ["item"]
theorem sc_flipped_item : FnScope n_flipped_item p_flipped_item (defScope s_flipped_item) := ⟨rfl, rfl, rfl, by decide +kernel, rfl, by decide +kernel, by decide +kernel⟩
def t_flipped_item (K : PySem.W.Frag) : TS :=
  (tRet (tIf (tB (tCB (rIsiU K) (tCons (tVar 0) (tCons (tC (.ty "tuple")) tNil)))) (tCall (spG K (A_flipped_marker K)) [] E0 (tCons (tVar 0) tNil)) (tCall (spG K (A_flipped_piece K)) [] E0 (tCons (tVar 0) tNil))))
theorem dv_flipped_item (T : Txt K mg) (c_flipped_marker : Fn P w K mg base (0 + 1) "flipped_marker" ["marker"] (spG K (A_flipped_marker K))) (c_flipped_piece : Fn P w K mg base (0 + 1) "flipped_piece" ["piece"] (spG K (A_flipped_piece K))) {cdv : Value} {B : Around} {outer : List Env} {s : Shared} {H : Hp} {E : XK} {f : Addr} (hr : Room (1) (B.deeper (envOfC "flipped_item" (defScope s_flipped_item) s.heap.objs.size f cdv))) :
    PSs (cxOf CX0 P w K mg base n_flipped_item "flipped_item" (defScope s_flipped_item) f cdv B outer s H E) (defBody s_flipped_item) (t_flipped_item K) := by
  have nd := sc_flipped_item.nd
  exact PSs.nox (pss_one (ps_ret (pe_ifExp (pt_val (pe_callB call_isiU (by rfl) T.f_isinstance (by decide +kernel) (pa_cons (pv 0) (pa_cons (pe_bltn (v := .ty "tuple") (by rfl) T.f_tuple (by decide +kernel) rfl) pa_nil)))) (pe_fn c_flipped_marker (hr.mono (by omega)) (by rfl) (pa_cons (pv 0) pa_nil)) (pe_fn c_flipped_piece (hr.mono (by omega)) (by rfl) (pa_cons (pv 0) pa_nil)))))
abbrev s_flipped_items : Stmt := top 25
abbrev n_flipped_items : List Str := ["items", "item"]
abbrev p_flipped_items : List Str := ["items"]
theorem sc_flipped_items : FnScope n_flipped_items p_flipped_items (defScope s_flipped_items) := ⟨rfl, rfl, rfl, by decide +kernel, rfl, by decide +kernel, by decide +kernel⟩
def t_flipped_items (K : PySem.W.Frag) : TS :=
  (tRet (tLc (iSeqU K (tUn (rStepU K none none (-1)) (tVar 0))) (gName 1) tYes (tCall (spG K (A_flipped_item K)) [] E0 (tCons (tVar 1) tNil)) [1]))
theorem dv_flipped_items (T : Txt K mg) (c_flipped_item : Fn P w K mg base (1 + 1) "flipped_item" ["item"] (spG K (A_flipped_item K))) {cdv : Value} {B : Around} {outer : List Env} {s : Shared} {H : Hp} {E : XK} {f : Addr} (hr : Room (2) (B.deeper (envOfC "flipped_items" (defScope s_flipped_items) s.heap.objs.size f cdv))) :
    PSs (cxOf CX0 P w K mg base n_flipped_items "flipped_items" (defScope s_flipped_items) f cdv B outer s H E) (defBody s_flipped_items) (t_flipped_items K) := by
  have nd := sc_flipped_items.nd
  exact PSs.nox (pss_one (ps_ret (pe_lc (own := [("item", 1)]) (by rfl) nd (pi_seqU (pe_stepU (c := (-1)) (pv 0) po_none po_none (po_some (pe_un un_negU pe_int)) (fun _ _ _ q => q) (fun _ _ _ q => q) (fun _ _ _ q => ⟨1, rfl, -1, rfl, q⟩) (by decide) (by decide))) (blkOk_by (own := [("item", 1)]) (N := n_flipped_items) (sc := defScope s_flipped_items) (by decide +kernel)) (fun _ _ _ _ _ => (pg_name (i := 1) nd rfl (.inl rfl))) (fun _ _ _ _ _ => pts_nil) (fun _ _ _ _ _ => (pe_fn c_flipped_item (hr.mono (by omega)) (by rfl) (pa_cons (pv 1) pa_nil))))))
abbrev s_readings : Stmt := top 34
abbrev n_readings : List Str := ["row", "found", "piece", "back", "read", "start"]
abbrev p_readings : List Str := ["row"]
theorem sc_readings : FnScope n_readings p_readings (defScope s_readings) := ⟨rfl, rfl, rfl, by decide +kernel, rfl, by decide +kernel, by decide +kernel⟩
def t_readings (K : PySem.W.Frag) : TS :=
  (tSeq (tIfS (tTest (tOp (rEqU K) (tCB (rLenU K) (tCons (tVar 0) tNil)) (tC (.int 1)))) (tSeq (tAsg (tLst tNil) (gName 1))
  (tSeq (tFor (iSeqU K (tTup (tCons (tOp (rIxU K) (tVar 0) (tC (.int 0))) (tCons (tCall (spG K (A_flipped_piece K)) [] E0 (tCons (tOp (rIxU K) (tVar 0) (tC (.int 0))) tNil)) tNil)))) (gName 2)
  (tDrop (tBM K "list" rExtend (tVar 1) (tCons (tLc (iRng1 (tCons (tCB rMax2 (tCons (tC (.int 1)) (tCons (tCB (rLenU K) (tCons (tVar 2) tNil)) tNil))) tNil)) (gName 5) tYes (tLst (tCons (tOp (rAddU K) (tSl (rSlU K) (tVar 2) (tPart (tVar 5)) tNoPart) (tSl (rSlU K) (tVar 2) tNoPart (tPart (tVar 5)))) tNil)) [5]) tNil))))
  (tRet (tVar 1)))) tNext)
  (tSeq (tAsg (tCall (spG K (A_flipped_itemsG K)) [] E0 (tCons (tVar 0) tNil)) (gName 3))
  (tSeq (tAsg (tLst tNil) (gName 1))
  (tSeq (tFor (iSeqU K (tTup (tCons (tVar 0) (tCons (tOp (rAddU K) (tSl (rSlU K) (tVar 3) (tPart (tC (.int 1))) tNoPart) (tSl (rSlU K) (tVar 3) tNoPart (tPart (tC (.int 1))))) tNil)))) (gName 4)
  (tDrop (tBM K "list" rExtend (tVar 1) (tCons (tLc (iRng3 (tCons (tC (.int 0)) (tCons (tCB (rLenU K) (tCons (tVar 4) tNil)) (tCons (tC (.int 2)) tNil)))) (gName 5) tYes (tOp (rAddU K) (tSl (rSlU K) (tVar 4) (tPart (tVar 5)) tNoPart) (tSl (rSlU K) (tVar 4) tNoPart (tPart (tVar 5)))) [5]) tNil))))
  (tRet (tVar 1))))))
theorem dv_readings (T : Txt K mg) (c_flipped_items : Fn P w K mg base (2 + 1) "flipped_items" ["items"] (spG K (A_flipped_itemsG K))) (c_flipped_piece : Fn P w K mg base (0 + 1) "flipped_piece" ["piece"] (spG K (A_flipped_piece K))) {cdv : Value} {B : Around} {outer : List Env} {s : Shared} {H : Hp} {E : XK} {f : Addr} (hr : Room (3) (B.deeper (envOfC "readings" (defScope s_readings) s.heap.objs.size f cdv))) :
    PSs (cxOf CX0 P w K mg base n_readings "readings" (defScope s_readings) f cdv B outer s H E) (defBody s_readings) (t_readings K) := by
  have nd := sc_readings.nd
  exact PSs.nox (pss_cons (ps_if (pt_cmpR (op_eqU hr.units) (pe_callB call_lenU (by rfl) T.f_len (by decide +kernel) (pa_cons (pv 0) pa_nil)) pe_int (nomark _)) (pss_cons (ps_set (i := 1) nd rfl (.inl rfl) (pe_lst pa_nil))
      (pss_cons (ps_for PassesOwn.never rfl (pi_seqU (pe_tup (pa_cons (pe_ix ix_U (pv 0) pe_int (fun _ _ => rfl)) (pa_cons (pe_fn c_flipped_piece (hr.mono (by omega)) (by rfl) (pa_cons (pe_ix ix_U (pv 0) pe_int (fun _ _ => rfl)) pa_nil)) pa_nil)))) (pg_name (i := 2) nd rfl (.inr rfl))
      (pss_one (ps_expr (pe_bm PySem.F.plainAttrs_list PySem.F.slot_list_extend PySem.F.type_list_extend mt_extend (pv 1) (pa_cons (pe_lc (own := [("start", 5)]) (by rfl) nd (pi_range1 (by rfl) T.f_range (pa_cons (pe_callB (call_max2U rfl) (by rfl) T.f_max (by decide +kernel) (pa_cons pe_int (pa_cons (pe_callB call_lenU (by rfl) T.f_len (by decide +kernel) (pa_cons (pv 2) pa_nil)) pa_nil))) pa_nil)) (blkOk_by (own := [("start", 5)]) (N := n_readings) (sc := defScope s_readings) (by decide +kernel)) (fun _ _ _ _ _ => (pg_name (i := 5) nd rfl (.inl rfl))) (fun _ _ _ _ _ => pts_nil) (fun _ _ _ _ _ => (pe_lst (pa_cons (pe_op op_addU (pe_slice sl_U (pv 2) (po_some (pv 5)) po_none) (pe_slice sl_U (pv 2) po_none (po_some (pv 5)))) pa_nil)))) pa_nil)))))
      (pss_one (ps_ret (pv 1))))) pss_nil)
      (pss_cons (ps_set (i := 3) nd rfl (.inl rfl) (pe_fn c_flipped_items (hr.mono (by omega)) (by rfl) (pa_cons (pv 0) pa_nil)))
      (pss_cons (ps_set (i := 1) nd rfl (.inl rfl) (pe_lst pa_nil))
      (pss_cons (ps_for PassesOwn.never rfl (pi_seqU (pe_tup (pa_cons (pv 0) (pa_cons (pe_op op_addU (pe_slice sl_U (pv 3) (po_some pe_int) po_none) (pe_slice sl_U (pv 3) po_none (po_some pe_int))) pa_nil)))) (pg_name (i := 4) nd rfl (.inr rfl))
      (pss_one (ps_expr (pe_bm PySem.F.plainAttrs_list PySem.F.slot_list_extend PySem.F.type_list_extend mt_extend (pv 1) (pa_cons (pe_lc (own := [("start", 5)]) (by rfl) nd (pi_range3 (by rfl) T.f_range (pa_cons pe_int (pa_cons (pe_callB call_lenU (by rfl) T.f_len (by decide +kernel) (pa_cons (pv 4) pa_nil)) (pa_cons pe_int pa_nil)))) (blkOk_by (own := [("start", 5)]) (N := n_readings) (sc := defScope s_readings) (by decide +kernel)) (fun _ _ _ _ _ => (pg_name (i := 5) nd rfl (.inl rfl))) (fun _ _ _ _ _ => pts_nil) (fun _ _ _ _ _ => (pe_op op_addU (pe_slice sl_U (pv 4) (po_some (pv 5)) po_none) (pe_slice sl_U (pv 4) po_none (po_some (pv 5)))))) pa_nil)))))
      (pss_one (ps_ret (pv 1)))))))
abbrev s_Ring_init : Stmt := inClass (top 35) 0
abbrev n_Ring_init : List Str := ["self", "row"]
abbrev p_Ring_init : List Str := ["self", "row"]
theorem sc_Ring_init : FnScope n_Ring_init p_Ring_init (defScope s_Ring_init) := ⟨rfl, rfl, rfl, by decide +kernel, rfl, by decide +kernel, by decide +kernel⟩
def t_Ring_init (K : PySem.W.Frag) : TS :=
  (tSeq (tDrop (tCall (spG K (A_require_reading K)) [] E0 (tCons (tVar 1) tNil)))
  (sFld K (tVar 0) (tCKw (rMinK K (He.ga K "reading_text") (spG K (A_reading_text K))) (tCons (tCall (spG K (A_readings K)) [] E0 (tCons (tCB (rListU K) (tCons (tVar 1) tNil)) tNil)) tNil) (tCons (tC (.ref (He.ga K "reading_text"))) tNil)) "kept_row"))
theorem dv_Ring_init (T : Txt K mg) (c_reading_text : Fn P w K mg base (2 + 1) "reading_text" ["row"] (spG K (A_reading_text K))) (c_readings : Fn P w K mg base (3 + 1) "readings" ["row"] (spG K (A_readings K))) (c_require_reading : Fn P w K mg base (4 + 1) "require_reading" ["row"] (spG K (A_require_reading K))) {cdv : Value} {B : Around} {outer : List Env} {s : Shared} {H : Hp} {E : XK} {f : Addr} (hr : Room (5) (B.deeper (envOfC "Ring.__init__" (defScope s_Ring_init) s.heap.objs.size f cdv))) :
    PSs (cxOf CX0 P w K mg base n_Ring_init "Ring.__init__" (defScope s_Ring_init) f cdv B outer s H E) (defBody s_Ring_init) (t_Ring_init K) := by
  have nd := sc_Ring_init.nd
  exact PSs.nox (pss_cons (ps_expr (pe_fn c_require_reading (hr.mono (by omega)) (by rfl) (pa_cons (pv 1) pa_nil)))
      (pss_one (ps_fld (pv 0) (pe_callBK (call_minF c_reading_text T.gd_reading_text rfl (hr.mono (by omega))) (by rfl) T.f_min (by decide +kernel) (pa_cons (pe_fn c_readings (hr.mono (by omega)) (by rfl) (pa_cons (pe_callTy call_listU (by rfl) T.f_list (by decide +kernel) (pa_cons (pv 1) pa_nil)) pa_nil)) pa_nil) (pk_cons (pe_gref T.gd_reading_text (by rfl)) pk_nil)) (by rfl))))
abbrev s_Strip_names : Stmt := inClass (top 32) 2
abbrev n_Strip_names : List Str := ["self"]
abbrev p_Strip_names : List Str := ["self"]
theorem sc_Strip_names : FnScope n_Strip_names p_Strip_names (defScope s_Strip_names) := ⟨rfl, rfl, rfl, by decide +kernel, rfl, by decide +kernel, by decide +kernel⟩
def t_Strip_names (K : PySem.W.Frag) : TS :=
  (tRet (tCB rListK (tCons (tFld K (tVar 0) "kept_places") tNil)))
theorem dv_Strip_names (T : Txt K mg)  {cdv : Value} {B : Around} {outer : List Env} {s : Shared} {H : Hp} {E : XK} {f : Addr} (hr : Room (0) (B.deeper (envOfC "Strip.names" (defScope s_Strip_names) s.heap.objs.size f cdv))) :
    PSs (cxOf CX0 P w K mg base n_Strip_names "Strip.names" (defScope s_Strip_names) f cdv B outer s H E) (defBody s_Strip_names) (t_Strip_names K) := by
  have nd := sc_Strip_names.nd
  exact PSs.nox (pss_one (ps_ret (pe_callTy (call_listK rfl) (by rfl) T.f_list (by decide +kernel) (pa_cons (pe_fld (pv 0) rfl) pa_nil))))
abbrev s_Strip_eq : Stmt := inClass (top 32) 12
abbrev n_Strip_eq : List Str := ["self", "other"]
abbrev p_Strip_eq : List Str := ["self", "other"]
theorem sc_Strip_eq : FnScope n_Strip_eq p_Strip_eq (defScope s_Strip_eq) := ⟨rfl, rfl, rfl, by decide +kernel, rfl, by decide +kernel, by decide +kernel⟩
def t_Strip_eq (K : PySem.W.Frag) : TS :=
  (tRet (tAndV (tCB (rIsiU K) (tCons (tVar 1) (tCons (tC (.ref (He.ga K "Strip"))) tNil))) (tOp (rEqU K) (tFld K (tVar 1) "kept_row") (tFld K (tVar 0) "kept_row"))))
theorem dv_Strip_eq (T : Txt K mg)  {cdv : Value} {B : Around} {outer : List Env} {s : Shared} {H : Hp} {E : XK} {f : Addr} (hr : Room (0) (B.deeper (envOfC "Strip.__eq__" (defScope s_Strip_eq) s.heap.objs.size f cdv))) :
    PSs (cxOf CX0 P w K mg base n_Strip_eq "Strip.__eq__" (defScope s_Strip_eq) f cdv B outer s H E) (defBody s_Strip_eq) (t_Strip_eq K) := by
  have nd := sc_Strip_eq.nd
  exact PSs.nox (pss_one (ps_ret (pe_and (pe_callB call_isiU (by rfl) T.f_isinstance (by decide +kernel) (pa_cons (pv 1) (pa_cons (pe_gref T.g_Strip (by rfl)) pa_nil))) (pe_one (pe_cmpR (op_eqU hr.units) (pe_fld (pv 1) rfl) (pe_fld (pv 0) rfl) (nomark _))))))
abbrev s_Strip_len : Stmt := inClass (top 32) 11
abbrev n_Strip_len : List Str := ["self"]
abbrev p_Strip_len : List Str := ["self"]
theorem sc_Strip_len : FnScope n_Strip_len p_Strip_len (defScope s_Strip_len) := ⟨rfl, rfl, rfl, by decide +kernel, rfl, by decide +kernel, by decide +kernel⟩
def t_Strip_len (K : PySem.W.Frag) : TS :=
  (tRet (tCB rLenK (tCons (tFld K (tVar 0) "kept_places") tNil)))
theorem dv_Strip_len (T : Txt K mg)  {cdv : Value} {B : Around} {outer : List Env} {s : Shared} {H : Hp} {E : XK} {f : Addr} (hr : Room (0) (B.deeper (envOfC "Strip.__len__" (defScope s_Strip_len) s.heap.objs.size f cdv))) :
    PSs (cxOf CX0 P w K mg base n_Strip_len "Strip.__len__" (defScope s_Strip_len) f cdv B outer s H E) (defBody s_Strip_len) (t_Strip_len K) := by
  have nd := sc_Strip_len.nd
  exact PSs.nox (pss_one (ps_ret (pe_callB call_lenK (by rfl) T.f_len (by decide +kernel) (pa_cons (pe_fld (pv 0) rfl) pa_nil))))
abbrev s_Strip_require_name : Stmt := inClass (top 32) 4
abbrev n_Strip_require_name : List Str := ["self", "name"]
abbrev p_Strip_require_name : List Str := ["self", "name"]
theorem sc_Strip_require_name : FnScope n_Strip_require_name p_Strip_require_name (defScope s_Strip_require_name) := ⟨rfl, rfl, rfl, by decide +kernel, rfl, by decide +kernel, by decide +kernel⟩
def t_Strip_require_name (K : PySem.W.Frag) : TS :=
  (tIfS (tOr (tNot (tB (tCB (rIsiU K) (tCons (tVar 1) (tCons (tC (.ty "str")) tNil))))) (tB (tDNotIn (tVar 1) (tFld K (tVar 0) "kept_places")))) tNever tNext)
theorem dv_Strip_require_name (T : Txt K mg)  {cdv : Value} {B : Around} {outer : List Env} {s : Shared} {H : Hp} {E : XK} {f : Addr} (hr : Room (0) (B.deeper (envOfC "Strip.require_name" (defScope s_Strip_require_name) s.heap.objs.size f cdv))) :
    PSs (cxOf CX0 P w K mg base n_Strip_require_name "Strip.require_name" (defScope s_Strip_require_name) f cdv B outer s H E) (defBody s_Strip_require_name) (t_Strip_require_name K) := by
  have nd := sc_Strip_require_name.nd
  exact PSs.nox (pss_one (ps_if (PW.pt (pw_or (pt_not (pt_val (pe_callB call_isiU (by rfl) T.f_isinstance (by decide +kernel) (pa_cons (pv 1) (pa_cons (pe_bltn (v := .ty "str") (by rfl) T.f_str (by decide +kernel) rfl) pa_nil))))) (pw_or1 (pt_cmp (pc_dnotin (u1 hr.units) (pv 1) (pe_fld (pv 0) rfl)))))) (pss_one ps_never) pss_nil))
abbrev s_Strip_places : Stmt := inClass (top 32) 5
abbrev n_Strip_places : List Str := ["self", "name", "first", "second"]
abbrev p_Strip_places : List Str := ["self", "name"]
theorem sc_Strip_places : FnScope n_Strip_places p_Strip_places (defScope s_Strip_places) := ⟨rfl, rfl, rfl, by decide +kernel, rfl, by decide +kernel, by decide +kernel⟩
def t_Strip_places (K : PySem.W.Frag) : TS :=
  (tSeq (tDrop (tMeth (He.ga K "Strip") "require_name" (spG K (A_Strip_require_name K)) [] E0 (tVar 0) (tCons (tVar 1) tNil)))
  (tSeq (tAsg (tDGet (tFld K (tVar 0) "kept_places") (tVar 1)) (gUnl K 2 (gCons (gName 2) (gCons (gName 3) gNil))))
  (tRet (tTup (tCons (tVar 2) (tCons (tVar 3) tNil))))))
theorem dv_Strip_places (T : Txt K mg) (c_Strip_require_name : Me P w K mg base (0 + 1) (He.ga K "Strip") "require_name" ["self", "name"] (spG K (A_Strip_require_name K))) {cdv : Value} {B : Around} {outer : List Env} {s : Shared} {H : Hp} {E : XK} {f : Addr} (hr : Room (1) (B.deeper (envOfC "Strip.places" (defScope s_Strip_places) s.heap.objs.size f cdv))) :
    PSs (cxOf CX0 P w K mg base n_Strip_places "Strip.places" (defScope s_Strip_places) f cdv B outer s H E) (defBody s_Strip_places) (t_Strip_places K) := by
  have nd := sc_Strip_places.nd
  exact PSs.nox (pss_cons (ps_expr (pe_me c_Strip_require_name (hr.mono (by omega)) (pv 0) (pa_cons (pv 1) pa_nil)))
      (pss_cons (ps_asg (pe_dget (u1 hr.units) (pe_fld (pv 0) rfl) (pv 1) (fun _ _ => rfl)) (pg_unl (by rfl) (pgs_cons (pg_name (i := 2) nd rfl (.inl rfl)) (pgs_cons (pg_name (i := 3) nd rfl (.inl rfl)) pgs_nil))))
      (pss_one (ps_ret (pe_tup (pa_cons (pv 2) (pa_cons (pv 3) pa_nil)))))))
abbrev s_Strip_names_between : Stmt := inClass (top 32) 8
abbrev n_Strip_names_between : List Str := ["self", "name", "first", "second", "marker"]
abbrev p_Strip_names_between : List Str := ["self", "name"]
theorem sc_Strip_names_between : FnScope n_Strip_names_between p_Strip_names_between (defScope s_Strip_names_between) := ⟨rfl, rfl, rfl, by decide +kernel, rfl, by decide +kernel, by decide +kernel⟩
def t_Strip_names_between (K : PySem.W.Frag) : TS :=
  (tSeq (tAsg (tMeth (He.ga K "Strip") "places" (spG K (A_Strip_places K)) [] E0 (tVar 0) (tCons (tVar 1) tNil)) (gTup K 2 (gCons (gName 2) (gCons (gName 3) gNil))))
  (tRet (tLc (iSeqU K (tStV K 2 (tFld K (tVar 0) "kept_row") (tPart (tOp (rAddU K) (tOp rMulU (tC (.int 2)) (tVar 2)) (tC (.int 3)))) (tPart (tOp rMulU (tC (.int 2)) (tVar 3))))) (gName 4) tYes (tOp (rIxU K) (tVar 4) (tC (.int 0))) [4])))
theorem dv_Strip_names_between (T : Txt K mg) (c_Strip_places : Me P w K mg base (1 + 1) (He.ga K "Strip") "places" ["self", "name"] (spG K (A_Strip_places K))) {cdv : Value} {B : Around} {outer : List Env} {s : Shared} {H : Hp} {E : XK} {f : Addr} (hr : Room (2) (B.deeper (envOfC "Strip.names_between" (defScope s_Strip_names_between) s.heap.objs.size f cdv))) :
    PSs (cxOf CX0 P w K mg base n_Strip_names_between "Strip.names_between" (defScope s_Strip_names_between) f cdv B outer s H E) (defBody s_Strip_names_between) (t_Strip_names_between K) := by
  have nd := sc_Strip_names_between.nd
  exact PSs.nox (pss_cons (ps_asg (pe_me c_Strip_places (hr.mono (by omega)) (pv 0) (pa_cons (pv 1) pa_nil)) (pg_tup (by rfl) (pgs_cons (pg_name (i := 2) nd rfl (.inl rfl)) (pgs_cons (pg_name (i := 3) nd rfl (.inl rfl)) pgs_nil))))
      (pss_one (ps_ret (pe_lc (own := [("marker", 4)]) (by rfl) nd (pi_seqU (pe_stepV (c := 2) (pe_fld (pv 0) rfl) (po_some (pe_op op_addU (pe_op op_mulU pe_int (pv 2)) pe_int)) (po_some (pe_op op_mulU pe_int (pv 3))) (po_some pe_int) (fun _ _ _ q => ⟨2, rfl, q⟩) (by decide))) (blkOk_by (own := [("marker", 4)]) (N := n_Strip_names_between) (sc := defScope s_Strip_names_between) (by decide +kernel)) (fun _ _ _ _ _ => (pg_name (i := 4) nd rfl (.inl rfl))) (fun _ _ _ _ _ => pts_nil) (fun _ _ _ _ _ => (pe_ix ix_U (pv 4) pe_int (fun _ _ => rfl)))))))
abbrev s_Strip_crosses : Stmt := inClass (top 32) 9
abbrev n_Strip_crosses : List Str := ["self", "one", "other"]
abbrev p_Strip_crosses : List Str := ["self", "one", "other"]
theorem sc_Strip_crosses : FnScope n_Strip_crosses p_Strip_crosses (defScope s_Strip_crosses) := ⟨rfl, rfl, rfl, by decide +kernel, rfl, by decide +kernel, by decide +kernel⟩
def t_Strip_crosses (K : PySem.W.Frag) : TS :=
  (tSeq (tDrop (tMeth (He.ga K "Strip") "require_name" (spG K (A_Strip_require_name K)) [] E0 (tVar 0) (tCons (tVar 1) tNil)))
  (tSeq (tDrop (tMeth (He.ga K "Strip") "require_name" (spG K (A_Strip_require_name K)) [] E0 (tVar 0) (tCons (tVar 2) tNil)))
  (tRet (tAndV (tOp (rNeU K) (tVar 1) (tVar 2)) (tOp (rEqU K) (tBM K "list" (rCount K) (tMeth (He.ga K "Strip") "names_between" (spG K (A_Strip_names_between K)) [] E0 (tVar 0) (tCons (tVar 1) tNil)) (tCons (tVar 2) tNil)) (tC (.int 1)))))))
theorem dv_Strip_crosses (T : Txt K mg) (c_Strip_names_between : Me P w K mg base (2 + 1) (He.ga K "Strip") "names_between" ["self", "name"] (spG K (A_Strip_names_between K))) (c_Strip_require_name : Me P w K mg base (0 + 1) (He.ga K "Strip") "require_name" ["self", "name"] (spG K (A_Strip_require_name K))) {cdv : Value} {B : Around} {outer : List Env} {s : Shared} {H : Hp} {E : XK} {f : Addr} (hr : Room (3) (B.deeper (envOfC "Strip.crosses" (defScope s_Strip_crosses) s.heap.objs.size f cdv))) :
    PSs (cxOf CX0 P w K mg base n_Strip_crosses "Strip.crosses" (defScope s_Strip_crosses) f cdv B outer s H E) (defBody s_Strip_crosses) (t_Strip_crosses K) := by
  have nd := sc_Strip_crosses.nd
  exact PSs.nox (pss_cons (ps_expr (pe_me c_Strip_require_name (hr.mono (by omega)) (pv 0) (pa_cons (pv 1) pa_nil)))
      (pss_cons (ps_expr (pe_me c_Strip_require_name (hr.mono (by omega)) (pv 0) (pa_cons (pv 2) pa_nil)))
      (pss_one (ps_ret (pe_and (pe_cmpR (op_neU hr.units) (pv 1) (pv 2) (nomark _)) (pe_one (pe_cmpR (op_eqU hr.units) (pe_bm PySem.F.plainAttrs_list PySem.F.slot_list_count PySem.F.type_list_count mt_countU (pe_me c_Strip_names_between (hr.mono (by omega)) (pv 0) (pa_cons (pv 1) pa_nil)) (pa_cons (pv 2) pa_nil)) pe_int (nomark _))))))))
abbrev s_Strip_row : Stmt := inClass (top 32) 1
abbrev n_Strip_row : List Str := ["self"]
abbrev p_Strip_row : List Str := ["self"]
theorem sc_Strip_row : FnScope n_Strip_row p_Strip_row (defScope s_Strip_row) := ⟨rfl, rfl, rfl, by decide +kernel, rfl, by decide +kernel, by decide +kernel⟩
def t_Strip_row (K : PySem.W.Frag) : TS :=
  (tRet (tCB (rListU K) (tCons (tFld K (tVar 0) "kept_row") tNil)))
theorem dv_Strip_row (T : Txt K mg)  {cdv : Value} {B : Around} {outer : List Env} {s : Shared} {H : Hp} {E : XK} {f : Addr} (hr : Room (0) (B.deeper (envOfC "Strip.row" (defScope s_Strip_row) s.heap.objs.size f cdv))) :
    PSs (cxOf CX0 P w K mg base n_Strip_row "Strip.row" (defScope s_Strip_row) f cdv B outer s H E) (defBody s_Strip_row) (t_Strip_row K) := by
  have nd := sc_Strip_row.nd
  exact PSs.nox (pss_one (ps_ret (pe_callTy call_listU (by rfl) T.f_list (by decide +kernel) (pa_cons (pe_fld (pv 0) rfl) pa_nil))))
abbrev s_Strip_orientations : Stmt := inClass (top 32) 6
abbrev n_Strip_orientations : List Str := ["self", "name", "first", "second"]
abbrev p_Strip_orientations : List Str := ["self", "name"]
theorem sc_Strip_orientations : FnScope n_Strip_orientations p_Strip_orientations (defScope s_Strip_orientations) := ⟨rfl, rfl, rfl, by decide +kernel, rfl, by decide +kernel, by decide +kernel⟩
def t_Strip_orientations (K : PySem.W.Frag) : TS :=
  (tSeq (tAsg (tMeth (He.ga K "Strip") "places" (spG K (A_Strip_places K)) [] E0 (tVar 0) (tCons (tVar 1) tNil)) (gTup K 2 (gCons (gName 2) (gCons (gName 3) gNil))))
  (tRet (tTup (tCons (tOp (rIxU K) (tOp (rIxU K) (tFld K (tVar 0) "kept_row") (tOp (rAddU K) (tOp rMulU (tC (.int 2)) (tVar 2)) (tC (.int 1)))) (tC (.int 1))) (tCons (tOp (rIxU K) (tOp (rIxU K) (tFld K (tVar 0) "kept_row") (tOp (rAddU K) (tOp rMulU (tC (.int 2)) (tVar 3)) (tC (.int 1)))) (tC (.int 1))) tNil)))))
theorem dv_Strip_orientations (T : Txt K mg) (c_Strip_places : Me P w K mg base (1 + 1) (He.ga K "Strip") "places" ["self", "name"] (spG K (A_Strip_places K))) {cdv : Value} {B : Around} {outer : List Env} {s : Shared} {H : Hp} {E : XK} {f : Addr} (hr : Room (2) (B.deeper (envOfC "Strip.orientations" (defScope s_Strip_orientations) s.heap.objs.size f cdv))) :
    PSs (cxOf CX0 P w K mg base n_Strip_orientations "Strip.orientations" (defScope s_Strip_orientations) f cdv B outer s H E) (defBody s_Strip_orientations) (t_Strip_orientations K) := by
  have nd := sc_Strip_orientations.nd
  exact PSs.nox (pss_cons (ps_asg (pe_me c_Strip_places (hr.mono (by omega)) (pv 0) (pa_cons (pv 1) pa_nil)) (pg_tup (by rfl) (pgs_cons (pg_name (i := 2) nd rfl (.inl rfl)) (pgs_cons (pg_name (i := 3) nd rfl (.inl rfl)) pgs_nil))))
      (pss_one (ps_ret (pe_tup (pa_cons (pe_ix ix_U (pe_ix ix_U (pe_fld (pv 0) rfl) (pe_op op_addU (pe_op op_mulU pe_int (pv 2)) pe_int) (fun _ _ => rfl)) pe_int (fun _ _ => rfl)) (pa_cons (pe_ix ix_U (pe_ix ix_U (pe_fld (pv 0) rfl) (pe_op op_addU (pe_op op_mulU pe_int (pv 3)) pe_int) (fun _ _ => rfl)) pe_int (fun _ _ => rfl)) pa_nil))))))
abbrev s_Strip_is_direct : Stmt := inClass (top 32) 7
abbrev n_Strip_is_direct : List Str := ["self", "name", "first", "second"]
abbrev p_Strip_is_direct : List Str := ["self", "name"]
theorem sc_Strip_is_direct : FnScope n_Strip_is_direct p_Strip_is_direct (defScope s_Strip_is_direct) := ⟨rfl, rfl, rfl, by decide +kernel, rfl, by decide +kernel, by decide +kernel⟩
def t_Strip_is_direct (K : PySem.W.Frag) : TS :=
  (tSeq (tAsg (tMeth (He.ga K "Strip") "orientations" (spG K (A_Strip_orientations K)) [] E0 (tVar 0) (tCons (tVar 1) tNil)) (gTup K 2 (gCons (gName 2) (gCons (gName 3) gNil))))
  (tRet (tOp (rEqU K) (tVar 2) (tVar 3))))
theorem dv_Strip_is_direct (T : Txt K mg) (c_Strip_orientations : Me P w K mg base (2 + 1) (He.ga K "Strip") "orientations" ["self", "name"] (spG K (A_Strip_orientations K))) {cdv : Value} {B : Around} {outer : List Env} {s : Shared} {H : Hp} {E : XK} {f : Addr} (hr : Room (3) (B.deeper (envOfC "Strip.is_direct" (defScope s_Strip_is_direct) s.heap.objs.size f cdv))) :
    PSs (cxOf CX0 P w K mg base n_Strip_is_direct "Strip.is_direct" (defScope s_Strip_is_direct) f cdv B outer s H E) (defBody s_Strip_is_direct) (t_Strip_is_direct K) := by
  have nd := sc_Strip_is_direct.nd
  exact PSs.nox (pss_cons (ps_asg (pe_me c_Strip_orientations (hr.mono (by omega)) (pv 0) (pa_cons (pv 1) pa_nil)) (pg_tup (by rfl) (pgs_cons (pg_name (i := 2) nd rfl (.inl rfl)) (pgs_cons (pg_name (i := 3) nd rfl (.inl rfl)) pgs_nil))))
      (pss_one (ps_ret (pe_cmpR (op_eqU hr.units) (pv 2) (pv 3) (nomark _)))))
abbrev s_Strip_pieces : Stmt := inClass (top 32) 3
abbrev n_Strip_pieces : List Str := ["self"]
abbrev p_Strip_pieces : List Str := ["self"]
theorem sc_Strip_pieces : FnScope n_Strip_pieces p_Strip_pieces (defScope s_Strip_pieces) := ⟨rfl, rfl, rfl, by decide +kernel, rfl, by decide +kernel, by decide +kernel⟩
def t_Strip_pieces (K : PySem.W.Frag) : TS :=
  (tRet (tUn (rStepU K none none 2) (tFld K (tVar 0) "kept_row")))
theorem dv_Strip_pieces (T : Txt K mg)  {cdv : Value} {B : Around} {outer : List Env} {s : Shared} {H : Hp} {E : XK} {f : Addr} (hr : Room (0) (B.deeper (envOfC "Strip.pieces" (defScope s_Strip_pieces) s.heap.objs.size f cdv))) :
    PSs (cxOf CX0 P w K mg base n_Strip_pieces "Strip.pieces" (defScope s_Strip_pieces) f cdv B outer s H E) (defBody s_Strip_pieces) (t_Strip_pieces K) := by
  have nd := sc_Strip_pieces.nd
  exact PSs.nox (pss_one (ps_ret (pe_stepU (c := 2) (pe_fld (pv 0) rfl) po_none po_none (po_some pe_int) (fun _ _ _ q => q) (fun _ _ _ q => q) (fun _ _ _ q => ⟨2, rfl, q⟩) (by decide) (by decide))))
abbrev s_Strip_str : Stmt := inClass (top 32) 13
abbrev n_Strip_str : List Str := ["self"]
abbrev p_Strip_str : List Str := ["self"]
theorem sc_Strip_str : FnScope n_Strip_str p_Strip_str (defScope s_Strip_str) := ⟨rfl, rfl, rfl, by decide +kernel, rfl, by decide +kernel, by decide +kernel⟩
def t_Strip_str (K : PySem.W.Frag) : TS :=
  (tRet (tFmt (tCall (spG K (A_items_textG K)) [] E0 (tCons (tFld K (tVar 0) "kept_row") tNil))))
theorem dv_Strip_str (T : Txt K mg) (c_items_text : Fn P w K mg base (1 + 1) "items_text" ["items"] (spG K (A_items_textG K))) {cdv : Value} {B : Around} {outer : List Env} {s : Shared} {H : Hp} {E : XK} {f : Addr} (hr : Room (2) (B.deeper (envOfC "Strip.__str__" (defScope s_Strip_str) s.heap.objs.size f cdv))) :
    PSs (cxOf CX0 P w K mg base n_Strip_str "Strip.__str__" (defScope s_Strip_str) f cdv B outer s H E) (defBody s_Strip_str) (t_Strip_str K) := by
  have nd := sc_Strip_str.nd
  exact PSs.nox (pss_one (ps_ret (pe_joined1 (pe_fmt (pe_fn c_items_text (hr.mono (by omega)) (by rfl) (pa_cons (pe_fld (pv 0) rfl) pa_nil))))))
abbrev s_Strip_repr : Stmt := inClass (top 32) 14
abbrev n_Strip_repr : List Str := ["self"]
abbrev p_Strip_repr : List Str := ["self"]
theorem sc_Strip_repr : FnScope n_Strip_repr p_Strip_repr (defScope s_Strip_repr) := ⟨rfl, rfl, rfl, by decide +kernel, rfl, by decide +kernel, by decide +kernel⟩
def t_Strip_repr (K : PySem.W.Frag) : TS :=
  (tRet (tFs [(tC (.str "Strip(")), (tFmt (tCall (spG K (A_items_textG K)) [] E0 (tCons (tFld K (tVar 0) "kept_row") tNil))), (tC (.str ")"))]))
theorem dv_Strip_repr (T : Txt K mg) (c_items_text : Fn P w K mg base (1 + 1) "items_text" ["items"] (spG K (A_items_textG K))) {cdv : Value} {B : Around} {outer : List Env} {s : Shared} {H : Hp} {E : XK} {f : Addr} (hr : Room (2) (B.deeper (envOfC "Strip.__repr__" (defScope s_Strip_repr) s.heap.objs.size f cdv))) :
    PSs (cxOf CX0 P w K mg base n_Strip_repr "Strip.__repr__" (defScope s_Strip_repr) f cdv B outer s H E) (defBody s_Strip_repr) (t_Strip_repr K) := by
  have nd := sc_Strip_repr.nd
  exact PSs.nox (pss_one (ps_ret (pe_joined (PJ.cons pe_str (PJ.cons (pe_fmt (pe_fn c_items_text (hr.mono (by omega)) (by rfl) (pa_cons (pe_fld (pv 0) rfl) pa_nil))) (PJ.cons pe_str PJ.nil))))))
abbrev s_law_like : Stmt := top 46
abbrev n_law_like : List Str := ["_law_strip", "_law_row_here", "_law_due", "_law_known", "_law_rows", "_law_one", "_law_told", "_law_name"]
abbrev p_law_like : List Str := ["_law_strip", "_law_row_here"]
theorem sc_law_like : FnScope n_law_like p_law_like (defScope s_law_like) := ⟨rfl, rfl, rfl, by decide +kernel, rfl, by decide +kernel, by decide +kernel⟩
def t_law_like (K : PySem.W.Frag) : TS :=
  (tSeq (tPar3 2 3 4 (tCons (tMake (He.ga K "Strip") (spI K (He.ga K "Strip") (A_Strip_init K)) [] E0 (tCons (tVar 1) tNil)) (tCons (tMeth (He.ga K "Strip") "names" (spG K (A_Strip_names K)) [] E0 (tMake (He.ga K "Strip") (spI K (He.ga K "Strip") (A_Strip_init K)) [] E0 (tCons (tVar 1) tNil)) tNil) (tCons (tLst tNil) tNil))))
  (tSeq (tIfS (tNot (tB (tCB (rIsiU K) (tCons (tVar 0) (tCons (tC (.ref (He.ga K "Strip"))) tNil))))) (tRet (tC (.bl false))) tNext)
  (tSeq (tFor (iSeqU K (tLst (tCons (tVar 0) (tCons (tVar 2) tNil)))) (gName 5)
  (tSeq (tAsg (tLst (tCons (tCB (rLenOwn (He.ga K "Strip") (spG K (A_Strip_len K))) (tCons (tVar 5) tNil)) tNil)) (gName 6))
  (tSeq (tFor (iSeqU K (tUn (rStepU K none none (-1)) (tVar 3))) (gName 7)
  (tSeq (tAsg (tOp (rAddU K) (tVar 6) (tLst (tCons (tMeth (He.ga K "Strip") "places" (spG K (A_Strip_places K)) [] E0 (tVar 5) (tCons (tVar 7) tNil)) (tCons (tMeth (He.ga K "Strip") "orientations" (spG K (A_Strip_orientations K)) [] E0 (tVar 5) (tCons (tVar 7) tNil)) (tCons (tMeth (He.ga K "Strip") "is_direct" (spG K (A_Strip_is_direct K)) [] E0 (tVar 5) (tCons (tVar 7) tNil)) (tCons (tMeth (He.ga K "Strip") "names_between" (spG K (A_Strip_names_between K)) [] E0 (tVar 5) (tCons (tVar 7) tNil)) tNil)))))) (gName 6))
  (tDrop (tBM K "list" rAppend (tVar 6) (tCons (tMeth (He.ga K "Strip") "crosses" (spG K (A_Strip_crosses K)) [] E0 (tVar 5) (tCons (tVar 7) (tCons (tOp (rIxU K) (tVar 3) (tC (.int 0))) tNil))) tNil)))))
  (tDrop (tBM K "list" rAppend (tVar 4) (tCons (tCB (rRepr K) (tCons (tOp (rAddU K) (tVar 6) (tLst (tCons (tMeth (He.ga K "Strip") "names" (spG K (A_Strip_names K)) [] E0 (tVar 5) tNil) (tCons (tMeth (He.ga K "Strip") "pieces" (spG K (A_Strip_pieces K)) [] E0 (tVar 5) tNil) (tCons (tCB (rStrOwn (He.ga K "Strip") (spG K (A_Strip_str K))) (tCons (tVar 5) tNil)) (tCons (tCB (rStrOwn (He.ga K "Strip") (spG K (A_Strip_repr K))) (tCons (tVar 5) tNil)) tNil)))))) tNil)) tNil))))))
  (tRet (tAndV (tOp (rEqU K) (tOp (rIxU K) (tVar 4) (tC (.int 0))) (tOp (rIxU K) (tVar 4) (tC (.int 1)))) (tAndV (tOp (rCmpOwn K (He.ga K "Strip") (spG K (A_Strip_eq K)) false) (tVar 0) (tVar 2)) (tOp (rEqU K) (tCB (rRepr K) (tCons (tMeth (He.ga K "Strip") "row" (spG K (A_Strip_row K)) [] E0 (tVar 0) tNil) tNil)) (tCB (rRepr K) (tCons (tVar 1) tNil)))))))))
theorem dv_law_like (T : Txt K mg) (c_Strip_row : Me P w K mg base (0 + 1) (He.ga K "Strip") "row" ["self"] (spG K (A_Strip_row K))) (c_Strip_eq : Me P w K mg base (0 + 1) (He.ga K "Strip") "__eq__" ["self", "other"] (spG K (A_Strip_eq K))) (c_Strip_repr : Me P w K mg base (2 + 1) (He.ga K "Strip") "__repr__" ["self"] (spG K (A_Strip_repr K))) (c_Strip_str : Me P w K mg base (2 + 1) (He.ga K "Strip") "__str__" ["self"] (spG K (A_Strip_str K))) (c_Strip_pieces : Me P w K mg base (0 + 1) (He.ga K "Strip") "pieces" ["self"] (spG K (A_Strip_pieces K))) (c_Strip_names : Me P w K mg base (0 + 1) (He.ga K "Strip") "names" ["self"] (spG K (A_Strip_names K))) (c_Strip_crosses : Me P w K mg base (3 + 1) (He.ga K "Strip") "crosses" ["self", "one", "other"] (spG K (A_Strip_crosses K))) (c_Strip_names_between : Me P w K mg base (2 + 1) (He.ga K "Strip") "names_between" ["self", "name"] (spG K (A_Strip_names_between K))) (c_Strip_is_direct : Me P w K mg base (3 + 1) (He.ga K "Strip") "is_direct" ["self", "name"] (spG K (A_Strip_is_direct K))) (c_Strip_orientations : Me P w K mg base (2 + 1) (He.ga K "Strip") "orientations" ["self", "name"] (spG K (A_Strip_orientations K))) (c_Strip_places : Me P w K mg base (1 + 1) (He.ga K "Strip") "places" ["self", "name"] (spG K (A_Strip_places K))) (c_Strip_len : Me P w K mg base (0 + 1) (He.ga K "Strip") "__len__" ["self"] (spG K (A_Strip_len K))) (c_Strip : Mn P w K mg base (5 + 1) "Strip" ["self", "row"] (spI K (He.ga K "Strip") (A_Strip_init K))) {cdv : Value} {B : Around} {outer : List Env} {s : Shared} {H : Hp} {E : XK} {f : Addr} (hgd : (B.deeper (envOfC "_law_like" (defScope s_law_like) s.heap.objs.size f cdv)).guards = some []) (hr : Room (7) (B.deeper (envOfC "_law_like" (defScope s_law_like) s.heap.objs.size f cdv))) :
    PSs (cxOf CX0 P w K mg base n_law_like "_law_like" (defScope s_law_like) f cdv B outer s H E) (defBody s_law_like) (t_law_like K) := by
  have nd := sc_law_like.nd
  exact PSs.nox (pss_cons (ps_par3 (by rfl) nd rfl rfl rfl (by decide) (by decide) (by decide) rfl rfl rfl (pa_cons (pe_mkU c_Strip (hr.mono (by omega)) (by rfl) (pa_cons (pv 1) pa_nil)) (pa_cons (pe_me0 c_Strip_names (hr.mono (by omega)) (pe_mkU c_Strip (hr.mono (by omega)) (by rfl) (pa_cons (pv 1) pa_nil))) (pa_cons (pe_lst pa_nil) pa_nil))) (by rfl))
      (pss_cons (ps_if (pt_not (pt_val (pe_callB call_isiU (by rfl) T.f_isinstance (by decide +kernel) (pa_cons (pv 0) (pa_cons (pe_gref T.g_Strip (by rfl)) pa_nil))))) (pss_one (ps_ret pe_bl)) pss_nil)
      (pss_cons (ps_for PassesOwn.never rfl (pi_seqU (pe_lst (pa_cons (pv 0) (pa_cons (pv 2) pa_nil)))) (pg_name (i := 5) nd rfl (.inl rfl))
      (pss_cons (ps_set (i := 6) nd rfl (.inl rfl) (pe_lst (pa_cons (pe_callB (call_lenOwn c_Strip_len (hr.mono (by omega))) (by rfl) T.f_len (by decide +kernel) (pa_cons (pv 5) pa_nil)) pa_nil)))
      (pss_cons (ps_for PassesOwn.never rfl (pi_seqU (pe_stepU (c := (-1)) (pv 3) po_none po_none (po_some (pe_un un_negU pe_int)) (fun _ _ _ q => q) (fun _ _ _ q => q) (fun _ _ _ q => ⟨1, rfl, -1, rfl, q⟩) (by decide) (by decide))) (pg_name (i := 7) nd rfl (.inl rfl))
      (pss_cons (ps_set (i := 6) nd rfl (.inl rfl) (pe_op op_addU (pv 6) (pe_lst (pa_cons (pe_me c_Strip_places (hr.mono (by omega)) (pv 5) (pa_cons (pv 7) pa_nil)) (pa_cons (pe_me c_Strip_orientations (hr.mono (by omega)) (pv 5) (pa_cons (pv 7) pa_nil)) (pa_cons (pe_me c_Strip_is_direct (hr.mono (by omega)) (pv 5) (pa_cons (pv 7) pa_nil)) (pa_cons (pe_me c_Strip_names_between (hr.mono (by omega)) (pv 5) (pa_cons (pv 7) pa_nil)) pa_nil)))))))
      (pss_one (ps_expr (pe_bm PySem.F.plainAttrs_list PySem.F.slot_list_append PySem.F.type_list_append mt_append (pv 6) (pa_cons (pe_me c_Strip_crosses (hr.mono (by omega)) (pv 5) (pa_cons (pv 7) (pa_cons (pe_ix ix_U (pv 3) pe_int (fun _ _ => rfl)) pa_nil))) pa_nil))))))
      (pss_one (ps_expr (pe_bm PySem.F.plainAttrs_list PySem.F.slot_list_append PySem.F.type_list_append mt_append (pv 4) (pa_cons (pe_callB (call_repr hgd hr.units) (by rfl) T.f_repr (by decide +kernel) (pa_cons (pe_op op_addU (pv 6) (pe_lst (pa_cons (pe_me0 c_Strip_names (hr.mono (by omega)) (pv 5)) (pa_cons (pe_me0 c_Strip_pieces (hr.mono (by omega)) (pv 5)) (pa_cons (pe_callTy (call_strOwn c_Strip_str (hr.mono (by omega))) (by rfl) T.f_str (by decide +kernel) (pa_cons (pv 5) pa_nil)) (pa_cons (pe_callB (call_reprOwn c_Strip_repr (hr.mono (by omega))) (by rfl) T.f_repr (by decide +kernel) (pa_cons (pv 5) pa_nil)) pa_nil)))))) pa_nil)) pa_nil)))))))
      (pss_one (ps_ret (pe_and (pe_cmpR (op_eqU hr.units) (pe_ix ix_U (pv 4) pe_int (fun _ _ => rfl)) (pe_ix ix_U (pv 4) pe_int (fun _ _ => rfl)) (nomark _)) (pe_and (pe_cmpR (op_eqOwn c_Strip_eq (hr.mono (by omega))) (pv 0) (pv 2) (nomark _)) (pe_one (pe_cmpR (op_eqU hr.units) (pe_callB (call_repr hgd hr.units) (by rfl) T.f_repr (by decide +kernel) (pa_cons (pe_me0 c_Strip_row (hr.mono (by omega)) (pv 0)) pa_nil)) (pe_callB (call_repr hgd hr.units) (by rfl) T.f_repr (by decide +kernel) (pa_cons (pv 1) pa_nil)) (nomark _))))))))))
abbrev s_Strip_flipped : Stmt := inClass (top 32) 10
abbrev n_Strip_flipped : List Str := ["self"]
abbrev p_Strip_flipped : List Str := ["self"]
theorem sc_Strip_flipped : FnScope n_Strip_flipped p_Strip_flipped (defScope s_Strip_flipped) := ⟨rfl, rfl, rfl, by decide +kernel, rfl, by decide +kernel, by decide +kernel⟩
def t_Strip_flipped (K : PySem.W.Frag) : TS :=
  (tRet (tMake (He.ga K "Strip") (spI K (He.ga K "Strip") (A_Strip_init K)) [] E0 (tCons (tCall (spG K (A_flipped_itemsG K)) [] E0 (tCons (tFld K (tVar 0) "kept_row") tNil)) tNil)))
theorem dv_Strip_flipped (T : Txt K mg) (c_Strip : Mn P w K mg base (5 + 1) "Strip" ["self", "row"] (spI K (He.ga K "Strip") (A_Strip_init K))) (c_flipped_items : Fn P w K mg base (2 + 1) "flipped_items" ["items"] (spG K (A_flipped_itemsG K))) {cdv : Value} {B : Around} {outer : List Env} {s : Shared} {H : Hp} {E : XK} {f : Addr} (hr : Room (7) (B.deeper (envOfC "Strip.flipped" (defScope s_Strip_flipped) s.heap.objs.size f cdv))) :
    PSs (cxOf CX0 P w K mg base n_Strip_flipped "Strip.flipped" (defScope s_Strip_flipped) f cdv B outer s H E) (defBody s_Strip_flipped) (t_Strip_flipped K) := by
  have nd := sc_Strip_flipped.nd
  exact PSs.nox (pss_one (ps_ret (pe_mkU c_Strip (hr.mono (by omega)) (by rfl) (pa_cons (pe_fn c_flipped_items (hr.mono (by omega)) (by rfl) (pa_cons (pe_fld (pv 0) rfl) pa_nil)) pa_nil))))
abbrev s_law_right : Stmt := top 47
abbrev n_law_right : List Str := ["_law_row_here", "_law_others", "_law_strip", "_law_again", "_law_about", "_law_due", "_law_other", "_law_one", "_law_thing"]
abbrev p_law_right : List Str := ["_law_row_here", "_law_others"]
theorem sc_law_right : FnScope n_law_right p_law_right (defScope s_law_right) := ⟨rfl, rfl, rfl, by decide +kernel, rfl, by decide +kernel, by decide +kernel⟩
def t_law_right (K : PySem.W.Frag) : TS :=
  (tSeq (tPar 2 3 (tCons (tMake (He.ga K "Strip") (spI K (He.ga K "Strip") (A_Strip_init K)) [] E0 (tCons (tVar 0) tNil)) (tCons (tMake (He.ga K "Strip") (spI K (He.ga K "Strip") (A_Strip_init K)) [] E0 (tCons (tCB (rTupleU K) (tCons (tVar 0) tNil)) tNil)) tNil)))
  (tSeq (tIfS (tOr (tTest (tOp rNotB (tOp (rCmpOwn K (He.ga K "Strip") (spG K (A_Strip_eq K)) false) (tVar 2) (tVar 3)) (tC (.bl true)))) (tTest (tOp rNotB (tOp (rCmpOwn K (He.ga K "Strip") (spG K (A_Strip_eq K)) true) (tVar 2) (tVar 3)) (tC (.bl false))))) (tRet (tC (.bl false))) tNext)
  (tSeq (tPar 4 5 (tCons (tMeth (He.ga K "Strip") "flipped" (spG K (A_Strip_flipped K)) [] E0 (tVar 2) tNil) (tCons (tCall (spG K (B_law_turned K)) [] E0 (tCons (tVar 0) tNil)) tNil)))
  (tSeq (tIfS (tOr (tNot (tB (tCall (spG K (B_law_like K)) [] E0 (tCons (tVar 4) (tCons (tVar 5) tNil))))) (tOr (tNot (tTest (tOp (rCmpOwn K (He.ga K "Strip") (spG K (A_Strip_eq K)) false) (tMeth (He.ga K "Strip") "flipped" (spG K (A_Strip_flipped K)) [] E0 (tVar 4) tNil) (tVar 2)))) (tNot (tB (tCall (spG K (B_law_like K)) [] E0 (tCons (tMeth (He.ga K "Strip") "flipped" (spG K (A_Strip_flipped K)) [] E0 (tVar 4) tNil) (tCons (tVar 0) tNil))))))) (tRet (tC (.bl false))) tNext)
  (tSeq (tFor (iSeqU K (tOp (rAddU K) (tVar 1) (tLst (tCons (tVar 5) tNil)))) (gName 6)
  (tSeq (tAsg (tMake (He.ga K "Strip") (spI K (He.ga K "Strip") (A_Strip_init K)) [] E0 (tCons (tVar 6) tNil)) (gName 7))
  (tIfS (tOr (tTest (tOp (rNeU K) (tOp (rCmpOwn K (He.ga K "Strip") (spG K (A_Strip_eq K)) false) (tVar 2) (tVar 7)) (tOp (rEqU K) (tVar 0) (tVar 6)))) (tOr (tTest (tOp (rNeU K) (tOp (rCmpOwn K (He.ga K "Strip") (spG K (A_Strip_eq K)) false) (tVar 7) (tVar 2)) (tOp (rEqU K) (tVar 0) (tVar 6)))) (tTest (tOp (rEqU K) (tOp (rCmpOwn K (He.ga K "Strip") (spG K (A_Strip_eq K)) true) (tVar 2) (tVar 7)) (tOp (rEqU K) (tVar 0) (tVar 6)))))) (tRet (tC (.bl false))) tNext)))
  (tSeq (tFor (iSeqU K (tLst (tCons (tC .non) (tCons (tVar 0) (tCons (tCB (rTupleU K) (tCons (tVar 0) tNil)) (tCons (tCB (rStrOwn (He.ga K "Strip") (spG K (A_Strip_str K))) (tCons (tVar 2) tNil)) (tCons (tMake (He.ga K "Ring") (spI K (He.ga K "Ring") (A_Ring_init K)) [] E0 (tCons (tLst (tCons (tOp (rIxU K) (tVar 0) (tC (.int 0))) tNil)) tNil)) (tCons (tCB (rLenU K) (tCons (tVar 0) tNil)) tNil)))))))) (gName 8)
  (tIfS (tOr (tTest (tOp (rCmpOwn K (He.ga K "Strip") (spG K (A_Strip_eq K)) false) (tVar 2) (tVar 8))) (tNot (tTest (tOp (rCmpOwn K (He.ga K "Strip") (spG K (A_Strip_eq K)) true) (tVar 2) (tVar 8))))) (tRet (tC (.bl false))) tNext))
  (tRet (tOp (rEqU K) (tCB (rRepr K) (tCons (tMeth (He.ga K "Strip") "row" (spG K (A_Strip_row K)) [] E0 (tVar 2) tNil) tNil)) (tCB (rRepr K) (tCons (tVar 0) tNil))))))))))
theorem dv_law_right (T : Txt K mg) (c_Strip_row : Me P w K mg base (0 + 1) (He.ga K "Strip") "row" ["self"] (spG K (A_Strip_row K))) (c_Ring : Mn P w K mg base (5 + 1) "Ring" ["self", "row"] (spI K (He.ga K "Ring") (A_Ring_init K))) (c_Strip_str : Me P w K mg base (2 + 1) (He.ga K "Strip") "__str__" ["self"] (spG K (A_Strip_str K))) (c_Strip_eq : Me P w K mg base (0 + 1) (He.ga K "Strip") "__eq__" ["self", "other"] (spG K (A_Strip_eq K))) (c_Strip : Mn P w K mg base (5 + 1) "Strip" ["self", "row"] (spI K (He.ga K "Strip") (A_Strip_init K))) (c_law_like : Gn P w K mg base (7 + 1) "_law_like" ["_law_strip", "_law_row_here"] (spG K (B_law_like K))) (c_Strip_flipped : Me P w K mg base (7 + 1) (He.ga K "Strip") "flipped" ["self"] (spG K (A_Strip_flipped K))) (c_law_turned : Fn P w K mg base (0 + 1) "_law_turned" ["_law_row_here"] (spG K (B_law_turned K))) {cdv : Value} {B : Around} {outer : List Env} {s : Shared} {H : Hp} {E : XK} {f : Addr} (hgd : (B.deeper (envOfC "_law_right" (defScope s_law_right) s.heap.objs.size f cdv)).guards = some []) (hr : Room (8) (B.deeper (envOfC "_law_right" (defScope s_law_right) s.heap.objs.size f cdv))) :
    PSs (cxOf CX0 P w K mg base n_law_right "_law_right" (defScope s_law_right) f cdv B outer s H E) (defBody s_law_right) (t_law_right K) := by
  have nd := sc_law_right.nd
  exact PSs.nox (pss_cons (ps_par (by rfl) nd rfl rfl (by decide) rfl rfl (pa_cons (pe_mkU c_Strip (hr.mono (by omega)) (by rfl) (pa_cons (pv 0) pa_nil)) (pa_cons (pe_mkU c_Strip (hr.mono (by omega)) (by rfl) (pa_cons (pe_callTy call_tupleU (by rfl) T.f_tuple (by decide +kernel) (pa_cons (pv 0) pa_nil)) pa_nil)) pa_nil)) (by rfl))
      (pss_cons (ps_if (PW.pt (pw_or (pt_cmpR op_notBl (pe_cmpR (op_eqOwn c_Strip_eq (hr.mono (by omega))) (pv 2) (pv 3) (nomark _)) pe_bl (nomark _)) (pw_or1 (pt_cmpR op_notBl (pe_cmpR (op_neOwn c_Strip_eq T.ne_Strip T.ob_Strip (hr.mono (by omega))) (pv 2) (pv 3) (nomark _)) pe_bl (nomark _))))) (pss_one (ps_ret pe_bl)) pss_nil)
      (pss_cons (ps_par (by rfl) nd rfl rfl (by decide) rfl rfl (pa_cons (pe_me0 c_Strip_flipped (hr.mono (by omega)) (pv 2)) (pa_cons (pe_fn c_law_turned (hr.mono (by omega)) (by rfl) (pa_cons (pv 0) pa_nil)) pa_nil)) (by rfl))
      (pss_cons (ps_if (PW.pt (pw_or (pt_not (pt_val (pe_gn c_law_like hgd (hr.mono (by omega)) (by rfl) (pa_cons (pv 4) (pa_cons (pv 5) pa_nil))))) (pw_or (pt_not (pt_cmpR (op_eqOwn c_Strip_eq (hr.mono (by omega))) (pe_me0 c_Strip_flipped (hr.mono (by omega)) (pv 4)) (pv 2) (nomark _))) (pw_or1 (pt_not (pt_val (pe_gn c_law_like hgd (hr.mono (by omega)) (by rfl) (pa_cons (pe_me0 c_Strip_flipped (hr.mono (by omega)) (pv 4)) (pa_cons (pv 0) pa_nil))))))))) (pss_one (ps_ret pe_bl)) pss_nil)
      (pss_cons (ps_for PassesOwn.never rfl (pi_seqU (pe_op op_addU (pv 1) (pe_lst (pa_cons (pv 5) pa_nil)))) (pg_name (i := 6) nd rfl (.inl rfl))
      (pss_cons (ps_set (i := 7) nd rfl (.inl rfl) (pe_mkU c_Strip (hr.mono (by omega)) (by rfl) (pa_cons (pv 6) pa_nil)))
      (pss_one (ps_if (PW.pt (pw_or (pt_cmpR (op_neU hr.units) (pe_cmpR (op_eqOwn c_Strip_eq (hr.mono (by omega))) (pv 2) (pv 7) (nomark _)) (pe_cmpR (op_eqU hr.units) (pv 0) (pv 6) (nomark _)) (nomark _)) (pw_or (pt_cmpR (op_neU hr.units) (pe_cmpR (op_eqOwn c_Strip_eq (hr.mono (by omega))) (pv 7) (pv 2) (nomark _)) (pe_cmpR (op_eqU hr.units) (pv 0) (pv 6) (nomark _)) (nomark _)) (pw_or1 (pt_cmpR (op_eqU hr.units) (pe_cmpR (op_neOwn c_Strip_eq T.ne_Strip T.ob_Strip (hr.mono (by omega))) (pv 2) (pv 7) (nomark _)) (pe_cmpR (op_eqU hr.units) (pv 0) (pv 6) (nomark _)) (nomark _)))))) (pss_one (ps_ret pe_bl)) pss_nil))))
      (pss_cons (ps_for PassesOwn.never rfl (pi_seqU (pe_lst (pa_cons pe_non (pa_cons (pv 0) (pa_cons (pe_callTy call_tupleU (by rfl) T.f_tuple (by decide +kernel) (pa_cons (pv 0) pa_nil)) (pa_cons (pe_callTy (call_strOwn c_Strip_str (hr.mono (by omega))) (by rfl) T.f_str (by decide +kernel) (pa_cons (pv 2) pa_nil)) (pa_cons (pe_mkU c_Ring (hr.mono (by omega)) (by rfl) (pa_cons (pe_lst (pa_cons (pe_ix ix_U (pv 0) pe_int (fun _ _ => rfl)) pa_nil)) pa_nil)) (pa_cons (pe_callB call_lenU (by rfl) T.f_len (by decide +kernel) (pa_cons (pv 0) pa_nil)) pa_nil)))))))) (pg_name (i := 8) nd rfl (.inl rfl))
      (pss_one (ps_if (PW.pt (pw_or (pt_cmpR (op_eqOwn c_Strip_eq (hr.mono (by omega))) (pv 2) (pv 8) (nomark _)) (pw_or1 (pt_not (pt_cmpR (op_neOwn c_Strip_eq T.ne_Strip T.ob_Strip (hr.mono (by omega))) (pv 2) (pv 8) (nomark _)))))) (pss_one (ps_ret pe_bl)) pss_nil)))
      (pss_one (ps_ret (pe_cmpR (op_eqU hr.units) (pe_callB (call_repr hgd hr.units) (by rfl) T.f_repr (by decide +kernel) (pa_cons (pe_me0 c_Strip_row (hr.mono (by omega)) (pv 2)) pa_nil)) (pe_callB (call_repr hgd hr.units) (by rfl) T.f_repr (by decide +kernel) (pa_cons (pv 0) pa_nil)) (nomark _))))))))))
abbrev s_law_near : Stmt := top 44
abbrev n_law_near : List Str := ["_law_box_here", "_law_row_here", "_law_at", "_law_to", "_law_one", "_law_found", "_law_fresh", "_law_name", "_law_mark", "_law_thing"]
abbrev p_law_near : List Str := ["_law_box_here", "_law_row_here"]
theorem sc_law_near : FnScope n_law_near p_law_near (defScope s_law_near) := ⟨rfl, rfl, rfl, by decide +kernel, rfl, by decide +kernel, by decide +kernel⟩
def t_law_near (K : PySem.W.Frag) : TS :=
  (tSeq (tAsg (tTup (tCons (tOp rMulU (tC (.int 2)) (tCall (spX K (A_law_take)) [] E0 (tCons (tVar 0) (tCons (tOp (rAddU K) (tOp rDivU (tCB (rLenU K) (tCons (tVar 1) tNil)) (tC (.int 2))) (tC (.int 1))) tNil)))) (tCons (tOp rMulU (tC (.int 2)) (tCall (spX K (A_law_take)) [] E0 (tCons (tVar 0) (tCons (tOp (rAddU K) (tOp rDivU (tCB (rLenU K) (tCons (tVar 1) tNil)) (tC (.int 2))) (tC (.int 1))) tNil)))) tNil))) (gTup K 2 (gCons (gName 2) (gCons (gName 3) gNil))))
  (tSeq (tPar 4 5 (tCons (tCB (rListU K) (tCons (tVar 1) tNil)) (tCons (tLst tNil) tNil)))
  (tSeq (tAsg (tOp (rAddU K) (tOp (rIxU K) (tVar 4) (tVar 2)) (tC (.str "x"))) (gSub (tVar 4) (tVar 2) rSetL))
  (tSeq (tDrop (tBM K "list" rAppend (tVar 5) (tCons (tVar 4) tNil)))
  (tSeq (tAsg (tCB (rListU K) (tCons (tVar 1) tNil)) (gName 4))
  (tSeq (tAsg (tM0 rUpper (tOp (rIxU K) (tVar 4) (tVar 2))) (gSub (tVar 4) (tVar 2) rSetL))
  (tSeq (tDrop (tBM K "list" rAppend (tVar 5) (tCons (tVar 4) tNil)))
  (tSeq (tAsg (tCB (rListU K) (tCons (tVar 1) tNil)) (gName 4))
  (tSeq (tAsg (tTup (tCons (tOp (rIxU K) (tVar 4) (tVar 3)) (tCons (tOp (rIxU K) (tVar 4) (tVar 2)) tNil))) (gTup K 2 (gCons (gSub (tVar 4) (tVar 2) rSetL) (gCons (gSub (tVar 4) (tVar 3) rSetL) gNil))))
  (tSeq (tDrop (tBM K "list" rAppend (tVar 5) (tCons (tVar 4) tNil)))
  (tSeq (tAsg (tOp (rIxU K) (tLc (iSeqU K (tLst (tCons (tC (.str "z")) (tCons (tC (.str "zz")) (tCons (tC (.str "zzzz")) (tCons (tC (.str "qqqq")) tNil)))))) (gName 7) (tTest (tOp (rNotInU K) (tVar 7) (tLc (iSeqU K (tUn (rStepU K (some 1) none 2) (tVar 1))) (gName 8) tYes (tOp (rIxU K) (tVar 8) (tC (.int 0))) [8]))) (tVar 7) [7]) (tC (.int 0))) (gName 6))
  (tSeq (tDrop (tBM K "list" rAppend (tVar 5) (tCons (tOp (rAddU K) (tVar 1) (tLst (tCons (tTup (tCons (tVar 6) (tCons (tC (.bl true)) tNil))) (tCons (tC (.str "")) (tCons (tTup (tCons (tVar 6) (tCons (tC (.bl true)) tNil))) (tCons (tC (.str "")) tNil)))))) tNil)))
  (tSeq (tIfS (tTest (tOp rGtU (tCB (rLenU K) (tCons (tVar 1) tNil)) (tC (.int 1)))) (tSeq (tAsg (tTup (tCons (tOp (rAddU K) (tOp rMulU (tC (.int 2)) (tCall (spX K (A_law_take)) [] E0 (tCons (tVar 0) (tCons (tOp rDivU (tCB (rLenU K) (tCons (tVar 1) tNil)) (tC (.int 2))) tNil)))) (tC (.int 1))) (tCons (tOp (rAddU K) (tOp rMulU (tC (.int 2)) (tCall (spX K (A_law_take)) [] E0 (tCons (tVar 0) (tCons (tOp rDivU (tCB (rLenU K) (tCons (tVar 1) tNil)) (tC (.int 2))) tNil)))) (tC (.int 1))) tNil))) (gTup K 2 (gCons (gName 2) (gCons (gName 3) gNil))))
  (tSeq (tAsg (tCB (rListU K) (tCons (tVar 1) tNil)) (gName 4))
  (tSeq (tAsg (tTup (tCons (tOp (rIxU K) (tOp (rIxU K) (tVar 4) (tVar 2)) (tC (.int 0))) (tCons (tNotV (tOp (rIxU K) (tOp (rIxU K) (tVar 4) (tVar 2)) (tC (.int 1)))) tNil))) (gSub (tVar 4) (tVar 2) rSetL))
  (tSeq (tDrop (tBM K "list" rAppend (tVar 5) (tCons (tVar 4) tNil)))
  (tSeq (tAsg (tCB (rListU K) (tCons (tVar 1) tNil)) (gName 4))
  (tSeq (tAsg (tTup (tCons (tOp (rIxU K) (tVar 4) (tVar 3)) (tCons (tOp (rIxU K) (tVar 4) (tVar 2)) tNil))) (gTup K 2 (gCons (gSub (tVar 4) (tVar 2) rSetL) (gCons (gSub (tVar 4) (tVar 3) rSetL) gNil))))
  (tSeq (tDrop (tBM K "list" rAppend (tVar 5) (tCons (tVar 4) tNil)))
  (tDrop (tBM K "list" rAppend (tVar 5) (tCons (tLc (iSeqU K (tVar 1)) (gName 9) tYes (tIf (tTest (tOp (rEqU K) (tSl (rSlU K) (tVar 9) tNoPart (tPart (tC (.int 1)))) (tSl (rSlU K) (tOp (rIxU K) (tVar 1) (tVar 2)) tNoPart (tPart (tC (.int 1)))))) (tTup (tCons (tVar 6) (tCons (tOp (rIxU K) (tVar 9) (tC (.int 1))) tNil))) (tVar 9)) [9]) tNil)))))))))) tNext)
  (tRet (tVar 5)))))))))))))))
theorem dv_law_near (T : Txt K mg) (c_law_take : Fn P w K mg base (0 + 1) "_law_take" ["_law_box_here", "_law_many"] (spX K (A_law_take))) {cdv : Value} {B : Around} {outer : List Env} {s : Shared} {H : Hp} {E : XK} {f : Addr} (hr : Room (1) (B.deeper (envOfC "_law_near" (defScope s_law_near) s.heap.objs.size f cdv))) :
    PSs (cxOf CX0 P w K mg base n_law_near "_law_near" (defScope s_law_near) f cdv B outer s H E) (defBody s_law_near) (t_law_near K) := by
  have nd := sc_law_near.nd
  exact PSs.nox (pss_cons (ps_asg (pe_tup (pa_cons (pe_op op_mulU pe_int (pe_fn c_law_take (hr.mono (by omega)) (by rfl) (pa_cons (pv 0) (pa_cons (pe_op op_addU (pe_op op_divU (pe_callB call_lenU (by rfl) T.f_len (by decide +kernel) (pa_cons (pv 1) pa_nil)) pe_int) pe_int) pa_nil)))) (pa_cons (pe_op op_mulU pe_int (pe_fn c_law_take (hr.mono (by omega)) (by rfl) (pa_cons (pv 0) (pa_cons (pe_op op_addU (pe_op op_divU (pe_callB call_lenU (by rfl) T.f_len (by decide +kernel) (pa_cons (pv 1) pa_nil)) pe_int) pe_int) pa_nil)))) pa_nil))) (pg_tup (by rfl) (pgs_cons (pg_name (i := 2) nd rfl (.inr rfl)) (pgs_cons (pg_name (i := 3) nd rfl (.inl rfl)) pgs_nil))))
      (pss_cons (ps_par (by rfl) nd rfl rfl (by decide) rfl rfl (pa_cons (pe_callTy call_listU (by rfl) T.f_list (by decide +kernel) (pa_cons (pv 1) pa_nil)) (pa_cons (pe_lst pa_nil) pa_nil)) (by rfl))
      (pss_cons (ps_asg (pe_op op_addU (pe_ix ix_U (pv 4) (pv 2) (fun _ _ => rfl)) pe_str) (pg_sub (pv 4) (pv 2) set_list))
      (pss_cons (ps_expr (pe_bm PySem.F.plainAttrs_list PySem.F.slot_list_append PySem.F.type_list_append mt_append (pv 5) (pa_cons (pv 4) pa_nil)))
      (pss_cons (ps_set (i := 4) nd rfl (.inl rfl) (pe_callTy call_listU (by rfl) T.f_list (by decide +kernel) (pa_cons (pv 1) pa_nil)))
      (pss_cons (ps_asg (pe_m0 PySem.F.slot_str_upper PySem.F.type_str_upper mt_upperU (pe_ix ix_U (pv 4) (pv 2) (fun _ _ => rfl))) (pg_sub (pv 4) (pv 2) set_list))
      (pss_cons (ps_expr (pe_bm PySem.F.plainAttrs_list PySem.F.slot_list_append PySem.F.type_list_append mt_append (pv 5) (pa_cons (pv 4) pa_nil)))
      (pss_cons (ps_set (i := 4) nd rfl (.inl rfl) (pe_callTy call_listU (by rfl) T.f_list (by decide +kernel) (pa_cons (pv 1) pa_nil)))
      (pss_cons (ps_asg (pe_tup (pa_cons (pe_ix ix_U (pv 4) (pv 3) (fun _ _ => rfl)) (pa_cons (pe_ix ix_U (pv 4) (pv 2) (fun _ _ => rfl)) pa_nil))) (pg_tup (by rfl) (pgs_cons (pg_sub (pv 4) (pv 2) set_list) (pgs_cons (pg_sub (pv 4) (pv 3) set_list) pgs_nil))))
      (pss_cons (ps_expr (pe_bm PySem.F.plainAttrs_list PySem.F.slot_list_append PySem.F.type_list_append mt_append (pv 5) (pa_cons (pv 4) pa_nil)))
      (pss_cons (ps_set (i := 6) nd rfl (.inr rfl) (pe_ix ix_U (pe_lc (own := [("_law_name", 7)]) (by rfl) nd (pi_seqU (pe_lst (pa_cons pe_str (pa_cons pe_str (pa_cons pe_str (pa_cons pe_str pa_nil)))))) (blkOk_by (own := [("_law_name", 7)]) (N := n_law_near) (sc := defScope s_law_near) (by decide +kernel)) (fun _ _ _ _ _ => (pg_name (i := 7) nd rfl (.inl rfl))) (fun _ _ _ _ _ => (pts_one (pt_cmpR op_notInU (pv 7) (pe_lc (own := [("_law_mark", 8)]) (by rfl) nd (pi_seqU (pe_stepU (c := 2) (pv 1) (po_some pe_int) po_none (po_some pe_int) (fun _ _ _ q => ⟨1, rfl, q⟩) (fun _ _ _ q => q) (fun _ _ _ q => ⟨2, rfl, q⟩) (by decide) (by decide))) (by refine blkOk_by (own := [("_law_mark", 8)]) (N := n_law_near) ?_; kernel_rfl) (fun _ _ _ _ _ => (pg_name (i := 8) nd rfl (.inl rfl))) (fun _ _ _ _ _ => pts_nil) (fun _ _ _ _ _ => (pe_ix ix_U (pv 8) pe_int (fun _ _ => rfl)))) (by rfl)))) (fun _ _ _ _ _ => (pv 7))) pe_int (fun _ _ => rfl)))
      (pss_cons (ps_expr (pe_bm PySem.F.plainAttrs_list PySem.F.slot_list_append PySem.F.type_list_append mt_append (pv 5) (pa_cons (pe_op op_addU (pv 1) (pe_lst (pa_cons (pe_tup (pa_cons (pv 6) (pa_cons pe_bl pa_nil))) (pa_cons pe_str (pa_cons (pe_tup (pa_cons (pv 6) (pa_cons pe_bl pa_nil))) (pa_cons pe_str pa_nil)))))) pa_nil)))
      (pss_cons (ps_if (pt_cmpR op_gtU (pe_callB call_lenU (by rfl) T.f_len (by decide +kernel) (pa_cons (pv 1) pa_nil)) pe_int (nomark _)) (pss_cons (ps_asg (pe_tup (pa_cons (pe_op op_addU (pe_op op_mulU pe_int (pe_fn c_law_take (hr.mono (by omega)) (by rfl) (pa_cons (pv 0) (pa_cons (pe_op op_divU (pe_callB call_lenU (by rfl) T.f_len (by decide +kernel) (pa_cons (pv 1) pa_nil)) pe_int) pa_nil)))) pe_int) (pa_cons (pe_op op_addU (pe_op op_mulU pe_int (pe_fn c_law_take (hr.mono (by omega)) (by rfl) (pa_cons (pv 0) (pa_cons (pe_op op_divU (pe_callB call_lenU (by rfl) T.f_len (by decide +kernel) (pa_cons (pv 1) pa_nil)) pe_int) pa_nil)))) pe_int) pa_nil))) (pg_tup (by rfl) (pgs_cons (pg_name (i := 2) nd rfl (.inr rfl)) (pgs_cons (pg_name (i := 3) nd rfl (.inl rfl)) pgs_nil))))
      (pss_cons (ps_set (i := 4) nd rfl (.inl rfl) (pe_callTy call_listU (by rfl) T.f_list (by decide +kernel) (pa_cons (pv 1) pa_nil)))
      (pss_cons (ps_asg (pe_tup (pa_cons (pe_ix ix_U (pe_ix ix_U (pv 4) (pv 2) (fun _ _ => rfl)) pe_int (fun _ _ => rfl)) (pa_cons (pe_not (pe_ix ix_U (pe_ix ix_U (pv 4) (pv 2) (fun _ _ => rfl)) pe_int (fun _ _ => rfl))) pa_nil))) (pg_sub (pv 4) (pv 2) set_list))
      (pss_cons (ps_expr (pe_bm PySem.F.plainAttrs_list PySem.F.slot_list_append PySem.F.type_list_append mt_append (pv 5) (pa_cons (pv 4) pa_nil)))
      (pss_cons (ps_set (i := 4) nd rfl (.inl rfl) (pe_callTy call_listU (by rfl) T.f_list (by decide +kernel) (pa_cons (pv 1) pa_nil)))
      (pss_cons (ps_asg (pe_tup (pa_cons (pe_ix ix_U (pv 4) (pv 3) (fun _ _ => rfl)) (pa_cons (pe_ix ix_U (pv 4) (pv 2) (fun _ _ => rfl)) pa_nil))) (pg_tup (by rfl) (pgs_cons (pg_sub (pv 4) (pv 2) set_list) (pgs_cons (pg_sub (pv 4) (pv 3) set_list) pgs_nil))))
      (pss_cons (ps_expr (pe_bm PySem.F.plainAttrs_list PySem.F.slot_list_append PySem.F.type_list_append mt_append (pv 5) (pa_cons (pv 4) pa_nil)))
      (pss_one (ps_expr (pe_bm PySem.F.plainAttrs_list PySem.F.slot_list_append PySem.F.type_list_append mt_append (pv 5) (pa_cons (pe_lc (own := [("_law_thing", 9)]) (by rfl) nd (pi_seqU (pv 1)) (blkOk_by (own := [("_law_thing", 9)]) (N := n_law_near) (sc := defScope s_law_near) (by decide +kernel)) (fun _ _ _ _ _ => (pg_name (i := 9) nd rfl (.inl rfl))) (fun _ _ _ _ _ => pts_nil) (fun _ _ _ _ _ => (pe_ifExp (pt_cmpR (op_eqU hr.units) (pe_slice sl_U (pv 9) po_none (po_some pe_int)) (pe_slice sl_U (pe_ix ix_U (pv 1) (pv 2) (fun _ _ => rfl)) po_none (po_some pe_int)) (nomark _)) (pe_tup (pa_cons (pv 6) (pa_cons (pe_ix ix_U (pv 9) pe_int (fun _ _ => rfl)) pa_nil))) (pv 9)))) pa_nil))))))))))) pss_nil)
      (pss_one (ps_ret (pv 5))))))))))))))))
abbrev s_law : Stmt := top 48
abbrev n_law : List Str := ["_law_script", "_law_k", "_law_box_here", "_law_row_here", "_law_both"]
abbrev p_law : List Str := ["_law_script"]
theorem sc_law : FnScope n_law p_law (defScope s_law) := ⟨rfl, rfl, rfl, by decide +kernel, rfl, by decide +kernel, by decide +kernel⟩
def t_law (K : PySem.W.Frag) : TS :=
  (tSeq (tFor (iRng1 (tCons (tCB rMax2 (tCons (tC (.int 2)) (tCons (tCB rMin2 (tCons (tC (.int 6)) (tCons (tCB (rLenU K) (tCons (tVar 0) tNil)) tNil))) tNil))) tNil)) (gName 1)
  (tSeq (tAsg (tCall (spG K (A_law_box)) [] E0 (tCons (tCall (spG K (A_law_cell)) [] E0 (tCons (tVar 0) (tCons (tVar 1) tNil))) tNil)) (gName 2))
  (tSeq (tAsg (tCall (spX K (B_law_row)) [] E0 (tCons (tVar 2) (tCons (tCall (spX K (A_law_take)) [] E0 (tCons (tVar 2) (tCons (tC (.int 8)) tNil))) tNil))) (gName 3))
  (tSeq (tIfS (tNot (tB (tCall (spG K (B_law_right K)) [] E0 (tCons (tVar 3) (tCons (tCall (spX K (B_law_near)) [] E0 (tCons (tVar 2) (tCons (tVar 3) tNil))) tNil))))) (tRet (tC (.bl false))) tNext)
  (tSeq (tAsg (tCall (spX K (B_law_palindrome)) [] E0 (tCons (tVar 2) (tCons (tOp (rAddU K) (tC (.int 1)) (tCall (spX K (A_law_take)) [] E0 (tCons (tVar 2) (tCons (tC (.int 6)) tNil)))) tNil))) (gName 4))
  (tIfS (tOr (tNot (tTest (tOp (rCmpOwn K (He.ga K "Strip") (spG K (A_Strip_eq K)) false) (tMeth (He.ga K "Strip") "flipped" (spG K (A_Strip_flipped K)) [] E0 (tMake (He.ga K "Strip") (spI K (He.ga K "Strip") (A_Strip_init K)) [] E0 (tCons (tVar 4) tNil)) tNil) (tMake (He.ga K "Strip") (spI K (He.ga K "Strip") (A_Strip_init K)) [] E0 (tCons (tVar 4) tNil))))) (tNot (tB (tCall (spG K (B_law_right K)) [] E0 (tCons (tVar 4) (tCons (tLst (tCons (tVar 3) tNil)) tNil)))))) (tRet (tC (.bl false))) tNext))))))
  (tRet (tC (.bl true))))
theorem dv_law (T : Txt K mg) (c_law_right : Gn P w K mg base (8 + 1) "_law_right" ["_law_row_here", "_law_others"] (spG K (B_law_right K))) (c_Strip_eq : Me P w K mg base (0 + 1) (He.ga K "Strip") "__eq__" ["self", "other"] (spG K (A_Strip_eq K))) (c_Strip_flipped : Me P w K mg base (7 + 1) (He.ga K "Strip") "flipped" ["self"] (spG K (A_Strip_flipped K))) (c_Strip : Mn P w K mg base (5 + 1) "Strip" ["self", "row"] (spI K (He.ga K "Strip") (A_Strip_init K))) (c_law_palindrome : Fn P w K mg base (2 + 1) "_law_palindrome" ["_law_box_here", "_law_many"] (spX K (B_law_palindrome))) (c_law_take : Fn P w K mg base (0 + 1) "_law_take" ["_law_box_here", "_law_many"] (spX K (A_law_take))) (c_law_near : Fn P w K mg base (1 + 1) "_law_near" ["_law_box_here", "_law_row_here"] (spX K (B_law_near))) (c_law_row : Fn P w K mg base (2 + 1) "_law_row" ["_law_box_here", "_law_many"] (spX K (B_law_row))) (c_law_box : Fn P w K mg base (0 + 1) "_law_box" ["_law_cell_here"] (spG K (A_law_box))) (c_law_cell : Fn P w K mg base (0 + 1) "_law_cell" ["_law_script", "_law_k"] (spG K (A_law_cell))) {cdv : Value} {B : Around} {outer : List Env} {s : Shared} {H : Hp} {E : XK} {f : Addr} (hgd : (B.deeper (envOfC "law" (defScope s_law) s.heap.objs.size f cdv)).guards = some []) (hr : Room (9) (B.deeper (envOfC "law" (defScope s_law) s.heap.objs.size f cdv))) :
    PSs (cxOf CX0 P w K mg base n_law "law" (defScope s_law) f cdv B outer s H E) (defBody s_law) (t_law K) := by
  have nd := sc_law.nd
  exact PSs.nox (pss_cons (ps_for PassesOwn.never rfl (pi_range1 (by rfl) T.f_range (pa_cons (pe_callB (call_max2U rfl) (by rfl) T.f_max (by decide +kernel) (pa_cons pe_int (pa_cons (pe_callB (call_min2U rfl) (by rfl) T.f_min (by decide +kernel) (pa_cons pe_int (pa_cons (pe_callB call_lenU (by rfl) T.f_len (by decide +kernel) (pa_cons (pv 0) pa_nil)) pa_nil))) pa_nil))) pa_nil)) (pg_name (i := 1) nd rfl (.inl rfl))
      (pss_cons (ps_set (i := 2) nd rfl (.inl rfl) (pe_fn c_law_box (hr.mono (by omega)) (by rfl) (pa_cons (pe_fn c_law_cell (hr.mono (by omega)) (by rfl) (pa_cons (pv 0) (pa_cons (pv 1) pa_nil))) pa_nil)))
      (pss_cons (ps_set (i := 3) nd rfl (.inl rfl) (pe_fn c_law_row (hr.mono (by omega)) (by rfl) (pa_cons (pv 2) (pa_cons (pe_fn c_law_take (hr.mono (by omega)) (by rfl) (pa_cons (pv 2) (pa_cons pe_int pa_nil))) pa_nil))))
      (pss_cons (ps_if (pt_not (pt_val (pe_gn c_law_right hgd (hr.mono (by omega)) (by rfl) (pa_cons (pv 3) (pa_cons (pe_fn c_law_near (hr.mono (by omega)) (by rfl) (pa_cons (pv 2) (pa_cons (pv 3) pa_nil))) pa_nil))))) (pss_one (ps_ret pe_bl)) pss_nil)
      (pss_cons (ps_set (i := 4) nd rfl (.inl rfl) (pe_fn c_law_palindrome (hr.mono (by omega)) (by rfl) (pa_cons (pv 2) (pa_cons (pe_op op_addU pe_int (pe_fn c_law_take (hr.mono (by omega)) (by rfl) (pa_cons (pv 2) (pa_cons pe_int pa_nil)))) pa_nil))))
      (pss_one (ps_if (PW.pt (pw_or (pt_not (pt_cmpR (op_eqOwn c_Strip_eq (hr.mono (by omega))) (pe_me0 c_Strip_flipped (hr.mono (by omega)) (pe_mkU c_Strip (hr.mono (by omega)) (by rfl) (pa_cons (pv 4) pa_nil))) (pe_mkU c_Strip (hr.mono (by omega)) (by rfl) (pa_cons (pv 4) pa_nil)) (nomark _))) (pw_or1 (pt_not (pt_val (pe_gn c_law_right hgd (hr.mono (by omega)) (by rfl) (pa_cons (pv 4) (pa_cons (pe_lst (pa_cons (pv 3) pa_nil)) pa_nil)))))))) (pss_one (ps_ret pe_bl)) pss_nil)))))))
      (pss_one (ps_ret pe_bl)))
end
end Ms
namespace Ms
open PySem PySem.Spec PyProof.Rows L2
/-! steps of the readings over data -/
local macro_rules | `(tactic| walk_at "v") => `(tactic| first
  | ((with_reducible refine ev_var (d := ?d) ?h ?_); (case h => exact rfl))
  | ((with_reducible refine ev_varF (o := ?o) ?h ?_); (case h => exact rfl)))
local macro_rules | `(tactic| walk_at "x") => `(tactic| first
  | ((with_reducible refine ev_ixM (a := ?a) (ds0 := ?ds) ixU_own ?h ?_); (case h => exact rfl))
  | ((with_reducible refine ev_ixO (ds0 := ?ds) ixU_own ?h ?_); (case h => exact rfl))
  | ((with_reducible refine ev_lenO (ds := ?ds) lenU_own ?h ?_); (case h => exact rfl))
  | ((with_reducible refine ev_callX (n := ?n) (b := ?b) ?h ?_); (case h => exact rfl)))
local macro_rules | `(tactic| walk_at "e") => `(tactic| first
  | walk_at "x"
  | (with_reducible refine et_or ?_)
  | (with_reducible refine et_and ?_)
  | (with_reducible refine et_not ?_)
  | (with_reducible refine et_B ?_)
  | (with_reducible refine et_test ?_)
  | (with_reducible refine et_yes ?_)
  | walk_at "v"
  | (with_reducible refine ev_int ?_)
  | (with_reducible refine ev_str ?_)
  | (with_reducible refine ev_bl ?_)
  | (with_reducible refine ev_non ?_)
  | (with_reducible refine ev_c (fun _ => rep_ty _) ?_)
  | (with_reducible refine ev_op ?_)
  | (with_reducible refine ev_un ?_)
  | (with_reducible refine ev_cb ?_)
  | (with_reducible refine ev_and ?_)
  | (with_reducible refine ev_or ?_)
  | (with_reducible refine ev_not ?_)
  | (with_reducible refine ev_if ?_)
  | (with_reducible refine ev_chain ?_)
  | (with_reducible refine ev_sl ?_)
  | (with_reducible refine eo_none ?_)
  | (with_reducible refine eo_some ?_)
  | (with_reducible refine ea_nil ?_)
  | (with_reducible refine ea_cons ?_)
  | (with_reducible refine ev_tup ?_)
  | (with_reducible refine EvN.d (en_lst ?_))
  | (with_reducible refine ev_call ?_)
  | (with_reducible refine ev_m0 ?_)
  | (with_reducible refine ev_m1 ?_)
  | (with_reducible refine add_ii ?_)
  | (with_reducible refine sub_ii ?_)
  | (with_reducible refine neg_i ?_)
  | (with_reducible refine eq_ii ?_)
  | (with_reducible refine ne_ii ?_)
  | (with_reducible refine eq_ss ?_)
  | (with_reducible refine ne_ss ?_)
  | (with_reducible refine eq_bb ?_)
  | (with_reducible refine lt_ii ?_)
  | (with_reducible refine le_ii ?_)
  | (with_reducible refine gt_ii ?_)
  | (with_reducible refine ge_ii ?_)
  | (with_reducible refine len_l ?_)
  | (with_reducible refine len_t ?_)
  | (with_reducible refine len_scr ?_)
  | (with_reducible refine len_dic ?_)
  | (with_reducible refine max_ii ?_)
  | (with_reducible refine min_ii ?_)
  | (with_reducible refine int_b ?_)
  | (with_reducible refine int_i ?_)
  | (with_reducible refine list_l ?_)
  | (with_reducible refine list_t ?_)
  | (with_reducible refine tuple_l ?_)
  | (with_reducible refine tuple_t ?_)
  | (with_reducible refine in_sign ?_)
  | (with_reducible refine nin_sign ?_)
  | (with_reducible refine sl_l ?_)
  | (with_reducible refine sl_t ?_)
  | (with_reducible refine isi_str (by assumption) ?_)
  | (with_reducible refine isi_tuple (by assumption) ?_)
  | (with_reducible refine isi_list (by assumption) ?_)
  | (with_reducible refine isi_bool (by assumption) ?_)
  | (with_reducible refine isi_int (by assumption) ?_)
  | (with_reducible refine isi_seq (by assumption) ?_)
  | (with_reducible refine mod_ii (by decide) ?_)
  | (refine ite_t rfl ?_)
  | (refine ite_f rfl ?_)
  | (refine ⟨Nat.le_of_ble_eq_true rfl, ?_⟩)
  | (refine ⟨rfl, ?_⟩)
  | (refine ⟨⟨_, rfl⟩, ?_⟩)
  | (refine ⟨_, _, _, rfl, rfl, rfl, ?_⟩)
  | (refine ⟨_, rfl, ?_⟩)
  | (refine ⟨_, _, rfl, ?_⟩)
  | (refine ⟨_, _, _, rfl, ?_⟩))
local macro_rules | `(tactic| walk_at "s") => `(tactic| first
  | ((with_reducible refine sd_append (ds0 := ?ds) ?h ?_); (case h => exact rfl))
  | (with_reducible refine sd_seq ?_)
  | (with_reducible refine sd_if ?_)
  | (with_reducible refine sd_next ?_)
  | (with_reducible refine sd_ret0 ?_)
  | (with_reducible refine sd_ret ?_)
  | (with_reducible refine sd_asg ?_)
  | (with_reducible refine sd_par ?_)
  | walk_at "e")
local macro_rules | `(tactic| walk_at "q") => `(tactic| first
  | (with_reducible refine sd_seq ?_)
  | (with_reducible refine sd_if ?_)
  | (with_reducible refine sd_next ?_)
  | walk_at "e")

variable {K : PySem.W.Frag}
theorem sd_is_sequence {ds : List D} {post : Rs → Prop} (a : A_is_sequence K ds post) : SD K (t_is_sequence K) (initS n_is_sequence ds) { nx := fun _ => post (.val .non), rt := fun r _ => post r } := by
  obtain ⟨d, rfl, hd, k⟩ := a
  unfold t_is_sequence
  show SD K _ [.sh d] _
  repeat walk_at "s"
  exact k
theorem sd_is_name {ds : List D} {post : Rs → Prop} (a : A_is_name K ds post) : SD K (t_is_name K) (initS n_is_name ds) { nx := fun _ => post (.val .non), rt := fun r _ => post r } := by
  obtain ⟨d, rfl, hd, k⟩ := a
  unfold t_is_name
  show SD K _ [.sh d, .no] _
  repeat walk_at "s"
  cases d with
  | str z =>
    have hz := hd.str
    repeat walk_at "s"
    refine len_s (big_le hz) ?_
    repeat walk_at "s"
    have fin : ∀ b, b = nameS z → post (.val (.bl b)) := fun b e => by rw [e]; exact k
    refine ite_b (fun h1 => ?_) (fun h1 => ?_)
    · repeat walk_at "s"
      refine ite_b (fun h2 => ?_) (fun h2 => ?_)
      · repeat walk_at "s"
        refine fin _ ?_
        simp only [Bool.not_eq_true', decide_eq_false_iff_not] at h2
        simp only [nameS]
        simp [show ¬ z.length ≤ 4 by omega]
      · repeat walk_at "s"
        refine EvN.d (en_lcS (fun c => .bl (isLow c)) ?_)
        walk_at "v"
        refine ⟨z, rfl, rfl, big_lt hz, fun c hc => ?_, ?_⟩
        · repeat walk_at "s"
          first | exact ⟨rfl, rfl⟩ | exact rfl
        · repeat walk_at "s"
          refine all_bs (bs := z.cps.toList.map isLow) (by simp) ?_
          refine fin _ ?_
          simp only [Bool.not_eq_false', decide_eq_true_eq] at h1 h2
          simp only [nameS]
          simp [show 1 ≤ z.length by omega, show z.length ≤ 4 by omega]
    · repeat walk_at "s"
      refine fin _ ?_
      simp only [decide_eq_false_iff_not] at h1
      simp only [nameS]
      simp [show ¬ 1 ≤ z.length by omega]
  | _ => repeat walk_at "s"
         exact k
theorem sd_is_piece {ds : List D} {post : Rs → Prop} (a : A_is_piece K ds post) : SD K (t_is_piece K) (initS n_is_piece ds) { nx := fun _ => post (.val .non), rt := fun r _ => post r } := by
  obtain ⟨d, rfl, hd, k⟩ := a
  unfold t_is_piece
  show SD K _ [.sh d, .no] _
  repeat walk_at "s"
  cases d with
  | str z =>
    have hz := hd.str
    repeat walk_at "s"
    refine EvN.d (en_lcS (fun c => .bl (isLow c || isUpp c)) ?_)
    walk_at "v"
    refine ⟨z, rfl, rfl, big_lt hz, fun c hc => ?_, ?_⟩
    · repeat walk_at "s"
      refine ite_b (fun h1 => ?_) (fun h1 => ?_)
      · have e : isLow c = true := h1
        rw [e]; exact ⟨rfl, rfl⟩
      · repeat walk_at "s"
        have e : isLow c = false := h1
        rw [e]; exact ⟨rfl, rfl⟩
    · repeat walk_at "s"
      refine all_bs (bs := z.cps.toList.map fun c => isLow c || isUpp c) (by simp) ?_
      have e : ((z.cps.toList.map fun c => isLow c || isUpp c).all id) = isPiece (.str z) := by simp [isPiece, pieceS, Function.comp_def]
      rw [e]; exact k
  | _ => repeat walk_at "s"
         exact k
theorem sd_is_marker {ds : List D} {post : Rs → Prop} (a : A_is_marker K ds post) : SD K (t_is_marker K) (initS n_is_marker ds) { nx := fun _ => post (.val .non), rt := fun r _ => post r } := by
  obtain ⟨d, rfl, hd, k⟩ := a
  unfold t_is_marker
  show SD K _ [.sh d] _
  repeat walk_at "s"
  cases d with
  | tup xs =>
    have hx := hd.tup.2
    repeat walk_at "s"
    refine ite_b (fun h1 => ?_) (fun h1 => ?_)
    · simp only [decide_eq_true_eq] at h1
      match xs, h1, hx, k with
      | [a, b], _, hx, k =>
        simp only [OkDs] at hx
        repeat walk_at "s"
        refine ix_t (d := a) rfl ?_
        repeat walk_at "s"
        refine ⟨hx.1, ?_⟩
        refine ⟨_, rfl, ite_b (fun h2 => ?_) (fun h2 => ?_)⟩
        · repeat walk_at "s"
          refine ix_t (d := b) rfl ?_
          repeat walk_at "s"
          refine isi_bool hx.2.1 ?_
          have e : isMarker (.tup [a, b]) = isBl b := by simp [isMarker, h2]
          rw [e] at k; exact k
        · have e : isMarker (.tup [a, b]) = false := by simp [isMarker, h2]
          rw [e] at k; exact k
      | [], h, _, _ => exact absurd h (by simp)
      | [_], h, _, _ => exact absurd h (by simp)
      | _ :: _ :: _ :: r, h, _, _ => exact absurd h (by simp; omega)
    · simp only [decide_eq_false_iff_not] at h1
      have e : isMarker (.tup xs) = false := by
        match xs, h1 with
        | [a, b], h => exact absurd rfl h
        | [], _ => rfl
        | [_], _ => rfl
        | _ :: _ :: _ :: _, _ => rfl
      rw [e] at k; exact k
  | _ => repeat walk_at "s"
         exact k
theorem itemsFrom_all (f : Nat → D → Bool) : ∀ (ds : List D) (n : Nat), (∀ i d, f i d = if i % 2 = 1 then isMarker d else isPiece d) → ((ds.zipIdx n).all fun p => f p.2 p.1) = itemsFrom n ds
  | [], _, _ => rfl
  | d :: ds, n, h => by
    rw [List.zipIdx_cons, List.all_cons, itemsFrom_all f ds (n + 1) h]
    simp only [itemsFrom, h]
theorem sd_require_piece {ds : List D} {post : Rs → Prop} (a : A_require_piece K ds post) : SD K (t_require_piece K) (initS n_require_piece ds) { nx := fun _ => post (.val .non), rt := fun r _ => post r } := by
  obtain ⟨d, rfl, hd, h1, k⟩ := a
  unfold t_require_piece
  show SD K _ [.sh d] _
  repeat walk_at "s"
  refine ⟨hd, ?_⟩
  refine ⟨_, rfl, ite_f (by rw [h1]; rfl) ?_⟩
  repeat walk_at "s"
  exact k
theorem sd_require_marker {ds : List D} {post : Rs → Prop} (a : A_require_marker K ds post) : SD K (t_require_marker K) (initS n_require_marker ds) { nx := fun _ => post (.val .non), rt := fun r _ => post r } := by
  obtain ⟨d, rfl, hd, h1, k⟩ := a
  unfold t_require_marker
  show SD K _ [.sh d] _
  repeat walk_at "s"
  refine ⟨hd, ?_⟩
  refine ⟨_, rfl, ite_f (by rw [h1]; rfl) ?_⟩
  repeat walk_at "s"
  exact k
theorem items_get : ∀ (xs : List D) (n i : Nat) (d : D), itemsFrom n xs = true → xs[i]? = some d → (if (n + i) % 2 = 1 then isMarker d else isPiece d) = true
  | [], _, _, _, _, e => by simp at e
  | x :: xs, n, 0, d, h, e => by
    simp only [itemsFrom, Bool.and_eq_true] at h
    simp at e; subst e; exact h.1
  | x :: xs, n, i + 1, d, h, e => by
    simp only [itemsFrom, Bool.and_eq_true] at h
    have := items_get xs (n + 1) i d h.2 (by simpa using e)
    rw [show n + 1 + i = n + (i + 1) by omega] at this
    exact this
theorem sd_require_items {ds : List D} {post : Rs → Prop} (a : A_require_items K ds post) : SD K (t_require_items K) (initS n_require_items ds) { nx := fun _ => post (.val .non), rt := fun r _ => post r } := by
  obtain ⟨d, xs, rfl, hd, ok, h1, k⟩ := a
  have oks : OkDs K xs := by
    rcases hd with e | e
    · subst e; exact ok.lst.2
    · subst e; exact ok.tup.2
  unfold t_require_items
  show SD K _ [.sh d, .no, .no] _
  refine sd_for (js := [1] ++ ([2] ++ [])) (ei_enU ?_)
  repeat walk_at "s"
  refine ⟨xs, by rcases hd with e | e <;> simp [e], fun i δ' => ∃ x y, δ' = [.sh d, x, y], ⟨_, _, rfl⟩, ?_, fun _ _ => k⟩
  rintro i x δ' ex ⟨u, v, rfl⟩
  have hi : i < xs.length := by
    have := (List.getElem?_eq_some_iff.mp ex).1
    rw [enumD_len] at this; exact this
  have e1 : xs[i]? = some xs[i] := by simp [hi]
  rw [enumD_get e1] at ex; cases ex
  refine tg_tup rfl (tgs_cons (tg_name (tgs_cons (tg_name (tgs_nil ?_)))))
  have h2 := items_get xs 0 i _ h1 e1
  rw [Nat.zero_add] at h2
  have o1 := oks.get e1
  show SD K _ [.sh d, .sh (.int (i : Nat)), .sh xs[i]] _
  repeat walk_at "s"
  refine ite_b (fun h3 => ?_) (fun h3 => ?_)
  · simp only [decide_eq_true_eq] at h3
    rw [if_pos (by omega)] at h2
    refine sd_drop ?_
    repeat walk_at "s"
    exact ⟨o1, h2, _, _, rfl⟩
  · simp only [decide_eq_false_iff_not] at h3
    rw [if_neg (by omega)] at h2
    refine sd_drop ?_
    repeat walk_at "s"
    exact ⟨o1, h2, _, _, rfl⟩
theorem sd_require_row {ds : List D} {post : Rs → Prop} (a : A_require_row K ds post) : SD K (t_require_row K) (initS n_require_row ds) { nx := fun _ => post (.val .non), rt := fun r _ => post r } := by
  obtain ⟨d, rfl, hd, h1, k⟩ := a
  obtain ⟨xs, hd', h2, h3⟩ : ∃ xs : List D, (d = .lst xs ∨ d = .tup xs) ∧ xs.length % 2 = 1 ∧ itemsFrom 0 xs = true := by
    cases d with
    | lst xs => simp only [isRow, seqOf, Bool.and_eq_true, decide_eq_true_eq] at h1; exact ⟨xs, .inl rfl, h1⟩
    | tup xs => simp only [isRow, seqOf, Bool.and_eq_true, decide_eq_true_eq] at h1; exact ⟨xs, .inr rfl, h1⟩
    | _ => cases h1
  have hs : isSeq d = true := by rcases hd' with e | e <;> subst e <;> rfl
  unfold t_require_row
  show SD K _ [.sh d] _
  repeat walk_at "s"
  refine ⟨hd, ?_⟩
  refine ⟨_, rfl, ite_f (by rw [hs]; rfl) ?_⟩
  repeat walk_at "s"
  have hlen : ∀ Ψ : D → Prop, Ψ (.int xs.length) → RAD K (rLenU K) [d] Ψ := fun Ψ h => by
    rcases hd' with e | e
    · rw [e]; exact len_l h
    · rw [e]; exact len_t h
  refine hlen _ ?_
  repeat walk_at "s"
  refine ite_f (by simp; omega) ?_
  repeat walk_at "s"
  refine sd_drop ?_
  repeat walk_at "s"
  exact ⟨d, xs, rfl, hd', hd, h3, k⟩

theorem sd_law_cell {ds : List D} {post : Rs → Prop} (a : A_law_cell ds post) : SD K (t_law_cell K) (initS n_law_cell ds) { nx := fun _ => post (.val .non), rt := fun r _ => post r } := by
  obtain ⟨ns, k, rfl, h0, h1, hn, kk⟩ := a
  unfold t_law_cell
  show SD K _ [.sh (.scr ns), .sh (.int k)] _
  repeat walk_at "s"
  refine ite_b (fun h => ?_) (fun h => ?_)
  · simp only [decide_eq_true_eq] at h
    repeat walk_at "s"
    have hk : k.toNat < ns.length := by omega
    refine ix_scr (n := ns[k.toNat]) ?_ (kk _ (hn _ (List.getElem_mem hk)))
    unfold atI ixN
    rw [if_pos h0, if_pos h]
    simp [hk]
  · repeat walk_at "s"
    refine mul_ii (.inl ⟨by decide, by decide⟩) ?_
    repeat walk_at "s"
    exact kk _ (huge_small (by omega) (by omega))
theorem sd_law_box {ds : List D} {post : Rs → Prop} (a : A_law_box ds post) : SD K (t_law_box K) (initS n_law_box ds) { nx := fun _ => post (.val .non), rt := fun r _ => post r } := by
  obtain ⟨v, rfl, ⟨m, hv, hm⟩, kk⟩ := a
  unfold t_law_box
  show SD K _ [.sh (.int v)] _
  refine sd_retN (en_lst ?_)
  repeat walk_at "s"
  refine pow_ii ⟨by decide, by decide, by decide⟩ ?_
  repeat walk_at "s"
  have e18 : ((10 : Int) ^ (18 : Int).toNat) = 1000000000000000000 := by decide
  rw [e18]
  refine kk _ _ (m + 61) (by omega) ?_ (by omega) (by omega) (by omega)
  have e1 : (max 0 (v - 1000000000000000000)).natAbs ≤ v.natAbs + 1000000000000000000 := by omega
  have e2 : (1000000000000000000 : Nat) < 2 ^ 60 := by decide
  have e3 : 2 ^ (m + 61) = 2 ^ m * 2 ^ 61 := Nat.pow_add 2 m 61
  have e4 : (2 : Nat) ^ 61 = 2 ^ 60 + 2 ^ 60 := by decide
  have e5 : 0 < 2 ^ m := Nat.two_pow_pos m
  have e6 : 2 ^ m * 2 ^ 61 = 2 ^ m * 2 ^ 60 + 2 ^ m * 2 ^ 60 := by rw [e4, Nat.mul_add]
  have e7 : 2 ^ 60 ≤ 2 ^ m * 2 ^ 60 := Nat.le_mul_of_pos_left _ e5
  have e8 : 2 ^ m ≤ 2 ^ m * 2 ^ 60 := Nat.le_mul_of_pos_right _ (by decide)
  omega
theorem sd_law_take {b : Addr} {n : Nat} {ds : List D} {post : Rs → Nat → Prop} (a : A_law_take n ds post) : SD K (t_law_take K) (.bx b n :: initS (n_law_take.drop 1) ds) { nx := fun δ' => ∃ m, BoxS b m δ'[0]? ∧ post (.val .non) m, rt := fun r δ' => ∃ m, BoxS b m δ'[0]? ∧ post r m } := by
  obtain ⟨k, rfl, k0, k1, hn, kk⟩ := a
  unfold t_law_take
  show SD K _ [.bx b n, .sh (.int k), .no, .no] _
  refine sd_open (i := 0) rfl fun x y z m hx0 hx1 hm hy0 hy1 hz0 hz1 => ?_
  show SD K _ [.mo b (.lst [.int x, .int y, .int z]), .sh (.int k), .no, .no] _
  repeat walk_at "s"
  refine ite_b (fun h => ?_) (fun h => ?_)
  · simp only [decide_eq_true_eq] at h
    repeat walk_at "s"
    refine mod_ii k0 ?_
    repeat walk_at "s"
    refine sd_setM (i := 0) (a := b) ?_
    repeat walk_at "s"
    refine div_ii k0 k1 ?_
    repeat walk_at "s"
    refine ⟨n + 1, ⟨rfl, Int.ediv_nonneg hx0 (by omega), ⟨m, Nat.lt_of_le_of_lt ?_ hx1, hm⟩, hy0, hy1, hz0, by omega⟩, kk _ (Int.emod_nonneg _ (by omega)) (Int.emod_lt_of_pos _ k0)⟩
    have := Int.ediv_le_self k hx0
    have := Int.ediv_nonneg hx0 (show 0 ≤ k by omega)
    omega
  · repeat walk_at "s"
    refine sd_setM (i := 0) (a := b) ?_
    repeat walk_at "s"
    have hl : n + 1 ≤ 1099511627776 := hn
    have e64 : (2 : Nat) ^ 64 = 18446744073709551616 := by decide
    simp only [decide_eq_false_iff_not] at h
    refine mul_ii (.inl ⟨by decide, by decide⟩) ?_
    repeat walk_at "s"
    refine pow_ii ⟨by decide, by decide, by rw [e64]; omega⟩ ?_
    repeat walk_at "s"
    refine mul_ii (.inl ⟨by decide, by decide⟩) ?_
    repeat walk_at "s"
    refine pow_ii ⟨by decide, by decide, by rw [e64]; omega⟩ ?_
    repeat walk_at "s"
    refine div_ii (by decide) (by decide) ?_
    repeat walk_at "s"
    refine mod_ii k0 ?_
    refine ⟨n + 1, ⟨rfl, hx0, ⟨m, hx1, hm⟩, hy0, hy1, by omega, by omega⟩, kk _ (Int.emod_nonneg _ (by omega)) (Int.emod_lt_of_pos _ k0)⟩

theorem lenSeq {d : D} {xs : List D} {Ψ : D → Prop} (h : SeqD d xs) (k : Ψ (.int xs.length)) : RAD K (rLenU K) [d] Ψ := by
  rcases h with rfl | rfl
  · exact len_l k
  · exact len_t k
theorem ixSeq {d : D} {xs : List D} {i : Int} {x : D} {Ψ : D → Prop} (h : SeqD d xs) (e : atI xs i = some x) (k : Ψ x) : R2D K (rIxU K) d (.int i) Ψ := by
  rcases h with rfl | rfl
  · exact ix_l e k
  · exact ix_t e k
theorem ints_flat (gs : List Int) : (gs.map D.int).all D.isFlat = true := by rw [List.all_map]; exact List.all_eq_true.mpr fun _ _ => rfl
theorem inSeq {e : D} {i : Int} {gs : List Int} {Ψ : D → Prop} (h : SeqD e (gs.map .int)) (k : Ψ (.bl (decide (i ∈ gs)))) : R2D K (rInU K) (.int i) e Ψ := by
  rw [← inF_ints] at k
  rcases h with rfl | rfl
  · exact in_l rfl (ints_flat gs) k
  · exact in_t rfl (ints_flat gs) k
theorem atI_nat {α : Type} {xs : List α} {k : Nat} {x : α} (h : xs[k]? = some x) : atI xs (k : Int) = some x := by
  have hk : k < xs.length := (List.getElem?_eq_some_iff.mp h).1
  unfold atI ixN
  rw [if_pos (by omega), if_pos (by omega)]
  simpa using h
theorem ixN_last (n : Nat) : ixN (n + 1) (-1) = some n := by
  unfold ixN
  rw [if_neg (by decide), if_pos (by omega)]
  congr 1; omega
theorem atI_last {α : Type} (xs : List α) (x : α) : atI (xs ++ [x]) (-1) = some x := by
  unfold atI
  rw [List.length_append, List.length_singleton, ixN_last]
  simp
theorem set_last {α : Type} (xs : List α) (x y : α) : (xs ++ [x]).set xs.length y = xs ++ [y] := by
  rw [List.set_append_right _ _ (Nat.le_refl _)]; simp
/-- [f(x) for x in a list or a tuple] -/
theorem en_lcQ {δ : List Sl} {te : TE} {i j : Nat} {d : D} {ds : List D} {Θ : OD → List Sl → Prop} (f : D → D) (hi : δ[i]? = some (.sh d)) (hd : SeqD d ds) (no : noOwn δ [j] = true) (hl : ds.length < sizeLine)
    (h : ∀ (i : Nat) x, ds[i]? = some x → EvD K te ((wipeS δ [j]).set j (.sh x)) fun y δ3 => y = f x ∧ wipeS δ3 [j] = wipeS δ [j]) (k : Θ (.lst (ds.map f)) δ) : EvN K (tLc (iSeqU K (tVar i)) (gName j) tYes te [j]) δ Θ := by
  rcases hd with rfl | rfl
  · exact en_lcM (js := [j]) f (by simp) (ei_seqL (ev_var hi ⟨ds, rfl, noOwn_ok no, hl, fun i x ex => tg_name (h i x ex), k⟩))
  · exact en_lcM (js := [j]) f (by simp) (ei_seqT (ev_var hi ⟨ds, rfl, noOwn_ok no, hl, fun i x ex => tg_name (h i x ex), k⟩))
theorem sd_marker_numbers {ds : List D} {post : Rs → Prop} (a : A_marker_numbers K ds post) : SD K (t_marker_numbers K) (initS n_marker_numbers ds) { nx := fun _ => post (.val .non), rt := fun r _ => post r } := by
  obtain ⟨d, p, ms, rfl, hd, hl, k⟩ := a
  unfold t_marker_numbers
  show SD K _ [.sh d, .no, .no, .no, .no] _
  refine sd_numbers (ms := ms.map fun x => x.1) (by rw [List.length_map]; exact hl) (fun δ1 h => ?_) ?_
  · refine ei_enU (ea_cons (ev_un (ev_var h ?_)))
    have e1 : pickS (some 1) none (some 2) (rowL p ms) = (ms.map fun x => x.1).map mkD := by rw [pick_odds, odds_row, List.map_map]; rfl
    rcases hd with rfl | rfl
    · refine stepU_l (ea_nil ?_)
      rw [e1]
      exact ⟨_, .inl rfl, rfl, rfl⟩
    · refine stepU_t (ea_nil ?_)
      rw [e1]
      exact ⟨_, .inr rfl, rfl, rfl⟩
  · intro x1 x2 x3
    rw [List.map_map]
    exact k
theorem total_add : ∀ (kvs : List (Str × List Int)) (x : Str) (n : Int), ((addNum kvs x n).flatMap Prod.snd).length = (kvs.flatMap Prod.snd).length + 1
  | [], x, n => rfl
  | (y, ns) :: r, x, n => by
    unfold addNum
    split
    · simp [List.flatMap_cons]; omega
    · have := total_add r x n
      simp [List.flatMap_cons] at this ⊢; omega
theorem total_nums (xs : List Str) : ∀ (kvs : List (Str × List Int)) (i : Nat), ((numsFrom kvs i xs).flatMap Prod.snd).length = (kvs.flatMap Prod.snd).length + xs.length := by
  induction xs with
  | nil => intro kvs i; rfl
  | cons x xs ih =>
    intro kvs i
    show ((numsFrom (addNum kvs x (i : Nat)) (i + 1) xs).flatMap Prod.snd).length = _
    rw [ih, total_add, List.length_cons]; omega
theorem gone_le (l : List (Str × List Int)) : (l.flatMap fun kv => if kv.2.length = 1 then kv.2 else kv.2.drop 2).length ≤ (l.flatMap Prod.snd).length := by
  induction l with
  | nil => exact Nat.le_refl _
  | cons a l ih =>
    rw [List.flatMap_cons, List.flatMap_cons, List.length_append, List.length_append]
    have : (if a.2.length = 1 then a.2 else a.2.drop 2).length ≤ a.2.length := by
      split
      · exact Nat.le_refl _
      · simp
    omega
theorem sd_flipped_piece {ds : List D} {post : Rs → Prop} (a : A_flipped_piece K ds post) : SD K (t_flipped_piece K) (initS n_flipped_piece ds) { nx := fun _ => post (.val .non), rt := fun r _ => post r } := by
  obtain ⟨z, rfl, hz, hl, k⟩ := a
  have big3 : 2000000 ≤ sizeLine := by decide
  unfold t_flipped_piece
  show SD K _ [.sh (.str z)] _
  repeat walk_at "s"
  refine stepU_s (by omega) ?_
  rw [pickZ_rev]
  have hr : pieceS ⟨(sg z).reverse.toArray⟩ = true := by
    unfold pieceS at *
    rw [List.all_eq_true] at *
    intro c hc
    exact hz c (by simpa using hc)
  have hrl : (⟨(sg z).reverse.toArray⟩ : Str).length = z.length := by rw [← sg_len, ← sg_len z]; simp
  refine ⟨⟨_, rfl⟩, swap_s (a := ⟨(sg z).reverse.toArray⟩) (by rw [hrl]; omega) ?_⟩
  rw [swapcase_piece hr]
  have e : (⟨(⟨(sg z).reverse.toArray⟩ : Str).cps.map swapC⟩ : Str) = flS z := str_ext (by simp [flS])
  rw [e]; exact k
theorem sd_flipped_marker {ds : List D} {post : Rs → Prop} (a : A_flipped_marker K ds post) : SD K (t_flipped_marker K) (initS n_flipped_marker ds) { nx := fun _ => post (.val .non), rt := fun r _ => post r } := by
  obtain ⟨m, rfl, k⟩ := a
  unfold t_flipped_marker
  show SD K _ [.sh (mkD m)] _
  refine sd_ret (ev_tup (ea_cons (ev_op (ev_var (i := 0) rfl (ev_int (ix_t (d := .str m.1) rfl ?_))))))
  refine ea_cons (ev_not (ev_op (ev_var (i := 0) rfl (ev_int (ix_t (d := .bl m.2) rfl ?_)))))
  refine ⟨_, rfl, ea_nil ⟨Nat.le_of_ble_eq_true rfl, k⟩⟩
theorem sd_flipped_item {ds : List D} {post : Rs → Prop} (a : A_flipped_item K ds post) : SD K (t_flipped_item K) (initS n_flipped_item ds) { nx := fun _ => post (.val .non), rt := fun r _ => post r } := by
  obtain ⟨d, rfl, okd, h, k⟩ := a
  unfold t_flipped_item
  show SD K _ [.sh d] _
  rcases h with ⟨z, rfl, hz, hl⟩ | ⟨m, rfl⟩
  · repeat walk_at "s"
    exact ⟨hz, hl, k⟩
  · refine sd_ret (ev_if (et_B (ev_cb (ea_cons (ev_var (i := 0) rfl (ea_cons (ev_c (fun _ => rep_ty _) (ea_nil (isi_tuple okd ?_)))))))))
    refine ⟨_, rfl, ite_t rfl ?_⟩
    refine ev_call (ea_cons (ev_var (i := 0) rfl (ea_nil ⟨m, rfl, ?_⟩)))
    exact k
theorem sd_flipped_items {ds : List D} {post : Rs → Prop} (a : A_flipped_items K ds post) : SD K (t_flipped_items K) (initS n_flipped_items ds) { nx := fun _ => post (.val .non), rt := fun r _ => post r } := by
  obtain ⟨d, p, ms, rfl, hd, ok, hw, hl, k⟩ := a
  have big3 : 2000000 ≤ sizeLine := by decide
  have hrl := rowL_len p ms
  have oks : OkDs K (rowL p ms) := okDs_row ok (Nat.lt_of_le_of_lt hw (by decide))
  unfold t_flipped_items
  show SD K _ [.sh d, .no] _
  have body : ∀ (i : Nat) x, (rowL p ms).reverse[i]? = some x → EvD K (tCall (spG K (A_flipped_item K)) [] E0 (tCons (tVar 1) tNil)) [.sh d, .sh x] fun y δ3 => y = flI x ∧ wipeS δ3 [1] = wipeS [.sh d, .no] [1] := fun i x ex => by
    have hx : x ∈ rowL p ms := by have := List.mem_of_getElem? ex; simpa using this
    refine ev_call (ea_cons (ev_var (i := 1) rfl (ea_nil ⟨x, rfl, ?_, ?_, rfl, rfl⟩)))
    · obtain ⟨j, hj⟩ := List.mem_iff_getElem?.mp hx
      exact oks.get hj
    · unfold rowW at hw
      rcases mem_row hx with rfl | ⟨y, hy, rfl | rfl⟩
      · exact .inl ⟨_, rfl, ok.p0, by omega⟩
      · exact .inr ⟨_, rfl⟩
      · have := lets_mem hy
        exact .inl ⟨_, rfl, ok.pc y hy, by omega⟩
  have fin : post (.new (.lst ((rowL p ms).reverse.map flI))) := k
  rcases hd with rfl | rfl
  · refine sd_retN (en_lcL flI (ev_un (ev_var (i := 0) rfl (stepU_l ?_))))
    rw [pick_rev]
    exact ⟨_, rfl, rfl, by rw [List.length_reverse]; omega, body, fin⟩
  · refine sd_retN (en_lcM (js := [1]) flI (by simp) (ei_seqT (ev_un (ev_var (i := 0) rfl (stepU_t ?_)))))
    rw [pick_rev]
    exact ⟨_, rfl, noOwn_ok rfl, by rw [List.length_reverse]; omega, fun i x ex => tg_name (body i x ex), fin⟩
theorem mapIx_range (f : Nat → D → D) (g : Nat → D) (n : Nat) : mapIx f ((List.range n).map g) = (List.range n).map fun i => f i (g i) := by
  unfold mapIx
  apply List.ext_getElem?
  intro i
  rw [List.getElem?_map, List.getElem?_zipIdx, List.getElem?_map, List.getElem?_map]
  cases q : (List.range n)[i]? with
  | none => rfl
  | some k =>
    have : k = i := by
      have h := List.getElem?_eq_some_iff.mp q
      obtain ⟨h1, h2⟩ := h
      rw [List.getElem_range] at h2; exact h2.symm
    subst this
    simp
theorem sd_law_piece {b : Addr} {n : Nat} {ds : List D} {post : Rs → Nat → Prop} (a : A_law_piece n ds post) : SD K (t_law_piece K) (.bx b n :: initS (n_law_piece.drop 1) ds) { nx := fun δ' => ∃ m, BoxS b m δ'[0]? ∧ post (.val .non) m, rt := fun r δ' => ∃ m, BoxS b m δ'[0]? ∧ post r m } := by
  obtain ⟨rfl, hn, k⟩ := a
  have hl : n + 50 ≤ 1099511627776 := hn
  unfold t_law_piece
  show SD K _ [.bx b n, .no, .no, .no] _
  refine sd_seq (sd_asg ?_)
  repeat walk_at "e"
  -- behind the length
  have rest : ∀ (m : Nat) (long : Int), m ≤ n + 2 → 0 ≤ long → long ≤ 40 → SD K (tRet (tM1 (rJoin K) (tC (.str "")) (tLc (iRng1 (tCons (tVar 2) tNil)) (gName 3) tYes (tOp (rIxU K) (tVar 1) (tCall (spX K (A_law_take)) [] E0 (tCons (tVar 0) (tCons (tC (.int 52)) tNil)))) [3])))
      [.bx b m, .sh (.str "abcdefghijklmnopqrstuvwxyzABCDEFGHIJKLMNOPQRSTUVWXYZ"), .sh (.int long), .no] { nx := fun δ' => ∃ m, BoxS b m δ'[0]? ∧ post (.val .non) m, rt := fun r δ' => ∃ m, BoxS b m δ'[0]? ∧ post r m } := by
    intro m long hm l0 l1
    repeat walk_at "s"
    refine EvN.d (en_lcX (b0 := 0) (m0 := m) (cst := 1) (ba := b) (P := fun y => ∃ c : Nat, y = .str ⟨#[c]⟩ ∧ (isLow c || isUpp c) = true) (by decide) ?_)
    repeat walk_at "s"
    refine ⟨l0, by omega, rfl, rfl, fun i m2 hi hm2 => ?_, fun acc m2 hacc hP hm2 => ?_⟩
    · show EvD K _ [.bx b m2, .sh (.str "abcdefghijklmnopqrstuvwxyzABCDEFGHIJKLMNOPQRSTUVWXYZ"), .sh (.int long), .sh (.int (i : Nat))] _
      repeat walk_at "s"
      refine ⟨by decide, by decide, by show m2 + 1 ≤ 1099511627776; omega, fun r r0 r1 => ?_⟩
      obtain ⟨c, hc, hcm, _⟩ := atI_at (xs := sg "abcdefghijklmnopqrstuvwxyzABCDEFGHIJKLMNOPQRSTUVWXYZ") (i := r) r0 (by rw [show (sg "abcdefghijklmnopqrstuvwxyzABCDEFGHIJKLMNOPQRSTUVWXYZ").length = 52 by decide +kernel]; exact r1)
      refine ix_s (Nat.le_of_ble_eq_true rfl) hc ?_
      have : ∀ c ∈ sg "abcdefghijklmnopqrstuvwxyzABCDEFGHIJKLMNOPQRSTUVWXYZ", (isLow c || isUpp c) = true := by decide +kernel
      exact ⟨⟨c, rfl, this c hcm⟩, m2 + 1, by omega, rfl⟩
    · obtain ⟨cs, rfl, hcs⟩ := signs_of hP
      rw [List.length_map] at hacc
      refine join_signs (by omega) ?_
      refine ⟨n + 50, ⟨rfl, by omega⟩, k _ ?_ ?_⟩
      · rw [← sg_len]; show cs.toArray.toList.length ≤ 40; simp; omega
      · unfold pieceS; rw [List.all_eq_true]; intro c hc; exact hcs c (by simpa using hc)
  refine sd_seq (sd_asg ?_)
  repeat walk_at "e"
  refine ⟨by decide, by decide, by show n + 1 ≤ 1099511627776; omega, fun r r0 r1 => ?_⟩
  repeat walk_at "e"
  refine ite_b (fun w => ?_) (fun w => ?_)
  · repeat walk_at "e"
    refine ⟨by decide, by decide, by show n + 1 + 1 ≤ 1099511627776; omega, fun r2 r3 r4 => ?_⟩
    obtain ⟨x, hx, hm, _⟩ := atI_at (xs := [D.int 0, .int 1, .int 2, .int 6, .int 40]) r3 r4
    refine ix_l hx ?_
    obtain ⟨q, rfl, q0, q1⟩ : ∃ q : Int, x = .int q ∧ 0 ≤ q ∧ q ≤ 40 := by
      simp only [List.mem_cons, List.not_mem_nil, or_false] at hm
      rcases hm with rfl | rfl | rfl | rfl | rfl <;> exact ⟨_, rfl, by decide, by decide⟩
    exact rest (n + 2) q (by omega) q0 q1
  · repeat walk_at "e"
    refine ⟨by decide, by decide, by show n + 1 + 1 ≤ 1099511627776; omega, fun r2 r3 r4 => ?_⟩
    exact rest (n + 2) r2 (by omega) r3 (by omega)
theorem sd_law_names {b : Addr} {n : Nat} {ds : List D} {post : Rs → Nat → Prop} (a : A_law_namesZ n ds post) : SD K (t_law_names K) (.bx b n :: initS (n_law_names.drop 1) ds) { nx := fun δ' => ∃ m, BoxS b m δ'[0]? ∧ post (.val .non) m, rt := fun r δ' => ∃ m, BoxS b m δ'[0]? ∧ post r m } := by
  obtain ⟨many, rfl, m1, m2, hn, k⟩ := a
  have hl : n + 10 ≤ 1099511627776 := hn
  have fin : ∀ g : Nat → Str, (∀ i, i < many.toNat → nameS (g i) = true) → (∀ i j, i < many.toNat → j < many.toNat → g i = g j → i = j) → (∀ i0 i1 i2 i3, i0 < many.toNat → i1 < many.toNat → sg (g i0) = [122] → sg (g i1) = [122, 122] → sg (g i2) = [122, 122, 122, 122] → sg (g i3) = [113, 113, 113, 113] → False) → post (.new (.lst ((List.range many.toNat).map fun i => .str (g i)))) (n + 10) := fun g h1 h2 h4 => by
    have := k ((List.range many.toNat).map g) (by rw [List.length_map, List.length_range]; omega) (fun y hy => by
      obtain ⟨i, hi, rfl⟩ := List.mem_map.mp hy
      exact h1 i (by simpa using hi)) (nodup_rangeMap h2) (fun ⟨z0, z1, z2, z3⟩ => by
      obtain ⟨i0, m0, e0⟩ := List.mem_map.mp z0
      obtain ⟨i1, m1, e1⟩ := List.mem_map.mp z1
      obtain ⟨i2, _, e2⟩ := List.mem_map.mp z2
      obtain ⟨i3, _, e3⟩ := List.mem_map.mp z3
      exact h4 i0 i1 i2 i3 (by simpa using m0) (by simpa using m1) (by rw [e0]; rfl) (by rw [e1]; rfl) (by rw [e2]; rfl) (by rw [e3]; rfl))
    rw [List.map_map] at this
    exact this
  unfold t_law_names
  show SD K _ [.bx b n, .sh (.int many), .no, .no, .no, .no, .no, .no, .no, .no, .no, .no, .no] _
  refine sd_seq (sd_asg ?_)
  repeat walk_at "e"
  refine sd_seq (sd_asgT (js := [3] ++ ([4] ++ ([5] ++ []))) ?_)
  repeat walk_at "e"
  refine ⟨by decide, by decide, by show n + 1 ≤ 1099511627776; omega, fun first f0 f1 => ?_⟩
  repeat walk_at "e"
  refine ⟨by decide, by decide, by show n + 1 + 1 ≤ 1099511627776; omega, fun si s0 s1 => ?_⟩
  obtain ⟨x, hx, hm, _⟩ := atI_at (xs := [D.int 1, .int 3, .int 5, .int 7, .int 9, .int 11]) s0 s1
  refine ix_l hx ?_
  obtain ⟨step, rfl, hstep⟩ : ∃ step : Int, x = .int step ∧ (step = 1 ∨ step = 3 ∨ step = 5 ∨ step = 7 ∨ step = 9 ∨ step = 11) := by
    simp only [List.mem_cons, List.not_mem_nil, or_false] at hm
    rcases hm with rfl | rfl | rfl | rfl | rfl | rfl <;> exact ⟨_, rfl, by decide⟩
  repeat walk_at "e"
  refine ⟨by decide, by decide, by show n + 1 + 1 + 1 ≤ 1099511627776; omega, fun way w0 w1 => ?_⟩
  repeat walk_at "e"
  refine tg_tup rfl (tgs_cons (tg_name (tgs_cons (tg_name (tgs_cons (tg_name (tgs_nil ?_)))))))
  show SD K _ [.bx b (n + 3), .sh (.int many), .sh (.str "abcdefghijklmnopqrstuvwxyz"), .sh (.int first), .sh (.int step), .sh (.int way), .no, .no, .no, .no, .no, .no, .no] _
  have hst : 0 < step ∧ step < 12 := by omega
  refine sd_seq (sd_asgN (en_lcR (fun i => .str ⟨#[ltr (first + step * (i : Nat))]⟩) ?_))
  repeat walk_at "e"
  refine ⟨by omega, by omega, rfl, fun i hi => ?_, ?_⟩
  · show EvD K _ [.bx b (n + 3), .sh (.int many), .sh (.str "abcdefghijklmnopqrstuvwxyz"), .sh (.int first), .sh (.int step), .sh (.int way), .no, .no, .no, .no, .no, .no, .sh (.int (i : Nat))] _
    repeat walk_at "e"
    refine mul_ii (.inl ⟨by omega, by omega⟩) ?_
    repeat walk_at "e"
    refine ix_s (Nat.le_of_ble_eq_true rfl) (low_at (Int.emod_nonneg _ (by decide)) (Int.emod_lt_of_pos _ (by decide))) ?_
    exact ⟨rfl, rfl⟩
  generalize hS : ((List.range many.toNat).map fun i => D.str ⟨#[ltr (first + step * (i : Nat))]⟩) = singles
  show SD K _ [.bx b (n + 3), .sh (.int many), .sh (.str "abcdefghijklmnopqrstuvwxyz"), .sh (.int first), .sh (.int step), .sh (.int way), .ow (.lst singles), .no, .no, .no, .no, .no, .no] _
  refine sd_seq (sd_asg ?_)
  repeat walk_at "e"
  refine EvN.d (en_lcX (b0 := 0) (m0 := n + 3) (cst := 1) (ba := b) (P := fun y => ∃ c : Nat, y = .str ⟨#[c]⟩ ∧ isLow c = true) (by decide) ?_)
  repeat walk_at "e"
  refine ⟨by decide, by decide, rfl, rfl, fun i m2 hi hm2 => ?_, fun acc m hacc hP hm3 => ?_⟩
  · show EvD K _ [.bx b m2, .sh (.int many), .sh (.str "abcdefghijklmnopqrstuvwxyz"), .sh (.int first), .sh (.int step), .sh (.int way), .ow (.lst singles), .no, .no, .no, .no, .no, .sh (.int (i : Nat))] _
    repeat walk_at "e"
    refine ⟨by decide, by decide, by show m2 + 1 ≤ 1099511627776; omega, fun r r0 r1 => ?_⟩
    refine ix_s (Nat.le_of_ble_eq_true rfl) (low_at r0 r1) ?_
    exact ⟨⟨_, rfl, low_is (by omega)⟩, m2 + 1, by omega, rfl⟩
  obtain ⟨cs, rfl, hcs⟩ := signs_of hP
  rw [List.length_map] at hacc
  have hacc : cs.length = 3 := hacc
  have hm4 : m ≤ n + 6 := by
    have : (3 : Int).toNat * 1 = 3 := rfl
    omega
  refine join_signs (by omega) ?_
  generalize hstem : (⟨cs.toArray⟩ : Str) = stem
  have sgs : sg stem = cs := by rw [← hstem]
  have ls : stem.length = 3 := by rw [← sg_len, sgs]; exact hacc
  have lsz : stem.length ≤ sizeLine := by rw [ls]; decide
  show SD K _ [.bx b m, .sh (.int many), .sh (.str "abcdefghijklmnopqrstuvwxyz"), .sh (.int first), .sh (.int step), .sh (.int way), .ow (.lst singles), .sh (.str stem), .no, .no, .no, .no, .no] _
  have hsl : singles.length < sizeLine := by rw [← hS, List.length_map, List.length_range]; exact Nat.lt_of_lt_of_le (show many.toNat < 100 by omega) (by decide)
  have hsx : ∀ (i : Nat) x, singles[i]? = some x → i < many.toNat ∧ x = .str ⟨#[ltr (first + step * (i : Nat))]⟩ := fun i x ex => by
    rw [← hS, List.getElem?_map] at ex
    by_cases hi : i < many.toNat
    · rw [List.getElem?_range hi] at ex
      exact ⟨hi, (Option.some.inj ex).symm⟩
    · rw [List.getElem?_eq_none (by simpa using hi)] at ex; cases ex
  have inj : ∀ i j : Nat, i < many.toNat → j < many.toNat → ltr (first + step * (i : Nat)) = ltr (first + step * (j : Nat)) → i = j := fun i j hi hj e => ltr_inj hstep (by omega) (by omega) e
  have big100 : 100 ≤ sizeLine := by decide
  refine sd_seq (sd_if ?_)
  repeat walk_at "e"
  refine ite_b (fun v3 => ?_) (fun v3 => ?_)
  · -- a letter within the stem
    refine sd_seq (sd_asg ?_)
    repeat walk_at "e"
    refine ⟨by decide, by decide, by show m + 1 ≤ 1099511627776; omega, fun at_ t0 t1 => ?_⟩
    refine sd_retN (en_lcL (fun x => match x with | .str z => .str (cutS stem none (some at_) ++ z ++ cutS stem (some at_) none) | _ => .non) ?_)
    repeat walk_at "v"
    refine ⟨singles, rfl, rfl, hsl, fun i x ex => ?_, ?_⟩
    · obtain ⟨hi, rfl⟩ := hsx i x ex
      show EvD K _ [.bx b (m + 1), .sh (.int many), .sh (.str "abcdefghijklmnopqrstuvwxyz"), .sh (.int first), .sh (.int step), .sh (.int way), .sh (.lst singles), .sh (.str stem), .sh (.int at_), .sh (.str ⟨#[ltr (first + step * (i : Nat))]⟩), .no, .no, .no] _
      have c1 := cut_len stem none (some at_)
      have c2 := cut_len stem (some at_) none
      have e1 : (⟨#[ltr (first + step * (i : Nat))]⟩ : Str).length = 1 := rfl
      repeat walk_at "e"
      refine sl_s lsz ?_
      repeat walk_at "e"
      refine add_ss (by omega) ?_
      repeat walk_at "e"
      refine sl_s lsz ?_
      refine add_ss (by rw [len_app]; omega) ?_
      exact ⟨rfl, rfl⟩
    · refine ⟨n + 10, ⟨rfl, by omega⟩, ?_⟩
      rw [← hS, List.map_map]
      have hat : at_ = ((at_.toNat : Nat) : Int) := by omega
      have sgg : ∀ i : Nat, sg (cutS stem none (some at_) ++ ⟨#[ltr (first + step * (i : Nat))]⟩ ++ cutS stem (some at_) none) = cs.take at_.toNat ++ [ltr (first + step * (i : Nat))] ++ cs.drop at_.toNat := fun i => by
        have e1 : sg (cutS stem none (some at_)) = cs.take at_.toNat := by
          conv => lhs; rw [hat]
          rw [sg_to, sgs]
        have e2 : sg (cutS stem (some at_) none) = cs.drop at_.toNat := by
          conv => lhs; rw [hat]
          rw [sg_from, sgs]
        rw [sg_append, sg_append, e1, e2]
      refine fin (fun i => cutS stem none (some at_) ++ ⟨#[ltr (first + step * (i : Nat))]⟩ ++ cutS stem (some at_) none) (fun i hi => ?_) (fun i j hi hj e => ?_) (fun i0 i1 i2 i3 l0 l1 h0 h1 h2 h3 => ?_)
      · refine nameS_of ?_ ?_ ?_
        · rw [sgg]; simp; omega
        · rw [sgg]; simp; omega
        · rw [sgg]
          intro c hc
          simp only [List.mem_append, List.mem_singleton] at hc
          rcases hc with (h | h) | h
          · exact hcs c (List.mem_of_mem_take h)
          · rw [h]; exact ltr_low _
          · exact hcs c (List.mem_of_mem_drop h)
      · have := congrArg sg e
        rw [sgg, sgg] at this
        have h1 := List.append_cancel_right this
        have h2 := List.append_cancel_left h1
        simp at h2
        exact inj i j hi hj h2
      · rw [sgg] at h2 h3
        obtain ⟨c, hc⟩ : ∃ c, c ∈ cs := List.exists_mem_of_length_pos (by omega)
        have hm : ∀ l : Nat, c ∈ cs.take at_.toNat ++ [l] ++ cs.drop at_.toNat := fun l => by
          rw [← List.take_append_drop at_.toNat cs] at hc
          rcases List.mem_append.mp hc with q | q
          · exact List.mem_append_left _ (List.mem_append_left _ q)
          · exact List.mem_append_right _ q
        have m2 := hm (ltr (first + step * (i2 : Nat)))
        have m3 := hm (ltr (first + step * (i3 : Nat)))
        rw [h2] at m2
        rw [h3] at m3
        simp at m2 m3
        omega
  · refine sd_next ?_
    have rest : ∀ x9 x10 x11, x9.own = false → SD K (tSeq (tIfS (tTest (tOp (rEqU K) (tVar 5) (tC (.int 0)))) (tRet (tVar 6)) tNext)
  (tSeq (tIfS (tTest (tOp (rEqU K) (tVar 5) (tC (.int 1)))) (tRet (tLc (iEnU K (tCons (tVar 6) tNil)) (gTup K 2 (gCons (gName 12) (gCons (gName 9) gNil))) tYes (tOp (rAddU K) (tSl (rSlU K) (tVar 7) tNoPart (tPart (tOp (rAddU K) (tC (.int 1)) (tOp rModU (tVar 12) (tC (.int 3)))))) (tVar 9)) [12, 9])) tNext)
  (tRet (tLc (iEnU K (tCons (tVar 6) tNil)) (gTup K 2 (gCons (gName 12) (gCons (gName 9) gNil))) tYes (tOp rMulU (tVar 9) (tOp (rAddU K) (tC (.int 1)) (tOp rModU (tVar 12) (tC (.int 4))))) [12, 9]))))
      [.bx b m, .sh (.int many), .sh (.str "abcdefghijklmnopqrstuvwxyz"), .sh (.int first), .sh (.int step), .sh (.int way), .ow (.lst singles), .sh (.str stem), .no, x9, x10, x11, .no] { nx := fun δ' => ∃ m, BoxS b m δ'[0]? ∧ post (.val .non) m, rt := fun r δ' => ∃ m, BoxS b m δ'[0]? ∧ post r m } := by
      intro x9 x10 x11 n9
      have no9 : ∀ δ : List Sl, δ = [.bx b m, .sh (.int many), .sh (.str "abcdefghijklmnopqrstuvwxyz"), .sh (.int first), .sh (.int step), .sh (.int way), .sh (.lst singles), .sh (.str stem), .no, x9, x10, x11, .no] → noOwn δ [12, 9] = true := fun δ e => by
        subst e
        show (!Sl.own .no && (!Sl.own x9 && true)) = true
        rw [n9]; rfl
      refine sd_seq (sd_if ?_)
      repeat walk_at "e"
      refine ite_b (fun v0 => ?_) (fun v0 => ?_)
      · refine sd_retO (i := 6) rfl ?_
        refine ⟨n + 10, ⟨rfl, by omega⟩, ?_⟩
        rw [← hS]
        refine fin (fun i => ⟨#[ltr (first + step * (i : Nat))]⟩) (fun i hi => ?_) (fun i j hi hj e => ?_) (fun i0 i1 i2 i3 l0 l1 h0 h1 h2 h3 => ?_)
        · refine nameS_of (Nat.le_refl _) (by simp [sg]) fun c hc => ?_
          have : c = ltr (first + step * (i : Nat)) := by simpa [sg] using hc
          rw [this]; exact ltr_low _
        · have := congrArg sg e
          simp [sg] at this
          exact inj i j hi hj this
        · have := congrArg List.length h1
          simp [sg] at this
      refine sd_next ?_
      refine sd_seq (sd_if ?_)
      repeat walk_at "e"
      refine ite_b (fun v1 => ?_) (fun v1 => ?_)
      · refine sd_retN (en_lcE (fun i x => match x with | .str z => .str (cutS stem none (some (((1 + i % 3 : Nat)) : Int)) ++ z) | _ => .non) ?_)
        repeat walk_at "v"
        repeat walk_at "e"
        refine ⟨singles, .inl rfl, no9 _ rfl, hsl, fun i x ex => ?_, ?_⟩
        · obtain ⟨hi, rfl⟩ := hsx i x ex
          show EvD K _ [.bx b m, .sh (.int many), .sh (.str "abcdefghijklmnopqrstuvwxyz"), .sh (.int first), .sh (.int step), .sh (.int way), .sh (.lst singles), .sh (.str stem), .no, .sh (.str ⟨#[ltr (first + step * (i : Nat))]⟩), x10, x11, .sh (.int (i : Nat))] _
          have e1 : (⟨#[ltr (first + step * (i : Nat))]⟩ : Str).length = 1 := rfl
          repeat walk_at "e"
          rw [show (1 + ((i : Nat) : Int) % 3) = ((1 + i % 3 : Nat) : Int) by omega]
          have c1 := cut_len stem none (some ((1 + i % 3 : Nat) : Int))
          refine sl_s lsz ?_
          repeat walk_at "e"
          refine add_ss (by omega) ?_
          exact ⟨rfl, rfl⟩
        · refine ⟨n + 10, ⟨rfl, by omega⟩, ?_⟩
          have er : mapIx (fun i x => match x with | .str z => .str (cutS stem none (some (((1 + i % 3 : Nat)) : Int)) ++ z) | _ => .non) singles = (List.range many.toNat).map fun i => .str (cutS stem none (some (((1 + i % 3 : Nat)) : Int)) ++ ⟨#[ltr (first + step * (i : Nat))]⟩) := by
            rw [← hS]
            exact mapIx_range _ _ _
          rw [er]
          have sgg : ∀ i : Nat, sg (cutS stem none (some (((1 + i % 3 : Nat)) : Int)) ++ ⟨#[ltr (first + step * (i : Nat))]⟩) = cs.take (1 + i % 3) ++ [ltr (first + step * (i : Nat))] := fun i => by
            rw [sg_append, sg_to, sgs]
          refine fin (fun i => cutS stem none (some (((1 + i % 3 : Nat)) : Int)) ++ ⟨#[ltr (first + step * (i : Nat))]⟩) (fun i hi => ?_) (fun i j hi hj e => ?_) (fun i0 i1 i2 i3 l0 l1 h0 h1 h2 h3 => ?_)
          · refine nameS_of ?_ ?_ ?_
            · rw [sgg]; simp
            · rw [sgg]; simp; omega
            · rw [sgg]
              intro c hc
              simp only [List.mem_append, List.mem_singleton] at hc
              rcases hc with h | h
              · exact hcs c (List.mem_of_mem_take h)
              · rw [h]; exact ltr_low _
          · have := congrArg sg e
            rw [sgg, sgg] at this
            have h1 := congrArg List.getLast? this
            simp at h1
            exact inj i j hi hj h1
          · rw [sgg] at h2 h3
            obtain ⟨c, cs', rfl⟩ : ∃ c cs', cs = c :: cs' := by
              cases cs with
              | nil => simp at hacc
              | cons c l => exact ⟨c, l, rfl⟩
            rw [show 1 + i2 % 3 = i2 % 3 + 1 by omega, List.take_succ_cons, List.cons_append] at h2
            rw [show 1 + i3 % 3 = i3 % 3 + 1 by omega, List.take_succ_cons, List.cons_append] at h3
            have c2 := (List.cons.inj h2).1
            have c3 := (List.cons.inj h3).1
            omega
      refine sd_next ?_
      refine sd_retN (en_lcE (fun i x => match x with | .str z => .str (Txt.mul z ((1 + i % 4 : Nat) : Int)) | _ => .non) ?_)
      repeat walk_at "v"
      repeat walk_at "e"
      refine ⟨singles, .inl rfl, no9 _ rfl, hsl, fun i x ex => ?_, ?_⟩
      · obtain ⟨hi, rfl⟩ := hsx i x ex
        show EvD K _ [.bx b m, .sh (.int many), .sh (.str "abcdefghijklmnopqrstuvwxyz"), .sh (.int first), .sh (.int step), .sh (.int way), .sh (.lst singles), .sh (.str stem), .no, .sh (.str ⟨#[ltr (first + step * (i : Nat))]⟩), x10, x11, .sh (.int (i : Nat))] _
        repeat walk_at "e"
        rw [show (1 + ((i : Nat) : Int) % 4) = ((1 + i % 4 : Nat) : Int) by omega]
        refine mul_si (mulOk_of (by omega) (by omega) ?_) ?_
        · have e1 : (⟨#[ltr (first + step * (i : Nat))]⟩ : Str).length = 1 := rfl
          rw [e1]; omega
        · exact ⟨rfl, rfl⟩
      · refine ⟨n + 10, ⟨rfl, by omega⟩, ?_⟩
        have er : mapIx (fun i x => match x with | .str z => .str (Txt.mul z ((1 + i % 4 : Nat) : Int)) | _ => .non) singles = (List.range many.toNat).map fun i => .str (Txt.mul ⟨#[ltr (first + step * (i : Nat))]⟩ ((1 + i % 4 : Nat) : Int)) := by
          rw [← hS]
          exact mapIx_range _ _ _
        rw [er]
        have sgg : ∀ i : Nat, sg (Txt.mul ⟨#[ltr (first + step * (i : Nat))]⟩ ((1 + i % 4 : Nat) : Int)) = ltr (first + step * (i : Nat)) :: List.replicate (i % 4) (ltr (first + step * (i : Nat))) := fun i => by
          rw [sg_mul, Int.toNat_natCast, Nat.add_comm, List.replicate_succ, List.flatten_cons]
          have : ∀ k : Nat, (List.replicate k (sg ⟨#[ltr (first + step * (i : Nat))]⟩)).flatten = List.replicate k (ltr (first + step * (i : Nat))) := fun k => by
            induction k with
            | zero => rfl
            | succ k ih => rw [List.replicate_succ, List.flatten_cons, ih, List.replicate_succ]; rfl
          rw [this]; rfl
        refine fin (fun i => Txt.mul ⟨#[ltr (first + step * (i : Nat))]⟩ ((1 + i % 4 : Nat) : Int)) (fun i hi => ?_) (fun i j hi hj e => ?_) (fun i0 i1 i2 i3 l0 l1 h0 h1 h2 h3 => ?_)
        · refine nameS_of ?_ ?_ ?_
          · rw [sgg]; simp
          · rw [sgg]; simp; omega
          · rw [sgg]
            intro c hc
            rcases List.mem_cons.mp hc with h | h
            · rw [h]; exact ltr_low _
            · rw [(List.mem_replicate.mp h).2]; exact ltr_low _
        · have := congrArg sg e
          rw [sgg, sgg] at this
          exact inj i j hi hj (List.cons.inj this).1
        · have h0' := h0
          rw [sgg] at h0 h1
          have e := inj i0 i1 l0 l1 ((List.cons.inj h0).1.trans (List.cons.inj h1).1.symm)
          subst e
          rw [← sgg] at h1
          rw [h1] at h0'
          simp at h0'
    refine sd_seq (sd_if ?_)
    repeat walk_at "e"
    refine ite_b (fun v4 => ?_) (fun v4 => ?_)
    · repeat walk_at "e"
      refine ite_b (fun v5 => ?_) (fun v5 => ?_)
      · simp only [decide_eq_true_eq] at v5
        refine sd_seq (sd_par ?_)
        repeat walk_at "e"
        refine ix_s (Nat.le_of_ble_eq_true rfl) (low_at f0 f1) ?_
        repeat walk_at "e"
        refine ix_s (Nat.le_of_ble_eq_true rfl) (low_at (Int.emod_nonneg _ (by decide)) (Int.emod_lt_of_pos _ (by decide))) ?_
        repeat walk_at "e"
        have hx : isLow (97 + first.toNat) = true := low_is (by omega)
        have hy : isLow (97 + ((first + 7) % 26).toNat) = true := low_is (by omega)
        have hxy : 97 + first.toNat ≠ 97 + ((first + 7) % 26).toNat := by omega
        generalize 97 + first.toNat = x at hx hxy
        generalize 97 + ((first + 7) % 26).toNat = y at hy hxy
        show SD K _ [.bx b m, .sh (.int many), .sh (.str "abcdefghijklmnopqrstuvwxyz"), .sh (.int first), .sh (.int step), .sh (.int way), .ow (.lst singles), .sh (.str stem), .no, .sh (.str ⟨#[x]⟩), .sh (.str ⟨#[y]⟩), .no, .no] _
        have l1 : ∀ c : Nat, (⟨#[c]⟩ : Str).length = 1 := fun _ => rfl
        refine sd_seq (sd_asg (EvD.to (v := .lst [.str ⟨#[x]⟩, .str ⟨#[y]⟩, .str ⟨#[x, y]⟩, .str ⟨#[y, x]⟩, .str ⟨#[x, x]⟩, .str ⟨#[y, y]⟩, .str ⟨#[x, y, x]⟩, .str ⟨#[y, x, y]⟩]) ?_ ?_))
        · repeat (first | walk_at "e" | (refine add_ss (show 1 + 1 ≤ sizeLine by decide) ?_) | (refine add_ss (show 2 + 1 ≤ sizeLine by decide) ?_))
          first | exact ⟨rfl, rfl⟩ | exact rfl
        refine sd_seq (sd_asg (EvD.to (v := .lst ((glued x y).map fun l => .str ⟨l.toArray⟩)) ?_ ?_))
        · repeat (first | walk_at "e" | (refine add_ss (show 1 + 1 ≤ sizeLine by decide) ?_) | (refine add_ss (show 2 + 1 ≤ sizeLine by decide) ?_) | (refine add_ss (show 3 + 1 ≤ sizeLine by decide) ?_) | (refine add_ll (show 8 + 4 ≤ sizeLine by decide) ?_))
          first | exact ⟨rfl, rfl⟩ | exact rfl
        have hg : ∀ i : Nat, ∃ l, (glued x y)[((first + 5 * (i : Nat)) % 12).toNat]? = some l ∧ l ∈ glued x y := fun i => by
          have : ((first + 5 * (i : Nat)) % 12).toNat < (glued x y).length := by
            show ((first + 5 * (i : Nat)) % 12).toNat < 12
            omega
          exact ⟨_, List.getElem?_eq_getElem this, List.getElem_mem this⟩
        refine sd_retN (en_lcR (fun i => .str ⟨((glued x y).getD ((first + 5 * (i : Nat)) % 12).toNat []).toArray⟩) ?_)
        repeat walk_at "e"
        refine ⟨by omega, by omega, rfl, fun i hi => ?_, ?_⟩
        · show EvD K _ [.bx b m, .sh (.int many), .sh (.str "abcdefghijklmnopqrstuvwxyz"), .sh (.int first), .sh (.int step), .sh (.int way), .ow (.lst singles), .sh (.str stem), .no, .sh (.str ⟨#[x]⟩), .sh (.str ⟨#[y]⟩), .sh (.lst ((glued x y).map fun l => .str ⟨l.toArray⟩)), .sh (.int (i : Nat))] _
          repeat walk_at "e"
          refine mul_ii (.inl ⟨by decide, by decide⟩) ?_
          repeat walk_at "e"
          obtain ⟨l, hl1, hl2⟩ := hg i
          refine ix_l (d := .str ⟨l.toArray⟩) ?_ ?_
          · rw [show (first + 5 * ((i : Nat) : Int)) % 12 = ((((first + 5 * (i : Nat)) % 12).toNat : Nat) : Int) by omega]
            refine atI_nat ?_
            rw [List.getElem?_map, hl1]; rfl
          · refine ⟨?_, rfl⟩
            rw [List.getD_eq_getElem?_getD, hl1]; rfl
        · refine ⟨n + 10, ⟨rfl, by omega⟩, ?_⟩
          refine fin (fun i => ⟨((glued x y).getD ((first + 5 * (i : Nat)) % 12).toNat []).toArray⟩) (fun i hi => ?_) (fun i j hi hj e => ?_) (fun i0 i1 i2 i3 l0 l1 h0 h1 h2 h3 => ?_)
          · obtain ⟨l, hl1, hl2⟩ := hg i
            obtain ⟨q1, q2, q3⟩ := glued_name hx hy l hl2
            rw [List.getD_eq_getElem?_getD, hl1]
            exact nameS_of q1 q2 q3
          · have h1 := congrArg sg e
            have h2 : (glued x y).getD ((first + 5 * (i : Nat)) % 12).toNat [] = (glued x y).getD ((first + 5 * (j : Nat)) % 12).toNat [] := by simpa [sg] using h1
            have hi2 : ((first + 5 * (i : Nat)) % 12).toNat < (glued x y).length := by
              show ((first + 5 * (i : Nat)) % 12).toNat < 12
              omega
            have hj2 : ((first + 5 * (j : Nat)) % 12).toNat < (glued x y).length := by
              show ((first + 5 * (j : Nat)) % 12).toNat < 12
              omega
            have h3 := (List.getD_inj hi2 hj2 (glued_nodup hxy)).mp h2
            omega
          · obtain ⟨l, hl1, hl2⟩ := hg i2
            rw [List.getD_eq_getElem?_getD, hl1] at h2
            have h2 : l = [122, 122, 122, 122] := by simpa [sg] using h2
            subst h2
            unfold glued at hl2
            simp at hl2
            omega
      · exact sd_next (rest _ _ _ rfl)
    · exact sd_next (rest _ _ _ rfl)

def nmO : D → Option Str
  | .tup [.str z, _] => some z
  | _ => none
/-- a row that is a strip's, by its items -/
structure RowY (xs : List D) : Prop where
  odd : xs.length % 2 = 1
  it : itemsFrom 0 xs = true
  two : ∀ z ∈ xs.filterMap nmO, (xs.filterMap nmO).count z = 2
  len : xs.length ≤ 51
theorem row_nm : ∀ (ms : List It2) (p : Str), (rowL p ms).filterMap nmO = namesOf ms
  | [], p => rfl
  | x :: r, p => by
    show (D.str p :: mkD x.1 :: rowL x.2 r).filterMap nmO = _
    rw [List.filterMap_cons_none rfl, List.filterMap_cons_some (f := nmO) (a := mkD x.1) (b := x.1.1) rfl, row_nm r x.2]
    rfl
theorem row_of : ∀ (n : Nat) (xs : List D), xs.length ≤ n → xs.length % 2 = 1 → itemsFrom 0 xs = true → ∃ q ns, xs = rowL q ns ∧ RowOk q ns
  | _, [], _, h, _ => by simp at h
  | _, [x], _, _, h => by
    unfold itemsFrom at h
    rw [if_neg (by decide), Bool.and_eq_true] at h
    obtain ⟨z, rfl, hz⟩ := piece_inv h.1
    exact ⟨z, [], rfl, hz, by simp, by simp⟩
  | 0, x :: y :: r, h, _, _ => by simp at h
  | 1, x :: y :: r, h, _, _ => by simp at h
  | n + 2, x :: y :: r, hl, ho, h => by
    unfold itemsFrom at h
    rw [if_neg (by decide), Bool.and_eq_true] at h
    obtain ⟨h1, h2⟩ := h
    unfold itemsFrom at h2
    rw [if_pos (by decide), Bool.and_eq_true] at h2
    obtain ⟨z, rfl, hz⟩ := piece_inv h1
    obtain ⟨m, rfl, hm⟩ := marker_inv h2.1
    have h3 := h2.2
    rw [itemsFrom_par _ _ 0 (by decide)] at h3
    obtain ⟨q, ns, rfl, ok⟩ := row_of n r (by simp at hl; omega) (by simp at ho; omega) h3
    refine ⟨z, (m, q) :: ns, rfl, hz, fun u hu => ?_, fun u hu => ?_⟩
    · rcases List.mem_cons.mp hu with rfl | hu
      · exact hm
      · exact ok.nm u hu
    · rcases List.mem_cons.mp hu with rfl | hu
      · exact ok.p0
      · exact ok.pc u hu
theorem piece_le (z : Str) : z.length ≤ (itemText (.str z)).length := by
  rw [← sg_len, ← sg_len, piece_word]
  split
  · rename_i e; subst e; exact Nat.zero_le _
  · exact Nat.le_refl _
theorem piece_le' (z : Str) : (itemText (.str z)).length ≤ z.length + 1 := by
  rw [← sg_len, ← sg_len, piece_word]
  split
  · simp
  · omega
theorem mark_le {m : Mk} (h : nameS m.1 = true) : (itemText (mkD m)).length ≤ 5 := by
  rw [← sg_len, marker_word, List.length_append, sg_len]
  have := (name_all h).2.1
  simp; omega
theorem row_tx : ∀ (ms : List It2) (p : Str), (∀ x ∈ ms, nameS x.1.1 = true) → rowW p ms ≤ txW (rowL p ms) ∧ txW (rowL p ms) ≤ rowW p ms + 8 * ms.length + 2
  | [], p, _ => by
    show p.length + 0 ≤ (itemText (.str p)).length + 1 + 0 ∧ (itemText (.str p)).length + 1 + 0 ≤ p.length + 0 + 0 + 2
    have := piece_le p
    have := piece_le' p
    omega
  | x :: r, p, h => by
    obtain ⟨h1, h2⟩ := row_tx r x.2 fun y hy => h y (List.mem_cons_of_mem _ hy)
    have e : txW (rowL p (x :: r)) = (itemText (.str p)).length + 1 + ((itemText (mkD x.1)).length + 1 + txW (rowL x.2 r)) := by
      show txW (.str p :: mkD x.1 :: rowL x.2 r) = _
      rw [txW_cons, txW_cons]
    have e2 : rowW p (x :: r) = p.length + rowW x.2 r := by
      unfold rowW
      rw [lets_cons]
    have := piece_le p
    have := piece_le' p
    have := mark_le (h x List.mem_cons_self)
    rw [e, e2, List.length_cons]
    omega
theorem RowY.row {xs : List D} (h : RowY xs) (hw : txW xs ≤ 3000) : ∃ q ns, xs = rowL q ns ∧ StOk q ns ∧ rowW q ns ≤ 3000 := by
  obtain ⟨q, ns, rfl, ok⟩ := row_of _ xs (Nat.le_refl _) h.odd h.it
  have h1 := (row_tx ns q ok.nm).1
  have h2 := h.two
  rw [row_nm] at h2
  have hl := h.len
  rw [rowL_len] at hl
  exact ⟨q, ns, rfl, stok_two ok h2 (by omega) (by omega), by omega⟩
theorem row_from : ∀ (ms : List It2) (p : Str), RowOk p ms → itemsFrom 0 (rowL p ms) = true
  | [], p, h => by
    show (pieceS p && true) = true
    rw [h.p0]; rfl
  | x :: r, p, h => by
    show (pieceS p && ((nameS x.1.1 && true) && itemsFrom (0 + 1 + 1) (rowL x.2 r))) = true
    rw [h.p0, h.nm x List.mem_cons_self, itemsFrom_par _ _ 0 (by decide), row_from r x.2 ⟨h.pc x List.mem_cons_self, fun y hy => h.nm y (List.mem_cons_of_mem _ hy), fun y hy => h.pc y (List.mem_cons_of_mem _ hy)⟩]
    rfl
theorem StOk.rowY {p : Str} {ms : List It2} (h : StOk p ms) : RowY (rowL p ms) := by
  have hl := h.len
  refine ⟨by rw [rowL_len]; omega, row_from ms p h.row, ?_, by rw [rowL_len]; omega⟩
  rw [row_nm]; exact h.two
theorem RowY.items {xs : List D} (h : RowY xs) : ∀ d ∈ xs, ItOk d := by
  obtain ⟨q, ns, rfl, ok⟩ := row_of _ xs (Nat.le_refl _) h.odd h.it
  exact row_items ok
theorem RowY.at {xs : List D} (h : RowY xs) {i : Nat} (hi : i < xs.length) : (if i % 2 = 1 then isMarker xs[i] else isPiece xs[i]) = true := by
  have := itemsFrom_at h.it (List.getElem?_eq_getElem hi)
  rw [Nat.zero_add] at this; exact this
theorem RowY.piece {xs : List D} (h : RowY xs) {i : Nat} (hi : i < xs.length) (he : i % 2 = 0) : ∃ z, xs[i] = .str z ∧ pieceS z = true := by
  have := h.at hi
  rw [if_neg (by omega)] at this
  exact piece_inv this
theorem RowY.mark {xs : List D} (h : RowY xs) {i : Nat} (hi : i < xs.length) (he : i % 2 = 1) : ∃ m : Mk, xs[i] = mkD m ∧ nameS m.1 = true := by
  have := h.at hi
  rw [if_pos he] at this
  exact marker_inv this
theorem itemsFrom_set {xs : List D} {i : Nat} {d : D} (h : itemsFrom 0 xs = true) (hk : (if i % 2 = 1 then isMarker d else isPiece d) = true) : itemsFrom 0 (xs.set i d) = true := by
  refine itemsFrom_of fun j e hj => ?_
  rw [List.getElem?_set] at hj
  by_cases hij : i = j
  · subst hij
    rw [if_pos rfl] at hj
    split at hj
    · cases hj; rw [Nat.zero_add]; exact hk
    · cases hj
  · rw [if_neg hij] at hj
    exact itemsFrom_at h hj
theorem fm_set {xs : List D} {i : Nat} {d : D} (hi : i < xs.length) (h : nmO d = nmO xs[i]) : (xs.set i d).filterMap nmO = xs.filterMap nmO := by
  rw [List.set_eq_take_append_cons_drop, if_pos hi]
  conv => rhs; rw [← List.take_append_drop i xs, List.drop_eq_getElem_cons hi]
  rw [List.filterMap_append, List.filterMap_append, List.filterMap_cons, List.filterMap_cons, h]
theorem set_perm {α : Type} : ∀ {xs : List α} {j : Nat} {a b : α}, xs[j]? = some b → (b :: xs.set j a).Perm (a :: xs)
  | [], j, a, b, h => by simp at h
  | x :: xs, 0, a, b, h => by
    simp at h; subst h
    exact .swap _ _ _
  | x :: xs, j + 1, a, b, h => by
    have ih := set_perm (a := a) (show xs[j]? = some b by simpa using h)
    rw [List.set_cons_succ]
    exact ((List.Perm.swap x b _).trans (ih.cons x)).trans (.swap a x _)
theorem swap_perm {α : Type} : ∀ {xs : List α} {i j : Nat} {a b : α}, xs[i]? = some a → xs[j]? = some b → ((xs.set i b).set j a).Perm xs
  | [], i, j, a, b, h, _ => by simp at h
  | x :: xs, 0, 0, a, b, h, h2 => by
    simp at h h2; subst h; subst h2
    exact .refl _
  | x :: xs, 0, j + 1, a, b, h, h2 => by
    simp at h; subst h
    rw [List.set_cons_zero, List.set_cons_succ]
    exact set_perm (by simpa using h2)
  | x :: xs, i + 1, 0, a, b, h, h2 => by
    simp at h2; subst h2
    rw [List.set_cons_succ, List.set_cons_zero]
    exact set_perm (by simpa using h)
  | x :: xs, i + 1, j + 1, a, b, h, h2 => by
    rw [List.set_cons_succ, List.set_cons_succ]
    exact (swap_perm (show xs[i]? = some a by simpa using h) (show xs[j]? = some b by simpa using h2)).cons x
theorem RowY.set {xs : List D} (h : RowY xs) {i : Nat} {d : D} (hi : i < xs.length) (hk : (if i % 2 = 1 then isMarker d else isPiece d) = true) (hn : nmO d = nmO xs[i]) : RowY (xs.set i d) := by
  refine ⟨by rw [List.length_set]; exact h.odd, itemsFrom_set h.it hk, ?_, by rw [List.length_set]; exact h.len⟩
  rw [fm_set hi hn]; exact h.two
theorem RowY.swap {xs : List D} (h : RowY xs) {i j : Nat} (hi : i < xs.length) (hj : j < xs.length) (he : i % 2 = j % 2) : RowY ((xs.set i xs[j]).set j xs[i]) := by
  have hp := swap_perm (List.getElem?_eq_getElem hi) (List.getElem?_eq_getElem hj)
  have h1 := h.at hi
  have h2 := h.at hj
  refine ⟨by rw [List.length_set, List.length_set]; exact h.odd, itemsFrom_set (itemsFrom_set h.it (by rw [he]; exact h2)) (by rw [← he]; exact h1), fun z hz => ?_, by rw [List.length_set, List.length_set]; exact h.len⟩
  have hq := hp.filterMap nmO
  rw [hq.count_eq]
  exact h.two z (hq.mem_iff.mp hz)
theorem tx_perm {xs ys : List D} (h : xs.Perm ys) : txW xs = txW ys := by
  unfold txW
  exact (h.map _).sum_nat
theorem RowY.more {xs : List D} (h : RowY xs) {f : Str} (hf : nameS f = true) (hn : f ∉ xs.filterMap nmO) (hl : xs.length ≤ 40) : RowY (xs ++ [mkD (f, true), .str "", mkD (f, true), .str ""]) := by
  refine ⟨by rw [List.length_append]; have := h.odd; simp; omega, ?_, fun z hz => ?_, by rw [List.length_append]; simp; omega⟩
  · rw [itemsFrom_app, h.it, Bool.true_and, itemsFrom_par _ _ 1 (by have := h.odd; omega)]
    have e : isMarker (mkD (f, true)) = true := by show (nameS f && true) = true; rw [hf]; rfl
    have e2 : isPiece (.str "") = true := by decide +kernel
    show (isMarker (mkD (f, true)) && (isPiece (.str "") && (isMarker (mkD (f, true)) && (isPiece (.str "") && true)))) = true
    rw [e, e2]; rfl
  · rw [List.filterMap_append] at hz ⊢
    have e : [mkD (f, true), D.str "", mkD (f, true), .str ""].filterMap nmO = [f, f] := rfl
    rw [e] at hz ⊢
    rw [List.count_append]
    rcases List.mem_append.mp hz with q | q
    · have hne : f ≠ z := fun e => hn (e ▸ q)
      rw [h.two z q, List.count_cons_of_ne hne, List.count_cons_of_ne hne]; rfl
    · have : z = f := by simpa using q
      subst this
      rw [List.count_eq_zero.mpr hn]
      simp
/-- a name changed -/
def reD (n f : Str) : D → D
  | .tup [.str z, b] => .tup [.str (if z = n then f else z), b]
  | d => d
theorem re_nm (n f : Str) (d : D) : nmO (reD n f d) = (nmO d).map fun z => if z = n then f else z := by
  unfold reD
  split
  · rfl
  · rename_i h
    unfold nmO
    split
    · exact absurd rfl (h _ _)
    · rfl
theorem fm_re (n f : Str) (xs : List D) : (xs.map (reD n f)).filterMap nmO = (xs.filterMap nmO).map fun z => if z = n then f else z := by
  rw [List.filterMap_map, List.map_filterMap]
  congr 1
  funext d
  exact re_nm n f d
theorem count_re {n f : Str} : ∀ {l : List Str}, f ∉ l → ∀ z, (l.map fun z => if z = n then f else z).count z = if z = f then l.count n else if z = n then 0 else l.count z
  | [], _, z => by simp
  | y :: l, hf, z => by
    have h1 : f ≠ y := fun e => hf (by simp [e])
    have ih := count_re (n := n) (fun h => hf (List.mem_cons_of_mem _ h)) z
    rw [List.map_cons, List.count_cons, ih]
    by_cases hy : y = n
    · subst hy
      by_cases hz : z = f
      · subst hz; simp
      · by_cases hzn : z = y
        · subst hzn; simp [hz, Ne.symm hz]
        · simp [hz, hzn, Ne.symm hz, Ne.symm hzn]
    · by_cases hz : z = f
      · subst hz; simp [hy, Ne.symm h1]
      · by_cases hzn : z = n
        · subst hzn; simp [hy, hz]
        · rw [if_neg hy, if_neg hz, if_neg hzn, if_neg hz, if_neg hzn, List.count_cons]
theorem RowY.re {xs : List D} (h : RowY xs) {n f : Str} (hf : nameS f = true) (hn : f ∉ xs.filterMap nmO) (hm : n ∈ xs.filterMap nmO) : RowY (xs.map (reD n f)) := by
  refine ⟨by rw [List.length_map]; exact h.odd, itemsFrom_of fun j e hj => ?_, fun z hz => ?_, by rw [List.length_map]; exact h.len⟩
  · rw [List.getElem?_map] at hj
    obtain ⟨d, hd, rfl⟩ := Option.map_eq_some_iff.mp hj
    have hk := itemsFrom_at h.it hd
    by_cases ho : (0 + j) % 2 = 1
    · rw [if_pos ho] at hk ⊢
      obtain ⟨m, rfl, hm⟩ := marker_inv hk
      show (nameS (if m.1 = n then f else m.1) && true) = true
      split
      · rw [hf]; rfl
      · rw [hm]; rfl
    · rw [if_neg ho] at hk ⊢
      obtain ⟨z, rfl, hz⟩ := piece_inv hk
      exact hk
  · rw [fm_re] at hz ⊢
    rw [count_re hn]
    split
    · exact h.two n hm
    · rename_i hzf
      obtain ⟨y, hy, e⟩ := List.mem_map.mp hz
      by_cases hyn : y = n
      · rw [if_pos hyn] at e; exact absurd e.symm hzf
      · rw [if_neg hyn] at e
        subst e
        rw [if_neg hyn]
        exact h.two y hy
theorem tx_re {n f : Str} (hf : nameS f = true) : ∀ {xs : List D}, (∀ d ∈ xs, ItOk d) → txW (xs.map (reD n f)) ≤ txW xs + 5 * xs.length
  | [], _ => by simp [txW]
  | x :: r, h => by
    have ih := tx_re (n := n) hf fun d hd => h d (List.mem_cons_of_mem _ hd)
    rw [List.map_cons, txW_cons, txW_cons, List.length_cons]
    have : (itemText (reD n f x)).length ≤ (itemText x).length + 5 := by
      rcases h x List.mem_cons_self with q | q
      · obtain ⟨z, rfl, hz⟩ := piece_inv q
        show (itemText (.str z)).length ≤ _
        omega
      · obtain ⟨m, rfl, hm⟩ := marker_inv q
        have : nameS (if m.1 = n then f else m.1) = true := by split <;> assumption
        have h2 := mark_le (m := (if m.1 = n then f else m.1, m.2)) this
        have e : reD n f (mkD m) = mkD (if m.1 = n then f else m.1, m.2) := rfl
        rw [e]; omega
    omega
theorem row_txw {p : Str} {ms : List It2} (h : StOk p ms) : txW (rowL p ms) ≤ 500000 := by
  have h1 := (row_tx ms p h.row.nm).2
  have h2 := h.len
  have h3 := h.w
  omega

theorem listSeqS {d : D} {xs : List D} {Ψ : D → Prop} (h : SeqD d xs) (k : Ψ (.lst xs)) : RAD K (rListU K) [d] Ψ := by
  rcases h with rfl | rfl
  · exact list_l k
  · exact list_t k
theorem cls_st (h : StK K) : Cls K (He.ga K "Strip") := h.ins.t.cl
theorem ev_krow {i : Nat} {δ : List Sl} {p : Str} {ms : List It2} {Φ : D → List Sl → Prop} (h : StK K) (hi : δ[i]? = some (.sh (stripD K p ms))) (k : Φ (.lst (rowL p ms)) δ) : EvD K (tFld K (tVar i) "kept_row") δ Φ := ev_fld (ev_var hi ⟨_, _, _, rfl, cls_st h, h.n1, rfl, k⟩)
theorem ev_kpl {i : Nat} {δ : List Sl} {p : Str} {ms : List It2} {Φ : D → List Sl → Prop} (h : StK K) (hi : δ[i]? = some (.sh (stripD K p ms))) (k : Φ (.dz (numsD (numsOf ms))) δ) : EvD K (tFld K (tVar i) "kept_places") δ Φ := ev_fld (ev_var hi ⟨_, _, _, rfl, cls_st h, h.n2, rfl, k⟩)
theorem sd_Strip_row {ds : List D} {post : Rs → Prop} (a : A_Strip_row K ds post) : SD K (t_Strip_row K) (initS n_Strip_row ds) { nx := fun _ => post (.val .non), rt := fun r _ => post r } := by
  obtain ⟨p, ms, rfl, hk, k⟩ := a
  unfold t_Strip_row
  show SD K _ [.sh (stripD K p ms)] _
  refine sd_retN (en_cb (ea_cons (ev_krow (i := 0) hk rfl (ea_nil ?_))))
  exact list_lN k
theorem sd_Strip_names {ds : List D} {post : Rs → Prop} (a : A_Strip_names K ds post) : SD K (t_Strip_names K) (initS n_Strip_names ds) { nx := fun _ => post (.val .non), rt := fun r _ => post r } := by
  obtain ⟨p, ms, rfl, hk, k⟩ := a
  unfold t_Strip_names
  show SD K _ [.sh (stripD K p ms)] _
  refine sd_retN (en_cb (ea_cons (ev_kpl (i := 0) hk rfl (ea_nil ?_))))
  refine listK_N ?_
  unfold numsD
  rw [List.map_map]
  exact k
theorem sd_Strip_pieces {ds : List D} {post : Rs → Prop} (a : A_Strip_pieces K ds post) : SD K (t_Strip_pieces K) (initS n_Strip_pieces ds) { nx := fun _ => post (.val .non), rt := fun r _ => post r } := by
  obtain ⟨p, ms, rfl, hk, k⟩ := a
  unfold t_Strip_pieces
  show SD K _ [.sh (stripD K p ms)] _
  refine sd_retN (en_un (ev_krow (i := 0) hk rfl ?_))
  refine stepU_lN ?_
  rw [pick_evens]
  exact k
theorem sd_Strip_len {ds : List D} {post : Rs → Prop} (a : A_Strip_len K ds post) : SD K (t_Strip_len K) (initS n_Strip_len ds) { nx := fun _ => post (.val .non), rt := fun r _ => post r } := by
  obtain ⟨p, ms, rfl, hk, k⟩ := a
  unfold t_Strip_len
  show SD K _ [.sh (stripD K p ms)] _
  refine sd_ret (ev_cb (ea_cons (ev_kpl (i := 0) hk rfl (ea_nil ?_))))
  refine lenK_d ?_
  unfold numsD
  rw [List.length_map]
  exact k
theorem sd_Strip_require_name {ds : List D} {post : Rs → Prop} (a : A_Strip_require_name K ds post) : SD K (t_Strip_require_name K) (initS n_Strip_require_name ds) { nx := fun _ => post (.val .non), rt := fun r _ => post r } := by
  obtain ⟨p, ms, x, rfl, hk, ok, hx, k⟩ := a
  obtain ⟨i, j, hp, _⟩ := ok.places hx
  obtain ⟨m, hm, rfl⟩ := List.mem_map.mp hx
  have hn := ok.row.nm m hm
  have okx : OkD K (.str m.1.1) := by simp only [OkD]; exact ⟨Nat.lt_of_le_of_lt (name_all hn).2.1 (by decide), name_ok hn⟩
  unfold t_Strip_require_name
  show SD K _ [.sh (stripD K p ms), .sh (.str m.1.1)] _
  refine sd_if (et_or (et_not (et_B ?_)))
  repeat walk_at "e"
  refine ev_dnotin (ev_var (i := 1) rfl ?_)
  refine ev_kpl (i := 0) hk rfl ?_
  refine ⟨_, .inr m.1.1, .inl rfl, rfl, ?_⟩
  rw [ok.val hp]
  refine ⟨_, rfl, ?_⟩
  refine ite_f rfl ?_
  exact sd_next k
theorem sd_Strip_places {ds : List D} {post : Rs → Prop} (a : A_Strip_places K ds post) : SD K (t_Strip_places K) (initS n_Strip_places ds) { nx := fun _ => post (.val .non), rt := fun r _ => post r } := by
  obtain ⟨p, ms, x, i, j, rfl, hk, ok, hp, k⟩ := a
  have hx : x ∈ namesOf ms := List.mem_of_getElem? (posOf_mem.mp (show i ∈ posOf (namesOf ms) x by rw [hp]; simp))
  unfold t_Strip_places
  show SD K _ [.sh (stripD K p ms), .sh (.str x), .no, .no] _
  refine sd_seq (sd_drop (ev_meth (ev_var (i := 0) rfl ⟨_, rfl, rfl, ea_cons (ev_var (i := 1) rfl (ea_nil ?_))⟩)))
  refine ⟨p, ms, x, rfl, hk, ok, hx, ?_⟩
  refine sd_seq (sd_asgT (js := [2] ++ ([3] ++ [])) (ev_dget ?_))
  refine ev_kpl (i := 0) hk rfl (ev_var (i := 1) rfl ?_)
  refine ⟨_, .inr x, _, .inl rfl, rfl, ok.val hp, ?_⟩
  refine tg_unl rfl (tgs_cons (tg_name (tgs_cons (tg_name (tgs_nil ?_)))))
  show SD K _ [.sh (stripD K p ms), .sh (.str x), .sh (.int (i : Nat)), .sh (.int (j : Nat))] _
  repeat walk_at "s"
  exact k
theorem up_at {ms : List It2} {i : Nat} {x : Str} (h : (namesOf ms)[i]? = some x) : ∃ q : Str, ms[i]? = some ((x, upAt ms i), q) := by
  obtain ⟨m, hm, rfl⟩ := name_at h
  refine ⟨m.2, ?_⟩
  unfold upAt
  rw [hm]; rfl
theorem sd_Strip_orientations {ds : List D} {post : Rs → Prop} (a : A_Strip_orientations K ds post) : SD K (t_Strip_orientations K) (initS n_Strip_orientations ds) { nx := fun _ => post (.val .non), rt := fun r _ => post r } := by
  obtain ⟨p, ms, x, i, j, rfl, hk, ok, hp, k⟩ := a
  obtain ⟨q1, h1⟩ := up_at (posOf_mem.mp (show i ∈ posOf (namesOf ms) x by rw [hp]; simp))
  obtain ⟨q2, h2⟩ := up_at (posOf_mem.mp (show j ∈ posOf (namesOf ms) x by rw [hp]; simp))
  unfold t_Strip_orientations
  show SD K _ [.sh (stripD K p ms), .sh (.str x), .no, .no] _
  refine sd_seq (sd_asgT (js := [2] ++ ([3] ++ [])) (ev_meth (ev_var (i := 0) rfl ⟨_, rfl, rfl, ea_cons (ev_var (i := 1) rfl (ea_nil ?_))⟩)))
  refine ⟨p, ms, x, i, j, rfl, hk, ok, hp, ?_⟩
  refine tg_tup rfl (tgs_cons (tg_name (tgs_cons (tg_name (tgs_nil ?_)))))
  show SD K _ [.sh (stripD K p ms), .sh (.str x), .sh (.int (i : Nat)), .sh (.int (j : Nat))] _
  refine sd_ret (ev_tup (ea_cons (ev_op (ev_op (ev_krow (i := 0) hk rfl ?_)))))
  repeat walk_at "e"
  refine mul_ii (.inl ⟨by decide, by decide⟩) ?_
  repeat walk_at "e"
  rw [show (2 * ((i : Nat) : Int) + 1) = ((2 * i + 1 : Nat) : Int) by omega]
  refine ix_l (atI_nat (rowL_odd h1)) ?_
  repeat walk_at "e"
  refine ix_t (d := .bl (upAt ms i)) rfl ?_
  refine ea_cons (ev_op (ev_op (ev_krow (i := 0) hk rfl ?_)))
  repeat walk_at "e"
  refine mul_ii (.inl ⟨by decide, by decide⟩) ?_
  repeat walk_at "e"
  rw [show (2 * ((j : Nat) : Int) + 1) = ((2 * j + 1 : Nat) : Int) by omega]
  refine ix_l (atI_nat (rowL_odd h2)) ?_
  repeat walk_at "e"
  refine ix_t (d := .bl (upAt ms j)) rfl ?_
  repeat walk_at "e"
  exact k
theorem sd_Strip_is_direct {ds : List D} {post : Rs → Prop} (a : A_Strip_is_direct K ds post) : SD K (t_Strip_is_direct K) (initS n_Strip_is_direct ds) { nx := fun _ => post (.val .non), rt := fun r _ => post r } := by
  obtain ⟨p, ms, x, i, j, rfl, hk, ok, hp, k⟩ := a
  unfold t_Strip_is_direct
  show SD K _ [.sh (stripD K p ms), .sh (.str x), .no, .no] _
  refine sd_seq (sd_asgT (js := [2] ++ ([3] ++ [])) (ev_meth (ev_var (i := 0) rfl ⟨_, rfl, rfl, ea_cons (ev_var (i := 1) rfl (ea_nil ?_))⟩)))
  refine ⟨p, ms, x, i, j, rfl, hk, ok, hp, ?_⟩
  refine tg_tup rfl (tgs_cons (tg_name (tgs_cons (tg_name (tgs_nil ?_)))))
  show SD K _ [.sh (stripD K p ms), .sh (.str x), .sh (.bl (upAt ms i)), .sh (.bl (upAt ms j))] _
  repeat walk_at "s"
  exact k
theorem mark_text (z : Str) (b : Bool) : itemText (.tup [.str z, .bl b]) = z ++ (if b then ("+" : Str) else ("-" : Str)) := by
  cases b <;> rfl
theorem text_len (z : Str) (b : Bool) : (itemText (.tup [.str z, .bl b])).length = z.length + 1 := by
  rw [mark_text, len_app]; cases b <;> rfl
theorem sd_item_text {ds : List D} {post : Rs → Prop} (a : A_item_text K ds post) : SD K (t_item_text K) (initS n_item_text ds) { nx := fun _ => post (.val .non), rt := fun r _ => post r } := by
  obtain ⟨d, rfl, h, k⟩ := a
  have big3 : 2000000 ≤ sizeLine := by decide
  unfold t_item_text
  show SD K _ [.sh d] _
  rcases h with ⟨z, rfl, hl, hz⟩ | ⟨z, b, rfl, hl, hz⟩
  · have okd : OkD K (.str z) := by simp only [OkD]; exact ⟨Nat.lt_of_le_of_lt hl (by decide), hz⟩
    repeat walk_at "s"
    refine ite_b (fun w => ?_) (fun w => ?_)
    · repeat walk_at "s"
      have : itemText (.str z) = z := by
        show (if z = "" then ("_" : Str) else z) = z
        rw [if_neg (by simpa using w)]
      rw [this] at k; exact k
    · repeat walk_at "s"
      have : itemText (.str z) = "_" := by
        show (if z = "" then ("_" : Str) else z) = "_"
        rw [if_pos (by simpa using w)]
      rw [this] at k; exact k
  · have okd : OkD K (.tup [.str z, .bl b]) := by simp only [OkD, OkDs]; exact ⟨Nat.le_of_ble_eq_true rfl, ⟨Nat.lt_of_le_of_lt hl (by decide), hz⟩, trivial, trivial⟩
    rw [mark_text] at k
    repeat walk_at "s"
    refine ix_t (d := .str z) rfl ?_
    repeat walk_at "s"
    refine ix_t (d := .bl b) rfl ?_
    cases b with
    | true =>
      repeat walk_at "s"
      exact add_ss (by rw [show ("+" : Str).length = 1 from rfl]; omega) k
    | false =>
      repeat walk_at "s"
      exact add_ss (by rw [show ("-" : Str).length = 1 from rfl]; omega) k
theorem row_item {p : Str} {ms : List It2} (h : RowOk p ms) (hw : rowW p ms ≤ 100000) {d : D} (hd : d ∈ rowL p ms) : (∃ z, d = .str z ∧ z.length ≤ 1000000 ∧ PyData.strOk z = true) ∨ ∃ z b, d = .tup [.str z, .bl b] ∧ z.length ≤ 1000000 ∧ PyData.strOk z = true := by
  unfold rowW at hw
  rcases mem_row hd with rfl | ⟨x, hx, rfl | rfl⟩
  · exact .inl ⟨p, rfl, by omega, piece_ok h.p0⟩
  · have hn := h.nm x hx
    exact .inr ⟨x.1.1, x.1.2, rfl, by have := (name_all hn).2.1; omega, name_ok hn⟩
  · have := lets_mem hx
    exact .inl ⟨x.2, rfl, by omega, piece_ok (h.pc x hx)⟩
theorem piece_text (z : Str) : (itemText (.str z)).length ≤ z.length + 1 := by
  show (if z = "" then ("_" : Str) else z).length ≤ _
  split
  · exact Nat.le_add_left _ _
  · omega
theorem row_texts : ∀ {p : Str} {ms : List It2}, (∀ x ∈ ms, nameS x.1.1 = true) → (((rowL p ms).map itemText).map (·.length)).sum ≤ rowW p ms + 6 * ms.length + 1
  | p, [], _ => by
    have := piece_text p
    simp only [rowL, List.flatMap_nil, List.map_cons, List.map_nil, List.sum_cons, List.sum_nil, rowW, lets, List.length_nil]
    omega
  | p, x :: ms, h => by
    have h1 := row_texts (p := x.2) (ms := ms) fun y hy => h y (List.mem_cons_of_mem _ hy)
    have h2 := (name_all (h x List.mem_cons_self)).2.1
    have h3 := piece_text p
    have h4 : (itemText (mkD x.1)).length = x.1.1.length + 1 := text_len _ _
    have e : rowL p (x :: ms) = .str p :: mkD x.1 :: rowL x.2 ms := rfl
    rw [e]
    simp only [List.map_cons, List.sum_cons, List.length_cons]
    unfold rowW at *
    rw [lets_cons]
    omega
theorem sd_items_text {ds : List D} {post : Rs → Prop} (a : A_items_text K ds post) : SD K (t_items_text K) (initS n_items_text ds) { nx := fun _ => post (.val .non), rt := fun r _ => post r } := by
  obtain ⟨p, ms, rfl, ok, hw, hl, k⟩ := a
  have big3 : 2000000 ≤ sizeLine := by decide
  have hrl := rowL_len p ms
  unfold t_items_text
  show SD K _ [.sh (.lst (rowL p ms)), .no] _
  repeat walk_at "s"
  refine EvN.d (en_lcL (fun d => .str (itemText d)) ?_)
  repeat walk_at "v"
  refine ⟨_, rfl, rfl, by omega, fun i x ex => ?_, ?_⟩
  · show EvD K _ [.sh (.lst (rowL p ms)), .sh x] _
    repeat walk_at "e"
    exact ⟨row_item ok hw (List.mem_of_getElem? ex), rfl, rfl⟩
  · refine join_l (ys := (rowL p ms).map itemText) (by rw [List.map_map]; rfl) ?_ k
    have := row_texts (p := p) ok.nm
    rw [List.length_map, show (" " : Str).length = 1 from rfl]
    omega
theorem joinL_len (a : List Nat) : ∀ (ys : List (List Nat)), (TL.joinL a ys).length ≤ (ys.map (·.length)).sum + ys.length * a.length
  | [] => by simp [TL.joinL]
  | [p] => by simp [TL.joinL]
  | p :: q :: r => by
    have := joinL_len a (q :: r)
    simp only [TL.joinL, List.length_append, List.map_cons, List.sum_cons, List.length_cons, Nat.add_mul, Nat.one_mul] at this ⊢
    omega
theorem join_len_le (a : Str) (ys : List Str) : (Txt.join a ys).length ≤ (ys.map (·.length)).sum + ys.length * a.length := by
  have e : TL.tl (Txt.join a ys) = TL.joinL (TL.tl a) (ys.map TL.tl) := by rw [TL.join_eq]; exact TL.tl_join _ ys
  have h := joinL_len (TL.tl a) (ys.map TL.tl)
  rw [← e, List.map_map, List.length_map] at h
  have e2 : (ys.map (List.length ∘ TL.tl)) = ys.map (·.length) := List.map_congr_left fun y _ => sg_len y
  rw [e2, show (TL.tl a).length = a.length from sg_len a] at h
  rw [← sg_len]; exact h
theorem rowText_len {p : Str} {ms : List It2} (ok : RowOk p ms) (hw : rowW p ms ≤ 100000) (hl : ms.length ≤ 1000) : (itemsText (rowL p ms)).length ≤ 200000 := by
  have h1 := join_len_le " " ((rowL p ms).map itemText)
  have h2 := row_texts (p := p) ok.nm
  have h3 := rowL_len p ms
  rw [List.length_map, show (" " : Str).length = 1 from rfl] at h1
  unfold itemsText
  omega
theorem pick_betw {p : Str} {ms : List It2} {i j : Nat} (hij : i < j) (hj : j < ms.length) : pickS (some ((2 * i + 3 : Nat) : Int)) (some ((2 * j : Nat) : Int)) (some 2) (rowL p ms) = ((ms.map fun x => mkD x.1).take j).drop (i + 1) := by
  have hl := rowL_len p ms
  have hL : (((ms.map fun x => mkD x.1).take j).drop (i + 1)).length = j - i - 1 := by
    rw [List.length_drop, List.length_take, List.length_map]; omega
  rw [← get_range (((ms.map fun x => mkD x.1).take j).drop (i + 1)), hL]
  unfold pickS
  have e : sliceBounds (some ((2 * i + 3 : Nat) : Int)) (some ((2 * j : Nat) : Int)) (some 2) (rowL p ms).length = (((2 * i + 3 : Nat) : Int), ((2 * j : Nat) : Int), 2) := by
    rw [hl]
    unfold sliceBounds
    simp
    omega
  rw [e]
  unfold sliceRange
  rw [List.filterMap_map]
  simp only []
  have e2 : (if (2 : Int) > 0 then if ((2 * i + 3 : Nat) : Int) < ((2 * j : Nat) : Int) then (((2 * j : Nat) : Int) - ((2 * i + 3 : Nat) : Int) + 2 - 1) / 2 else 0 else if ((2 * i + 3 : Nat) : Int) > ((2 * j : Nat) : Int) then (((2 * i + 3 : Nat) : Int) - ((2 * j : Nat) : Int) - 2 - 1) / -2 else 0).toNat = j - i - 1 := by
    rw [if_pos (by decide)]
    split <;> omega
  rw [e2]
  refine fmap_congr fun k hk => ?_
  have hk : k < j - i - 1 := by simpa using hk
  show (rowL p ms)[(((2 * i + 3 : Nat) : Int) + 2 * (k : Int)).toNat]? = _
  have hm : ms[i + 1 + k]? = some ms[i + 1 + k] := List.getElem?_eq_getElem (by omega)
  rw [show (((2 * i + 3 : Nat) : Int) + 2 * (k : Int)).toNat = 2 * (i + 1 + k) + 1 by omega, rowL_odd hm, List.getElem?_drop, List.getElem?_take_of_lt (by omega), List.getElem?_map, hm]
  rfl
def mkName : D → D
  | .tup (d :: _) => d
  | _ => .non
theorem betw_map (ms : List It2) (i j : Nat) : (((ms.map fun x => mkD x.1).take j).drop (i + 1)).map mkName = (betw ms i j).map .str := by
  unfold betw namesOf
  rw [List.map_drop, List.map_take, List.map_map, List.map_drop, List.map_take, List.map_map]
  rfl
theorem sd_Strip_names_between {ds : List D} {post : Rs → Prop} (a : A_Strip_names_between K ds post) : SD K (t_Strip_names_between K) (initS n_Strip_names_between ds) { nx := fun _ => post (.val .non), rt := fun r _ => post r } := by
  obtain ⟨p, ms, x, i, j, rfl, hk, ok, hp, k⟩ := a
  have hx : x ∈ namesOf ms := List.mem_of_getElem? (posOf_mem.mp (show i ∈ posOf (namesOf ms) x by rw [hp]; simp))
  obtain ⟨i', j', hp', hij, hjl, _⟩ := ok.places hx
  rw [hp] at hp'
  cases hp'
  have hlen := ok.len
  have big3 : 2000000 ≤ sizeLine := by decide
  unfold t_Strip_names_between
  show SD K _ [.sh (stripD K p ms), .sh (.str x), .no, .no, .no] _
  refine sd_seq (sd_asgT (js := [2] ++ ([3] ++ [])) (ev_meth (ev_var (i := 0) rfl ⟨_, rfl, rfl, ea_cons (ev_var (i := 1) rfl (ea_nil ?_))⟩)))
  refine ⟨p, ms, x, i, j, rfl, hk, ok, hp, ?_⟩
  refine tg_tup rfl (tgs_cons (tg_name (tgs_cons (tg_name (tgs_nil ?_)))))
  show SD K _ [.sh (stripD K p ms), .sh (.str x), .sh (.int (i : Nat)), .sh (.int (j : Nat)), .no] _
  refine sd_retN (en_lcL mkName (EvN.d (en_stV ?_)))
  refine ev_krow (i := 0) hk rfl ?_
  repeat walk_at "e"
  refine mul_ii (.inl ⟨by decide, by decide⟩) ?_
  repeat walk_at "e"
  refine mul_ii (.inl ⟨by decide, by decide⟩) ?_
  refine ⟨_, rfl, rowL p ms, rfl, ?_⟩
  rw [show (2 * ((i : Nat) : Int) + 3) = ((2 * i + 3 : Nat) : Int) by omega, show (2 * ((j : Nat) : Int)) = ((2 * j : Nat) : Int) by omega, pick_betw hij hjl]
  refine ⟨_, rfl, rfl, ?_, fun q y ey => ?_, ?_⟩
  · rw [List.length_drop, List.length_take, List.length_map]; omega
  · have hy : y ∈ ms.map fun x => mkD x.1 := List.mem_of_mem_take (List.mem_of_mem_drop (List.mem_of_getElem? ey))
    obtain ⟨m, _, rfl⟩ := List.mem_map.mp hy
    show EvD K _ [.sh (stripD K p ms), .sh (.str x), .sh (.int (i : Nat)), .sh (.int (j : Nat)), .sh (mkD m.1)] _
    repeat walk_at "e"
    exact ix_t (d := .str m.1.1) rfl ⟨rfl, rfl⟩
  · rw [betw_map]; exact k
theorem sd_Strip_crosses {ds : List D} {post : Rs → Prop} (a : A_Strip_crosses K ds post) : SD K (t_Strip_crosses K) (initS n_Strip_crosses ds) { nx := fun _ => post (.val .non), rt := fun r _ => post r } := by
  obtain ⟨p, ms, x, y, i, j, rfl, hk, ok, hp, hy, k⟩ := a
  have hx : x ∈ namesOf ms := List.mem_of_getElem? (posOf_mem.mp (show i ∈ posOf (namesOf ms) x by rw [hp]; simp))
  unfold t_Strip_crosses
  show SD K _ [.sh (stripD K p ms), .sh (.str x), .sh (.str y)] _
  refine sd_seq (sd_drop (ev_meth (ev_var (i := 0) rfl ⟨_, rfl, rfl, ea_cons (ev_var (i := 1) rfl (ea_nil ?_))⟩)))
  refine ⟨p, ms, x, rfl, hk, ok, hx, ?_⟩
  refine sd_seq (sd_drop (ev_meth (ev_var (i := 0) rfl ⟨_, rfl, rfl, ea_cons (ev_var (i := 2) rfl (ea_nil ?_))⟩)))
  refine ⟨p, ms, y, rfl, hk, ok, hy, ?_⟩
  repeat walk_at "s"
  refine ite_b (fun w => ?_) (fun w => ?_)
  · repeat walk_at "s"
    refine ev_bm (ev_meth (ev_var (i := 0) rfl ⟨_, rfl, rfl, ea_cons (ev_var (i := 1) rfl (ea_nil ?_))⟩))
    refine ⟨p, ms, x, i, j, rfl, hk, ok, hp, tyd_l, ?_⟩
    repeat walk_at "s"
    refine count_l rfl ?_
    repeat walk_at "s"
    rw [w, Bool.true_and] at k
    have e : decide (((betw ms i j).count y : Nat) = (1 : Int)) = decide ((betw ms i j).count y = 1) := by
      rw [decide_eq_decide]; omega
    rw [e]; exact k
  · rw [w, Bool.false_and] at k
    exact k
theorem sd_Strip_str {ds : List D} {post : Rs → Prop} (a : A_Strip_str K ds post) : SD K (t_Strip_str K) (initS n_Strip_str ds) { nx := fun _ => post (.val .non), rt := fun r _ => post r } := by
  obtain ⟨p, ms, rfl, hk, ok, k⟩ := a
  have hlen := ok.len
  have hz := rowText_len ok.row ok.w (by omega)
  unfold t_Strip_str
  show SD K _ [.sh (stripD K p ms)] _
  refine sd_ret (ev_fmt (ev_call (ea_cons (ev_krow (i := 0) hk rfl (ea_nil ?_)))))
  exact ⟨_, rowL p ms, rfl, .inl rfl, row_items ok.row, row_txw ok, _, rfl, Nat.le_trans hz (by decide), k⟩
theorem sd_Strip_repr {ds : List D} {post : Rs → Prop} (a : A_Strip_repr K ds post) : SD K (t_Strip_repr K) (initS n_Strip_repr ds) { nx := fun _ => post (.val .non), rt := fun r _ => post r } := by
  obtain ⟨p, ms, rfl, hk, ok, k⟩ := a
  have hlen := ok.len
  have hz := rowText_len ok.row ok.w (by omega)
  have big3 : 300000 ≤ sizeLine := by decide
  unfold t_Strip_repr
  show SD K _ [.sh (stripD K p ms)] _
  refine sd_ret (ev_fs (ej_cons (ev_str ⟨_, rfl, Nat.le_of_ble_eq_true rfl, ej_cons (ev_fmt (ev_call (ea_cons (ev_krow (i := 0) hk rfl (ea_nil ?_)))))⟩)))
  have e1 : (Str.empty ++ Str.ofString "Strip(") = ("Strip(" : Str) := str_ext (by rw [sg_append]; rfl)
  refine ⟨_, rowL p ms, rfl, .inl rfl, row_items ok.row, row_txw ok, _, rfl, by omega, _, rfl, ?_, ?_⟩
  · rw [e1, len_app, show ("Strip(" : Str).length = 6 from rfl]; omega
  · refine ej_cons (ev_str ⟨_, rfl, ?_, ej_nil ?_⟩)
    · rw [e1, len_app, len_app, show ("Strip(" : Str).length = 6 from rfl, show (Str.ofString ")").length = 1 from rfl]; omega
    · rw [e1]; exact k
theorem sd_Strip_init {x : Addr} {ds : List D} {post : List (Str × D) → Prop} (a : A_Strip_init K ds post) : SD K (t_Strip_init K) (.mo x (.ins (He.ga K "Strip") []) :: initS (n_Strip_init.drop 1) ds) { nx := fun δ' => ∃ fs, δ'[0]? = some (.mo x (.ins (He.ga K "Strip") fs)) ∧ post fs, rt := fun _ _ => False } := by
  obtain ⟨d, p, ms, rfl, hd, ok, hk, k⟩ := a
  have hlen := ok.len
  have hw := ok.w
  have okd : OkD K d := seq_ok hd ok.row (Nat.lt_of_le_of_lt hw (by decide)) (by omega)
  have hc := cls_st hk
  unfold t_Strip_init
  show SD K _ [.mo x (.ins (He.ga K "Strip") []), .sh d, .no, .no] _
  refine sd_seq (sd_drop ?_)
  repeat walk_at "s"
  refine ⟨okd, seq_row hd ok.row, ?_⟩
  refine sd_seq (sd_fld (i := 0) (a := x) (C := He.ga K "Strip") ?_)
  repeat walk_at "s"
  refine listSeqS hd ?_
  refine ⟨[], rfl, hc, hk.n1, by decide, ?_⟩
  refine sd_seq (sd_fld (i := 0) (a := x) (C := He.ga K "Strip") (ev_frz (en_call (ea_cons ?_))))
  refine ev_fldM (i := 0) (a := x) (C := He.ga K "Strip") (fs := [("kept_row", .lst (rowL p ms))]) rfl hc hk.n1 rfl ?_
  refine ea_nil ?_
  refine ⟨_, p, ms, rfl, .inl rfl, Nat.lt_of_le_of_lt (show ms.length ≤ 24 by omega) (by decide), _, rfl, _, rfl, [("kept_row", .lst (rowL p ms))], rfl, hc, hk.n2, Nat.le_of_ble_eq_true rfl, ?_⟩
  show SD K _ [.mo x (.ins (He.ga K "Strip") (stripF p ms)), .sh d, .no, .no] _
  refine sd_seq (sd_for (js := [2] ++ ([3] ++ [])) (ei_items ?_))
  refine ev_fldM (i := 0) (a := x) (C := He.ga K "Strip") (fs := stripF p ms) rfl hc hk.n2 rfl ?_
  refine ⟨numsD (numsOf ms), rfl, fun i δ' => ∃ a2 a3, δ' = [.mo x (.ins (He.ga K "Strip") (stripF p ms)), .sh d, a2, a3], ⟨_, _, rfl⟩, ?_, ?_⟩
  · rintro i y δ' ey ⟨a2, a3, rfl⟩
    obtain ⟨kv, hkv, rfl⟩ : ∃ kv ∈ numsOf ms, y = .tup [.str kv.1, .lst (kv.2.map .int)] := by
      have := List.mem_of_getElem? ey
      unfold itemsD numsD at this
      rw [List.map_map] at this
      obtain ⟨kv, h1, h2⟩ := List.mem_map.mp this
      exact ⟨kv, h1, h2.symm⟩
    refine tg_tup rfl (tgs_cons (tg_name (tgs_cons (tg_name (tgs_nil ?_)))))
    show SD K _ [.mo x (.ins (He.ga K "Strip") (stripF p ms)), .sh d, .sh (.str kv.1), .sh (.lst (kv.2.map .int))] _
    refine sd_if ?_
    repeat walk_at "e"
    refine ite_f (by rw [List.length_map, (ok.nums kv hkv).1]; decide) ?_
    exact sd_next ⟨_, _, rfl⟩
  · rintro δ' ⟨a2, a3, rfl⟩
    refine sd_if (et_test (ev_op (ev_cb (ea_cons ?_))))
    refine ev_fldM (i := 0) (a := x) (C := He.ga K "Strip") (fs := stripF p ms) rfl hc hk.n2 rfl ?_
    refine ea_nil (lenK_d ?_)
    have hf := ok.few
    repeat walk_at "e"
    refine ite_f (by unfold numsD; rw [List.length_map, decide_eq_false_iff_not]; omega) ?_
    exact sd_next ⟨_, rfl, k⟩
theorem sd_Strip_initM {x l : Addr} {ds : List D} {post : List (Str × D) → Prop} (a : B_Strip_init K ds post) : SD K (t_Strip_init K) (.mo x (.ins (He.ga K "Strip") []) :: .mo l (.lst ds) :: (n_Strip_init.drop 2).map fun _ => .no) { nx := fun δ' => ∃ fs, δ'[0]? = some (.mo x (.ins (He.ga K "Strip") fs)) ∧ δ'[1]? = some (.mo l (.lst ds)) ∧ post fs, rt := fun _ _ => False } := by
  obtain ⟨p, ms, rfl, ok, hk, k⟩ := a
  have hlen := ok.len
  have hw := ok.w
  have hd : SeqD (.lst (rowL p ms)) (rowL p ms) := .inl rfl
  have okd : OkD K (.lst (rowL p ms)) := seq_ok hd ok.row (Nat.lt_of_le_of_lt hw (by decide)) (by omega)
  have hc := cls_st hk
  unfold t_Strip_init
  show SD K _ [.mo x (.ins (He.ga K "Strip") []), .mo l (.lst (rowL p ms)), .no, .no] _
  refine sd_seq (sd_drop (ev_lendW ?_))
  show EvD K _ [.sh (.ins (He.ga K "Strip") []), .sh (.lst (rowL p ms)), .no, .no] _
  refine ev_call (ea_cons (ev_var (i := 1) rfl (ea_nil ⟨_, rfl, okd, seq_row hd ok.row, ?_⟩)))
  refine ⟨rfl, ?_⟩
  refine sd_seq (sd_fld (i := 0) (a := x) (C := He.ga K "Strip") (EvN.d (en_listM (i := 1) rfl ?_)))
  refine ⟨[], rfl, hc, hk.n1, by decide, ?_⟩
  refine sd_seq (sd_fld (i := 0) (a := x) (C := He.ga K "Strip") (ev_frz (en_call (ea_cons ?_))))
  refine ev_fldM (i := 0) (a := x) (C := He.ga K "Strip") (fs := [("kept_row", .lst (rowL p ms))]) rfl hc hk.n1 rfl ?_
  refine ea_nil ?_
  refine ⟨_, p, ms, rfl, .inl rfl, Nat.lt_of_le_of_lt (show ms.length ≤ 24 by omega) (by decide), _, rfl, _, rfl, [("kept_row", .lst (rowL p ms))], rfl, hc, hk.n2, Nat.le_of_ble_eq_true rfl, ?_⟩
  show SD K _ [.mo x (.ins (He.ga K "Strip") (stripF p ms)), .mo l (.lst (rowL p ms)), .no, .no] _
  refine sd_seq (sd_for (js := [2] ++ ([3] ++ [])) (ei_items ?_))
  refine ev_fldM (i := 0) (a := x) (C := He.ga K "Strip") (fs := stripF p ms) rfl hc hk.n2 rfl ?_
  refine ⟨numsD (numsOf ms), rfl, fun i δ' => ∃ a2 a3, δ' = [.mo x (.ins (He.ga K "Strip") (stripF p ms)), .mo l (.lst (rowL p ms)), a2, a3], ⟨_, _, rfl⟩, ?_, ?_⟩
  · rintro i y δ' ey ⟨a2, a3, rfl⟩
    obtain ⟨kv, hkv, rfl⟩ : ∃ kv ∈ numsOf ms, y = .tup [.str kv.1, .lst (kv.2.map .int)] := by
      have := List.mem_of_getElem? ey
      unfold itemsD numsD at this
      rw [List.map_map] at this
      obtain ⟨kv, h1, h2⟩ := List.mem_map.mp this
      exact ⟨kv, h1, h2.symm⟩
    refine tg_tup rfl (tgs_cons (tg_name (tgs_cons (tg_name (tgs_nil ?_)))))
    show SD K _ [.mo x (.ins (He.ga K "Strip") (stripF p ms)), .mo l (.lst (rowL p ms)), .sh (.str kv.1), .sh (.lst (kv.2.map .int))] _
    refine sd_if ?_
    repeat walk_at "e"
    refine ite_f (by rw [List.length_map, (ok.nums kv hkv).1]; decide) ?_
    exact sd_next ⟨_, _, rfl⟩
  · rintro δ' ⟨a2, a3, rfl⟩
    refine sd_if (et_test (ev_op (ev_cb (ea_cons ?_))))
    refine ev_fldM (i := 0) (a := x) (C := He.ga K "Strip") (fs := stripF p ms) rfl hc hk.n2 rfl ?_
    refine ea_nil (lenK_d ?_)
    have hf := ok.few
    repeat walk_at "e"
    refine ite_f (by unfold numsD; rw [List.length_map, decide_eq_false_iff_not]; omega) ?_
    exact sd_next ⟨_, rfl, rfl, k⟩

theorem flL_bk (p : Str) (ms : List It2) : bk flI (rowL p ms) = rowL (flR p ms).1 (flR p ms).2 := by
  rw [← flL_row]; rfl
theorem sd_Strip_flipped {ds : List D} {post : Rs → Prop} (a : A_Strip_flipped K ds post) : SD K (t_Strip_flipped K) (initS n_Strip_flipped ds) { nx := fun _ => post (.val .non), rt := fun r _ => post r } := by
  obtain ⟨p, ms, rfl, hk, ok, k⟩ := a
  unfold t_Strip_flipped
  show SD K _ [.sh (stripD K p ms)] _
  refine sd_retN (en_make (ea_cons (ev_call (ea_cons (ev_krow hk rfl (ea_nil ⟨_, rowL p ms, rfl, .inl rfl, row_items ok.row, row_txw ok, ?_⟩))))))
  refine ea_nil ⟨_, (flR p ms).1, (flR p ms).2, rfl, .inl ?_, ok.flip, hk, k⟩
  show D.lst _ = D.lst _
  rw [flL_bk]
theorem sd_Strip_eq {ds : List D} {post : Rs → Prop} (a : A_Strip_eq K ds post) : SD K (t_Strip_eq K) (initS n_Strip_eq ds) { nx := fun _ => post (.val .non), rt := fun r _ => post r } := by
  obtain ⟨p, ms, d, rfl, hk, ok, h⟩ := a
  unfold t_Strip_eq
  show SD K _ [.sh (stripD K p ms), .sh d] _
  rcases h with ⟨q, ns, rfl, ok', k⟩ | ⟨hn, k⟩
  · refine sd_ret (ev_and (ev_cb (ea_cons (ev_var (i := 1) rfl (ea_cons (ev_c (fun _ => rep_cls _) (ea_nil (isi_insC hk.st.ins.t hk.eq.self ⟨_, rfl, ite_t rfl ?_⟩))))))))
    refine ev_op (ev_krow (i := 1) hk.st rfl (ev_krow (i := 0) hk.st rfl (eq_dd (items_py (row_items ok'.row)) (items_py (row_items ok.row)) ?_)))
    rw [rows_eqv (row_items ok'.row) (row_items ok.row)]; exact k
  · exact sd_ret (ev_and (ev_cb (ea_cons (ev_var (i := 1) rfl (ea_cons (ev_c (fun _ => rep_cls _) (ea_nil (hn.isi hk.eq ⟨_, rfl, ite_f rfl k⟩))))))))

theorem sd_items_textG {ds : List D} {post : Rs → Prop} (a : A_items_textG K ds post) : SD K (t_items_text K) (initS n_items_text ds) { nx := fun _ => post (.val .non), rt := fun r _ => post r } := by
  obtain ⟨d, xs, rfl, hd, hi, hw, k⟩ := a
  have big3 : 2000000 ≤ sizeLine := by decide
  have hl := txW_len xs
  have hs := txW_sum xs
  unfold t_items_text
  show SD K _ [.sh d, .no] _
  have body : ∀ (i : Nat) x, xs[i]? = some x → EvD K (tCall (spG K (A_item_text K)) [] E0 (tCons (tVar 1) tNil)) [.sh d, .sh x] fun y δ3 => y = .str (itemText x) ∧ wipeS δ3 [1] = wipeS [.sh d, .no] [1] := fun i x ex => by
    have hx := List.mem_of_getElem? ex
    have hx1 := txW_mem hx
    refine ev_call (ea_cons (ev_var (i := 1) rfl (ea_nil ⟨x, rfl, ?_, rfl, rfl⟩)))
    rcases item_len (hi x hx) with ⟨z, rfl, hz, hzl⟩ | ⟨m, rfl, hm⟩
    · exact .inl ⟨z, rfl, by omega, piece_ok hz⟩
    · exact .inr ⟨m.1, m.2, rfl, Nat.le_trans (name_all hm).2.1 (by decide), name_ok hm⟩
  have fin : RMD K "str" (rJoin K) (.str " ") [.lst (xs.map fun d => .str (itemText d))] fun z => post (.val z) := by
    refine join_l (ys := xs.map itemText) (by rw [List.map_map]; rfl) ?_ k
    rw [List.length_map, show (" " : Str).length = 1 from rfl]
    omega
  rcases hd with rfl | rfl
  · exact sd_ret (ev_m1 (ev_str ⟨⟨_, rfl⟩, EvN.d (en_lcL (fun d => .str (itemText d)) (ev_var (i := 0) rfl ⟨_, rfl, rfl, by omega, body, fin⟩))⟩))
  · exact sd_ret (ev_m1 (ev_str ⟨⟨_, rfl⟩, EvN.d (en_lcM (js := [1]) (fun d => .str (itemText d)) (by simp) (ei_seqT (ev_var (i := 0) rfl ⟨_, rfl, noOwn_ok rfl, by omega, fun i x ex => tg_name (body i x ex), fin⟩)))⟩))
theorem sd_flipped_itemsG {ds : List D} {post : Rs → Prop} (a : A_flipped_itemsG K ds post) : SD K (t_flipped_items K) (initS n_flipped_items ds) { nx := fun _ => post (.val .non), rt := fun r _ => post r } := by
  obtain ⟨d, xs, rfl, hd, hi, hw, k⟩ := a
  have big3 : 2000000 ≤ sizeLine := by decide
  have hl := txW_len xs
  unfold t_flipped_items
  show SD K _ [.sh d, .no] _
  have body : ∀ (i : Nat) x, xs.reverse[i]? = some x → EvD K (tCall (spG K (A_flipped_item K)) [] E0 (tCons (tVar 1) tNil)) [.sh d, .sh x] fun y δ3 => y = flI x ∧ wipeS δ3 [1] = wipeS [.sh d, .no] [1] := fun i x ex => by
    have hx : x ∈ xs := by have := List.mem_of_getElem? ex; simpa using this
    have hx1 := txW_mem hx
    refine ev_call (ea_cons (ev_var (i := 1) rfl (ea_nil ⟨x, rfl, item_okd (hi x hx) (by omega), ?_, rfl, rfl⟩)))
    rcases item_len (hi x hx) with ⟨z, rfl, hz, hzl⟩ | ⟨m, rfl, hm⟩
    · exact .inl ⟨z, rfl, hz, by omega⟩
    · exact .inr ⟨m, rfl⟩
  have fin : post (.new (.lst (xs.reverse.map flI))) := k
  rcases hd with rfl | rfl
  · refine sd_retN (en_lcL flI (ev_un (ev_var (i := 0) rfl (stepU_l ?_))))
    rw [pick_rev]
    exact ⟨_, rfl, rfl, by rw [List.length_reverse]; omega, body, fin⟩
  · refine sd_retN (en_lcM (js := [1]) flI (by simp) (ei_seqT (ev_un (ev_var (i := 0) rfl (stepU_t ?_)))))
    rw [pick_rev]
    exact ⟨_, rfl, noOwn_ok rfl, by rw [List.length_reverse]; omega, fun i x ex => tg_name (body i x ex), fin⟩
theorem headL_items {xs : List D} (h : RiOk xs) : ∀ x ∈ headL xs, ItOk x := fun x hx => h.items.1 x (headL_mem.mp hx)
theorem sd_reading_text {ds : List D} {post : Rs → Prop} (a : A_reading_text K ds post) : SD K (t_reading_text K) (initS n_reading_text ds) { nx := fun _ => post (.val .non), rt := fun r _ => post r } := by
  obtain ⟨xs, rfl, ⟨ok, hw⟩, k⟩ := a
  have big3 : 2000000 ≤ sizeLine := by decide
  have hl := txW_len xs
  have hne := ok.items.2
  unfold t_reading_text
  show SD K _ [.sh (.lst xs), .no] _
  refine sd_seq (sd_asg (EvD.to (v := .lst (headL xs)) ?_ ?_))
  · refine ev_if (et_test (ev_op (ev_cb (ea_cons (ev_var (i := 0) rfl (ea_nil (len_l (ev_int (eq_ii ⟨_, rfl, ?_⟩)))))))))
    unfold headL
    refine ite_b (fun w => ?_) (fun w => ?_)
    · have w2 := of_decide_eq_true w
      rw [if_pos (by omega)]
      exact ev_var (i := 0) rfl ⟨rfl, rfl⟩
    · have w2 := of_decide_eq_false w
      rw [if_neg (by omega)]
      refine ev_op (ev_sl (ev_var (i := 0) rfl (eo_some (ev_un (ev_int (neg_i ⟨_, rfl, eo_none (sl_l ?_)⟩))))))
      refine ev_sl (ev_var (i := 0) rfl (eo_none (eo_some (ev_un (ev_int (neg_i ⟨_, rfl, sl_l ?_⟩))))))
      rw [cutL_last xs hne, cutL_init xs hne]
      exact add_ll (by rw [List.length_drop, List.length_take]; omega) ⟨rfl, rfl⟩
  · show SD K _ [.sh (.lst xs), .sh (.lst (headL xs))] _
    have hz := itemsText_len (headL xs)
    rw [headL_w] at hz
    have e1 : (Str.empty ++ Str.ofString "( ") = ("( " : Str) := str_ext (by rw [sg_append]; rfl)
    refine sd_ret (ev_fs (ej_cons (ev_str ⟨_, rfl, Nat.le_of_ble_eq_true rfl, ej_cons (ev_fmt (ev_call (ea_cons (ev_var (i := 1) rfl (ea_nil ?_)))))⟩)))
    refine ⟨_, headL xs, rfl, .inl rfl, headL_items ok, by rw [headL_w]; omega, _, rfl, by omega, _, rfl, ?_, ?_⟩
    · rw [e1, len_app, show ("( " : Str).length = 2 from rfl]; omega
    · refine ej_cons (ev_str ⟨_, rfl, ?_, ej_nil ?_⟩)
      · rw [e1, len_app, len_app, show ("( " : Str).length = 2 from rfl, show (Str.ofString " )").length = 2 from rfl]; omega
      · rw [e1]; exact k
theorem sd_require_reading {ds : List D} {post : Rs → Prop} (a : A_require_reading K ds post) : SD K (t_require_reading K) (initS n_require_reading ds) { nx := fun _ => post (.val .non), rt := fun r _ => post r } := by
  obtain ⟨d, xs, rfl, hd, ⟨ok, hw⟩, k⟩ := a
  have okd : OkD K d := items_okd hd ok.items.1 (by omega)
  have hne := List.length_pos_iff.mpr ok.items.2
  have hpar : ¬ (1 < xs.length ∧ xs.length % 2 = 1) := by
    cases ok with
    | one p hp => simp
    | many _ h => have := h.ev; omega
  have hsq : isSeq d = true := by rcases hd with rfl | rfl <;> rfl
  have hlen : ∀ {Ψ : D → Prop}, Ψ (.int xs.length) → RAD K (rLenU K) [d] Ψ := fun {Ψ} h => by
    rcases hd with rfl | rfl
    · exact len_l h
    · exact len_t h
  unfold t_require_reading
  show SD K _ [.sh d] _
  refine sd_seq (sd_if (et_or (et_not (et_B (ev_call (ea_cons (ev_var (i := 0) rfl (ea_nil ⟨d, rfl, okd, _, rfl, ite_f (by rw [hsq]; rfl) ?_⟩))))))))
  refine et_or (et_test (ev_op (ev_cb (ea_cons (ev_var (i := 0) rfl (ea_nil (hlen (ev_int (eq_ii ⟨_, rfl, ite_f (decide_eq_false (by omega)) ?_⟩)))))))))
  refine et_and (et_test (ev_op (ev_cb (ea_cons (ev_var (i := 0) rfl (ea_nil (hlen (ev_int (gt_ii ⟨_, rfl, ?_⟩)))))))))
  have last : SD K (tDrop (tCall (spG K (A_require_items K)) [] E0 (tCons (tVar 0) tNil))) [.sh d] { nx := fun _ => post (.val .non), rt := fun r _ => post r } :=
    sd_drop (ev_call (ea_cons (ev_var (i := 0) rfl (ea_nil ⟨d, xs, rfl, hd, okd, ok.from0, k⟩))))
  refine ite_b (fun w => ?_) (fun w => ite_f rfl (sd_next last))
  have w2 := of_decide_eq_true w
  exact et_test (ev_op (ev_op (ev_cb (ea_cons (ev_var (i := 0) rfl (ea_nil (hlen (ev_int (mod_ii (by decide) (ev_int (eq_ii ⟨_, rfl, ite_f (decide_eq_false (by omega)) (sd_next last)⟩))))))))))) 
theorem rotS_cut {q : Str} {k : Nat} : cutS q (some (k : Int)) none ++ cutS q none (some (k : Int)) = ⟨((sg q).drop k ++ (sg q).take k).toArray⟩ := str_ext (by rw [sg_append, sg_from, sg_to, sg_mk])
theorem cutS_len (z : Str) (lo hi : Option Int) : (cutS z lo hi).length ≤ z.length := by
  rw [← sg_len, sg_cut, ← sg_len z]; exact cutL_len _ _ _
theorem sd_readings {ds : List D} {post : Rs → Prop} (a : A_readings K ds post) : SD K (t_readings K) (initS n_readings ds) { nx := fun _ => post (.val .non), rt := fun r _ => post r } := by
  obtain ⟨xs, rfl, ⟨ok, hw⟩, k⟩ := a
  have big3 : 2000000 ≤ sizeLine := by decide
  have hl := txW_len xs
  unfold t_readings
  show SD K _ [.sh (.lst xs), .no, .no, .no, .no, .no] _
  cases ok with
  | one p hp =>
    have hpl : p.length ≤ 100000 := by
      have := txW_mem (xs := [D.str p]) (d := .str p) List.mem_cons_self
      rcases item_len (d := .str p) (.inl hp) with ⟨z, e, _, hz⟩ | ⟨m, e, _⟩
      · cases e; omega
      · cases e
    refine sd_seq (sd_if (et_test (ev_op (ev_cb (ea_cons (ev_var (i := 0) rfl (ea_nil (len_l (ev_int (eq_ii ⟨_, rfl, ite_t rfl ?_⟩))))))))))
    refine sd_seq (sd_asgN (en_lst (ea_nil ⟨Nat.zero_le _, ?_⟩)))
    show SD K _ [.sh (.lst [.str p]), .ow (.lst []), .no, .no, .no, .no] _
    refine sd_seq (sd_for (js := [2]) (ei_seqT (ev_tup (ea_cons (ev_op (ev_var (i := 0) rfl (ev_int (ix_l (d := .str p) rfl ?_))))))))
    refine ea_cons (ev_call (ea_cons (ev_op (ev_var (i := 0) rfl (ev_int (ix_l (d := .str p) rfl (ea_nil ⟨p, rfl, hp, by omega, ?_⟩)))))))
    refine ea_nil ⟨Nat.le_of_ble_eq_true rfl, _, rfl, ?_⟩
    have hqs : ∀ q ∈ [p, flS p], q.length ≤ 100000 := fun q hq => by
      simp only [List.mem_cons, List.not_mem_nil, or_false] at hq
      rcases hq with rfl | rfl
      · exact hpl
      · rw [flS_len]; exact hpl
    have eqs : ([.str p, .str (flS p)] : List D) = [p, flS p].map D.str := rfl
    have ek : (rdL [.str p]).map D.lst = [p, flS p].flatMap fun q => (rots1 (sg q)).map fun l => .lst [.str ⟨l.toArray⟩] := by
      rw [rdL_one]
      unfold rdO
      rw [List.map_append, List.map_map, List.map_map]
      simp
      rfl
    rw [ek] at k
    rw [eqs]
    have hq2 : [p, flS p].length = 2 := rfl
    generalize [p, flS p] = qs at *
    refine ⟨fun i δ' => ∃ x2, δ' = [.sh (.lst [.str p]), .ow (.lst ((qs.take i).flatMap fun q => (rots1 (sg q)).map fun l => .lst [.str ⟨l.toArray⟩])), x2, .no, .no, .no], ⟨_, rfl⟩, ?_, ?_⟩
    · rintro i z δ' ez ⟨x2, rfl⟩
      obtain ⟨hi, rfl⟩ := mapAt ez
      have hq := hqs qs[i] (List.getElem_mem hi)
      have rl : ∀ q : Str, q.length ≤ 100000 → ((rots1 (sg q)).map fun l => D.lst [.str ⟨l.toArray⟩]).length ≤ 100000 := fun q h => by
        rw [List.length_map]
        unfold rots1
        rw [List.length_map, List.length_range, sg_len]; omega
      have hal := fm_len (l := qs.take i) (f := fun q => (rots1 (sg q)).map fun l => D.lst [.str ⟨l.toArray⟩]) (c := 100000) fun q h => rl q (hqs q (List.mem_of_mem_take h))
      rw [List.length_take] at hal
      have hal2 : min i qs.length * 100000 ≤ 2 * 100000 := Nat.mul_le_mul_right _ (by omega)
      have hq3 := rl _ hq
      have estep := fm_step (f := fun q => (rots1 (sg q)).map fun l => D.lst [.str ⟨l.toArray⟩]) hi
      refine tg_name ?_
      generalize (qs.take i).flatMap (fun q => (rots1 (sg q)).map fun l => D.lst [.str ⟨l.toArray⟩]) = acc at *
      generalize qs[i] = q at *
      show SD K _ [.sh (.lst [.str p]), .ow (.lst acc), .sh (.str q), .no, .no, .no] _
      refine sd_extend (i := 1) rfl (EvN.d (en_lcR (fun k => .lst [.str ⟨((sg q).drop k ++ (sg q).take k).toArray⟩]) ?_))
      refine ea_cons (ev_cb (ea_cons (ev_int (ea_cons (ev_cb (ea_cons (ev_var (i := 2) rfl (ea_nil (len_s (by omega) ?_)))))))))
      refine ea_nil (max_ii (ea_nil ⟨_, rfl, by omega, by omega, rfl, fun j hj => ?_, ?_⟩))
      · show EvD K _ [.sh (.lst [.str p]), .ow (.lst acc), .sh (.str q), .no, .no, .sh (.int (j : Nat))] _
        refine EvN.d (en_lst (ea_cons (ev_op (ev_sl (ev_var (i := 2) rfl (eo_some (ev_var (i := 5) rfl ⟨_, rfl, eo_none (sl_s (by omega) ?_)⟩)))))))
        refine ev_sl (ev_var (i := 2) rfl (eo_none (eo_some (ev_var (i := 5) rfl ⟨_, rfl, sl_s (by omega) ?_⟩))))
        have l1 := cutS_len q (some ((j : Nat) : Int)) none
        have l2 := cutS_len q none (some ((j : Nat) : Int))
        refine add_ss (by omega) (ea_nil ⟨Nat.le_of_ble_eq_true rfl, ?_, rfl⟩)
        rw [rotS_cut]
      · rw [show (max (1 : Int) (q.length : Int)).toNat = max 1 (sg q).length by rw [sg_len]; omega]
        have e5 : (List.range (max 1 (sg q).length)).map (fun k => D.lst [.str ⟨((sg q).drop k ++ (sg q).take k).toArray⟩]) = (rots1 (sg q)).map fun l => D.lst [.str ⟨l.toArray⟩] := by
          unfold rots1
          rw [List.map_map]; rfl
        rw [e5]
        refine ⟨_, _, rfl, rfl, by omega, .sh (.str q), ?_⟩
        rw [estep]; rfl
    · rintro δ' ⟨x2, rfl⟩
      refine sd_retO (i := 1) rfl ?_
      rw [List.length_map, List.take_of_length_le (Nat.le_refl _)]
      exact k
  | many _ h =>
    have h2 := h.two
    have hev := h.ev
    refine sd_seq (sd_if (et_test (ev_op (ev_cb (ea_cons (ev_var (i := 0) rfl (ea_nil (len_l (ev_int (eq_ii ⟨_, rfl, ite_f (decide_eq_false (by omega)) (sd_next ?_)⟩))))))))))
    refine sd_seq (sd_asg (ev_call (ea_cons (ev_var (i := 0) rfl (ea_nil ⟨_, xs, rfl, .inl rfl, fun x hx => h.item hx, by omega, ?_⟩)))))
    refine sd_seq (sd_asgN (en_lst (ea_nil ⟨Nat.zero_le _, ?_⟩)))
    show SD K _ [.sh (.lst xs), .ow (.lst []), .no, .sh (.lst (bk flI xs)), .no, .no] _
    refine sd_seq (sd_for (js := [4]) (ei_seqT (ev_tup (ea_cons (ev_var (i := 0) rfl (ea_cons (ev_op (ev_sl (ev_var (i := 3) rfl (eo_some (ev_int ⟨_, rfl, eo_none (sl_l ?_)⟩)))))))))))
    refine ev_sl (ev_var (i := 3) rfl (eo_none (eo_some (ev_int ⟨_, rfl, sl_l ?_⟩))))
    have e1 : cutL (bk flI xs) (some 1) none = (bk flI xs).drop 1 := cutL_from _ 1
    have e2 : cutL (bk flI xs) none (some 1) = (bk flI xs).take 1 := cutL_to _ 1
    rw [e1, e2]
    refine add_ll (by rw [List.length_drop, List.length_take, bk_len]; omega) (ea_nil ⟨Nat.le_of_ble_eq_true rfl, _, rfl, ?_⟩)
    have eqs : ([.lst xs, .lst ((bk flI xs).drop 1 ++ (bk flI xs).take 1)] : List D) = [xs, fl1 xs].map D.lst := rfl
    rw [eqs]
    have ek : (rdL xs).map D.lst = [xs, fl1 xs].flatMap fun ys => (rots2 ys).map D.lst := by
      rw [rdL_many h.two]
      unfold rdM
      rw [List.map_append]
      simp
    rw [ek] at k
    have hrs : ∀ ys ∈ [xs, fl1 xs], ys.length = xs.length := fun ys hy => by
      simp only [List.mem_cons, List.not_mem_nil, or_false] at hy
      rcases hy with rfl | rfl
      · rfl
      · have := (fl1_rg xs).len
        rw [this, bk_len]
    have hq2 : [xs, fl1 xs].length = 2 := rfl
    generalize [xs, fl1 xs] = rs at *
    refine ⟨fun i δ' => ∃ x4, δ' = [.sh (.lst xs), .ow (.lst ((rs.take i).flatMap fun ys => (rots2 ys).map D.lst)), .no, .sh (.lst (bk flI xs)), x4, .no], ⟨_, rfl⟩, ?_, ?_⟩
    · rintro i z δ' ez ⟨x4, rfl⟩
      obtain ⟨hi, rfl⟩ := mapAt ez
      have hq := hrs rs[i] (List.getElem_mem hi)
      have rl : ∀ ys : List D, ys.length = xs.length → ((rots2 ys).map D.lst).length ≤ 100000 := fun q h => by
        rw [List.length_map]
        unfold rots2
        rw [List.length_map, List.length_range]; omega
      have hal := fm_len (l := rs.take i) (f := fun ys => (rots2 ys).map D.lst) (c := 100000) fun q h => rl q (hrs q (List.mem_of_mem_take h))
      rw [List.length_take] at hal
      have hal2 : min i rs.length * 100000 ≤ 2 * 100000 := Nat.mul_le_mul_right _ (by omega)
      have hq3 := rl _ hq
      have estep := fm_step (f := fun ys => (rots2 ys).map D.lst) hi
      refine tg_name ?_
      generalize (rs.take i).flatMap (fun ys => (rots2 ys).map D.lst) = acc at *
      generalize rs[i] = ys at *
      show SD K _ [.sh (.lst xs), .ow (.lst acc), .no, .sh (.lst (bk flI xs)), .sh (.lst ys), .no] _
      refine sd_extend (i := 1) rfl (EvN.d (en_lcR2 (fun k => .lst (ys.drop (2 * k) ++ ys.take (2 * k))) ?_))
      refine ea_cons (ev_int (ea_cons (ev_cb (ea_cons (ev_var (i := 4) rfl (ea_nil (len_l (ea_cons (ev_int (ea_nil ⟨ys.length, rfl, by omega, rfl, fun j hj => ?_, ?_⟩))))))))))
      · show EvD K _ [.sh (.lst xs), .ow (.lst acc), .no, .sh (.lst (bk flI xs)), .sh (.lst ys), .sh (.int ((2 * j : Nat) : Int))] _
        refine ev_op (ev_sl (ev_var (i := 4) rfl (eo_some (ev_var (i := 5) rfl ⟨_, rfl, eo_none (sl_l ?_)⟩))))
        refine ev_sl (ev_var (i := 4) rfl (eo_none (eo_some (ev_var (i := 5) rfl ⟨_, rfl, sl_l ?_⟩))))
        rw [cutL_from, cutL_to]
        exact add_ll (by rw [List.length_drop, List.length_take]; omega) ⟨rfl, rfl⟩
      · have e5 : (List.range ((ys.length + 1) / 2)).map (fun k => D.lst (ys.drop (2 * k) ++ ys.take (2 * k))) = (rots2 ys).map D.lst := by
          unfold rots2
          rw [List.map_map, show (ys.length + 1) / 2 = ys.length / 2 by omega]; rfl
        rw [e5]
        refine ⟨_, _, rfl, rfl, by omega, .sh (.lst ys), ?_⟩
        rw [estep]; rfl
    · rintro δ' ⟨x4, rfl⟩
      refine sd_retO (i := 1) rfl ?_
      rw [List.length_map, List.take_of_length_le (Nat.le_refl _)]
      exact k
theorem cls_rg (h : RgK K) : Cls K (He.ga K "Ring") := h.ins.t.cl
theorem ev_rrow {i : Nat} {δ : List Sl} {r : List D} {Φ : D → List Sl → Prop} (h : RgK K) (hi : δ[i]? = some (.sh (ringD K r))) (k : Φ (.lst r) δ) : EvD K (tFld K (tVar i) "kept_row") δ Φ := ev_fld (ev_var hi ⟨_, _, _, rfl, cls_rg h, h.n1, rfl, k⟩)
theorem sd_Ring_init {x : Addr} {ds : List D} {post : List (Str × D) → Prop} (a : A_Ring_init K ds post) : SD K (t_Ring_init K) (.mo x (.ins (He.ga K "Ring") []) :: initS (n_Ring_init.drop 1) ds) { nx := fun δ' => ∃ fs, δ'[0]? = some (.mo x (.ins (He.ga K "Ring") fs)) ∧ post fs, rt := fun _ _ => False } := by
  obtain ⟨d, xs, rfl, hd, hw, hk, k⟩ := a
  unfold t_Ring_init
  show SD K _ [.mo x (.ins (He.ga K "Ring") []), .sh d] _
  refine sd_seq (sd_drop (ev_call (ea_cons (ev_var (i := 1) rfl (ea_nil ⟨d, xs, rfl, hd, hw, ?_⟩)))))
  refine sd_fld (i := 0) (a := x) (C := He.ga K "Ring") (ev_minK (key := fun d => match d with | .lst l => ringText l | _ => "") (ev_call (ea_cons (ev_cb (ea_cons (ev_var (i := 1) rfl (ea_nil (listSeqS hd (ea_nil ⟨xs, rfl, hw, ?_⟩)))))))))
  refine ⟨_, rfl, ?_, fun l hl q hq => ?_, fun r hr hlow => ?_⟩
  · rw [Ne, List.map_eq_nil_iff]; exact rdL_ne hw.ok
  · obtain ⟨ys, hy, rfl⟩ := List.mem_map.mp hl
    exact ⟨ys, rfl, rd_w hw hy, hq⟩
  · obtain ⟨ys, hy, rfl⟩ := List.mem_map.mp hr
    refine ⟨[], rfl, cls_rg hk, hk.n1, by decide, _, rfl, k ys ⟨hy, fun e he => hlow (.lst e) (List.mem_map.mpr ⟨e, he, rfl⟩)⟩⟩
theorem sd_law_row {b : Addr} {n : Nat} {ds : List D} {post : Rs → Nat → Prop} (a : B_law_row n ds post) : SD K (t_law_row K) (.bx b n :: initS (n_law_row.drop 1) ds) { nx := fun δ' => ∃ m, BoxS b m δ'[0]? ∧ post (.val .non) m, rt := fun r δ' => ∃ m, BoxS b m δ'[0]? ∧ post r m } := by
  obtain ⟨many, rfl, m0, m1, hn, k⟩ := a
  have hl : n + 3000 ≤ 1099511627776 := hn
  have big3 : 2000000 ≤ sizeLine := by decide
  unfold t_law_row
  show SD K _ [.bx b n, .sh (.int many), .no, .no, .no] _
  refine sd_seq (sd_asgN (en_op (ev_callX (i := 0) rfl ?_)))
  repeat walk_at "e"
  refine ⟨m0, by omega, by show n + 10 ≤ 1099511627776; omega, fun names hnl hnn hnd hnz => ?_⟩
  repeat walk_at "e"
  refine mul_liN (by decide) (by decide) (by rw [List.length_map, show (2 : Int).toNat = 2 from rfl]; omega) ?_
  have e2 : (List.replicate (2 : Int).toNat (names.map D.str)).flatten = (names ++ names).map D.str := by
    show (List.replicate 2 (names.map D.str)).flatten = _
    simp [List.replicate]
  rw [e2]
  show SD K _ [.bx b (n + 10), .sh (.int many), .ow (.lst ((names ++ names).map .str)), .no, .no] _
  refine sd_seq (sd_asgN (en_lst ?_))
  repeat walk_at "e"
  refine ⟨by show n + 10 + 50 ≤ 1099511627776; omega, fun z hz1 hz2 => ?_⟩
  repeat walk_at "e"
  show SD K _ [.bx b (n + 10 + 50), .sh (.int many), .ow (.lst ((names ++ names).map .str)), .ow (.lst (rowL z [])), .no] _
  refine sd_seq (sd_for (js := [4]) (ei_range1 ?_))
  repeat walk_at "e"
  refine mul_ii (.inl ⟨by decide, by decide⟩) ?_
  repeat walk_at "e"
  refine ⟨by omega, by omega, ?_⟩
  refine ⟨fun i δ' => ∃ m ms slots x4, δ' = [.bx b m, .sh (.int many), .ow (.lst (slots.map .str)), .ow (.lst (rowL z ms)), x4] ∧ m ≤ n + 60 + 52 * i ∧ RowOk z ms ∧ (∀ x ∈ ms, x.2.length ≤ 40) ∧ (slots.length : Int) + i = 2 * many ∧ ms.length = i ∧ (namesOf ms ++ slots).Perm (names ++ names), ⟨_, [], names ++ names, _, rfl, by omega, ⟨hz2, by simp, by simp⟩, by simp, by simp; omega, rfl, .refl _⟩, ?_, ?_⟩
  · rintro i x δ' ex ⟨m, ms, slots, x4, rfl, hm, ok, hq, hsl, hml, pm⟩
    have hi : i < (2 * many).toNat := by
      have := (List.getElem?_eq_some_iff.mp ex).1
      rw [rangeD_len] at this; exact this
    rw [rangeD_get _ _ _ hi] at ex
    have ex' : x = .int (i : Nat) := by
      have := Option.some.inj ex
      rw [← this]; simp
    subst ex'
    have hrl := rowL_len z ms
    refine tg_name ?_
    show SD K _ [.bx b m, .sh (.int many), .ow (.lst (slots.map .str)), .ow (.lst (rowL z ms)), .sh (.int (i : Nat))] _
    refine sd_seq (sd_append (i := 3) rfl (ev_tup (ea_cons (ev_popO (i := 2) rfl ?_))))
    repeat walk_at "e"
    refine ⟨by rw [List.length_map]; omega, by rw [List.length_map]; exact log_few (by omega), by show m + 1 ≤ 1099511627776; omega, fun r r0 r1 => ?_⟩
    rw [List.length_map] at r1
    have hr : r.toNat < slots.length := by omega
    refine ⟨r.toNat, .str slots[r.toNat], slots.map .str, by show D.int r = _; congr 1; omega, rfl, by rw [List.getElem?_map, List.getElem?_eq_getElem hr]; rfl, by omega, ?_⟩
    rw [map_erase]
    show EvA K _ [.bx b (m + 1), .sh (.int many), .ow (.lst ((slots.eraseIdx r.toNat).map .str)), .ow (.lst (rowL z ms)), .sh (.int (i : Nat))] _
    repeat walk_at "e"
    refine ⟨by decide, by decide, by show m + 1 + 1 ≤ 1099511627776; omega, fun r2 r3 r4 => ?_⟩
    repeat walk_at "e"
    refine ⟨by omega, ?_⟩
    refine sd_append (i := 3) rfl ?_
    show EvD K _ [.bx b (m + 1 + 1), .sh (.int many), .ow (.lst ((slots.eraseIdx r.toNat).map .str)), .ow (.lst (rowL z ms ++ [.tup [.str slots[r.toNat], .bl (decide (r2 = 0))]])), .sh (.int (i : Nat))] _
    repeat walk_at "e"
    refine ⟨by show m + 1 + 1 + 50 ≤ 1099511627776; omega, fun y hy1 hy2 => ?_⟩
    refine ⟨_, rfl, by rw [List.length_append]; simp; omega, ?_⟩
    have hsn : nameS slots[r.toNat] = true := by
      have : slots[r.toNat] ∈ names ++ names := pm.mem_iff.mp (List.mem_append_right _ (List.getElem_mem hr))
      exact hnn _ (by simpa using this)
    have hel : (slots.eraseIdx r.toNat).length = slots.length - 1 := by rw [List.length_eraseIdx_of_lt hr]
    refine ⟨m + 1 + 1 + 50, ms ++ [((slots[r.toNat], decide (r2 = 0)), y)], slots.eraseIdx r.toNat, .sh (.int (i : Nat)), ?_, by omega, ⟨hz2, fun q hq' => ?_, fun q hq' => ?_⟩, fun q hq' => ?_, by rw [hel]; omega, by rw [List.length_append, hml]; rfl, ?_⟩
    · rw [rowL_snoc]
      show [Sl.bx b _, _, _, .ow (.lst (rowL z ms ++ [_] ++ [_])), _] = _
      rw [List.append_assoc]; rfl
    · rcases List.mem_append.mp hq' with h | h
      · exact ok.nm q h
      · rw [List.mem_singleton.mp h]; exact hsn
    · rcases List.mem_append.mp hq' with h | h
      · exact ok.pc q h
      · rw [List.mem_singleton.mp h]; exact hy2
    · rcases List.mem_append.mp hq' with h | h
      · exact hq q h
      · rw [List.mem_singleton.mp h]; exact hy1
    · refine List.Perm.trans ?_ pm
      have e1 : namesOf (ms ++ [((slots[r.toNat], decide (r2 = 0)), y)]) = namesOf ms ++ [slots[r.toNat]] := by unfold namesOf; rw [List.map_append]; rfl
      rw [e1, List.append_assoc]
      exact List.Perm.append_left _ (perm_pop hr)
  · rintro δ' ⟨m, ms, slots, x4, rfl, hm, ok, hq, hsl, hml, pm⟩
    rw [rangeD_len] at hsl hml hm
    have hs0 : slots = [] := List.eq_nil_of_length_eq_zero (by omega)
    subst hs0
    rw [List.append_nil] at pm
    refine sd_retO (i := 3) rfl ?_
    have so : StOk z ms := stok_of ok hz1 hq hnd (many := many.toNat) (by omega) (by omega) pm
    have sl := so.len
    have hsub : ∀ x, x ∈ namesOf ms → x ∈ names := fun x hx => by
      have := pm.mem_iff.mp hx
      simpa using this
    refine ⟨n + 3000, ⟨rfl, by omega⟩, k z ms so ?_ (by omega) fun ⟨z0, z1, z2, z3⟩ => hnz ⟨hsub _ z0, hsub _ z1, hsub _ z2, hsub _ z3⟩⟩
    have := lets_le hq
    unfold rowW
    have : ms.length * 40 ≤ 24 * 40 := Nat.mul_le_mul_right _ (by omega)
    omega

theorem sumOnes {α : Type} : ∀ l : List α, (l.map fun _ => 1).sum = l.length
  | [] => rfl
  | a :: l => by rw [List.map_cons, List.sum_cons, sumOnes l, List.length_cons]; omega
theorem up_low2 : Txt.upper "abcdefghijklmnopqrstuvwxyz" = lowU := by
  rw [upper_ascii (x := "abcdefghijklmnopqrstuvwxyz") (by decide +kernel)]
  decide +kernel
theorem len_sg {z : Str} {n : Nat} (h : z.length = n) : (sg z).length = n := by rw [sg_len]; exact h
theorem sd_law_turned {ds : List D} {post : Rs → Prop} (a : B_law_turned K ds post) : SD K (t_law_turned K) (initS n_law_turned ds) { nx := fun _ => post (.val .non), rt := fun r _ => post r } := by
  obtain ⟨xs, rfl, hi, hw, k⟩ := a
  have big3 : 2000000 ≤ sizeLine := by decide
  have hl := txW_len xs
  unfold t_law_turned
  show SD K _ [.sh (.lst xs), .no, .no, .no, .no, .no] _
  refine sd_seq (sd_asg (ev_str ?_))
  refine sd_seq (sd_asg (EvN.d (en_cb (ea_cons (ev_op ?_)))))
  refine EvN.d (en_lz (ea_cons (ev_var (i := 1) rfl (ea_cons (ev_m0 (ev_var (i := 1) rfl ⟨⟨_, rfl⟩, upper_s (Nat.le_of_ble_eq_true rfl) ?_⟩))))))
  rw [up_low2]
  refine ea_nil ⟨lowL, lowU, rfl, by decide +kernel, ?_⟩
  refine EvN.d (en_lz (ea_cons (ev_m0 (ev_var (i := 1) rfl ⟨⟨_, rfl⟩, upper_s (Nat.le_of_ble_eq_true rfl) ?_⟩))))
  rw [up_low2]
  refine ea_cons (ev_var (i := 1) rfl (ea_nil ⟨lowU, lowL, rfl, by decide +kernel, ?_⟩))
  have l1 : (pairsD lowL lowU).length = 26 := by decide +kernel
  have l2 : (pairsD lowU lowL).length = 26 := by decide +kernel
  refine add_ll (by omega) ?_
  rw [table_pairs]
  refine ea_nil (dictP_N table_nodup ?_)
  refine sd_seq (sd_asgN (en_lst (ea_nil ⟨Nat.zero_le _, ?_⟩)))
  show SD K _ [.sh (.lst xs), .sh (.str lowL), .sh (.dic tableD), .ow (.lst []), .no, .no] _
  refine sd_seq (sd_for (js := [4]) (ei_seqL (ev_var (i := 0) rfl ⟨_, rfl, ?_⟩)))
  refine ⟨fun i δ' => ∃ x4, δ' = [.sh (.lst xs), .sh (.str lowL), .sh (.dic tableD), .ow (.lst ((xs.take i).reverse.map flI)), x4, .no], ⟨_, rfl⟩, ?_, ?_⟩
  · rintro i x δ' ex ⟨x4, rfl⟩
    have hx := List.mem_of_getElem? ex
    have hx1 := txW_mem hx
    have hilt : i < xs.length := (List.getElem?_eq_some_iff.mp ex).1
    have hxi : xs[i] = x := (List.getElem?_eq_some_iff.mp ex).2
    have estep : (xs.take (i + 1)).reverse.map flI = [flI x] ++ (xs.take i).reverse.map flI := by
      rw [List.take_succ_eq_append_getElem hilt, List.reverse_append, List.map_append, hxi]
      rfl
    have hal : ((xs.take i).reverse.map flI).length ≤ xs.length := by rw [List.length_map, List.length_reverse, List.length_take]; omega
    generalize (xs.take i).reverse.map flI = acc at *
    have okd := item_okd (K := K) (hi x hx) (by omega)
    refine tg_name ?_
    show SD K _ [.sh (.lst xs), .sh (.str lowL), .sh (.dic tableD), .ow (.lst acc), .sh x, .no] _
    refine sd_if (et_B (ev_cb (ea_cons (ev_var (i := 4) rfl (ea_cons (ev_c (fun _ => rep_ty _) (ea_nil (isi_tuple okd ?_))))))))
    rcases item_len (hi x hx) with ⟨z, rfl, hz, hzl⟩ | ⟨m, rfl, hm⟩
    · refine ⟨_, rfl, ite_f rfl ?_⟩
      refine sd_insert (i := 3) rfl (ev_int (ev_m1 (ev_str ⟨⟨_, rfl⟩, EvN.d (en_lcS (fun c => .str ⟨#[swapC c]⟩) (ev_un (ev_var (i := 4) rfl (stepU_s (by omega) ?_))))⟩)))
      rw [pickZ_rev]
      refine ⟨_, rfl, rfl, ?_, fun c hc => ?_, ?_⟩
      · rw [← sg_len, sg_mk, List.length_reverse, sg_len]; omega
      · have hc2 : c ∈ sg z := by
          have : c ∈ (sg z).reverse := hc
          simpa using this
        have hlc : (isLow c || isUpp c) = true := List.all_eq_true.mp hz c hc2
        show EvD K _ [.sh (.lst xs), .sh (.str lowL), .sh (.dic tableD), .ow (.lst acc), .sh (.str z), .sh (.str ⟨#[c]⟩)] _
        exact ev_dget (ev_var (i := 2) rfl (ev_var (i := 5) rfl ⟨tableD, .inr ⟨#[c]⟩, _, .inr rfl, rfl, table_val hlc, rfl, rfl⟩))
      · refine join_l (ys := (sg z).reverse.map fun c => ⟨#[swapC c]⟩) (by
          show ((sg z).reverse.map fun c => D.str ⟨#[swapC c]⟩) = _
          rw [List.map_map]; rfl) ?_ ?_
        · rw [List.length_map, show ("" : Str).length = 0 from rfl, List.map_map]
          have : ((sg z).reverse.map ((·.length) ∘ fun c => (⟨#[swapC c]⟩ : Str))) = (sg z).reverse.map fun _ => 1 := rfl
          rw [this]
          have e : ((sg z).reverse.map fun _ => 1).sum = (sg z).length := by rw [sumOnes, List.length_reverse]
          rw [e, sg_len]; omega
        · have e : Txt.join "" ((sg z).reverse.map fun c => (⟨#[swapC c]⟩ : Str)) = flS z := str_ext (by
            rw [sg_join0, List.map_map, sg_flS]
            show ((sg z).reverse.map fun c => [swapC c]).flatten = _
            generalize (sg z).reverse = l
            induction l with
            | nil => rfl
            | cons c l ih => simp [ih])
          rw [e]
          refine ⟨0, _, rfl, by decide, by decide, rfl, by omega, .sh (.str z), ?_⟩
          rw [estep]; rfl
    · refine ⟨_, rfl, ite_t rfl ?_⟩
      refine sd_insert (i := 3) rfl (ev_int (ev_tup (ea_cons (ev_op (ev_var (i := 4) rfl (ev_int (ix_t (d := .str m.1) rfl ?_)))))))
      refine ea_cons (ev_not (ev_op (ev_var (i := 4) rfl (ev_int (ix_t (d := .bl m.2) rfl ?_)))))
      refine ⟨_, rfl, ea_nil ⟨Nat.le_of_ble_eq_true rfl, ?_⟩⟩
      refine ⟨0, _, rfl, by decide, by decide, rfl, by omega, .sh (mkD m), ?_⟩
      rw [estep]; rfl
  · rintro δ' ⟨x4, rfl⟩
    refine sd_retO (i := 3) rfl ?_
    rw [List.take_of_length_le (Nat.le_refl _)]
    exact k

theorem sd_parOO {δ : List Sl} {P : Po} {i j : Nat} {ta tb : TE} (h : EvN K ta δ fun o δ1 => ∃ ds, o = .lst ds ∧ EvN K tb δ1 fun o2 δ2 => P.nx ((δ2.set i (.ow (.lst ds))).set j (.ow o2))) : SD K (tPar i j (tCons ta (tCons tb tNil))) δ P := fun M L G0 H0 G H σ E c n r b ct =>
  h M L G0 H0 G H σ c _ fun o δ1 a G1 H1 s1 c1 na h0 w ap hL ⟨ds, e, h1⟩ => by
    subst e
    obtain ⟨xs, hx, rx⟩ := w
    refine h1 M _ G0 H0 G1 H1 σ (c1.pinAp na h0 hx ap) _ fun o2 δ2 a2 G2 H2 s2 c2 na2 h02 w2 ap2 hL2 k => ?_
    obtain ⟨hx2, n2, _, apa⟩ := c2.pn (a, .lst xs) List.mem_cons_self
    have hne : a ≠ a2 := hL2 (a, .lst xs) List.mem_cons_self
    have c3 := c2.unpin.setOw i (o := .lst ds) n2 h0 ⟨xs, hx2, rx.mono s2⟩ apa hL
    refine ⟨.ref a, .ref a2, rfl, n _ _ G2 H2 (s1.trans s2) (c3.setOw j na2 h02 w2 (fun l s hs ho => ?_) fun p hp => hL2 p (List.mem_cons_of_mem _ hp)) k⟩
    by_cases e : i = l
    · subst e
      by_cases hi : i < σ.length
      · rw [List.getElem?_set_self hi]
        intro z
        exact hne (by injection z with z; injection z with z; injection z)
      · rw [List.getElem?_eq_none (by rw [List.length_set]; omega)]
        exact fun z => nomatch z
    · rw [List.getElem?_set_ne e] at hs
      rw [List.getElem?_set_ne e]
      exact ap2 l s hs ho
theorem sd_par3O {δ : List Sl} {P : Po} {i j l : Nat} {ta tb tc : TE} (h : EvD K ta δ fun d δ1 => EvD K tb δ1 fun e δ2 => EvN K tc δ2 fun o δ3 => P.nx (((δ3.set i (.sh d)).set j (.sh e)).set l (.ow o))) : SD K (tPar3 i j l (tCons ta (tCons tb (tCons tc tNil)))) δ P := fun M L G0 H0 G H σ E c n r b ct =>
  h M L G0 H0 G H σ c _ fun d δ1 v G1 H1 s1 c1 r1 h1 => h1 M L G0 H0 G1 H1 σ c1 _ fun d2 δ2 v2 G2 H2 s2 c2 r2 h2 => h2 M L G0 H0 G2 H2 σ c2 _ fun o δ3 a G3 H3 s3 c3 na h0 w ap hL k => by
    refine ⟨v, v2, .ref a, rfl, n _ _ G3 H3 ((s1.trans s2).trans s3) (((c3.setSh i ((r1.mono s2).mono s3)).setSh j (r2.mono s3)).setOw l na h0 w (fun q s hs ho => ?_) hL) k⟩
    have one : ∀ (δ' : List Sl) (σ' : L2.St) (i : Nat) (d : D) (v : V), (∀ (q : Nat) (s : Sl), δ'[q]? = some s → s.own = true → σ'[q]? ≠ some (some (.ref a))) → ∀ (q : Nat) (s : Sl), (δ'.set i (.sh d))[q]? = some s → s.own = true → (σ'.set i (some v))[q]? ≠ some (some (.ref a)) := fun δ' σ' i d v hh q s hs ho => by
      by_cases e : i = q
      · subst e
        by_cases hi : i < δ'.length
        · rw [List.getElem?_set_self hi] at hs
          cases hs; cases ho
        · rw [List.getElem?_eq_none (by rw [List.length_set]; omega)] at hs
          cases hs
      · rw [List.getElem?_set_ne e] at hs
        rw [List.getElem?_set_ne e]
        exact hh q s hs ho
    exact one _ _ j d2 v2 (one _ _ i d v ap) q s hs ho
theorem len_own {p : Str} {ms : List It2} {Ψ : D → Prop} (hk : StK K) (ok : StOk p ms) (k : Ψ (.int (numsOf ms).length)) : RAD K (rLenOwn (He.ga K "Strip") (spG K (A_Strip_len K))) [stripD K p ms] Ψ :=
  own_d ⟨p, ms, rfl, hk, _, rfl, fun G v r => ⟨_, r.int_inv, by omega, by have := ok.few; omega⟩, k⟩
theorem str_own {p : Str} {ms : List It2} {Ψ : D → Prop} (hk : StK K) (ok : StOk p ms) (k : Ψ (.str (itemsText (rowL p ms)))) : RAD K (rStrOwn (He.ga K "Strip") (spG K (A_Strip_str K))) [stripD K p ms] Ψ :=
  own_d ⟨p, ms, rfl, hk, ok, _, rfl, fun G v r => ⟨_, r.str_inv⟩, k⟩
theorem repr_own {p : Str} {ms : List It2} {Ψ : D → Prop} (hk : StK K) (ok : StOk p ms) (k : Ψ (.str (("Strip(" : Str) ++ itemsText (rowL p ms) ++ ")"))) : RAD K (rStrOwn (He.ga K "Strip") (spG K (A_Strip_repr K))) [stripD K p ms] Ψ :=
  own_d ⟨p, ms, rfl, hk, ok, _, rfl, fun G v r => ⟨_, r.str_inv⟩, k⟩
theorem isB {a b : Bool} {Ψ : D → Prop} (k : Ψ (.bl (decide (a = b)))) : R2D K rIsB (.bl a) (.bl b) Ψ := fun G H v w s rx ry => RD.val s (rep_bl _) k fun Q q => ⟨a, b, rx.bl_inv, ry.bl_inv, q⟩
theorem notB {a b : Bool} {Ψ : D → Prop} (k : Ψ (.bl (!decide (a = b)))) : R2D K rNotB (.bl a) (.bl b) Ψ := fun G H v w s rx ry => RD.val s (rep_bl _) k fun Q q => ⟨a, b, rx.bl_inv, ry.bl_inv, q⟩

theorem inF_strs (z : Str) (zs : List Str) : inF (.str z) (zs.map .str) = decide (z ∈ zs) := by
  unfold inF
  rw [List.map_map]
  have e : (zs.map (D.v ∘ D.str)) = zs.map V.str := by simp [Function.comp_def, D.v]
  rw [e]
  show (zs.map V.str).any (fun y => eqV y (.str z)) = _
  induction zs with
  | nil => rfl
  | cons g gs ih =>
    rw [List.map_cons, List.any_cons, ih (by simp [Function.comp_def, D.v])]
    by_cases h : g = z
    · subst h; simp [eqV]
    · have h' : ¬ z = g := fun q => h q.symm
      simp [eqV, h, h']
theorem atIn {xs : List D} {i : Nat} (hi : i < xs.length) : atI xs ((i : Nat) : Int) = some xs[i] := by
  obtain ⟨d, h1, _, h2⟩ := atI_at (xs := xs) (i := ((i : Nat) : Int)) (by omega) (by omega)
  rw [show ((i : Nat) : Int).toNat = i by omega, List.getElem?_eq_getElem hi] at h2
  rw [h1, ← h2]
theorem ixNn {n i : Nat} (hi : i < n) : ixN n ((i : Nat) : Int) = some i := by
  have := ixN_at (n := n) (i := ((i : Nat) : Int)) (by omega) (by omega)
  rw [this]; congr 1
theorem txW_set {xs : List D} {i : Nat} {d : D} : txW (xs.set i d) ≤ txW xs + ((itemText d).length + 1) := by
  induction xs generalizing i with
  | nil => simp [txW]
  | cons x xs ih =>
    cases i with
    | zero => rw [List.set_cons_zero, txW_cons, txW_cons]; omega
    | succ i => rw [List.set_cons_succ, txW_cons, txW_cons]; have := ih (i := i); omega
theorem upper_piece {z : Str} (h : pieceS z = true) : pieceS (Txt.upper z) = true ∧ (Txt.upper z).length = z.length := by
  have hz : ∀ c ∈ z.cps.toList, (97 ≤ c ∧ c ≤ 122) ∨ (65 ≤ c ∧ c ≤ 90) := fun c hc => ltr_is.mp (List.all_eq_true.mp h c hc)
  have e : Txt.upper z = ⟨z.cps.map up1⟩ := upper_ascii (x := z) fun c hc => by
    rcases hz c hc with q | q <;> omega
  rw [e]
  refine ⟨?_, by rw [← sg_len, ← sg_len]; simp [sg]⟩
  unfold pieceS
  rw [List.all_eq_true]
  intro c hc
  have hc : c ∈ (z.cps.map up1).toList := hc
  rw [Array.toList_map] at hc
  obtain ⟨d, hd, rfl⟩ := List.mem_map.mp hc
  rw [ltr_is]
  unfold up1
  rcases hz d hd with q | q
  · rw [if_pos q]; omega
  · rw [if_neg (by omega)]; omega
theorem log_nat {k : Nat} (h : k ≤ 16000) : ((k : Nat) : Int).natAbs.log2 < 9000 := by
  rw [show ((k : Nat) : Int).natAbs = k by omega]
  by_cases hk : k = 0
  · subst hk; decide
  · have h0 : k < 2 ^ 14 := Nat.lt_of_le_of_lt h (by decide)
    have h1 := (Nat.log2_lt hk (k := 14)).mpr h0
    omega
theorem odds_set (xs : List D) (ms : List It2) (p : Str) (e : xs = rowL p ms) : odds xs = ms.map fun x => mkD x.1 := by
  subst e
  induction ms generalizing p with
  | nil => rfl
  | cons x r ih => show mkD x.1 :: odds (rowL x.2 r) = _; rw [ih]; rfl
def freshL (names : List Str) : List Str := (["z", "zz", "zzzz", "qqqq"] : List Str).filter fun z => !decide (z ∈ names)
theorem fresh_has {names : List Str} (h : ¬ (("z" : Str) ∈ names ∧ ("zz" : Str) ∈ names ∧ ("zzzz" : Str) ∈ names ∧ ("qqqq" : Str) ∈ names)) : ∃ f r, freshL names = f :: r ∧ f ∉ names ∧ nameS f = true := by
  cases hf : freshL names with
  | nil =>
    exfalso
    unfold freshL at hf
    rw [List.filter_eq_nil_iff] at hf
    refine h ⟨?_, ?_, ?_, ?_⟩
    · have := hf "z" (by simp); simpa using this
    · have := hf "zz" (by simp); simpa using this
    · have := hf "zzzz" (by simp); simpa using this
    · have := hf "qqqq" (by simp); simpa using this
  | cons f r =>
    have hm : f ∈ freshL names := by rw [hf]; exact List.mem_cons_self
    unfold freshL at hm
    obtain ⟨h1, h2⟩ := List.mem_filter.mp hm
    refine ⟨f, r, rfl, by simpa using h2, ?_⟩
    exact (by decide +kernel : ∀ f ∈ (["z", "zz", "zzzz", "qqqq"] : List Str), nameS f = true) f h1
theorem sd_law_near {b : Addr} {n : Nat} {ds : List D} {post : Rs → Nat → Prop} (a : B_law_near n ds post) : SD K (t_law_near K) (.bx b n :: initS (n_law_near.drop 1) ds) { nx := fun δ' => ∃ m, BoxS b m δ'[0]? ∧ post (.val .non) m, rt := fun r δ' => ∃ m, BoxS b m δ'[0]? ∧ post r m } := by
  obtain ⟨p0, ms, rfl, so, hrw, hnm, hz4, hn, k⟩ := a
  have hl : n + 10 ≤ 1099511627776 := hn
  have big3 : 2000000 ≤ sizeLine := by decide
  have Y := so.rowY
  have sl := so.len
  have hxl := rowL_len p0 ms
  have htx := (row_tx ms p0 so.row.nm).2
  have hodd := odds_set (rowL p0 ms) ms p0 rfl
  have hnames := row_nm ms p0
  generalize hX : rowL p0 ms = xs at *
  have hlen : xs.length ≤ 29 := by omega
  have hw : txW xs ≤ 1200 := by omega
  unfold t_law_near
  show SD K _ [.bx b n, .sh (.lst xs), .no, .no, .no, .no, .no, .no, .no, .no] _
  have e2 : ((xs.length : Nat) : Int) / 2 = ((ms.length : Nat) : Int) := by omega
  -- two even places
  refine sd_seq (sd_asgT (js := [2] ++ ([3] ++ [])) (ev_tup (ea_cons (ev_op (ev_int (ev_callX (i := 0) rfl (ea_cons (ev_op (ev_op (ev_cb (ea_cons (ev_var (i := 1) rfl (ea_nil (len_l (ev_int (div_ii (by decide) (by decide) (ev_int (add_ii (ea_nil ?_)))))))))))))))))))
  rw [e2]
  refine ⟨n, rfl, _, rfl, by omega, by rw [show ((ms.length : Nat) : Int) + 1 = ((ms.length + 1 : Nat) : Int) by omega]; exact log_nat (by omega), by show n + 1 ≤ 1099511627776; omega, fun r r0 r1 => ?_⟩
  refine mul_ii (.inl ⟨by decide, by decide⟩) (ea_cons (ev_op (ev_int (ev_callX (i := 0) rfl (ea_cons (ev_op (ev_op (ev_cb (ea_cons (ev_var (i := 1) rfl (ea_nil (len_l (ev_int (div_ii (by decide) (by decide) (ev_int (add_ii (ea_nil ?_)))))))))))))))))
  rw [e2]
  refine ⟨n + 1, rfl, _, rfl, by omega, by rw [show ((ms.length : Nat) : Int) + 1 = ((ms.length + 1 : Nat) : Int) by omega]; exact log_nat (by omega), by show n + 1 + 1 ≤ 1099511627776; omega, fun r' r0' r1' => ?_⟩
  refine mul_ii (.inl ⟨by decide, by decide⟩) (ea_nil ⟨Nat.le_of_ble_eq_true rfl, ?_⟩)
  refine tg_tup rfl (tgs_cons (tg_name (tgs_cons (tg_name (tgs_nil ?_)))))
  obtain ⟨p, hp, hpx, hpe⟩ : ∃ p : Nat, 2 * r = ((p : Nat) : Int) ∧ p < xs.length ∧ p % 2 = 0 := ⟨2 * r.toNat, by omega, by omega, by omega⟩
  obtain ⟨q, hq, hqx, hqe⟩ : ∃ q : Nat, 2 * r' = ((q : Nat) : Int) ∧ q < xs.length ∧ q % 2 = 0 := ⟨2 * r'.toNat, by omega, by omega, by omega⟩
  rw [hp, hq]
  show SD K _ [.bx b (n + 1 + 1), .sh (.lst xs), .sh (.int (p : Nat)), .sh (.int (q : Nat)), .no, .no, .no, .no, .no, .no] _
  obtain ⟨z, hz, hzp⟩ := Y.piece hpx hpe
  obtain ⟨y, hy, hyp⟩ := Y.piece hqx hqe
  have az : atI xs ((p : Nat) : Int) = some (.str z) := by rw [atIn hpx, hz]
  have ay : atI xs ((q : Nat) : Int) = some (.str y) := by rw [atIn hqx, hy]
  have zl : z.length ≤ 1200 := by
    have h1 := txW_mem (List.getElem_mem hpx)
    rw [hz] at h1
    have h2 := piece_le z
    omega
  have ix1 := ixNn hpx
  have ix2 := ixNn hqx
  refine sd_seq (sd_parOO (en_cb (ea_cons (ev_var (i := 1) rfl (ea_nil (list_lN ⟨_, rfl, en_lst (ea_nil ⟨Nat.zero_le _, ?_⟩)⟩))))))
  show SD K _ [.bx b (n + 1 + 1), .sh (.lst xs), .sh (.int (p : Nat)), .sh (.int (q : Nat)), .ow (.lst xs), .ow (.lst []), .no, .no, .no, .no] _
  -- a letter more
  refine sd_seq (sd_setI (i := 4) rfl (ev_op (ev_ixO (i := 4) (ds0 := xs) ixU_own rfl (ev_var (i := 2) rfl ⟨_, _, _, rfl, rfl, az, ev_str (add_ss (by rw [show ("x" : Str).length = 1 from rfl]; omega) ⟨_, rfl, ev_var (i := 2) rfl ⟨_, _, _, rfl, rfl, ix1, ?_⟩⟩)⟩))))
  have Y1 : RowY (xs.set p (.str (z ++ ("x" : Str)))) := Y.set hpx (by rw [if_neg (by omega)]; exact piece_app hzp (by decide +kernel)) (by rw [hz]; rfl)
  have W1 : txW (xs.set p (.str (z ++ ("x" : Str)))) ≤ 3000 := by
    have h1 := piece_le' (z ++ ("x" : Str))
    rw [len_app, show ("x" : Str).length = 1 from rfl] at h1
    have h2 := txW_set (xs := xs) (i := p) (d := .str (z ++ ("x" : Str)))
    omega
  generalize xs.set p (.str (z ++ ("x" : Str))) = l1 at Y1 W1
  refine sd_seq (sd_append (i := 5) rfl (ev_varF (i := 4) rfl ⟨_, rfl, by show 0 < _; decide, ?_⟩))
  show SD K _ [.bx b (n + 1 + 1), .sh (.lst xs), .sh (.int (p : Nat)), .sh (.int (q : Nat)), .sh (.lst l1), .ow (.lst [.lst l1]), .no, .no, .no, .no] _
  -- great letters
  refine sd_seq (sd_asgN (en_cb (ea_cons (ev_var (i := 1) rfl (ea_nil (list_lN ?_))))))
  refine sd_seq (sd_setI (i := 4) (ds0 := xs) rfl (ev_m0 (ev_ixO (i := 4) (ds0 := xs) ixU_own rfl (ev_var (i := 2) rfl ⟨_, _, _, rfl, rfl, az, ⟨_, rfl⟩, upper_s (by omega) ⟨_, rfl, ev_var (i := 2) rfl ⟨_, _, _, rfl, rfl, ix1, ?_⟩⟩⟩))))
  have hu := upper_piece hzp
  have Y2 : RowY (xs.set p (.str (Txt.upper z))) := Y.set hpx (by rw [if_neg (by omega)]; exact hu.1) (by rw [hz]; rfl)
  have W2 : txW (xs.set p (.str (Txt.upper z))) ≤ 3000 := by
    have h1 := piece_le' (Txt.upper z)
    have h2 := txW_set (xs := xs) (i := p) (d := .str (Txt.upper z))
    omega
  generalize xs.set p (.str (Txt.upper z)) = l2 at Y2 W2
  refine sd_seq (sd_append (i := 5) (ds0 := [.lst l1]) rfl (ev_varF (i := 4) (o := .lst l2) rfl ⟨_, rfl, by show 1 < _; decide, ?_⟩))
  show SD K _ [.bx b (n + 1 + 1), .sh (.lst xs), .sh (.int (p : Nat)), .sh (.int (q : Nat)), .sh (.lst l2), .ow (.lst [.lst l1, .lst l2]), .no, .no, .no, .no] _
  -- two pieces exchanged
  refine sd_seq (sd_asgN (en_cb (ea_cons (ev_var (i := 1) rfl (ea_nil (list_lN ?_))))))
  refine sd_seq (sd_asgT (js := [] ++ ([] ++ [])) (ev_tup (ea_cons (ev_ixO (i := 4) (ds0 := xs) ixU_own rfl (ev_var (i := 3) rfl ⟨_, _, _, rfl, rfl, ay, ?_⟩)))))
  refine ea_cons (ev_ixO (i := 4) (ds0 := xs) ixU_own rfl (ev_var (i := 2) rfl ⟨_, _, _, rfl, rfl, az, ea_nil ⟨Nat.le_of_ble_eq_true rfl, ?_⟩⟩))
  refine tg_tup rfl (tgs_cons (tg_sub (i := 4) (ds0 := xs) rfl (ev_var (i := 2) rfl ⟨_, _, _, rfl, rfl, ix1, ?_⟩)))
  refine tgs_cons (tg_sub (i := 4) (ds0 := xs.set p (.str y)) rfl (ev_var (i := 3) rfl ⟨_, _, _, rfl, rfl, by rw [List.length_set]; exact ix2, tgs_nil ?_⟩))
  have Y3 : RowY ((xs.set p (.str y)).set q (.str z)) := by
    have := Y.swap hpx hqx (by omega)
    rw [hy, hz] at this; exact this
  have W3 : txW ((xs.set p (.str y)).set q (.str z)) ≤ 3000 := by
    have := tx_perm (swap_perm (List.getElem?_eq_getElem hpx) (List.getElem?_eq_getElem hqx))
    rw [hy, hz] at this; omega
  generalize (xs.set p (.str y)).set q (.str z) = l3 at Y3 W3
  refine sd_seq (sd_append (i := 5) (ds0 := [.lst l1, .lst l2]) rfl (ev_varF (i := 4) (o := .lst l3) rfl ⟨_, rfl, by show 2 < _; decide, ?_⟩))
  show SD K _ [.bx b (n + 1 + 1), .sh (.lst xs), .sh (.int (p : Nat)), .sh (.int (q : Nat)), .sh (.lst l3), .ow (.lst [.lst l1, .lst l2, .lst l3]), .no, .no, .no, .no] _
  -- a fresh name
  obtain ⟨f, fr, hfl, hfn, hfs⟩ := fresh_has hz4
  refine sd_seq (sd_asg (ev_op (EvN.d (en_lcF (js := [7]) (fun d => match d with | .str z => !decide (z ∈ namesOf ms) | _ => false) (fun d => d) (by simp) (ei_seqL (EvN.d (en_lst ?_)))))))
  refine ea_cons (ev_str (ea_cons (ev_str (ea_cons (ev_str (ea_cons (ev_str (ea_nil ⟨Nat.le_of_ble_eq_true rfl, _, rfl, noOwn_ok rfl, by show 4 < _; decide, fun i x ex => ?_, ?_⟩))))))))
  · obtain ⟨w, rfl⟩ : ∃ w, x = .str w := by
      have := List.mem_of_getElem? ex
      simp only [List.mem_cons, List.not_mem_nil, or_false] at this
      rcases this with rfl | rfl | rfl | rfl <;> exact ⟨_, rfl⟩
    refine tg_name ?_
    show EvT K _ [.bx b (n + 1 + 1), .sh (.lst xs), .sh (.int (p : Nat)), .sh (.int (q : Nat)), .sh (.lst l3), .ow (.lst [.lst l1, .lst l2, .lst l3]), .no, .sh (.str w), .no, .no] _
    refine et_test (ev_op (ev_var (i := 7) rfl (EvN.d (en_lcL (fun d => match d with | .tup [z, _] => z | _ => .non) (ev_un (ev_var (i := 1) rfl (stepU_l ?_)))))))
    rw [pick_odds, hodd]
    refine ⟨_, rfl, rfl, by rw [List.length_map]; omega, fun j d ed => ?_, ?_⟩
    · obtain ⟨m, _, rfl⟩ := List.mem_map.mp (List.mem_of_getElem? ed)
      exact ev_op (ev_var (i := 8) rfl (ev_int (ix_t (d := .str m.1.1) rfl ⟨rfl, rfl⟩)))
    · have e : ((ms.map fun x => mkD x.1).map fun d => match d with | .tup [z, _] => z | _ => .non) = (namesOf ms).map .str := by
        unfold namesOf
        rw [List.map_map, List.map_map]; rfl
      show R2D K _ (.str w) (.lst ((ms.map fun x => mkD x.1).map fun d => match d with | .tup [z, _] => z | _ => .non)) _
      rw [e]
      refine nin_l rfl (by rw [List.all_map, List.all_eq_true]; intro _ _; rfl) ⟨_, rfl, ?_, rfl, fun _ => ev_var (i := 7) rfl ⟨rfl, rfl⟩⟩
      rw [inF_strs]
  have efl : (([D.str "z", .str "zz", .str "zzzz", .str "qqqq"].filter fun d => match d with | .str z => !decide (z ∈ namesOf ms) | _ => false).map fun d => d) = (freshL (namesOf ms)).map .str := by
    rw [List.map_id']
    unfold freshL
    have e0 : [D.str "z", .str "zz", .str "zzzz", .str "qqqq"] = (["z", "zz", "zzzz", "qqqq"] : List Str).map .str := rfl
    rw [e0, List.filter_map]
    rfl
  rw [efl, hfl]
  refine ev_int (ix_l (d := .str f) (atIn (xs := (f :: fr).map D.str) (i := 0) (by simp)) ?_)
  show SD K _ [.bx b (n + 1 + 1), .sh (.lst xs), .sh (.int (p : Nat)), .sh (.int (q : Nat)), .sh (.lst l3), .ow (.lst [.lst l1, .lst l2, .lst l3]), .sh (.str f), .no, .no, .no] _
  -- a name more
  have hfx : f ∉ xs.filterMap nmO := by rw [hnames]; exact hfn
  refine sd_seq (sd_append (i := 5) rfl (ev_op (ev_var (i := 1) rfl (EvN.d (en_lst (ea_cons (ev_tup ?_)))))))
  refine ea_cons (ev_var (i := 6) rfl (ea_cons (ev_bl (ea_nil ⟨Nat.le_of_ble_eq_true rfl, ?_⟩))))
  refine ea_cons (ev_str (ea_cons (ev_tup ?_)))
  refine ea_cons (ev_var (i := 6) rfl (ea_cons (ev_bl (ea_nil ⟨Nat.le_of_ble_eq_true rfl, ?_⟩))))
  refine ea_cons (ev_str (ea_nil ⟨Nat.le_of_ble_eq_true rfl, ?_⟩))
  refine add_ll (by show xs.length + 4 ≤ _; omega) ⟨_, rfl, by show 3 < _; decide, ?_⟩
  have Y4 : RowY (xs ++ [mkD (f, true), .str "", mkD (f, true), .str ""]) := Y.more hfs hfx (by omega)
  have W4 : txW (xs ++ [mkD (f, true), .str "", mkD (f, true), .str ""]) ≤ 3000 := by
    have h1 := piece_le' ""
    rw [show ("" : Str).length = 0 from rfl] at h1
    have h2 := mark_le (m := (f, true)) hfs
    rw [txW_app, txW_cons, txW_cons, txW_cons, txW_cons]
    have h4 : txW [] = 0 := rfl
    omega
  have el4 : xs ++ [D.tup [.str f, .bl true], .str "", .tup [.str f, .bl true], .str ""] = xs ++ [mkD (f, true), .str "", mkD (f, true), .str ""] := rfl
  rw [el4]
  generalize xs ++ [mkD (f, true), .str "", mkD (f, true), .str ""] = l4 at Y4 W4
  show SD K _ [.bx b (n + 1 + 1), .sh (.lst xs), .sh (.int (p : Nat)), .sh (.int (q : Nat)), .sh (.lst l3), .ow (.lst [.lst l1, .lst l2, .lst l3, .lst l4]), .sh (.str f), .no, .no, .no] _
  have g1 := Y1.row W1
  have g2 := Y2.row W2
  have g3 := Y3.row W3
  have g4 := Y4.row W4
  refine sd_seq (sd_if (et_test (ev_op (ev_cb (ea_cons (ev_var (i := 1) rfl (ea_nil (len_l (ev_int (gt_ii ⟨_, rfl, ite_b (fun w => ?_) (fun w => sd_next ?_)⟩))))))))))
  · have w2 : (1 : Int) < (xs.length : Int) := of_decide_eq_true w
    refine sd_seq (sd_asgT (js := [2] ++ ([3] ++ [])) (ev_tup (ea_cons (ev_op (ev_op (ev_int (ev_callX (i := 0) rfl (ea_cons (ev_op (ev_cb (ea_cons (ev_var (i := 1) rfl (ea_nil (len_l (ev_int (div_ii (by decide) (by decide) (ea_nil ?_)))))))))))))))))
    rw [e2]
    refine ⟨n + 1 + 1, rfl, _, rfl, by omega, log_nat (by omega), by show n + 1 + 1 + 1 ≤ 1099511627776; omega, fun s s0 s1 => ?_⟩
    refine mul_ii (.inl ⟨by decide, by decide⟩) (ev_int (add_ii (ea_cons (ev_op (ev_op (ev_int (ev_callX (i := 0) rfl (ea_cons (ev_op (ev_cb (ea_cons (ev_var (i := 1) rfl (ea_nil (len_l (ev_int (div_ii (by decide) (by decide) (ea_nil ?_)))))))))))))))))
    rw [e2]
    refine ⟨n + 1 + 1 + 1, rfl, _, rfl, by omega, log_nat (by omega), by show n + 1 + 1 + 1 + 1 ≤ 1099511627776; omega, fun s' s0' s1' => ?_⟩
    refine mul_ii (.inl ⟨by decide, by decide⟩) (ev_int (add_ii (ea_nil ⟨Nat.le_of_ble_eq_true rfl, ?_⟩)))
    refine tg_tup rfl (tgs_cons (tg_name (tgs_cons (tg_name (tgs_nil ?_)))))
    obtain ⟨u, hu', hux, hue⟩ : ∃ u : Nat, 2 * s + 1 = ((u : Nat) : Int) ∧ u < xs.length ∧ u % 2 = 1 := ⟨2 * s.toNat + 1, by omega, by omega, by omega⟩
    obtain ⟨v, hv', hvx, hve⟩ : ∃ v : Nat, 2 * s' + 1 = ((v : Nat) : Int) ∧ v < xs.length ∧ v % 2 = 1 := ⟨2 * s'.toNat + 1, by omega, by omega, by omega⟩
    rw [hu', hv']
    show SD K _ [.bx b (n + 1 + 1 + 1 + 1), .sh (.lst xs), .sh (.int (u : Nat)), .sh (.int (v : Nat)), .sh (.lst l3), .ow (.lst [.lst l1, .lst l2, .lst l3, .lst l4]), .sh (.str f), .no, .no, .no] _
    obtain ⟨m, hm, hmn⟩ := Y.mark hux hue
    obtain ⟨m', hm', hmn'⟩ := Y.mark hvx hve
    have am : atI xs ((u : Nat) : Int) = some (mkD m) := by rw [atIn hux, hm]
    have am' : atI xs ((v : Nat) : Int) = some (mkD m') := by rw [atIn hvx, hm']
    have iu := ixNn hux
    have iv := ixNn hvx
    have e1 : ∀ c : Mk, isMarker (mkD c) = nameS c.1 := fun c => by show (nameS c.1 && true) = _; rw [Bool.and_true]
    -- turned about
    refine sd_seq (sd_asgN (en_cb (ea_cons (ev_var (i := 1) rfl (ea_nil (list_lN ?_))))))
    refine sd_seq (sd_setI (i := 4) (ds0 := xs) rfl (ev_tup (ea_cons (ev_op (ev_ixO (i := 4) (ds0 := xs) ixU_own rfl (ev_var (i := 2) rfl ⟨_, _, _, rfl, rfl, am, ev_int (ix_t (d := .str m.1) rfl ?_)⟩))))))
    refine ea_cons (ev_not (ev_op (ev_ixO (i := 4) (ds0 := xs) ixU_own rfl (ev_var (i := 2) rfl ⟨_, _, _, rfl, rfl, am, ev_int (ix_t (d := .bl m.2) rfl ⟨_, rfl, ?_⟩)⟩))))
    refine ea_nil ⟨Nat.le_of_ble_eq_true rfl, ⟨_, rfl, ev_var (i := 2) rfl ⟨_, _, _, rfl, rfl, iu, ?_⟩⟩⟩
    have Y5 : RowY (xs.set u (mkD (m.1, !m.2))) := Y.set hux (by rw [if_pos hue, e1]; exact hmn) (by rw [hm]; rfl)
    have W5 : txW (xs.set u (mkD (m.1, !m.2))) ≤ 3000 := by
      have h1 := mark_le (m := (m.1, !m.2)) hmn
      have h2 := txW_set (xs := xs) (i := u) (d := mkD (m.1, !m.2))
      omega
    have el5 : xs.set u (.tup [.str m.1, .bl (!m.2)]) = xs.set u (mkD (m.1, !m.2)) := rfl
    rw [el5]
    generalize xs.set u (mkD (m.1, !m.2)) = l5 at Y5 W5
    refine sd_seq (sd_append (i := 5) (ds0 := [.lst l1, .lst l2, .lst l3, .lst l4]) rfl (ev_varF (i := 4) (o := .lst l5) rfl ⟨_, rfl, by show 4 < _; decide, ?_⟩))
    show SD K _ [.bx b (n + 1 + 1 + 1 + 1), .sh (.lst xs), .sh (.int (u : Nat)), .sh (.int (v : Nat)), .sh (.lst l5), .ow (.lst [.lst l1, .lst l2, .lst l3, .lst l4, .lst l5]), .sh (.str f), .no, .no, .no] _
    -- two markers exchanged
    refine sd_seq (sd_asgN (en_cb (ea_cons (ev_var (i := 1) rfl (ea_nil (list_lN ?_))))))
    refine sd_seq (sd_asgT (js := [] ++ ([] ++ [])) (ev_tup (ea_cons (ev_ixO (i := 4) (ds0 := xs) ixU_own rfl (ev_var (i := 3) rfl ⟨_, _, _, rfl, rfl, am', ?_⟩)))))
    refine ea_cons (ev_ixO (i := 4) (ds0 := xs) ixU_own rfl (ev_var (i := 2) rfl ⟨_, _, _, rfl, rfl, am, ea_nil ⟨Nat.le_of_ble_eq_true rfl, ?_⟩⟩))
    refine tg_tup rfl (tgs_cons (tg_sub (i := 4) (ds0 := xs) rfl (ev_var (i := 2) rfl ⟨_, _, _, rfl, rfl, iu, ?_⟩)))
    refine tgs_cons (tg_sub (i := 4) (ds0 := xs.set u (mkD m')) rfl (ev_var (i := 3) rfl ⟨_, _, _, rfl, rfl, by rw [List.length_set]; exact iv, tgs_nil ?_⟩))
    have Y6 : RowY ((xs.set u (mkD m')).set v (mkD m)) := by
      have := Y.swap hux hvx (by omega)
      rw [hm, hm'] at this; exact this
    have W6 : txW ((xs.set u (mkD m')).set v (mkD m)) ≤ 3000 := by
      have := tx_perm (swap_perm (List.getElem?_eq_getElem hux) (List.getElem?_eq_getElem hvx))
      rw [hm, hm'] at this; omega
    generalize (xs.set u (mkD m')).set v (mkD m) = l6 at Y6 W6
    refine sd_seq (sd_append (i := 5) (ds0 := [.lst l1, .lst l2, .lst l3, .lst l4, .lst l5]) rfl (ev_varF (i := 4) (o := .lst l6) rfl ⟨_, rfl, by show 5 < _; decide, ?_⟩))
    show SD K _ [.bx b (n + 1 + 1 + 1 + 1), .sh (.lst xs), .sh (.int (u : Nat)), .sh (.int (v : Nat)), .sh (.lst l6), .ow (.lst [.lst l1, .lst l2, .lst l3, .lst l4, .lst l5, .lst l6]), .sh (.str f), .no, .no, .no] _
    -- another name
    have hmem : m.1 ∈ xs.filterMap nmO := List.mem_filterMap.mpr ⟨mkD m, by rw [← hm]; exact List.getElem_mem hux, rfl⟩
    have Y7 : RowY (xs.map (reD m.1 f)) := Y.re hfs hfx hmem
    have W7 : txW (xs.map (reD m.1 f)) ≤ 3000 := by
      have := tx_re (n := m.1) hfs Y.items
      omega
    have ht : ∀ z : Str, nameS z = true → okPy (.tup [.str z]) = true := fun z hz => nice_ok (by simp only [nice, niceAll, Bool.and_true]; exact name_ok hz) (by simp only [dpD, dpDs]; decide)
    refine sd_append (i := 5) rfl (EvN.d (en_lcL (reD m.1 f) (ev_var (i := 1) rfl ⟨xs, rfl, rfl, by omega, fun i x ex => ?_, ?_⟩)))
    · show EvD K _ [.bx b (n + 1 + 1 + 1 + 1), .sh (.lst xs), .sh (.int (u : Nat)), .sh (.int (v : Nat)), .sh (.lst l6), .ow (.lst [.lst l1, .lst l2, .lst l3, .lst l4, .lst l5, .lst l6]), .sh (.str f), .no, .no, .sh x] _
      have hx := List.mem_of_getElem? ex
      have hxw := txW_mem hx
      rcases Y.items x hx with q | q
      · obtain ⟨c, rfl, hc⟩ := piece_inv q
        have hcl := piece_le c
        refine ev_if (et_test (ev_op (ev_sl (ev_var (i := 9) rfl (eo_none (eo_some (ev_int ⟨_, rfl, sl_s (by omega) ?_⟩)))))))
        refine ev_sl (ev_op (ev_var (i := 1) rfl (ev_var (i := 2) rfl (ix_l am (eo_none (eo_some (ev_int ⟨_, rfl, sl_t ?_⟩)))))))
        have ec : cutL [D.str m.1, .bl m.2] none (some 1) = [.str m.1] := rfl
        rw [ec]
        have okc : okPy (.str (cutS c none (some 1))) = true := by
          refine nice_ok (nice_str ((strOk_iff _).mpr fun s hs => ?_)) (by simp [dpD])
          have hs2 : s ∈ sg c := by
            have : s ∈ sg (cutS c none (some ((1 : Nat) : Int))) := hs
            rw [sg_to] at this
            exact List.mem_of_mem_take this
          exact (strOk_iff _).mp (piece_ok hc) s hs2
        refine eq_dd okc (ht _ hmn) ⟨_, rfl, ite_f (by simp [D.py, PyData.eqv]) ?_⟩
        exact ev_var (i := 9) rfl ⟨rfl, rfl⟩
      · obtain ⟨c, rfl, hc⟩ := marker_inv q
        refine ev_if (et_test (ev_op (ev_sl (ev_var (i := 9) rfl (eo_none (eo_some (ev_int ⟨_, rfl, sl_t ?_⟩)))))))
        refine ev_sl (ev_op (ev_var (i := 1) rfl (ev_var (i := 2) rfl (ix_l am (eo_none (eo_some (ev_int ⟨_, rfl, sl_t ?_⟩)))))))
        have ec : ∀ c : Mk, cutL [D.str c.1, .bl c.2] none (some 1) = [.str c.1] := fun _ => rfl
        rw [ec, ec]
        have ev : PyData.eqv (D.tup [.str c.1]).py (D.tup [.str m.1]).py = decide (c.1 = m.1) := by
          simp [D.py, pys, PyData.eqv, PyData.eqvAll]
          by_cases h : c.1 = m.1 <;> simp [h]
        refine eq_dd (ht _ hc) (ht _ hmn) ⟨_, rfl, ?_⟩
        rw [ev]
        refine ite_b (fun w => ?_) (fun w => ?_)
        · refine ev_tup (ea_cons (ev_var (i := 6) rfl (ea_cons (ev_op (ev_var (i := 9) rfl (ev_int (ix_t (d := .bl c.2) rfl (ea_nil ⟨Nat.le_of_ble_eq_true rfl, ?_, rfl⟩))))))))
          show D.tup [.str f, .bl c.2] = .tup [.str (if c.1 = m.1 then f else c.1), .bl c.2]
          rw [if_pos (of_decide_eq_true w)]
        · refine ev_var (i := 9) rfl ⟨?_, rfl⟩
          show D.tup [.str c.1, .bl c.2] = .tup [.str (if c.1 = m.1 then f else c.1), .bl c.2]
          rw [if_neg (of_decide_eq_false w)]
    · refine ⟨_, rfl, by show 6 < _; decide, ?_⟩
      have g5 := Y5.row W5
      have g6 := Y6.row W6
      have g7 := Y7.row W7
      generalize xs.map (reD m.1 f) = l7 at g7
      show SD K _ [.bx b (n + 1 + 1 + 1 + 1), .sh (.lst xs), .sh (.int (u : Nat)), .sh (.int (v : Nat)), .sh (.lst l6), .ow (.lst [.lst l1, .lst l2, .lst l3, .lst l4, .lst l5, .lst l6, .lst l7]), .sh (.str f), .no, .no, .no] _
      refine sd_ret (ev_varF (i := 5) rfl ⟨_, ⟨rfl, Nat.le_refl _⟩, k [l1, l2, l3, l4, l5, l6, l7] _ ?_ (Nat.le_of_ble_eq_true rfl) (by omega)⟩)
      intro l hl
      simp only [List.mem_cons, List.not_mem_nil, or_false] at hl
      rcases hl with rfl | rfl | rfl | rfl | rfl | rfl | rfl <;> assumption
  · refine sd_ret (ev_varF (i := 5) rfl ⟨_, ⟨rfl, Nat.le_refl _⟩, k [l1, l2, l3, l4] _ ?_ (Nat.le_of_ble_eq_true rfl) (by omega)⟩)
    intro l hl
    simp only [List.mem_cons, List.not_mem_nil, or_false] at hl
    rcases hl with rfl | rfl | rfl | rfl <;> assumption

theorem RowY.rowT {xs : List D} (h : RowY xs) (hw : txW xs ≤ 100000) : ∃ q ns, xs = rowL q ns ∧ StOk q ns ∧ rowW q ns ≤ txW xs := by
  obtain ⟨q, ns, rfl, ok⟩ := row_of _ xs (Nat.le_refl _) h.odd h.it
  have h1 := (row_tx ns q ok.nm).1
  have h2 := h.two
  rw [row_nm] at h2
  have hl := h.len
  rw [rowL_len] at hl
  exact ⟨q, ns, rfl, stok_two ok h2 (by omega) (by omega), h1⟩
theorem nm_fl (d : D) (h : ItOk d) : nmO (flI d) = nmO d := by
  rcases h with q | q
  · obtain ⟨z, rfl, hz⟩ := piece_inv q; rfl
  · obtain ⟨m, rfl, hm⟩ := marker_inv q; rfl
theorem fl_fl (d : D) (h : ItOk d) : flI (flI d) = d := by
  rcases h with q | q
  · obtain ⟨z, rfl, hz⟩ := piece_inv q; exact (flI_piece hz).2
  · obtain ⟨m, rfl, hm⟩ := marker_inv q; exact (flI_marker hm).2
theorem fm_bk : ∀ {xs : List D}, (∀ d ∈ xs, ItOk d) → (bk flI xs).filterMap nmO = (xs.filterMap nmO).reverse := fun {xs} h => by
  unfold bk
  rw [List.filterMap_map, ← List.filterMap_reverse]
  refine fmap_congr fun d hd => ?_
  exact nm_fl d (h d (by simpa using hd))
theorem flS_app (a b : Str) : flS (a ++ b) = flS b ++ flS a := str_ext (by rw [sg_append, sg_flS, sg_flS, sg_flS, sg_append, List.reverse_append, List.map_append])
/-- the row that is the same from both sides -/
theorem pal_row {half : List D} {side : Str} {k : Nat} (hl : half.length = 2 * k) (hk : k ≤ 6) (hi : itemsFrom 0 half = true) (hit : ∀ d ∈ half, ItOk d) (hn : (half.filterMap nmO).Nodup) (hw : txW half ≤ 300) (hs : pieceS side = true) (hsl : side.length ≤ 40) :
    ∃ q ns, half ++ [.str (side ++ flS side)] ++ bk flI half = rowL q ns ∧ StOk q ns ∧ rowW q ns ≤ 1000 ∧ bk flI (rowL q ns) = rowL q ns := by
  have hc : pieceS (side ++ flS side) = true := piece_app hs (flS_piece hs)
  have hbl : (bk flI half).length = 2 * k := by rw [bk_len, hl]
  have Y : RowY (half ++ [.str (side ++ flS side)] ++ bk flI half) := by
    refine ⟨by rw [List.length_append, List.length_append, hl, hbl, List.length_singleton]; omega, ?_, ?_, by rw [List.length_append, List.length_append, hl, hbl, List.length_singleton]; omega⟩
    · rw [itemsFrom_app, itemsFrom_app, hi, Bool.true_and, itemsFrom_par _ _ 0 (by omega)]
      have e1 : itemsFrom 0 [D.str (side ++ flS side)] = true := by
        show (pieceS (side ++ flS side) && true) = true
        rw [hc]; try rfl
      rw [e1, Bool.true_and, itemsFrom_par _ _ 1 (by rw [List.length_append, hl, List.length_singleton]; omega)]
      refine itemsFrom_of fun j d hj => ?_
      unfold bk at hj
      rw [List.getElem?_map] at hj
      obtain ⟨e, he, rfl⟩ := Option.map_eq_some_iff.mp hj
      have hjl : j < half.length := by
        have := (List.getElem?_eq_some_iff.mp he).1
        simpa using this
      rw [List.getElem?_reverse hjl] at he
      have hk2 := itemsFrom_at hi he
      by_cases ho : (1 + j) % 2 = 1
      · rw [if_pos ho]
        rw [if_pos (by omega)] at hk2
        obtain ⟨m, rfl, hm⟩ := marker_inv hk2
        exact (flI_marker hm).1
      · rw [if_neg ho]
        rw [if_neg (by omega)] at hk2
        obtain ⟨z, rfl, hz⟩ := piece_inv hk2
        exact (flI_piece hz).1
    · intro z hz
      have e : (half ++ [D.str (side ++ flS side)] ++ bk flI half).filterMap nmO = half.filterMap nmO ++ (half.filterMap nmO).reverse := by
        rw [List.filterMap_append, List.filterMap_append, fm_bk hit]
        have : [D.str (side ++ flS side)].filterMap nmO = [] := rfl
        rw [this, List.append_nil]
      rw [e] at hz ⊢
      have hm : z ∈ half.filterMap nmO := by
        rcases List.mem_append.mp hz with q | q
        · exact q
        · simpa using q
      rw [List.count_append, List.count_reverse]
      have := hn.count (a := z)
      rw [if_pos hm] at this
      omega
  have hw2 : txW (half ++ [.str (side ++ flS side)] ++ bk flI half) ≤ 1000 := by
    rw [txW_app, txW_app, txW_bk hit, txW_cons]
    have h1 := piece_le' (side ++ flS side)
    rw [len_app, flS_len] at h1
    have h4 : txW [] = 0 := rfl
    omega
  obtain ⟨q, ns, e, so, rw1⟩ := Y.rowT (by omega)
  refine ⟨q, ns, e, so, by omega, ?_⟩
  rw [← e]
  unfold bk
  rw [List.reverse_append, List.reverse_append, List.map_append, List.map_append]
  have e1 : (half.reverse.map flI).reverse.map flI = half := bk_bk fun d hd => fl_fl d (hit d hd)
  have e2 : ([D.str (side ++ flS side)].reverse.map flI) = [D.str (side ++ flS side)] := by
    show [D.str (flS (side ++ flS side))] = _
    rw [flS_app, flS_twice hs]
  rw [e1, e2, List.append_assoc]
theorem range_at2 {n i : Nat} {x : D} (ex : (rangeD 0 n)[i]? = some x) : i < n ∧ x = .int (i : Nat) := by
  have h := (List.getElem?_eq_some_iff.mp ex).1
  rw [rangeD_len] at h
  rw [rangeD_get _ _ _ h] at ex
  refine ⟨h, ?_⟩
  have := Option.some.inj ex
  rw [← this]; simp
theorem sd_law_palindrome {b : Addr} {n : Nat} {ds : List D} {post : Rs → Nat → Prop} (a : B_law_palindrome n ds post) : SD K (t_law_palindrome K) (.bx b n :: initS (n_law_palindrome.drop 1) ds) { nx := fun δ' => ∃ m, BoxS b m δ'[0]? ∧ post (.val .non) m, rt := fun r δ' => ∃ m, BoxS b m δ'[0]? ∧ post r m } := by
  obtain ⟨many, rfl, m1, m6, hn, k⟩ := a
  have hl : n + 1000 ≤ 1099511627776 := hn
  have big3 : 2000000 ≤ sizeLine := by decide
  unfold t_law_palindrome
  show SD K _ [.bx b n, .sh (.int many), .no, .no, .no] _
  refine sd_seq (sd_asg (EvN.d (en_lst (ea_nil ⟨Nat.zero_le _, ?_⟩))))
  refine sd_seq (sd_for (js := [3]) (ei_range1 (ea_cons (ev_var (i := 1) rfl (ea_nil ⟨many, rfl, by omega, by omega, ?_⟩)))))
  have lts : (sg ("abcdefg" : Str)) = [97, 98, 99, 100, 101, 102, 103] := by decide +kernel
  refine ⟨fun i δ' => ∃ (m : Nat) (xs : List D) (x3 : Sl), δ' = [.bx b m, .sh (.int many), .sh (.lst xs), x3, .no] ∧ m ≤ n + 52 * i ∧ xs.length = 2 * i ∧ itemsFrom 0 xs = true ∧ (∀ d ∈ xs, ItOk d) ∧ xs.filterMap nmO = ((sg ("abcdefg" : Str)).take i).map (fun c => (⟨#[c]⟩ : Str)) ∧ txW xs ≤ 48 * i, ⟨_, [], _, rfl, by omega, rfl, rfl, by simp, rfl, by simp [txW]⟩, ?_, ?_⟩
  · rintro i x δ' ex ⟨m, xs, x3, rfl, hm, hxl, hit, hio, hnm, hxw⟩
    obtain ⟨hi, rfl⟩ := range_at2 ex
    refine tg_name ?_
    show SD K _ [.bx b m, .sh (.int many), .sh (.lst xs), .sh (.int (i : Nat)), .no] _
    refine sd_asg (ev_op (ev_var (i := 2) rfl (EvN.d (en_lst (ea_cons (ev_callX (i := 0) rfl (ea_nil ⟨m, rfl, rfl, by show m + 50 ≤ 1099511627776; omega, fun z hz hp => ?_⟩)))))))
    have hi7 : i < (sg ("abcdefg" : Str)).length := by rw [lts]; show i < 7; omega
    have hat : atI (sg ("abcdefg" : Str)) ((i : Nat) : Int) = some (sg ("abcdefg" : Str))[i] := by
      obtain ⟨d, h1, _, h2⟩ := atI_at (xs := sg ("abcdefg" : Str)) (i := ((i : Nat) : Int)) (by omega) (by omega)
      rw [show ((i : Nat) : Int).toNat = i by omega, List.getElem?_eq_getElem hi7] at h2
      rw [h1, ← h2]
    have hnx : ((sg ("abcdefg" : Str)).take (i + 1)) = (sg ("abcdefg" : Str)).take i ++ [(sg ("abcdefg" : Str))[i]] := List.take_succ_eq_append_getElem hi7
    have hlow : isLow (sg ("abcdefg" : Str))[i] = true := (by decide +kernel : ∀ c ∈ sg ("abcdefg" : Str), isLow c = true) _ (List.getElem_mem hi7)
    generalize (sg ("abcdefg" : Str))[i] = c at hat hnx hlow
    refine ea_cons (ev_tup (ea_cons (ev_op (ev_str (ev_var (i := 3) rfl (ix_s (Nat.le_of_ble_eq_true rfl) hat ?_))))))
    refine ea_cons (ev_op (ev_callX (i := 0) rfl (ea_cons (ev_int (ea_nil ⟨m + 50, rfl, 2, rfl, by decide, by decide, by show m + 50 + 1 ≤ 1099511627776; omega, fun u u0 u1 => ?_⟩)))))
    refine ev_int (eq_ii (ea_nil ⟨Nat.le_of_ble_eq_true rfl, ea_nil ⟨Nat.le_of_ble_eq_true rfl, ?_⟩⟩))
    have hcn : nameS (⟨#[c]⟩ : Str) = true := nameS_of (Nat.le_refl _) (by simp [sg]) fun d hd => by
      have : d = c := by simpa [sg] using hd
      rw [this]; exact hlow
    have em : D.tup [D.str ⟨#[c]⟩, D.bl (decide (u = 0))] = mkD (⟨#[c]⟩, decide (u = 0)) := rfl
    rw [em]
    refine add_ll (by simp; omega) ?_
    refine ⟨m + 50 + 1, xs ++ [.str z, mkD (⟨#[c]⟩, decide (u = 0))], .sh (.int (i : Nat)), rfl, by omega, by rw [List.length_append]; simp; omega, ?_, ?_, ?_, ?_⟩
    · rw [itemsFrom_app, hit, Bool.true_and, itemsFrom_par _ _ 0 (by omega)]
      show (pieceS z && ((nameS ⟨#[c]⟩ && true) && true)) = true
      rw [hp, hcn]; rfl
    · intro d hd
      rcases List.mem_append.mp hd with q | q
      · exact hio d q
      · simp only [List.mem_cons, List.not_mem_nil, or_false] at q
        rcases q with rfl | rfl
        · exact .inl hp
        · exact .inr (by show (nameS ⟨#[c]⟩ && true) = true; rw [hcn]; rfl)
    · rw [List.filterMap_append, hnm, hnx, List.map_append]; rfl
    · rw [txW_app, txW_cons, txW_cons]
      have h1 := piece_le' z
      have h2 := mark_le (m := (⟨#[c]⟩, decide (u = 0))) hcn
      have h4 : txW [] = 0 := rfl
      omega
  · rintro δ' ⟨m, xs, x3, rfl, hm, hxl, hit, hio, hnm, hxw⟩
    rw [rangeD_len] at hm hxl hnm hxw
    refine sd_seq (sd_asg (ev_callX (i := 0) rfl (ea_nil ⟨m, rfl, rfl, by show m + 50 ≤ 1099511627776; omega, fun z hz hp => ?_⟩)))
    show SD K _ [.bx b (m + 50), .sh (.int many), .sh (.lst xs), x3, .sh (.str z)] _
    have hnd : (xs.filterMap nmO).Nodup := by
      rw [hnm]
      have h0 : ((sg ("abcdefg" : Str)).map (fun c => (⟨#[c]⟩ : Str))).Nodup := by decide +kernel
      rw [List.map_take]
      exact h0.sublist (List.take_sublist _ _)
    obtain ⟨q, ns, e, so, hrw, hpal⟩ := pal_row (k := many.toNat) hxl (by omega) hit hio hnd (by omega) hp hz
    have hz1 := piece_le' z
    refine sd_ret (ev_op (ev_op (ev_var (i := 2) rfl (EvN.d (en_lst (ea_cons (ev_op (ev_var (i := 4) rfl (ev_op (ev_call (ea_cons (EvN.d (en_lst (ea_cons (ev_var (i := 4) rfl (ea_nil ⟨Nat.le_of_ble_eq_true rfl, ?_⟩))))))))))))))))
    refine ea_nil ⟨[.str z], rfl, fun x hx => by rw [List.mem_singleton.mp hx]; exact .inl hp, by show (itemText (.str z)).length + 1 + 0 ≤ _; omega, ?_⟩
    refine ev_int (ix_l (d := .str (flS z)) rfl (add_ss (by rw [flS_len]; omega) (ea_nil ⟨Nat.le_of_ble_eq_true rfl, add_ll (by simp; omega) ?_⟩)))
    refine ev_call (ea_cons (ev_var (i := 2) rfl (ea_nil ⟨xs, rfl, hio, by omega, ?_⟩)))
    refine add_ll (by rw [List.length_append]; show _ + _ + (bk flI xs).length ≤ _; rw [bk_len]; simp; omega) ?_
    show ∃ m', BoxS b m' (some (Sl.bx b (m + 50))) ∧ post (.val (.lst (xs ++ [.str (z ++ flS z)] ++ bk flI xs))) m'
    rw [e]
    refine ⟨_, ⟨rfl, Nat.le_refl _⟩, k q ns _ so hrw ?_ (by omega)⟩
    rw [← flL_bk]; exact hpal

theorem joinL_mem : ∀ {ws : List (List Nat)} {c : Nat}, c ∈ TL.joinL [32] ws → c = 32 ∨ ∃ w ∈ ws, c ∈ w
  | [], c, h => by simp [TL.joinL] at h
  | [w], c, h => by
    have h : c ∈ w := by simpa [TL.joinL] using h
    exact .inr ⟨w, by simp, h⟩
  | w :: v :: r, c, h => by
    rw [TL.joinL] at h
    · simp only [List.mem_append] at h
      rcases h with h | h
      · first
          | exact .inr ⟨w, by simp, h⟩
          | (rcases h with h | h
             · exact .inr ⟨w, by simp, h⟩
             · exact .inl (by simpa using h))
      · first
          | (rcases joinL_mem h with q | ⟨u, hu, hc⟩
             · exact .inl q
             · exact .inr ⟨u, List.mem_cons_of_mem _ hu, hc⟩)
          | (rcases h with h | h
             · exact .inl (by simpa using h)
             · rcases joinL_mem h with q | ⟨u, hu, hc⟩
               · exact .inl q
               · exact .inr ⟨u, List.mem_cons_of_mem _ hu, hc⟩)
    all_goals simp
theorem item_ok {d : D} (h : ItOk d) : ∀ c ∈ sg (itemText d), c < 1114112 := fun c hc => by
  rcases h with q | q
  · obtain ⟨z, rfl, hz⟩ := piece_inv q
    rw [piece_word] at hc
    split at hc
    · have : c = 95 := by simpa using hc
      omega
    · exact (strOk_iff _).mp (piece_ok hz) c hc
  · obtain ⟨m, rfl, hm⟩ := marker_inv q
    rw [marker_word] at hc
    rcases List.mem_append.mp hc with h | h
    · exact (strOk_iff _).mp (name_ok hm) c h
    · have : c = if m.2 = true then 43 else 45 := by simpa using h
      split at this <;> omega
theorem text_ok {xs : List D} (h : ∀ d ∈ xs, ItOk d) : PyData.strOk (itemsText xs) = true := (strOk_iff _).mpr fun c hc => by
  unfold itemsText at hc
  rw [sg_joinB] at hc
  rcases joinL_mem hc with rfl | ⟨w, hw, hcw⟩
  · decide
  · rw [List.map_map] at hw
    obtain ⟨d, hd, rfl⟩ := List.mem_map.mp hw
    exact item_ok (h d hd) c hcw
theorem wDs_app (a b : List D) : wDs (a ++ b) = wDs a + wDs b := by
  induction a with
  | nil => simp [wDs]
  | cons x a ih => rw [List.cons_append]; simp only [wDs]; rw [ih]; omega
theorem wDs_fm {α : Type} (f : α → List D) {c : Nat} : ∀ (l : List α), (∀ x ∈ l, wDs (f x) ≤ c) → wDs (l.flatMap f) ≤ l.length * c
  | [], _ => by simp [wDs]
  | x :: l, h => by
    rw [List.flatMap_cons, wDs_app, List.length_cons, Nat.add_mul, Nat.one_mul]
    have h1 := h x List.mem_cons_self
    have h2 := wDs_fm f l fun y hy => h y (List.mem_cons_of_mem _ hy)
    omega
theorem wDs_names : ∀ (l : List Str), (∀ z ∈ l, nameS z = true) → wDs (l.map .str) ≤ 5 * l.length
  | [], _ => Nat.zero_le _
  | z :: l, h => by
    have h1 := (name_all (h z List.mem_cons_self)).2.1
    have h2 := wDs_names l fun y hy => h y (List.mem_cons_of_mem _ hy)
    rw [List.map_cons]
    simp only [wDs, wD, List.length_cons]
    omega
/-- the two places of a name -/
def plOf (ms : List It2) (x : Str) : Nat × Nat := match posOf (namesOf ms) x with
  | [i, j] => (i, j)
  | _ => (0, 0)
def toldX (ms : List It2) (k0 x : Str) : List D := [.tup [.int ((plOf ms x).1 : Nat), .int ((plOf ms x).2 : Nat)], .tup [.bl (upAt ms (plOf ms x).1), .bl (upAt ms (plOf ms x).2)], .bl (decide (upAt ms (plOf ms x).1 = upAt ms (plOf ms x).2)), .lst ((betw ms (plOf ms x).1 (plOf ms x).2).map .str), .bl (!decide (x = k0) && decide ((betw ms (plOf ms x).1 (plOf ms x).2).count k0 = 1))]
def toldT (p : Str) (ms : List It2) : List D := (.int (numsOf ms).length :: (nmsOf ms).reverse.flatMap (toldX ms ((nmsOf ms).headD ""))) ++ [.lst ((numsOf ms).map fun kv => .str kv.1), .lst (evens (rowL p ms)), .str (itemsText (rowL p ms)), .str (("Strip(" : Str) ++ itemsText (rowL p ms) ++ ")")]
theorem pl_eq {p : Str} {ms : List It2} (ok : StOk p ms) {x : Str} (hx : x ∈ namesOf ms) : posOf (namesOf ms) x = [(plOf ms x).1, (plOf ms x).2] ∧ (plOf ms x).1 < 24 ∧ (plOf ms x).2 < 24 := by
  obtain ⟨i, j, e, h1, h2, _⟩ := ok.places hx
  have hl := ok.len
  unfold plOf
  rw [e]
  exact ⟨rfl, by show i < 24; omega, by show j < 24; omega⟩
theorem evens_w : ∀ (xs : List D), wDs (evens xs) ≤ wDs xs
  | [] => Nat.le_refl _
  | [x] => Nat.le_refl _
  | x :: y :: r => by
    have := evens_w r
    show wD x + 1 + wDs (evens r) ≤ wD x + 1 + (wD y + 1 + wDs r)
    omega
theorem wDs_items : ∀ xs : List D, (∀ d ∈ xs, ItOk d) → wDs xs ≤ 2 * txW xs
  | [], _ => Nat.zero_le _
  | x :: r, h => by
    have h2 := wDs_items r fun d hd => h d (List.mem_cons_of_mem _ hd)
    have h1 : wD x ≤ (itemText x).length + 1 := by
      rcases h x List.mem_cons_self with q | q
      · obtain ⟨z, rfl, _⟩ := piece_inv q
        have := piece_le z
        show z.length ≤ _; omega
      · obtain ⟨m, rfl, _⟩ := marker_inv q
        rw [← sg_len, marker_word, List.length_append, sg_len]
        show m.1.length + 1 + (0 + 1 + 0) ≤ _
        simp
    simp only [wDs]
    rw [txW_cons]; omega
theorem told_show {p : Str} {ms : List It2} (ok : StOk p ms) (hw : rowW p ms ≤ 3000) : okShow (.lst (toldT p ms)) = true := by
  have hl := ok.len
  have hnm := ok.nms
  have hit := row_items ok.row
  have htx := (row_tx ms p ok.row.nm).2
  have htl := itemsText_len (rowL p ms)
  have hnn : ∀ z ∈ nmsOf ms, nameS z = true := fun z hz => ok.row.names (nms_mem.mp hz)
  have ek : ((numsOf ms).map fun kv => D.str kv.1) = (nmsOf ms).map .str := by unfold nmsOf; rw [List.map_map]; rfl
  have l6 : ("Strip(" : Str).length = 6 := rfl
  have l1 : (")" : Str).length = 1 := rfl
  have hbn : ∀ x, ∀ z ∈ betw ms (plOf ms x).1 (plOf ms x).2, nameS z = true := fun x z hz => ok.row.names (betw_mem hz)
  have nstr : ∀ l : List Str, (∀ z ∈ l, nameS z = true) → niceAll (l.map D.str) = true := fun l h => niceAll_iff.mpr fun d hd => by
    obtain ⟨z, hz, rfl⟩ := List.mem_map.mp hd
    exact nice_str (name_ok (h z hz))
  have dstr : ∀ l : List Str, dpDs (l.map D.str) ≤ 0 := fun l => dpDs_le.mpr fun d hd => by
    obtain ⟨z, hz, rfl⟩ := List.mem_map.mp hd
    simp [dpD]
  have hmemT : ∀ d ∈ toldT p ms, d = .int (numsOf ms).length ∨ (∃ x ∈ nmsOf ms, d ∈ toldX ms ((nmsOf ms).headD "") x) ∨ d = .lst ((nmsOf ms).map .str) ∨ d = .lst (evens (rowL p ms)) ∨ d = .str (itemsText (rowL p ms)) ∨ d = .str (("Strip(" : Str) ++ itemsText (rowL p ms) ++ ")") := fun d hd => by
    unfold toldT at hd
    rw [ek] at hd
    rcases List.mem_append.mp hd with h | h
    · rcases List.mem_cons.mp h with h | h
      · exact .inl h
      · obtain ⟨x, hx, hdx⟩ := List.mem_flatMap.mp h
        exact .inr (.inl ⟨x, by simpa using hx, hdx⟩)
    · simp only [List.mem_cons, List.not_mem_nil, or_false] at h
      exact .inr (.inr h)
  have tx := text_ok hit
  have tx2 : PyData.strOk (("Strip(" : Str) ++ itemsText (rowL p ms) ++ ")") = true := (strOk_iff _).mpr fun c hc => by
    rw [sg_append, sg_append] at hc
    rcases List.mem_append.mp hc with h | h
    · rcases List.mem_append.mp h with h | h
      · exact (by decide +kernel : ∀ c ∈ sg ("Strip(" : Str), c < 1114112) c h
      · exact (strOk_iff _).mp tx c h
    · exact (by decide +kernel : ∀ c ∈ sg (")" : Str), c < 1114112) c h
  have key : ∀ d ∈ toldT p ms, nice d = true ∧ dpD d ≤ 2 := fun d hd => by
    rcases hmemT d hd with rfl | ⟨x, hx, hdx⟩ | rfl | rfl | rfl | rfl
    · exact ⟨by simp only [nice, decide_eq_true_eq]; omega, by simp [dpD]⟩
    · have hp := pl_eq ok (nms_mem.mp hx)
      unfold toldX at hdx
      simp only [List.mem_cons, List.not_mem_nil, or_false] at hdx
      rcases hdx with rfl | rfl | rfl | rfl | rfl
      · exact ⟨by simp only [nice, niceAll, Bool.and_true, Bool.and_eq_true, decide_eq_true_eq]; omega, by simp [dpD, dpDs]⟩
      · exact ⟨rfl, by simp [dpD, dpDs]⟩
      · exact ⟨rfl, by simp [dpD]⟩
      · refine ⟨by simp only [nice]; exact nstr _ (hbn x), ?_⟩
        have := dstr (betw ms (plOf ms x).1 (plOf ms x).2)
        simp only [dpD]; omega
      · exact ⟨rfl, by simp [dpD]⟩
    · refine ⟨by simp only [nice]; exact nstr _ hnn, ?_⟩
      have := dstr (nmsOf ms)
      simp only [dpD]; omega
    · refine ⟨by simp only [nice]; exact niceAll_iff.mpr fun d hd => (item_nice (hit d (evens_mem hd))).1, ?_⟩
      have : dpDs (evens (rowL p ms)) ≤ 1 := dpDs_le.mpr fun d hd => (item_nice (hit d (evens_mem hd))).2
      simp only [dpD]; omega
    · exact ⟨nice_str tx, by simp [dpD]⟩
    · exact ⟨nice_str tx2, by simp [dpD]⟩
  refine nice_show ?_ ?_ ?_
  · simp only [nice]
    exact niceAll_iff.mpr fun d hd => (key d hd).1
  · simp only [dpD]
    have : dpDs (toldT p ms) ≤ 2 := dpDs_le.mpr fun d hd => (key d hd).2
    omega
  · have h1 : wDs ((nmsOf ms).reverse.flatMap (toldX ms ((nmsOf ms).headD ""))) ≤ (nmsOf ms).reverse.length * 400 := wDs_fm _ _ fun x hx => by
      have hb := wDs_names (betw ms (plOf ms x).1 (plOf ms x).2) (hbn x)
      have hb2 := betw_len ms (plOf ms x).1 (plOf ms x).2
      unfold toldX
      simp only [wDs, wD]
      omega
    rw [List.length_reverse] at h1
    have h2 := wDs_names (nmsOf ms) hnn
    have h3 := evens_w (rowL p ms)
    have h4 := wDs_items (rowL p ms) hit
    have h5 : (nmsOf ms).length * 400 ≤ 12 * 400 := Nat.mul_le_mul_right _ hnm
    unfold toldT
    rw [ek]
    simp only [wD]
    rw [wDs_app]
    simp only [wDs, wD]
    rw [len_app, len_app, l6, l1]
    omega
theorem sd_law_like {ds : List D} {post : Rs → Prop} (a : B_law_like K ds post) : SD K (t_law_like K) (initS n_law_like ds) { nx := fun _ => post (.val .non), rt := fun r _ => post r } := by
  obtain ⟨p, ms, rfl, hk, ok, hw, k⟩ := a
  have big3 : 2000000 ≤ sizeLine := by decide
  have hlen := ok.len
  have hnm := ok.nms
  have ek : ((numsOf ms).map fun kv => D.str kv.1) = (nmsOf ms).map .str := by unfold nmsOf; rw [List.map_map]; rfl
  have rn := row_nice ok.row
  unfold t_law_like
  show SD K _ [.sh (stripD K p ms), .sh (.lst (rowL p ms)), .no, .no, .no, .no, .no, .no] _
  refine sd_seq (sd_par3O (EvN.d (en_make (ea_cons (ev_var (i := 1) rfl (ea_nil ⟨_, p, ms, rfl, .inl rfl, ok, hk.st, ?_⟩))))))
  refine EvN.d (en_meth (EvN.d (en_make (ea_cons (ev_var (i := 1) rfl (ea_nil ⟨_, p, ms, rfl, .inl rfl, ok, hk.st, _, rfl, rfl, ea_nil ⟨p, ms, rfl, hk.st, _, rfl, ?_⟩⟩))))))
  refine en_lst (ea_nil ⟨Nat.zero_le _, ?_⟩)
  show SD K _ [.sh (stripD K p ms), .sh (.lst (rowL p ms)), .sh (stripD K p ms), .sh (.lst ((numsOf ms).map fun kv => .str kv.1)), .ow (.lst []), .no, .no, .no] _
  rw [ek]
  refine sd_seq (sd_if (et_not (et_B (ev_cb (ea_cons (ev_var (i := 0) rfl (ea_cons (ev_c (fun _ => rep_cls _) (ea_nil (isi_insC hk.st.ins.t hk.eq.self ⟨_, rfl, ite_f rfl (sd_next ?_)⟩))))))))))
  refine sd_seq (sd_for (js := [5]) (ei_seqL (EvN.d (en_lst (ea_cons (ev_var (i := 0) rfl (ea_cons (ev_var (i := 2) rfl (ea_nil ⟨Nat.le_of_ble_eq_true rfl, _, rfl, ?_⟩)))))))) )
  refine ⟨fun i δ' => ∃ a5 a6 a7, δ' = [.sh (stripD K p ms), .sh (.lst (rowL p ms)), .sh (stripD K p ms), .sh (.lst ((nmsOf ms).map .str)), .ow (.lst (List.replicate i (.str (D.lst (toldT p ms)).py.shown))), a5, a6, a7] ∧ i ≤ 2, ⟨_, _, _, rfl, by omega⟩, ?_, ?_⟩
  · rintro i x δ' ex ⟨a5, a6, a7, rfl, hi2⟩
    have hi := (List.getElem?_eq_some_iff.mp ex).1
    have hi : i < 2 := hi
    have hx : x = stripD K p ms := by
      have := List.mem_of_getElem? ex
      simp only [List.mem_cons, List.not_mem_nil, or_false] at this
      rcases this with rfl | rfl <;> rfl
    subst hx
    refine tg_name ?_
    generalize hR : (List.replicate i (D.str (D.lst (toldT p ms)).py.shown)) = R
    have hRl : R.length = i := by rw [← hR, List.length_replicate]
    show SD K _ [.sh (stripD K p ms), .sh (.lst (rowL p ms)), .sh (stripD K p ms), .sh (.lst ((nmsOf ms).map .str)), .ow (.lst R), .sh (stripD K p ms), a6, a7] _
    refine sd_seq (sd_asgN (en_lst (ea_cons (ev_cb (ea_cons (ev_var (i := 5) rfl (ea_nil (len_own hk.st ok (ea_nil ⟨Nat.le_of_ble_eq_true rfl, ?_⟩)))))))))
    refine sd_seq (sd_for (js := [7]) (ei_seqL (ev_un (ev_var (i := 3) rfl (stepU_l ?_)))))
    rw [pick_rev]
    refine ⟨_, rfl, ?_⟩
    rw [← List.map_reverse]
    refine ⟨fun t δ' => ∃ a7, δ' = [.sh (stripD K p ms), .sh (.lst (rowL p ms)), .sh (stripD K p ms), .sh (.lst ((nmsOf ms).map .str)), .ow (.lst R), .sh (stripD K p ms), .ow (.lst (.int (numsOf ms).length :: ((nmsOf ms).reverse.take t).flatMap (toldX ms ((nmsOf ms).headD "")))), a7], ⟨_, rfl⟩, ?_, ?_⟩
    · rintro t d δ' ed ⟨a7, rfl⟩
      obtain ⟨ht, rfl⟩ := mapAt ed
      have hx : (nmsOf ms).reverse[t] ∈ nmsOf ms := by
        have := List.getElem_mem ht
        simpa using this
      have estep := fm_step (f := toldX ms ((nmsOf ms).headD "")) ht
      have hal := fm_len (l := (nmsOf ms).reverse.take t) (f := toldX ms ((nmsOf ms).headD "")) (c := 5) fun q h => Nat.le_of_ble_eq_true rfl
      have hal2 : ((nmsOf ms).reverse.take t).length ≤ 12 := by rw [List.length_take, List.length_reverse]; omega
      have hal3 : ((nmsOf ms).reverse.take t).length * 5 ≤ 12 * 5 := Nat.mul_le_mul_right _ hal2
      generalize (nmsOf ms).reverse[t] = z at *
      generalize ((nmsOf ms).reverse.take t).flatMap (toldX ms ((nmsOf ms).headD "")) = acc at *
      have hp := (pl_eq ok (nms_mem.mp hx)).1
      have hk0 : (nmsOf ms).headD "" ∈ namesOf ms ∧ atI ((nmsOf ms).map D.str) 0 = some (.str ((nmsOf ms).headD "")) := by
        cases hh : nmsOf ms with
        | nil => rw [hh] at hx; cases hx
        | cons c r =>
          refine ⟨nms_mem.mp (by rw [hh]; exact List.mem_cons_self), ?_⟩
          exact atIn (xs := (c :: r).map D.str) (i := 0) (by simp)
      generalize (nmsOf ms).headD "" = k0 at *
      refine tg_name ?_
      show SD K _ [.sh (stripD K p ms), .sh (.lst (rowL p ms)), .sh (stripD K p ms), .sh (.lst ((nmsOf ms).map .str)), .ow (.lst R), .sh (stripD K p ms), .ow (.lst (.int (numsOf ms).length :: acc)), .sh (.str z)] _
      refine sd_seq (sd_asgN (en_op (ev_varF (i := 6) rfl (EvN.d (en_lst (ea_cons (ev_meth (ev_var (i := 5) rfl ⟨_, rfl, rfl, ea_cons (ev_var (i := 7) rfl (ea_nil ⟨p, ms, z, _, _, rfl, hk.st, ok, hp, ?_⟩))⟩)))))))) 
      refine ea_cons (ev_meth (ev_var (i := 5) rfl ⟨_, rfl, rfl, ea_cons (ev_var (i := 7) rfl (ea_nil ⟨p, ms, z, _, _, rfl, hk.st, ok, hp, ?_⟩))⟩))
      refine ea_cons (ev_meth (ev_var (i := 5) rfl ⟨_, rfl, rfl, ea_cons (ev_var (i := 7) rfl (ea_nil ⟨p, ms, z, _, _, rfl, hk.st, ok, hp, ?_⟩))⟩))
      refine ea_cons (EvN.d (en_meth (ev_var (i := 5) rfl ⟨_, rfl, rfl, ea_cons (ev_var (i := 7) rfl (ea_nil ⟨p, ms, z, _, _, rfl, hk.st, ok, hp, _, rfl, ?_⟩))⟩)))
      refine ea_nil ⟨Nat.le_of_ble_eq_true rfl, add_llN (by simp; omega) ?_⟩
      have eT : toldX ms k0 z = [.tup [.int ((plOf ms z).1 : Nat), .int ((plOf ms z).2 : Nat)], .tup [.bl (upAt ms (plOf ms z).1), .bl (upAt ms (plOf ms z).2)], .bl (decide (upAt ms (plOf ms z).1 = upAt ms (plOf ms z).2)), .lst ((betw ms (plOf ms z).1 (plOf ms z).2).map .str)] ++ [.bl (!decide (z = k0) && decide ((betw ms (plOf ms z).1 (plOf ms z).2).count k0 = 1))] := rfl
      rw [eT] at estep
      show SD K _ [.sh (stripD K p ms), .sh (.lst (rowL p ms)), .sh (stripD K p ms), .sh (.lst ((nmsOf ms).map .str)), .ow (.lst R), .sh (stripD K p ms), .ow (.lst ((.int (numsOf ms).length :: acc) ++ [D.tup [.int ((plOf ms z).1 : Nat), .int ((plOf ms z).2 : Nat)], .tup [.bl (upAt ms (plOf ms z).1), .bl (upAt ms (plOf ms z).2)], .bl (decide (upAt ms (plOf ms z).1 = upAt ms (plOf ms z).2)), .lst ((betw ms (plOf ms z).1 (plOf ms z).2).map .str)])), .sh (.str z)] _
      generalize hfour : [D.tup [.int ((plOf ms z).1 : Nat), .int ((plOf ms z).2 : Nat)], .tup [.bl (upAt ms (plOf ms z).1), .bl (upAt ms (plOf ms z).2)], .bl (decide (upAt ms (plOf ms z).1 = upAt ms (plOf ms z).2)), .lst ((betw ms (plOf ms z).1 (plOf ms z).2).map .str)] = four at estep ⊢
      have hf4 : four.length = 4 := by rw [← hfour]; rfl
      refine sd_append (i := 6) rfl (ev_meth (ev_var (i := 5) rfl ⟨_, rfl, rfl, ea_cons (ev_var (i := 7) rfl (ea_cons (ev_op (ev_var (i := 3) rfl (ev_int (ix_l hk0.2 (ea_nil ⟨p, ms, z, k0, _, _, rfl, hk.st, ok, hp, hk0.1, ?_⟩)))))))⟩))
      refine ⟨_, rfl, by rw [List.length_append, List.length_cons, hf4]; omega, .sh (.str z), ?_⟩
      rw [estep, ← List.append_assoc]
      rfl
    · rintro δ' ⟨a7, rfl⟩
      rw [List.length_map, List.take_of_length_le (Nat.le_refl _)]
      have hT : okShow (.lst (toldT p ms)) = true := told_show ok hw
      have hal := fm_len (l := (nmsOf ms).reverse) (f := toldX ms ((nmsOf ms).headD "")) (c := 5) fun q h => Nat.le_of_ble_eq_true rfl
      rw [List.length_reverse] at hal
      have hal3 : (nmsOf ms).length * 5 ≤ 12 * 5 := Nat.mul_le_mul_right _ hnm
      refine sd_append (i := 4) rfl (ev_cb (ea_cons (ev_op (ev_varF (i := 6) rfl (EvN.d (en_lst (ea_cons (EvN.d (en_meth (ev_var (i := 5) rfl ⟨_, rfl, rfl, ea_nil ⟨p, ms, rfl, hk.st, _, rfl, ?_⟩⟩))))))))))
      refine ea_cons (EvN.d (en_meth (ev_var (i := 5) rfl ⟨_, rfl, rfl, ea_nil ⟨p, ms, rfl, hk.st, _, rfl, ?_⟩⟩)))
      refine ea_cons (ev_cb (ea_cons (ev_var (i := 5) rfl (ea_nil (str_own hk.st ok ?_)))))
      refine ea_cons (ev_cb (ea_cons (ev_var (i := 5) rfl (ea_nil (repr_own hk.st ok ?_)))))
      refine ea_nil ⟨Nat.le_of_ble_eq_true rfl, add_ll (by rw [List.length_cons]; show _ + 1 + 4 ≤ _; omega) ?_⟩
      refine ea_nil (repr_d hT ⟨_, rfl, by rw [hRl]; omega, .sh (stripD K p ms), .sh (.lst (.int (numsOf ms).length :: (nmsOf ms).reverse.flatMap (toldX ms ((nmsOf ms).headD "")))), a7, ?_, by omega⟩)
      rw [List.replicate_succ', hR]
      rfl
  · rintro δ' ⟨a5, a6, a7, rfl, hi2⟩
    have e2 : List.replicate [stripD K p ms, stripD K p ms].length (D.str (D.lst (toldT p ms)).py.shown) = [.str (D.lst (toldT p ms)).py.shown, .str (D.lst (toldT p ms)).py.shown] := rfl
    rw [e2]
    refine sd_ret (ev_and (ev_op (ev_ixO (i := 4) ixU_own rfl (ev_int ⟨_, _, _, rfl, rfl, rfl, ev_ixO (i := 4) ixU_own rfl (ev_int ⟨_, _, _, rfl, rfl, rfl, eq_ss ⟨_, rfl, ite_t (by simp) ?_⟩⟩)⟩))))
    refine ev_and (ev_op (ev_var (i := 0) rfl (ev_var (i := 2) rfl (self_cmp hk.st.ins.t ⟨p, ms, _, rfl, hk, ok, .inl ⟨p, ms, rfl, ok, _, rfl, _, rfl, ite_t (by simp [ngB]) ?_⟩⟩))))
    have hsh : okShow (.lst (rowL p ms)) = true := by
      refine nice_show rn.1 (Nat.le_trans rn.2 (by decide)) ?_
      have h4 := wDs_items (rowL p ms) (row_items ok.row)
      have htx := (row_tx ms p ok.row.nm).2
      simp only [wD]; omega
    refine ev_op (ev_cb (ea_cons (EvN.d (en_meth (ev_var (i := 0) rfl ⟨_, rfl, rfl, ea_nil ⟨p, ms, rfl, hk.st, _, rfl, ea_nil (repr_d hsh ?_)⟩⟩)))))
    refine ev_cb (ea_cons (ev_var (i := 1) rfl (ea_nil (repr_d hsh (eq_ss ?_)))))
    have e3 : decide ((OD.lst (rowL p ms)).d.py.shown = (D.lst (rowL p ms)).py.shown) = true := decide_eq_true rfl
    rw [e3]; exact k

def A_law (K : PySem.W.Frag) : FS := fun ds post => ∃ ns : List Int, ds = [.scr ns] ∧ (∀ z ∈ ns, Huge z) ∧ LawK K ∧ post (.val (.bl true))
theorem rowL_inj : ∀ {ms ns : List It2} {p q : Str}, rowL p ms = rowL q ns → p = q ∧ ms = ns
  | [], [], p, q, h => by
    have h : [D.str p] = [D.str q] := h
    simp at h
    exact ⟨h, rfl⟩
  | [], y :: s, p, q, h => by
    have := congrArg List.length h
    rw [rowL_len, rowL_len] at this
    simp at this
  | x :: r, [], p, q, h => by
    have := congrArg List.length h
    rw [rowL_len, rowL_len] at this
    simp at this
  | x :: r, y :: s, p, q, h => by
    have h : D.str p :: mkD x.1 :: rowL x.2 r = .str q :: mkD y.1 :: rowL y.2 s := h
    injection h with h1 h2
    injection h2 with h3 h4
    obtain ⟨h5, h6⟩ := rowL_inj h4
    have h1 : p = q := by simpa using h1
    have h3 : x.1 = y.1 := by
      unfold mkD at h3
      simp at h3
      exact Prod.ext h3.1 h3.2
    exact ⟨h1, by rw [h6]; congr 1; exact Prod.ext h3 h5⟩
theorem flR_twice {p : Str} {ms : List It2} (ok : StOk p ms) : (flR (flR p ms).1 (flR p ms).2).1 = p ∧ (flR (flR p ms).1 (flR p ms).2).2 = ms := by
  have e := flL_twice ok.row
  rw [flL_row, flL_row] at e
  exact rowL_inj e
theorem ne_bb {i j : Bool} {Ψ : D → Prop} (k : Ψ (.bl (!decide (i = j)))) : R2D K (rNeU K) (.bl i) (.bl j) Ψ := fun G H v w s rx ry => by
  rw [rx.bl_inv, ry.bl_inv]
  refine RD.val s (rep_bl _) k fun Q q => .inl ⟨rfl, ?_⟩
  have e : (!decide (V.bl i = V.bl j)) = !decide (i = j) := by simp
  rw [e]; exact q
theorem sd_law_right {ds : List D} {post : Rs → Prop} (a : B_law_right K ds post) : SD K (t_law_right K) (initS n_law_right ds) { nx := fun _ => post (.val .non), rt := fun r _ => post r } := by
  obtain ⟨p, ms, ls, rfl, hk, ok, hw, hls, hll, k⟩ := a
  have big3 : 2000000 ≤ sizeLine := by decide
  have hlen := ok.len
  have htx := (row_tx ms p ok.row.nm).2
  have hit := row_items ok.row
  have rn := row_nice ok.row
  have hxl := rowL_len p ms
  have okf := ok.flip
  have fw := flR_w ms p
  obtain ⟨t1, t2⟩ := flR_twice ok
  unfold t_law_right
  show SD K _ [.sh (.lst (rowL p ms)), .sh (.lst (ls.map .lst)), .no, .no, .no, .no, .no, .no, .no] _
  refine sd_seq (sd_par (ea_cons (EvN.d (en_make (ea_cons (ev_var (i := 0) rfl (ea_nil ⟨_, p, ms, rfl, .inl rfl, ok, hk.st, ?_⟩)))))))
  refine ea_cons (EvN.d (en_make (ea_cons (ev_cb (ea_cons (ev_var (i := 0) rfl (ea_nil (tuple_l (ea_nil ⟨_, p, ms, rfl, .inr rfl, ok, hk.st, ?_⟩)))))))))
  refine ea_nil ⟨_, _, rfl, ?_⟩
  show SD K _ [.sh (.lst (rowL p ms)), .sh (.lst (ls.map .lst)), .sh (stripD K p ms), .sh (stripD K p ms), .no, .no, .no, .no, .no] _
  have e1 : decide (rowL p ms = rowL p ms) = true := decide_eq_true rfl
  refine sd_seq (sd_if (et_or (et_test (ev_op (ev_op (ev_var (i := 2) rfl (ev_var (i := 3) rfl (self_cmp hk.st.ins.t ⟨p, ms, _, rfl, hk, ok, .inl ⟨p, ms, rfl, ok, _, rfl, ?_⟩⟩))))))))
  refine ev_bl (notB ⟨_, rfl, ite_f (by rw [e1]; rfl) ?_⟩)
  refine et_test (ev_op (ev_op (ev_var (i := 2) rfl (ev_var (i := 3) rfl (self_cmp hk.st.ins.t ⟨p, ms, _, rfl, hk, ok, .inl ⟨p, ms, rfl, ok, _, rfl, ?_⟩⟩)))))
  refine ev_bl (notB ⟨_, rfl, ite_f (by rw [e1]; rfl) (sd_next ?_)⟩)
  refine sd_seq (sd_par (ea_cons (EvN.d (en_meth (ev_var (i := 2) rfl ⟨_, rfl, rfl, ea_nil ⟨p, ms, rfl, hk.st, ok, _, rfl, ?_⟩⟩)))))
  refine ea_cons (ev_call (ea_cons (ev_var (i := 0) rfl (ea_nil ⟨rowL p ms, rfl, hit, by omega, ?_⟩))))
  refine ea_nil ⟨_, _, rfl, ?_⟩
  have ebk := flL_bk p ms
  show SD K _ [.sh (.lst (rowL p ms)), .sh (.lst (ls.map .lst)), .sh (stripD K p ms), .sh (stripD K p ms), .sh (stripD K (flR p ms).1 (flR p ms).2), .sh (.lst (bk flI (rowL p ms))), .no, .no, .no] _
  rw [ebk]
  generalize hq : (flR p ms).1 = q at *
  generalize hn : (flR p ms).2 = ns at *
  refine sd_seq (sd_if (et_or (et_not (et_B (ev_call (ea_cons (ev_var (i := 4) rfl (ea_cons (ev_var (i := 5) rfl (ea_nil ⟨q, ns, rfl, hk, okf, by omega, _, rfl, ite_f rfl ?_⟩))))))))))
  refine et_or (et_not (et_test (ev_op (EvN.d (en_meth (ev_var (i := 4) rfl ⟨_, rfl, rfl, ea_nil ⟨q, ns, rfl, hk.st, okf, _, rfl, ?_⟩⟩))))))
  have eback : (OD.ins (stC K) (stripF (flR q ns).1 (flR q ns).2)).d = stripD K p ms := by rw [t1, t2]
  rw [eback]
  refine ev_var (i := 2) rfl (self_cmp hk.st.ins.t ⟨p, ms, _, rfl, hk, ok, .inl ⟨p, ms, rfl, ok, _, rfl, _, rfl, ite_f (by rw [e1]; rfl) ?_⟩⟩)
  refine et_not (et_B (ev_call (ea_cons (EvN.d (en_meth (ev_var (i := 4) rfl ⟨_, rfl, rfl, ea_nil ⟨q, ns, rfl, hk.st, okf, _, rfl, ?_⟩⟩))))))
  rw [eback]
  refine ea_cons (ev_var (i := 0) rfl (ea_nil ⟨p, ms, rfl, hk, ok, by omega, _, rfl, ite_f rfl (sd_next ?_)⟩))
  have hls2 : ∀ l ∈ ls ++ [rowL q ns], ∃ q ns, l = rowL q ns ∧ StOk q ns := fun l hl => by
    rcases List.mem_append.mp hl with h | h
    · obtain ⟨q, ns, e, so, _⟩ := hls l h
      exact ⟨q, ns, e, so⟩
    · exact ⟨q, ns, List.mem_singleton.mp h, okf⟩
  refine sd_seq (sd_for (js := [6]) (ei_seqL (ev_op (ev_var (i := 1) rfl (EvN.d (en_lst (ea_cons (ev_var (i := 5) rfl (ea_nil ⟨Nat.le_of_ble_eq_true rfl, add_ll (by rw [List.length_map]; simp; omega) ?_⟩)))))))))
  have emap : (ls.map D.lst) ++ [.lst (rowL q ns)] = (ls ++ [rowL q ns]).map .lst := by rw [List.map_append]; rfl
  refine ⟨_, rfl, ?_⟩
  rw [emap]
  refine ⟨fun i δ' => ∃ a6 a7, δ' = [.sh (.lst (rowL p ms)), .sh (.lst (ls.map .lst)), .sh (stripD K p ms), .sh (stripD K p ms), .sh (stripD K q ns), .sh (.lst (rowL q ns)), a6, a7, .no], ⟨_, _, rfl⟩, ?_, ?_⟩
  · rintro i x δ' ex ⟨a6, a7, rfl⟩
    obtain ⟨hi, rfl⟩ := mapAt ex
    obtain ⟨u, us, eu, ou⟩ := hls2 _ (List.getElem_mem hi)
    rw [eu]
    refine tg_name ?_
    show SD K _ [.sh (.lst (rowL p ms)), .sh (.lst (ls.map .lst)), .sh (stripD K p ms), .sh (stripD K p ms), .sh (stripD K q ns), .sh (.lst (rowL q ns)), .sh (.lst (rowL u us)), a7, .no] _
    refine sd_seq (sd_asg (EvN.d (en_make (ea_cons (ev_var (i := 6) rfl (ea_nil ⟨_, u, us, rfl, .inl rfl, ou, hk.st, ?_⟩))))))
    show SD K _ [.sh (.lst (rowL p ms)), .sh (.lst (ls.map .lst)), .sh (stripD K p ms), .sh (stripD K p ms), .sh (stripD K q ns), .sh (.lst (rowL q ns)), .sh (.lst (rowL u us)), .sh (stripD K u us), .no] _
    have hit2 := row_items ou.row
    have d1 : decide (rowL u us = rowL p ms) = decide (rowL p ms = rowL u us) := by by_cases h : rowL p ms = rowL u us <;> simp [h, eq_comm]
    have eqr : ∀ {Ψ : D → Prop}, Ψ (.bl (decide (rowL p ms = rowL u us))) → R2D K (rEqU K) (.lst (rowL p ms)) (.lst (rowL u us)) Ψ := fun {Ψ} h => eq_dd (items_py hit) (items_py hit2) (by rw [rows_eqv hit hit2]; exact h)
    refine sd_if (et_or (et_test (ev_op (ev_op (ev_var (i := 2) rfl (ev_var (i := 7) rfl (self_cmp hk.st.ins.t ⟨p, ms, _, rfl, hk, ok, .inl ⟨u, us, rfl, ou, _, rfl, ?_⟩⟩)))))))
    refine ev_op (ev_var (i := 0) rfl (ev_var (i := 6) rfl (eqr (ne_bb ⟨_, rfl, ite_f (by simp [ngB, d1]) ?_⟩))))
    refine et_or (et_test (ev_op (ev_op (ev_var (i := 7) rfl (ev_var (i := 2) rfl (self_cmp hk.st.ins.t ⟨u, us, _, rfl, hk, ou, .inl ⟨p, ms, rfl, ok, _, rfl, ?_⟩⟩))))))
    refine ev_op (ev_var (i := 0) rfl (ev_var (i := 6) rfl (eqr (ne_bb ⟨_, rfl, ite_f (by simp [ngB]) ?_⟩))))
    refine et_test (ev_op (ev_op (ev_var (i := 2) rfl (ev_var (i := 7) rfl (self_cmp hk.st.ins.t ⟨p, ms, _, rfl, hk, ok, .inl ⟨u, us, rfl, ou, _, rfl, ?_⟩⟩)))))
    refine ev_op (ev_var (i := 0) rfl (ev_var (i := 6) rfl (eqr (eq_bb ⟨_, rfl, ite_f (by simp [ngB, d1]) (sd_next ?_)⟩))))
    exact ⟨_, _, rfl⟩
  rintro δ' ⟨a6, a7, rfl⟩
  have hpx : 0 < (rowL p ms).length := by omega
  obtain ⟨z, hz, hzp⟩ := ok.rowY.piece hpx rfl
  have az : atI (rowL p ms) 0 = some (.str z) := by
    have := atIn hpx
    rw [hz] at this; exact this
  have zl := piece_le' z
  have zl2 : z.length ≤ 3000 := by
    have h1 := txW_mem (List.getElem_mem hpx)
    rw [hz] at h1
    have h2 := piece_le z
    omega
  refine sd_seq (sd_for (js := [8]) (ei_seqL (EvN.d (en_lst (ea_cons (ev_non (ea_cons (ev_var (i := 0) rfl (ea_cons (ev_cb (ea_cons (ev_var (i := 0) rfl (ea_nil (tuple_l ?_))))))))))))))
  refine ea_cons (ev_cb (ea_cons (ev_var (i := 2) rfl (ea_nil (str_own hk.st ok ?_)))))
  refine ea_cons (EvN.d (en_make (ea_cons (EvN.d (en_lst (ea_cons (ev_op (ev_var (i := 0) rfl (ev_int (ix_l az (ea_nil ⟨Nat.le_of_ble_eq_true rfl, ?_⟩)))))))))))
  refine ea_nil ⟨_, [.str z], rfl, .inl rfl, ⟨.one z hzp, by show (itemText (.str z)).length + 1 + 0 ≤ _; omega⟩, hk.rg, fun r c => ?_⟩
  refine ea_cons (ev_cb (ea_cons (ev_var (i := 0) rfl (ea_nil (len_l (ea_nil ⟨Nat.le_of_ble_eq_true rfl, _, rfl, ?_⟩))))))
  refine ⟨fun i δ' => ∃ a8, δ' = [.sh (.lst (rowL p ms)), .sh (.lst (ls.map .lst)), .sh (stripD K p ms), .sh (stripD K p ms), .sh (stripD K q ns), .sh (.lst (rowL q ns)), a6, a7, a8], ⟨_, rfl⟩, ?_, ?_⟩
  · rintro i x δ' ex ⟨a8, rfl⟩
    have hn : NotC K (stC K) x := by
      have := List.mem_of_getElem? ex
      simp only [List.mem_cons, List.not_mem_nil, or_false] at this
      rcases this with rfl | rfl | rfl | rfl | rfl | rfl
      · exact .ty rfl
      · exact .ty rfl
      · exact .ty rfl
      · exact .ty rfl
      · exact .ins hk.rg.ins.t hk.ap
      · exact .ty rfl
    refine tg_name ?_
    show SD K _ [.sh (.lst (rowL p ms)), .sh (.lst (ls.map .lst)), .sh (stripD K p ms), .sh (stripD K p ms), .sh (stripD K q ns), .sh (.lst (rowL q ns)), a6, a7, .sh x] _
    refine sd_if (et_or (et_test (ev_op (ev_var (i := 2) rfl (ev_var (i := 8) rfl (hn.cmp ⟨p, ms, x, rfl, hk, ok, .inr ⟨hn, _, rfl, _, rfl, ite_f rfl ?_⟩⟩))))))
    refine et_not (et_test (ev_op (ev_var (i := 2) rfl (ev_var (i := 8) rfl (hn.cmp ⟨p, ms, x, rfl, hk, ok, .inr ⟨hn, _, rfl, _, rfl, ite_f rfl (sd_next ?_)⟩⟩)))))
    exact ⟨_, rfl⟩
  · rintro δ' ⟨a8, rfl⟩
    have hsh : okShow (.lst (rowL p ms)) = true := by
      refine nice_show rn.1 (Nat.le_trans rn.2 (by decide)) ?_
      have h4 := wDs_items (rowL p ms) hit
      simp only [wD]; omega
    refine sd_ret (ev_op (ev_cb (ea_cons (EvN.d (en_meth (ev_var (i := 2) rfl ⟨_, rfl, rfl, ea_nil ⟨p, ms, rfl, hk.st, _, rfl, ea_nil (repr_d hsh ?_)⟩⟩))))))
    refine ev_cb (ea_cons (ev_var (i := 0) rfl (ea_nil (repr_d hsh (eq_ss ?_)))))
    have e3 : decide ((OD.lst (rowL p ms)).d.py.shown = (D.lst (rowL p ms)).py.shown) = true := decide_eq_true rfl
    rw [e3]; exact k
theorem sd_law {ds : List D} {post : Rs → Prop} (a : A_law K ds post) : SD K (t_law K) (initS n_law ds) { nx := fun _ => post (.val .non), rt := fun r _ => post r } := by
  obtain ⟨ns, rfl, hns, hk, k⟩ := a
  have big3 : 2000000 ≤ sizeLine := by decide
  unfold t_law
  show SD K _ [.sh (.scr ns), .no, .no, .no, .no] _
  refine sd_seq (sd_for (js := [1]) (ei_range1 ?_))
  repeat walk_at "e"
  refine ⟨by omega, by omega, fun i δ' => ∃ a1 a2 a3 a4, δ' = [.sh (.scr ns), a1, a2, a3, a4], ⟨_, _, _, _, rfl⟩, ?_, ?_⟩
  · rintro i x δ' ex ⟨a1, a2, a3, a4, rfl⟩
    obtain ⟨hi, rfl⟩ := range_at2 ex
    refine tg_name ?_
    show SD K _ [.sh (.scr ns), .sh (.int (i : Nat)), a2, a3, a4] _
    refine sd_seq (sd_asgB (en_call ?_))
    repeat walk_at "e"
    refine ⟨by omega, by omega, hns, fun v hv => ?_⟩
    repeat walk_at "e"
    refine ⟨hv, fun x y m hx0 hx1 hm hy0 hy1 => ?_⟩
    refine ⟨_, rfl, x, y, 0, m, 0, rfl, hx0, hx1, hm, hy0, hy1, by decide, by decide, fun b => ?_⟩
    show SD K _ [.sh (.scr ns), .sh (.int (i : Nat)), .bx b 0, a3, a4] _
    refine sd_seq (sd_asg (ev_callX (i := 2) rfl (ea_cons (ev_callX (i := 2) rfl (ea_cons (ev_int (ea_nil ⟨0, rfl, 8, rfl, by decide, by decide, by decide, fun r r0 r1 => ?_⟩)))))))
    refine ea_nil ⟨1, rfl, r, rfl, r0, by omega, by decide, fun p ms ok hw hnm hz4 => ?_⟩
    show SD K _ [.sh (.scr ns), .sh (.int (i : Nat)), .bx b (1 + 3000), .sh (.lst (rowL p ms)), a4] _
    refine sd_seq (sd_if (et_not (et_B (ev_call (ea_cons (ev_var (i := 3) rfl (ea_cons (ev_callX (i := 2) rfl (ea_cons (ev_var (i := 3) rfl (ea_nil ⟨_, rfl, p, ms, rfl, ok, hw, by omega, hz4, by decide, fun ls bm hls hll hbm => ?_⟩)))))))))))
    refine ea_nil ⟨p, ms, ls, rfl, hk, ok, hw, hls, hll, _, rfl, ite_f rfl (sd_next ?_)⟩
    show SD K _ [.sh (.scr ns), .sh (.int (i : Nat)), .bx b bm, .sh (.lst (rowL p ms)), a4] _
    refine sd_seq (sd_asg (ev_callX (i := 2) rfl (ea_cons (ev_op (ev_int (ev_callX (i := 2) rfl (ea_cons (ev_int (ea_nil ⟨bm, rfl, 6, rfl, by decide, by decide, by show bm + 1 ≤ 1099511627776; omega, fun s s0 s1 => ?_⟩)))))))))
    refine add_ii (ea_nil ⟨bm + 1, rfl, _, rfl, by omega, by omega, by show bm + 1 + 1000 ≤ 1099511627776; omega, fun q us bm' oq qw qpal hbm' => ?_⟩)
    show SD K _ [.sh (.scr ns), .sh (.int (i : Nat)), .bx b bm', .sh (.lst (rowL p ms)), .sh (.lst (rowL q us))] _
    refine sd_if (et_or (et_not (et_test (ev_op (EvN.d (en_meth (EvN.d (en_make (ea_cons (ev_var (i := 4) rfl (ea_nil ⟨_, q, us, rfl, .inl rfl, oq, hk.st, _, rfl, rfl, ea_nil ⟨q, us, rfl, hk.st, oq, _, rfl, ?_⟩⟩)))))))))))
    refine EvN.d (en_make (ea_cons (ev_var (i := 4) rfl (ea_nil ⟨_, q, us, rfl, .inl rfl, oq, hk.st, ?_⟩))))
    refine self_cmp hk.st.ins.t ⟨(flR q us).1, (flR q us).2, _, rfl, hk, oq.flip, .inl ⟨q, us, rfl, oq, _, rfl, _, rfl, ite_f ?_ ?_⟩⟩
    · rw [qpal]; simp [ngB]
    refine et_not (et_B (ev_call (ea_cons (ev_var (i := 4) rfl (ea_cons (EvN.d (en_lst (ea_cons (ev_var (i := 3) rfl (ea_nil ⟨Nat.le_of_ble_eq_true rfl, ?_⟩))))))))))
    refine ea_nil ⟨q, us, [rowL p ms], rfl, hk, oq, qw, ?_, Nat.le_of_ble_eq_true rfl, _, rfl, ite_f rfl (sd_next ?_)⟩
    · intro l hl
      rw [List.mem_singleton.mp hl]
      exact ⟨p, ms, rfl, ok, by omega⟩
    · exact ⟨_, _, _, _, rfl⟩
  · rintro δ' ⟨a1, a2, a3, a4, rfl⟩
    exact sd_ret (ev_bl k)

end Ms
namespace Hd
open PySem PySem.Spec PyProof.Rows L2 Ms
def d_law_box : He.DefD := ⟨("_law_box", none), "_law_box", "_law_box", defArgs s_law_box, defBody s_law_box, defScope s_law_box, [], []⟩
def d_law_take : He.DefD := ⟨("_law_take", none), "_law_take", "_law_take", defArgs s_law_take, defBody s_law_take, defScope s_law_take, [], []⟩
def d_law_names : He.DefD := ⟨("_law_names", none), "_law_names", "_law_names", defArgs s_law_names, defBody s_law_names, defScope s_law_names, [], []⟩
def d_law_piece : He.DefD := ⟨("_law_piece", none), "_law_piece", "_law_piece", defArgs s_law_piece, defBody s_law_piece, defScope s_law_piece, [], []⟩
def d_law_row : He.DefD := ⟨("_law_row", none), "_law_row", "_law_row", defArgs s_law_row, defBody s_law_row, defScope s_law_row, [], []⟩
def d_law_turned : He.DefD := ⟨("_law_turned", none), "_law_turned", "_law_turned", defArgs s_law_turned, defBody s_law_turned, defScope s_law_turned, [], []⟩
def d_law_palindrome : He.DefD := ⟨("_law_palindrome", none), "_law_palindrome", "_law_palindrome", defArgs s_law_palindrome, defBody s_law_palindrome, defScope s_law_palindrome, [], []⟩
def d_law_cell : He.DefD := ⟨("_law_cell", none), "_law_cell", "_law_cell", defArgs s_law_cell, defBody s_law_cell, defScope s_law_cell, [], []⟩
def d_is_name : He.DefD := ⟨("is_name", none), "is_name", "is_name", defArgs s_is_name, defBody s_is_name, defScope s_is_name, [], []⟩
def d_is_marker : He.DefD := ⟨("is_marker", none), "is_marker", "is_marker", defArgs s_is_marker, defBody s_is_marker, defScope s_is_marker, [], []⟩
def d_require_marker : He.DefD := ⟨("require_marker", none), "require_marker", "require_marker", defArgs s_require_marker, defBody s_require_marker, defScope s_require_marker, [], []⟩
def d_is_piece : He.DefD := ⟨("is_piece", none), "is_piece", "is_piece", defArgs s_is_piece, defBody s_is_piece, defScope s_is_piece, [], []⟩
def d_require_piece : He.DefD := ⟨("require_piece", none), "require_piece", "require_piece", defArgs s_require_piece, defBody s_require_piece, defScope s_require_piece, [], []⟩
def d_require_items : He.DefD := ⟨("require_items", none), "require_items", "require_items", defArgs s_require_items, defBody s_require_items, defScope s_require_items, [], []⟩
def d_is_sequence : He.DefD := ⟨("is_sequence", none), "is_sequence", "is_sequence", defArgs s_is_sequence, defBody s_is_sequence, defScope s_is_sequence, [], []⟩
def d_require_row : He.DefD := ⟨("require_row", none), "require_row", "require_row", defArgs s_require_row, defBody s_require_row, defScope s_require_row, [], []⟩
def d_marker_numbers : He.DefD := ⟨("marker_numbers", none), "marker_numbers", "marker_numbers", defArgs s_marker_numbers, defBody s_marker_numbers, defScope s_marker_numbers, [], []⟩
def d_Strip_init : He.DefD := ⟨("Strip", some "__init__"), "__init__", "Strip.__init__", defArgs s_Strip_init, defBody s_Strip_init, defScope s_Strip_init, [], []⟩
def d_item_text : He.DefD := ⟨("item_text", none), "item_text", "item_text", defArgs s_item_text, defBody s_item_text, defScope s_item_text, [], []⟩
def d_items_text : He.DefD := ⟨("items_text", none), "items_text", "items_text", defArgs s_items_text, defBody s_items_text, defScope s_items_text, [], []⟩
def d_reading_text : He.DefD := ⟨("reading_text", none), "reading_text", "reading_text", defArgs s_reading_text, defBody s_reading_text, defScope s_reading_text, [], []⟩
def d_require_reading : He.DefD := ⟨("require_reading", none), "require_reading", "require_reading", defArgs s_require_reading, defBody s_require_reading, defScope s_require_reading, [], []⟩
def d_flipped_marker : He.DefD := ⟨("flipped_marker", none), "flipped_marker", "flipped_marker", defArgs s_flipped_marker, defBody s_flipped_marker, defScope s_flipped_marker, [], []⟩
def d_flipped_piece : He.DefD := ⟨("flipped_piece", none), "flipped_piece", "flipped_piece", defArgs s_flipped_piece, defBody s_flipped_piece, defScope s_flipped_piece, [], []⟩
def d_flipped_item : He.DefD := ⟨("flipped_item", none), "flipped_item", "flipped_item", defArgs s_flipped_item, defBody s_flipped_item, defScope s_flipped_item, [], []⟩
def d_flipped_items : He.DefD := ⟨("flipped_items", none), "flipped_items", "flipped_items", defArgs s_flipped_items, defBody s_flipped_items, defScope s_flipped_items, [], []⟩
def d_readings : He.DefD := ⟨("readings", none), "readings", "readings", defArgs s_readings, defBody s_readings, defScope s_readings, [], []⟩
def d_Ring_init : He.DefD := ⟨("Ring", some "__init__"), "__init__", "Ring.__init__", defArgs s_Ring_init, defBody s_Ring_init, defScope s_Ring_init, [], []⟩
def d_Strip_names : He.DefD := ⟨("Strip", some "names"), "names", "Strip.names", defArgs s_Strip_names, defBody s_Strip_names, defScope s_Strip_names, [], []⟩
def d_Strip_eq : He.DefD := ⟨("Strip", some "__eq__"), "__eq__", "Strip.__eq__", defArgs s_Strip_eq, defBody s_Strip_eq, defScope s_Strip_eq, [], []⟩
def d_Strip_len : He.DefD := ⟨("Strip", some "__len__"), "__len__", "Strip.__len__", defArgs s_Strip_len, defBody s_Strip_len, defScope s_Strip_len, [], []⟩
def d_Strip_require_name : He.DefD := ⟨("Strip", some "require_name"), "require_name", "Strip.require_name", defArgs s_Strip_require_name, defBody s_Strip_require_name, defScope s_Strip_require_name, [], []⟩
def d_Strip_places : He.DefD := ⟨("Strip", some "places"), "places", "Strip.places", defArgs s_Strip_places, defBody s_Strip_places, defScope s_Strip_places, [], []⟩
def d_Strip_names_between : He.DefD := ⟨("Strip", some "names_between"), "names_between", "Strip.names_between", defArgs s_Strip_names_between, defBody s_Strip_names_between, defScope s_Strip_names_between, [], []⟩
def d_Strip_crosses : He.DefD := ⟨("Strip", some "crosses"), "crosses", "Strip.crosses", defArgs s_Strip_crosses, defBody s_Strip_crosses, defScope s_Strip_crosses, [], []⟩
def d_Strip_row : He.DefD := ⟨("Strip", some "row"), "row", "Strip.row", defArgs s_Strip_row, defBody s_Strip_row, defScope s_Strip_row, [], []⟩
def d_Strip_orientations : He.DefD := ⟨("Strip", some "orientations"), "orientations", "Strip.orientations", defArgs s_Strip_orientations, defBody s_Strip_orientations, defScope s_Strip_orientations, [], []⟩
def d_Strip_is_direct : He.DefD := ⟨("Strip", some "is_direct"), "is_direct", "Strip.is_direct", defArgs s_Strip_is_direct, defBody s_Strip_is_direct, defScope s_Strip_is_direct, [], []⟩
def d_Strip_pieces : He.DefD := ⟨("Strip", some "pieces"), "pieces", "Strip.pieces", defArgs s_Strip_pieces, defBody s_Strip_pieces, defScope s_Strip_pieces, [], []⟩
def d_Strip_str : He.DefD := ⟨("Strip", some "__str__"), "__str__", "Strip.__str__", defArgs s_Strip_str, defBody s_Strip_str, defScope s_Strip_str, [], []⟩
def d_Strip_repr : He.DefD := ⟨("Strip", some "__repr__"), "__repr__", "Strip.__repr__", defArgs s_Strip_repr, defBody s_Strip_repr, defScope s_Strip_repr, [], []⟩
def d_law_like : He.DefD := ⟨("_law_like", none), "_law_like", "_law_like", defArgs s_law_like, defBody s_law_like, defScope s_law_like, [], []⟩
def d_Strip_flipped : He.DefD := ⟨("Strip", some "flipped"), "flipped", "Strip.flipped", defArgs s_Strip_flipped, defBody s_Strip_flipped, defScope s_Strip_flipped, [], []⟩
def d_law_right : He.DefD := ⟨("_law_right", none), "_law_right", "_law_right", defArgs s_law_right, defBody s_law_right, defScope s_law_right, [], []⟩
def d_law_near : He.DefD := ⟨("_law_near", none), "_law_near", "_law_near", defArgs s_law_near, defBody s_law_near, defScope s_law_near, [], []⟩
def d_law : He.DefD := ⟨("law", none), "law", "law", defArgs s_law, defBody s_law, defScope s_law, [], []⟩
def fn : List He.DefD := [d_law_box, d_law_take, d_law_names, d_law_piece, d_law_row, d_law_turned, d_law_palindrome, d_law_cell, d_is_name, d_is_marker, d_require_marker, d_is_piece, d_require_piece, d_require_items, d_is_sequence, d_require_row, d_marker_numbers, d_Strip_init, d_item_text, d_items_text, d_reading_text, d_require_reading, d_flipped_marker, d_flipped_piece, d_flipped_item, d_flipped_items, d_readings, d_Ring_init, d_Strip_names, d_Strip_eq, d_Strip_len, d_Strip_require_name, d_Strip_places, d_Strip_names_between, d_Strip_crosses, d_Strip_row, d_Strip_orientations, d_Strip_is_direct, d_Strip_pieces, d_Strip_str, d_Strip_repr, d_law_like, d_Strip_flipped, d_law_right, d_law_near, d_law]
def fa : List He.Fa := [.glo "_law_box", .glo "_law_take", .glo "_law_names", .glo "_law_piece", .glo "_law_row", .glo "_law_turned", .glo "_law_palindrome", .glo "_law_cell", .glo "is_name", .glo "is_marker", .glo "require_marker", .glo "is_piece", .glo "require_piece", .glo "require_items", .glo "is_sequence", .glo "require_row", .glo "marker_numbers", .glo "item_text", .glo "items_text", .glo "reading_text", .glo "require_reading", .glo "flipped_marker", .glo "flipped_piece", .glo "flipped_item", .glo "flipped_items", .glo "readings", .glo "_law_like", .glo "_law_right", .glo "_law_near", .glo "law", .free "KeyError", .free "ValueError", .free "all", .free "bool", .free "dict", .free "enumerate", .free "isinstance", .free "len", .free "list", .free "max", .free "min", .free "range", .free "repr", .free "str", .free "tuple", .free "zip", .str "LOWER" "abcdefghijklmnopqrstuvwxyz", .str "UPPER" "ABCDEFGHIJKLMNOPQRSTUVWXYZ", .int "MAX_NAME_LENGTH" 4, .int "MAX_NAMES" 12, .glo "Strip", .cls "Strip", .mkr "Strip", .glo "Ring", .cls "Ring", .mkr "Ring", .meth "Strip" "names", .meth "Strip" "__eq__", .meth "Strip" "__len__", .meth "Strip" "require_name", .meth "Strip" "places", .meth "Strip" "names_between", .meth "Strip" "crosses", .meth "Strip" "row", .meth "Strip" "orientations", .meth "Strip" "is_direct", .meth "Strip" "pieces", .meth "Strip" "__str__", .meth "Strip" "__repr__", .meth "Strip" "flipped", .noat "Strip" "kept_row", .noat "Strip" "kept_places", .noat "Ring" "kept_row"]
def ex (K : PySem.W.Frag) : Bool := (insB "Strip" K && (insB "Ring" K && (apB "Ring" "Strip" K && (eqB "Ring" K && eqB "Strip" K))))
def ts : List He.Tab := []
def loose0 : List PySem.Str := ["_wall", "__name__", "StripError", "Missing", "InvalidPiece", "InvalidMarker", "InvalidRow", "Unpaired", "TooMany", "UnknownName", "LOWER", "UPPER", "MAX_NAME_LENGTH", "is_name", "is_piece", "is_marker", "is_sequence", "require_piece", "require_marker", "require_items", "require_row", "flipped_piece", "flipped_marker", "flipped_item", "flipped_items", "marker_numbers", "item_text", "items_text", "reading_text", "MAX_NAMES"]
def loose1 : List PySem.Str := ["Strip", "require_reading", "readings", "Ring", "_law_cell", "_law_box", "_law_take", "_law_names", "_law_piece", "_law_row", "_law_turned", "_law_near", "_law_palindrome", "_law_like", "_law_right"]
def loose : List PySem.Str := loose0 ++ loose1
abbrev R : PySem.W.OpenRow := PySem.W.OpenLaw.row PySem.Challenge.rw_markersplice_k08_strip_equality_and_flip
abbrev hk : PySem.W.Hook := He.hookX 5 fa fn ts [] ex
def ob (s : PySem.W.SharedT) : He.AlX := He.obsX 5 fa fn ts [] ex (HandSHeadRun.getT s)
theorem ob_eq (s : PySem.W.SharedT) : ob s = hk.obs s.abs := He.obsX_eq (HandSHeadRun.getT_eq s)
set_option maxHeartbeats 0 in
theorem run (w : World) : HandSHeadRun.RunEq R (PySem.W.view R.prog [48]) hk ob 20000 loose w := by
  intro os
  kernel_rfl
end Hd
namespace Ms
open PySem PySem.Spec PyProof.Rows L2
section
variable {P : Program} {w : World} {K : PySem.W.Frag} {mg : Str → Option Value} {base : Heap}
structure Known (w : World) (K : PySem.W.Frag) (mg : Str → Option Value) : Prop where
  T : Txt K mg
  S : He.SaysD Hd.fa Hd.fn K
  g_law_box : mg "_law_box" = some (.ref (He.ga K "_law_box"))
  g_law_take : mg "_law_take" = some (.ref (He.ga K "_law_take"))
  g_law_names : mg "_law_names" = some (.ref (He.ga K "_law_names"))
  g_law_piece : mg "_law_piece" = some (.ref (He.ga K "_law_piece"))
  g_law_row : mg "_law_row" = some (.ref (He.ga K "_law_row"))
  g_law_turned : mg "_law_turned" = some (.ref (He.ga K "_law_turned"))
  g_law_palindrome : mg "_law_palindrome" = some (.ref (He.ga K "_law_palindrome"))
  g_law_cell : mg "_law_cell" = some (.ref (He.ga K "_law_cell"))
  g_is_name : mg "is_name" = some (.ref (He.ga K "is_name"))
  g_is_marker : mg "is_marker" = some (.ref (He.ga K "is_marker"))
  g_require_marker : mg "require_marker" = some (.ref (He.ga K "require_marker"))
  g_is_piece : mg "is_piece" = some (.ref (He.ga K "is_piece"))
  g_require_piece : mg "require_piece" = some (.ref (He.ga K "require_piece"))
  g_require_items : mg "require_items" = some (.ref (He.ga K "require_items"))
  g_is_sequence : mg "is_sequence" = some (.ref (He.ga K "is_sequence"))
  g_require_row : mg "require_row" = some (.ref (He.ga K "require_row"))
  g_marker_numbers : mg "marker_numbers" = some (.ref (He.ga K "marker_numbers"))
  g_item_text : mg "item_text" = some (.ref (He.ga K "item_text"))
  g_items_text : mg "items_text" = some (.ref (He.ga K "items_text"))
  g_reading_text : mg "reading_text" = some (.ref (He.ga K "reading_text"))
  g_require_reading : mg "require_reading" = some (.ref (He.ga K "require_reading"))
  g_flipped_marker : mg "flipped_marker" = some (.ref (He.ga K "flipped_marker"))
  g_flipped_piece : mg "flipped_piece" = some (.ref (He.ga K "flipped_piece"))
  g_flipped_item : mg "flipped_item" = some (.ref (He.ga K "flipped_item"))
  g_flipped_items : mg "flipped_items" = some (.ref (He.ga K "flipped_items"))
  g_readings : mg "readings" = some (.ref (He.ga K "readings"))
  g_law_like : mg "_law_like" = some (.ref (He.ga K "_law_like"))
  g_law_right : mg "_law_right" = some (.ref (He.ga K "_law_right"))
  g_law_near : mg "_law_near" = some (.ref (He.ga K "_law_near"))
  g_law : mg "law" = some (.ref (He.ga K "law"))
  gc_Strip : mg "Strip" = some (.ref (He.ga K "Strip"))
  gc_Ring : mg "Ring" = some (.ref (He.ga K "Ring"))
theorem ok_law_box (Z : Known w K mg) : Fn P w K mg base (0 + 1) "_law_box" p_law_box (spG K (A_law_box)) := by
  have F : ∃ fd, FunD K "_law_box" "_law_box" (defArgs s_law_box) (defBody s_law_box) (defScope s_law_box) [] [] (He.ga K "_law_box") fd := Z.S.def_ 0
  exact fn_mk (A := A_law_box) F Z.g_law_box sc_law_box (fun _ _ a => by first | (obtain ⟨rfl, _⟩ := a; rfl) | (obtain ⟨_, rfl, _⟩ := a; rfl) | (obtain ⟨_, _, rfl, _⟩ := a; rfl) | (obtain ⟨_, _, _, rfl, _⟩ := a; rfl) | (obtain ⟨_, _, _, _, rfl, _⟩ := a; rfl) | (obtain ⟨_, _, _, _, _, rfl, _⟩ := a; rfl) | (obtain ⟨_, _, _, _, _, _, rfl, _⟩ := a; rfl) | (obtain ⟨_, _, _, _, _, _, _, rfl, _⟩ := a; rfl)) (by decide) (fun _ _ _ _ _ _ us hl => match us, hl with | [_], _ => rfl) (fun cdv B outer s H E hr => ⟨_, dv_law_box Z.T  hr, fun ds post a => sd_law_box a⟩)
theorem ok_law_take (Z : Known w K mg) : Fn P w K mg base (0 + 1) "_law_take" p_law_take (spX K (A_law_take)) := by
  have F : ∃ fd, FunD K "_law_take" "_law_take" (defArgs s_law_take) (defBody s_law_take) (defScope s_law_take) [] [] (He.ga K "_law_take") fd := Z.S.def_ 1
  exact fnX_mk (A := A_law_take) F Z.g_law_take sc_law_take (fun _ _ _ a => by first | (obtain ⟨rfl, _⟩ := a; rfl) | (obtain ⟨_, rfl, _⟩ := a; rfl) | (obtain ⟨_, _, rfl, _⟩ := a; rfl) | (obtain ⟨_, _, _, rfl, _⟩ := a; rfl) | (obtain ⟨_, _, _, _, rfl, _⟩ := a; rfl) | (obtain ⟨_, _, _, _, _, rfl, _⟩ := a; rfl) | (obtain ⟨_, _, _, _, _, _, rfl, _⟩ := a; rfl) | (obtain ⟨_, _, _, _, _, _, _, rfl, _⟩ := a; rfl)) (by decide) (fun _ _ _ _ _ _ us hl => match us, hl with | [_, _], _ => rfl) (fun cdv B outer s H E hr => ⟨_, dv_law_take Z.T  hr, fun b n ds post a => sd_law_take a⟩)
theorem ok_law_names (Z : Known w K mg) : Fn P w K mg base (1 + 1) "_law_names" p_law_names (spX K (A_law_namesZ)) := by
  have F : ∃ fd, FunD K "_law_names" "_law_names" (defArgs s_law_names) (defBody s_law_names) (defScope s_law_names) [] [] (He.ga K "_law_names") fd := Z.S.def_ 2
  exact fnX_mk (A := A_law_namesZ) F Z.g_law_names sc_law_names (fun _ _ _ a => by first | (obtain ⟨rfl, _⟩ := a; rfl) | (obtain ⟨_, rfl, _⟩ := a; rfl) | (obtain ⟨_, _, rfl, _⟩ := a; rfl) | (obtain ⟨_, _, _, rfl, _⟩ := a; rfl) | (obtain ⟨_, _, _, _, rfl, _⟩ := a; rfl) | (obtain ⟨_, _, _, _, _, rfl, _⟩ := a; rfl) | (obtain ⟨_, _, _, _, _, _, rfl, _⟩ := a; rfl) | (obtain ⟨_, _, _, _, _, _, _, rfl, _⟩ := a; rfl)) (by decide) (fun _ _ _ _ _ _ us hl => match us, hl with | [_, _], _ => rfl) (fun cdv B outer s H E hr => ⟨_, dv_law_names Z.T (ok_law_take Z) hr, fun b n ds post a => sd_law_names a⟩)
theorem ok_law_piece (Z : Known w K mg) : Fn P w K mg base (1 + 1) "_law_piece" p_law_piece (spX K (A_law_piece)) := by
  have F : ∃ fd, FunD K "_law_piece" "_law_piece" (defArgs s_law_piece) (defBody s_law_piece) (defScope s_law_piece) [] [] (He.ga K "_law_piece") fd := Z.S.def_ 3
  exact fnX_mk (A := A_law_piece) F Z.g_law_piece sc_law_piece (fun _ _ _ a => by first | (obtain ⟨rfl, _⟩ := a; rfl) | (obtain ⟨_, rfl, _⟩ := a; rfl) | (obtain ⟨_, _, rfl, _⟩ := a; rfl) | (obtain ⟨_, _, _, rfl, _⟩ := a; rfl) | (obtain ⟨_, _, _, _, rfl, _⟩ := a; rfl) | (obtain ⟨_, _, _, _, _, rfl, _⟩ := a; rfl) | (obtain ⟨_, _, _, _, _, _, rfl, _⟩ := a; rfl) | (obtain ⟨_, _, _, _, _, _, _, rfl, _⟩ := a; rfl)) (by decide) (fun _ _ _ _ _ _ us hl => match us, hl with | [_], _ => rfl) (fun cdv B outer s H E hr => ⟨_, dv_law_piece Z.T (ok_law_take Z) hr, fun b n ds post a => sd_law_piece a⟩)
theorem ok_law_row (Z : Known w K mg) : Fn P w K mg base (2 + 1) "_law_row" p_law_row (spX K (B_law_row)) := by
  have F : ∃ fd, FunD K "_law_row" "_law_row" (defArgs s_law_row) (defBody s_law_row) (defScope s_law_row) [] [] (He.ga K "_law_row") fd := Z.S.def_ 4
  exact fnX_mk (A := B_law_row) F Z.g_law_row sc_law_row (fun _ _ _ a => by first | (obtain ⟨rfl, _⟩ := a; rfl) | (obtain ⟨_, rfl, _⟩ := a; rfl) | (obtain ⟨_, _, rfl, _⟩ := a; rfl) | (obtain ⟨_, _, _, rfl, _⟩ := a; rfl) | (obtain ⟨_, _, _, _, rfl, _⟩ := a; rfl) | (obtain ⟨_, _, _, _, _, rfl, _⟩ := a; rfl) | (obtain ⟨_, _, _, _, _, _, rfl, _⟩ := a; rfl) | (obtain ⟨_, _, _, _, _, _, _, rfl, _⟩ := a; rfl)) (by decide) (fun _ _ _ _ _ _ us hl => match us, hl with | [_, _], _ => rfl) (fun cdv B outer s H E hr => ⟨_, dv_law_row Z.T (ok_law_piece Z) (ok_law_take Z) (ok_law_names Z) hr, fun b n ds post a => sd_law_row a⟩)
theorem ok_law_turned (Z : Known w K mg) : Fn P w K mg base (0 + 1) "_law_turned" p_law_turned (spG K (B_law_turned K)) := by
  have F : ∃ fd, FunD K "_law_turned" "_law_turned" (defArgs s_law_turned) (defBody s_law_turned) (defScope s_law_turned) [] [] (He.ga K "_law_turned") fd := Z.S.def_ 5
  exact fn_mk (A := B_law_turned K) F Z.g_law_turned sc_law_turned (fun _ _ a => by first | (obtain ⟨rfl, _⟩ := a; rfl) | (obtain ⟨_, rfl, _⟩ := a; rfl) | (obtain ⟨_, _, rfl, _⟩ := a; rfl) | (obtain ⟨_, _, _, rfl, _⟩ := a; rfl) | (obtain ⟨_, _, _, _, rfl, _⟩ := a; rfl) | (obtain ⟨_, _, _, _, _, rfl, _⟩ := a; rfl) | (obtain ⟨_, _, _, _, _, _, rfl, _⟩ := a; rfl) | (obtain ⟨_, _, _, _, _, _, _, rfl, _⟩ := a; rfl)) (by decide) (fun _ _ _ _ _ _ us hl => match us, hl with | [_], _ => rfl) (fun cdv B outer s H E hr => ⟨_, dv_law_turned Z.T  hr, fun ds post a => sd_law_turned a⟩)
theorem ok_law_palindrome (Z : Known w K mg) : Fn P w K mg base (2 + 1) "_law_palindrome" p_law_palindrome (spX K (B_law_palindrome)) := by
  have F : ∃ fd, FunD K "_law_palindrome" "_law_palindrome" (defArgs s_law_palindrome) (defBody s_law_palindrome) (defScope s_law_palindrome) [] [] (He.ga K "_law_palindrome") fd := Z.S.def_ 6
  exact fnX_mk (A := B_law_palindrome) F Z.g_law_palindrome sc_law_palindrome (fun _ _ _ a => by first | (obtain ⟨rfl, _⟩ := a; rfl) | (obtain ⟨_, rfl, _⟩ := a; rfl) | (obtain ⟨_, _, rfl, _⟩ := a; rfl) | (obtain ⟨_, _, _, rfl, _⟩ := a; rfl) | (obtain ⟨_, _, _, _, rfl, _⟩ := a; rfl) | (obtain ⟨_, _, _, _, _, rfl, _⟩ := a; rfl) | (obtain ⟨_, _, _, _, _, _, rfl, _⟩ := a; rfl) | (obtain ⟨_, _, _, _, _, _, _, rfl, _⟩ := a; rfl)) (by decide) (fun _ _ _ _ _ _ us hl => match us, hl with | [_, _], _ => rfl) (fun cdv B outer s H E hr => ⟨_, dv_law_palindrome Z.T (ok_law_turned Z) (ok_law_piece Z) (ok_law_take Z) hr, fun b n ds post a => sd_law_palindrome a⟩)
theorem ok_law_cell (Z : Known w K mg) : Fn P w K mg base (0 + 1) "_law_cell" p_law_cell (spG K (A_law_cell)) := by
  have F : ∃ fd, FunD K "_law_cell" "_law_cell" (defArgs s_law_cell) (defBody s_law_cell) (defScope s_law_cell) [] [] (He.ga K "_law_cell") fd := Z.S.def_ 7
  exact fn_mk (A := A_law_cell) F Z.g_law_cell sc_law_cell (fun _ _ a => by first | (obtain ⟨rfl, _⟩ := a; rfl) | (obtain ⟨_, rfl, _⟩ := a; rfl) | (obtain ⟨_, _, rfl, _⟩ := a; rfl) | (obtain ⟨_, _, _, rfl, _⟩ := a; rfl) | (obtain ⟨_, _, _, _, rfl, _⟩ := a; rfl) | (obtain ⟨_, _, _, _, _, rfl, _⟩ := a; rfl) | (obtain ⟨_, _, _, _, _, _, rfl, _⟩ := a; rfl) | (obtain ⟨_, _, _, _, _, _, _, rfl, _⟩ := a; rfl)) (by decide) (fun _ _ _ _ _ _ us hl => match us, hl with | [_, _], _ => rfl) (fun cdv B outer s H E hr => ⟨_, dv_law_cell Z.T  hr, fun ds post a => sd_law_cell a⟩)
theorem ok_is_name (Z : Known w K mg) : Fn P w K mg base (0 + 1) "is_name" p_is_name (spG K (A_is_name K)) := by
  have F : ∃ fd, FunD K "is_name" "is_name" (defArgs s_is_name) (defBody s_is_name) (defScope s_is_name) [] [] (He.ga K "is_name") fd := Z.S.def_ 8
  exact fn_mk (A := A_is_name K) F Z.g_is_name sc_is_name (fun _ _ a => by first | (obtain ⟨rfl, _⟩ := a; rfl) | (obtain ⟨_, rfl, _⟩ := a; rfl) | (obtain ⟨_, _, rfl, _⟩ := a; rfl) | (obtain ⟨_, _, _, rfl, _⟩ := a; rfl) | (obtain ⟨_, _, _, _, rfl, _⟩ := a; rfl) | (obtain ⟨_, _, _, _, _, rfl, _⟩ := a; rfl) | (obtain ⟨_, _, _, _, _, _, rfl, _⟩ := a; rfl) | (obtain ⟨_, _, _, _, _, _, _, rfl, _⟩ := a; rfl)) (by decide) (fun _ _ _ _ _ _ us hl => match us, hl with | [_], _ => rfl) (fun cdv B outer s H E hr => ⟨_, dv_is_name Z.T  hr, fun ds post a => sd_is_name a⟩)
theorem ok_is_marker (Z : Known w K mg) : Fn P w K mg base (1 + 1) "is_marker" p_is_marker (spG K (A_is_marker K)) := by
  have F : ∃ fd, FunD K "is_marker" "is_marker" (defArgs s_is_marker) (defBody s_is_marker) (defScope s_is_marker) [] [] (He.ga K "is_marker") fd := Z.S.def_ 9
  exact fn_mk (A := A_is_marker K) F Z.g_is_marker sc_is_marker (fun _ _ a => by first | (obtain ⟨rfl, _⟩ := a; rfl) | (obtain ⟨_, rfl, _⟩ := a; rfl) | (obtain ⟨_, _, rfl, _⟩ := a; rfl) | (obtain ⟨_, _, _, rfl, _⟩ := a; rfl) | (obtain ⟨_, _, _, _, rfl, _⟩ := a; rfl) | (obtain ⟨_, _, _, _, _, rfl, _⟩ := a; rfl) | (obtain ⟨_, _, _, _, _, _, rfl, _⟩ := a; rfl) | (obtain ⟨_, _, _, _, _, _, _, rfl, _⟩ := a; rfl)) (by decide) (fun _ _ _ _ _ _ us hl => match us, hl with | [_], _ => rfl) (fun cdv B outer s H E hr => ⟨_, dv_is_marker Z.T (ok_is_name Z) hr, fun ds post a => sd_is_marker a⟩)
theorem ok_require_marker (Z : Known w K mg) : Fn P w K mg base (2 + 1) "require_marker" p_require_marker (spG K (A_require_marker K)) := by
  have F : ∃ fd, FunD K "require_marker" "require_marker" (defArgs s_require_marker) (defBody s_require_marker) (defScope s_require_marker) [] [] (He.ga K "require_marker") fd := Z.S.def_ 10
  exact fn_mk (A := A_require_marker K) F Z.g_require_marker sc_require_marker (fun _ _ a => by first | (obtain ⟨rfl, _⟩ := a; rfl) | (obtain ⟨_, rfl, _⟩ := a; rfl) | (obtain ⟨_, _, rfl, _⟩ := a; rfl) | (obtain ⟨_, _, _, rfl, _⟩ := a; rfl) | (obtain ⟨_, _, _, _, rfl, _⟩ := a; rfl) | (obtain ⟨_, _, _, _, _, rfl, _⟩ := a; rfl) | (obtain ⟨_, _, _, _, _, _, rfl, _⟩ := a; rfl) | (obtain ⟨_, _, _, _, _, _, _, rfl, _⟩ := a; rfl)) (by decide) (fun _ _ _ _ _ _ us hl => match us, hl with | [_], _ => rfl) (fun cdv B outer s H E hr => ⟨_, dv_require_marker Z.T (ok_is_marker Z) hr, fun ds post a => sd_require_marker a⟩)
theorem ok_is_piece (Z : Known w K mg) : Fn P w K mg base (0 + 1) "is_piece" p_is_piece (spG K (A_is_piece K)) := by
  have F : ∃ fd, FunD K "is_piece" "is_piece" (defArgs s_is_piece) (defBody s_is_piece) (defScope s_is_piece) [] [] (He.ga K "is_piece") fd := Z.S.def_ 11
  exact fn_mk (A := A_is_piece K) F Z.g_is_piece sc_is_piece (fun _ _ a => by first | (obtain ⟨rfl, _⟩ := a; rfl) | (obtain ⟨_, rfl, _⟩ := a; rfl) | (obtain ⟨_, _, rfl, _⟩ := a; rfl) | (obtain ⟨_, _, _, rfl, _⟩ := a; rfl) | (obtain ⟨_, _, _, _, rfl, _⟩ := a; rfl) | (obtain ⟨_, _, _, _, _, rfl, _⟩ := a; rfl) | (obtain ⟨_, _, _, _, _, _, rfl, _⟩ := a; rfl) | (obtain ⟨_, _, _, _, _, _, _, rfl, _⟩ := a; rfl)) (by decide) (fun _ _ _ _ _ _ us hl => match us, hl with | [_], _ => rfl) (fun cdv B outer s H E hr => ⟨_, dv_is_piece Z.T  hr, fun ds post a => sd_is_piece a⟩)
theorem ok_require_piece (Z : Known w K mg) : Fn P w K mg base (1 + 1) "require_piece" p_require_piece (spG K (A_require_piece K)) := by
  have F : ∃ fd, FunD K "require_piece" "require_piece" (defArgs s_require_piece) (defBody s_require_piece) (defScope s_require_piece) [] [] (He.ga K "require_piece") fd := Z.S.def_ 12
  exact fn_mk (A := A_require_piece K) F Z.g_require_piece sc_require_piece (fun _ _ a => by first | (obtain ⟨rfl, _⟩ := a; rfl) | (obtain ⟨_, rfl, _⟩ := a; rfl) | (obtain ⟨_, _, rfl, _⟩ := a; rfl) | (obtain ⟨_, _, _, rfl, _⟩ := a; rfl) | (obtain ⟨_, _, _, _, rfl, _⟩ := a; rfl) | (obtain ⟨_, _, _, _, _, rfl, _⟩ := a; rfl) | (obtain ⟨_, _, _, _, _, _, rfl, _⟩ := a; rfl) | (obtain ⟨_, _, _, _, _, _, _, rfl, _⟩ := a; rfl)) (by decide) (fun _ _ _ _ _ _ us hl => match us, hl with | [_], _ => rfl) (fun cdv B outer s H E hr => ⟨_, dv_require_piece Z.T (ok_is_piece Z) hr, fun ds post a => sd_require_piece a⟩)
theorem ok_require_items (Z : Known w K mg) : Fn P w K mg base (3 + 1) "require_items" p_require_items (spG K (A_require_items K)) := by
  have F : ∃ fd, FunD K "require_items" "require_items" (defArgs s_require_items) (defBody s_require_items) (defScope s_require_items) [] [] (He.ga K "require_items") fd := Z.S.def_ 13
  exact fn_mk (A := A_require_items K) F Z.g_require_items sc_require_items (fun _ _ a => by first | (obtain ⟨rfl, _⟩ := a; rfl) | (obtain ⟨_, rfl, _⟩ := a; rfl) | (obtain ⟨_, _, rfl, _⟩ := a; rfl) | (obtain ⟨_, _, _, rfl, _⟩ := a; rfl) | (obtain ⟨_, _, _, _, rfl, _⟩ := a; rfl) | (obtain ⟨_, _, _, _, _, rfl, _⟩ := a; rfl) | (obtain ⟨_, _, _, _, _, _, rfl, _⟩ := a; rfl) | (obtain ⟨_, _, _, _, _, _, _, rfl, _⟩ := a; rfl)) (by decide) (fun _ _ _ _ _ _ us hl => match us, hl with | [_], _ => rfl) (fun cdv B outer s H E hr => ⟨_, dv_require_items Z.T (ok_require_marker Z) (ok_require_piece Z) hr, fun ds post a => sd_require_items a⟩)
theorem ok_is_sequence (Z : Known w K mg) : Fn P w K mg base (0 + 1) "is_sequence" p_is_sequence (spG K (A_is_sequence K)) := by
  have F : ∃ fd, FunD K "is_sequence" "is_sequence" (defArgs s_is_sequence) (defBody s_is_sequence) (defScope s_is_sequence) [] [] (He.ga K "is_sequence") fd := Z.S.def_ 14
  exact fn_mk (A := A_is_sequence K) F Z.g_is_sequence sc_is_sequence (fun _ _ a => by first | (obtain ⟨rfl, _⟩ := a; rfl) | (obtain ⟨_, rfl, _⟩ := a; rfl) | (obtain ⟨_, _, rfl, _⟩ := a; rfl) | (obtain ⟨_, _, _, rfl, _⟩ := a; rfl) | (obtain ⟨_, _, _, _, rfl, _⟩ := a; rfl) | (obtain ⟨_, _, _, _, _, rfl, _⟩ := a; rfl) | (obtain ⟨_, _, _, _, _, _, rfl, _⟩ := a; rfl) | (obtain ⟨_, _, _, _, _, _, _, rfl, _⟩ := a; rfl)) (by decide) (fun _ _ _ _ _ _ us hl => match us, hl with | [_], _ => rfl) (fun cdv B outer s H E hr => ⟨_, dv_is_sequence Z.T  hr, fun ds post a => sd_is_sequence a⟩)
theorem ok_require_row (Z : Known w K mg) : Fn P w K mg base (4 + 1) "require_row" p_require_row (spG K (A_require_row K)) := by
  have F : ∃ fd, FunD K "require_row" "require_row" (defArgs s_require_row) (defBody s_require_row) (defScope s_require_row) [] [] (He.ga K "require_row") fd := Z.S.def_ 15
  exact fn_mk (A := A_require_row K) F Z.g_require_row sc_require_row (fun _ _ a => by first | (obtain ⟨rfl, _⟩ := a; rfl) | (obtain ⟨_, rfl, _⟩ := a; rfl) | (obtain ⟨_, _, rfl, _⟩ := a; rfl) | (obtain ⟨_, _, _, rfl, _⟩ := a; rfl) | (obtain ⟨_, _, _, _, rfl, _⟩ := a; rfl) | (obtain ⟨_, _, _, _, _, rfl, _⟩ := a; rfl) | (obtain ⟨_, _, _, _, _, _, rfl, _⟩ := a; rfl) | (obtain ⟨_, _, _, _, _, _, _, rfl, _⟩ := a; rfl)) (by decide) (fun _ _ _ _ _ _ us hl => match us, hl with | [_], _ => rfl) (fun cdv B outer s H E hr => ⟨_, dv_require_row Z.T (ok_require_items Z) (ok_is_sequence Z) hr, fun ds post a => sd_require_row a⟩)
theorem ok_marker_numbers (Z : Known w K mg) : Fn P w K mg base (0 + 1) "marker_numbers" p_marker_numbers (spG K (A_marker_numbers K)) := by
  have F : ∃ fd, FunD K "marker_numbers" "marker_numbers" (defArgs s_marker_numbers) (defBody s_marker_numbers) (defScope s_marker_numbers) [] [] (He.ga K "marker_numbers") fd := Z.S.def_ 16
  exact fn_mk (A := A_marker_numbers K) F Z.g_marker_numbers sc_marker_numbers (fun _ _ a => by first | (obtain ⟨rfl, _⟩ := a; rfl) | (obtain ⟨_, rfl, _⟩ := a; rfl) | (obtain ⟨_, _, rfl, _⟩ := a; rfl) | (obtain ⟨_, _, _, rfl, _⟩ := a; rfl) | (obtain ⟨_, _, _, _, rfl, _⟩ := a; rfl) | (obtain ⟨_, _, _, _, _, rfl, _⟩ := a; rfl) | (obtain ⟨_, _, _, _, _, _, rfl, _⟩ := a; rfl) | (obtain ⟨_, _, _, _, _, _, _, rfl, _⟩ := a; rfl)) (by decide) (fun _ _ _ _ _ _ us hl => match us, hl with | [_], _ => rfl) (fun cdv B outer s H E hr => ⟨_, dv_marker_numbers Z.T  hr, fun ds post a => sd_marker_numbers a⟩)
theorem ok_Strip_init (Z : Known w K mg) : Mn P w K mg base (5 + 1) "Strip" p_Strip_init (spI K (He.ga K "Strip") (A_Strip_init K)) := by
  have F : ∃ fd, FunD K "__init__" "Strip.__init__" (defArgs s_Strip_init) (defBody s_Strip_init) (defScope s_Strip_init) [] [] (He.ma K (He.ga K "Strip") "__init__") fd := Z.S.def_ 17
  exact mn_mk (A := A_Strip_init K) F (He.mkr_ok (Z.S.fact 52)) Z.gc_Strip sc_Strip_init (fun _ _ a => by first | (obtain ⟨rfl, _⟩ := a; rfl) | (obtain ⟨_, rfl, _⟩ := a; rfl) | (obtain ⟨_, _, rfl, _⟩ := a; rfl) | (obtain ⟨_, _, _, rfl, _⟩ := a; rfl) | (obtain ⟨_, _, _, _, rfl, _⟩ := a; rfl) | (obtain ⟨_, _, _, _, _, rfl, _⟩ := a; rfl) | (obtain ⟨_, _, _, _, _, _, rfl, _⟩ := a; rfl) | (obtain ⟨_, _, _, _, _, _, _, rfl, _⟩ := a; rfl)) (by decide) (fun _ _ _ _ _ _ us hl => match us, hl with | [_, _], _ => rfl) (fun cdv B outer s H E hr => ⟨_, dv_Strip_init Z.T (ok_marker_numbers Z) (ok_require_row Z) hr, fun x ds post a => sd_Strip_init a⟩)
theorem ok_item_text (Z : Known w K mg) : Fn P w K mg base (0 + 1) "item_text" p_item_text (spG K (A_item_text K)) := by
  have F : ∃ fd, FunD K "item_text" "item_text" (defArgs s_item_text) (defBody s_item_text) (defScope s_item_text) [] [] (He.ga K "item_text") fd := Z.S.def_ 18
  exact fn_mk (A := A_item_text K) F Z.g_item_text sc_item_text (fun _ _ a => by first | (obtain ⟨rfl, _⟩ := a; rfl) | (obtain ⟨_, rfl, _⟩ := a; rfl) | (obtain ⟨_, _, rfl, _⟩ := a; rfl) | (obtain ⟨_, _, _, rfl, _⟩ := a; rfl) | (obtain ⟨_, _, _, _, rfl, _⟩ := a; rfl) | (obtain ⟨_, _, _, _, _, rfl, _⟩ := a; rfl) | (obtain ⟨_, _, _, _, _, _, rfl, _⟩ := a; rfl) | (obtain ⟨_, _, _, _, _, _, _, rfl, _⟩ := a; rfl)) (by decide) (fun _ _ _ _ _ _ us hl => match us, hl with | [_], _ => rfl) (fun cdv B outer s H E hr => ⟨_, dv_item_text Z.T  hr, fun ds post a => sd_item_text a⟩)
theorem ok_items_text (Z : Known w K mg) : Fn P w K mg base (1 + 1) "items_text" p_items_text (spG K (A_items_textG K)) := by
  have F : ∃ fd, FunD K "items_text" "items_text" (defArgs s_items_text) (defBody s_items_text) (defScope s_items_text) [] [] (He.ga K "items_text") fd := Z.S.def_ 19
  exact fn_mk (A := A_items_textG K) F Z.g_items_text sc_items_text (fun _ _ a => by first | (obtain ⟨rfl, _⟩ := a; rfl) | (obtain ⟨_, rfl, _⟩ := a; rfl) | (obtain ⟨_, _, rfl, _⟩ := a; rfl) | (obtain ⟨_, _, _, rfl, _⟩ := a; rfl) | (obtain ⟨_, _, _, _, rfl, _⟩ := a; rfl) | (obtain ⟨_, _, _, _, _, rfl, _⟩ := a; rfl) | (obtain ⟨_, _, _, _, _, _, rfl, _⟩ := a; rfl) | (obtain ⟨_, _, _, _, _, _, _, rfl, _⟩ := a; rfl)) (by decide) (fun _ _ _ _ _ _ us hl => match us, hl with | [_], _ => rfl) (fun cdv B outer s H E hr => ⟨_, dv_items_text Z.T (ok_item_text Z) hr, fun ds post a => sd_items_textG a⟩)
theorem ok_reading_text (Z : Known w K mg) : Fn P w K mg base (2 + 1) "reading_text" p_reading_text (spG K (A_reading_text K)) := by
  have F : ∃ fd, FunD K "reading_text" "reading_text" (defArgs s_reading_text) (defBody s_reading_text) (defScope s_reading_text) [] [] (He.ga K "reading_text") fd := Z.S.def_ 20
  exact fn_mk (A := A_reading_text K) F Z.g_reading_text sc_reading_text (fun _ _ a => by first | (obtain ⟨rfl, _⟩ := a; rfl) | (obtain ⟨_, rfl, _⟩ := a; rfl) | (obtain ⟨_, _, rfl, _⟩ := a; rfl) | (obtain ⟨_, _, _, rfl, _⟩ := a; rfl) | (obtain ⟨_, _, _, _, rfl, _⟩ := a; rfl) | (obtain ⟨_, _, _, _, _, rfl, _⟩ := a; rfl) | (obtain ⟨_, _, _, _, _, _, rfl, _⟩ := a; rfl) | (obtain ⟨_, _, _, _, _, _, _, rfl, _⟩ := a; rfl)) (by decide) (fun _ _ _ _ _ _ us hl => match us, hl with | [_], _ => rfl) (fun cdv B outer s H E hr => ⟨_, dv_reading_text Z.T (ok_items_text Z) hr, fun ds post a => sd_reading_text a⟩)
theorem ok_require_reading (Z : Known w K mg) : Fn P w K mg base (4 + 1) "require_reading" p_require_reading (spG K (A_require_reading K)) := by
  have F : ∃ fd, FunD K "require_reading" "require_reading" (defArgs s_require_reading) (defBody s_require_reading) (defScope s_require_reading) [] [] (He.ga K "require_reading") fd := Z.S.def_ 21
  exact fn_mk (A := A_require_reading K) F Z.g_require_reading sc_require_reading (fun _ _ a => by first | (obtain ⟨rfl, _⟩ := a; rfl) | (obtain ⟨_, rfl, _⟩ := a; rfl) | (obtain ⟨_, _, rfl, _⟩ := a; rfl) | (obtain ⟨_, _, _, rfl, _⟩ := a; rfl) | (obtain ⟨_, _, _, _, rfl, _⟩ := a; rfl) | (obtain ⟨_, _, _, _, _, rfl, _⟩ := a; rfl) | (obtain ⟨_, _, _, _, _, _, rfl, _⟩ := a; rfl) | (obtain ⟨_, _, _, _, _, _, _, rfl, _⟩ := a; rfl)) (by decide) (fun _ _ _ _ _ _ us hl => match us, hl with | [_], _ => rfl) (fun cdv B outer s H E hr => ⟨_, dv_require_reading Z.T (ok_require_items Z) (ok_is_sequence Z) hr, fun ds post a => sd_require_reading a⟩)
theorem ok_flipped_marker (Z : Known w K mg) : Fn P w K mg base (0 + 1) "flipped_marker" p_flipped_marker (spG K (A_flipped_marker K)) := by
  have F : ∃ fd, FunD K "flipped_marker" "flipped_marker" (defArgs s_flipped_marker) (defBody s_flipped_marker) (defScope s_flipped_marker) [] [] (He.ga K "flipped_marker") fd := Z.S.def_ 22
  exact fn_mk (A := A_flipped_marker K) F Z.g_flipped_marker sc_flipped_marker (fun _ _ a => by first | (obtain ⟨rfl, _⟩ := a; rfl) | (obtain ⟨_, rfl, _⟩ := a; rfl) | (obtain ⟨_, _, rfl, _⟩ := a; rfl) | (obtain ⟨_, _, _, rfl, _⟩ := a; rfl) | (obtain ⟨_, _, _, _, rfl, _⟩ := a; rfl) | (obtain ⟨_, _, _, _, _, rfl, _⟩ := a; rfl) | (obtain ⟨_, _, _, _, _, _, rfl, _⟩ := a; rfl) | (obtain ⟨_, _, _, _, _, _, _, rfl, _⟩ := a; rfl)) (by decide) (fun _ _ _ _ _ _ us hl => match us, hl with | [_], _ => rfl) (fun cdv B outer s H E hr => ⟨_, dv_flipped_marker Z.T  hr, fun ds post a => sd_flipped_marker a⟩)
theorem ok_flipped_piece (Z : Known w K mg) : Fn P w K mg base (0 + 1) "flipped_piece" p_flipped_piece (spG K (A_flipped_piece K)) := by
  have F : ∃ fd, FunD K "flipped_piece" "flipped_piece" (defArgs s_flipped_piece) (defBody s_flipped_piece) (defScope s_flipped_piece) [] [] (He.ga K "flipped_piece") fd := Z.S.def_ 23
  exact fn_mk (A := A_flipped_piece K) F Z.g_flipped_piece sc_flipped_piece (fun _ _ a => by first | (obtain ⟨rfl, _⟩ := a; rfl) | (obtain ⟨_, rfl, _⟩ := a; rfl) | (obtain ⟨_, _, rfl, _⟩ := a; rfl) | (obtain ⟨_, _, _, rfl, _⟩ := a; rfl) | (obtain ⟨_, _, _, _, rfl, _⟩ := a; rfl) | (obtain ⟨_, _, _, _, _, rfl, _⟩ := a; rfl) | (obtain ⟨_, _, _, _, _, _, rfl, _⟩ := a; rfl) | (obtain ⟨_, _, _, _, _, _, _, rfl, _⟩ := a; rfl)) (by decide) (fun _ _ _ _ _ _ us hl => match us, hl with | [_], _ => rfl) (fun cdv B outer s H E hr => ⟨_, dv_flipped_piece Z.T  hr, fun ds post a => sd_flipped_piece a⟩)
theorem ok_flipped_item (Z : Known w K mg) : Fn P w K mg base (1 + 1) "flipped_item" p_flipped_item (spG K (A_flipped_item K)) := by
  have F : ∃ fd, FunD K "flipped_item" "flipped_item" (defArgs s_flipped_item) (defBody s_flipped_item) (defScope s_flipped_item) [] [] (He.ga K "flipped_item") fd := Z.S.def_ 24
  exact fn_mk (A := A_flipped_item K) F Z.g_flipped_item sc_flipped_item (fun _ _ a => by first | (obtain ⟨rfl, _⟩ := a; rfl) | (obtain ⟨_, rfl, _⟩ := a; rfl) | (obtain ⟨_, _, rfl, _⟩ := a; rfl) | (obtain ⟨_, _, _, rfl, _⟩ := a; rfl) | (obtain ⟨_, _, _, _, rfl, _⟩ := a; rfl) | (obtain ⟨_, _, _, _, _, rfl, _⟩ := a; rfl) | (obtain ⟨_, _, _, _, _, _, rfl, _⟩ := a; rfl) | (obtain ⟨_, _, _, _, _, _, _, rfl, _⟩ := a; rfl)) (by decide) (fun _ _ _ _ _ _ us hl => match us, hl with | [_], _ => rfl) (fun cdv B outer s H E hr => ⟨_, dv_flipped_item Z.T (ok_flipped_marker Z) (ok_flipped_piece Z) hr, fun ds post a => sd_flipped_item a⟩)
theorem ok_flipped_items (Z : Known w K mg) : Fn P w K mg base (2 + 1) "flipped_items" p_flipped_items (spG K (A_flipped_itemsG K)) := by
  have F : ∃ fd, FunD K "flipped_items" "flipped_items" (defArgs s_flipped_items) (defBody s_flipped_items) (defScope s_flipped_items) [] [] (He.ga K "flipped_items") fd := Z.S.def_ 25
  exact fn_mk (A := A_flipped_itemsG K) F Z.g_flipped_items sc_flipped_items (fun _ _ a => by first | (obtain ⟨rfl, _⟩ := a; rfl) | (obtain ⟨_, rfl, _⟩ := a; rfl) | (obtain ⟨_, _, rfl, _⟩ := a; rfl) | (obtain ⟨_, _, _, rfl, _⟩ := a; rfl) | (obtain ⟨_, _, _, _, rfl, _⟩ := a; rfl) | (obtain ⟨_, _, _, _, _, rfl, _⟩ := a; rfl) | (obtain ⟨_, _, _, _, _, _, rfl, _⟩ := a; rfl) | (obtain ⟨_, _, _, _, _, _, _, rfl, _⟩ := a; rfl)) (by decide) (fun _ _ _ _ _ _ us hl => match us, hl with | [_], _ => rfl) (fun cdv B outer s H E hr => ⟨_, dv_flipped_items Z.T (ok_flipped_item Z) hr, fun ds post a => sd_flipped_itemsG a⟩)
theorem ok_readings (Z : Known w K mg) : Fn P w K mg base (3 + 1) "readings" p_readings (spG K (A_readings K)) := by
  have F : ∃ fd, FunD K "readings" "readings" (defArgs s_readings) (defBody s_readings) (defScope s_readings) [] [] (He.ga K "readings") fd := Z.S.def_ 26
  exact fn_mk (A := A_readings K) F Z.g_readings sc_readings (fun _ _ a => by first | (obtain ⟨rfl, _⟩ := a; rfl) | (obtain ⟨_, rfl, _⟩ := a; rfl) | (obtain ⟨_, _, rfl, _⟩ := a; rfl) | (obtain ⟨_, _, _, rfl, _⟩ := a; rfl) | (obtain ⟨_, _, _, _, rfl, _⟩ := a; rfl) | (obtain ⟨_, _, _, _, _, rfl, _⟩ := a; rfl) | (obtain ⟨_, _, _, _, _, _, rfl, _⟩ := a; rfl) | (obtain ⟨_, _, _, _, _, _, _, rfl, _⟩ := a; rfl)) (by decide) (fun _ _ _ _ _ _ us hl => match us, hl with | [_], _ => rfl) (fun cdv B outer s H E hr => ⟨_, dv_readings Z.T (ok_flipped_items Z) (ok_flipped_piece Z) hr, fun ds post a => sd_readings a⟩)
theorem ok_Ring_init (Z : Known w K mg) : Mn P w K mg base (5 + 1) "Ring" p_Ring_init (spI K (He.ga K "Ring") (A_Ring_init K)) := by
  have F : ∃ fd, FunD K "__init__" "Ring.__init__" (defArgs s_Ring_init) (defBody s_Ring_init) (defScope s_Ring_init) [] [] (He.ma K (He.ga K "Ring") "__init__") fd := Z.S.def_ 27
  exact mn_mk (A := A_Ring_init K) F (He.mkr_ok (Z.S.fact 55)) Z.gc_Ring sc_Ring_init (fun _ _ a => by first | (obtain ⟨rfl, _⟩ := a; rfl) | (obtain ⟨_, rfl, _⟩ := a; rfl) | (obtain ⟨_, _, rfl, _⟩ := a; rfl) | (obtain ⟨_, _, _, rfl, _⟩ := a; rfl) | (obtain ⟨_, _, _, _, rfl, _⟩ := a; rfl) | (obtain ⟨_, _, _, _, _, rfl, _⟩ := a; rfl) | (obtain ⟨_, _, _, _, _, _, rfl, _⟩ := a; rfl) | (obtain ⟨_, _, _, _, _, _, _, rfl, _⟩ := a; rfl)) (by decide) (fun _ _ _ _ _ _ us hl => match us, hl with | [_, _], _ => rfl) (fun cdv B outer s H E hr => ⟨_, dv_Ring_init Z.T (ok_reading_text Z) (ok_readings Z) (ok_require_reading Z) hr, fun x ds post a => sd_Ring_init a⟩)
theorem ok_Strip_names (Z : Known w K mg) : Me P w K mg base (0 + 1) (He.ga K "Strip") "names" p_Strip_names (spG K (A_Strip_names K)) := by
  have F : ∃ fd, FunD K "names" "Strip.names" (defArgs s_Strip_names) (defBody s_Strip_names) (defScope s_Strip_names) [] [] (He.ma K (He.ga K "Strip") "names") fd := Z.S.def_ 28
  exact me_mk (A := A_Strip_names K) F (He.meth_ok (Z.S.fact 56)) (He.cls_ok (Z.S.fact 51)) sc_Strip_names (fun _ _ a => by first | (obtain ⟨rfl, _⟩ := a; rfl) | (obtain ⟨_, rfl, _⟩ := a; rfl) | (obtain ⟨_, _, rfl, _⟩ := a; rfl) | (obtain ⟨_, _, _, rfl, _⟩ := a; rfl) | (obtain ⟨_, _, _, _, rfl, _⟩ := a; rfl) | (obtain ⟨_, _, _, _, _, rfl, _⟩ := a; rfl) | (obtain ⟨_, _, _, _, _, _, rfl, _⟩ := a; rfl) | (obtain ⟨_, _, _, _, _, _, _, rfl, _⟩ := a; rfl)) (by decide) (fun _ _ _ _ _ _ us hl => match us, hl with | [_], _ => rfl) (fun cdv B outer s H E hr => ⟨_, dv_Strip_names Z.T  hr, fun ds post a => sd_Strip_names a⟩)
theorem ok_Strip_eq (Z : Known w K mg) : Me P w K mg base (0 + 1) (He.ga K "Strip") "__eq__" p_Strip_eq (spG K (A_Strip_eq K)) := by
  have F : ∃ fd, FunD K "__eq__" "Strip.__eq__" (defArgs s_Strip_eq) (defBody s_Strip_eq) (defScope s_Strip_eq) [] [] (He.ma K (He.ga K "Strip") "__eq__") fd := Z.S.def_ 29
  exact me_mk (A := A_Strip_eq K) F (He.meth_ok (Z.S.fact 57)) (He.cls_ok (Z.S.fact 51)) sc_Strip_eq (fun _ _ a => by first | (obtain ⟨rfl, _⟩ := a; rfl) | (obtain ⟨_, rfl, _⟩ := a; rfl) | (obtain ⟨_, _, rfl, _⟩ := a; rfl) | (obtain ⟨_, _, _, rfl, _⟩ := a; rfl) | (obtain ⟨_, _, _, _, rfl, _⟩ := a; rfl) | (obtain ⟨_, _, _, _, _, rfl, _⟩ := a; rfl) | (obtain ⟨_, _, _, _, _, _, rfl, _⟩ := a; rfl) | (obtain ⟨_, _, _, _, _, _, _, rfl, _⟩ := a; rfl)) (by decide) (fun _ _ _ _ _ _ us hl => match us, hl with | [_, _], _ => rfl) (fun cdv B outer s H E hr => ⟨_, dv_Strip_eq Z.T  hr, fun ds post a => sd_Strip_eq a⟩)
theorem ok_Strip_len (Z : Known w K mg) : Me P w K mg base (0 + 1) (He.ga K "Strip") "__len__" p_Strip_len (spG K (A_Strip_len K)) := by
  have F : ∃ fd, FunD K "__len__" "Strip.__len__" (defArgs s_Strip_len) (defBody s_Strip_len) (defScope s_Strip_len) [] [] (He.ma K (He.ga K "Strip") "__len__") fd := Z.S.def_ 30
  exact me_mk (A := A_Strip_len K) F (He.meth_ok (Z.S.fact 58)) (He.cls_ok (Z.S.fact 51)) sc_Strip_len (fun _ _ a => by first | (obtain ⟨rfl, _⟩ := a; rfl) | (obtain ⟨_, rfl, _⟩ := a; rfl) | (obtain ⟨_, _, rfl, _⟩ := a; rfl) | (obtain ⟨_, _, _, rfl, _⟩ := a; rfl) | (obtain ⟨_, _, _, _, rfl, _⟩ := a; rfl) | (obtain ⟨_, _, _, _, _, rfl, _⟩ := a; rfl) | (obtain ⟨_, _, _, _, _, _, rfl, _⟩ := a; rfl) | (obtain ⟨_, _, _, _, _, _, _, rfl, _⟩ := a; rfl)) (by decide) (fun _ _ _ _ _ _ us hl => match us, hl with | [_], _ => rfl) (fun cdv B outer s H E hr => ⟨_, dv_Strip_len Z.T  hr, fun ds post a => sd_Strip_len a⟩)
theorem ok_Strip_require_name (Z : Known w K mg) : Me P w K mg base (0 + 1) (He.ga K "Strip") "require_name" p_Strip_require_name (spG K (A_Strip_require_name K)) := by
  have F : ∃ fd, FunD K "require_name" "Strip.require_name" (defArgs s_Strip_require_name) (defBody s_Strip_require_name) (defScope s_Strip_require_name) [] [] (He.ma K (He.ga K "Strip") "require_name") fd := Z.S.def_ 31
  exact me_mk (A := A_Strip_require_name K) F (He.meth_ok (Z.S.fact 59)) (He.cls_ok (Z.S.fact 51)) sc_Strip_require_name (fun _ _ a => by first | (obtain ⟨rfl, _⟩ := a; rfl) | (obtain ⟨_, rfl, _⟩ := a; rfl) | (obtain ⟨_, _, rfl, _⟩ := a; rfl) | (obtain ⟨_, _, _, rfl, _⟩ := a; rfl) | (obtain ⟨_, _, _, _, rfl, _⟩ := a; rfl) | (obtain ⟨_, _, _, _, _, rfl, _⟩ := a; rfl) | (obtain ⟨_, _, _, _, _, _, rfl, _⟩ := a; rfl) | (obtain ⟨_, _, _, _, _, _, _, rfl, _⟩ := a; rfl)) (by decide) (fun _ _ _ _ _ _ us hl => match us, hl with | [_, _], _ => rfl) (fun cdv B outer s H E hr => ⟨_, dv_Strip_require_name Z.T  hr, fun ds post a => sd_Strip_require_name a⟩)
theorem ok_Strip_places (Z : Known w K mg) : Me P w K mg base (1 + 1) (He.ga K "Strip") "places" p_Strip_places (spG K (A_Strip_places K)) := by
  have F : ∃ fd, FunD K "places" "Strip.places" (defArgs s_Strip_places) (defBody s_Strip_places) (defScope s_Strip_places) [] [] (He.ma K (He.ga K "Strip") "places") fd := Z.S.def_ 32
  exact me_mk (A := A_Strip_places K) F (He.meth_ok (Z.S.fact 60)) (He.cls_ok (Z.S.fact 51)) sc_Strip_places (fun _ _ a => by first | (obtain ⟨rfl, _⟩ := a; rfl) | (obtain ⟨_, rfl, _⟩ := a; rfl) | (obtain ⟨_, _, rfl, _⟩ := a; rfl) | (obtain ⟨_, _, _, rfl, _⟩ := a; rfl) | (obtain ⟨_, _, _, _, rfl, _⟩ := a; rfl) | (obtain ⟨_, _, _, _, _, rfl, _⟩ := a; rfl) | (obtain ⟨_, _, _, _, _, _, rfl, _⟩ := a; rfl) | (obtain ⟨_, _, _, _, _, _, _, rfl, _⟩ := a; rfl)) (by decide) (fun _ _ _ _ _ _ us hl => match us, hl with | [_, _], _ => rfl) (fun cdv B outer s H E hr => ⟨_, dv_Strip_places Z.T (ok_Strip_require_name Z) hr, fun ds post a => sd_Strip_places a⟩)
theorem ok_Strip_names_between (Z : Known w K mg) : Me P w K mg base (2 + 1) (He.ga K "Strip") "names_between" p_Strip_names_between (spG K (A_Strip_names_between K)) := by
  have F : ∃ fd, FunD K "names_between" "Strip.names_between" (defArgs s_Strip_names_between) (defBody s_Strip_names_between) (defScope s_Strip_names_between) [] [] (He.ma K (He.ga K "Strip") "names_between") fd := Z.S.def_ 33
  exact me_mk (A := A_Strip_names_between K) F (He.meth_ok (Z.S.fact 61)) (He.cls_ok (Z.S.fact 51)) sc_Strip_names_between (fun _ _ a => by first | (obtain ⟨rfl, _⟩ := a; rfl) | (obtain ⟨_, rfl, _⟩ := a; rfl) | (obtain ⟨_, _, rfl, _⟩ := a; rfl) | (obtain ⟨_, _, _, rfl, _⟩ := a; rfl) | (obtain ⟨_, _, _, _, rfl, _⟩ := a; rfl) | (obtain ⟨_, _, _, _, _, rfl, _⟩ := a; rfl) | (obtain ⟨_, _, _, _, _, _, rfl, _⟩ := a; rfl) | (obtain ⟨_, _, _, _, _, _, _, rfl, _⟩ := a; rfl)) (by decide) (fun _ _ _ _ _ _ us hl => match us, hl with | [_, _], _ => rfl) (fun cdv B outer s H E hr => ⟨_, dv_Strip_names_between Z.T (ok_Strip_places Z) hr, fun ds post a => sd_Strip_names_between a⟩)
theorem ok_Strip_crosses (Z : Known w K mg) : Me P w K mg base (3 + 1) (He.ga K "Strip") "crosses" p_Strip_crosses (spG K (A_Strip_crosses K)) := by
  have F : ∃ fd, FunD K "crosses" "Strip.crosses" (defArgs s_Strip_crosses) (defBody s_Strip_crosses) (defScope s_Strip_crosses) [] [] (He.ma K (He.ga K "Strip") "crosses") fd := Z.S.def_ 34
  exact me_mk (A := A_Strip_crosses K) F (He.meth_ok (Z.S.fact 62)) (He.cls_ok (Z.S.fact 51)) sc_Strip_crosses (fun _ _ a => by first | (obtain ⟨rfl, _⟩ := a; rfl) | (obtain ⟨_, rfl, _⟩ := a; rfl) | (obtain ⟨_, _, rfl, _⟩ := a; rfl) | (obtain ⟨_, _, _, rfl, _⟩ := a; rfl) | (obtain ⟨_, _, _, _, rfl, _⟩ := a; rfl) | (obtain ⟨_, _, _, _, _, rfl, _⟩ := a; rfl) | (obtain ⟨_, _, _, _, _, _, rfl, _⟩ := a; rfl) | (obtain ⟨_, _, _, _, _, _, _, rfl, _⟩ := a; rfl)) (by decide) (fun _ _ _ _ _ _ us hl => match us, hl with | [_, _, _], _ => rfl) (fun cdv B outer s H E hr => ⟨_, dv_Strip_crosses Z.T (ok_Strip_names_between Z) (ok_Strip_require_name Z) hr, fun ds post a => sd_Strip_crosses a⟩)
theorem ok_Strip_row (Z : Known w K mg) : Me P w K mg base (0 + 1) (He.ga K "Strip") "row" p_Strip_row (spG K (A_Strip_row K)) := by
  have F : ∃ fd, FunD K "row" "Strip.row" (defArgs s_Strip_row) (defBody s_Strip_row) (defScope s_Strip_row) [] [] (He.ma K (He.ga K "Strip") "row") fd := Z.S.def_ 35
  exact me_mk (A := A_Strip_row K) F (He.meth_ok (Z.S.fact 63)) (He.cls_ok (Z.S.fact 51)) sc_Strip_row (fun _ _ a => by first | (obtain ⟨rfl, _⟩ := a; rfl) | (obtain ⟨_, rfl, _⟩ := a; rfl) | (obtain ⟨_, _, rfl, _⟩ := a; rfl) | (obtain ⟨_, _, _, rfl, _⟩ := a; rfl) | (obtain ⟨_, _, _, _, rfl, _⟩ := a; rfl) | (obtain ⟨_, _, _, _, _, rfl, _⟩ := a; rfl) | (obtain ⟨_, _, _, _, _, _, rfl, _⟩ := a; rfl) | (obtain ⟨_, _, _, _, _, _, _, rfl, _⟩ := a; rfl)) (by decide) (fun _ _ _ _ _ _ us hl => match us, hl with | [_], _ => rfl) (fun cdv B outer s H E hr => ⟨_, dv_Strip_row Z.T  hr, fun ds post a => sd_Strip_row a⟩)
theorem ok_Strip_orientations (Z : Known w K mg) : Me P w K mg base (2 + 1) (He.ga K "Strip") "orientations" p_Strip_orientations (spG K (A_Strip_orientations K)) := by
  have F : ∃ fd, FunD K "orientations" "Strip.orientations" (defArgs s_Strip_orientations) (defBody s_Strip_orientations) (defScope s_Strip_orientations) [] [] (He.ma K (He.ga K "Strip") "orientations") fd := Z.S.def_ 36
  exact me_mk (A := A_Strip_orientations K) F (He.meth_ok (Z.S.fact 64)) (He.cls_ok (Z.S.fact 51)) sc_Strip_orientations (fun _ _ a => by first | (obtain ⟨rfl, _⟩ := a; rfl) | (obtain ⟨_, rfl, _⟩ := a; rfl) | (obtain ⟨_, _, rfl, _⟩ := a; rfl) | (obtain ⟨_, _, _, rfl, _⟩ := a; rfl) | (obtain ⟨_, _, _, _, rfl, _⟩ := a; rfl) | (obtain ⟨_, _, _, _, _, rfl, _⟩ := a; rfl) | (obtain ⟨_, _, _, _, _, _, rfl, _⟩ := a; rfl) | (obtain ⟨_, _, _, _, _, _, _, rfl, _⟩ := a; rfl)) (by decide) (fun _ _ _ _ _ _ us hl => match us, hl with | [_, _], _ => rfl) (fun cdv B outer s H E hr => ⟨_, dv_Strip_orientations Z.T (ok_Strip_places Z) hr, fun ds post a => sd_Strip_orientations a⟩)
theorem ok_Strip_is_direct (Z : Known w K mg) : Me P w K mg base (3 + 1) (He.ga K "Strip") "is_direct" p_Strip_is_direct (spG K (A_Strip_is_direct K)) := by
  have F : ∃ fd, FunD K "is_direct" "Strip.is_direct" (defArgs s_Strip_is_direct) (defBody s_Strip_is_direct) (defScope s_Strip_is_direct) [] [] (He.ma K (He.ga K "Strip") "is_direct") fd := Z.S.def_ 37
  exact me_mk (A := A_Strip_is_direct K) F (He.meth_ok (Z.S.fact 65)) (He.cls_ok (Z.S.fact 51)) sc_Strip_is_direct (fun _ _ a => by first | (obtain ⟨rfl, _⟩ := a; rfl) | (obtain ⟨_, rfl, _⟩ := a; rfl) | (obtain ⟨_, _, rfl, _⟩ := a; rfl) | (obtain ⟨_, _, _, rfl, _⟩ := a; rfl) | (obtain ⟨_, _, _, _, rfl, _⟩ := a; rfl) | (obtain ⟨_, _, _, _, _, rfl, _⟩ := a; rfl) | (obtain ⟨_, _, _, _, _, _, rfl, _⟩ := a; rfl) | (obtain ⟨_, _, _, _, _, _, _, rfl, _⟩ := a; rfl)) (by decide) (fun _ _ _ _ _ _ us hl => match us, hl with | [_, _], _ => rfl) (fun cdv B outer s H E hr => ⟨_, dv_Strip_is_direct Z.T (ok_Strip_orientations Z) hr, fun ds post a => sd_Strip_is_direct a⟩)
theorem ok_Strip_pieces (Z : Known w K mg) : Me P w K mg base (0 + 1) (He.ga K "Strip") "pieces" p_Strip_pieces (spG K (A_Strip_pieces K)) := by
  have F : ∃ fd, FunD K "pieces" "Strip.pieces" (defArgs s_Strip_pieces) (defBody s_Strip_pieces) (defScope s_Strip_pieces) [] [] (He.ma K (He.ga K "Strip") "pieces") fd := Z.S.def_ 38
  exact me_mk (A := A_Strip_pieces K) F (He.meth_ok (Z.S.fact 66)) (He.cls_ok (Z.S.fact 51)) sc_Strip_pieces (fun _ _ a => by first | (obtain ⟨rfl, _⟩ := a; rfl) | (obtain ⟨_, rfl, _⟩ := a; rfl) | (obtain ⟨_, _, rfl, _⟩ := a; rfl) | (obtain ⟨_, _, _, rfl, _⟩ := a; rfl) | (obtain ⟨_, _, _, _, rfl, _⟩ := a; rfl) | (obtain ⟨_, _, _, _, _, rfl, _⟩ := a; rfl) | (obtain ⟨_, _, _, _, _, _, rfl, _⟩ := a; rfl) | (obtain ⟨_, _, _, _, _, _, _, rfl, _⟩ := a; rfl)) (by decide) (fun _ _ _ _ _ _ us hl => match us, hl with | [_], _ => rfl) (fun cdv B outer s H E hr => ⟨_, dv_Strip_pieces Z.T  hr, fun ds post a => sd_Strip_pieces a⟩)
theorem ok_Strip_str (Z : Known w K mg) : Me P w K mg base (2 + 1) (He.ga K "Strip") "__str__" p_Strip_str (spG K (A_Strip_str K)) := by
  have F : ∃ fd, FunD K "__str__" "Strip.__str__" (defArgs s_Strip_str) (defBody s_Strip_str) (defScope s_Strip_str) [] [] (He.ma K (He.ga K "Strip") "__str__") fd := Z.S.def_ 39
  exact me_mk (A := A_Strip_str K) F (He.meth_ok (Z.S.fact 67)) (He.cls_ok (Z.S.fact 51)) sc_Strip_str (fun _ _ a => by first | (obtain ⟨rfl, _⟩ := a; rfl) | (obtain ⟨_, rfl, _⟩ := a; rfl) | (obtain ⟨_, _, rfl, _⟩ := a; rfl) | (obtain ⟨_, _, _, rfl, _⟩ := a; rfl) | (obtain ⟨_, _, _, _, rfl, _⟩ := a; rfl) | (obtain ⟨_, _, _, _, _, rfl, _⟩ := a; rfl) | (obtain ⟨_, _, _, _, _, _, rfl, _⟩ := a; rfl) | (obtain ⟨_, _, _, _, _, _, _, rfl, _⟩ := a; rfl)) (by decide) (fun _ _ _ _ _ _ us hl => match us, hl with | [_], _ => rfl) (fun cdv B outer s H E hr => ⟨_, dv_Strip_str Z.T (ok_items_text Z) hr, fun ds post a => sd_Strip_str a⟩)
theorem ok_Strip_repr (Z : Known w K mg) : Me P w K mg base (2 + 1) (He.ga K "Strip") "__repr__" p_Strip_repr (spG K (A_Strip_repr K)) := by
  have F : ∃ fd, FunD K "__repr__" "Strip.__repr__" (defArgs s_Strip_repr) (defBody s_Strip_repr) (defScope s_Strip_repr) [] [] (He.ma K (He.ga K "Strip") "__repr__") fd := Z.S.def_ 40
  exact me_mk (A := A_Strip_repr K) F (He.meth_ok (Z.S.fact 68)) (He.cls_ok (Z.S.fact 51)) sc_Strip_repr (fun _ _ a => by first | (obtain ⟨rfl, _⟩ := a; rfl) | (obtain ⟨_, rfl, _⟩ := a; rfl) | (obtain ⟨_, _, rfl, _⟩ := a; rfl) | (obtain ⟨_, _, _, rfl, _⟩ := a; rfl) | (obtain ⟨_, _, _, _, rfl, _⟩ := a; rfl) | (obtain ⟨_, _, _, _, _, rfl, _⟩ := a; rfl) | (obtain ⟨_, _, _, _, _, _, rfl, _⟩ := a; rfl) | (obtain ⟨_, _, _, _, _, _, _, rfl, _⟩ := a; rfl)) (by decide) (fun _ _ _ _ _ _ us hl => match us, hl with | [_], _ => rfl) (fun cdv B outer s H E hr => ⟨_, dv_Strip_repr Z.T (ok_items_text Z) hr, fun ds post a => sd_Strip_repr a⟩)
theorem ok_law_like (Z : Known w K mg) : Gn P w K mg base (7 + 1) "_law_like" p_law_like (spG K (B_law_like K)) := by
  have F : ∃ fd, FunD K "_law_like" "_law_like" (defArgs s_law_like) (defBody s_law_like) (defScope s_law_like) [] [] (He.ga K "_law_like") fd := Z.S.def_ 41
  exact gn_mk (A := B_law_like K) F Z.g_law_like sc_law_like (fun _ _ a => by first | (obtain ⟨rfl, _⟩ := a; rfl) | (obtain ⟨_, rfl, _⟩ := a; rfl) | (obtain ⟨_, _, rfl, _⟩ := a; rfl) | (obtain ⟨_, _, _, rfl, _⟩ := a; rfl) | (obtain ⟨_, _, _, _, rfl, _⟩ := a; rfl) | (obtain ⟨_, _, _, _, _, rfl, _⟩ := a; rfl) | (obtain ⟨_, _, _, _, _, _, rfl, _⟩ := a; rfl) | (obtain ⟨_, _, _, _, _, _, _, rfl, _⟩ := a; rfl)) (by decide) (fun _ _ _ _ _ _ us hl => match us, hl with | [_, _], _ => rfl) (fun cdv B outer s H E hgd hr => ⟨_, dv_law_like Z.T (ok_Strip_row Z) (ok_Strip_eq Z) (ok_Strip_repr Z) (ok_Strip_str Z) (ok_Strip_pieces Z) (ok_Strip_names Z) (ok_Strip_crosses Z) (ok_Strip_names_between Z) (ok_Strip_is_direct Z) (ok_Strip_orientations Z) (ok_Strip_places Z) (ok_Strip_len Z) (ok_Strip_init Z) hgd hr, fun ds post a => sd_law_like a⟩)
theorem ok_Strip_flipped (Z : Known w K mg) : Me P w K mg base (7 + 1) (He.ga K "Strip") "flipped" p_Strip_flipped (spG K (A_Strip_flipped K)) := by
  have F : ∃ fd, FunD K "flipped" "Strip.flipped" (defArgs s_Strip_flipped) (defBody s_Strip_flipped) (defScope s_Strip_flipped) [] [] (He.ma K (He.ga K "Strip") "flipped") fd := Z.S.def_ 42
  exact me_mk (A := A_Strip_flipped K) F (He.meth_ok (Z.S.fact 69)) (He.cls_ok (Z.S.fact 51)) sc_Strip_flipped (fun _ _ a => by first | (obtain ⟨rfl, _⟩ := a; rfl) | (obtain ⟨_, rfl, _⟩ := a; rfl) | (obtain ⟨_, _, rfl, _⟩ := a; rfl) | (obtain ⟨_, _, _, rfl, _⟩ := a; rfl) | (obtain ⟨_, _, _, _, rfl, _⟩ := a; rfl) | (obtain ⟨_, _, _, _, _, rfl, _⟩ := a; rfl) | (obtain ⟨_, _, _, _, _, _, rfl, _⟩ := a; rfl) | (obtain ⟨_, _, _, _, _, _, _, rfl, _⟩ := a; rfl)) (by decide) (fun _ _ _ _ _ _ us hl => match us, hl with | [_], _ => rfl) (fun cdv B outer s H E hr => ⟨_, dv_Strip_flipped Z.T (ok_Strip_init Z) (ok_flipped_items Z) hr, fun ds post a => sd_Strip_flipped a⟩)
theorem ok_law_right (Z : Known w K mg) : Gn P w K mg base (8 + 1) "_law_right" p_law_right (spG K (B_law_right K)) := by
  have F : ∃ fd, FunD K "_law_right" "_law_right" (defArgs s_law_right) (defBody s_law_right) (defScope s_law_right) [] [] (He.ga K "_law_right") fd := Z.S.def_ 43
  exact gn_mk (A := B_law_right K) F Z.g_law_right sc_law_right (fun _ _ a => by first | (obtain ⟨rfl, _⟩ := a; rfl) | (obtain ⟨_, rfl, _⟩ := a; rfl) | (obtain ⟨_, _, rfl, _⟩ := a; rfl) | (obtain ⟨_, _, _, rfl, _⟩ := a; rfl) | (obtain ⟨_, _, _, _, rfl, _⟩ := a; rfl) | (obtain ⟨_, _, _, _, _, rfl, _⟩ := a; rfl) | (obtain ⟨_, _, _, _, _, _, rfl, _⟩ := a; rfl) | (obtain ⟨_, _, _, _, _, _, _, rfl, _⟩ := a; rfl)) (by decide) (fun _ _ _ _ _ _ us hl => match us, hl with | [_, _], _ => rfl) (fun cdv B outer s H E hgd hr => ⟨_, dv_law_right Z.T (ok_Strip_row Z) (ok_Ring_init Z) (ok_Strip_str Z) (ok_Strip_eq Z) (ok_Strip_init Z) (ok_law_like Z) (ok_Strip_flipped Z) (ok_law_turned Z) hgd hr, fun ds post a => sd_law_right a⟩)
theorem ok_law_near (Z : Known w K mg) : Fn P w K mg base (1 + 1) "_law_near" p_law_near (spX K (B_law_near)) := by
  have F : ∃ fd, FunD K "_law_near" "_law_near" (defArgs s_law_near) (defBody s_law_near) (defScope s_law_near) [] [] (He.ga K "_law_near") fd := Z.S.def_ 44
  exact fnX_mk (A := B_law_near) F Z.g_law_near sc_law_near (fun _ _ _ a => by first | (obtain ⟨rfl, _⟩ := a; rfl) | (obtain ⟨_, rfl, _⟩ := a; rfl) | (obtain ⟨_, _, rfl, _⟩ := a; rfl) | (obtain ⟨_, _, _, rfl, _⟩ := a; rfl) | (obtain ⟨_, _, _, _, rfl, _⟩ := a; rfl) | (obtain ⟨_, _, _, _, _, rfl, _⟩ := a; rfl) | (obtain ⟨_, _, _, _, _, _, rfl, _⟩ := a; rfl) | (obtain ⟨_, _, _, _, _, _, _, rfl, _⟩ := a; rfl)) (by decide) (fun _ _ _ _ _ _ us hl => match us, hl with | [_, _], _ => rfl) (fun cdv B outer s H E hr => ⟨_, dv_law_near Z.T (ok_law_take Z) hr, fun b n ds post a => sd_law_near a⟩)
end
theorem fin_law (w : World) (mg : Str → Option Value) (fa : Addr) (h : Heap) (Y : Hd.hk.says w h) (G : h.Ns mainGlobals mg) (e : mg "law" = some (.ref fa)) :
    ∃ (K : PySem.W.Frag) (fd : FuncData) (sp : Sp), K.In h ∧ (∀ (s : Shared) (u : Value), BindsTo s fd ⟨[u], []⟩ [("_law_script", u)]) ∧
      (∀ (H : Hp) (a : Addr) (ns : List Int), ns.length ≤ 63 → (∀ z ∈ ns, Builtin.Int.intBits z ≤ 1048576) → SqL K H a (ns.map V.int) → sp [.ref a] H (fun v _ => v = .bl true) fun _ _ _ => False) ∧
      ∀ base : Heap, K.In base → base.Ns mainGlobals mg → FnG (PySem.W.OpenLaw.prog PySem.Challenge.rw_markersplice_k08_strip_equality_and_flip) w K mg base (9 + 1) fa fd ["_law_script"] sp := by
  obtain ⟨K, X, SX⟩ := Y
  have S := SX.t.d
  have hm0 := SX.more
  obtain ⟨hi_Strip, hm1⟩ := He.ba hm0
  obtain ⟨hi_Ring, hm2⟩ := He.ba hm1
  obtain ⟨hx_0, hm3⟩ := He.ba hm2
  obtain ⟨hq_Ring, hm4⟩ := He.ba hm3
  have hq_Strip := hm4
  have hI_Strip := insB_ok (He.cls_ok (S.fact 51)) hi_Strip
  have hI_Ring := insB_ok (He.cls_ok (S.fact 54)) hi_Ring
  have Z : Known w K mg := ⟨⟨He.free_ok X G (S.fact 30), He.free_ok X G (S.fact 31), He.free_ok X G (S.fact 32), He.free_ok X G (S.fact 33), He.free_ok X G (S.fact 34), He.free_ok X G (S.fact 35), He.free_ok X G (S.fact 36), He.free_ok X G (S.fact 37), He.free_ok X G (S.fact 38), He.free_ok X G (S.fact 39), He.free_ok X G (S.fact 40), He.free_ok X G (S.fact 41), He.free_ok X G (S.fact 42), He.free_ok X G (S.fact 43), He.free_ok X G (S.fact 44), He.free_ok X G (S.fact 45), He.str_ok X G (S.fact 46), He.str_ok X G (S.fact 47), He.int_ok X G (S.fact 48), He.int_ok X G (S.fact 49), He.glo_ok X G (S.fact 53), He.glo_ok X G (S.fact 50), He.glo_ok X G (S.fact 19), (eqB_ok hq_Ring).ne, hI_Ring.t.hm, (eqB_ok hq_Strip).ne, hI_Strip.t.hm⟩, S, He.glo_ok X G (S.fact 0), He.glo_ok X G (S.fact 1), He.glo_ok X G (S.fact 2), He.glo_ok X G (S.fact 3), He.glo_ok X G (S.fact 4), He.glo_ok X G (S.fact 5), He.glo_ok X G (S.fact 6), He.glo_ok X G (S.fact 7), He.glo_ok X G (S.fact 8), He.glo_ok X G (S.fact 9), He.glo_ok X G (S.fact 10), He.glo_ok X G (S.fact 11), He.glo_ok X G (S.fact 12), He.glo_ok X G (S.fact 13), He.glo_ok X G (S.fact 14), He.glo_ok X G (S.fact 15), He.glo_ok X G (S.fact 16), He.glo_ok X G (S.fact 17), He.glo_ok X G (S.fact 18), He.glo_ok X G (S.fact 19), He.glo_ok X G (S.fact 20), He.glo_ok X G (S.fact 21), He.glo_ok X G (S.fact 22), He.glo_ok X G (S.fact 23), He.glo_ok X G (S.fact 24), He.glo_ok X G (S.fact 25), He.glo_ok X G (S.fact 26), He.glo_ok X G (S.fact 27), He.glo_ok X G (S.fact 28), He.glo_ok X G (S.fact 29), He.glo_ok X G (S.fact 50), He.glo_ok X G (S.fact 53)⟩
  have F : ∃ fd, FunD K "law" "law" (defArgs s_law) (defBody s_law) (defScope s_law) [] [] (He.ga K "law") fd := S.def_ 45
  obtain ⟨fd, FD⟩ := F
  have ea : fa = He.ga K "law" := by
    have z := Z.g_law
    rw [e] at z
    cases z; rfl
  subst ea
  refine ⟨K, fd, spG K (A_law K), X, law_binds FD fun _ _ _ _ _ _ _ => rfl, fun H a ns hl hb hS => law_start hS ⟨ns, rfl, huges hb, ⟨⟨hI_Ring, He.noat_ok (S.fact 72), eqB_ok hq_Ring⟩, ⟨hI_Strip, He.noat_ok (S.fact 70), He.noat_ok (S.fact 71)⟩, eqB_ok hq_Strip, apB_ok hx_0⟩, rfl⟩, fun base _ _ => ?_⟩
  exact gnG_mk FD sc_law (fun _ _ a => by first | (obtain ⟨rfl, _⟩ := a; rfl) | (obtain ⟨_, rfl, _⟩ := a; rfl) | (obtain ⟨_, _, rfl, _⟩ := a; rfl) | (obtain ⟨_, _, _, rfl, _⟩ := a; rfl) | (obtain ⟨_, _, _, _, rfl, _⟩ := a; rfl) | (obtain ⟨_, _, _, _, _, rfl, _⟩ := a; rfl) | (obtain ⟨_, _, _, _, _, _, rfl, _⟩ := a; rfl) | (obtain ⟨_, _, _, _, _, _, _, rfl, _⟩ := a; rfl)) (by decide) fun cdv B outer s H E hgd hr => ⟨_, dv_law Z.T (ok_law_right Z) (ok_Strip_eq Z) (ok_Strip_flipped Z) (ok_Strip_init Z) (ok_law_palindrome Z) (ok_law_take Z) (ok_law_near Z) (ok_law_row Z) (ok_law_box Z) (ok_law_cell Z) hgd hr, fun ds post a => sd_law a⟩
end Ms
open PySem PySem.W PySem.Calls PyProof.Rows
theorem PySem.Challenge.cw_markersplice_k08_strip_equality_and_flip_holds : PySem.Challenge.rw_markersplice_k08_strip_equality_and_flip.Holds := by
  w_on; o_law
  refine HandSHeadRun.head_any (r := OpenLaw.row PySem.Challenge.rw_markersplice_k08_strip_equality_and_flip) (q := view (OpenLaw.row PySem.Challenge.rw_markersplice_k08_strip_equality_and_flip).prog [48]) (H := Hd.hk) (ob := Hd.ob) (M := 20000) (loose := Hd.loose) (d := HandSHeadRun.topDef (OpenLaw.row PySem.Challenge.rw_markersplice_k08_strip_equality_and_flip).prog 48) (kwd := []) Hd.ob_eq
    (by kernel_rfl) (fun s => by kernel_rfl) Hd.run (by kernel_rfl) (by kernel_rfl) (by kernel_rfl) (by rfl) (by first | assumption | decide +kernel) (by decide +kernel) ⟨rfl, rfl, rfl, rfl, rfl, by decide +kernel⟩ ?hw ?hc
  case hw => w_witness2
  case hc => exact Ms.walk_law (l := PySem.Challenge.rw_markersplice_k08_strip_equality_and_flip) (n := 63) (k := 9 + 1) (x := "_law_script") rfl (by decide) (by rfl) ⟨rfl, by decide, by decide⟩ Ms.fin_law
