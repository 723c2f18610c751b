import PyProof.Rows.All
import Wide.All
import OpenK.AllK
import Wide.FinOn
import HandS.ForMost
import HandS.ForExc
import HandS.TupAny
import HandS.TupMul
import HandS.TupLe
import HandS.Conv
import HandS.IsInst
import HandS.Defaults
import PyProof.EnumMake
import PyProof.Draws
import KE.GoesMore
import HandS.Iter
import HandS.Text
import HandS.FStr
import HandS.Deep
import PyProof.P3In
import HandS.TryOnly
import HandS.ExcInit
import KE.KStateDown
import HandS.Base
import HandS.Call
import HandS.Ends
import HandS.More
import HandS.Words
import HandS.WordsExc
import HandS.Head0
import HandS.Head1
import HandS.Head2
import HandS.HeadEnd
import HandS.HeadHook1
import HandS.HeadHook2
import HandS.HeadHook3
import HandS.HeadHook4
import PySem.Challenge.RW_whofirst_k04_tables_written
set_option Elab.async false
set_option linter.all false
set_option autoImplicit false
set_option maxRecDepth 100000
set_option maxHeartbeats 4000000
/-! WF: a layer of plain data over the hand layer. -/
namespace WH
open PySem PySem.Spec L2

/-! ### data in a growing heap -/
theorem rd_mono {H H' : Hp} {a : Addr} {u : HO} (e : Same H H') (h : Rd H a u) : Rd H' a u := by
  rcases h with h | ⟨o, h⟩
  · exact Or.inl (e a _ h)
  · exact Or.inr ⟨o, e a _ h⟩
theorem sqL_mono {K : PySem.W.Frag} {H H' : Hp} {a : Addr} {xs : List V} (e : Same H H') (h : SqL K H a xs) : SqL K H' a xs := by
  rcases h with h | h
  · exact Or.inl (rd_mono e h)
  · exact Or.inr h
theorem sqT_mono {K : PySem.W.Frag} {H H' : Hp} {a : Addr} {xs : List V} (e : Same H H') (h : SqT K H a xs) : SqT K H' a xs := by
  rcases h with h | h
  · exact Or.inl (rd_mono e h)
  · exact Or.inr h
/-! ### a value stands for data: lists and dicts that are tracked, tuples that are tracked or written -/
def kD : Key → PyData
  | .inl i => .int i
  | .inr x => .str x
mutual
inductive Rp (K : PySem.W.Frag) (G : Hp) : V → PyData → Prop
  | non : Rp K G .non .none
  | bl (b : Bool) : Rp K G (.bl b) (.bool b)
  | int (i : Int) : Rp K G (.int i) (.int i)
  | str (x : Str) : Rp K G (.str x) (.str x)
  | lst {a : Addr} {xs : List V} {ds : List PyData} : G a = some (.lst xs) → RpAll K G xs ds → Rp K G (.ref a) (.list ds)
  | tup {a : Addr} {xs : List V} {ds : List PyData} : SqT K G a xs → RpAll K G xs ds → Rp K G (.ref a) (.tuple ds)
  | dik {a : Addr} {xs : List (Key × V)} {ds : List (PyData × PyData)} : G a = some (.dK xs) → RpKv K G xs ds → Rp K G (.ref a) (.dict ds)
  | dit {a : Addr} {xs : List (List Key × V)} {ds : List (PyData × PyData)} : G a = some (.dT xs) → RpTv K G xs ds → Rp K G (.ref a) (.dict ds)
  /-- the script -/
  | scr {a : Addr} {ns : List Int} : SqL K G a (ns.map V.int) → Rp K G (.ref a) (.dict [(.none, .list (ns.map PyData.int))])
inductive RpAll (K : PySem.W.Frag) (G : Hp) : List V → List PyData → Prop
  | nil : RpAll K G [] []
  | cons {v : V} {vs : List V} {d : PyData} {ds : List PyData} : Rp K G v d → RpAll K G vs ds → RpAll K G (v :: vs) (d :: ds)
inductive RpKv (K : PySem.W.Frag) (G : Hp) : List (Key × V) → List (PyData × PyData) → Prop
  | nil : RpKv K G [] []
  | cons {k : Key} {v : V} {vs : List (Key × V)} {d : PyData} {ds : List (PyData × PyData)} : Rp K G v d → RpKv K G vs ds → RpKv K G ((k, v) :: vs) ((kD k, d) :: ds)
inductive RpTv (K : PySem.W.Frag) (G : Hp) : List (List Key × V) → List (PyData × PyData) → Prop
  | nil : RpTv K G [] []
  | cons {k : List Key} {v : V} {vs : List (List Key × V)} {d : PyData} {ds : List (PyData × PyData)} : Rp K G v d → RpTv K G vs ds → RpTv K G ((k, v) :: vs) ((.tuple (k.map kD), d) :: ds)
end
section
variable {K : PySem.W.Frag} {H H' : Hp}
theorem rp_mono (e : Same H H') {v : V} {d : PyData} (h : Rp K H v d) : Rp K H' v d :=
  Rp.rec (motive_1 := fun v d _ => Rp K H' v d) (motive_2 := fun xs ds _ => RpAll K H' xs ds) (motive_3 := fun xs ds _ => RpKv K H' xs ds) (motive_4 := fun xs ds _ => RpTv K H' xs ds)
    .non .bl .int .str (fun h _ i => .lst (e _ _ h) i) (fun h _ i => .tup (sqT_mono e h) i) (fun h _ i => .dik (e _ _ h) i) (fun h _ i => .dit (e _ _ h) i) (fun h => .scr (sqL_mono e h)) .nil (fun _ _ i j => .cons i j) .nil (fun _ _ i j => .cons i j) .nil (fun _ _ i j => .cons i j) h
theorem rpa_mono (e : Same H H') : ∀ {xs : List V} {ds : List PyData}, RpAll K H xs ds → RpAll K H' xs ds
  | _, _, .nil => .nil
  | _, _, .cons a t => .cons (rp_mono e a) (rpa_mono e t)
theorem rpk_mono (e : Same H H') : ∀ {xs : List (Key × V)} {ds : List (PyData × PyData)}, RpKv K H xs ds → RpKv K H' xs ds
  | _, _, .nil => .nil
  | _, _, .cons a t => .cons (rp_mono e a) (rpk_mono e t)
theorem canLay_list {ds : List PyData} (h : (PyData.list ds).canLay0 = true) : PyData.canLayAll0 ds = true := by simpa [PyData.canLay0] using h
theorem canLay_tuple {ds : List PyData} (h : (PyData.tuple ds).canLay0 = true) : PyData.canLayAll0 ds = true := by simpa [PyData.canLay0] using h
theorem canLay_cons {d : PyData} {ds : List PyData} (h : PyData.canLayAll0 (d :: ds) = true) : d.canLay0 = true ∧ PyData.canLayAll0 ds = true := by simpa [PyData.canLayAll0] using h
theorem rp_dp {v : V} {d : PyData} (h : Rp K H v d) : d.canLay0 = true → Dp K H v d :=
  Rp.rec (motive_1 := fun v d _ => d.canLay0 = true → Dp K H v d) (motive_2 := fun xs ds _ => PyData.canLayAll0 ds = true → DpAll K H xs ds) (motive_3 := fun xs ds _ => True) (motive_4 := fun xs ds _ => True)
    (fun _ => .non) (fun b _ => .bl b) (fun b _ => .int b) (fun b _ => .str b) (fun h _ i c => .lst (SqL.of h) (i (canLay_list c))) (fun h _ i c => .tup h (i (canLay_tuple c))) (fun h _ i c => by simp [PyData.canLay0] at c) (fun h _ i c => by simp [PyData.canLay0] at c) (fun h c => by simp [PyData.canLay0] at c)
    (fun _ => .nil) (fun _ _ i j c => .cons (i (canLay_cons c).1) (j (canLay_cons c).2)) trivial (fun _ _ _ _ => trivial) trivial (fun _ _ _ _ => trivial) h
theorem rpa_length : ∀ {xs : List V} {ds : List PyData}, RpAll K H xs ds → xs.length = ds.length
  | _, _, .nil => rfl
  | _, _, .cons _ t => by simp [rpa_length t]
theorem rpa_get : ∀ {xs : List V} {ds : List PyData} {i : Nat} {d : PyData}, RpAll K H xs ds → ds[i]? = some d → ∃ v, xs[i]? = some v ∧ Rp K H v d
  | _, _, _, _, .nil, e => by simp at e
  | _, _, 0, _, .cons h _, e => by simp at e; subst e; exact ⟨_, rfl, h⟩
  | _, _, i + 1, d, .cons _ t, e => by
    obtain ⟨v, h1, h2⟩ := rpa_get (i := i) (d := d) t (by simpa using e)
    exact ⟨v, by simpa using h1, h2⟩
theorem rpa_get2 : ∀ {xs : List V} {ds : List PyData} {i : Nat} {v : V}, RpAll K H xs ds → xs[i]? = some v → ∃ d, ds[i]? = some d ∧ Rp K H v d
  | _, _, _, _, .nil, e => by simp at e
  | _, _, 0, _, .cons h _, e => by simp at e; subst e; exact ⟨_, rfl, h⟩
  | _, _, i + 1, d, .cons _ t, e => by
    obtain ⟨v, h1, h2⟩ := rpa_get2 (i := i) (v := d) t (by simpa using e)
    exact ⟨v, by simpa using h1, h2⟩
theorem rpa_append : ∀ {xs ys : List V} {ds es : List PyData}, RpAll K H xs ds → RpAll K H ys es → RpAll K H (xs ++ ys) (ds ++ es)
  | _, _, _, _, .nil, h => h
  | _, _, _, _, .cons a t, h => .cons a (rpa_append t h)
theorem rpa_take : ∀ {xs : List V} {ds : List PyData} (n : Nat), RpAll K H xs ds → RpAll K H (xs.take n) (ds.take n)
  | _, _, 0, _ => .nil
  | _, _, _ + 1, .nil => .nil
  | _, _, n + 1, .cons a t => .cons a (rpa_take n t)
theorem rpa_drop : ∀ {xs : List V} {ds : List PyData} (n : Nat), RpAll K H xs ds → RpAll K H (xs.drop n) (ds.drop n)
  | _, _, 0, h => h
  | _, _, _ + 1, .nil => .nil
  | _, _, n + 1, .cons _ t => rpa_drop n t
theorem rpa_set : ∀ {xs : List V} {ds : List PyData} {v : V} {d : PyData} (n : Nat), Rp K H v d → RpAll K H xs ds → RpAll K H (xs.set n v) (ds.set n d)
  | _, _, _, _, _, _, .nil => .nil
  | _, _, _, _, 0, h, .cons _ t => .cons h t
  | _, _, _, _, n + 1, h, .cons a t => .cons a (rpa_set n h t)
theorem rpa_rep {xs : List V} {ds : List PyData} (h : RpAll K H xs ds) : ∀ n : Nat, RpAll K H (List.replicate n xs).flatten (List.replicate n ds).flatten
  | 0 => .nil
  | n + 1 => by
    rw [List.replicate_succ, List.replicate_succ, List.flatten_cons, List.flatten_cons]
    exact rpa_append h (rpa_rep h n)
theorem rpa_ints : ∀ (ns : List Int), RpAll K H (ns.map V.int) (ns.map PyData.int)
  | [] => .nil
  | n :: ns => .cons (.int n) (rpa_ints ns)
theorem rpa_bools : ∀ (ns : List Bool), RpAll K H (ns.map V.bl) (ns.map PyData.bool)
  | [] => .nil
  | n :: ns => .cons (.bl n) (rpa_bools ns)
theorem rpa_strs : ∀ (ns : List Str), RpAll K H (ns.map V.str) (ns.map PyData.str)
  | [] => .nil
  | n :: ns => .cons (.str n) (rpa_strs ns)
theorem rpa_ofInts : ∀ {xs : List V} {ns : List Int}, RpAll K H xs (ns.map PyData.int) → xs = ns.map V.int
  | _, [], h => by cases h; rfl
  | _, n :: ns, h => by
    cases h with
    | cons a t => cases a; rw [rpa_ofInts t]; rfl
theorem rpa_ofBools : ∀ {xs : List V} {ns : List Bool}, RpAll K H xs (ns.map PyData.bool) → xs = ns.map V.bl
  | _, [], h => by cases h; rfl
  | _, n :: ns, h => by
    cases h with
    | cons a t => cases a; rw [rpa_ofBools t]; rfl
theorem rpa_ofStrs : ∀ {xs : List V} {ns : List Str}, RpAll K H xs (ns.map PyData.str) → xs = ns.map V.str
  | _, [], h => by cases h; rfl
  | _, n :: ns, h => by
    cases h with
    | cons a t => cases a; rw [rpa_ofStrs t]; rfl
theorem rpa_reverse : ∀ {xs : List V} {ds : List PyData}, RpAll K H xs ds → RpAll K H xs.reverse ds.reverse
  | _, _, .nil => .nil
  | _, _, .cons a t => by
    rw [List.reverse_cons, List.reverse_cons]
    exact rpa_append (rpa_reverse t) (.cons a .nil)
end
theorem same_upd {H : Hp} {p : Addr} {o : HO} (h : H p = none) : Same H (upd H p o) := fun a u e => by
  rw [upd_ne (ne_of_none e h)]
  exact e
theorem same_mut {G H : Hp} {p : Addr} {o : HO} (e : Same G H) (h : G p = none) : Same G (upd H p o) := fun a u ha => by
  rw [upd_ne (ne_of_none ha h)]
  exact e a u ha

/-! ### what a def's names hold -/
/-- an object that a name alone holds -/
inductive OD where
  | lst (ds : List PyData)
  | dic (kvs : List (Key × PyData))
  | set (S : Int → Bool) (n : Nat)
inductive Slot where
  | no
  | sh (d : PyData)
  | ow (o : OD)
abbrev Sto := List Slot
inductive RpK (K : PySem.W.Frag) (G : Hp) : List (Key × V) → List (Key × PyData) → Prop
  | nil : RpK K G [] []
  | cons {k : Key} {v : V} {d : PyData} {vs : List (Key × V)} {ds : List (Key × PyData)} : Rp K G v d → RpK K G vs ds → RpK K G ((k, v) :: vs) ((k, d) :: ds)
theorem rpK_mono {K : PySem.W.Frag} {H H' : Hp} (e : Same H H') : ∀ {vs : List (Key × V)} {ds : List (Key × PyData)}, RpK K H vs ds → RpK K H' vs ds
  | _, _, .nil => .nil
  | _, _, .cons a t => .cons (rp_mono e a) (rpK_mono e t)
def HoOk (K : PySem.W.Frag) (G : Hp) : HO → OD → Prop
  | .lst xs, .lst ds => RpAll K G xs ds
  | .dK kvs, .dic es => RpK K G kvs es
  | .set S n, .set S' n' => S = S' ∧ n = n'
  | _, _ => False
theorem hoOk_mono {K : PySem.W.Frag} {H H' : Hp} (e : Same H H') {h : HO} {o : OD} (x : HoOk K H h o) : HoOk K H' h o := by
  cases h <;> cases o <;> first | exact x | exact rpa_mono e x | exact rpK_mono e x | exact x.elim

structure Ok (K : PySem.W.Frag) (G0 H0 G H : Hp) (σ : L2.St) (ρ : Sto) : Prop where
  gh : Same G H
  g0 : Same G0 G
  h0 : Same H0 H
  nw : ∀ a o, G a = some o → G0 a = some o ∨ H0 a = none
  len : σ.length = ρ.length
  sh : ∀ (i : Nat) (d : PyData), ρ[i]? = some (Slot.sh d) → ∃ v, σ[i]? = some (some v) ∧ Rp K G v d
  ow : ∀ (i : Nat) (o : OD), ρ[i]? = some (Slot.ow o) → ∃ a ho, σ[i]? = some (some (V.ref a)) ∧ H a = some ho ∧ G a = none ∧ H0 a = none ∧ HoOk K G ho o
  ap : ∀ (i j : Nat) (o u : OD) (a : Addr), i ≠ j → ρ[i]? = some (Slot.ow o) → ρ[j]? = some (Slot.ow u) → σ[i]? = some (some (V.ref a)) → σ[j]? ≠ some (some (V.ref a))
section
variable {K : PySem.W.Frag} {G0 H0 G H G' H' : Hp} {σ : L2.St} {ρ : Sto}
/-- the heap grows; what is new of the shared part is new in the heap -/
theorem Ok.grow (k : Ok K G0 H0 G H σ ρ) (gg : Same G G') (hh : Same H H') (gh : Same G' H') (nw : ∀ a o, G' a = some o → G a = some o ∨ H a = none) : Ok K G0 H0 G' H' σ ρ where
  gh := gh
  g0 := k.g0.trans gg
  h0 := k.h0.trans hh
  nw := fun a o e => by
    rcases nw a o e with q | q
    · exact k.nw a o q
    · exact .inr (k.h0.free q)
  len := k.len
  sh := fun i d e => by
    obtain ⟨v, h1, h2⟩ := k.sh i d e
    exact ⟨v, h1, rp_mono gg h2⟩
  ow := fun i o e => by
    obtain ⟨a, ho, h1, h2, h3, h4, h5⟩ := k.ow i o e
    refine ⟨a, ho, h1, hh a _ h2, ?_, h4, hoOk_mono gg h5⟩
    cases q : G' a with
    | none => rfl
    | some u =>
      rcases nw a u q with z | z
      · rw [h3] at z; cases z
      · rw [h2] at z; cases z
  ap := k.ap
/-- a new shared object -/
theorem Ok.share (k : Ok K G0 H0 G H σ ρ) {p : Addr} {o : HO} (hp : H p = none) : Ok K G0 H0 (upd G p o) (upd H p o) σ ρ :=
  k.grow (same_upd (k.gh.free hp)) (same_upd hp) (fun a u e => by
    by_cases ha : a = p
    · subst ha; rw [upd_same] at e; rw [upd_same]; exact e
    · rw [upd_ne ha] at e; rw [upd_ne ha]; exact k.gh a u e) (fun a u e => by
    by_cases ha : a = p
    · subst ha; exact .inr hp
    · rw [upd_ne ha] at e; exact .inl e)
/-- a new object that is not shared yet -/
theorem Ok.fresh (k : Ok K G0 H0 G H σ ρ) {p : Addr} {o : HO} (hp : H p = none) : Ok K G0 H0 G (upd H p o) σ ρ :=
  k.grow (Same.refl G) (same_upd hp) (same_mut k.gh (k.gh.free hp)) fun a u e => .inl e
/-- an object that nothing names is shared from now on -/
theorem Ok.freeze (k : Ok K G0 H0 G H' σ ρ) {p : Addr} {o : HO} (hp : H' p = some o) (hg : G p = none) (h0 : H0 p = none) (un : ∀ (i : Nat) (u : OD), ρ[i]? = some (Slot.ow u) → σ[i]? ≠ some (some (V.ref p))) : Ok K G0 H0 (upd G p o) H' σ ρ where
  gh := fun a u e => by
    by_cases ha : a = p
    · subst ha; rw [upd_same] at e; rw [hp]; exact e
    · rw [upd_ne ha] at e; exact k.gh a u e
  g0 := k.g0.trans (same_upd hg)
  h0 := k.h0
  nw := fun a u e => by
    by_cases ha : a = p
    · subst ha; exact .inr h0
    · rw [upd_ne ha] at e; exact k.nw a u e
  len := k.len
  sh := fun i d e => by
    obtain ⟨v, h1, h2⟩ := k.sh i d e
    exact ⟨v, h1, rp_mono (same_upd hg) h2⟩
  ow := fun i u e => by
    obtain ⟨a, ho, h1, h2, h3, h4, h5⟩ := k.ow i u e
    have ne : a ≠ p := fun z => un i u e (by rw [← z]; exact h1)
    exact ⟨a, ho, h1, h2, by rw [upd_ne ne]; exact h3, h4, hoOk_mono (same_upd hg) h5⟩
  ap := k.ap
theorem getElem_set_eq {α : Type} {l : List α} {i j : Nat} {x : α} : (l.set i x)[j]? = if i = j then (if i < l.length then some x else none) else l[j]? := by
  rw [List.getElem?_set]
/-- a name is given data -/
theorem Ok.setSh (k : Ok K G0 H0 G H σ ρ) {i : Nat} {v : V} {d : PyData} (hv : Rp K G v d) : Ok K G0 H0 G H (σ.set i (some v)) (ρ.set i (.sh d)) where
  gh := k.gh
  g0 := k.g0
  h0 := k.h0
  nw := k.nw
  len := by rw [List.length_set, List.length_set]; exact k.len
  sh := fun j e h => by
    rw [getElem_set_eq] at h ⊢
    by_cases hij : i = j
    · rw [if_pos hij] at h ⊢
      rw [k.len]
      by_cases hl : i < ρ.length
      · rw [if_pos hl] at h ⊢
        cases h
        exact ⟨v, rfl, hv⟩
      · rw [if_neg hl] at h; cases h
    · rw [if_neg hij] at h ⊢
      exact k.sh j e h
  ow := fun j o h => by
    rw [getElem_set_eq] at h ⊢
    by_cases hij : i = j
    · rw [if_pos hij] at h
      by_cases hl : i < ρ.length
      · rw [if_pos hl] at h; cases h
      · rw [if_neg hl] at h; cases h
    · rw [if_neg hij] at h ⊢
      exact k.ow j o h
  ap := fun j l o u a hjl h1 h2 h3 => by
    rw [getElem_set_eq] at h1 h2 h3 ⊢
    by_cases hij : i = j
    · rw [if_pos hij] at h1
      by_cases hl : i < ρ.length
      · rw [if_pos hl] at h1; cases h1
      · rw [if_neg hl] at h1; cases h1
    · by_cases hil : i = l
      · rw [if_pos hil] at h2
        by_cases hl : i < ρ.length
        · rw [if_pos hl] at h2; cases h2
        · rw [if_neg hl] at h2; cases h2
      · rw [if_neg hij] at h1 h3
        rw [if_neg hil] at h2 ⊢
        exact k.ap j l o u a hjl h1 h2 h3
/-- a name is forgotten -/
theorem Ok.setNo (k : Ok K G0 H0 G H σ ρ) {i : Nat} {v : Option V} : Ok K G0 H0 G H (σ.set i v) (ρ.set i .no) where
  gh := k.gh
  g0 := k.g0
  h0 := k.h0
  nw := k.nw
  len := by rw [List.length_set, List.length_set]; exact k.len
  sh := fun j e h => by
    rw [getElem_set_eq] at h ⊢
    by_cases hij : i = j
    · rw [if_pos hij] at h
      by_cases hl : i < ρ.length
      · rw [if_pos hl] at h; cases h
      · rw [if_neg hl] at h; cases h
    · rw [if_neg hij] at h ⊢
      exact k.sh j e h
  ow := fun j o h => by
    rw [getElem_set_eq] at h ⊢
    by_cases hij : i = j
    · rw [if_pos hij] at h
      by_cases hl : i < ρ.length
      · rw [if_pos hl] at h; cases h
      · rw [if_neg hl] at h; cases h
    · rw [if_neg hij] at h ⊢
      exact k.ow j o h
  ap := fun j l o u a hjl h1 h2 h3 => by
    rw [getElem_set_eq] at h1 h2 h3 ⊢
    by_cases hij : i = j
    · rw [if_pos hij] at h1
      by_cases hl : i < ρ.length
      · rw [if_pos hl] at h1; cases h1
      · rw [if_neg hl] at h1; cases h1
    · by_cases hil : i = l
      · rw [if_pos hil] at h2
        by_cases hl : i < ρ.length
        · rw [if_pos hl] at h2; cases h2
        · rw [if_neg hl] at h2; cases h2
      · rw [if_neg hij] at h1 h3
        rw [if_neg hil] at h2 ⊢
        exact k.ap j l o u a hjl h1 h2 h3
/-- a name is given an object of its own -/
theorem Ok.setOw (k : Ok K G0 H0 G H σ ρ) {i : Nat} {p : Addr} {ho : HO} {o : OD} (hp : H p = some ho) (hg : G p = none) (h0 : H0 p = none) (hx : HoOk K G ho o) (un : ∀ (j : Nat) (u : OD), i ≠ j → ρ[j]? = some (Slot.ow u) → σ[j]? ≠ some (some (V.ref p))) :
    Ok K G0 H0 G H (σ.set i (some (.ref p))) (ρ.set i (.ow o)) where
  gh := k.gh
  g0 := k.g0
  h0 := k.h0
  nw := k.nw
  len := by rw [List.length_set, List.length_set]; exact k.len
  sh := fun j e h => by
    rw [getElem_set_eq] at h ⊢
    by_cases hij : i = j
    · rw [if_pos hij] at h
      by_cases hl : i < ρ.length
      · rw [if_pos hl] at h; cases h
      · rw [if_neg hl] at h; cases h
    · rw [if_neg hij] at h ⊢
      exact k.sh j e h
  ow := fun j u h => by
    rw [getElem_set_eq] at h ⊢
    by_cases hij : i = j
    · rw [if_pos hij] at h ⊢
      rw [k.len]
      by_cases hl : i < ρ.length
      · rw [if_pos hl] at h ⊢
        cases h
        exact ⟨p, ho, rfl, hp, hg, h0, hx⟩
      · rw [if_neg hl] at h; cases h
    · rw [if_neg hij] at h ⊢
      exact k.ow j u h
  ap := fun j l u u' a hjl h1 h2 h3 => by
    rw [getElem_set_eq] at h1 h2 h3 ⊢
    by_cases hij : i = j
    · have hil : ¬ i = l := fun z => hjl (hij.symm.trans z)
      rw [if_neg hil] at h2 ⊢
      rw [if_pos hij] at h1 h3
      by_cases hl : i < σ.length
      · rw [if_pos hl] at h3
        cases h3
        exact un l u' hil h2
      · rw [if_neg hl] at h3; cases h3
    · rw [if_neg hij] at h1 h3
      by_cases hil : i = l
      · rw [if_pos hil] at h2 ⊢
        by_cases hl : i < σ.length
        · rw [if_pos hl]
          intro z
          cases z
          exact un j u hij h1 h3
        · rw [if_neg hl]; intro z; cases z
      · rw [if_neg hil] at h2 ⊢
        exact k.ap j l u u' a hjl h1 h2 h3
/-- a new object of a name's own -/
theorem Ok.newOw (k : Ok K G0 H0 G H σ ρ) (hh : Same H H') (k' : Ok K G0 H0 G' H' σ ρ) {i : Nat} {p : Addr} {ho : HO} {o : OD} (hn : H p = none) (hp : H' p = some ho) (hg : G' p = none) (hx : HoOk K G' ho o) :
    Ok K G0 H0 G' H' (σ.set i (some (.ref p))) (ρ.set i (.ow o)) :=
  k'.setOw hp hg (k.h0.free hn) hx fun j u _ e z => by
    obtain ⟨a, ho', h1, h2, _⟩ := k.ow j u e
    rw [h1] at z
    cases z
    rw [hn] at h2
    cases h2
/-- a name's own object changes -/
theorem Ok.mutOw (k : Ok K G0 H0 G H σ ρ) {i : Nat} {p : Addr} {o o' : OD} {ho' : HO} (hi : ρ[i]? = some (Slot.ow o)) (hs : σ[i]? = some (some (V.ref p))) (hx : HoOk K G ho' o') : Ok K G0 H0 G (upd H p ho') σ (ρ.set i (.ow o')) := by
  obtain ⟨a, ho, h1, h2, h3, h4, h5⟩ := k.ow i o hi
  rw [hs] at h1
  cases h1
  refine ⟨same_mut k.gh h3, k.g0, same_mut k.h0 h4, k.nw, by rw [List.length_set]; exact k.len, fun j e h => ?_, fun j u h => ?_, fun j l u u' a hjl g1 g2 g3 => ?_⟩
  · rw [getElem_set_eq] at h
    by_cases hij : i = j
    · rw [if_pos hij] at h
      by_cases hl : i < ρ.length
      · rw [if_pos hl] at h; cases h
      · rw [if_neg hl] at h; cases h
    · rw [if_neg hij] at h
      exact k.sh j e h
  · rw [getElem_set_eq] at h
    by_cases hij : i = j
    · rw [if_pos hij] at h
      by_cases hl : i < ρ.length
      · rw [if_pos hl] at h
        cases h
        exact ⟨p, ho', by rw [← hij]; exact hs, upd_same, h3, h4, hx⟩
      · rw [if_neg hl] at h; cases h
    · rw [if_neg hij] at h
      obtain ⟨b, hb, g1, g2, g3, g4, g5⟩ := k.ow j u h
      have ne : b ≠ p := fun z => k.ap i j o u p hij hi h hs (by rw [← z]; exact g1)
      exact ⟨b, hb, g1, by rw [upd_ne ne]; exact g2, g3, g4, g5⟩
  · rw [getElem_set_eq] at g1 g2
    have some_of : ∀ {m : Nat} {w : OD}, (if i = m then (if i < ρ.length then some (Slot.ow o') else none) else ρ[m]?) = some (Slot.ow w) → ∃ w', ρ[m]? = some (Slot.ow w') := fun {m w} h => by
      by_cases him : i = m
      · subst him; exact ⟨o, hi⟩
      · rw [if_neg him] at h; exact ⟨w, h⟩
    obtain ⟨w1, e1⟩ := some_of g1
    obtain ⟨w2, e2⟩ := some_of g2
    exact k.ap j l w1 w2 a hjl e1 e2 g3
/-- a name's own list is shared from now on -/
theorem Ok.freezeSlot (k : Ok K G0 H0 G H σ ρ) {i : Nat} {ds : List PyData} (hi : ρ[i]? = some (Slot.ow (.lst ds))) : ∃ G', Same G G' ∧ Ok K G0 H0 G' H σ (ρ.set i (.sh (.list ds))) := by
  obtain ⟨a, ho, h1, h2, h3, h4, h5⟩ := k.ow i _ hi
  cases ho with
  | lst xs =>
    have k1 : Ok K G0 H0 G H (σ.set i (some (.ref a))) (ρ.set i .no) := k.setNo
    have es : σ.set i (some (.ref a)) = σ := by
      apply List.ext_getElem?
      intro j
      rw [getElem_set_eq]
      by_cases hij : i = j
      · subst hij
        rw [if_pos rfl, h1]
        by_cases hl : i < σ.length
        · rw [if_pos hl]
        · rw [List.getElem?_eq_none (Nat.le_of_not_lt hl)] at h1; cases h1
      · rw [if_neg hij]
    rw [es] at k1
    have k2 : Ok K G0 H0 (upd G a (.lst xs)) H σ (ρ.set i .no) := k1.freeze h2 h3 h4 fun j u e => by
      rw [getElem_set_eq] at e
      by_cases hij : i = j
      · rw [if_pos hij] at e
        by_cases hl : i < ρ.length
        · rw [if_pos hl] at e; cases e
        · rw [if_neg hl] at e; cases e
      · rw [if_neg hij] at e
        exact k.ap i j _ u a hij hi e h1
    have hd : Rp K (upd G a (.lst xs)) (.ref a) (.list ds) := .lst upd_same (rpa_mono (same_upd h3) h5)
    have k3 := k2.setSh (i := i) hd
    rw [es, List.set_set] at k3
    exact ⟨_, same_upd h3, k3⟩
  | _ => exact h5.elim
end

/-- the shared part and the heap grow; what is new of the shared part is new in the heap -/
structure Gr (G H G' H' : Hp) : Prop where
  gg : Same G G'
  hh : Same H H'
  nw : ∀ a o, G' a = some o → G a = some o ∨ H a = none
theorem Gr.refl {G H : Hp} : Gr G H G H := ⟨Same.refl _, Same.refl _, fun _ _ e => .inl e⟩
theorem Gr.trans {G H G1 H1 G2 H2 : Hp} (a : Gr G H G1 H1) (b : Gr G1 H1 G2 H2) : Gr G H G2 H2 := ⟨a.gg.trans b.gg, a.hh.trans b.hh, fun x o e => by
  rcases b.nw x o e with z | z
  · exact a.nw x o z
  · exact .inr (a.hh.free z)⟩
theorem Gr.share {G H : Hp} {p : Addr} {o : HO} (gh : Same G H) (hp : H p = none) : Gr G H (upd G p o) (upd H p o) := ⟨same_upd (gh.free hp), same_upd hp, fun a u e => by
  by_cases ha : a = p
  · subst ha; exact .inr hp
  · rw [upd_ne ha] at e; exact .inl e⟩
theorem Gr.fresh {G H : Hp} {p : Addr} {o : HO} (hp : H p = none) : Gr G H G (upd H p o) := ⟨Same.refl _, same_upd hp, fun a u e => .inl e⟩
/-- what is not shared and there stays not shared -/
theorem Gr.out {G H G' H' : Hp} (g : Gr G H G' H') {a : Addr} {o : HO} (hg : G a = none) (hh : H a = some o) : G' a = none := by
  cases z : G' a with
  | none => rfl
  | some u =>
    rcases g.nw _ _ z with z | z
    · rw [hg] at z; cases z
    · rw [hh] at z; cases z
/-! ### exceptions, as data: the class and the fields -/
/-- the class's name and the fields -/
abbrev Exn := Str × List (Str × PyData)
/-- what the module's names hold, and what is wished of exceptions -/
abbrev XW := (Str → Option Value) × WX
inductive DpF (K : PySem.W.Frag) (G : Hp) : List (Str × V) → List (Str × PyData) → Prop
  | nil : DpF K G [] []
  | cons {k : Str} {v : V} {d : PyData} {vs : List (Str × V)} {ds : List (Str × PyData)} : Rp K G v d → DpF K G vs ds → DpF K G ((k, v) :: vs) ((k, d) :: ds)
theorem dpF_mono {K : PySem.W.Frag} {H H' : Hp} (e : Same H H') : ∀ {vs : List (Str × V)} {ds : List (Str × PyData)}, DpF K H vs ds → DpF K H' vs ds
  | _, _, .nil => .nil
  | _, _, .cons a t => .cons (rp_mono e a) (dpF_mono e t)
def ExcOk (K : PySem.W.Frag) (mg : Str → Option Value) (G H : Hp) (x : Exn) (cls : Value) (d : Option Addr) : Prop :=
  mg x.1 = some cls ∧ ∃ dd vs, d = some dd ∧ G dd = some (.xd vs) ∧ DpF K G vs x.2
theorem excOk_mono {K : PySem.W.Frag} {mg : Str → Option Value} {G H G' H' : Hp} {x : Exn} {cls : Value} {d : Option Addr} (e : Same G G') (h : ExcOk K mg G H x cls d) : ExcOk K mg G' H' x cls d := by
  obtain ⟨h1, dd, vs, h2, h3, h4⟩ := h
  exact ⟨h1, dd, vs, h2, e _ _ h3, dpF_mono e h4⟩

/-! ### readings by data -/
abbrev XD := Exn → Prop
abbrev DE := Sto → (PyData → Prop) → XD → Prop
abbrev DT := Sto → (Bool → Prop) → XD → Prop
abbrev DA := Sto → (List PyData → Prop) → XD → Prop
/-- a container: a tuple (true) or a list, and its things -/
abbrev DC := Sto → (Bool → List PyData → Prop) → XD → Prop
abbrev DO := Sto → (OD → Prop) → XD → Prop
structure DEnds where
  nx : Sto → Prop
  rt : Slot → Prop
  ex : Exn → Sto → Prop
  bk : Sto → Prop := fun _ => False
  ct : Sto → Prop := fun _ => False
abbrev DEnds.xd (D : DEnds) (ρ : Sto) : XD := fun x => D.ex x ρ
abbrev DS := DEnds → Sto → Prop
/-- a container's items: a shared tuple's, a list's -/
def Sq (K : PySem.W.Frag) : Bool → Hp → Hp → Addr → List V → Prop
  | true => fun G _ a xs => SqT K G a xs
  | false => fun _ H a xs => H a = some (.lst xs)
def dat : Bool → List PyData → PyData
  | true => .tuple
  | false => .list
theorem sq_mono {K : PySem.W.Frag} {b : Bool} {G G' H H' : Hp} {a : Addr} {xs : List V} (g : Same G G') (e : Same H H') (h : Sq K b G H a xs) : Sq K b G' H' a xs := by
  cases b
  · exact e _ _ h
  · exact sqT_mono g h
theorem rp_sq {K : PySem.W.Frag} {G H : Hp} {v : V} {b : Bool} {ds : List PyData} (gh : Same G H) (h : Rp K G v (dat b ds)) : ∃ a xs, v = .ref a ∧ Sq K b G H a xs ∧ RpAll K G xs ds := by
  cases b
  · cases h with
    | lst h1 h2 => exact ⟨_, _, rfl, gh _ _ h1, h2⟩
  · cases h with
    | tup h1 h2 => exact ⟨_, _, rfl, h1, h2⟩
theorem Sq.any {K : PySem.W.Frag} {b : Bool} {G H : Hp} {a : Addr} {xs : List V} (gh : Same G H) (h : Sq K b G H a xs) : SqL K H a xs ∨ SqT K H a xs := by
  cases b
  · exact .inl (SqL.of h)
  · exact .inr (sqT_mono gh h)
section
variable (K : PySem.W.Frag) (W : XW)
def XOk (G0 H0 G : Hp) (σ : L2.St) (ρ : Sto) (Xd : XD) : Prop := ∀ G' H' x cls d, Ok K G0 H0 G' H' σ ρ → Same G G' → ExcOk K W.1 G' H' x cls d → Xd x → W.2 cls d σ H'
def upE (de : DE) : TE := fun σ H Q => ∃ G0 H0 G ρ Qd Xd, Ok K G0 H0 G H σ ρ ∧ de ρ Qd Xd ∧ (∀ G' H' v d, Ok K G0 H0 G' H' σ ρ → Gr G H G' H' → Rp K G' v d → Qd d → Q v H') ∧ XOk K W G0 H0 G σ ρ Xd
def upT (de : DT) : TT := fun σ H Q => ∃ G0 H0 G ρ Qd Xd, Ok K G0 H0 G H σ ρ ∧ de ρ Qd Xd ∧ (∀ G' H' b, Ok K G0 H0 G' H' σ ρ → Gr G H G' H' → Qd b → Q b H') ∧ XOk K W G0 H0 G σ ρ Xd
def upA (de : DA) : TA := fun σ H Q => ∃ G0 H0 G ρ Qd Xd, Ok K G0 H0 G H σ ρ ∧ de ρ Qd Xd ∧ (∀ G' H' vs ds, Ok K G0 H0 G' H' σ ρ → Gr G H G' H' → RpAll K G' vs ds → Qd ds → Q vs H') ∧ XOk K W G0 H0 G σ ρ Xd
def upC (de : DC) : TE := fun σ H Q => ∃ G0 H0 G ρ Qd Xd, Ok K G0 H0 G H σ ρ ∧ de ρ Qd Xd ∧ (∀ G' H' a xs b ds, Ok K G0 H0 G' H' σ ρ → Gr G H G' H' → Sq K b G' H' a xs → RpAll K G' xs ds → Qd b ds → Q (.ref a) H') ∧ XOk K W G0 H0 G σ ρ Xd
def upO (de : DO) : TE := fun σ H Q => ∃ G0 H0 G ρ Qd Xd, Ok K G0 H0 G H σ ρ ∧ de ρ Qd Xd ∧ (∀ G' H' p ho o, Ok K G0 H0 G' H' σ ρ → Gr G H G' H' → H p = none → G' p = none → H' p = some ho → HoOk K G' ho o → Qd o → Q (.ref p) H') ∧ XOk K W G0 H0 G σ ρ Xd
/-- what a def hands back -/
def RetOk (G0 H0 : Hp) (s : Slot) (v : V) (H' : Hp) : Prop := ∃ G', Same G0 G' ∧ Same H0 H' ∧ Same G' H' ∧ (∀ a o, G' a = some o → G0 a = some o ∨ H0 a = none) ∧
  match s with
  | .sh d => Rp K G' v d
  | .ow o => ∃ p ho, v = .ref p ∧ H0 p = none ∧ G' p = none ∧ H' p = some ho ∧ HoOk K G' ho o
  | .no => False
def upS (ds : DS) : TS := fun D σ H => ∃ G0 H0 G ρ Dd, Ok K G0 H0 G H σ ρ ∧ ds Dd ρ ∧ (∀ G' H' σ' ρ', Ok K G0 H0 G' H' σ' ρ' → Dd.nx ρ' → D.nx σ' H') ∧ (∀ s v H', RetOk K G0 H0 s v H' → Dd.rt s → D.rt v H') ∧
  (∀ G' H' σ' ρ', Ok K G0 H0 G' H' σ' ρ' → Dd.bk ρ' → D.bk σ' H') ∧ (∀ G' H' σ' ρ', Ok K G0 H0 G' H' σ' ρ' → Dd.ct ρ' → D.ct σ' H') ∧
  (∀ G' H' σ' ρ' x cls d, Ok K G0 H0 G' H' σ' ρ' → ExcOk K W.1 G' H' x cls d → Dd.ex x ρ' → W.2 cls d σ' H')
end
def QE (X : Cx) (W : XW) (e : Expr) (de : DE) : Prop := PE X e (upE X.K W de)
def QT (X : Cx) (W : XW) (e : Expr) (dt : DT) : Prop := PT X e (upT X.K W dt)
def QA (X : Cx) (W : XW) (es : List Expr) (da : DA) : Prop := PA X es (upA X.K W da)
def QC (X : Cx) (W : XW) (e : Expr) (dc : DC) : Prop := PE X e (upC X.K W dc)
def QO (X : Cx) (W : XW) (e : Expr) (dd : DO) : Prop := PE X e (upO X.K W dd)
def QS (X : Cx) (W : XW) (st : Stmt) (ds : DS) : Prop := PS X st (upS X.K W ds)
def QSs (X : Cx) (W : XW) (st : List Stmt) (ds : DS) : Prop := PSs X st (upS X.K W ds)
theorem PE.sub {X : Cx} {e : Expr} {t t' : TE} (h : PE X e t) (s : ∀ σ H Q, t' σ H Q → t σ H Q) : PE X e t' := ⟨fun pins st σ H Q I hw => h.run pins st σ H Q I (s σ H Q hw)⟩
theorem PT.sub {X : Cx} {e : Expr} {t t' : TT} (h : PT X e t) (s : ∀ σ H Q, t' σ H Q → t σ H Q) : PT X e t' := ⟨fun pins st σ H Q I hw => h.run pins st σ H Q I (s σ H Q hw)⟩
theorem PA.sub {X : Cx} {e : List Expr} {t t' : TA} (h : PA X e t) (s : ∀ σ H Q, t' σ H Q → t σ H Q) : PA X e t' := ⟨fun pos pins st σ H Q I hw => h.run pos pins st σ H Q I (s σ H Q hw)⟩
theorem PS.sub {X : Cx} {e : Stmt} {t t' : TS} (h : PS X e t) (s : ∀ D σ H, t' D σ H → t D σ H) : PS X e t' := ⟨fun pins st σ H D I hw => h.run pins st σ H D I (s D σ H hw)⟩
theorem PSs.sub {X : Cx} {e : List Stmt} {t t' : TS} (h : PSs X e t) (s : ∀ D σ H, t' D σ H → t D σ H) : PSs X e t' := ⟨fun pins st σ H D I hw => h.run pins st σ H D I (s D σ H hw)⟩
end WH

namespace WH
open PySem PySem.Spec L2

theorem XOk.mono {K : PySem.W.Frag} {W : XW} {G0 H0 G G1 : Hp} {σ : L2.St} {ρ : Sto} {Xd : XD} (h : XOk K W G0 H0 G σ ρ Xd) (e : Same G G1) : XOk K W G0 H0 G1 σ ρ Xd := fun G' H' x cls d k s q z => h G' H' x cls d k (e.trans s) q z

/-! ### what an operation on values does, by data -/
/-- what is wanted behind -/
abbrev Fin1 (K : PySem.W.Frag) (G0 H0 G H : Hp) (σ : L2.St) (ρ : Sto) (Qd : PyData → Prop) (Q : VK) : Prop := ∀ G' H' v d, Ok K G0 H0 G' H' σ ρ → Gr G H G' H' → Rp K G' v d → Qd d → Q v H'
abbrev FinO (K : PySem.W.Frag) (G0 H0 G H : Hp) (σ : L2.St) (ρ : Sto) (Qd : OD → Prop) (Q : VK) : Prop := ∀ G' H' p ho o, Ok K G0 H0 G' H' σ ρ → Gr G H G' H' → H p = none → G' p = none → H' p = some ho → HoOk K G' ho o → Qd o → Q (.ref p) H'
def R2E (K : PySem.W.Frag) (r : R2) (f : PyData → PyData → (PyData → Prop) → Prop) : Prop := ∀ G0 H0 G H σ ρ x y d e Qd Q, Ok K G0 H0 G H σ ρ → Rp K G x d → Rp K G y e → f d e Qd → Fin1 K G0 H0 G H σ ρ Qd Q → r x y H Q
def R1E (K : PySem.W.Frag) (r : V → Hp → VK → Prop) (f : PyData → (PyData → Prop) → Prop) : Prop := ∀ G0 H0 G H σ ρ x d Qd Q, Ok K G0 H0 G H σ ρ → Rp K G x d → f d Qd → Fin1 K G0 H0 G H σ ρ Qd Q → r x H Q
def RAE (K : PySem.W.Frag) (r : List V → Hp → VK → Prop) (f : List PyData → (PyData → Prop) → Prop) : Prop := ∀ G0 H0 G H σ ρ xs ds Qd Q, Ok K G0 H0 G H σ ρ → RpAll K G xs ds → f ds Qd → Fin1 K G0 H0 G H σ ρ Qd Q → r xs H Q
/-- the argument is a container -/
def RCE (K : PySem.W.Frag) (r : List V → Hp → VK → Prop) (f : Bool → List PyData → (PyData → Prop) → Prop) : Prop := ∀ G0 H0 G H σ ρ a xs b ds Qd Q, Ok K G0 H0 G H σ ρ → Sq K b G H a xs → RpAll K G xs ds → f b ds Qd → Fin1 K G0 H0 G H σ ρ Qd Q → r [.ref a] H Q
def RCO (K : PySem.W.Frag) (r : List V → Hp → VK → Prop) (f : Bool → List PyData → (OD → Prop) → Prop) : Prop := ∀ G0 H0 G H σ ρ a xs b ds Qd Q, Ok K G0 H0 G H σ ρ → Sq K b G H a xs → RpAll K G xs ds → f b ds Qd → FinO K G0 H0 G H σ ρ Qd Q → r [.ref a] H Q

section
variable {X : Cx} {W : XW}

/-! ### names and constants -/
def dVar (i : Nat) : DE := fun ρ Q _ => ∃ d, ρ[i]? = some (Slot.sh d) ∧ Q d
def dC (d : PyData) : DE := fun _ Q _ => Q d
def dVarC (i : Nat) : DC := fun ρ Q _ => (∃ b ds, ρ[i]? = some (Slot.sh (dat b ds)) ∧ Q b ds) ∨ ∃ ds, ρ[i]? = some (Slot.ow (.lst ds)) ∧ Q false ds
theorem up_var {K : PySem.W.Frag} {i : Nat} (σ : L2.St) (H : Hp) (Q : VK) (h : upE K W (dVar i) σ H Q) : tVar i σ H Q := by
  obtain ⟨G0, H0, G, ρ, Qd, Xd, k, ⟨d, hd, q⟩, f, _⟩ := h
  obtain ⟨v, h1, h2⟩ := k.sh i d hd
  exact ⟨v, h1, f G H v d k Gr.refl h2 q⟩
theorem qe_var (i : Nat) {x : Str} {pos : Pos} (hN : X.N[i]? = some x := by rfl) (hv : Vis X.env.scope x := by first | exact Or.inl rfl | exact Or.inr (Or.inl rfl) | exact Or.inr (Or.inr rfl)) (hd : (x == ("__debug__" : Str)) = false := by decide)
    (hcd : (x == ("__classdict__" : Str)) = false := by decide) : QE X W (.Name x pos) (dVar i) := PE.sub (pe_var hN hv hd hcd) up_var
theorem qc_var (i : Nat) {x : Str} {pos : Pos} (hN : X.N[i]? = some x := by rfl) (hv : Vis X.env.scope x := by first | exact Or.inl rfl | exact Or.inr (Or.inl rfl) | exact Or.inr (Or.inr rfl)) (hd : (x == ("__debug__" : Str)) = false := by decide)
    (hcd : (x == ("__classdict__" : Str)) = false := by decide) : QC X W (.Name x pos) (dVarC i) := PE.sub (pe_var hN hv hd hcd) fun σ H Q h => by
  obtain ⟨G0, H0, G, ρ, Qd, Xd, k, h, f, _⟩ := h
  rcases h with ⟨b, ds, hd, q⟩ | ⟨ds, hd, q⟩
  · obtain ⟨v, h1, h2⟩ := k.sh i _ hd
    obtain ⟨a, xs, rfl, h3, h4⟩ := rp_sq k.gh h2
    exact ⟨_, h1, f G H a xs b ds k Gr.refl h3 h4 q⟩
  · obtain ⟨a, ho, h1, h2, _, _, h5⟩ := k.ow i _ hd
    cases ho with
    | lst xs => exact ⟨_, h1, f G H a xs false ds k Gr.refl h2 h5 q⟩
    | _ => exact h5.elim
theorem up_c {K : PySem.W.Frag} {v : V} {d : PyData} (r : ∀ G, Rp K G v d) (σ : L2.St) (H : Hp) (Q : VK) (h : upE K W (dC d) σ H Q) : tC v σ H Q := by
  obtain ⟨G0, H0, G, ρ, Qd, Xd, k, q, f, _⟩ := h
  exact f G H v d k Gr.refl (r G) q
theorem qe_int {i : Int} {j : Nat} {pos : Pos} : QE X W (.Constant (.int i) j pos) (dC (.int i)) := PE.sub pe_int (up_c fun _ => .int i)
theorem qe_str {x : Str} {j : Nat} {pos : Pos} : QE X W (.Constant (.str x) j pos) (dC (.str x)) := PE.sub pe_str (up_c fun _ => .str x)
theorem qe_bl {b : Bool} {j : Nat} {pos : Pos} : QE X W (.Constant (.bool b) j pos) (dC (.bool b)) := PE.sub pe_bl (up_c fun _ => .bl b)
theorem qe_non {j : Nat} {pos : Pos} : QE X W (.Constant .none j pos) (dC .none) := PE.sub pe_non (up_c fun _ => .non)
/-- a module's constant -/
theorem qe_globI {x : Str} {i : Int} {t : Tok} {pos : Pos} (hg : Gl X x) (hm : X.mg x = some (.int i t)) (hd : (x == ("__debug__" : Str)) = false := by decide) : QE X W (.Name x pos) (dC (.int i)) := PE.sub (pe_glob (v := .int i) hg hm ⟨_, rfl⟩ hd) (up_c fun _ => .int i)
theorem qe_globS {x : Str} {i : Str} {t : Tok} {pos : Pos} (hg : Gl X x) (hm : X.mg x = some (.str i t)) (hd : (x == ("__debug__" : Str)) = false := by decide) : QE X W (.Name x pos) (dC (.str i)) := PE.sub (pe_glob (v := .str i) hg hm ⟨_, rfl⟩ hd) (up_c fun _ => .str i)

/-! ### two operands -/
def d2 (f : PyData → PyData → (PyData → Prop) → Prop) (da db : DE) : DE := fun ρ Q X => da ρ (fun x => db ρ (fun y => f x y Q) X) X
theorem up_2 {K : PySem.W.Frag} {r : R2} {f : PyData → PyData → (PyData → Prop) → Prop} {da db : DE} (hr : R2E K r f) (σ : L2.St) (H : Hp) (Q : VK) (h : upE K W (d2 f da db) σ H Q) : tOp r (upE K W da) (upE K W db) σ H Q := by
  obtain ⟨G0, H0, G, ρ, Qd, Xd, k, h, fn, xo⟩ := h
  refine ⟨G0, H0, G, ρ, _, Xd, k, h, fun G1 H1 x d k1 g1 rx hb => ?_, xo⟩
  refine ⟨G0, H0, G1, ρ, _, Xd, k1, hb, fun G2 H2 y e k2 g2 ry hf => ?_, xo.mono g1.gg⟩
  exact hr G0 H0 G2 H2 σ ρ x y d e Qd Q k2 (rp_mono g2.gg rx) ry hf fun G3 H3 v d' k3 g3 rv q => fn G3 H3 v d' k3 ((g1.trans g2).trans g3) rv q
theorem qe_op {a b : Expr} {op : Operator} {pos : Pos} {r : R2} {f : PyData → PyData → (PyData → Prop) → Prop} {da db : DE} (hr : R2E X.K r f) (ho : OpR X (binaryOp op) r) (ha : QE X W a da) (hb : QE X W b db) : QE X W (.BinOp a op b pos) (d2 f da db) := PE.sub (pe_op ho ha hb) (up_2 hr)
theorem qe_cmp {a b : Expr} {op : CmpOp} {pos : Pos} {r : R2} {f : PyData → PyData → (PyData → Prop) → Prop} {da db : DE} (hr : R2E X.K r f) (ho : OpR X (compareOp op) r) (ha : QE X W a da) (hb : QE X W b db) (hm : behindInMarks op b = false) : QE X W (.Compare a [op] [b] pos) (d2 f da db) := PE.sub (pe_cmpR ho ha hb hm) (up_2 hr)
/-! ### tests -/
/-- a truth -/
def asB (d : PyData) (Q : Bool → Prop) : Prop := ∃ b, d = .bool b ∧ Q b
def dTst (de : DE) : DT := fun ρ Q X => de ρ (fun d => asB d Q) X
theorem up_tst {K : PySem.W.Frag} {t : TE} {de : DE} (ht : ∀ σ H Q, upE K W de σ H Q → t σ H Q) (σ : L2.St) (H : Hp) (Q : Bool → Hp → Prop) (h : upT K W (dTst de) σ H Q) : tTest t σ H Q := by
  obtain ⟨G0, H0, G, ρ, Qd, Xd, k, h, fn, xo⟩ := h
  refine ht σ H _ ⟨G0, H0, G, ρ, _, Xd, k, h, fun G1 H1 x d k1 g1 rx hb => ?_, xo⟩
  obtain ⟨b, rfl, q⟩ := hb
  cases rx
  exact ⟨b, rfl, fn G1 H1 b k1 g1 q⟩
theorem qt_cmp {a b : Expr} {op : CmpOp} {pos : Pos} {r : R2} {f : PyData → PyData → (PyData → Prop) → Prop} {da db : DE} (hr : R2E X.K r f) (ho : OpR X (compareOp op) r) (ha : QE X W a da) (hb : QE X W b db) (hm : behindInMarks op b = false) : QT X W (.Compare a [op] [b] pos) (dTst (d2 f da db)) := PT.sub (pt_cmpR ho ha hb hm) (up_tst (up_2 hr))
theorem qt_val {e : Expr} {de : DE} (h : QE X W e de) (he : ∀ whole, isTrue e X.env whole = (do let v ← whole; standAt e.pos; holding [v] (truthy v)) := by intro _; rfl) : QT X W e (dTst de) := PT.sub (pt_val h he) (up_tst fun _ _ _ h => h)
/-- a chain of two comparisons -/
def dChain (f f' : PyData → PyData → (PyData → Prop) → Prop) (da db dc : DE) : DE := fun ρ Q X => da ρ (fun x => db ρ (fun y => f x y fun z => asB z fun k => if k = true then dc ρ (fun u => f' y u Q) X else Q (.bool false)) X) X
theorem up_chain {K : PySem.W.Frag} {r r' : R2} {f f' : PyData → PyData → (PyData → Prop) → Prop} {da db dc : DE} (hr : R2E K r f) (hr' : R2E K r' f') (σ : L2.St) (H : Hp) (Q : VK) (h : upE K W (dChain f f' da db dc) σ H Q) : tChain r r' (upE K W da) (upE K W db) (upE K W dc) σ H Q := by
  obtain ⟨G0, H0, G, ρ, Qd, Xd, k, h, fn, xo⟩ := h
  refine ⟨G0, H0, G, ρ, _, Xd, k, h, fun G1 H1 x d k1 g1 rx hb => ?_, xo⟩
  refine ⟨G0, H0, G1, ρ, _, Xd, k1, hb, fun G2 H2 y e k2 g2 ry hf => ?_, xo.mono g1.gg⟩
  refine hr G0 H0 G2 H2 σ ρ x y d e _ _ k2 (rp_mono g2.gg rx) ry hf fun G3 H3 v d' k3 g3 rv q => ?_
  obtain ⟨c, rfl, q⟩ := q
  cases rv
  refine ⟨c, rfl, ?_⟩
  cases c with
  | true =>
    rw [if_pos rfl] at q ⊢
    refine ⟨G0, H0, G3, ρ, _, Xd, k3, q, fun G4 H4 u e' k4 g4 ru hf' => ?_, (xo.mono g1.gg).mono (g2.trans g3).gg⟩
    exact hr' G0 H0 G4 H4 σ ρ y u e e' Qd Q k4 (rp_mono (g3.trans g4).gg ry) ru hf' fun G5 H5 v d' k5 g5 rv q => fn G5 H5 v d' k5 ((((g1.trans g2).trans g3).trans g4).trans g5) rv q
  | false =>
    rw [if_neg Bool.false_ne_true] at q ⊢
    exact fn G3 H3 _ _ k3 ((g1.trans g2).trans g3) (.bl false) q
theorem qe_chain {a b c : Expr} {op op' : CmpOp} {pos : Pos} {r r' : R2} {f f' : PyData → PyData → (PyData → Prop) → Prop} {da db dc : DE} (hr : R2E X.K r f) (hr' : R2E X.K r' f') (ho : OpR X (compareOp op) r) (ho' : OpR X (compareOp op') r') (ha : QE X W a da) (hb : QE X W b db) (hc : QE X W c dc)
    (hm : lastMarks [op, op'] [b, c] = false := by with_unfolding_all rfl) : QE X W (.Compare a [op, op'] [b, c] pos) (dChain f f' da db dc) := PE.sub (pe_chain ho ho' ha hb hc hm) (up_chain hr hr')
theorem qt_chain {a b c : Expr} {op op' : CmpOp} {pos : Pos} {r r' : R2} {f f' : PyData → PyData → (PyData → Prop) → Prop} {da db dc : DE} (hr : R2E X.K r f) (hr' : R2E X.K r' f') (ho : OpR X (compareOp op) r) (ho' : OpR X (compareOp op') r') (ha : QE X W a da) (hb : QE X W b db) (hc : QE X W c dc)
    (hm : lastMarks [op, op'] [b, c] = false := by with_unfolding_all rfl) : QT X W (.Compare a [op, op'] [b, c] pos) (dTst (dChain f f' da db dc)) := PT.sub (pt_chain ho ho' ha hb hc hm) (up_tst (up_chain hr hr'))
/-! ### and, or, not -/
def QW (X : Cx) (W : XW) (e : Expr) (dt : DT) : Prop := PW X e (upT X.K W dt)
theorem PW.sub {X : Cx} {e : Expr} {t t' : TT} (h : PW X e t) (s : ∀ σ H Q, t' σ H Q → t σ H Q) : PW X e t' := ⟨fun wh pins st σ H Q I hw => h.run wh pins st σ H Q I (s σ H Q hw)⟩
def dAnd (d e : DT) : DT := fun ρ Q X => d ρ (fun b => if b = true then e ρ Q X else Q false) X
def dOr (d e : DT) : DT := fun ρ Q X => d ρ (fun b => if b = true then Q true else e ρ Q X) X
def dNot (d : DT) : DT := fun ρ Q X => d ρ (fun b => Q (!b)) X
theorem up_and {K : PySem.W.Frag} {d e : DT} (σ : L2.St) (H : Hp) (Q : Bool → Hp → Prop) (h : upT K W (dAnd d e) σ H Q) : tAnd (upT K W d) (upT K W e) σ H Q := by
  obtain ⟨G0, H0, G, ρ, Qd, Xd, k, h, fn, xo⟩ := h
  refine ⟨G0, H0, G, ρ, _, Xd, k, h, fun G1 H1 b k1 g1 hb => ?_, xo⟩
  cases b with
  | true =>
    rw [if_pos rfl] at hb ⊢
    exact ⟨G0, H0, G1, ρ, Qd, Xd, k1, hb, fun G2 H2 b k2 g2 q => fn G2 H2 b k2 (g1.trans g2) q, xo.mono g1.gg⟩
  | false =>
    rw [if_neg Bool.false_ne_true] at hb ⊢
    exact fn G1 H1 _ k1 g1 hb
theorem up_or {K : PySem.W.Frag} {d e : DT} (σ : L2.St) (H : Hp) (Q : Bool → Hp → Prop) (h : upT K W (dOr d e) σ H Q) : tOr (upT K W d) (upT K W e) σ H Q := by
  obtain ⟨G0, H0, G, ρ, Qd, Xd, k, h, fn, xo⟩ := h
  refine ⟨G0, H0, G, ρ, _, Xd, k, h, fun G1 H1 b k1 g1 hb => ?_, xo⟩
  cases b with
  | true =>
    rw [if_pos rfl] at hb ⊢
    exact fn G1 H1 _ k1 g1 hb
  | false =>
    rw [if_neg Bool.false_ne_true] at hb ⊢
    exact ⟨G0, H0, G1, ρ, Qd, Xd, k1, hb, fun G2 H2 b k2 g2 q => fn G2 H2 b k2 (g1.trans g2) q, xo.mono g1.gg⟩
theorem up_not {K : PySem.W.Frag} {d : DT} (σ : L2.St) (H : Hp) (Q : Bool → Hp → Prop) (h : upT K W (dNot d) σ H Q) : tNot (upT K W d) σ H Q := by
  obtain ⟨G0, H0, G, ρ, Qd, Xd, k, h, fn, xo⟩ := h
  exact ⟨G0, H0, G, ρ, _, Xd, k, h, fun G1 H1 b k1 g1 hb => fn G1 H1 _ k1 g1 hb, xo⟩
theorem qw_and1 {a : Expr} {pos : Pos} {d : DT} (ha : QT X W a d) : QW X W (.BoolOp .And [a] pos) d := pw_and1 ha
theorem qw_or1 {a : Expr} {pos : Pos} {d : DT} (ha : QT X W a d) : QW X W (.BoolOp .Or [a] pos) d := pw_or1 ha
theorem qw_and {a b : Expr} {rest : List Expr} {pos : Pos} {d e : DT} (ha : QT X W a d) (hb : QW X W (.BoolOp .And (b :: rest) pos) e) : QW X W (.BoolOp .And (a :: b :: rest) pos) (dAnd d e) := PW.sub (pw_and ha hb) up_and
theorem qw_or {a b : Expr} {rest : List Expr} {pos : Pos} {d e : DT} (ha : QT X W a d) (hb : QW X W (.BoolOp .Or (b :: rest) pos) e) : QW X W (.BoolOp .Or (a :: b :: rest) pos) (dOr d e) := PW.sub (pw_or ha hb) up_or
theorem QW.qt {e : Expr} {d : DT} (h : QW X W e d) : QT X W e d := h.pt
theorem qt_not {a : Expr} {pos : Pos} {d : DT} (ha : QT X W a d) : QT X W (.UnaryOp .Not a pos) (dNot d) := PT.sub (pt_not ha) up_not
/-! as values -/
def dAndV (d e : DE) : DE := fun ρ Q X => d ρ (fun x => asB x fun b => if b = true then e ρ Q X else Q (.bool false)) X
def dOrV (d e : DE) : DE := fun ρ Q X => d ρ (fun x => asB x fun b => if b = true then Q (.bool true) else e ρ Q X) X
def dNotV (d : DE) : DE := fun ρ Q X => d ρ (fun x => asB x fun b => Q (.bool (!b))) X
theorem up_andV {K : PySem.W.Frag} {d e : DE} (σ : L2.St) (H : Hp) (Q : VK) (h : upE K W (dAndV d e) σ H Q) : tAndV (upE K W d) (upE K W e) σ H Q := by
  obtain ⟨G0, H0, G, ρ, Qd, Xd, k, h, fn, xo⟩ := h
  refine ⟨G0, H0, G, ρ, _, Xd, k, h, fun G1 H1 x d k1 g1 rx hb => ?_, xo⟩
  obtain ⟨b, rfl, hb⟩ := hb
  cases rx
  refine ⟨b, rfl, ?_⟩
  cases b with
  | true =>
    rw [if_pos rfl] at hb ⊢
    exact ⟨G0, H0, G1, ρ, Qd, Xd, k1, hb, fun G2 H2 v d k2 g2 rv q => fn G2 H2 v d k2 (g1.trans g2) rv q, xo.mono g1.gg⟩
  | false =>
    rw [if_neg Bool.false_ne_true] at hb ⊢
    exact fn G1 H1 _ _ k1 g1 (.bl false) hb
theorem up_orV {K : PySem.W.Frag} {d e : DE} (σ : L2.St) (H : Hp) (Q : VK) (h : upE K W (dOrV d e) σ H Q) : tOrV (upE K W d) (upE K W e) σ H Q := by
  obtain ⟨G0, H0, G, ρ, Qd, Xd, k, h, fn, xo⟩ := h
  refine ⟨G0, H0, G, ρ, _, Xd, k, h, fun G1 H1 x d k1 g1 rx hb => ?_, xo⟩
  obtain ⟨b, rfl, hb⟩ := hb
  cases rx
  refine ⟨b, rfl, ?_⟩
  cases b with
  | true =>
    rw [if_pos rfl] at hb ⊢
    exact fn G1 H1 _ _ k1 g1 (.bl true) hb
  | false =>
    rw [if_neg Bool.false_ne_true] at hb ⊢
    exact ⟨G0, H0, G1, ρ, Qd, Xd, k1, hb, fun G2 H2 v d k2 g2 rv q => fn G2 H2 v d k2 (g1.trans g2) rv q, xo.mono g1.gg⟩
theorem up_notV {K : PySem.W.Frag} {d : DE} (σ : L2.St) (H : Hp) (Q : VK) (h : upE K W (dNotV d) σ H Q) : tNotV (upE K W d) σ H Q := by
  obtain ⟨G0, H0, G, ρ, Qd, Xd, k, h, fn, xo⟩ := h
  refine ⟨G0, H0, G, ρ, _, Xd, k, h, fun G1 H1 x d k1 g1 rx hb => ?_, xo⟩
  obtain ⟨b, rfl, hb⟩ := hb
  cases rx
  exact ⟨b, rfl, fn G1 H1 _ _ k1 g1 (.bl _) hb⟩
/-! ### a if t else b -/
def dIf (t : DT) (a b : DE) : DE := fun ρ Q X => t ρ (fun c => if c = true then a ρ Q X else b ρ Q X) X
theorem up_if {K : PySem.W.Frag} {t : DT} {d e : DE} (σ : L2.St) (H : Hp) (Q : VK) (h : upE K W (dIf t d e) σ H Q) : tIf (upT K W t) (upE K W d) (upE K W e) σ H Q := by
  obtain ⟨G0, H0, G, ρ, Qd, Xd, k, h, fn, xo⟩ := h
  refine ⟨G0, H0, G, ρ, _, Xd, k, h, fun G1 H1 b k1 g1 hb => ?_, xo⟩
  cases b with
  | true =>
    rw [if_pos rfl] at hb ⊢
    exact ⟨G0, H0, G1, ρ, Qd, Xd, k1, hb, fun G2 H2 v d k2 g2 rv q => fn G2 H2 v d k2 (g1.trans g2) rv q, xo.mono g1.gg⟩
  | false =>
    rw [if_neg Bool.false_ne_true] at hb ⊢
    exact ⟨G0, H0, G1, ρ, Qd, Xd, k1, hb, fun G2 H2 v d k2 g2 rv q => fn G2 H2 v d k2 (g1.trans g2) rv q, xo.mono g1.gg⟩
theorem qe_if {t a b : Expr} {pos : Pos} {dt : DT} {da db : DE} (ht : QT X W t dt) (ha : QE X W a da) (hb : QE X W b db) : QE X W (.IfExp t a b pos) (dIf dt da db) := PE.sub (pe_ifExp ht ha hb) up_if
/-! ### arguments, displays -/
def dNil : DA := fun _ Q _ => Q []
def dCons (d : DE) (e : DA) : DA := fun ρ Q X => d ρ (fun x => e ρ (fun xs => Q (x :: xs)) X) X
theorem qa_nil : QA X W [] dNil := PA.sub pa_nil fun σ H Q h => by
  obtain ⟨G0, H0, G, ρ, Qd, Xd, k, h, fn, xo⟩ := h
  exact fn G H [] [] k Gr.refl .nil h
theorem qa_cons {e : Expr} {es : List Expr} {d : DE} {da : DA} (ha : QE X W e d) (hr : QA X W es da) (hs : starEach (e :: es) X.env = (false, eval e X.env) :: starEach es X.env := by rfl) : QA X W (e :: es) (dCons d da) := PA.sub (pa_cons ha hr hs) fun σ H Q h => by
  obtain ⟨G0, H0, G, ρ, Qd, Xd, k, h, fn, xo⟩ := h
  refine ⟨G0, H0, G, ρ, _, Xd, k, h, fun G1 H1 x d k1 g1 rx hb => ?_, xo⟩
  exact ⟨G0, H0, G1, ρ, _, Xd, k1, hb, fun G2 H2 vs ds k2 g2 rv q => fn G2 H2 _ _ k2 (g1.trans g2) (.cons (rp_mono g2.gg rx) rv) q, xo.mono g1.gg⟩
def dTup (da : DA) : DE := fun ρ Q X => da ρ (fun ds => ds.length ≤ 100000 ∧ Q (.tuple ds)) X
def dLst (da : DA) : DO := fun ρ Q X => da ρ (fun ds => ds.length ≤ 100000 ∧ Q (.lst ds)) X
theorem sz_of {n : Nat} (h : n ≤ 100000) : n ≤ sizeLine := Nat.le_trans h (by decide)
theorem sz_lt {n : Nat} (h : n < 100000) : n < sizeLine := Nat.lt_of_lt_of_le h (by decide)
theorem rp_tupNew {K : PySem.W.Frag} {G : Hp} {p : Addr} {xs : List V} {ds : List PyData} (hg : G p = none) (h : RpAll K G xs ds) : Rp K (upd G p (.tup xs)) (.ref p) (.tuple ds) := .tup (SqT.of upd_same) (rpa_mono (same_upd hg) h)
theorem rp_lstNew {K : PySem.W.Frag} {G : Hp} {p : Addr} {xs : List V} {ds : List PyData} (hg : G p = none) (h : RpAll K G xs ds) : Rp K (upd G p (.lst xs)) (.ref p) (.list ds) := .lst upd_same (rpa_mono (same_upd hg) h)
/-- a new tuple -/
theorem fin_tup {K : PySem.W.Frag} {G0 H0 G H : Hp} {σ : L2.St} {ρ : Sto} {Qd : PyData → Prop} {Q : VK} {xs : List V} {ds : List PyData} (k : Ok K G0 H0 G H σ ρ) (fn : Fin1 K G0 H0 G H σ ρ Qd Q) (r : RpAll K G xs ds) (q : Qd (.tuple ds)) : ∀ p, H p = none → Q (.ref p) (upd H p (.tup xs)) := fun p hp =>
  fn _ _ _ _ (k.share hp) (Gr.share k.gh hp) (rp_tupNew (k.gh.free hp) r) q
theorem fin_lst {K : PySem.W.Frag} {G0 H0 G H : Hp} {σ : L2.St} {ρ : Sto} {Qd : PyData → Prop} {Q : VK} {xs : List V} {ds : List PyData} (k : Ok K G0 H0 G H σ ρ) (fn : Fin1 K G0 H0 G H σ ρ Qd Q) (r : RpAll K G xs ds) (q : Qd (.list ds)) : ∀ p, H p = none → Q (.ref p) (upd H p (.lst xs)) := fun p hp =>
  fn _ _ _ _ (k.share hp) (Gr.share k.gh hp) (rp_lstNew (k.gh.free hp) r) q
theorem fin_own {K : PySem.W.Frag} {G0 H0 G H : Hp} {σ : L2.St} {ρ : Sto} {Qd : OD → Prop} {Q : VK} {ho : HO} {o : OD} (k : Ok K G0 H0 G H σ ρ) (fn : FinO K G0 H0 G H σ ρ Qd Q) (r : HoOk K G ho o) (q : Qd o) : ∀ p, H p = none → Q (.ref p) (upd H p ho) := fun p hp =>
  fn _ _ _ _ _ (k.fresh hp) (Gr.fresh hp) hp (k.gh.free hp) upd_same r q
theorem qe_tup {es : List Expr} {x1 : Nat} {pos : Pos} {da : DA} (h : QA X W es da) : QE X W (.Tuple es x1 pos) (dTup da) := PE.sub (pe_tup h) fun σ H Q h => by
  obtain ⟨G0, H0, G, ρ, Qd, Xd, k, h, fn, xo⟩ := h
  refine ⟨G0, H0, G, ρ, _, Xd, k, h, fun G1 H1 xs ds k1 g1 rx hb => ?_, xo⟩
  exact ⟨sz_of (by rw [rpa_length rx]; exact hb.1), fin_tup k1 (fun G2 H2 v d k2 g2 rv q => fn G2 H2 v d k2 (g1.trans g2) rv q) rx hb.2⟩
theorem qo_lst {es : List Expr} {pos : Pos} {da : DA} (h : QA X W es da) : QO X W (.List es pos) (dLst da) := PE.sub (pe_lst h) fun σ H Q h => by
  obtain ⟨G0, H0, G, ρ, Qd, Xd, k, h, fn, xo⟩ := h
  refine ⟨G0, H0, G, ρ, _, Xd, k, h, fun G1 H1 xs ds k1 g1 rx hb => ?_, xo⟩
  exact ⟨sz_of (by rw [rpa_length rx]; exact hb.1), fin_own (o := .lst ds) k1 (fun G2 H2 p ho o k2 g2 n1 n2 n3 n4 q => fn G2 H2 p ho o k2 (g1.trans g2) (g1.hh.free n1) n2 n3 n4 q) rx hb.2⟩
/-! ### a new list as data, as a container; data as a container -/
def dOfO (dd : DO) : DE := fun ρ Q X => dd ρ (fun o => ∃ ds, o = .lst ds ∧ Q (.list ds)) X
def dCofO (dd : DO) : DC := fun ρ Q X => dd ρ (fun o => ∃ ds, o = .lst ds ∧ Q false ds) X
def dCofE (de : DE) : DC := fun ρ Q X => de ρ (fun d => ∃ b ds, d = dat b ds ∧ Q b ds) X
theorem QO.qe {e : Expr} {dd : DO} (h : QO X W e dd) : QE X W e (dOfO dd) := PE.sub h fun σ H Q h => by
  obtain ⟨G0, H0, G, ρ, Qd, Xd, k, h, fn, xo⟩ := h
  refine ⟨G0, H0, G, ρ, _, Xd, k, h, fun G1 H1 p ho o k1 g1 n1 n2 n3 n4 hb => ?_, xo⟩
  obtain ⟨ds, rfl, q⟩ := hb
  cases ho with
  | lst xs =>
    refine fn (upd G1 p (.lst xs)) H1 (.ref p) (.list ds) (k1.freeze n3 n2 (k.h0.free n1) fun i u e z => ?_) ⟨g1.gg.trans (same_upd n2), g1.hh, fun a u e => by
      by_cases ha : a = p
      · subst ha; exact .inr n1
      · rw [upd_ne ha] at e; exact g1.nw a u e⟩ (rp_lstNew n2 n4) q
    obtain ⟨a, ho', z1, z2, _⟩ := k.ow i u e
    rw [z1] at z
    cases z
    rw [n1] at z2
    cases z2
  | _ => exact n4.elim
theorem QO.qc {e : Expr} {dd : DO} (h : QO X W e dd) : QC X W e (dCofO dd) := PE.sub h fun σ H Q h => by
  obtain ⟨G0, H0, G, ρ, Qd, Xd, k, h, fn, xo⟩ := h
  refine ⟨G0, H0, G, ρ, _, Xd, k, h, fun G1 H1 p ho o k1 g1 n1 n2 n3 n4 hb => ?_, xo⟩
  obtain ⟨ds, rfl, q⟩ := hb
  cases ho with
  | lst xs => exact fn G1 H1 p xs false ds k1 g1 n3 n4 q
  | _ => exact n4.elim
theorem QE.qc {e : Expr} {de : DE} (h : QE X W e de) : QC X W e (dCofE de) := PE.sub h fun σ H Q h => by
  obtain ⟨G0, H0, G, ρ, Qd, Xd, k, h, fn, xo⟩ := h
  refine ⟨G0, H0, G, ρ, _, Xd, k, h, fun G1 H1 v d k1 g1 rv hb => ?_, xo⟩
  obtain ⟨b, ds, rfl, q⟩ := hb
  obtain ⟨a, xs, rfl, s1, s2⟩ := rp_sq k1.gh rv
  exact fn G1 H1 a xs b ds k1 g1 s1 s2 q
/-! ### subscripts -/
theorem atI_rp {K : PySem.W.Frag} {G : Hp} {xs : List V} {ds : List PyData} {i : Int} {d : PyData} (h : RpAll K G xs ds) (e : atI ds i = some d) : ∃ v, atI xs i = some v ∧ Rp K G v d := by
  unfold atI at e ⊢
  rw [rpa_length h]
  cases q : ixN ds.length i with
  | none => rw [q] at e; cases e
  | some j =>
    rw [q] at e
    exact rpa_get h e
def ixD (ds : List PyData) (i : PyData) (Q : PyData → Prop) : Prop := ∃ n d, i = .int n ∧ atI ds n = some d ∧ Q d
def dIx (dc : DC) (di : DE) : DE := fun ρ Q X => dc ρ (fun _ ds => di ρ (fun i => ixD ds i Q) X) X
theorem qe_ix {a b : Expr} {pos : Pos} {dc : DC} {di : DE} (ha : QC X W a dc) (hb : QE X W b di) (hs : PlainIx b := by intro _ _; rfl) : QE X W (.Subscript a b pos) (dIx dc di) := PE.sub (pe_ix ix_seq ha hb hs) fun σ H Q h => by
  obtain ⟨G0, H0, G, ρ, Qd, Xd, k, h, fn, xo⟩ := h
  refine ⟨G0, H0, G, ρ, _, Xd, k, h, fun G1 H1 a xs b ds k1 g1 sq rx hb => ?_, xo⟩
  refine ⟨G0, H0, G1, ρ, _, Xd, k1, hb, fun G2 H2 y e k2 g2 ry hf => ?_, xo.mono g1.gg⟩
  obtain ⟨n, d, rfl, hat, q⟩ := hf
  cases ry
  obtain ⟨v, e1, e2⟩ := atI_rp (rpa_mono g2.gg rx) hat
  have fin := fn G2 H2 v d k2 (g1.trans g2) e2 q
  cases b with
  | false => exact .inl ⟨a, xs, n, v, rfl, rfl, SqL.of (g2.hh _ _ sq), e1, fin⟩
  | true => exact .inr (.inl ⟨a, xs, n, v, rfl, rfl, sqT_mono k2.gh (sqT_mono g2.gg sq), e1, fin⟩)
end
end WH

namespace WH
open PySem PySem.Spec L2

/-! ### operators by data -/
def addD : PyData → PyData → (PyData → Prop) → Prop
  | .int i, .int j, Q => Q (.int (i + j))
  | .str a, .str b, Q => a.length + b.length ≤ 100000 ∧ Q (.str (a ++ b))
  | .tuple xs, .tuple ys, Q => xs.length + ys.length ≤ 100000 ∧ Q (.tuple (xs ++ ys))
  | .list xs, .list ys, Q => xs.length + ys.length ≤ 100000 ∧ Q (.list (xs ++ ys))
  | _, _, _ => False
def iI (g : Int → Int → PyData) : PyData → PyData → (PyData → Prop) → Prop
  | .int i, .int j, Q => Q (g i j)
  | _, _, _ => False
def iC (C : Int → Int → Prop) (g : Int → Int → PyData) : PyData → PyData → (PyData → Prop) → Prop
  | .int i, .int j, Q => C i j ∧ Q (g i j)
  | _, _, _ => False
def subD := iI fun i j => .int (i - j)
def modD := iC (fun _ j => 0 < j) fun i j => .int (i % j)
def fdivD := iC (fun _ j => 0 < j ∧ j < 1073741824) fun i j => .int (i / j)
def powD := iC (fun i j => 0 ≤ j ∧ j ≤ 1000000 ∧ i.natAbs < 2 ^ 64) fun i j => .int (i ^ j.toNat)
def mulD : PyData → PyData → (PyData → Prop) → Prop
  | .int i, .int j, Q => ((-(2 ^ 64) < i ∧ i < 2 ^ 64) ∨ (-(2 ^ 64) < j ∧ j < 2 ^ 64)) ∧ Q (.int (i * j))
  | .tuple xs, .int k, Q => xs ≠ [] ∧ 2 ≤ k ∧ k ≤ 1000 ∧ xs.length ≤ 1000 ∧ Q (.tuple (List.replicate k.toNat xs).flatten)
  | .list xs, .int k, Q => 0 ≤ k ∧ k ≤ 1000 ∧ xs.length ≤ 100 ∧ Q (.list (List.replicate k.toNat xs).flatten)
  | _, _, _ => False
def ltD := iI fun i j => .bool (decide (i < j))
def leD := iI fun i j => .bool (decide (i ≤ j))
def gtD := iI fun i j => .bool (decide (j < i))
def geD := iI fun i j => .bool (decide (j ≤ i))
def eqD (d e : PyData) (Q : PyData → Prop) : Prop := SeqAt.shaped d = true ∧ SeqAt.shaped e = true ∧ Q (.bool (PyData.eqv d e))
def neD (d e : PyData) (Q : PyData → Prop) : Prop := SeqAt.shaped d = true ∧ SeqAt.shaped e = true ∧ Q (.bool (!PyData.eqv d e))
def isNo : PyData → Bool
  | .none => true
  | _ => false
def isD (d e : PyData) (Q : PyData → Prop) : Prop := e = .none ∧ Q (.bool (isNo d))
def isNotD (d e : PyData) (Q : PyData → Prop) : Prop := e = .none ∧ Q (.bool (!isNo d))

section
variable {K : PySem.W.Frag}
theorem rI_E {g : Int → Int → V} {h : Int → Int → PyData} (gh : ∀ G i j, Rp K G (g i j) (h i j)) : R2E K (rI0 g) (iI h) := by
  intro G0 H0 G H σ ρ x y d e Qd Q k rx ry hf fn
  cases rx <;> cases ry <;> first | exact hf.elim | exact ⟨_, _, rfl, rfl, fn G H _ _ k Gr.refl (gh G _ _) hf⟩
theorem rC_E {C : Int → Int → Prop} {g : Int → Int → V} {h : Int → Int → PyData} (gh : ∀ G i j, Rp K G (g i j) (h i j)) : R2E K (rI C g) (iC C h) := by
  intro G0 H0 G H σ ρ x y d e Qd Q k rx ry hf fn
  cases rx <;> cases ry <;> first | exact hf.elim | exact ⟨_, _, rfl, rfl, hf.1, fn G H _ _ k Gr.refl (gh G _ _) hf.2⟩
theorem sub_E : R2E K (rI0 fun i j => .int (i - j)) subD := rI_E fun _ _ _ => .int _
theorem lt_E : R2E K (rI0 fun i j => .bl (decide (i < j))) ltD := rI_E fun _ _ _ => .bl _
theorem le_E : R2E K (rI0 fun i j => .bl (decide (i ≤ j))) leD := rI_E fun _ _ _ => .bl _
theorem gt_E : R2E K (rI0 fun i j => .bl (decide (j < i))) gtD := rI_E fun _ _ _ => .bl _
theorem ge_E : R2E K (rI0 fun i j => .bl (decide (j ≤ i))) geD := rI_E fun _ _ _ => .bl _
theorem mod_E : R2E K (rI (fun _ j => 0 < j) fun i j => .int (i % j)) modD := rC_E fun _ _ _ => .int _
theorem fdiv_E : R2E K (rI CDiv fun i j => .int (i / j)) fdivD := by
  intro G0 H0 G H σ ρ x y d e Qd Q k rx ry hf fn
  cases rx <;> cases ry <;> first | exact hf.elim | exact ⟨_, _, rfl, rfl, hf.1, fn G H _ _ k Gr.refl (.int _) hf.2⟩
theorem pow_E : R2E K (rI CPow fun i j => .int (i ^ j.toNat)) powD := by
  intro G0 H0 G H σ ρ x y d e Qd Q k rx ry hf fn
  cases rx <;> cases ry <;> first | exact hf.elim | exact ⟨_, _, rfl, rfl, hf.1, fn G H _ _ k Gr.refl (.int _) hf.2⟩
def rAddA (K : PySem.W.Frag) : R2 := fun x y H Q => rI0 (fun i j => .int (i + j)) x y H Q ∨ (∃ i j, x = .str i ∧ y = .str j ∧ i.length + j.length ≤ sizeLine ∧ Q (.str (i ++ j)) H) ∨ rCatA K x y H Q ∨ rCat x y H Q
theorem op_addA {X : Cx} : OpR X (binaryOp .Add) (rAddA X.K) := op_add.or (op_add_str.or (op_catA.or op_cat))
theorem add_E : R2E K (rAddA K) addD := by
  intro G0 H0 G H σ ρ x y d e Qd Q k rx ry hf fn
  cases rx with
  | int i =>
    cases ry with
    | int j => exact .inl ⟨i, j, rfl, rfl, fn G H _ _ k Gr.refl (.int _) hf⟩
    | _ => exact hf.elim
  | str i =>
    cases ry with
    | str j => exact .inr (.inl ⟨i, j, rfl, rfl, sz_of hf.1, fn G H _ _ k Gr.refl (.str _) hf.2⟩)
    | _ => exact hf.elim
  | tup sx ax =>
    cases ry with
    | tup sy ay =>
      rename_i a xs ds b ys es
      have hl := rpa_length ax
      have hl2 := rpa_length ay
      refine .inr (.inr (.inl ⟨a, b, xs, ys, rfl, rfl, sqT_mono k.gh sx, sqT_mono k.gh sy, sz_of (by rw [hl, hl2]; exact hf.1), fun e0 => ?_, fun n0 e0 => ?_, fun n0 n1 => ?_⟩))
      · subst e0
        cases ax
        exact fn G H _ _ k Gr.refl (.tup sy ay) hf.2
      · subst e0
        cases ay
        have q := hf.2
        rw [List.append_nil] at q
        exact fn G H _ _ k Gr.refl (.tup sx ax) q
      · exact fin_tup k fn (rpa_append ax ay) hf.2
    | _ => exact hf.elim
  | lst sx ax =>
    cases ry with
    | lst sy ay =>
      rename_i a xs ds b ys es
      have hl := rpa_length ax
      have hl2 := rpa_length ay
      exact .inr (.inr (.inr ⟨a, b, xs, ys, rfl, rfl, k.gh _ _ sx, k.gh _ _ sy, sz_of (by rw [hl, hl2]; exact hf.1), fin_lst k fn (rpa_append ax ay) hf.2⟩))
    | _ => exact hf.elim
  | _ => cases ry <;> exact hf.elim
def rMulA (K : PySem.W.Frag) : R2 := fun x y H Q => rI CMul (fun i j => .int (i * j)) x y H Q ∨ rRepT K x y H Q ∨ rRep x y H Q
theorem op_mulA {X : Cx} : OpR X (binaryOp .Mult) (rMulA X.K) := op_mul.or (op_repT.or op_rep)
theorem mul_E : R2E K (rMulA K) mulD := by
  intro G0 H0 G H σ ρ x y d e Qd Q k rx ry hf fn
  cases rx with
  | int i =>
    cases ry with
    | int j => exact .inl ⟨i, j, rfl, rfl, hf.1, fn G H _ _ k Gr.refl (.int _) hf.2⟩
    | _ => exact hf.elim
  | tup sx ax =>
    cases ry with
    | int j =>
      rename_i a xs ds
      have hl := rpa_length ax
      obtain ⟨f1, f2, f3, f4, f5⟩ := hf
      refine .inr (.inl ⟨a, j, xs, rfl, rfl, sqT_mono k.gh sx, fun z => f1 ?_, f2, f3, by omega, fin_tup k fn (rpa_rep ax _) f5⟩)
      subst z
      cases ax
      rfl
    | _ => exact hf.elim
  | lst sx ax =>
    cases ry with
    | int j =>
      rename_i a xs ds
      have hl := rpa_length ax
      obtain ⟨f1, f2, f3, f4⟩ := hf
      refine .inr (.inr ⟨a, j, xs, rfl, rfl, k.gh _ _ sx, by omega, by omega, sz_of ?_, fin_lst k fn (rpa_rep ax _) f4⟩)
      have : xs.length * j.toNat ≤ 100 * 1000 := Nat.mul_le_mul (by omega) (by omega)
      omega
    | _ => exact hf.elim
  | _ => cases ry <;> exact hf.elim
theorem shaped_lay {d : PyData} (h : SeqAt.shaped d = true) : d.canLay0 = true := SeqAt.canLay_of_shaped h
theorem rp_dpH {G H : Hp} {v : V} {d : PyData} (r : Rp K G v d) (e : Same G H) (h : SeqAt.shaped d = true) : Dp K H v d := rp_dp (rp_mono e r) (shaped_lay h)
theorem eq_E : R2E K (rEqD K) eqD := by
  intro G0 H0 G H σ ρ x y d e Qd Q k rx ry hf fn
  exact ⟨d, e, rp_dpH rx k.gh hf.1, rp_dpH ry k.gh hf.2.1, hf.1, hf.2.1, fn G H _ _ k Gr.refl (.bl _) hf.2.2⟩
theorem ne_E : R2E K (rNeD K) neD := by
  intro G0 H0 G H σ ρ x y d e Qd Q k rx ry hf fn
  exact ⟨d, e, rp_dpH rx k.gh hf.1, rp_dpH ry k.gh hf.2.1, hf.1, hf.2.1, fn G H _ _ k Gr.refl (.bl _) hf.2.2⟩
theorem isNo_eq {G : Hp} {v : V} {d : PyData} (r : Rp K G v d) : decide (v = .non) = isNo d := by cases r <;> rfl
theorem is_E : R2E K (fun x y H Q => y = .non ∧ Q (.bl (decide (x = .non))) H) isD := by
  intro G0 H0 G H σ ρ x y d e Qd Q k rx ry hf fn
  obtain ⟨rfl, q⟩ := hf
  cases ry
  exact ⟨rfl, fn G H _ _ k Gr.refl (.bl _) (by rw [isNo_eq rx]; exact q)⟩
theorem isNot_E : R2E K (fun x y H Q => y = .non ∧ Q (.bl (!decide (x = .non))) H) isNotD := by
  intro G0 H0 G H σ ρ x y d e Qd Q k rx ry hf fn
  obtain ⟨rfl, q⟩ := hf
  cases ry
  exact ⟨rfl, fn G H _ _ k Gr.refl (.bl _) (by rw [isNo_eq rx]; exact q)⟩
end

section
variable {X : Cx} {W : XW} {a b : Expr} {pos : Pos} {da db : DE}
theorem qe_add (ha : QE X W a da) (hb : QE X W b db) : QE X W (.BinOp a .Add b pos) (d2 addD da db) := qe_op add_E op_addA ha hb
theorem qe_sub (ha : QE X W a da) (hb : QE X W b db) : QE X W (.BinOp a .Sub b pos) (d2 subD da db) := qe_op sub_E op_sub ha hb
theorem qe_mul (ha : QE X W a da) (hb : QE X W b db) : QE X W (.BinOp a .Mult b pos) (d2 mulD da db) := qe_op mul_E op_mulA ha hb
theorem qe_mod (ha : QE X W a da) (hb : QE X W b db) : QE X W (.BinOp a .Mod b pos) (d2 modD da db) := qe_op mod_E op_mod ha hb
theorem qe_fdiv (ha : QE X W a da) (hb : QE X W b db) : QE X W (.BinOp a .FloorDiv b pos) (d2 fdivD da db) := qe_op fdiv_E op_fdiv ha hb
theorem qe_pow (ha : QE X W a da) (hb : QE X W b db) : QE X W (.BinOp a .Pow b pos) (d2 powD da db) := qe_op pow_E op_pow ha hb
theorem qe_lt (ha : QE X W a da) (hb : QE X W b db) : QE X W (.Compare a [.Lt] [b] pos) (d2 ltD da db) := qe_cmp lt_E op_lt ha hb (nomark _)
theorem qe_le (ha : QE X W a da) (hb : QE X W b db) : QE X W (.Compare a [.LtE] [b] pos) (d2 leD da db) := qe_cmp le_E op_le ha hb (nomark _)
theorem qe_gt (ha : QE X W a da) (hb : QE X W b db) : QE X W (.Compare a [.Gt] [b] pos) (d2 gtD da db) := qe_cmp gt_E op_gt ha hb (nomark _)
theorem qe_ge (ha : QE X W a da) (hb : QE X W b db) : QE X W (.Compare a [.GtE] [b] pos) (d2 geD da db) := qe_cmp ge_E op_ge ha hb (nomark _)
theorem qe_eq (hu : X.A.units + 64 < cLine) (ha : QE X W a da) (hb : QE X W b db) : QE X W (.Compare a [.Eq] [b] pos) (d2 eqD da db) := qe_cmp eq_E (op_eqD hu) ha hb (nomark _)
theorem qe_ne (hu : X.A.units + 64 < cLine) (ha : QE X W a da) (hb : QE X W b db) : QE X W (.Compare a [.NotEq] [b] pos) (d2 neD da db) := qe_cmp ne_E (op_neD hu) ha hb (nomark _)
theorem qe_is (ha : QE X W a da) (hb : QE X W b db) : QE X W (.Compare a [.Is] [b] pos) (d2 isD da db) := qe_cmp is_E op_isN ha hb (nomark _)
theorem qe_isNot (ha : QE X W a da) (hb : QE X W b db) : QE X W (.Compare a [.IsNot] [b] pos) (d2 isNotD da db) := qe_cmp isNot_E op_notN ha hb (nomark _)
theorem qt_lt (ha : QE X W a da) (hb : QE X W b db) : QT X W (.Compare a [.Lt] [b] pos) (dTst (d2 ltD da db)) := qt_cmp lt_E op_lt ha hb (nomark _)
theorem qt_le (ha : QE X W a da) (hb : QE X W b db) : QT X W (.Compare a [.LtE] [b] pos) (dTst (d2 leD da db)) := qt_cmp le_E op_le ha hb (nomark _)
theorem qt_gt (ha : QE X W a da) (hb : QE X W b db) : QT X W (.Compare a [.Gt] [b] pos) (dTst (d2 gtD da db)) := qt_cmp gt_E op_gt ha hb (nomark _)
theorem qt_ge (ha : QE X W a da) (hb : QE X W b db) : QT X W (.Compare a [.GtE] [b] pos) (dTst (d2 geD da db)) := qt_cmp ge_E op_ge ha hb (nomark _)
theorem qt_eq (hu : X.A.units + 64 < cLine) (ha : QE X W a da) (hb : QE X W b db) : QT X W (.Compare a [.Eq] [b] pos) (dTst (d2 eqD da db)) := qt_cmp eq_E (op_eqD hu) ha hb (nomark _)
theorem qt_ne (hu : X.A.units + 64 < cLine) (ha : QE X W a da) (hb : QE X W b db) : QT X W (.Compare a [.NotEq] [b] pos) (dTst (d2 neD da db)) := qt_cmp ne_E (op_neD hu) ha hb (nomark _)
theorem qt_is (ha : QE X W a da) (hb : QE X W b db) : QT X W (.Compare a [.Is] [b] pos) (dTst (d2 isD da db)) := qt_cmp is_E op_isN ha hb (nomark _)
theorem qt_isNot (ha : QE X W a da) (hb : QE X W b db) : QT X W (.Compare a [.IsNot] [b] pos) (dTst (d2 isNotD da db)) := qt_cmp isNot_E op_notN ha hb (nomark _)
theorem qe_and {rest : List Expr} (ha : QE X W a da) (hb : QE X W (.BoolOp .And (b :: rest) pos) db) : QE X W (.BoolOp .And (a :: b :: rest) pos) (dAndV da db) := PE.sub (pe_and ha hb) up_andV
theorem qe_or {rest : List Expr} (ha : QE X W a da) (hb : QE X W (.BoolOp .Or (b :: rest) pos) db) : QE X W (.BoolOp .Or (a :: b :: rest) pos) (dOrV da db) := PE.sub (pe_or ha hb) up_orV
theorem qe_one {op : BoolOp} (ha : QE X W a da) : QE X W (.BoolOp op [a] pos) da := pe_one ha
theorem qe_not (ha : QE X W a da) : QE X W (.UnaryOp .Not a pos) (dNotV da) := PE.sub (pe_not ha) up_notV
/-- -e -/
def dNeg (da : DE) : DE := fun ρ Q X => da ρ (fun d => ∃ i, d = .int i ∧ Q (.int (-i))) X
theorem qe_neg (ha : QE X W a da) : QE X W (.UnaryOp .USub a pos) (dNeg da) := PE.sub (pe_un un_neg ha) fun σ H Q h => by
  obtain ⟨G0, H0, G, ρ, Qd, Xd, k, h, fn, xo⟩ := h
  refine ⟨G0, H0, G, ρ, _, Xd, k, h, fun G1 H1 x d k1 g1 rx hb => ?_, xo⟩
  obtain ⟨i, rfl, q⟩ := hb
  cases rx
  exact ⟨i, rfl, fn G1 H1 _ _ k1 g1 (.int _) q⟩
/-! x in container, flat things -/
def flatD : PyData → Bool
  | .none => true
  | .bool _ => true
  | .int _ => true
  | .str _ => true
  | _ => false
def inD (x : PyData) (ds : List PyData) : Bool := ds.any fun y => PyData.eqv y x
theorem eqV_eqv {K : PySem.W.Frag} {G : Hp} {u v : V} {d e : PyData} (r : Rp K G u d) (r' : Rp K G v e) (fd : flatD d = true) (fe : flatD e = true) : eqV u v = PyData.eqv d e := by
  cases r <;> cases r' <;> first | rfl | (simp [flatD] at fd; done) | (simp [flatD] at fe; done) | (simp [eqV, PyData.eqv]; done)
theorem flat_rp {K : PySem.W.Frag} {G : Hp} {u : V} {d : PyData} (r : Rp K G u d) (fd : flatD d = true) : flatV u = true := by
  cases r <;> first | rfl | (simp [flatD] at fd; done)
theorem flat_rpa {K : PySem.W.Frag} {G : Hp} : ∀ {us : List V} {ds : List PyData}, RpAll K G us ds → ds.all flatD = true → us.all flatV = true
  | _, _, .nil, _ => rfl
  | _, _, .cons r t, h => by
    rw [List.all_cons, Bool.and_eq_true] at h ⊢
    exact ⟨flat_rp r h.1, flat_rpa t h.2⟩
theorem inV_inD {K : PySem.W.Frag} {G : Hp} {u : V} {d : PyData} (r : Rp K G u d) (fd : flatD d = true) : ∀ {us : List V} {ds : List PyData}, RpAll K G us ds → ds.all flatD = true → inV u us = inD d ds
  | _, _, .nil, _ => rfl
  | _, _, .cons r' t, h => by
    rw [List.all_cons, Bool.and_eq_true] at h
    have ih := inV_inD r fd t h.2
    unfold inV inD at ih ⊢
    rw [List.any_cons, List.any_cons, ih, eqV_eqv r' r h.1 fd]
def dIn (neg : Bool) (da : DE) (dc : DC) : DE := fun ρ Q X => da ρ (fun x => dc ρ (fun _ ds => flatD x = true ∧ ds.all flatD = true ∧ Q (.bool (if neg then !inD x ds else inD x ds))) X) X
theorem up_in {K : PySem.W.Frag} {neg : Bool} {dc : DC} (σ : L2.St) (H : Hp) (Q : VK) (h : upE K W (dIn neg da dc) σ H Q) : tOp (rIn K neg) (upE K W da) (upC K W dc) σ H Q := by
  obtain ⟨G0, H0, G, ρ, Qd, Xd, k, h, fn, xo⟩ := h
  refine ⟨G0, H0, G, ρ, _, Xd, k, h, fun G1 H1 x d k1 g1 rx hb => ?_, xo⟩
  refine ⟨G0, H0, G1, ρ, _, Xd, k1, hb, fun G2 H2 a xs b ds k2 g2 sq ry hf => ?_, xo.mono g1.gg⟩
  have rx2 := rp_mono g2.gg rx
  refine ⟨a, xs, rfl, ?_, flat_rp rx2 hf.1, flat_rpa ry hf.2.1, ?_⟩
  · exact sq.any k2.gh
  · rw [inV_inD rx2 hf.1 ry hf.2.1]
    exact fn G2 H2 _ _ k2 (g1.trans g2) (.bl _) hf.2.2
theorem qe_in {dc : DC} (ha : QE X W a da) (hb : QC X W b dc) (hm : behindInMarks .In b = false := by with_unfolding_all rfl) : QE X W (.Compare a [.In] [b] pos) (dIn false da dc) := PE.sub (pe_cmpR op_in_seq ha hb hm) up_in
theorem qe_notIn {dc : DC} (ha : QE X W a da) (hb : QC X W b dc) (hm : behindInMarks .NotIn b = false := by with_unfolding_all rfl) : QE X W (.Compare a [.NotIn] [b] pos) (dIn true da dc) := PE.sub (pe_cmpR op_notIn_seq ha hb hm) up_in
theorem qt_in {dc : DC} (ha : QE X W a da) (hb : QC X W b dc) (hm : behindInMarks .In b = false := by with_unfolding_all rfl) : QT X W (.Compare a [.In] [b] pos) (dTst (dIn false da dc)) := PT.sub (pt_cmpR op_in_seq ha hb hm) (up_tst up_in)
theorem qt_notIn {dc : DC} (ha : QE X W a da) (hb : QC X W b dc) (hm : behindInMarks .NotIn b = false := by with_unfolding_all rfl) : QT X W (.Compare a [.NotIn] [b] pos) (dTst (dIn true da dc)) := PT.sub (pt_cmpR op_notIn_seq ha hb hm) (up_tst up_in)
/-! list + list, a new list of one's own -/
def dCat (da db : DC) : DO := fun ρ Q X => da ρ (fun b xs => db ρ (fun b' ys => b = false ∧ b' = false ∧ xs.length + ys.length ≤ 100000 ∧ Q (.lst (xs ++ ys))) X) X
theorem qo_add {da db : DC} (ha : QC X W a da) (hb : QC X W b db) : QO X W (.BinOp a .Add b pos) (dCat da db) := PE.sub (pe_op op_cat ha hb) fun σ H Q h => by
  obtain ⟨G0, H0, G, ρ, Qd, Xd, k, h, fn, xo⟩ := h
  refine ⟨G0, H0, G, ρ, _, Xd, k, h, fun G1 H1 a xs b ds k1 g1 sq rx hb => ?_, xo⟩
  refine ⟨G0, H0, G1, ρ, _, Xd, k1, hb, fun G2 H2 a' ys b' es k2 g2 sq' ry hf => ?_, xo.mono g1.gg⟩
  obtain ⟨rfl, rfl, hz, q⟩ := hf
  refine ⟨a, a', xs, ys, rfl, rfl, g2.hh _ _ sq, sq', sz_of (by rw [rpa_length rx, rpa_length ry]; exact hz), ?_⟩
  exact fin_own (o := .lst (ds ++ es)) k2 (fun G3 H3 p ho o k3 g3 n1 n2 n3 n4 q => fn G3 H3 p ho o k3 ((g1.trans g2).trans g3) (g1.hh.free (g2.hh.free n1)) n2 n3 n4 q) (show RpAll _ _ _ _ from rpa_append (rpa_mono g2.gg rx) ry) q
/-! list * int -/
def dRep (da : DC) (db : DE) : DO := fun ρ Q X => da ρ (fun b xs => db ρ (fun k => ∃ i, k = .int i ∧ b = false ∧ 0 ≤ i ∧ i ≤ 1000 ∧ xs.length ≤ 100 ∧ Q (.lst (List.replicate i.toNat xs).flatten)) X) X
theorem qo_mul {da : DC} (ha : QC X W a da) (hb : QE X W b db) : QO X W (.BinOp a .Mult b pos) (dRep da db) := PE.sub (pe_op op_rep ha hb) fun σ H Q h => by
  obtain ⟨G0, H0, G, ρ, Qd, Xd, k, h, fn, xo⟩ := h
  refine ⟨G0, H0, G, ρ, _, Xd, k, h, fun G1 H1 a xs b ds k1 g1 sq rx hb => ?_, xo⟩
  refine ⟨G0, H0, G1, ρ, _, Xd, k1, hb, fun G2 H2 y e k2 g2 ry hf => ?_, xo.mono g1.gg⟩
  obtain ⟨i, rfl, rfl, i1, i2, hz, q⟩ := hf
  cases ry
  have hl := rpa_length rx
  refine ⟨a, i, xs, rfl, rfl, g2.hh _ _ sq, by omega, by omega, sz_of ?_, ?_⟩
  · have : xs.length * i.toNat ≤ 100 * 1000 := Nat.mul_le_mul (by omega) (by omega)
    omega
  · exact fin_own (o := .lst (List.replicate i.toNat ds).flatten) k2 (fun G3 H3 p ho o k3 g3 n1 n2 n3 n4 q => fn G3 H3 p ho o k3 ((g1.trans g2).trans g3) (g1.hh.free (g2.hh.free n1)) n2 n3 n4 q) (show RpAll _ _ _ _ from rpa_rep (rpa_mono g2.gg rx) _) q
/-! ### slices -/
abbrev DP := Sto → (Option Int → Prop) → XD → Prop
def upP (K : PySem.W.Frag) (W : XW) (dp : DP) : TO := fun σ H Q => ∃ G0 H0 G ρ Qd Xd, Ok K G0 H0 G H σ ρ ∧ dp ρ Qd Xd ∧ (∀ G' H' o, Ok K G0 H0 G' H' σ ρ → Gr G H G' H' → Qd o → Q o H') ∧ XOk K W G0 H0 G σ ρ Xd
def QP (X : Cx) (W : XW) (e : Option Expr) (dp : DP) : Prop := PO X e (upP X.K W dp)
theorem PO.sub {X : Cx} {e : Option Expr} {t t' : TO} (h : PO X e t) (s : ∀ σ H Q, t' σ H Q → t σ H Q) : PO X e t' := ⟨fun pins st σ H Q I hw => h.run pins st σ H Q I (s σ H Q hw)⟩
def dNo : DP := fun _ Q _ => Q none
def dSome (da : DE) : DP := fun ρ Q X => da ρ (fun d => ∃ i, d = .int i ∧ Q (some i)) X
theorem qp_none : QP X W none dNo := PO.sub po_none fun σ H Q h => by
  obtain ⟨G0, H0, G, ρ, Qd, Xd, k, h, fn, xo⟩ := h
  exact fn G H _ k Gr.refl h
theorem qp_some (ha : QE X W a da) : QP X W (some a) (dSome da) := PO.sub (po_some ha) fun σ H Q h => by
  obtain ⟨G0, H0, G, ρ, Qd, Xd, k, h, fn, xo⟩ := h
  refine ⟨G0, H0, G, ρ, _, Xd, k, h, fun G1 H1 x d k1 g1 rx hb => ?_, xo⟩
  obtain ⟨i, rfl, q⟩ := hb
  cases rx
  exact ⟨i, rfl, fn G1 H1 _ k1 g1 q⟩
def cutD (ds : List PyData) (lo hi : Option Int) : List PyData := (ds.drop (HT.sIx ds.length 0 lo)).take (HT.sIx ds.length ds.length hi - HT.sIx ds.length 0 lo)
theorem rpa_cut {K : PySem.W.Frag} {G : Hp} {xs : List V} {ds : List PyData} {lo hi : Option Int} (h : RpAll K G xs ds) : RpAll K G (cutV xs lo hi) (cutD ds lo hi) := by
  unfold cutV cutD
  rw [rpa_length h]
  exact rpa_take _ (rpa_drop _ h)
/-- a slice of a list or a tuple -/
def dSl (dc : DC) (lo hi : DP) : DE := fun ρ Q X => dc ρ (fun b ds => lo ρ (fun l => hi ρ (fun h => Q (dat b (cutD ds l h))) X) X) X
theorem cutD_all {ds : List PyData} {lo hi : Option Int} (h : HT.sIx ds.length 0 lo = 0 ∧ HT.sIx ds.length ds.length hi = ds.length) : cutD ds lo hi = ds := by
  unfold cutD
  rw [h.1, h.2, List.drop_zero, Nat.sub_zero, List.take_length]
theorem qe_slice {lo hi : Option Expr} {p2 : Pos} {dc : DC} {dl dh : DP} (ha : QC X W a dc) (hl : QP X W lo dl) (hh : QP X W hi dh) : QE X W (.Subscript a (.Slice lo hi none p2) pos) (dSl dc dl dh) :=
  PE.sub (pe_slice (sl_list.or sl_tupA) ha hl hh) fun σ H Q h => by
  obtain ⟨G0, H0, G, ρ, Qd, Xd, k, h, fn, xo⟩ := h
  refine ⟨G0, H0, G, ρ, _, Xd, k, h, fun G1 H1 a xs b ds k1 g1 sq rx hb => ?_, xo⟩
  refine ⟨G0, H0, G1, ρ, _, Xd, k1, hb, fun G2 H2 l k2 g2 hb2 => ?_, xo.mono g1.gg⟩
  refine ⟨G0, H0, G2, ρ, _, Xd, k2, hb2, fun G3 H3 u k3 g3 q => ?_, (xo.mono g1.gg).mono g2.gg⟩
  have fin : Fin1 X.K G0 H0 G3 H3 σ ρ Qd Q := fun G4 H4 v d k4 g4 rv q => fn G4 H4 v d k4 (((g1.trans g2).trans g3).trans g4) rv q
  have rx3 := rpa_mono (g2.trans g3).gg rx
  have sq3 := sq_mono (g2.trans g3).gg (g2.trans g3).hh sq
  cases b with
  | false => exact .inl ⟨a, xs, rfl, SqL.of sq3, fin_lst k3 fin (rpa_cut rx3) q⟩
  | true =>
    refine .inr ⟨a, xs, rfl, sqT_mono k3.gh sq3, fun hw => ?_, fun _ => fin_tup k3 fin (rpa_cut rx3) q⟩
    rw [rpa_length rx3] at hw
    have e := cutD_all (ds := ds) (lo := l) (hi := u) hw
    rw [e] at q
    exact fin G3 H3 _ _ k3 Gr.refl (.tup sq3 rx3) q
end
end WH

namespace WH
open PySem PySem.Spec L2

/-! ### statements -/
section
variable {X : Cx} {W : XW}
def dNext : DS := fun D ρ => D.nx ρ
def dSeq (d e : DS) : DS := fun D ρ => d { D with nx := e D } ρ
theorem qss_nil : QSs X W [] dNext := PSs.sub pss_nil fun D σ H h => by
  obtain ⟨G0, H0, G, ρ, Dd, k, h, nx, rt, bk, ct, ex⟩ := h
  exact nx G H σ ρ k h
theorem qss_cons {st : Stmt} {rest : List Stmt} {d e : DS} (h1 : QS X W st d) (h2 : QSs X W rest e) : QSs X W (st :: rest) (dSeq d e) := PSs.sub (pss_cons h1 h2) fun D σ H h => by
  obtain ⟨G0, H0, G, ρ, Dd, k, h, nx, rt, bk, ct, ex⟩ := h
  exact ⟨G0, H0, G, ρ, { Dd with nx := e Dd }, k, h, fun G' H' σ' ρ' k' q => ⟨G0, H0, G', ρ', Dd, k', q, nx, rt, bk, ct, ex⟩, rt, bk, ct, ex⟩
theorem qss_one {st : Stmt} {d : DS} (h1 : QS X W st d) : QSs X W [st] d := pss_one h1
theorem qs_pass {pos : Pos} : QS X W (.Pass pos) dNext := PS.sub ps_pass fun D σ H h => by
  obtain ⟨G0, H0, G, ρ, Dd, k, h, nx, rt, bk, ct, ex⟩ := h
  exact nx G H σ ρ k h
def dCont : DS := fun D ρ => D.ct ρ
def dBreak : DS := fun D ρ => D.bk ρ
theorem qs_continue {pos : Pos} : QS X W (.Continue pos) dCont := PS.sub ps_continue fun D σ H h => by
  obtain ⟨G0, H0, G, ρ, Dd, k, h, nx, rt, bk, ct, ex⟩ := h
  exact ct G H σ ρ k h
theorem qs_break {pos : Pos} : QS X W (.Break pos) dBreak := PS.sub ps_break fun D σ H h => by
  obtain ⟨G0, H0, G, ρ, Dd, k, h, nx, rt, bk, ct, ex⟩ := h
  exact bk G H σ ρ k h
def dNever : DS := fun _ _ => False
theorem qs_never {st : Stmt} : QS X W st dNever := PS.sub ps_never fun D σ H h => by
  obtain ⟨G0, H0, G, ρ, Dd, k, h, nx, rt, bk, ct, ex⟩ := h
  exact h
theorem qss_never {sts : List Stmt} : QSs X W sts dNever := PSs.sub pss_never fun D σ H h => by
  obtain ⟨G0, H0, G, ρ, Dd, k, h, nx, rt, bk, ct, ex⟩ := h
  exact h
/-- a name's own list is shared from here on -/
def dFreeze (i : Nat) (d : DS) : DS := fun D ρ => ∃ ds, ρ[i]? = some (Slot.ow (.lst ds)) ∧ d D (ρ.set i (.sh (.list ds)))
theorem qss_freeze {sts : List Stmt} {d : DS} (i : Nat) (h : QSs X W sts d) : QSs X W sts (dFreeze i d) := PSs.sub h fun D σ H h => by
  obtain ⟨G0, H0, G, ρ, Dd, k, ⟨ds, hi, h⟩, nx, rt, bk, ct, ex⟩ := h
  obtain ⟨G', _, k'⟩ := k.freezeSlot hi
  exact ⟨G0, H0, G', _, Dd, k', h, nx, rt, bk, ct, ex⟩
/-! name = e -/
def dAsg (i : Nat) (de : DE) : DS := fun D ρ => de ρ (fun d => D.nx (ρ.set i (.sh d))) (D.xd ρ)
def dAsgO (i : Nat) (dd : DO) : DS := fun D ρ => dd ρ (fun o => D.nx (ρ.set i (.ow o))) (D.xd ρ)
theorem xok_of {K : PySem.W.Frag} {G0 H0 G : Hp} {σ : L2.St} {ρ : Sto} {Xd : Exn → Sto → Prop} (ex : ∀ G' H' σ' ρ' x cls d, Ok K G0 H0 G' H' σ' ρ' → ExcOk K W.1 G' H' x cls d → Xd x ρ' → W.2 cls d σ' H') : XOk K W G0 H0 G σ ρ (fun x => Xd x ρ) := fun G' H' x cls d k _ e z => ex G' H' σ ρ x cls d k e z
theorem up_asg {K : PySem.W.Frag} {t : TE} {i : Nat} {de : DE} (ht : ∀ σ H Q, upE K W de σ H Q → t σ H Q) (D : Ends) (σ : L2.St) (H : Hp) (h : upS K W (dAsg i de) D σ H) : tAsg t (gName i) D σ H := by
  obtain ⟨G0, H0, G, ρ, Dd, k, h, nx, rt, bk, ct, ex⟩ := h
  exact ht σ H _ ⟨G0, H0, G, ρ, _, Dd.xd ρ, k, h, fun G1 H1 v d k1 g1 rv q => nx G1 H1 _ _ (k1.setSh rv) q, xok_of ex⟩
theorem up_asgO {K : PySem.W.Frag} {t : TE} {i : Nat} {dd : DO} (ht : ∀ σ H Q, upO K W dd σ H Q → t σ H Q) (D : Ends) (σ : L2.St) (H : Hp) (h : upS K W (dAsgO i dd) D σ H) : tAsg t (gName i) D σ H := by
  obtain ⟨G0, H0, G, ρ, Dd, k, h, nx, rt, bk, ct, ex⟩ := h
  exact ht σ H _ ⟨G0, H0, G, ρ, _, Dd.xd ρ, k, h, fun G1 H1 p ho o k1 g1 n1 n2 n3 n4 q => nx G1 H1 _ _ (k.newOw g1.hh k1 n1 n3 n2 n4) q, xok_of ex⟩
theorem qs_set {i : Nat} {x : Str} {e : Expr} {de : DE} {pos pos' : Pos} (hN : X.N.Nodup) (he : QE X W e de) (hi : X.N[i]? = some x := by rfl) (hx : Loc X.env.scope x := by first | exact Or.inl rfl | exact Or.inr rfl) (hs : swapsWith e (some (.Name x pos')) pos.line X.env = pure false := by rfl) (hf : X.fn x = true ∨ X.env.scope.names.lookup x = some .local := by first | exact .inl rfl | exact .inr rfl | assumption) :
    QS X W (.Assign [.Name x pos'] e pos) (dAsg i de) := PS.sub (ps_set hN hi hx he hs hf) (up_asg fun _ _ _ h => h)
theorem qs_setO {i : Nat} {x : Str} {e : Expr} {de : DO} {pos pos' : Pos} (hN : X.N.Nodup) (he : QO X W e de) (hi : X.N[i]? = some x := by rfl) (hx : Loc X.env.scope x := by first | exact Or.inl rfl | exact Or.inr rfl) (hs : swapsWith e (some (.Name x pos')) pos.line X.env = pure false := by rfl) (hf : X.fn x = true ∨ X.env.scope.names.lookup x = some .local := by first | exact .inl rfl | exact .inr rfl | assumption) :
    QS X W (.Assign [.Name x pos'] e pos) (dAsgO i de) := PS.sub (ps_set hN hi hx he hs hf) (up_asgO fun _ _ _ h => h)
/-! targets -/
abbrev DG := PyData → Sto → (Sto → Prop) → Prop
def upG (K : PySem.W.Frag) (vs : List Nat) (dg : DG) : TG := fun v σ H Q => ∃ G0 H0 G ρ d Qd, Ok K G0 H0 G H σ ρ ∧ Rp K G v d ∧ dg d ρ Qd ∧ ∀ σ' ρ', Ok K G0 H0 G H σ' ρ' → σ'.length = σ.length → (∀ i, i ∉ vs → σ'[i]? = σ[i]?) → Qd ρ' → Q σ' H
def QG (X : Cx) (vs : List Nat) (tg : Expr) (dg : DG) : Prop := PG X tg (upG X.K vs dg)
theorem PG.sub {X : Cx} {e : Expr} {t t' : TG} (h : PG X e t) (s : ∀ v σ H Q, t' v σ H Q → t v σ H Q) : PG X e t' := ⟨fun pins st σ H v u Q I r hw => h.run pins st σ H v u Q I r (s v σ H Q hw)⟩
theorem PGs.sub {X : Cx} {e : List Expr} {t t' : TGs} (h : PGs X e t) (s : ∀ v σ H Q, t' v σ H Q → t v σ H Q) : PGs X e t' := ⟨fun pins st σ H v u Q I r hw => h.run pins st σ H v u Q I r (s v σ H Q hw)⟩
def gN (i : Nat) : DG := fun d ρ Q => Q (ρ.set i (.sh d))
theorem qg_name {i : Nat} {x : Str} {pos : Pos} (hN : X.N.Nodup) (hi : X.N[i]? = some x := by rfl) (hx : Loc X.env.scope x := by first | exact Or.inl rfl | exact Or.inr rfl) (hf : X.fn x = true ∨ X.env.scope.names.lookup x = some .local := by first | exact .inl rfl | exact .inr rfl | assumption) : QG X [i] (.Name x pos) (gN i) :=
  PG.sub (pg_name hN hi hx hf) fun v σ H Q h => by
  obtain ⟨G0, H0, G, ρ, d, Qd, k, rv, h, fn⟩ := h
  refine fn _ _ (k.setSh rv) (List.length_set) (fun j hj => ?_) h
  rw [getElem_set_eq, if_neg (fun z => hj (by rw [z]; exact List.mem_singleton.mpr rfl))]
abbrev DGs := List PyData → Sto → (Sto → Prop) → Prop
def upGs (K : PySem.W.Frag) (vs : List Nat) (dg : DGs) : TGs := fun us σ H Q => ∃ G0 H0 G ρ ds Qd, Ok K G0 H0 G H σ ρ ∧ RpAll K G us ds ∧ dg ds ρ Qd ∧ ∀ σ' ρ', Ok K G0 H0 G H σ' ρ' → σ'.length = σ.length → (∀ i, i ∉ vs → σ'[i]? = σ[i]?) → Qd ρ' → Q σ' H
def QGs (X : Cx) (vs : List Nat) (tg : List Expr) (dg : DGs) : Prop := PGs X tg (upGs X.K vs dg)
def gsNil : DGs := fun ds ρ Q => ds = [] ∧ Q ρ
def gsCons (g : DG) (gs : DGs) : DGs := fun ds ρ Q => ∃ d r, ds = d :: r ∧ g d ρ (fun ρ' => gs r ρ' Q)
theorem qgs_nil : QGs X [] [] gsNil := PGs.sub pgs_nil fun us σ H Q h => by
  obtain ⟨G0, H0, G, ρ, ds, Qd, k, rv, ⟨rfl, h⟩, fn⟩ := h
  cases rv
  exact ⟨rfl, fn _ _ k rfl (fun _ _ => rfl) h⟩
theorem qgs_cons {e : Expr} {es : List Expr} {vs ws : List Nat} {g : DG} {gs : DGs} (h1 : QG X vs e g) (h2 : QGs X ws es gs) (hs : (assignEach (e :: es) X.env).map (·.2) = assign e X.env :: (assignEach es X.env).map (·.2) := by rfl) : QGs X (vs ++ ws) (e :: es) (gsCons g gs) :=
  PGs.sub (pgs_cons h1 h2 hs) fun us σ H Q h => by
  obtain ⟨G0, H0, G, ρ, ds, Qd, k, rv, ⟨d, r, rfl, h⟩, fn⟩ := h
  cases rv with
  | cons r1 r2 =>
    refine ⟨_, _, rfl, G0, H0, G, ρ, d, _, k, r1, h, fun σ1 ρ1 k1 l1 e1 h1 => ?_⟩
    exact ⟨G0, H0, G, ρ1, r, Qd, k1, r2, h1, fun σ2 ρ2 k2 l2 e2 q => fn σ2 ρ2 k2 (l2.trans l1) (fun i hi => (e2 i fun z => hi (List.mem_append_right _ z)).trans (e1 i fun z => hi (List.mem_append_left _ z))) q⟩
def gT (n : Nat) (gs : DGs) : DG := fun d ρ Q => ∃ ds, d = .tuple ds ∧ ds.length = n ∧ gs ds ρ Q
theorem qg_tup {es : List Expr} {kk : Nat} {pos : Pos} {vs : List Nat} {gs : DGs} {n : Nat} (hc : X.calm = true) (h : QGs X vs es gs) (hn : (assignEach es X.env).length = n := by rfl) (hst : (assignEach es X.env).findIdx? (·.1) = none := by rfl) : QG X vs (.Tuple es kk pos) (gT n gs) :=
  PG.sub (pg_tup hc h hn hst) fun v σ H Q h => by
  obtain ⟨G0, H0, G, ρ, d, Qd, k, rv, ⟨ds, rfl, hl, h⟩, fn⟩ := h
  cases rv with
  | tup s1 s2 => exact ⟨_, _, rfl, sqT_mono k.gh s1, (rpa_length s2).trans hl, G0, H0, G, ρ, ds, Qd, k, s2, h, fn⟩
/-- target = e -/
def dAsgG (de : DE) (dg : DG) : DS := fun D ρ => de ρ (fun d => dg d ρ D.nx) (D.xd ρ)
theorem qs_asg {tg e : Expr} {vs : List Nat} {de : DE} {dg : DG} {pos : Pos} (he : QE X W e de) (hg : QG X vs tg dg) (hs : swapsWithSole [tg] e pos.line X.env = pure false := by rfl) (hw : swappedStores [tg] e X.env = pure none := by rfl)
    (h1 : (assignEach [tg] X.env).map (·.2) = [assign tg X.env] := by rfl) : QS X W (.Assign [tg] e pos) (dAsgG de dg) := PS.sub (ps_asg he hg hs hw h1) fun D σ H h => by
  obtain ⟨G0, H0, G, ρ, Dd, k, h, nx, rt, bk, ct, ex⟩ := h
  exact ⟨G0, H0, G, ρ, _, Dd.xd ρ, k, h, fun G1 H1 v d k1 g1 rv q => ⟨G0, H0, G1, ρ, d, Dd.nx, k1, rv, q, fun σ' ρ' k' _ _ q => nx G1 H1 σ' ρ' k' q⟩, xok_of ex⟩
/-- a, b = x, y -/
def dPar (i j : Nat) (da : DA) : DS := fun D ρ => da ρ (fun ds => ∃ x y, ds = [x, y] ∧ D.nx ((ρ.set i (.sh x)).set j (.sh y))) (D.xd ρ)
theorem up_par {K : PySem.W.Frag} {i j : Nat} {da : DA} (D : Ends) (σ : L2.St) (H : Hp) (h : upS K W (dPar i j da) D σ H) : tPar i j (upA K W da) D σ H := by
  obtain ⟨G0, H0, G, ρ, Dd, k, h, nx, rt, bk, ct, ex⟩ := h
  refine ⟨G0, H0, G, ρ, _, Dd.xd ρ, k, h, fun G1 H1 vs ds k1 g1 rv q => ?_, xok_of ex⟩
  obtain ⟨x, y, rfl, q⟩ := q
  cases rv with
  | cons r1 r2 =>
    cases r2 with
    | cons r2 r3 =>
      cases r3
      exact ⟨_, _, rfl, nx G1 H1 _ _ ((k1.setSh r1).setSh r2) q⟩
/-! return -/
def dRet (de : DE) : DS := fun D ρ => de ρ (fun d => D.rt (.sh d)) (D.xd ρ)
def dRetO (dd : DO) : DS := fun D ρ => dd ρ (fun o => D.rt (.ow o)) (D.xd ρ)
def dRetOw (i : Nat) : DS := fun D ρ => ∃ o, ρ[i]? = some (Slot.ow o) ∧ D.rt (.ow o)
def dRetN : DS := fun D _ => D.rt (.sh .none)
theorem retSh {K : PySem.W.Frag} {G0 H0 G H : Hp} {σ : L2.St} {ρ : Sto} {v : V} {d : PyData} (k : Ok K G0 H0 G H σ ρ) (r : Rp K G v d) : RetOk K G0 H0 (.sh d) v H := ⟨G, k.g0, k.h0, k.gh, k.nw, r⟩
theorem qs_ret {e : Expr} {de : DE} {pos : Pos} (he : QE X W e de) : QS X W (.Return (some e) pos) (dRet de) := PS.sub (ps_ret he) fun D σ H h => by
  obtain ⟨G0, H0, G, ρ, Dd, k, h, nx, rt, bk, ct, ex⟩ := h
  exact ⟨G0, H0, G, ρ, _, Dd.xd ρ, k, h, fun G1 H1 v d k1 g1 rv q => rt _ v H1 (retSh k1 rv) q, xok_of ex⟩
theorem qs_retO {e : Expr} {dd : DO} {pos : Pos} (he : QO X W e dd) : QS X W (.Return (some e) pos) (dRetO dd) := PS.sub (ps_ret he) fun D σ H h => by
  obtain ⟨G0, H0, G, ρ, Dd, k, h, nx, rt, bk, ct, ex⟩ := h
  exact ⟨G0, H0, G, ρ, _, Dd.xd ρ, k, h, fun G1 H1 p ho o k1 g1 n1 n2 n3 n4 q => rt (.ow o) _ H1 ⟨G1, k1.g0, k1.h0, k1.gh, k1.nw, p, ho, rfl, k.h0.free n1, n2, n3, n4⟩ q, xok_of ex⟩
theorem qs_retOw (i : Nat) {x : Str} {pos pos' : Pos} (hN : X.N[i]? = some x := by rfl) (hv : Vis X.env.scope x := by first | exact Or.inl rfl | exact Or.inr (Or.inl rfl) | exact Or.inr (Or.inr rfl)) (hd : (x == ("__debug__" : Str)) = false := by decide)
    (hcd : (x == ("__classdict__" : Str)) = false := by decide) : QS X W (.Return (some (.Name x pos)) pos') (dRetOw i) := PS.sub (ps_ret (pe_var hN hv hd hcd)) fun D σ H h => by
  obtain ⟨G0, H0, G, ρ, Dd, k, ⟨o, hi, h⟩, nx, rt, bk, ct, ex⟩ := h
  obtain ⟨a, ho, h1, h2, h3, h4, h5⟩ := k.ow i o hi
  exact ⟨_, h1, rt (.ow o) _ H ⟨G, k.g0, k.h0, k.gh, k.nw, a, ho, rfl, h4, h3, h2, h5⟩ h⟩
theorem qs_retN {pos : Pos} : QS X W (.Return none pos) dRetN := PS.sub ps_retN fun D σ H h => by
  obtain ⟨G0, H0, G, ρ, Dd, k, h, nx, rt, bk, ct, ex⟩ := h
  exact rt _ _ H (retSh k .non) h
/-! an expression alone, if -/
def dDrop (de : DE) : DS := fun D ρ => de ρ (fun _ => D.nx ρ) (D.xd ρ)
theorem qs_expr {e : Expr} {de : DE} {pos : Pos} (he : QE X W e de) (hs : swapsWith e none pos.line X.env = pure false := by rfl) : QS X W (.Expr e pos) (dDrop de) := PS.sub (ps_expr he hs) fun D σ H h => by
  obtain ⟨G0, H0, G, ρ, Dd, k, h, nx, rt, bk, ct, ex⟩ := h
  exact ⟨G0, H0, G, ρ, _, Dd.xd ρ, k, h, fun G1 H1 v d k1 g1 rv q => nx G1 H1 _ _ k1 q, xok_of ex⟩
def dIfS (t : DT) (a b : DS) : DS := fun D ρ => t ρ (fun c => if c = true then a D ρ else b D ρ) (D.xd ρ)
theorem qs_if {c : Expr} {a b : List Stmt} {pos : Pos} {t : DT} {d e : DS} (hc : QT X W c t) (ha : QSs X W a d) (hb : QSs X W b e) : QS X W (.If c a b pos) (dIfS t d e) := PS.sub (ps_if hc ha hb) fun D σ H h => by
  obtain ⟨G0, H0, G, ρ, Dd, k, h, nx, rt, bk, ct, ex⟩ := h
  refine ⟨G0, H0, G, ρ, _, Dd.xd ρ, k, h, fun G1 H1 c k1 g1 q => ?_, xok_of ex⟩
  cases c with
  | true =>
    rw [if_pos rfl] at q ⊢
    exact ⟨G0, H0, G1, ρ, Dd, k1, q, nx, rt, bk, ct, ex⟩
  | false =>
    rw [if_neg Bool.false_ne_true] at q ⊢
    exact ⟨G0, H0, G1, ρ, Dd, k1, q, nx, rt, bk, ct, ex⟩
/-! ### a name's own list by its methods -/
theorem tyV_own {K : PySem.W.Frag} {H : Hp} {a : Addr} {xs : List V} (h : H a = some (.lst xs)) : tyV K "list" (.ref a) H := Or.inl ⟨rfl, _, SqL.of h⟩
def dApp (i : Nat) (de : DE) : DS := fun D ρ => ∃ ds, ρ[i]? = some (Slot.ow (.lst ds)) ∧ de ρ (fun d => ds.length < 100000 ∧ D.nx (ρ.set i (.ow (.lst (ds ++ [d]))))) (D.xd ρ)
theorem own_lst {K : PySem.W.Frag} {G0 H0 G H : Hp} {σ : L2.St} {ρ : Sto} {i : Nat} {ds : List PyData} (k : Ok K G0 H0 G H σ ρ) (hi : ρ[i]? = some (Slot.ow (.lst ds))) : ∃ a xs, σ[i]? = some (some (V.ref a)) ∧ H a = some (.lst xs) ∧ G a = none ∧ H0 a = none ∧ RpAll K G xs ds := by
  obtain ⟨a, ho, h1, h2, h3, h4, h5⟩ := k.ow i _ hi
  cases ho with
  | lst xs => exact ⟨a, xs, h1, h2, h3, h4, h5⟩
  | _ => exact h5.elim
theorem qs_app {i : Nat} {x : Str} {e : Expr} {de : DE} {p1 p2 p3 pos : Pos} (he : QE X W e de) (hs : swapsWith (.Call (.Attribute (.Name x p1) "append" p2) [e] [] p3) none pos.line X.env = pure false := by rfl)
    (hp : PE X (.Call (.Attribute (.Name x p1) "append" p2) [e] [] p3) (tBM X.K "list" rAppend (tVar i) (tCons (upE X.K W de) tNil))) :
    QS X W (.Expr (.Call (.Attribute (.Name x p1) "append" p2) [e] [] p3) pos) (dApp i de) := PS.sub (ps_expr hp hs) fun D σ H h => by
  obtain ⟨G0, H0, G, ρ, Dd, k, ⟨ds, hi, h⟩, nx, rt, bk, ct, ex⟩ := h
  obtain ⟨a, xs, h1, h2, h3, h4, h5⟩ := own_lst k hi
  refine ⟨_, h1, tyV_own h2, G0, H0, G, ρ, _, Dd.xd ρ, k, h, fun G1 H1 v d k1 g1 rv q => ?_, xok_of ex⟩
  obtain ⟨a', xs', h1', h2', h3', h4', h5'⟩ := own_lst k1 hi
  rw [h1] at h1'
  cases h1'
  refine ⟨a, xs', v, rfl, rfl, h2', sz_lt (by rw [rpa_length h5']; exact q.1), ?_⟩
  exact nx G1 _ σ _ (k1.mutOw (o' := .lst (ds ++ [d])) hi h1 (show RpAll _ _ _ _ from rpa_append h5' (.cons rv .nil))) q.2
def dClear (i : Nat) : DS := fun D ρ => ∃ ds, ρ[i]? = some (Slot.ow (.lst ds)) ∧ D.nx (ρ.set i (.ow (.lst [])))
theorem qs_clear {i : Nat} {x : Str} {p1 p2 p3 pos : Pos} (hs : swapsWith (.Call (.Attribute (.Name x p1) "clear" p2) [] [] p3) none pos.line X.env = pure false := by rfl)
    (hp : PE X (.Call (.Attribute (.Name x p1) "clear" p2) [] [] p3) (tBM0 X.K "list" rClear (tVar i))) : QS X W (.Expr (.Call (.Attribute (.Name x p1) "clear" p2) [] [] p3) pos) (dClear i) := PS.sub (ps_expr hp hs) fun D σ H h => by
  obtain ⟨G0, H0, G, ρ, Dd, k, ⟨ds, hi, h⟩, nx, rt, bk, ct, ex⟩ := h
  obtain ⟨a, xs, h1, h2, h3, h4, h5⟩ := own_lst k hi
  exact ⟨_, h1, tyV_own h2, a, xs, rfl, rfl, h2, nx G _ σ _ (k.mutOw (o' := .lst []) hi h1 (show RpAll _ _ _ _ from .nil)) h⟩
/-- xs.extend(ys), ys data -/
def dExt (i : Nat) (de : DE) : DS := fun D ρ => ∃ ds, ρ[i]? = some (Slot.ow (.lst ds)) ∧ de ρ (fun d => ∃ es, d = .list es ∧ ds.length + es.length ≤ 100000 ∧ D.nx (ρ.set i (.ow (.lst (ds ++ es))))) (D.xd ρ)
theorem qs_ext {i : Nat} {x : Str} {e : Expr} {de : DE} {p1 p2 p3 pos : Pos} (he : QE X W e de) (hs : swapsWith (.Call (.Attribute (.Name x p1) "extend" p2) [e] [] p3) none pos.line X.env = pure false := by rfl)
    (hp : PE X (.Call (.Attribute (.Name x p1) "extend" p2) [e] [] p3) (tBM X.K "list" rExtend (tVar i) (tCons (upE X.K W de) tNil))) :
    QS X W (.Expr (.Call (.Attribute (.Name x p1) "extend" p2) [e] [] p3) pos) (dExt i de) := PS.sub (ps_expr hp hs) fun D σ H h => by
  obtain ⟨G0, H0, G, ρ, Dd, k, ⟨ds, hi, h⟩, nx, rt, bk, ct, ex⟩ := h
  obtain ⟨a, xs, h1, h2, h3, h4, h5⟩ := own_lst k hi
  refine ⟨_, h1, tyV_own h2, G0, H0, G, ρ, _, Dd.xd ρ, k, h, fun G1 H1 v d k1 g1 rv q => ?_, xok_of ex⟩
  obtain ⟨es, rfl, hz, q⟩ := q
  obtain ⟨a', xs', h1', h2', h3', h4', h5'⟩ := own_lst k1 hi
  rw [h1] at h1'
  cases h1'
  cases rv with
  | lst l1 l2 =>
    refine ⟨a, _, xs', _, rfl, rfl, h2', k1.gh _ _ l1, sz_of (by rw [rpa_length h5', rpa_length l2]; exact hz), ?_⟩
    exact nx G1 _ σ _ (k1.mutOw (o' := .lst (ds ++ es)) hi h1 (show RpAll _ _ _ _ from rpa_append h5' l2)) q
end
end WH

namespace WH
open PySem PySem.Spec L2

/-! ### what is walked -/
abbrev DI := Sto → (List PyData → Prop) → XD → Prop
/-- while the shared part stands, the walk yields the things ds -/
def IterOk (K : PySem.W.Frag) (J : It) (G : Hp) (ds : List PyData) : Prop := ∀ G1 H1, Same G G1 → Same G1 H1 → ∀ i : Nat,
  (i < ds.length → J.go i H1) ∧ (ds.length ≤ i → J.stop i H1) ∧ ∀ d x H2, ds[i]? = some d → J.yld i H1 x H2 → ∃ G2, Gr G1 H1 G2 H2 ∧ Same G2 H2 ∧ Rp K G2 x d
def upI (K : PySem.W.Frag) (W : XW) (di : DI) : TI := fun σ H R => ∃ G0 H0 G ρ Qd Xd, Ok K G0 H0 G H σ ρ ∧ di ρ Qd Xd ∧ (∀ G' H' J ds, Ok K G0 H0 G' H' σ ρ → Gr G H G' H' → IterOk K J G' ds → Qd ds → R J H') ∧ XOk K W G0 H0 G σ ρ Xd
def QI (X : Cx) (W : XW) (tg iter : Expr) (di : DI) : Prop := PI X tg iter (upI X.K W di)
theorem PI.sub {X : Cx} {tg e : Expr} {t t' : TI} (h : PI X tg e t) (s : ∀ σ H R, t' σ H R → t σ H R) : PI X tg e t' := ⟨fun pins st σ H R I hw => h.run pins st σ H R I (s σ H R hw)⟩
section
variable {X : Cx} {W : XW} {tg : Expr}
/-- a list or a tuple -/
def iSeq (K : PySem.W.Frag) (tl : TE) : TI := fun σ H R => tl σ H fun x H1 => ∃ a, x = .ref a ∧ (((∃ xs, SqL K H1 a xs) ∧ R (Itl K a) H1) ∨ ((∃ xs, SqT K H1 a xs) ∧ R (Itt K a) H1))
theorem pi_seq {l : Expr} {tl : TE} (hl : PE X l tl) : PI X tg l (iSeq X.K tl) := by
  refine ⟨fun pins s σ H R I h => ?_⟩
  refine thn (hl.run pins s σ H _ I h) fun v s1 ⟨x, H1, I1, r1, q1⟩ => ?_
  obtain ⟨a, e, q⟩ := q1
  subst e
  cases r1
  rcases q with ⟨⟨xs, hq⟩, q⟩ | ⟨⟨xs, hq⟩, q⟩
  · obtain ⟨its, rv, p, hz⟩ := I1.list hq
    refine wpAny_pyIter_list p.isList ?_
    refine ⟨s1.heap.objs.size, [s1.heap.objs.size], _, _, H1, rfl, I1.kept (t' := s1.toks) fun b o e => Heap.get?_push_of_some _ e, turn_list a _, ⟨_, Heap.get?_push_size _ rfl, rfl, rfl⟩, fun b hb => ?_, q⟩
    have e : b = s1.heap.objs.size := by simpa using hb
    subst e
    exact I1.fpOk (Nat.le_refl _) (I1.hok.fresh (Nat.le_refl _))
  · obtain ⟨its, rv, p, hz⟩ := I1.tuple hq
    refine wpAny_pyIter_tuple (show s1.heap.IsTuple a its.toArray from p) ?_
    refine ⟨s1.heap.objs.size, [s1.heap.objs.size], _, _, H1, rfl, I1.kept (t' := s1.toks) fun b o e => Heap.get?_push_of_some _ e, turn_tuple a _, ⟨_, Heap.get?_push_size _ rfl, rfl, rfl⟩, fun b hb => ?_, q⟩
    have e : b = s1.heap.objs.size := by simpa using hb
    subst e
    exact I1.fpOk (Nat.le_refl _) (I1.hok.fresh (Nat.le_refl _))
theorem grow_refl {K : PySem.W.Frag} {G1 H1 : Hp} {x : V} {d : PyData} (gh : Same G1 H1) (r : Rp K G1 x d) : ∃ G2, Gr G1 H1 G2 H1 ∧ Same G2 H1 ∧ Rp K G2 x d := ⟨G1, Gr.refl, gh, r⟩
theorem iter_list {K : PySem.W.Frag} {G : Hp} {a : Addr} {xs : List V} {ds : List PyData} (h : G a = some (.lst xs)) (r : RpAll K G xs ds) : IterOk K (Itl K a) G ds := fun G1 H1 g gh i => by
  have hl := rpa_length r
  have hq : SqL K H1 a xs := SqL.of (gh _ _ (g _ _ h))
  refine ⟨fun hi => ?_, fun hi => ⟨xs, hq, by omega⟩, fun d x H2 hd hy => ?_⟩
  · exact ⟨xs, xs[i]'(by omega), hq, by simp [show i < xs.length by omega]⟩
  · obtain ⟨rfl, hx⟩ := hy
    obtain ⟨v, e1, e2⟩ := rpa_get r hd
    rw [hx xs hq] at e1
    cases e1
    exact grow_refl gh (rp_mono g e2)
theorem iter_tup {K : PySem.W.Frag} {G : Hp} {a : Addr} {xs : List V} {ds : List PyData} (h : SqT K G a xs) (r : RpAll K G xs ds) : IterOk K (Itt K a) G ds := fun G1 H1 g gh i => by
  have hl := rpa_length r
  have hq : SqT K H1 a xs := sqT_mono (g.trans gh) h
  refine ⟨fun hi => ?_, fun hi => ⟨xs, hq, by omega⟩, fun d x H2 hd hy => ?_⟩
  · exact ⟨xs, xs[i]'(by omega), hq, by simp [show i < xs.length by omega]⟩
  · obtain ⟨rfl, hx⟩ := hy
    obtain ⟨v, e1, e2⟩ := rpa_get r hd
    rw [hx xs hq] at e1
    cases e1
    exact grow_refl gh (rp_mono g e2)
def dIt (de : DE) : DI := fun ρ Q X => de ρ (fun d => ∃ b ds, d = dat b ds ∧ Q ds) X
/-- for x in e: a list or a tuple -/
theorem qi_e {e : Expr} {de : DE} (he : QE X W e de) : QI X W tg e (dIt de) := PI.sub (pi_seq he) fun σ H R h => by
  obtain ⟨G0, H0, G, ρ, Qd, Xd, k, h, fn, xo⟩ := h
  refine ⟨G0, H0, G, ρ, _, Xd, k, h, fun G1 H1 v d k1 g1 rv q => ?_, xo⟩
  obtain ⟨b, ds, rfl, q⟩ := q
  cases b with
  | false =>
    cases rv with
    | lst l1 l2 => exact ⟨_, rfl, .inl ⟨⟨_, SqL.of (k1.gh _ _ l1)⟩, fn G1 H1 _ ds k1 g1 (iter_list l1 l2) q⟩⟩
  | true =>
    cases rv with
    | tup l1 l2 => exact ⟨_, rfl, .inr ⟨⟨_, sqT_mono k1.gh l1⟩, fn G1 H1 _ ds k1 g1 (iter_tup l1 l2) q⟩⟩
def rngD (lo : Int) (n : Nat) : List PyData := (List.range n).map fun (i : Nat) => PyData.int (lo + (i : Int))
theorem iter_rng {K : PySem.W.Frag} {G : Hp} {lo : Int} {n : Nat} : IterOk K (Itr lo n) G (rngD lo n) := fun G1 H1 g gh i => by
  have hl : (rngD lo n).length = n := by simp [rngD]
  refine ⟨fun hi => by rw [hl] at hi; exact hi, fun hi => by rw [hl] at hi; exact hi, fun d x H2 hd hy => ?_⟩
  obtain ⟨rfl, rfl⟩ := hy
  have hi : i < n := by
    have := (List.getElem?_eq_some_iff.mp hd).1
    omega
  have e : d = .int (lo + (i : Int)) := by
    simp [rngD, hi] at hd
    exact hd.symm
  subst e
  exact grow_refl gh (.int _)
def dRng1 (de : DE) : DI := fun ρ Q X => de ρ (fun d => ∃ n, d = .int n ∧ n ≤ 100000 ∧ -100000 ≤ n ∧ Q (rngD 0 n.toNat)) X
theorem qi_range1 {e : Expr} {p pos : Pos} {de : DE} (hm : X.mg "range" = none) (he : QE X W e de) (hg : Gl X "range" := by rfl) (hs : starEach [e] X.env = [(false, eval e X.env)] := by rfl) : QI X W tg (.Call (.Name "range" p) [e] [] pos) (dRng1 de) :=
  PI.sub (pi_range1 hg hm (qa_cons (W := W) he qa_nil hs) hs) fun σ H R h => by
  obtain ⟨G0, H0, G, ρ, Qd, Xd, k, h, fn, xo⟩ := h
  refine ⟨G0, H0, G, ρ, fun ds => ∃ n, ds = [.int n] ∧ n ≤ 100000 ∧ -100000 ≤ n ∧ Qd (rngD 0 n.toNat), Xd, k, ?_, fun G1 H1 vs ds k1 g1 rv q => ?_, xo⟩
  · have e : (fun x => dNil ρ (fun xs => ∃ n, x :: xs = [PyData.int n] ∧ n ≤ 100000 ∧ -100000 ≤ n ∧ Qd (rngD 0 n.toNat)) Xd) = fun d => ∃ n, d = .int n ∧ n ≤ 100000 ∧ -100000 ≤ n ∧ Qd (rngD 0 n.toNat) := by
      funext x
      simp [dNil]
    show de ρ (fun x => dNil ρ (fun xs => ∃ n, x :: xs = [PyData.int n] ∧ n ≤ 100000 ∧ -100000 ≤ n ∧ Qd (rngD 0 n.toNat)) Xd) Xd
    rw [e]
    exact h
  · obtain ⟨n, rfl, n1, n2, q⟩ := q
    cases rv with
    | cons r1 r2 =>
      cases r1
      cases r2
      exact ⟨n, rfl, by omega, by omega, fn G1 H1 _ _ k1 g1 iter_rng q⟩
def dRng2 (de df : DE) : DI := fun ρ Q X => de ρ (fun d => df ρ (fun e => ∃ m n, d = .int m ∧ e = .int n ∧ -100000 ≤ m ∧ m ≤ 100000 ∧ n ≤ 100000 ∧ -100000 ≤ n ∧ Q (rngD m (n - m).toNat)) X) X
theorem qi_range2 {e f : Expr} {p pos : Pos} {de df : DE} (hm : X.mg "range" = none) (he : QE X W e de) (hf : QE X W f df) (hg : Gl X "range" := by rfl) (hs : starEach [e, f] X.env = [(false, eval e X.env), (false, eval f X.env)] := by rfl) (hs2 : starEach [f] X.env = [(false, eval f X.env)] := by rfl) : QI X W tg (.Call (.Name "range" p) [e, f] [] pos) (dRng2 de df) :=
  PI.sub (pi_range2 hg hm (qa_cons (W := W) he (qa_cons hf qa_nil hs2) (by rw [hs, hs2])) hs hs2) fun σ H R h => by
  obtain ⟨G0, H0, G, ρ, Qd, Xd, k, h, fn, xo⟩ := h
  refine ⟨G0, H0, G, ρ, fun ds => ∃ m n, ds = [.int m, .int n] ∧ -100000 ≤ m ∧ m ≤ 100000 ∧ n ≤ 100000 ∧ -100000 ≤ n ∧ Qd (rngD m (n - m).toNat), Xd, k, ?_, fun G1 H1 vs ds k1 g1 rv q => ?_, xo⟩
  · have e : (fun x => df ρ (fun y => dNil ρ (fun xs => ∃ m n, x :: y :: xs = [PyData.int m, PyData.int n] ∧ -100000 ≤ m ∧ m ≤ 100000 ∧ n ≤ 100000 ∧ -100000 ≤ n ∧ Qd (rngD m (n - m).toNat)) Xd) Xd) = fun d => df ρ (fun e => ∃ m n, d = .int m ∧ e = .int n ∧ -100000 ≤ m ∧ m ≤ 100000 ∧ n ≤ 100000 ∧ -100000 ≤ n ∧ Qd (rngD m (n - m).toNat)) Xd := by
      funext x
      congr 1
      funext y
      simp [dNil, and_assoc]
    show de ρ (fun x => df ρ (fun y => dNil ρ (fun xs => ∃ m n, x :: y :: xs = [PyData.int m, PyData.int n] ∧ -100000 ≤ m ∧ m ≤ 100000 ∧ n ≤ 100000 ∧ -100000 ≤ n ∧ Qd (rngD m (n - m).toNat)) Xd) Xd) Xd
    rw [e]
    exact h
  · obtain ⟨m, n, rfl, m1, m2, n1, n2, q⟩ := q
    cases rv with
    | cons r1 r2 =>
      cases r2 with
      | cons r2 r3 =>
        cases r1
        cases r2
        cases r3
        exact ⟨m, n, rfl, ⟨by omega, by omega, by omega, by omega⟩, fn G1 H1 _ _ k1 g1 iter_rng q⟩

theorem Ok.rebase {K : PySem.W.Frag} {G0 H0 G H : Hp} {σ : L2.St} {ρ : Sto} (k : Ok K G0 H0 G H σ ρ) : Ok K G H0 G H σ ρ := ⟨k.gh, Same.refl _, k.h0, fun a o e => .inl e, k.len, k.sh, k.ow, k.ap⟩
theorem nw_trans {G0 H0 G G' : Hp} (n1 : ∀ a o, G a = some o → G0 a = some o ∨ H0 a = none) (n2 : ∀ a o, G' a = some o → G a = some o ∨ H0 a = none) : ∀ a o, G' a = some o → G0 a = some o ∨ H0 a = none := fun a o e => by
  rcases n2 a o e with z | z
  · exact n1 a o z
  · exact .inr z
theorem Ok.unbase {K : PySem.W.Frag} {G0 H0 G H G' H' : Hp} {σ σ' : L2.St} {ρ ρ' : Sto} (k : Ok K G0 H0 G H σ ρ) (k' : Ok K G H0 G' H' σ' ρ') : Ok K G0 H0 G' H' σ' ρ' := ⟨k'.gh, k.g0.trans k'.g0, k'.h0, nw_trans k.nw k'.nw, k'.len, k'.sh, k'.ow, k'.ap⟩
theorem RetOk.unbase {K : PySem.W.Frag} {G0 H0 G H : Hp} {σ : L2.St} {ρ : Sto} {s : Slot} {v : V} {H' : Hp} (k : Ok K G0 H0 G H σ ρ) (r : RetOk K G H0 s v H') : RetOk K G0 H0 s v H' := by
  obtain ⟨G', r1, r2, r3, r4, r5⟩ := r
  exact ⟨G', k.g0.trans r1, r2, r3, nw_trans k.nw r4, r5⟩
/-! ### for -/
def forW (dg : DG) (body : DS) (D : DEnds) : List PyData → Sto → Prop
  | [], ρ => D.nx ρ
  | d :: ds, ρ => dg d ρ fun ρ2 => body { D with nx := forW dg body D ds, ct := forW dg body D ds, bk := D.nx } ρ2
def dFor (di : DI) (dg : DG) (body : DS) : DS := fun D ρ => di ρ (fun ds => forW dg body D ds ρ) (D.xd ρ)
theorem up_for {K : PySem.W.Frag} {vs : List Nat} {di : DI} {dg : DG} {body : DS} (D : Ends) (σ : L2.St) (H : Hp) (h : upS K W (dFor di dg body) D σ H) : tFor (upI K W di) (upG K vs dg) (upS K W body) D σ H := by
  obtain ⟨G0, H0, G, ρ, Dd, k, h, nx, rt, bk, ct, ex⟩ := h
  refine ⟨G0, H0, G, ρ, _, Dd.xd ρ, k, h, fun G1 H1 J ds k1 g1 it q => ?_, xok_of ex⟩
  refine ⟨fun i m σ' H' => m = ds.length - i ∧ i ≤ ds.length ∧ ∃ G' ρ', Same G1 G' ∧ Ok K G0 H0 G' H' σ' ρ' ∧ forW dg body Dd (ds.drop i) ρ', ⟨ds.length, by omega, Nat.zero_le _, G1, ρ, Same.refl _, k1, q⟩, ?_⟩
  rintro i m σ' H' ⟨rfl, hi, G', ρ', gg, k', q'⟩
  obtain ⟨i1, i2, i3⟩ := it G' H' gg k'.gh i
  by_cases hlt : i < ds.length
  · refine .inr ⟨i1 hlt, fun σ2 H2 => ∃ G2 ρ2, Same G1 G2 ∧ Ok K G0 H0 G2 H2 σ2 ρ2 ∧ forW dg body Dd (ds.drop (i + 1)) ρ2, fun σ2 H2 ⟨G2, ρ2, a1, a2, a3⟩ => ⟨ds.length - (i + 1), by omega, rfl, by omega, G2, ρ2, a1, a2, a3⟩, fun x H2 hy => ?_⟩
    have hd : ds[i]? = some ds[i] := by simp [hlt]
    obtain ⟨G2, e1, e3, e5⟩ := i3 _ x H2 hd hy
    have k2 : Ok K G0 H0 G2 H2 σ' ρ' := k'.grow e1.gg e1.hh e3 e1.nw
    rw [List.drop_eq_getElem_cons hlt] at q'
    refine ⟨G0, H0, G2, ρ', ds[i], _, k2, e5, q', fun σ3 ρ3 k3 _ _ q3 => ?_⟩
    have nxt : ∀ G4 H4 σ4 ρ4, Ok K G2 H0 G4 H4 σ4 ρ4 → forW dg body Dd (ds.drop (i + 1)) ρ4 → ∃ G5 ρ5, Same G1 G5 ∧ Ok K G0 H0 G5 H4 σ4 ρ5 ∧ forW dg body Dd (ds.drop (i + 1)) ρ5 := fun G4 H4 σ4 ρ4 k4 q4 => ⟨G4, ρ4, (gg.trans e1.gg).trans k4.g0, k3.unbase k4, q4⟩
    exact ⟨G2, H0, G2, ρ3, _, k3.rebase, q3, nxt, fun s v H5 r q => rt s v H5 (RetOk.unbase k3 r) q, fun G4 H4 σ4 ρ4 k4 q4 => nx G4 H4 σ4 ρ4 (k3.unbase k4) q4, nxt, fun G4 H4 σ4 ρ4 x cls d k4 e4 q4 => ex G4 H4 σ4 ρ4 x cls d (k3.unbase k4) e4 q4⟩
  · have e : ds.drop i = [] := List.drop_eq_nil_of_le (by omega)
    rw [e] at q'
    exact .inl ⟨i2 (by omega), nx G' H' σ' ρ' k' q'⟩
theorem qs_for {iter : Expr} {body : List Stmt} {vs : List Nat} {di : DI} {dg : DG} {db : DS} {pos : Pos} (hp : PassesOwn (model X.prog X.w) X.A X.env X.xe) (hc : X.calm = true) (hi : QI X W tg iter di) (hg : QG X vs tg dg) (hb : QSs X W body db)
    (hs : ∀ x, foldedSetIterable iter X.env x = pure x := by intro _; rfl) : QS X W (.For tg iter body [] pos) (dFor di dg db) := PS.sub (ps_for hp hc hi hg hb hs) up_for
/-! ### while: an invariant over the store, a measure -/
def dWhile (t : DT) (body : DS) : DS := fun D ρ => ∃ I : Nat → Sto → Prop, (∃ m, I m ρ) ∧ ∀ m ρ', I m ρ' → t ρ' (fun b => if b = true then body { D with nx := fun ρ2 => ∃ m', m' < m ∧ I m' ρ2, ct := fun ρ2 => ∃ m', m' < m ∧ I m' ρ2, bk := D.nx } ρ' else D.nx ρ') (D.xd ρ')
theorem qs_while {c : Expr} {body : List Stmt} {t : DT} {db : DS} {pos : Pos} (hp : PassesOwn (model X.prog X.w) X.A X.env X.xe) (hc : QT X W c t) (hb : QSs X W body db) : QS X W (.While c body [] pos) (dWhile t db) := PS.sub (ps_while hp hc hb) fun D σ H h => by
  obtain ⟨G0, H0, G, ρ, Dd, k, ⟨I, ⟨m0, i0⟩, turn⟩, nx, rt, bk, ct, ex⟩ := h
  refine ⟨fun m σ' H' => ∃ G' ρ', Ok X.K G0 H0 G' H' σ' ρ' ∧ I m ρ', ⟨m0, G, ρ, k, i0⟩, ?_⟩
  rintro m σ' H' ⟨G', ρ', k', im⟩
  refine ⟨G0, H0, G', ρ', _, Dd.xd ρ', k', turn m ρ' im, fun G1 H1 b k1 g1 q => ?_, xok_of ex⟩
  cases b with
  | true =>
    rw [if_pos rfl] at q ⊢
    refine ⟨fun σ2 H2 => ∃ G2 ρ2, Ok X.K G0 H0 G2 H2 σ2 ρ2 ∧ ∃ m', m' < m ∧ I m' ρ2, fun σ2 H2 ⟨G2, ρ2, k2, m', hm, i2⟩ => ⟨m', hm, G2, ρ2, k2, i2⟩, ?_⟩
    exact ⟨G0, H0, G1, ρ', _, k1, q, fun G4 H4 σ4 ρ4 k4 q4 => ⟨G4, ρ4, k4, q4⟩, rt, nx, fun G4 H4 σ4 ρ4 k4 q4 => ⟨G4, ρ4, k4, q4⟩, ex⟩
  | false =>
    rw [if_neg Bool.false_ne_true] at q ⊢
    exact nx G1 H1 σ' ρ' k1 q
/-! ### list comprehensions -/
def wipeD (ρ : Sto) : List Nat → Sto
  | [] => ρ
  | v :: vs => (wipeD ρ vs).set v .no
theorem ok_wipe {K : PySem.W.Frag} {G0 H0 G H : Hp} {σ : L2.St} {ρ : Sto} (k : Ok K G0 H0 G H σ ρ) : ∀ vs : List Nat, Ok K G0 H0 G H (wipe σ vs) (wipeD ρ vs)
  | [] => k
  | v :: vs => (ok_wipe k vs).setNo
theorem wipe_get : ∀ (vs : List Nat) {σ : L2.St} {i : Nat}, i ∉ vs → (wipe σ vs)[i]? = σ[i]?
  | [], _, _, _ => rfl
  | v :: vs, σ, i, h => by
    unfold wipe
    rw [getElem_set_eq, if_neg (fun z => h (by rw [z]; exact List.mem_cons_self)), wipe_get vs fun z => h (List.mem_cons_of_mem _ z)]
theorem wipe_in : ∀ (vs : List Nat) {σ : L2.St} {i : Nat}, i ∈ vs → (wipe σ vs)[i]? = if i < σ.length then some none else none
  | [], _, _, h => absurd h (by simp)
  | v :: vs, σ, i, h => by
    unfold wipe
    rw [getElem_set_eq]
    by_cases hv : v = i
    · rw [if_pos hv, wipe_length, hv]
    · rw [if_neg hv]
      exact wipe_in vs ((List.mem_cons.mp h).resolve_left fun z => hv z.symm)
theorem wipe_eq {σ σ' : L2.St} {vs ws : List Nat} (hl : σ'.length = σ.length) (h : ∀ i, i ∉ vs → σ'[i]? = σ[i]?) (hw : ∀ i ∈ vs, i ∈ ws) : wipe σ' ws = wipe σ ws := by
  apply List.ext_getElem?
  intro i
  by_cases hi : i ∈ ws
  · rw [wipe_in ws hi, wipe_in ws hi, hl]
  · rw [wipe_get ws hi, wipe_get ws hi]
    exact h i fun z => hi (hw i z)
theorem wipe_wipe {σ : L2.St} (vs : List Nat) : wipe (wipe σ vs) vs = wipe σ vs := by
  apply List.ext_getElem?
  intro i
  by_cases hi : i ∈ vs
  · rw [wipe_in vs hi, wipe_in vs hi, wipe_length]
  · rw [wipe_get vs hi]
def noX : XD := fun _ => False
def lcW (dg : DG) (dt : DT) (de : DE) (ρ : Sto) (Q : List PyData → Prop) : List PyData → List PyData → Prop
  | [], acc => Q acc
  | d :: ds, acc => dg d ρ fun ρ2 => dt ρ2 (fun b => if b = true then de ρ2 (fun x => acc.length < 100000 ∧ lcW dg dt de ρ Q ds (acc ++ [x])) noX else lcW dg dt de ρ Q ds acc) noX
def dLc (vs : List Nat) (di : DI) (dg : DG) (dt : DT) (de : DE) : DO := fun ρ Q X => di ρ (fun ds => lcW dg dt de (wipeD ρ vs) (fun out => Q (.lst out)) ds []) X
abbrev W0 (mg : Str → Option Value) : XW := (mg, fun _ _ _ _ => False)
theorem xok_no {K : PySem.W.Frag} {W : XW} {G0 H0 G : Hp} {σ : L2.St} {ρ : Sto} : XOk K W G0 H0 G σ ρ noX := fun _ _ _ _ _ _ _ _ z => z.elim
theorem up_lc {K : PySem.W.Frag} {mg : Str → Option Value} {vs ws : List Nat} {di : DI} {dg : DG} {dt : DT} {de : DE} (hv : ∀ i ∈ vs, i ∈ ws) (σ : L2.St) (H : Hp) (Q : VK) (h : upO K W (dLc ws di dg dt de) σ H Q) : tLc (upI K W di) (upG K vs dg) (upT K (W0 mg) dt) (upE K (W0 mg) de) ws σ H Q := by
  obtain ⟨G0, H0, G, ρ, Qd, Xd, k, h, fn, xo⟩ := h
  refine ⟨G0, H0, G, ρ, _, Xd, k, h, fun G1 H1 J ds k1 g1 it q => ?_, xo⟩
  intro Dl hD
  have kD : Ok K G0 H0 G1 (upd H1 Dl (.lst [])) σ ρ := k1.fresh hD
  -- the list at Dl grows; nothing else names it
  have hun : ∀ {G2 H2 : Hp}, Gr G1 H1 G2 H2 → ∀ (j : Nat) (u : OD), ρ[j]? = some (Slot.ow u) → σ[j]? ≠ some (some (V.ref Dl)) := fun {G2 H2} _ j u e z => by
    obtain ⟨a, ho, z1, z2, _⟩ := k1.ow j u e
    rw [z1] at z
    cases z
    rw [hD] at z2
    cases z2
  refine ⟨fun i m H' => m = ds.length - i ∧ i ≤ ds.length ∧ ∃ G' xs acc, Gr G1 H1 G' H' ∧ Ok K G0 H0 G' H' σ ρ ∧ H' Dl = some (.lst xs) ∧ G' Dl = none ∧ RpAll K G' xs acc ∧ lcW dg dt de (wipeD ρ ws) (fun out => Qd (.lst out)) (ds.drop i) acc,
    ⟨ds.length, by omega, Nat.zero_le _, G1, [], [], Gr.fresh hD, kD, upd_same, k1.gh.free hD, .nil, q⟩, ?_⟩
  rintro i m H' ⟨rfl, hi, G', xs, acc, gg, k', hl, hg, ra, q'⟩
  obtain ⟨i1, i2, i3⟩ := it G' H' gg.gg k'.gh i
  by_cases hlt : i < ds.length
  · refine .inr ⟨i1 hlt, fun H2 => ∃ G2 ys acc2, Gr G1 H1 G2 H2 ∧ Ok K G0 H0 G2 H2 σ ρ ∧ H2 Dl = some (.lst ys) ∧ G2 Dl = none ∧ RpAll K G2 ys acc2 ∧ lcW dg dt de (wipeD ρ ws) (fun out => Qd (.lst out)) (ds.drop (i + 1)) acc2,
      fun H2 ⟨G2, ys, acc2, a1, a3, a4, a5, a6, a7⟩ => ⟨ds.length - (i + 1), by omega, rfl, by omega, G2, ys, acc2, a1, a3, a4, a5, a6, a7⟩, fun x H2 hy => ?_⟩
    have hd : ds[i]? = some ds[i] := by simp [hlt]
    obtain ⟨G2, e1, e3, e5⟩ := i3 _ x H2 hd hy
    have k2 : Ok K G0 H0 G2 H2 σ ρ := k'.grow e1.gg e1.hh e3 e1.nw
    rw [List.drop_eq_getElem_cons hlt] at q'
    refine ⟨G0, H0, G2, wipeD ρ ws, ds[i], _, ok_wipe k2 ws, e5, q', fun σ3 ρ3 k3 l3 s3 q3 => ⟨?_, ?_⟩⟩
    · rw [wipe_eq (σ := wipe σ ws) l3 s3 hv, wipe_wipe]
    · refine ⟨G0, H0, G2, ρ3, _, noX, k3, q3, fun G3 H3 b k4 g3 q4 => ?_, xok_no⟩
      have kk : ∀ {G4 H4 : Hp}, Gr G2 H2 G4 H4 → Same G4 H4 → Ok K G0 H0 G4 H4 σ ρ := fun {G4 H4} g gh => k2.grow g.gg g.hh gh g.nw
      cases b with
      | true =>
        dsimp only at q4 ⊢
        rw [if_pos rfl] at q4 ⊢
        refine ⟨G0, H0, G3, ρ3, _, noX, k4, q4, fun G4 H4 v d k5 g4 rv q5 => ?_, xok_no⟩
        have g34 := (g3.trans g4)
        have hl4 : H4 Dl = some (.lst xs) := g34.hh _ _ (e1.hh _ _ hl)
        have hg4 : G4 Dl = none := (e1.trans g34).out hg hl
        refine ⟨xs, hl4, sz_lt (by rw [rpa_length ra]; exact q5.1), G4, xs ++ [v], acc ++ [d], ?_, ?_, upd_same, hg4, rpa_append (rpa_mono (e1.trans g34).gg ra) (.cons rv .nil), q5.2⟩
        · have g := gg.trans (e1.trans g34)
          exact ⟨g.gg, same_mut g.hh hD, g.nw⟩
        · have k6 := kk g34 k5.gh
          refine ⟨same_mut k6.gh hg4, k6.g0, same_mut k6.h0 (k1.h0.free hD), k6.nw, k6.len, k6.sh, fun j o ho => ?_, k6.ap⟩
          obtain ⟨a, ho', b1, b2, b3, b4, b5⟩ := k6.ow j o ho
          have ne : a ≠ Dl := fun z => hun (gg.trans (e1.trans g34)) j o ho (by rw [← z]; exact b1)
          exact ⟨a, ho', b1, by rw [upd_ne ne]; exact b2, b3, b4, b5⟩
      | false =>
        dsimp only at q4 ⊢
        rw [if_neg Bool.false_ne_true] at q4 ⊢
        exact ⟨G3, xs, acc, gg.trans (e1.trans g3), kk g3 k4.gh, g3.hh _ _ (e1.hh _ _ hl), (e1.trans g3).out hg hl, rpa_mono (e1.trans g3).gg ra, q4⟩
  · have e : ds.drop i = [] := List.drop_eq_nil_of_le (by omega)
    rw [e] at q'
    exact .inl ⟨i2 (by omega), fn G' H' Dl (.lst xs) (.lst acc) k' (g1.trans gg) (g1.hh.free hD) hg hl ra q'⟩
def dYes : DT := fun _ Q _ => Q true
def QTs (X : Cx) (W : XW) (ifs : List Expr) (dt : DT) : Prop := PTs X ifs (upT X.K W dt)
theorem PTs.sub {X : Cx} {e : List Expr} {t t' : TT} (h : PTs X e t) (s : ∀ σ H Q, t' σ H Q → t σ H Q) : PTs X e t' := ⟨fun pins st σ H Q I hw => h.run pins st σ H Q I (s σ H Q hw)⟩
theorem qts_nil : QTs X W [] dYes := PTs.sub pts_nil fun σ H Q h => by
  obtain ⟨G0, H0, G, ρ, Qd, Xd, k, h, fn, xo⟩ := h
  exact fn G H true k Gr.refl h
theorem qts_one {c : Expr} {dt : DT} (h : QT X W c dt) : QTs X W [c] dt := pts_one h
theorem qo_lc {elt iter : Expr} {ifs : List Expr} {scope : Scope} {own : List (Str × Nat)} {pos : Pos} {vs ws : List Nat} {di : DI} {dg : DG} {dt : DT} {de : DE} (hc : X.calm = true) (hN : X.N.Nodup) (hi : QI X W tg iter di) (ok : BlkOk X.N X.env.scope scope own)
    (hg : ∀ (s : Shared) (H : Hp) (C : Addr) (cl : List (Str × Addr)) (fp : List Addr), QG (X.blk s H scope (compEnvC scope cl C X.env) fp) vs tg dg) (ht : ∀ (s : Shared) (H : Hp) (C : Addr) (cl : List (Str × Addr)) (fp : List Addr), QTs (X.blk s H scope (compEnvC scope cl C X.env) fp) (W0 X.mg) ifs dt)
    (he : ∀ (s : Shared) (H : Hp) (C : Addr) (cl : List (Str × Addr)) (fp : List Addr), QE (X.blk s H scope (compEnvC scope cl C X.env) fp) (W0 X.mg) elt de) (hw : own.map (·.2) = ws := by rfl) (hv : ∀ i ∈ vs, i ∈ ws := by decide) (hs : ∀ x, foldedSetIterable iter X.env x = pure x := by intro _; rfl) :
    QO X W (.ListComp elt [⟨tg, iter, ifs, 0⟩] scope pos) (dLc ws di dg dt de) := by
  subst hw
  exact PE.sub (pe_lc (g := upG X.K vs dg) (tt := upT X.K (W0 X.mg) dt) (te := upE X.K (W0 X.mg) de) hc hN hi ok hg ht he hs) (up_lc hv)
/-- y = [..], y a local name -/
theorem qs_setLcO {i : Nat} {y : Str} {py : Pos} {elt iter : Expr} {ifs : List Expr} {scope : Scope} {own : List (Str × Nat)} {pos spos : Pos} {vs ws : List Nat} {di : DI} {dg : DG} {dt : DT} {de : DE} (hc : X.calm = true) (hN : X.N.Nodup) (hsw : swapsWith (.ListComp elt [⟨tg, iter, ifs, 0⟩] scope pos) (some (.Name y py)) spos.line X.env = pure true)
    (hi : QI X W tg iter di) (ok : BlkOk X.N X.env.scope scope own)
    (hg : ∀ (s : Shared) (H : Hp) (C : Addr) (cl : List (Str × Addr)) (fp : List Addr), QG (X.blk s H scope (compEnvC scope cl C X.env) fp) vs tg dg) (ht : ∀ (s : Shared) (H : Hp) (C : Addr) (cl : List (Str × Addr)) (fp : List Addr), QTs (X.blk s H scope (compEnvC scope cl C X.env) fp) (W0 X.mg) ifs dt)
    (he : ∀ (s : Shared) (H : Hp) (C : Addr) (cl : List (Str × Addr)) (fp : List Addr), QE (X.blk s H scope (compEnvC scope cl C X.env) fp) (W0 X.mg) elt de) (hy : X.N[i]? = some y := by rfl) (hyl : X.env.scope.names.lookup y = some .local := by rfl) (hw : own.map (·.2) = ws := by rfl) (hv : ∀ i ∈ vs, i ∈ ws := by decide) (hs : ∀ x, foldedSetIterable iter X.env x = pure x := by intro _; rfl) :
    QS X W (.Assign [.Name y py] (.ListComp elt [⟨tg, iter, ifs, 0⟩] scope pos) spos) (dAsgO i (dLc ws di dg dt de)) := by
  subst hw
  exact PS.sub (ps_setLc (g := upG X.K vs dg) (tt := upT X.K (W0 X.mg) dt) (te := upE X.K (W0 X.mg) de) hc hN hy hyl hsw hi ok hg ht he hs) (up_asgO (up_lc hv))
theorem up_OE {K : PySem.W.Frag} {t : TE} {dd : DO} (ht : ∀ σ H Q, upO K W dd σ H Q → t σ H Q) (σ : L2.St) (H : Hp) (Q : VK) (h : upE K W (dOfO dd) σ H Q) : t σ H Q := by
  obtain ⟨G0, H0, G, ρ, Qd, Xd, k, h, fn, xo⟩ := h
  refine ht σ H Q ⟨G0, H0, G, ρ, _, Xd, k, h, fun G1 H1 p ho o k1 g1 n1 n2 n3 n4 hb => ?_, xo⟩
  obtain ⟨ds, rfl, q⟩ := hb
  cases ho with
  | lst xs =>
    refine fn (upd G1 p (.lst xs)) H1 (.ref p) (.list ds) (k1.freeze n3 n2 (k.h0.free n1) fun i u e z => ?_) ⟨g1.gg.trans (same_upd n2), g1.hh, fun a u e => by
      by_cases ha : a = p
      · subst ha; exact .inr n1
      · rw [upd_ne ha] at e; exact g1.nw a u e⟩ (rp_lstNew n2 n4) q
    obtain ⟨a, ho', z1, z2, _⟩ := k.ow i u e
    rw [z1] at z
    cases z
    rw [n1] at z2
    cases z2
  | _ => exact n4.elim
theorem qs_setLc {i : Nat} {y : Str} {py : Pos} {elt iter : Expr} {ifs : List Expr} {scope : Scope} {own : List (Str × Nat)} {pos spos : Pos} {vs ws : List Nat} {di : DI} {dg : DG} {dt : DT} {de : DE} (hc : X.calm = true) (hN : X.N.Nodup) (hsw : swapsWith (.ListComp elt [⟨tg, iter, ifs, 0⟩] scope pos) (some (.Name y py)) spos.line X.env = pure true)
    (hi : QI X W tg iter di) (ok : BlkOk X.N X.env.scope scope own)
    (hg : ∀ (s : Shared) (H : Hp) (C : Addr) (cl : List (Str × Addr)) (fp : List Addr), QG (X.blk s H scope (compEnvC scope cl C X.env) fp) vs tg dg) (ht : ∀ (s : Shared) (H : Hp) (C : Addr) (cl : List (Str × Addr)) (fp : List Addr), QTs (X.blk s H scope (compEnvC scope cl C X.env) fp) (W0 X.mg) ifs dt)
    (he : ∀ (s : Shared) (H : Hp) (C : Addr) (cl : List (Str × Addr)) (fp : List Addr), QE (X.blk s H scope (compEnvC scope cl C X.env) fp) (W0 X.mg) elt de) (hy : X.N[i]? = some y := by rfl) (hyl : X.env.scope.names.lookup y = some .local := by rfl) (hw : own.map (·.2) = ws := by rfl) (hv : ∀ i ∈ vs, i ∈ ws := by decide) (hs : ∀ x, foldedSetIterable iter X.env x = pure x := by intro _; rfl) :
    QS X W (.Assign [.Name y py] (.ListComp elt [⟨tg, iter, ifs, 0⟩] scope pos) spos) (dAsg i (dOfO (dLc ws di dg dt de))) := by
  subst hw
  exact PS.sub (ps_setLc (g := upG X.K vs dg) (tt := upT X.K (W0 X.mg) dt) (te := upE X.K (W0 X.mg) de) hc hN hy hyl hsw hi ok hg ht he hs) (up_asg (up_OE (up_lc hv)))

/-! ### defs: contracts by data -/
abbrev Ct := List PyData → (Slot → Prop) → XD → Prop
def PSp (K : PySem.W.Frag) (mg : Str → Option Value) (C : Ct) : Sp := fun vs H Q E => ∃ G ds R Xd, Same G H ∧ RpAll K G vs ds ∧ C ds R Xd ∧ (∀ s v H', RetOk K G H s v H' → R s → Q v H') ∧
  ∀ G' H' x cls d, Same G G' → Same H H' → Same G' H' → (∀ a o, G' a = some o → G a = some o ∨ H a = none) → ExcOk K mg G' H' x cls d → Xd x → E cls d H'
def slotD : Slot → Option PyData
  | .sh d => some d
  | .ow (.lst ds) => some (.list ds)
  | _ => none
def dCall (C : Ct) (da : DA) : DE := fun ρ Q X => da ρ (fun ds => C ds (fun s => ∃ d, slotD s = some d ∧ Q d) X) X
def dCallO (C : Ct) (da : DA) : DO := fun ρ Q X => da ρ (fun ds => C ds (fun s => ∃ o, s = .ow o ∧ Q o) X) X
/-- behind a call the caller's state stands -/
theorem RetOk.sh {K : PySem.W.Frag} {G0 H0 G H : Hp} {σ : L2.St} {ρ : Sto} {s : Slot} {v : V} {H' : Hp} {d : PyData} (k : Ok K G0 H0 G H σ ρ) (r : RetOk K G H s v H') (hd : slotD s = some d) : ∃ G', Ok K G0 H0 G' H' σ ρ ∧ Gr G H G' H' ∧ Rp K G' v d := by
  obtain ⟨G', r1, r2, r3, r4, r5⟩ := r
  have k' : Ok K G0 H0 G' H' σ ρ := k.grow r1 r2 r3 r4
  cases s with
  | no => exact r5.elim
  | sh e =>
    cases hd
    exact ⟨G', k', ⟨r1, r2, r4⟩, r5⟩
  | ow o =>
    obtain ⟨p, ho, rfl, n1, n2, n3, n4⟩ := r5
    cases o with
    | lst ds =>
      cases hd
      cases ho with
      | lst xs =>
        refine ⟨upd G' p (.lst xs), k'.freeze n3 n2 (k.h0.free n1) fun i u e z => ?_, ⟨r1.trans (same_upd n2), r2, fun a u e => ?_⟩, rp_lstNew n2 n4⟩
        · obtain ⟨a, ho', z1, z2, _⟩ := k.ow i u e
          rw [z1] at z
          cases z
          rw [n1] at z2
          cases z2
        · by_cases ha : a = p
          · subst ha; exact .inr n1
          · rw [upd_ne ha] at e; exact r4 a u e
      | _ => exact n4.elim
    | dic _ => cases hd
    | set _ _ => cases hd
theorem excOk_of {K : PySem.W.Frag} {mg : Str → Option Value} (hw : W.1 = mg) {G0 H0 G H : Hp} {σ : L2.St} {ρ : Sto} {Xd : XD} {G2 : Hp} (k : Ok K G0 H0 G H σ ρ) (gg : Same G2 G) (xo : XOk K W G0 H0 G2 σ ρ Xd) : ∀ G' H' x cls d, Same G G' → Same H H' → Same G' H' → (∀ a o, G' a = some o → G a = some o ∨ H a = none) → ExcOk K mg G' H' x cls d → Xd x → WE W.2 σ cls d H' :=
  fun G' H' x cls d s1 s2 s3 s4 e z => xo G' H' x cls d (k.grow s1 s2 s3 s4) (gg.trans s1) (by rw [hw]; exact e) z
section
variable {k : Nat} {f : Addr} {fd : FuncData} {ps : List Str} {C : Ct} {x : Str} {p pos : Pos} {e : Expr} {es : List Expr} {da : DA}
theorem qe_call (F : FnOk X.prog X.w X.K X.mg X.base (L2.CX X.prog X.w) k f fd ps (PSp X.K X.mg C)) (hr : Room k X.A) (hm : X.mg x = some (.ref f)) (hk : PySem.W.keepIn X.K (.ref f) = true) (hb : L2.Binds X.K fd ps []) (tk : Takes X W.2) (hw : W.1 = X.mg) (ha : QA X W (e :: es) da) (hg : Gl X x := by rfl)
    (hdb : (x == ("__debug__" : Str)) = false := by decide) (he : starEach (e :: es) X.env = (false, eval e X.env) :: starEach es X.env := by rfl) (hpl : (backTo pos (starEach es X.env)).any (·.1) = false := by rfl) : QE X W (.Call (.Name x p) (e :: es) [] pos) (dCall C da) :=
  PE.sub (pe_callS F hr hg hm hk hb (fun σ => passAt tk σ) ha hdb he hpl) fun σ H Q h => by
  obtain ⟨G0, H0, G, ρ, Qd, Xd, k, h, fn, xo⟩ := h
  refine ⟨G0, H0, G, ρ, _, Xd, k, h, fun G1 H1 vs ds k1 g1 rv q => ?_, xo⟩
  refine ⟨G1, ds, _, Xd, k1.gh, rv, q, fun s v H' r q => ?_, excOk_of hw k1 g1.gg xo⟩
  obtain ⟨d, hd, q⟩ := q
  obtain ⟨G', k', g', rv'⟩ := RetOk.sh k1 r hd
  exact fn G' H' v d k' (g1.trans g') rv' q
theorem qo_call (F : FnOk X.prog X.w X.K X.mg X.base (L2.CX X.prog X.w) k f fd ps (PSp X.K X.mg C)) (hr : Room k X.A) (hm : X.mg x = some (.ref f)) (hk : PySem.W.keepIn X.K (.ref f) = true) (hb : L2.Binds X.K fd ps []) (tk : Takes X W.2) (hw : W.1 = X.mg) (ha : QA X W (e :: es) da) (hg : Gl X x := by rfl)
    (hdb : (x == ("__debug__" : Str)) = false := by decide) (he : starEach (e :: es) X.env = (false, eval e X.env) :: starEach es X.env := by rfl) (hpl : (backTo pos (starEach es X.env)).any (·.1) = false := by rfl) : QO X W (.Call (.Name x p) (e :: es) [] pos) (dCallO C da) :=
  PE.sub (pe_callS F hr hg hm hk hb (fun σ => passAt tk σ) ha hdb he hpl) fun σ H Q h => by
  obtain ⟨G0, H0, G, ρ, Qd, Xd, k, h, fn, xo⟩ := h
  refine ⟨G0, H0, G, ρ, _, Xd, k, h, fun G1 H1 vs ds k1 g1 rv q => ?_, xo⟩
  refine ⟨G1, ds, _, Xd, k1.gh, rv, q, fun s v H' r q => ?_, excOk_of hw k1 g1.gg xo⟩
  obtain ⟨o, rfl, q⟩ := q
  obtain ⟨G', r1, r2, r3, r4, p, ho, rfl, n1, n2, n3, n4⟩ := r
  exact fn G' H' p ho o (k1.grow r1 r2 r3 r4) (g1.trans ⟨r1, r2, r4⟩) (g1.hh.free n1) n2 n3 n4 q
end
/-! a def keeps its contract -/
def st0 (N : List Str) (ds : List PyData) : Sto := ds.map Slot.sh ++ List.replicate (N.length - ds.length) Slot.no
theorem ok_start {K : PySem.W.Frag} {G H : Hp} {N : List Str} {vs : List V} {ds : List PyData} (gh : Same G H) (r : RpAll K G vs ds) : Ok K G H G H (L2.start N vs) (st0 N ds) := by
  have hl := rpa_length r
  have no : ∀ (i : Nat) (o : OD), (st0 N ds)[i]? ≠ some (Slot.ow o) := fun i o e => by
    unfold st0 at e
    rw [List.getElem?_append] at e
    split at e
    · rw [List.getElem?_map] at e
      cases q : ds[i]? with
      | none => rw [q] at e; cases e
      | some d => rw [q] at e; cases e
    · rw [List.getElem?_replicate] at e
      split at e <;> cases e
  refine ⟨gh, Same.refl _, Same.refl _, fun a o e => .inl e, ?_, fun i d e => ?_, fun i o e => absurd e (no i o), fun i j o u a _ e => absurd e (no i o)⟩
  · simp [L2.start, st0, hl]
  · unfold st0 at e
    rw [List.getElem?_append] at e
    split at e
    · rename_i hi
      rw [List.getElem?_map] at e
      cases q : ds[i]? with
      | none => rw [q] at e; cases e
      | some d' =>
        rw [q] at e
        cases e
        obtain ⟨v, e1, e2⟩ := rpa_get r q
        refine ⟨v, ?_, e2⟩
        unfold L2.start
        rw [List.getElem?_append_left (by rw [List.length_map, hl]; simpa using hi), List.getElem?_map, e1]
        rfl
    · rw [List.getElem?_replicate] at e
      split at e <;> cases e
end
section
variable {P : Program} {w : World} {K : PySem.W.Frag} {mg : Str → Option Value} {base : Heap}
abbrev WF (mg : Str → Option Value) (E : XK) : XW := (mg, fun cls d _ H => E cls d H)
theorem fn_ok {x qual : Str} {st : Stmt} {f : Addr} {fd : FuncData} {N ps : List Str} {k : Nat} {C : Ct} {db : DS} {dvs : List V} {kws : List (Str × V)} (F : FunD K x qual (defArgs st) (defBody st) (defScope st) dvs kws f fd) (S : FnScope N ps (defScope st)) (len : ∀ ds R Xd, C ds R Xd → ds.length = ps.length)
    (hbody : ∀ (cdv : Value) (A : Around) (outer : List Env) (s : Shared) (H : Hp) (E : XK), Room k (A.deeper (PyProof.Rows.envOfC qual (defScope st) s.heap.objs.size f cdv)) → QSs (cxOf (L2.CX P w) P w K mg base N qual (defScope st) f cdv A outer s H E) (WF mg E) (defBody st) db)
    (h : ∀ ds R Xd, C ds R Xd → db { nx := fun _ => R (.sh .none), rt := R, ex := fun x _ => Xd x } (st0 N ds)) : FnOk P w K mg base (L2.CX P w) (k + 1) f fd ps (PSp K mg C) := by
  refine F.ok S (fun vs H Q E h => ?_) (fun cdv A outer s H vs Q E hr hsp => ⟨_, hbody cdv A outer s H E hr, ?_⟩)
  · obtain ⟨G, ds, R, Xd, _, r, c, _⟩ := h
    rw [rpa_length r]
    exact len _ _ _ c
  · obtain ⟨G, ds, R, Xd, gh, r, c, rt, ex⟩ := hsp
    refine ⟨G, H, G, _, _, ok_start gh r, h ds R Xd c, fun G' H' σ' ρ' k' q => rt (.sh .none) _ _ (retSh k' .non) q, rt, fun _ _ _ _ _ z => z.elim, fun _ _ _ _ _ z => z.elim, fun G' H' σ' ρ' x cls d k' e q => ex G' H' x cls d k'.g0 k'.h0 k'.gh k'.nw e q⟩
end
end WH

namespace WH
open PySem PySem.Spec L2

section
variable {X : Cx} {W : XW} {x : Str} {p pos : Pos} {e : Expr} {es : List Expr}
/-! ### calls of built-ins -/
def dCB (f : List PyData → (PyData → Prop) → Prop) (da : DA) : DE := fun ρ Q X => da ρ (fun ds => f ds Q) X
def dCBC (f : Bool → List PyData → (PyData → Prop) → Prop) (dc : DC) : DE := fun ρ Q X => dc ρ (fun b ds => f b ds Q) X
def dCBO (f : Bool → List PyData → (OD → Prop) → Prop) (dc : DC) : DO := fun ρ Q X => dc ρ (fun b ds => f b ds Q) X
theorem up_cb {K : PySem.W.Frag} {r : List V → Hp → VK → Prop} {f : List PyData → (PyData → Prop) → Prop} {da : DA} (hr : RAE K r f) (σ : L2.St) (H : Hp) (Q : VK) (h : upE K W (dCB f da) σ H Q) : tCB r (upA K W da) σ H Q := by
  obtain ⟨G0, H0, G, ρ, Qd, Xd, k, h, fn, xo⟩ := h
  refine ⟨G0, H0, G, ρ, _, Xd, k, h, fun G1 H1 xs ds k1 g1 rx hb => ?_, xo⟩
  exact hr G0 H0 G1 H1 σ ρ xs ds Qd Q k1 rx hb fun G2 H2 v d k2 g2 rv q => fn G2 H2 v d k2 (g1.trans g2) rv q
theorem up_cbc {K : PySem.W.Frag} {r : List V → Hp → VK → Prop} {f : Bool → List PyData → (PyData → Prop) → Prop} {dc : DC} (hr : RCE K r f) (σ : L2.St) (H : Hp) (Q : VK) (h : upE K W (dCBC f dc) σ H Q) : tCB r (tCons (upC K W dc) tNil) σ H Q := by
  obtain ⟨G0, H0, G, ρ, Qd, Xd, k, h, fn, xo⟩ := h
  refine ⟨G0, H0, G, ρ, _, Xd, k, h, fun G1 H1 a xs b ds k1 g1 sq rx hb => ?_, xo⟩
  exact hr G0 H0 G1 H1 σ ρ a xs b ds Qd Q k1 sq rx hb fun G2 H2 v d k2 g2 rv q => fn G2 H2 v d k2 (g1.trans g2) rv q
theorem up_cbo {K : PySem.W.Frag} {r : List V → Hp → VK → Prop} {f : Bool → List PyData → (OD → Prop) → Prop} {dc : DC} (hr : RCO K r f) (σ : L2.St) (H : Hp) (Q : VK) (h : upO K W (dCBO f dc) σ H Q) : tCB r (tCons (upC K W dc) tNil) σ H Q := by
  obtain ⟨G0, H0, G, ρ, Qd, Xd, k, h, fn, xo⟩ := h
  refine ⟨G0, H0, G, ρ, _, Xd, k, h, fun G1 H1 a xs b ds k1 g1 sq rx hb => ?_, xo⟩
  exact hr G0 H0 G1 H1 σ ρ a xs b ds Qd Q k1 sq rx hb fun G2 H2 p ho o k2 g2 n1 n2 n3 n4 q => fn G2 H2 p ho o k2 (g1.trans g2) (g1.hh.free n1) n2 n3 n4 q
theorem qe_callB {id : String} {r : List V → Hp → VK → Prop} {f : List PyData → (PyData → Prop) → Prop} {da : DA} (hr : RAE X.K r f) (hc : CallR X (.builtin id) r) (hm : X.mg x = none) (hv : bootBuiltins x = some (.builtin id)) (ha : QA X W (e :: es) da) (hg : Gl X x := by rfl) (hn : x ≠ "__name__" := by decide) (hdb : (x == ("__debug__" : Str)) = false := by decide)
    (he : starEach (e :: es) X.env = (false, eval e X.env) :: starEach es X.env := by rfl) (hpl : (backTo pos (starEach es X.env)).any (·.1) = false := by rfl) : QE X W (.Call (.Name x p) (e :: es) [] pos) (dCB f da) := PE.sub (pe_callB hc hg hm hv ha hn hdb he hpl) (up_cb hr)
theorem qe_callT {T : String} {r : List V → Hp → VK → Prop} {f : List PyData → (PyData → Prop) → Prop} {da : DA} (hr : RAE X.K r f) (hc : CallR X (.type T) r) (hm : X.mg x = none) (hv : bootBuiltins x = some (.type T)) (ha : QA X W (e :: es) da) (hg : Gl X x := by rfl) (hn : x ≠ "__name__" := by decide) (hdb : (x == ("__debug__" : Str)) = false := by decide)
    (he : starEach (e :: es) X.env = (false, eval e X.env) :: starEach es X.env := by rfl) (hpl : (backTo pos (starEach es X.env)).any (·.1) = false := by rfl) : QE X W (.Call (.Name x p) (e :: es) [] pos) (dCB f da) := PE.sub (pe_callTy hc hg hm hv ha hn hdb he hpl) (up_cb hr)
theorem qe_callBC {id : String} {r : List V → Hp → VK → Prop} {f : Bool → List PyData → (PyData → Prop) → Prop} {dc : DC} (hr : RCE X.K r f) (hc : CallR X (.builtin id) r) (hm : X.mg x = none) (hv : bootBuiltins x = some (.builtin id)) (ha : QC X W e dc) (hg : Gl X x := by rfl) (hn : x ≠ "__name__" := by decide) (hdb : (x == ("__debug__" : Str)) = false := by decide)
    (he : starEach [e] X.env = (false, eval e X.env) :: starEach [] X.env := by rfl) (hpl : (backTo pos (starEach [] X.env)).any (·.1) = false := by rfl) : QE X W (.Call (.Name x p) [e] [] pos) (dCBC f dc) := PE.sub (pe_callB hc hg hm hv (pa_cons ha pa_nil he) hn hdb he hpl) (up_cbc hr)
theorem qe_callTC {T : String} {r : List V → Hp → VK → Prop} {f : Bool → List PyData → (PyData → Prop) → Prop} {dc : DC} (hr : RCE X.K r f) (hc : CallR X (.type T) r) (hm : X.mg x = none) (hv : bootBuiltins x = some (.type T)) (ha : QC X W e dc) (hg : Gl X x := by rfl) (hn : x ≠ "__name__" := by decide) (hdb : (x == ("__debug__" : Str)) = false := by decide)
    (he : starEach [e] X.env = (false, eval e X.env) :: starEach [] X.env := by rfl) (hpl : (backTo pos (starEach [] X.env)).any (·.1) = false := by rfl) : QE X W (.Call (.Name x p) [e] [] pos) (dCBC f dc) := PE.sub (pe_callTy hc hg hm hv (pa_cons ha pa_nil he) hn hdb he hpl) (up_cbc hr)
theorem qo_callTC {T : String} {r : List V → Hp → VK → Prop} {f : Bool → List PyData → (OD → Prop) → Prop} {dc : DC} (hr : RCO X.K r f) (hc : CallR X (.type T) r) (hm : X.mg x = none) (hv : bootBuiltins x = some (.type T)) (ha : QC X W e dc) (hg : Gl X x := by rfl) (hn : x ≠ "__name__" := by decide) (hdb : (x == ("__debug__" : Str)) = false := by decide)
    (he : starEach [e] X.env = (false, eval e X.env) :: starEach [] X.env := by rfl) (hpl : (backTo pos (starEach [] X.env)).any (·.1) = false := by rfl) : QO X W (.Call (.Name x p) [e] [] pos) (dCBO f dc) := PE.sub (pe_callTy hc hg hm hv (pa_cons ha pa_nil he) hn hdb he hpl) (up_cbo hr)
theorem qo_callBC {id : String} {r : List V → Hp → VK → Prop} {f : Bool → List PyData → (OD → Prop) → Prop} {dc : DC} (hr : RCO X.K r f) (hc : CallR X (.builtin id) r) (hm : X.mg x = none) (hv : bootBuiltins x = some (.builtin id)) (ha : QC X W e dc) (hg : Gl X x := by rfl) (hn : x ≠ "__name__" := by decide) (hdb : (x == ("__debug__" : Str)) = false := by decide)
    (he : starEach [e] X.env = (false, eval e X.env) :: starEach [] X.env := by rfl) (hpl : (backTo pos (starEach [] X.env)).any (·.1) = false := by rfl) : QO X W (.Call (.Name x p) [e] [] pos) (dCBO f dc) := PE.sub (pe_callB hc hg hm hv (pa_cons ha pa_nil he) hn hdb he hpl) (up_cbo hr)
/-! len -/
def lenD : List PyData → (PyData → Prop) → Prop
  | [.str s], Q => s.length ≤ 100000 ∧ Q (.int s.length)
  | [.list xs], Q => Q (.int xs.length)
  | [.tuple xs], Q => Q (.int xs.length)
  | _, _ => False
theorem len_E {K : PySem.W.Frag} : RAE K (fun xs H Q => ∃ x n, xs = [x] ∧ LenV K x H n ∧ Q (.int n) H) lenD := by
  intro G0 H0 G H σ ρ xs ds Qd Q k rx hf fn
  cases rx with
  | nil => exact hf.elim
  | cons r t =>
    cases t with
    | cons r2 t2 => cases r <;> exact hf.elim
    | nil =>
      cases r with
      | str s => exact ⟨_, _, rfl, ⟨sz_of hf.1, rfl⟩, fn G H _ _ k Gr.refl (.int _) hf.2⟩
      | lst h1 h2 => exact ⟨_, _, rfl, .inl ⟨_, SqL.of (k.gh _ _ h1), rfl⟩, fn G H _ _ k Gr.refl (.int _) (by rw [rpa_length h2]; exact hf)⟩
      | tup h1 h2 => exact ⟨_, _, rfl, .inr ⟨_, sqT_mono k.gh h1, rfl⟩, fn G H _ _ k Gr.refl (.int _) (by rw [rpa_length h2]; exact hf)⟩
      | _ => exact hf.elim
theorem qe_len {de : DE} (hm : X.mg "len" = none) (ha : QE X W e de) (hg : Gl X "len" := by rfl) (he : starEach [e] X.env = (false, eval e X.env) :: starEach [] X.env := by rfl) : QE X W (.Call (.Name "len" p) [e] [] pos) (dCB lenD (dCons de dNil)) := qe_callB len_E call_len hm boot_len (qa_cons ha qa_nil he) hg (he := he)
def lenC (_ : Bool) (ds : List PyData) (Q : PyData → Prop) : Prop := Q (.int ds.length)
theorem lenC_E {K : PySem.W.Frag} : RCE K (fun xs H Q => ∃ p ys, xs = [.ref p] ∧ (SqL K H p ys ∨ SqT K H p ys) ∧ Q (.int ys.length) H) lenC := by
  intro G0 H0 G H σ ρ a xs b ds Qd Q k sq rx hf fn
  exact ⟨a, xs, rfl, sq.any k.gh, fn G H _ _ k Gr.refl (.int _) (by rw [rpa_length rx]; exact hf)⟩
theorem qe_lenC {dc : DC} (hm : X.mg "len" = none) (ha : QC X W e dc) (hg : Gl X "len" := by rfl) (he : starEach [e] X.env = (false, eval e X.env) :: starEach [] X.env := by rfl) : QE X W (.Call (.Name "len" p) [e] [] pos) (dCBC lenC dc) := qe_callBC lenC_E call_len_seq hm boot_len ha hg (he := he)
/-! tuple(x), list(x) -/
def tupC (_ : Bool) (ds : List PyData) (Q : PyData → Prop) : Prop := Q (.tuple ds)
theorem tupC_E {K : PySem.W.Frag} : RCE K (fun xs H Q => ∃ p ys, xs = [.ref p] ∧ ((SqL K H p ys ∧ ∀ l, H l = none → Q (.ref l) (upd H l (.tup ys))) ∨ (SqT K H p ys ∧ Q (.ref p) H))) tupC := by
  intro G0 H0 G H σ ρ a xs b ds Qd Q k sq rx hf fn
  refine ⟨a, xs, rfl, ?_⟩
  cases b with
  | false => exact .inl ⟨SqL.of sq, fin_tup k fn rx hf⟩
  | true => exact .inr ⟨sqT_mono k.gh sq, fn G H _ _ k Gr.refl (.tup sq rx) hf⟩
theorem qe_tuple {dc : DC} (hm : X.mg "tuple" = none) (ha : QC X W e dc) (hg : Gl X "tuple" := by rfl) (he : starEach [e] X.env = (false, eval e X.env) :: starEach [] X.env := by rfl) : QE X W (.Call (.Name "tuple" p) [e] [] pos) (dCBC tupC dc) := qe_callTC tupC_E call_tuple_of hm (by decide +kernel) ha hg (he := he)
def lstC (_ : Bool) (ds : List PyData) (Q : OD → Prop) : Prop := Q (.lst ds)
theorem lstC_E {K : PySem.W.Frag} : RCO K (fun xs H Q => ∃ p ys, xs = [.ref p] ∧ (SqL K H p ys ∨ SqT K H p ys) ∧ ∀ l, H l = none → Q (.ref l) (upd H l (.lst ys))) lstC := by
  intro G0 H0 G H σ ρ a xs b ds Qd Q k sq rx hf fn
  exact ⟨a, xs, rfl, sq.any k.gh, fin_own (o := .lst ds) k fn rx hf⟩
theorem qo_list {dc : DC} (hm : X.mg "list" = none) (ha : QC X W e dc) (hg : Gl X "list" := by rfl) (he : starEach [e] X.env = (false, eval e X.env) :: starEach [] X.env := by rfl) : QO X W (.Call (.Name "list" p) [e] [] pos) (dCBO lstC dc) := qo_callTC lstC_E call_list_of hm (by decide +kernel) ha hg (he := he)
/-! all, any of a list of truths -/
def allC (b : Bool) (ds : List PyData) (Q : PyData → Prop) : Prop := ∃ bs : List Bool, b = false ∧ ds = bs.map .bool ∧ Q (.bool (bs.all id))
def anyC (b : Bool) (ds : List PyData) (Q : PyData → Prop) : Prop := ∃ bs : List Bool, b = false ∧ ds = bs.map .bool ∧ Q (.bool (bs.any id))
theorem allC_E {K : PySem.W.Frag} : RCE K (rAll K) allC := by
  intro G0 H0 G H σ ρ a xs b ds Qd Q k sq rx hf fn
  obtain ⟨bs, rfl, rfl, q⟩ := hf
  have e := rpa_ofBools rx
  subst e
  exact ⟨a, bs, rfl, SqL.of sq, fn G H _ _ k Gr.refl (.bl _) q⟩
theorem anyC_E {K : PySem.W.Frag} : RCE K (rAny K) anyC := by
  intro G0 H0 G H σ ρ a xs b ds Qd Q k sq rx hf fn
  obtain ⟨bs, rfl, rfl, q⟩ := hf
  have e := rpa_ofBools rx
  subst e
  exact ⟨a, bs, rfl, SqL.of sq, fn G H _ _ k Gr.refl (.bl _) q⟩
theorem qe_all {dc : DC} (hc : X.calm = true) (hm : X.mg "all" = none) (ha : QC X W e dc) (hg : Gl X "all" := by rfl) (he : starEach [e] X.env = (false, eval e X.env) :: starEach [] X.env := by rfl) : QE X W (.Call (.Name "all" p) [e] [] pos) (dCBC allC dc) := qe_callBC allC_E (cr_all hc) hm (by decide +kernel) ha hg (he := he)
theorem qe_any {dc : DC} (hc : X.calm = true) (hm : X.mg "any" = none) (ha : QC X W e dc) (hg : Gl X "any" := by rfl) (he : starEach [e] X.env = (false, eval e X.env) :: starEach [] X.env := by rfl) : QE X W (.Call (.Name "any" p) [e] [] pos) (dCBC anyC dc) := qe_callBC anyC_E (cr_any hc) hm (by decide +kernel) ha hg (he := he)
/-! max, min of two; of a list -/
def max2D : List PyData → (PyData → Prop) → Prop
  | [.int i, .int j], Q => Q (.int (if j > i then j else i))
  | _, _ => False
def min2D : List PyData → (PyData → Prop) → Prop
  | [.int i, .int j], Q => Q (.int (if j < i then j else i))
  | _, _ => False
theorem ints2 {K : PySem.W.Frag} {G : Hp} {xs : List V} {i j : Int} (r : RpAll K G xs [.int i, .int j]) : xs = [.int i, .int j] := by
  cases r with
  | cons r1 t =>
    cases t with
    | cons r2 t2 => cases t2; cases r1; cases r2; rfl
theorem max2_E {K : PySem.W.Frag} : RAE K (fun xs H Q => ∃ i j, xs = [.int i, .int j] ∧ Q (.int (if j > i then j else i)) H) max2D := by
  intro G0 H0 G H σ ρ xs ds Qd Q k rx hf fn
  unfold max2D at hf
  split at hf
  · exact ⟨_, _, ints2 rx, fn G H _ _ k Gr.refl (.int _) hf⟩
  · exact hf.elim
theorem min2_E {K : PySem.W.Frag} : RAE K (fun xs H Q => ∃ i j, xs = [.int i, .int j] ∧ Q (.int (if j < i then j else i)) H) min2D := by
  intro G0 H0 G H σ ρ xs ds Qd Q k rx hf fn
  unfold min2D at hf
  split at hf
  · exact ⟨_, _, ints2 rx, fn G H _ _ k Gr.refl (.int _) hf⟩
  · exact hf.elim
/-! isinstance -/
def tyN : PyData → String
  | .none => "NoneType"
  | .bool _ => "bool"
  | .int _ => "int"
  | .str _ => "str"
  | .list _ => "list"
  | .tuple _ => "tuple"
  | .dict _ => "dict"
def isT (T : String) (d : PyData) : Bool := tyN d == T || (tyN d == "bool" && T == "int")
def plainT (T : String) : Bool := ["int", "bool", "str", "list", "tuple"].contains T
theorem kit_isT {K : PySem.W.Frag} {T : String} {d : PyData} (h : plainT T = true) : PySem.W.kitOne K (.type (tyN d)) (.type T) = some (isT T d) := by
  have h' : T = "int" ∨ T = "bool" ∨ T = "str" ∨ T = "list" ∨ T = "tuple" := by simpa [plainT] using h
  rcases h' with rfl | rfl | rfl | rfl | rfl <;> cases d <;> exact kit_ty (by simp only [tyN, isT]; decide +kernel)
theorem rp_ty {K : PySem.W.Frag} {G H : Hp} {v : V} {d : PyData} (gh : Same G H) (r : Rp K G v d) (nd : ∀ kvs, d ≠ .dict kvs) : TyX K H v (.type (tyN d)) := by
  cases r with
  | non => exact .base .non
  | bl b => exact .base (.bl b)
  | int i => exact .base (.int i)
  | str s => exact .base (.str s)
  | lst h1 _ => exact .base (.lst (gh _ _ h1))
  | tup h1 _ =>
    rcases h1 with (h1 | ⟨o, h1⟩) | ⟨o, its, n, h1, h2, _⟩
    · exact .base (.tup (gh _ _ h1))
    · exact .fTuple (gh _ _ h1)
    · exact .kTuple h1 h2
  | dik h1 _ => exact absurd rfl (nd _)
  | dit h1 _ => exact absurd rfl (nd _)
  | scr h1 => exact absurd rfl (nd _)
def isD1 : PyData → Bool
  | .dict _ => false
  | _ => true
def dIsi (T : String) (de : DE) : DE := fun ρ Q X => de ρ (fun d => isD1 d = true ∧ Q (.bool (isT T d))) X
theorem nd_of {d : PyData} (h : isD1 d = true) : ∀ kvs, d ≠ .dict kvs := fun kvs e => by subst e; cases h
theorem qe_isi {T : String} {t : Str} {pt : Pos} {de : DE} (hp : plainT T = true) (hm : X.mg "isinstance" = none) (hmt : X.mg t = none) (hv : bootBuiltins t = some (.type T)) (ha : QE X W e de) (hg : Gl X "isinstance" := by rfl) (hgt : Gl X t := by rfl) (hnt : t ≠ "__name__" := by decide) (hdt : (t == ("__debug__" : Str)) = false := by decide)
    (he : starEach [e, .Name t pt] X.env = (false, eval e X.env) :: starEach [.Name t pt] X.env := by rfl) (he2 : starEach [.Name t pt] X.env = (false, eval (.Name t pt) X.env) :: starEach [] X.env := by rfl) (hpl : (backTo pos (starEach [.Name t pt] X.env)).any (·.1) = false := by rfl) :
    QE X W (.Call (.Name "isinstance" p) [e, .Name t pt] [] pos) (dIsi T de) :=
  PE.sub (pe_callB call_isi hg hm (by decide +kernel) (pa_cons ha (pa_cons (pe_bltn (v := .ty T) hgt hmt hv rfl hnt hdt) pa_nil he2) he) (by decide) (by decide) he hpl) fun σ H Q h => by
  obtain ⟨G0, H0, G, ρ, Qd, Xd, k, h, fn, xo⟩ := h
  refine ⟨G0, H0, G, ρ, _, Xd, k, h, fun G1 H1 v d k1 g1 rv q => ?_, xo⟩
  exact ⟨v, .ty T, _, _, _, rfl, .ty T, rp_ty k1.gh rv (nd_of q.1), kit_isT hp, fn G1 H1 _ _ k1 g1 (.bl _) q.2⟩
/-- isinstance(x, (T, U)) -/
def dIsi2 (T U : String) (de : DE) : DE := fun ρ Q X => de ρ (fun d => isD1 d = true ∧ Q (.bool (isT T d || isT U d))) X
theorem qe_isi2 {T U : String} {t u : Str} {pt pu ptt : Pos} {kk : Nat} {de : DE} (hp : plainT T = true) (hq : plainT U = true) (hm : X.mg "isinstance" = none) (hmt : X.mg t = none) (hv : bootBuiltins t = some (.type T)) (hmu : X.mg u = none) (hvu : bootBuiltins u = some (.type U)) (ha : QE X W e de) (hg : Gl X "isinstance" := by rfl)
    (hgt : Gl X t := by rfl) (hnt : t ≠ "__name__" := by decide) (hdt : (t == ("__debug__" : Str)) = false := by decide) (hgu : Gl X u := by rfl) (hnu : u ≠ "__name__" := by decide) (hdu : (u == ("__debug__" : Str)) = false := by decide)
    (he3 : starEach [.Name t pt, .Name u pu] X.env = (false, eval (.Name t pt) X.env) :: starEach [.Name u pu] X.env := by rfl) (he4 : starEach [.Name u pu] X.env = (false, eval (.Name u pu) X.env) :: starEach [] X.env := by rfl)
    (he : starEach [e, .Tuple [.Name t pt, .Name u pu] kk ptt] X.env = (false, eval e X.env) :: starEach [.Tuple [.Name t pt, .Name u pu] kk ptt] X.env := by rfl) (he2 : starEach [.Tuple [.Name t pt, .Name u pu] kk ptt] X.env = (false, eval (.Tuple [.Name t pt, .Name u pu] kk ptt) X.env) :: starEach [] X.env := by rfl) (hpl : (backTo pos (starEach [.Tuple [.Name t pt, .Name u pu] kk ptt] X.env)).any (·.1) = false := by rfl) :
    QE X W (.Call (.Name "isinstance" p) [e, .Tuple [.Name t pt, .Name u pu] kk ptt] [] pos) (dIsi2 T U de) :=
  PE.sub (pe_callB call_isiT hg hm (by decide +kernel) (pa_cons ha (pa_cons (pe_tup (pa_cons (pe_bltn (v := .ty T) hgt hmt hv rfl hnt hdt) (pa_cons (pe_bltn (v := .ty U) hgu hmu hvu rfl hnu hdu) pa_nil he4) he3)) pa_nil he2) he) (by decide) (by decide) he hpl) fun σ H Q h => by
  obtain ⟨G0, H0, G, ρ, Qd, Xd, k, h, fn, xo⟩ := h
  refine ⟨G0, H0, G, ρ, _, Xd, k, h, fun G1 H1 v d k1 g1 rv q => ?_, xo⟩
  refine ⟨(by show 2 ≤ sizeLine; decide), fun tp htp => ?_⟩
  refine ⟨v, tp, _, _, [.type T, .type U], isT T d || isT U d, rfl, upd_same, .cons (.ty T) (.cons (.ty U) .nil), rp_ty (same_mut k1.gh (k1.gh.free htp)) rv (nd_of q.1), ?_, fn G1 _ _ _ (k1.fresh htp) (g1.trans (Gr.fresh htp)) (.bl _) q.2⟩
  refine kitAny_cons (kit_isT hp) (fun hb => kitAny_cons (kit_isT hq) (fun hc => ?_) (fun hc => ?_)) (fun hb => ?_)
  · rw [hb, hc]; rfl
  · rw [hb, hc]; rfl
  · rw [hb]; rfl
/-! int(x) of an int or a truth; str(int); int(text) -/
def intD : List PyData → (PyData → Prop) → Prop
  | [.int i], Q => Q (.int i)
  | [.bool b], Q => Q (.int (if b then 1 else 0))
  | _, _ => False
theorem one_of {K : PySem.W.Frag} {G : Hp} {xs : List V} {d : PyData} (r : RpAll K G xs [d]) : ∃ v, xs = [v] ∧ Rp K G v d := by
  cases r with
  | cons r1 t => cases t; exact ⟨_, rfl, r1⟩
theorem int_E {K : PySem.W.Frag} : RAE K (fun xs H Q => (∃ i, xs = [.int i] ∧ Q (.int i) H) ∨ ∃ k, xs = [.bl k] ∧ Q (.int (if k then 1 else 0)) H) intD := by
  intro G0 H0 G H σ ρ xs ds Qd Q k rx hf fn
  unfold intD at hf
  split at hf
  · obtain ⟨v, rfl, r⟩ := one_of rx
    cases r
    exact .inl ⟨_, rfl, fn G H _ _ k Gr.refl (.int _) hf⟩
  · obtain ⟨v, rfl, r⟩ := one_of rx
    cases r
    exact .inr ⟨_, rfl, fn G H _ _ k Gr.refl (.int _) hf⟩
  · exact hf.elim
theorem qe_intB {de : DE} (hm : X.mg "int" = none) (ha : QE X W e de) (hg : Gl X "int" := by rfl) (he : starEach [e] X.env = (false, eval e X.env) :: starEach [] X.env := by rfl) : QE X W (.Call (.Name "int" p) [e] [] pos) (dCB intD (dCons de dNil)) := qe_callT int_E call_int1 hm (by decide +kernel) (qa_cons ha qa_nil he) hg (he := he)
def strD : List PyData → (PyData → Prop) → Prop
  | [.int i], Q => i.natAbs < 2 ^ 200 ∧ Q (.str (toString i))
  | _, _ => False
theorem str_E {K : PySem.W.Frag} : RAE K (fun xs H Q => ∃ i : Int, xs = [.int i] ∧ i.natAbs.log2 < 1920 ∧ Q (.str (toString i)) H) strD := by
  intro G0 H0 G H σ ρ xs ds Qd Q k rx hf fn
  unfold strD at hf
  split at hf
  · obtain ⟨v, rfl, r⟩ := one_of rx
    cases r
    refine ⟨_, rfl, ?_, fn G H _ _ k Gr.refl (.str _) hf.2⟩
    rename_i i
    by_cases hz : i.natAbs = 0
    · rw [hz]; decide
    · exact (Nat.log2_lt hz).mpr (Nat.lt_of_lt_of_le hf.1 (Nat.pow_le_pow_right (by decide) (by decide)))
  · exact hf.elim
theorem qe_str1 {de : DE} (hm : X.mg "str" = none) (ha : QE X W e de) (hg : Gl X "str" := by rfl) (he : starEach [e] X.env = (false, eval e X.env) :: starEach [] X.env := by rfl) : QE X W (.Call (.Name "str" p) [e] [] pos) (dCB strD (dCons de dNil)) := qe_callT str_E call_str_int hm (by decide +kernel) (qa_cons ha qa_nil he) hg (he := he)
/-! the script, cut -/
def scrD (ns : List Int) : PyData := .dict [(.none, .list (ns.map PyData.int))]
theorem map_int_inj : ∀ {ns ms : List Int}, ns.map PyData.int = ms.map PyData.int → ns = ms
  | [], [], _ => rfl
  | [], _ :: _, h => by simp at h
  | _ :: _, [], h => by simp at h
  | n :: ns, m :: ms, h => by
    simp only [List.map_cons, List.cons.injEq, PyData.int.injEq] at h
    rw [h.1, map_int_inj h.2]
theorem rp_scr {K : PySem.W.Frag} {G : Hp} {v : V} {d : PyData} {ns : List Int} (h : Rp K G v d) (e : d = scrD ns) : ∃ a, v = .ref a ∧ SqL K G a (ns.map V.int) := by
  unfold scrD at e
  cases h with
  | dik a b =>
    injection e with e
    cases b with
    | nil => cases e
    | @cons kk _ _ _ _ c t =>
      injection e with e1 e2
      injection e1 with e3 e4
      cases kk <;> cases e3
  | dit a b =>
    injection e with e
    cases b with
    | nil => cases e
    | cons c t =>
      injection e with e1 e2
      injection e1 with e3 e4
      cases e3
  | scr hq =>
    injection e with e
    injection e with e1 e2
    injection e1 with e3 e4
    injection e4 with e5
    have := map_int_inj e5
    subst this
    exact ⟨_, rfl, hq⟩
  | _ => cases e
def dScr (i : Nat) : DE := fun ρ Q _ => ∃ ns : List Int, ρ[i]? = some (Slot.sh (scrD ns)) ∧ ns.length ≤ 63 ∧ Q (.list (ns.map .int))
theorem cut63 {xs : List V} (h : xs.length ≤ 63) : cutV xs none (some 63) = xs := by
  have e1 : HT.sIx xs.length 0 none = 0 := rfl
  have e2 : HT.sIx xs.length xs.length (some 63) = xs.length := by
    unfold HT.sIx
    simp
    omega
  unfold cutV
  rw [e1, e2, List.drop_zero, Nat.sub_zero, List.take_length]
theorem qe_scr (i : Nat) {y : Str} {p1 p2 : Pos} {j : Nat} (hN : X.N[i]? = some y := by rfl) (hv : Vis X.env.scope y := by first | exact Or.inl rfl | exact Or.inr (Or.inl rfl) | exact Or.inr (Or.inr rfl)) (hd : (y == ("__debug__" : Str)) = false := by decide) (hcd : (y == ("__classdict__" : Str)) = false := by decide) :
    QE X W (.Subscript (.Name y p1) (.Slice none (some (.Constant (.int 63) j p)) none p2) pos) (dScr i) := PE.sub (pe_slice sl_list (pe_var hN hv hd hcd) po_none (po_some pe_int)) fun σ H Q h => by
  obtain ⟨G0, H0, G, ρ, Qd, Xd, k, ⟨ns, hi, hl, h⟩, fn, xo⟩ := h
  obtain ⟨v, h1, h2⟩ := k.sh i _ hi
  obtain ⟨a, rfl, hq⟩ := rp_scr h2 rfl
  refine ⟨_, h1, 63, rfl, a, _, rfl, sqL_mono k.gh hq, ?_⟩
  rw [cut63 (by rw [List.length_map]; exact hl)]
  exact fin_lst k fn (rpa_ints ns) h
end
end WH

namespace WH
open PySem PySem.Spec L2

/-- the built-in names that the top leaves alone -/
structure Bt (mg : Str → Option Value) : Prop where
  len_ : mg "len" = none
  range_ : mg "range" = none
  tuple_ : mg "tuple" = none
  list_ : mg "list" = none
  all_ : mg "all" = none
  any_ : mg "any" = none
  isinstance_ : mg "isinstance" = none
  int_ : mg "int" = none
  bool_ : mg "bool" = none
  str_ : mg "str" = none
  sorted_ : mg "sorted" = none
  enumerate_ : mg "enumerate" = none
  zip_ : mg "zip" = none
  max_ : mg "max" = none
  min_ : mg "min" = none
  set_ : mg "set" = none
  dict_ : mg "dict" = none
  sum_ : mg "sum" = none
  repr_ : mg "repr" = none
def GI (mg : Str → Option Value) (x : Str) (i : Int) : Prop := ∃ t, mg x = some (.int i t)
def GS (mg : Str → Option Value) (x : Str) (i : Str) : Prop := ∃ t, mg x = some (.str i t)
section
variable {X : Cx} {W : XW}
theorem qe_gi {x : Str} {i : Int} {pos : Pos} (h : GI X.mg x i) (hg : Gl X x := by rfl) (hd : (x == ("__debug__" : Str)) = false := by decide) : QE X W (.Name x pos) (dC (.int i)) := by
  obtain ⟨t, h⟩ := h
  exact qe_globI hg h hd
theorem qe_gs {x : Str} {i : Str} {pos : Pos} (h : GS X.mg x i) (hg : Gl X x := by rfl) (hd : (x == ("__debug__" : Str)) = false := by decide) : QE X W (.Name x pos) (dC (.str i)) := by
  obtain ⟨t, h⟩ := h
  exact qe_globS hg h hd
end
/-- a def of the text as it stands -/
def FnP (K : PySem.W.Frag) (mg : Str → Option Value) (x : Str) (st : Stmt) : Prop := ∃ f fd, FunD K x x (defArgs st) (defBody st) (defScope st) [] [] f fd ∧ mg x = some (.ref f)
/-- a def that keeps its contract, callable by its name -/
def Cl (P : Program) (w : World) (K : PySem.W.Frag) (mg : Str → Option Value) (base : Heap) (x : Str) (k : Nat) (C : Ct) : Prop :=
  ∃ ps f fd, mg x = some (.ref f) ∧ PySem.W.keepIn K (.ref f) = true ∧ L2.Binds K fd ps [] ∧ FnOk P w K mg base (L2.CX P w) k f fd ps (PSp K mg C)
theorem cl_false {P : Program} {w : World} {K : PySem.W.Frag} {mg : Str → Option Value} {base : Heap} {x : Str} {k : Nat} {C : Ct} {st : Stmt} (ps : List Str) (F : FnP K mg x st) (hb : ∀ (kV doc pm : Value) (an : Option Addr) (cdv ct : Value) (us : List Value), us.length = ps.length → bindArgs (PySem.W.fnOf x x (defArgs st) (defBody st) (defScope st) .none kV doc pm an cdv ct) ⟨us, []⟩ = pure (ps.zip us)) (h : ∀ ds R X, C ds R X → False) : Cl P w K mg base x k C := by
  obtain ⟨f, fd, F, gm⟩ := F
  exact ⟨ps, f, fd, gm, F.kp, F.bindsN hb, ⟨fun vs H Q E ⟨G, ds, R, Xd, _, _, c, _⟩ => (h _ _ _ c).elim, fun A outer s H args us vs Q E _ _ _ _ ⟨G, ds, R, Xd, _, _, c, _⟩ => (h _ _ _ c).elim⟩⟩
section
variable {X : Cx} {W : XW} {k j : Nat} {C : Ct} {x : Str} {p pos : Pos} {e : Expr} {es : List Expr} {da : DA}
theorem qe_cl (c : Cl X.prog X.w X.K X.mg X.base x j C) (hr : Room k X.A) (hj : j ≤ k) (tk : Takes X W.2) (hw : W.1 = X.mg) (ha : QA X W (e :: es) da) (hg : Gl X x := by rfl)
    (hdb : (x == ("__debug__" : Str)) = false := by decide) (he : starEach (e :: es) X.env = (false, eval e X.env) :: starEach es X.env := by rfl) (hpl : (backTo pos (starEach es X.env)).any (·.1) = false := by rfl) : QE X W (.Call (.Name x p) (e :: es) [] pos) (dCall C da) := by
  obtain ⟨ps, f, fd, c1, c2, c3, c4⟩ := c
  exact qe_call c4 (hr.mono hj) c1 c2 c3 tk hw ha hg hdb he hpl
theorem qo_cl (c : Cl X.prog X.w X.K X.mg X.base x j C) (hr : Room k X.A) (hj : j ≤ k) (tk : Takes X W.2) (hw : W.1 = X.mg) (ha : QA X W (e :: es) da) (hg : Gl X x := by rfl)
    (hdb : (x == ("__debug__" : Str)) = false := by decide) (he : starEach (e :: es) X.env = (false, eval e X.env) :: starEach es X.env := by rfl) (hpl : (backTo pos (starEach es X.env)).any (·.1) = false := by rfl) : QO X W (.Call (.Name x p) (e :: es) [] pos) (dCallO C da) := by
  obtain ⟨ps, f, fd, c1, c2, c3, c4⟩ := c
  exact qo_call c4 (hr.mono hj) c1 c2 c3 tk hw ha hg hdb he hpl
theorem qs_par {i j : Nat} {x y : Str} {a b : Expr} {da : DA} {px py pt ps pos : Pos} {k1 k2 : Nat} (hN : X.N.Nodup) (ha : QA X W [a, b] da) (hc : X.calm = true := by rfl) (hi : X.N[i]? = some x := by rfl) (hj : X.N[j]? = some y := by rfl) (hij : i ≠ j := by decide)
    (hx : X.env.scope.names.lookup x = some .local := by rfl) (hy : X.env.scope.names.lookup y = some .local := by rfl)
    (hw : swappedStores [.Tuple [.Name x px, .Name y py] k1 pt] (.Tuple [a, b] k2 ps) X.env = pure (some [x, y]) := by rfl)
    (hs : swapsWithSole [.Tuple [.Name x px, .Name y py] k1 pt] (.Tuple [a, b] k2 ps) pos.line X.env = pure false := by rfl) : QS X W (.Assign [.Tuple [.Name x px, .Name y py] k1 pt] (.Tuple [a, b] k2 ps) pos) (dPar i j da) := PS.sub (ps_par hc hN hi hj hij hx hy ha hw hs) up_par
end
end WH

namespace WH
open PySem PySem.Spec L2
@[simp] theorem s_dVar (i : Nat) (ρ : Sto) (Q : PyData → Prop) (u2 : XD) : dVar i ρ Q u2 ↔ (∃ d, ρ[i]? = some (Slot.sh d) ∧ Q d) := Iff.rfl
@[simp] theorem s_dC (d : PyData) (u0 : Sto) (Q : PyData → Prop) (u2 : XD) : dC d u0 Q u2 ↔ (Q d) := Iff.rfl
@[simp] theorem s_dVarC (i : Nat) (ρ : Sto) (Q : Bool → List PyData → Prop) (u2 : XD) : dVarC i ρ Q u2 ↔ ((∃ b ds, ρ[i]? = some (Slot.sh (dat b ds)) ∧ Q b ds) ∨ ∃ ds, ρ[i]? = some (Slot.ow (.lst ds)) ∧ Q false ds) := Iff.rfl
@[simp] theorem s_dTst (de : DE) (ρ : Sto) (Q : Bool → Prop) (X : XD) : dTst de ρ Q X ↔ (de ρ (fun d => asB d Q) X) := Iff.rfl
@[simp] theorem s_dAnd (d e : DT) (ρ : Sto) (Q : Bool → Prop) (X : XD) : dAnd d e ρ Q X ↔ (d ρ (fun b => if b = true then e ρ Q X else Q false) X) := Iff.rfl
@[simp] theorem s_dOr (d e : DT) (ρ : Sto) (Q : Bool → Prop) (X : XD) : dOr d e ρ Q X ↔ (d ρ (fun b => if b = true then Q true else e ρ Q X) X) := Iff.rfl
@[simp] theorem s_dNot (d : DT) (ρ : Sto) (Q : Bool → Prop) (X : XD) : dNot d ρ Q X ↔ (d ρ (fun b => Q (!b)) X) := Iff.rfl
@[simp] theorem s_dAndV (d e : DE) (ρ : Sto) (Q : PyData → Prop) (X : XD) : dAndV d e ρ Q X ↔ (d ρ (fun x => asB x fun b => if b = true then e ρ Q X else Q (.bool false)) X) := Iff.rfl
@[simp] theorem s_dOrV (d e : DE) (ρ : Sto) (Q : PyData → Prop) (X : XD) : dOrV d e ρ Q X ↔ (d ρ (fun x => asB x fun b => if b = true then Q (.bool true) else e ρ Q X) X) := Iff.rfl
@[simp] theorem s_dNotV (d : DE) (ρ : Sto) (Q : PyData → Prop) (X : XD) : dNotV d ρ Q X ↔ (d ρ (fun x => asB x fun b => Q (.bool (!b))) X) := Iff.rfl
@[simp] theorem s_dIf (t : DT) (a b : DE) (ρ : Sto) (Q : PyData → Prop) (X : XD) : dIf t a b ρ Q X ↔ (t ρ (fun c => if c = true then a ρ Q X else b ρ Q X) X) := Iff.rfl
@[simp] theorem s_dNil (u0 : Sto) (Q : List PyData → Prop) (u2 : XD) : dNil  u0 Q u2 ↔ (Q []) := Iff.rfl
@[simp] theorem s_dCons (d : DE) (e : DA) (ρ : Sto) (Q : List PyData → Prop) (X : XD) : dCons d e ρ Q X ↔ (d ρ (fun x => e ρ (fun xs => Q (x :: xs)) X) X) := Iff.rfl
@[simp] theorem s_dTup (da : DA) (ρ : Sto) (Q : PyData → Prop) (X : XD) : dTup da ρ Q X ↔ (da ρ (fun ds => ds.length ≤ 100000 ∧ Q (.tuple ds)) X) := Iff.rfl
@[simp] theorem s_dLst (da : DA) (ρ : Sto) (Q : OD → Prop) (X : XD) : dLst da ρ Q X ↔ (da ρ (fun ds => ds.length ≤ 100000 ∧ Q (.lst ds)) X) := Iff.rfl
@[simp] theorem s_dOfO (dd : DO) (ρ : Sto) (Q : PyData → Prop) (X : XD) : dOfO dd ρ Q X ↔ (dd ρ (fun o => ∃ ds, o = .lst ds ∧ Q (.list ds)) X) := Iff.rfl
@[simp] theorem s_dCofO (dd : DO) (ρ : Sto) (Q : Bool → List PyData → Prop) (X : XD) : dCofO dd ρ Q X ↔ (dd ρ (fun o => ∃ ds, o = .lst ds ∧ Q false ds) X) := Iff.rfl
@[simp] theorem s_dCofE (de : DE) (ρ : Sto) (Q : Bool → List PyData → Prop) (X : XD) : dCofE de ρ Q X ↔ (de ρ (fun d => ∃ b ds, d = dat b ds ∧ Q b ds) X) := Iff.rfl
@[simp] theorem s_dIx (dc : DC) (di : DE) (ρ : Sto) (Q : PyData → Prop) (X : XD) : dIx dc di ρ Q X ↔ (dc ρ (fun _ ds => di ρ (fun i => ixD ds i Q) X) X) := Iff.rfl
@[simp] theorem s_dNeg (da : DE) (ρ : Sto) (Q : PyData → Prop) (X : XD) : dNeg da ρ Q X ↔ (da ρ (fun d => ∃ i, d = .int i ∧ Q (.int (-i))) X) := Iff.rfl
@[simp] theorem s_dIn (neg : Bool) (da : DE) (dc : DC) (ρ : Sto) (Q : PyData → Prop) (X : XD) : dIn neg da dc ρ Q X ↔ (da ρ (fun x => dc ρ (fun _ ds => flatD x = true ∧ ds.all flatD = true ∧ Q (.bool (if neg then !inD x ds else inD x ds))) X) X) := Iff.rfl
@[simp] theorem s_dCat (da db : DC) (ρ : Sto) (Q : OD → Prop) (X : XD) : dCat da db ρ Q X ↔ (da ρ (fun b xs => db ρ (fun b' ys => b = false ∧ b' = false ∧ xs.length + ys.length ≤ 100000 ∧ Q (.lst (xs ++ ys))) X) X) := Iff.rfl
@[simp] theorem s_dRep (da : DC) (db : DE) (ρ : Sto) (Q : OD → Prop) (X : XD) : dRep da db ρ Q X ↔ (da ρ (fun b xs => db ρ (fun k => ∃ i, k = .int i ∧ b = false ∧ 0 ≤ i ∧ i ≤ 1000 ∧ xs.length ≤ 100 ∧ Q (.lst (List.replicate i.toNat xs).flatten)) X) X) := Iff.rfl
@[simp] theorem s_dNo (u0 : Sto) (Q : Option Int → Prop) (u2 : XD) : dNo  u0 Q u2 ↔ (Q none) := Iff.rfl
@[simp] theorem s_dSome (da : DE) (ρ : Sto) (Q : Option Int → Prop) (X : XD) : dSome da ρ Q X ↔ (da ρ (fun d => ∃ i, d = .int i ∧ Q (some i)) X) := Iff.rfl
@[simp] theorem s_dSl (dc : DC) (lo hi : DP) (ρ : Sto) (Q : PyData → Prop) (X : XD) : dSl dc lo hi ρ Q X ↔ (dc ρ (fun b ds => lo ρ (fun l => hi ρ (fun h => Q (dat b (cutD ds l h))) X) X) X) := Iff.rfl
@[simp] theorem s_dNext (D : DEnds) (ρ : Sto) : dNext  D ρ ↔ (D.nx ρ) := Iff.rfl
@[simp] theorem s_dSeq (d e : DS) (D : DEnds) (ρ : Sto) : dSeq d e D ρ ↔ (d { D with nx := e D } ρ) := Iff.rfl
@[simp] theorem s_dCont (D : DEnds) (ρ : Sto) : dCont  D ρ ↔ (D.ct ρ) := Iff.rfl
@[simp] theorem s_dBreak (D : DEnds) (ρ : Sto) : dBreak  D ρ ↔ (D.bk ρ) := Iff.rfl
@[simp] theorem s_dNever (u0 : DEnds) (u1 : Sto) : dNever  u0 u1 ↔ (False) := Iff.rfl
@[simp] theorem s_dFreeze (i : Nat) (d : DS) (D : DEnds) (ρ : Sto) : dFreeze i d D ρ ↔ (∃ ds, ρ[i]? = some (Slot.ow (.lst ds)) ∧ d D (ρ.set i (.sh (.list ds)))) := Iff.rfl
@[simp] theorem s_dAsg (i : Nat) (de : DE) (D : DEnds) (ρ : Sto) : dAsg i de D ρ ↔ (de ρ (fun d => D.nx (ρ.set i (.sh d))) (D.xd ρ)) := Iff.rfl
@[simp] theorem s_dAsgO (i : Nat) (dd : DO) (D : DEnds) (ρ : Sto) : dAsgO i dd D ρ ↔ (dd ρ (fun o => D.nx (ρ.set i (.ow o))) (D.xd ρ)) := Iff.rfl
@[simp] theorem s_gN (i : Nat) (d : PyData) (ρ : Sto) (Q : Sto → Prop) : gN i d ρ Q ↔ (Q (ρ.set i (.sh d))) := Iff.rfl
@[simp] theorem s_gsNil (ρ : Sto) (Q : Sto → Prop) : gsNil [] ρ Q ↔ Q ρ := by simp [gsNil]
@[simp] theorem s_gsCons (g : DG) (gs : DGs) (d : PyData) (r : List PyData) (ρ : Sto) (Q : Sto → Prop) : gsCons g gs (d :: r) ρ Q ↔ g d ρ (fun ρ' => gs r ρ' Q) := by
  constructor
  · rintro ⟨d', r', h, q⟩
    cases h
    exact q
  · exact fun q => ⟨d, r, rfl, q⟩
@[simp] theorem s_gT (n : Nat) (gs : DGs) (ds : List PyData) (ρ : Sto) (Q : Sto → Prop) : gT n gs (.tuple ds) ρ Q ↔ (ds.length = n ∧ gs ds ρ Q) := by
  constructor
  · rintro ⟨d', h, q⟩
    cases h
    exact q
  · exact fun q => ⟨ds, rfl, q⟩
@[simp] theorem s_dAsgG (de : DE) (dg : DG) (D : DEnds) (ρ : Sto) : dAsgG de dg D ρ ↔ (de ρ (fun d => dg d ρ D.nx) (D.xd ρ)) := Iff.rfl
@[simp] theorem s_dPar (i j : Nat) (da : DA) (D : DEnds) (ρ : Sto) : dPar i j da D ρ ↔ (da ρ (fun ds => ∃ x y, ds = [x, y] ∧ D.nx ((ρ.set i (.sh x)).set j (.sh y))) (D.xd ρ)) := Iff.rfl
@[simp] theorem s_dRet (de : DE) (D : DEnds) (ρ : Sto) : dRet de D ρ ↔ (de ρ (fun d => D.rt (.sh d)) (D.xd ρ)) := Iff.rfl
@[simp] theorem s_dRetO (dd : DO) (D : DEnds) (ρ : Sto) : dRetO dd D ρ ↔ (dd ρ (fun o => D.rt (.ow o)) (D.xd ρ)) := Iff.rfl
@[simp] theorem s_dRetOw (i : Nat) (D : DEnds) (ρ : Sto) : dRetOw i D ρ ↔ (∃ o, ρ[i]? = some (Slot.ow o) ∧ D.rt (.ow o)) := Iff.rfl
@[simp] theorem s_dRetN (D : DEnds) (u1 : Sto) : dRetN  D u1 ↔ (D.rt (.sh .none)) := Iff.rfl
@[simp] theorem s_dDrop (de : DE) (D : DEnds) (ρ : Sto) : dDrop de D ρ ↔ (de ρ (fun _ => D.nx ρ) (D.xd ρ)) := Iff.rfl
@[simp] theorem s_dIfS (t : DT) (a b : DS) (D : DEnds) (ρ : Sto) : dIfS t a b D ρ ↔ (t ρ (fun c => if c = true then a D ρ else b D ρ) (D.xd ρ)) := Iff.rfl
@[simp] theorem s_dApp (i : Nat) (de : DE) (D : DEnds) (ρ : Sto) : dApp i de D ρ ↔ (∃ ds, ρ[i]? = some (Slot.ow (.lst ds)) ∧ de ρ (fun d => ds.length < 100000 ∧ D.nx (ρ.set i (.ow (.lst (ds ++ [d]))))) (D.xd ρ)) := Iff.rfl
@[simp] theorem s_dClear (i : Nat) (D : DEnds) (ρ : Sto) : dClear i D ρ ↔ (∃ ds, ρ[i]? = some (Slot.ow (.lst ds)) ∧ D.nx (ρ.set i (.ow (.lst [])))) := Iff.rfl
@[simp] theorem s_dExt (i : Nat) (de : DE) (D : DEnds) (ρ : Sto) : dExt i de D ρ ↔ (∃ ds, ρ[i]? = some (Slot.ow (.lst ds)) ∧ de ρ (fun d => ∃ es, d = .list es ∧ ds.length + es.length ≤ 100000 ∧ D.nx (ρ.set i (.ow (.lst (ds ++ es))))) (D.xd ρ)) := Iff.rfl
@[simp] theorem s_dIt (de : DE) (ρ : Sto) (Q : List PyData → Prop) (X : XD) : dIt de ρ Q X ↔ (de ρ (fun d => ∃ b ds, d = dat b ds ∧ Q ds) X) := Iff.rfl
@[simp] theorem s_dRng1 (de : DE) (ρ : Sto) (Q : List PyData → Prop) (X : XD) : dRng1 de ρ Q X ↔ (de ρ (fun d => ∃ n, d = .int n ∧ n ≤ 100000 ∧ -100000 ≤ n ∧ Q (rngD 0 n.toNat)) X) := Iff.rfl
@[simp] theorem s_dRng2 (de df : DE) (ρ : Sto) (Q : List PyData → Prop) (X : XD) : dRng2 de df ρ Q X ↔ (de ρ (fun d => df ρ (fun e => ∃ m n, d = .int m ∧ e = .int n ∧ -100000 ≤ m ∧ m ≤ 100000 ∧ n ≤ 100000 ∧ -100000 ≤ n ∧ Q (rngD m (n - m).toNat)) X) X) := Iff.rfl
@[simp] theorem s_dFor (di : DI) (dg : DG) (body : DS) (D : DEnds) (ρ : Sto) : dFor di dg body D ρ ↔ (di ρ (fun ds => forW dg body D ds ρ) (D.xd ρ)) := Iff.rfl
@[simp] theorem s_dLc (vs : List Nat) (di : DI) (dg : DG) (dt : DT) (de : DE) (ρ : Sto) (Q : OD → Prop) (X : XD) : dLc vs di dg dt de ρ Q X ↔ (di ρ (fun ds => lcW dg dt de (wipeD ρ vs) (fun out => Q (.lst out)) ds []) X) := Iff.rfl
@[simp] theorem s_dYes (u0 : Sto) (Q : Bool → Prop) (u2 : XD) : dYes  u0 Q u2 ↔ (Q true) := Iff.rfl
@[simp] theorem s_dCall (C : Ct) (da : DA) (ρ : Sto) (Q : PyData → Prop) (X : XD) : dCall C da ρ Q X ↔ (da ρ (fun ds => C ds (fun s => ∃ d, slotD s = some d ∧ Q d) X) X) := Iff.rfl
@[simp] theorem s_dCallO (C : Ct) (da : DA) (ρ : Sto) (Q : OD → Prop) (X : XD) : dCallO C da ρ Q X ↔ (da ρ (fun ds => C ds (fun s => ∃ o, s = .ow o ∧ Q o) X) X) := Iff.rfl
@[simp] theorem s_dIsi (T : String) (de : DE) (ρ : Sto) (Q : PyData → Prop) (X : XD) : dIsi T de ρ Q X ↔ (de ρ (fun d => isD1 d = true ∧ Q (.bool (isT T d))) X) := Iff.rfl
@[simp] theorem s_dIsi2 (T U : String) (de : DE) (ρ : Sto) (Q : PyData → Prop) (X : XD) : dIsi2 T U de ρ Q X ↔ (de ρ (fun d => isD1 d = true ∧ Q (.bool (isT T d || isT U d))) X) := Iff.rfl
@[simp] theorem s_dScr (i : Nat) (ρ : Sto) (Q : PyData → Prop) (u2 : XD) : dScr i ρ Q u2 ↔ (∃ ns : List Int, ρ[i]? = some (Slot.sh (scrD ns)) ∧ ns.length ≤ 63 ∧ Q (.list (ns.map .int))) := Iff.rfl
@[simp] theorem s_d2 (f : PyData → PyData → (PyData → Prop) → Prop) (da db : DE) (ρ : Sto) (Q : PyData → Prop) (X : XD) : d2 f da db ρ Q X ↔ da ρ (fun x => db ρ (fun y => f x y Q) X) X := Iff.rfl
@[simp] theorem s_dChain (f f' : PyData → PyData → (PyData → Prop) → Prop) (da db dc : DE) (ρ : Sto) (Q : PyData → Prop) (X : XD) : dChain f f' da db dc ρ Q X ↔ da ρ (fun x => db ρ (fun y => f x y fun z => asB z fun k => if k = true then dc ρ (fun u => f' y u Q) X else Q (.bool false)) X) X := Iff.rfl
@[simp] theorem s_dCB (f : List PyData → (PyData → Prop) → Prop) (da : DA) (ρ : Sto) (Q : PyData → Prop) (X : XD) : dCB f da ρ Q X ↔ da ρ (fun ds => f ds Q) X := Iff.rfl
@[simp] theorem s_dCBC (f : Bool → List PyData → (PyData → Prop) → Prop) (dc : DC) (ρ : Sto) (Q : PyData → Prop) (X : XD) : dCBC f dc ρ Q X ↔ dc ρ (fun b ds => f b ds Q) X := Iff.rfl
@[simp] theorem s_dCBO (f : Bool → List PyData → (OD → Prop) → Prop) (dc : DC) (ρ : Sto) (Q : OD → Prop) (X : XD) : dCBO f dc ρ Q X ↔ dc ρ (fun b ds => f b ds Q) X := Iff.rfl
@[simp] theorem s_asB (b : Bool) (Q : Bool → Prop) : asB (.bool b) Q ↔ Q b := by simp only [asB, PyData.bool.injEq, exists_eq_left']
@[simp] theorem isD1_int (i : Int) : isD1 (.int i) = true := rfl
@[simp] theorem isD1_str (i : Str) : isD1 (.str i) = true := rfl
@[simp] theorem isD1_bool (i : Bool) : isD1 (.bool i) = true := rfl
@[simp] theorem isD1_list (i : List PyData) : isD1 (.list i) = true := rfl
@[simp] theorem isD1_tuple (i : List PyData) : isD1 (.tuple i) = true := rfl
@[simp] theorem isD1_none : isD1 .none = true := rfl
@[simp] theorem scrD_inj (ns ms : List Int) : scrD ns = scrD ms ↔ ns = ms := by
  constructor
  · intro h
    unfold scrD at h
    injection h with h
    injection h with h1 h2
    injection h1 with h3 h4
    injection h4 with h5
    exact map_int_inj h5
  · rintro rfl
    rfl
@[simp] theorem s_forWn (dg : DG) (body : DS) (D : DEnds) (ρ : Sto) : forW dg body D [] ρ ↔ D.nx ρ := Iff.rfl
@[simp] theorem s_lcWn (dg : DG) (dt : DT) (de : DE) (ρ : Sto) (Q : List PyData → Prop) (acc : List PyData) : lcW dg dt de ρ Q [] acc ↔ Q acc := Iff.rfl
@[simp] theorem s_iI (g : Int → Int → PyData) (i j : Int) (Q : PyData → Prop) : iI g (.int i) (.int j) Q ↔ Q (g i j) := Iff.rfl
@[simp] theorem s_iC (C : Int → Int → Prop) (g : Int → Int → PyData) (i j : Int) (Q : PyData → Prop) : iC C g (.int i) (.int j) Q ↔ (C i j ∧ Q (g i j)) := Iff.rfl
@[simp] theorem s_sub (i j : Int) (Q : PyData → Prop) : subD (.int i) (.int j) Q ↔ Q (.int (i - j)) := Iff.rfl
@[simp] theorem s_add (i j : Int) (Q : PyData → Prop) : addD (.int i) (.int j) Q ↔ Q (.int (i + j)) := Iff.rfl
@[simp] theorem s_addS (a b : Str) (Q : PyData → Prop) : addD (.str a) (.str b) Q ↔ (a.length + b.length ≤ 100000 ∧ Q (.str (a ++ b))) := Iff.rfl
@[simp] theorem s_addT (xs ys : List PyData) (Q : PyData → Prop) : addD (.tuple xs) (.tuple ys) Q ↔ (xs.length + ys.length ≤ 100000 ∧ Q (.tuple (xs ++ ys))) := Iff.rfl
@[simp] theorem s_addL (xs ys : List PyData) (Q : PyData → Prop) : addD (.list xs) (.list ys) Q ↔ (xs.length + ys.length ≤ 100000 ∧ Q (.list (xs ++ ys))) := Iff.rfl
@[simp] theorem s_mul (i j : Int) (Q : PyData → Prop) : mulD (.int i) (.int j) Q ↔ (((-(2 ^ 64) < i ∧ i < 2 ^ 64) ∨ (-(2 ^ 64) < j ∧ j < 2 ^ 64)) ∧ Q (.int (i * j))) := Iff.rfl
@[simp] theorem s_mulT (xs : List PyData) (k : Int) (Q : PyData → Prop) : mulD (.tuple xs) (.int k) Q ↔ (xs ≠ [] ∧ 2 ≤ k ∧ k ≤ 1000 ∧ xs.length ≤ 1000 ∧ Q (.tuple (List.replicate k.toNat xs).flatten)) := Iff.rfl
@[simp] theorem s_mulL (xs : List PyData) (k : Int) (Q : PyData → Prop) : mulD (.list xs) (.int k) Q ↔ (0 ≤ k ∧ k ≤ 1000 ∧ xs.length ≤ 100 ∧ Q (.list (List.replicate k.toNat xs).flatten)) := Iff.rfl
@[simp] theorem s_mod (i j : Int) (Q : PyData → Prop) : modD (.int i) (.int j) Q ↔ (0 < j ∧ Q (.int (i % j))) := Iff.rfl
@[simp] theorem s_fdiv (i j : Int) (Q : PyData → Prop) : fdivD (.int i) (.int j) Q ↔ ((0 < j ∧ j < 1073741824) ∧ Q (.int (i / j))) := Iff.rfl
@[simp] theorem s_pow (i j : Int) (Q : PyData → Prop) : powD (.int i) (.int j) Q ↔ ((0 ≤ j ∧ j ≤ 1000000 ∧ i.natAbs < 2 ^ 64) ∧ Q (.int (i ^ j.toNat))) := Iff.rfl
@[simp] theorem s_lt (i j : Int) (Q : PyData → Prop) : ltD (.int i) (.int j) Q ↔ Q (.bool (decide (i < j))) := Iff.rfl
@[simp] theorem s_le (i j : Int) (Q : PyData → Prop) : leD (.int i) (.int j) Q ↔ Q (.bool (decide (i ≤ j))) := Iff.rfl
@[simp] theorem s_gt (i j : Int) (Q : PyData → Prop) : gtD (.int i) (.int j) Q ↔ Q (.bool (decide (j < i))) := Iff.rfl
@[simp] theorem s_ge (i j : Int) (Q : PyData → Prop) : geD (.int i) (.int j) Q ↔ Q (.bool (decide (j ≤ i))) := Iff.rfl
@[simp] theorem sh_int (i : Int) : SeqAt.shaped (.int i) = true := rfl
@[simp] theorem sh_bool (i : Bool) : SeqAt.shaped (.bool i) = true := rfl
@[simp] theorem sh_str (i : Str) : SeqAt.shaped (.str i) = PyData.strOk i := by simp [SeqAt.shaped, PyData.canLay0, PyData.depth]
@[simp] theorem sh_none : SeqAt.shaped .none = true := rfl
@[simp] theorem eqv_int (i j : Int) : PyData.eqv (.int i) (.int j) = (i == j) := by simp [PyData.eqv]
@[simp] theorem eqv_str (i j : Str) : PyData.eqv (.str i) (.str j) = (i == j) := by simp [PyData.eqv]
@[simp] theorem eqv_bool (i j : Bool) : PyData.eqv (.bool i) (.bool j) = (i == j) := by simp [PyData.eqv]
@[simp] theorem s_eq (d e : PyData) (Q : PyData → Prop) : eqD d e Q ↔ (SeqAt.shaped d = true ∧ SeqAt.shaped e = true ∧ Q (.bool (PyData.eqv d e))) := Iff.rfl
@[simp] theorem s_ne (d e : PyData) (Q : PyData → Prop) : neD d e Q ↔ (SeqAt.shaped d = true ∧ SeqAt.shaped e = true ∧ Q (.bool (!PyData.eqv d e))) := Iff.rfl
@[simp] theorem s_is (d e : PyData) (Q : PyData → Prop) : isD d e Q ↔ (e = .none ∧ Q (.bool (isNo d))) := Iff.rfl
@[simp] theorem s_isNot (d e : PyData) (Q : PyData → Prop) : isNotD d e Q ↔ (e = .none ∧ Q (.bool (!isNo d))) := Iff.rfl
@[simp] theorem isNo_int (i : Int) : isNo (.int i) = false := rfl
@[simp] theorem isNo_str (i : Str) : isNo (.str i) = false := rfl
@[simp] theorem isNo_bool (i : Bool) : isNo (.bool i) = false := rfl
@[simp] theorem isNo_list (i : List PyData) : isNo (.list i) = false := rfl
@[simp] theorem isNo_tuple (i : List PyData) : isNo (.tuple i) = false := rfl
@[simp] theorem isNo_none : isNo .none = true := rfl
@[simp] theorem s_ixD (ds : List PyData) (i : Int) (Q : PyData → Prop) : ixD ds (.int i) Q ↔ ∃ d, atI ds i = some d ∧ Q d := by
  constructor
  · rintro ⟨n, d, h, h1, h2⟩
    cases h
    exact ⟨d, h1, h2⟩
  · rintro ⟨d, h1, h2⟩
    exact ⟨i, d, rfl, h1, h2⟩
@[simp] theorem s_lenS (s : Str) (Q : PyData → Prop) : lenD [.str s] Q ↔ (s.length ≤ 100000 ∧ Q (.int s.length)) := Iff.rfl
@[simp] theorem s_lenL (s : List PyData) (Q : PyData → Prop) : lenD [.list s] Q ↔ Q (.int s.length) := Iff.rfl
@[simp] theorem s_lenT (s : List PyData) (Q : PyData → Prop) : lenD [.tuple s] Q ↔ Q (.int s.length) := Iff.rfl
@[simp] theorem s_lenC (b : Bool) (s : List PyData) (Q : PyData → Prop) : lenC b s Q ↔ Q (.int s.length) := Iff.rfl
@[simp] theorem s_tupC (b : Bool) (s : List PyData) (Q : PyData → Prop) : tupC b s Q ↔ Q (.tuple s) := Iff.rfl
@[simp] theorem s_lstC (b : Bool) (s : List PyData) (Q : OD → Prop) : lstC b s Q ↔ Q (.lst s) := Iff.rfl
@[simp] theorem s_intI (i : Int) (Q : PyData → Prop) : intD [.int i] Q ↔ Q (.int i) := Iff.rfl
@[simp] theorem s_intB (b : Bool) (Q : PyData → Prop) : intD [.bool b] Q ↔ Q (.int (if b then 1 else 0)) := Iff.rfl
@[simp] theorem s_strI (i : Int) (Q : PyData → Prop) : strD [.int i] Q ↔ (i.natAbs < 2 ^ 200 ∧ Q (.str (toString i))) := Iff.rfl
@[simp] theorem s_max2 (i j : Int) (Q : PyData → Prop) : max2D [.int i, .int j] Q ↔ Q (.int (if j > i then j else i)) := Iff.rfl
@[simp] theorem s_min2 (i j : Int) (Q : PyData → Prop) : min2D [.int i, .int j] Q ↔ Q (.int (if j < i then j else i)) := Iff.rfl
/-- data as a container, known -/
@[simp] theorem datL (b : Bool) (xs ds : List PyData) : PyData.list xs = dat b ds ↔ (b = false ∧ ds = xs) := by
  cases b <;> simp [dat, eq_comm]
@[simp] theorem datT (b : Bool) (xs ds : List PyData) : PyData.tuple xs = dat b ds ↔ (b = true ∧ ds = xs) := by
  cases b <;> simp [dat, eq_comm]
@[simp] theorem dat_true (xs : List PyData) : dat true xs = .tuple xs := rfl
@[simp] theorem dat_false (xs : List PyData) : dat false xs = .list xs := rfl
@[simp] theorem slotD_sh (d : PyData) : slotD (.sh d) = some d := rfl
@[simp] theorem slotD_ow (ds : List PyData) : slotD (.ow (.lst ds)) = some (.list ds) := rfl
@[simp] theorem wipeD_nil (ρ : Sto) : wipeD ρ [] = ρ := rfl
@[simp] theorem wipeD_cons (ρ : Sto) (v : Nat) (vs : List Nat) : wipeD ρ (v :: vs) = (wipeD ρ vs).set v .no := rfl
@[simp] theorem atI_nat {α : Type} (xs : List α) (n : Nat) : atI xs (n : Int) = xs[n]? := by
  unfold atI ixN
  by_cases h : n < xs.length
  · simp [h]
  · simp [h]
@[simp] theorem atI_2 {α : Type} (xs : List α) : atI xs 2 = xs[2]? := atI_nat xs 2
@[simp] theorem atI_3 {α : Type} (xs : List α) : atI xs 3 = xs[3]? := atI_nat xs 3
@[simp] theorem atI_0 {α : Type} (xs : List α) : atI xs 0 = xs[0]? := atI_nat xs 0
@[simp] theorem atI_1 {α : Type} (xs : List α) : atI xs 1 = xs[1]? := atI_nat xs 1
theorem atI_m1 {α : Type} (xs : List α) : atI xs (-1) = xs[xs.length - 1]? := by
  unfold atI ixN
  by_cases h : 0 < xs.length
  · have h1 : ¬ (0 : Int) ≤ -1 := by omega
    have h2 : -(xs.length : Int) ≤ -1 := by omega
    rw [if_neg h1, if_pos h2]
    have h3 : (-1 + (xs.length : Int)).toNat = xs.length - 1 := by omega
    rw [h3]; rfl
  · have : xs = [] := by cases xs with | nil => rfl | cons a b => simp at h
    subst this; rfl
theorem rngD_cons (lo : Int) (n : Nat) : rngD lo (n + 1) = PyData.int lo :: rngD (lo + 1) n := by
  unfold rngD
  rw [List.range_succ_eq_map, List.map_cons, List.map_map]
  simp only [Int.natCast_zero, Int.add_zero, List.cons.injEq, true_and]
  apply List.map_congr_left
  intro a _
  simp
  omega
@[simp] theorem rngD_zero (lo : Int) : rngD lo 0 = [] := rfl
@[simp] theorem rngD_len (lo : Int) (n : Nat) : (rngD lo n).length = n := by simp [rngD]
theorem rngD_get {lo : Int} {n i : Nat} {d : PyData} (h : (rngD lo n)[i]? = some d) : i < n ∧ d = .int (lo + (i : Int)) := by
  have hi : i < n := by
    have := (List.getElem?_eq_some_iff.mp h).1
    simpa using this
  refine ⟨hi, ?_⟩
  simp [rngD, hi] at h
  exact h.symm
/-- a for by an invariant, turn by turn -/
theorem forW_inv {dg : DG} {body : DS} {D : DEnds} {ds : List PyData} {ρ : Sto} (I : Nat → Sto → Prop) (h0 : I 0 ρ) (hd : ∀ ρ', I ds.length ρ' → D.nx ρ')
    (hs : ∀ (n : Nat) (d : PyData) (ρ' : Sto) (K : Sto → Prop), ds[n]? = some d → I n ρ' → (∀ ρ2, I (n + 1) ρ2 → K ρ2) → dg d ρ' fun ρ2 => body { D with nx := K, ct := K, bk := D.nx } ρ2) : forW dg body D ds ρ := by
  have key : ∀ (m n : Nat), n + m = ds.length → ∀ ρ', I n ρ' → forW dg body D (ds.drop n) ρ' := by
    intro m
    induction m with
    | zero =>
      intro n hn ρ' hI
      have e : n = ds.length := by omega
      subst e
      rw [List.drop_length]
      exact hd ρ' hI
    | succ m ih =>
      intro n hn ρ' hI
      have hlt : n < ds.length := by omega
      rw [List.drop_eq_getElem_cons hlt]
      exact hs n _ ρ' _ (by simp [hlt]) hI fun ρ2 h2 => ih (n + 1) (by omega) ρ2 h2
  have := key ds.length 0 (by omega) ρ h0
  rwa [List.drop_zero] at this
/-- a while by an invariant -/
theorem while_inv {t : DT} {body : DS} {D : DEnds} {ρ : Sto} (I : Nat → Sto → Prop) (m0 : Nat) (h0 : I m0 ρ)
    (hs : ∀ (m : Nat) (ρ' : Sto) (K : Sto → Prop), I m ρ' → (∀ m' ρ2, m' < m → I m' ρ2 → K ρ2) → t ρ' (fun b => if b = true then body { D with nx := K, ct := K, bk := D.nx } ρ' else D.nx ρ') (D.xd ρ')) : dWhile t body D ρ :=
  ⟨I, ⟨m0, h0⟩, fun m ρ' hi => hs m ρ' _ hi fun m' ρ2 h1 h2 => ⟨m', h1, h2⟩⟩
theorem ints_get {ns : List Int} {n : Nat} {d : PyData} (h : (ns.map PyData.int)[n]? = some d) : ∃ z, ns[n]? = some z ∧ d = .int z := by
  rw [List.getElem?_map] at h
  cases q : ns[n]? with
  | none => rw [q] at h; cases h
  | some z => rw [q] at h; exact ⟨z, rfl, (Option.some.inj h).symm⟩
theorem cutD_ints (ns : List Int) (lo hi : Option Int) : cutD (ns.map PyData.int) lo hi = ((ns.drop (HT.sIx ns.length 0 lo)).take (HT.sIx ns.length ns.length hi - HT.sIx ns.length 0 lo)).map PyData.int := by
  unfold cutD
  rw [List.length_map, List.map_take, List.map_drop]
/-- a comprehension without tests, its things told one by one -/
theorem lc_rel {dg : DG} {de : DE} {ρ : Sto} {Q : List PyData → Prop} {ds : List PyData} (P : Nat → PyData → PyData → Prop) (hz : ds.length ≤ 50000)
    (h : ∀ (i : Nat) (d : PyData), ds[i]? = some d → ∀ K : PyData → Prop, (∀ x, P i d x → K x) → dg d ρ fun ρ2 => de ρ2 K noX)
    (q : ∀ out : List PyData, out.length = ds.length → (∀ (i : Nat) (d x : PyData), ds[i]? = some d → out[i]? = some x → P i d x) → Q out) : lcW dg dYes de ρ Q ds [] := by
  have key : ∀ (m n : Nat) (acc : List PyData), n + m = ds.length → acc.length = n → (∀ (i : Nat) (d x : PyData), ds[i]? = some d → acc[i]? = some x → P i d x) → lcW dg dYes de ρ Q (ds.drop n) acc := by
    intro m
    induction m with
    | zero =>
      intro n acc hn hl hp
      have e : ds.drop n = [] := List.drop_eq_nil_of_le (by omega)
      rw [e]
      exact q acc (by omega) hp
    | succ m ih =>
      intro n acc hn hl hp
      have hlt : n < ds.length := by omega
      rw [List.drop_eq_getElem_cons hlt]
      have e : (fun ρ2 => dYes ρ2 (fun b => if b = true then de ρ2 (fun x => acc.length < 100000 ∧ lcW dg dYes de ρ Q (ds.drop (n + 1)) (acc ++ [x])) noX else lcW dg dYes de ρ Q (ds.drop (n + 1)) acc) noX) = fun ρ2 => de ρ2 (fun x => acc.length < 100000 ∧ lcW dg dYes de ρ Q (ds.drop (n + 1)) (acc ++ [x])) noX := by
        funext ρ2
        rfl
      show dg ds[n] ρ fun ρ2 => dYes ρ2 _ noX
      rw [e]
      refine h n _ (by simp [hlt]) _ fun x hx => ⟨by omega, ih (n + 1) _ (by omega) (by simp [hl]) fun i d y hd hy => ?_⟩
      rw [List.getElem?_append] at hy
      split at hy
      · exact hp i d y hd hy
      · rename_i hi
        have hi2 : i - acc.length = 0 := by
          have := (List.getElem?_eq_some_iff.mp hy).1
          simp at this
          omega
        rw [hi2] at hy
        have e1 : i = n := by omega
        subst e1
        simp at hy
        subst hy
        simp [hlt] at hd
        subst hd
        exact hx
  have := key ds.length 0 [] (by omega) rfl (fun i d x _ hx => by simp at hx)
  rwa [List.drop_zero] at this
theorem lc_map {dg : DG} {de : DE} {ρ : Sto} {Q : List PyData → Prop} {ds : List PyData} (f : PyData → PyData) (hz : ds.length ≤ 50000)
    (h : ∀ (i : Nat) (d : PyData), ds[i]? = some d → ∀ K : PyData → Prop, K (f d) → dg d ρ fun ρ2 => de ρ2 K noX) (q : Q (ds.map f)) : lcW dg dYes de ρ Q ds [] := by
  refine lc_rel (fun _ d x => x = f d) hz (fun i d hd K hK => h i d hd K (hK _ rfl)) fun out hl hp => ?_
  have e : out = ds.map f := by
    apply List.ext_getElem?
    intro i
    rw [List.getElem?_map]
    by_cases hi : i < ds.length
    · have h1 : ds[i]? = some ds[i] := by simp [hi]
      have h2 : out[i]? = some (out[i]'(by omega)) := by simp [show i < out.length by omega]
      rw [h1, h2, hp i _ _ h1 h2]
      rfl
    · rw [List.getElem?_eq_none (by omega), List.getElem?_eq_none (by omega)]
      rfl
  rw [e]
  exact q
/-- over a list that is a map -/
theorem lc_mapM {α : Type} {dg : DG} {de : DE} {ρ : Sto} {Q : List PyData → Prop} {g : α → PyData} {xs : List α} (f : α → PyData) (hz : xs.length ≤ 50000)
    (h : ∀ x ∈ xs, ∀ K : PyData → Prop, K (f x) → dg (g x) ρ fun ρ2 => de ρ2 K noX) (q : Q (xs.map f)) : lcW dg dYes de ρ Q (xs.map g) [] := by
  have key : ∀ (m n : Nat), n + m = xs.length → lcW dg dYes de ρ Q ((xs.map g).drop n) ((xs.map f).take n) := by
    intro m
    induction m with
    | zero =>
      intro n hn
      have e : (xs.map g).drop n = [] := List.drop_eq_nil_of_le (by simp; omega)
      have e2 : (xs.map f).take n = xs.map f := List.take_of_length_le (by simp; omega)
      rw [e, e2]
      exact q
    | succ m ih =>
      intro n hn
      have hlt : n < (xs.map g).length := by simp; omega
      have hlx : n < xs.length := by omega
      rw [List.drop_eq_getElem_cons hlt]
      have e : (fun ρ2 => dYes ρ2 (fun b => if b = true then de ρ2 (fun x => ((xs.map f).take n).length < 100000 ∧ lcW dg dYes de ρ Q ((xs.map g).drop (n + 1)) ((xs.map f).take n ++ [x])) noX else lcW dg dYes de ρ Q ((xs.map g).drop (n + 1)) ((xs.map f).take n)) noX) = fun ρ2 => de ρ2 (fun x => ((xs.map f).take n).length < 100000 ∧ lcW dg dYes de ρ Q ((xs.map g).drop (n + 1)) ((xs.map f).take n ++ [x])) noX := by
        funext ρ2
        rfl
      show dg (xs.map g)[n] ρ fun ρ2 => dYes ρ2 _ noX
      rw [e]
      rw [List.getElem_map]
      refine h _ (List.getElem_mem hlx) _ ⟨by simp; omega, ?_⟩
      have e3 : (xs.map f).take n ++ [f xs[n]] = (xs.map f).take (n + 1) := by
        rw [List.take_succ_eq_append_getElem (by simp; omega), List.getElem_map]
      rw [e3]
      exact ih (n + 1) (by omega)
  have := key xs.length 0 (by omega)
  rwa [List.drop_zero, List.take_zero] at this
/-- a comprehension with a test -/
theorem lc_filM {α : Type} {dg : DG} {dt : DT} {de : DE} {ρ : Sto} {Q : List PyData → Prop} {g : α → PyData} {xs : List α} (t : α → Bool) (f : α → PyData) (hz : xs.length ≤ 50000)
    (h : ∀ x ∈ xs, ∀ (K1 : PyData → Prop) (K0 : Prop), (t x = true → K1 (f x)) → (t x = false → K0) → dg (g x) ρ fun ρ2 => dt ρ2 (fun b => if b = true then de ρ2 K1 noX else K0) noX) (q : Q ((xs.filter t).map f)) : lcW dg dt de ρ Q (xs.map g) [] := by
  have key : ∀ (ys : List α) (acc : List PyData), (∀ y ∈ ys, y ∈ xs) → acc.length + ys.length ≤ 50000 → Q (acc ++ (ys.filter t).map f) → lcW dg dt de ρ Q (ys.map g) acc := by
    intro ys
    induction ys with
    | nil => intro acc _ _ q; simpa using q
    | cons y ys ih =>
      intro acc hm hz q
      simp only [List.length_cons] at hz
      refine h y (hm y List.mem_cons_self) _ _ (fun ht => ⟨by omega, ih _ (fun z hz => hm z (List.mem_cons_of_mem _ hz)) (by simp; omega) ?_⟩) (fun ht => ih _ (fun z hz => hm z (List.mem_cons_of_mem _ hz)) (by omega) ?_)
      · rw [List.filter_cons, if_pos ht] at q
        simpa using q
      · rw [List.filter_cons, if_neg (by rw [ht]; exact Bool.false_ne_true)] at q
        exact q
  exact key xs [] (fun _ h => h) (by simpa using hz) (by simpa using q)
@[simp] theorem isT_int_none : isT "int" (.none) = false := by simp only [isT, tyN]; decide +kernel
@[simp] theorem isT_int_int (x) : isT "int" (.int x) = true := by simp only [isT, tyN]; decide +kernel
@[simp] theorem isT_int_bool (x) : isT "int" (.bool x) = true := by simp only [isT, tyN]; decide +kernel
@[simp] theorem isT_int_str (x) : isT "int" (.str x) = false := by simp only [isT, tyN]; decide +kernel
@[simp] theorem isT_int_list (x) : isT "int" (.list x) = false := by simp only [isT, tyN]; decide +kernel
@[simp] theorem isT_int_tuple (x) : isT "int" (.tuple x) = false := by simp only [isT, tyN]; decide +kernel
@[simp] theorem isT_bool_none : isT "bool" (.none) = false := by simp only [isT, tyN]; decide +kernel
@[simp] theorem isT_bool_int (x) : isT "bool" (.int x) = false := by simp only [isT, tyN]; decide +kernel
@[simp] theorem isT_bool_bool (x) : isT "bool" (.bool x) = true := by simp only [isT, tyN]; decide +kernel
@[simp] theorem isT_bool_str (x) : isT "bool" (.str x) = false := by simp only [isT, tyN]; decide +kernel
@[simp] theorem isT_bool_list (x) : isT "bool" (.list x) = false := by simp only [isT, tyN]; decide +kernel
@[simp] theorem isT_bool_tuple (x) : isT "bool" (.tuple x) = false := by simp only [isT, tyN]; decide +kernel
@[simp] theorem isT_str_none : isT "str" (.none) = false := by simp only [isT, tyN]; decide +kernel
@[simp] theorem isT_str_int (x) : isT "str" (.int x) = false := by simp only [isT, tyN]; decide +kernel
@[simp] theorem isT_str_bool (x) : isT "str" (.bool x) = false := by simp only [isT, tyN]; decide +kernel
@[simp] theorem isT_str_str (x) : isT "str" (.str x) = true := by simp only [isT, tyN]; decide +kernel
@[simp] theorem isT_str_list (x) : isT "str" (.list x) = false := by simp only [isT, tyN]; decide +kernel
@[simp] theorem isT_str_tuple (x) : isT "str" (.tuple x) = false := by simp only [isT, tyN]; decide +kernel
@[simp] theorem isT_list_none : isT "list" (.none) = false := by simp only [isT, tyN]; decide +kernel
@[simp] theorem isT_list_int (x) : isT "list" (.int x) = false := by simp only [isT, tyN]; decide +kernel
@[simp] theorem isT_list_bool (x) : isT "list" (.bool x) = false := by simp only [isT, tyN]; decide +kernel
@[simp] theorem isT_list_str (x) : isT "list" (.str x) = false := by simp only [isT, tyN]; decide +kernel
@[simp] theorem isT_list_list (x) : isT "list" (.list x) = true := by simp only [isT, tyN]; decide +kernel
@[simp] theorem isT_list_tuple (x) : isT "list" (.tuple x) = false := by simp only [isT, tyN]; decide +kernel
@[simp] theorem isT_tuple_none : isT "tuple" (.none) = false := by simp only [isT, tyN]; decide +kernel
@[simp] theorem isT_tuple_int (x) : isT "tuple" (.int x) = false := by simp only [isT, tyN]; decide +kernel
@[simp] theorem isT_tuple_bool (x) : isT "tuple" (.bool x) = false := by simp only [isT, tyN]; decide +kernel
@[simp] theorem isT_tuple_str (x) : isT "tuple" (.str x) = false := by simp only [isT, tyN]; decide +kernel
@[simp] theorem isT_tuple_list (x) : isT "tuple" (.list x) = false := by simp only [isT, tyN]; decide +kernel
@[simp] theorem isT_tuple_tuple (x) : isT "tuple" (.tuple x) = true := by simp only [isT, tyN]; decide +kernel
end WH

namespace WH
open PySem PySem.Spec L2
/-! ### enumerate of a tuple -/
section
open AutoSeq1 (wpAny_loadPart')
theorem meets_enumT (l : Addr) (items : Array Value) (n : Nat) (dct : Option Addr) (sl : Array (Option Value)) :
    Meets (Builtin.«enumerate.__new__» ⟨[.type "enumerate", .ref l], []⟩) (fun _ R s => s.heap.get? l = some { cls := .type "tuple", dict := dct, data := .seq items n, slots := sl } ∧
      R (.ok (.ret (.ref (s.heap.push { cls := .type "tuple_iterator", data := .fields #[.ref l, .int 0 0] }).objs.size)))
        { s with heap := (s.heap.push { cls := .type "tuple_iterator", data := .fields #[.ref l, .int 0 0] }).push { cls := .type "enumerate", data := .fields #[.none, .bool false, .ref s.heap.objs.size, rawInt 0, .none, .none] } }) :=
  .of_wp fun prog w A R s h => by
    obtain ⟨hp, g, d, tk, os⟩ := s; obtain ⟨hl, h⟩ := h
    have hsub := sub_enumerate
    have hL : Heap.IsTuple (Shared.heap ⟨hp, g, d, tk, os⟩) l items := ⟨_, hl, rfl, n, rfl⟩
    wp_walk using wpAny_loadPart' hl
    refine wpAny_stack_any fun st => wpAny_pure ?_
    split
    · rename_i c _ _ _ _ _
      cases (c == Value.type "enumerate")
      · wp_walk using wpAny_loadPart' hl, wpAny_pyIter_tuple hL
        exact ⟨_, rfl, h⟩
      · wp_walk using wpAny_loadPart' hl, wpAny_pyIter_tuple hL
        exact ⟨_, rfl, h⟩
    · wp_walk using wpAny_loadPart' hl, wpAny_pyIter_tuple hL
      exact ⟨_, rfl, h⟩
theorem call_enumT {prog : Program} {w : World} {A : Around} {E : Value → Shared → Prop} {s : Shared} {l : Addr} {items : Array Value} {Q : Value → Shared → Prop} (hL : s.heap.IsTuple l items)
    (h : ∀ h', IsEnum h' (s.heap.objs.size + 1) s.heap.objs.size 0 .none → h'.IsTupleIter s.heap.objs.size l 0 → h'.objs.size = s.heap.objs.size + 2 →
      (∀ b o, s.heap.get? b = some o → h'.get? b = some o) → Q (.ref (s.heap.objs.size + 1)) { s with heap := h' }) :
    wpAny (model prog w) A (call (.type "enumerate") [.ref l]) Q E s := by
  obtain ⟨⟨c, dct, dt, sl⟩, hl, hc, n, hd⟩ := hL
  replace hc : c = .type "tuple" := hc
  replace hd : dt = .seq items n := hd
  subst hc hd
  refine callType_new F.called_enumerate (by decide) (F.typeCall_enumerate_1 _) (F.newCall_enumerate_1 _) (fun obj => F.args_object_init_2 obj _) F.entry_enumerate_new
    (meets_enumT l items n dct sl) ⟨hl, ?_⟩
  have hz : (s.heap.push { cls := .type "tuple_iterator", data := .fields #[.ref l, .int 0 0] }).objs.size = s.heap.objs.size + 1 := Heap.size_push ..
  show _ ∧ _
  rw [hz]
  have he : IsEnum ((s.heap.push { cls := .type "tuple_iterator", data := .fields #[.ref l, .int 0 0] }).push
      { cls := .type "enumerate", data := .fields #[.none, .bool false, .ref s.heap.objs.size, rawInt 0, .none, .none] }) (s.heap.objs.size + 1) s.heap.objs.size 0 .none := by
    have := Heap.get?_push_size (s.heap.push { cls := .type "tuple_iterator", data := .fields #[.ref l, .int 0 0] })
      (o := { cls := .type "enumerate", data := .fields #[.none, .bool false, .ref s.heap.objs.size, rawInt 0, .none, .none] }) rfl
    rw [hz] at this; exact this
  refine ⟨⟨_, he, rfl⟩, h _ he ⟨_, Heap.get?_push_of_some _ (Heap.get?_push_size _ rfl), rfl, rfl⟩ (by rw [Heap.size_push, hz]) fun b o x => Heap.get?_push_of_some _ (Heap.get?_push_of_some _ x)⟩
end
theorem next_enumT_end {prog : Program} {w : World} {A : Around} {E : Value → Shared → Prop} {s : Shared} {e it l : Addr} {i : Nat} {items : Array Value} {old : Value} {Q : Option Value → Shared → Prop} (hh : A.handled = none)
    (he : IsEnum s.heap e it i old) (hit : s.heap.IsTupleIter it l i) (hl : s.heap.IsTuple l items) (hx : items[i]? = none)
    (hQ : ∀ h', Heap.ExtBut it s.heap h' → Q none { s with heap := h' }) : wpAny (model prog w) A (pyNext (.ref e)) Q E s := by
  have hT : s.TypeIs (.ref e) "enumerate" := ⟨_, he, rfl⟩
  unfold pyNext
  refine wpAny_bind (wpAny_attempt (wpAny_callSpecial?_slot (name := Str.ofString "__next__") hT F.slot_enumerate_next
    (wpAny_call_entry F.slot_enumerate_next hT F.entry_enumerate_next ?_ (F.args_enumerate_next_1 _))))
  show wpAny _ _ (field (.ref e) 2 >>= _) _ _ _
  refine wpAny_bind (wpAny_field he rfl (x := .ref it) rfl ?_)
  refine wpAny_bind (wpAny_nextOf_tuple_end hh hit hl hx fun h' x he' hx' => ?_)
  obtain ⟨o, ho, hc⟩ := hx'
  refine wpAny_bind (wpAny_isInstance (T := "StopIteration") (b := true) ⟨o, ho, hc⟩ isSubtype_stop ?_)
  exact wpAny_pure (hQ _ he')
/-- the tuple at a, each item in a new pair -/
def IteT (K : PySem.W.Frag) (a : Addr) : It :=
  ⟨fun i H => ∃ (xs : List V) (x : V), SqT K H a xs ∧ xs[i]? = some x, fun i H v H' => ∃ T x, v = .ref T ∧ H T = none ∧ H' = upd H T (.tup [.int (i : Nat), x]) ∧ ∀ xs, SqT K H a xs → xs[i]? = some x, fun i H => ∃ xs : List V, SqT K H a xs ∧ xs.length ≤ i⟩
theorem turn_enumT {P : Program} {w : World} {K : PySem.W.Frag} {elts : List Expr} {kk : Nat} {tpos : Pos} (a e it : Addr) (hai : a ≠ it) :
    Turn P w K (.Tuple elts kk tpos) (IteT K a) [e, it] e (fun i h => (∃ old, IsEnum h e it ((i : Nat) : Int) old) ∧ h.IsTupleIter it a i ∧ e ≠ it) where
  mem := by simp
  obj := fun i h st b hb => by
    obtain ⟨⟨old, he⟩, ⟨o, ho, hc, hd⟩, _⟩ := st
    have e' : b = e ∨ b = it := by simpa using hb
    rcases e' with z | z
    · rw [z]; exact ⟨_, he, fun v q => nomatch q⟩
    · rw [z]; exact ⟨o, ho, fun v q => by rw [hd] at q; cases q⟩
  keep := fun i h h' st k => let ⟨⟨old, he⟩, hi, hne⟩ := st; ⟨⟨old, k e (by simp) _ he⟩, hi.at fun o q => k it (by simp) o q, hne⟩
  item := by
    intro X hP hw hK hc i pins s σ H E I hf st hg
    subst hP hw hK
    obtain ⟨⟨old, he⟩, hit, hne⟩ := st
    obtain ⟨xs, x, hq, hx⟩ := hg
    obtain ⟨its, rv, p, hz⟩ := I.tuple hq
    obtain ⟨u, hu, ru⟩ := rv.get hx
    have hel : e < s.heap.objs.size := Heap.lt_size he
    have hil : it < s.heap.objs.size := by obtain ⟨_, q, _⟩ := hit; exact Heap.lt_size q
    have p' : s.heap.IsTuple a its.toArray := p
    have hea : e ≠ a := fun z => by
      obtain ⟨o, ho, hc', _⟩ := p'
      have he2 : s.heap.get? e = some _ := he
      rw [z, ho] at he2
      cases he2
      exact absurd (show Value.type "enumerate" = Value.type "tuple" from hc') (by decide)
    have hsz0 : i < its.toArray.size := by
      have := (List.getElem?_eq_some_iff.mp hu).1
      simpa using this
    refine wpAny_pyNext_enum_itemD (Draws.tuple (A := X.A.in1) (show X.A.in1.handled = none from I.ok.hd hc) it a hai its.toArray) he ⟨hit, p'⟩ hsz0 hne (by simp [hne, hea]) fun u' h' tk hP ho hs' hT hsz hk => ?_
    have eu : u' = u := by
      have h2 : its.toArray[i]? = some u := by simpa using hu
      rw [hP] at h2
      exact Option.some.inj h2
    subst eu
    refine ⟨_, rfl, wpAny_letOwnedTupleGo_enum (s := { s with heap := h', toks := tk + 1 }) ho fun h'' he' sb => ?_⟩
    have hT2 : h''.get? s.heap.objs.size = some { cls := .type "tuple", data := .seq #[.int i tk, u'] } := (sb.2 _ (Nat.ne_of_gt hel)).trans hT
    have new : ObjOk X.prog X.w (upd H s.heap.objs.size (.tup [.int (i : Nat), x])) h'' s.heap.objs.size (.tup [.int (i : Nat), x]) :=
      ⟨by show 2 ≤ sizeLine; decide, [.int i tk, u'], .cons ⟨_, rfl⟩ (.cons ru .nil), ⟨_, hT2, rfl, _, rfl⟩⟩
    have I1 : Inv X pins σ (upd H s.heap.objs.size (.tup [.int (i : Nat), x])) { s with heap := h'', toks := tk + 1 } :=
      I.turnedNew (ch := [e, it]) (fun b ob hb q => (sb.2 b (fun z => hb (by simp [z]))).trans (hk b ob (fun z => hb (by simp [z])) (fun z => hb (by simp [z])) q)) hf (Nat.le_refl _) new
    refine ⟨.ref s.heap.objs.size, _, I1, rfl, ⟨_, x, rfl, I.hok.fresh (Nat.le_refl _), rfl, fun ys hy => by rw [I.tuple_inj hy hq]; exact hx⟩, ⟨⟨u', ?_⟩, hs'.1.at fun o q => (sb.2 it (Ne.symm hne)).trans q, hne⟩, fun b hb => ?_⟩
    · have e1 : ((i + 1 : Nat) : Int) = (i : Int) + 1 := by omega
      rw [e1]; exact he'
    · have hb' : b < s.heap.objs.size := by
        have e' : b = e ∨ b = it := by simpa using hb
        rcases e' with z | z
        · rw [z]; exact hel
        · rw [z]; exact hil
      rw [upd_ne (Nat.ne_of_lt hb')]
      exact (hf b hb).1
  done := by
    intro X hP hw hK hc i pins s σ H E I hf st hg
    subst hP hw hK
    obtain ⟨⟨old, he⟩, hit, hne⟩ := st
    obtain ⟨xs, hq, hx⟩ := hg
    obtain ⟨its, rv, p, hz⟩ := I.tuple hq
    obtain ⟨f0, f1, f2, f3, f4, f5⟩ := hf it (by simp)
    have hl := rv.length
    have p' : s.heap.IsTuple a its.toArray := p
    exact next_enumT_end (I.ok.hd hc) he hit p' (by simp; omega) fun h' eb => ⟨rfl, I.turned (t' := s.toks) (fun b o hb q => eb b o hb q) f0 f1 f3 f4 f5⟩
  self := fun A i s Q E st h => let ⟨⟨_, he⟩, _⟩ := st; wpAny_pyIter_enum he h
/-- enumerate of a list or a tuple -/
def iEnumA (K : PySem.W.Frag) (ta : TA) : TI := fun σ H R => ta σ H fun vs H1 => ∃ a, vs = [.ref a] ∧ (((∃ xs, SqL K H1 a xs) ∧ R (Ite K a) H1) ∨ ((∃ xs, SqT K H1 a xs) ∧ R (IteT K a) H1))
theorem pi_enumA {X : Cx} {e : Expr} {ta : TA} {p pos tpos : Pos} {elts : List Expr} {kk : Nat} (hg : Gl X "enumerate") (hm : X.mg "enumerate" = none) (ha : PA X [e] ta) (hs : starEach [e] X.env = [(false, eval e X.env)] := by rfl) :
    PI X (.Tuple elts kk tpos) (.Call (.Name "enumerate" p) [e] [] pos) (iEnumA X.K ta) := by
  refine ⟨fun pins s σ H R I h => ?_⟩
  refine PyProof.Rows.Call_ (ld_blt I hg hm PyProof.Rows.boot_enumerate (PyProof.Rows.callWith_type1 (thn (ha.run pos pins s σ H _ I h) fun us s1 ⟨vs, H1, I1, r1, q1⟩ => ?_) hs rfl))
  obtain ⟨a, ex, q⟩ := q1
  subst ex
  cases r1 with
  | cons r rr =>
    cases rr
    cases r
    have fin : ∀ b, (b = s1.heap.objs.size + 1 ∨ b = s1.heap.objs.size) → FpOk X pins H1 b := fun b e' => by
      have hle : s1.heap.objs.size ≤ b := by
        rcases e' with z | z
        · rw [z]; exact Nat.le_add_right _ _
        · rw [z]; exact Nat.le_refl _
      exact I1.fpOk hle (I1.hok.fresh hle)
    rcases q with ⟨⟨xs, hq⟩, q⟩ | ⟨⟨xs, hq⟩, q⟩
    · obtain ⟨its, rv, p', hz⟩ := I1.list hq
      refine call_enumerate_list p'.isList fun h' he hit hsz hk => wpAny_pyIter_enum he ?_
      have I2 : Inv X pins σ H1 { s1 with heap := h' } := I1.kept (t' := s1.toks) hk
      exact ⟨s1.heap.objs.size + 1, [s1.heap.objs.size + 1, s1.heap.objs.size], _, _, H1, rfl, I2, turn_enum a (s1.heap.objs.size + 1) s1.heap.objs.size, ⟨⟨.none, he⟩, hit, Nat.succ_ne_self _⟩, fun b hb => fin b (by simpa using hb), q⟩
    · obtain ⟨its, rv, p', hz⟩ := I1.tuple hq
      have p2 : s1.heap.IsTuple a its.toArray := p'
      have hlt : a < s1.heap.objs.size := by obtain ⟨_, z, _⟩ := p2; exact Heap.lt_size z
      refine call_enumT p2 fun h' he hit hsz hk => wpAny_pyIter_enum he ?_
      have I2 : Inv X pins σ H1 { s1 with heap := h' } := I1.kept (t' := s1.toks) hk
      exact ⟨s1.heap.objs.size + 1, [s1.heap.objs.size + 1, s1.heap.objs.size], _, _, H1, rfl, I2, turn_enumT a (s1.heap.objs.size + 1) s1.heap.objs.size (Nat.ne_of_lt hlt), ⟨⟨.none, he⟩, hit, Nat.succ_ne_self _⟩, fun b hb => fin b (by simpa using hb), q⟩
def enumD (ds : List PyData) : List PyData := ds.zipIdx.map fun p => .tuple [.int (p.2 : Int), p.1]
theorem enumD_len (ds : List PyData) : (enumD ds).length = ds.length := by simp [enumD]
theorem enumD_get {ds : List PyData} {i : Nat} {d : PyData} (h : (enumD ds)[i]? = some d) : ∃ e, ds[i]? = some e ∧ d = .tuple [.int (i : Int), e] := by
  unfold enumD at h
  rw [List.getElem?_map, List.getElem?_zipIdx] at h
  cases q : ds[i]? with
  | none => rw [q] at h; cases h
  | some e =>
    rw [q] at h
    refine ⟨e, rfl, ?_⟩
    simpa using h.symm
/-- a new pair at T -/
theorem grow_pair {K : PySem.W.Frag} {G1 H1 : Hp} {T : Addr} {vs : List V} {ds : List PyData} (gh : Same G1 H1) (hT : H1 T = none) (r : RpAll K G1 vs ds) : ∃ G2, Gr G1 H1 G2 (upd H1 T (.tup vs)) ∧ Same G2 (upd H1 T (.tup vs)) ∧ Rp K G2 (.ref T) (.tuple ds) :=
  ⟨upd G1 T (.tup vs), Gr.share gh hT, fun a u e => by
    by_cases ha : a = T
    · subst ha; rw [upd_same] at e ⊢; exact e
    · rw [upd_ne ha] at e ⊢; exact gh a u e, rp_tupNew (gh.free hT) r⟩
theorem iter_enumL {K : PySem.W.Frag} {G : Hp} {a : Addr} {xs : List V} {ds : List PyData} (h : G a = some (.lst xs)) (r : RpAll K G xs ds) : IterOk K (Ite K a) G (enumD ds) := fun G1 H1 g gh i => by
  have hl := rpa_length r
  have hq : SqL K H1 a xs := SqL.of (gh _ _ (g _ _ h))
  rw [enumD_len]
  refine ⟨fun hi => ⟨xs, xs[i]'(by omega), hq, by simp [show i < xs.length by omega]⟩, fun hi => ⟨xs, hq, by omega⟩, fun d x H2 hd hy => ?_⟩
  obtain ⟨T, y, rfl, hT, rfl, hx⟩ := hy
  obtain ⟨e, he, rfl⟩ := enumD_get hd
  obtain ⟨v, e1, e2⟩ := rpa_get r he
  rw [hx xs hq] at e1
  cases e1
  exact grow_pair gh hT (.cons (.int _) (.cons (rp_mono g e2) .nil))
theorem iter_enumT {K : PySem.W.Frag} {G : Hp} {a : Addr} {xs : List V} {ds : List PyData} (h : SqT K G a xs) (r : RpAll K G xs ds) : IterOk K (IteT K a) G (enumD ds) := fun G1 H1 g gh i => by
  have hl := rpa_length r
  have hq : SqT K H1 a xs := sqT_mono (g.trans gh) h
  rw [enumD_len]
  refine ⟨fun hi => ⟨xs, xs[i]'(by omega), hq, by simp [show i < xs.length by omega]⟩, fun hi => ⟨xs, hq, by omega⟩, fun d x H2 hd hy => ?_⟩
  obtain ⟨T, y, rfl, hT, rfl, hx⟩ := hy
  obtain ⟨e, he, rfl⟩ := enumD_get hd
  obtain ⟨v, e1, e2⟩ := rpa_get r he
  rw [hx xs hq] at e1
  cases e1
  exact grow_pair gh hT (.cons (.int _) (.cons (rp_mono g e2) .nil))
def dEnum (de : DE) : DI := fun ρ Q X => de ρ (fun d => ∃ b ds, d = dat b ds ∧ Q (enumD ds)) X
@[simp] theorem s_dEnum (de : DE) (ρ : Sto) (Q : List PyData → Prop) (X : XD) : dEnum de ρ Q X ↔ de ρ (fun d => ∃ b ds, d = dat b ds ∧ Q (enumD ds)) X := Iff.rfl
theorem qi_enum {X : Cx} {W : XW} {e : Expr} {p pos tpos : Pos} {elts : List Expr} {kk : Nat} {de : DE} (hm : X.mg "enumerate" = none) (he : QE X W e de) (hg : Gl X "enumerate" := by rfl) (hs : starEach [e] X.env = [(false, eval e X.env)] := by rfl) : QI X W (.Tuple elts kk tpos) (.Call (.Name "enumerate" p) [e] [] pos) (dEnum de) :=
  PI.sub (pi_enumA hg hm (pa_cons he pa_nil hs) hs) fun σ H R h => by
  obtain ⟨G0, H0, G, ρ, Qd, Xd, k, h, fn, xo⟩ := h
  refine ⟨G0, H0, G, ρ, _, Xd, k, h, fun G1 H1 v d k1 g1 rv q => ?_, xo⟩
  obtain ⟨b, ds, rfl, q⟩ := q
  cases b with
  | false =>
    cases rv with
    | lst l1 l2 => exact ⟨_, rfl, .inl ⟨⟨_, SqL.of (k1.gh _ _ l1)⟩, fn G1 H1 _ _ k1 g1 (iter_enumL l1 l2) q⟩⟩
  | true =>
    cases rv with
    | tup l1 l2 => exact ⟨_, rfl, .inr ⟨⟨_, sqT_mono k1.gh l1⟩, fn G1 H1 _ _ k1 g1 (iter_enumT l1 l2) q⟩⟩
end WH

namespace WH
open PySem PySem.Spec L2
section
variable {X : Cx} {W : XW} {a b e : Expr} {p pos apos cpos : Pos} {da db de : DE}
/-! ### text in text -/
def strIn (x y : Str) : Bool := !(Builtin.Str.occurrences y x 0 y.length 1).isEmpty
theorem strIn_one (c : Nat) (z : Str) : strIn ⟨#[c]⟩ z = decide (c ∈ z.cps.toList) := PySem.StrLaws.found_one z c
def inS (neg : Bool) : PyData → PyData → (PyData → Prop) → Prop
  | .str x, .str y, Q => Q (.bool (if neg then !strIn x y else strIn x y))
  | _, _, _ => False
@[simp] theorem s_inS (neg : Bool) (x y : Str) (Q : PyData → Prop) : inS neg (.str x) (.str y) Q ↔ Q (.bool (if neg then !strIn x y else strIn x y)) := Iff.rfl
theorem inS_E {K : PySem.W.Frag} : R2E K (fun x y H Q => ∃ i j, x = .str i ∧ y = .str j ∧ Q (.bl (!(Builtin.Str.occurrences j i 0 j.length 1).isEmpty)) H) (inS false) := by
  intro G0 H0 G H σ ρ x y d e Qd Q k rx ry hf fn
  cases rx <;> cases ry <;> first | exact hf.elim | exact ⟨_, _, rfl, rfl, fn G H _ _ k Gr.refl (.bl _) hf⟩
theorem notInS_E {K : PySem.W.Frag} : R2E K (fun x y H Q => ∃ i j, x = .str i ∧ y = .str j ∧ Q (.bl (!(!(Builtin.Str.occurrences j i 0 j.length 1).isEmpty))) H) (inS true) := by
  intro G0 H0 G H σ ρ x y d e Qd Q k rx ry hf fn
  cases rx <;> cases ry <;> first | exact hf.elim | exact ⟨_, _, rfl, rfl, fn G H _ _ k Gr.refl (.bl _) hf⟩
theorem qe_inS (ha : QE X W a da) (hb : QE X W b db) (hm : behindInMarks .In b = false := by with_unfolding_all rfl) : QE X W (.Compare a [.In] [b] pos) (d2 (inS false) da db) := qe_cmp inS_E op_in_str ha hb hm
theorem qt_inS (ha : QE X W a da) (hb : QE X W b db) (hm : behindInMarks .In b = false := by with_unfolding_all rfl) : QT X W (.Compare a [.In] [b] pos) (dTst (d2 (inS false) da db)) := qt_cmp inS_E op_in_str ha hb hm
theorem qe_notInS (ha : QE X W a da) (hb : QE X W b db) (hm : behindInMarks .NotIn b = false := by with_unfolding_all rfl) : QE X W (.Compare a [.NotIn] [b] pos) (d2 (inS true) da db) := qe_cmp notInS_E op_notIn_str ha hb hm
theorem qt_notInS (ha : QE X W a da) (hb : QE X W b db) (hm : behindInMarks .NotIn b = false := by with_unfolding_all rfl) : QT X W (.Compare a [.NotIn] [b] pos) (dTst (d2 (inS true) da db)) := qt_cmp notInS_E op_notIn_str ha hb hm
/-! ### x in data of any depth -/
def inDp (neg : Bool) (d e : PyData) (Q : PyData → Prop) : Prop := ∃ b ds, e = dat b ds ∧ SeqAt.shaped d = true ∧ SeqAt.shaped e = true ∧ Q (.bool (if neg then !inD d ds else inD d ds))
def rInA (K : PySem.W.Frag) : R2 := fun x y H Q => ∃ d b ds, Dp K H x d ∧ Dp K H y (dat b ds) ∧ SeqAt.shaped d = true ∧ SeqAt.shaped (dat b ds) = true ∧ Q (.bl (ds.any fun z => PyData.eqv z d)) H
def rNotInA (K : PySem.W.Frag) : R2 := fun x y H Q => ∃ d b ds, Dp K H x d ∧ Dp K H y (dat b ds) ∧ SeqAt.shaped d = true ∧ SeqAt.shaped (dat b ds) = true ∧ Q (.bl (!ds.any fun z => PyData.eqv z d)) H
theorem op_inA (hu : X.A.units + 65 < cLine) : OpR X (compareOp .In) (rInA X.K) := by
  intro pins s σ H x y v u Q I rx ry h
  obtain ⟨d, b, ds, hd, he, sd, se, q⟩ := h
  obtain ⟨as, r1⟩ := Dp.reads I d x v hd rx
  obtain ⟨bs, r2⟩ := Dp.reads I (dat b ds) y u he ry
  cases b with
  | false => exact SeqAt.in_list_reads r2 r1 (SeqAt.canLay_of_shaped se) (SeqAt.canLay_of_shaped sd) (PyProof.Rows.room_in_shaped sd hu) ⟨.bl _, H, I, rfl, q⟩
  | true => exact SeqAt.in_tuple_reads r2 r1 (SeqAt.canLay_of_shaped se) (SeqAt.canLay_of_shaped sd) (PyProof.Rows.room_in_shaped sd hu) ⟨.bl _, H, I, rfl, q⟩
theorem op_notInA (hu : X.A.units + 65 < cLine) : OpR X (compareOp .NotIn) (rNotInA X.K) := by
  intro pins s σ H x y v u Q I rx ry h
  obtain ⟨d, b, ds, hd, he, sd, se, q⟩ := h
  obtain ⟨as, r1⟩ := Dp.reads I d x v hd rx
  obtain ⟨bs, r2⟩ := Dp.reads I (dat b ds) y u he ry
  cases b with
  | false => exact SeqAt.notIn_list_reads r2 r1 (SeqAt.canLay_of_shaped se) (SeqAt.canLay_of_shaped sd) (PyProof.Rows.room_in_shaped sd hu) ⟨.bl _, H, I, rfl, q⟩
  | true => exact SeqAt.notIn_tuple_reads r2 r1 (SeqAt.canLay_of_shaped se) (SeqAt.canLay_of_shaped sd) (PyProof.Rows.room_in_shaped sd hu) ⟨.bl _, H, I, rfl, q⟩
theorem inA_E {K : PySem.W.Frag} : R2E K (rInA K) (inDp false) := by
  intro G0 H0 G H σ ρ x y d e Qd Q k rx ry hf fn
  obtain ⟨b, ds, rfl, s1, s2, q⟩ := hf
  exact ⟨d, b, ds, rp_dpH rx k.gh s1, rp_dpH ry k.gh s2, s1, s2, fn G H _ _ k Gr.refl (.bl _) q⟩
theorem notInA_E {K : PySem.W.Frag} : R2E K (rNotInA K) (inDp true) := by
  intro G0 H0 G H σ ρ x y d e Qd Q k rx ry hf fn
  obtain ⟨b, ds, rfl, s1, s2, q⟩ := hf
  exact ⟨d, b, ds, rp_dpH rx k.gh s1, rp_dpH ry k.gh s2, s1, s2, fn G H _ _ k Gr.refl (.bl _) q⟩
theorem qe_inA (hu : X.A.units + 65 < cLine) (ha : QE X W a da) (hb : QE X W b db) (hm : behindInMarks .In b = false := by with_unfolding_all rfl) : QE X W (.Compare a [.In] [b] pos) (d2 (inDp false) da db) := qe_cmp inA_E (op_inA hu) ha hb hm
theorem qt_inA (hu : X.A.units + 65 < cLine) (ha : QE X W a da) (hb : QE X W b db) (hm : behindInMarks .In b = false := by with_unfolding_all rfl) : QT X W (.Compare a [.In] [b] pos) (dTst (d2 (inDp false) da db)) := qt_cmp inA_E (op_inA hu) ha hb hm
theorem qe_notInA (hu : X.A.units + 65 < cLine) (ha : QE X W a da) (hb : QE X W b db) (hm : behindInMarks .NotIn b = false := by with_unfolding_all rfl) : QE X W (.Compare a [.NotIn] [b] pos) (d2 (inDp true) da db) := qe_cmp notInA_E (op_notInA hu) ha hb hm
theorem qt_notInA (hu : X.A.units + 65 < cLine) (ha : QE X W a da) (hb : QE X W b db) (hm : behindInMarks .NotIn b = false := by with_unfolding_all rfl) : QT X W (.Compare a [.NotIn] [b] pos) (dTst (d2 (inDp true) da db)) := qt_cmp notInA_E (op_notInA hu) ha hb hm
/-! ### methods of texts -/
/-- sep.join(xs) -/
def dJoin (da : DE) (dc : DC) : DE := fun ρ Q X => da ρ (fun s => ∃ a : Str, s = .str a ∧ dc ρ (fun _ ds => ∃ ys : List Str, ds = ys.map .str ∧ (ys.map (·.length)).sum + ys.length * a.length ≤ 100000 ∧ Q (.str (Txt.join a ys))) X) X
@[simp] theorem s_dJoin (da : DE) (dc : DC) (ρ : Sto) (Q : PyData → Prop) (X : XD) : dJoin da dc ρ Q X ↔ da ρ (fun s => ∃ a : Str, s = .str a ∧ dc ρ (fun _ ds => ∃ ys : List Str, ds = ys.map .str ∧ (ys.map (·.length)).sum + ys.length * a.length ≤ 100000 ∧ Q (.str (Txt.join a ys))) X) X := Iff.rfl
theorem qe_join {dc : DC} (ha : QE X W a da) (hb : QC X W b dc)
    (hbase : attributeBase a "join" X.env (eval a X.env) = eval a X.env := by rfl)
    (hfew : ((backTo cpos (starEach [b] X.env)).all (fun x => !x.1) && (backToKw cpos (keywordEach [] X.env)).all (fun x => x.1.isSome) && decide ([b].length + ([] : List Keyword).length + (if ([] : List Keyword).isEmpty then 0 else 1) < 30)) = true := by rfl)
    (hline : (apos.endLine == cpos.line) = true := by rfl) (hs : starEach [b] X.env = (false, eval b X.env) :: starEach [] X.env := by rfl) (hplain : (backTo cpos (starEach [] X.env)).any (·.1) = false := by rfl) :
    QE X W (.Call (.Attribute a "join" apos) [b] [] cpos) (dJoin da dc) := PE.sub (pe_bm PySem.F.plainAttrs_str PySem.F.slot_str_join PySem.F.type_str_join mt_join ha (pa_cons hb pa_nil hs) hbase hfew hline hs hplain) fun σ H Q h => by
  obtain ⟨G0, H0, G, ρ, Qd, Xd, k, h, fn, xo⟩ := h
  refine ⟨G0, H0, G, ρ, _, Xd, k, h, fun G1 H1 x d k1 g1 rx hb => ?_, xo⟩
  obtain ⟨s, rfl, hb⟩ := hb
  cases rx
  refine ⟨rfl, G0, H0, G1, ρ, _, Xd, k1, hb, fun G2 H2 a xs b ds k2 g2 sq rv q => ?_, xo.mono g1.gg⟩
  obtain ⟨ys, rfl, hz, q⟩ := q
  have e := rpa_ofStrs rv
  subst e
  exact ⟨s, a, ys, rfl, rfl, sq.any k2.gh, by omega, fn G2 H2 _ _ k2 (g1.trans g2) (.str _) q⟩
/-- text.split(sep) -/
def dSplit (da db : DE) : DO := fun ρ Q X => da ρ (fun s => ∃ a : Str, s = .str a ∧ db ρ (fun t => ∃ b : Str, t = .str b ∧ (b.length == 0) = false ∧ a.length ≤ 100000 ∧ Q (.lst ((Txt.split a b).map .str))) X) X
@[simp] theorem s_dSplit (da db : DE) (ρ : Sto) (Q : OD → Prop) (X : XD) : dSplit da db ρ Q X ↔ da ρ (fun s => ∃ a : Str, s = .str a ∧ db ρ (fun t => ∃ b : Str, t = .str b ∧ (b.length == 0) = false ∧ a.length ≤ 100000 ∧ Q (.lst ((Txt.split a b).map .str))) X) X := Iff.rfl
theorem qo_split (ha : QE X W a da) (hb : QE X W b db)
    (hbase : attributeBase a "split" X.env (eval a X.env) = eval a X.env := by rfl)
    (hfew : ((backTo cpos (starEach [b] X.env)).all (fun x => !x.1) && (backToKw cpos (keywordEach [] X.env)).all (fun x => x.1.isSome) && decide ([b].length + ([] : List Keyword).length + (if ([] : List Keyword).isEmpty then 0 else 1) < 30)) = true := by rfl)
    (hline : (apos.endLine == cpos.line) = true := by rfl) (hs : starEach [b] X.env = (false, eval b X.env) :: starEach [] X.env := by rfl) (hplain : (backTo cpos (starEach [] X.env)).any (·.1) = false := by rfl) :
    QO X W (.Call (.Attribute a "split" apos) [b] [] cpos) (dSplit da db) := PE.sub (pe_bm PySem.F.plainAttrs_str PySem.F.slot_str_split PySem.F.type_str_split mt_split ha (pa_cons hb pa_nil hs) hbase hfew hline hs hplain) fun σ H Q h => by
  obtain ⟨G0, H0, G, ρ, Qd, Xd, k, h, fn, xo⟩ := h
  refine ⟨G0, H0, G, ρ, _, Xd, k, h, fun G1 H1 x d k1 g1 rx hb => ?_, xo⟩
  obtain ⟨s, rfl, hb⟩ := hb
  cases rx
  refine ⟨rfl, G0, H0, G1, ρ, _, Xd, k1, hb, fun G2 H2 y e k2 g2 ry q => ?_, xo.mono g1.gg⟩
  obtain ⟨t, rfl, ht, hz, q⟩ := q
  cases ry
  exact ⟨s, t, rfl, rfl, ht, Nat.le_trans (Nat.add_le_add_right hz 2) (by decide), fin_own (o := .lst ((Txt.split s t).map .str)) k2 (fun G3 H3 p ho o k3 g3 n1 n2 n3 n4 q => fn G3 H3 p ho o k3 ((g1.trans g2).trans g3) (g1.hh.free (g2.hh.free n1)) n2 n3 n4 q) (show RpAll _ _ _ _ from rpa_strs _) q⟩
/-- text.partition(sep) -/
def dPartition (da db : DE) : DE := fun ρ Q X => da ρ (fun s => ∃ a : Str, s = .str a ∧ db ρ (fun t => ∃ b : Str, t = .str b ∧ (b.length == 0) = false ∧ a.length ≤ 100000 ∧ Q (.tuple [.str (Txt.partition a b).1, .str (Txt.partition a b).2.1, .str (Txt.partition a b).2.2])) X) X
@[simp] theorem s_dPartition (da db : DE) (ρ : Sto) (Q : PyData → Prop) (X : XD) : dPartition da db ρ Q X ↔ da ρ (fun s => ∃ a : Str, s = .str a ∧ db ρ (fun t => ∃ b : Str, t = .str b ∧ (b.length == 0) = false ∧ a.length ≤ 100000 ∧ Q (.tuple [.str (Txt.partition a b).1, .str (Txt.partition a b).2.1, .str (Txt.partition a b).2.2])) X) X := Iff.rfl
theorem qe_partition (ha : QE X W a da) (hb : QE X W b db)
    (hbase : attributeBase a "partition" X.env (eval a X.env) = eval a X.env := by rfl)
    (hfew : ((backTo cpos (starEach [b] X.env)).all (fun x => !x.1) && (backToKw cpos (keywordEach [] X.env)).all (fun x => x.1.isSome) && decide ([b].length + ([] : List Keyword).length + (if ([] : List Keyword).isEmpty then 0 else 1) < 30)) = true := by rfl)
    (hline : (apos.endLine == cpos.line) = true := by rfl) (hs : starEach [b] X.env = (false, eval b X.env) :: starEach [] X.env := by rfl) (hplain : (backTo cpos (starEach [] X.env)).any (·.1) = false := by rfl) :
    QE X W (.Call (.Attribute a "partition" apos) [b] [] cpos) (dPartition da db) := PE.sub (pe_bm PySem.F.plainAttrs_str PySem.F.slot_str_partition PySem.F.type_str_partition mt_partition ha (pa_cons hb pa_nil hs) hbase hfew hline hs hplain) fun σ H Q h => by
  obtain ⟨G0, H0, G, ρ, Qd, Xd, k, h, fn, xo⟩ := h
  refine ⟨G0, H0, G, ρ, _, Xd, k, h, fun G1 H1 x d k1 g1 rx hb => ?_, xo⟩
  obtain ⟨s, rfl, hb⟩ := hb
  cases rx
  refine ⟨rfl, G0, H0, G1, ρ, _, Xd, k1, hb, fun G2 H2 y e k2 g2 ry q => ?_, xo.mono g1.gg⟩
  obtain ⟨t, rfl, ht, hz, q⟩ := q
  cases ry
  exact ⟨s, t, rfl, rfl, ht, sz_of hz, fin_tup k2 (fun G3 H3 v d k3 g3 rv q => fn G3 H3 v d k3 ((g1.trans g2).trans g3) rv q) (.cons (.str _) (.cons (.str _) (.cons (.str _) .nil))) q⟩
/-! ### int(text) -/
def intS : List PyData → (PyData → Prop) → Prop
  | [.str a], Q => ∃ n, PySem.intText? a = some n ∧ a.length ≤ 640 ∧ Q (.int n)
  | _, _ => False
@[simp] theorem s_intS (a : Str) (Q : PyData → Prop) : intS [.str a] Q ↔ ∃ n, PySem.intText? a = some n ∧ a.length ≤ 640 ∧ Q (.int n) := Iff.rfl
theorem intS_E {K : PySem.W.Frag} : RAE K (fun xs H Q => ∃ a n, xs = [.str a] ∧ PySem.intText? a = some n ∧ a.length ≤ 640 ∧ Q (.int n) H) intS := by
  intro G0 H0 G H σ ρ xs ds Qd Q k rx hf fn
  unfold intS at hf
  split at hf
  · obtain ⟨v, rfl, r⟩ := one_of rx
    cases r
    obtain ⟨n, h1, h2, q⟩ := hf
    exact ⟨_, n, rfl, h1, h2, fn G H _ _ k Gr.refl (.int _) q⟩
  · exact hf.elim
theorem qe_intS {de : DE} (hm : X.mg "int" = none) (ha : QE X W e de) (hg : Gl X "int" := by rfl) (he : starEach [e] X.env = (false, eval e X.env) :: starEach [] X.env := by rfl) : QE X W (.Call (.Name "int" p) [e] [] pos) (dCB intS (dCons de dNil)) := qe_callT intS_E call_int_str hm (by decide +kernel) (qa_cons ha qa_nil he) hg (he := he)
/-! ### f-strings -/
abbrev DJ := Str → Sto → (Str → Prop) → XD → Prop
inductive QJ (X : Cx) (W : XW) : List Expr → DJ → Prop where
  | nil : QJ X W [] (fun acc _ Q _ => Q acc)
  | lit {s : Str} {j : Nat} {p : Pos} {es : List Expr} {dj : DJ} (r : QJ X W es dj) : QJ X W (.Constant (.str s) j p :: es) (fun acc ρ Q X => acc.length + s.length ≤ 100000 ∧ dj (acc ++ s) ρ Q X)
  | val {e : Expr} {p : Pos} {es : List Expr} {de : DE} {dj : DJ} (h : QE X W e de) (r : QJ X W es dj) :
      QJ X W (.FormattedValue e (-1) none p :: es) (fun acc ρ Q X => de ρ (fun d => (∃ y : Str, d = .str y ∧ acc.length + y.length ≤ 100000 ∧ dj (acc ++ y) ρ Q X) ∨ ∃ i : Int, d = .int i ∧ i.natAbs < 2 ^ 200 ∧ acc.length + (PySem.Str.ofString (toString i)).length ≤ 100000 ∧ dj (acc ++ PySem.Str.ofString (toString i)) ρ Q X) X)
def dNilJ : DJ := fun acc _ Q _ => Q acc
def dLit (s : Str) (dj : DJ) : DJ := fun acc ρ Q X => acc.length + s.length ≤ 100000 ∧ dj (acc ++ s) ρ Q X
def dVal (de : DE) (dj : DJ) : DJ := fun acc ρ Q X => de ρ (fun d => (∃ y : Str, d = .str y ∧ acc.length + y.length ≤ 100000 ∧ dj (acc ++ y) ρ Q X) ∨ ∃ i : Int, d = .int i ∧ i.natAbs < 2 ^ 200 ∧ acc.length + (PySem.Str.ofString (toString i)).length ≤ 100000 ∧ dj (acc ++ PySem.Str.ofString (toString i)) ρ Q X) X
theorem qj_nil : QJ X W [] dNilJ := .nil
theorem qj_lit {s : Str} {j : Nat} {p : Pos} {es : List Expr} {dj : DJ} (r : QJ X W es dj) : QJ X W (.Constant (.str s) j p :: es) (dLit s dj) := .lit r
theorem qj_val {e : Expr} {p : Pos} {es : List Expr} {de : DE} {dj : DJ} (h : QE X W e de) (r : QJ X W es dj) : QJ X W (.FormattedValue e (-1) none p :: es) (dVal de dj) := .val h r
theorem log_of {i : Int} (h : i.natAbs < 2 ^ 200) : i.natAbs.log2 < 1920 := by
  by_cases hz : i.natAbs = 0
  · rw [hz]; decide
  · exact (Nat.log2_lt hz).mpr (Nat.lt_of_lt_of_le h (Nat.pow_le_pow_right (by decide) (by decide)))
theorem len_app (a b : Str) : (a ++ b).length = a.length + b.length := by
  show (a.cps ++ b.cps).size = a.cps.size + b.cps.size
  simp
theorem QJ.pj {es : List Expr} {dj : DJ} (h : QJ X W es dj) : ∃ ts, PJ X es ts ∧ ∀ (acc : Str) (σ : L2.St) (H : Hp) (Q : Str → Hp → Prop) G0 H0 G ρ Qd Xd, Ok X.K G0 H0 G H σ ρ → dj acc ρ Qd Xd → (∀ G' H' out, Ok X.K G0 H0 G' H' σ ρ → Gr G H G' H' → Qd out → Q out H') → XOk X.K W G0 H0 G σ ρ Xd → tJs ts acc σ H Q := by
  induction h with
  | nil => exact ⟨[], .nil, fun acc σ H Q G0 H0 G ρ Qd Xd k h fn xo => fn G H acc k Gr.refl h⟩
  | lit r ih =>
    obtain ⟨ts, h1, h2⟩ := ih
    refine ⟨_, .cons pe_str h1, fun acc σ H Q G0 H0 G ρ Qd Xd k h fn xo => ⟨_, rfl, ?_, h2 _ σ H Q G0 H0 G ρ Qd Xd k h.2 fn xo⟩⟩
    rw [len_app]
    exact sz_of h.1
  | val he r ih =>
    obtain ⟨ts, h1, h2⟩ := ih
    refine ⟨_, .cons (pe_fmt he) h1, fun acc σ H Q G0 H0 G ρ Qd Xd k h fn xo => ?_⟩
    refine ⟨G0, H0, G, ρ, _, Xd, k, h, fun G1 H1 v d k1 g1 rv q => ?_, xo⟩
    rcases q with ⟨y, rfl, hz, q⟩ | ⟨i, rfl, hi, hz, q⟩
    · cases rv
      refine .inl ⟨y, rfl, sz_of (by omega), y, rfl, ?_, h2 _ σ H1 Q G0 H0 G1 ρ Qd Xd k1 q (fun G2 H2 out k2 g2 q => fn G2 H2 out k2 (g1.trans g2) q) (xo.mono g1.gg)⟩
      rw [len_app]
      exact sz_of hz
    · cases rv
      refine .inr ⟨i, rfl, log_of hi, _, rfl, ?_, h2 _ σ H1 Q G0 H0 G1 ρ Qd Xd k1 q (fun G2 H2 out k2 g2 q => fn G2 H2 out k2 (g1.trans g2) q) (xo.mono g1.gg)⟩
      rw [len_app]
      exact sz_of hz
def dJoined (dj : DJ) : DE := fun ρ Q X => dj Str.empty ρ (fun s => Q (.str s)) X
theorem qe_joined {v1 v2 : Expr} {rest : List Expr} {dj : DJ} (h : QJ X W (v1 :: v2 :: rest) dj) : QE X W (.JoinedStr (v1 :: v2 :: rest) pos) (dJoined dj) := by
  obtain ⟨ts, h1, h2⟩ := QJ.pj h
  refine PE.sub (pe_joined h1) fun σ H Q h => ?_
  obtain ⟨G0, H0, G, ρ, Qd, Xd, k, h, fn, xo⟩ := h
  exact h2 _ σ H _ G0 H0 G ρ _ Xd k h (fun G1 H1 out k1 g1 q => fn G1 H1 _ _ k1 g1 (.str _) q) xo
@[simp] theorem s_dJoined (dj : DJ) (ρ : Sto) (Q : PyData → Prop) (X : XD) : dJoined dj ρ Q X ↔ dj Str.empty ρ (fun s => Q (.str s)) X := Iff.rfl
@[simp] theorem s_dNilJ (acc : Str) (ρ : Sto) (Q : Str → Prop) (X : XD) : dNilJ acc ρ Q X ↔ Q acc := Iff.rfl
@[simp] theorem s_dLit (s : Str) (dj : DJ) (acc : Str) (ρ : Sto) (Q : Str → Prop) (X : XD) : dLit s dj acc ρ Q X ↔ (acc.length + s.length ≤ 100000 ∧ dj (acc ++ s) ρ Q X) := Iff.rfl
@[simp] theorem s_dVal (de : DE) (dj : DJ) (acc : Str) (ρ : Sto) (Q : Str → Prop) (X : XD) : dVal de dj acc ρ Q X ↔ de ρ (fun d => (∃ y : Str, d = .str y ∧ acc.length + y.length ≤ 100000 ∧ dj (acc ++ y) ρ Q X) ∨ ∃ i : Int, d = .int i ∧ i.natAbs < 2 ^ 200 ∧ acc.length + (PySem.Str.ofString (toString i)).length ≤ 100000 ∧ dj (acc ++ PySem.Str.ofString (toString i)) ρ Q X) X := Iff.rfl
end
end WH

namespace WH
open PySem PySem.Spec L2
section
variable {X : Cx} {W : XW}
/-! ### try: .. except x: .. -/
/-- h: of which classes the clause is, by their names -/
def dTry1 (names : List Str) (h : Str → Bool) (body suite : DS) : DS := fun D ρ =>
  body { D with ex := fun x ρ' => x.1 ∈ names ∧ if h x.1 = true then suite { D with ex := fun _ _ => False } ρ' else D.ex x ρ' } ρ
@[simp] theorem s_dTry1 (names : List Str) (h : Str → Bool) (body suite : DS) (D : DEnds) (ρ : Sto) : dTry1 names h body suite D ρ ↔ body { D with ex := fun x ρ' => x.1 ∈ names ∧ if h x.1 = true then suite { D with ex := fun _ _ => False } ρ' else D.ex x ρ' } ρ := Iff.rfl
theorem qs_try1 {x : Str} {c : Value} {body suite : List Stmt} {b0 : Stmt} {np pos pos' : Pos} {names : List Str} {h : Str → Bool} {db ds : DS} (tk : Takes X W.2) (hw : W.1 = X.mg) (hh : ∀ n ∈ names, ∀ cls, X.mg n = some cls → PySem.W.exmOne X.K cls c = some (h n)) (hm : X.mg x = some c)
    (hb : ∀ (V : WX) (pn : List (Addr × Obj)) (xe : Value → Shared → Prop), Takes (X.tr pn xe) V → PassesOwn (model X.prog X.w) X.A X.env xe → QSs (X.tr pn xe) (X.mg, V) body db)
    (hsu : ∀ (a : Addr) (oe : Obj) (pn : List (Addr × Obj)), QSs (X.suite a ((a, oe) :: pn)) (W0 X.mg) (b0 :: suite) ds)
    (hs : X.stack = X.env :: X.outer := by rfl) (hf : X.env.frame = some X.env.locals := by rfl) (hg : Gl X x := by rfl) (hd : (x == ("__debug__" : Str)) = false := by decide) :
    QS X W (.Try body [.ExceptHandler (some (.Name x np)) none (b0 :: suite) pos'] [] [] pos) (dTry1 names h db ds) :=
  PS.sub (ps_try_only (tb := fun V => upS X.K (X.mg, V) db) (ts := fun _ _ _ => upS X.K (W0 X.mg) ds) hs hf ⟨hg, hd, .inl hm⟩ tk hb (fun a oe cls d pn _ _ => hsu a oe pn)) fun D σ H h => by
  obtain ⟨G0, H0, G, ρ, Dd, k, h, nx, rt, bk, ct, ex⟩ := h
  refine ⟨G0, H0, G, ρ, _, k, h, nx, rt, bk, ct, fun G' H' σ' ρ' y cls d k' eo q => ?_⟩
  obtain ⟨hn, q⟩ := q
  refine ⟨_, hh _ hn _ eo.1, fun hb a _ => ?_, fun hb => ?_⟩
  · rw [if_pos hb] at q
    exact ⟨G0, H0, G', ρ', _, k', q, nx, rt, bk, ct, fun _ _ _ _ _ _ _ _ _ z => z.elim⟩
  · rw [hb, if_neg Bool.false_ne_true] at q
    exact ex G' H' σ' ρ' y cls d k' (by rw [hw]; exact eo) q
/-! ### raise X(..), X's __init__ storing fields -/
def spExc (C : Addr) (n : Nat) (F : List V → List (Str × V)) : Sp := fun vs H Q _ => ∃ a ws, vs = .ref a :: ws ∧ ws.length = n ∧ H a = some (exo a C none) ∧ ∀ dx, H dx = none → dx ≠ a → Q .non (upd (upd H dx (exd dx (F ws))) a (exo a C (some dx)))
def dRaise (x : Str) (F : List PyData → List (Str × PyData)) (n : Nat) (da : DA) : DS := fun D ρ => da ρ (fun ds => ds.length = n ∧ D.ex (x, F ds) ρ) (D.xd ρ)
@[simp] theorem s_dRaise (x : Str) (F : List PyData → List (Str × PyData)) (n : Nat) (da : DA) (D : DEnds) (ρ : Sto) : dRaise x F n da D ρ ↔ da ρ (fun ds => ds.length = n ∧ D.ex (x, F ds) ρ) (D.xd ρ) := Iff.rfl
theorem raise_heap {H1 : Hp} {a dx C : Addr} {fs : List (Str × V)} (ha : H1 a = none) (hd : dx ≠ a) : upd (L2.del (upd (upd (upd H1 a (exo a C none)) dx (exd dx fs)) a (exo a C (some dx))) a) dx (.xd fs) = upd H1 dx (.xd fs) := by
  funext b
  by_cases h1 : b = dx
  · rw [h1, upd_same, upd_same]
  · rw [upd_ne h1, upd_ne h1]
    by_cases h2 : b = a
    · rw [h2, del_same, ha]
    · rw [del_ne h2, upd_ne h2, upd_ne h1, upd_ne h2]
end
/-- a class of exceptions: how C(..) is made -/
def Rs (P : Program) (w : World) (K : PySem.W.Frag) (mg : Str → Option Value) (base : Heap) (x : Str) (k n : Nat) (F : List V → List (Str × V)) : Prop := ∃ C, mg x = some (.ref C) ∧ ∀ (X : Cx), X.prog = P → X.w = w → X.K = K → X.mg = mg → X.base = base → Room k X.A → Gl X x →
  ∀ (e : Expr) (es : List Expr) (p pos : Pos) (ta : TA), PA X (e :: es) ta → starEach (e :: es) X.env = (false, eval e X.env) :: starEach es X.env → (backTo pos (starEach es X.env)).any (·.1) = false → PMk X (.Call (.Name x p) (e :: es) [] pos) (tMkO C (spExc C n F) [] ta)
theorem rs_ve {P : Program} {w : World} {K : PySem.W.Frag} {mg : Str → Option Value} {base : Heap} {x : Str} {C fI : Addr} {k n : Nat} {fd : FuncData} {ps : List Str} {F : List V → List (Str × V)} (T : OexC K C) (iC : PySem.W.findIn K (.ref C) "__init__" = some (some (.ref fI))) (tI : PySem.W.typeIn K (.ref fI) = some (.type "function"))
    (F1 : FnOk P w K mg base (L2.CX P w) k fI fd ps (spExc C n F)) (hb : L2.Binds K fd ps []) (hm : mg x = some (.ref C)) (hdb : (x == ("__debug__" : Str)) = false := by decide) : Rs P w K mg base x (k + 1) n F := by
  refine ⟨C, hm, fun X h1 h2 h3 h4 h5 hr hg e es p pos ta ha he hpl => ?_⟩
  subst h1 h2 h3 h4 h5
  exact pmk_oex (dvs := []) T iC tI F1 hr hb .nil passL hg hm ha hdb he hpl
section
variable {X : Cx} {W : XW}
theorem rpF_of {K : PySem.W.Frag} {G : Hp} {n : Nat} {F : List V → List (Str × V)} {D : List PyData → List (Str × PyData)} (h : ∀ vs ds, vs.length = n → RpAll K G vs ds → DpF K G (F vs) (D ds)) {vs : List V} {ds : List PyData} (hn : ds.length = n) (r : RpAll K G vs ds) : DpF K G (F vs) (D ds) := h vs ds ((rpa_length r).trans hn) r
theorem qs_raise {x : Str} {j m n : Nat} {F : List V → List (Str × V)} {D : List PyData → List (Str × PyData)} {e : Expr} {es : List Expr} {p p2 pos : Pos} {da : DA} (c : Rs X.prog X.w X.K X.mg X.base x j n F) (hr : Room m X.A) (hj : j ≤ m) (tk : Takes X W.2) (hw : W.1 = X.mg)
    (hF : ∀ (G : Hp) vs ds, vs.length = n → RpAll X.K G vs ds → DpF X.K G (F vs) (D ds)) (hn : n ≤ 1000) (ha : QA X W (e :: es) da) (hc : X.calm = true := by rfl) (hg : Gl X x := by rfl)
    (he : starEach (e :: es) X.env = (false, eval e X.env) :: starEach es X.env := by rfl) (hpl : (backTo p2 (starEach es X.env)).any (·.1) = false := by rfl) :
    QS X W (.Raise (some (.Call (.Name x p) (e :: es) [] p2)) none pos) (dRaise x D n da) := by
  obtain ⟨C, hm, c⟩ := c
  refine PS.sub (ps_raise hc tk (c X rfl rfl rfl rfl rfl (hr.mono hj) hg e es p p2 _ ha he hpl)) fun Dn σ H h => ?_
  obtain ⟨G0, H0, G, ρ, Dd, k, h, nx, rt, bk, ct, ex⟩ := h
  refine ⟨G0, H0, G, ρ, _, Dd.xd ρ, k, h, fun G1 H1 vs ds k1 g1 rv q => ?_, xok_of ex⟩
  obtain ⟨hl, q⟩ := q
  have hv : vs.length = n := (rpa_length rv).trans hl
  refine ⟨by omega, fun a ha => ?_⟩
  refine ⟨a, vs, by rw [List.append_nil], hv, upd_same, fun dx hd hda => ⟨rfl, dx, F vs, upd_same, ?_, ?_, ?_⟩⟩
  · rw [upd_ne hda, upd_same]
  · rw [upd_ne hda] at hd
    exact hd
  · rw [upd_ne hda] at hd
    rw [raise_heap ha hda]
    exact ex _ _ σ ρ (x, D ds) (.ref C) (some dx) (k1.share hd) ⟨by rw [hw]; exact hm, dx, _, rfl, upd_same, dpF_mono (same_upd (k1.gh.free hd)) (hF G1 vs ds hv rv)⟩ q
/-! the __init__ of such a class -/
theorem upd_swap {H : Hp} {dx a : Addr} {o1 o2 oa : HO} (h : dx ≠ a) : upd (upd (upd H dx o1) a oa) dx o2 = upd (upd H dx o2) a oa := by
  funext b
  by_cases h1 : b = dx
  · rw [h1, upd_same, upd_ne h, upd_same]
  · rw [upd_ne h1]
    by_cases h2 : b = a
    · rw [h2, upd_same, upd_same]
    · rw [upd_ne h2, upd_ne h2, upd_ne h1, upd_ne h1]
end
/-! fields by names -/
def xfV (x : Str) (fs : List Str) (vs : List V) : List (Str × V) := (fs.zip vs).reverse ++ [(("word" : Str), V.str x)]
def xfD (x : Str) (fs : List Str) (ds : List PyData) : List (Str × PyData) := (fs.zip ds).reverse ++ [(("word" : Str), PyData.str x)]
theorem dpF_append {K : PySem.W.Frag} {G : Hp} : ∀ {a b : List (Str × V)} {c d : List (Str × PyData)}, DpF K G a c → DpF K G b d → DpF K G (a ++ b) (c ++ d)
  | _, _, _, _, .nil, h => h
  | _, _, _, _, .cons x t, h => .cons x (dpF_append t h)
theorem dpF_rev {K : PySem.W.Frag} {G : Hp} : ∀ {a : List (Str × V)} {c : List (Str × PyData)}, DpF K G a c → DpF K G a.reverse c.reverse
  | _, _, .nil => .nil
  | _, _, .cons x t => by
    rw [List.reverse_cons, List.reverse_cons]
    exact dpF_append (dpF_rev t) (.cons x .nil)
theorem dpF_zip {K : PySem.W.Frag} {G : Hp} : ∀ (fs : List Str) {vs : List V} {ds : List PyData}, RpAll K G vs ds → DpF K G (fs.zip vs) (fs.zip ds)
  | [], _, _, _ => .nil
  | _ :: _, _, _, .nil => .nil
  | f :: fs, _, _, .cons a t => .cons a (dpF_zip fs t)
theorem xf_ok {K : PySem.W.Frag} (x : Str) (fs : List Str) (n : Nat) : ∀ (G : Hp) vs ds, vs.length = n → RpAll K G vs ds → DpF K G (xfV x fs vs) (xfD x fs ds) := fun G vs ds _ r => dpF_append (dpF_rev (dpF_zip fs r)) (.cons (.str x) .nil)
theorem hu65 {k : Nat} {A : Around} (r : Room k A) : A.units + 65 < cLine := by have := r.un; omega
end WH

namespace WH
open PySem PySem.Spec L2
/-! ### own exception classes, as the head tells them -/
def oexA (K : PySem.W.Frag) (C : Addr) : Bool := match K.lookup C with
  | some ⟨.type "type", _, .cls cd, sl⟩ => (match cd.mro, sl.toList with
    | .ref C' :: bm, [_, _, _, _, some (.builtin n), _] => C' == C && n == "ValueError.__new__" && !cd.hasDel && cd.hasDict && PySem.HandSPX.refsVE bm
    | _, _ => false)
  | _ => false
theorem oexA_ok {K : PySem.W.Frag} {C : Addr} (q : oexA K C = true) : ∃ nm q N bs bm sn sub ab col dd k0 k1 k2 k3 k5, K.lookup C = some (excClassObj nm q C N bs bm true sn sub ab col dd k0 k1 k2 k3 k5 "ValueError.__new__") ∧ PySem.HandSPX.refsVE bm = true := by
  unfold oexA at q
  split at q
  · rename_i dd cd sl ho
    split at q
    · rename_i C' bm k0 k1 k2 k3 n k5 hm hs
      simp only [Bool.and_eq_true, beq_iff_eq, Bool.not_eq_true'] at q
      obtain ⟨⟨⟨⟨rfl, rfl⟩, hdel⟩, hdi⟩, ht⟩ := q
      obtain ⟨nm, bs, mro, ns, qn, hd, sn, sub, ab, col, del⟩ := cd
      dsimp only at hm hdel hdi
      subst hm hdel hdi
      have hsl : sl = #[k0, k1, k2, k3, some (.builtin "ValueError.__new__"), k5] := by
        obtain ⟨l⟩ := sl
        simp only at hs
        rw [hs]
      subst hsl
      exact ⟨nm, qn, ns, bs, bm, sn, sub, ab, col, dd, k0, k1, k2, k3, k5, ho, ht⟩
    · cases q
  · cases q
def cBody : Stmt → List Stmt
  | .ClassDef _ _ _ b _ _ _ _ _ _ _ => b
  | _ => []
/-- the class x, its fields fs -/
def xcB (K : PySem.W.Frag) (x : Str) (fs : List Str) : Bool := oexA K (He.ga K x) && decide (PySem.W.findIn K (.ref (He.ga K x)) "__setattr__" = some (some (.builtin "object.__setattr__"))) && decide (PySem.W.subIn K (.ref (He.ga K x)) (.type "BaseException") = some true) && decide (PySem.W.typeIn K (.ref (He.ga K x)) = some (.type "type")) && PySem.W.keepIn K (.ref (He.ga K x)) &&
  decide (PySem.W.findIn K (.ref (He.ga K x)) "__init__" = some (some (.ref (He.ma K (He.ga K x) "__init__")))) && decide (PySem.W.typeIn K (.ref (He.ma K (He.ga K x) "__init__")) = some (.type "function")) && fs.all fun f => decide (PySem.W.findIn K (.ref (He.ga K x)) f = some none)
structure XC (K : PySem.W.Frag) (x : Str) (fs : List Str) : Prop where
  o : OexC K (He.ga K x)
  i : PySem.W.findIn K (.ref (He.ga K x)) "__init__" = some (some (.ref (He.ma K (He.ga K x) "__init__")))
  t : PySem.W.typeIn K (.ref (He.ma K (He.ga K x) "__init__")) = some (.type "function")
  n : ∀ f ∈ fs, PySem.W.findIn K (.ref (He.ga K x)) f = some none
theorem xcB_ok {K : PySem.W.Frag} {x : Str} {fs : List Str} (h : xcB K x fs = true) : XC K x fs := by
  simp only [xcB, Bool.and_eq_true, decide_eq_true_eq, List.all_eq_true] at h
  obtain ⟨⟨⟨⟨⟨⟨⟨h1, h2⟩, h3⟩, h4⟩, h5⟩, h6⟩, h7⟩, h8⟩ := h
  exact ⟨⟨oexA_ok h1, h2, h3, h4, h5⟩, h6, h7, h8⟩
/-! ### the law's end -/
theorem fn_cx0 {P : Program} {w : World} {K : PySem.W.Frag} {mg : Str → Option Value} {base : Heap} {k : Nat} {f : Addr} {fd : FuncData} {ps : List Str} {sp : Sp} (F : FnOk P w K mg base (L2.CX P w) k f fd ps sp) : FnOk P w K mg base CX0 k f fd ps (fun vs H Q _ => sp vs H Q fun _ _ _ => False) :=
  ⟨fun vs H Q E h => F.len _ _ _ _ h, fun A outer s H args us vs Q E hr he hb hv hs => codeAny_mono (F.run A outer s H args us vs Q _ hr he hb hv hs) fun r s' q => by
    cases r with
    | ok x => cases x <;> exact q
    | error e =>
      obtain ⟨a, B, H', cls, d, _, _, _, _, _, _, _, z⟩ := q
      exact z.elim⟩
def spL (K : PySem.W.Frag) (mg : Str → Option Value) (C : Ct) : Sp := fun vs H Q _ => PSp K mg C vs H Q fun _ _ _ => False
theorem law_sp {K : PySem.W.Frag} {mg : Str → Option Value} {C : Ct} (hC : ∀ (ns : List Int) (R : Slot → Prop), ns.length ≤ 63 → R (.sh (.bool true)) → C [scrD ns] R fun _ => False) (H : Hp) (a : Addr) (ns : List Int) (hl : ns.length ≤ 63) (hS : SqL K H a (ns.map V.int)) : spL K mg C [.ref a] H (fun v _ => v = .bl true) fun _ _ _ => False := by
  refine ⟨H, [scrD ns], fun s => s = .sh (.bool true), fun _ => False, Same.refl _, .cons (.scr hS) .nil, hC ns _ hl rfl, fun s v H' r e => ?_, fun _ _ _ _ _ _ _ _ _ _ z => z.elim⟩
  subst e
  obtain ⟨G', _, _, _, _, r⟩ := r
  cases r
  rfl
end WH

namespace WH
open PySem PySem.Spec L2
/-- a def's reading keeps its contract -/
def Kp (d : DS) (n : List Str) (C : Ct) : Prop := ∀ ds R Xd, C ds R Xd → d { nx := fun _ => R (.sh .none), rt := R, ex := fun x _ => Xd x } (st0 n ds)
def n__law_numbers : List Str := ["_law_script", "_law_many", "_law_drawn", "_law_seed", "_law_cell", "_law_rest", "_law_k"]
def d__law_numbers : DS := (dSeq (dAsgO 2 (dLst dNil))
  (dSeq (dAsg 3 (dC (.int 61)))
  (dSeq (dFor (dIt (dScr 0)) (gN 4)
  (dSeq (dAsg 3 (d2 modD (d2 addD (d2 addD (d2 mulD (dVar 3) (dC (.int 40692))) (d2 modD (dVar 4) (dC (.int 999983)))) (dC (.int 29))) (dC (.int 2147483399))))
  (dSeq (dAsg 5 (d2 subD (dVar 4) (d2 powD (dC (.int 10)) (dC (.int 18)))))
  (dSeq (dIfS (dTst (d2 ltD (dVar 5) (dC (.int 0))))
  (dApp 2 (d2 modD (dVar 4) (dC (.int 9973))))
  dNext)
  (dFor (dRng1 (dC (.int 60))) (gN 6)
  (dIfS (dTst (d2 gtD (dVar 5) (dC (.int 0))))
  (dSeq (dApp 2 (d2 modD (dVar 5) (dC (.int 1019))))
  (dAsg 5 (d2 fdivD (dVar 5) (dC (.int 1019)))))
  dNext))))))
  (dSeq (dWhile (dTst (d2 ltD (dCBC lenC (dVarC 2)) (dVar 1)))
  (dSeq (dAsg 3 (d2 modD (d2 addD (d2 addD (d2 addD (d2 mulD (dVar 3) (dVar 3)) (d2 mulD (dC (.int 40014)) (dVar 3))) (d2 mulD (dC (.int 23)) (dCBC lenC (dVarC 2)))) (dC (.int 7))) (dC (.int 2147483563))))
  (dApp 2 (d2 modD (d2 fdivD (dVar 3) (dC (.int 1021))) (dC (.int 9973))))))
  (dRet (dSl (dVarC 2) dNo (dSome (dVar 1))))))))
def c__law_numbers : Ct := fun ds R _ => ∃ (ns : List Int) (many : Nat), ds = [scrD ns, .int many] ∧ ns.length ≤ 63 ∧ many ≤ 20000 ∧ ∀ out : List Int, out.length = many → (∀ z ∈ out, 0 ≤ z ∧ z < 9973) → R (.sh (.list (out.map .int)))
theorem l__law_numbers : ∀ ds R Xd, c__law_numbers ds R Xd → ds.length = 2 := by
  rintro ds R Xd ⟨d, lo, rfl, h⟩
  rfl
/-- small numbers, in a list of at most so many -/
def Sm (ns : List Int) : Prop := ∀ z ∈ ns, 0 ≤ z ∧ z < 9973
theorem Sm.snoc {ns : List Int} {z : Int} (h : Sm ns) (h0 : 0 ≤ z) (h1 : z < 9973) : Sm (ns ++ [z]) := by
  intro y hy
  rcases List.mem_append.mp hy with hy | hy
  · exact h y hy
  · rw [List.mem_singleton.mp hy]
    exact ⟨h0, h1⟩
theorem Sm.take {ns : List Int} (h : Sm ns) (n : Nat) : Sm (ns.take n) := fun z hz => h z (List.mem_of_mem_take hz)
theorem p__law_numbers : Kp d__law_numbers n__law_numbers c__law_numbers := by
  rintro ds R Xd ⟨ns, many, rfl, h1, h2, h⟩
  simp [d__law_numbers, st0, n__law_numbers]
  refine ⟨h1, ?_⟩
  refine forW_inv (fun n ρ' => ∃ (out : List Int) (seed : Int) (s4 s5 s6 : Slot), ρ' = [.sh (scrD ns), .sh (.int many), .ow (.lst (out.map .int)), .sh (.int seed), s4, s5, s6] ∧ Sm out ∧ out.length ≤ 61 * n ∧ 0 ≤ seed ∧ seed < 2147483648) ⟨[], 61, .no, .no, .no, rfl, fun _ h => absurd h (by simp), by simp, by omega, by omega⟩ ?_ ?_
  · rintro ρ' ⟨out, seed, s4, s5, s6, rfl, hs, hl, hs0, hs1⟩
    dsimp only [dSeq]
    refine while_inv (fun m ρ' => ∃ (out : List Int) (seed : Int) (s4 s5 s6 : Slot), ρ' = [.sh (scrD ns), .sh (.int many), .ow (.lst (out.map .int)), .sh (.int seed), s4, s5, s6] ∧ Sm out ∧ out.length ≤ 25000 ∧ 0 ≤ seed ∧ seed < 2147483648 ∧ m = many - out.length) _ ⟨out, seed, s4, s5, s6, rfl, hs, ?_, hs0, hs1, rfl⟩ ?_
    · simp at hl; omega
    rintro m ρ' K ⟨out, seed, s4, s5, s6, rfl, hs, hl, hs0, hs1, rfl⟩ hK
    simp
    split
    · rename_i hlt
      refine ⟨by omega, by omega, ?_⟩
      refine hK (many - (out.length + 1)) _ (by omega) ⟨out ++ [(seed * seed + 40014 * seed + 23 * ↑out.length + 7) % 2147483563 / 1021 % 9973], (seed * seed + 40014 * seed + 23 * ↑out.length + 7) % 2147483563, s4, s5, s6, by simp, hs.snoc (by omega) (by omega), by simp; omega, by omega, by omega, by simp⟩
    · rename_i hge
      rw [cutD_ints]
      refine h _ ?_ ?_
      · rw [HT.sIx_nat, HT.sIx_none]
        simp
        omega
      · intro z hz
        exact hs z (List.mem_of_mem_drop (List.mem_of_mem_take hz))
  · rintro n d ρ' K hd ⟨out, seed, s4, s5, s6, rfl, hs, hl, hs0, hs1⟩ hK
    obtain ⟨cell, _, rfl⟩ := ints_get hd
    have hn : n < 63 := by
      have := (List.getElem?_eq_some_iff.mp hd).1
      simp at this
      omega
    -- the inner loop, behind the first append
    have inner : ∀ (out2 : List Int) (z : Int) (D : DEnds), Sm out2 → out2.length ≤ 61 * n + 1 → (∀ out3 : List Int, ∀ s4 s5 s6 : Slot, Sm out3 → out3.length ≤ 61 * n + 61 → D.nx [.sh (scrD ns), .sh (.int many), .ow (.lst (out3.map .int)), .sh (.int ((seed * 40692 + cell % 999983 + 29) % 2147483399)), s4, s5, s6]) → ∀ (s4 s6 : Slot),
        forW (gN 6) (dIfS (dTst (d2 gtD (dVar 5) (dC (PyData.int 0)))) (dSeq (dApp 2 (d2 modD (dVar 5) (dC (PyData.int 1019)))) (dAsg 5 (d2 fdivD (dVar 5) (dC (PyData.int 1019))))) dNext) D (rngD 0 60) [.sh (scrD ns), .sh (.int many), .ow (.lst (out2.map .int)), .sh (.int ((seed * 40692 + cell % 999983 + 29) % 2147483399)), s4, .sh (.int z), s6] := by
      intro out2 z D hs2 hl2 hD s4 s6
      refine forW_inv (fun k ρ' => ∃ (out : List Int) (z : Int) (s6 : Slot), ρ' = [.sh (scrD ns), .sh (.int many), .ow (.lst (out.map .int)), .sh (.int ((seed * 40692 + cell % 999983 + 29) % 2147483399)), s4, .sh (.int z), s6] ∧ Sm out ∧ out.length ≤ 61 * n + 1 + k) ⟨out2, z, s6, rfl, hs2, by omega⟩ ?_ ?_
      · rintro ρ' ⟨out, z, s6, rfl, hs, hl⟩
        exact hD out _ _ _ hs (by simpa using hl)
      · rintro k d ρ' K hd ⟨out, z, s6, rfl, hs, hl⟩ hK
        obtain ⟨hk, rfl⟩ := rngD_get hd
        simp
        split
        · refine ⟨by omega, hK _ ⟨out ++ [z % 1019], z / 1019, _, by rw [List.map_append]; rfl, hs.snoc (by omega) (by omega), by simp; omega⟩⟩
        · exact hK _ ⟨out, z, _, rfl, hs, by omega⟩
    simp
    split
    · refine ⟨by omega, ?_⟩
      have e : List.map PyData.int out ++ [PyData.int (cell % 9973)] = List.map PyData.int (out ++ [cell % 9973]) := by simp
      rw [e]
      exact inner _ _ _ (hs.snoc (by omega) (by omega)) (by simp; omega) (fun out3 s4 s5 s6 h3 l3 => hK _ ⟨out3, _, s4, s5, s6, rfl, h3, by omega, by omega, by omega⟩) _ _
    · exact inner _ _ _ hs (by omega) (fun out3 s4 s5 s6 h3 l3 => hK _ ⟨out3, _, s4, s5, s6, rfl, h3, by omega, by omega, by omega⟩) _ _

def n_is_whole : List Str := ["thing", "low", "high"]
def d_is_whole : DS := (dRet (dAndV (dIsi "int" (dVar 0)) (dAndV (dNotV (dIsi "bool" (dVar 0))) (dChain leD leD (dVar 1) (dVar 0) (dVar 2)))))
def isWhole (d : PyData) (lo hi : Int) : Bool := match d with
  | .int i => decide (lo ≤ i) && decide (i ≤ hi)
  | _ => false
@[simp] theorem isWhole_int (i lo hi : Int) : isWhole (.int i) lo hi = (decide (lo ≤ i) && decide (i ≤ hi)) := rfl
def c_is_whole : Ct := fun ds R _ => ∃ d lo hi, ds = [d, .int lo, .int hi] ∧ isD1 d = true ∧ R (.sh (.bool (isWhole d lo hi)))
@[simp] theorem s_c_is_whole (d : PyData) (lo hi : Int) (R : Slot → Prop) (X : XD) : c_is_whole [d, .int lo, .int hi] R X ↔ (isD1 d = true ∧ R (.sh (.bool (isWhole d lo hi)))) := by
  constructor
  · rintro ⟨d', l', h', e, q⟩
    cases e
    exact q
  · exact fun q => ⟨d, lo, hi, rfl, q⟩
theorem l_is_whole : ∀ ds R Xd, c_is_whole ds R Xd → ds.length = 3 := by
  rintro ds R Xd ⟨d, lo, hi, rfl, h⟩
  rfl
theorem p_is_whole : Kp d_is_whole n_is_whole c_is_whole := by
  rintro ds R Xd ⟨d, lo, hi, rfl, h1, h⟩
  cases d <;> simp_all [d_is_whole, st0, n_is_whole, isT, tyN, isWhole]
  split <;> simp_all

def n_is_operation : List Str := ["rows", "many", "answer", "later"]
def d_is_operation : DS := (dSeq (dIfS (dOr (dNot (dTst (dChain leD leD (dC (.int 1)) (dVar 1) (dC (.int 5))))) (dTst (d2 neD (dCB lenD (dCons (dVar 0) dNil)) (dVar 1))))
  (dRet (dC (.bool false)))
  dNext)
  (dRet (dCBC allC (dCofO (dLc [2, 3] (dIt (dVar 0)) (gT 2 (gsCons (gN 2) (gsCons (gN 3) gsNil))) dYes (dAndV (dCall c_is_whole (dCons (dVar 2) (dCons (dC (.int 0)) (dCons (dC (.int 9)) dNil)))) (dCall c_is_whole (dCons (dVar 3) (dCons (dC (.int 0)) (dCons (d2 subD (dVar 1) (dC (.int 1))) dNil))))))))))

/-- a row, an operation, a table, of whatever things -/
abbrev Row := PyData × PyData
def rwD (r : Row) : PyData := .tuple [r.1, r.2]
def opD (rs : List Row) : PyData := .tuple (rs.map rwD)
def tbD (t : List (List Row)) : PyData := .tuple (t.map opD)
def RowOk (r : Row) : Prop := isD1 r.1 = true ∧ isD1 r.2 = true
def isOp (rs : List Row) (many : Int) : Bool := decide (1 ≤ many) && decide (many ≤ 5) && decide ((rs.length : Int) = many) && rs.all fun r => isWhole r.1 0 9 && isWhole r.2 0 (many - 1)
def c_is_operation : Ct := fun ds R _ => ∃ (rs : List Row) (many : Int), ds = [opD rs, .int many] ∧ rs.length ≤ 50000 ∧ (∀ r ∈ rs, RowOk r) ∧ R (.sh (.bool (isOp rs many)))
theorem l_is_operation : ∀ ds R Xd, c_is_operation ds R Xd → ds.length = 2 := by
  rintro ds R Xd ⟨d, lo, rfl, h⟩
  rfl
theorem p_is_operation : Kp d_is_operation n_is_operation c_is_operation := by
  rintro ds R Xd ⟨rs, many, rfl, hz, hr, h⟩
  simp [d_is_operation, st0, n_is_operation, opD]
  have hb : ∀ P : Prop, P → P := fun _ h => h
  by_cases h1 : 1 ≤ many
  · by_cases h2 : many ≤ 5
    · by_cases h3 : (rs.length : Int) = many
      · rw [if_pos h1, if_pos h2, if_pos h3]
        refine lc_mapM (fun r : Row => .bool (isWhole r.1 0 9 && isWhole r.2 0 (many - 1))) hz (fun r hr' K hK => ?_) ?_
        · have ho := hr r hr'
          simp [rwD, ho.1, ho.2]
          cases hw : isWhole r.1 0 9
          · simpa [hw] using hK
          · simpa [hw] using hK
        · refine ⟨rs.map fun r => isWhole r.1 0 9 && isWhole r.2 0 (many - 1), rfl, by simp, ?_⟩
          simp [isOp, h1, h2, h3] at h
          simpa [List.all_map, Function.comp_def] using h
      · rw [if_pos h1, if_pos h2, if_neg h3]
        simpa [isOp, h1, h2, h3] using h
    · rw [if_pos h1, if_neg h2]
      simpa [isOp, h1, h2] using h
  · rw [if_neg h1]
    simpa [isOp, h1] using h

end WH

namespace WH
open PySem PySem.Spec L2
def n_look_table : List Str := ["table", "many", "at", "rows"]
def d_look_table : DS := (dSeq (dIfS (dTst (d2 eqD (dCB lenD (dCons (dVar 0) dNil)) (dC (.int 0))))
  (dRaise "BadTable" (xfD "BadTable" ["at"]) 1 (dCons (dC (.int 0)) dNil))
  dNext)
  (dSeq (dAsg 1 (dCB lenD (dCons (dIx (dVarC 0) (dC (.int 0))) dNil)))
  (dFor (dEnum (dVar 0)) (gT 2 (gsCons (gN 2) (gsCons (gN 3) gsNil)))
  (dIfS (dOr (dTst (d2 geD (dVar 2) (dC (.int 4)))) (dNot (dTst (dCall c_is_operation (dCons (dVar 3) (dCons (dVar 1) dNil))))))
  (dRaise "BadTable" (xfD "BadTable" ["at"]) 1 (dCons (dVar 2) dNil))
  dNext))))
/-- the number of the first operation that is none; many: how many rows the first one has -/
def faultFrom (many : Int) : List (List Row) → Nat → Option Nat
  | [], _ => none
  | rs :: t, i => if 4 ≤ i ∨ isOp rs many = false then some i else faultFrom many t (i + 1)
def fault : List (List Row) → Option Nat
  | [] => some 0
  | rs :: t => faultFrom rs.length (rs :: t) 0
def TbOk (t : List (List Row)) : Prop := t.length ≤ 1000 ∧ ∀ rs ∈ t, rs.length ≤ 1000 ∧ ∀ r ∈ rs, RowOk r
def xBadTable (n : Nat) : Exn := ("BadTable", xfD "BadTable" ["at"] [.int (n : Int)])
def c_look_table : Ct := fun ds R Xd => ∃ t, ds = [tbD t] ∧ TbOk t ∧ (fault t = none → R (.sh .none)) ∧ ∀ n, fault t = some n → Xd (xBadTable n)
theorem l_look_table : ∀ ds R Xd, c_look_table ds R Xd → ds.length = 1 := by
  rintro ds R Xd ⟨d, rfl, h⟩
  rfl
@[simp] theorem s_c_is_operation (rs : List Row) (many : Int) (R : Slot → Prop) (X : XD) : c_is_operation [opD rs, .int many] R X ↔ (∃ rs', opD rs' = opD rs ∧ rs'.length ≤ 50000 ∧ (∀ r ∈ rs', RowOk r) ∧ R (.sh (.bool (isOp rs' many)))) := by
  constructor
  · rintro ⟨rs', m', e, q⟩
    simp only [List.cons.injEq, PyData.int.injEq, and_true] at e
    obtain ⟨e1, rfl⟩ := e
    exact ⟨rs', e1.symm, q⟩
  · rintro ⟨rs', e, q⟩
    exact ⟨rs', many, by rw [e], q⟩
theorem p_look_table : Kp d_look_table n_look_table c_look_table := by
  rintro ds R Xd ⟨t, rfl, ⟨hz, hr⟩, h0, h1⟩
  cases t with
  | nil =>
    have := h1 0 rfl
    simp [d_look_table, st0, n_look_table, tbD]
    exact this
  | cons rs t =>
    simp [d_look_table, st0, n_look_table, tbD]
    have e0 : opD rs = .tuple (rs.map rwD) := rfl
    rw [show lenD [opD rs] = lenD [.tuple (rs.map rwD)] from rfl]
    simp
    have hl : (enumD (opD rs :: t.map opD)) = enumD ((rs :: t).map opD) := rfl
    rw [hl]
    refine forW_inv (fun n ρ' => ∃ s2 s3 : Slot, ρ' = [.sh (.tuple ((rs :: t).map opD)), .sh (.int rs.length), s2, s3] ∧ fault (rs :: t) = faultFrom rs.length ((rs :: t).drop n) n) ⟨.no, .no, rfl, rfl⟩ ?_ ?_
    · rintro ρ' ⟨s2, s3, rfl, hf⟩
      refine h0 ?_
      rw [hf, enumD_len, List.length_map, List.drop_length]
      rfl
    · rintro n d ρ' K hd ⟨s2, s3, rfl, hf⟩ hK
      obtain ⟨e, he, rfl⟩ := enumD_get hd
      rw [List.getElem?_map] at he
      cases q : (rs :: t)[n]? with
      | none => rw [q] at he; cases he
      | some op =>
        rw [q] at he
        cases he
        have hlt : n < (rs :: t).length := (List.getElem?_eq_some_iff.mp q).1
        have hop : (rs :: t)[n] = op := (List.getElem?_eq_some_iff.mp q).2
        have hm : op ∈ rs :: t := List.mem_of_getElem? q
        rw [List.drop_eq_getElem_cons hlt, hop] at hf
        simp
        by_cases h4 : 4 ≤ (n : Int)
        · rw [if_pos h4]
          refine h1 n ?_
          rw [hf]
          unfold faultFrom
          rw [if_pos (.inl (by omega))]
        · rw [if_neg h4]
          refine ⟨op, rfl, by have := (hr op hm).1; omega, fun a b hab => (hr op hm).2 (a, b) hab, ?_⟩
          cases hb : isOp op rs.length with
          | false =>
            simp
            refine h1 n ?_
            rw [hf]
            unfold faultFrom
            rw [if_pos (.inr hb)]
          | true =>
            simp
            refine hK _ ⟨_, _, rfl, ?_⟩
            rw [hf]
            conv => lhs; unfold faultFrom
            rw [if_neg (by rw [hb]; simp; omega)]

/-! ### tables of numbers -/
abbrev Tab := List (List (Int × Int))
def rowI (r : Int × Int) : Row := (.int r.1, .int r.2)
def embT (t : Tab) : List (List Row) := t.map fun op => op.map rowI
def tabD (t : Tab) : PyData := tbD (embT t)
def GoodOp (n : Nat) (op : List (Int × Int)) : Prop := op.length = n ∧ ∀ r ∈ op, (0 ≤ r.1 ∧ r.1 ≤ 9) ∧ 0 ≤ r.2 ∧ r.2 < n
structure GoodN (n : Nat) (t : Tab) : Prop where
  n1 : 1 ≤ n
  n5 : n ≤ 5
  o1 : 1 ≤ t.length
  o4 : t.length ≤ 4
  op : ∀ op ∈ t, GoodOp n op
theorem tabD_eq (t : Tab) : tabD t = .tuple (t.map fun op => .tuple (op.map fun r => .tuple [.int r.1, .int r.2])) := by
  simp [tabD, tbD, embT, opD, rwD, rowI, Function.comp_def]
theorem isOp_good {n : Nat} {op : List (Int × Int)} (h1 : 1 ≤ n) (h5 : n ≤ 5) (h : GoodOp n op) : isOp (op.map rowI) n = true := by
  obtain ⟨hl, hr⟩ := h
  unfold isOp
  simp only [Bool.and_eq_true, decide_eq_true_eq, List.all_eq_true, List.length_map]
  refine ⟨⟨⟨by omega, by omega⟩, by omega⟩, fun r hr' => ?_⟩
  obtain ⟨q, hq, rfl⟩ := List.mem_map.mp hr'
  have := hr q hq
  simp [rowI, isWhole]
  omega
theorem faultFrom_good {n : Nat} (h1 : 1 ≤ n) (h5 : n ≤ 5) : ∀ (t : Tab) (i : Nat), i + t.length ≤ 4 → (∀ op ∈ t, GoodOp n op) → faultFrom n (embT t) i = none
  | [], _, _, _ => rfl
  | op :: t, i, hi, h => by
    simp only [List.length_cons] at hi
    show (if 4 ≤ i ∨ isOp (op.map rowI) n = false then some i else faultFrom n (embT t) (i + 1)) = none
    rw [if_neg (by rw [isOp_good h1 h5 (h op List.mem_cons_self)]; simp; omega)]
    exact faultFrom_good h1 h5 t (i + 1) (by omega) fun o ho => h o (List.mem_cons_of_mem _ ho)
theorem fault_good {n : Nat} {t : Tab} (g : GoodN n t) : fault (embT t) = none := by
  cases t with
  | nil => have := g.o1; simp at this
  | cons op t =>
    have hop := g.op op List.mem_cons_self
    show faultFrom ((op.map rowI).length : Nat) (embT (op :: t)) 0 = none
    have := faultFrom_good g.n1 g.n5 (op :: t) 0 (by have := g.o4; simpa using this) g.op
    rw [List.length_map, hop.1]
    exact this
theorem rowI_ok (r : Int × Int) : RowOk (rowI r) := ⟨rfl, rfl⟩
theorem tbOk_good {n : Nat} {t : Tab} (g : GoodN n t) : TbOk (embT t) := by
  refine ⟨by have := g.o4; simp [embT]; omega, fun rs hrs => ?_⟩
  obtain ⟨op, hop, rfl⟩ := List.mem_map.mp hrs
  have := (g.op op hop).1
  have := g.n5
  refine ⟨by simp; omega, fun r hr => ?_⟩
  obtain ⟨q, _, rfl⟩ := List.mem_map.mp hr
  exact rowI_ok q
/-- a good table is refused nowhere -/
theorem c_look_table_good {n : Nat} {t : Tab} (g : GoodN n t) {R : Slot → Prop} {X : XD} (h : R (.sh .none)) : c_look_table [tabD t] R X :=
  ⟨embT t, rfl, tbOk_good g, fun _ => h, fun m hm => by rw [fault_good g] at hm; cases hm⟩
def goodB (n : Nat) (t : Tab) : Bool := decide (1 ≤ n) && decide (n ≤ 5) && decide (1 ≤ t.length) && decide (t.length ≤ 4) && t.all fun op => decide (op.length = n) && op.all fun r => decide (0 ≤ r.1) && decide (r.1 ≤ 9) && decide (0 ≤ r.2) && decide (r.2 < n)
theorem good_of_B {n : Nat} {t : Tab} (h : goodB n t = true) : GoodN n t := by
  simp only [goodB, Bool.and_eq_true, decide_eq_true_eq, List.all_eq_true] at h
  obtain ⟨⟨⟨⟨h1, h2⟩, h3⟩, h4⟩, h5⟩ := h
  exact ⟨h1, h2, h3, h4, fun op ho => ⟨(h5 op ho).1, fun r hr => by have := (h5 op ho).2 r hr; omega⟩⟩

def n__law_known : List Str := ["_law_d", "_law_some"]
def d__law_known : DS := (dSeq (dAsg 1 (dOfO (dLst (dCons (dTup (dCons (dTup (dCons (dTup (dCons (dC (.int 0)) (dCons (dC (.int 1)) dNil))) (dCons (dTup (dCons (dC (.int 1)) (dCons (dC (.int 1)) dNil))) dNil))) dNil)) (dCons (dTup (dCons (dTup (dCons (dTup (dCons (dC (.int 0)) (dCons (dC (.int 1)) dNil))) (dCons (dTup (dCons (dC (.int 1)) (dCons (dC (.int 1)) dNil))) (dCons (dTup (dCons (dC (.int 2)) (dCons (dC (.int 2)) dNil))) dNil)))) (dCons (dTup (dCons (dTup (dCons (dC (.int 0)) (dCons (dC (.int 2)) dNil))) (dCons (dTup (dCons (dC (.int 1)) (dCons (dC (.int 1)) dNil))) (dCons (dTup (dCons (dC (.int 2)) (dCons (dC (.int 2)) dNil))) dNil)))) dNil))) dNil)))))
  (dSeq (dAsg 1 (d2 addD (dVar 1) (dOfO (dLst (dCons (dTup (dCons (dTup (dCons (dTup (dCons (dC (.int 0)) (dCons (dC (.int 1)) dNil))) (dCons (dTup (dCons (dC (.int 0)) (dCons (dC (.int 1)) dNil))) (dCons (dTup (dCons (dC (.int 0)) (dCons (dC (.int 1)) dNil))) dNil)))) (dCons (dTup (dCons (dTup (dCons (dC (.int 0)) (dCons (dC (.int 2)) dNil))) (dCons (dTup (dCons (dC (.int 0)) (dCons (dC (.int 2)) dNil))) (dCons (dTup (dCons (dC (.int 0)) (dCons (dC (.int 2)) dNil))) dNil)))) dNil))) dNil)))))
  (dSeq (dAsg 1 (d2 addD (dVar 1) (dOfO (dLst (dCons (dTup (dCons (dTup (dCons (dTup (dCons (dC (.int 0)) (dCons (dC (.int 1)) dNil))) (dCons (dTup (dCons (dC (.int 1)) (dCons (dC (.int 1)) dNil))) (dCons (dTup (dCons (dC (.int 2)) (dCons (dC (.int 1)) dNil))) dNil)))) (dCons (dTup (dCons (dTup (dCons (dC (.int 0)) (dCons (dC (.int 2)) dNil))) (dCons (dTup (dCons (dC (.int 1)) (dCons (dC (.int 2)) dNil))) (dCons (dTup (dCons (dC (.int 2)) (dCons (dC (.int 2)) dNil))) dNil)))) dNil))) dNil)))))
  (dSeq (dAsg 1 (d2 addD (dVar 1) (dOfO (dLst (dCons (dTup (dCons (dTup (dCons (dTup (dCons (dC (.int 0)) (dCons (dC (.int 1)) dNil))) (dCons (dTup (dCons (dC (.int 1)) (dCons (dC (.int 2)) dNil))) (dCons (dTup (dCons (dC (.int 2)) (dCons (dC (.int 0)) dNil))) dNil)))) dNil)) (dCons (dTup (dCons (dTup (dCons (dTup (dCons (dC (.int 0)) (dCons (dC (.int 1)) dNil))) (dCons (dTup (dCons (dC (.int 0)) (dCons (dC (.int 0)) dNil))) dNil))) dNil)) dNil))))))
  (dSeq (dAsg 1 (d2 addD (dVar 1) (dOfO (dLst (dCons (dTup (dCons (dTup (dCons (dTup (dCons (dC (.int 0)) (dCons (dC (.int 1)) dNil))) (dCons (dTup (dCons (dC (.int 0)) (dCons (dC (.int 1)) dNil))) (dCons (dTup (dCons (dC (.int 0)) (dCons (dC (.int 2)) dNil))) dNil)))) (dCons (dTup (dCons (dTup (dCons (dC (.int 0)) (dCons (dC (.int 2)) dNil))) (dCons (dTup (dCons (dC (.int 0)) (dCons (dC (.int 1)) dNil))) (dCons (dTup (dCons (dC (.int 0)) (dCons (dC (.int 2)) dNil))) dNil)))) dNil))) dNil)))))
  (dSeq (dAsg 1 (d2 addD (dVar 1) (dOfO (dLst (dCons (dTup (dCons (dTup (dCons (dTup (dCons (dC (.int 0)) (dCons (dC (.int 1)) dNil))) (dCons (dTup (dCons (dC (.int 0)) (dCons (dC (.int 2)) dNil))) (dCons (dTup (dCons (dC (.int 0)) (dCons (dC (.int 3)) dNil))) (dCons (dTup (dCons (dC (.int 0)) (dCons (dC (.int 3)) dNil))) dNil))))) (dCons (dTup (dCons (dTup (dCons (dC (.int 1)) (dCons (dC (.int 0)) dNil))) (dCons (dTup (dCons (dC (.int 1)) (dCons (dC (.int 0)) dNil))) (dCons (dTup (dCons (dC (.int 1)) (dCons (dC (.int 0)) dNil))) (dCons (dTup (dCons (dC (.int 1)) (dCons (dC (.int 0)) dNil))) dNil))))) dNil))) dNil)))))
  (dRet (dIx (dVarC 1) (d2 modD (dIx (dVarC 0) (dC (.int 0))) (dC (.int 8)))))))))))
def knownT : List Tab := [[[(0, 1), (1, 1)]], [[(0, 1), (1, 1), (2, 2)], [(0, 2), (1, 1), (2, 2)]], [[(0, 1), (0, 1), (0, 1)], [(0, 2), (0, 2), (0, 2)]],
  [[(0, 1), (1, 1), (2, 1)], [(0, 2), (1, 2), (2, 2)]], [[(0, 1), (1, 2), (2, 0)]], [[(0, 1), (0, 0)]], [[(0, 1), (0, 1), (0, 2)], [(0, 2), (0, 1), (0, 2)]],
  [[(0, 1), (0, 2), (0, 3), (0, 3)], [(1, 0), (1, 0), (1, 0), (1, 0)]]]
theorem known_good : ∀ t ∈ knownT, ∃ n, GoodN n t := by
  intro t ht
  have h : knownT.all (fun t => (List.range 6).any fun n => goodB n t) = true := by decide +kernel
  have := (List.all_eq_true.mp h) t ht
  obtain ⟨n, _, hn⟩ := List.any_eq_true.mp this
  exact ⟨n, good_of_B hn⟩
def c__law_known : Ct := fun ds R _ => ∃ (ns : List Int) (a : Int), ds = [.list (ns.map .int)] ∧ ns[0]? = some a ∧ 0 ≤ a ∧ ∀ t n, t ∈ knownT → GoodN n t → R (.sh (tabD t))
theorem l__law_known : ∀ ds R Xd, c__law_known ds R Xd → ds.length = 1 := by
  rintro ds R Xd ⟨d, _, rfl, h⟩
  rfl
theorem p__law_known : Kp d__law_known n__law_known c__law_known := by
  rintro ds R Xd ⟨ns, a, rfl, ha, h0, h⟩
  simp [d__law_known, st0, n__law_known, ha]
  have e : ∃ i : Nat, a % 8 = (i : Int) ∧ i < 8 := ⟨(a % 8).toNat, by omega, by omega⟩
  obtain ⟨i, hi, hlt⟩ := e
  rw [hi, atI_nat]
  have key : ∀ l : List PyData, l = knownT.map tabD → ∃ d, l[i]? = some d ∧ R (Slot.sh d) := by
    rintro l rfl
    have hk : i < knownT.length := hlt
    refine ⟨tabD knownT[i], by simp [hk], ?_⟩
    obtain ⟨n, hn⟩ := known_good _ (List.getElem_mem hk)
    exact h _ n (List.getElem_mem hk) hn
  exact key _ rfl

def n__law_rows : List Str := ["_law_d", "_law_many", "_law_answers", "_law_k"]
def d__law_rows : DS := (dSeq (dAsg 2 (dIx (dCofO (dLst (dCons (dC (.int 1)) (dCons (dC (.int 2)) (dCons (dC (.int 10)) dNil))))) (d2 modD (dIx (dVarC 0) (dC (.int 0))) (dC (.int 3)))))
  (dRet (dCBC tupC (dCofO (dLc [3] (dRng1 (dVar 1)) (gN 3) dYes (dTup (dCons (d2 modD (dIx (dVarC 0) (d2 addD (dC (.int 1)) (dVar 3))) (dVar 2)) (dCons (d2 modD (d2 fdivD (dIx (dVarC 0) (d2 addD (dC (.int 1)) (dVar 3))) (dC (.int 10))) (dVar 1)) dNil))))))))
def c__law_rows : Ct := fun ds R _ => ∃ (ns : List Int) (many : Nat), ds = [.list (ns.map .int), .int many] ∧ Sm ns ∧ many < ns.length ∧ 1 ≤ many ∧ many ≤ 5 ∧ ∀ op, GoodOp many op → R (.sh (opD (op.map rowI)))
theorem l__law_rows : ∀ ds R Xd, c__law_rows ds R Xd → ds.length = 2 := by
  rintro ds R Xd ⟨d, _, rfl, h⟩
  rfl
theorem ints_at {ns : List Int} {i : Nat} (h : i < ns.length) : (ns.map PyData.int)[i]? = some (.int ns[i]) := by simp [h]
theorem p__law_rows : Kp d__law_rows n__law_rows c__law_rows := by
  rintro ds R Xd ⟨ns, many, rfl, hs, hl, h1, h5, h⟩
  have h0 : ns[0]? = some ns[0] := by simp
  simp [d__law_rows, st0, n__law_rows, h0]
  have e : ∃ i : Nat, ns[0] % 3 = (i : Int) ∧ i < 3 := ⟨(ns[0] % 3).toNat, by omega, by omega⟩
  obtain ⟨i, hi, hlt⟩ := e
  rw [hi, atI_nat]
  obtain ⟨an, ha, han⟩ : ∃ an : Int, ([PyData.int 1, PyData.int 2, PyData.int 10] : List PyData)[i]? = some (.int an) ∧ 1 ≤ an ∧ an ≤ 10 := by
    match i, hlt with
    | 0, _ => exact ⟨1, rfl, by omega⟩
    | 1, _ => exact ⟨2, rfl, by omega⟩
    | 2, _ => exact ⟨10, rfl, by omega⟩
  rw [ha]
  simp
  refine ⟨by omega, ?_⟩
  refine lc_rel (fun k d x => ∃ a b : Int, x = .tuple [.int a, .int b] ∧ (0 ≤ a ∧ a ≤ 9) ∧ 0 ≤ b ∧ b < many) (by simp; omega) (fun k d hd K hK => ?_) fun out ho hp => ?_
  · obtain ⟨hk, rfl⟩ := rngD_get hd
    have hk1 : 1 + k < ns.length := by omega
    have e1 : (1 : Int) + (0 + (k : Int)) = ((1 + k : Nat) : Int) := by omega
    have e2 : atI (ns.map PyData.int) (1 + (k : Int)) = some (.int ns[1 + k]) := by
      have : (1 : Int) + (k : Int) = ((1 + k : Nat) : Int) := by omega
      rw [this, atI_nat]
      exact ints_at hk1
    simp [e2]
    refine ⟨by omega, by omega, hK _ ⟨_, _, rfl, ?_⟩⟩
    have m1 := Int.emod_nonneg ns[1 + k] (show an ≠ 0 by omega)
    have m2 := Int.emod_lt_of_pos ns[1 + k] (show 0 < an by omega)
    have m3 := Int.emod_nonneg (ns[1 + k] / 10) (show (many : Int) ≠ 0 by omega)
    have m4 := Int.emod_lt_of_pos (ns[1 + k] / 10) (show 0 < (many : Int) by omega)
    omega
  · simp at ho
    -- the rows, as numbers
    have key : ∀ l : List PyData, (∀ x ∈ l, ∃ a b : Int, x = .tuple [.int a, .int b] ∧ (0 ≤ a ∧ a ≤ 9) ∧ 0 ≤ b ∧ b < many) → ∃ op : List (Int × Int), l = (op.map rowI).map rwD ∧ op.length = l.length ∧ ∀ r ∈ op, (0 ≤ r.1 ∧ r.1 ≤ 9) ∧ 0 ≤ r.2 ∧ r.2 < many := by
      intro l
      induction l with
      | nil => intro _; exact ⟨[], rfl, rfl, by simp⟩
      | cons x l ih =>
        intro hx
        obtain ⟨a, b, rfl, hab⟩ := hx x List.mem_cons_self
        obtain ⟨op, e, el, eo⟩ := ih fun y hy => hx y (List.mem_cons_of_mem _ hy)
        refine ⟨(a, b) :: op, by rw [e]; rfl, by simp [el], fun r hr => ?_⟩
        rcases List.mem_cons.mp hr with rfl | hr
        · exact hab
        · exact eo r hr
    obtain ⟨op, e, el, eo⟩ := key out fun x hx => by
      obtain ⟨k, hk, hx⟩ := List.mem_iff_getElem.mp hx
      have hk2 : k < many := by omega
      exact hp k (.int (0 + (k : Int))) x (by simp [rngD, hk2]) (by simp [hk, hx])
    subst e
    exact h op ⟨by omega, eo⟩

def n__law_table : List Str := ["_law_d", "_law_most_stands", "_law_most_operations", "_law_many", "_law_k"]
def d__law_table : DS := (dSeq (dIfS (dTst (d2 ltD (d2 modD (dIx (dVarC 0) (dC (.int 0))) (dC (.int 5))) (dC (.int 2))))
  (dRet (dCall c__law_known (dCons (dSl (dVarC 0) (dSome (dC (.int 1))) dNo) dNil)))
  dNext)
  (dSeq (dAsg 3 (d2 addD (dC (.int 1)) (d2 modD (dIx (dVarC 0) (dC (.int 1))) (dVar 1))))
  (dRet (dCBC tupC (dCofO (dLc [4] (dRng1 (d2 addD (dC (.int 1)) (d2 modD (dIx (dVarC 0) (dC (.int 2))) (dVar 2)))) (gN 4) dYes (dCall c__law_rows (dCons (dSl (dVarC 0) (dSome (d2 addD (dC (.int 3)) (d2 mulD (dC (.int 6)) (dVar 4)))) dNo) (dCons (dVar 3) dNil)))))))))
def c__law_table : Ct := fun ds R _ => ∃ (ns : List Int) (ms mo : Nat), ds = [.list (ns.map .int), .int ms, .int mo] ∧ Sm ns ∧ 27 ≤ ns.length ∧ ns.length ≤ 50000 ∧ 1 ≤ ms ∧ ms ≤ 5 ∧ 1 ≤ mo ∧ mo ≤ 4 ∧ ∀ t n, GoodN n t → (t ∈ knownT ∨ (n ≤ ms ∧ t.length ≤ mo)) → R (.sh (tabD t))
theorem l__law_table : ∀ ds R Xd, c__law_table ds R Xd → ds.length = 3 := by
  rintro ds R Xd ⟨d, _, _, rfl, h⟩
  rfl
theorem Sm.drop {ns : List Int} (h : Sm ns) (n : Nat) : Sm (ns.drop n) := fun z hz => h z (List.mem_of_mem_drop hz)
theorem Sm.get {ns : List Int} (h : Sm ns) {n : Nat} (hn : n < ns.length) : 0 ≤ ns[n] ∧ ns[n] < 9973 := h _ (List.getElem_mem hn)
/-- ns[k:] -/
theorem cut_from {ns : List Int} {k : Nat} (h : k ≤ ns.length) : cutD (ns.map PyData.int) (some (k : Int)) none = (ns.drop k).map PyData.int := by
  rw [cutD_ints, HT.sIx_nat, HT.sIx_none]
  rw [Nat.min_eq_left h, List.take_of_length_le (by simp)]
/-- ns[a:b] -/
theorem cut_ab {ns : List Int} {a b : Nat} (hab : a ≤ b) (h : b ≤ ns.length) : cutD (ns.map PyData.int) (some (a : Int)) (some (b : Int)) = ((ns.drop a).take (b - a)).map PyData.int := by
  rw [cutD_ints, HT.sIx_nat, HT.sIx_nat]
  rw [Nat.min_eq_left h, Nat.min_eq_left (show a ≤ ns.length by omega)]
theorem p__law_table : Kp d__law_table n__law_table c__law_table := by
  rintro ds R Xd ⟨ns, ms, mo, rfl, hs, hl, hl2, a1, a5, b1, b4, h⟩
  have h0 : ns[0]? = some ns[0] := List.getElem?_eq_getElem (by omega)
  have h1 : ns[1]? = some ns[1] := List.getElem?_eq_getElem (by omega)
  have h2 : ns[2]? = some ns[2] := List.getElem?_eq_getElem (by omega)
  simp [d__law_table, st0, n__law_table, h0]
  split
  · refine ⟨ns.drop 1, ns[1], ?_, ?_, (hs.get (by omega)).1, fun t n ht hg => ⟨_, rfl, h t n hg (.inl ht)⟩⟩
    · rw [show (1 : Int) = ((1 : Nat) : Int) from rfl, cut_from (by omega)]
    · rw [List.getElem?_drop]; exact h1
  · simp [h1, h2]
    have p0 := hs.get (show 1 < ns.length by omega)
    have p2 := hs.get (show 2 < ns.length by omega)
    obtain ⟨n, hn, hn1⟩ : ∃ n : Nat, (1 : Int) + ns[1] % (ms : Int) = (n : Int) ∧ 1 ≤ n ∧ n ≤ ms := by
      have m3 := Int.emod_nonneg ns[1] (show (ms : Int) ≠ 0 by omega)
      have m4 := Int.emod_lt_of_pos ns[1] (show 0 < (ms : Int) by omega)
      exact ⟨(1 + ns[1] % (ms : Int)).toNat, by omega, by omega, by omega⟩
    obtain ⟨o, ho, ho1⟩ : ∃ n : Nat, (1 : Int) + ns[2] % (mo : Int) = (n : Int) ∧ 1 ≤ n ∧ n ≤ mo := by
      have m3 := Int.emod_nonneg ns[2] (show (mo : Int) ≠ 0 by omega)
      have m4 := Int.emod_lt_of_pos ns[2] (show 0 < (mo : Int) by omega)
      exact ⟨(1 + ns[2] % (mo : Int)).toNat, by omega, by omega, by omega⟩
    refine ⟨by omega, by omega, by omega, by omega, ?_⟩
    rw [hn, ho]
    simp
    refine lc_rel (fun k d x => ∃ op, x = opD (op.map rowI) ∧ GoodOp n op) (by simp; omega) (fun k d hd K hK => ?_) fun out hou hp => ?_
    · obtain ⟨hk, rfl⟩ := rngD_get hd
      simp
      have e3 : (3 : Int) + 6 * (k : Int) = ((3 + 6 * k : Nat) : Int) := by omega
      rw [e3]
      rw [cut_from (by omega)]
      refine ⟨ns.drop (3 + 6 * k), n, rfl, hs.drop _, by simp; omega, by omega, by omega, fun op hop => ⟨_, rfl, hK _ ⟨op, rfl, hop⟩⟩⟩
    · simp at hou
      have key : ∀ l : List PyData, (∀ x ∈ l, ∃ op, x = opD (op.map rowI) ∧ GoodOp n op) → ∃ t : Tab, l = (embT t).map opD ∧ t.length = l.length ∧ ∀ op ∈ t, GoodOp n op := by
        intro l
        induction l with
        | nil => intro _; exact ⟨[], rfl, rfl, by simp⟩
        | cons x l ih =>
          intro hx
          obtain ⟨op, rfl, hop⟩ := hx x List.mem_cons_self
          obtain ⟨t, e, el, eo⟩ := ih fun y hy => hx y (List.mem_cons_of_mem _ hy)
          refine ⟨op :: t, by rw [e]; rfl, by simp [el], fun r hr => ?_⟩
          rcases List.mem_cons.mp hr with rfl | hr
          · exact hop
          · exact eo r hr
      obtain ⟨t, e, el, eo⟩ := key out fun x hx => by
        obtain ⟨k, hk, hx⟩ := List.mem_iff_getElem.mp hx
        have hk2 : k < o := by omega
        exact hp k (.int (0 + (k : Int))) x (by simp [rngD, hk2]) (by simp [hk, hx])
      subst e
      exact h t n ⟨by omega, by omega, by omega, by omega, eo⟩ (.inr ⟨by omega, by omega⟩)

end WH

namespace WH
open PySem PySem.Spec L2
def n__law_same : List Str := ["_law_found", "_law_due", "_law_k"]
def d__law_same (c_self : Ct) : DS := (dSeq (dIfS (dTst (d2 isD (dVar 1) (dC .none)))
  (dRet (d2 isD (dVar 0) (dC .none)))
  dNext)
  (dSeq (dIfS (dTst (dIsi2 "list" "tuple" (dVar 1)))
  (dSeq (dIfS (dOr (dTst (d2 neD (dIsi "list" (dVar 0)) (dIsi "list" (dVar 1)))) (dTst (d2 neD (dIsi "tuple" (dVar 0)) (dIsi "tuple" (dVar 1)))))
  (dRet (dC (.bool false)))
  dNext)
  (dRet (dAndV (d2 eqD (dCB lenD (dCons (dVar 0) dNil)) (dCB lenD (dCons (dVar 1) dNil))) (dCBC allC (dCofO (dLc [2] (dRng1 (dCB lenD (dCons (dVar 1) dNil))) (gN 2) dYes (dCall c_self (dCons (dIx (dVarC 0) (dVar 2)) (dCons (dIx (dVarC 1) (dVar 2)) dNil)))))))))
  dNext)
  (dSeq (dIfS (dOr (dTst (d2 neD (dIsi "bool" (dVar 0)) (dIsi "bool" (dVar 1)))) (dTst (d2 neD (dIsi "str" (dVar 0)) (dIsi "str" (dVar 1)))))
  (dRet (dC (.bool false)))
  dNext)
  (dRet (dAndV (d2 eqD (dIsi "int" (dVar 0)) (dIsi "int" (dVar 1))) (d2 eqD (dVar 0) (dVar 1)))))))
/-- plain data of at most n levels -/
def Sd : Nat → PyData → Prop
  | _, .none => True
  | _, .int _ => True
  | _, .bool _ => True
  | _, .str s => PyData.strOk s = true
  | n + 1, .list ds => ds.length ≤ 50000 ∧ ∀ d ∈ ds, Sd n d
  | n + 1, .tuple ds => ds.length ≤ 50000 ∧ ∀ d ∈ ds, Sd n d
  | _, _ => False
theorem Sd.mono : ∀ {n m : Nat} {d : PyData}, Sd n d → n ≤ m → Sd m d
  | n, m, .none, _, _ => by cases m <;> trivial
  | n, m, .int _, _, _ => by cases m <;> trivial
  | n, m, .bool _, _, _ => by cases m <;> trivial
  | n, m, .str _, h, _ => by cases m <;> cases n <;> exact h
  | n + 1, m + 1, .list ds, h, hm => ⟨h.1, fun d hd => (h.2 d hd).mono (by omega)⟩
  | n + 1, m + 1, .tuple ds, h, hm => ⟨h.1, fun d hd => (h.2 d hd).mono (by omega)⟩
  | n, m, .dict _, h, hm => by cases n <;> exact h.elim
theorem Sd.cl : ∀ {n : Nat} {d : PyData}, Sd n d → d.canLay0 = true ∧ d.depth ≤ n
  | n, .none, _ => ⟨rfl, by simp [PyData.depth]⟩
  | n, .int _, _ => ⟨rfl, by simp [PyData.depth]⟩
  | n, .bool _, _ => ⟨rfl, by simp [PyData.depth]⟩
  | n, .str _, h => ⟨by cases n <;> exact h, by simp [PyData.depth]⟩
  | n, .dict _, h => by cases n <;> exact h.elim
  | n + 1, .list ds, h => by
    have : PyData.canLayAll0 ds = true ∧ PyData.depthAll ds ≤ n := by
      have h2 := h.2
      clear h
      induction ds with
      | nil => exact ⟨rfl, by simp [PyData.depthAll]⟩
      | cons x xs ih =>
        have a := (h2 x (by simp)).cl
        have b := ih fun y hy => h2 y (List.mem_cons_of_mem _ hy)
        exact ⟨by simp [PyData.canLayAll0, a.1, b.1], by simp only [PyData.depthAll]; omega⟩
    exact ⟨this.1, by simp only [PyData.depth]; omega⟩
  | n + 1, .tuple ds, h => by
    have : PyData.canLayAll0 ds = true ∧ PyData.depthAll ds ≤ n := by
      have h2 := h.2
      clear h
      induction ds with
      | nil => exact ⟨rfl, by simp [PyData.depthAll]⟩
      | cons x xs ih =>
        have a := (h2 x (by simp)).cl
        have b := ih fun y hy => h2 y (List.mem_cons_of_mem _ hy)
        exact ⟨by simp [PyData.canLayAll0, a.1, b.1], by simp only [PyData.depthAll]; omega⟩
    exact ⟨this.1, by simp only [PyData.depth]; omega⟩
theorem Sd.shaped {n : Nat} {d : PyData} (h : Sd n d) (hn : n ≤ 64) : SeqAt.shaped d = true := by
  have := h.cl
  unfold SeqAt.shaped
  simp [this.1]
  omega
def cc__law_same : Nat → Ct
  | 0 => fun _ _ _ => False
  | n + 1 => fun ds R _ => ∃ a, ds = [a, a] ∧ Sd n a ∧ R (.sh (.bool true))
def c__law_same : Ct := cc__law_same 9
theorem l__law_same : ∀ n ds R Xd, cc__law_same n ds R Xd → ds.length = 2 := by
  intro n ds R Xd h
  cases n with
  | zero => exact h.elim
  | succ n => obtain ⟨a, rfl, h⟩ := h; rfl
theorem all_true {bs : List PyData} (h : ∀ x ∈ bs, x = .bool true) {Q : PyData → Prop} (q : Q (.bool true)) : allC false bs Q := by
  refine ⟨bs.map fun _ => true, rfl, ?_, ?_⟩
  · rw [List.map_map]
    apply List.ext_getElem
    · simp
    · intro i h1 h2
      simp
      exact h _ (List.getElem_mem h1)
  · have : (bs.map fun _ => true).all id = true := by simp
    rw [this]; exact q
theorem p__law_same : ∀ n, Kp (d__law_same (cc__law_same n)) n__law_same (cc__law_same (n + 1)) := by
  rintro n ds R Xd ⟨a, rfl, hs, h⟩
  cases a with
  | none => simpa [d__law_same, st0, n__law_same] using h
  | int i => simpa [d__law_same, st0, n__law_same] using h
  | bool i => simpa [d__law_same, st0, n__law_same] using h
  | str i =>
    have hs' : PyData.strOk i = true := by cases n <;> exact hs
    simpa [d__law_same, st0, n__law_same, hs'] using h
  | list ds =>
    cases n with
    | zero => exact hs.elim
    | succ n =>
    have hs1 : ds.length ≤ 50000 := hs.1
    simp [d__law_same, st0, n__law_same]
    refine ⟨by omega, ?_⟩
    refine lc_rel (fun _ _ x => x = .bool true) (by simpa using hs.1) (fun k d hd K hK => ?_) fun out hl hp => ?_
    · obtain ⟨hk, rfl⟩ := rngD_get hd
      simp [List.getElem?_eq_getElem hk]
      exact ⟨ds[k], rfl, hs.2 _ (List.getElem_mem hk), ⟨_, rfl, hK _ rfl⟩⟩
    · refine all_true (fun x hx => ?_) h
      obtain ⟨k, hk, rfl⟩ := List.mem_iff_getElem.mp hx
      exact hp k (.int (0 + (k : Int))) _ (by have : k < ds.length := by simpa [hl] using hk
                                              simp [rngD, this]) (List.getElem?_eq_getElem hk)
  | tuple ds =>
    cases n with
    | zero => exact hs.elim
    | succ n =>
    have hs1 : ds.length ≤ 50000 := hs.1
    simp [d__law_same, st0, n__law_same]
    refine ⟨by omega, ?_⟩
    refine lc_rel (fun _ _ x => x = .bool true) (by simpa using hs.1) (fun k d hd K hK => ?_) fun out hl hp => ?_
    · obtain ⟨hk, rfl⟩ := rngD_get hd
      simp [List.getElem?_eq_getElem hk]
      exact ⟨ds[k], rfl, hs.2 _ (List.getElem_mem hk), ⟨_, rfl, hK _ rfl⟩⟩
    · refine all_true (fun x hx => ?_) h
      obtain ⟨k, hk, rfl⟩ := List.mem_iff_getElem.mp hx
      exact hp k (.int (0 + (k : Int))) _ (by have : k < ds.length := by simpa [hl] using hk
                                              simp [rngD, this]) (List.getElem?_eq_getElem hk)
  | dict _ => cases n <;> exact hs.elim

end WH

namespace WH
open PySem PySem.Spec L2
/-! ### a table's text -/
open TL (tl tl_append partition_app split_join tl_join join_eq joinL)
def dg (i : Int) : Str := PySem.Str.ofString (toString i)
def rowT (r : Int × Int) : Str := dg r.1 ++ (":" : Str) ++ dg r.2
def opT (op : List (Int × Int)) : Str := Txt.join " " (op.map rowT)
def tabT (t : Tab) : Str := Txt.join ";" (t.map opT)
theorem dg_rep (i : Int) : PySem.Str.ofString i.repr = dg i := rfl
theorem emp_app (s : Str) : PySem.Str.empty ++ s = s := by
  show (⟨#[] ++ s.cps⟩ : Str) = s
  rw [Array.empty_append]
theorem dg_nat : ∀ n : Nat, n < 10 → dg (n : Int) = ⟨#[48 + n]⟩ := by decide +kernel
theorem dg_eq {i : Int} (h0 : 0 ≤ i) (h9 : i ≤ 9) : dg i = ⟨#[48 + i.toNat]⟩ := by
  have := dg_nat i.toNat (by omega)
  rwa [show ((i.toNat : Nat) : Int) = i by omega] at this
theorem dg_int {i : Int} (h0 : 0 ≤ i) (h9 : i ≤ 9) : PySem.intText? (dg i) = some i := by
  have h : ∀ n : Nat, n < 10 → PySem.intText? (dg (n : Int)) = some (n : Int) := by decide +kernel
  have := h i.toNat (by omega)
  rwa [show ((i.toNat : Nat) : Int) = i by omega] at this
theorem dg_in {i : Int} (h0 : 0 ≤ i) (h9 : i ≤ 9) : strIn (dg i) "0123456789" = true := by
  rw [dg_eq h0 h9, strIn_one]
  have h : ∀ n : Nat, n < 10 → decide (48 + n ∈ ("0123456789" : Str).cps.toList) = true := by decide +kernel
  exact h _ (by omega)
theorem dg_len {i : Int} (h0 : 0 ≤ i) (h9 : i ≤ 9) : (dg i).length = 1 := by
  rw [dg_eq h0 h9]; rfl
theorem tl_dg {i : Int} (h0 : 0 ≤ i) (h9 : i ≤ 9) : tl (dg i) = [48 + i.toNat] := by
  rw [dg_eq h0 h9]
theorem tl_row {r : Int × Int} (a : 0 ≤ r.1 ∧ r.1 ≤ 9) (b : 0 ≤ r.2 ∧ r.2 ≤ 9) : tl (rowT r) = [48 + r.1.toNat, 58, 48 + r.2.toNat] := by
  unfold rowT
  rw [tl_append, tl_append, tl_dg a.1 a.2, tl_dg b.1 b.2]
  rfl
theorem row_len {r : Int × Int} (a : 0 ≤ r.1 ∧ r.1 ≤ 9) (b : 0 ≤ r.2 ∧ r.2 ≤ 9) : (rowT r).length = 3 := by
  have := congrArg List.length (tl_row a b)
  simpa [tl, PySem.Str.length] using this
theorem row_part {r : Int × Int} (a : 0 ≤ r.1 ∧ r.1 ≤ 9) : Txt.partition (rowT r) ":" = (dg r.1, (":" : Str), dg r.2) := by
  refine partition_app (s := 58) (S := []) rfl ?_
  rw [tl_dg a.1 a.2]
  simp
  omega
theorem joinL_mem {S : List Nat} : ∀ {parts : List (List Nat)} {c : Nat}, c ∈ joinL S parts → c ∈ S ∨ ∃ p ∈ parts, c ∈ p
  | [], c, h => by cases h
  | [p], c, h => .inr ⟨p, by simp, h⟩
  | p :: q :: r, c, h => by
    have h' : c ∈ p ++ (S ++ joinL S (q :: r)) := h
    rcases List.mem_append.mp h' with h | h
    · exact .inr ⟨p, by simp, h⟩
    · rcases List.mem_append.mp h with h | h
      · exact .inl h
      · rcases joinL_mem h with h | ⟨p', h1, h2⟩
        · exact .inl h
        · exact .inr ⟨p', List.mem_cons_of_mem _ h1, h2⟩
theorem joinL_len {S : List Nat} {m : Nat} : ∀ {parts : List (List Nat)}, (∀ p ∈ parts, p.length ≤ m) → (joinL S parts).length ≤ (m + S.length) * parts.length
  | [], _ => by simp [joinL]
  | [p], h => by
    have := h p (by simp)
    show p.length ≤ _
    simp
    omega
  | p :: q :: r, h => by
    have h1 := h p (by simp)
    have h2 := joinL_len (S := S) (parts := q :: r) fun p' hp => h p' (List.mem_cons_of_mem _ hp)
    show (p ++ (S ++ joinL S (q :: r))).length ≤ _
    have e : (m + S.length) * (p :: q :: r).length = (m + S.length) * (q :: r).length + (m + S.length) := by
      rw [List.length_cons, Nat.mul_add, Nat.mul_one]
    rw [e]
    simp only [List.length_append]
    omega
theorem tl_jn (y : Str) (ps : List Str) : tl (Txt.join y ps) = joinL (tl y) (ps.map tl) := by rw [join_eq, tl_join]
theorem slen (s : Str) : s.length = (tl s).length := by simp [tl, PySem.Str.length]
theorem strOk_of {s : Str} (h : ∀ c ∈ tl s, c < 1000) : PyData.strOk s = true := by
  unfold PyData.strOk
  rw [Array.all_eq_true']
  intro c hc
  have := h c (by simpa [tl] using hc)
  simp
  omega
theorem good_row {n : Nat} {t : Tab} (g : GoodN n t) {op : List (Int × Int)} (ho : op ∈ t) {r : Int × Int} (hr : r ∈ op) : (0 ≤ r.1 ∧ r.1 ≤ 9) ∧ 0 ≤ r.2 ∧ r.2 ≤ 9 := by
  have := (g.op op ho).2 r hr
  have := g.n5
  omega
theorem mem_row {n : Nat} {t : Tab} (g : GoodN n t) {op : List (Int × Int)} (ho : op ∈ t) {r : Int × Int} (hr : r ∈ op) {c : Nat} (h : c ∈ tl (rowT r)) : 48 ≤ c ∧ c ≤ 58 := by
  have := good_row g ho hr
  rw [tl_row this.1 this.2] at h
  simp at h
  omega
theorem mem_op {n : Nat} {t : Tab} (g : GoodN n t) {op : List (Int × Int)} (ho : op ∈ t) {c : Nat} (h : c ∈ tl (opT op)) : c = 32 ∨ 48 ≤ c ∧ c ≤ 58 := by
  unfold opT at h
  rw [tl_jn] at h
  rcases joinL_mem h with h | ⟨p, h1, h2⟩
  · left
    have : tl (" " : Str) = [32] := rfl
    rw [this] at h
    simpa using h
  · rw [List.map_map] at h1
    obtain ⟨r, hr, rfl⟩ := List.mem_map.mp h1
    exact .inr (mem_row g ho hr h2)
theorem mem_tab {n : Nat} {t : Tab} (g : GoodN n t) {c : Nat} (h : c ∈ tl (tabT t)) : 32 ≤ c ∧ c ≤ 59 := by
  unfold tabT at h
  rw [tl_jn] at h
  rcases joinL_mem h with h | ⟨p, h1, h2⟩
  · have : tl (";" : Str) = [59] := rfl
    rw [this] at h
    simp at h
    omega
  · rw [List.map_map] at h1
    obtain ⟨op, ho, rfl⟩ := List.mem_map.mp h1
    have := mem_op g ho h2
    omega
theorem tabT_ok {n : Nat} {t : Tab} (g : GoodN n t) : PyData.strOk (tabT t) = true := strOk_of fun c h => by have := mem_tab g h; omega
theorem op_len {n : Nat} {t : Tab} (g : GoodN n t) {op : List (Int × Int)} (ho : op ∈ t) : (opT op).length ≤ 20 := by
  rw [slen]
  unfold opT
  rw [tl_jn]
  have h1 : tl (" " : Str) = [32] := rfl
  have := joinL_len (S := tl (" " : Str)) (m := 3) (parts := (op.map rowT).map tl) fun p hp => by
    rw [List.map_map] at hp
    obtain ⟨r, hr, rfl⟩ := List.mem_map.mp hp
    have := good_row g ho hr
    show (tl (rowT r)).length ≤ 3
    rw [tl_row this.1 this.2]
    simp
  have h2 := (g.op op ho).1
  have h3 := g.n5
  simp [h1, h2] at this
  rw [h1]
  simp
  omega
theorem tab_len {n : Nat} {t : Tab} (g : GoodN n t) : (tabT t).length ≤ 84 := by
  rw [slen]
  unfold tabT
  rw [tl_jn]
  have h1 : tl (";" : Str) = [59] := rfl
  have := joinL_len (S := tl (";" : Str)) (m := 20) (parts := (t.map opT).map tl) fun p hp => by
    rw [List.map_map] at hp
    obtain ⟨op, ho, rfl⟩ := List.mem_map.mp hp
    have := op_len g ho
    rwa [slen] at this
  have h3 := g.o4
  simp [h1] at this
  rw [h1]
  simp
  omega
theorem tab_split {n : Nat} {t : Tab} (g : GoodN n t) : Txt.split (tabT t) ";" = t.map opT := by
  refine split_join (s := 59) (S := []) rfl (by decide +kernel) (by have := g.o1; intro e; rw [List.map_eq_nil_iff] at e; subst e; simp at this) fun p hp hc => ?_
  obtain ⟨op, ho, rfl⟩ := List.mem_map.mp hp
  have := mem_op g ho hc
  omega
theorem op_split {n : Nat} {t : Tab} (g : GoodN n t) {op : List (Int × Int)} (ho : op ∈ t) : Txt.split (opT op) " " = op.map rowT := by
  refine split_join (s := 32) (S := []) rfl (by decide +kernel) (by have := (g.op op ho).1; have := g.n1; intro e; rw [List.map_eq_nil_iff] at e; subst e; simp at *; omega) fun p hp hc => ?_
  obtain ⟨r, hr, rfl⟩ := List.mem_map.mp hp
  have := mem_row g ho hr hc
  omega

def n_table_text : List Str := ["table", "rows", "answer", "later"]
def d_table_text : DS := (dSeq (dDrop (dCall c_look_table (dCons (dVar 0) dNil)))
  (dRet (dJoin (dC (.str ";")) (dCofO (dLc [1] (dIt (dVar 0)) (gN 1) dYes (dJoin (dC (.str " ")) (dCofO (dLc [2, 3] (dIt (dVar 1)) (gT 2 (gsCons (gN 2) (gsCons (gN 3) gsNil))) dYes (dJoined (dVal (dVar 2) (dLit ":" (dVal (dVar 3) dNilJ))))))))))))
def c_table_text : Ct := fun ds R _ => ∃ n t, ds = [tabD t] ∧ GoodN n t ∧ R (.sh (.str (tabT t)))
theorem l_table_text : ∀ ds R Xd, c_table_text ds R Xd → ds.length = 1 := by
  rintro ds R Xd ⟨n, t, rfl, h⟩
  rfl
theorem sum_le {l : List Nat} {m : Nat} (h : ∀ x ∈ l, x ≤ m) : l.sum ≤ m * l.length := by
  induction l with
  | nil => simp
  | cons x l ih =>
    have h1 := h x (by simp)
    have h2 := ih fun y hy => h y (List.mem_cons_of_mem _ hy)
    rw [List.sum_cons, List.length_cons, Nat.mul_add, Nat.mul_one]
    omega
/-- the parts joined are few -/
theorem parts_op {n : Nat} {t : Tab} (g : GoodN n t) {op : List (Int × Int)} (ho : op ∈ t) : ((op.map rowT).map (·.length)).sum + (op.map rowT).length * (" " : Str).length ≤ 100000 := by
  have h1 := sum_le (l := (op.map rowT).map (·.length)) (m := 3) fun x hx => by
    rw [List.map_map] at hx
    obtain ⟨r, hr, rfl⟩ := List.mem_map.mp hx
    have := good_row g ho hr
    exact Nat.le_of_eq (row_len this.1 this.2)
  have h2 := (g.op op ho).1
  have h3 := g.n5
  have h4 : (" " : Str).length = 1 := rfl
  simp [h2, h4] at h1 ⊢
  omega
theorem parts_tab {n : Nat} {t : Tab} (g : GoodN n t) : ((t.map opT).map (·.length)).sum + (t.map opT).length * (";" : Str).length ≤ 100000 := by
  have h1 := sum_le (l := (t.map opT).map (·.length)) (m := 20) fun x hx => by
    rw [List.map_map] at hx
    obtain ⟨op, ho, rfl⟩ := List.mem_map.mp hx
    exact op_len g ho
  have h3 := g.o4
  have h4 : (";" : Str).length = 1 := rfl
  simp [h4] at h1 ⊢
  omega
theorem p_table_text : Kp d_table_text n_table_text c_table_text := by
  rintro ds R Xd ⟨n, t, rfl, g, h⟩
  simp [d_table_text, st0, n_table_text]
  refine c_look_table_good g ?_
  rw [tabD_eq]
  simp
  have o4 := g.o4
  refine lc_mapM (fun op => .str (opT op)) (by omega) (fun op ho K hK => ?_) ?_
  · simp
    have n5 := g.n5
    refine lc_mapM (fun r => .str (rowT r)) (by rw [(g.op op ho).1]; omega) (fun r hr K2 hK2 => ?_) ?_
    · simp [dg_rep, emp_app]
      have b := good_row g ho hr
      have l1 := dg_len b.1.1 b.1.2
      have l2 := dg_len b.2.1 b.2.2
      have l3 : (PySem.Str.ofString ":").length = 1 := rfl
      have l4 : (dg r.1 ++ PySem.Str.ofString ":").length = 2 := by rw [len_app, l1, l3]
      have l5 : PySem.Str.empty.length = 0 := rfl
      exact ⟨by omega, by omega, by omega, by omega, by omega, hK2⟩
    · exact ⟨op.map rowT, by simp [Function.comp_def], parts_op g ho, hK⟩
  · exact ⟨t.map opT, by simp [Function.comp_def], parts_tab g, h⟩

def n__law_written : List Str := ["_law_table_here", "_law_rows_here", "_law_answer", "_law_later"]
def d__law_written : DS := (dRet (dJoin (dC (.str ";")) (dCofO (dLc [1] (dIt (dVar 0)) (gN 1) dYes (dJoin (dC (.str " ")) (dCofO (dLc [2, 3] (dIt (dVar 1)) (gT 2 (gsCons (gN 2) (gsCons (gN 3) gsNil))) dYes (d2 addD (d2 addD (dCB strD (dCons (dVar 2) dNil)) (dC (.str ":"))) (dCB strD (dCons (dVar 3) dNil))))))))))
def c__law_written : Ct := fun ds R _ => ∃ n t, ds = [tabD t] ∧ GoodN n t ∧ R (.sh (.str (tabT t)))
theorem l__law_written : ∀ ds R Xd, c__law_written ds R Xd → ds.length = 1 := by
  rintro ds R Xd ⟨n, t, rfl, h⟩
  rfl
theorem p__law_written : Kp d__law_written n__law_written c__law_written := by
  rintro ds R Xd ⟨n, t, rfl, g, h⟩
  rw [tabD_eq]
  simp [d__law_written, st0, n__law_written]
  have o4 := g.o4
  refine lc_mapM (fun op => .str (opT op)) (by omega) (fun op ho K hK => ?_) ?_
  · simp
    have n5 := g.n5
    refine lc_mapM (fun r => .str (rowT r)) (by rw [(g.op op ho).1]; omega) (fun r hr K2 hK2 => ?_) ?_
    · simp [dg_rep]
      have b := good_row g ho hr
      have l1 := dg_len b.1.1 b.1.2
      have l2 := dg_len b.2.1 b.2.2
      have l3 : (PySem.Str.ofString ":").length = 1 := rfl
      have l4 : (dg r.1 ++ PySem.Str.ofString ":").length = 2 := by rw [len_app, l1, l3]
      exact ⟨by omega, by omega, by omega, by omega, hK2⟩
    · exact ⟨op.map rowT, by simp [Function.comp_def], parts_op g ho, hK⟩
  · exact ⟨t.map opT, by simp [Function.comp_def], parts_tab g, h⟩

def n_row_in : List Str := ["word", "answer", "sign", "later"]
def d_row_in : DS := (dSeq (dAsgG (dPartition (dVar 0) (dC (.str ":"))) (gT 3 (gsCons (gN 1) (gsCons (gN 2) (gsCons (gN 3) gsNil)))))
  (dSeq (dIfS (dOr (dTst (d2 neD (dCB lenD (dCons (dVar 1) dNil)) (dC (.int 1)))) (dOr (dTst (d2 neD (dCB lenD (dCons (dVar 3) dNil)) (dC (.int 1)))) (dOr (dTst (d2 (inS true) (dVar 1) (dC (.str "0123456789")))) (dTst (d2 (inS true) (dVar 3) (dC (.str "0123456789")))))))
  (dRet (dC .none))
  dNext)
  (dRet (dTup (dCons (dCB intS (dCons (dVar 1) dNil)) (dCons (dCB intS (dCons (dVar 3) dNil)) dNil))))))
def c_row_in : Ct := fun ds R _ => ∃ r : Int × Int, ds = [.str (rowT r)] ∧ ((0 ≤ r.1 ∧ r.1 ≤ 9) ∧ 0 ≤ r.2 ∧ r.2 ≤ 9) ∧ R (.sh (.tuple [.int r.1, .int r.2]))
theorem l_row_in : ∀ ds R Xd, c_row_in ds R Xd → ds.length = 1 := by
  rintro ds R Xd ⟨r, rfl, h⟩
  rfl
theorem p_row_in : Kp d_row_in n_row_in c_row_in := by
  rintro ds R Xd ⟨r, rfl, ⟨a, b⟩, h⟩
  have l1 := dg_len a.1 a.2
  have l2 := dg_len b.1 b.2
  have := row_len a b
  simp [d_row_in, st0, n_row_in, row_part a, dg_in a.1 a.2, dg_in b.1 b.2, dg_int a.1 a.2, dg_int b.1 b.2, l1, l2]
  exact ⟨by decide +kernel, by omega, h⟩

/-- the classes that may be raised, and which of them an except clause takes -/
def xnames : List Str := ["BadTable", "BadText"]
def subN (x y : Str) : Bool := x == y

def n_table_in : List Str := ["text", "found", "part", "word", "rows"]
def d_table_in : DS := (dSeq (dAsg 1 (dCBC tupC (dCofO (dLc [2] (dIt (dOfO (dSplit (dVar 0) (dC (.str ";"))))) (gN 2) dYes (dCBC tupC (dCofO (dLc [3] (dIt (dOfO (dSplit (dVar 2) (dC (.str " "))))) (gN 3) dYes (dCall c_row_in (dCons (dVar 3) dNil)))))))))
  (dSeq (dIfS (dTst (dCBC anyC (dCofO (dLc [4] (dIt (dVar 1)) (gN 4) dYes (d2 (inDp false) (dC .none) (dVar 4))))))
  (dRet (dC .none))
  dNext)
  (dSeq (dTry1 xnames (subN "BadTable") (dDrop (dCall c_look_table (dCons (dVar 1) dNil))) (dRet (dC .none)))
  (dRet (dVar 1)))))
def c_table_in : Ct := fun ds R _ => ∃ n t, ds = [.str (tabT t)] ∧ GoodN n t ∧ R (.sh (tabD t))
theorem l_table_in : ∀ ds R Xd, c_table_in ds R Xd → ds.length = 1 := by
  rintro ds R Xd ⟨n, t, rfl, h⟩
  rfl
theorem p_table_in : Kp d_table_in n_table_in c_table_in := by
  rintro ds R Xd ⟨n, t, rfl, g, h⟩
  have o4 := g.o4
  have l1 := tab_len g
  have e0 : (";" : Str).length = 1 := rfl
  have e1 : (" " : Str).length = 1 := rfl
  simp [d_table_in, st0, n_table_in, tab_split g, e0]
  refine ⟨by omega, ?_⟩
  refine lc_mapM (xs := t) (g := fun op => .str (opT op)) (fun op : List (Int × Int) => .tuple (op.map fun r => .tuple [.int r.1, .int r.2])) (by omega) (fun op ho K hK => ?_) ?_
  · have l2 := op_len g ho
    simp [op_split g ho, e1]
    refine ⟨by omega, ?_⟩
    have n5 := g.n5
    refine lc_mapM (xs := op) (g := fun r => .str (rowT r)) (fun r : Int × Int => .tuple [.int r.1, .int r.2]) (by rw [(g.op op ho).1]; omega) (fun r hr K2 hK2 => ?_) ?_
    · simp
      exact ⟨r, rfl, good_row g ho hr, _, rfl, hK2⟩
    · exact hK
  · refine lc_mapM (xs := t) (g := fun op => .tuple (op.map fun r => .tuple [.int r.1, .int r.2])) (fun op : List (Int × Int) => .bool false) (by omega) (fun op ho K hK => ?_) ?_
    · simp
      refine ⟨true, _, rfl, rfl, ?_, ?_⟩
      · refine Sd.shaped (n := 2) ⟨by have := (g.op op ho).1; have := g.n5; simp; omega, fun d hd => ?_⟩ (by omega)
        obtain ⟨r, hr, rfl⟩ := List.mem_map.mp hd
        exact ⟨by simp, by intro d hd; simp at hd; rcases hd with rfl | rfl <;> trivial⟩
      · have : inD PyData.none (op.map fun r => .tuple [.int r.1, .int r.2]) = false := by
          simp [inD, PyData.eqv]
        simp [this]
        exact hK
    · refine ⟨t.map fun _ => false, rfl, by simp [Function.comp_def], ?_⟩
      have : (t.map fun _ => false).any id = false := by simp
      rw [this]
      simp
      have e : tabD t = _ := tabD_eq t
      rw [← e]
      exact c_look_table_good g ⟨⟨_, rfl⟩, h⟩

def n_table_of : List Str := ["text", "found"]
def d_table_of : DS := (dSeq (dAsg 1 (dCall c_table_in (dCons (dVar 0) dNil)))
  (dSeq (dIfS (dTst (d2 isD (dVar 1) (dC .none)))
  (dRaise "BadText" (xfD "BadText" ["at"]) 1 (dCons (dC (.int 0)) dNil))
  dNext)
  (dRet (dVar 1))))
def c_table_of : Ct := fun ds R _ => ∃ n t, ds = [.str (tabT t)] ∧ GoodN n t ∧ R (.sh (tabD t))
theorem l_table_of : ∀ ds R Xd, c_table_of ds R Xd → ds.length = 1 := by
  rintro ds R Xd ⟨n, t, rfl, h⟩
  rfl
theorem p_table_of : Kp d_table_of n_table_of c_table_of := by
  rintro ds R Xd ⟨n, t, rfl, g, h⟩
  simp [d_table_of, st0, n_table_of]
  refine ⟨n, t, rfl, g, _, rfl, ?_⟩
  simp [tabD_eq] at h ⊢
  exact h

def n_law : List Str := ["_law_script", "_law_numbers_here", "_law_k", "_law_table_here", "_law_text"]
def d_law : DS := (dSeq (dAsg 1 (dCall c__law_numbers (dCons (dVar 0) (dCons (dC (.int 200)) dNil))))
  (dSeq (dFor (dRng1 (dC (.int 6))) (gN 2)
  (dSeq (dAsg 3 (dCall c__law_table (dCons (dSl (dVarC 1) (dSome (d2 mulD (dC (.int 33)) (dVar 2))) (dSome (d2 addD (d2 mulD (dC (.int 33)) (dVar 2)) (dC (.int 33))))) (dCons (dC (.int 5)) (dCons (dC (.int 4)) dNil)))))
  (dSeq (dAsg 4 (dCall c__law_written (dCons (dVar 3) dNil)))
  (dIfS (dNot (dTst (dCall c__law_same (dCons (dOfO (dLst (dCons (dCall c_table_text (dCons (dVar 3) dNil)) (dCons (dCall c_table_of (dCons (dVar 4) dNil)) dNil)))) (dCons (dOfO (dLst (dCons (dVar 4) (dCons (dVar 3) dNil)))) dNil)))))
  (dRet (dC (.bool false)))
  dNext))))
  (dRet (dC (.bool true)))))
def c_law : Ct := fun ds R _ => ∃ ns : List Int, ds = [scrD ns] ∧ ns.length ≤ 63 ∧ R (.sh (.bool true))
theorem l_law : ∀ ds R Xd, c_law ds R Xd → ds.length = 1 := by
  rintro ds R Xd ⟨ns, rfl, h⟩
  rfl
theorem sd_tab {n : Nat} {t : Tab} (g : GoodN n t) : Sd 3 (tabD t) := by
  rw [tabD_eq]
  refine ⟨by have := g.o4; simp; omega, fun d hd => ?_⟩
  obtain ⟨op, ho, rfl⟩ := List.mem_map.mp hd
  refine ⟨by have := (g.op op ho).1; have := g.n5; simp; omega, fun d hd => ?_⟩
  obtain ⟨r, hr, rfl⟩ := List.mem_map.mp hd
  exact ⟨by simp, by intro d hd; simp at hd; rcases hd with rfl | rfl <;> trivial⟩
theorem p_law : Kp d_law n_law c_law := by
  rintro ds R Xd ⟨ns, rfl, hn, h⟩
  simp [d_law, st0, n_law]
  refine ⟨ns, 200, rfl, hn, by omega, fun out hl hs => ⟨_, rfl, ?_⟩⟩
  refine forW_inv (fun _ ρ => ∃ a b c, ρ = [.sh (scrD ns), .sh (.list (out.map .int)), a, b, c]) ⟨_, _, _, rfl⟩ (fun ρ' ⟨a, b, c, e⟩ => by subst e; simpa using h) ?_
  rintro k d _ K hd ⟨a, b, c, rfl⟩ hK
  obtain ⟨hk, rfl⟩ := rngD_get hd
  simp
  have e3 : (33 : Int) * (k : Int) = ((33 * k : Nat) : Int) := by omega
  have e4 : ((33 * k : Nat) : Int) + 33 = ((33 * k + 33 : Nat) : Int) := by omega
  rw [e3, e4, cut_ab (by omega) (by omega)]
  refine ⟨(out.drop (33 * k)).take (33 * k + 33 - 33 * k), 5, 4, rfl, fun z hz => hs z (List.mem_of_mem_drop (List.mem_of_mem_take hz)), by simp; omega, by simp; omega, by omega, by omega, by omega, by omega, fun t n g _ => ⟨_, rfl, ?_⟩⟩
  refine ⟨n, t, rfl, g, _, rfl, ?_⟩
  refine ⟨n, t, rfl, g, _, rfl, ?_⟩
  refine ⟨n, t, rfl, g, _, rfl, ?_⟩
  refine ⟨_, rfl, ?_, ?_⟩
  · refine ⟨by simp, fun d hd => ?_⟩
    simp at hd
    rcases hd with rfl | rfl
    · exact tabT_ok g
    · exact (sd_tab g).mono (by decide)
  · simp
    exact hK _ ⟨_, _, _, rfl⟩

end WH

namespace WH
open PySem PySem.Spec L2
def top (i : Nat) : Stmt := PySem.Challenge.pw_whofirst_k04_tables_written.main.body.getD i (.Pass ⟨0, 0, 0, 0⟩)
section
variable {P : Program} {w : World} {K : PySem.W.Frag} {mg : Str → Option Value} {base : Heap}
abbrev i_BadTable : Stmt := (cBody (top 2)).getD 0 (.Pass ⟨0, 0, 0, 0⟩)
theorem sci_BadTable : FnScope ["self", "at"] ["self", "at"] (defScope i_BadTable) := ⟨rfl, rfl, rfl, by decide +kernel, rfl, by decide +kernel, by decide +kernel⟩
theorem rs_BadTable {fd : FuncData} (c : XC K "BadTable" ["word", "at"]) (F : FunD K "__init__" "BadTable.__init__" (defArgs i_BadTable) (defBody i_BadTable) (defScope i_BadTable) [] [] (He.ma K (He.ga K "BadTable") "__init__") fd) (hm : mg "BadTable" = some (.ref (He.ga K "BadTable"))) : Rs P w K mg base "BadTable" 2 1 (xfV "BadTable" ["at"]) := by
  refine rs_ve (ps := ["self", "at"]) c.o c.i c.t (F.ok (k := 0) sci_BadTable (fun vs H Q E h => ?_) (fun cdv A outer s H vs Q E hr h => ⟨_, (pss_cons (ps_ost (pv 0) pe_str) (pss_one (ps_ost (pv 0) (pv 1)))), ?_⟩)) (F.bindsN (ps := ["self", "at"]) fun _ _ _ _ _ _ us hl => match us, hl with | [_, _], _ => rfl) hm
  · obtain ⟨a, ws, rfl, hl, _⟩ := h
    simp [hl]
  · obtain ⟨a, ws, rfl, hl, ha, hq⟩ := h
    match ws, hl with
    | [v1], _ =>
      refine ⟨_, rfl, a, He.ga K "BadTable", rfl, c.o, c.n _ (by simp), .inl ⟨ha, fun dx d1 d2 => ?_⟩⟩
      refine ⟨_, rfl, _, rfl, a, He.ga K "BadTable", rfl, c.o, c.n _ (by simp), .inr ⟨dx, _, upd_same, (upd_ne d2).trans upd_same, ?_, ?_⟩⟩
      · simp
      rw [upd_swap d2]
      exact hq dx d1 d2
abbrev i_BadText : Stmt := (cBody (top 3)).getD 0 (.Pass ⟨0, 0, 0, 0⟩)
theorem sci_BadText : FnScope ["self", "at"] ["self", "at"] (defScope i_BadText) := ⟨rfl, rfl, rfl, by decide +kernel, rfl, by decide +kernel, by decide +kernel⟩
theorem rs_BadText {fd : FuncData} (c : XC K "BadText" ["word", "at"]) (F : FunD K "__init__" "BadText.__init__" (defArgs i_BadText) (defBody i_BadText) (defScope i_BadText) [] [] (He.ma K (He.ga K "BadText") "__init__") fd) (hm : mg "BadText" = some (.ref (He.ga K "BadText"))) : Rs P w K mg base "BadText" 2 1 (xfV "BadText" ["at"]) := by
  refine rs_ve (ps := ["self", "at"]) c.o c.i c.t (F.ok (k := 0) sci_BadText (fun vs H Q E h => ?_) (fun cdv A outer s H vs Q E hr h => ⟨_, (pss_cons (ps_ost (pv 0) pe_str) (pss_one (ps_ost (pv 0) (pv 1)))), ?_⟩)) (F.bindsN (ps := ["self", "at"]) fun _ _ _ _ _ _ us hl => match us, hl with | [_, _], _ => rfl) hm
  · obtain ⟨a, ws, rfl, hl, _⟩ := h
    simp [hl]
  · obtain ⟨a, ws, rfl, hl, ha, hq⟩ := h
    match ws, hl with
    | [v1], _ =>
      refine ⟨_, rfl, a, He.ga K "BadText", rfl, c.o, c.n _ (by simp), .inl ⟨ha, fun dx d1 d2 => ?_⟩⟩
      refine ⟨_, rfl, _, rfl, a, He.ga K "BadText", rfl, c.o, c.n _ (by simp), .inr ⟨dx, _, upd_same, (upd_ne d2).trans upd_same, ?_, ?_⟩⟩
      · simp
      rw [upd_swap d2]
      exact hq dx d1 d2
abbrev s_is_whole : Stmt := top 8
theorem sc_is_whole : FnScope n_is_whole ["thing", "low", "high"] (defScope s_is_whole) := ⟨rfl, rfl, rfl, by decide +kernel, rfl, by decide +kernel, by decide +kernel⟩
theorem ok_is_whole  (T : Bt mg)     (F : FnP K mg "is_whole" s_is_whole) : Cl P w K mg base "is_whole" 1 c_is_whole := by
  obtain ⟨f, fd, F, gm⟩ := F
  refine ⟨["thing", "low", "high"], f, fd, gm, F.kp, F.bindsN (ps := ["thing", "low", "high"]) fun _ _ _ _ _ _ us hl => match us, hl with | [_, _, _], _ => rfl, fn_ok (db := d_is_whole) F sc_is_whole l_is_whole (fun cdv A outer s H E hr => ?_) p_is_whole⟩
  have tk := takes_of (X := cxOf (L2.CX P w) P w K mg base n_is_whole "is_whole" (defScope s_is_whole) f cdv A outer s H E) (E := E) rfl rfl rfl rfl
  exact (qss_one (qs_ret (qe_and (qe_isi (T := "int") rfl T.isinstance_ T.int_ (by decide +kernel) (qe_var 0)) (qe_and (qe_not (qe_isi (T := "bool") rfl T.isinstance_ T.bool_ (by decide +kernel) (qe_var 0))) (qe_one (qe_chain le_E le_E op_le op_le (qe_var 1) (qe_var 0) (qe_var 2)))))))
abbrev s_is_operation : Stmt := top 9
theorem sc_is_operation : FnScope n_is_operation ["rows", "many"] (defScope s_is_operation) := ⟨rfl, rfl, rfl, by decide +kernel, rfl, by decide +kernel, by decide +kernel⟩
theorem ok_is_operation  (T : Bt mg) (k_is_whole : Cl P w K mg base "is_whole" 1 c_is_whole) (c_MOST_STANDS : GI mg "MOST_STANDS" 5)   (F : FnP K mg "is_operation" s_is_operation) : Cl P w K mg base "is_operation" 2 c_is_operation := by
  obtain ⟨f, fd, F, gm⟩ := F
  refine ⟨["rows", "many"], f, fd, gm, F.kp, F.bindsN (ps := ["rows", "many"]) fun _ _ _ _ _ _ us hl => match us, hl with | [_, _], _ => rfl, fn_ok (db := d_is_operation) F sc_is_operation l_is_operation (fun cdv A outer s H E hr => ?_) p_is_operation⟩
  have tk := takes_of (X := cxOf (L2.CX P w) P w K mg base n_is_operation "is_operation" (defScope s_is_operation) f cdv A outer s H E) (E := E) rfl rfl rfl rfl
  exact (qss_cons (qs_if (qw_or (qt_not (qt_chain le_E le_E op_le op_le qe_int (qe_var 1) (qe_gi c_MOST_STANDS))) (qw_or1 (qt_ne hr.units (qe_len T.len_ (qe_var 0)) (qe_var 1)))).qt
  (qss_one (qs_ret qe_bl))
  qss_nil)
  (qss_one (qs_ret (qe_all rfl T.all_ (qo_lc (own := [("answer", 2), ("later", 3)]) rfl sc_is_operation.nd (qi_e (qe_var 0)) (blkOk_by (N := n_is_operation) (sc := defScope s_is_operation) (by decide +kernel)) (fun _ _ _ _ _ => (qg_tup rfl (qgs_cons (qg_name (i := 2) sc_is_operation.nd) (qgs_cons (qg_name (i := 3) sc_is_operation.nd) qgs_nil)))) (fun _ _ _ _ _ => qts_nil) (fun _ _ _ _ _ => (qe_and (qe_cl k_is_whole hr (by omega) takes0 rfl (qa_cons (qe_var 2) (qa_cons qe_int (qa_cons qe_int qa_nil)))) (qe_one (qe_cl k_is_whole hr (by omega) takes0 rfl (qa_cons (qe_var 3) (qa_cons qe_int (qa_cons (qe_sub (qe_var 1) qe_int) qa_nil)))))))).qc))))
abbrev s_look_table : Stmt := top 10
theorem sc_look_table : FnScope n_look_table ["table"] (defScope s_look_table) := ⟨rfl, rfl, rfl, by decide +kernel, rfl, by decide +kernel, by decide +kernel⟩
theorem ok_look_table  (T : Bt mg) (k_is_operation : Cl P w K mg base "is_operation" 2 c_is_operation) (c_MOST_OPERATIONS : GI mg "MOST_OPERATIONS" 4) (r_BadTable : Rs P w K mg base "BadTable" 2 1 (xfV "BadTable" ["at"]))  (F : FnP K mg "look_table" s_look_table) : Cl P w K mg base "look_table" 3 c_look_table := by
  obtain ⟨f, fd, F, gm⟩ := F
  refine ⟨["table"], f, fd, gm, F.kp, F.bindsN (ps := ["table"]) fun _ _ _ _ _ _ us hl => match us, hl with | [_], _ => rfl, fn_ok (db := d_look_table) F sc_look_table l_look_table (fun cdv A outer s H E hr => ?_) p_look_table⟩
  have tk := takes_of (X := cxOf (L2.CX P w) P w K mg base n_look_table "look_table" (defScope s_look_table) f cdv A outer s H E) (E := E) rfl rfl rfl rfl
  exact (qss_cons (qs_if (qt_eq hr.units (qe_len T.len_ (qe_var 0)) qe_int)
  (qss_one (qs_raise r_BadTable hr (by omega) tk rfl (xf_ok "BadTable" ["at"] 1) (by decide) (qa_cons qe_int qa_nil)))
  qss_nil)
  (qss_cons (qs_set (i := 1) sc_look_table.nd (qe_len T.len_ (qe_ix (qc_var 0) qe_int)))
  (qss_one (qs_for (L2.passes_of rfl) rfl (qi_enum T.enumerate_ (qe_var 0)) (qg_tup rfl (qgs_cons (qg_name (i := 2) sc_look_table.nd) (qgs_cons (qg_name (i := 3) sc_look_table.nd) qgs_nil)))
  (qss_one (qs_if (qw_or (qt_ge (qe_var 2) (qe_gi c_MOST_OPERATIONS)) (qw_or1 (qt_not (qt_val (qe_cl k_is_operation hr (by omega) tk rfl (qa_cons (qe_var 3) (qa_cons (qe_var 1) qa_nil))))))).qt
  (qss_one (qs_raise r_BadTable hr (by omega) tk rfl (xf_ok "BadTable" ["at"] 1) (by decide) (qa_cons (qe_var 2) qa_nil)))
  qss_nil))))))
abbrev s_table_text : Stmt := top 11
theorem sc_table_text : FnScope n_table_text ["table"] (defScope s_table_text) := ⟨rfl, rfl, rfl, by decide +kernel, rfl, by decide +kernel, by decide +kernel⟩
theorem ok_table_text  (T : Bt mg) (k_look_table : Cl P w K mg base "look_table" 3 c_look_table)    (F : FnP K mg "table_text" s_table_text) : Cl P w K mg base "table_text" 4 c_table_text := by
  obtain ⟨f, fd, F, gm⟩ := F
  refine ⟨["table"], f, fd, gm, F.kp, F.bindsN (ps := ["table"]) fun _ _ _ _ _ _ us hl => match us, hl with | [_], _ => rfl, fn_ok (db := d_table_text) F sc_table_text l_table_text (fun cdv A outer s H E hr => ?_) p_table_text⟩
  have tk := takes_of (X := cxOf (L2.CX P w) P w K mg base n_table_text "table_text" (defScope s_table_text) f cdv A outer s H E) (E := E) rfl rfl rfl rfl
  exact (qss_cons (qs_expr (qe_cl k_look_table hr (by omega) tk rfl (qa_cons (qe_var 0) qa_nil)))
  (qss_one (qs_ret (qe_join qe_str (qo_lc (own := [("rows", 1)]) rfl sc_table_text.nd (qi_e (qe_var 0)) (blkOk_by (N := n_table_text) (sc := defScope s_table_text) (by decide +kernel)) (fun _ _ _ _ _ => (qg_name (i := 1) sc_table_text.nd)) (fun _ _ _ _ _ => qts_nil) (fun _ _ _ _ _ => (qe_join qe_str (qo_lc (own := [("answer", 2), ("later", 3)]) rfl sc_table_text.nd (qi_e (qe_var 1)) (blkOk_by (N := n_table_text) (sc := relS _ (defScope s_table_text)) (by decide +kernel)) (fun _ _ _ _ _ => (qg_tup rfl (qgs_cons (qg_name (i := 2) sc_table_text.nd) (qgs_cons (qg_name (i := 3) sc_table_text.nd) qgs_nil)))) (fun _ _ _ _ _ => qts_nil) (fun _ _ _ _ _ => (qe_joined (qj_val (qe_var 2) (qj_lit (qj_val (qe_var 3) qj_nil)))))).qc))).qc))))
abbrev s_row_in : Stmt := top 12
theorem sc_row_in : FnScope n_row_in ["word"] (defScope s_row_in) := ⟨rfl, rfl, rfl, by decide +kernel, rfl, by decide +kernel, by decide +kernel⟩
theorem ok_row_in  (T : Bt mg)  (c_FIGURES : GS mg "FIGURES" "0123456789")   (F : FnP K mg "row_in" s_row_in) : Cl P w K mg base "row_in" 1 c_row_in := by
  obtain ⟨f, fd, F, gm⟩ := F
  refine ⟨["word"], f, fd, gm, F.kp, F.bindsN (ps := ["word"]) fun _ _ _ _ _ _ us hl => match us, hl with | [_], _ => rfl, fn_ok (db := d_row_in) F sc_row_in l_row_in (fun cdv A outer s H E hr => ?_) p_row_in⟩
  have tk := takes_of (X := cxOf (L2.CX P w) P w K mg base n_row_in "row_in" (defScope s_row_in) f cdv A outer s H E) (E := E) rfl rfl rfl rfl
  exact (qss_cons (qs_asg (qe_partition (qe_var 0) qe_str) (qg_tup rfl (qgs_cons (qg_name (i := 1) sc_row_in.nd) (qgs_cons (qg_name (i := 2) sc_row_in.nd) (qgs_cons (qg_name (i := 3) sc_row_in.nd) qgs_nil)))))
  (qss_cons (qs_if (qw_or (qt_ne hr.units (qe_len T.len_ (qe_var 1)) qe_int) (qw_or (qt_ne hr.units (qe_len T.len_ (qe_var 3)) qe_int) (qw_or (qt_notInS (qe_var 1) (qe_gs c_FIGURES)) (qw_or1 (qt_notInS (qe_var 3) (qe_gs c_FIGURES)))))).qt
  (qss_one (qs_ret qe_non))
  qss_nil)
  (qss_one (qs_ret (qe_tup (qa_cons (qe_intS T.int_ (qe_var 1)) (qa_cons (qe_intS T.int_ (qe_var 3)) qa_nil)))))))
abbrev s_table_in : Stmt := top 13
theorem sc_table_in : FnScope n_table_in ["text"] (defScope s_table_in) := ⟨rfl, rfl, rfl, by decide +kernel, rfl, by decide +kernel, by decide +kernel⟩
theorem ok_table_in {C_BadTable : Addr} (T : Bt mg) (k_row_in : Cl P w K mg base "row_in" 1 c_row_in) (k_look_table : Cl P w K mg base "look_table" 3 c_look_table)   (t_BadTable : ∀ n ∈ xnames, ∀ cls, mg n = some cls → PySem.W.exmOne K cls (.ref C_BadTable) = some (subN "BadTable" n)) (m_BadTable : mg "BadTable" = some (.ref C_BadTable)) (F : FnP K mg "table_in" s_table_in) : Cl P w K mg base "table_in" 4 c_table_in := by
  obtain ⟨f, fd, F, gm⟩ := F
  refine ⟨["text"], f, fd, gm, F.kp, F.bindsN (ps := ["text"]) fun _ _ _ _ _ _ us hl => match us, hl with | [_], _ => rfl, fn_ok (db := d_table_in) F sc_table_in l_table_in (fun cdv A outer s H E hr => ?_) p_table_in⟩
  have tk := takes_of (X := cxOf (L2.CX P w) P w K mg base n_table_in "table_in" (defScope s_table_in) f cdv A outer s H E) (E := E) rfl rfl rfl rfl
  exact (qss_cons (qs_set (i := 1) sc_table_in.nd (qe_tuple T.tuple_ (qo_lc (own := [("part", 2)]) rfl sc_table_in.nd (qi_e (qo_split (qe_var 0) qe_str).qe) (blkOk_by (N := n_table_in) (sc := defScope s_table_in) (by decide +kernel)) (fun _ _ _ _ _ => (qg_name (i := 2) sc_table_in.nd)) (fun _ _ _ _ _ => qts_nil) (fun _ _ _ _ _ => (qe_tuple T.tuple_ (qo_lc (own := [("word", 3)]) rfl sc_table_in.nd (qi_e (qo_split (qe_var 2) qe_str).qe) (blkOk_by (N := n_table_in) (sc := relS _ (defScope s_table_in)) (by decide +kernel)) (fun _ _ _ _ _ => (qg_name (i := 3) sc_table_in.nd)) (fun _ _ _ _ _ => qts_nil) (fun _ _ _ _ _ => (qe_cl k_row_in hr (by omega) takes0 rfl (qa_cons (qe_var 3) qa_nil)))).qc))).qc))
  (qss_cons (qs_if (qt_val (qe_any rfl T.any_ (qo_lc (own := [("rows", 4)]) rfl sc_table_in.nd (qi_e (qe_var 1)) (blkOk_by (N := n_table_in) (sc := defScope s_table_in) (by decide +kernel)) (fun _ _ _ _ _ => (qg_name (i := 4) sc_table_in.nd)) (fun _ _ _ _ _ => qts_nil) (fun _ _ _ _ _ => (qe_inA (hu65 hr) qe_non (qe_var 4)))).qc))
  (qss_one (qs_ret qe_non))
  qss_nil)
  (qss_cons (qs_try1 (c := .ref _) tk rfl t_BadTable m_BadTable (fun V pn xe tk pw => (qss_one (qs_expr (qe_cl k_look_table hr (by omega) tk rfl (qa_cons (qe_var 1) qa_nil))))) (fun _ _ _ => (qss_one (qs_ret qe_non))))
  (qss_one (qs_ret (qe_var 1))))))
abbrev s_table_of : Stmt := top 14
theorem sc_table_of : FnScope n_table_of ["text"] (defScope s_table_of) := ⟨rfl, rfl, rfl, by decide +kernel, rfl, by decide +kernel, by decide +kernel⟩
theorem ok_table_of  (T : Bt mg) (k_table_in : Cl P w K mg base "table_in" 4 c_table_in)  (r_BadText : Rs P w K mg base "BadText" 2 1 (xfV "BadText" ["at"]))  (F : FnP K mg "table_of" s_table_of) : Cl P w K mg base "table_of" 5 c_table_of := by
  obtain ⟨f, fd, F, gm⟩ := F
  refine ⟨["text"], f, fd, gm, F.kp, F.bindsN (ps := ["text"]) fun _ _ _ _ _ _ us hl => match us, hl with | [_], _ => rfl, fn_ok (db := d_table_of) F sc_table_of l_table_of (fun cdv A outer s H E hr => ?_) p_table_of⟩
  have tk := takes_of (X := cxOf (L2.CX P w) P w K mg base n_table_of "table_of" (defScope s_table_of) f cdv A outer s H E) (E := E) rfl rfl rfl rfl
  exact (qss_cons (qs_set (i := 1) sc_table_of.nd (qe_cl k_table_in hr (by omega) tk rfl (qa_cons (qe_var 0) qa_nil)))
  (qss_cons (qs_if (qt_is (qe_var 1) qe_non)
  (qss_one (qs_raise r_BadText hr (by omega) tk rfl (xf_ok "BadText" ["at"] 1) (by decide) (qa_cons qe_int qa_nil)))
  qss_nil)
  (qss_one (qs_ret (qe_var 1)))))
abbrev s__law_numbers : Stmt := top 16
theorem sc__law_numbers : FnScope n__law_numbers ["_law_script", "_law_many"] (defScope s__law_numbers) := ⟨rfl, rfl, rfl, by decide +kernel, rfl, by decide +kernel, by decide +kernel⟩
theorem ok__law_numbers  (T : Bt mg)     (F : FnP K mg "_law_numbers" s__law_numbers) : Cl P w K mg base "_law_numbers" 1 c__law_numbers := by
  obtain ⟨f, fd, F, gm⟩ := F
  refine ⟨["_law_script", "_law_many"], f, fd, gm, F.kp, F.bindsN (ps := ["_law_script", "_law_many"]) fun _ _ _ _ _ _ us hl => match us, hl with | [_, _], _ => rfl, fn_ok (db := d__law_numbers) F sc__law_numbers l__law_numbers (fun cdv A outer s H E hr => ?_) p__law_numbers⟩
  have tk := takes_of (X := cxOf (L2.CX P w) P w K mg base n__law_numbers "_law_numbers" (defScope s__law_numbers) f cdv A outer s H E) (E := E) rfl rfl rfl rfl
  exact (qss_cons (qs_setO (i := 2) sc__law_numbers.nd (qo_lst qa_nil))
  (qss_cons (qs_set (i := 3) sc__law_numbers.nd qe_int)
  (qss_cons (qs_for (L2.passes_of rfl) rfl (qi_e (qe_scr 0)) (qg_name (i := 4) sc__law_numbers.nd)
  (qss_cons (qs_set (i := 3) sc__law_numbers.nd (qe_mod (qe_add (qe_add (qe_mul (qe_var 3) qe_int) (qe_mod (qe_var 4) qe_int)) qe_int) qe_int))
  (qss_cons (qs_set (i := 5) sc__law_numbers.nd (qe_sub (qe_var 4) (qe_pow qe_int qe_int)))
  (qss_cons (qs_if (qt_lt (qe_var 5) qe_int)
  (qss_one (qs_app (i := 2) (qe_mod (qe_var 4) qe_int) (hp := pe_bm PySem.F.plainAttrs_list PySem.F.slot_list_append PySem.F.type_list_append mt_append (pv 2) (pa_cons (qe_mod (qe_var 4) qe_int) pa_nil))))
  qss_nil)
  (qss_one (qs_for (L2.passes_of rfl) rfl (qi_range1 T.range_ qe_int) (qg_name (i := 6) sc__law_numbers.nd)
  (qss_one (qs_if (qt_gt (qe_var 5) qe_int)
  (qss_cons (qs_app (i := 2) (qe_mod (qe_var 5) qe_int) (hp := pe_bm PySem.F.plainAttrs_list PySem.F.slot_list_append PySem.F.type_list_append mt_append (pv 2) (pa_cons (qe_mod (qe_var 5) qe_int) pa_nil)))
  (qss_one (qs_set (i := 5) sc__law_numbers.nd (qe_fdiv (qe_var 5) qe_int))))
  qss_nil))))))))
  (qss_cons (qs_while (L2.passes_of rfl) (qt_lt (qe_lenC T.len_ (qc_var 2)) (qe_var 1))
  (qss_cons (qs_set (i := 3) sc__law_numbers.nd (qe_mod (qe_add (qe_add (qe_add (qe_mul (qe_var 3) (qe_var 3)) (qe_mul qe_int (qe_var 3))) (qe_mul qe_int (qe_lenC T.len_ (qc_var 2)))) qe_int) qe_int))
  (qss_one (qs_app (i := 2) (qe_mod (qe_fdiv (qe_var 3) qe_int) qe_int) (hp := pe_bm PySem.F.plainAttrs_list PySem.F.slot_list_append PySem.F.type_list_append mt_append (pv 2) (pa_cons (qe_mod (qe_fdiv (qe_var 3) qe_int) qe_int) pa_nil))))))
  (qss_one (qs_ret (qe_slice (qc_var 2) qp_none (qp_some (qe_var 1)))))))))
abbrev s__law_known : Stmt := top 17
theorem sc__law_known : FnScope n__law_known ["_law_d"] (defScope s__law_known) := ⟨rfl, rfl, rfl, by decide +kernel, rfl, by decide +kernel, by decide +kernel⟩
theorem ok__law_known  (T : Bt mg)     (F : FnP K mg "_law_known" s__law_known) : Cl P w K mg base "_law_known" 1 c__law_known := by
  obtain ⟨f, fd, F, gm⟩ := F
  refine ⟨["_law_d"], f, fd, gm, F.kp, F.bindsN (ps := ["_law_d"]) fun _ _ _ _ _ _ us hl => match us, hl with | [_], _ => rfl, fn_ok (db := d__law_known) F sc__law_known l__law_known (fun cdv A outer s H E hr => ?_) p__law_known⟩
  have tk := takes_of (X := cxOf (L2.CX P w) P w K mg base n__law_known "_law_known" (defScope s__law_known) f cdv A outer s H E) (E := E) rfl rfl rfl rfl
  exact (qss_cons (qs_set (i := 1) sc__law_known.nd (qo_lst (qa_cons (qe_tup (qa_cons (qe_tup (qa_cons (qe_tup (qa_cons qe_int (qa_cons qe_int qa_nil))) (qa_cons (qe_tup (qa_cons qe_int (qa_cons qe_int qa_nil))) qa_nil))) qa_nil)) (qa_cons (qe_tup (qa_cons (qe_tup (qa_cons (qe_tup (qa_cons qe_int (qa_cons qe_int qa_nil))) (qa_cons (qe_tup (qa_cons qe_int (qa_cons qe_int qa_nil))) (qa_cons (qe_tup (qa_cons qe_int (qa_cons qe_int qa_nil))) qa_nil)))) (qa_cons (qe_tup (qa_cons (qe_tup (qa_cons qe_int (qa_cons qe_int qa_nil))) (qa_cons (qe_tup (qa_cons qe_int (qa_cons qe_int qa_nil))) (qa_cons (qe_tup (qa_cons qe_int (qa_cons qe_int qa_nil))) qa_nil)))) qa_nil))) qa_nil))).qe)
  (qss_cons (qs_set (i := 1) sc__law_known.nd (qe_add (qe_var 1) (qo_lst (qa_cons (qe_tup (qa_cons (qe_tup (qa_cons (qe_tup (qa_cons qe_int (qa_cons qe_int qa_nil))) (qa_cons (qe_tup (qa_cons qe_int (qa_cons qe_int qa_nil))) (qa_cons (qe_tup (qa_cons qe_int (qa_cons qe_int qa_nil))) qa_nil)))) (qa_cons (qe_tup (qa_cons (qe_tup (qa_cons qe_int (qa_cons qe_int qa_nil))) (qa_cons (qe_tup (qa_cons qe_int (qa_cons qe_int qa_nil))) (qa_cons (qe_tup (qa_cons qe_int (qa_cons qe_int qa_nil))) qa_nil)))) qa_nil))) qa_nil)).qe))
  (qss_cons (qs_set (i := 1) sc__law_known.nd (qe_add (qe_var 1) (qo_lst (qa_cons (qe_tup (qa_cons (qe_tup (qa_cons (qe_tup (qa_cons qe_int (qa_cons qe_int qa_nil))) (qa_cons (qe_tup (qa_cons qe_int (qa_cons qe_int qa_nil))) (qa_cons (qe_tup (qa_cons qe_int (qa_cons qe_int qa_nil))) qa_nil)))) (qa_cons (qe_tup (qa_cons (qe_tup (qa_cons qe_int (qa_cons qe_int qa_nil))) (qa_cons (qe_tup (qa_cons qe_int (qa_cons qe_int qa_nil))) (qa_cons (qe_tup (qa_cons qe_int (qa_cons qe_int qa_nil))) qa_nil)))) qa_nil))) qa_nil)).qe))
  (qss_cons (qs_set (i := 1) sc__law_known.nd (qe_add (qe_var 1) (qo_lst (qa_cons (qe_tup (qa_cons (qe_tup (qa_cons (qe_tup (qa_cons qe_int (qa_cons qe_int qa_nil))) (qa_cons (qe_tup (qa_cons qe_int (qa_cons qe_int qa_nil))) (qa_cons (qe_tup (qa_cons qe_int (qa_cons qe_int qa_nil))) qa_nil)))) qa_nil)) (qa_cons (qe_tup (qa_cons (qe_tup (qa_cons (qe_tup (qa_cons qe_int (qa_cons qe_int qa_nil))) (qa_cons (qe_tup (qa_cons qe_int (qa_cons qe_int qa_nil))) qa_nil))) qa_nil)) qa_nil))).qe))
  (qss_cons (qs_set (i := 1) sc__law_known.nd (qe_add (qe_var 1) (qo_lst (qa_cons (qe_tup (qa_cons (qe_tup (qa_cons (qe_tup (qa_cons qe_int (qa_cons qe_int qa_nil))) (qa_cons (qe_tup (qa_cons qe_int (qa_cons qe_int qa_nil))) (qa_cons (qe_tup (qa_cons qe_int (qa_cons qe_int qa_nil))) qa_nil)))) (qa_cons (qe_tup (qa_cons (qe_tup (qa_cons qe_int (qa_cons qe_int qa_nil))) (qa_cons (qe_tup (qa_cons qe_int (qa_cons qe_int qa_nil))) (qa_cons (qe_tup (qa_cons qe_int (qa_cons qe_int qa_nil))) qa_nil)))) qa_nil))) qa_nil)).qe))
  (qss_cons (qs_set (i := 1) sc__law_known.nd (qe_add (qe_var 1) (qo_lst (qa_cons (qe_tup (qa_cons (qe_tup (qa_cons (qe_tup (qa_cons qe_int (qa_cons qe_int qa_nil))) (qa_cons (qe_tup (qa_cons qe_int (qa_cons qe_int qa_nil))) (qa_cons (qe_tup (qa_cons qe_int (qa_cons qe_int qa_nil))) (qa_cons (qe_tup (qa_cons qe_int (qa_cons qe_int qa_nil))) qa_nil))))) (qa_cons (qe_tup (qa_cons (qe_tup (qa_cons qe_int (qa_cons qe_int qa_nil))) (qa_cons (qe_tup (qa_cons qe_int (qa_cons qe_int qa_nil))) (qa_cons (qe_tup (qa_cons qe_int (qa_cons qe_int qa_nil))) (qa_cons (qe_tup (qa_cons qe_int (qa_cons qe_int qa_nil))) qa_nil))))) qa_nil))) qa_nil)).qe))
  (qss_one (qs_ret (qe_ix (qc_var 1) (qe_mod (qe_ix (qc_var 0) qe_int) qe_int))))))))))
abbrev s__law_rows : Stmt := top 18
theorem sc__law_rows : FnScope n__law_rows ["_law_d", "_law_many"] (defScope s__law_rows) := ⟨rfl, rfl, rfl, by decide +kernel, rfl, by decide +kernel, by decide +kernel⟩
theorem ok__law_rows  (T : Bt mg)     (F : FnP K mg "_law_rows" s__law_rows) : Cl P w K mg base "_law_rows" 1 c__law_rows := by
  obtain ⟨f, fd, F, gm⟩ := F
  refine ⟨["_law_d", "_law_many"], f, fd, gm, F.kp, F.bindsN (ps := ["_law_d", "_law_many"]) fun _ _ _ _ _ _ us hl => match us, hl with | [_, _], _ => rfl, fn_ok (db := d__law_rows) F sc__law_rows l__law_rows (fun cdv A outer s H E hr => ?_) p__law_rows⟩
  have tk := takes_of (X := cxOf (L2.CX P w) P w K mg base n__law_rows "_law_rows" (defScope s__law_rows) f cdv A outer s H E) (E := E) rfl rfl rfl rfl
  exact (qss_cons (qs_set (i := 2) sc__law_rows.nd (qe_ix (qo_lst (qa_cons qe_int (qa_cons qe_int (qa_cons qe_int qa_nil)))).qc (qe_mod (qe_ix (qc_var 0) qe_int) qe_int)))
  (qss_one (qs_ret (qe_tuple T.tuple_ (qo_lc (own := [("_law_k", 3)]) rfl sc__law_rows.nd (qi_range1 T.range_ (qe_var 1)) (blkOk_by (N := n__law_rows) (sc := defScope s__law_rows) (by decide +kernel)) (fun _ _ _ _ _ => (qg_name (i := 3) sc__law_rows.nd)) (fun _ _ _ _ _ => qts_nil) (fun _ _ _ _ _ => (qe_tup (qa_cons (qe_mod (qe_ix (qc_var 0) (qe_add qe_int (qe_var 3))) (qe_var 2)) (qa_cons (qe_mod (qe_fdiv (qe_ix (qc_var 0) (qe_add qe_int (qe_var 3))) qe_int) (qe_var 1)) qa_nil))))).qc))))
abbrev s__law_table : Stmt := top 19
theorem sc__law_table : FnScope n__law_table ["_law_d", "_law_most_stands", "_law_most_operations"] (defScope s__law_table) := ⟨rfl, rfl, rfl, by decide +kernel, rfl, by decide +kernel, by decide +kernel⟩
theorem ok__law_table  (T : Bt mg) (k__law_known : Cl P w K mg base "_law_known" 1 c__law_known) (k__law_rows : Cl P w K mg base "_law_rows" 1 c__law_rows)    (F : FnP K mg "_law_table" s__law_table) : Cl P w K mg base "_law_table" 2 c__law_table := by
  obtain ⟨f, fd, F, gm⟩ := F
  refine ⟨["_law_d", "_law_most_stands", "_law_most_operations"], f, fd, gm, F.kp, F.bindsN (ps := ["_law_d", "_law_most_stands", "_law_most_operations"]) fun _ _ _ _ _ _ us hl => match us, hl with | [_, _, _], _ => rfl, fn_ok (db := d__law_table) F sc__law_table l__law_table (fun cdv A outer s H E hr => ?_) p__law_table⟩
  have tk := takes_of (X := cxOf (L2.CX P w) P w K mg base n__law_table "_law_table" (defScope s__law_table) f cdv A outer s H E) (E := E) rfl rfl rfl rfl
  exact (qss_cons (qs_if (qt_lt (qe_mod (qe_ix (qc_var 0) qe_int) qe_int) qe_int)
  (qss_one (qs_ret (qe_cl k__law_known hr (by omega) tk rfl (qa_cons (qe_slice (qc_var 0) (qp_some qe_int) qp_none) qa_nil))))
  qss_nil)
  (qss_cons (qs_set (i := 3) sc__law_table.nd (qe_add qe_int (qe_mod (qe_ix (qc_var 0) qe_int) (qe_var 1))))
  (qss_one (qs_ret (qe_tuple T.tuple_ (qo_lc (own := [("_law_k", 4)]) rfl sc__law_table.nd (qi_range1 T.range_ (qe_add qe_int (qe_mod (qe_ix (qc_var 0) qe_int) (qe_var 2)))) (blkOk_by (N := n__law_table) (sc := defScope s__law_table) (by decide +kernel)) (fun _ _ _ _ _ => (qg_name (i := 4) sc__law_table.nd)) (fun _ _ _ _ _ => qts_nil) (fun _ _ _ _ _ => (qe_cl k__law_rows hr (by omega) takes0 rfl (qa_cons (qe_slice (qc_var 0) (qp_some (qe_add qe_int (qe_mul qe_int (qe_var 4)))) qp_none) (qa_cons (qe_var 3) qa_nil))))).qc)))))
abbrev s__law_written : Stmt := top 20
theorem sc__law_written : FnScope n__law_written ["_law_table_here"] (defScope s__law_written) := ⟨rfl, rfl, rfl, by decide +kernel, rfl, by decide +kernel, by decide +kernel⟩
theorem ok__law_written  (T : Bt mg)     (F : FnP K mg "_law_written" s__law_written) : Cl P w K mg base "_law_written" 1 c__law_written := by
  obtain ⟨f, fd, F, gm⟩ := F
  refine ⟨["_law_table_here"], f, fd, gm, F.kp, F.bindsN (ps := ["_law_table_here"]) fun _ _ _ _ _ _ us hl => match us, hl with | [_], _ => rfl, fn_ok (db := d__law_written) F sc__law_written l__law_written (fun cdv A outer s H E hr => ?_) p__law_written⟩
  have tk := takes_of (X := cxOf (L2.CX P w) P w K mg base n__law_written "_law_written" (defScope s__law_written) f cdv A outer s H E) (E := E) rfl rfl rfl rfl
  exact (qss_one (qs_ret (qe_join qe_str (qo_lc (own := [("_law_rows_here", 1)]) rfl sc__law_written.nd (qi_e (qe_var 0)) (blkOk_by (N := n__law_written) (sc := defScope s__law_written) (by decide +kernel)) (fun _ _ _ _ _ => (qg_name (i := 1) sc__law_written.nd)) (fun _ _ _ _ _ => qts_nil) (fun _ _ _ _ _ => (qe_join qe_str (qo_lc (own := [("_law_answer", 2), ("_law_later", 3)]) rfl sc__law_written.nd (qi_e (qe_var 1)) (blkOk_by (N := n__law_written) (sc := relS _ (defScope s__law_written)) (by decide +kernel)) (fun _ _ _ _ _ => (qg_tup rfl (qgs_cons (qg_name (i := 2) sc__law_written.nd) (qgs_cons (qg_name (i := 3) sc__law_written.nd) qgs_nil)))) (fun _ _ _ _ _ => qts_nil) (fun _ _ _ _ _ => (qe_add (qe_add (qe_str1 T.str_ (qe_var 2)) qe_str) (qe_str1 T.str_ (qe_var 3))))).qc))).qc)))
abbrev s__law_same : Stmt := top 21
theorem sc__law_same : FnScope n__law_same ["_law_found", "_law_due"] (defScope s__law_same) := ⟨rfl, rfl, rfl, by decide +kernel, rfl, by decide +kernel, by decide +kernel⟩
theorem oka__law_same  (T : Bt mg)     (F : FnP K mg "_law_same" s__law_same) (n : Nat) : Cl P w K mg base "_law_same" (0 + n) (cc__law_same n) := by
  induction n with
  | zero => exact cl_false ["_law_found", "_law_due"] F (fun _ _ _ _ _ _ us hl => match us, hl with | [_, _], _ => rfl) fun _ _ _ h => h
  | succ n k__law_same =>
  obtain ⟨f, fd, F, gm⟩ := F
  refine ⟨["_law_found", "_law_due"], f, fd, gm, F.kp, F.bindsN (ps := ["_law_found", "_law_due"]) fun _ _ _ _ _ _ us hl => match us, hl with | [_, _], _ => rfl, fn_ok (db := d__law_same (cc__law_same n)) (k := 0 + n) F sc__law_same (l__law_same (n + 1)) (fun cdv A outer s H E hr => ?_) (p__law_same n)⟩
  have tk := takes_of (X := cxOf (L2.CX P w) P w K mg base n__law_same "_law_same" (defScope s__law_same) f cdv A outer s H E) (E := E) rfl rfl rfl rfl
  exact (qss_cons (qs_if (qt_is (qe_var 1) qe_non)
  (qss_one (qs_ret (qe_is (qe_var 0) qe_non)))
  qss_nil)
  (qss_cons (qs_if (qt_val (qe_isi2 (T := "list") (U := "tuple") rfl rfl T.isinstance_ T.list_ (by decide +kernel) T.tuple_ (by decide +kernel) (qe_var 1)))
  (qss_cons (qs_if (qw_or (qt_ne hr.units (qe_isi (T := "list") rfl T.isinstance_ T.list_ (by decide +kernel) (qe_var 0)) (qe_isi (T := "list") rfl T.isinstance_ T.list_ (by decide +kernel) (qe_var 1))) (qw_or1 (qt_ne hr.units (qe_isi (T := "tuple") rfl T.isinstance_ T.tuple_ (by decide +kernel) (qe_var 0)) (qe_isi (T := "tuple") rfl T.isinstance_ T.tuple_ (by decide +kernel) (qe_var 1))))).qt
  (qss_one (qs_ret qe_bl))
  qss_nil)
  (qss_one (qs_ret (qe_and (qe_eq hr.units (qe_len T.len_ (qe_var 0)) (qe_len T.len_ (qe_var 1))) (qe_one (qe_all rfl T.all_ (qo_lc (own := [("_law_k", 2)]) rfl sc__law_same.nd (qi_range1 T.range_ (qe_len T.len_ (qe_var 1))) (blkOk_by (N := n__law_same) (sc := defScope s__law_same) (by decide +kernel)) (fun _ _ _ _ _ => (qg_name (i := 2) sc__law_same.nd)) (fun _ _ _ _ _ => qts_nil) (fun _ _ _ _ _ => (qe_cl k__law_same hr (by omega) takes0 rfl (qa_cons (qe_ix (qc_var 0) (qe_var 2)) (qa_cons (qe_ix (qc_var 1) (qe_var 2)) qa_nil))))).qc))))))
  qss_nil)
  (qss_cons (qs_if (qw_or (qt_ne hr.units (qe_isi (T := "bool") rfl T.isinstance_ T.bool_ (by decide +kernel) (qe_var 0)) (qe_isi (T := "bool") rfl T.isinstance_ T.bool_ (by decide +kernel) (qe_var 1))) (qw_or1 (qt_ne hr.units (qe_isi (T := "str") rfl T.isinstance_ T.str_ (by decide +kernel) (qe_var 0)) (qe_isi (T := "str") rfl T.isinstance_ T.str_ (by decide +kernel) (qe_var 1))))).qt
  (qss_one (qs_ret qe_bl))
  qss_nil)
  (qss_one (qs_ret (qe_and (qe_eq hr.units (qe_isi (T := "int") rfl T.isinstance_ T.int_ (by decide +kernel) (qe_var 0)) (qe_isi (T := "int") rfl T.isinstance_ T.int_ (by decide +kernel) (qe_var 1))) (qe_one (qe_eq hr.units (qe_var 0) (qe_var 1)))))))))
theorem ok__law_same  (T : Bt mg)     (F : FnP K mg "_law_same" s__law_same) : Cl P w K mg base "_law_same" 9 c__law_same := oka__law_same T F 9
abbrev s_law : Stmt := top 22
theorem sc_law : FnScope n_law ["_law_script"] (defScope s_law) := ⟨rfl, rfl, rfl, by decide +kernel, rfl, by decide +kernel, by decide +kernel⟩
theorem fin_law  (T : Bt mg) (k__law_numbers : Cl P w K mg base "_law_numbers" 1 c__law_numbers) (k__law_table : Cl P w K mg base "_law_table" 2 c__law_table) (k__law_written : Cl P w K mg base "_law_written" 1 c__law_written) (k__law_same : Cl P w K mg base "_law_same" 9 c__law_same) (k_table_of : Cl P w K mg base "table_of" 5 c_table_of) (k_table_text : Cl P w K mg base "table_text" 4 c_table_text)     {f : Addr} {fd : FuncData} (F : FunD K "law" "law" (defArgs s_law) (defBody s_law) (defScope s_law) [] [] f fd) : FnOk P w K mg base (L2.CX P w) 10 f fd ["_law_script"] (PSp K mg c_law) := by
  refine fn_ok (db := d_law) F sc_law l_law (fun cdv A outer s H E hr => ?_) p_law
  have tk := takes_of (X := cxOf (L2.CX P w) P w K mg base n_law "law" (defScope s_law) f cdv A outer s H E) (E := E) rfl rfl rfl rfl
  exact (qss_cons (qs_set (i := 1) sc_law.nd (qe_cl k__law_numbers hr (by omega) tk rfl (qa_cons (qe_var 0) (qa_cons qe_int qa_nil))))
  (qss_cons (qs_for (L2.passes_of rfl) rfl (qi_range1 T.range_ qe_int) (qg_name (i := 2) sc_law.nd)
  (qss_cons (qs_set (i := 3) sc_law.nd (qe_cl k__law_table hr (by omega) tk rfl (qa_cons (qe_slice (qc_var 1) (qp_some (qe_mul qe_int (qe_var 2))) (qp_some (qe_add (qe_mul qe_int (qe_var 2)) qe_int))) (qa_cons qe_int (qa_cons qe_int qa_nil)))))
  (qss_cons (qs_set (i := 4) sc_law.nd (qe_cl k__law_written hr (by omega) tk rfl (qa_cons (qe_var 3) qa_nil)))
  (qss_one (qs_if (qt_not (qt_val (qe_cl k__law_same hr (by omega) tk rfl (qa_cons (qo_lst (qa_cons (qe_cl k_table_text hr (by omega) tk rfl (qa_cons (qe_var 3) qa_nil)) (qa_cons (qe_cl k_table_of hr (by omega) tk rfl (qa_cons (qe_var 4) qa_nil)) qa_nil))).qe (qa_cons (qo_lst (qa_cons (qe_var 4) (qa_cons (qe_var 3) qa_nil))).qe qa_nil)))))
  (qss_one (qs_ret qe_bl))
  qss_nil)))))
  (qss_one (qs_ret qe_bl))))
end
section
def dd0 : He.DefD := ⟨("is_whole", none), "is_whole", "is_whole", defArgs s_is_whole, defBody s_is_whole, defScope s_is_whole, [], []⟩
def dd1 : He.DefD := ⟨("is_operation", none), "is_operation", "is_operation", defArgs s_is_operation, defBody s_is_operation, defScope s_is_operation, [], []⟩
def dd2 : He.DefD := ⟨("look_table", none), "look_table", "look_table", defArgs s_look_table, defBody s_look_table, defScope s_look_table, [], []⟩
def dd3 : He.DefD := ⟨("table_text", none), "table_text", "table_text", defArgs s_table_text, defBody s_table_text, defScope s_table_text, [], []⟩
def dd4 : He.DefD := ⟨("row_in", none), "row_in", "row_in", defArgs s_row_in, defBody s_row_in, defScope s_row_in, [], []⟩
def dd5 : He.DefD := ⟨("table_in", none), "table_in", "table_in", defArgs s_table_in, defBody s_table_in, defScope s_table_in, [], []⟩
def dd6 : He.DefD := ⟨("table_of", none), "table_of", "table_of", defArgs s_table_of, defBody s_table_of, defScope s_table_of, [], []⟩
def dd7 : He.DefD := ⟨("_law_numbers", none), "_law_numbers", "_law_numbers", defArgs s__law_numbers, defBody s__law_numbers, defScope s__law_numbers, [], []⟩
def dd8 : He.DefD := ⟨("_law_known", none), "_law_known", "_law_known", defArgs s__law_known, defBody s__law_known, defScope s__law_known, [], []⟩
def dd9 : He.DefD := ⟨("_law_rows", none), "_law_rows", "_law_rows", defArgs s__law_rows, defBody s__law_rows, defScope s__law_rows, [], []⟩
def dd10 : He.DefD := ⟨("_law_table", none), "_law_table", "_law_table", defArgs s__law_table, defBody s__law_table, defScope s__law_table, [], []⟩
def dd11 : He.DefD := ⟨("_law_written", none), "_law_written", "_law_written", defArgs s__law_written, defBody s__law_written, defScope s__law_written, [], []⟩
def dd12 : He.DefD := ⟨("_law_same", none), "_law_same", "_law_same", defArgs s__law_same, defBody s__law_same, defScope s__law_same, [], []⟩
def dd13 : He.DefD := ⟨("law", none), "law", "law", defArgs s_law, defBody s_law, defScope s_law, [], []⟩
def dd14 : He.DefD := ⟨("BadTable", some "__init__"), "__init__", "BadTable.__init__", defArgs i_BadTable, defBody i_BadTable, defScope i_BadTable, [], []⟩
def dd15 : He.DefD := ⟨("BadText", some "__init__"), "__init__", "BadText.__init__", defArgs i_BadText, defBody i_BadText, defScope i_BadText, [], []⟩
def fn : List He.DefD := [dd0, dd1, dd2, dd3, dd4, dd5, dd6, dd7, dd8, dd9, dd10, dd11, dd12, dd13, dd14, dd15]
def fa : List He.Fa := ([.glo "is_whole", .glo "is_operation", .glo "look_table", .glo "table_text", .glo "row_in", .glo "table_in", .glo "table_of", .glo "_law_numbers", .glo "_law_known", .glo "_law_rows", .glo "_law_table", .glo "_law_written", .glo "_law_same", .glo "law", .glo "BadTable", .glo "BadText", .free "len", .free "range", .free "tuple", .free "list", .free "all", .free "any", .free "isinstance", .free "int", .free "bool", .free "str", .free "sorted", .free "enumerate", .free "zip", .free "max"] : List He.Fa) ++ ([.free "min", .free "set", .free "dict", .free "sum", .free "repr", .str "FIGURES" "0123456789", .int "MOST_OPERATIONS" 4, .int "MOST_STANDS" 5, .exm "BadTable" "BadTable" true, .exm "BadText" "BadTable" false] : List He.Fa)
def exB (K : PySem.W.Frag) : Bool := xcB K "BadTable" ["word", "at"] && xcB K "BadText" ["word", "at"]
abbrev R : PySem.W.OpenRow := PySem.W.OpenLaw.row PySem.Challenge.rw_whofirst_k04_tables_written
abbrev hk : PySem.W.Hook := He.hookX 6 fa fn [] [] exB
def ob (s : PySem.W.SharedT) : He.AlX := He.obsX 6 fa fn [] [] exB (HandSHeadRun.getT s)
theorem ob_eq (s : PySem.W.SharedT) : ob s = hk.obs s.abs := He.obsX_eq (HandSHeadRun.getT_eq s)
def loose : List PySem.Str := (["HandError", "BadTable", "BadText", "MOST_STANDS", "MOST_OPERATIONS", "FIGURES", "is_whole", "is_operation", "look_table", "table_text", "row_in", "table_in", "table_of", "_law_numbers", "_law_known", "_law_rows", "_law_table", "_law_written", "_law_same"] : List PySem.Str)
theorem run (w : World) : HandSHeadRun.RunEq R (PySem.W.view R.prog [22]) hk ob 3000 loose w := by
  intro os
  kernel_rfl
theorem facts {P : Program} {w : World} {K : PySem.W.Frag} {h : Heap} {mg : Str → Option Value} {f : Addr} (X : K.In h) (G : h.Ns mainGlobals mg) (hfa : mg ("law" : Str) = some (.ref f)) (c : He.SaysX fa fn [] [] exB w h K) :
    ∃ fd : FuncData, (∀ (s : Shared) (v : Value), BindsTo s fd ⟨[v], []⟩ [("_law_script", v)]) ∧ ∀ base : Heap, K.In base → base.Ns mainGlobals mg → FnOk P w K mg base CX0 10 f fd ["_law_script"] (spL K mg c_law) := by
  have d := c.t.d
  have more := c.more
  have T : Bt mg := ⟨He.free_ok X G (d.fact 16 (f := .free "len") rfl), He.free_ok X G (d.fact 17 (f := .free "range") rfl), He.free_ok X G (d.fact 18 (f := .free "tuple") rfl), He.free_ok X G (d.fact 19 (f := .free "list") rfl), He.free_ok X G (d.fact 20 (f := .free "all") rfl), He.free_ok X G (d.fact 21 (f := .free "any") rfl), He.free_ok X G (d.fact 22 (f := .free "isinstance") rfl), He.free_ok X G (d.fact 23 (f := .free "int") rfl), He.free_ok X G (d.fact 24 (f := .free "bool") rfl), He.free_ok X G (d.fact 25 (f := .free "str") rfl), He.free_ok X G (d.fact 26 (f := .free "sorted") rfl), He.free_ok X G (d.fact 27 (f := .free "enumerate") rfl), He.free_ok X G (d.fact 28 (f := .free "zip") rfl), He.free_ok X G (d.fact 29 (f := .free "max") rfl), He.free_ok X G (d.fact 30 (f := .free "min") rfl), He.free_ok X G (d.fact 31 (f := .free "set") rfl), He.free_ok X G (d.fact 32 (f := .free "dict") rfl), He.free_ok X G (d.fact 33 (f := .free "sum") rfl), He.free_ok X G (d.fact 34 (f := .free "repr") rfl)⟩
  have F_is_whole : FnP K mg "is_whole" s_is_whole := by
    obtain ⟨fd, F⟩ := d.def_ 0 (d := dd0) rfl
    exact ⟨_, fd, F, He.glo_ok X G (d.fact 0 (f := .glo "is_whole") rfl)⟩
  have F_is_operation : FnP K mg "is_operation" s_is_operation := by
    obtain ⟨fd, F⟩ := d.def_ 1 (d := dd1) rfl
    exact ⟨_, fd, F, He.glo_ok X G (d.fact 1 (f := .glo "is_operation") rfl)⟩
  have F_look_table : FnP K mg "look_table" s_look_table := by
    obtain ⟨fd, F⟩ := d.def_ 2 (d := dd2) rfl
    exact ⟨_, fd, F, He.glo_ok X G (d.fact 2 (f := .glo "look_table") rfl)⟩
  have F_table_text : FnP K mg "table_text" s_table_text := by
    obtain ⟨fd, F⟩ := d.def_ 3 (d := dd3) rfl
    exact ⟨_, fd, F, He.glo_ok X G (d.fact 3 (f := .glo "table_text") rfl)⟩
  have F_row_in : FnP K mg "row_in" s_row_in := by
    obtain ⟨fd, F⟩ := d.def_ 4 (d := dd4) rfl
    exact ⟨_, fd, F, He.glo_ok X G (d.fact 4 (f := .glo "row_in") rfl)⟩
  have F_table_in : FnP K mg "table_in" s_table_in := by
    obtain ⟨fd, F⟩ := d.def_ 5 (d := dd5) rfl
    exact ⟨_, fd, F, He.glo_ok X G (d.fact 5 (f := .glo "table_in") rfl)⟩
  have F_table_of : FnP K mg "table_of" s_table_of := by
    obtain ⟨fd, F⟩ := d.def_ 6 (d := dd6) rfl
    exact ⟨_, fd, F, He.glo_ok X G (d.fact 6 (f := .glo "table_of") rfl)⟩
  have F__law_numbers : FnP K mg "_law_numbers" s__law_numbers := by
    obtain ⟨fd, F⟩ := d.def_ 7 (d := dd7) rfl
    exact ⟨_, fd, F, He.glo_ok X G (d.fact 7 (f := .glo "_law_numbers") rfl)⟩
  have F__law_known : FnP K mg "_law_known" s__law_known := by
    obtain ⟨fd, F⟩ := d.def_ 8 (d := dd8) rfl
    exact ⟨_, fd, F, He.glo_ok X G (d.fact 8 (f := .glo "_law_known") rfl)⟩
  have F__law_rows : FnP K mg "_law_rows" s__law_rows := by
    obtain ⟨fd, F⟩ := d.def_ 9 (d := dd9) rfl
    exact ⟨_, fd, F, He.glo_ok X G (d.fact 9 (f := .glo "_law_rows") rfl)⟩
  have F__law_table : FnP K mg "_law_table" s__law_table := by
    obtain ⟨fd, F⟩ := d.def_ 10 (d := dd10) rfl
    exact ⟨_, fd, F, He.glo_ok X G (d.fact 10 (f := .glo "_law_table") rfl)⟩
  have F__law_written : FnP K mg "_law_written" s__law_written := by
    obtain ⟨fd, F⟩ := d.def_ 11 (d := dd11) rfl
    exact ⟨_, fd, F, He.glo_ok X G (d.fact 11 (f := .glo "_law_written") rfl)⟩
  have F__law_same : FnP K mg "_law_same" s__law_same := by
    obtain ⟨fd, F⟩ := d.def_ 12 (d := dd12) rfl
    exact ⟨_, fd, F, He.glo_ok X G (d.fact 12 (f := .glo "_law_same") rfl)⟩
  have c_FIGURES : GS mg "FIGURES" "0123456789" := He.str_ok X G (d.fact 35 (f := .str "FIGURES" "0123456789") rfl)
  have c_MOST_OPERATIONS : GI mg "MOST_OPERATIONS" 4 := He.int_ok X G (d.fact 36 (f := .int "MOST_OPERATIONS" 4) rfl)
  have c_MOST_STANDS : GI mg "MOST_STANDS" 5 := He.int_ok X G (d.fact 37 (f := .int "MOST_STANDS" 5) rfl)
  simp only [exB, Bool.and_eq_true] at more
  obtain ⟨x_BadTable, x_BadText⟩ := more
  have m_BadTable := He.glo_ok X G (d.fact 14 (f := .glo "BadTable") rfl)
  have m_BadText := He.glo_ok X G (d.fact 15 (f := .glo "BadText") rfl)
  obtain ⟨fx_BadTable, Fx_BadTable⟩ := d.def_ 14 (d := dd14) rfl
  obtain ⟨fx_BadText, Fx_BadText⟩ := d.def_ 15 (d := dd15) rfl
  have t_BadTable : ∀ n ∈ xnames, ∀ cls, mg n = some cls → PySem.W.exmOne K cls (.ref (He.ga K "BadTable")) = some (subN "BadTable" n) := by
    intro n hn cls e
    simp only [xnames, List.mem_cons, List.not_mem_nil, or_false] at hn
    rcases hn with rfl | rfl
    · have q := e.symm.trans (He.glo_ok X G (d.fact 14 (f := .glo "BadTable") rfl))
      cases q
      rw [show subN "BadTable" "BadTable" = true by decide +kernel]
      exact He.exm_ok (d.fact 38 (f := .exm "BadTable" "BadTable" true) rfl)
    · have q := e.symm.trans (He.glo_ok X G (d.fact 15 (f := .glo "BadText") rfl))
      cases q
      rw [show subN "BadTable" "BadText" = false by decide +kernel]
      exact He.exm_ok (d.fact 39 (f := .exm "BadText" "BadTable" false) rfl)
  obtain ⟨fd, F⟩ := d.def_ 13 (d := dd13) rfl
  have e := hfa.symm.trans (He.glo_ok X G (d.fact 13 (f := .glo "law") rfl))
  cases e
  have b := FunD.bindsA (ps := ["_law_script"]) F fun _ _ _ _ _ _ us hl => match us, hl with | [_], _ => rfl
  refine ⟨fd, fun s v => b s [v] rfl, fun base _ _ => fn_cx0 ?_⟩
  have r_BadTable : Rs P w K mg base "BadTable" 2 1 (xfV "BadTable" ["at"]) := rs_BadTable (xcB_ok x_BadTable) Fx_BadTable m_BadTable
  have r_BadText : Rs P w K mg base "BadText" 2 1 (xfV "BadText" ["at"]) := rs_BadText (xcB_ok x_BadText) Fx_BadText m_BadText
  have k_is_whole : Cl P w K mg base "is_whole" 1 c_is_whole := ok_is_whole T F_is_whole
  have k_is_operation : Cl P w K mg base "is_operation" 2 c_is_operation := ok_is_operation T k_is_whole c_MOST_STANDS F_is_operation
  have k_look_table : Cl P w K mg base "look_table" 3 c_look_table := ok_look_table T k_is_operation c_MOST_OPERATIONS r_BadTable F_look_table
  have k_table_text : Cl P w K mg base "table_text" 4 c_table_text := ok_table_text T k_look_table F_table_text
  have k_row_in : Cl P w K mg base "row_in" 1 c_row_in := ok_row_in T c_FIGURES F_row_in
  have k_table_in : Cl P w K mg base "table_in" 4 c_table_in := ok_table_in T k_row_in k_look_table t_BadTable m_BadTable F_table_in
  have k_table_of : Cl P w K mg base "table_of" 5 c_table_of := ok_table_of T k_table_in r_BadText F_table_of
  have k__law_numbers : Cl P w K mg base "_law_numbers" 1 c__law_numbers := ok__law_numbers T F__law_numbers
  have k__law_known : Cl P w K mg base "_law_known" 1 c__law_known := ok__law_known T F__law_known
  have k__law_rows : Cl P w K mg base "_law_rows" 1 c__law_rows := ok__law_rows T F__law_rows
  have k__law_table : Cl P w K mg base "_law_table" 2 c__law_table := ok__law_table T k__law_known k__law_rows F__law_table
  have k__law_written : Cl P w K mg base "_law_written" 1 c__law_written := ok__law_written T F__law_written
  have k__law_same : Cl P w K mg base "_law_same" 9 c__law_same := ok__law_same T F__law_same
  exact fin_law T k__law_numbers k__law_table k__law_written k__law_same k_table_of k_table_text F
end
end WH
open PySem PySem.W PySem.Calls PyProof.Rows
theorem PySem.Challenge.cw_whofirst_k04_tables_written_holds : PySem.Challenge.rw_whofirst_k04_tables_written.Holds := by
  w_on; o_law
  refine HandSHeadRun.head_any (r := OpenLaw.row PySem.Challenge.rw_whofirst_k04_tables_written) (q := view (OpenLaw.row PySem.Challenge.rw_whofirst_k04_tables_written).prog [22]) (H := WH.hk) (ob := WH.ob) (M := 3000) (loose := WH.loose) (d := HandSHeadRun.topDef (OpenLaw.row PySem.Challenge.rw_whofirst_k04_tables_written).prog 22) (kwd := []) WH.ob_eq
    (by kernel_rfl) (fun s => by kernel_rfl) WH.run (by kernel_rfl) (by kernel_rfl) (by kernel_rfl) (by rfl) (by first | assumption | decide +kernel) (by decide +kernel) ⟨rfl, rfl, rfl, rfl, rfl, by decide +kernel⟩ ?hw ?hc
  case hw => w_witness2
  case hc =>
    refine L2.walk_ofE (l := PySem.Challenge.rw_whofirst_k04_tables_written) (n := 63) (k := 10) (x := "_law_script") (CX := L2.CX0) rfl (by decide) (by kernel_rfl) ⟨rfl, by decide, by decide⟩ ?F (fun _ _ _ _ z => z)
    intro w mg fa h Y G hmg0
    obtain ⟨K, KX, c⟩ := Y
    have hmg : mg ("law" : PySem.Str) = some (.ref fa) := by
      have e : (HandSHeadRun.topDef (OpenLaw.row PySem.Challenge.rw_whofirst_k04_tables_written).prog 22).name = ("law" : PySem.Str) := by kernel_rfl
      rw [← e]
      exact hmg0
    obtain ⟨fd, hb, hF⟩ := WH.facts (P := (PySem.Challenge.rw_whofirst_k04_tables_written).prog) (w := w) KX G hmg c
    exact ⟨K, fd, WH.spL K mg WH.c_law, KX, hb, fun H a ns hl _ hS => WH.law_sp (fun ns R h1 h2 => ⟨ns, rfl, h1, h2⟩) H a ns hl hS, hF⟩

