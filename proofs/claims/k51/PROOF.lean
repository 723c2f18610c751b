import PyProof.Rows.All
import Wide.All
import OpenK.AllK
import Wide.FinOn
import HandS.ForMost
import HandS.ForExc
import HandS.TupAny
import HandS.TupMul
import HandS.TupLe
import HandS.Conv
import HandS.IsInst
import HandS.Lambda
import KE.KDictKeyed
import HandS.Defaults
import HandS.ExcCtx
import HandS.More
import PyProof.EnumMake
import PyProof.Draws
import KE.GoesMore
import HandS.Iter
import HandS.Text
import HandS.FStr
import HandS.Deep
import PyProof.P3In
import KE.KExcInit
import HandS.TryOnly
import HandS.ExcInit
import KE.KStateDown
import HandS.Base
import HandS.Call
import HandS.Ends
import HandS.Words
import HandS.WordsExc
import HandS.Head0
import HandS.Head1
import HandS.Head2
import HandS.HeadEnd
import HandS.HeadHook1
import HandS.HeadHook2
import HandS.HeadHook3
import HandS.HeadHook4
import HandS.HotCalls
import HandS.TryMany
import KE.KTryMore
import HandS.Zip
import HandS.ExcIs
import HandS.ExcField
import HandS.RaiseMore
import PyProof.ReprRoads
import HandS.EndTab
import HandS.HeadWalk
import KE.KLam
import HandS.SortInts
import HandS.DictComp
import HandS.Dict
import PyProof.DictMoreH
import HandS.SetKeys
import KE.KDictItemsList
import HandS.ListItems
import HandS.TupSets
import KE.SortData
import HandS.CallSlots
import HandS.MakeKwOnly
import HandS.Style
import KE.KRevSl
import HandS.SetBool
import HandS.Set
import KE.DataMinMax
import HandS.SortKw
import KE.KUnpackStar
import KE.KDictPairs
import HandS.Strs
import KE.KIndexOf
import HandS.TupLen
import KE.KDictDisplayH
import HandS.SetFor
import KE.KDictCopyH
import KE.KTupSum
import KE.SortKeyHeap
import KE.SortLaws
import PyProof.StrOps2
import PySem.Challenge.RW_whofirst_k51_rolls_step_by_step
section FirstPart
set_option Elab.async false
set_option linter.all false
set_option autoImplicit false
set_option maxRecDepth 100000
set_option maxHeartbeats 4000000
namespace WH
open PySem PySem.Spec L2
theorem rd_mono {H H' : Hp} {a : Addr} {u : HO} (e : Same H H') (h : Rd H a u) : Rd H' a u := by
  rcases h with h | ⟨o, h⟩
  · exact Or.inl (e a _ h)
  · exact Or.inr ⟨o, e a _ h⟩
theorem sqL_mono {K : PySem.W.Frag} {H H' : Hp} {a : Addr} {xs : List V} (e : Same H H') (h : SqL K H a xs) : SqL K H' a xs := by
  rcases h with h | h
  · exact Or.inl (rd_mono e h)
  · exact Or.inr h
theorem sqT_mono {K : PySem.W.Frag} {H H' : Hp} {a : Addr} {xs : List V} (e : Same H H') (h : SqT K H a xs) : SqT K H' a xs := by
  rcases h with h | h
  · exact Or.inl (rd_mono e h)
  · exact Or.inr h
def SqN (K : PySem.W.Frag) (H : Hp) (a : Addr) (xs : List V) : Prop := (∃ o, H a = some (.frz o (.tup xs)) ∧ o.dict = none) ∨
  ∃ (o : Obj) (its : Array Value) (n : Nat), K.lookup a = some o ∧ (o.cls = .type "tuple" ∧ o.data = .seq its n ∧ its.size ≤ sizeLine ∧ Vals xs its.toList) ∧ o.dict = none
theorem SqN.t {K : PySem.W.Frag} {H : Hp} {a : Addr} {xs : List V} (h : SqN K H a xs) : SqT K H a xs := by
  rcases h with ⟨o, h, _⟩ | ⟨o, its, n, h, ⟨h1, h2, h3, h4⟩, _⟩
  · exact .inl (.inr ⟨o, h⟩)
  · exact .inr ⟨o, its, n, h, h1, h2, h3, h4⟩
theorem sqN_mono {K : PySem.W.Frag} {H H' : Hp} {a : Addr} {xs : List V} (e : Same H H') (h : SqN K H a xs) : SqN K H' a xs := by
  rcases h with ⟨o, h, hd⟩ | h
  · exact .inl ⟨o, e a _ h, hd⟩
  · exact .inr h
def kD : Key → PyData
  | .inl i => .int i
  | .inr x => .str x
mutual
/-- data that may be a nested key: None, numbers, tuples of such -/
def nkOf : PyData → Option NestedKey
  | .none => some .none
  | .int i => some (.num i)
  | .tuple ds => match nkOfs ds with
    | some ks => some (.tup ks)
    | none => none
  | _ => none
def nkOfs : List PyData → Option (List NestedKey)
  | [] => some []
  | d :: ds => match nkOf d, nkOfs ds with
    | some k, some ks => some (k :: ks)
    | _, _ => none
end
def ndP (a : Addr) (xs : List (NestedKey × Addr × V)) : Heap → Prop := fun h => xs.length ≤ sizeLine ∧ (a == sysModules) = false ∧ ∃ (o : Obj) (es : Array DictEntry) (ep : Nat) (ys : List (NestedKey × Addr × Value)),
  h.get? a = some o ∧ o.ExactDict ∧ o.data = .dict es ep ∧ Paired (fun (p : NestedKey × Addr × V) (q : NestedKey × Addr × Value) => p.1 = q.1 ∧ p.2.1 = q.2.1 ∧ RelV p.2.2 q.2.2) xs ys ∧ (∀ (P : Program) (w : World), es.toList = ys.map (entryOfKey (nestedKind P w))) ∧ (xs.map (·.1)).Nodup
def NdO (a : Addr) (xs : List (NestedKey × Addr × V)) : HO := .ext (ndP a xs)
def nd (kvs : List (PyData × PyData)) : PyData := .dict [(.none, .dict kvs)]
mutual
inductive Rp (K : PySem.W.Frag) (G : Hp) : V → PyData → Prop
  | non : Rp K G .non .none
  | bl (b : Bool) : Rp K G (.bl b) (.bool b)
  | int (i : Int) : Rp K G (.int i) (.int i)
  | str (x : Str) : Rp K G (.str x) (.str x)
  | lst {a : Addr} {xs : List V} {ds : List PyData} : G a = some (.lst xs) → RpAll K G xs ds → Rp K G (.ref a) (.list ds)
  | tup {a : Addr} {xs : List V} {ds : List PyData} : SqN K G a xs → RpAll K G xs ds → Rp K G (.ref a) (.tuple ds)
  | tpw {a : Addr} {xs : List V} {ds : List PyData} : SqT K G a xs → RpAll K G xs ds → Rp K G (.ref a) (.dict [(.none, .tuple ds)])
  | dik {a : Addr} {o : Obj} {xs : List (Key × V)} {ds : List (PyData × PyData)} : G a = some (.frz o (.dK xs)) → RpKv K G xs ds → Rp K G (.ref a) (.dict ds)
  | dit {a : Addr} {o : Obj} {xs : List (List Key × V)} {ds : List (PyData × PyData)} : G a = some (.frz o (.dT xs)) → RpTv K G xs ds → Rp K G (.ref a) (.dict ds)
  | dnk {a : Addr} {o : Obj} {xs : List (NestedKey × Addr × V)} {ds : List (PyData × PyData)} : G a = some (.frz o (NdO a xs)) → RpNv K G xs ds → Rp K G (.ref a) (.dict [(.none, .dict ds)])
  /-- the script -/
  | scr {a : Addr} {ns : List Int} : SqL K G a (ns.map V.int) → Rp K G (.ref a) (.dict [(.none, .list (ns.map PyData.int))])
inductive RpAll (K : PySem.W.Frag) (G : Hp) : List V → List PyData → Prop
  | nil : RpAll K G [] []
  | cons {v : V} {vs : List V} {d : PyData} {ds : List PyData} : Rp K G v d → RpAll K G vs ds → RpAll K G (v :: vs) (d :: ds)
inductive RpKv (K : PySem.W.Frag) (G : Hp) : List (Key × V) → List (PyData × PyData) → Prop
  | nil : RpKv K G [] []
  | cons {k : Key} {v : V} {vs : List (Key × V)} {d : PyData} {ds : List (PyData × PyData)} : Rp K G v d → RpKv K G vs ds → RpKv K G ((k, v) :: vs) ((kD k, d) :: ds)
inductive RpTv (K : PySem.W.Frag) (G : Hp) : List (List Key × V) → List (PyData × PyData) → Prop
  | nil : RpTv K G [] []
  | cons {k : List Key} {v : V} {vs : List (List Key × V)} {d : PyData} {ds : List (PyData × PyData)} : Rp K G v d → RpTv K G vs ds → RpTv K G ((k, v) :: vs) ((.tuple (k.map kD), d) :: ds)
inductive RpNv (K : PySem.W.Frag) (G : Hp) : List (NestedKey × Addr × V) → List (PyData × PyData) → Prop
  | nil : RpNv K G [] []
  | cons {k : NestedKey} {a : Addr} {v : V} {vs : List (NestedKey × Addr × V)} {e d : PyData} {ds : List (PyData × PyData)} : nkOf e = some k → k.depth ≤ 8 → Rp K G (.ref a) e → Rp K G v d → RpNv K G vs ds → RpNv K G ((k, a, v) :: vs) ((e, d) :: ds)
end
section
variable {K : PySem.W.Frag} {H H' : Hp}
theorem rp_mono (e : Same H H') {v : V} {d : PyData} (h : Rp K H v d) : Rp K H' v d :=
  Rp.rec (motive_1 := fun v d _ => Rp K H' v d) (motive_2 := fun xs ds _ => RpAll K H' xs ds) (motive_3 := fun xs ds _ => RpKv K H' xs ds) (motive_4 := fun xs ds _ => RpTv K H' xs ds) (motive_5 := fun xs ds _ => RpNv K H' xs ds)
    .non .bl .int .str (fun h _ i => .lst (e _ _ h) i) (fun h _ i => .tup (sqN_mono e h) i) (fun h _ i => .tpw (sqT_mono e h) i) (fun h _ i => .dik (e _ _ h) i) (fun h _ i => .dit (e _ _ h) i) (fun h _ i => .dnk (e _ _ h) i) (fun h => .scr (sqL_mono e h)) .nil (fun _ _ i j => .cons i j) .nil (fun _ _ i j => .cons i j) .nil (fun _ _ i j => .cons i j) .nil (fun n1 n2 _ _ _ i j k => .cons n1 n2 i j k) h
theorem rpa_mono (e : Same H H') : ∀ {xs : List V} {ds : List PyData}, RpAll K H xs ds → RpAll K H' xs ds
  | _, _, .nil => .nil
  | _, _, .cons a t => .cons (rp_mono e a) (rpa_mono e t)
theorem rpn_mono (e : Same H H') : ∀ {xs : List (NestedKey × Addr × V)} {ds : List (PyData × PyData)}, RpNv K H xs ds → RpNv K H' xs ds
  | _, _, .nil => .nil
  | _, _, .cons n1 n2 a b t => .cons n1 n2 (rp_mono e a) (rp_mono e b) (rpn_mono e t)
end
theorem same_upd {H : Hp} {p : Addr} {o : HO} (h : H p = none) : Same H (upd H p o) := fun a u e => by
  rw [upd_ne (ne_of_none e h)]
  exact e
inductive DpF (K : PySem.W.Frag) (G : Hp) : List (Str × V) → List (Str × PyData) → Prop
  | nil : DpF K G [] []
  | cons {k : Str} {v : V} {d : PyData} {vs : List (Str × V)} {ds : List (Str × PyData)} : Rp K G v d → DpF K G vs ds → DpF K G ((k, v) :: vs) ((k, d) :: ds)
theorem dpF_mono {K : PySem.W.Frag} {H H' : Hp} (e : Same H H') : ∀ {vs : List (Str × V)} {ds : List (Str × PyData)}, DpF K H vs ds → DpF K H' vs ds
  | _, _, .nil => .nil
  | _, _, .cons a t => .cons (rp_mono e a) (dpF_mono e t)
class TabC where
  T : List (Addr × Str)
def NTb (o : HO) : Prop := ∀ ps, o ≠ .tbl ps
def nt (H : Hp) : Hp := fun a => match H a with
  | some (.tbl _) => none
  | x => x
theorem nt_some {H : Hp} {a : Addr} {o : HO} (h : nt H a = some o) : H a = some o := by
  unfold nt at h
  split at h
  · cases h
  · exact h
theorem nt_of {H : Hp} {a : Addr} {o : HO} (h : H a = some o) (ho : NTb o) : nt H a = some o := by
  unfold nt
  split
  · rename_i ps e
    rw [h] at e
    cases e
    exact (ho ps rfl).elim
  · exact h
abbrev NF (H : Hp) (a : Addr) : Prop := nt H a = none
theorem nf_no {H : Hp} {a : Addr} {o : HO} (h : H a = some o) (ho : NTb o) (n : NF H a) : False := by
  have e := nt_of h ho
  rw [n] at e
  cases e
def NS (H : Hp) (a : Addr) : Prop := NF H a ∨ ∃ xs, H a = some (.tup xs)
theorem ns_no {H : Hp} {a : Addr} {o : HO} (h : H a = some o) (ho : NTb o) (ht : ∀ xs, o ≠ .tup xs) (n : NS H a) : False := by
  rcases n with n | ⟨xs, n⟩
  · exact nf_no h ho n
  · rw [h] at n
    cases n
    exact ht xs rfl
theorem nt_le {H : Hp} : Same (nt H) H := fun _ _ h => nt_some h
structure Ex [TabC] (H H' : Hp) : Prop where
  s : Same (nt H) (nt H')
  t : LamX.Tabs TabC.T H → LamX.Tabs TabC.T H'
theorem Ex.refl [TabC] (H : Hp) : Ex H H := ⟨Same.refl _, id⟩
theorem Ex.trans [TabC] {H H1 H2 : Hp} (a : Ex H H1) (b : Ex H1 H2) : Ex H H2 := ⟨a.s.trans b.s, fun h => b.t (a.t h)⟩
theorem Ex.free [TabC] {H H' : Hp} (e : Ex H H') {p : Addr} (h : NF H' p) : NF H p := e.s.free h
theorem Ex.freeS [TabC] {H H' : Hp} (e : Ex H H') {p : Addr} (h : NS H' p) : NS H p := by
  rcases h with h | ⟨xs, h⟩
  · exact .inl (e.free h)
  · cases z : nt H p with
    | none => exact .inl z
    | some o =>
      have q := nt_some (e.s _ _ z)
      rw [h] at q
      cases q
      exact .inr ⟨xs, nt_some z⟩
theorem Ex.at [TabC] {H H' : Hp} (e : Ex H H') {p : Addr} {o : HO} (h : H p = some o) (ho : NTb o) : H' p = some o := nt_some (e.s _ _ (nt_of h ho))
theorem ntb_lst {xs : List V} : NTb (.lst xs) := fun _ z => by cases z
inductive OD where
  | lst (ds : List PyData)
  | dic (kvs : List (Key × PyData))
  | set (S : Int → Bool) (n : Nat)
  /-- a dict by nested keys -/
  | ndic (kvs : List (PyData × PyData))
inductive ST where
  | dat (d : PyData)
  | dl (ds : List PyData)
  | lst (ts : List ST)
  | ins (C : Addr) (fs : List (Str × ST))
  | rl (as : List Addr)
mutual
/-- v stands for the tree; its own objects' addresses -/
inductive SAt (K : PySem.W.Frag) (G H : Hp) : V → ST → List Addr → Prop
  | dat {v : V} {d : PyData} : Rp K G v d → SAt K G H v (.dat d) []
  | dl {a : Addr} {xs : List V} {ds : List PyData} : H a = some (.lst xs) → RpAll K G xs ds → SAt K G H (.ref a) (.dl ds) [a]
  | lst {a : Addr} {xs : List V} {ts : List ST} {fp : List Addr} : H a = some (.lst xs) → SAts K G H xs ts fp → SAt K G H (.ref a) (.lst ts) (a :: fp)
  | ins {a dx C : Addr} {vs : List (Str × V)} {fs : List (Str × ST)} {fp : List Addr} : H a = some (.ins C dx vs) → H dx = some (.own a) → SAtF K G H vs fs fp → SAt K G H (.ref a) (.ins C fs) (a :: dx :: fp)
  /-- a list whose items are roots of their own -/
  | rl {a : Addr} {as : List Addr} : H a = some (.lst (as.map V.ref)) → SAt K G H (.ref a) (.rl as) [a]
inductive SAts (K : PySem.W.Frag) (G H : Hp) : List V → List ST → List Addr → Prop
  | nil : SAts K G H [] [] []
  | cons {v : V} {t : ST} {f : List Addr} {vs : List V} {ts : List ST} {fs : List Addr} : SAt K G H v t f → SAts K G H vs ts fs → SAts K G H (v :: vs) (t :: ts) (f ++ fs)
inductive SAtF (K : PySem.W.Frag) (G H : Hp) : List (Str × V) → List (Str × ST) → List Addr → Prop
  | nil : SAtF K G H [] [] []
  | cons {k : Str} {v : V} {t : ST} {f : List Addr} {vs : List (Str × V)} {ts : List (Str × ST)} {fs : List Addr} : SAt K G H v t f → SAtF K G H vs ts fs → SAtF K G H ((k, v) :: vs) ((k, t) :: ts) (f ++ fs)
end
section
variable {K : PySem.W.Frag} {G H G' H' : Hp}
theorem fp_app {f fs : List Addr} {P : Addr → Prop} (h : ∀ a ∈ f ++ fs, P a) : (∀ a ∈ f, P a) ∧ ∀ a ∈ fs, P a := ⟨fun a ha => h a (List.mem_append.mpr (.inl ha)), fun a ha => h a (List.mem_append.mpr (.inr ha))⟩
theorem fp_cons {x : Addr} {fs : List Addr} {P : Addr → Prop} (h : ∀ a ∈ x :: fs, P a) : P x ∧ ∀ a ∈ fs, P a := ⟨h x List.mem_cons_self, fun a ha => h a (List.mem_cons_of_mem _ ha)⟩
theorem sAt_frame (gg : Same G G') {v : V} {t : ST} {fp : List Addr} (h : SAt K G H v t fp) : (∀ a ∈ fp, H' a = H a) → SAt K G' H' v t fp :=
  SAt.rec (motive_1 := fun v t fp _ => (∀ a ∈ fp, H' a = H a) → SAt K G' H' v t fp) (motive_2 := fun v t fp _ => (∀ a ∈ fp, H' a = H a) → SAts K G' H' v t fp) (motive_3 := fun v t fp _ => (∀ a ∈ fp, H' a = H a) → SAtF K G' H' v t fp)
    (fun r _ => .dat (rp_mono gg r)) (fun e r hf => .dl ((fp_cons hf).1.trans e) (rpa_mono gg r)) (fun e _ ih hf => .lst ((fp_cons hf).1.trans e) (ih (fp_cons hf).2))
    (fun e d _ ih hf => .ins ((fp_cons hf).1.trans e) ((fp_cons (fp_cons hf).2).1.trans d) (ih (fp_cons (fp_cons hf).2).2)) (fun e hf => .rl ((fp_cons hf).1.trans e))
    (fun _ => .nil) (fun _ _ i j hf => .cons (i (fp_app hf).1) (j (fp_app hf).2)) (fun _ => .nil) (fun _ _ i j hf => .cons (i (fp_app hf).1) (j (fp_app hf).2)) h
theorem sAt_mono (gg : Same G G') {v : V} {t : ST} {fp : List Addr} (h : SAt K G H v t fp) : SAt K G' H v t fp := sAt_frame gg h fun _ _ => rfl
end
class ObjB where
  B : Hp
abbrev objNil : ObjB := ⟨fun _ => none⟩
inductive Slot where
  | no
  | sh (d : PyData)
  | ow (o : OD)
  | raw (v : V) (x : Option (Addr × List (Str × PyData)))
  | tr (a : Addr) (t : ST)
abbrev Sto := List Slot
inductive RpK (K : PySem.W.Frag) (G : Hp) : List (Key × V) → List (Key × PyData) → Prop
  | nil : RpK K G [] []
  | cons {k : Key} {v : V} {d : PyData} {vs : List (Key × V)} {ds : List (Key × PyData)} : Rp K G v d → RpK K G vs ds → RpK K G ((k, v) :: vs) ((k, d) :: ds)
theorem rpK_mono {K : PySem.W.Frag} {H H' : Hp} (e : Same H H') : ∀ {vs : List (Key × V)} {ds : List (Key × PyData)}, RpK K H vs ds → RpK K H' vs ds
  | _, _, .nil => .nil
  | _, _, .cons a t => .cons (rp_mono e a) (rpK_mono e t)
def HoOk (K : PySem.W.Frag) (G : Hp) : HO → OD → Prop
  | .lst xs, .lst ds => RpAll K G xs ds
  | .dK kvs, .dic es => RpK K G kvs es
  | .set S n, .set S' n' => S = S' ∧ n = n'
  | .ext φ, .ndic kvs => ∃ a xs, φ = ndP a xs ∧ RpNv K G xs kvs
  | _, _ => False
theorem hoOk_mono {K : PySem.W.Frag} {H H' : Hp} (e : Same H H') {h : HO} {o : OD} (x : HoOk K H h o) : HoOk K H' h o := by
  cases h <;> cases o <;> first | exact x | exact rpa_mono e x | exact rpK_mono e x | exact x.elim | (obtain ⟨a, xs, x1, x2⟩ := x; exact ⟨a, xs, x1, rpn_mono e x2⟩)
theorem hoOk_ntb {K : PySem.W.Frag} {H : Hp} {h : HO} {o : OD} (x : HoOk K H h o) : NTb h := fun ps z => by
  subst z
  cases o <;> exact x.elim
theorem hoOk_ntp {K : PySem.W.Frag} {H : Hp} {h : HO} {o : OD} (x : HoOk K H h o) : ∀ xs, h ≠ .tup xs := fun ps z => by
  subst z
  cases o <;> exact x.elim
variable [TabC]
variable [ObjB]
structure Ok (K : PySem.W.Frag) (G0 H0 G H : Hp) (σ : L2.St) (ρ : Sto) : Prop where
  gn : Same G (nt H)
  g0 : Same G0 G
  h0 : Ex H0 H
  tb : LamX.Tabs TabC.T H
  nw : ∀ a o, G a = some o → G0 a = some o ∨ NS H0 a
  len : σ.length = ρ.length
  sh : ∀ (i : Nat) (d : PyData), ρ[i]? = some (Slot.sh d) → ∃ v, σ[i]? = some (some v) ∧ Rp K G v d
  ow : ∀ (i : Nat) (o : OD), ρ[i]? = some (Slot.ow o) → ∃ a ho, σ[i]? = some (some (V.ref a)) ∧ H a = some ho ∧ G a = none ∧ NF H0 a ∧ HoOk K G ho o
  ap : ∀ (i j : Nat) (o u : OD) (a : Addr), i ≠ j → ρ[i]? = some (Slot.ow o) → ρ[j]? = some (Slot.ow u) → σ[i]? = some (some (V.ref a)) → σ[j]? ≠ some (some (V.ref a))
  rw : ∀ (i : Nat) (v : V) (x : Option (Addr × List (Str × PyData))), ρ[i]? = some (Slot.raw v x) → σ[i]? = some (some v) ∧ ∀ q, x = some q → ∃ vs, G q.1 = some (.xd vs) ∧ DpF K G vs q.2
  /-- a tree, read only: it stands in the region -/
  tr : ∀ (i : Nat) (a : Addr) (t : ST), ρ[i]? = some (Slot.tr a t) → ∃ fp, σ[i]? = some (some (V.ref a)) ∧ SAt K G ObjB.B (.ref a) t fp
  bB : Same ObjB.B (nt H0)
section
variable {K : PySem.W.Frag} {G0 H0 G H G' H' : Hp} {σ : L2.St} {ρ : Sto}
theorem Ok.gh (k : Ok K G0 H0 G H σ ρ) : Same G H := k.gn.trans nt_le
theorem Ok.grow (k : Ok K G0 H0 G H σ ρ) (gg : Same G G') (hh : Ex H H') (gh : Same G' (nt H')) (nw : ∀ a o, G' a = some o → G a = some o ∨ NS H a) : Ok K G0 H0 G' H' σ ρ where
  gn := gh
  g0 := k.g0.trans gg
  h0 := k.h0.trans hh
  tb := hh.t k.tb
  nw := fun a o e => by
    rcases nw a o e with q | q
    · exact k.nw a o q
    · exact .inr (k.h0.freeS q)
  len := k.len
  sh := fun i d e => by
    obtain ⟨v, h1, h2⟩ := k.sh i d e
    exact ⟨v, h1, rp_mono gg h2⟩
  ow := fun i o e => by
    obtain ⟨a, ho, h1, h2, h3, h4, h5⟩ := k.ow i o e
    refine ⟨a, ho, h1, hh.at h2 (hoOk_ntb h5), ?_, h4, hoOk_mono gg h5⟩
    cases q : G' a with
    | none => rfl
    | some u =>
      rcases nw a u q with z | z
      · rw [h3] at z; cases z
      · exact (ns_no h2 (hoOk_ntb h5) (hoOk_ntp h5) z).elim
  ap := k.ap
  rw := fun i v x e => ⟨(k.rw i v x e).1, fun q h => let ⟨vs, z1, z2⟩ := (k.rw i v x e).2 q h; ⟨vs, gg _ _ z1, dpF_mono gg z2⟩⟩
  tr := fun i a t e => let ⟨fp, h1, h2⟩ := k.tr i a t e; ⟨fp, h1, sAt_mono gg h2⟩
  bB := k.bB
theorem Ok.freeze (k : Ok K G0 H0 G H' σ ρ) {p : Addr} {o : HO} (hp : H' p = some o) (hg : G p = none) (h0 : NF H0 p) (un : ∀ (i : Nat) (u : OD), ρ[i]? = some (Slot.ow u) → σ[i]? ≠ some (some (V.ref p))) (ho : NTb o := by intro _ z; cases z) : Ok K G0 H0 (upd G p o) H' σ ρ where
  gn := fun a u e => by
    by_cases ha : a = p
    · subst ha; rw [upd_same] at e; rw [nt_of hp ho]; exact e
    · rw [upd_ne ha] at e; exact k.gn a u e
  g0 := k.g0.trans (same_upd hg)
  h0 := k.h0
  tb := k.tb
  nw := fun a u e => by
    by_cases ha : a = p
    · subst ha; exact .inr (.inl h0)
    · rw [upd_ne ha] at e; exact k.nw a u e
  len := k.len
  sh := fun i d e => by
    obtain ⟨v, h1, h2⟩ := k.sh i d e
    exact ⟨v, h1, rp_mono (same_upd hg) h2⟩
  ow := fun i u e => by
    obtain ⟨a, ho, h1, h2, h3, h4, h5⟩ := k.ow i u e
    have ne : a ≠ p := fun z => un i u e (by rw [← z]; exact h1)
    exact ⟨a, ho, h1, h2, by rw [upd_ne ne]; exact h3, h4, hoOk_mono (same_upd hg) h5⟩
  ap := k.ap
  rw := fun i v x e => ⟨(k.rw i v x e).1, fun q h => let ⟨vs, z1, z2⟩ := (k.rw i v x e).2 q h; ⟨vs, same_upd hg _ _ z1, dpF_mono (same_upd hg) z2⟩⟩
  tr := fun i a t e => let ⟨fp, h1, h2⟩ := k.tr i a t e; ⟨fp, h1, sAt_mono (same_upd hg) h2⟩
  bB := k.bB
end
structure Gr (G H G' H' : Hp) : Prop where
  gg : Same G G'
  hh : Ex H H'
  nw : ∀ a o, G' a = some o → G a = some o ∨ NS H a
theorem Gr.refl {G H : Hp} : Gr G H G H := ⟨Same.refl _, Ex.refl _, fun _ _ e => .inl e⟩
theorem Gr.trans {G H G1 H1 G2 H2 : Hp} (a : Gr G H G1 H1) (b : Gr G1 H1 G2 H2) : Gr G H G2 H2 := ⟨a.gg.trans b.gg, a.hh.trans b.hh, fun x o e => by
  rcases b.nw x o e with z | z
  · exact a.nw x o z
  · exact .inr (a.hh.freeS z)⟩
theorem Gr.out {G H G' H' : Hp} (g : Gr G H G' H') {a : Addr} {o : HO} (hg : G a = none) (hh : H a = some o) (ho : NTb o := by intro _ z; cases z) (ht : ∀ xs, o ≠ .tup xs := by intro _ z; cases z) : G' a = none := by
  cases z : G' a with
  | none => rfl
  | some u =>
    rcases g.nw _ _ z with z | z
    · rw [hg] at z; cases z
    · exact (ns_no hh ho ht z).elim
abbrev Exn := Str × List (Str × PyData)
abbrev XW := (Str → Option Value) × WX
def ExcOk (K : PySem.W.Frag) (mg : Str → Option Value) (G H : Hp) (x : Exn) (cls : Value) (d : Option Addr) : Prop :=
  mg x.1 = some cls ∧ ∃ dd vs, d = some dd ∧ G dd = some (.xd vs) ∧ DpF K G vs x.2
abbrev XD := Exn → Prop
abbrev DE := Sto → (PyData → Prop) → XD → Prop
abbrev DA := Sto → (List PyData → Prop) → XD → Prop
structure DEnds where
  nx : Sto → Prop
  rt : Slot → Prop
  ex : Exn → Sto → Prop
  bk : Sto → Prop := fun _ => False
  ct : Sto → Prop := fun _ => False
abbrev DEnds.xd (D : DEnds) (ρ : Sto) : XD := fun x => D.ex x ρ
def Sq (K : PySem.W.Frag) : Bool → Hp → Hp → Addr → List V → Prop
  | true => fun G _ a xs => SqN K G a xs
  | false => fun _ H a xs => H a = some (.lst xs)
def dat : Bool → List PyData → PyData
  | true => .tuple
  | false => .list
theorem Sq.any {K : PySem.W.Frag} {b : Bool} {G H : Hp} {a : Addr} {xs : List V} (gh : Same G H) (h : Sq K b G H a xs) : SqL K H a xs ∨ SqT K H a xs := by
  cases b
  · exact .inl (SqL.of h)
  · exact .inr (sqT_mono gh (SqN.t h))
section
variable (K : PySem.W.Frag) (W : XW)
def XOk (G0 H0 G H : Hp) (σ : L2.St) (ρ : Sto) (Xd : XD) : Prop := ∀ G' H' x cls d, Ok K G0 H0 G' H' σ ρ → Gr G H G' H' → ExcOk K W.1 G' H' x cls d → Xd x → W.2 cls d σ H'
def upE (de : DE) : TE := fun σ H Q => ∃ G0 H0 G ρ Qd Xd, Ok K G0 H0 G H σ ρ ∧ de ρ Qd Xd ∧ (∀ G' H' v d, Ok K G0 H0 G' H' σ ρ → Gr G H G' H' → Rp K G' v d → Qd d → Q v H') ∧ XOk K W G0 H0 G H σ ρ Xd
def RetOk (G0 H0 : Hp) (s : Slot) (v : V) (H' : Hp) : Prop := ∃ G', Same G0 G' ∧ Ex H0 H' ∧ Same G' (nt H') ∧ (∀ a o, G' a = some o → G0 a = some o ∨ NS H0 a) ∧
  match s with
  | .sh d => Rp K G' v d
  | .ow o => ∃ p ho, v = .ref p ∧ NF H0 p ∧ G' p = none ∧ H' p = some ho ∧ HoOk K G' ho o
  | .no => False
  | .tr _ _ => False
  /- None, where the list at p, one of the caller's, has become es -/
  | .raw v0 x => v = v0 ∧ ∃ p f es, x = some (p, [(f, PyData.list es)]) ∧ NF H0 p ∧ G' p = none ∧ ∃ ys, H' p = some (.lst ys) ∧ RpAll K G' ys es
end
def QE (X : Cx) (W : XW) (e : Expr) (de : DE) : Prop := PE X e (upE X.K W de)
theorem PE.sub {X : Cx} {e : Expr} {t t' : TE} (h : PE X e t) (s : ∀ σ H Q, t' σ H Q → t σ H Q) : PE X e t' := ⟨fun pins st σ H Q I hw => h.run pins st σ H Q I (s σ H Q hw)⟩
theorem PT.sub {X : Cx} {e : Expr} {t t' : TT} (h : PT X e t) (s : ∀ σ H Q, t' σ H Q → t σ H Q) : PT X e t' := ⟨fun pins st σ H Q I hw => h.run pins st σ H Q I (s σ H Q hw)⟩
theorem PA.sub {X : Cx} {e : List Expr} {t t' : TA} (h : PA X e t) (s : ∀ σ H Q, t' σ H Q → t σ H Q) : PA X e t' := ⟨fun pos pins st σ H Q I hw => h.run pos pins st σ H Q I (s σ H Q hw)⟩
theorem PS.sub {X : Cx} {e : Stmt} {t t' : TS} (h : PS X e t) (s : ∀ D σ H, t' D σ H → t D σ H) : PS X e t' := ⟨fun pins st σ H D I hw => h.run pins st σ H D I (s D σ H hw)⟩
theorem PSs.sub {X : Cx} {e : List Stmt} {t t' : TS} (h : PSs X e t) (s : ∀ D σ H, t' D σ H → t D σ H) : PSs X e t' := ⟨fun pins st σ H D I hw => h.run pins st σ H D I (s D σ H hw)⟩
end WH
namespace WH
open PySem PySem.Spec L2
variable [TabC] [ObjB]
section
variable {X : Cx} {W : XW}
def d2 (f : PyData → PyData → (PyData → Prop) → Prop) (da db : DE) : DE := fun ρ Q X => da ρ (fun x => db ρ (fun y => f x y Q) X) X
theorem PW.sub {X : Cx} {e : Expr} {t t' : TT} (h : PW X e t) (s : ∀ σ H Q, t' σ H Q → t σ H Q) : PW X e t' := ⟨fun wh pins st σ H Q I hw => h.run wh pins st σ H Q I (s σ H Q hw)⟩
theorem rp_lstNew {K : PySem.W.Frag} {G : Hp} {p : Addr} {xs : List V} {ds : List PyData} (hg : G p = none) (h : RpAll K G xs ds) : Rp K (upd G p (.lst xs)) (.ref p) (.list ds) := .lst upd_same (rpa_mono (same_upd hg) h)
end
end WH
namespace WH
open PySem PySem.Spec L2
variable [TabC] [ObjB]
section
variable {X : Cx} {W : XW} {a b : Expr} {pos : Pos} {da db : DE}
theorem PO.sub {X : Cx} {e : Option Expr} {t t' : TO} (h : PO X e t) (s : ∀ σ H Q, t' σ H Q → t σ H Q) : PO X e t' := ⟨fun pins st σ H Q I hw => h.run pins st σ H Q I (s σ H Q hw)⟩
end
end WH
namespace WH
open PySem PySem.Spec L2
variable [TabC] [ObjB]
section
variable {X : Cx} {W : XW}
theorem PG.sub {X : Cx} {e : Expr} {t t' : TG} (h : PG X e t) (s : ∀ v σ H Q, t' v σ H Q → t v σ H Q) : PG X e t' := ⟨fun pins st σ H v u Q I r hw => h.run pins st σ H v u Q I r (s v σ H Q hw)⟩
theorem PGs.sub {X : Cx} {e : List Expr} {t t' : TGs} (h : PGs X e t) (s : ∀ v σ H Q, t' v σ H Q → t v σ H Q) : PGs X e t' := ⟨fun pins st σ H v u Q I r hw => h.run pins st σ H v u Q I r (s v σ H Q hw)⟩
end
end WH
namespace WH
open PySem PySem.Spec L2
variable [TabC] [ObjB]
theorem PI.sub {X : Cx} {tg e : Expr} {t t' : TI} (h : PI X tg e t) (s : ∀ σ H R, t' σ H R → t σ H R) : PI X tg e t' := ⟨fun pins st σ H R I hw => h.run pins st σ H R I (s σ H R hw)⟩
section
variable {X : Cx} {W : XW} {tg : Expr}
theorem Ok.rebase {K : PySem.W.Frag} {G0 H0 G H : Hp} {σ : L2.St} {ρ : Sto} (k : Ok K G0 H0 G H σ ρ) : Ok K G H0 G H σ ρ := ⟨k.gn, Same.refl _, k.h0, k.tb, fun a o e => .inl e, k.len, k.sh, k.ow, k.ap, k.rw, k.tr, k.bB⟩
theorem nw_trans {G0 H0 G G' : Hp} (n1 : ∀ a o, G a = some o → G0 a = some o ∨ NS H0 a) (n2 : ∀ a o, G' a = some o → G a = some o ∨ NS H0 a) : ∀ a o, G' a = some o → G0 a = some o ∨ NS H0 a := fun a o e => by
  rcases n2 a o e with z | z
  · exact n1 a o z
  · exact .inr z
theorem Ok.unbase {K : PySem.W.Frag} {G0 H0 G H G' H' : Hp} {σ σ' : L2.St} {ρ ρ' : Sto} (k : Ok K G0 H0 G H σ ρ) (k' : Ok K G H0 G' H' σ' ρ') : Ok K G0 H0 G' H' σ' ρ' := ⟨k'.gn, k.g0.trans k'.g0, k'.h0, k'.tb, nw_trans k.nw k'.nw, k'.len, k'.sh, k'.ow, k'.ap, k'.rw, k'.tr, k'.bB⟩
theorem RetOk.unbase {K : PySem.W.Frag} {G0 H0 G H : Hp} {σ : L2.St} {ρ : Sto} {s : Slot} {v : V} {H' : Hp} (k : Ok K G0 H0 G H σ ρ) (r : RetOk K G H0 s v H') : RetOk K G0 H0 s v H' := by
  obtain ⟨G', r1, r2, r3, r4, r5⟩ := r
  exact ⟨G', k.g0.trans r1, r2, r3, nw_trans k.nw r4, r5⟩
theorem PTs.sub {X : Cx} {e : List Expr} {t t' : TT} (h : PTs X e t) (s : ∀ σ H Q, t' σ H Q → t σ H Q) : PTs X e t' := ⟨fun pins st σ H Q I hw => h.run pins st σ H Q I (s σ H Q hw)⟩
abbrev Ct := List PyData → (Slot → Prop) → XD → Prop
def slotD : Slot → Option PyData
  | .sh d => some d
  | .ow (.lst ds) => some (.list ds)
  | _ => none
theorem RetOk.sh {K : PySem.W.Frag} {G0 H0 G H : Hp} {σ : L2.St} {ρ : Sto} {s : Slot} {v : V} {H' : Hp} {d : PyData} (k : Ok K G0 H0 G H σ ρ) (r : RetOk K G H s v H') (hd : slotD s = some d) : ∃ G', Ok K G0 H0 G' H' σ ρ ∧ Gr G H G' H' ∧ Rp K G' v d := by
  obtain ⟨G', r1, r2, r3, r4, r5⟩ := r
  have k' : Ok K G0 H0 G' H' σ ρ := k.grow r1 r2 r3 r4
  cases s with
  | no => exact r5.elim
  | raw _ _ => cases hd
  | tr _ _ => cases hd
  | sh e =>
    cases hd
    exact ⟨G', k', ⟨r1, r2, r4⟩, r5⟩
  | ow o =>
    obtain ⟨p, ho, rfl, n1, n2, n3, n4⟩ := r5
    cases o with
    | lst ds =>
      cases hd
      cases ho with
      | lst xs =>
        refine ⟨upd G' p (.lst xs), k'.freeze n3 n2 (k.h0.free n1) fun i u e z => ?_, ⟨r1.trans (same_upd n2), r2, fun a u e => ?_⟩, rp_lstNew n2 n4⟩
        · obtain ⟨a, ho', z1, z2, _, _, z5⟩ := k.ow i u e
          rw [z1] at z
          cases z
          exact nf_no z2 (hoOk_ntb z5) n1
        · by_cases ha : a = p
          · subst ha; exact .inr (.inl n1)
          · rw [upd_ne ha] at e; exact r4 a u e
      | _ => exact n4.elim
    | dic _ => cases hd
    | set _ _ => cases hd
    | ndic _ => cases hd
end
end WH
namespace WH
open PySem PySem.Spec L2
instance (priority := low) tabNil : TabC := ⟨[]⟩
instance (priority := low) objNone : ObjB := objNil
end WH
namespace WH
open PySem PySem.Spec L2
variable [TabC] [ObjB]
section
variable {X : Cx} {W : XW} {a b e : Expr} {p pos apos cpos : Pos} {da db de : DE}
abbrev DJ := Str → Sto → (Str → Prop) → XD → Prop
inductive QJ (X : Cx) (W : XW) : List Expr → DJ → Prop where
  | nil : QJ X W [] (fun acc _ Q _ => Q acc)
  | lit {s : Str} {j : Nat} {p : Pos} {es : List Expr} {dj : DJ} (r : QJ X W es dj) : QJ X W (.Constant (.str s) j p :: es) (fun acc ρ Q X => acc.length + s.length ≤ 100000 ∧ dj (acc ++ s) ρ Q X)
  | val {e : Expr} {p : Pos} {es : List Expr} {de : DE} {dj : DJ} (h : QE X W e de) (r : QJ X W es dj) :
      QJ X W (.FormattedValue e (-1) none p :: es) (fun acc ρ Q X => de ρ (fun d => (∃ y : Str, d = .str y ∧ acc.length + y.length ≤ 100000 ∧ dj (acc ++ y) ρ Q X) ∨ ∃ i : Int, d = .int i ∧ i.natAbs < 2 ^ 200 ∧ acc.length + (PySem.Str.ofString (toString i)).length ≤ 100000 ∧ dj (acc ++ PySem.Str.ofString (toString i)) ρ Q X) X)
end
end WH
namespace WH
section
open PySem PySem.W PySem.Calls PyProof.Rows PySem.HandSPX Builtin Builtin.ObjectAttr
def refsT (tl : List Value) : List Value → Bool
  | .ref _ :: r => refsT tl r
  | l => l == tl
structure BsX (nw : String) (tl : List Value) : Prop where
  base : ∃ B ini, ExcBaseFacts B nw ini tl
  pass : ∀ self : Value, refuseLoop self "__setattr__" tl = pure ()
  obj : tl.contains (.type "object") = true
variable {P : Program} {w : World} {A : Around} {R : Result → Shared → Prop} {h0 : Heap} {gs : Array GenState} {dr : Drawn} {tk0 : Nat} {os : OsState}
end
open PySem PySem.Spec L2 PyProof.Rows
structure OexG (K : PySem.W.Frag) (C : Addr) : Prop where
  cls : ∃ nw tl nm q N bs bm sn sub ab col dd k0 k1 k2 k3 k5, BsX nw tl ∧ K.lookup C = some (excClassObj nm q C N bs bm true sn sub ab col dd k0 k1 k2 k3 k5 nw) ∧ refsT tl bm = true
  sa : PySem.W.findIn K (.ref C) "__setattr__" = some (some (.builtin "object.__setattr__"))
  exC : PySem.W.subIn K (.ref C) (.type "BaseException") = some true
  tyC : PySem.W.typeIn K (.ref C) = some (.type "type")
  kC : PySem.W.keepIn K (.ref C) = true
end WH
namespace WH
open PySem PySem.Spec L2
variable [TabC] [ObjB]
abbrev leT : List Value := [.type "LookupError", .type "Exception", .type "BaseException", .type "object"]
abbrev ieT : List Value := [.type "IndexError", .type "LookupError", .type "Exception", .type "BaseException", .type "object"]
def exT (n : String) (bm : List Value) : Bool := (n == "ValueError.__new__" && refsT PySem.HandSPX.veTail bm) || ((n == "LookupError.__new__" && refsT leT bm) || (n == "IndexError.__new__" && refsT ieT bm))
def oexA (K : PySem.W.Frag) (C : Addr) : Bool := match K.lookup C with
  | some ⟨.type "type", _, .cls cd, sl⟩ => (match cd.mro, sl.toList with
    | .ref C' :: bm, [_, _, _, _, some (.builtin n), _] => C' == C && !cd.hasDel && cd.hasDict && exT n bm
    | _, _ => false)
  | _ => false
def cBody : Stmt → List Stmt
  | .ClassDef _ _ _ b _ _ _ _ _ _ _ => b
  | _ => []
def xcB (K : PySem.W.Frag) (x : Str) (fs : List Str) : Bool := oexA K (He.ga K x) && decide (PySem.W.findIn K (.ref (He.ga K x)) "__setattr__" = some (some (.builtin "object.__setattr__"))) && decide (PySem.W.subIn K (.ref (He.ga K x)) (.type "BaseException") = some true) && decide (PySem.W.typeIn K (.ref (He.ga K x)) = some (.type "type")) && PySem.W.keepIn K (.ref (He.ga K x)) &&
  decide (PySem.W.findIn K (.ref (He.ga K x)) "__init__" = some (some (.ref (He.ma K (He.ga K x) "__init__")))) && decide (PySem.W.typeIn K (.ref (He.ma K (He.ga K x) "__init__")) = some (.type "function")) && fs.all fun f => decide (PySem.W.findIn K (.ref (He.ga K x)) f = some none)
structure XC (K : PySem.W.Frag) (x : Str) (fs : List Str) : Prop where
  o : OexG K (He.ga K x)
  i : PySem.W.findIn K (.ref (He.ga K x)) "__init__" = some (some (.ref (He.ma K (He.ga K x) "__init__")))
  t : PySem.W.typeIn K (.ref (He.ma K (He.ga K x) "__init__")) = some (.type "function")
  n : ∀ f ∈ fs, PySem.W.findIn K (.ref (He.ga K x)) f = some none
end WH
namespace WH
open PySem PySem.Spec L2 PyProof.Rows
variable [TabC] [ObjB]
def Tst (X : Cx) (te : Expr) (cs : List Value) : Prop := ∀ (a : Addr) (oe : Obj) (pn : List (Addr × Obj)) (σ : L2.St) (H : Hp) (s : Shared) (cls : Value) (b : Bool), Inv (X.suite a ((a, oe) :: pn)) [] σ H s → oe.cls = cls → PySem.W.exmAny X.K cls cs = some b →
  ∀ (Q : Bool → Shared → Prop) (E : Value → Shared → Prop), (∀ h', (∀ q o, s.heap.get? q = some o → h'.get? q = some o) → Q b { s with heap := h' }) →
    wpAny (model X.prog X.w) (X.A.mark (some (.ref a))) (eval te X.env) (fun c s1 => wpAny (model X.prog X.w) (X.A.mark (some (.ref a))) (excMatches (.ref a) c) Q E s1) E s
inductive Hds (X : Cx) (n : Str) : List ExceptHandler → List (List Value × (Addr → Value → Option Addr → TS)) → Prop
  | nil : Hds X n [] []
  | cons {te : Expr} {cs : List Value} {ts : Addr → Value → Option Addr → TS} {b0 : Stmt} {suite : List Stmt} {pos' : Pos} {hds : List ExceptHandler} {l : List (List Value × (Addr → Value → Option Addr → TS))} (ht : Tst X te cs)
      (hsu : ∀ (a : Addr) (oe : Obj) (cls : Value) (d : Option Addr) (pn : List (Addr × Obj)), L2N.Zn cls d oe → (∃ vs, oe.data = .fields vs) → PSs (X.suite a ((a, oe) :: pn)) (b0 :: suite) (ts a cls d)) (r : Hds X n hds l) :
      Hds X n (.ExceptHandler (some te) (some n) (b0 :: suite) pos' :: hds) ((cs, ts) :: l)
end WH
namespace WH
open PySem PySem.Spec L2 PyProof.Rows L2H
variable [TabC] [ObjB]
structure ExP (X : Cx) (a : Addr) (oe : Obj) (D dd : Addr) : Prop where
  pn : (a, oe) ∈ X.pn
  z : L2N.Zn (.ref D) (some dd) oe
  f : ∃ vs, oe.data = .fields vs
end WH
namespace WH
open PySem PySem.Spec L2 PyProof.Rows L2H
variable [TabC] [ObjB]
def callNames : List Str := ["BadTable", "BadText", "BadChoice", "BadOrder", "BadMany", "BadScheme", "BadWishes", "BadTurn", "Full", "TooWide", "NoScheme", "Ended", "Still", "Busy", "Idle", "Undone", "NoStand", "NoOperation", "NoHand", "NothingLeft"]
structure CalF (K : PySem.W.Frag) (mg : Str → Option Value) (nm : Str) (D : Addr) : Prop where
  me : mg nm = some (.ref D)
  C : ExcC K D
  T : XfC K D
  n : ∀ f ∈ (["word", "at", "hand", "row", "most", "level"] : List Str), PySem.W.findIn K (.ref D) f = some none
  k : ∀ c ∈ callNames, ∃ C, mg c = some (.ref C) ∧ PySem.W.kitOne K (.ref D) (.ref C) = some (decide (c = nm))
end WH
namespace WH
open PySem PySem.Spec L2 PyProof.Rows L2H LamX
variable [TabC] [ObjB]
structure TrF (K : PySem.W.Frag) (mg : Str → Option Value) (cs : List (List Value)) (nm : Str) (D : Addr) (c : Nat) : Prop where
  cal : CalF K mg nm D
  cn : nm ∈ callNames
  no : ∀ j, j < c → PySem.W.exmAny K (.ref D) (cs.getD j []) = some false
  ye : PySem.W.exmAny K (.ref D) (cs.getD c []) = some true
end WH
namespace WH
open PySem PySem.Spec L2 PyProof.Rows L2H LamX
variable [TabC] [ObjB]
structure TabX (X : Cx) : Prop where
  ex : ∃ c P, TabB X.base X.mg c P ∧ X.env.code = .ref c ∧ (P, X.env.qual ++ "<lambda>") ∈ TabC.T ∧ ∀ p ∈ TabC.T, p.1 = P → p.2 = X.env.qual ++ "<lambda>"
end WH
namespace LamX
open PySem PySem.Spec PyProof.Rows L2
structure FnOkG (P : Program) (w : World) (K : PySem.W.Frag) (mg : Str → Option Value) (base : Heap) (CX : CXT) (k : Nat) (f : Addr) (fd : FuncData) (ps : List Str) (sp : Sp) : Prop where
  len : ∀ vs H Q E, sp vs H Q E → vs.length = ps.length
  run : ∀ (A : Around) (outer : List Env) (s : Shared) (H : Hp) (args : Args) (us : List Value) (vs : List V) (Q : VK) (E : XK), Room k A → A.guards = some [] → Env0 P w K mg base A outer s H → BindsTo s fd args (ps.zip us) → Vals vs us → sp vs H Q E →
    codeAny (model P w) A (.call (.ref f) args) (CR CX outer P w H s Q E) s
end LamX
namespace WH
open PySem PySem.Spec L2 PyProof.Rows L2H LamX PySem.W
variable [TabC] [ObjB]
structure LamP (sc scope : Scope) (p : Str) : Prop where
  kind : scope.kind = .function
  co : scope.isCoroutine = false
  gen : scope.isGenerator = false
  own : ∀ y ∈ scope.names, (y.2 = .local → y.1 = p) ∧ y.2 ≠ .cell
  nul : ∀ y ∈ scope.names, y.1 ≠ ""
  free : ∀ y ∈ scope.names, y.2 = .free → sc.names.lookup y.1 = some .cell ∨ sc.names.lookup y.1 = some .free
  par : scope.names.lookup p = some .local
theorem LamP.has {X : Cx} {scope : Scope} {p : Str} (L : LamP X.env.scope scope p) (ok : X.Ok) : ∀ y ∈ scope.names, y.2 = .free → ∃ c, X.env.cells.lookup y.1 = some c := fun y hy e => by
  rcases L.free y hy e with k | k
  · exact ok.has _ (.inl k)
  · exact ok.has _ (.inr k)
end WH
namespace WH
open PySem PySem.Spec L2
inductive OT where
  | dat (d : PyData)
  | lst (ts : List OT)
  | dik (kvs : List (Key × OT))
  | dit (kvs : List (List Key × OT))
mutual
def toD : OT → PyData
  | .dat d => d
  | .lst ts => .list (toDs ts)
  | .dik kvs => .dict (toDk kvs)
  | .dit kvs => .dict (toDt kvs)
def toDs : List OT → List PyData
  | [] => []
  | t :: ts => toD t :: toDs ts
def toDk : List (Key × OT) → List (PyData × PyData)
  | [] => []
  | (k, t) :: r => (kD k, toD t) :: toDk r
def toDt : List (List Key × OT) → List (PyData × PyData)
  | [] => []
  | (k, t) :: r => (.tuple (k.map kD), toD t) :: toDt r
end
mutual
/-- v stands for the tree; its own objects' addresses -/
inductive TAt (K : PySem.W.Frag) (G H : Hp) : V → OT → List Addr → Prop
  | dat {v : V} {d : PyData} : Rp K G v d → TAt K G H v (.dat d) []
  | lst {a : Addr} {xs : List V} {ts : List OT} {fp : List Addr} : H a = some (.lst xs) → TAts K G H xs ts fp → TAt K G H (.ref a) (.lst ts) (a :: fp)
  | dik {a : Addr} {xs : List (Key × V)} {ts : List (Key × OT)} {fp : List Addr} : H a = some (.dK xs) → TAtK K G H xs ts fp → TAt K G H (.ref a) (.dik ts) (a :: fp)
  | dit {a : Addr} {xs : List (List Key × V)} {ts : List (List Key × OT)} {fp : List Addr} : H a = some (.dT xs) → TAtT K G H xs ts fp → TAt K G H (.ref a) (.dit ts) (a :: fp)
inductive TAts (K : PySem.W.Frag) (G H : Hp) : List V → List OT → List Addr → Prop
  | nil : TAts K G H [] [] []
  | cons {v : V} {t : OT} {f : List Addr} {vs : List V} {ts : List OT} {fs : List Addr} : TAt K G H v t f → TAts K G H vs ts fs → TAts K G H (v :: vs) (t :: ts) (f ++ fs)
inductive TAtK (K : PySem.W.Frag) (G H : Hp) : List (Key × V) → List (Key × OT) → List Addr → Prop
  | nil : TAtK K G H [] [] []
  | cons {k : Key} {v : V} {t : OT} {f : List Addr} {vs : List (Key × V)} {ts : List (Key × OT)} {fs : List Addr} : TAt K G H v t f → TAtK K G H vs ts fs → TAtK K G H ((k, v) :: vs) ((k, t) :: ts) (f ++ fs)
inductive TAtT (K : PySem.W.Frag) (G H : Hp) : List (List Key × V) → List (List Key × OT) → List Addr → Prop
  | nil : TAtT K G H [] [] []
  | cons {k : List Key} {v : V} {t : OT} {f : List Addr} {vs : List (List Key × V)} {ts : List (List Key × OT)} {fs : List Addr} : TAt K G H v t f → TAtT K G H vs ts fs → TAtT K G H ((k, v) :: vs) ((k, t) :: ts) (f ++ fs)
end
section
variable {K : PySem.W.Frag} {G H G' H' : Hp}
def Node (H : Hp) (a : Addr) : Prop := ∃ o, H a = some o ∧ NTb o ∧ (∀ f, o ≠ .ext f) ∧ ∀ xs, o ≠ .tup xs
theorem or_app {f fs : List Addr} {P : Addr → Prop} (h1 : ∀ a ∈ f, P a) (h2 : ∀ a ∈ fs, P a) : ∀ a ∈ f ++ fs, P a := fun a ha => by
  rcases List.mem_append.mp ha with q | q
  · exact h1 a q
  · exact h2 a q
theorem or_cons {x : Addr} {fs : List Addr} {P : Addr → Prop} (h1 : P x) (h2 : ∀ a ∈ fs, P a) : ∀ a ∈ x :: fs, P a := fun a ha => by
  rcases List.mem_cons.mp ha with rfl | q
  · exact h1
  · exact h2 a q
theorem tat_node {v : V} {t : OT} {fp : List Addr} (h : TAt K G H v t fp) : ∀ a ∈ fp, Node H a :=
  TAt.rec (motive_1 := fun v t fp _ => ∀ a ∈ fp, Node H a) (motive_2 := fun v t fp _ => ∀ a ∈ fp, Node H a) (motive_3 := fun v t fp _ => ∀ a ∈ fp, Node H a) (motive_4 := fun v t fp _ => ∀ a ∈ fp, Node H a)
    (fun _ _ h => nomatch h) (fun e _ ih => or_cons ⟨_, e, (fun _ z => by cases z), (fun _ z => by cases z), fun _ z => by cases z⟩ ih) (fun e _ ih => or_cons ⟨_, e, (fun _ z => by cases z), (fun _ z => by cases z), fun _ z => by cases z⟩ ih) (fun e _ ih => or_cons ⟨_, e, (fun _ z => by cases z), (fun _ z => by cases z), fun _ z => by cases z⟩ ih)
    (fun _ h => nomatch h) (fun _ _ i j => or_app i j) (fun _ h => nomatch h) (fun _ _ i j => or_app i j) (fun _ h => nomatch h) (fun _ _ i j => or_app i j) h
abbrev Tau := List (Addr × OT)
inductive TRoots (K : PySem.W.Frag) (G H : Hp) : Tau → List Addr → Prop
  | nil : TRoots K G H [] []
  | cons {a : Addr} {t : OT} {f : List Addr} {τ : Tau} {fs : List Addr} : TAt K G H (.ref a) t f → TRoots K G H τ fs → TRoots K G H ((a, t) :: τ) (f ++ fs)
theorem tr_node : ∀ {τ : Tau} {fp : List Addr}, TRoots K G H τ fp → ∀ a ∈ fp, Node H a
  | _, _, .nil => fun _ h => nomatch h
  | _, _, .cons a t => or_app (tat_node a) (tr_node t)
end
def mixH (H0 H : Hp) (fp : List Addr) : Hp := fun a => if a ∈ fp then H a else H0 a
theorem mix_in {H0 H : Hp} {fp : List Addr} {a : Addr} (h : a ∈ fp) : mixH H0 H fp a = H a := if_pos h
theorem mix_out {H0 H : Hp} {fp : List Addr} {a : Addr} (h : a ∉ fp) : mixH H0 H fp a = H0 a := if_neg h
theorem nt_congr {H H' : Hp} {a : Addr} (h : H a = H' a) : nt H a = nt H' a := by unfold nt; rw [h]
theorem ns_mix {H0 H : Hp} {fp : List Addr} {a : Addr} (hn : ∀ a ∈ fp, Node H a) (h : NS (mixH H0 H fp) a) : a ∉ fp ∧ NS H0 a := by
  have ne : a ∉ fp := fun z => by
    obtain ⟨o, e, n, _, nt⟩ := hn a z
    exact ns_no ((mix_in z).trans e) n nt h
  refine ⟨ne, ?_⟩
  unfold NS NF at h ⊢
  rw [nt_congr (mix_out ne), mix_out ne] at h
  exact h
theorem ns_mix' {H0 H : Hp} {fp : List Addr} {a : Addr} (ne : a ∉ fp) (h : NS H0 a) : NS (mixH H0 H fp) a := by
  unfold NS NF at h ⊢
  rw [nt_congr (mix_out ne), mix_out ne]
  exact h
variable [TabC] [ObjB]
structure OkT (K : PySem.W.Frag) (G0 H0 G H : Hp) (σ : L2.St) (ρ : Sto) (τ : Tau) : Prop where
  ex : ∃ fp, Ok K G0 (mixH H0 H fp) G H σ ρ ∧ TRoots K G H τ fp ∧ fp.Nodup ∧ (∀ a ∈ fp, (NF H0 a ∧ ObjB.B a = none) ∧ G0 a = none ∧ G a = none) ∧ Ex H0 H
theorem tabs_mix {H0 H : Hp} {fp : List Addr} (hn : ∀ a ∈ fp, Node H a) (hf : ∀ a ∈ fp, NF H0 a) (tH : LamX.Tabs TabC.T H) (t0 : LamX.Tabs TabC.T H0) : LamX.Tabs TabC.T (mixH H0 H fp) := fun q hq => by
  obtain ⟨ps, e1, e2, e3⟩ := t0 q hq
  obtain ⟨ps', f1, _, _⟩ := tH q hq
  have ne : q.1 ∉ fp := fun z => by
    obtain ⟨o, e, n, _⟩ := hn _ z
    rw [f1] at e
    exact n ps' (Option.some.inj e).symm
  refine ⟨ps, (mix_out ne).trans e1, e2, fun pos cv hc => ?_⟩
  obtain ⟨c, e4, e5⟩ := e3 pos cv hc
  refine ⟨c, e4, ?_⟩
  rw [mix_out fun z => nf_no e5 (fun _ z => by cases z) (hf c z)]
  exact e5
theorem ex_mix {H0 H H' : Hp} {fp : List Addr} (hn : ∀ a ∈ fp, Node H a) (hf : ∀ a ∈ fp, NF H0 a) (tH : LamX.Tabs TabC.T H) (e : Ex (mixH H0 H fp) H') : Ex H0 H' :=
  ⟨fun a o h => e.s a o (by
    have ne : a ∉ fp := fun z => by rw [show nt H0 a = none from hf a z] at h; cases h
    rw [nt_congr (mix_out ne)]
    exact h), fun t => e.t (tabs_mix hn hf tH t)⟩
structure DEndsT where
  nx : Sto → Tau → Prop
  rt : Slot → Prop
  ex : Exn → Sto → Prop
  bk : Sto → Tau → Prop := fun _ _ => False
  ct : Sto → Tau → Prop := fun _ _ => False
section
variable {X : Cx} {W : XW}
theorem OkT.rebase {K : PySem.W.Frag} {G0 H0 G H : Hp} {σ : L2.St} {ρ : Sto} {τ : Tau} (k : OkT K G0 H0 G H σ ρ τ) : OkT K G H0 G H σ ρ τ := by
  obtain ⟨fp, k, tr, nd, fr, h0⟩ := k
  exact ⟨fp, k.rebase, tr, nd, fun a ha => ⟨(fr a ha).1, (fr a ha).2.2, (fr a ha).2.2⟩, h0⟩
theorem OkT.base {K : PySem.W.Frag} {G0 H0 G H : Hp} {σ : L2.St} {ρ : Sto} {τ : Tau} (k : OkT K G0 H0 G H σ ρ τ) : Same G0 G ∧ Same G (nt H) ∧ ∀ a o, G a = some o → G0 a = some o ∨ NS H0 a := by
  obtain ⟨fp, k, tr, nd, fr, h0⟩ := k
  refine ⟨k.g0, k.gn, fun a o e => ?_⟩
  rcases k.nw a o e with z | z
  · exact .inl z
  · exact .inr (ns_mix (tr_node tr) z).2
theorem OkT.unbase {K : PySem.W.Frag} {G0 H0 G H G' H' : Hp} {σ σ' : L2.St} {ρ ρ' : Sto} {τ τ' : Tau} (k : OkT K G0 H0 G H σ ρ τ) (k' : OkT K G H0 G' H' σ' ρ' τ') : OkT K G0 H0 G' H' σ' ρ' τ' := by
  obtain ⟨g0, gn, nw⟩ := k.base
  obtain ⟨fp', k', tr', nd', fr', h0'⟩ := k'
  have hn := tr_node tr'
  refine ⟨fp', ⟨k'.gn, g0.trans k'.g0, k'.h0, k'.tb, fun a o e => ?_, k'.len, k'.sh, k'.ow, k'.ap, k'.rw, k'.tr, k'.bB⟩, tr', nd', fun a ha => ⟨(fr' a ha).1, ?_, (fr' a ha).2.2⟩, h0'⟩
  · rcases k'.nw a o e with z | z
    · rcases nw a o z with y | y
      · exact .inl y
      · refine .inr (ns_mix' (fun m => ?_) y)
        have := (fr' a m).2.2
        rw [e] at this
        cases this
    · exact .inr z
  · cases q : G0 a with
    | none => rfl
    | some o =>
      have := g0 a o q
      rw [(fr' a ha).2.1] at this
      cases this
end
end WH
namespace WH
open PySem PySem.Spec PyProof.Rows L2
inductive IsDI (H : Hp) (a : Addr) : List (V × V) → Prop
  | dk {kvs : List (Key × V)} : Rd H a (.dK kvs) → IsDI H a (kvs.map fun p => (kV p.1, p.2))
  | dt {kvs : List (List Key × V)} {bs : List Addr} : Rd H a (.dT kvs) → Paired (fun b (p : List Key × V) => H b = some (.tup (p.1.map kV))) bs kvs → IsDI H a ((bs.zip kvs).map fun z => (V.ref z.1, z.2.2))
section
variable [TabC] [ObjB] {X : Cx} {W : XW}
inductive RpP (K : PySem.W.Frag) (G : Hp) : List (V × V) → List (PyData × PyData) → Prop
  | nil : RpP K G [] []
  | cons {p : V × V} {d : PyData × PyData} {ps : List (V × V)} {ds : List (PyData × PyData)} : Rp K G p.1 d.1 → Rp K G p.2 d.2 → RpP K G ps ds → RpP K G (p :: ps) (d :: ds)
end
end WH
namespace WH
open PySem PySem.Spec L2 PyProof.Rows L2H LamX
def ecB (K : PySem.W.Frag) (D : Addr) : Bool :=
  decide (PySem.W.findIn K (.ref D) "__getattribute__" = some (some (.builtin "BaseException.__getattribute__"))) &&
  (decide (PySem.W.findIn K (.ref D) "__getattr__" = some none) &&
  (decide (PySem.W.subIn K (.ref D) (.type "BaseException") = some true) &&
  (PySem.W.hasDictIn K D &&
  (decide (PySem.W.findIn K (.ref D) "__class__" = some (some (.builtin "object.__class__"))) &&
  (decide (PySem.W.specialIn K (.builtin "object.__class__") "__get__" = some (some (.builtin "getset_descriptor.__get__"))) &&
  (decide (PySem.W.takesIn K (.builtin "object.__class__") = some true) &&
  decide (PySem.W.mroIn K D (.type "object") = some true)))))))
def calB (K : PySem.W.Frag) (nm : Str) : Bool := ecB K (He.ga K nm) && (xfB K (He.ga K nm) && ((["word", "at", "hand", "row", "most", "level"] : List Str).all (fun f => decide (PySem.W.findIn K (.ref (He.ga K nm)) f = some none)) &&
  callNames.all (fun c => decide (PySem.W.kitOne K (.ref (He.ga K nm)) (.ref (He.ga K c)) = some (decide (c = nm))))))
def clsT (K : PySem.W.Frag) : List (List Value) := [[.ref (He.ga K "BadTable"), .ref (He.ga K "BadText"), .ref (He.ga K "Undone")], [.ref (He.ga K "BadScheme")], [.ref (He.ga K "TooWide")], [.ref (He.ga K "NoScheme")], [.ref (He.ga K "HandError"), .ref (He.ga K "Missing"), .ref (He.ga K "NothingLeft")]]
def trB (K : PySem.W.Frag) (p : Str × Nat) : Bool := callNames.contains p.1 && (calB K p.1 && ((List.range p.2).all (fun j => decide (PySem.W.exmAny K (.ref (He.ga K p.1)) ((clsT K).getD j []) = some false)) && decide (PySem.W.exmAny K (.ref (He.ga K p.1)) ((clsT K).getD p.2 []) = some true)))
end WH
namespace WH
open PySem PySem.Spec PyProof.Rows L2
theorem sAtF_at {K : PySem.W.Frag} {G H : Hp} {f : Str} : ∀ {vs : List (Str × V)} {fs : List (Str × ST)} {fp : List Addr}, SAtF K G H vs fs fp →
    (∀ t, fs.lookup f = some t → ∃ v g, vs.lookup f = some v ∧ SAt K G H v t g ∧ ∀ b ∈ g, b ∈ fp) ∧ (fs.lookup f = none → vs.lookup f = none)
  | _, _, _, .nil => ⟨fun _ h => (nomatch h), fun _ => rfl⟩
  | _, _, _, .cons (k := k) (f := f1) (fs := f2) a t => by
    obtain ⟨i1, i2⟩ := sAtF_at (f := f) t
    rw [List.lookup_cons, List.lookup_cons]
    cases f == k with
    | true => exact ⟨fun u h => by cases h; exact ⟨_, _, rfl, a, fun b hb => List.mem_append.mpr (.inl hb)⟩, fun h => (nomatch h)⟩
    | false => exact ⟨fun u h => let ⟨v, g, h1, h2, h3⟩ := i1 u h; ⟨v, g, h1, h2, fun b hb => List.mem_append.mpr (.inr (h3 b hb))⟩, i2⟩
variable [TabC] [ObjB]
section
variable {K : PySem.W.Frag} {G0 H0 G H : Hp} {σ : L2.St} {ρ : Sto}
theorem Ok.reg (k : Ok K G0 H0 G H σ ρ) : Same ObjB.B H := fun a o e => nt_some (k.h0.s a o (k.bB a o e))
theorem Ok.ins (k : Ok K G0 H0 G H σ ρ) {i : Nat} {a C : Addr} {fs : List (Str × ST)} (hi : ρ[i]? = some (Slot.tr a (.ins C fs))) : ∃ dx vs fp, σ[i]? = some (some (V.ref a)) ∧ H a = some (.ins C dx vs) ∧ SAtF K G ObjB.B vs fs fp ∧ SAt K G ObjB.B (.ref a) (.ins C fs) (a :: dx :: fp) := by
  obtain ⟨fp, h1, h2⟩ := k.tr i _ _ hi
  have h3 := h2
  cases h2 with
  | ins e1 e2 e3 => exact ⟨_, _, _, h1, k.reg _ _ e1, e3, h3⟩
end
abbrev CtQ := List PyData → ST → (Slot → Prop) → XD → Prop
end WH
namespace WH
open PySem PySem.Spec PyProof.Rows L2
abbrev STau := List (Addr × ST)
inductive SRoots (K : PySem.W.Frag) (G H : Hp) : STau → List Addr → Prop
  | nil : SRoots K G H [] []
  | cons {a : Addr} {t : ST} {f : List Addr} {τ : STau} {fs : List Addr} : SAt K G H (.ref a) t f → SRoots K G H τ fs → SRoots K G H ((a, t) :: τ) (f ++ fs)
section
variable {K : PySem.W.Frag} {G H G' H' : Hp}
theorem sr_frame (gg : Same G G') : ∀ {τ : STau} {fp : List Addr}, SRoots K G H τ fp → (∀ a ∈ fp, H' a = H a) → SRoots K G' H' τ fp
  | _, _, .nil, _ => .nil
  | _, _, .cons a t, hf => .cons (sAt_frame gg a (fp_app hf).1) (sr_frame gg t (fp_app hf).2)
theorem sAt_node {v : V} {t : ST} {fp : List Addr} (h : SAt K G H v t fp) : ∀ a ∈ fp, Node H a :=
  SAt.rec (motive_1 := fun v t fp _ => ∀ a ∈ fp, Node H a) (motive_2 := fun v t fp _ => ∀ a ∈ fp, Node H a) (motive_3 := fun v t fp _ => ∀ a ∈ fp, Node H a)
    (fun _ _ h => nomatch h) (fun e _ => or_cons ⟨_, e, (fun _ z => by cases z), (fun _ z => by cases z), fun _ z => by cases z⟩ (fun _ h => nomatch h)) (fun e _ ih => or_cons ⟨_, e, (fun _ z => by cases z), (fun _ z => by cases z), fun _ z => by cases z⟩ ih)
    (fun e d _ ih => or_cons ⟨_, e, (fun _ z => by cases z), (fun _ z => by cases z), fun _ z => by cases z⟩ (or_cons ⟨_, d, (fun _ z => by cases z), (fun _ z => by cases z), fun _ z => by cases z⟩ ih)) (fun e => or_cons ⟨_, e, (fun _ z => by cases z), (fun _ z => by cases z), fun _ z => by cases z⟩ (fun _ h => nomatch h))
    (fun _ h => nomatch h) (fun _ _ i j => or_app i j) (fun _ h => nomatch h) (fun _ _ i j => or_app i j) h
theorem sr_node : ∀ {τ : STau} {fp : List Addr}, SRoots K G H τ fp → ∀ a ∈ fp, Node H a
  | _, _, .nil => fun _ h => nomatch h
  | _, _, .cons a t => or_app (sAt_node a) (sr_node t)
theorem sr_mem : ∀ {τ : STau} {fp : List Addr}, SRoots K G H τ fp → ∀ {a : Addr} {t : ST}, (a, t) ∈ τ → ∃ f, SAt K G H (.ref a) t f ∧ ∀ b ∈ f, b ∈ fp
  | _, _, .nil, _, _, h => nomatch h
  | _, _, .cons x y, a, t, h => by
    rcases List.mem_cons.mp h with e | h
    · cases e
      exact ⟨_, x, fun b hb => List.mem_append.mpr (.inl hb)⟩
    · obtain ⟨f, h1, h2⟩ := sr_mem y h
      exact ⟨f, h1, fun b hb => List.mem_append.mpr (.inr (h2 b hb))⟩
end
def regH (H : Hp) (fp : List Addr) : Hp := fun a => if a ∈ fp then H a else none
theorem regH_eq {H H' : Hp} {fp : List Addr} (h : ∀ a ∈ fp, H' a = H a) : regH H' fp = regH H fp := by
  funext a
  unfold regH
  by_cases z : a ∈ fp
  · rw [if_pos z, if_pos z, h a z]
  · rw [if_neg z, if_neg z]
theorem mixH_eq {H0 H H' : Hp} {fp : List Addr} (h : ∀ a ∈ fp, H' a = H a) : mixH H0 H' fp = mixH H0 H fp := by
  funext a
  by_cases z : a ∈ fp
  · rw [mix_in z, mix_in z, h a z]
  · rw [mix_out z, mix_out z]
def trIn (ρ : Sto) (τ : STau) : Prop := ∀ (i : Nat) (a : Addr) (t : ST), ρ[i]? = some (Slot.tr a t) → (a, t) ∈ τ
variable [TabC]
structure OkY (K : PySem.W.Frag) (G0 H0 G H : Hp) (σ : L2.St) (ρ : Sto) (τ : STau) : Prop where
  ex : ∃ fp, @Ok _ ⟨regH H fp⟩ K G0 (mixH H0 H fp) G H σ ρ ∧ SRoots K G H τ fp ∧ fp.Nodup ∧ (∀ a ∈ fp, NF H0 a ∧ G0 a = none ∧ G a = none) ∧ Ex H0 H ∧ trIn ρ τ
section
variable {K : PySem.W.Frag} {G0 H0 G H G' H' : Hp} {σ σ' : L2.St} {ρ ρ' : Sto} {τ τ' : STau} {fp : List Addr}
theorem okY_keep (k : @Ok _ ⟨regH H fp⟩ K G0 (mixH H0 H fp) G H σ ρ) (tr : SRoots K G H τ fp) (nd : fp.Nodup) (fr : ∀ a ∈ fp, NF H0 a ∧ G0 a = none ∧ G a = none) (k' : @Ok _ ⟨regH H fp⟩ K G (mixH H0 H fp) G' H' σ' ρ') (ti : trIn ρ' τ) : OkY K G0 H0 G' H' σ' ρ' τ := by
  letI : ObjB := ⟨regH H fp⟩
  have hn := sr_node tr
  have at_ : ∀ a ∈ fp, H' a = H a := fun a ha => by
    obtain ⟨o, e, n, _⟩ := hn a ha
    rw [e]
    exact k'.h0.at ((mix_in ha).trans e) n
  refine ⟨fp, ?_, sr_frame k'.g0 tr at_, nd, fun a ha => ⟨(fr a ha).1, (fr a ha).2.1, ?_⟩, ex_mix hn (fun a ha => (fr a ha).1) k.tb k'.h0, ti⟩
  · rw [mixH_eq at_, regH_eq at_]
    exact k.unbase k'
  cases q : G' a with
  | none => rfl
  | some o =>
    rcases k'.nw a o q with z | z
    · rw [(fr a ha).2.2] at z; cases z
    · exact ((ns_mix hn z).1 ha).elim
def minusH (H : Hp) (fp : List Addr) : Hp := fun a => if a ∈ fp then none else H a
structure LocY (K : PySem.W.Frag) (G H : Hp) (fa : List Addr) (a : Addr) (t : ST) (G' H' : Hp) : Prop where
  gg : Same G G'
  hh : Ex (minusH H fa) H'
  gn : Same G' (nt H')
  nw : ∀ b o, G' b = some o → G b = some o ∨ NS (minusH H fa) b
  at_ : ∃ fb, SAt K G' H' (.ref a) t fb ∧ fb.Nodup ∧ ∀ b ∈ fb, NF (minusH H fa) b ∧ G b = none ∧ G' b = none
end
end WH
namespace WH
open PySem PySem.Spec PyProof.Rows L2
variable [TabC]
def RetY (K : PySem.W.Frag) (G0 H0 : Hp) (d : PyData) (τ : STau) (v : V) (H' : Hp) : Prop := ∃ G' fp, Same G0 G' ∧ Ex H0 H' ∧ Same G' (nt H') ∧ (∀ a o, G' a = some o → G0 a = some o ∨ NS H0 a) ∧ Rp K G' v d ∧ SRoots K G' H' τ fp ∧ fp.Nodup ∧ ∀ a ∈ fp, NF H0 a ∧ G0 a = none ∧ G' a = none
section
variable {K : PySem.W.Frag} {G0 H0 G H G' H' : Hp} {σ σ' : L2.St} {ρ ρ' : Sto} {τ τ' : STau}
theorem OkY.base (k : OkY K G0 H0 G H σ ρ τ) : Same G0 G ∧ Same G (nt H) ∧ ∀ a o, G a = some o → G0 a = some o ∨ NS H0 a := by
  obtain ⟨fp, k, tr, nd, fr, h0, ti⟩ := k
  letI : ObjB := ⟨regH H fp⟩
  refine ⟨k.g0, k.gn, fun a o e => ?_⟩
  rcases k.nw a o e with z | z
  · exact .inl z
  · exact .inr (ns_mix (sr_node tr) z).2
theorem OkY.h0 (k : OkY K G0 H0 G H σ ρ τ) : Ex H0 H := let ⟨_, _, _, _, _, h, _⟩ := k; h
theorem OkY.ti (k : OkY K G0 H0 G H σ ρ τ) : trIn ρ τ := let ⟨_, _, _, _, _, _, h⟩ := k; h
theorem OkY.rebase (k : OkY K G0 H0 G H σ ρ τ) : OkY K G H0 G H σ ρ τ := by
  obtain ⟨fp, k, tr, nd, fr, h0, ti⟩ := k
  exact ⟨fp, @Ok.rebase _ ⟨regH H fp⟩ _ _ _ _ _ _ _ k, tr, nd, fun a ha => ⟨(fr a ha).1, (fr a ha).2.2, (fr a ha).2.2⟩, h0, ti⟩
theorem OkY.unbase (k : OkY K G0 H0 G H σ ρ τ) (k' : OkY K G H0 G' H' σ' ρ' τ') : OkY K G0 H0 G' H' σ' ρ' τ' := by
  obtain ⟨g0, gn, nw⟩ := k.base
  obtain ⟨fp', k', tr', nd', fr', h0', ti'⟩ := k'
  letI : ObjB := ⟨regH H' fp'⟩
  have hn := sr_node tr'
  refine ⟨fp', ⟨k'.gn, g0.trans k'.g0, k'.h0, k'.tb, fun a o e => ?_, k'.len, k'.sh, k'.ow, k'.ap, k'.rw, k'.tr, k'.bB⟩, tr', nd', fun a ha => ⟨(fr' a ha).1, ?_, (fr' a ha).2.2⟩, h0', ti'⟩
  · rcases k'.nw a o e with z | z
    · rcases nw a o z with y | y
      · exact .inl y
      · refine .inr (ns_mix' (fun m => ?_) y)
        have := (fr' a m).2.2
        rw [e] at this
        cases this
    · exact .inr z
  · cases q : G0 a with
    | none => rfl
    | some o =>
      have := g0 a o q
      rw [(fr' a ha).2.1] at this
      cases this
theorem RetY.unbase (k : OkY K G0 H0 G H σ ρ τ) {d : PyData} {v : V} (r : RetY K G H0 d τ' v H') : RetY K G0 H0 d τ' v H' := by
  obtain ⟨g0, gn, nw⟩ := k.base
  obtain ⟨G', fp, r1, r2, r3, r4, r5, r6, r7, r8⟩ := r
  refine ⟨G', fp, g0.trans r1, r2, r3, nw_trans nw r4, r5, r6, r7, fun a ha => ⟨(r8 a ha).1, ?_, (r8 a ha).2.2⟩⟩
  cases q : G0 a with
  | none => rfl
  | some o =>
    have := g0 a o q
    rw [(r8 a ha).2.1] at this
    cases this
end
structure DEndsY where
  nx : Sto → STau → Prop
  rt : PyData → STau → Prop
  ex : Exn → Sto → STau → Prop
  bk : Sto → STau → Prop := fun _ _ => False
  ct : Sto → STau → Prop := fun _ _ => False
section
variable {X : Cx}
theorem PE.all {e : Expr} {t : ObjB → TE} (h : ∀ B, PE X e (t B)) : PE X e fun σ H Q => ∃ B, t B σ H Q := ⟨fun pins s σ H Q I ⟨B, q⟩ => (h B).run pins s σ H Q I q⟩
theorem PT.all {e : Expr} {t : ObjB → TT} (h : ∀ B, PT X e (t B)) : PT X e fun σ H Q => ∃ B, t B σ H Q := ⟨fun pins s σ H Q I ⟨B, q⟩ => (h B).run pins s σ H Q I q⟩
theorem PA.all {e : List Expr} {t : ObjB → TA} (h : ∀ B, PA X e (t B)) : PA X e fun σ H Q => ∃ B, t B σ H Q := ⟨fun pos pins s σ H Q I ⟨B, q⟩ => (h B).run pos pins s σ H Q I q⟩
theorem PS.all {e : Stmt} {t : ObjB → TS} (h : ∀ B, PS X e (t B)) : PS X e fun D σ H => ∃ B, t B D σ H := ⟨fun pins s σ H D I ⟨B, q⟩ => (h B).run pins s σ H D I q⟩
theorem PSs.all {e : List Stmt} {t : ObjB → TS} (h : ∀ B, PSs X e (t B)) : PSs X e fun D σ H => ∃ B, t B D σ H := ⟨fun pins s σ H D I ⟨B, q⟩ => (h B).run pins s σ H D I q⟩
end
section
variable {X : Cx}
theorem PI.all {tg e : Expr} {t : ObjB → TI} (h : ∀ B, PI X tg e (t B)) : PI X tg e fun σ H R => ∃ B, t B σ H R := ⟨fun pins s σ H R I ⟨B, q⟩ => (h B).run pins s σ H R I q⟩
theorem PG.all {e : Expr} {t : ObjB → TG} (h : ∀ B, PG X e (t B)) : PG X e fun v σ H Q => ∃ B, t B v σ H Q := ⟨fun pins s σ H v u Q I r ⟨B, q⟩ => (h B).run pins s σ H v u Q I r q⟩
end
end WH
namespace WH
open PySem PySem.Spec PyProof.Rows L2
section
variable [TabC]
section
variable {K : PySem.W.Frag} {G0 H0 G H G' H' : Hp} {σ σ' : L2.St} {ρ ρ' : Sto} {τ τ' : STau}
theorem LocY.of {fa : List Addr} {a : Addr} {t' : ST} {d : PyData} {v : V} (r : RetY K G (minusH H fa) d [(a, t')] v H') : ∃ G', LocY K G H fa a t' G' H' ∧ Rp K G' v d := by
  obtain ⟨G', fp, r1, r2, r3, r4, r5, r6, r7, r8⟩ := r
  cases r6 with
  | cons x y =>
    cases y
    rw [List.append_nil] at r7 r8
    exact ⟨G', ⟨r1, r2, r3, r4, _, x, r7, r8⟩, r5⟩
end
abbrev CtY := List PyData → ST → (PyData → ST → Prop) → (Exn → ST → Prop) → Prop
end
end WH
namespace WH
open PySem PySem.Spec PyProof.Rows L2
section
variable {K : PySem.W.Frag} {G H G' H' : Hp}
theorem sAtF_len : ∀ {vs : List (Str × V)} {fs : List (Str × ST)} {fp : List Addr}, SAtF K G H vs fs fp → vs.length = fs.length
  | _, _, _, .nil => rfl
  | _, _, _, .cons _ r => by rw [List.length_cons, List.length_cons, sAtF_len r]
end
variable [TabC]
section
variable {K : PySem.W.Frag} {G0 H0 G H G1 H1 G' H' : Hp} {σ σ' : L2.St} {ρ ρ' : Sto} {τ τ' : STau}
theorem OkY.at (k : OkY K G0 H0 G H σ ρ τ) {i : Nat} {a C : Addr} {fs : List (Str × ST)} (hi : ρ[i]? = some (Slot.tr a (.ins C fs))) : σ[i]? = some (some (V.ref a)) ∧ ∃ dx vs, H a = some (.ins C dx vs) ∧ vs.length = fs.length ∧ ∀ f d, fs.lookup f = some (.dat d) → ∃ v, vs.lookup f = some v ∧ Rp K G v d := by
  obtain ⟨fp, k, tr, nd, fr, h0, ti⟩ := k
  letI : ObjB := ⟨regH H fp⟩
  obtain ⟨dx, vs, fq, h1, h2, h3, _⟩ := k.ins hi
  refine ⟨h1, dx, vs, h2, sAtF_len h3, fun f d e => ?_⟩
  obtain ⟨v, g, e1, e2, _⟩ := (sAtF_at h3).1 _ e
  cases e2 with
  | dat r => exact ⟨v, e1, r⟩
end
end WH
namespace WH
open PySem PySem.Spec PyProof.Rows L2
variable [TabC]
section
variable {X : Cx} {W : XW} {i : Nat} {C : Addr} {x f : Str} {e ie : Expr} {p p1 p2 p3 p4 pos pos' : Pos}
theorem Gr.ins {G H G1 H1 : Hp} (g : Gr G H G1 H1) {a C dx : Addr} {vs : List (Str × V)} (h : H a = some (.ins C dx vs)) : H1 a = some (.ins C dx vs) := g.hh.at h fun _ z => by cases z
theorem OkY.gh {K : PySem.W.Frag} {G0 H0 G H : Hp} {σ : L2.St} {ρ : Sto} {τ : STau} (k : OkY K G0 H0 G H σ ρ τ) : Same G H := k.base.2.1.trans nt_le
end
end WH
namespace WH
open PySem PySem.Spec PyProof.Rows L2
class ClsA where
  A : Str → Addr
structure ClsOk (K : PySem.W.Frag) (C : Addr) (fs : List Str) : Prop where
  c : Cls K C
  n : ∀ f ∈ fs, NoAttr K C f
end WH
namespace WH
open PySem PySem.Spec PyProof.Rows L2
variable [TabC]
section
variable {X : Cx} {W : XW} {i : Nat} {x : Str} {e ie : Expr} {p p1 p2 p3 p4 pos pos' : Pos}
theorem Gr.lst {G H G1 H1 : Hp} (g : Gr G H G1 H1) {a : Addr} {vs : List V} (h : H a = some (.lst vs)) : H1 a = some (.lst vs) := g.hh.at h ntb_lst
end
end WH
namespace WH
open PySem PySem.Spec PyProof.Rows L2 L2H LamX
section
variable [TabC]
section
variable {K : PySem.W.Frag} {G0 H0 G H G' H' : Hp} {σ σ' : L2.St} {ρ ρ' : Sto} {τ τ' : STau}
theorem OkY.grow (k : OkY K G0 H0 G H σ ρ τ) (gg : Same G G') (hh : Ex H H') (gn : Same G' (nt H')) (nw : ∀ a o, G' a = some o → G a = some o ∨ NS H a) : OkY K G0 H0 G' H' σ ρ τ := by
  obtain ⟨fp, k, tr, nd, fr, h0, ti⟩ := k
  letI : ObjB := ⟨regH H fp⟩
  exact okY_keep k tr nd fr (k.rebase.grow gg hh gn nw) ti
theorem OkY.tb (k : OkY K G0 H0 G H σ ρ τ) : LamX.Tabs TabC.T H := by
  obtain ⟨fp, k, _⟩ := k
  exact @Ok.tb _ ⟨regH H fp⟩ _ _ _ _ _ _ _ k
end
end
end WH
namespace WH
open PySem PySem.Spec PyProof.Rows L2
section
variable [TabC]
variable {K : PySem.W.Frag} {G0 H0 G H G' H' : Hp} {σ σ' : L2.St} {ρ ρ' : Sto} {τ τ' : STau}
theorem OkY.rl (k : OkY K G0 H0 G H σ ρ τ) {a : Addr} {as : List Addr} (hm : (a, ST.rl as) ∈ τ) : H a = some (.lst (as.map V.ref)) := by
  obtain ⟨fp, k, tr, nd, fr, h0, ti⟩ := k
  obtain ⟨f, h1, _⟩ := sr_mem tr hm
  cases h1 with
  | rl e => exact e
end
end WH
namespace WH
open PySem PySem.Spec PyProof.Rows L2
variable [TabC] [ObjB] {X : Cx} {W : XW}
theorem PK.sub {kws : List Keyword} {t t' : TA} (h : PK X kws t) (s : ∀ σ H Q, t' σ H Q → t σ H Q) : PK X kws t' := ⟨fun pos pins st σ H Q I hw => h.run pos pins st σ H Q I (s σ H Q hw)⟩
end WH
namespace WH
open PySem PySem.Spec PyProof.Rows L2
section
variable [TabC]
mutual
def stD : ST → PyData
  | .dat d => d
  | .dl ds => .list ds
  | .lst ts => .list (stDs ts)
  | .ins _ _ => .none
  | .rl _ => .none
def stDs : List ST → List PyData
  | [] => []
  | t :: ts => stD t :: stDs ts
end
mutual
def stL : ST → Bool
  | .dat _ => true
  | .dl _ => true
  | .lst ts => stLs ts
  | .ins _ _ => false
  | .rl _ => false
def stLs : List ST → Bool
  | [] => true
  | t :: ts => stL t && stLs ts
end
end
end WH
namespace WH
open PySem PySem.Spec PyProof.Rows L2
abbrev NX := NestedKey × Addr × V
section
variable {X : Cx} {pins : List (Addr × Obj)} {σ : L2.St} {H G : Hp} {s : Shared}
mutual
theorem nk_is (I : Inv X pins σ H s) (gh : Same G H) : ∀ (d : PyData) (k : NestedKey) (v : V) (u : Value), nkOf d = some k → Rp X.K G v d → RelV v u → NestedIs s.heap k u
  | .none, k, v, u, hk, hr, hu => by
    simp only [nkOf, Option.some.injEq] at hk
    subst hk
    cases hr
    obtain rfl : u = Value.none := hu
    exact NestedIs.none
  | .int i, k, v, u, hk, hr, hu => by
    simp only [nkOf, Option.some.injEq] at hk
    subst hk
    cases hr
    obtain ⟨t, rfl⟩ := hu
    exact NestedIs.int _ _
  | .tuple ds, k, v, u, hk, hr, hu => by
    simp only [nkOf] at hk
    split at hk
    · rename_i ks hks
      cases hk
      cases hr with
      | tup h1 h2 =>
        obtain rfl : u = Value.ref _ := hu
        obtain ⟨its, rv, ⟨o, ho, hc, n, hd⟩, _⟩ := I.tuple (sqT_mono gh (SqN.t h1))
        exact NestedIs.tup ho hc hd (by rw [List.toList_toArray]; exact nk_all I gh ds ks _ _ hks h2 rv)
    · cases hk
  | .bool _, _, _, _, hk, _, _ => by simp [nkOf] at hk
  | .str _, _, _, _, hk, _, _ => by simp [nkOf] at hk
  | .list _, _, _, _, hk, _, _ => by simp [nkOf] at hk
  | .dict _, _, _, _, hk, _, _ => by simp [nkOf] at hk
theorem nk_all (I : Inv X pins σ H s) (gh : Same G H) : ∀ (ds : List PyData) (ks : List NestedKey) (vs : List V) (us : List Value), nkOfs ds = some ks → RpAll X.K G vs ds → Vals vs us → NestedAll s.heap ks us
  | [], ks, vs, us, hk, hr, hu => by
    simp only [nkOfs, Option.some.injEq] at hk
    subst hk
    cases hr
    cases hu
    exact .nil
  | d :: ds, ks, vs, us, hk, hr, hu => by
    simp only [nkOfs] at hk
    split at hk
    · rename_i k ks' h1 h2
      cases hk
      cases hr with
      | cons r1 r2 =>
        cases hu with
        | cons u1 u2 => exact .cons (nk_is I gh d k _ _ h1 r1 u1) (nk_all I gh ds ks' _ _ h2 r2 u2)
    · cases hk
end
end
mutual
theorem nk_hash (w w' : World) : ∀ (d : PyData) (k : NestedKey), nkOf d = some k → k.hash w = k.hash w'
  | .none, k, hk => by simp only [nkOf, Option.some.injEq] at hk; subst hk; rfl
  | .int i, k, hk => by simp only [nkOf, Option.some.injEq] at hk; subst hk; rfl
  | .tuple ds, k, hk => by
    simp only [nkOf] at hk
    split at hk
    · rename_i ks hks
      cases hk
      simp only [NestedKey.hash, nk_hashes w w' ds ks hks]
    · cases hk
  | .bool _, _, hk => by simp [nkOf] at hk
  | .str _, _, hk => by simp [nkOf] at hk
  | .list _, _, hk => by simp [nkOf] at hk
  | .dict _, _, hk => by simp [nkOf] at hk
theorem nk_hashes (w w' : World) : ∀ (ds : List PyData) (ks : List NestedKey), nkOfs ds = some ks → NestedKey.hashes w ks = NestedKey.hashes w' ks
  | [], ks, hk => by simp only [nkOfs, Option.some.injEq] at hk; subst hk; rfl
  | d :: ds, ks, hk => by
    simp only [nkOfs] at hk
    split at hk
    · rename_i k ks' h1 h2
      cases hk
      simp only [NestedKey.hashes, nk_hash w w' d k h1, nk_hashes w w' ds ks' h2]
    · cases hk
end
mutual
theorem nk_inj : ∀ (d e : PyData) (k : NestedKey), nkOf d = some k → nkOf e = some k → d = e
  | .none, e, k, hk, he => by
    simp only [nkOf, Option.some.injEq] at hk
    subst hk
    cases e with
    | none => rfl
    | int i => simp [nkOf] at he
    | tuple es => simp only [nkOf] at he; split at he <;> simp at he
    | bool _ => simp [nkOf] at he
    | str _ => simp [nkOf] at he
    | list _ => simp [nkOf] at he
    | dict _ => simp [nkOf] at he
  | .int i, e, k, hk, he => by
    simp only [nkOf, Option.some.injEq] at hk
    subst hk
    cases e with
    | none => simp [nkOf] at he
    | int j => simp only [nkOf, Option.some.injEq, NestedKey.num.injEq] at he; rw [he]
    | tuple es => simp only [nkOf] at he; split at he <;> simp at he
    | bool _ => simp [nkOf] at he
    | str _ => simp [nkOf] at he
    | list _ => simp [nkOf] at he
    | dict _ => simp [nkOf] at he
  | .tuple ds, e, k, hk, he => by
    simp only [nkOf] at hk
    split at hk
    · rename_i ks hks
      cases hk
      cases e with
      | tuple es =>
        simp only [nkOf] at he
        split at he
        · rename_i ks' hks'
          simp only [Option.some.injEq, NestedKey.tup.injEq] at he
          subst he
          rw [nk_injs ds es _ hks hks']
        · cases he
      | none => simp [nkOf] at he
      | int j => simp [nkOf] at he
      | bool _ => simp [nkOf] at he
      | str _ => simp [nkOf] at he
      | list _ => simp [nkOf] at he
      | dict _ => simp [nkOf] at he
    · cases hk
  | .bool _, _, _, hk, _ => by simp [nkOf] at hk
  | .str _, _, _, hk, _ => by simp [nkOf] at hk
  | .list _, _, _, hk, _ => by simp [nkOf] at hk
  | .dict _, _, _, hk, _ => by simp [nkOf] at hk
theorem nk_injs : ∀ (ds es : List PyData) (ks : List NestedKey), nkOfs ds = some ks → nkOfs es = some ks → ds = es
  | [], es, ks, hk, he => by
    simp only [nkOfs, Option.some.injEq] at hk
    subst hk
    cases es with
    | nil => rfl
    | cons e es => simp only [nkOfs] at he; split at he <;> simp at he
  | d :: ds, es, ks, hk, he => by
    simp only [nkOfs] at hk
    split at hk
    · rename_i k ks' h1 h2
      cases hk
      cases es with
      | nil => simp [nkOfs] at he
      | cons e es =>
        simp only [nkOfs] at he
        split at he
        · rename_i k' ks'' h3 h4
          simp only [Option.some.injEq, List.cons.injEq] at he
          obtain ⟨rfl, rfl⟩ := he
          rw [nk_inj d e _ h1 h3, nk_injs ds es _ h2 h4]
        · cases he
    · cases hk
end
def valX (xs : List NX) (k : NestedKey) : Option V := (xs.find? fun p => decide (p.1 = k)).map (·.2.2)
end WH
namespace WH
open PySem PySem.Spec PyProof.Rows L2 LamX PySem.W
def IsFst (h : Heap) (u : Value) (ns : List Int) : Prop := ∃ a b its xs, u = .ref a ∧ h.IsTuple a its ∧ its[0]? = some (.ref b) ∧ h.IsTuple b (intItems xs) ∧ numsOf (intItems xs).toList = ns
theorem IsFst.keeps {h h' : Heap} {u : Value} {ns : List Int} (f : IsFst h u ns) (k : ∀ b o, h.get? b = some o → h'.get? b = some o) : IsFst h' u ns := by
  obtain ⟨a, b, its, xs, rfl, h1, h2, h3, h4⟩ := f
  exact ⟨a, b, its, xs, rfl, h1.at fun o e => k _ o e, h2, h3.at fun o e => k _ o e, h4⟩
end WH
namespace WH
open PySem PySem.Spec PyProof.Rows L2 L2H LamX
mutual
def lfrD : PyData → Bool
  | .none => true
  | .bool _ => true
  | .int _ => true
  | .str _ => true
  | .tuple ds => lfrAll ds
  | _ => false
def lfrAll : List PyData → Bool
  | [] => true
  | d :: ds => lfrD d && lfrAll ds
end
end WH
namespace WH
open PySem PySem.Spec L2
def Sm (ns : List Int) : Prop := ∀ z ∈ ns, 0 ≤ z ∧ z < 9973
abbrev Row := PyData × PyData
end WH
namespace WH
open PySem PySem.Spec L2
abbrev Tab := List (List (Int × Int))
def GoodOp (n : Nat) (op : List (Int × Int)) : Prop := op.length = n ∧ ∀ r ∈ op, (0 ≤ r.1 ∧ r.1 ≤ 9) ∧ 0 ≤ r.2 ∧ r.2 < n
structure GoodN (n : Nat) (t : Tab) : Prop where
  n1 : 1 ≤ n
  n5 : n ≤ 5
  o1 : 1 ≤ t.length
  o4 : t.length ≤ 4
  op : ∀ op ∈ t, GoodOp n op
theorem Sm.get {ns : List Int} (h : Sm ns) {n : Nat} (hn : n < ns.length) : 0 ≤ ns[n] ∧ ns[n] < 9973 := h _ (List.getElem_mem hn)
end WH
namespace WH
open PySem PySem.Spec L2
variable [ClsA]
def IB : PyData → Prop
  | .int _ => True
  | .bool _ => True
  | _ => False
def RwIB (rs : List Row) : Prop := ∀ r ∈ rs, IB r.1 ∧ IB r.2
theorem RwIB.cons {a : Row} {b : List Row} (h1 : IB a.1 ∧ IB a.2) (h2 : RwIB b) : RwIB (a :: b) := fun r hr => by
  rcases List.mem_cons.mp hr with rfl | hr
  · exact h1
  · exact h2 r hr
structure RS where
  t : Tab
  m : Nat
  cells : List (Nat × Nat)
  asked : List (Option Nat)
  gone : List Nat
  here : List Nat
structure RW (n : Nat) (r : RS) : Prop where
  g : GoodN n r.t
  m2 : 2 ≤ r.m
  m4 : r.m ≤ 4
  la : r.asked.length = r.m
  lg : r.gone.length = r.m
  lh : r.here.length = r.m
  oa : ∀ o, some o ∈ r.asked → o < r.t.length
  og : ∀ k ∈ r.gone, k ≤ r.cells.length
  oh : ∀ k ∈ r.here, k < n
  oc : ∀ c ∈ r.cells, c.1 < r.m ∧ c.2 < r.t.length
def RS.at (r : RS) (h : Nat) : Nat := r.gone.getD h 0
def RS.st (r : RS) (h : Nat) : Nat := r.here.getD h 0
end WH
namespace WH
open PySem PySem.Spec L2
variable [ClsA]
def xn_law : List (Str × Nat) := [("BadTable", 0), ("NoStand", 4), ("BadMany", 4), ("NoHand", 4), ("Busy", 4), ("NoOperation", 4), ("Idle", 4)]
end WH
namespace WH
open PySem PySem.Spec L2
abbrev kA (as : List Addr) (g : Addr → Option Obj) : PySem.W.Frag := He.frT g as
abbrev kk (as : List Addr) (s : PySem.W.SharedT) : PySem.W.Frag := kA as (HandSHeadRun.getT s)
def obsA (as : List Addr) (fa : List He.Fa) (fn : List He.DefD) (ts : List He.Tab) (tf : List He.Defn) (ex : PySem.W.Frag → Bool) (g : Addr → Option Obj) : He.AlX := (He.obsT fa fn ts (kA as g), ex (kA as g) && He.tabsB g tf (kA as g))
theorem saysA {as : List Addr} {fa : List He.Fa} {fn : List He.DefD} {ts : List He.Tab} {tf : List He.Defn} {ex : PySem.W.Frag → Bool} {w : World} {h : Heap} (e : obsA as fa fn ts tf ex h.get? = He.valX fn ts w) : He.SaysX fa fn ts tf ex w h (kA as h.get?) := by
  obtain ⟨h1, h2⟩ := Bool.and_eq_true_iff.mp (show (ex (kA as h.get?) && He.tabsB h.get? tf (kA as h.get?)) = true from congrArg Prod.snd e)
  have at_ : ∀ p ∈ tf, PySem.W.codeHdIn (kA as h.get?) (He.cT (kA as h.get?) p).1 (He.cT (kA as h.get?) p).2 = true ∧ ∃ o, h.get? (He.cT (kA as h.get?) p).2 = some o ∧ He.emptyTab o = true := by
    intro p hp
    have q := Bool.and_eq_true_iff.mp (List.all_eq_true.mp h2 p hp)
    refine ⟨q.1, ?_⟩
    have q2 := q.2
    split at q2
    · rename_i o ho
      exact ⟨o, ho, q2⟩
    · cases q2
  refine ⟨congrArg Prod.fst e, h1, fun p hp => (at_ p hp).1, fun p hp => ?_, fun p hp => ?_⟩
  · obtain ⟨_, o, e1, e2⟩ := at_ p hp
    exact He.frT_none e1 e2
  · obtain ⟨_, o, e1, e2⟩ := at_ p hp
    exact e1.trans (congrArg some (He.emptyTab_eq e2))
def hookA (as : List Addr) (fa : List He.Fa) (fn : List He.DefD) (ts : List He.Tab) (tf : List He.Defn) (ex : PySem.W.Frag → Bool) : PySem.W.Hook where
  α := He.AlX
  obs := fun s => obsA as fa fn ts tf ex s.heap.get?
  val := fun w => He.valX fn ts w
  says := fun w h => ∃ K : PySem.W.Frag, K.In h ∧ He.SaysX fa fn ts tf ex w h K
  of := fun _ _ e => ⟨_, He.frT_in, saysA e⟩
  keeps := fun _ _ _ ⟨K, hK, c⟩ k => ⟨K, PySem.W.Frag.In.keeps hK k, ⟨c.t, c.more, c.hd, c.out, fun p hp => k _ _ (c.empty p hp)⟩⟩
theorem all_flat {α : Type} {p : α → Bool} : ∀ {ls : List (List α)}, (∀ l ∈ ls, l.all p = true) → ls.flatten.all p = true
  | [], _ => rfl
  | l :: ls, h => by
    rw [List.flatten_cons, List.all_append, h l List.mem_cons_self, all_flat fun m hm => h m (List.mem_cons_of_mem _ hm)]
    rfl
theorem map_flat {α β : Type} {f g : α → β} : ∀ {ls : List (List α)}, (∀ l ∈ ls, l.map f = l.map g) → ls.flatten.map f = ls.flatten.map g
  | [], _ => rfl
  | l :: ls, h => by rw [List.flatten_cons, List.map_append, List.map_append, h l List.mem_cons_self, map_flat fun m hm => h m (List.mem_cons_of_mem _ hm)]
theorem run_join {α β : Type} {o : Option PySem.W.SharedT} {l1 : PySem.W.SharedT → α} {l2 : PySem.W.SharedT → β} {v1 : α} {v2 : β} {as : List Addr} {fas : List (List He.Fa)} {fns : List (List He.DefD)} {ts : List He.Tab} {tf : List He.Defn} {ex : PySem.W.Frag → Bool} {w : World}
    (h0 : o.map (fun s => (l1 s, l2 s)) = some (v1, v2)) (hA : ∀ fa ∈ fas, o.map (fun s => fa.all fun f => f.ok (kk as s)) = some true) (hB : ∀ fn ∈ fns, o.map (fun s => ((fn.all fun d => d.ok (kk as s)), fn.map fun d => He.fnW (kk as s) d.at_)) = some (true, fn.map He.DefD.val))
    (hC : o.map (fun s => (ts.map (fun t => He.dicW (kk as s) (t.1 (kk as s))), ex (kk as s) && He.tabsB (HandSHeadRun.getT s) tf (kk as s))) = some (ts.map (fun t => some (He.keysIn w.params t.2)), true)) :
    o.map (fun s => (l1 s, l2 s, obsA as fas.flatten fns.flatten ts tf ex (HandSHeadRun.getT s))) = some (v1, v2, He.valX fns.flatten ts w) := by
  cases o with
  | none => cases h0
  | some s =>
    have e0 := Option.some.inj h0
    have e1 : l1 s = v1 := congrArg Prod.fst e0
    have e2 : l2 s = v2 := congrArg Prod.snd e0
    have eC := Option.some.inj hC
    have c1 : ts.map (fun t => He.dicW (kk as s) (t.1 (kk as s))) = ts.map (fun t => some (He.keysIn w.params t.2)) := congrArg Prod.fst eC
    have c2 : (ex (kk as s) && He.tabsB (HandSHeadRun.getT s) tf (kk as s)) = true := congrArg Prod.snd eC
    have a1 : (fas.flatten.all fun f => f.ok (kk as s)) = true := all_flat fun l hl => Option.some.inj (hA l hl)
    have b1 : (fns.flatten.all fun d => d.ok (kk as s)) = true := all_flat fun l hl => congrArg Prod.fst (Option.some.inj (hB l hl))
    have b2 : (fns.flatten.map fun d => He.fnW (kk as s) d.at_) = fns.flatten.map He.DefD.val := map_flat fun l hl => congrArg Prod.snd (Option.some.inj (hB l hl))
    show some (l1 s, l2 s, (((fas.flatten.all fun f => f.ok (kk as s)) && fns.flatten.all fun d => d.ok (kk as s), fns.flatten.map fun d => He.fnW (kk as s) d.at_), ts.map fun t => He.dicW (kk as s) (t.1 (kk as s))), ex (kk as s) && He.tabsB (HandSHeadRun.getT s) tf (kk as s)) = some (v1, v2, (((true, fns.flatten.map He.DefD.val)), ts.map fun t => some (He.keysIn w.params t.2)), true)
    rw [e1, e2, a1, b1, b2, c1, c2]
    rfl
end WH
namespace WH
open PySem PySem.Spec L2 L2H
variable [TabC]
def top (i : Nat) : Stmt := PySem.Challenge.pw_whofirst_k51_rolls_step_by_step.main.body.getD i (.Pass ⟨0, 0, 0, 0⟩)
section
variable [ClsA] {P : Program} {w : World} {K : PySem.W.Frag} {mg : Str → Option Value} {base : Heap}
abbrev s__law_called : Stmt := top 46
abbrev s__law_tried : Stmt := top 47
abbrev i_NoHand : Stmt := (cBody (top 21)).getD 0 (.Pass ⟨0, 0, 0, 0⟩)
abbrev i_Idle : Stmt := (cBody (top 16)).getD 0 (.Pass ⟨0, 0, 0, 0⟩)
abbrev i_Busy : Stmt := (cBody (top 15)).getD 0 (.Pass ⟨0, 0, 0, 0⟩)
abbrev i_NoOperation : Stmt := (cBody (top 20)).getD 0 (.Pass ⟨0, 0, 0, 0⟩)
abbrev i_BadMany : Stmt := (cBody (top 6)).getD 0 (.Pass ⟨0, 0, 0, 0⟩)
abbrev i_NoStand : Stmt := (cBody (top 19)).getD 0 (.Pass ⟨0, 0, 0, 0⟩)
abbrev i_BadTable : Stmt := (cBody (top 2)).getD 0 (.Pass ⟨0, 0, 0, 0⟩)
abbrev s_is_whole : Stmt := top 26
abbrev s_is_operation : Stmt := top 27
abbrev s_look_table : Stmt := top 28
abbrev s_look_stand : Stmt := top 29
abbrev s_look_operation : Stmt := top 30
abbrev s_look_many : Stmt := top 33
abbrev s__law_numbers : Stmt := top 37
abbrev s__law_known : Stmt := top 38
abbrev s__law_rows : Stmt := top 39
abbrev s__law_table : Stmt := top 40
abbrev s__law_roll_state : Stmt := top 41
abbrev s__law_roll_deed : Stmt := top 42
abbrev s__law_roll_word : Stmt := top 43
abbrev s__law_roll_after : Stmt := top 44
abbrev s__law_same : Stmt := top 45
abbrev s_Roll : Stmt := (cBody (top 35)).getD 0 (.Pass ⟨0, 0, 0, 0⟩)
abbrev s_Roll___len__ : Stmt := (cBody (top 35)).getD 1 (.Pass ⟨0, 0, 0, 0⟩)
abbrev s_Roll_look_hand : Stmt := (cBody (top 35)).getD 2 (.Pass ⟨0, 0, 0, 0⟩)
abbrev s_Roll_ask : Stmt := (cBody (top 35)).getD 3 (.Pass ⟨0, 0, 0, 0⟩)
abbrev s_Roll_is_put : Stmt := (cBody (top 35)).getD 4 (.Pass ⟨0, 0, 0, 0⟩)
abbrev s_Roll_winner : Stmt := (cBody (top 35)).getD 5 (.Pass ⟨0, 0, 0, 0⟩)
abbrev s_Roll_step : Stmt := (cBody (top 35)).getD 6 (.Pass ⟨0, 0, 0, 0⟩)
abbrev s__law_roll_do : Stmt := top 48
abbrev s_Roll_rows : Stmt := (cBody (top 35)).getD 7 (.Pass ⟨0, 0, 0, 0⟩)
abbrev s_Roll_pending : Stmt := (cBody (top 35)).getD 8 (.Pass ⟨0, 0, 0, 0⟩)
abbrev s_Roll_behind : Stmt := (cBody (top 35)).getD 9 (.Pass ⟨0, 0, 0, 0⟩)
abbrev s_Roll_stand : Stmt := (cBody (top 35)).getD 10 (.Pass ⟨0, 0, 0, 0⟩)
abbrev s__law_roll_so : Stmt := top 49
abbrev s_law : Stmt := top 50
end
section
def ads : List PySem.Addr := ([3, 6, 4, 24, 44, 63, 83, 103, 123, 142, 162, 182, 202, 221, 240, 260, 280, 300, 320, 339, 351, 372, 392, 412, 432, 442, 447, 454, 461, 468, 475, 561, 572, 579, 584, 589, 596, 603, 610, 615, 620, 625, 632, 639, 644, 649, 0, 23, 43, 62, 82, 102, 122, 141, 161, 181, 201, 220, 239, 259, 279, 299, 319, 338, 350, 371, 391, 411, 431, 441, 446, 453, 460, 467, 474, 560, 571, 578, 583, 588, 595, 602, 609, 614, 619, 624, 631, 638, 643, 648, 22, 25, 41, 42, 60, 61, 80, 81, 100, 101] : List PySem.Addr) ++ ([120, 121, 139, 140, 159, 160, 179, 180, 199, 200, 218, 219, 237, 238, 257, 258, 277, 278, 297, 298, 317, 318, 336, 337, 349, 352, 369, 370, 389, 390, 409, 410, 429, 430, 433, 436, 437, 438, 439, 440, 443, 444, 445, 448, 449, 450, 451, 452, 455, 456, 457, 458, 459, 462, 463, 464, 465, 466, 469, 470, 471, 472, 473, 490, 497, 504, 511, 516, 523, 530, 537, 544, 551, 558, 559, 562, 563, 566, 567, 568, 569, 570, 573, 574, 575, 576, 577, 580, 581, 582, 585, 586, 587, 590, 591, 592, 593, 594, 597, 598] : List PySem.Addr) ++ ([599, 600, 601, 604, 605, 606, 607, 608, 611, 612, 613, 616, 617, 618, 621, 622, 623, 626, 627, 628, 629, 630, 633, 634, 635, 636, 637, 640, 641, 642, 645, 646, 647, 40, 59, 79, 73, 99, 93, 119, 113, 138, 158, 152, 178, 172, 198, 192, 217, 236, 256, 250, 276, 270, 296, 290, 316, 310, 335, 368, 362, 388, 382, 408, 402, 428, 422, 489, 483, 496, 503, 510, 515, 522, 529, 536, 543, 550, 557, 35, 36, 37, 38, 39, 54, 55, 56, 57, 58, 74, 75, 76, 77, 78, 94, 95, 96, 97, 98, 114] : List PySem.Addr) ++ ([115, 116, 117, 118, 133, 134, 135, 136, 137, 153, 154, 155, 156, 157, 173, 174, 175, 176, 177, 193, 194, 195, 196, 197, 212, 213, 214, 215, 216, 231, 232, 233, 234, 235, 251, 252, 253, 254, 255, 271, 272, 273, 274, 275, 291, 292, 293, 294, 295, 311, 312, 313, 314, 315, 330, 331, 332, 333, 334, 363, 364, 365, 366, 367, 383, 384, 385, 386, 387, 403, 404, 405, 406, 407, 423, 424, 425, 426, 427, 484, 485, 486, 487, 488, 491, 492, 493, 494, 495, 498, 499, 500, 501, 502, 505, 506, 507, 508, 509, 512] : List PySem.Addr) ++ ([513, 514, 517, 518, 519, 520, 521, 524, 525, 526, 527, 528, 531, 532, 533, 534, 535, 538, 539, 540, 541, 542, 545, 546, 547, 548, 549, 552, 553, 554, 555, 556] : List PySem.Addr)
def dd0 : He.DefD := ⟨("is_whole", none), "is_whole", "is_whole", defArgs s_is_whole, defBody s_is_whole, defScope s_is_whole, [], []⟩
def dd1 : He.DefD := ⟨("is_operation", none), "is_operation", "is_operation", defArgs s_is_operation, defBody s_is_operation, defScope s_is_operation, [], []⟩
def dd2 : He.DefD := ⟨("look_table", none), "look_table", "look_table", defArgs s_look_table, defBody s_look_table, defScope s_look_table, [], []⟩
def dd3 : He.DefD := ⟨("look_stand", none), "look_stand", "look_stand", defArgs s_look_stand, defBody s_look_stand, defScope s_look_stand, [], []⟩
def dd4 : He.DefD := ⟨("look_operation", none), "look_operation", "look_operation", defArgs s_look_operation, defBody s_look_operation, defScope s_look_operation, [], []⟩
def dd5 : He.DefD := ⟨("look_many", none), "look_many", "look_many", defArgs s_look_many, defBody s_look_many, defScope s_look_many, [], []⟩
def dd6 : He.DefD := ⟨("_law_numbers", none), "_law_numbers", "_law_numbers", defArgs s__law_numbers, defBody s__law_numbers, defScope s__law_numbers, [], []⟩
def dd7 : He.DefD := ⟨("_law_known", none), "_law_known", "_law_known", defArgs s__law_known, defBody s__law_known, defScope s__law_known, [], []⟩
def dd8 : He.DefD := ⟨("_law_rows", none), "_law_rows", "_law_rows", defArgs s__law_rows, defBody s__law_rows, defScope s__law_rows, [], []⟩
def dd9 : He.DefD := ⟨("_law_table", none), "_law_table", "_law_table", defArgs s__law_table, defBody s__law_table, defScope s__law_table, [], []⟩
def dd10 : He.DefD := ⟨("_law_roll_state", none), "_law_roll_state", "_law_roll_state", defArgs s__law_roll_state, defBody s__law_roll_state, defScope s__law_roll_state, [], []⟩
def dd11 : He.DefD := ⟨("_law_roll_deed", none), "_law_roll_deed", "_law_roll_deed", defArgs s__law_roll_deed, defBody s__law_roll_deed, defScope s__law_roll_deed, [], []⟩
def dd12 : He.DefD := ⟨("_law_roll_word", none), "_law_roll_word", "_law_roll_word", defArgs s__law_roll_word, defBody s__law_roll_word, defScope s__law_roll_word, [], []⟩
def dd13 : He.DefD := ⟨("_law_roll_after", none), "_law_roll_after", "_law_roll_after", defArgs s__law_roll_after, defBody s__law_roll_after, defScope s__law_roll_after, [], []⟩
def dd14 : He.DefD := ⟨("_law_same", none), "_law_same", "_law_same", defArgs s__law_same, defBody s__law_same, defScope s__law_same, [], []⟩
def dd15 : He.DefD := ⟨("Roll", some "__init__"), "__init__", "Roll.__init__", defArgs s_Roll, defBody s_Roll, defScope s_Roll, [], [("start", .int 0)]⟩
def dd16 : He.DefD := ⟨("Roll", some "__len__"), "__len__", "Roll.__len__", defArgs s_Roll___len__, defBody s_Roll___len__, defScope s_Roll___len__, [], []⟩
def dd17 : He.DefD := ⟨("Roll", some "look_hand"), "look_hand", "Roll.look_hand", defArgs s_Roll_look_hand, defBody s_Roll_look_hand, defScope s_Roll_look_hand, [], []⟩
def dd18 : He.DefD := ⟨("Roll", some "ask"), "ask", "Roll.ask", defArgs s_Roll_ask, defBody s_Roll_ask, defScope s_Roll_ask, [], []⟩
def dd19 : He.DefD := ⟨("Roll", some "is_put"), "is_put", "Roll.is_put", defArgs s_Roll_is_put, defBody s_Roll_is_put, defScope s_Roll_is_put, [], []⟩
def dd20 : He.DefD := ⟨("Roll", some "winner"), "winner", "Roll.winner", defArgs s_Roll_winner, defBody s_Roll_winner, defScope s_Roll_winner, [], []⟩
def dd21 : He.DefD := ⟨("Roll", some "step"), "step", "Roll.step", defArgs s_Roll_step, defBody s_Roll_step, defScope s_Roll_step, [], []⟩
def dd22 : He.DefD := ⟨("_law_roll_do", none), "_law_roll_do", "_law_roll_do", defArgs s__law_roll_do, defBody s__law_roll_do, defScope s__law_roll_do, [], []⟩
def dd23 : He.DefD := ⟨("Roll", some "rows"), "rows", "Roll.rows", defArgs s_Roll_rows, defBody s_Roll_rows, defScope s_Roll_rows, [], []⟩
def dd24 : He.DefD := ⟨("Roll", some "pending"), "pending", "Roll.pending", defArgs s_Roll_pending, defBody s_Roll_pending, defScope s_Roll_pending, [], []⟩
def dd25 : He.DefD := ⟨("Roll", some "behind"), "behind", "Roll.behind", defArgs s_Roll_behind, defBody s_Roll_behind, defScope s_Roll_behind, [], []⟩
def dd26 : He.DefD := ⟨("Roll", some "stand"), "stand", "Roll.stand", defArgs s_Roll_stand, defBody s_Roll_stand, defScope s_Roll_stand, [], []⟩
def dd27 : He.DefD := ⟨("_law_roll_so", none), "_law_roll_so", "_law_roll_so", defArgs s__law_roll_so, defBody s__law_roll_so, defScope s__law_roll_so, [], []⟩
def dd28 : He.DefD := ⟨("law", none), "law", "law", defArgs s_law, defBody s_law, defScope s_law, [], []⟩
def dd29 : He.DefD := ⟨("_law_called", none), "_law_called", "_law_called", defArgs s__law_called, defBody s__law_called, defScope s__law_called, [], []⟩
def dd30 : He.DefD := ⟨("_law_tried", none), "_law_tried", "_law_tried", defArgs s__law_tried, defBody s__law_tried, defScope s__law_tried, [], []⟩
def dd31 : He.DefD := ⟨("NoHand", some "__init__"), "__init__", "NoHand.__init__", defArgs i_NoHand, defBody i_NoHand, defScope i_NoHand, [.str ""], []⟩
def dd32 : He.DefD := ⟨("Idle", some "__init__"), "__init__", "Idle.__init__", defArgs i_Idle, defBody i_Idle, defScope i_Idle, [.str ""], []⟩
def dd33 : He.DefD := ⟨("Busy", some "__init__"), "__init__", "Busy.__init__", defArgs i_Busy, defBody i_Busy, defScope i_Busy, [.str ""], []⟩
def dd34 : He.DefD := ⟨("NoOperation", some "__init__"), "__init__", "NoOperation.__init__", defArgs i_NoOperation, defBody i_NoOperation, defScope i_NoOperation, [.str ""], []⟩
def dd35 : He.DefD := ⟨("BadMany", some "__init__"), "__init__", "BadMany.__init__", defArgs i_BadMany, defBody i_BadMany, defScope i_BadMany, [.str ""], []⟩
def dd36 : He.DefD := ⟨("NoStand", some "__init__"), "__init__", "NoStand.__init__", defArgs i_NoStand, defBody i_NoStand, defScope i_NoStand, [.str ""], []⟩
def dd37 : He.DefD := ⟨("BadTable", some "__init__"), "__init__", "BadTable.__init__", defArgs i_BadTable, defBody i_BadTable, defScope i_BadTable, [], []⟩
def fa_0 : List He.Fa := ([.glo "is_whole", .glo "is_operation", .glo "look_table", .glo "look_stand", .glo "look_operation", .glo "look_many", .glo "_law_numbers", .glo "_law_known", .glo "_law_rows", .glo "_law_table", .glo "_law_roll_state", .glo "_law_roll_deed", .glo "_law_roll_word", .glo "_law_roll_after", .glo "_law_same", .glo "Roll", .glo "_law_roll_do", .glo "_law_roll_so", .glo "law", .mkr "Roll", .meth "Roll" "__len__", .meth "Roll" "look_hand", .meth "Roll" "ask", .meth "Roll" "is_put", .meth "Roll" "winner", .meth "Roll" "step", .meth "Roll" "rows", .meth "Roll" "pending", .meth "Roll" "behind", .meth "Roll" "stand"] : List He.Fa) ++ ([.cls "Roll", .noat "Roll" "table", .noat "Roll" "many", .noat "Roll" "cells", .noat "Roll" "asked", .noat "Roll" "gone", .noat "Roll" "here", .glo "NoHand", .glo "Idle", .glo "Busy", .glo "NoOperation", .glo "BadMany", .glo "NoStand", .glo "BadTable", .glo "BadText", .glo "BadChoice", .glo "BadOrder", .glo "BadScheme", .glo "BadWishes", .glo "BadTurn", .glo "Full", .glo "TooWide", .glo "NoScheme", .glo "Ended", .glo "Still", .glo "Undone", .glo "NothingLeft", .glo "HandError", .glo "Missing", .glo "_law_tried"] : List He.Fa) ++ ([.glo "_law_called", .free "len", .free "range", .free "tuple", .free "list", .free "all", .free "any", .free "isinstance", .free "int", .free "bool", .free "str", .free "sorted", .free "enumerate", .free "zip", .free "max", .free "min", .free "set", .free "dict", .free "sum", .free "repr", .int "MOST_HANDS" 4, .int "MOST_OPERATIONS" 4, .int "MOST_STANDS" 5] : List He.Fa)
def fn_0 : List He.DefD := ([dd0, dd1, dd2, dd3, dd4, dd5, dd6, dd7, dd8, dd9, dd10, dd11, dd12, dd13, dd14, dd15, dd16, dd17, dd18, dd19, dd20, dd21, dd22, dd23, dd24, dd25, dd26, dd27, dd28, dd29] : List He.DefD) ++ ([dd30, dd31, dd32, dd33, dd34, dd35, dd36, dd37] : List He.DefD)
def fas : List (List He.Fa) := [fa_0]
def fns : List (List He.DefD) := [fn_0]
def fn : List He.DefD := fns.flatten
def fa : List He.Fa := fas.flatten
def exB (K : PySem.W.Frag) : Bool := xcB K "NoHand" ["word"] && xcB K "Idle" ["word"] && xcB K "Busy" ["word"] && xcB K "NoOperation" ["word"] && xcB K "BadMany" ["word"] && xcB K "NoStand" ["word"] && xcB K "BadTable" ["word", "at"] && xn_law.all (trB K)
abbrev R : PySem.W.OpenRow := PySem.W.OpenLaw.row PySem.Challenge.rw_whofirst_k51_rolls_step_by_step
abbrev hk : PySem.W.Hook := hookA ads fa fn ([] : List He.Tab) [("law", none)] exB
def ob (s : PySem.W.SharedT) : He.AlX := obsA ads fa fn ([] : List He.Tab) [("law", none)] exB (HandSHeadRun.getT s)
def loose : List PySem.Str := (["HandError", "BadTable", "BadText", "BadChoice", "BadOrder", "BadMany", "BadScheme", "BadWishes", "BadTurn", "Full", "TooWide", "NoScheme", "Ended", "Still", "Busy", "Idle", "Undone", "Missing", "NoStand", "NoOperation", "NoHand", "NothingLeft", "MOST_STANDS", "MOST_OPERATIONS", "is_whole", "is_operation", "look_table", "look_stand", "look_operation", "MOST_HANDS"] : List PySem.Str) ++ (["look_many", "Roll", "_law_numbers", "_law_known", "_law_rows", "_law_table", "_law_roll_state", "_law_roll_deed", "_law_roll_word", "_law_roll_after", "_law_same", "_law_called", "_law_tried", "_law_roll_do", "_law_roll_so"] : List PySem.Str)
theorem run0 (w : World) : ∀ os : OsState, (HandSHeadRun.endF (HandSHeadRun.stepQ (HandSHeadRun.denQ HandSHeadRun.tabQ) R.prog (w)) 20000 R.prog (w) os).map (fun s => (HandSHeadRun.looksF R.prog (PySem.W.boot_heap (w).params) s.abs, HandSHeadRun.seenQ (PySem.W.view R.prog [50]) loose (PySem.importedModules R.prog.main.body) (fun s => PySem.W.xlAt (PySem.W.view R.prog [50]) [] s && PySem.W.recOk R.toRowW.records s) s.abs)) = some (true, PySem.W.openGood (PySem.W.view R.prog [50]) loose) := by
  intro os
  kernel_rfl
theorem runA0 (w : World) : ∀ os : OsState, (HandSHeadRun.endF (HandSHeadRun.stepQ (HandSHeadRun.denQ HandSHeadRun.tabQ) R.prog (w)) 20000 R.prog (w) os).map (fun s => fa_0.all fun f => f.ok (kk ads s)) = some true := by
  intro os
  kernel_rfl
theorem runB0 (w : World) : ∀ os : OsState, (HandSHeadRun.endF (HandSHeadRun.stepQ (HandSHeadRun.denQ HandSHeadRun.tabQ) R.prog (w)) 20000 R.prog (w) os).map (fun s => ((fn_0.all fun d => d.ok (kk ads s)), fn_0.map fun d => He.fnW (kk ads s) d.at_)) = some (true, fn_0.map He.DefD.val) := by
  intro os
  kernel_rfl
theorem runC (w : World) : ∀ os : OsState, (HandSHeadRun.endF (HandSHeadRun.stepQ (HandSHeadRun.denQ HandSHeadRun.tabQ) R.prog (w)) 20000 R.prog (w) os).map (fun s => (([] : List He.Tab).map (fun t => He.dicW (kk ads s) (t.1 (kk ads s))), exB (kk ads s) && He.tabsB (HandSHeadRun.getT s) [("law", none)] (kk ads s))) = some (([] : List He.Tab).map (fun t => some (He.keysIn (w).params t.2)), true) := by
  intro os
  kernel_rfl
theorem run (w : World) : HandSHeadRun.RunEq R (PySem.W.view R.prog [50]) hk ob 20000 loose w := by
  intro os
  refine run_join (run0 w os) ?_ ?_ (runC w os)
  · intro fa h
    simp only [fas, List.mem_cons, List.not_mem_nil, or_false] at h
    rcases h with rfl
    · exact runA0 w os
  · intro fn h
    simp only [fns, List.mem_cons, List.not_mem_nil, or_false] at h
    rcases h with rfl
    · exact runB0 w os
end
end WH
open PySem PySem.W PySem.Calls PyProof.Rows
end FirstPart
set_option Elab.async false
set_option linter.all false
set_option autoImplicit false
set_option maxRecDepth 100000
set_option maxHeartbeats 4000000
namespace WH
open PySem PySem.Spec L2
def tupO (its : List Value) : Obj := { cls := .type "tuple", data := .seq its.toArray }
def tupN (its : List Value) (xs : List V) : HO := .frz (tupO its) (.tup xs)
theorem SqN.new {K : PySem.W.Frag} {H : Hp} {a : Addr} {its : List Value} {xs : List V} (h : H a = some (tupN its xs)) : SqN K H a xs := .inl ⟨_, h, rfl⟩
def wk (ds : List PyData) : PyData := .dict [(.none, .tuple ds)]
section
variable {K : PySem.W.Frag} {H H' : Hp}
theorem canLay_list {ds : List PyData} (h : (PyData.list ds).canLay0 = true) : PyData.canLayAll0 ds = true := by simpa [PyData.canLay0] using h
theorem canLay_tuple {ds : List PyData} (h : (PyData.tuple ds).canLay0 = true) : PyData.canLayAll0 ds = true := by simpa [PyData.canLay0] using h
theorem canLay_cons {d : PyData} {ds : List PyData} (h : PyData.canLayAll0 (d :: ds) = true) : d.canLay0 = true ∧ PyData.canLayAll0 ds = true := by simpa [PyData.canLayAll0] using h
theorem rp_dp {v : V} {d : PyData} (h : Rp K H v d) : d.canLay0 = true → Dp K H v d :=
  Rp.rec (motive_1 := fun v d _ => d.canLay0 = true → Dp K H v d) (motive_2 := fun xs ds _ => PyData.canLayAll0 ds = true → DpAll K H xs ds) (motive_3 := fun xs ds _ => True) (motive_4 := fun xs ds _ => True) (motive_5 := fun xs ds _ => True)
    (fun _ => .non) (fun b _ => .bl b) (fun b _ => .int b) (fun b _ => .str b) (fun h _ i c => .lst (SqL.of h) (i (canLay_list c))) (fun h _ i c => .tup h.t (i (canLay_tuple c))) (fun h _ i c => by simp [PyData.canLay0] at c) (fun h _ i c => by simp [PyData.canLay0] at c) (fun h _ i c => by simp [PyData.canLay0] at c) (fun h _ i c => by simp [PyData.canLay0] at c) (fun h c => by simp [PyData.canLay0] at c)
    (fun _ => .nil) (fun _ _ i j c => .cons (i (canLay_cons c).1) (j (canLay_cons c).2)) trivial (fun _ _ _ _ => trivial) trivial (fun _ _ _ _ => trivial) trivial (fun _ _ _ _ _ _ _ _ => trivial) h
theorem rpa_length : ∀ {xs : List V} {ds : List PyData}, RpAll K H xs ds → xs.length = ds.length
  | _, _, .nil => rfl
  | _, _, .cons _ t => by simp [rpa_length t]
theorem rpa_get : ∀ {xs : List V} {ds : List PyData} {i : Nat} {d : PyData}, RpAll K H xs ds → ds[i]? = some d → ∃ v, xs[i]? = some v ∧ Rp K H v d
  | _, _, _, _, .nil, e => by simp at e
  | _, _, 0, _, .cons h _, e => by simp at e; subst e; exact ⟨_, rfl, h⟩
  | _, _, i + 1, d, .cons _ t, e => by
    obtain ⟨v, h1, h2⟩ := rpa_get (i := i) (d := d) t (by simpa using e)
    exact ⟨v, by simpa using h1, h2⟩
theorem rpa_append : ∀ {xs ys : List V} {ds es : List PyData}, RpAll K H xs ds → RpAll K H ys es → RpAll K H (xs ++ ys) (ds ++ es)
  | _, _, _, _, .nil, h => h
  | _, _, _, _, .cons a t, h => .cons a (rpa_append t h)
theorem rpa_take : ∀ {xs : List V} {ds : List PyData} (n : Nat), RpAll K H xs ds → RpAll K H (xs.take n) (ds.take n)
  | _, _, 0, _ => .nil
  | _, _, _ + 1, .nil => .nil
  | _, _, n + 1, .cons a t => .cons a (rpa_take n t)
theorem rpa_drop : ∀ {xs : List V} {ds : List PyData} (n : Nat), RpAll K H xs ds → RpAll K H (xs.drop n) (ds.drop n)
  | _, _, 0, h => h
  | _, _, _ + 1, .nil => .nil
  | _, _, n + 1, .cons _ t => rpa_drop n t
theorem rpa_set : ∀ {xs : List V} {ds : List PyData} {v : V} {d : PyData} (n : Nat), Rp K H v d → RpAll K H xs ds → RpAll K H (xs.set n v) (ds.set n d)
  | _, _, _, _, _, _, .nil => .nil
  | _, _, _, _, 0, h, .cons _ t => .cons h t
  | _, _, _, _, n + 1, h, .cons a t => .cons a (rpa_set n h t)
theorem rpa_rep {xs : List V} {ds : List PyData} (h : RpAll K H xs ds) : ∀ n : Nat, RpAll K H (List.replicate n xs).flatten (List.replicate n ds).flatten
  | 0 => .nil
  | n + 1 => by
    rw [List.replicate_succ, List.replicate_succ, List.flatten_cons, List.flatten_cons]
    exact rpa_append h (rpa_rep h n)
theorem rpa_ints : ∀ (ns : List Int), RpAll K H (ns.map V.int) (ns.map PyData.int)
  | [] => .nil
  | n :: ns => .cons (.int n) (rpa_ints ns)
theorem rpa_strs : ∀ (ns : List Str), RpAll K H (ns.map V.str) (ns.map PyData.str)
  | [] => .nil
  | n :: ns => .cons (.str n) (rpa_strs ns)
theorem rpa_ofInts : ∀ {xs : List V} {ns : List Int}, RpAll K H xs (ns.map PyData.int) → xs = ns.map V.int
  | _, [], h => by cases h; rfl
  | _, n :: ns, h => by
    cases h with
    | cons a t => cases a; rw [rpa_ofInts t]; rfl
theorem rpa_ofBools : ∀ {xs : List V} {ns : List Bool}, RpAll K H xs (ns.map PyData.bool) → xs = ns.map V.bl
  | _, [], h => by cases h; rfl
  | _, n :: ns, h => by
    cases h with
    | cons a t => cases a; rw [rpa_ofBools t]; rfl
theorem rpa_ofStrs : ∀ {xs : List V} {ns : List Str}, RpAll K H xs (ns.map PyData.str) → xs = ns.map V.str
  | _, [], h => by cases h; rfl
  | _, n :: ns, h => by
    cases h with
    | cons a t => cases a; rw [rpa_ofStrs t]; rfl
end
theorem same_mut {G H : Hp} {p : Addr} {o : HO} (e : Same G H) (h : G p = none) : Same G (upd H p o) := fun a u ha => by
  rw [upd_ne (ne_of_none ha h)]
  exact e a u ha
theorem kv_none {K : PySem.W.Frag} {G : Hp} {xs : List (Key × V)} {ds : List (PyData × PyData)} (h : RpKv K G xs ds) : ∀ d r, ds ≠ (.none, d) :: r := fun d r e => by
  cases h with
  | nil => cases e
  | @cons k _ _ _ _ _ _ =>
    have := congrArg (fun l : List (PyData × PyData) => l.head?.map (·.1)) e
    cases k <;> cases this
theorem tv_none {K : PySem.W.Frag} {G : Hp} {xs : List (List Key × V)} {ds : List (PyData × PyData)} (h : RpTv K G xs ds) : ∀ d r, ds ≠ (.none, d) :: r := fun d r e => by
  cases h with
  | nil => cases e
  | cons _ _ =>
    have := congrArg (fun l : List (PyData × PyData) => l.head?.map (·.1)) e
    cases this
theorem rp_wk {K : PySem.W.Frag} {G : Hp} {v : V} {ds : List PyData} (h : Rp K G v (wk ds)) : ∃ a xs, v = .ref a ∧ SqT K G a xs ∧ RpAll K G xs ds := by
  generalize e : wk ds = d at h
  unfold wk at e
  cases h with
  | tpw h1 h2 => cases e; exact ⟨_, _, rfl, h1, h2⟩
  | dik _ h2 => cases e; exact (kv_none h2 _ _ rfl).elim
  | dit _ h2 => cases e; exact (tv_none h2 _ _ rfl).elim
  | _ => cases e
theorem nt_ntb {H : Hp} {a : Addr} {o : HO} (h : nt H a = some o) : NTb o := fun ps z => by
  unfold nt at h
  split at h
  · cases h
  · rename_i n
    exact n ps (by rw [h, z])
theorem nf_of {H : Hp} {a : Addr} (h : H a = none) : NF H a := by
  unfold NF nt
  rw [h]
theorem nt_upd {H : Hp} {p : Addr} {o : HO} (ho : NTb o) : nt (upd H p o) = upd (nt H) p o := by
  funext b
  by_cases hb : b = p
  · subst hb
    rw [upd_same]
    exact nt_of upd_same ho
  · rw [upd_ne hb]
    unfold nt
    rw [upd_ne hb]
theorem ex_upd [TabC] {H : Hp} {p : Addr} {o : HO} (h : H p = none) (ho : NTb o) : Ex H (upd H p o) :=
  ⟨by rw [nt_upd ho]; exact same_upd (nf_of h), fun t => t.ext (same_upd h)⟩
section
variable {K : PySem.W.Frag} {G H G' H' : Hp}
theorem sAtF_frame (gg : Same G G') : ∀ {vs : List (Str × V)} {ts : List (Str × ST)} {fp : List Addr}, SAtF K G H vs ts fp → (∀ a ∈ fp, H' a = H a) → SAtF K G' H' vs ts fp
  | _, _, _, .nil, _ => .nil
  | _, _, _, .cons a t, hf => .cons (sAt_frame gg a (fp_app hf).1) (sAtF_frame gg t (fp_app hf).2)
end
theorem sameNil {H : Hp} : Same (@ObjB.B objNil) H := fun _ _ e => nomatch e
variable [TabC]
variable [ObjB]
section
variable {K : PySem.W.Frag} {G0 H0 G H G' H' : Hp} {σ : L2.St} {ρ : Sto}
theorem Ok.share (k : Ok K G0 H0 G H σ ρ) {p : Addr} {o : HO} (hp : H p = none) (ho : NTb o := by intro _ z; cases z) : Ok K G0 H0 (upd G p o) (upd H p o) σ ρ :=
  k.grow (same_upd (k.gh.free hp)) (ex_upd hp ho) (fun a u e => by
    rw [nt_upd ho]
    by_cases ha : a = p
    · subst ha; rw [upd_same] at e; rw [upd_same]; exact e
    · rw [upd_ne ha] at e; rw [upd_ne ha]; exact k.gn a u e) (fun a u e => by
    by_cases ha : a = p
    · subst ha; exact .inr (.inl (nf_of hp))
    · rw [upd_ne ha] at e; exact .inl e)
theorem Ok.fresh (k : Ok K G0 H0 G H σ ρ) {p : Addr} {o : HO} (hp : H p = none) (ho : NTb o := by intro _ z; cases z) : Ok K G0 H0 G (upd H p o) σ ρ :=
  k.grow (Same.refl G) (ex_upd hp ho) (by rw [nt_upd ho]; exact same_mut k.gn (k.gh.free hp)) fun a u e => .inl e
theorem getElem_set_eq {α : Type} {l : List α} {i j : Nat} {x : α} : (l.set i x)[j]? = if i = j then (if i < l.length then some x else none) else l[j]? := by
  rw [List.getElem?_set]
theorem Ok.setSh (k : Ok K G0 H0 G H σ ρ) {i : Nat} {v : V} {d : PyData} (hv : Rp K G v d) : Ok K G0 H0 G H (σ.set i (some v)) (ρ.set i (.sh d)) where
  gn := k.gn
  g0 := k.g0
  h0 := k.h0
  tb := k.tb
  nw := k.nw
  len := by rw [List.length_set, List.length_set]; exact k.len
  sh := fun j e h => by
    rw [getElem_set_eq] at h ⊢
    by_cases hij : i = j
    · rw [if_pos hij] at h ⊢
      rw [k.len]
      by_cases hl : i < ρ.length
      · rw [if_pos hl] at h ⊢
        cases h
        exact ⟨v, rfl, hv⟩
      · rw [if_neg hl] at h; cases h
    · rw [if_neg hij] at h ⊢
      exact k.sh j e h
  ow := fun j o h => by
    rw [getElem_set_eq] at h ⊢
    by_cases hij : i = j
    · rw [if_pos hij] at h
      by_cases hl : i < ρ.length
      · rw [if_pos hl] at h; cases h
      · rw [if_neg hl] at h; cases h
    · rw [if_neg hij] at h ⊢
      exact k.ow j o h
  ap := fun j l o u a hjl h1 h2 h3 => by
    rw [getElem_set_eq] at h1 h2 h3 ⊢
    by_cases hij : i = j
    · rw [if_pos hij] at h1
      by_cases hl : i < ρ.length
      · rw [if_pos hl] at h1; cases h1
      · rw [if_neg hl] at h1; cases h1
    · by_cases hil : i = l
      · rw [if_pos hil] at h2
        by_cases hl : i < ρ.length
        · rw [if_pos hl] at h2; cases h2
        · rw [if_neg hl] at h2; cases h2
      · rw [if_neg hij] at h1 h3
        rw [if_neg hil] at h2 ⊢
        exact k.ap j l o u a hjl h1 h2 h3
  rw := fun j v x h => by
    rw [getElem_set_eq] at h ⊢
    by_cases hij : i = j
    · rw [if_pos hij] at h
      by_cases hl : i < ρ.length
      · rw [if_pos hl] at h; cases h
      · rw [if_neg hl] at h; cases h
    · rw [if_neg hij] at h ⊢
      exact k.rw j v x h
  tr := fun j b t h => by
    rw [getElem_set_eq] at h ⊢
    by_cases hij : i = j
    · rw [if_pos hij] at h
      by_cases hl : i < ρ.length
      · rw [if_pos hl] at h; cases h
      · rw [if_neg hl] at h; cases h
    · rw [if_neg hij] at h ⊢
      exact k.tr j b t h
  bB := k.bB
theorem Ok.setNo (k : Ok K G0 H0 G H σ ρ) {i : Nat} {v : Option V} : Ok K G0 H0 G H (σ.set i v) (ρ.set i .no) where
  gn := k.gn
  g0 := k.g0
  h0 := k.h0
  tb := k.tb
  nw := k.nw
  len := by rw [List.length_set, List.length_set]; exact k.len
  sh := fun j e h => by
    rw [getElem_set_eq] at h ⊢
    by_cases hij : i = j
    · rw [if_pos hij] at h
      by_cases hl : i < ρ.length
      · rw [if_pos hl] at h; cases h
      · rw [if_neg hl] at h; cases h
    · rw [if_neg hij] at h ⊢
      exact k.sh j e h
  ow := fun j o h => by
    rw [getElem_set_eq] at h ⊢
    by_cases hij : i = j
    · rw [if_pos hij] at h
      by_cases hl : i < ρ.length
      · rw [if_pos hl] at h; cases h
      · rw [if_neg hl] at h; cases h
    · rw [if_neg hij] at h ⊢
      exact k.ow j o h
  ap := fun j l o u a hjl h1 h2 h3 => by
    rw [getElem_set_eq] at h1 h2 h3 ⊢
    by_cases hij : i = j
    · rw [if_pos hij] at h1
      by_cases hl : i < ρ.length
      · rw [if_pos hl] at h1; cases h1
      · rw [if_neg hl] at h1; cases h1
    · by_cases hil : i = l
      · rw [if_pos hil] at h2
        by_cases hl : i < ρ.length
        · rw [if_pos hl] at h2; cases h2
        · rw [if_neg hl] at h2; cases h2
      · rw [if_neg hij] at h1 h3
        rw [if_neg hil] at h2 ⊢
        exact k.ap j l o u a hjl h1 h2 h3
  rw := fun j v x h => by
    rw [getElem_set_eq] at h ⊢
    by_cases hij : i = j
    · rw [if_pos hij] at h
      by_cases hl : i < ρ.length
      · rw [if_pos hl] at h; cases h
      · rw [if_neg hl] at h; cases h
    · rw [if_neg hij] at h ⊢
      exact k.rw j v x h
  tr := fun j b t h => by
    rw [getElem_set_eq] at h ⊢
    by_cases hij : i = j
    · rw [if_pos hij] at h
      by_cases hl : i < ρ.length
      · rw [if_pos hl] at h; cases h
      · rw [if_neg hl] at h; cases h
    · rw [if_neg hij] at h ⊢
      exact k.tr j b t h
  bB := k.bB
theorem Ok.setOw (k : Ok K G0 H0 G H σ ρ) {i : Nat} {p : Addr} {ho : HO} {o : OD} (hp : H p = some ho) (hg : G p = none) (h0 : NF H0 p) (hx : HoOk K G ho o) (un : ∀ (j : Nat) (u : OD), i ≠ j → ρ[j]? = some (Slot.ow u) → σ[j]? ≠ some (some (V.ref p))) :
    Ok K G0 H0 G H (σ.set i (some (.ref p))) (ρ.set i (.ow o)) where
  gn := k.gn
  g0 := k.g0
  h0 := k.h0
  tb := k.tb
  nw := k.nw
  len := by rw [List.length_set, List.length_set]; exact k.len
  sh := fun j e h => by
    rw [getElem_set_eq] at h ⊢
    by_cases hij : i = j
    · rw [if_pos hij] at h
      by_cases hl : i < ρ.length
      · rw [if_pos hl] at h; cases h
      · rw [if_neg hl] at h; cases h
    · rw [if_neg hij] at h ⊢
      exact k.sh j e h
  ow := fun j u h => by
    rw [getElem_set_eq] at h ⊢
    by_cases hij : i = j
    · rw [if_pos hij] at h ⊢
      rw [k.len]
      by_cases hl : i < ρ.length
      · rw [if_pos hl] at h ⊢
        cases h
        exact ⟨p, ho, rfl, hp, hg, h0, hx⟩
      · rw [if_neg hl] at h; cases h
    · rw [if_neg hij] at h ⊢
      exact k.ow j u h
  ap := fun j l u u' a hjl h1 h2 h3 => by
    rw [getElem_set_eq] at h1 h2 h3 ⊢
    by_cases hij : i = j
    · have hil : ¬ i = l := fun z => hjl (hij.symm.trans z)
      rw [if_neg hil] at h2 ⊢
      rw [if_pos hij] at h1 h3
      by_cases hl : i < σ.length
      · rw [if_pos hl] at h3
        cases h3
        exact un l u' hil h2
      · rw [if_neg hl] at h3; cases h3
    · rw [if_neg hij] at h1 h3
      by_cases hil : i = l
      · rw [if_pos hil] at h2 ⊢
        by_cases hl : i < σ.length
        · rw [if_pos hl]
          intro z
          cases z
          exact un j u hij h1 h3
        · rw [if_neg hl]; intro z; cases z
      · rw [if_neg hil] at h2 ⊢
        exact k.ap j l u u' a hjl h1 h2 h3
  rw := fun j v x h => by
    rw [getElem_set_eq] at h ⊢
    by_cases hij : i = j
    · rw [if_pos hij] at h
      by_cases hl : i < ρ.length
      · rw [if_pos hl] at h; cases h
      · rw [if_neg hl] at h; cases h
    · rw [if_neg hij] at h ⊢
      exact k.rw j v x h
  tr := fun j b t h => by
    rw [getElem_set_eq] at h ⊢
    by_cases hij : i = j
    · rw [if_pos hij] at h
      by_cases hl : i < ρ.length
      · rw [if_pos hl] at h; cases h
      · rw [if_neg hl] at h; cases h
    · rw [if_neg hij] at h ⊢
      exact k.tr j b t h
  bB := k.bB
theorem Ok.newOw (k : Ok K G0 H0 G H σ ρ) (hh : Ex H H') (k' : Ok K G0 H0 G' H' σ ρ) {i : Nat} {p : Addr} {ho : HO} {o : OD} (hn : NF H p) (hp : H' p = some ho) (hg : G' p = none) (hx : HoOk K G' ho o) :
    Ok K G0 H0 G' H' (σ.set i (some (.ref p))) (ρ.set i (.ow o)) :=
  k'.setOw hp hg (k.h0.free hn) hx fun j u _ e z => by
    obtain ⟨a, ho', h1, h2, _, _, h5⟩ := k.ow j u e
    rw [h1] at z
    cases z
    exact nf_no h2 (hoOk_ntb h5) hn
theorem ndP_ne {a c : Addr} {xs : List (NestedKey × Addr × V)} {q : Str} : HO.ext (ndP a xs) ≠ LamX.CodeO c q := fun z => by
  unfold LamX.CodeO at z
  have e := HO.ext.inj z
  have size : ∀ k : Nat, ∃ h : Heap, h.objs.size = k ∧ ∀ b, b < k → h.get? b = some ({ cls := .none, data := .fields #[] } : Obj) := fun k => by
    induction k with
    | zero => exact ⟨{}, rfl, fun b h => by omega⟩
    | succ k ih =>
      obtain ⟨h, hk, hd⟩ := ih
      refine ⟨h.push { cls := .none, data := .fields #[] }, by rw [Heap.size_push, hk], fun b hb => ?_⟩
      by_cases hl : b = k
      · rw [hl, ← hk]; exact Heap.get?_push_size _ rfl
      · exact Heap.get?_push_of_some _ (hd b (by omega))
  obtain ⟨h, hk, hd⟩ := size c
  have hp : (h.push { cls := .none, data := .fields #[.none, .str q 0] }).get? c = some { cls := .none, data := .fields #[.none, .str q 0] } := by rw [← hk]; exact Heap.get?_push_size _ rfl
  have := (congrFun e (h.push { cls := .none, data := .fields #[.none, .str q 0] })).mpr ⟨_, _, _, hp, rfl, rfl⟩
  obtain ⟨_, _, o, es, ep, ys, ho, hex, hdt, _⟩ := this
  by_cases hl : a = c
  · rw [hl, hp] at ho
    cases ho
    cases hdt
  · have hs := Heap.lt_size ho
    rw [Heap.size_push, hk] at hs
    rw [Heap.get?_push_of_some _ (hd a (Nat.lt_of_le_of_ne (Nat.le_of_lt_succ hs) hl))] at ho
    cases ho
    cases hdt
theorem hoOk_nco {K : PySem.W.Frag} {H : Hp} {h : HO} {o : OD} (x : HoOk K H h o) : ∀ c q, h ≠ LamX.CodeO c q := fun c q z => by
  cases h with
  | ext φ =>
    cases o with
    | ndic kvs =>
      obtain ⟨a, xs, rfl, _⟩ := x
      exact ndP_ne z
    | _ => exact x.elim
  | _ => cases z
theorem tabs_mutC {H : Hp} {p : Addr} {ho ho' : HO} (t : LamX.Tabs TabC.T H) (h : H p = some ho) (n1 : NTb ho) (n2 : ∀ c q, ho ≠ LamX.CodeO c q) : LamX.Tabs TabC.T (upd H p ho') := fun q hq => by
  obtain ⟨ps, e1, e2, e3⟩ := t q hq
  refine ⟨ps, ?_, e2, fun pos cv hc => ?_⟩
  · rw [upd_ne fun z => ?_]; exact e1
    rw [z, h] at e1
    cases e1
    exact n1 ps rfl
  · obtain ⟨c, e4, e5⟩ := e3 pos cv hc
    refine ⟨c, e4, ?_⟩
    rw [upd_ne fun z => ?_]; exact e5
    rw [z, h] at e5
    exact n2 _ _ (Option.some.inj e5)
theorem tabs_mut {H : Hp} {p : Addr} {ho ho' : HO} (t : LamX.Tabs TabC.T H) (h : H p = some ho) (n1 : NTb ho) (n2 : ∀ f, ho ≠ .ext f) : LamX.Tabs TabC.T (upd H p ho') := fun q hq => by
  obtain ⟨ps, e1, e2, e3⟩ := t q hq
  refine ⟨ps, ?_, e2, fun pos cv hc => ?_⟩
  · rw [upd_ne fun z => ?_]; exact e1
    rw [z, h] at e1
    cases e1
    exact n1 ps rfl
  · obtain ⟨c, e4, e5⟩ := e3 pos cv hc
    refine ⟨c, e4, ?_⟩
    rw [upd_ne fun z => ?_]; exact e5
    rw [z, h] at e5
    exact n2 _ (Option.some.inj e5)
theorem ex_mut {H0 H : Hp} {p : Addr} {xs ys : List V} (e : Ex H0 H) (n : NF H0 p) (h : H p = some (.lst xs)) : Ex H0 (upd H p (.lst ys)) :=
  ⟨by rw [nt_upd ntb_lst]; exact same_mut e.s n, fun t => tabs_mut (e.t t) h ntb_lst fun _ z => by cases z⟩
theorem Ok.mutOw (k : Ok K G0 H0 G H σ ρ) {i : Nat} {p : Addr} {o o' : OD} {ho' : HO} (hi : ρ[i]? = some (Slot.ow o)) (hs : σ[i]? = some (some (V.ref p))) (hx : HoOk K G ho' o') : Ok K G0 H0 G (upd H p ho') σ (ρ.set i (.ow o')) := by
  obtain ⟨a, ho, h1, h2, h3, h4, h5⟩ := k.ow i o hi
  rw [hs] at h1
  cases h1
  have hn := hoOk_ntb hx
  refine ⟨by rw [nt_upd hn]; exact same_mut k.gn h3, k.g0, ⟨by rw [nt_upd hn]; exact same_mut k.h0.s h4, fun _ => tabs_mutC k.tb h2 (hoOk_ntb h5) (hoOk_nco h5)⟩, tabs_mutC k.tb h2 (hoOk_ntb h5) (hoOk_nco h5), k.nw, by rw [List.length_set]; exact k.len, fun j e h => ?_, fun j u h => ?_, fun j l u u' a hjl g1 g2 g3 => ?_, fun j v x h => ?_, fun j b t h => ?_, k.bB⟩
  · rw [getElem_set_eq] at h
    by_cases hij : i = j
    · rw [if_pos hij] at h
      by_cases hl : i < ρ.length
      · rw [if_pos hl] at h; cases h
      · rw [if_neg hl] at h; cases h
    · rw [if_neg hij] at h
      exact k.sh j e h
  · rw [getElem_set_eq] at h
    by_cases hij : i = j
    · rw [if_pos hij] at h
      by_cases hl : i < ρ.length
      · rw [if_pos hl] at h
        cases h
        exact ⟨p, ho', by rw [← hij]; exact hs, upd_same, h3, h4, hx⟩
      · rw [if_neg hl] at h; cases h
    · rw [if_neg hij] at h
      obtain ⟨b, hb, g1, g2, g3, g4, g5⟩ := k.ow j u h
      have ne : b ≠ p := fun z => k.ap i j o u p hij hi h hs (by rw [← z]; exact g1)
      exact ⟨b, hb, g1, by rw [upd_ne ne]; exact g2, g3, g4, g5⟩
  · rw [getElem_set_eq] at g1 g2
    have some_of : ∀ {m : Nat} {w : OD}, (if i = m then (if i < ρ.length then some (Slot.ow o') else none) else ρ[m]?) = some (Slot.ow w) → ∃ w', ρ[m]? = some (Slot.ow w') := fun {m w} h => by
      by_cases him : i = m
      · subst him; exact ⟨o, hi⟩
      · rw [if_neg him] at h; exact ⟨w, h⟩
    obtain ⟨w1, e1⟩ := some_of g1
    obtain ⟨w2, e2⟩ := some_of g2
    exact k.ap j l w1 w2 a hjl e1 e2 g3
  · rw [getElem_set_eq] at h
    by_cases hij : i = j
    · rw [if_pos hij] at h
      by_cases hl : i < ρ.length
      · rw [if_pos hl] at h; cases h
      · rw [if_neg hl] at h; cases h
    · rw [if_neg hij] at h
      exact k.rw j v x h
  · rw [getElem_set_eq] at h
    by_cases hij : i = j
    · rw [if_pos hij] at h
      by_cases hl : i < ρ.length
      · rw [if_pos hl] at h; cases h
      · rw [if_neg hl] at h; cases h
    · rw [if_neg hij] at h
      exact k.tr j b t h
theorem Ok.freezeSlot (k : Ok K G0 H0 G H σ ρ) {i : Nat} {ds : List PyData} (hi : ρ[i]? = some (Slot.ow (.lst ds))) : ∃ G', Same G G' ∧ Ok K G0 H0 G' H σ (ρ.set i (.sh (.list ds))) := by
  obtain ⟨a, ho, h1, h2, h3, h4, h5⟩ := k.ow i _ hi
  cases ho with
  | lst xs =>
    have k1 : Ok K G0 H0 G H (σ.set i (some (.ref a))) (ρ.set i .no) := k.setNo
    have es : σ.set i (some (.ref a)) = σ := by
      apply List.ext_getElem?
      intro j
      rw [getElem_set_eq]
      by_cases hij : i = j
      · subst hij
        rw [if_pos rfl, h1]
        by_cases hl : i < σ.length
        · rw [if_pos hl]
        · rw [List.getElem?_eq_none (Nat.le_of_not_lt hl)] at h1; cases h1
      · rw [if_neg hij]
    rw [es] at k1
    have k2 : Ok K G0 H0 (upd G a (.lst xs)) H σ (ρ.set i .no) := k1.freeze h2 h3 h4 fun j u e => by
      rw [getElem_set_eq] at e
      by_cases hij : i = j
      · rw [if_pos hij] at e
        by_cases hl : i < ρ.length
        · rw [if_pos hl] at e; cases e
        · rw [if_neg hl] at e; cases e
      · rw [if_neg hij] at e
        exact k.ap i j _ u a hij hi e h1
    have hd : Rp K (upd G a (.lst xs)) (.ref a) (.list ds) := .lst upd_same (rpa_mono (same_upd h3) h5)
    have k3 := k2.setSh (i := i) hd
    rw [es, List.set_set] at k3
    exact ⟨_, same_upd h3, k3⟩
  | _ => exact h5.elim
end
theorem Gr.share {G H : Hp} {p : Addr} {o : HO} (gh : Same G H) (hp : H p = none) (ho : NTb o := by intro _ z; cases z) : Gr G H (upd G p o) (upd H p o) := ⟨same_upd (gh.free hp), ex_upd hp ho, fun a u e => by
  by_cases ha : a = p
  · subst ha; exact .inr (.inl (nf_of hp))
  · rw [upd_ne ha] at e; exact .inl e⟩
theorem Gr.fresh {G H : Hp} {p : Addr} {o : HO} (hp : H p = none) (ho : NTb o := by intro _ z; cases z) : Gr G H G (upd H p o) := ⟨Same.refl _, ex_upd hp ho, fun a u e => .inl e⟩
abbrev DT := Sto → (Bool → Prop) → XD → Prop
abbrev DC := Sto → (Bool → List PyData → Prop) → XD → Prop
abbrev DO := Sto → (OD → Prop) → XD → Prop
abbrev DS := DEnds → Sto → Prop
theorem sq_mono {K : PySem.W.Frag} {b : Bool} {G G' H H' : Hp} {a : Addr} {xs : List V} (g : Same G G') (e : Ex H H') (h : Sq K b G H a xs) : Sq K b G' H' a xs := by
  cases b
  · exact e.at h ntb_lst
  · exact sqN_mono g h
theorem rp_sq {K : PySem.W.Frag} {G H : Hp} {v : V} {b : Bool} {ds : List PyData} (gh : Same G H) (h : Rp K G v (dat b ds)) : ∃ a xs, v = .ref a ∧ Sq K b G H a xs ∧ RpAll K G xs ds := by
  cases b
  · cases h with
    | lst h1 h2 => exact ⟨_, _, rfl, gh _ _ h1, h2⟩
  · cases h with
    | tup h1 h2 => exact ⟨_, _, rfl, h1, h2⟩
section
variable (K : PySem.W.Frag) (W : XW)
def upT (de : DT) : TT := fun σ H Q => ∃ G0 H0 G ρ Qd Xd, Ok K G0 H0 G H σ ρ ∧ de ρ Qd Xd ∧ (∀ G' H' b, Ok K G0 H0 G' H' σ ρ → Gr G H G' H' → Qd b → Q b H') ∧ XOk K W G0 H0 G H σ ρ Xd
def upA (de : DA) : TA := fun σ H Q => ∃ G0 H0 G ρ Qd Xd, Ok K G0 H0 G H σ ρ ∧ de ρ Qd Xd ∧ (∀ G' H' vs ds, Ok K G0 H0 G' H' σ ρ → Gr G H G' H' → RpAll K G' vs ds → Qd ds → Q vs H') ∧ XOk K W G0 H0 G H σ ρ Xd
def upC (de : DC) : TE := fun σ H Q => ∃ G0 H0 G ρ Qd Xd, Ok K G0 H0 G H σ ρ ∧ de ρ Qd Xd ∧ (∀ G' H' a xs b ds, Ok K G0 H0 G' H' σ ρ → Gr G H G' H' → Sq K b G' H' a xs → RpAll K G' xs ds → Qd b ds → Q (.ref a) H') ∧ XOk K W G0 H0 G H σ ρ Xd
def upO (de : DO) : TE := fun σ H Q => ∃ G0 H0 G ρ Qd Xd, Ok K G0 H0 G H σ ρ ∧ de ρ Qd Xd ∧ (∀ G' H' p ho o, Ok K G0 H0 G' H' σ ρ → Gr G H G' H' → NF H p → G' p = none → H' p = some ho → HoOk K G' ho o → Qd o → Q (.ref p) H') ∧ XOk K W G0 H0 G H σ ρ Xd
def upS (ds : DS) : TS := fun D σ H => ∃ G0 H0 G ρ Dd, Ok K G0 H0 G H σ ρ ∧ ds Dd ρ ∧ (∀ G' H' σ' ρ', Ok K G0 H0 G' H' σ' ρ' → Dd.nx ρ' → D.nx σ' H') ∧ (∀ s v H', RetOk K G0 H0 s v H' → Dd.rt s → D.rt v H') ∧
  (∀ G' H' σ' ρ', Ok K G0 H0 G' H' σ' ρ' → Dd.bk ρ' → D.bk σ' H') ∧ (∀ G' H' σ' ρ', Ok K G0 H0 G' H' σ' ρ' → Dd.ct ρ' → D.ct σ' H') ∧
  (∀ G' H' σ' ρ' x cls d, Ok K G0 H0 G' H' σ' ρ' → ExcOk K W.1 G' H' x cls d → Dd.ex x ρ' → W.2 cls d σ' H')
end
def QT (X : Cx) (W : XW) (e : Expr) (dt : DT) : Prop := PT X e (upT X.K W dt)
def QA (X : Cx) (W : XW) (es : List Expr) (da : DA) : Prop := PA X es (upA X.K W da)
def QC (X : Cx) (W : XW) (e : Expr) (dc : DC) : Prop := PE X e (upC X.K W dc)
def QO (X : Cx) (W : XW) (e : Expr) (dd : DO) : Prop := PE X e (upO X.K W dd)
def QS (X : Cx) (W : XW) (st : Stmt) (ds : DS) : Prop := PS X st (upS X.K W ds)
def QSs (X : Cx) (W : XW) (st : List Stmt) (ds : DS) : Prop := PSs X st (upS X.K W ds)
end WH
namespace WH
open PySem PySem.Spec PyProof.Rows L2
section
variable {X : Cx}
theorem laidN {pins : List (Addr × Obj)} {σ : L2.St} {H : Hp} {s : Shared} {its : List Value} {xs : List V} {tk : Nat} (I : Inv X pins σ H s) (r : Vals xs its) (hz : xs.length ≤ sizeLine) :
    Inv X pins σ (upd H s.heap.objs.size (tupN its xs)) { s with heap := s.heap.push (tupO its), toks := tk } :=
  I.laid (o := tupN its xs) (fun b ob q => Heap.get?_push_of_some _ q) (Nat.le_refl _) ⟨Heap.get?_push_size _ rfl, hz, its, r, ⟨tupO its, Heap.get?_push_size _ rfl, rfl, 0, rfl⟩⟩
abbrev NewT (H : Hp) (xs : List V) (Q : VK) : Prop := ∀ (p : Addr) (its : List Value), H p = none → Q (.ref p) (upd H p (tupN its xs))
theorem EP.newT {pins : List (Addr × Obj)} {σ : L2.St} {H : Hp} {s : Shared} {its : List Value} {xs : List V} {Q : VK} {tk : Nat} (I : Inv X pins σ H s) (r : Vals xs its) (hz : xs.length ≤ sizeLine) (q : NewT H xs Q) :
    EP X pins σ Q (.ref s.heap.objs.size) { s with heap := s.heap.push (tupO its), toks := tk } :=
  ⟨.ref s.heap.objs.size, _, laidN I r hz, rfl, q _ its (I.hok.fresh (Nat.le_refl _))⟩
def tTupN (t : TA) : TE := fun σ H Q => t σ H fun xs H1 => xs.length ≤ sizeLine ∧ NewT H1 xs Q
theorem pe_tupN {es : List Expr} {x1 : Nat} {pos : Pos} {t : TA} (h : PA X es t) : PE X (.Tuple es x1 pos) (tTupN t) := by
  refine ⟨fun pins s σ H Q I hq => ?_⟩
  refine wpAny_Tuple_spliced (thn (h.run pos pins s σ H _ I hq) fun vs s2 ⟨ys, H2, I2, rv, hl, w⟩ => ?_)
  exact ⟨by rw [← rv.length]; exact hl, EP.newT I2 rv hl w⟩
def rCatN (K : PySem.W.Frag) : R2 := fun x y H Q => ∃ a b xs ys, x = .ref a ∧ y = .ref b ∧ SqT K H a xs ∧ SqT K H b ys ∧ xs.length + ys.length ≤ sizeLine ∧ (xs = [] → Q (.ref b) H) ∧ (xs ≠ [] → ys = [] → Q (.ref a) H) ∧ (xs ≠ [] → ys ≠ [] → NewT H (xs ++ ys) Q)
theorem op_catN : OpR X (binaryOp .Add) (rCatN X.K) := by
  intro pins s σ H x y v u Q I rx ry h
  obtain ⟨a, b, xs, ys, rfl, rfl, ta, tb, hz, q0, q1, q2⟩ := h
  cases rx
  cases ry
  obtain ⟨us, ru, pu, _⟩ := I.tuple ta
  obtain ⟨ws, rw', pw, _⟩ := I.tuple tb
  by_cases hx : xs = []
  · subst hx
    cases ru
    exact cat_tup0 pu pw ⟨.ref b, H, I, rfl, q0 rfl⟩
  · exact HT.cat_tup pu pw (fun z => hx (ru.nil_iff.mp z)) (fun z => ⟨.ref a, H, I, rfl, q1 hx (rw'.nil_iff.mp z)⟩) (fun z => EP.newT (tk := s.toks) I (ru.append rw') (by rw [List.length_append]; exact hz) (q2 hx fun e => z (rw'.nil_iff.mpr e))) (by rw [← ru.length, ← rw'.length]; exact hz)
def rSlN (K : PySem.W.Frag) : V → Option Int → Option Int → Hp → VK → Prop := fun x lo hi H Q => ∃ a xs, x = .ref a ∧ SqT K H a xs ∧
  (HT.sIx xs.length 0 lo = 0 ∧ HT.sIx xs.length xs.length hi = xs.length → Q (.ref a) H) ∧ (¬ (HT.sIx xs.length 0 lo = 0 ∧ HT.sIx xs.length xs.length hi = xs.length) → NewT H (cutV xs lo hi) Q)
theorem sl_tupN : SlR X (rSlN X.K) := by
  intro pins s σ H x v vl vu lo hi sl Q I rx hs pl pu h
  obtain ⟨a, xs, rfl, tx, q1, q2⟩ := h
  cases rx
  obtain ⟨us, ru, ht, hz⟩ := I.tuple tx
  have hn : us.toArray.size = xs.length := by rw [List.size_toArray, ru.length]
  refine ⟨"tuple", _, slot_tuple_getitem.lookup, ht.typeIs, ?_⟩
  by_cases hw : HT.sIx xs.length 0 lo = 0 ∧ HT.sIx xs.length xs.length hi = xs.length
  · exact getItem_tuple_whole ht hs pl pu (by rw [hn]; exact hw) ⟨.ref a, H, I, rfl, q1 hw⟩
  · refine HT.getItem_tuple_cut ht hs pl pu (by rw [hn]; exact hw) ?_ (by rw [hn]; exact hz)
    rw [hn]
    have rc := (ru.drop (HT.sIx xs.length 0 lo)).take (HT.sIx xs.length xs.length hi - HT.sIx xs.length 0 lo)
    exact EP.newT (tk := s.toks) I rc (Nat.le_trans (cutV_length xs lo hi) hz) (q2 hw)
def rRepN (K : PySem.W.Frag) : R2 := fun x y H Q => ∃ l k xs, x = .ref l ∧ y = .int k ∧ SqT K H l xs ∧ xs ≠ [] ∧ 2 ≤ k ∧ k ≤ 1000 ∧ xs.length ≤ 1000 ∧ NewT H (List.replicate k.toNat xs).flatten Q
theorem op_repN : OpR X (binaryOp .Mult) (rRepN X.K) := by
  intro pins s σ H x y v u Q I rx ry h
  obtain ⟨l, k, xs, rfl, rfl, tx, hne, k2, k1, hz, q⟩ := h
  cases rx
  obtain ⟨t, rfl⟩ := ry
  obtain ⟨us, ru, ⟨⟨c0, d0, e0, sl⟩, ho, hc, n, hd⟩, _⟩ := I.tuple tx
  simp only at hc hd
  subst hc hd
  have hn : us.length = xs.length := ru.length.symm
  have ne : us.toArray.isEmpty = false := by
    cases us with
    | nil => exact absurd (List.eq_nil_of_length_eq_zero hn.symm) hne
    | cons _ _ => rfl
  have sz : us.toArray.size = xs.length := by rw [List.size_toArray, hn]
  have pr : k.toNat * xs.length ≤ 1000000 := Nat.mul_le_mul (show k.toNat ≤ 1000 by omega) hz
  have pri : ((us.toArray.size : Nat) : Int) * k ≤ 1000000 := by
    have z : ((xs.length : Nat) : Int) * k ≤ 1000 * k := Int.mul_le_mul_of_nonneg_right (by omega) (by omega)
    rw [sz]
    omega
  have fl : ∀ {α : Type} (zs : List α), zs.length = xs.length → (List.replicate k.toNat zs).flatten.length ≤ sizeLine := fun zs e => by
    rw [PyProof.Rows.lm_len_rep_flat, e, sizeLine_eq]
    omega
  have w1 : (decide (k < -(2 ^ 63)) || decide (k ≥ 2 ^ 63)) = false := by
    rw [decide_eq_false (show ¬ k < -(2 ^ 63) by omega), decide_eq_false (show ¬ k ≥ 2 ^ 63 by omega)] <;> rfl
  have w2 : (us.toArray.isEmpty || k == 1) = false := by
    rw [ne, Bool.false_or]
    exact beq_eq_false_iff_ne.mpr (show k ≠ 1 by omega)
  have w3 : (decide (k ≤ 0) || us.toArray.isEmpty) = false := by
    rw [ne, Bool.or_false]
    exact decide_eq_false (show ¬ k ≤ 0 by omega)
  have w4 : Builtin.Tuple.tupleTooMany (((us.toArray.size : Nat) : Int) * k) = false := by
    unfold Builtin.Tuple.tupleTooMany
    rw [sizeLine_eq]
    exact decide_eq_false (by omega)
  have last : EP X pins σ Q (.ref s.heap.objs.size) { s with heap := s.heap.push { cls := .type "tuple", data := .seq (List.foldl (fun x1 x2 => x1 ++ x2) #[] (List.replicate k.toNat us.toArray)) } } := by
    rw [size_rep]
    exact EP.newT (tk := s.toks) I (ru.rep k.toNat) (fl xs rfl) q
  have mul := call_meets (prog := X.prog) (w := X.w) (A := X.A) (E := X.xe) F.slot_tuple_mul (show s.TypeIs (.ref l) "tuple" from ⟨_, ho, rfl⟩) F.entry_tuple_mul (F.args_tuple_mul_2 _ _) (tuple_mulW l us.toArray n d0 sl k t w1 w2 w3 (by omega) w4 (by rw [size_rep, List.size_toArray]; exact fl us hn)) ⟨ho, last⟩
  exact wpAny_binaryOp_repeat_ref (U := "int") (T := "tuple") (by decide) ⟨_, ho, rfl⟩ (fun s1 => typeIs_int s1 k t) noFill_tuple_mul F.fills_int_mul F.slot_int_rmul repeat_tuple F.slot_int_index.lookup
    (call_meets F.slot_int_rmul (typeIs_int s k t) F.entry_int_rmul (F.args_int_rmul_2 _ _) (int_rmul_tuple k t l us.toArray n d0 sl) ⟨ho, rfl, ⟨_, ho, rfl⟩, mul⟩)
def rTupN (K : PySem.W.Frag) : List V → Hp → VK → Prop := fun xs H Q => ∃ p ys, xs = [.ref p] ∧ ((SqL K H p ys ∧ NewT H ys Q) ∨ (SqT K H p ys ∧ Q (.ref p) H))
theorem call_tupN : CallR X (.type "tuple") (rTupN X.K) := by
  intro pins s σ H xs us Q I r h
  obtain ⟨p, ys, rfl, h⟩ := h
  obtain ⟨u, rfl, ru⟩ := vals1 r
  cases ru
  rcases h with ⟨sq, q⟩ | ⟨sq, q⟩
  · obtain ⟨its, rv, pl, hz⟩ := I.list sq
    have hl := rv.length
    refine call_tuple_list pl.isList (fun h2 kp => ?_) (by simp only [List.size_toArray] <;> omega)
    have I2 : Inv X pins σ H { s with heap := h2 } := I.kept (t' := s.toks) kp
    exact EP.newT (tk := s.toks) I2 rv hz q
  · obtain ⟨its, _, pl, _⟩ := I.tuple sq
    exact call_tuple_same pl ⟨.ref p, H, I, rfl, q⟩
end
end WH
namespace WH
open PySem PySem.Spec L2
variable [TabC] [ObjB]
theorem XOk.mono {K : PySem.W.Frag} {W : XW} {G0 H0 G H G1 H1 : Hp} {σ : L2.St} {ρ : Sto} {Xd : XD} (h : XOk K W G0 H0 G H σ ρ Xd) (e : Gr G H G1 H1) : XOk K W G0 H0 G1 H1 σ ρ Xd := fun G' H' x cls d k s q z => h G' H' x cls d k (e.trans s) q z
abbrev Fin1 (K : PySem.W.Frag) (G0 H0 G H : Hp) (σ : L2.St) (ρ : Sto) (Qd : PyData → Prop) (Q : VK) : Prop := ∀ G' H' v d, Ok K G0 H0 G' H' σ ρ → Gr G H G' H' → Rp K G' v d → Qd d → Q v H'
abbrev FinO (K : PySem.W.Frag) (G0 H0 G H : Hp) (σ : L2.St) (ρ : Sto) (Qd : OD → Prop) (Q : VK) : Prop := ∀ G' H' p ho o, Ok K G0 H0 G' H' σ ρ → Gr G H G' H' → NF H p → G' p = none → H' p = some ho → HoOk K G' ho o → Qd o → Q (.ref p) H'
def R2E (K : PySem.W.Frag) (r : R2) (f : PyData → PyData → (PyData → Prop) → Prop) : Prop := ∀ G0 H0 G H σ ρ x y d e Qd Q, Ok K G0 H0 G H σ ρ → Rp K G x d → Rp K G y e → f d e Qd → Fin1 K G0 H0 G H σ ρ Qd Q → r x y H Q
def RAE (K : PySem.W.Frag) (r : List V → Hp → VK → Prop) (f : List PyData → (PyData → Prop) → Prop) : Prop := ∀ G0 H0 G H σ ρ xs ds Qd Q, Ok K G0 H0 G H σ ρ → RpAll K G xs ds → f ds Qd → Fin1 K G0 H0 G H σ ρ Qd Q → r xs H Q
def RCE (K : PySem.W.Frag) (r : List V → Hp → VK → Prop) (f : Bool → List PyData → (PyData → Prop) → Prop) : Prop := ∀ G0 H0 G H σ ρ a xs b ds Qd Q, Ok K G0 H0 G H σ ρ → Sq K b G H a xs → RpAll K G xs ds → f b ds Qd → Fin1 K G0 H0 G H σ ρ Qd Q → r [.ref a] H Q
def RCO (K : PySem.W.Frag) (r : List V → Hp → VK → Prop) (f : Bool → List PyData → (OD → Prop) → Prop) : Prop := ∀ G0 H0 G H σ ρ a xs b ds Qd Q, Ok K G0 H0 G H σ ρ → Sq K b G H a xs → RpAll K G xs ds → f b ds Qd → FinO K G0 H0 G H σ ρ Qd Q → r [.ref a] H Q
section
variable {X : Cx} {W : XW}
def dVar (i : Nat) : DE := fun ρ Q _ => ∃ d, ρ[i]? = some (Slot.sh d) ∧ Q d
def dC (d : PyData) : DE := fun _ Q _ => Q d
def dVarC (i : Nat) : DC := fun ρ Q _ => (∃ b ds, ρ[i]? = some (Slot.sh (dat b ds)) ∧ Q b ds) ∨ ∃ ds, ρ[i]? = some (Slot.ow (.lst ds)) ∧ Q false ds
theorem up_var {K : PySem.W.Frag} {i : Nat} (σ : L2.St) (H : Hp) (Q : VK) (h : upE K W (dVar i) σ H Q) : tVar i σ H Q := by
  obtain ⟨G0, H0, G, ρ, Qd, Xd, k, ⟨d, hd, q⟩, f, _⟩ := h
  obtain ⟨v, h1, h2⟩ := k.sh i d hd
  exact ⟨v, h1, f G H v d k Gr.refl h2 q⟩
theorem qe_var (i : Nat) {x : Str} {pos : Pos} (hN : X.N[i]? = some x := by rfl) (hv : Vis X.env.scope x := by first | exact Or.inl rfl | exact Or.inr (Or.inl rfl) | exact Or.inr (Or.inr rfl)) (hd : (x == ("__debug__" : Str)) = false := by decide)
    (hcd : (x == ("__classdict__" : Str)) = false := by decide) : QE X W (.Name x pos) (dVar i) := PE.sub (pe_var hN hv hd hcd) up_var
theorem qc_var (i : Nat) {x : Str} {pos : Pos} (hN : X.N[i]? = some x := by rfl) (hv : Vis X.env.scope x := by first | exact Or.inl rfl | exact Or.inr (Or.inl rfl) | exact Or.inr (Or.inr rfl)) (hd : (x == ("__debug__" : Str)) = false := by decide)
    (hcd : (x == ("__classdict__" : Str)) = false := by decide) : QC X W (.Name x pos) (dVarC i) := PE.sub (pe_var hN hv hd hcd) fun σ H Q h => by
  obtain ⟨G0, H0, G, ρ, Qd, Xd, k, h, f, _⟩ := h
  rcases h with ⟨b, ds, hd, q⟩ | ⟨ds, hd, q⟩
  · obtain ⟨v, h1, h2⟩ := k.sh i _ hd
    obtain ⟨a, xs, rfl, h3, h4⟩ := rp_sq k.gh h2
    exact ⟨_, h1, f G H a xs b ds k Gr.refl h3 h4 q⟩
  · obtain ⟨a, ho, h1, h2, _, _, h5⟩ := k.ow i _ hd
    cases ho with
    | lst xs => exact ⟨_, h1, f G H a xs false ds k Gr.refl h2 h5 q⟩
    | _ => exact h5.elim
theorem up_c {K : PySem.W.Frag} {v : V} {d : PyData} (r : ∀ G, Rp K G v d) (σ : L2.St) (H : Hp) (Q : VK) (h : upE K W (dC d) σ H Q) : tC v σ H Q := by
  obtain ⟨G0, H0, G, ρ, Qd, Xd, k, q, f, _⟩ := h
  exact f G H v d k Gr.refl (r G) q
theorem qe_int {i : Int} {j : Nat} {pos : Pos} : QE X W (.Constant (.int i) j pos) (dC (.int i)) := PE.sub pe_int (up_c fun _ => .int i)
theorem qe_str {x : Str} {j : Nat} {pos : Pos} : QE X W (.Constant (.str x) j pos) (dC (.str x)) := PE.sub pe_str (up_c fun _ => .str x)
theorem qe_bl {b : Bool} {j : Nat} {pos : Pos} : QE X W (.Constant (.bool b) j pos) (dC (.bool b)) := PE.sub pe_bl (up_c fun _ => .bl b)
theorem qe_non {j : Nat} {pos : Pos} : QE X W (.Constant .none j pos) (dC .none) := PE.sub pe_non (up_c fun _ => .non)
theorem qe_globI {x : Str} {i : Int} {t : Tok} {pos : Pos} (hg : Gl X x) (hm : X.mg x = some (.int i t)) (hd : (x == ("__debug__" : Str)) = false := by decide) : QE X W (.Name x pos) (dC (.int i)) := PE.sub (pe_glob (v := .int i) hg hm ⟨_, rfl⟩ hd) (up_c fun _ => .int i)
theorem up_2 {K : PySem.W.Frag} {r : R2} {f : PyData → PyData → (PyData → Prop) → Prop} {da db : DE} (hr : R2E K r f) (σ : L2.St) (H : Hp) (Q : VK) (h : upE K W (d2 f da db) σ H Q) : tOp r (upE K W da) (upE K W db) σ H Q := by
  obtain ⟨G0, H0, G, ρ, Qd, Xd, k, h, fn, xo⟩ := h
  refine ⟨G0, H0, G, ρ, _, Xd, k, h, fun G1 H1 x d k1 g1 rx hb => ?_, xo⟩
  refine ⟨G0, H0, G1, ρ, _, Xd, k1, hb, fun G2 H2 y e k2 g2 ry hf => ?_, xo.mono g1⟩
  exact hr G0 H0 G2 H2 σ ρ x y d e Qd Q k2 (rp_mono g2.gg rx) ry hf fun G3 H3 v d' k3 g3 rv q => fn G3 H3 v d' k3 ((g1.trans g2).trans g3) rv q
theorem qe_op {a b : Expr} {op : Operator} {pos : Pos} {r : R2} {f : PyData → PyData → (PyData → Prop) → Prop} {da db : DE} (hr : R2E X.K r f) (ho : OpR X (binaryOp op) r) (ha : QE X W a da) (hb : QE X W b db) : QE X W (.BinOp a op b pos) (d2 f da db) := PE.sub (pe_op ho ha hb) (up_2 hr)
theorem qe_cmp {a b : Expr} {op : CmpOp} {pos : Pos} {r : R2} {f : PyData → PyData → (PyData → Prop) → Prop} {da db : DE} (hr : R2E X.K r f) (ho : OpR X (compareOp op) r) (ha : QE X W a da) (hb : QE X W b db) (hm : behindInMarks op b = false) : QE X W (.Compare a [op] [b] pos) (d2 f da db) := PE.sub (pe_cmpR ho ha hb hm) (up_2 hr)
def asB (d : PyData) (Q : Bool → Prop) : Prop := ∃ b, d = .bool b ∧ Q b
def dTst (de : DE) : DT := fun ρ Q X => de ρ (fun d => asB d Q) X
theorem up_tst {K : PySem.W.Frag} {t : TE} {de : DE} (ht : ∀ σ H Q, upE K W de σ H Q → t σ H Q) (σ : L2.St) (H : Hp) (Q : Bool → Hp → Prop) (h : upT K W (dTst de) σ H Q) : tTest t σ H Q := by
  obtain ⟨G0, H0, G, ρ, Qd, Xd, k, h, fn, xo⟩ := h
  refine ht σ H _ ⟨G0, H0, G, ρ, _, Xd, k, h, fun G1 H1 x d k1 g1 rx hb => ?_, xo⟩
  obtain ⟨b, rfl, q⟩ := hb
  cases rx
  exact ⟨b, rfl, fn G1 H1 b k1 g1 q⟩
theorem qt_cmp {a b : Expr} {op : CmpOp} {pos : Pos} {r : R2} {f : PyData → PyData → (PyData → Prop) → Prop} {da db : DE} (hr : R2E X.K r f) (ho : OpR X (compareOp op) r) (ha : QE X W a da) (hb : QE X W b db) (hm : behindInMarks op b = false) : QT X W (.Compare a [op] [b] pos) (dTst (d2 f da db)) := PT.sub (pt_cmpR ho ha hb hm) (up_tst (up_2 hr))
theorem qt_val {e : Expr} {de : DE} (h : QE X W e de) (he : ∀ whole, isTrue e X.env whole = (do let v ← whole; standAt e.pos; holding [v] (truthy v)) := by intro _; rfl) : QT X W e (dTst de) := PT.sub (pt_val h he) (up_tst fun _ _ _ h => h)
def dChain (f f' : PyData → PyData → (PyData → Prop) → Prop) (da db dc : DE) : DE := fun ρ Q X => da ρ (fun x => db ρ (fun y => f x y fun z => asB z fun k => if k = true then dc ρ (fun u => f' y u Q) X else Q (.bool false)) X) X
theorem up_chain {K : PySem.W.Frag} {r r' : R2} {f f' : PyData → PyData → (PyData → Prop) → Prop} {da db dc : DE} (hr : R2E K r f) (hr' : R2E K r' f') (σ : L2.St) (H : Hp) (Q : VK) (h : upE K W (dChain f f' da db dc) σ H Q) : tChain r r' (upE K W da) (upE K W db) (upE K W dc) σ H Q := by
  obtain ⟨G0, H0, G, ρ, Qd, Xd, k, h, fn, xo⟩ := h
  refine ⟨G0, H0, G, ρ, _, Xd, k, h, fun G1 H1 x d k1 g1 rx hb => ?_, xo⟩
  refine ⟨G0, H0, G1, ρ, _, Xd, k1, hb, fun G2 H2 y e k2 g2 ry hf => ?_, xo.mono g1⟩
  refine hr G0 H0 G2 H2 σ ρ x y d e _ _ k2 (rp_mono g2.gg rx) ry hf fun G3 H3 v d' k3 g3 rv q => ?_
  obtain ⟨c, rfl, q⟩ := q
  cases rv
  refine ⟨c, rfl, ?_⟩
  cases c with
  | true =>
    rw [if_pos rfl] at q ⊢
    refine ⟨G0, H0, G3, ρ, _, Xd, k3, q, fun G4 H4 u e' k4 g4 ru hf' => ?_, (xo.mono g1).mono (g2.trans g3)⟩
    exact hr' G0 H0 G4 H4 σ ρ y u e e' Qd Q k4 (rp_mono (g3.trans g4).gg ry) ru hf' fun G5 H5 v d' k5 g5 rv q => fn G5 H5 v d' k5 ((((g1.trans g2).trans g3).trans g4).trans g5) rv q
  | false =>
    rw [if_neg Bool.false_ne_true] at q ⊢
    exact fn G3 H3 _ _ k3 ((g1.trans g2).trans g3) (.bl false) q
theorem qe_chain {a b c : Expr} {op op' : CmpOp} {pos : Pos} {r r' : R2} {f f' : PyData → PyData → (PyData → Prop) → Prop} {da db dc : DE} (hr : R2E X.K r f) (hr' : R2E X.K r' f') (ho : OpR X (compareOp op) r) (ho' : OpR X (compareOp op') r') (ha : QE X W a da) (hb : QE X W b db) (hc : QE X W c dc)
    (hm : lastMarks [op, op'] [b, c] = false := by with_unfolding_all rfl) : QE X W (.Compare a [op, op'] [b, c] pos) (dChain f f' da db dc) := PE.sub (pe_chain ho ho' ha hb hc hm) (up_chain hr hr')
theorem qt_chain {a b c : Expr} {op op' : CmpOp} {pos : Pos} {r r' : R2} {f f' : PyData → PyData → (PyData → Prop) → Prop} {da db dc : DE} (hr : R2E X.K r f) (hr' : R2E X.K r' f') (ho : OpR X (compareOp op) r) (ho' : OpR X (compareOp op') r') (ha : QE X W a da) (hb : QE X W b db) (hc : QE X W c dc)
    (hm : lastMarks [op, op'] [b, c] = false := by with_unfolding_all rfl) : QT X W (.Compare a [op, op'] [b, c] pos) (dTst (dChain f f' da db dc)) := PT.sub (pt_chain ho ho' ha hb hc hm) (up_tst (up_chain hr hr'))
def QW (X : Cx) (W : XW) (e : Expr) (dt : DT) : Prop := PW X e (upT X.K W dt)
def dAnd (d e : DT) : DT := fun ρ Q X => d ρ (fun b => if b = true then e ρ Q X else Q false) X
def dOr (d e : DT) : DT := fun ρ Q X => d ρ (fun b => if b = true then Q true else e ρ Q X) X
def dNot (d : DT) : DT := fun ρ Q X => d ρ (fun b => Q (!b)) X
theorem up_and {K : PySem.W.Frag} {d e : DT} (σ : L2.St) (H : Hp) (Q : Bool → Hp → Prop) (h : upT K W (dAnd d e) σ H Q) : tAnd (upT K W d) (upT K W e) σ H Q := by
  obtain ⟨G0, H0, G, ρ, Qd, Xd, k, h, fn, xo⟩ := h
  refine ⟨G0, H0, G, ρ, _, Xd, k, h, fun G1 H1 b k1 g1 hb => ?_, xo⟩
  cases b with
  | true =>
    rw [if_pos rfl] at hb ⊢
    exact ⟨G0, H0, G1, ρ, Qd, Xd, k1, hb, fun G2 H2 b k2 g2 q => fn G2 H2 b k2 (g1.trans g2) q, xo.mono g1⟩
  | false =>
    rw [if_neg Bool.false_ne_true] at hb ⊢
    exact fn G1 H1 _ k1 g1 hb
theorem up_or {K : PySem.W.Frag} {d e : DT} (σ : L2.St) (H : Hp) (Q : Bool → Hp → Prop) (h : upT K W (dOr d e) σ H Q) : tOr (upT K W d) (upT K W e) σ H Q := by
  obtain ⟨G0, H0, G, ρ, Qd, Xd, k, h, fn, xo⟩ := h
  refine ⟨G0, H0, G, ρ, _, Xd, k, h, fun G1 H1 b k1 g1 hb => ?_, xo⟩
  cases b with
  | true =>
    rw [if_pos rfl] at hb ⊢
    exact fn G1 H1 _ k1 g1 hb
  | false =>
    rw [if_neg Bool.false_ne_true] at hb ⊢
    exact ⟨G0, H0, G1, ρ, Qd, Xd, k1, hb, fun G2 H2 b k2 g2 q => fn G2 H2 b k2 (g1.trans g2) q, xo.mono g1⟩
theorem up_not {K : PySem.W.Frag} {d : DT} (σ : L2.St) (H : Hp) (Q : Bool → Hp → Prop) (h : upT K W (dNot d) σ H Q) : tNot (upT K W d) σ H Q := by
  obtain ⟨G0, H0, G, ρ, Qd, Xd, k, h, fn, xo⟩ := h
  exact ⟨G0, H0, G, ρ, _, Xd, k, h, fun G1 H1 b k1 g1 hb => fn G1 H1 _ k1 g1 hb, xo⟩
theorem qw_and1 {a : Expr} {pos : Pos} {d : DT} (ha : QT X W a d) : QW X W (.BoolOp .And [a] pos) d := pw_and1 ha
theorem qw_or1 {a : Expr} {pos : Pos} {d : DT} (ha : QT X W a d) : QW X W (.BoolOp .Or [a] pos) d := pw_or1 ha
theorem qw_and {a b : Expr} {rest : List Expr} {pos : Pos} {d e : DT} (ha : QT X W a d) (hb : QW X W (.BoolOp .And (b :: rest) pos) e) : QW X W (.BoolOp .And (a :: b :: rest) pos) (dAnd d e) := PW.sub (pw_and ha hb) up_and
theorem qw_or {a b : Expr} {rest : List Expr} {pos : Pos} {d e : DT} (ha : QT X W a d) (hb : QW X W (.BoolOp .Or (b :: rest) pos) e) : QW X W (.BoolOp .Or (a :: b :: rest) pos) (dOr d e) := PW.sub (pw_or ha hb) up_or
theorem QW.qt {e : Expr} {d : DT} (h : QW X W e d) : QT X W e d := h.pt
theorem qt_not {a : Expr} {pos : Pos} {d : DT} (ha : QT X W a d) : QT X W (.UnaryOp .Not a pos) (dNot d) := PT.sub (pt_not ha) up_not
def dAndV (d e : DE) : DE := fun ρ Q X => d ρ (fun x => asB x fun b => if b = true then e ρ Q X else Q (.bool false)) X
def dNotV (d : DE) : DE := fun ρ Q X => d ρ (fun x => asB x fun b => Q (.bool (!b))) X
theorem up_andV {K : PySem.W.Frag} {d e : DE} (σ : L2.St) (H : Hp) (Q : VK) (h : upE K W (dAndV d e) σ H Q) : tAndV (upE K W d) (upE K W e) σ H Q := by
  obtain ⟨G0, H0, G, ρ, Qd, Xd, k, h, fn, xo⟩ := h
  refine ⟨G0, H0, G, ρ, _, Xd, k, h, fun G1 H1 x d k1 g1 rx hb => ?_, xo⟩
  obtain ⟨b, rfl, hb⟩ := hb
  cases rx
  refine ⟨b, rfl, ?_⟩
  cases b with
  | true =>
    rw [if_pos rfl] at hb ⊢
    exact ⟨G0, H0, G1, ρ, Qd, Xd, k1, hb, fun G2 H2 v d k2 g2 rv q => fn G2 H2 v d k2 (g1.trans g2) rv q, xo.mono g1⟩
  | false =>
    rw [if_neg Bool.false_ne_true] at hb ⊢
    exact fn G1 H1 _ _ k1 g1 (.bl false) hb
theorem up_notV {K : PySem.W.Frag} {d : DE} (σ : L2.St) (H : Hp) (Q : VK) (h : upE K W (dNotV d) σ H Q) : tNotV (upE K W d) σ H Q := by
  obtain ⟨G0, H0, G, ρ, Qd, Xd, k, h, fn, xo⟩ := h
  refine ⟨G0, H0, G, ρ, _, Xd, k, h, fun G1 H1 x d k1 g1 rx hb => ?_, xo⟩
  obtain ⟨b, rfl, hb⟩ := hb
  cases rx
  exact ⟨b, rfl, fn G1 H1 _ _ k1 g1 (.bl _) hb⟩
def dIf (t : DT) (a b : DE) : DE := fun ρ Q X => t ρ (fun c => if c = true then a ρ Q X else b ρ Q X) X
theorem up_if {K : PySem.W.Frag} {t : DT} {d e : DE} (σ : L2.St) (H : Hp) (Q : VK) (h : upE K W (dIf t d e) σ H Q) : tIf (upT K W t) (upE K W d) (upE K W e) σ H Q := by
  obtain ⟨G0, H0, G, ρ, Qd, Xd, k, h, fn, xo⟩ := h
  refine ⟨G0, H0, G, ρ, _, Xd, k, h, fun G1 H1 b k1 g1 hb => ?_, xo⟩
  cases b with
  | true =>
    rw [if_pos rfl] at hb ⊢
    exact ⟨G0, H0, G1, ρ, Qd, Xd, k1, hb, fun G2 H2 v d k2 g2 rv q => fn G2 H2 v d k2 (g1.trans g2) rv q, xo.mono g1⟩
  | false =>
    rw [if_neg Bool.false_ne_true] at hb ⊢
    exact ⟨G0, H0, G1, ρ, Qd, Xd, k1, hb, fun G2 H2 v d k2 g2 rv q => fn G2 H2 v d k2 (g1.trans g2) rv q, xo.mono g1⟩
theorem qe_if {t a b : Expr} {pos : Pos} {dt : DT} {da db : DE} (ht : QT X W t dt) (ha : QE X W a da) (hb : QE X W b db) : QE X W (.IfExp t a b pos) (dIf dt da db) := PE.sub (pe_ifExp ht ha hb) up_if
def dNil : DA := fun _ Q _ => Q []
def dCons (d : DE) (e : DA) : DA := fun ρ Q X => d ρ (fun x => e ρ (fun xs => Q (x :: xs)) X) X
theorem qa_nil : QA X W [] dNil := PA.sub pa_nil fun σ H Q h => by
  obtain ⟨G0, H0, G, ρ, Qd, Xd, k, h, fn, xo⟩ := h
  exact fn G H [] [] k Gr.refl .nil h
theorem qa_cons {e : Expr} {es : List Expr} {d : DE} {da : DA} (ha : QE X W e d) (hr : QA X W es da) (hs : starEach (e :: es) X.env = (false, eval e X.env) :: starEach es X.env := by rfl) : QA X W (e :: es) (dCons d da) := PA.sub (pa_cons ha hr hs) fun σ H Q h => by
  obtain ⟨G0, H0, G, ρ, Qd, Xd, k, h, fn, xo⟩ := h
  refine ⟨G0, H0, G, ρ, _, Xd, k, h, fun G1 H1 x d k1 g1 rx hb => ?_, xo⟩
  exact ⟨G0, H0, G1, ρ, _, Xd, k1, hb, fun G2 H2 vs ds k2 g2 rv q => fn G2 H2 _ _ k2 (g1.trans g2) (.cons (rp_mono g2.gg rx) rv) q, xo.mono g1⟩
def dTup (da : DA) : DE := fun ρ Q X => da ρ (fun ds => ds.length ≤ 100000 ∧ Q (.tuple ds)) X
def dLst (da : DA) : DO := fun ρ Q X => da ρ (fun ds => ds.length ≤ 100000 ∧ Q (.lst ds)) X
theorem sz_of {n : Nat} (h : n ≤ 100000) : n ≤ sizeLine := Nat.le_trans h (by decide)
theorem sz_lt {n : Nat} (h : n < 100000) : n < sizeLine := Nat.lt_of_lt_of_le h (by decide)
theorem rp_tupNew {K : PySem.W.Frag} {G : Hp} {p : Addr} {its : List Value} {xs : List V} {ds : List PyData} (hg : G p = none) (h : RpAll K G xs ds) : Rp K (upd G p (tupN its xs)) (.ref p) (.tuple ds) := .tup (SqN.new upd_same) (rpa_mono (same_upd hg) h)
theorem rp_tupWk {K : PySem.W.Frag} {G : Hp} {p : Addr} {xs : List V} {ds : List PyData} (hg : G p = none) (h : RpAll K G xs ds) : Rp K (upd G p (.tup xs)) (.ref p) (wk ds) := .tpw (SqT.of upd_same) (rpa_mono (same_upd hg) h)
theorem fin_tup {K : PySem.W.Frag} {G0 H0 G H : Hp} {σ : L2.St} {ρ : Sto} {Qd : PyData → Prop} {Q : VK} {xs : List V} {ds : List PyData} (k : Ok K G0 H0 G H σ ρ) (fn : Fin1 K G0 H0 G H σ ρ Qd Q) (r : RpAll K G xs ds) (q : Qd (.tuple ds)) : NewT H xs Q := fun p its hp =>
  fn _ _ _ _ (k.share hp) (Gr.share k.gh hp) (rp_tupNew (k.gh.free hp) r) q
theorem fin_lst {K : PySem.W.Frag} {G0 H0 G H : Hp} {σ : L2.St} {ρ : Sto} {Qd : PyData → Prop} {Q : VK} {xs : List V} {ds : List PyData} (k : Ok K G0 H0 G H σ ρ) (fn : Fin1 K G0 H0 G H σ ρ Qd Q) (r : RpAll K G xs ds) (q : Qd (.list ds)) : ∀ p, H p = none → Q (.ref p) (upd H p (.lst xs)) := fun p hp =>
  fn _ _ _ _ (k.share hp) (Gr.share k.gh hp) (rp_lstNew (k.gh.free hp) r) q
theorem fin_own {K : PySem.W.Frag} {G0 H0 G H : Hp} {σ : L2.St} {ρ : Sto} {Qd : OD → Prop} {Q : VK} {ho : HO} {o : OD} (k : Ok K G0 H0 G H σ ρ) (fn : FinO K G0 H0 G H σ ρ Qd Q) (r : HoOk K G ho o) (q : Qd o) : ∀ p, H p = none → Q (.ref p) (upd H p ho) := fun p hp =>
  fn _ _ _ _ _ (k.fresh hp (hoOk_ntb r)) (Gr.fresh hp (hoOk_ntb r)) (nf_of hp) (k.gh.free hp) upd_same r q
theorem qe_tup {es : List Expr} {x1 : Nat} {pos : Pos} {da : DA} (h : QA X W es da) : QE X W (.Tuple es x1 pos) (dTup da) := PE.sub (pe_tupN h) fun σ H Q h => by
  obtain ⟨G0, H0, G, ρ, Qd, Xd, k, h, fn, xo⟩ := h
  refine ⟨G0, H0, G, ρ, _, Xd, k, h, fun G1 H1 xs ds k1 g1 rx hb => ?_, xo⟩
  exact ⟨sz_of (by rw [rpa_length rx]; exact hb.1), fin_tup k1 (fun G2 H2 v d k2 g2 rv q => fn G2 H2 v d k2 (g1.trans g2) rv q) rx hb.2⟩
theorem qo_lst {es : List Expr} {pos : Pos} {da : DA} (h : QA X W es da) : QO X W (.List es pos) (dLst da) := PE.sub (pe_lst h) fun σ H Q h => by
  obtain ⟨G0, H0, G, ρ, Qd, Xd, k, h, fn, xo⟩ := h
  refine ⟨G0, H0, G, ρ, _, Xd, k, h, fun G1 H1 xs ds k1 g1 rx hb => ?_, xo⟩
  exact ⟨sz_of (by rw [rpa_length rx]; exact hb.1), fin_own (o := .lst ds) k1 (fun G2 H2 p ho o k2 g2 n1 n2 n3 n4 q => fn G2 H2 p ho o k2 (g1.trans g2) (g1.hh.free n1) n2 n3 n4 q) rx hb.2⟩
def dOfO (dd : DO) : DE := fun ρ Q X => dd ρ (fun o => ∃ ds, o = .lst ds ∧ Q (.list ds)) X
def dCofO (dd : DO) : DC := fun ρ Q X => dd ρ (fun o => ∃ ds, o = .lst ds ∧ Q false ds) X
def dCofE (de : DE) : DC := fun ρ Q X => de ρ (fun d => ∃ b ds, d = dat b ds ∧ Q b ds) X
theorem QO.qe {e : Expr} {dd : DO} (h : QO X W e dd) : QE X W e (dOfO dd) := PE.sub h fun σ H Q h => by
  obtain ⟨G0, H0, G, ρ, Qd, Xd, k, h, fn, xo⟩ := h
  refine ⟨G0, H0, G, ρ, _, Xd, k, h, fun G1 H1 p ho o k1 g1 n1 n2 n3 n4 hb => ?_, xo⟩
  obtain ⟨ds, rfl, q⟩ := hb
  cases ho with
  | lst xs =>
    refine fn (upd G1 p (.lst xs)) H1 (.ref p) (.list ds) (k1.freeze n3 n2 (k.h0.free n1) fun i u e z => ?_) ⟨g1.gg.trans (same_upd n2), g1.hh, fun a u e => by
      by_cases ha : a = p
      · subst ha; exact .inr (.inl n1)
      · rw [upd_ne ha] at e; exact g1.nw a u e⟩ (rp_lstNew n2 n4) q
    obtain ⟨a, ho', z1, z2, _, _, z5⟩ := k.ow i u e
    rw [z1] at z
    cases z
    exact nf_no z2 (hoOk_ntb z5) n1
  | _ => exact n4.elim
theorem QO.qc {e : Expr} {dd : DO} (h : QO X W e dd) : QC X W e (dCofO dd) := PE.sub h fun σ H Q h => by
  obtain ⟨G0, H0, G, ρ, Qd, Xd, k, h, fn, xo⟩ := h
  refine ⟨G0, H0, G, ρ, _, Xd, k, h, fun G1 H1 p ho o k1 g1 n1 n2 n3 n4 hb => ?_, xo⟩
  obtain ⟨ds, rfl, q⟩ := hb
  cases ho with
  | lst xs => exact fn G1 H1 p xs false ds k1 g1 n3 n4 q
  | _ => exact n4.elim
theorem QE.qc {e : Expr} {de : DE} (h : QE X W e de) : QC X W e (dCofE de) := PE.sub h fun σ H Q h => by
  obtain ⟨G0, H0, G, ρ, Qd, Xd, k, h, fn, xo⟩ := h
  refine ⟨G0, H0, G, ρ, _, Xd, k, h, fun G1 H1 v d k1 g1 rv hb => ?_, xo⟩
  obtain ⟨b, ds, rfl, q⟩ := hb
  obtain ⟨a, xs, rfl, s1, s2⟩ := rp_sq k1.gh rv
  exact fn G1 H1 a xs b ds k1 g1 s1 s2 q
theorem atI_rp {K : PySem.W.Frag} {G : Hp} {xs : List V} {ds : List PyData} {i : Int} {d : PyData} (h : RpAll K G xs ds) (e : atI ds i = some d) : ∃ v, atI xs i = some v ∧ Rp K G v d := by
  unfold atI at e ⊢
  rw [rpa_length h]
  cases q : ixN ds.length i with
  | none => rw [q] at e; cases e
  | some j =>
    rw [q] at e
    exact rpa_get h e
def ixD (ds : List PyData) (i : PyData) (Q : PyData → Prop) : Prop := ∃ n d, i = .int n ∧ atI ds n = some d ∧ Q d
def dIx (dc : DC) (di : DE) : DE := fun ρ Q X => dc ρ (fun _ ds => di ρ (fun i => ixD ds i Q) X) X
theorem qe_ix {a b : Expr} {pos : Pos} {dc : DC} {di : DE} (ha : QC X W a dc) (hb : QE X W b di) (hs : PlainIx b := by intro _ _; rfl) : QE X W (.Subscript a b pos) (dIx dc di) := PE.sub (pe_ix ix_seq ha hb hs) fun σ H Q h => by
  obtain ⟨G0, H0, G, ρ, Qd, Xd, k, h, fn, xo⟩ := h
  refine ⟨G0, H0, G, ρ, _, Xd, k, h, fun G1 H1 a xs b ds k1 g1 sq rx hb => ?_, xo⟩
  refine ⟨G0, H0, G1, ρ, _, Xd, k1, hb, fun G2 H2 y e k2 g2 ry hf => ?_, xo.mono g1⟩
  obtain ⟨n, d, rfl, hat, q⟩ := hf
  cases ry
  obtain ⟨v, e1, e2⟩ := atI_rp (rpa_mono g2.gg rx) hat
  have fin := fn G2 H2 v d k2 (g1.trans g2) e2 q
  cases b with
  | false => exact .inl ⟨a, xs, n, v, rfl, rfl, SqL.of (g2.hh.at sq ntb_lst), e1, fin⟩
  | true => exact .inr (.inl ⟨a, xs, n, v, rfl, rfl, sqT_mono k2.gh (sqN_mono g2.gg sq).t, e1, fin⟩)
end
end WH
namespace WH
open PySem PySem.Spec L2
variable [TabC] [ObjB]
def addD : PyData → PyData → (PyData → Prop) → Prop
  | .int i, .int j, Q => Q (.int (i + j))
  | .str a, .str b, Q => a.length + b.length ≤ 100000 ∧ Q (.str (a ++ b))
  | .tuple xs, .tuple ys, Q => xs.length + ys.length ≤ 100000 ∧ Q (.tuple (xs ++ ys))
  | .list xs, .list ys, Q => xs.length + ys.length ≤ 100000 ∧ Q (.list (xs ++ ys))
  | _, _, _ => False
def iI (g : Int → Int → PyData) : PyData → PyData → (PyData → Prop) → Prop
  | .int i, .int j, Q => Q (g i j)
  | _, _, _ => False
def iC (C : Int → Int → Prop) (g : Int → Int → PyData) : PyData → PyData → (PyData → Prop) → Prop
  | .int i, .int j, Q => C i j ∧ Q (g i j)
  | _, _, _ => False
def subD := iI fun i j => .int (i - j)
def modD := iC (fun _ j => 0 < j) fun i j => .int (i % j)
def fdivD := iC (fun _ j => 0 < j ∧ j < 1073741824) fun i j => .int (i / j)
def powD := iC (fun i j => 0 ≤ j ∧ j ≤ 1000000 ∧ i.natAbs < 2 ^ 64) fun i j => .int (i ^ j.toNat)
def mulD : PyData → PyData → (PyData → Prop) → Prop
  | .int i, .int j, Q => ((-(2 ^ 64) < i ∧ i < 2 ^ 64) ∨ (-(2 ^ 64) < j ∧ j < 2 ^ 64)) ∧ Q (.int (i * j))
  | .tuple xs, .int k, Q => xs ≠ [] ∧ 2 ≤ k ∧ k ≤ 1000 ∧ xs.length ≤ 1000 ∧ Q (.tuple (List.replicate k.toNat xs).flatten)
  | .list xs, .int k, Q => 0 ≤ k ∧ k ≤ 1000 ∧ xs.length ≤ 100 ∧ Q (.list (List.replicate k.toNat xs).flatten)
  | _, _, _ => False
def ltD := iI fun i j => .bool (decide (i < j))
def leD := iI fun i j => .bool (decide (i ≤ j))
def gtD := iI fun i j => .bool (decide (j < i))
def geD := iI fun i j => .bool (decide (j ≤ i))
def eqD (d e : PyData) (Q : PyData → Prop) : Prop := SeqAt.shaped d = true ∧ SeqAt.shaped e = true ∧ Q (.bool (PyData.eqv d e))
def neD (d e : PyData) (Q : PyData → Prop) : Prop := SeqAt.shaped d = true ∧ SeqAt.shaped e = true ∧ Q (.bool (!PyData.eqv d e))
def isNo : PyData → Bool
  | .none => true
  | _ => false
def isD (d e : PyData) (Q : PyData → Prop) : Prop := e = .none ∧ Q (.bool (isNo d))
def isNotD (d e : PyData) (Q : PyData → Prop) : Prop := e = .none ∧ Q (.bool (!isNo d))
section
variable {K : PySem.W.Frag}
theorem rI_E {g : Int → Int → V} {h : Int → Int → PyData} (gh : ∀ G i j, Rp K G (g i j) (h i j)) : R2E K (rI0 g) (iI h) := by
  intro G0 H0 G H σ ρ x y d e Qd Q k rx ry hf fn
  cases rx <;> cases ry <;> first | exact hf.elim | exact ⟨_, _, rfl, rfl, fn G H _ _ k Gr.refl (gh G _ _) hf⟩
theorem rC_E {C : Int → Int → Prop} {g : Int → Int → V} {h : Int → Int → PyData} (gh : ∀ G i j, Rp K G (g i j) (h i j)) : R2E K (rI C g) (iC C h) := by
  intro G0 H0 G H σ ρ x y d e Qd Q k rx ry hf fn
  cases rx <;> cases ry <;> first | exact hf.elim | exact ⟨_, _, rfl, rfl, hf.1, fn G H _ _ k Gr.refl (gh G _ _) hf.2⟩
theorem sub_E : R2E K (rI0 fun i j => .int (i - j)) subD := rI_E fun _ _ _ => .int _
theorem lt_E : R2E K (rI0 fun i j => .bl (decide (i < j))) ltD := rI_E fun _ _ _ => .bl _
theorem le_E : R2E K (rI0 fun i j => .bl (decide (i ≤ j))) leD := rI_E fun _ _ _ => .bl _
theorem gt_E : R2E K (rI0 fun i j => .bl (decide (j < i))) gtD := rI_E fun _ _ _ => .bl _
theorem ge_E : R2E K (rI0 fun i j => .bl (decide (j ≤ i))) geD := rI_E fun _ _ _ => .bl _
theorem mod_E : R2E K (rI (fun _ j => 0 < j) fun i j => .int (i % j)) modD := rC_E fun _ _ _ => .int _
theorem fdiv_E : R2E K (rI CDiv fun i j => .int (i / j)) fdivD := by
  intro G0 H0 G H σ ρ x y d e Qd Q k rx ry hf fn
  cases rx <;> cases ry <;> first | exact hf.elim | exact ⟨_, _, rfl, rfl, hf.1, fn G H _ _ k Gr.refl (.int _) hf.2⟩
theorem pow_E : R2E K (rI CPow fun i j => .int (i ^ j.toNat)) powD := by
  intro G0 H0 G H σ ρ x y d e Qd Q k rx ry hf fn
  cases rx <;> cases ry <;> first | exact hf.elim | exact ⟨_, _, rfl, rfl, hf.1, fn G H _ _ k Gr.refl (.int _) hf.2⟩
def rAddA (K : PySem.W.Frag) : R2 := fun x y H Q => rI0 (fun i j => .int (i + j)) x y H Q ∨ (∃ i j, x = .str i ∧ y = .str j ∧ i.length + j.length ≤ sizeLine ∧ Q (.str (i ++ j)) H) ∨ rCatN K x y H Q ∨ rCat x y H Q
theorem op_addA {X : Cx} : OpR X (binaryOp .Add) (rAddA X.K) := op_add.or (op_add_str.or (op_catN.or op_cat))
theorem add_E : R2E K (rAddA K) addD := by
  intro G0 H0 G H σ ρ x y d e Qd Q k rx ry hf fn
  cases rx with
  | int i =>
    cases ry with
    | int j => exact .inl ⟨i, j, rfl, rfl, fn G H _ _ k Gr.refl (.int _) hf⟩
    | _ => exact hf.elim
  | str i =>
    cases ry with
    | str j => exact .inr (.inl ⟨i, j, rfl, rfl, sz_of hf.1, fn G H _ _ k Gr.refl (.str _) hf.2⟩)
    | _ => exact hf.elim
  | tup sx ax =>
    cases ry with
    | tup sy ay =>
      rename_i a xs ds b ys es
      have hl := rpa_length ax
      have hl2 := rpa_length ay
      refine .inr (.inr (.inl ⟨a, b, xs, ys, rfl, rfl, sqT_mono k.gh sx.t, sqT_mono k.gh sy.t, sz_of (by rw [hl, hl2]; exact hf.1), fun e0 => ?_, fun n0 e0 => ?_, fun n0 n1 => ?_⟩))
      · subst e0
        cases ax
        exact fn G H _ _ k Gr.refl (.tup sy ay) hf.2
      · subst e0
        cases ay
        have q := hf.2
        rw [List.append_nil] at q
        exact fn G H _ _ k Gr.refl (.tup sx ax) q
      · exact fin_tup k fn (rpa_append ax ay) hf.2
    | _ => exact hf.elim
  | lst sx ax =>
    cases ry with
    | lst sy ay =>
      rename_i a xs ds b ys es
      have hl := rpa_length ax
      have hl2 := rpa_length ay
      exact .inr (.inr (.inr ⟨a, b, xs, ys, rfl, rfl, k.gh _ _ sx, k.gh _ _ sy, sz_of (by rw [hl, hl2]; exact hf.1), fin_lst k fn (rpa_append ax ay) hf.2⟩))
    | _ => exact hf.elim
  | _ => cases ry <;> exact hf.elim
def rMulA (K : PySem.W.Frag) : R2 := fun x y H Q => rI CMul (fun i j => .int (i * j)) x y H Q ∨ rRepN K x y H Q ∨ rRep x y H Q
theorem op_mulA {X : Cx} : OpR X (binaryOp .Mult) (rMulA X.K) := op_mul.or (op_repN.or op_rep)
theorem mul_E : R2E K (rMulA K) mulD := by
  intro G0 H0 G H σ ρ x y d e Qd Q k rx ry hf fn
  cases rx with
  | int i =>
    cases ry with
    | int j => exact .inl ⟨i, j, rfl, rfl, hf.1, fn G H _ _ k Gr.refl (.int _) hf.2⟩
    | _ => exact hf.elim
  | tup sx ax =>
    cases ry with
    | int j =>
      rename_i a xs ds
      have hl := rpa_length ax
      obtain ⟨f1, f2, f3, f4, f5⟩ := hf
      refine .inr (.inl ⟨a, j, xs, rfl, rfl, sqT_mono k.gh sx.t, fun z => f1 ?_, f2, f3, by omega, fin_tup k fn (rpa_rep ax _) f5⟩)
      subst z
      cases ax
      rfl
    | _ => exact hf.elim
  | lst sx ax =>
    cases ry with
    | int j =>
      rename_i a xs ds
      have hl := rpa_length ax
      obtain ⟨f1, f2, f3, f4⟩ := hf
      refine .inr (.inr ⟨a, j, xs, rfl, rfl, k.gh _ _ sx, by omega, by omega, sz_of ?_, fin_lst k fn (rpa_rep ax _) f4⟩)
      have : xs.length * j.toNat ≤ 100 * 1000 := Nat.mul_le_mul (by omega) (by omega)
      omega
    | _ => exact hf.elim
  | _ => cases ry <;> exact hf.elim
theorem shaped_lay {d : PyData} (h : SeqAt.shaped d = true) : d.canLay0 = true := SeqAt.canLay_of_shaped h
theorem rp_dpH {G H : Hp} {v : V} {d : PyData} (r : Rp K G v d) (e : Same G H) (h : SeqAt.shaped d = true) : Dp K H v d := rp_dp (rp_mono e r) (shaped_lay h)
theorem eq_E : R2E K (rEqD K) eqD := by
  intro G0 H0 G H σ ρ x y d e Qd Q k rx ry hf fn
  exact ⟨d, e, rp_dpH rx k.gh hf.1, rp_dpH ry k.gh hf.2.1, hf.1, hf.2.1, fn G H _ _ k Gr.refl (.bl _) hf.2.2⟩
theorem ne_E : R2E K (rNeD K) neD := by
  intro G0 H0 G H σ ρ x y d e Qd Q k rx ry hf fn
  exact ⟨d, e, rp_dpH rx k.gh hf.1, rp_dpH ry k.gh hf.2.1, hf.1, hf.2.1, fn G H _ _ k Gr.refl (.bl _) hf.2.2⟩
theorem isNo_eq {G : Hp} {v : V} {d : PyData} (r : Rp K G v d) : decide (v = .non) = isNo d := by cases r <;> rfl
theorem is_E : R2E K (fun x y H Q => y = .non ∧ Q (.bl (decide (x = .non))) H) isD := by
  intro G0 H0 G H σ ρ x y d e Qd Q k rx ry hf fn
  obtain ⟨rfl, q⟩ := hf
  cases ry
  exact ⟨rfl, fn G H _ _ k Gr.refl (.bl _) (by rw [isNo_eq rx]; exact q)⟩
theorem isNot_E : R2E K (fun x y H Q => y = .non ∧ Q (.bl (!decide (x = .non))) H) isNotD := by
  intro G0 H0 G H σ ρ x y d e Qd Q k rx ry hf fn
  obtain ⟨rfl, q⟩ := hf
  cases ry
  exact ⟨rfl, fn G H _ _ k Gr.refl (.bl _) (by rw [isNo_eq rx]; exact q)⟩
end
section
variable {X : Cx} {W : XW} {a b : Expr} {pos : Pos} {da db : DE}
theorem qe_add (ha : QE X W a da) (hb : QE X W b db) : QE X W (.BinOp a .Add b pos) (d2 addD da db) := qe_op add_E op_addA ha hb
theorem qe_sub (ha : QE X W a da) (hb : QE X W b db) : QE X W (.BinOp a .Sub b pos) (d2 subD da db) := qe_op sub_E op_sub ha hb
theorem qe_mul (ha : QE X W a da) (hb : QE X W b db) : QE X W (.BinOp a .Mult b pos) (d2 mulD da db) := qe_op mul_E op_mulA ha hb
theorem qe_mod (ha : QE X W a da) (hb : QE X W b db) : QE X W (.BinOp a .Mod b pos) (d2 modD da db) := qe_op mod_E op_mod ha hb
theorem qe_fdiv (ha : QE X W a da) (hb : QE X W b db) : QE X W (.BinOp a .FloorDiv b pos) (d2 fdivD da db) := qe_op fdiv_E op_fdiv ha hb
theorem qe_pow (ha : QE X W a da) (hb : QE X W b db) : QE X W (.BinOp a .Pow b pos) (d2 powD da db) := qe_op pow_E op_pow ha hb
theorem qe_eq (hu : X.A.units + 64 < cLine) (ha : QE X W a da) (hb : QE X W b db) : QE X W (.Compare a [.Eq] [b] pos) (d2 eqD da db) := qe_cmp eq_E (op_eqD hu) ha hb (nomark _)
theorem qe_is (ha : QE X W a da) (hb : QE X W b db) : QE X W (.Compare a [.Is] [b] pos) (d2 isD da db) := qe_cmp is_E op_isN ha hb (nomark _)
theorem qt_lt (ha : QE X W a da) (hb : QE X W b db) : QT X W (.Compare a [.Lt] [b] pos) (dTst (d2 ltD da db)) := qt_cmp lt_E op_lt ha hb (nomark _)
theorem qt_gt (ha : QE X W a da) (hb : QE X W b db) : QT X W (.Compare a [.Gt] [b] pos) (dTst (d2 gtD da db)) := qt_cmp gt_E op_gt ha hb (nomark _)
theorem qt_ge (ha : QE X W a da) (hb : QE X W b db) : QT X W (.Compare a [.GtE] [b] pos) (dTst (d2 geD da db)) := qt_cmp ge_E op_ge ha hb (nomark _)
theorem qt_eq (hu : X.A.units + 64 < cLine) (ha : QE X W a da) (hb : QE X W b db) : QT X W (.Compare a [.Eq] [b] pos) (dTst (d2 eqD da db)) := qt_cmp eq_E (op_eqD hu) ha hb (nomark _)
theorem qt_ne (hu : X.A.units + 64 < cLine) (ha : QE X W a da) (hb : QE X W b db) : QT X W (.Compare a [.NotEq] [b] pos) (dTst (d2 neD da db)) := qt_cmp ne_E (op_neD hu) ha hb (nomark _)
theorem qt_is (ha : QE X W a da) (hb : QE X W b db) : QT X W (.Compare a [.Is] [b] pos) (dTst (d2 isD da db)) := qt_cmp is_E op_isN ha hb (nomark _)
theorem qt_isNot (ha : QE X W a da) (hb : QE X W b db) : QT X W (.Compare a [.IsNot] [b] pos) (dTst (d2 isNotD da db)) := qt_cmp isNot_E op_notN ha hb (nomark _)
theorem qe_and {rest : List Expr} (ha : QE X W a da) (hb : QE X W (.BoolOp .And (b :: rest) pos) db) : QE X W (.BoolOp .And (a :: b :: rest) pos) (dAndV da db) := PE.sub (pe_and ha hb) up_andV
theorem qe_one {op : BoolOp} (ha : QE X W a da) : QE X W (.BoolOp op [a] pos) da := pe_one ha
theorem qe_not (ha : QE X W a da) : QE X W (.UnaryOp .Not a pos) (dNotV da) := PE.sub (pe_not ha) up_notV
def dNeg (da : DE) : DE := fun ρ Q X => da ρ (fun d => ∃ i, d = .int i ∧ Q (.int (-i))) X
theorem qe_neg (ha : QE X W a da) : QE X W (.UnaryOp .USub a pos) (dNeg da) := PE.sub (pe_un un_neg ha) fun σ H Q h => by
  obtain ⟨G0, H0, G, ρ, Qd, Xd, k, h, fn, xo⟩ := h
  refine ⟨G0, H0, G, ρ, _, Xd, k, h, fun G1 H1 x d k1 g1 rx hb => ?_, xo⟩
  obtain ⟨i, rfl, q⟩ := hb
  cases rx
  exact ⟨i, rfl, fn G1 H1 _ _ k1 g1 (.int _) q⟩
def dRep (da : DC) (db : DE) : DO := fun ρ Q X => da ρ (fun b xs => db ρ (fun k => ∃ i, k = .int i ∧ b = false ∧ 0 ≤ i ∧ i ≤ 1000 ∧ xs.length ≤ 100 ∧ Q (.lst (List.replicate i.toNat xs).flatten)) X) X
theorem qo_mul {da : DC} (ha : QC X W a da) (hb : QE X W b db) : QO X W (.BinOp a .Mult b pos) (dRep da db) := PE.sub (pe_op op_rep ha hb) fun σ H Q h => by
  obtain ⟨G0, H0, G, ρ, Qd, Xd, k, h, fn, xo⟩ := h
  refine ⟨G0, H0, G, ρ, _, Xd, k, h, fun G1 H1 a xs b ds k1 g1 sq rx hb => ?_, xo⟩
  refine ⟨G0, H0, G1, ρ, _, Xd, k1, hb, fun G2 H2 y e k2 g2 ry hf => ?_, xo.mono g1⟩
  obtain ⟨i, rfl, rfl, i1, i2, hz, q⟩ := hf
  cases ry
  have hl := rpa_length rx
  refine ⟨a, i, xs, rfl, rfl, g2.hh.at sq ntb_lst, by omega, by omega, sz_of ?_, ?_⟩
  · have : xs.length * i.toNat ≤ 100 * 1000 := Nat.mul_le_mul (by omega) (by omega)
    omega
  · exact fin_own (o := .lst (List.replicate i.toNat ds).flatten) k2 (fun G3 H3 p ho o k3 g3 n1 n2 n3 n4 q => fn G3 H3 p ho o k3 ((g1.trans g2).trans g3) (g1.hh.free (g2.hh.free n1)) n2 n3 n4 q) (show RpAll _ _ _ _ from rpa_rep (rpa_mono g2.gg rx) _) q
abbrev DP := Sto → (Option Int → Prop) → XD → Prop
def upP (K : PySem.W.Frag) (W : XW) (dp : DP) : TO := fun σ H Q => ∃ G0 H0 G ρ Qd Xd, Ok K G0 H0 G H σ ρ ∧ dp ρ Qd Xd ∧ (∀ G' H' o, Ok K G0 H0 G' H' σ ρ → Gr G H G' H' → Qd o → Q o H') ∧ XOk K W G0 H0 G H σ ρ Xd
def QP (X : Cx) (W : XW) (e : Option Expr) (dp : DP) : Prop := PO X e (upP X.K W dp)
def dNo : DP := fun _ Q _ => Q none
def dSome (da : DE) : DP := fun ρ Q X => da ρ (fun d => ∃ i, d = .int i ∧ Q (some i)) X
theorem qp_none : QP X W none dNo := PO.sub po_none fun σ H Q h => by
  obtain ⟨G0, H0, G, ρ, Qd, Xd, k, h, fn, xo⟩ := h
  exact fn G H _ k Gr.refl h
theorem qp_some (ha : QE X W a da) : QP X W (some a) (dSome da) := PO.sub (po_some ha) fun σ H Q h => by
  obtain ⟨G0, H0, G, ρ, Qd, Xd, k, h, fn, xo⟩ := h
  refine ⟨G0, H0, G, ρ, _, Xd, k, h, fun G1 H1 x d k1 g1 rx hb => ?_, xo⟩
  obtain ⟨i, rfl, q⟩ := hb
  cases rx
  exact ⟨i, rfl, fn G1 H1 _ k1 g1 q⟩
def cutD (ds : List PyData) (lo hi : Option Int) : List PyData := (ds.drop (HT.sIx ds.length 0 lo)).take (HT.sIx ds.length ds.length hi - HT.sIx ds.length 0 lo)
theorem rpa_cut {K : PySem.W.Frag} {G : Hp} {xs : List V} {ds : List PyData} {lo hi : Option Int} (h : RpAll K G xs ds) : RpAll K G (cutV xs lo hi) (cutD ds lo hi) := by
  unfold cutV cutD
  rw [rpa_length h]
  exact rpa_take _ (rpa_drop _ h)
def dSl (dc : DC) (lo hi : DP) : DE := fun ρ Q X => dc ρ (fun b ds => lo ρ (fun l => hi ρ (fun h => Q (dat b (cutD ds l h))) X) X) X
theorem cutD_all {ds : List PyData} {lo hi : Option Int} (h : HT.sIx ds.length 0 lo = 0 ∧ HT.sIx ds.length ds.length hi = ds.length) : cutD ds lo hi = ds := by
  unfold cutD
  rw [h.1, h.2, List.drop_zero, Nat.sub_zero, List.take_length]
theorem qe_slice {lo hi : Option Expr} {p2 : Pos} {dc : DC} {dl dh : DP} (ha : QC X W a dc) (hl : QP X W lo dl) (hh : QP X W hi dh) : QE X W (.Subscript a (.Slice lo hi none p2) pos) (dSl dc dl dh) :=
  PE.sub (pe_slice (sl_list.or sl_tupN) ha hl hh) fun σ H Q h => by
  obtain ⟨G0, H0, G, ρ, Qd, Xd, k, h, fn, xo⟩ := h
  refine ⟨G0, H0, G, ρ, _, Xd, k, h, fun G1 H1 a xs b ds k1 g1 sq rx hb => ?_, xo⟩
  refine ⟨G0, H0, G1, ρ, _, Xd, k1, hb, fun G2 H2 l k2 g2 hb2 => ?_, xo.mono g1⟩
  refine ⟨G0, H0, G2, ρ, _, Xd, k2, hb2, fun G3 H3 u k3 g3 q => ?_, (xo.mono g1).mono g2⟩
  have fin : Fin1 X.K G0 H0 G3 H3 σ ρ Qd Q := fun G4 H4 v d k4 g4 rv q => fn G4 H4 v d k4 (((g1.trans g2).trans g3).trans g4) rv q
  have rx3 := rpa_mono (g2.trans g3).gg rx
  have sq3 := sq_mono (g2.trans g3).gg (g2.trans g3).hh sq
  cases b with
  | false => exact .inl ⟨a, xs, rfl, SqL.of sq3, fin_lst k3 fin (rpa_cut rx3) q⟩
  | true =>
    refine .inr ⟨a, xs, rfl, sqT_mono k3.gh (SqN.t sq3), fun hw => ?_, fun _ => fin_tup k3 fin (rpa_cut rx3) q⟩
    rw [rpa_length rx3] at hw
    have e := cutD_all (ds := ds) (lo := l) (hi := u) hw
    rw [e] at q
    exact fin G3 H3 _ _ k3 Gr.refl (.tup sq3 rx3) q
end
end WH
namespace WH
open PySem PySem.Spec L2
variable [TabC] [ObjB]
section
variable {X : Cx} {W : XW}
def dNext : DS := fun D ρ => D.nx ρ
def dSeq (d e : DS) : DS := fun D ρ => d { D with nx := e D } ρ
theorem qss_nil : QSs X W [] dNext := PSs.sub pss_nil fun D σ H h => by
  obtain ⟨G0, H0, G, ρ, Dd, k, h, nx, rt, bk, ct, ex⟩ := h
  exact nx G H σ ρ k h
theorem qss_cons {st : Stmt} {rest : List Stmt} {d e : DS} (h1 : QS X W st d) (h2 : QSs X W rest e) : QSs X W (st :: rest) (dSeq d e) := PSs.sub (pss_cons h1 h2) fun D σ H h => by
  obtain ⟨G0, H0, G, ρ, Dd, k, h, nx, rt, bk, ct, ex⟩ := h
  exact ⟨G0, H0, G, ρ, { Dd with nx := e Dd }, k, h, fun G' H' σ' ρ' k' q => ⟨G0, H0, G', ρ', Dd, k', q, nx, rt, bk, ct, ex⟩, rt, bk, ct, ex⟩
theorem qss_one {st : Stmt} {d : DS} (h1 : QS X W st d) : QSs X W [st] d := pss_one h1
def dFreeze (i : Nat) (d : DS) : DS := fun D ρ => ∃ ds, ρ[i]? = some (Slot.ow (.lst ds)) ∧ d D (ρ.set i (.sh (.list ds)))
theorem qss_freeze {sts : List Stmt} {d : DS} (i : Nat) (h : QSs X W sts d) : QSs X W sts (dFreeze i d) := PSs.sub h fun D σ H h => by
  obtain ⟨G0, H0, G, ρ, Dd, k, ⟨ds, hi, h⟩, nx, rt, bk, ct, ex⟩ := h
  obtain ⟨G', _, k'⟩ := k.freezeSlot hi
  exact ⟨G0, H0, G', _, Dd, k', h, nx, rt, bk, ct, ex⟩
def dAsg (i : Nat) (de : DE) : DS := fun D ρ => de ρ (fun d => D.nx (ρ.set i (.sh d))) (D.xd ρ)
def dAsgO (i : Nat) (dd : DO) : DS := fun D ρ => dd ρ (fun o => D.nx (ρ.set i (.ow o))) (D.xd ρ)
theorem xok_of {K : PySem.W.Frag} {G0 H0 G H : Hp} {σ : L2.St} {ρ : Sto} {Xd : Exn → Sto → Prop} (ex : ∀ G' H' σ' ρ' x cls d, Ok K G0 H0 G' H' σ' ρ' → ExcOk K W.1 G' H' x cls d → Xd x ρ' → W.2 cls d σ' H') : XOk K W G0 H0 G H σ ρ (fun x => Xd x ρ) := fun G' H' x cls d k _ e z => ex G' H' σ ρ x cls d k e z
theorem up_asg {K : PySem.W.Frag} {t : TE} {i : Nat} {de : DE} (ht : ∀ σ H Q, upE K W de σ H Q → t σ H Q) (D : Ends) (σ : L2.St) (H : Hp) (h : upS K W (dAsg i de) D σ H) : tAsg t (gName i) D σ H := by
  obtain ⟨G0, H0, G, ρ, Dd, k, h, nx, rt, bk, ct, ex⟩ := h
  exact ht σ H _ ⟨G0, H0, G, ρ, _, Dd.xd ρ, k, h, fun G1 H1 v d k1 g1 rv q => nx G1 H1 _ _ (k1.setSh rv) q, xok_of ex⟩
theorem up_asgO {K : PySem.W.Frag} {t : TE} {i : Nat} {dd : DO} (ht : ∀ σ H Q, upO K W dd σ H Q → t σ H Q) (D : Ends) (σ : L2.St) (H : Hp) (h : upS K W (dAsgO i dd) D σ H) : tAsg t (gName i) D σ H := by
  obtain ⟨G0, H0, G, ρ, Dd, k, h, nx, rt, bk, ct, ex⟩ := h
  exact ht σ H _ ⟨G0, H0, G, ρ, _, Dd.xd ρ, k, h, fun G1 H1 p ho o k1 g1 n1 n2 n3 n4 q => nx G1 H1 _ _ (k.newOw g1.hh k1 n1 n3 n2 n4) q, xok_of ex⟩
theorem qs_set {i : Nat} {x : Str} {e : Expr} {de : DE} {pos pos' : Pos} (hN : X.N.Nodup) (he : QE X W e de) (hi : X.N[i]? = some x := by rfl) (hx : Loc X.env.scope x := by first | exact Or.inl rfl | exact Or.inr rfl) (hs : swapsWith e (some (.Name x pos')) pos.line X.env = pure false := by rfl) (hf : X.fn x = true ∨ X.env.scope.names.lookup x = some .local := by first | exact .inl rfl | exact .inr rfl | assumption) :
    QS X W (.Assign [.Name x pos'] e pos) (dAsg i de) := PS.sub (ps_set hN hi hx he hs hf) (up_asg fun _ _ _ h => h)
theorem qs_setO {i : Nat} {x : Str} {e : Expr} {de : DO} {pos pos' : Pos} (hN : X.N.Nodup) (he : QO X W e de) (hi : X.N[i]? = some x := by rfl) (hx : Loc X.env.scope x := by first | exact Or.inl rfl | exact Or.inr rfl) (hs : swapsWith e (some (.Name x pos')) pos.line X.env = pure false := by rfl) (hf : X.fn x = true ∨ X.env.scope.names.lookup x = some .local := by first | exact .inl rfl | exact .inr rfl | assumption) :
    QS X W (.Assign [.Name x pos'] e pos) (dAsgO i de) := PS.sub (ps_set hN hi hx he hs hf) (up_asgO fun _ _ _ h => h)
abbrev DG := PyData → Sto → (Sto → Prop) → Prop
def upG (K : PySem.W.Frag) (vs : List Nat) (dg : DG) : TG := fun v σ H Q => ∃ G0 H0 G ρ d Qd, Ok K G0 H0 G H σ ρ ∧ Rp K G v d ∧ dg d ρ Qd ∧ ∀ σ' ρ', Ok K G0 H0 G H σ' ρ' → σ'.length = σ.length → (∀ i, i ∉ vs → σ'[i]? = σ[i]?) → Qd ρ' → Q σ' H
def QG (X : Cx) (vs : List Nat) (tg : Expr) (dg : DG) : Prop := PG X tg (upG X.K vs dg)
def gN (i : Nat) : DG := fun d ρ Q => Q (ρ.set i (.sh d))
theorem qg_name {i : Nat} {x : Str} {pos : Pos} (hN : X.N.Nodup) (hi : X.N[i]? = some x := by rfl) (hx : Loc X.env.scope x := by first | exact Or.inl rfl | exact Or.inr rfl) (hf : X.fn x = true ∨ X.env.scope.names.lookup x = some .local := by first | exact .inl rfl | exact .inr rfl | assumption) : QG X [i] (.Name x pos) (gN i) :=
  PG.sub (pg_name hN hi hx hf) fun v σ H Q h => by
  obtain ⟨G0, H0, G, ρ, d, Qd, k, rv, h, fn⟩ := h
  refine fn _ _ (k.setSh rv) (List.length_set) (fun j hj => ?_) h
  rw [getElem_set_eq, if_neg (fun z => hj (by rw [z]; exact List.mem_singleton.mpr rfl))]
abbrev DGs := List PyData → Sto → (Sto → Prop) → Prop
def upGs (K : PySem.W.Frag) (vs : List Nat) (dg : DGs) : TGs := fun us σ H Q => ∃ G0 H0 G ρ ds Qd, Ok K G0 H0 G H σ ρ ∧ RpAll K G us ds ∧ dg ds ρ Qd ∧ ∀ σ' ρ', Ok K G0 H0 G H σ' ρ' → σ'.length = σ.length → (∀ i, i ∉ vs → σ'[i]? = σ[i]?) → Qd ρ' → Q σ' H
def QGs (X : Cx) (vs : List Nat) (tg : List Expr) (dg : DGs) : Prop := PGs X tg (upGs X.K vs dg)
def gsNil : DGs := fun ds ρ Q => ds = [] ∧ Q ρ
def gsCons (g : DG) (gs : DGs) : DGs := fun ds ρ Q => ∃ d r, ds = d :: r ∧ g d ρ (fun ρ' => gs r ρ' Q)
theorem qgs_nil : QGs X [] [] gsNil := PGs.sub pgs_nil fun us σ H Q h => by
  obtain ⟨G0, H0, G, ρ, ds, Qd, k, rv, ⟨rfl, h⟩, fn⟩ := h
  cases rv
  exact ⟨rfl, fn _ _ k rfl (fun _ _ => rfl) h⟩
theorem qgs_cons {e : Expr} {es : List Expr} {vs ws : List Nat} {g : DG} {gs : DGs} (h1 : QG X vs e g) (h2 : QGs X ws es gs) (hs : (assignEach (e :: es) X.env).map (·.2) = assign e X.env :: (assignEach es X.env).map (·.2) := by rfl) : QGs X (vs ++ ws) (e :: es) (gsCons g gs) :=
  PGs.sub (pgs_cons h1 h2 hs) fun us σ H Q h => by
  obtain ⟨G0, H0, G, ρ, ds, Qd, k, rv, ⟨d, r, rfl, h⟩, fn⟩ := h
  cases rv with
  | cons r1 r2 =>
    refine ⟨_, _, rfl, G0, H0, G, ρ, d, _, k, r1, h, fun σ1 ρ1 k1 l1 e1 h1 => ?_⟩
    exact ⟨G0, H0, G, ρ1, r, Qd, k1, r2, h1, fun σ2 ρ2 k2 l2 e2 q => fn σ2 ρ2 k2 (l2.trans l1) (fun i hi => (e2 i fun z => hi (List.mem_append_right _ z)).trans (e1 i fun z => hi (List.mem_append_left _ z))) q⟩
def gT (n : Nat) (gs : DGs) : DG := fun d ρ Q => ∃ ds, (d = .tuple ds ∨ d = wk ds) ∧ ds.length = n ∧ gs ds ρ Q
theorem qg_tup {es : List Expr} {kk : Nat} {pos : Pos} {vs : List Nat} {gs : DGs} {n : Nat} (hc : X.calm = true) (h : QGs X vs es gs) (hn : (assignEach es X.env).length = n := by rfl) (hst : (assignEach es X.env).findIdx? (·.1) = none := by rfl) : QG X vs (.Tuple es kk pos) (gT n gs) :=
  PG.sub (pg_tup hc h hn hst) fun v σ H Q h => by
  obtain ⟨G0, H0, G, ρ, d, Qd, k, rv, ⟨ds, e, hl, h⟩, fn⟩ := h
  rcases e with rfl | rfl
  · cases rv with
    | tup s1 s2 => exact ⟨_, _, rfl, sqT_mono k.gh s1.t, (rpa_length s2).trans hl, G0, H0, G, ρ, ds, Qd, k, s2, h, fn⟩
  · obtain ⟨a, xs, rfl, s1, s2⟩ := rp_wk rv
    exact ⟨_, _, rfl, sqT_mono k.gh s1, (rpa_length s2).trans hl, G0, H0, G, ρ, ds, Qd, k, s2, h, fn⟩
def dAsgG (de : DE) (dg : DG) : DS := fun D ρ => de ρ (fun d => dg d ρ D.nx) (D.xd ρ)
theorem qs_asg {tg e : Expr} {vs : List Nat} {de : DE} {dg : DG} {pos : Pos} (he : QE X W e de) (hg : QG X vs tg dg) (hs : swapsWithSole [tg] e pos.line X.env = pure false := by rfl) (hw : swappedStores [tg] e X.env = pure none := by rfl)
    (h1 : (assignEach [tg] X.env).map (·.2) = [assign tg X.env] := by rfl) : QS X W (.Assign [tg] e pos) (dAsgG de dg) := PS.sub (ps_asg he hg hs hw h1) fun D σ H h => by
  obtain ⟨G0, H0, G, ρ, Dd, k, h, nx, rt, bk, ct, ex⟩ := h
  exact ⟨G0, H0, G, ρ, _, Dd.xd ρ, k, h, fun G1 H1 v d k1 g1 rv q => ⟨G0, H0, G1, ρ, d, Dd.nx, k1, rv, q, fun σ' ρ' k' _ _ q => nx G1 H1 σ' ρ' k' q⟩, xok_of ex⟩
def dRet (de : DE) : DS := fun D ρ => de ρ (fun d => D.rt (.sh d)) (D.xd ρ)
def dRetO (dd : DO) : DS := fun D ρ => dd ρ (fun o => D.rt (.ow o)) (D.xd ρ)
theorem retSh {K : PySem.W.Frag} {G0 H0 G H : Hp} {σ : L2.St} {ρ : Sto} {v : V} {d : PyData} (k : Ok K G0 H0 G H σ ρ) (r : Rp K G v d) : RetOk K G0 H0 (.sh d) v H := ⟨G, k.g0, k.h0, k.gn, k.nw, r⟩
theorem qs_ret {e : Expr} {de : DE} {pos : Pos} (he : QE X W e de) : QS X W (.Return (some e) pos) (dRet de) := PS.sub (ps_ret he) fun D σ H h => by
  obtain ⟨G0, H0, G, ρ, Dd, k, h, nx, rt, bk, ct, ex⟩ := h
  exact ⟨G0, H0, G, ρ, _, Dd.xd ρ, k, h, fun G1 H1 v d k1 g1 rv q => rt _ v H1 (retSh k1 rv) q, xok_of ex⟩
theorem qs_retO {e : Expr} {dd : DO} {pos : Pos} (he : QO X W e dd) : QS X W (.Return (some e) pos) (dRetO dd) := PS.sub (ps_ret he) fun D σ H h => by
  obtain ⟨G0, H0, G, ρ, Dd, k, h, nx, rt, bk, ct, ex⟩ := h
  exact ⟨G0, H0, G, ρ, _, Dd.xd ρ, k, h, fun G1 H1 p ho o k1 g1 n1 n2 n3 n4 q => rt (.ow o) _ H1 ⟨G1, k1.g0, k1.h0, k1.gn, k1.nw, p, ho, rfl, k.h0.free n1, n2, n3, n4⟩ q, xok_of ex⟩
def dDrop (de : DE) : DS := fun D ρ => de ρ (fun _ => D.nx ρ) (D.xd ρ)
theorem qs_expr {e : Expr} {de : DE} {pos : Pos} (he : QE X W e de) (hs : swapsWith e none pos.line X.env = pure false := by rfl) : QS X W (.Expr e pos) (dDrop de) := PS.sub (ps_expr he hs) fun D σ H h => by
  obtain ⟨G0, H0, G, ρ, Dd, k, h, nx, rt, bk, ct, ex⟩ := h
  exact ⟨G0, H0, G, ρ, _, Dd.xd ρ, k, h, fun G1 H1 v d k1 g1 rv q => nx G1 H1 _ _ k1 q, xok_of ex⟩
def dIfS (t : DT) (a b : DS) : DS := fun D ρ => t ρ (fun c => if c = true then a D ρ else b D ρ) (D.xd ρ)
theorem qs_if {c : Expr} {a b : List Stmt} {pos : Pos} {t : DT} {d e : DS} (hc : QT X W c t) (ha : QSs X W a d) (hb : QSs X W b e) : QS X W (.If c a b pos) (dIfS t d e) := PS.sub (ps_if hc ha hb) fun D σ H h => by
  obtain ⟨G0, H0, G, ρ, Dd, k, h, nx, rt, bk, ct, ex⟩ := h
  refine ⟨G0, H0, G, ρ, _, Dd.xd ρ, k, h, fun G1 H1 c k1 g1 q => ?_, xok_of ex⟩
  cases c with
  | true =>
    rw [if_pos rfl] at q ⊢
    exact ⟨G0, H0, G1, ρ, Dd, k1, q, nx, rt, bk, ct, ex⟩
  | false =>
    rw [if_neg Bool.false_ne_true] at q ⊢
    exact ⟨G0, H0, G1, ρ, Dd, k1, q, nx, rt, bk, ct, ex⟩
theorem tyV_own {K : PySem.W.Frag} {H : Hp} {a : Addr} {xs : List V} (h : H a = some (.lst xs)) : tyV K "list" (.ref a) H := Or.inl ⟨rfl, _, SqL.of h⟩
def dApp (i : Nat) (de : DE) : DS := fun D ρ => ∃ ds, ρ[i]? = some (Slot.ow (.lst ds)) ∧ de ρ (fun d => ds.length < 100000 ∧ D.nx (ρ.set i (.ow (.lst (ds ++ [d]))))) (D.xd ρ)
theorem own_lst {K : PySem.W.Frag} {G0 H0 G H : Hp} {σ : L2.St} {ρ : Sto} {i : Nat} {ds : List PyData} (k : Ok K G0 H0 G H σ ρ) (hi : ρ[i]? = some (Slot.ow (.lst ds))) : ∃ a xs, σ[i]? = some (some (V.ref a)) ∧ H a = some (.lst xs) ∧ G a = none ∧ NF H0 a ∧ RpAll K G xs ds := by
  obtain ⟨a, ho, h1, h2, h3, h4, h5⟩ := k.ow i _ hi
  cases ho with
  | lst xs => exact ⟨a, xs, h1, h2, h3, h4, h5⟩
  | _ => exact h5.elim
theorem qs_app {i : Nat} {x : Str} {e : Expr} {de : DE} {p1 p2 p3 pos : Pos} (he : QE X W e de) (hs : swapsWith (.Call (.Attribute (.Name x p1) "append" p2) [e] [] p3) none pos.line X.env = pure false := by rfl)
    (hp : PE X (.Call (.Attribute (.Name x p1) "append" p2) [e] [] p3) (tBM X.K "list" rAppend (tVar i) (tCons (upE X.K W de) tNil))) :
    QS X W (.Expr (.Call (.Attribute (.Name x p1) "append" p2) [e] [] p3) pos) (dApp i de) := PS.sub (ps_expr hp hs) fun D σ H h => by
  obtain ⟨G0, H0, G, ρ, Dd, k, ⟨ds, hi, h⟩, nx, rt, bk, ct, ex⟩ := h
  obtain ⟨a, xs, h1, h2, h3, h4, h5⟩ := own_lst k hi
  refine ⟨_, h1, tyV_own h2, G0, H0, G, ρ, _, Dd.xd ρ, k, h, fun G1 H1 v d k1 g1 rv q => ?_, xok_of ex⟩
  obtain ⟨a', xs', h1', h2', h3', h4', h5'⟩ := own_lst k1 hi
  rw [h1] at h1'
  cases h1'
  refine ⟨a, xs', v, rfl, rfl, h2', sz_lt (by rw [rpa_length h5']; exact q.1), ?_⟩
  exact nx G1 _ σ _ (k1.mutOw (o' := .lst (ds ++ [d])) hi h1 (show RpAll _ _ _ _ from rpa_append h5' (.cons rv .nil))) q.2
end
end WH
namespace WH
open PySem PySem.Spec L2
variable [TabC] [ObjB]
abbrev DI := Sto → (List PyData → Prop) → XD → Prop
def IterOk (K : PySem.W.Frag) (J : It) (G : Hp) (ds : List PyData) : Prop := ∀ G1 H1, Same G G1 → Same G1 (nt H1) → ∀ i : Nat,
  (i < ds.length → J.go i H1) ∧ (ds.length ≤ i → J.stop i H1) ∧ ∀ d x H2, ds[i]? = some d → J.yld i H1 x H2 → ∃ G2, Gr G1 H1 G2 H2 ∧ Same G2 (nt H2) ∧ Rp K G2 x d
def upI (K : PySem.W.Frag) (W : XW) (di : DI) : TI := fun σ H R => ∃ G0 H0 G ρ Qd Xd, Ok K G0 H0 G H σ ρ ∧ di ρ Qd Xd ∧ (∀ G' H' J ds, Ok K G0 H0 G' H' σ ρ → Gr G H G' H' → IterOk K J G' ds → Qd ds → R J H') ∧ XOk K W G0 H0 G H σ ρ Xd
def QI (X : Cx) (W : XW) (tg iter : Expr) (di : DI) : Prop := PI X tg iter (upI X.K W di)
section
variable {X : Cx} {W : XW} {tg : Expr}
def iSeq (K : PySem.W.Frag) (tl : TE) : TI := fun σ H R => tl σ H fun x H1 => ∃ a, x = .ref a ∧ (((∃ xs, SqL K H1 a xs) ∧ R (Itl K a) H1) ∨ ((∃ xs, SqT K H1 a xs) ∧ R (Itt K a) H1))
theorem pi_seq {l : Expr} {tl : TE} (hl : PE X l tl) : PI X tg l (iSeq X.K tl) := by
  refine ⟨fun pins s σ H R I h => ?_⟩
  refine thn (hl.run pins s σ H _ I h) fun v s1 ⟨x, H1, I1, r1, q1⟩ => ?_
  obtain ⟨a, e, q⟩ := q1
  subst e
  cases r1
  rcases q with ⟨⟨xs, hq⟩, q⟩ | ⟨⟨xs, hq⟩, q⟩
  · obtain ⟨its, rv, p, hz⟩ := I1.list hq
    refine wpAny_pyIter_list p.isList ?_
    refine ⟨s1.heap.objs.size, [s1.heap.objs.size], _, _, H1, rfl, I1.kept (t' := s1.toks) fun b o e => Heap.get?_push_of_some _ e, turn_list a _, ⟨_, Heap.get?_push_size _ rfl, rfl, rfl⟩, fun b hb => ?_, q⟩
    have e : b = s1.heap.objs.size := by simpa using hb
    subst e
    exact I1.fpOk (Nat.le_refl _) (I1.hok.fresh (Nat.le_refl _))
  · obtain ⟨its, rv, p, hz⟩ := I1.tuple hq
    refine wpAny_pyIter_tuple (show s1.heap.IsTuple a its.toArray from p) ?_
    refine ⟨s1.heap.objs.size, [s1.heap.objs.size], _, _, H1, rfl, I1.kept (t' := s1.toks) fun b o e => Heap.get?_push_of_some _ e, turn_tuple a _, ⟨_, Heap.get?_push_size _ rfl, rfl, rfl⟩, fun b hb => ?_, q⟩
    have e : b = s1.heap.objs.size := by simpa using hb
    subst e
    exact I1.fpOk (Nat.le_refl _) (I1.hok.fresh (Nat.le_refl _))
theorem grow_refl {K : PySem.W.Frag} {G1 H1 : Hp} {x : V} {d : PyData} (gh : Same G1 (nt H1)) (r : Rp K G1 x d) : ∃ G2, Gr G1 H1 G2 H1 ∧ Same G2 (nt H1) ∧ Rp K G2 x d := ⟨G1, Gr.refl, gh, r⟩
theorem iter_list {K : PySem.W.Frag} {G : Hp} {a : Addr} {xs : List V} {ds : List PyData} (h : G a = some (.lst xs)) (r : RpAll K G xs ds) : IterOk K (Itl K a) G ds := fun G1 H1 g gh i => by
  have hl := rpa_length r
  have hq : SqL K H1 a xs := SqL.of (nt_some (gh _ _ (g _ _ h)))
  refine ⟨fun hi => ?_, fun hi => ⟨xs, hq, by omega⟩, fun d x H2 hd hy => ?_⟩
  · exact ⟨xs, xs[i]'(by omega), hq, by simp [show i < xs.length by omega]⟩
  · obtain ⟨rfl, hx⟩ := hy
    obtain ⟨v, e1, e2⟩ := rpa_get r hd
    rw [hx xs hq] at e1
    cases e1
    exact grow_refl gh (rp_mono g e2)
theorem iter_tup {K : PySem.W.Frag} {G : Hp} {a : Addr} {xs : List V} {ds : List PyData} (h : SqT K G a xs) (r : RpAll K G xs ds) : IterOk K (Itt K a) G ds := fun G1 H1 g gh i => by
  have hl := rpa_length r
  have hq : SqT K H1 a xs := sqT_mono (g.trans (gh.trans nt_le)) h
  refine ⟨fun hi => ?_, fun hi => ⟨xs, hq, by omega⟩, fun d x H2 hd hy => ?_⟩
  · exact ⟨xs, xs[i]'(by omega), hq, by simp [show i < xs.length by omega]⟩
  · obtain ⟨rfl, hx⟩ := hy
    obtain ⟨v, e1, e2⟩ := rpa_get r hd
    rw [hx xs hq] at e1
    cases e1
    exact grow_refl gh (rp_mono g e2)
def dIt (de : DE) : DI := fun ρ Q X => de ρ (fun d => ∃ b ds, d = dat b ds ∧ Q ds) X
theorem qi_e {e : Expr} {de : DE} (he : QE X W e de) : QI X W tg e (dIt de) := PI.sub (pi_seq he) fun σ H R h => by
  obtain ⟨G0, H0, G, ρ, Qd, Xd, k, h, fn, xo⟩ := h
  refine ⟨G0, H0, G, ρ, _, Xd, k, h, fun G1 H1 v d k1 g1 rv q => ?_, xo⟩
  obtain ⟨b, ds, rfl, q⟩ := q
  cases b with
  | false =>
    cases rv with
    | lst l1 l2 => exact ⟨_, rfl, .inl ⟨⟨_, SqL.of (k1.gh _ _ l1)⟩, fn G1 H1 _ ds k1 g1 (iter_list l1 l2) q⟩⟩
  | true =>
    cases rv with
    | tup l1 l2 => exact ⟨_, rfl, .inr ⟨⟨_, sqT_mono k1.gh l1.t⟩, fn G1 H1 _ ds k1 g1 (iter_tup l1.t l2) q⟩⟩
def rngD (lo : Int) (n : Nat) : List PyData := (List.range n).map fun (i : Nat) => PyData.int (lo + (i : Int))
theorem iter_rng {K : PySem.W.Frag} {G : Hp} {lo : Int} {n : Nat} : IterOk K (Itr lo n) G (rngD lo n) := fun G1 H1 g gh i => by
  have hl : (rngD lo n).length = n := by simp [rngD]
  refine ⟨fun hi => by rw [hl] at hi; exact hi, fun hi => by rw [hl] at hi; exact hi, fun d x H2 hd hy => ?_⟩
  obtain ⟨rfl, rfl⟩ := hy
  have hi : i < n := by
    have := (List.getElem?_eq_some_iff.mp hd).1
    omega
  have e : d = .int (lo + (i : Int)) := by
    simp [rngD, hi] at hd
    exact hd.symm
  subst e
  exact grow_refl gh (.int _)
def dRng1 (de : DE) : DI := fun ρ Q X => de ρ (fun d => ∃ n, d = .int n ∧ n ≤ 100000 ∧ -100000 ≤ n ∧ Q (rngD 0 n.toNat)) X
theorem qi_range1 {e : Expr} {p pos : Pos} {de : DE} (hm : X.mg "range" = none) (he : QE X W e de) (hg : Gl X "range" := by rfl) (hs : starEach [e] X.env = [(false, eval e X.env)] := by rfl) : QI X W tg (.Call (.Name "range" p) [e] [] pos) (dRng1 de) :=
  PI.sub (pi_range1 hg hm (qa_cons (W := W) he qa_nil hs) hs) fun σ H R h => by
  obtain ⟨G0, H0, G, ρ, Qd, Xd, k, h, fn, xo⟩ := h
  refine ⟨G0, H0, G, ρ, fun ds => ∃ n, ds = [.int n] ∧ n ≤ 100000 ∧ -100000 ≤ n ∧ Qd (rngD 0 n.toNat), Xd, k, ?_, fun G1 H1 vs ds k1 g1 rv q => ?_, xo⟩
  · have e : (fun x => dNil ρ (fun xs => ∃ n, x :: xs = [PyData.int n] ∧ n ≤ 100000 ∧ -100000 ≤ n ∧ Qd (rngD 0 n.toNat)) Xd) = fun d => ∃ n, d = .int n ∧ n ≤ 100000 ∧ -100000 ≤ n ∧ Qd (rngD 0 n.toNat) := by
      funext x
      simp [dNil]
    show de ρ (fun x => dNil ρ (fun xs => ∃ n, x :: xs = [PyData.int n] ∧ n ≤ 100000 ∧ -100000 ≤ n ∧ Qd (rngD 0 n.toNat)) Xd) Xd
    rw [e]
    exact h
  · obtain ⟨n, rfl, n1, n2, q⟩ := q
    cases rv with
    | cons r1 r2 =>
      cases r1
      cases r2
      exact ⟨n, rfl, by omega, by omega, fn G1 H1 _ _ k1 g1 iter_rng q⟩
def forW (dg : DG) (body : DS) (D : DEnds) : List PyData → Sto → Prop
  | [], ρ => D.nx ρ
  | d :: ds, ρ => dg d ρ fun ρ2 => body { D with nx := forW dg body D ds, ct := forW dg body D ds, bk := D.nx } ρ2
def dFor (di : DI) (dg : DG) (body : DS) : DS := fun D ρ => di ρ (fun ds => forW dg body D ds ρ) (D.xd ρ)
theorem up_for {K : PySem.W.Frag} {vs : List Nat} {di : DI} {dg : DG} {body : DS} (D : Ends) (σ : L2.St) (H : Hp) (h : upS K W (dFor di dg body) D σ H) : tFor (upI K W di) (upG K vs dg) (upS K W body) D σ H := by
  obtain ⟨G0, H0, G, ρ, Dd, k, h, nx, rt, bk, ct, ex⟩ := h
  refine ⟨G0, H0, G, ρ, _, Dd.xd ρ, k, h, fun G1 H1 J ds k1 g1 it q => ?_, xok_of ex⟩
  refine ⟨fun i m σ' H' => m = ds.length - i ∧ i ≤ ds.length ∧ ∃ G' ρ', Same G1 G' ∧ Ok K G0 H0 G' H' σ' ρ' ∧ forW dg body Dd (ds.drop i) ρ', ⟨ds.length, by omega, Nat.zero_le _, G1, ρ, Same.refl _, k1, q⟩, ?_⟩
  rintro i m σ' H' ⟨rfl, hi, G', ρ', gg, k', q'⟩
  obtain ⟨i1, i2, i3⟩ := it G' H' gg k'.gn i
  by_cases hlt : i < ds.length
  · refine .inr ⟨i1 hlt, fun σ2 H2 => ∃ G2 ρ2, Same G1 G2 ∧ Ok K G0 H0 G2 H2 σ2 ρ2 ∧ forW dg body Dd (ds.drop (i + 1)) ρ2, fun σ2 H2 ⟨G2, ρ2, a1, a2, a3⟩ => ⟨ds.length - (i + 1), by omega, rfl, by omega, G2, ρ2, a1, a2, a3⟩, fun x H2 hy => ?_⟩
    have hd : ds[i]? = some ds[i] := by simp [hlt]
    obtain ⟨G2, e1, e3, e5⟩ := i3 _ x H2 hd hy
    have k2 : Ok K G0 H0 G2 H2 σ' ρ' := k'.grow e1.gg e1.hh e3 e1.nw
    rw [List.drop_eq_getElem_cons hlt] at q'
    refine ⟨G0, H0, G2, ρ', ds[i], _, k2, e5, q', fun σ3 ρ3 k3 _ _ q3 => ?_⟩
    have nxt : ∀ G4 H4 σ4 ρ4, Ok K G2 H0 G4 H4 σ4 ρ4 → forW dg body Dd (ds.drop (i + 1)) ρ4 → ∃ G5 ρ5, Same G1 G5 ∧ Ok K G0 H0 G5 H4 σ4 ρ5 ∧ forW dg body Dd (ds.drop (i + 1)) ρ5 := fun G4 H4 σ4 ρ4 k4 q4 => ⟨G4, ρ4, (gg.trans e1.gg).trans k4.g0, k3.unbase k4, q4⟩
    exact ⟨G2, H0, G2, ρ3, _, k3.rebase, q3, nxt, fun s v H5 r q => rt s v H5 (RetOk.unbase k3 r) q, fun G4 H4 σ4 ρ4 k4 q4 => nx G4 H4 σ4 ρ4 (k3.unbase k4) q4, nxt, fun G4 H4 σ4 ρ4 x cls d k4 e4 q4 => ex G4 H4 σ4 ρ4 x cls d (k3.unbase k4) e4 q4⟩
  · have e : ds.drop i = [] := List.drop_eq_nil_of_le (by omega)
    rw [e] at q'
    exact .inl ⟨i2 (by omega), nx G' H' σ' ρ' k' q'⟩
theorem qs_for {iter : Expr} {body : List Stmt} {vs : List Nat} {di : DI} {dg : DG} {db : DS} {pos : Pos} (hp : PassesOwn (model X.prog X.w) X.A X.env X.xe) (hc : X.calm = true) (hi : QI X W tg iter di) (hg : QG X vs tg dg) (hb : QSs X W body db)
    (hs : ∀ x, foldedSetIterable iter X.env x = pure x := by intro _; rfl) : QS X W (.For tg iter body [] pos) (dFor di dg db) := PS.sub (ps_for hp hc hi hg hb hs) up_for
def dWhile (t : DT) (body : DS) : DS := fun D ρ => ∃ I : Nat → Sto → Prop, (∃ m, I m ρ) ∧ ∀ m ρ', I m ρ' → t ρ' (fun b => if b = true then body { D with nx := fun ρ2 => ∃ m', m' < m ∧ I m' ρ2, ct := fun ρ2 => ∃ m', m' < m ∧ I m' ρ2, bk := D.nx } ρ' else D.nx ρ') (D.xd ρ')
theorem qs_while {c : Expr} {body : List Stmt} {t : DT} {db : DS} {pos : Pos} (hp : PassesOwn (model X.prog X.w) X.A X.env X.xe) (hc : QT X W c t) (hb : QSs X W body db) : QS X W (.While c body [] pos) (dWhile t db) := PS.sub (ps_while hp hc hb) fun D σ H h => by
  obtain ⟨G0, H0, G, ρ, Dd, k, ⟨I, ⟨m0, i0⟩, turn⟩, nx, rt, bk, ct, ex⟩ := h
  refine ⟨fun m σ' H' => ∃ G' ρ', Ok X.K G0 H0 G' H' σ' ρ' ∧ I m ρ', ⟨m0, G, ρ, k, i0⟩, ?_⟩
  rintro m σ' H' ⟨G', ρ', k', im⟩
  refine ⟨G0, H0, G', ρ', _, Dd.xd ρ', k', turn m ρ' im, fun G1 H1 b k1 g1 q => ?_, xok_of ex⟩
  cases b with
  | true =>
    rw [if_pos rfl] at q ⊢
    refine ⟨fun σ2 H2 => ∃ G2 ρ2, Ok X.K G0 H0 G2 H2 σ2 ρ2 ∧ ∃ m', m' < m ∧ I m' ρ2, fun σ2 H2 ⟨G2, ρ2, k2, m', hm, i2⟩ => ⟨m', hm, G2, ρ2, k2, i2⟩, ?_⟩
    exact ⟨G0, H0, G1, ρ', _, k1, q, fun G4 H4 σ4 ρ4 k4 q4 => ⟨G4, ρ4, k4, q4⟩, rt, nx, fun G4 H4 σ4 ρ4 k4 q4 => ⟨G4, ρ4, k4, q4⟩, ex⟩
  | false =>
    rw [if_neg Bool.false_ne_true] at q ⊢
    exact nx G1 H1 σ' ρ' k1 q
def wipeD (ρ : Sto) : List Nat → Sto
  | [] => ρ
  | v :: vs => (wipeD ρ vs).set v .no
theorem ok_wipe {K : PySem.W.Frag} {G0 H0 G H : Hp} {σ : L2.St} {ρ : Sto} (k : Ok K G0 H0 G H σ ρ) : ∀ vs : List Nat, Ok K G0 H0 G H (wipe σ vs) (wipeD ρ vs)
  | [] => k
  | v :: vs => (ok_wipe k vs).setNo
theorem wipe_get : ∀ (vs : List Nat) {σ : L2.St} {i : Nat}, i ∉ vs → (wipe σ vs)[i]? = σ[i]?
  | [], _, _, _ => rfl
  | v :: vs, σ, i, h => by
    unfold wipe
    rw [getElem_set_eq, if_neg (fun z => h (by rw [z]; exact List.mem_cons_self)), wipe_get vs fun z => h (List.mem_cons_of_mem _ z)]
theorem wipe_in : ∀ (vs : List Nat) {σ : L2.St} {i : Nat}, i ∈ vs → (wipe σ vs)[i]? = if i < σ.length then some none else none
  | [], _, _, h => absurd h (by simp)
  | v :: vs, σ, i, h => by
    unfold wipe
    rw [getElem_set_eq]
    by_cases hv : v = i
    · rw [if_pos hv, wipe_length, hv]
    · rw [if_neg hv]
      exact wipe_in vs ((List.mem_cons.mp h).resolve_left fun z => hv z.symm)
theorem wipe_eq {σ σ' : L2.St} {vs ws : List Nat} (hl : σ'.length = σ.length) (h : ∀ i, i ∉ vs → σ'[i]? = σ[i]?) (hw : ∀ i ∈ vs, i ∈ ws) : wipe σ' ws = wipe σ ws := by
  apply List.ext_getElem?
  intro i
  by_cases hi : i ∈ ws
  · rw [wipe_in ws hi, wipe_in ws hi, hl]
  · rw [wipe_get ws hi, wipe_get ws hi]
    exact h i fun z => hi (hw i z)
theorem wipe_wipe {σ : L2.St} (vs : List Nat) : wipe (wipe σ vs) vs = wipe σ vs := by
  apply List.ext_getElem?
  intro i
  by_cases hi : i ∈ vs
  · rw [wipe_in vs hi, wipe_in vs hi, wipe_length]
  · rw [wipe_get vs hi]
def noX : XD := fun _ => False
def lcW (dg : DG) (dt : DT) (de : DE) (ρ : Sto) (Q : List PyData → Prop) : List PyData → List PyData → Prop
  | [], acc => Q acc
  | d :: ds, acc => dg d ρ fun ρ2 => dt ρ2 (fun b => if b = true then de ρ2 (fun x => acc.length < 100000 ∧ lcW dg dt de ρ Q ds (acc ++ [x])) noX else lcW dg dt de ρ Q ds acc) noX
def dLc (vs : List Nat) (di : DI) (dg : DG) (dt : DT) (de : DE) : DO := fun ρ Q X => di ρ (fun ds => lcW dg dt de (wipeD ρ vs) (fun out => Q (.lst out)) ds []) X
abbrev W0 (mg : Str → Option Value) : XW := (mg, fun _ _ _ _ => False)
theorem xok_no {K : PySem.W.Frag} {W : XW} {G0 H0 G H : Hp} {σ : L2.St} {ρ : Sto} : XOk K W G0 H0 G H σ ρ noX := fun _ _ _ _ _ _ _ _ z => z.elim
theorem up_lc {K : PySem.W.Frag} {mg : Str → Option Value} {vs ws : List Nat} {di : DI} {dg : DG} {dt : DT} {de : DE} (hv : ∀ i ∈ vs, i ∈ ws) (σ : L2.St) (H : Hp) (Q : VK) (h : upO K W (dLc ws di dg dt de) σ H Q) : tLc (upI K W di) (upG K vs dg) (upT K (W0 mg) dt) (upE K (W0 mg) de) ws σ H Q := by
  obtain ⟨G0, H0, G, ρ, Qd, Xd, k, h, fn, xo⟩ := h
  refine ⟨G0, H0, G, ρ, _, Xd, k, h, fun G1 H1 J ds k1 g1 it q => ?_, xo⟩
  intro Dl hD
  have kD : Ok K G0 H0 G1 (upd H1 Dl (.lst [])) σ ρ := k1.fresh hD
  -- the list at Dl grows; nothing else names it
  have hun : ∀ {G2 H2 : Hp}, Gr G1 H1 G2 H2 → ∀ (j : Nat) (u : OD), ρ[j]? = some (Slot.ow u) → σ[j]? ≠ some (some (V.ref Dl)) := fun {G2 H2} _ j u e z => by
    obtain ⟨a, ho, z1, z2, _⟩ := k1.ow j u e
    rw [z1] at z
    cases z
    rw [hD] at z2
    cases z2
  refine ⟨fun i m H' => m = ds.length - i ∧ i ≤ ds.length ∧ ∃ G' xs acc, Gr G1 H1 G' H' ∧ Ok K G0 H0 G' H' σ ρ ∧ H' Dl = some (.lst xs) ∧ G' Dl = none ∧ RpAll K G' xs acc ∧ lcW dg dt de (wipeD ρ ws) (fun out => Qd (.lst out)) (ds.drop i) acc,
    ⟨ds.length, by omega, Nat.zero_le _, G1, [], [], Gr.fresh hD, kD, upd_same, k1.gh.free hD, .nil, q⟩, ?_⟩
  rintro i m H' ⟨rfl, hi, G', xs, acc, gg, k', hl, hg, ra, q'⟩
  obtain ⟨i1, i2, i3⟩ := it G' H' gg.gg k'.gn i
  by_cases hlt : i < ds.length
  · refine .inr ⟨i1 hlt, fun H2 => ∃ G2 ys acc2, Gr G1 H1 G2 H2 ∧ Ok K G0 H0 G2 H2 σ ρ ∧ H2 Dl = some (.lst ys) ∧ G2 Dl = none ∧ RpAll K G2 ys acc2 ∧ lcW dg dt de (wipeD ρ ws) (fun out => Qd (.lst out)) (ds.drop (i + 1)) acc2,
      fun H2 ⟨G2, ys, acc2, a1, a3, a4, a5, a6, a7⟩ => ⟨ds.length - (i + 1), by omega, rfl, by omega, G2, ys, acc2, a1, a3, a4, a5, a6, a7⟩, fun x H2 hy => ?_⟩
    have hd : ds[i]? = some ds[i] := by simp [hlt]
    obtain ⟨G2, e1, e3, e5⟩ := i3 _ x H2 hd hy
    have k2 : Ok K G0 H0 G2 H2 σ ρ := k'.grow e1.gg e1.hh e3 e1.nw
    rw [List.drop_eq_getElem_cons hlt] at q'
    refine ⟨G0, H0, G2, wipeD ρ ws, ds[i], _, ok_wipe k2 ws, e5, q', fun σ3 ρ3 k3 l3 s3 q3 => ⟨?_, ?_⟩⟩
    · rw [wipe_eq (σ := wipe σ ws) l3 s3 hv, wipe_wipe]
    · refine ⟨G0, H0, G2, ρ3, _, noX, k3, q3, fun G3 H3 b k4 g3 q4 => ?_, xok_no⟩
      have kk : ∀ {G4 H4 : Hp}, Gr G2 H2 G4 H4 → Same G4 (nt H4) → Ok K G0 H0 G4 H4 σ ρ := fun {G4 H4} g gh => k2.grow g.gg g.hh gh g.nw
      cases b with
      | true =>
        dsimp only at q4 ⊢
        rw [if_pos rfl] at q4 ⊢
        refine ⟨G0, H0, G3, ρ3, _, noX, k4, q4, fun G4 H4 v d k5 g4 rv q5 => ?_, xok_no⟩
        have g34 := (g3.trans g4)
        have hl4 : H4 Dl = some (.lst xs) := g34.hh.at (e1.hh.at hl ntb_lst) ntb_lst
        have hg4 : G4 Dl = none := (e1.trans g34).out hg hl
        refine ⟨xs, hl4, sz_lt (by rw [rpa_length ra]; exact q5.1), G4, xs ++ [v], acc ++ [d], ?_, ?_, upd_same, hg4, rpa_append (rpa_mono (e1.trans g34).gg ra) (.cons rv .nil), q5.2⟩
        · have g := gg.trans (e1.trans g34)
          exact ⟨g.gg, ex_mut g.hh (nf_of hD) hl4, g.nw⟩
        · have k6 := kk g34 k5.gn
          refine ⟨by rw [nt_upd ntb_lst]; exact same_mut k6.gn hg4, k6.g0, ex_mut k6.h0 (k1.h0.free (nf_of hD)) hl4, tabs_mut k6.tb hl4 ntb_lst (fun _ z => by cases z), k6.nw, k6.len, k6.sh, fun j o ho => ?_, k6.ap, k6.rw, k6.tr, k6.bB⟩
          obtain ⟨a, ho', b1, b2, b3, b4, b5⟩ := k6.ow j o ho
          have ne : a ≠ Dl := fun z => hun (gg.trans (e1.trans g34)) j o ho (by rw [← z]; exact b1)
          exact ⟨a, ho', b1, by rw [upd_ne ne]; exact b2, b3, b4, b5⟩
      | false =>
        dsimp only at q4 ⊢
        rw [if_neg Bool.false_ne_true] at q4 ⊢
        exact ⟨G3, xs, acc, gg.trans (e1.trans g3), kk g3 k4.gn, g3.hh.at (e1.hh.at hl ntb_lst) ntb_lst, (e1.trans g3).out hg hl, rpa_mono (e1.trans g3).gg ra, q4⟩
  · have e : ds.drop i = [] := List.drop_eq_nil_of_le (by omega)
    rw [e] at q'
    exact .inl ⟨i2 (by omega), fn G' H' Dl (.lst xs) (.lst acc) k' (g1.trans gg) (g1.hh.free (nf_of hD)) hg hl ra q'⟩
def dYes : DT := fun _ Q _ => Q true
def QTs (X : Cx) (W : XW) (ifs : List Expr) (dt : DT) : Prop := PTs X ifs (upT X.K W dt)
theorem qts_nil : QTs X W [] dYes := PTs.sub pts_nil fun σ H Q h => by
  obtain ⟨G0, H0, G, ρ, Qd, Xd, k, h, fn, xo⟩ := h
  exact fn G H true k Gr.refl h
theorem qts_one {c : Expr} {dt : DT} (h : QT X W c dt) : QTs X W [c] dt := pts_one h
theorem qo_lc {elt iter : Expr} {ifs : List Expr} {scope : Scope} {own : List (Str × Nat)} {pos : Pos} {vs ws : List Nat} {di : DI} {dg : DG} {dt : DT} {de : DE} (hc : X.calm = true) (hN : X.N.Nodup) (hi : QI X W tg iter di) (ok : BlkOk X.N X.env.scope scope own)
    (hg : ∀ (s : Shared) (H : Hp) (C : Addr) (cl : List (Str × Addr)) (fp : List Addr), QG (X.blk s H scope (compEnvC scope cl C X.env) fp) vs tg dg) (ht : ∀ (s : Shared) (H : Hp) (C : Addr) (cl : List (Str × Addr)) (fp : List Addr), QTs (X.blk s H scope (compEnvC scope cl C X.env) fp) (W0 X.mg) ifs dt)
    (he : ∀ (s : Shared) (H : Hp) (C : Addr) (cl : List (Str × Addr)) (fp : List Addr), QE (X.blk s H scope (compEnvC scope cl C X.env) fp) (W0 X.mg) elt de) (hw : own.map (·.2) = ws := by rfl) (hv : ∀ i ∈ vs, i ∈ ws := by decide) (hs : ∀ x, foldedSetIterable iter X.env x = pure x := by intro _; rfl) :
    QO X W (.ListComp elt [⟨tg, iter, ifs, 0⟩] scope pos) (dLc ws di dg dt de) := by
  subst hw
  exact PE.sub (pe_lc (g := upG X.K vs dg) (tt := upT X.K (W0 X.mg) dt) (te := upE X.K (W0 X.mg) de) hc hN hi ok hg ht he hs) (up_lc hv)
theorem up_OE {K : PySem.W.Frag} {t : TE} {dd : DO} (ht : ∀ σ H Q, upO K W dd σ H Q → t σ H Q) (σ : L2.St) (H : Hp) (Q : VK) (h : upE K W (dOfO dd) σ H Q) : t σ H Q := by
  obtain ⟨G0, H0, G, ρ, Qd, Xd, k, h, fn, xo⟩ := h
  refine ht σ H Q ⟨G0, H0, G, ρ, _, Xd, k, h, fun G1 H1 p ho o k1 g1 n1 n2 n3 n4 hb => ?_, xo⟩
  obtain ⟨ds, rfl, q⟩ := hb
  cases ho with
  | lst xs =>
    refine fn (upd G1 p (.lst xs)) H1 (.ref p) (.list ds) (k1.freeze n3 n2 (k.h0.free n1) fun i u e z => ?_) ⟨g1.gg.trans (same_upd n2), g1.hh, fun a u e => by
      by_cases ha : a = p
      · subst ha; exact .inr (.inl n1)
      · rw [upd_ne ha] at e; exact g1.nw a u e⟩ (rp_lstNew n2 n4) q
    obtain ⟨a, ho', z1, z2, _, _, z5⟩ := k.ow i u e
    rw [z1] at z
    cases z
    exact nf_no z2 (hoOk_ntb z5) n1
  | _ => exact n4.elim
theorem qs_setLc {i : Nat} {y : Str} {py : Pos} {elt iter : Expr} {ifs : List Expr} {scope : Scope} {own : List (Str × Nat)} {pos spos : Pos} {vs ws : List Nat} {di : DI} {dg : DG} {dt : DT} {de : DE} (hc : X.calm = true) (hN : X.N.Nodup) (hsw : swapsWith (.ListComp elt [⟨tg, iter, ifs, 0⟩] scope pos) (some (.Name y py)) spos.line X.env = pure true)
    (hi : QI X W tg iter di) (ok : BlkOk X.N X.env.scope scope own)
    (hg : ∀ (s : Shared) (H : Hp) (C : Addr) (cl : List (Str × Addr)) (fp : List Addr), QG (X.blk s H scope (compEnvC scope cl C X.env) fp) vs tg dg) (ht : ∀ (s : Shared) (H : Hp) (C : Addr) (cl : List (Str × Addr)) (fp : List Addr), QTs (X.blk s H scope (compEnvC scope cl C X.env) fp) (W0 X.mg) ifs dt)
    (he : ∀ (s : Shared) (H : Hp) (C : Addr) (cl : List (Str × Addr)) (fp : List Addr), QE (X.blk s H scope (compEnvC scope cl C X.env) fp) (W0 X.mg) elt de) (hy : X.N[i]? = some y := by rfl) (hyl : X.env.scope.names.lookup y = some .local := by rfl) (hw : own.map (·.2) = ws := by rfl) (hv : ∀ i ∈ vs, i ∈ ws := by decide) (hs : ∀ x, foldedSetIterable iter X.env x = pure x := by intro _; rfl) :
    QS X W (.Assign [.Name y py] (.ListComp elt [⟨tg, iter, ifs, 0⟩] scope pos) spos) (dAsg i (dOfO (dLc ws di dg dt de))) := by
  subst hw
  exact PS.sub (ps_setLc (g := upG X.K vs dg) (tt := upT X.K (W0 X.mg) dt) (te := upE X.K (W0 X.mg) de) hc hN hy hyl hsw hi ok hg ht he hs) (up_asg (up_OE (up_lc hv)))
def PSp (K : PySem.W.Frag) (mg : Str → Option Value) (C : Ct) : Sp := fun vs H Q E => ∃ G ds R Xd, Same G (nt H) ∧ LamX.Tabs TabC.T H ∧ RpAll K G vs ds ∧ C ds R Xd ∧ (∀ s v H', RetOk K G H s v H' → R s → Q v H') ∧
  ∀ G' H' x cls d, Same G G' → Ex H H' → Same G' (nt H') → (∀ a o, G' a = some o → G a = some o ∨ NS H a) → ExcOk K mg G' H' x cls d → Xd x → E cls d H'
def dCall (C : Ct) (da : DA) : DE := fun ρ Q X => da ρ (fun ds => C ds (fun s => ∃ d, slotD s = some d ∧ Q d) X) X
theorem excOk_of {K : PySem.W.Frag} {mg : Str → Option Value} (hw : W.1 = mg) {G0 H0 G H : Hp} {σ : L2.St} {ρ : Sto} {Xd : XD} {G2 H2 : Hp} (k : Ok K G0 H0 G H σ ρ) (gg : Gr G2 H2 G H) (xo : XOk K W G0 H0 G2 H2 σ ρ Xd) : ∀ G' H' x cls d, Same G G' → Ex H H' → Same G' (nt H') → (∀ a o, G' a = some o → G a = some o ∨ NS H a) → ExcOk K mg G' H' x cls d → Xd x → WE W.2 σ cls d H' :=
  fun G' H' x cls d s1 s2 s3 s4 e z => xo G' H' x cls d (k.grow s1 s2 s3 s4) (gg.trans ⟨s1, s2, s4⟩) (by rw [hw]; exact e) z
section
variable {k : Nat} {f : Addr} {fd : FuncData} {ps : List Str} {C : Ct} {x : Str} {p pos : Pos} {e : Expr} {es : List Expr} {da : DA}
theorem qe_call (F : FnOk X.prog X.w X.K X.mg X.base (L2N.CX X.prog X.w) k f fd ps (PSp X.K X.mg C)) (hr : Room k X.A) (hm : X.mg x = some (.ref f)) (hk : PySem.W.keepIn X.K (.ref f) = true) (hb : L2.Binds X.K fd ps []) (tk : L2N.Takes X W.2) (hw : W.1 = X.mg) (ha : QA X W (e :: es) da) (hg : Gl X x := by rfl)
    (hdb : (x == ("__debug__" : Str)) = false := by decide) (he : starEach (e :: es) X.env = (false, eval e X.env) :: starEach es X.env := by rfl) (hpl : (backTo pos (starEach es X.env)).any (·.1) = false := by rfl) : QE X W (.Call (.Name x p) (e :: es) [] pos) (dCall C da) :=
  PE.sub (pe_callS F hr hg hm hk hb (fun σ => L2N.passAt tk σ) ha hdb he hpl) fun σ H Q h => by
  obtain ⟨G0, H0, G, ρ, Qd, Xd, k, h, fn, xo⟩ := h
  refine ⟨G0, H0, G, ρ, _, Xd, k, h, fun G1 H1 vs ds k1 g1 rv q => ?_, xo⟩
  refine ⟨G1, ds, _, Xd, k1.gn, k1.tb, rv, q, fun s v H' r q => ?_, excOk_of hw k1 g1 xo⟩
  obtain ⟨d, hd, q⟩ := q
  obtain ⟨G', k', g', rv'⟩ := RetOk.sh k1 r hd
  exact fn G' H' v d k' (g1.trans g') rv' q
end
def st0 (N : List Str) (ds : List PyData) : Sto := ds.map Slot.sh ++ List.replicate (N.length - ds.length) Slot.no
theorem ok_start {K : PySem.W.Frag} {G H : Hp} {N : List Str} {vs : List V} {ds : List PyData} (gh : Same G (nt H)) (tb : LamX.Tabs TabC.T H) (r : RpAll K G vs ds) (hB : Same ObjB.B (nt H)) : Ok K G H G H (L2.start N vs) (st0 N ds) := by
  have hl := rpa_length r
  have no : ∀ (i : Nat) (o : OD), (st0 N ds)[i]? ≠ some (Slot.ow o) := fun i o e => by
    unfold st0 at e
    rw [List.getElem?_append] at e
    split at e
    · rw [List.getElem?_map] at e
      cases q : ds[i]? with
      | none => rw [q] at e; cases e
      | some d => rw [q] at e; cases e
    · rw [List.getElem?_replicate] at e
      split at e <;> cases e
  have nr : ∀ (i : Nat) (v : V) (x : Option (Addr × List (Str × PyData))), (st0 N ds)[i]? ≠ some (Slot.raw v x) := fun i o x e => by
    unfold st0 at e
    rw [List.getElem?_append] at e
    split at e
    · rw [List.getElem?_map] at e
      cases q : ds[i]? with
      | none => rw [q] at e; cases e
      | some d => rw [q] at e; cases e
    · rw [List.getElem?_replicate] at e
      split at e <;> cases e
  have nt' : ∀ (i : Nat) (a : Addr) (t : ST), (st0 N ds)[i]? ≠ some (Slot.tr a t) := fun i a o e => by
    unfold st0 at e
    rw [List.getElem?_append] at e
    split at e
    · rw [List.getElem?_map] at e
      cases q : ds[i]? with
      | none => rw [q] at e; cases e
      | some d => rw [q] at e; cases e
    · rw [List.getElem?_replicate] at e
      split at e <;> cases e
  refine ⟨gh, Same.refl _, Ex.refl _, tb, fun a o e => .inl e, ?_, fun i d e => ?_, fun i o e => absurd e (no i o), fun i j o u a _ e => absurd e (no i o), fun i v x e => absurd e (nr i v x), fun i a t e => absurd e (nt' i a t), hB⟩
  · simp [L2.start, st0, hl]
  · unfold st0 at e
    rw [List.getElem?_append] at e
    split at e
    · rename_i hi
      rw [List.getElem?_map] at e
      cases q : ds[i]? with
      | none => rw [q] at e; cases e
      | some d' =>
        rw [q] at e
        cases e
        obtain ⟨v, e1, e2⟩ := rpa_get r q
        refine ⟨v, ?_, e2⟩
        unfold L2.start
        rw [List.getElem?_append_left (by rw [List.length_map, hl]; simpa using hi), List.getElem?_map, e1]
        rfl
    · rw [List.getElem?_replicate] at e
      split at e <;> cases e
end
section
variable {P : Program} {w : World} {K : PySem.W.Frag} {mg : Str → Option Value} {base : Heap}
abbrev WF (mg : Str → Option Value) (E : XK) : XW := (mg, fun cls d _ H => E cls d H)
omit [ObjB] in
theorem fn_ok {x qual : Str} {st : Stmt} {f : Addr} {fd : FuncData} {N ps : List Str} {k : Nat} {C : Ct} {db : DS} {dvs : List V} {kws : List (Str × V)} (F : FunD K x qual (defArgs st) (defBody st) (defScope st) dvs kws f fd) (S : FnScope N ps (defScope st)) (len : ∀ ds R Xd, C ds R Xd → ds.length = ps.length)
    (hbody : ∀ (cdv : Value) (A : Around) (outer : List Env) (s : Shared) (H : Hp) (E : XK), Room k (A.deeper (PyProof.Rows.envOfC qual (defScope st) s.heap.objs.size f cdv)) → @QSs _ objNil (cxOf (L2N.CX P w) P w K mg base N qual (defScope st) f cdv A outer s H E) (WF mg E) (defBody st) db)
    (h : ∀ ds R Xd, C ds R Xd → db { nx := fun _ => R (.sh .none), rt := R, ex := fun x _ => Xd x } (st0 N ds)) : FnOk P w K mg base (L2N.CX P w) (k + 1) f fd ps (PSp K mg C) := by
  letI : ObjB := objNil
  refine F.ok S (fun vs H Q E h => ?_) (fun cdv A outer s H vs Q E hr hsp => ⟨_, hbody cdv A outer s H E hr, ?_⟩)
  · obtain ⟨G, ds, R, Xd, _, _, r, c, _⟩ := h
    rw [rpa_length r]
    exact len _ _ _ c
  · obtain ⟨G, ds, R, Xd, gh, tb, r, c, rt, ex⟩ := hsp
    refine ⟨G, H, G, _, _, ok_start gh tb r sameNil, h ds R Xd c, fun G' H' σ' ρ' k' q => rt (.sh .none) _ _ (retSh k' .non) q, rt, fun _ _ _ _ _ z => z.elim, fun _ _ _ _ _ z => z.elim, fun G' H' σ' ρ' x cls d k' e q => ex G' H' x cls d k'.g0 k'.h0 k'.gn k'.nw e q⟩
end
end WH
namespace WH
open PySem PySem.Spec L2
variable [TabC] [ObjB]
section
variable {X : Cx} {W : XW} {x : Str} {p pos : Pos} {e : Expr} {es : List Expr}
def dCB (f : List PyData → (PyData → Prop) → Prop) (da : DA) : DE := fun ρ Q X => da ρ (fun ds => f ds Q) X
def dCBC (f : Bool → List PyData → (PyData → Prop) → Prop) (dc : DC) : DE := fun ρ Q X => dc ρ (fun b ds => f b ds Q) X
def dCBO (f : Bool → List PyData → (OD → Prop) → Prop) (dc : DC) : DO := fun ρ Q X => dc ρ (fun b ds => f b ds Q) X
theorem up_cb {K : PySem.W.Frag} {r : List V → Hp → VK → Prop} {f : List PyData → (PyData → Prop) → Prop} {da : DA} (hr : RAE K r f) (σ : L2.St) (H : Hp) (Q : VK) (h : upE K W (dCB f da) σ H Q) : tCB r (upA K W da) σ H Q := by
  obtain ⟨G0, H0, G, ρ, Qd, Xd, k, h, fn, xo⟩ := h
  refine ⟨G0, H0, G, ρ, _, Xd, k, h, fun G1 H1 xs ds k1 g1 rx hb => ?_, xo⟩
  exact hr G0 H0 G1 H1 σ ρ xs ds Qd Q k1 rx hb fun G2 H2 v d k2 g2 rv q => fn G2 H2 v d k2 (g1.trans g2) rv q
theorem up_cbc {K : PySem.W.Frag} {r : List V → Hp → VK → Prop} {f : Bool → List PyData → (PyData → Prop) → Prop} {dc : DC} (hr : RCE K r f) (σ : L2.St) (H : Hp) (Q : VK) (h : upE K W (dCBC f dc) σ H Q) : tCB r (tCons (upC K W dc) tNil) σ H Q := by
  obtain ⟨G0, H0, G, ρ, Qd, Xd, k, h, fn, xo⟩ := h
  refine ⟨G0, H0, G, ρ, _, Xd, k, h, fun G1 H1 a xs b ds k1 g1 sq rx hb => ?_, xo⟩
  exact hr G0 H0 G1 H1 σ ρ a xs b ds Qd Q k1 sq rx hb fun G2 H2 v d k2 g2 rv q => fn G2 H2 v d k2 (g1.trans g2) rv q
theorem up_cbo {K : PySem.W.Frag} {r : List V → Hp → VK → Prop} {f : Bool → List PyData → (OD → Prop) → Prop} {dc : DC} (hr : RCO K r f) (σ : L2.St) (H : Hp) (Q : VK) (h : upO K W (dCBO f dc) σ H Q) : tCB r (tCons (upC K W dc) tNil) σ H Q := by
  obtain ⟨G0, H0, G, ρ, Qd, Xd, k, h, fn, xo⟩ := h
  refine ⟨G0, H0, G, ρ, _, Xd, k, h, fun G1 H1 a xs b ds k1 g1 sq rx hb => ?_, xo⟩
  exact hr G0 H0 G1 H1 σ ρ a xs b ds Qd Q k1 sq rx hb fun G2 H2 p ho o k2 g2 n1 n2 n3 n4 q => fn G2 H2 p ho o k2 (g1.trans g2) (g1.hh.free n1) n2 n3 n4 q
theorem qe_callB {id : String} {r : List V → Hp → VK → Prop} {f : List PyData → (PyData → Prop) → Prop} {da : DA} (hr : RAE X.K r f) (hc : CallR X (.builtin id) r) (hm : X.mg x = none) (hv : bootBuiltins x = some (.builtin id)) (ha : QA X W (e :: es) da) (hg : Gl X x := by rfl) (hn : x ≠ "__name__" := by decide) (hdb : (x == ("__debug__" : Str)) = false := by decide)
    (he : starEach (e :: es) X.env = (false, eval e X.env) :: starEach es X.env := by rfl) (hpl : (backTo pos (starEach es X.env)).any (·.1) = false := by rfl) : QE X W (.Call (.Name x p) (e :: es) [] pos) (dCB f da) := PE.sub (pe_callB hc hg hm hv ha hn hdb he hpl) (up_cb hr)
theorem qe_callBC {id : String} {r : List V → Hp → VK → Prop} {f : Bool → List PyData → (PyData → Prop) → Prop} {dc : DC} (hr : RCE X.K r f) (hc : CallR X (.builtin id) r) (hm : X.mg x = none) (hv : bootBuiltins x = some (.builtin id)) (ha : QC X W e dc) (hg : Gl X x := by rfl) (hn : x ≠ "__name__" := by decide) (hdb : (x == ("__debug__" : Str)) = false := by decide)
    (he : starEach [e] X.env = (false, eval e X.env) :: starEach [] X.env := by rfl) (hpl : (backTo pos (starEach [] X.env)).any (·.1) = false := by rfl) : QE X W (.Call (.Name x p) [e] [] pos) (dCBC f dc) := PE.sub (pe_callB hc hg hm hv (pa_cons ha pa_nil he) hn hdb he hpl) (up_cbc hr)
theorem qe_callTC {T : String} {r : List V → Hp → VK → Prop} {f : Bool → List PyData → (PyData → Prop) → Prop} {dc : DC} (hr : RCE X.K r f) (hc : CallR X (.type T) r) (hm : X.mg x = none) (hv : bootBuiltins x = some (.type T)) (ha : QC X W e dc) (hg : Gl X x := by rfl) (hn : x ≠ "__name__" := by decide) (hdb : (x == ("__debug__" : Str)) = false := by decide)
    (he : starEach [e] X.env = (false, eval e X.env) :: starEach [] X.env := by rfl) (hpl : (backTo pos (starEach [] X.env)).any (·.1) = false := by rfl) : QE X W (.Call (.Name x p) [e] [] pos) (dCBC f dc) := PE.sub (pe_callTy hc hg hm hv (pa_cons ha pa_nil he) hn hdb he hpl) (up_cbc hr)
theorem qo_callTC {T : String} {r : List V → Hp → VK → Prop} {f : Bool → List PyData → (OD → Prop) → Prop} {dc : DC} (hr : RCO X.K r f) (hc : CallR X (.type T) r) (hm : X.mg x = none) (hv : bootBuiltins x = some (.type T)) (ha : QC X W e dc) (hg : Gl X x := by rfl) (hn : x ≠ "__name__" := by decide) (hdb : (x == ("__debug__" : Str)) = false := by decide)
    (he : starEach [e] X.env = (false, eval e X.env) :: starEach [] X.env := by rfl) (hpl : (backTo pos (starEach [] X.env)).any (·.1) = false := by rfl) : QO X W (.Call (.Name x p) [e] [] pos) (dCBO f dc) := PE.sub (pe_callTy hc hg hm hv (pa_cons ha pa_nil he) hn hdb he hpl) (up_cbo hr)
def lenD : List PyData → (PyData → Prop) → Prop
  | [.str s], Q => s.length ≤ 100000 ∧ Q (.int s.length)
  | [.list xs], Q => Q (.int xs.length)
  | [.tuple xs], Q => Q (.int xs.length)
  | _, _ => False
theorem len_E {K : PySem.W.Frag} : RAE K (fun xs H Q => ∃ x n, xs = [x] ∧ LenV K x H n ∧ Q (.int n) H) lenD := by
  intro G0 H0 G H σ ρ xs ds Qd Q k rx hf fn
  cases rx with
  | nil => exact hf.elim
  | cons r t =>
    cases t with
    | cons r2 t2 => cases r <;> exact hf.elim
    | nil =>
      cases r with
      | str s => exact ⟨_, _, rfl, ⟨sz_of hf.1, rfl⟩, fn G H _ _ k Gr.refl (.int _) hf.2⟩
      | lst h1 h2 => exact ⟨_, _, rfl, .inl ⟨_, SqL.of (k.gh _ _ h1), rfl⟩, fn G H _ _ k Gr.refl (.int _) (by rw [rpa_length h2]; exact hf)⟩
      | tup h1 h2 => exact ⟨_, _, rfl, .inr ⟨_, sqT_mono k.gh h1.t, rfl⟩, fn G H _ _ k Gr.refl (.int _) (by rw [rpa_length h2]; exact hf)⟩
      | _ => exact hf.elim
theorem qe_len {de : DE} (hm : X.mg "len" = none) (ha : QE X W e de) (hg : Gl X "len" := by rfl) (he : starEach [e] X.env = (false, eval e X.env) :: starEach [] X.env := by rfl) : QE X W (.Call (.Name "len" p) [e] [] pos) (dCB lenD (dCons de dNil)) := qe_callB len_E call_len hm boot_len (qa_cons ha qa_nil he) hg (he := he)
def lenC (_ : Bool) (ds : List PyData) (Q : PyData → Prop) : Prop := Q (.int ds.length)
theorem lenC_E {K : PySem.W.Frag} : RCE K (fun xs H Q => ∃ p ys, xs = [.ref p] ∧ (SqL K H p ys ∨ SqT K H p ys) ∧ Q (.int ys.length) H) lenC := by
  intro G0 H0 G H σ ρ a xs b ds Qd Q k sq rx hf fn
  exact ⟨a, xs, rfl, sq.any k.gh, fn G H _ _ k Gr.refl (.int _) (by rw [rpa_length rx]; exact hf)⟩
theorem qe_lenC {dc : DC} (hm : X.mg "len" = none) (ha : QC X W e dc) (hg : Gl X "len" := by rfl) (he : starEach [e] X.env = (false, eval e X.env) :: starEach [] X.env := by rfl) : QE X W (.Call (.Name "len" p) [e] [] pos) (dCBC lenC dc) := qe_callBC lenC_E call_len_seq hm boot_len ha hg (he := he)
def tupC (_ : Bool) (ds : List PyData) (Q : PyData → Prop) : Prop := Q (.tuple ds)
theorem tupC_E {K : PySem.W.Frag} : RCE K (rTupN K) tupC := by
  intro G0 H0 G H σ ρ a xs b ds Qd Q k sq rx hf fn
  refine ⟨a, xs, rfl, ?_⟩
  cases b with
  | false => exact .inl ⟨SqL.of sq, fin_tup k fn rx hf⟩
  | true => exact .inr ⟨sqT_mono k.gh (SqN.t sq), fn G H _ _ k Gr.refl (.tup sq rx) hf⟩
theorem qe_tuple {dc : DC} (hm : X.mg "tuple" = none) (ha : QC X W e dc) (hg : Gl X "tuple" := by rfl) (he : starEach [e] X.env = (false, eval e X.env) :: starEach [] X.env := by rfl) : QE X W (.Call (.Name "tuple" p) [e] [] pos) (dCBC tupC dc) := qe_callTC tupC_E call_tupN hm (by decide +kernel) ha hg (he := he)
def lstC (_ : Bool) (ds : List PyData) (Q : OD → Prop) : Prop := Q (.lst ds)
theorem lstC_E {K : PySem.W.Frag} : RCO K (fun xs H Q => ∃ p ys, xs = [.ref p] ∧ (SqL K H p ys ∨ SqT K H p ys) ∧ ∀ l, H l = none → Q (.ref l) (upd H l (.lst ys))) lstC := by
  intro G0 H0 G H σ ρ a xs b ds Qd Q k sq rx hf fn
  exact ⟨a, xs, rfl, sq.any k.gh, fin_own (o := .lst ds) k fn rx hf⟩
theorem qo_list {dc : DC} (hm : X.mg "list" = none) (ha : QC X W e dc) (hg : Gl X "list" := by rfl) (he : starEach [e] X.env = (false, eval e X.env) :: starEach [] X.env := by rfl) : QO X W (.Call (.Name "list" p) [e] [] pos) (dCBO lstC dc) := qo_callTC lstC_E call_list_of hm (by decide +kernel) ha hg (he := he)
def allC (b : Bool) (ds : List PyData) (Q : PyData → Prop) : Prop := ∃ bs : List Bool, b = false ∧ ds = bs.map .bool ∧ Q (.bool (bs.all id))
def anyC (b : Bool) (ds : List PyData) (Q : PyData → Prop) : Prop := ∃ bs : List Bool, b = false ∧ ds = bs.map .bool ∧ Q (.bool (bs.any id))
theorem allC_E {K : PySem.W.Frag} : RCE K (rAll K) allC := by
  intro G0 H0 G H σ ρ a xs b ds Qd Q k sq rx hf fn
  obtain ⟨bs, rfl, rfl, q⟩ := hf
  have e := rpa_ofBools rx
  subst e
  exact ⟨a, bs, rfl, SqL.of sq, fn G H _ _ k Gr.refl (.bl _) q⟩
theorem anyC_E {K : PySem.W.Frag} : RCE K (rAny K) anyC := by
  intro G0 H0 G H σ ρ a xs b ds Qd Q k sq rx hf fn
  obtain ⟨bs, rfl, rfl, q⟩ := hf
  have e := rpa_ofBools rx
  subst e
  exact ⟨a, bs, rfl, SqL.of sq, fn G H _ _ k Gr.refl (.bl _) q⟩
theorem qe_all {dc : DC} (hc : X.calm = true) (hm : X.mg "all" = none) (ha : QC X W e dc) (hg : Gl X "all" := by rfl) (he : starEach [e] X.env = (false, eval e X.env) :: starEach [] X.env := by rfl) : QE X W (.Call (.Name "all" p) [e] [] pos) (dCBC allC dc) := qe_callBC allC_E (cr_all hc) hm (by decide +kernel) ha hg (he := he)
theorem qe_any {dc : DC} (hc : X.calm = true) (hm : X.mg "any" = none) (ha : QC X W e dc) (hg : Gl X "any" := by rfl) (he : starEach [e] X.env = (false, eval e X.env) :: starEach [] X.env := by rfl) : QE X W (.Call (.Name "any" p) [e] [] pos) (dCBC anyC dc) := qe_callBC anyC_E (cr_any hc) hm (by decide +kernel) ha hg (he := he)
def tyN : PyData → String
  | .none => "NoneType"
  | .bool _ => "bool"
  | .int _ => "int"
  | .str _ => "str"
  | .list _ => "list"
  | .tuple _ => "tuple"
  | .dict _ => "dict"
def isT (T : String) (d : PyData) : Bool := tyN d == T || (tyN d == "bool" && T == "int")
def plainT (T : String) : Bool := ["int", "bool", "str", "list", "tuple"].contains T
theorem kit_isT {K : PySem.W.Frag} {T : String} {d : PyData} (h : plainT T = true) : PySem.W.kitOne K (.type (tyN d)) (.type T) = some (isT T d) := by
  have h' : T = "int" ∨ T = "bool" ∨ T = "str" ∨ T = "list" ∨ T = "tuple" := by simpa [plainT] using h
  rcases h' with rfl | rfl | rfl | rfl | rfl <;> cases d <;> exact kit_ty (by simp only [tyN, isT]; decide +kernel)
theorem rp_ty {K : PySem.W.Frag} {G H : Hp} {v : V} {d : PyData} (gh : Same G H) (r : Rp K G v d) (nd : ∀ kvs, d ≠ .dict kvs) : TyX K H v (.type (tyN d)) := by
  cases r with
  | non => exact .base .non
  | bl b => exact .base (.bl b)
  | int i => exact .base (.int i)
  | str s => exact .base (.str s)
  | lst h1 _ => exact .base (.lst (gh _ _ h1))
  | tup h1 _ =>
    rcases h1.t with (h1 | ⟨o, h1⟩) | ⟨o, its, n, h1, h2, _⟩
    · exact .base (.tup (gh _ _ h1))
    · exact .fTuple (gh _ _ h1)
    · exact .kTuple h1 h2
  | tpw h1 _ => exact absurd rfl (nd _)
  | dnk h1 _ => exact absurd rfl (nd _)
  | dik h1 _ => exact absurd rfl (nd _)
  | dit h1 _ => exact absurd rfl (nd _)
  | scr h1 => exact absurd rfl (nd _)
def isD1 : PyData → Bool
  | .dict _ => false
  | _ => true
def dIsi (T : String) (de : DE) : DE := fun ρ Q X => de ρ (fun d => isD1 d = true ∧ Q (.bool (isT T d))) X
theorem nd_of {d : PyData} (h : isD1 d = true) : ∀ kvs, d ≠ .dict kvs := fun kvs e => by subst e; cases h
theorem qe_isi {T : String} {t : Str} {pt : Pos} {de : DE} (hp : plainT T = true) (hm : X.mg "isinstance" = none) (hmt : X.mg t = none) (hv : bootBuiltins t = some (.type T)) (ha : QE X W e de) (hg : Gl X "isinstance" := by rfl) (hgt : Gl X t := by rfl) (hnt : t ≠ "__name__" := by decide) (hdt : (t == ("__debug__" : Str)) = false := by decide)
    (he : starEach [e, .Name t pt] X.env = (false, eval e X.env) :: starEach [.Name t pt] X.env := by rfl) (he2 : starEach [.Name t pt] X.env = (false, eval (.Name t pt) X.env) :: starEach [] X.env := by rfl) (hpl : (backTo pos (starEach [.Name t pt] X.env)).any (·.1) = false := by rfl) :
    QE X W (.Call (.Name "isinstance" p) [e, .Name t pt] [] pos) (dIsi T de) :=
  PE.sub (pe_callB call_isi hg hm (by decide +kernel) (pa_cons ha (pa_cons (pe_bltn (v := .ty T) hgt hmt hv rfl hnt hdt) pa_nil he2) he) (by decide) (by decide) he hpl) fun σ H Q h => by
  obtain ⟨G0, H0, G, ρ, Qd, Xd, k, h, fn, xo⟩ := h
  refine ⟨G0, H0, G, ρ, _, Xd, k, h, fun G1 H1 v d k1 g1 rv q => ?_, xo⟩
  exact ⟨v, .ty T, _, _, _, rfl, .ty T, rp_ty k1.gh rv (nd_of q.1), kit_isT hp, fn G1 H1 _ _ k1 g1 (.bl _) q.2⟩
def dIsi2 (T U : String) (de : DE) : DE := fun ρ Q X => de ρ (fun d => isD1 d = true ∧ Q (.bool (isT T d || isT U d))) X
theorem qe_isi2 {T U : String} {t u : Str} {pt pu ptt : Pos} {kk : Nat} {de : DE} (hp : plainT T = true) (hq : plainT U = true) (hm : X.mg "isinstance" = none) (hmt : X.mg t = none) (hv : bootBuiltins t = some (.type T)) (hmu : X.mg u = none) (hvu : bootBuiltins u = some (.type U)) (ha : QE X W e de) (hg : Gl X "isinstance" := by rfl)
    (hgt : Gl X t := by rfl) (hnt : t ≠ "__name__" := by decide) (hdt : (t == ("__debug__" : Str)) = false := by decide) (hgu : Gl X u := by rfl) (hnu : u ≠ "__name__" := by decide) (hdu : (u == ("__debug__" : Str)) = false := by decide)
    (he3 : starEach [.Name t pt, .Name u pu] X.env = (false, eval (.Name t pt) X.env) :: starEach [.Name u pu] X.env := by rfl) (he4 : starEach [.Name u pu] X.env = (false, eval (.Name u pu) X.env) :: starEach [] X.env := by rfl)
    (he : starEach [e, .Tuple [.Name t pt, .Name u pu] kk ptt] X.env = (false, eval e X.env) :: starEach [.Tuple [.Name t pt, .Name u pu] kk ptt] X.env := by rfl) (he2 : starEach [.Tuple [.Name t pt, .Name u pu] kk ptt] X.env = (false, eval (.Tuple [.Name t pt, .Name u pu] kk ptt) X.env) :: starEach [] X.env := by rfl) (hpl : (backTo pos (starEach [.Tuple [.Name t pt, .Name u pu] kk ptt] X.env)).any (·.1) = false := by rfl) :
    QE X W (.Call (.Name "isinstance" p) [e, .Tuple [.Name t pt, .Name u pu] kk ptt] [] pos) (dIsi2 T U de) :=
  PE.sub (pe_callB call_isiT hg hm (by decide +kernel) (pa_cons ha (pa_cons (pe_tup (pa_cons (pe_bltn (v := .ty T) hgt hmt hv rfl hnt hdt) (pa_cons (pe_bltn (v := .ty U) hgu hmu hvu rfl hnu hdu) pa_nil he4) he3)) pa_nil he2) he) (by decide) (by decide) he hpl) fun σ H Q h => by
  obtain ⟨G0, H0, G, ρ, Qd, Xd, k, h, fn, xo⟩ := h
  refine ⟨G0, H0, G, ρ, _, Xd, k, h, fun G1 H1 v d k1 g1 rv q => ?_, xo⟩
  refine ⟨(by show 2 ≤ sizeLine; decide), fun tp htp => ?_⟩
  refine ⟨v, tp, _, _, [.type T, .type U], isT T d || isT U d, rfl, upd_same, .cons (.ty T) (.cons (.ty U) .nil), rp_ty (same_mut k1.gh (k1.gh.free htp)) rv (nd_of q.1), ?_, fn G1 _ _ _ (k1.fresh htp) (g1.trans (Gr.fresh htp)) (.bl _) q.2⟩
  refine kitAny_cons (kit_isT hp) (fun hb => kitAny_cons (kit_isT hq) (fun hc => ?_) (fun hc => ?_)) (fun hb => ?_)
  · rw [hb, hc]; rfl
  · rw [hb, hc]; rfl
  · rw [hb]; rfl
def scrD (ns : List Int) : PyData := .dict [(.none, .list (ns.map PyData.int))]
theorem map_int_inj : ∀ {ns ms : List Int}, ns.map PyData.int = ms.map PyData.int → ns = ms
  | [], [], _ => rfl
  | [], _ :: _, h => by simp at h
  | _ :: _, [], h => by simp at h
  | n :: ns, m :: ms, h => by
    simp only [List.map_cons, List.cons.injEq, PyData.int.injEq] at h
    rw [h.1, map_int_inj h.2]
theorem rp_scr {K : PySem.W.Frag} {G : Hp} {v : V} {d : PyData} {ns : List Int} (h : Rp K G v d) (e : d = scrD ns) : ∃ a, v = .ref a ∧ SqL K G a (ns.map V.int) := by
  unfold scrD at e
  cases h with
  | dik a b =>
    injection e with e
    cases b with
    | nil => cases e
    | @cons kk _ _ _ _ c t =>
      injection e with e1 e2
      injection e1 with e3 e4
      cases kk <;> cases e3
  | dit a b =>
    injection e with e
    cases b with
    | nil => cases e
    | cons c t =>
      injection e with e1 e2
      injection e1 with e3 e4
      cases e3
  | scr hq =>
    injection e with e
    injection e with e1 e2
    injection e1 with e3 e4
    injection e4 with e5
    have := map_int_inj e5
    subst this
    exact ⟨_, rfl, hq⟩
  | _ => cases e
def dScr (i : Nat) : DE := fun ρ Q _ => ∃ ns : List Int, ρ[i]? = some (Slot.sh (scrD ns)) ∧ ns.length ≤ 63 ∧ Q (.list (ns.map .int))
theorem cut63 {xs : List V} (h : xs.length ≤ 63) : cutV xs none (some 63) = xs := by
  have e1 : HT.sIx xs.length 0 none = 0 := rfl
  have e2 : HT.sIx xs.length xs.length (some 63) = xs.length := by
    unfold HT.sIx
    simp
    omega
  unfold cutV
  rw [e1, e2, List.drop_zero, Nat.sub_zero, List.take_length]
theorem qe_scr (i : Nat) {y : Str} {p1 p2 : Pos} {j : Nat} (hN : X.N[i]? = some y := by rfl) (hv : Vis X.env.scope y := by first | exact Or.inl rfl | exact Or.inr (Or.inl rfl) | exact Or.inr (Or.inr rfl)) (hd : (y == ("__debug__" : Str)) = false := by decide) (hcd : (y == ("__classdict__" : Str)) = false := by decide) :
    QE X W (.Subscript (.Name y p1) (.Slice none (some (.Constant (.int 63) j p)) none p2) pos) (dScr i) := PE.sub (pe_slice sl_list (pe_var hN hv hd hcd) po_none (po_some pe_int)) fun σ H Q h => by
  obtain ⟨G0, H0, G, ρ, Qd, Xd, k, ⟨ns, hi, hl, h⟩, fn, xo⟩ := h
  obtain ⟨v, h1, h2⟩ := k.sh i _ hi
  obtain ⟨a, rfl, hq⟩ := rp_scr h2 rfl
  refine ⟨_, h1, 63, rfl, a, _, rfl, sqL_mono k.gh hq, ?_⟩
  rw [cut63 (by rw [List.length_map]; exact hl)]
  exact fin_lst k fn (rpa_ints ns) h
end
end WH
namespace WH
open PySem PySem.Spec L2
variable [TabC] [ObjB]
section
variable {K : PySem.W.Frag} {G0 H0 G H : Hp} {σ : L2.St} {ρ : Sto} {Dl : Addr} {xs ys : List V}
theorem ok_mutL (k : Ok K G0 H0 G H σ ρ) (hl : H Dl = some (.lst xs)) (hg : G Dl = none) (n0 : NF H0 Dl) (hun : ∀ (j : Nat) (u : OD), ρ[j]? = some (Slot.ow u) → σ[j]? ≠ some (some (V.ref Dl))) : Ok K G0 H0 G (upd H Dl (.lst ys)) σ ρ := by
  refine ⟨by rw [nt_upd ntb_lst]; exact same_mut k.gn hg, k.g0, ex_mut k.h0 n0 hl, tabs_mut k.tb hl ntb_lst (fun _ z => by cases z), k.nw, k.len, k.sh, fun j o ho => ?_, k.ap, k.rw, k.tr, k.bB⟩
  obtain ⟨a, ho', b1, b2, b3, b4, b5⟩ := k.ow j o ho
  have ne : a ≠ Dl := fun z => hun j o ho (by rw [← z]; exact b1)
  exact ⟨a, ho', b1, by rw [upd_ne ne]; exact b2, b3, b4, b5⟩
end
variable {W : XW}
variable {X : Cx} {tg tg1 : Expr}
end WH
namespace WH
open PySem PySem.Spec L2
variable [TabC] [ObjB]
structure Bt (mg : Str → Option Value) : Prop where
  len_ : mg "len" = none
  range_ : mg "range" = none
  tuple_ : mg "tuple" = none
  list_ : mg "list" = none
  all_ : mg "all" = none
  any_ : mg "any" = none
  isinstance_ : mg "isinstance" = none
  int_ : mg "int" = none
  bool_ : mg "bool" = none
  str_ : mg "str" = none
  sorted_ : mg "sorted" = none
  enumerate_ : mg "enumerate" = none
  zip_ : mg "zip" = none
  max_ : mg "max" = none
  min_ : mg "min" = none
  set_ : mg "set" = none
  dict_ : mg "dict" = none
  sum_ : mg "sum" = none
  repr_ : mg "repr" = none
def GI (mg : Str → Option Value) (x : Str) (i : Int) : Prop := ∃ t, mg x = some (.int i t)
section
variable {X : Cx} {W : XW}
theorem qe_gi {x : Str} {i : Int} {pos : Pos} (h : GI X.mg x i) (hg : Gl X x := by rfl) (hd : (x == ("__debug__" : Str)) = false := by decide) : QE X W (.Name x pos) (dC (.int i)) := by
  obtain ⟨t, h⟩ := h
  exact qe_globI hg h hd
end
def FnP (K : PySem.W.Frag) (mg : Str → Option Value) (x : Str) (st : Stmt) : Prop := ∃ f fd, FunD K x x (defArgs st) (defBody st) (defScope st) [] [] f fd ∧ mg x = some (.ref f)
def Cl (P : Program) (w : World) (K : PySem.W.Frag) (mg : Str → Option Value) (base : Heap) (x : Str) (k : Nat) (C : Ct) : Prop :=
  ∃ ps f fd, mg x = some (.ref f) ∧ PySem.W.keepIn K (.ref f) = true ∧ L2.Binds K fd ps [] ∧ FnOk P w K mg base (L2N.CX P w) k f fd ps (PSp K mg C)
theorem cl_false {P : Program} {w : World} {K : PySem.W.Frag} {mg : Str → Option Value} {base : Heap} {x : Str} {k : Nat} {C : Ct} {st : Stmt} (ps : List Str) (F : FnP K mg x st) (hb : ∀ (kV doc pm : Value) (an : Option Addr) (cdv ct : Value) (us : List Value), us.length = ps.length → bindArgs (PySem.W.fnOf x x (defArgs st) (defBody st) (defScope st) .none kV doc pm an cdv ct) ⟨us, []⟩ = pure (ps.zip us)) (h : ∀ ds R X, C ds R X → False) : Cl P w K mg base x k C := by
  obtain ⟨f, fd, F, gm⟩ := F
  exact ⟨ps, f, fd, gm, F.kp, F.bindsN hb, ⟨fun vs H Q E ⟨G, ds, R, Xd, _, _, _, c, _⟩ => (h _ _ _ c).elim, fun A outer s H args us vs Q E _ _ _ _ ⟨G, ds, R, Xd, _, _, _, c, _⟩ => (h _ _ _ c).elim⟩⟩
section
variable {X : Cx} {W : XW} {k j : Nat} {C : Ct} {x : Str} {p pos : Pos} {e : Expr} {es : List Expr} {da : DA}
theorem qe_cl (c : Cl X.prog X.w X.K X.mg X.base x j C) (hr : Room k X.A) (hj : j ≤ k) (tk : L2N.Takes X W.2) (hw : W.1 = X.mg) (ha : QA X W (e :: es) da) (hg : Gl X x := by rfl)
    (hdb : (x == ("__debug__" : Str)) = false := by decide) (he : starEach (e :: es) X.env = (false, eval e X.env) :: starEach es X.env := by rfl) (hpl : (backTo pos (starEach es X.env)).any (·.1) = false := by rfl) : QE X W (.Call (.Name x p) (e :: es) [] pos) (dCall C da) := by
  obtain ⟨ps, f, fd, c1, c2, c3, c4⟩ := c
  exact qe_call c4 (hr.mono hj) c1 c2 c3 tk hw ha hg hdb he hpl
end
end WH
namespace WH
open PySem PySem.Spec L2
@[simp] theorem s_dVar (i : Nat) (ρ : Sto) (Q : PyData → Prop) (u2 : XD) : dVar i ρ Q u2 ↔ (∃ d, ρ[i]? = some (Slot.sh d) ∧ Q d) := Iff.rfl
@[simp] theorem s_dC (d : PyData) (u0 : Sto) (Q : PyData → Prop) (u2 : XD) : dC d u0 Q u2 ↔ (Q d) := Iff.rfl
@[simp] theorem s_dVarC (i : Nat) (ρ : Sto) (Q : Bool → List PyData → Prop) (u2 : XD) : dVarC i ρ Q u2 ↔ ((∃ b ds, ρ[i]? = some (Slot.sh (dat b ds)) ∧ Q b ds) ∨ ∃ ds, ρ[i]? = some (Slot.ow (.lst ds)) ∧ Q false ds) := Iff.rfl
@[simp] theorem s_dTst (de : DE) (ρ : Sto) (Q : Bool → Prop) (X : XD) : dTst de ρ Q X ↔ (de ρ (fun d => asB d Q) X) := Iff.rfl
@[simp] theorem s_dAnd (d e : DT) (ρ : Sto) (Q : Bool → Prop) (X : XD) : dAnd d e ρ Q X ↔ (d ρ (fun b => if b = true then e ρ Q X else Q false) X) := Iff.rfl
@[simp] theorem s_dOr (d e : DT) (ρ : Sto) (Q : Bool → Prop) (X : XD) : dOr d e ρ Q X ↔ (d ρ (fun b => if b = true then Q true else e ρ Q X) X) := Iff.rfl
@[simp] theorem s_dNot (d : DT) (ρ : Sto) (Q : Bool → Prop) (X : XD) : dNot d ρ Q X ↔ (d ρ (fun b => Q (!b)) X) := Iff.rfl
@[simp] theorem s_dAndV (d e : DE) (ρ : Sto) (Q : PyData → Prop) (X : XD) : dAndV d e ρ Q X ↔ (d ρ (fun x => asB x fun b => if b = true then e ρ Q X else Q (.bool false)) X) := Iff.rfl
@[simp] theorem s_dNotV (d : DE) (ρ : Sto) (Q : PyData → Prop) (X : XD) : dNotV d ρ Q X ↔ (d ρ (fun x => asB x fun b => Q (.bool (!b))) X) := Iff.rfl
@[simp] theorem s_dIf (t : DT) (a b : DE) (ρ : Sto) (Q : PyData → Prop) (X : XD) : dIf t a b ρ Q X ↔ (t ρ (fun c => if c = true then a ρ Q X else b ρ Q X) X) := Iff.rfl
@[simp] theorem s_dNil (u0 : Sto) (Q : List PyData → Prop) (u2 : XD) : dNil  u0 Q u2 ↔ (Q []) := Iff.rfl
@[simp] theorem s_dCons (d : DE) (e : DA) (ρ : Sto) (Q : List PyData → Prop) (X : XD) : dCons d e ρ Q X ↔ (d ρ (fun x => e ρ (fun xs => Q (x :: xs)) X) X) := Iff.rfl
@[simp] theorem s_dTup (da : DA) (ρ : Sto) (Q : PyData → Prop) (X : XD) : dTup da ρ Q X ↔ (da ρ (fun ds => ds.length ≤ 100000 ∧ Q (.tuple ds)) X) := Iff.rfl
@[simp] theorem s_dLst (da : DA) (ρ : Sto) (Q : OD → Prop) (X : XD) : dLst da ρ Q X ↔ (da ρ (fun ds => ds.length ≤ 100000 ∧ Q (.lst ds)) X) := Iff.rfl
@[simp] theorem s_dOfO (dd : DO) (ρ : Sto) (Q : PyData → Prop) (X : XD) : dOfO dd ρ Q X ↔ (dd ρ (fun o => ∃ ds, o = .lst ds ∧ Q (.list ds)) X) := Iff.rfl
@[simp] theorem s_dCofO (dd : DO) (ρ : Sto) (Q : Bool → List PyData → Prop) (X : XD) : dCofO dd ρ Q X ↔ (dd ρ (fun o => ∃ ds, o = .lst ds ∧ Q false ds) X) := Iff.rfl
@[simp] theorem s_dCofE (de : DE) (ρ : Sto) (Q : Bool → List PyData → Prop) (X : XD) : dCofE de ρ Q X ↔ (de ρ (fun d => ∃ b ds, d = dat b ds ∧ Q b ds) X) := Iff.rfl
@[simp] theorem s_dIx (dc : DC) (di : DE) (ρ : Sto) (Q : PyData → Prop) (X : XD) : dIx dc di ρ Q X ↔ (dc ρ (fun _ ds => di ρ (fun i => ixD ds i Q) X) X) := Iff.rfl
@[simp] theorem s_dNeg (da : DE) (ρ : Sto) (Q : PyData → Prop) (X : XD) : dNeg da ρ Q X ↔ (da ρ (fun d => ∃ i, d = .int i ∧ Q (.int (-i))) X) := Iff.rfl
@[simp] theorem s_dRep (da : DC) (db : DE) (ρ : Sto) (Q : OD → Prop) (X : XD) : dRep da db ρ Q X ↔ (da ρ (fun b xs => db ρ (fun k => ∃ i, k = .int i ∧ b = false ∧ 0 ≤ i ∧ i ≤ 1000 ∧ xs.length ≤ 100 ∧ Q (.lst (List.replicate i.toNat xs).flatten)) X) X) := Iff.rfl
@[simp] theorem s_dNo (u0 : Sto) (Q : Option Int → Prop) (u2 : XD) : dNo  u0 Q u2 ↔ (Q none) := Iff.rfl
@[simp] theorem s_dSome (da : DE) (ρ : Sto) (Q : Option Int → Prop) (X : XD) : dSome da ρ Q X ↔ (da ρ (fun d => ∃ i, d = .int i ∧ Q (some i)) X) := Iff.rfl
@[simp] theorem s_dSl (dc : DC) (lo hi : DP) (ρ : Sto) (Q : PyData → Prop) (X : XD) : dSl dc lo hi ρ Q X ↔ (dc ρ (fun b ds => lo ρ (fun l => hi ρ (fun h => Q (dat b (cutD ds l h))) X) X) X) := Iff.rfl
@[simp] theorem s_dNext (D : DEnds) (ρ : Sto) : dNext  D ρ ↔ (D.nx ρ) := Iff.rfl
@[simp] theorem s_dSeq (d e : DS) (D : DEnds) (ρ : Sto) : dSeq d e D ρ ↔ (d { D with nx := e D } ρ) := Iff.rfl
@[simp] theorem s_dFreeze (i : Nat) (d : DS) (D : DEnds) (ρ : Sto) : dFreeze i d D ρ ↔ (∃ ds, ρ[i]? = some (Slot.ow (.lst ds)) ∧ d D (ρ.set i (.sh (.list ds)))) := Iff.rfl
@[simp] theorem s_dAsg (i : Nat) (de : DE) (D : DEnds) (ρ : Sto) : dAsg i de D ρ ↔ (de ρ (fun d => D.nx (ρ.set i (.sh d))) (D.xd ρ)) := Iff.rfl
@[simp] theorem s_dAsgO (i : Nat) (dd : DO) (D : DEnds) (ρ : Sto) : dAsgO i dd D ρ ↔ (dd ρ (fun o => D.nx (ρ.set i (.ow o))) (D.xd ρ)) := Iff.rfl
@[simp] theorem s_gN (i : Nat) (d : PyData) (ρ : Sto) (Q : Sto → Prop) : gN i d ρ Q ↔ (Q (ρ.set i (.sh d))) := Iff.rfl
@[simp] theorem s_gsNil (ρ : Sto) (Q : Sto → Prop) : gsNil [] ρ Q ↔ Q ρ := by simp [gsNil]
@[simp] theorem s_gsCons (g : DG) (gs : DGs) (d : PyData) (r : List PyData) (ρ : Sto) (Q : Sto → Prop) : gsCons g gs (d :: r) ρ Q ↔ g d ρ (fun ρ' => gs r ρ' Q) := by
  constructor
  · rintro ⟨d', r', h, q⟩
    cases h
    exact q
  · exact fun q => ⟨d, r, rfl, q⟩
@[simp] theorem s_gT (n : Nat) (gs : DGs) (ds : List PyData) (ρ : Sto) (Q : Sto → Prop) : gT n gs (.tuple ds) ρ Q ↔ (ds.length = n ∧ gs ds ρ Q) := by
  constructor
  · rintro ⟨d', h | h, q⟩
    · cases h
      exact q
    · cases h
  · exact fun q => ⟨ds, .inl rfl, q⟩
@[simp] theorem s_gTw (n : Nat) (gs : DGs) (ds : List PyData) (ρ : Sto) (Q : Sto → Prop) : gT n gs (wk ds) ρ Q ↔ (ds.length = n ∧ gs ds ρ Q) := by
  constructor
  · rintro ⟨d', h | h, q⟩
    · cases h
    · cases h
      exact q
  · exact fun q => ⟨ds, .inr rfl, q⟩
@[simp] theorem s_dAsgG (de : DE) (dg : DG) (D : DEnds) (ρ : Sto) : dAsgG de dg D ρ ↔ (de ρ (fun d => dg d ρ D.nx) (D.xd ρ)) := Iff.rfl
@[simp] theorem s_dRet (de : DE) (D : DEnds) (ρ : Sto) : dRet de D ρ ↔ (de ρ (fun d => D.rt (.sh d)) (D.xd ρ)) := Iff.rfl
@[simp] theorem s_dRetO (dd : DO) (D : DEnds) (ρ : Sto) : dRetO dd D ρ ↔ (dd ρ (fun o => D.rt (.ow o)) (D.xd ρ)) := Iff.rfl
@[simp] theorem s_dDrop (de : DE) (D : DEnds) (ρ : Sto) : dDrop de D ρ ↔ (de ρ (fun _ => D.nx ρ) (D.xd ρ)) := Iff.rfl
@[simp] theorem s_dIfS (t : DT) (a b : DS) (D : DEnds) (ρ : Sto) : dIfS t a b D ρ ↔ (t ρ (fun c => if c = true then a D ρ else b D ρ) (D.xd ρ)) := Iff.rfl
@[simp] theorem s_dApp (i : Nat) (de : DE) (D : DEnds) (ρ : Sto) : dApp i de D ρ ↔ (∃ ds, ρ[i]? = some (Slot.ow (.lst ds)) ∧ de ρ (fun d => ds.length < 100000 ∧ D.nx (ρ.set i (.ow (.lst (ds ++ [d]))))) (D.xd ρ)) := Iff.rfl
@[simp] theorem s_dIt (de : DE) (ρ : Sto) (Q : List PyData → Prop) (X : XD) : dIt de ρ Q X ↔ (de ρ (fun d => ∃ b ds, d = dat b ds ∧ Q ds) X) := Iff.rfl
@[simp] theorem s_dRng1 (de : DE) (ρ : Sto) (Q : List PyData → Prop) (X : XD) : dRng1 de ρ Q X ↔ (de ρ (fun d => ∃ n, d = .int n ∧ n ≤ 100000 ∧ -100000 ≤ n ∧ Q (rngD 0 n.toNat)) X) := Iff.rfl
@[simp] theorem s_dFor (di : DI) (dg : DG) (body : DS) (D : DEnds) (ρ : Sto) : dFor di dg body D ρ ↔ (di ρ (fun ds => forW dg body D ds ρ) (D.xd ρ)) := Iff.rfl
@[simp] theorem s_dLc (vs : List Nat) (di : DI) (dg : DG) (dt : DT) (de : DE) (ρ : Sto) (Q : OD → Prop) (X : XD) : dLc vs di dg dt de ρ Q X ↔ (di ρ (fun ds => lcW dg dt de (wipeD ρ vs) (fun out => Q (.lst out)) ds []) X) := Iff.rfl
@[simp] theorem s_dYes (u0 : Sto) (Q : Bool → Prop) (u2 : XD) : dYes  u0 Q u2 ↔ (Q true) := Iff.rfl
@[simp] theorem s_dCall (C : Ct) (da : DA) (ρ : Sto) (Q : PyData → Prop) (X : XD) : dCall C da ρ Q X ↔ (da ρ (fun ds => C ds (fun s => ∃ d, slotD s = some d ∧ Q d) X) X) := Iff.rfl
@[simp] theorem s_dIsi (T : String) (de : DE) (ρ : Sto) (Q : PyData → Prop) (X : XD) : dIsi T de ρ Q X ↔ (de ρ (fun d => isD1 d = true ∧ Q (.bool (isT T d))) X) := Iff.rfl
@[simp] theorem s_dIsi2 (T U : String) (de : DE) (ρ : Sto) (Q : PyData → Prop) (X : XD) : dIsi2 T U de ρ Q X ↔ (de ρ (fun d => isD1 d = true ∧ Q (.bool (isT T d || isT U d))) X) := Iff.rfl
@[simp] theorem s_dScr (i : Nat) (ρ : Sto) (Q : PyData → Prop) (u2 : XD) : dScr i ρ Q u2 ↔ (∃ ns : List Int, ρ[i]? = some (Slot.sh (scrD ns)) ∧ ns.length ≤ 63 ∧ Q (.list (ns.map .int))) := Iff.rfl
@[simp] theorem s_d2 (f : PyData → PyData → (PyData → Prop) → Prop) (da db : DE) (ρ : Sto) (Q : PyData → Prop) (X : XD) : d2 f da db ρ Q X ↔ da ρ (fun x => db ρ (fun y => f x y Q) X) X := Iff.rfl
@[simp] theorem s_dChain (f f' : PyData → PyData → (PyData → Prop) → Prop) (da db dc : DE) (ρ : Sto) (Q : PyData → Prop) (X : XD) : dChain f f' da db dc ρ Q X ↔ da ρ (fun x => db ρ (fun y => f x y fun z => asB z fun k => if k = true then dc ρ (fun u => f' y u Q) X else Q (.bool false)) X) X := Iff.rfl
@[simp] theorem s_dCB (f : List PyData → (PyData → Prop) → Prop) (da : DA) (ρ : Sto) (Q : PyData → Prop) (X : XD) : dCB f da ρ Q X ↔ da ρ (fun ds => f ds Q) X := Iff.rfl
@[simp] theorem s_dCBC (f : Bool → List PyData → (PyData → Prop) → Prop) (dc : DC) (ρ : Sto) (Q : PyData → Prop) (X : XD) : dCBC f dc ρ Q X ↔ dc ρ (fun b ds => f b ds Q) X := Iff.rfl
@[simp] theorem s_dCBO (f : Bool → List PyData → (OD → Prop) → Prop) (dc : DC) (ρ : Sto) (Q : OD → Prop) (X : XD) : dCBO f dc ρ Q X ↔ dc ρ (fun b ds => f b ds Q) X := Iff.rfl
@[simp] theorem s_asB (b : Bool) (Q : Bool → Prop) : asB (.bool b) Q ↔ Q b := by simp only [asB, PyData.bool.injEq, exists_eq_left']
@[simp] theorem isD1_int (i : Int) : isD1 (.int i) = true := rfl
@[simp] theorem isD1_str (i : Str) : isD1 (.str i) = true := rfl
@[simp] theorem isD1_bool (i : Bool) : isD1 (.bool i) = true := rfl
@[simp] theorem isD1_list (i : List PyData) : isD1 (.list i) = true := rfl
@[simp] theorem isD1_tuple (i : List PyData) : isD1 (.tuple i) = true := rfl
@[simp] theorem isD1_none : isD1 .none = true := rfl
@[simp] theorem scrD_inj (ns ms : List Int) : scrD ns = scrD ms ↔ ns = ms := by
  constructor
  · intro h
    unfold scrD at h
    injection h with h
    injection h with h1 h2
    injection h1 with h3 h4
    injection h4 with h5
    exact map_int_inj h5
  · rintro rfl
    rfl
@[simp] theorem s_forWn (dg : DG) (body : DS) (D : DEnds) (ρ : Sto) : forW dg body D [] ρ ↔ D.nx ρ := Iff.rfl
@[simp] theorem s_lcWn (dg : DG) (dt : DT) (de : DE) (ρ : Sto) (Q : List PyData → Prop) (acc : List PyData) : lcW dg dt de ρ Q [] acc ↔ Q acc := Iff.rfl
@[simp] theorem s_iI (g : Int → Int → PyData) (i j : Int) (Q : PyData → Prop) : iI g (.int i) (.int j) Q ↔ Q (g i j) := Iff.rfl
@[simp] theorem s_iC (C : Int → Int → Prop) (g : Int → Int → PyData) (i j : Int) (Q : PyData → Prop) : iC C g (.int i) (.int j) Q ↔ (C i j ∧ Q (g i j)) := Iff.rfl
@[simp] theorem s_sub (i j : Int) (Q : PyData → Prop) : subD (.int i) (.int j) Q ↔ Q (.int (i - j)) := Iff.rfl
@[simp] theorem s_add (i j : Int) (Q : PyData → Prop) : addD (.int i) (.int j) Q ↔ Q (.int (i + j)) := Iff.rfl
@[simp] theorem s_addS (a b : Str) (Q : PyData → Prop) : addD (.str a) (.str b) Q ↔ (a.length + b.length ≤ 100000 ∧ Q (.str (a ++ b))) := Iff.rfl
@[simp] theorem s_addT (xs ys : List PyData) (Q : PyData → Prop) : addD (.tuple xs) (.tuple ys) Q ↔ (xs.length + ys.length ≤ 100000 ∧ Q (.tuple (xs ++ ys))) := Iff.rfl
@[simp] theorem s_addL (xs ys : List PyData) (Q : PyData → Prop) : addD (.list xs) (.list ys) Q ↔ (xs.length + ys.length ≤ 100000 ∧ Q (.list (xs ++ ys))) := Iff.rfl
@[simp] theorem s_mul (i j : Int) (Q : PyData → Prop) : mulD (.int i) (.int j) Q ↔ (((-(2 ^ 64) < i ∧ i < 2 ^ 64) ∨ (-(2 ^ 64) < j ∧ j < 2 ^ 64)) ∧ Q (.int (i * j))) := Iff.rfl
@[simp] theorem s_mulT (xs : List PyData) (k : Int) (Q : PyData → Prop) : mulD (.tuple xs) (.int k) Q ↔ (xs ≠ [] ∧ 2 ≤ k ∧ k ≤ 1000 ∧ xs.length ≤ 1000 ∧ Q (.tuple (List.replicate k.toNat xs).flatten)) := Iff.rfl
@[simp] theorem s_mulL (xs : List PyData) (k : Int) (Q : PyData → Prop) : mulD (.list xs) (.int k) Q ↔ (0 ≤ k ∧ k ≤ 1000 ∧ xs.length ≤ 100 ∧ Q (.list (List.replicate k.toNat xs).flatten)) := Iff.rfl
@[simp] theorem s_mod (i j : Int) (Q : PyData → Prop) : modD (.int i) (.int j) Q ↔ (0 < j ∧ Q (.int (i % j))) := Iff.rfl
@[simp] theorem s_fdiv (i j : Int) (Q : PyData → Prop) : fdivD (.int i) (.int j) Q ↔ ((0 < j ∧ j < 1073741824) ∧ Q (.int (i / j))) := Iff.rfl
@[simp] theorem s_pow (i j : Int) (Q : PyData → Prop) : powD (.int i) (.int j) Q ↔ ((0 ≤ j ∧ j ≤ 1000000 ∧ i.natAbs < 2 ^ 64) ∧ Q (.int (i ^ j.toNat))) := Iff.rfl
@[simp] theorem s_lt (i j : Int) (Q : PyData → Prop) : ltD (.int i) (.int j) Q ↔ Q (.bool (decide (i < j))) := Iff.rfl
@[simp] theorem s_le (i j : Int) (Q : PyData → Prop) : leD (.int i) (.int j) Q ↔ Q (.bool (decide (i ≤ j))) := Iff.rfl
@[simp] theorem s_gt (i j : Int) (Q : PyData → Prop) : gtD (.int i) (.int j) Q ↔ Q (.bool (decide (j < i))) := Iff.rfl
@[simp] theorem s_ge (i j : Int) (Q : PyData → Prop) : geD (.int i) (.int j) Q ↔ Q (.bool (decide (j ≤ i))) := Iff.rfl
@[simp] theorem sh_int (i : Int) : SeqAt.shaped (.int i) = true := rfl
@[simp] theorem sh_bool (i : Bool) : SeqAt.shaped (.bool i) = true := rfl
@[simp] theorem sh_str (i : Str) : SeqAt.shaped (.str i) = PyData.strOk i := by simp [SeqAt.shaped, PyData.canLay0, PyData.depth]
@[simp] theorem sh_none : SeqAt.shaped .none = true := rfl
@[simp] theorem eqv_int (i j : Int) : PyData.eqv (.int i) (.int j) = (i == j) := by simp [PyData.eqv]
@[simp] theorem eqv_str (i j : Str) : PyData.eqv (.str i) (.str j) = (i == j) := by simp [PyData.eqv]
@[simp] theorem eqv_bool (i j : Bool) : PyData.eqv (.bool i) (.bool j) = (i == j) := by simp [PyData.eqv]
@[simp] theorem s_eq (d e : PyData) (Q : PyData → Prop) : eqD d e Q ↔ (SeqAt.shaped d = true ∧ SeqAt.shaped e = true ∧ Q (.bool (PyData.eqv d e))) := Iff.rfl
@[simp] theorem s_ne (d e : PyData) (Q : PyData → Prop) : neD d e Q ↔ (SeqAt.shaped d = true ∧ SeqAt.shaped e = true ∧ Q (.bool (!PyData.eqv d e))) := Iff.rfl
@[simp] theorem s_is (d e : PyData) (Q : PyData → Prop) : isD d e Q ↔ (e = .none ∧ Q (.bool (isNo d))) := Iff.rfl
@[simp] theorem s_isNot (d e : PyData) (Q : PyData → Prop) : isNotD d e Q ↔ (e = .none ∧ Q (.bool (!isNo d))) := Iff.rfl
@[simp] theorem isNo_int (i : Int) : isNo (.int i) = false := rfl
@[simp] theorem isNo_str (i : Str) : isNo (.str i) = false := rfl
@[simp] theorem isNo_bool (i : Bool) : isNo (.bool i) = false := rfl
@[simp] theorem isNo_list (i : List PyData) : isNo (.list i) = false := rfl
@[simp] theorem isNo_tuple (i : List PyData) : isNo (.tuple i) = false := rfl
@[simp] theorem isNo_none : isNo .none = true := rfl
@[simp] theorem s_ixD (ds : List PyData) (i : Int) (Q : PyData → Prop) : ixD ds (.int i) Q ↔ ∃ d, atI ds i = some d ∧ Q d := by
  constructor
  · rintro ⟨n, d, h, h1, h2⟩
    cases h
    exact ⟨d, h1, h2⟩
  · rintro ⟨d, h1, h2⟩
    exact ⟨i, d, rfl, h1, h2⟩
@[simp] theorem s_lenS (s : Str) (Q : PyData → Prop) : lenD [.str s] Q ↔ (s.length ≤ 100000 ∧ Q (.int s.length)) := Iff.rfl
@[simp] theorem s_lenL (s : List PyData) (Q : PyData → Prop) : lenD [.list s] Q ↔ Q (.int s.length) := Iff.rfl
@[simp] theorem s_lenT (s : List PyData) (Q : PyData → Prop) : lenD [.tuple s] Q ↔ Q (.int s.length) := Iff.rfl
@[simp] theorem s_lenC (b : Bool) (s : List PyData) (Q : PyData → Prop) : lenC b s Q ↔ Q (.int s.length) := Iff.rfl
@[simp] theorem s_tupC (b : Bool) (s : List PyData) (Q : PyData → Prop) : tupC b s Q ↔ Q (.tuple s) := Iff.rfl
@[simp] theorem s_lstC (b : Bool) (s : List PyData) (Q : OD → Prop) : lstC b s Q ↔ Q (.lst s) := Iff.rfl
@[simp] theorem datL (b : Bool) (xs ds : List PyData) : PyData.list xs = dat b ds ↔ (b = false ∧ ds = xs) := by
  cases b <;> simp [dat, eq_comm]
@[simp] theorem datT (b : Bool) (xs ds : List PyData) : PyData.tuple xs = dat b ds ↔ (b = true ∧ ds = xs) := by
  cases b <;> simp [dat, eq_comm]
@[simp] theorem dat_true (xs : List PyData) : dat true xs = .tuple xs := rfl
@[simp] theorem dat_false (xs : List PyData) : dat false xs = .list xs := rfl
@[simp] theorem slotD_sh (d : PyData) : slotD (.sh d) = some d := rfl
@[simp] theorem slotD_ow (ds : List PyData) : slotD (.ow (.lst ds)) = some (.list ds) := rfl
@[simp] theorem wipeD_nil (ρ : Sto) : wipeD ρ [] = ρ := rfl
@[simp] theorem wipeD_cons (ρ : Sto) (v : Nat) (vs : List Nat) : wipeD ρ (v :: vs) = (wipeD ρ vs).set v .no := rfl
@[simp] theorem atI_nat {α : Type} (xs : List α) (n : Nat) : atI xs (n : Int) = xs[n]? := by
  unfold atI ixN
  by_cases h : n < xs.length
  · simp [h]
  · simp [h]
@[simp] theorem atI_2 {α : Type} (xs : List α) : atI xs 2 = xs[2]? := atI_nat xs 2
@[simp] theorem atI_3 {α : Type} (xs : List α) : atI xs 3 = xs[3]? := atI_nat xs 3
@[simp] theorem atI_0 {α : Type} (xs : List α) : atI xs 0 = xs[0]? := atI_nat xs 0
@[simp] theorem atI_1 {α : Type} (xs : List α) : atI xs 1 = xs[1]? := atI_nat xs 1
@[simp] theorem rngD_zero (lo : Int) : rngD lo 0 = [] := rfl
@[simp] theorem rngD_len (lo : Int) (n : Nat) : (rngD lo n).length = n := by simp [rngD]
theorem rngD_get {lo : Int} {n i : Nat} {d : PyData} (h : (rngD lo n)[i]? = some d) : i < n ∧ d = .int (lo + (i : Int)) := by
  have hi : i < n := by
    have := (List.getElem?_eq_some_iff.mp h).1
    simpa using this
  refine ⟨hi, ?_⟩
  simp [rngD, hi] at h
  exact h.symm
theorem forW_inv {dg : DG} {body : DS} {D : DEnds} {ds : List PyData} {ρ : Sto} (I : Nat → Sto → Prop) (h0 : I 0 ρ) (hd : ∀ ρ', I ds.length ρ' → D.nx ρ')
    (hs : ∀ (n : Nat) (d : PyData) (ρ' : Sto) (K : Sto → Prop), ds[n]? = some d → I n ρ' → (∀ ρ2, I (n + 1) ρ2 → K ρ2) → dg d ρ' fun ρ2 => body { D with nx := K, ct := K, bk := D.nx } ρ2) : forW dg body D ds ρ := by
  have key : ∀ (m n : Nat), n + m = ds.length → ∀ ρ', I n ρ' → forW dg body D (ds.drop n) ρ' := by
    intro m
    induction m with
    | zero =>
      intro n hn ρ' hI
      have e : n = ds.length := by omega
      subst e
      rw [List.drop_length]
      exact hd ρ' hI
    | succ m ih =>
      intro n hn ρ' hI
      have hlt : n < ds.length := by omega
      rw [List.drop_eq_getElem_cons hlt]
      exact hs n _ ρ' _ (by simp [hlt]) hI fun ρ2 h2 => ih (n + 1) (by omega) ρ2 h2
  have := key ds.length 0 (by omega) ρ h0
  rwa [List.drop_zero] at this
theorem while_inv {t : DT} {body : DS} {D : DEnds} {ρ : Sto} (I : Nat → Sto → Prop) (m0 : Nat) (h0 : I m0 ρ)
    (hs : ∀ (m : Nat) (ρ' : Sto) (K : Sto → Prop), I m ρ' → (∀ m' ρ2, m' < m → I m' ρ2 → K ρ2) → t ρ' (fun b => if b = true then body { D with nx := K, ct := K, bk := D.nx } ρ' else D.nx ρ') (D.xd ρ')) : dWhile t body D ρ :=
  ⟨I, ⟨m0, h0⟩, fun m ρ' hi => hs m ρ' _ hi fun m' ρ2 h1 h2 => ⟨m', h1, h2⟩⟩
theorem ints_get {ns : List Int} {n : Nat} {d : PyData} (h : (ns.map PyData.int)[n]? = some d) : ∃ z, ns[n]? = some z ∧ d = .int z := by
  rw [List.getElem?_map] at h
  cases q : ns[n]? with
  | none => rw [q] at h; cases h
  | some z => rw [q] at h; exact ⟨z, rfl, (Option.some.inj h).symm⟩
theorem cutD_ints (ns : List Int) (lo hi : Option Int) : cutD (ns.map PyData.int) lo hi = ((ns.drop (HT.sIx ns.length 0 lo)).take (HT.sIx ns.length ns.length hi - HT.sIx ns.length 0 lo)).map PyData.int := by
  unfold cutD
  rw [List.length_map, List.map_take, List.map_drop]
theorem lc_rel {dg : DG} {de : DE} {ρ : Sto} {Q : List PyData → Prop} {ds : List PyData} (P : Nat → PyData → PyData → Prop) (hz : ds.length ≤ 50000)
    (h : ∀ (i : Nat) (d : PyData), ds[i]? = some d → ∀ K : PyData → Prop, (∀ x, P i d x → K x) → dg d ρ fun ρ2 => de ρ2 K noX)
    (q : ∀ out : List PyData, out.length = ds.length → (∀ (i : Nat) (d x : PyData), ds[i]? = some d → out[i]? = some x → P i d x) → Q out) : lcW dg dYes de ρ Q ds [] := by
  have key : ∀ (m n : Nat) (acc : List PyData), n + m = ds.length → acc.length = n → (∀ (i : Nat) (d x : PyData), ds[i]? = some d → acc[i]? = some x → P i d x) → lcW dg dYes de ρ Q (ds.drop n) acc := by
    intro m
    induction m with
    | zero =>
      intro n acc hn hl hp
      have e : ds.drop n = [] := List.drop_eq_nil_of_le (by omega)
      rw [e]
      exact q acc (by omega) hp
    | succ m ih =>
      intro n acc hn hl hp
      have hlt : n < ds.length := by omega
      rw [List.drop_eq_getElem_cons hlt]
      have e : (fun ρ2 => dYes ρ2 (fun b => if b = true then de ρ2 (fun x => acc.length < 100000 ∧ lcW dg dYes de ρ Q (ds.drop (n + 1)) (acc ++ [x])) noX else lcW dg dYes de ρ Q (ds.drop (n + 1)) acc) noX) = fun ρ2 => de ρ2 (fun x => acc.length < 100000 ∧ lcW dg dYes de ρ Q (ds.drop (n + 1)) (acc ++ [x])) noX := by
        funext ρ2
        rfl
      show dg ds[n] ρ fun ρ2 => dYes ρ2 _ noX
      rw [e]
      refine h n _ (by simp [hlt]) _ fun x hx => ⟨by omega, ih (n + 1) _ (by omega) (by simp [hl]) fun i d y hd hy => ?_⟩
      rw [List.getElem?_append] at hy
      split at hy
      · exact hp i d y hd hy
      · rename_i hi
        have hi2 : i - acc.length = 0 := by
          have := (List.getElem?_eq_some_iff.mp hy).1
          simp at this
          omega
        rw [hi2] at hy
        have e1 : i = n := by omega
        subst e1
        simp at hy
        subst hy
        simp [hlt] at hd
        subst hd
        exact hx
  have := key ds.length 0 [] (by omega) rfl (fun i d x _ hx => by simp at hx)
  rwa [List.drop_zero] at this
theorem lc_mapM {α : Type} {dg : DG} {de : DE} {ρ : Sto} {Q : List PyData → Prop} {g : α → PyData} {xs : List α} (f : α → PyData) (hz : xs.length ≤ 50000)
    (h : ∀ x ∈ xs, ∀ K : PyData → Prop, K (f x) → dg (g x) ρ fun ρ2 => de ρ2 K noX) (q : Q (xs.map f)) : lcW dg dYes de ρ Q (xs.map g) [] := by
  have key : ∀ (m n : Nat), n + m = xs.length → lcW dg dYes de ρ Q ((xs.map g).drop n) ((xs.map f).take n) := by
    intro m
    induction m with
    | zero =>
      intro n hn
      have e : (xs.map g).drop n = [] := List.drop_eq_nil_of_le (by simp; omega)
      have e2 : (xs.map f).take n = xs.map f := List.take_of_length_le (by simp; omega)
      rw [e, e2]
      exact q
    | succ m ih =>
      intro n hn
      have hlt : n < (xs.map g).length := by simp; omega
      have hlx : n < xs.length := by omega
      rw [List.drop_eq_getElem_cons hlt]
      have e : (fun ρ2 => dYes ρ2 (fun b => if b = true then de ρ2 (fun x => ((xs.map f).take n).length < 100000 ∧ lcW dg dYes de ρ Q ((xs.map g).drop (n + 1)) ((xs.map f).take n ++ [x])) noX else lcW dg dYes de ρ Q ((xs.map g).drop (n + 1)) ((xs.map f).take n)) noX) = fun ρ2 => de ρ2 (fun x => ((xs.map f).take n).length < 100000 ∧ lcW dg dYes de ρ Q ((xs.map g).drop (n + 1)) ((xs.map f).take n ++ [x])) noX := by
        funext ρ2
        rfl
      show dg (xs.map g)[n] ρ fun ρ2 => dYes ρ2 _ noX
      rw [e]
      rw [List.getElem_map]
      refine h _ (List.getElem_mem hlx) _ ⟨by simp; omega, ?_⟩
      have e3 : (xs.map f).take n ++ [f xs[n]] = (xs.map f).take (n + 1) := by
        rw [List.take_succ_eq_append_getElem (by simp; omega), List.getElem_map]
      rw [e3]
      exact ih (n + 1) (by omega)
  have := key xs.length 0 (by omega)
  rwa [List.drop_zero, List.take_zero] at this
theorem lc_filM {α : Type} {dg : DG} {dt : DT} {de : DE} {ρ : Sto} {Q : List PyData → Prop} {g : α → PyData} {xs : List α} (t : α → Bool) (f : α → PyData) (hz : xs.length ≤ 50000)
    (h : ∀ x ∈ xs, ∀ (K1 : PyData → Prop) (K0 : Prop), (t x = true → K1 (f x)) → (t x = false → K0) → dg (g x) ρ fun ρ2 => dt ρ2 (fun b => if b = true then de ρ2 K1 noX else K0) noX) (q : Q ((xs.filter t).map f)) : lcW dg dt de ρ Q (xs.map g) [] := by
  have key : ∀ (ys : List α) (acc : List PyData), (∀ y ∈ ys, y ∈ xs) → acc.length + ys.length ≤ 50000 → Q (acc ++ (ys.filter t).map f) → lcW dg dt de ρ Q (ys.map g) acc := by
    intro ys
    induction ys with
    | nil => intro acc _ _ q; simpa using q
    | cons y ys ih =>
      intro acc hm hz q
      simp only [List.length_cons] at hz
      refine h y (hm y List.mem_cons_self) _ _ (fun ht => ⟨by omega, ih _ (fun z hz => hm z (List.mem_cons_of_mem _ hz)) (by simp; omega) ?_⟩) (fun ht => ih _ (fun z hz => hm z (List.mem_cons_of_mem _ hz)) (by omega) ?_)
      · rw [List.filter_cons, if_pos ht] at q
        simpa using q
      · rw [List.filter_cons, if_neg (by rw [ht]; exact Bool.false_ne_true)] at q
        exact q
  exact key xs [] (fun _ h => h) (by simpa using hz) (by simpa using q)
@[simp] theorem isT_int_none : isT "int" (.none) = false := by simp only [isT, tyN]; decide +kernel
@[simp] theorem isT_int_int (x) : isT "int" (.int x) = true := by simp only [isT, tyN]; decide +kernel
@[simp] theorem isT_int_bool (x) : isT "int" (.bool x) = true := by simp only [isT, tyN]; decide +kernel
@[simp] theorem isT_int_str (x) : isT "int" (.str x) = false := by simp only [isT, tyN]; decide +kernel
@[simp] theorem isT_int_list (x) : isT "int" (.list x) = false := by simp only [isT, tyN]; decide +kernel
@[simp] theorem isT_int_tuple (x) : isT "int" (.tuple x) = false := by simp only [isT, tyN]; decide +kernel
@[simp] theorem isT_bool_none : isT "bool" (.none) = false := by simp only [isT, tyN]; decide +kernel
@[simp] theorem isT_bool_int (x) : isT "bool" (.int x) = false := by simp only [isT, tyN]; decide +kernel
@[simp] theorem isT_bool_bool (x) : isT "bool" (.bool x) = true := by simp only [isT, tyN]; decide +kernel
@[simp] theorem isT_bool_str (x) : isT "bool" (.str x) = false := by simp only [isT, tyN]; decide +kernel
@[simp] theorem isT_bool_list (x) : isT "bool" (.list x) = false := by simp only [isT, tyN]; decide +kernel
@[simp] theorem isT_bool_tuple (x) : isT "bool" (.tuple x) = false := by simp only [isT, tyN]; decide +kernel
@[simp] theorem isT_str_none : isT "str" (.none) = false := by simp only [isT, tyN]; decide +kernel
@[simp] theorem isT_str_int (x) : isT "str" (.int x) = false := by simp only [isT, tyN]; decide +kernel
@[simp] theorem isT_str_bool (x) : isT "str" (.bool x) = false := by simp only [isT, tyN]; decide +kernel
@[simp] theorem isT_str_str (x) : isT "str" (.str x) = true := by simp only [isT, tyN]; decide +kernel
@[simp] theorem isT_str_list (x) : isT "str" (.list x) = false := by simp only [isT, tyN]; decide +kernel
@[simp] theorem isT_str_tuple (x) : isT "str" (.tuple x) = false := by simp only [isT, tyN]; decide +kernel
@[simp] theorem isT_list_none : isT "list" (.none) = false := by simp only [isT, tyN]; decide +kernel
@[simp] theorem isT_list_int (x) : isT "list" (.int x) = false := by simp only [isT, tyN]; decide +kernel
@[simp] theorem isT_list_bool (x) : isT "list" (.bool x) = false := by simp only [isT, tyN]; decide +kernel
@[simp] theorem isT_list_str (x) : isT "list" (.str x) = false := by simp only [isT, tyN]; decide +kernel
@[simp] theorem isT_list_list (x) : isT "list" (.list x) = true := by simp only [isT, tyN]; decide +kernel
@[simp] theorem isT_list_tuple (x) : isT "list" (.tuple x) = false := by simp only [isT, tyN]; decide +kernel
@[simp] theorem isT_tuple_none : isT "tuple" (.none) = false := by simp only [isT, tyN]; decide +kernel
@[simp] theorem isT_tuple_int (x) : isT "tuple" (.int x) = false := by simp only [isT, tyN]; decide +kernel
@[simp] theorem isT_tuple_bool (x) : isT "tuple" (.bool x) = false := by simp only [isT, tyN]; decide +kernel
@[simp] theorem isT_tuple_str (x) : isT "tuple" (.str x) = false := by simp only [isT, tyN]; decide +kernel
@[simp] theorem isT_tuple_list (x) : isT "tuple" (.list x) = false := by simp only [isT, tyN]; decide +kernel
@[simp] theorem isT_tuple_tuple (x) : isT "tuple" (.tuple x) = true := by simp only [isT, tyN]; decide +kernel
end WH
namespace WH
open PySem PySem.Spec L2
variable [TabC] [ObjB]
theorem lcA_filM {α : Type} {dg : DG} {dt : DT} {de : DE} {ρ : Sto} {Q : List PyData → Prop} {g : α → PyData} (t : α → Bool) (f : α → PyData) :
    ∀ {xs : List α} {acc : List PyData}, acc.length + xs.length ≤ 100000 → (∀ x ∈ xs, ∀ (Kx : PyData → Prop) (K0 : Prop), (t x = true → Kx (f x)) → (t x = false → K0) → dg (g x) ρ fun ρ2 => dt ρ2 (fun b => if b = true then de ρ2 Kx noX else K0) noX) →
      Q (acc ++ (xs.filter t).map f) → lcW dg dt de ρ Q (xs.map g) acc
  | [], acc, _, _, q => by simpa using q
  | x :: xs, acc, hz, h, q => by
    simp only [List.length_cons] at hz
    show dg (g x) ρ _
    refine h x List.mem_cons_self _ (lcW dg dt de ρ Q (xs.map g) acc) (fun e => ⟨by omega, ?_⟩) fun e => ?_
    rotate_left
    · refine lcA_filM t f (by omega) (fun y hy => h y (List.mem_cons_of_mem _ hy)) ?_
      rw [List.filter_cons_of_neg (by rw [e]; decide)] at q
      exact q
    · refine lcA_filM t f (by simp; omega) (fun y hy => h y (List.mem_cons_of_mem _ hy)) ?_
      rw [List.filter_cons_of_pos e] at q
      simpa using q
theorem lcA_mapM {α : Type} {dg : DG} {de : DE} {ρ : Sto} {Q : List PyData → Prop} {g : α → PyData} (f : α → PyData) :
    ∀ {xs : List α} {acc : List PyData}, acc.length + xs.length ≤ 100000 → (∀ x ∈ xs, ∀ K : PyData → Prop, K (f x) → dg (g x) ρ fun ρ2 => de ρ2 K noX) → Q (acc ++ xs.map f) → lcW dg dYes de ρ Q (xs.map g) acc
  | [], acc, _, _, q => by simpa using q
  | x :: xs, acc, hz, h, q => by
    simp only [List.length_cons] at hz
    refine h x List.mem_cons_self _ ⟨by omega, ?_⟩
    refine lcA_mapM f (by simp; omega) (fun y hy => h y (List.mem_cons_of_mem _ hy)) ?_
    simpa using q
end WH
namespace WH
open PySem PySem.Spec L2
variable [TabC] [ObjB]
section
variable {X : Cx} {W : XW}
def dPutL (i : Nat) (di de : DE) : DS := fun D ρ => ∃ ds, ρ[i]? = some (Slot.ow (.lst ds)) ∧ de ρ (fun d => di ρ (fun iv => ∃ k j, iv = .int k ∧ ixN ds.length k = some j ∧ D.nx (ρ.set i (.ow (.lst (ds.set j d))))) (D.xd ρ)) (D.xd ρ)
@[simp] theorem s_dPutL (i : Nat) (di de : DE) (D : DEnds) (ρ : Sto) : dPutL i di de D ρ ↔ ∃ ds, ρ[i]? = some (Slot.ow (.lst ds)) ∧ de ρ (fun d => di ρ (fun iv => ∃ k j, iv = .int k ∧ ixN ds.length k = some j ∧ D.nx (ρ.set i (.ow (.lst (ds.set j d))))) (D.xd ρ)) (D.xd ρ) := Iff.rfl
theorem qs_putL {i : Nat} {x : Str} {ie e : Expr} {di de : DE} {p1 p2 pos : Pos} (he : QE X W e de) (hi : QE X W ie di) (hp : PS X (.Assign [.Subscript (.Name x p1) ie p2] e pos) (tAsg (upE X.K W de) (gSub (tVar i) (upE X.K W di) rSetL))) :
    QS X W (.Assign [.Subscript (.Name x p1) ie p2] e pos) (dPutL i di de) := PS.sub hp fun D σ H h => by
  obtain ⟨G0, H0, G, ρ, Dd, k, ⟨ds, hi, h⟩, nx, rt, bk, ct, ex⟩ := h
  refine ⟨G0, H0, G, ρ, _, Dd.xd ρ, k, h, fun G1 H1 v d k1 g1 rv q => ?_, xok_of ex⟩
  obtain ⟨a, xs, h1, h2, h3, h4, h5⟩ := own_lst k1 hi
  refine ⟨_, h1, G0, H0, G1, ρ, _, Dd.xd ρ, k1, q, fun G2 H2 w e k2 g2 rw' q2 => ?_, xok_of ex⟩
  obtain ⟨n, j, rfl, hj, q2⟩ := q2
  obtain ⟨a', xs', h1', h2', h3', h4', h5'⟩ := own_lst k2 hi
  rw [h1] at h1'
  cases h1'
  cases rw'
  refine ⟨a, xs', n, j, rfl, rfl, h2', by rw [rpa_length h5']; exact hj, ?_⟩
  exact nx G2 _ σ _ (k2.mutOw (o' := .lst (ds.set j d)) hi h1 (show RpAll _ _ _ _ from rpa_set j (rp_mono g2.gg rv) h5')) q2
def dParO (i j : Nat) (de : DE) (dd : DO) : DS := fun D ρ => de ρ (fun d => dd ρ (fun o => i ≠ j ∧ D.nx ((ρ.set i (.sh d)).set j (.ow o))) (D.xd ρ)) (D.xd ρ)
@[simp] theorem s_dParO (i j : Nat) (de : DE) (dd : DO) (D : DEnds) (ρ : Sto) : dParO i j de dd D ρ ↔ de ρ (fun d => dd ρ (fun o => i ≠ j ∧ D.nx ((ρ.set i (.sh d)).set j (.ow o))) (D.xd ρ)) (D.xd ρ) := Iff.rfl
theorem qs_parO {i j : Nat} {x y : Str} {a b : Expr} {de : DE} {dd : DO} {px py pt ps pos : Pos} {k1 k2 : Nat} (hN : X.N.Nodup) (ha : QE X W a de) (hb : QO X W b dd) (hp : PA X [a, b] (tCons (upE X.K W de) (tCons (upO X.K W dd) tNil))) (hc : X.calm = true := by rfl) (hi : X.N[i]? = some x := by rfl) (hj : X.N[j]? = some y := by rfl) (hij : i ≠ j := by decide)
    (hx : X.env.scope.names.lookup x = some .local := by rfl) (hy : X.env.scope.names.lookup y = some .local := by rfl)
    (hw : swappedStores [.Tuple [.Name x px, .Name y py] k1 pt] (.Tuple [a, b] k2 ps) X.env = pure (some [x, y]) := by rfl)
    (hs : swapsWithSole [.Tuple [.Name x px, .Name y py] k1 pt] (.Tuple [a, b] k2 ps) pos.line X.env = pure false := by rfl) : QS X W (.Assign [.Tuple [.Name x px, .Name y py] k1 pt] (.Tuple [a, b] k2 ps) pos) (dParO i j de dd) := PS.sub (ps_par hc hN hi hj hij hx hy hp hw hs) fun D σ H h => by
  obtain ⟨G0, H0, G, ρ, Dd, k, h, nx, rt, bk, ct, ex⟩ := h
  refine ⟨G0, H0, G, ρ, _, Dd.xd ρ, k, h, fun G1 H1 v d k1 g1 rv q => ?_, xok_of ex⟩
  refine ⟨G0, H0, G1, ρ, _, Dd.xd ρ, k1, q, fun G2 H2 p ho o k2 g2 n1 n2 n3 n4 q2 => ?_, xok_of ex⟩
  refine ⟨v, .ref p, rfl, ?_⟩
  have k3 := k2.setSh (i := i) (rp_mono g2.gg rv)
  have k1' := k1.setSh (i := i) rv
  exact nx G2 H2 _ _ (k1'.newOw g2.hh k3 n1 n3 n2 n4) q2.2
end
end WH
namespace WH
open PySem PySem.Spec L2
variable [TabC] [ObjB]
section
open AutoSeq1 (wpAny_loadPart')
theorem meets_enumT (l : Addr) (items : Array Value) (n : Nat) (dct : Option Addr) (sl : Array (Option Value)) :
    Meets (Builtin.«enumerate.__new__» ⟨[.type "enumerate", .ref l], []⟩) (fun _ R s => s.heap.get? l = some { cls := .type "tuple", dict := dct, data := .seq items n, slots := sl } ∧
      R (.ok (.ret (.ref (s.heap.push { cls := .type "tuple_iterator", data := .fields #[.ref l, .int 0 0] }).objs.size)))
        { s with heap := (s.heap.push { cls := .type "tuple_iterator", data := .fields #[.ref l, .int 0 0] }).push { cls := .type "enumerate", data := .fields #[.none, .bool false, .ref s.heap.objs.size, rawInt 0, .none, .none] } }) :=
  .of_wp fun prog w A R s h => by
    obtain ⟨hp, g, d, tk, os⟩ := s; obtain ⟨hl, h⟩ := h
    have hsub := sub_enumerate
    have hL : Heap.IsTuple (Shared.heap ⟨hp, g, d, tk, os⟩) l items := ⟨_, hl, rfl, n, rfl⟩
    wp_walk using wpAny_loadPart' hl
    refine wpAny_stack_any fun st => wpAny_pure ?_
    split
    · rename_i c _ _ _ _ _
      cases (c == Value.type "enumerate")
      · wp_walk using wpAny_loadPart' hl, wpAny_pyIter_tuple hL
        exact ⟨_, rfl, h⟩
      · wp_walk using wpAny_loadPart' hl, wpAny_pyIter_tuple hL
        exact ⟨_, rfl, h⟩
    · wp_walk using wpAny_loadPart' hl, wpAny_pyIter_tuple hL
      exact ⟨_, rfl, h⟩
theorem call_enumT {prog : Program} {w : World} {A : Around} {E : Value → Shared → Prop} {s : Shared} {l : Addr} {items : Array Value} {Q : Value → Shared → Prop} (hL : s.heap.IsTuple l items)
    (h : ∀ h', IsEnum h' (s.heap.objs.size + 1) s.heap.objs.size 0 .none → h'.IsTupleIter s.heap.objs.size l 0 → h'.objs.size = s.heap.objs.size + 2 →
      (∀ b o, s.heap.get? b = some o → h'.get? b = some o) → Q (.ref (s.heap.objs.size + 1)) { s with heap := h' }) :
    wpAny (model prog w) A (call (.type "enumerate") [.ref l]) Q E s := by
  obtain ⟨⟨c, dct, dt, sl⟩, hl, hc, n, hd⟩ := hL
  replace hc : c = .type "tuple" := hc
  replace hd : dt = .seq items n := hd
  subst hc hd
  refine callType_new F.called_enumerate (by decide) (F.typeCall_enumerate_1 _) (F.newCall_enumerate_1 _) (fun obj => F.args_object_init_2 obj _) F.entry_enumerate_new
    (meets_enumT l items n dct sl) ⟨hl, ?_⟩
  have hz : (s.heap.push { cls := .type "tuple_iterator", data := .fields #[.ref l, .int 0 0] }).objs.size = s.heap.objs.size + 1 := Heap.size_push ..
  show _ ∧ _
  rw [hz]
  have he : IsEnum ((s.heap.push { cls := .type "tuple_iterator", data := .fields #[.ref l, .int 0 0] }).push
      { cls := .type "enumerate", data := .fields #[.none, .bool false, .ref s.heap.objs.size, rawInt 0, .none, .none] }) (s.heap.objs.size + 1) s.heap.objs.size 0 .none := by
    have := Heap.get?_push_size (s.heap.push { cls := .type "tuple_iterator", data := .fields #[.ref l, .int 0 0] })
      (o := { cls := .type "enumerate", data := .fields #[.none, .bool false, .ref s.heap.objs.size, rawInt 0, .none, .none] }) rfl
    rw [hz] at this; exact this
  refine ⟨⟨_, he, rfl⟩, h _ he ⟨_, Heap.get?_push_of_some _ (Heap.get?_push_size _ rfl), rfl, rfl⟩ (by rw [Heap.size_push, hz]) fun b o x => Heap.get?_push_of_some _ (Heap.get?_push_of_some _ x)⟩
end
theorem next_enumT_end {prog : Program} {w : World} {A : Around} {E : Value → Shared → Prop} {s : Shared} {e it l : Addr} {i : Nat} {items : Array Value} {old : Value} {Q : Option Value → Shared → Prop} (hh : A.handled = none)
    (he : IsEnum s.heap e it i old) (hit : s.heap.IsTupleIter it l i) (hl : s.heap.IsTuple l items) (hx : items[i]? = none)
    (hQ : ∀ h', Heap.ExtBut it s.heap h' → Q none { s with heap := h' }) : wpAny (model prog w) A (pyNext (.ref e)) Q E s := by
  have hT : s.TypeIs (.ref e) "enumerate" := ⟨_, he, rfl⟩
  unfold pyNext
  refine wpAny_bind (wpAny_attempt (wpAny_callSpecial?_slot (name := Str.ofString "__next__") hT F.slot_enumerate_next
    (wpAny_call_entry F.slot_enumerate_next hT F.entry_enumerate_next ?_ (F.args_enumerate_next_1 _))))
  show wpAny _ _ (field (.ref e) 2 >>= _) _ _ _
  refine wpAny_bind (wpAny_field he rfl (x := .ref it) rfl ?_)
  refine wpAny_bind (wpAny_nextOf_tuple_end hh hit hl hx fun h' x he' hx' => ?_)
  obtain ⟨o, ho, hc⟩ := hx'
  refine wpAny_bind (wpAny_isInstance (T := "StopIteration") (b := true) ⟨o, ho, hc⟩ isSubtype_stop ?_)
  exact wpAny_pure (hQ _ he')
def IteT (K : PySem.W.Frag) (a : Addr) : It :=
  ⟨fun i H => ∃ (xs : List V) (x : V), SqT K H a xs ∧ xs[i]? = some x, fun i H v H' => ∃ T x, v = .ref T ∧ H T = none ∧ H' = upd H T (.tup [.int (i : Nat), x]) ∧ ∀ xs, SqT K H a xs → xs[i]? = some x, fun i H => ∃ xs : List V, SqT K H a xs ∧ xs.length ≤ i⟩
theorem turn_enumT {P : Program} {w : World} {K : PySem.W.Frag} {elts : List Expr} {kk : Nat} {tpos : Pos} (a e it : Addr) (hai : a ≠ it) :
    Turn P w K (.Tuple elts kk tpos) (IteT K a) [e, it] e (fun i h => (∃ old, IsEnum h e it ((i : Nat) : Int) old) ∧ h.IsTupleIter it a i ∧ e ≠ it) where
  mem := by simp
  obj := fun i h st b hb => by
    obtain ⟨⟨old, he⟩, ⟨o, ho, hc, hd⟩, _⟩ := st
    have e' : b = e ∨ b = it := by simpa using hb
    rcases e' with z | z
    · rw [z]; exact ⟨_, he, fun v q => nomatch q⟩
    · rw [z]; exact ⟨o, ho, fun v q => by rw [hd] at q; cases q⟩
  keep := fun i h h' st k => let ⟨⟨old, he⟩, hi, hne⟩ := st; ⟨⟨old, k e (by simp) _ he⟩, hi.at fun o q => k it (by simp) o q, hne⟩
  item := by
    intro X hP hw hK hc i pins s σ H E I hf st hg
    subst hP hw hK
    obtain ⟨⟨old, he⟩, hit, hne⟩ := st
    obtain ⟨xs, x, hq, hx⟩ := hg
    obtain ⟨its, rv, p, hz⟩ := I.tuple hq
    obtain ⟨u, hu, ru⟩ := rv.get hx
    have hel : e < s.heap.objs.size := Heap.lt_size he
    have hil : it < s.heap.objs.size := by obtain ⟨_, q, _⟩ := hit; exact Heap.lt_size q
    have p' : s.heap.IsTuple a its.toArray := p
    have hea : e ≠ a := fun z => by
      obtain ⟨o, ho, hc', _⟩ := p'
      have he2 : s.heap.get? e = some _ := he
      rw [z, ho] at he2
      cases he2
      exact absurd (show Value.type "enumerate" = Value.type "tuple" from hc') (by decide)
    have hsz0 : i < its.toArray.size := by
      have := (List.getElem?_eq_some_iff.mp hu).1
      simpa using this
    refine wpAny_pyNext_enum_itemD (Draws.tuple (A := X.A.in1) (show X.A.in1.handled = none from I.ok.hd hc) it a hai its.toArray) he ⟨hit, p'⟩ hsz0 hne (by simp [hne, hea]) fun u' h' tk hP ho hs' hT hsz hk => ?_
    have eu : u' = u := by
      have h2 : its.toArray[i]? = some u := by simpa using hu
      rw [hP] at h2
      exact Option.some.inj h2
    subst eu
    refine ⟨_, rfl, wpAny_letOwnedTupleGo_enum (s := { s with heap := h', toks := tk + 1 }) ho fun h'' he' sb => ?_⟩
    have hT2 : h''.get? s.heap.objs.size = some { cls := .type "tuple", data := .seq #[.int i tk, u'] } := (sb.2 _ (Nat.ne_of_gt hel)).trans hT
    have new : ObjOk X.prog X.w (upd H s.heap.objs.size (.tup [.int (i : Nat), x])) h'' s.heap.objs.size (.tup [.int (i : Nat), x]) :=
      ⟨by show 2 ≤ sizeLine; decide, [.int i tk, u'], .cons ⟨_, rfl⟩ (.cons ru .nil), ⟨_, hT2, rfl, _, rfl⟩⟩
    have I1 : Inv X pins σ (upd H s.heap.objs.size (.tup [.int (i : Nat), x])) { s with heap := h'', toks := tk + 1 } :=
      I.turnedNew (ch := [e, it]) (fun b ob hb q => (sb.2 b (fun z => hb (by simp [z]))).trans (hk b ob (fun z => hb (by simp [z])) (fun z => hb (by simp [z])) q)) hf (Nat.le_refl _) new
    refine ⟨.ref s.heap.objs.size, _, I1, rfl, ⟨_, x, rfl, I.hok.fresh (Nat.le_refl _), rfl, fun ys hy => by rw [I.tuple_inj hy hq]; exact hx⟩, ⟨⟨u', ?_⟩, hs'.1.at fun o q => (sb.2 it (Ne.symm hne)).trans q, hne⟩, fun b hb => ?_⟩
    · have e1 : ((i + 1 : Nat) : Int) = (i : Int) + 1 := by omega
      rw [e1]; exact he'
    · have hb' : b < s.heap.objs.size := by
        have e' : b = e ∨ b = it := by simpa using hb
        rcases e' with z | z
        · rw [z]; exact hel
        · rw [z]; exact hil
      rw [upd_ne (Nat.ne_of_lt hb')]
      exact (hf b hb).1
  done := by
    intro X hP hw hK hc i pins s σ H E I hf st hg
    subst hP hw hK
    obtain ⟨⟨old, he⟩, hit, hne⟩ := st
    obtain ⟨xs, hq, hx⟩ := hg
    obtain ⟨its, rv, p, hz⟩ := I.tuple hq
    obtain ⟨f0, f1, f2, f3, f4, f5⟩ := hf it (by simp)
    have hl := rv.length
    have p' : s.heap.IsTuple a its.toArray := p
    exact next_enumT_end (I.ok.hd hc) he hit p' (by simp; omega) fun h' eb => ⟨rfl, I.turned (t' := s.toks) (fun b o hb q => eb b o hb q) f0 f1 f3 f4 f5⟩
  self := fun A i s Q E st h => let ⟨⟨_, he⟩, _⟩ := st; wpAny_pyIter_enum he h
def iEnumA (K : PySem.W.Frag) (ta : TA) : TI := fun σ H R => ta σ H fun vs H1 => ∃ a, vs = [.ref a] ∧ (((∃ xs, SqL K H1 a xs) ∧ R (Ite K a) H1) ∨ ((∃ xs, SqT K H1 a xs) ∧ R (IteT K a) H1))
theorem pi_enumA {X : Cx} {e : Expr} {ta : TA} {p pos tpos : Pos} {elts : List Expr} {kk : Nat} (hg : Gl X "enumerate") (hm : X.mg "enumerate" = none) (ha : PA X [e] ta) (hs : starEach [e] X.env = [(false, eval e X.env)] := by rfl) :
    PI X (.Tuple elts kk tpos) (.Call (.Name "enumerate" p) [e] [] pos) (iEnumA X.K ta) := by
  refine ⟨fun pins s σ H R I h => ?_⟩
  refine PyProof.Rows.Call_ (ld_blt I hg hm PyProof.Rows.boot_enumerate (PyProof.Rows.callWith_type1 (thn (ha.run pos pins s σ H _ I h) fun us s1 ⟨vs, H1, I1, r1, q1⟩ => ?_) hs rfl))
  obtain ⟨a, ex, q⟩ := q1
  subst ex
  cases r1 with
  | cons r rr =>
    cases rr
    cases r
    have fin : ∀ b, (b = s1.heap.objs.size + 1 ∨ b = s1.heap.objs.size) → FpOk X pins H1 b := fun b e' => by
      have hle : s1.heap.objs.size ≤ b := by
        rcases e' with z | z
        · rw [z]; exact Nat.le_add_right _ _
        · rw [z]; exact Nat.le_refl _
      exact I1.fpOk hle (I1.hok.fresh hle)
    rcases q with ⟨⟨xs, hq⟩, q⟩ | ⟨⟨xs, hq⟩, q⟩
    · obtain ⟨its, rv, p', hz⟩ := I1.list hq
      refine call_enumerate_list p'.isList fun h' he hit hsz hk => wpAny_pyIter_enum he ?_
      have I2 : Inv X pins σ H1 { s1 with heap := h' } := I1.kept (t' := s1.toks) hk
      exact ⟨s1.heap.objs.size + 1, [s1.heap.objs.size + 1, s1.heap.objs.size], _, _, H1, rfl, I2, turn_enum a (s1.heap.objs.size + 1) s1.heap.objs.size, ⟨⟨.none, he⟩, hit, Nat.succ_ne_self _⟩, fun b hb => fin b (by simpa using hb), q⟩
    · obtain ⟨its, rv, p', hz⟩ := I1.tuple hq
      have p2 : s1.heap.IsTuple a its.toArray := p'
      have hlt : a < s1.heap.objs.size := by obtain ⟨_, z, _⟩ := p2; exact Heap.lt_size z
      refine call_enumT p2 fun h' he hit hsz hk => wpAny_pyIter_enum he ?_
      have I2 : Inv X pins σ H1 { s1 with heap := h' } := I1.kept (t' := s1.toks) hk
      exact ⟨s1.heap.objs.size + 1, [s1.heap.objs.size + 1, s1.heap.objs.size], _, _, H1, rfl, I2, turn_enumT a (s1.heap.objs.size + 1) s1.heap.objs.size (Nat.ne_of_lt hlt), ⟨⟨.none, he⟩, hit, Nat.succ_ne_self _⟩, fun b hb => fin b (by simpa using hb), q⟩
def enumD (ds : List PyData) : List PyData := ds.zipIdx.map fun p => wk [.int (p.2 : Int), p.1]
theorem enumD_len (ds : List PyData) : (enumD ds).length = ds.length := by simp [enumD]
theorem enumD_get {ds : List PyData} {i : Nat} {d : PyData} (h : (enumD ds)[i]? = some d) : ∃ e, ds[i]? = some e ∧ d = wk [.int (i : Int), e] := by
  unfold enumD at h
  rw [List.getElem?_map, List.getElem?_zipIdx] at h
  cases q : ds[i]? with
  | none => rw [q] at h; cases h
  | some e =>
    rw [q] at h
    refine ⟨e, rfl, ?_⟩
    simpa using h.symm
theorem ntb_tup {xs : List V} : NTb (.tup xs) := fun _ z => by cases z
theorem grow_pair {K : PySem.W.Frag} {G1 H1 : Hp} {T : Addr} {vs : List V} {ds : List PyData} (gh : Same G1 (nt H1)) (hT : H1 T = none) (r : RpAll K G1 vs ds) : ∃ G2, Gr G1 H1 G2 (upd H1 T (.tup vs)) ∧ Same G2 (nt (upd H1 T (.tup vs))) ∧ Rp K G2 (.ref T) (wk ds) :=
  ⟨upd G1 T (.tup vs), Gr.share (gh.trans nt_le) hT, fun a u e => by
    rw [nt_upd ntb_tup]
    by_cases ha : a = T
    · subst ha; rw [upd_same] at e ⊢; exact e
    · rw [upd_ne ha] at e ⊢; exact gh a u e, rp_tupWk ((gh.trans nt_le).free hT) r⟩
theorem iter_enumL {K : PySem.W.Frag} {G : Hp} {a : Addr} {xs : List V} {ds : List PyData} (h : G a = some (.lst xs)) (r : RpAll K G xs ds) : IterOk K (Ite K a) G (enumD ds) := fun G1 H1 g gh i => by
  have hl := rpa_length r
  have hq : SqL K H1 a xs := SqL.of (nt_some (gh _ _ (g _ _ h)))
  rw [enumD_len]
  refine ⟨fun hi => ⟨xs, xs[i]'(by omega), hq, by simp [show i < xs.length by omega]⟩, fun hi => ⟨xs, hq, by omega⟩, fun d x H2 hd hy => ?_⟩
  obtain ⟨T, y, rfl, hT, rfl, hx⟩ := hy
  obtain ⟨e, he, rfl⟩ := enumD_get hd
  obtain ⟨v, e1, e2⟩ := rpa_get r he
  rw [hx xs hq] at e1
  cases e1
  exact grow_pair gh hT (.cons (.int _) (.cons (rp_mono g e2) .nil))
theorem iter_enumT {K : PySem.W.Frag} {G : Hp} {a : Addr} {xs : List V} {ds : List PyData} (h : SqT K G a xs) (r : RpAll K G xs ds) : IterOk K (IteT K a) G (enumD ds) := fun G1 H1 g gh i => by
  have hl := rpa_length r
  have hq : SqT K H1 a xs := sqT_mono (g.trans (gh.trans nt_le)) h
  rw [enumD_len]
  refine ⟨fun hi => ⟨xs, xs[i]'(by omega), hq, by simp [show i < xs.length by omega]⟩, fun hi => ⟨xs, hq, by omega⟩, fun d x H2 hd hy => ?_⟩
  obtain ⟨T, y, rfl, hT, rfl, hx⟩ := hy
  obtain ⟨e, he, rfl⟩ := enumD_get hd
  obtain ⟨v, e1, e2⟩ := rpa_get r he
  rw [hx xs hq] at e1
  cases e1
  exact grow_pair gh hT (.cons (.int _) (.cons (rp_mono g e2) .nil))
def dEnum (de : DE) : DI := fun ρ Q X => de ρ (fun d => ∃ b ds, d = dat b ds ∧ Q (enumD ds)) X
@[simp] theorem s_dEnum (de : DE) (ρ : Sto) (Q : List PyData → Prop) (X : XD) : dEnum de ρ Q X ↔ de ρ (fun d => ∃ b ds, d = dat b ds ∧ Q (enumD ds)) X := Iff.rfl
theorem qi_enum {X : Cx} {W : XW} {e : Expr} {p pos tpos : Pos} {elts : List Expr} {kk : Nat} {de : DE} (hm : X.mg "enumerate" = none) (he : QE X W e de) (hg : Gl X "enumerate" := by rfl) (hs : starEach [e] X.env = [(false, eval e X.env)] := by rfl) : QI X W (.Tuple elts kk tpos) (.Call (.Name "enumerate" p) [e] [] pos) (dEnum de) :=
  PI.sub (pi_enumA hg hm (pa_cons he pa_nil hs) hs) fun σ H R h => by
  obtain ⟨G0, H0, G, ρ, Qd, Xd, k, h, fn, xo⟩ := h
  refine ⟨G0, H0, G, ρ, _, Xd, k, h, fun G1 H1 v d k1 g1 rv q => ?_, xo⟩
  obtain ⟨b, ds, rfl, q⟩ := q
  cases b with
  | false =>
    cases rv with
    | lst l1 l2 => exact ⟨_, rfl, .inl ⟨⟨_, SqL.of (k1.gh _ _ l1)⟩, fn G1 H1 _ _ k1 g1 (iter_enumL l1 l2) q⟩⟩
  | true =>
    cases rv with
    | tup l1 l2 => exact ⟨_, rfl, .inr ⟨⟨_, sqT_mono k1.gh l1.t⟩, fn G1 H1 _ _ k1 g1 (iter_enumT l1.t l2) q⟩⟩
end WH
namespace WH
open PySem PySem.Spec L2
variable [TabC] [ObjB]
section
variable {X : Cx} {W : XW} {a b e : Expr} {p pos apos cpos : Pos} {da db de : DE}
def dJoin (da : DE) (dc : DC) : DE := fun ρ Q X => da ρ (fun s => ∃ a : Str, s = .str a ∧ dc ρ (fun _ ds => ∃ ys : List Str, ds = ys.map .str ∧ (ys.map (·.length)).sum + ys.length * a.length ≤ 100000 ∧ Q (.str (Txt.join a ys))) X) X
@[simp] theorem s_dJoin (da : DE) (dc : DC) (ρ : Sto) (Q : PyData → Prop) (X : XD) : dJoin da dc ρ Q X ↔ da ρ (fun s => ∃ a : Str, s = .str a ∧ dc ρ (fun _ ds => ∃ ys : List Str, ds = ys.map .str ∧ (ys.map (·.length)).sum + ys.length * a.length ≤ 100000 ∧ Q (.str (Txt.join a ys))) X) X := Iff.rfl
theorem qe_join {dc : DC} (ha : QE X W a da) (hb : QC X W b dc)
    (hbase : attributeBase a "join" X.env (eval a X.env) = eval a X.env := by rfl)
    (hfew : ((backTo cpos (starEach [b] X.env)).all (fun x => !x.1) && (backToKw cpos (keywordEach [] X.env)).all (fun x => x.1.isSome) && decide ([b].length + ([] : List Keyword).length + (if ([] : List Keyword).isEmpty then 0 else 1) < 30)) = true := by rfl)
    (hline : (apos.endLine == cpos.line) = true := by rfl) (hs : starEach [b] X.env = (false, eval b X.env) :: starEach [] X.env := by rfl) (hplain : (backTo cpos (starEach [] X.env)).any (·.1) = false := by rfl) :
    QE X W (.Call (.Attribute a "join" apos) [b] [] cpos) (dJoin da dc) := PE.sub (pe_bm PySem.F.plainAttrs_str PySem.F.slot_str_join PySem.F.type_str_join mt_join ha (pa_cons hb pa_nil hs) hbase hfew hline hs hplain) fun σ H Q h => by
  obtain ⟨G0, H0, G, ρ, Qd, Xd, k, h, fn, xo⟩ := h
  refine ⟨G0, H0, G, ρ, _, Xd, k, h, fun G1 H1 x d k1 g1 rx hb => ?_, xo⟩
  obtain ⟨s, rfl, hb⟩ := hb
  cases rx
  refine ⟨rfl, G0, H0, G1, ρ, _, Xd, k1, hb, fun G2 H2 a xs b ds k2 g2 sq rv q => ?_, xo.mono g1⟩
  obtain ⟨ys, rfl, hz, q⟩ := q
  have e := rpa_ofStrs rv
  subst e
  exact ⟨s, a, ys, rfl, rfl, sq.any k2.gh, by omega, fn G2 H2 _ _ k2 (g1.trans g2) (.str _) q⟩
def dSplit (da db : DE) : DO := fun ρ Q X => da ρ (fun s => ∃ a : Str, s = .str a ∧ db ρ (fun t => ∃ b : Str, t = .str b ∧ (b.length == 0) = false ∧ a.length ≤ 100000 ∧ Q (.lst ((Txt.split a b).map .str))) X) X
@[simp] theorem s_dSplit (da db : DE) (ρ : Sto) (Q : OD → Prop) (X : XD) : dSplit da db ρ Q X ↔ da ρ (fun s => ∃ a : Str, s = .str a ∧ db ρ (fun t => ∃ b : Str, t = .str b ∧ (b.length == 0) = false ∧ a.length ≤ 100000 ∧ Q (.lst ((Txt.split a b).map .str))) X) X := Iff.rfl
theorem qo_split (ha : QE X W a da) (hb : QE X W b db)
    (hbase : attributeBase a "split" X.env (eval a X.env) = eval a X.env := by rfl)
    (hfew : ((backTo cpos (starEach [b] X.env)).all (fun x => !x.1) && (backToKw cpos (keywordEach [] X.env)).all (fun x => x.1.isSome) && decide ([b].length + ([] : List Keyword).length + (if ([] : List Keyword).isEmpty then 0 else 1) < 30)) = true := by rfl)
    (hline : (apos.endLine == cpos.line) = true := by rfl) (hs : starEach [b] X.env = (false, eval b X.env) :: starEach [] X.env := by rfl) (hplain : (backTo cpos (starEach [] X.env)).any (·.1) = false := by rfl) :
    QO X W (.Call (.Attribute a "split" apos) [b] [] cpos) (dSplit da db) := PE.sub (pe_bm PySem.F.plainAttrs_str PySem.F.slot_str_split PySem.F.type_str_split mt_split ha (pa_cons hb pa_nil hs) hbase hfew hline hs hplain) fun σ H Q h => by
  obtain ⟨G0, H0, G, ρ, Qd, Xd, k, h, fn, xo⟩ := h
  refine ⟨G0, H0, G, ρ, _, Xd, k, h, fun G1 H1 x d k1 g1 rx hb => ?_, xo⟩
  obtain ⟨s, rfl, hb⟩ := hb
  cases rx
  refine ⟨rfl, G0, H0, G1, ρ, _, Xd, k1, hb, fun G2 H2 y e k2 g2 ry q => ?_, xo.mono g1⟩
  obtain ⟨t, rfl, ht, hz, q⟩ := q
  cases ry
  exact ⟨s, t, rfl, rfl, ht, Nat.le_trans (Nat.add_le_add_right hz 2) (by decide), fin_own (o := .lst ((Txt.split s t).map .str)) k2 (fun G3 H3 p ho o k3 g3 n1 n2 n3 n4 q => fn G3 H3 p ho o k3 ((g1.trans g2).trans g3) (g1.hh.free (g2.hh.free n1)) n2 n3 n4 q) (show RpAll _ _ _ _ from rpa_strs _) q⟩
theorem log_of {i : Int} (h : i.natAbs < 2 ^ 200) : i.natAbs.log2 < 1920 := by
  by_cases hz : i.natAbs = 0
  · rw [hz]; decide
  · exact (Nat.log2_lt hz).mpr (Nat.lt_of_lt_of_le h (Nat.pow_le_pow_right (by decide) (by decide)))
theorem len_app (a b : Str) : (a ++ b).length = a.length + b.length := by
  show (a.cps ++ b.cps).size = a.cps.size + b.cps.size
  simp
end
end WH
namespace WH
section
open PySem PySem.W PySem.Calls PyProof.Rows PySem.HandSPX Builtin Builtin.ObjectAttr
theorem refsT_pass {nw : String} {tl : List Value} (hT : BsX nw tl) (self : Value) (l : List Value) (e : refsT tl l = true) : refuseLoop self "__setattr__" l = pure () := by
  fun_induction refsT tl l with
  | case1 a r ih =>
    rw [refuseLoop_ref]
    exact ih e
  | case2 l _ =>
    rw [beq_iff_eq.mp e]
    exact hT.pass self
theorem refsT_has {tl : List Value} (Y : String) (l : List Value) (e : refsT tl l = true) : l.contains (.type Y) = tl.contains (.type Y) := by
  fun_induction refsT tl l with
  | case1 a r ih =>
    rw [List.contains_cons, ih e]
    rfl
  | case2 l _ => rw [beq_iff_eq.mp e]
theorem bsx_VE : BsX "ValueError.__new__" [.type "ValueError", .type "Exception", .type "BaseException", .type "object"] := ⟨⟨_, _, F.excBase_ValueError⟩, F.store_ValueError.passes, by decide +kernel⟩
theorem bsx_LE : BsX "LookupError.__new__" [.type "LookupError", .type "Exception", .type "BaseException", .type "object"] := ⟨⟨_, _, F.excBase_LookupError⟩, F.store_LookupError.passes, by decide +kernel⟩
theorem bsx_IE : BsX "IndexError.__new__" [.type "IndexError", .type "LookupError", .type "Exception", .type "BaseException", .type "object"] := ⟨⟨_, _, F.excBase_IndexError⟩, F.store_IndexError.passes, by decide +kernel⟩
variable {P : Program} {w : World} {A : Around} {R : Result → Shared → Prop} {h0 : Heap} {gs : Array GenState} {dr : Drawn} {tk0 : Nat} {os : OsState}
section
variable {K : W.Frag} {nw : String} {tl : List Value} {cd : ClassData} {x C : Addr}
theorem mro_obj (hT : BsX nw tl) (hc : W.clsIn K C = some cd) (hm : refsT tl cd.mro = true) : W.mroIn K C (.type "object") = some true := by
  have e1 : cd.mro.contains (.type "object") = true := (refsT_has "object" _ hm).trans hT.obj
  have e2 : cd.mro.isEmpty = false := by
    cases q : cd.mro with
    | nil => rw [q] at e1; cases e1
    | cons _ _ => rfl
  unfold W.mroIn
  rw [hc, Option.bind_some, if_neg (by rw [e2]; decide), e1]
theorem put_first {fv : Array Value} {nm : Str} {tk : Tok} {v : Value} (hT : BsX nw tl) (hK : K.In h0) (hx : h0.get? x = some { cls := .ref C, data := .fields fv }) (hc : W.clsIn K C = some cd) (hm : refsT tl cd.mro = true) (hh : cd.hasDict = true) (no : W.findIn K (.ref C) nm = some none)
    (fin : ∀ h' tk' dx, (∀ b o, b ≠ x → h0.get? b = some o → h'.get? b = some o) → h0.objs.size ≤ dx → dx ≠ x → h'.get? x = some { cls := .ref C, dict := some dx, data := .fields fv } → h'.Ns1 dx (fun y => if y = nm then some v else none) → R (.ok (.ret .none)) ⟨h', gs, dr, tk', os⟩) :
    codeAny (model P w) A (.call (.builtin "object.__setattr__") ⟨[.ref x, .str nm tk, v], []⟩) R ⟨h0, gs, dr, tk0, os⟩ := by
  have at_x : W.InstAt h0 x { cls := .ref C, data := .fields fv } C none := ⟨hx, rfl, rfl, trivial⟩
  have lt_x : x ≠ h0.objs.size := Nat.ne_of_lt (Heap.lt_size hx)
  have is_o : W.Looks (model P w) h0 (isInstance (.ref x) (.type "object")) true := at_x.type.andThen (W.looks_mroIn hK (mro_obj hT hc hm))
  refine codeAny_call_builtin F.store_object.slot.plain F.store_object.entry (@W.check_slot (model P w) _ _ ⟨h0, gs, dr, tk0, os⟩ "object.__setattr__" "object" "__setattr__" (.ref x) [.str nm tk, v] [] _ F.store_object.kind F.store_object.split is_o (F.store_object.args (.ref x) (.str nm tk) v) ?_)
  have lk_m : W.Looks (model P w) h0 (mroOf (.ref C)) cd.mro := (W.looks_clsIn hK hc).andThen .now
  have lk_n : W.Looks (model P w) h0 (storeTaker? none) none := .now
  have lk_c : W.Looks (model P w) h0 (classData C) cd := W.looks_clsIn hK hc
  rw [W.osa_eq, refuse_eq]
  refine wpAny_bind (wpAny_bind (at_x.type.at (wpAny_bind (lk_m.at ?_))))
  rw [refsT_pass hT _ _ hm]
  refine wpAny_pure (wpAny_bind (at_x.type.at (wpAny_bind ((W.looks_findIn hK no).at (wpAny_bind (lk_n.at ?_))))))
  show wpAny _ _ (storeInOwnDict (.ref x) (.ref C) (.str nm tk) nm v false) _ _ _
  obtain ⟨_, _, _, _, _, has, _, _, _, _, _⟩ := cd
  dsimp only at hh
  subst hh
  unfold storeInOwnDict ownDictForStores
  repeat (first | with_reducible refine store_in_new ?_ ?_ | with_reducible refine wpAny_loadPart_at hx ?_ | with_reducible refine lk_c.at ?_ | wp_step)
  · exact ⟨_, #[], _, (Heap.get?_update_ne _ _ _ _ lt_x.symm).trans (Heap.get?_push_at rfl rfl), rfl, fun e z => absurd z (by simp), fun _ => rfl⟩
  · intro h' tk' n' same
    have hx1 : (h0.push { cls := .type "dict", data := .dict #[] }).get? x = some { cls := .ref C, data := .fields fv } := Heap.get?_push_of_some _ hx
    refine fin h' tk' h0.objs.size (fun b o hb ho => ?_) (Nat.le_refl _) lt_x.symm ?_ n'
    · exact (same.2 b (Nat.ne_of_lt (Heap.lt_size ho))).trans ((Heap.get?_update_ne _ _ _ _ hb).trans (Heap.get?_push_of_some _ ho))
    · exact (same.2 x lt_x).trans (Heap.get?_update_self _ hx1 rfl)
theorem put_more {fv : Array Value} {nm : Str} {tk : Tok} {v : Value} {dx : Addr} {m0 : Str → Option Value} {nl : List Str} (hT : BsX nw tl) (hK : K.In h0) (hx : h0.get? x = some { cls := .ref C, dict := some dx, data := .fields fv }) (hn : h0.Ns1 dx m0) (wi : Within m0 nl) (lz : nl.length ≤ 1000)
    (hc : W.clsIn K C = some cd) (hm : refsT tl cd.mro = true) (hh : cd.hasDict = true) (no : W.findIn K (.ref C) nm = some none)
    (fin : ∀ h' tk', (∀ b o, b ≠ dx → h0.get? b = some o → h'.get? b = some o) → h'.Ns1 dx (fun y => if y = nm then some v else m0 y) → R (.ok (.ret .none)) ⟨h', gs, dr, tk', os⟩) :
    codeAny (model P w) A (.call (.builtin "object.__setattr__") ⟨[.ref x, .str nm tk, v], []⟩) R ⟨h0, gs, dr, tk0, os⟩ := by
  obtain ⟨oD, _, _, hoD, _, _⟩ := hn.count wi
  have at_x : W.InstAt h0 x { cls := .ref C, dict := some dx, data := .fields fv } C (some oD) := ⟨hx, rfl, rfl, hoD⟩
  have is_o : W.Looks (model P w) h0 (isInstance (.ref x) (.type "object")) true := at_x.type.andThen (W.looks_mroIn hK (mro_obj hT hc hm))
  refine codeAny_call_builtin F.store_object.slot.plain F.store_object.entry (@W.check_slot (model P w) _ _ ⟨h0, gs, dr, tk0, os⟩ "object.__setattr__" "object" "__setattr__" (.ref x) [.str nm tk, v] [] _ F.store_object.kind F.store_object.split is_o (F.store_object.args (.ref x) (.str nm tk) v) ?_)
  have lk_m : W.Looks (model P w) h0 (mroOf (.ref C)) cd.mro := (W.looks_clsIn hK hc).andThen .now
  have lk_n : W.Looks (model P w) h0 (storeTaker? none) none := .now
  have lk_c : W.Looks (model P w) h0 (classData C) cd := W.looks_clsIn hK hc
  rw [W.osa_eq, refuse_eq]
  refine wpAny_bind (wpAny_bind (at_x.type.at (wpAny_bind (lk_m.at ?_))))
  rw [refsT_pass hT _ _ hm]
  refine wpAny_pure (wpAny_bind (at_x.type.at (wpAny_bind ((W.looks_findIn hK no).at (wpAny_bind (lk_n.at ?_))))))
  show wpAny _ _ (storeInOwnDict (.ref x) (.ref C) (.str nm tk) nm v false) _ _ _
  obtain ⟨_, _, _, _, _, has, _, _, _, _, _⟩ := cd
  dsimp only at hh
  subst hh
  unfold storeInOwnDict ownDictForStores
  repeat (first | with_reducible refine PySem.OEX.store_in_old hn wi lz ?_ | with_reducible refine wpAny_loadPart_at hx ?_ | with_reducible refine lk_c.at ?_ | wp_step)
  intro h' tk' n' same
  exact fin h' tk' (fun b o hb ho => (same.2 b hb).trans ho) n'
end
end
open PySem PySem.Spec L2 PyProof.Rows
theorem OexG.cl {K : PySem.W.Frag} {C : Addr} (T : OexG K C) : ∃ nw tl cd, BsX nw tl ∧ PySem.W.clsIn K C = some cd ∧ refsT tl cd.mro = true ∧ cd.hasDict = true := by
  obtain ⟨nw, tl, nm, q, N, bs, bm, sn, sub, ab, col, dd, k0, k1, k2, k3, k5, B, hC, hbm⟩ := T.cls
  refine ⟨nw, tl, { name := nm, bases := bs, mro := .ref C :: bm, ns := N, qualname := q, hasDict := true, slotNames := sn, subclasses := sub, abstract := ab, collection := col, hasDel := false }, B, ?_, hbm, rfl⟩
  unfold PySem.W.clsIn
  rw [hC] <;> rfl
section
variable {X : Cx} {pins : List (Addr × Obj)} {σ : L2.St} {H : Hp} {s : Shared} {a C dx : Addr} {f : Str} {y : V} {u : Value} {fs : List (Str × V)} {Q : Unit → Shared → Prop} {E : Value → Shared → Prop} {A : Around}
theorem stG_new (T : OexG X.K C) (I : Inv X pins σ H s) (e : H a = some (exo a C none)) (no : PySem.W.findIn X.K (.ref C) f = some none) (ry : RelV y u)
    (fin : ∀ dx s', H dx = none → dx ≠ a → Inv X pins σ (upd (upd H dx (exd dx [(f, y)])) a (exo a C (some dx))) s' → Q () s') : wpAny (model X.prog X.w) A (setAttr (.ref a) f u) Q E s := by
  obtain ⟨nw, tl, cd, B, hc, hm, hh⟩ := T.cl
  obtain ⟨t1, ho⟩ := exo_at I.hok e
  obtain ⟨h0, gs, dr, tk, os⟩ := s
  refine PySem.W.set_plain I.kIn (ox := { cls := .ref C, dict := none, data := .fields #[.ref t1, .none, .none, .none, .bool false, .none] }) (od := none) ⟨ho, rfl, rfl, trivial⟩ T.sa ?_
  refine put_first B I.kIn ho hc hm hh no fun h' tk' dx kp dn dne hx hn => ?_
  have hnd : H dx = none := I.hok.fresh dn
  have ne_d : ∀ {b : Addr} {o : Obj}, h0.get? b = some o → b ≠ dx := fun {b o} q => Nat.ne_of_lt (Nat.lt_of_lt_of_le (Heap.lt_size q) dn)
  have ne_a : ∀ {b : Addr}, H b = none → b ≠ a := fun {b} n z => by rw [z, e] at n; cases n
  have U1 : Un X.fs [] H (upd (upd H dx (exd dx [(f, y)])) a (exo a C (some dx))) h0 h' := by
    refine ⟨fun b o q n _ _ => kp b o (ne_a n) q, fun b o q n _ _ => ⟨o.slots, kp b o (ne_a n) q⟩, fun b o q n _ => ?_, fun b o q _ => ?_, fun b xs q => ?_, fun b o v q => ?_, fun b ps q => ⟨#[], ?_⟩⟩
    · rw [upd_ne (ne_a n), upd_ne (ne_d q)]; exact n
    · by_cases hb : b = a
      · exact ⟨_, by rw [hb]; exact hx⟩
      · exact ⟨o, kp b o hb q⟩
    · rw [upd_ne (at_ne e q exo_tup), upd_ne (ne_of_none q hnd)]; exact q
    · rw [upd_ne (at_ne e q exo_frz), upd_ne (ne_of_none q hnd)]; exact q
    · rw [upd_ne (at_ne e q exo_tbl), upd_ne (ne_of_none q hnd), q]; simp
  refine fin dx _ hnd dne (I.un (t' := tk') U1 fun b o q => ?_)
  by_cases hb : b = a
  · subst hb
    rw [upd_same] at q
    cases q
    exact exo_ok hx
  · rw [upd_ne hb] at q
    by_cases hd : b = dx
    · subst hd
      rw [upd_same] at q
      cases q
      exact exd_ok hn (relO_put (fs := []) ry fun g => True.intro)
    · rw [upd_ne hd] at q
      refine (I.hok b o q).stay (fun c v hc z => kp c v ?_ z) (fun c hc => ?_) (fun c xs hc => ?_)
      · rcases hc with hc | hc
        · rw [hc]; exact hb
        · exact at_ne e hc exo_own
      · rw [upd_ne (at_ne e hc exo_own), upd_ne (ne_of_none hc hnd)]; exact hc
      · rw [upd_ne (at_ne e hc exo_tup), upd_ne (ne_of_none hc hnd)]; exact hc
theorem stG_old (T : OexG X.K C) (I : Inv X pins σ H s) (e : H a = some (exo a C (some dx))) (ed : H dx = some (exd dx fs)) (hl : fs.length ≤ 900) (no : PySem.W.findIn X.K (.ref C) f = some none) (ry : RelV y u)
    (fin : ∀ s', Inv X pins σ (upd H dx (exd dx ((f, y) :: fs))) s' → Q () s') : wpAny (model X.prog X.w) A (setAttr (.ref a) f u) Q E s := by
  obtain ⟨nw, tl, cd, B, hc, hm, hh⟩ := T.cl
  obtain ⟨t1, ho⟩ := exo_at I.hok e
  obtain ⟨mA, hn, rel⟩ := exd_at I.hok ed
  obtain ⟨h0, gs, dr, tk, os⟩ := s
  obtain ⟨oD, _, _, hoD, _, _⟩ := hn.count (within_of rel)
  refine PySem.W.set_plain I.kIn (ox := { cls := .ref C, dict := some dx, data := .fields #[.ref t1, .none, .none, .none, .bool false, .none] }) (od := some oD) ⟨ho, rfl, rfl, hoD⟩ T.sa ?_
  refine put_more B I.kIn ho hn (within_of rel) (by rw [List.length_map]; omega) hc hm hh no fun h' tk' kp hn' => ?_
  refine fin _ (I.write (t' := tk') (x := dx) (e := dx) (o := exd dx ((f, y) :: fs)) (by rw [ed]; exact True.intro) (.inl rfl) kp ?_ (exd_ok hn' (relO_put ry rel)))
  obtain ⟨o, _, _, e', _⟩ := hn'
  exact ⟨o, e'⟩
end
def tOsG (K : PySem.W.Frag) (f : Str) (to te : TE) : TS := fun D σ H => te σ H fun y H1 => to σ H1 fun x H2 => ∃ a C : Addr, x = .ref a ∧ OexG K C ∧ PySem.W.findIn K (.ref C) f = some none ∧
  ((H2 a = some (exo a C none) ∧ ∀ dx, H2 dx = none → dx ≠ a → D.nx σ (upd (upd H2 dx (exd dx [(f, y)])) a (exo a C (some dx)))) ∨ ∃ (dx : Addr) (fs : List (Str × V)), H2 a = some (exo a C (some dx)) ∧ H2 dx = some (exd dx fs) ∧ fs.length ≤ 900 ∧ D.nx σ (upd H2 dx (exd dx ((f, y) :: fs))))
theorem ps_osg {X : Cx} {o e : Expr} {to te : TE} {f : Str} {p' pos : Pos} (ho : PE X o to) (he : PE X e te) (hs : swapsWith e (some (.Attribute o f p')) pos.line X.env = pure false := by rfl) : PS X (.Assign [.Attribute o f p'] e pos) (tOsG X.K f to te) := by
  refine ⟨fun pins s σ H D I h => ?_⟩
  refine plainObj_wpAny_Assign_Attribute (thn (he.run pins s σ H _ I h) fun v s1 z1 => ?_) hs
  obtain ⟨y, H1, I1, r1, q1⟩ := z1
  refine thn (ho.run pins s1 σ H1 _ I1 q1) fun u s2 z2 => ?_
  obtain ⟨x, H2, I2, r2, a, C, ex, T, no, q⟩ := z2
  subst ex
  obtain rfl : u = Value.ref a := r2
  rcases q with ⟨ea, q⟩ | ⟨dx, fs, ea, ed, hl, q⟩
  · exact stG_new T I2 ea no r1 fun dx s' n ne J => ⟨σ, _, J, q dx n ne⟩
  · exact stG_old T I2 ea ed hl no r1 fun s' J => ⟨σ, _, J, q⟩
end WH
namespace WH
open PySem PySem.Spec L2
variable [TabC] [ObjB]
section
variable {X : Cx} {W : XW}
def spExc (C : Addr) (n : Nat) (F : List V → List (Str × V)) : Sp := fun vs H Q _ => ∃ a ws, vs = .ref a :: ws ∧ ws.length = n ∧ H a = some (exo a C none) ∧ ∀ dx, H dx = none → dx ≠ a → Q .non (upd (upd H dx (exd dx (F ws))) a (exo a C (some dx)))
def dRaise (x : Str) (F : List PyData → List (Str × PyData)) (n : Nat) (da : DA) : DS := fun D ρ => da ρ (fun ds => ds.length = n ∧ D.ex (x, F ds) ρ) (D.xd ρ)
@[simp] theorem s_dRaise (x : Str) (F : List PyData → List (Str × PyData)) (n : Nat) (da : DA) (D : DEnds) (ρ : Sto) : dRaise x F n da D ρ ↔ da ρ (fun ds => ds.length = n ∧ D.ex (x, F ds) ρ) (D.xd ρ) := Iff.rfl
theorem raise_heap {H1 : Hp} {a dx C : Addr} {fs : List (Str × V)} (ha : H1 a = none) (hd : dx ≠ a) : upd (L2.del (upd (upd (upd H1 a (exo a C none)) dx (exd dx fs)) a (exo a C (some dx))) a) dx (.xd fs) = upd H1 dx (.xd fs) := by
  funext b
  by_cases h1 : b = dx
  · rw [h1, upd_same, upd_same]
  · rw [upd_ne h1, upd_ne h1]
    by_cases h2 : b = a
    · rw [h2, del_same, ha]
    · rw [del_ne h2, upd_ne h2, upd_ne h1, upd_ne h2]
end
theorem takesN {X : Cx} : L2N.Takes X (fun _ _ _ _ => False) := fun _ _ x => by
  obtain ⟨_, _, _, _, _, _, _, _, _, _, _, _, _, _, _, _, z⟩ := x
  exact z.elim
theorem passN {X : Cx} : Passes (L2N.CX X.prog X.w) X (fun _ _ _ => False) := L2N.passes_call takesN fun _ _ _ _ z => z
theorem pmk_oexN {X : Cx} {CX : CXT} {x : Str} {C fI : Addr} {k : Nat} {fd : FuncData} {ps : List Str} {sp : Sp} {e : Expr} {es : List Expr} {ta : TA} {p pos : Pos} (T : OexG X.K C) (iC : PySem.W.findIn X.K (.ref C) "__init__" = some (some (.ref fI)))
    (tI : PySem.W.typeIn X.K (.ref fI) = some (.type "function")) (F1 : FnOk X.prog X.w X.K X.mg X.base CX k fI fd ps sp) (hr : Room (k + 1) X.A) (hb : Binds X.K fd ps []) (hx : Passes CX X (fun _ _ _ => False)) (hg : Gl X x) (hm : X.mg x = some (.ref C))
    (ha : PA X (e :: es) ta) (hdb : (x == ("__debug__" : Str)) = false) (he : starEach (e :: es) X.env = (false, eval e X.env) :: starEach es X.env) (hpl : (backTo pos (starEach es X.env)).any (·.1) = false) :
    L2N.PMk X (.Call (.Name x p) (e :: es) [] pos) (tMkO C sp [] ta) := fun pins s σ H Q I h => by
  obtain ⟨_, tl, _, _, _, _, bm, _, _, _, _, _, _, _, _, _, _, BX, hC, hbm⟩ := T.cls
  obtain ⟨_, _, BF⟩ := BX.base
  refine wpAny_Call_Name_kw (ld_glob I hg hm (PySem.W.callWith_K (h₀ := X.base) I.ok.mod.kin T.kC (thn (ha.run pos pins s σ H _ I h) fun us s1 z => ?_) he hpl) hdb)
  obtain ⟨vs, H1, I1, r1, hz, q1⟩ := z
  refine ⟨I1.kIn, ?_⟩
  obtain ⟨hp, g, dr, tk, os⟩ := s1
  let o1 : Obj := PySem.W.kdv_tup us
  let o2 : Obj := PySem.HandSPX.excO C hp.objs.size
  let h2 : Heap := (hp.push o1).push o2
  have sz : hp.objs.size ≤ hp.objs.size + 1 := Nat.le_succ _
  have hq := q1 (hp.objs.size + 1) (I1.hok.fresh sz)
  rw [List.append_nil] at hq
  have kk : ∀ b o, hp.get? b = some o → h2.get? b = some o := fun b o z => Heap.get?_push_of_some _ (Heap.get?_push_of_some _ z)
  have at2 : h2.get? (hp.objs.size + 1) = some o2 := by heap_get
  have I2 : Inv X pins σ (upd H1 (hp.objs.size + 1) (exo (hp.objs.size + 1) C none)) ⟨h2, g, dr, tk, os⟩ := I1.laid (t' := tk) kk sz (exo_ok at2)
  have r2 : Vals (V.ref (hp.objs.size + 1) :: vs) (Value.ref (hp.objs.size + 1) :: us) := .cons rfl r1
  have hl : (Value.ref (hp.objs.size + 1) :: us).length = ps.length := by
    rw [← r2.length]
    exact F1.len _ _ _ _ hq
  have hus : us.length ≤ sizeLine := by
    rw [← Paired.length r1, sizeLine_eq]
    omega
  have b2 := hb ⟨h2, g, dr, tk, os⟩ (Value.ref (hp.objs.size + 1) :: us) I2.kIn (by rw [List.append_nil]; exact hl)
  rw [List.append_nil] at b2
  have go := F1.run _ X.stack _ _ ⟨Value.ref (hp.objs.size + 1) :: us, []⟩ _ _ _ (fun _ _ _ => False) (hr.make C us []) (I2.env0.make C us []) b2 r2 hq
  refine wpAny_call (PySem.HandSPX.call_own BF (fun Y => refsT_has Y bm hbm) (I1.kIn _ _ hC) (PySem.W.looks_findIn I1.kIn iC) (fun self => PySem.W.bind_fn I1.kIn self tI) hus (codeAny_mono go fun r s' hq' => ?_))
  cases r with
  | error er => exact hx pins σ _ _ er s' I2 hq'
  | ok fl =>
    cases fl with
    | ret u =>
      obtain ⟨v, H2, os2, bare2, un2, hok2, rv, ev, d, fs, ea, ed, hd1, q2⟩ := hq'
      subst ev
      obtain ⟨h3, g2, d2, t2, os'⟩ := s'
      obtain ⟨t0, G, J, kG, ge, hoe, na⟩ := mk_end0 (d2 := d2) (t2 := t2) I1 sz kk un2 hok2 os2 bare2 ea ed hd1
      exact ⟨rv, hp.objs.size + 1, _, _, ⟨G, g2, d2, t2, os'⟩, _, .ref C, some d, rfl, J, kG, ge, hoe, ⟨rfl, rfl, fun vs hv => by cases hv; rfl⟩, rfl, rfl, na, rfl, bare2, raises_own T.exC T.tyC, q2⟩
    | _ => exact False.elim hq'
def Rs (P : Program) (w : World) (K : PySem.W.Frag) (mg : Str → Option Value) (base : Heap) (x : Str) (k n : Nat) (F : List V → List (Str × V)) : Prop := ∃ C, mg x = some (.ref C) ∧ ∀ (X : Cx), X.prog = P → X.w = w → X.K = K → X.mg = mg → X.base = base → Room k X.A → Gl X x →
  ∀ (e : Expr) (es : List Expr) (p pos : Pos) (ta : TA), PA X (e :: es) ta → starEach (e :: es) X.env = (false, eval e X.env) :: starEach es X.env → (backTo pos (starEach es X.env)).any (·.1) = false → L2N.PMk X (.Call (.Name x p) (e :: es) [] pos) (tMkO C (spExc C n F) [] ta)
theorem rs_ve {P : Program} {w : World} {K : PySem.W.Frag} {mg : Str → Option Value} {base : Heap} {x : Str} {C fI : Addr} {k n : Nat} {fd : FuncData} {ps : List Str} {F : List V → List (Str × V)} (T : OexG K C) (iC : PySem.W.findIn K (.ref C) "__init__" = some (some (.ref fI))) (tI : PySem.W.typeIn K (.ref fI) = some (.type "function"))
    (F1 : FnOk P w K mg base (L2N.CX P w) k fI fd ps (spExc C n F)) (hb : L2.Binds K fd ps []) (hm : mg x = some (.ref C)) (hdb : (x == ("__debug__" : Str)) = false := by decide) : Rs P w K mg base x (k + 1) n F := by
  refine ⟨C, hm, fun X h1 h2 h3 h4 h5 hr hg e es p pos ta ha he hpl => ?_⟩
  subst h1 h2 h3 h4 h5
  exact pmk_oexN T iC tI F1 hr hb passN hg hm ha hdb he hpl
section
variable {X : Cx} {W : XW}
theorem qs_raise {x : Str} {j m n : Nat} {F : List V → List (Str × V)} {D : List PyData → List (Str × PyData)} {e : Expr} {es : List Expr} {p p2 pos : Pos} {da : DA} (c : Rs X.prog X.w X.K X.mg X.base x j n F) (hr : Room m X.A) (hj : j ≤ m) (tk : L2N.Takes X W.2) (hw : W.1 = X.mg)
    (hF : ∀ (G : Hp) vs ds, vs.length = n → RpAll X.K G vs ds → DpF X.K G (F vs) (D ds)) (hn : n ≤ 1000) (ha : QA X W (e :: es) da) (hc : X.calm = true := by rfl) (hg : Gl X x := by rfl)
    (he : starEach (e :: es) X.env = (false, eval e X.env) :: starEach es X.env := by rfl) (hpl : (backTo p2 (starEach es X.env)).any (·.1) = false := by rfl) :
    QS X W (.Raise (some (.Call (.Name x p) (e :: es) [] p2)) none pos) (dRaise x D n da) := by
  obtain ⟨C, hm, c⟩ := c
  refine PS.sub (L2N.ps_raise hc tk (c X rfl rfl rfl rfl rfl (hr.mono hj) hg e es p p2 _ ha he hpl)) fun Dn σ H h => ?_
  obtain ⟨G0, H0, G, ρ, Dd, k, h, nx, rt, bk, ct, ex⟩ := h
  refine ⟨G0, H0, G, ρ, _, Dd.xd ρ, k, h, fun G1 H1 vs ds k1 g1 rv q => ?_, xok_of ex⟩
  obtain ⟨hl, q⟩ := q
  have hv : vs.length = n := (rpa_length rv).trans hl
  refine ⟨by omega, fun a ha => ?_⟩
  refine ⟨a, vs, by rw [List.append_nil], hv, upd_same, fun dx hd hda => ⟨rfl, dx, F vs, upd_same, ?_, ?_, ?_⟩⟩
  · rw [upd_ne hda, upd_same]
  · rw [upd_ne hda] at hd
    exact hd
  · rw [upd_ne hda] at hd
    rw [raise_heap ha hda]
    exact ex _ _ σ ρ (x, D ds) (.ref C) (some dx) (k1.share hd) ⟨by rw [hw]; exact hm, dx, _, rfl, upd_same, dpF_mono (same_upd (k1.gh.free hd)) (hF G1 vs ds hv rv)⟩ q
theorem upd_swap {H : Hp} {dx a : Addr} {o1 o2 oa : HO} (h : dx ≠ a) : upd (upd (upd H dx o1) a oa) dx o2 = upd (upd H dx o2) a oa := by
  funext b
  by_cases h1 : b = dx
  · rw [h1, upd_same, upd_ne h, upd_same]
  · rw [upd_ne h1]
    by_cases h2 : b = a
    · rw [h2, upd_same, upd_same]
    · rw [upd_ne h2, upd_ne h2, upd_ne h1, upd_ne h1]
end
def xfV (x : Str) (fs : List Str) (vs : List V) : List (Str × V) := (fs.zip vs).reverse ++ [(("word" : Str), V.str x)]
def xfD (x : Str) (fs : List Str) (ds : List PyData) : List (Str × PyData) := (fs.zip ds).reverse ++ [(("word" : Str), PyData.str x)]
theorem dpF_append {K : PySem.W.Frag} {G : Hp} : ∀ {a b : List (Str × V)} {c d : List (Str × PyData)}, DpF K G a c → DpF K G b d → DpF K G (a ++ b) (c ++ d)
  | _, _, _, _, .nil, h => h
  | _, _, _, _, .cons x t, h => .cons x (dpF_append t h)
theorem dpF_rev {K : PySem.W.Frag} {G : Hp} : ∀ {a : List (Str × V)} {c : List (Str × PyData)}, DpF K G a c → DpF K G a.reverse c.reverse
  | _, _, .nil => .nil
  | _, _, .cons x t => by
    rw [List.reverse_cons, List.reverse_cons]
    exact dpF_append (dpF_rev t) (.cons x .nil)
theorem dpF_zip {K : PySem.W.Frag} {G : Hp} : ∀ (fs : List Str) {vs : List V} {ds : List PyData}, RpAll K G vs ds → DpF K G (fs.zip vs) (fs.zip ds)
  | [], _, _, _ => .nil
  | _ :: _, _, _, .nil => .nil
  | f :: fs, _, _, .cons a t => .cons a (dpF_zip fs t)
theorem xf_ok {K : PySem.W.Frag} (x : Str) (fs : List Str) (n : Nat) : ∀ (G : Hp) vs ds, vs.length = n → RpAll K G vs ds → DpF K G (xfV x fs vs) (xfD x fs ds) := fun G vs ds _ r => dpF_append (dpF_rev (dpF_zip fs r)) (.cons (.str x) .nil)
end WH
namespace WH
open PySem PySem.Spec L2
variable [TabC] [ObjB]
theorem exT_ok {n : String} {bm : List Value} (h : exT n bm = true) : ∃ tl, BsX n tl ∧ refsT tl bm = true := by
  simp only [exT, Bool.or_eq_true, Bool.and_eq_true, beq_iff_eq] at h
  rcases h with ⟨rfl, h⟩ | ⟨rfl, h⟩ | ⟨rfl, h⟩
  · exact ⟨_, bsx_VE, h⟩
  · exact ⟨_, bsx_LE, h⟩
  · exact ⟨_, bsx_IE, h⟩
theorem oexA_ok {K : PySem.W.Frag} {C : Addr} (q : oexA K C = true) : ∃ nw tl nm q N bs bm sn sub ab col dd k0 k1 k2 k3 k5, BsX nw tl ∧ K.lookup C = some (excClassObj nm q C N bs bm true sn sub ab col dd k0 k1 k2 k3 k5 nw) ∧ refsT tl bm = true := by
  unfold oexA at q
  split at q
  · rename_i dd cd sl ho
    split at q
    · rename_i C' bm k0 k1 k2 k3 n k5 hm hs
      simp only [Bool.and_eq_true, beq_iff_eq, Bool.not_eq_true'] at q
      obtain ⟨⟨⟨rfl, hdel⟩, hdi⟩, ht⟩ := q
      obtain ⟨tl, hB, ht⟩ := exT_ok ht
      obtain ⟨nm, bs, mro, ns, qn, hd, sn, sub, ab, col, del⟩ := cd
      dsimp only at hm hdel hdi
      subst hm hdel hdi
      have hsl : sl = #[k0, k1, k2, k3, some (.builtin n), k5] := by
        obtain ⟨l⟩ := sl
        simp only at hs
        rw [hs]
      subst hsl
      exact ⟨n, tl, nm, qn, ns, bs, bm, sn, sub, ab, col, dd, k0, k1, k2, k3, k5, hB, ho, ht⟩
    · cases q
  · cases q
theorem xcB_ok {K : PySem.W.Frag} {x : Str} {fs : List Str} (h : xcB K x fs = true) : XC K x fs := by
  simp only [xcB, Bool.and_eq_true, decide_eq_true_eq, List.all_eq_true] at h
  obtain ⟨⟨⟨⟨⟨⟨⟨h1, h2⟩, h3⟩, h4⟩, h5⟩, h6⟩, h7⟩, h8⟩ := h
  exact ⟨⟨oexA_ok h1, h2, h3, h4, h5⟩, h6, h7, h8⟩
def spL (K : PySem.W.Frag) (mg : Str → Option Value) (C : Ct) : Sp := fun vs H Q _ => PSp K mg C vs H Q fun _ _ _ => False
theorem sqL_nt {K : PySem.W.Frag} {H : Hp} {a : Addr} {xs : List V} (h : SqL K H a xs) : SqL K (nt H) a xs := by
  rcases h with (h | ⟨o, h⟩) | h
  · exact Or.inl (Or.inl (nt_of h fun _ z => by cases z))
  · exact Or.inl (Or.inr ⟨o, nt_of h fun _ z => by cases z⟩)
  · exact Or.inr h
theorem law_sp {K : PySem.W.Frag} {mg : Str → Option Value} {C : Ct} (hC : ∀ (ns : List Int) (R : Slot → Prop), ns.length ≤ 63 → R (.sh (.bool true)) → C [scrD ns] R fun _ => False) (H : Hp) (a : Addr) (ns : List Int) (hl : ns.length ≤ 63) (hS : SqL K H a (ns.map V.int)) (tb : LamX.Tabs TabC.T H) : spL K mg C [.ref a] H (fun v _ => v = .bl true) fun _ _ _ => False := by
  refine ⟨nt H, [scrD ns], fun s => s = .sh (.bool true), fun _ => False, Same.refl _, tb, .cons (.scr (sqL_nt hS)) .nil, hC ns _ hl rfl, fun s v H' r e => ?_, fun _ _ _ _ _ _ _ _ _ _ z => z.elim⟩
  subst e
  obtain ⟨G', _, _, _, _, r⟩ := r
  cases r
  rfl
end WH
namespace WH
open PySem PySem.Spec L2 PyProof.Rows LamX
variable [TabC] [ObjB]
abbrev lamN (X : Cx) (A : Around) (outer : List Env) (s : Shared) (H : Hp) (E : XK) (scope : Scope) (f c' : Addr) : Cx :=
  (lamCx X A outer s H E scope f c').tr [] fun e s' => wpAny (model X.prog X.w) (A.deeper (lamEnv X scope s.heap.objs.size f c')) (leaving (lamEnv X scope s.heap.objs.size f c') e) (fun _ s2 => L2N.CX X.prog X.w outer H s E e s2) (fun e' s2 => L2N.CX X.prog X.w outer H s E e' s2) s'
section
variable {X : Cx} {pins : List (Addr × Obj)} {σ : L2.St} {H : Hp} {s : Shared}
theorem pe_actN {CXg : CXT} {Eg : XK} {Ng : List Str} {qg : Str} {sg : Scope} {g f c' : Addr} {cdg pm ctv : Value} {params : Arguments} {body : Expr} {scope : Scope} {k i : Nat} {a : Str} {pn : List (Addr × Obj)} {xe : Value → Shared → Prop} {V : WX} {E : XK} {tb : TE} {p1 p2 : Pos}
    (I : Inv X pins σ H s) (L : LamS X.env.scope scope) (hf : s.heap.get? f = some (PySem.W.kla_obj "<lambda>" (X.env.qual ++ "<lambda>") params body scope (cloFrom X.env.cells scope.names []) pm c' ctv)) (hfn : H f = none) (hfr : f ∉ frs X.stack)
    (hbind : bindArgs (PySem.W.kla_fn "<lambda>" (X.env.qual ++ "<lambda>") params body scope (cloFrom X.env.cells scope.names []) pm (.ref c') ctv) ⟨[], []⟩ = pure [])
    (tk : L2N.Takes ((cxOf CXg X.prog X.w X.K X.mg X.base Ng qg sg g cdg X.A X.stack s H Eg).tr pn xe) V) (hr : Room (k + 1) (X.A.deeper (envOfC qg sg s.heap.objs.size g cdg)))
    (hbody : ∀ (A : Around) (outer : List Env) (s : Shared) (H : Hp), Room k (A.deeper (lamEnv X scope s.heap.objs.size f c')) → PE (lamN X A outer s H E scope f c') body tb)
    (hN : Ng[i]? = some a) (hv : Vis sg a) (hd : (a == ("__debug__" : Str)) = false) (hcd : (a == ("__classdict__" : Str)) = false) :
    PE ((cxOf CXg X.prog X.w X.K X.mg X.base Ng qg sg g cdg X.A X.stack s H Eg).tr pn xe) (.Call (.Name a p1) [] [] p2)
      (fun σZ HZ Q => σZ[i]? = some (some (.ref f)) ∧ HZ c' = some (CodeO c' (X.env.qual ++ "<lambda>")) ∧ (∀ cls d H', E cls d H' → V cls d σZ H') ∧ tb σ HZ Q) := ⟨fun pinsZ sZ σZ HZ Q IZ h => by
  obtain ⟨hs, hc, hV, ht⟩ := h
  refine wpAny_Call_Name_kw (thn ((pe_var (pos := p1) (i := i) hN hv hd hcd).run pinsZ sZ σZ HZ (fun v H1 => v = .ref f ∧ H1 = HZ) IZ ⟨.ref f, hs, rfl, rfl⟩) fun u s1 z => ?_)
  obtain ⟨v, H1, I1, r1, ev, eH⟩ := z
  subst ev
  rw [eH] at I1
  obtain rfl : u = Value.ref f := r1
  have of1 := I1.base.keep f _ hf hfn hfr (fun z => nomatch (show f ∈ ([] : List Addr) from z))
  refine PySem.W.callWith_F0 ⟨_, _, _, _, of1⟩ ?_
  have un : Un (frs X.stack) [] H HZ s.heap s1.heap := I1.base
  obtain ⟨⟨oc, vs, t, hoc, hdc, hvc⟩, _, _⟩ := I1.hok c' _ hc
  have eB : Env := envOfC qg sg s.heap.objs.size g cdg
  have rc : codeAny (model X.prog X.w) (X.A.deeper (envOfC qg sg s.heap.objs.size g cdg)) (.call (.ref f) ⟨[], []⟩) (CR (L2N.CX X.prog X.w) (envOfC qg sg s.heap.objs.size g cdg :: X.stack) X.prog X.w HZ s1 Q E) s1 := by
    refine PySem.W.kla_callFunE hr.depth of1 rfl L.co L.gen rfl ⟨c', oc, vs, t, rfl, hoc, hdc, hvc⟩ ?_
    rw [hbind]
    refine wpAny_pure (wpAny_newFunctionEnv (fun y hy => (L.own y hy).2) (fun y hy => absurd hy (by simp)) (fun h₁ hns hsb => ⟨I1.nolimit.fresh _ hsb, ?_⟩) L.kind)
    have kp : ∀ b o, s1.heap.get? b = some o → h₁.get? b = some o := fun b o e => hsb.extBut b o (Nat.ne_of_lt (Heap.lt_size e)) (Heap.get?_push_of_some _ e)
    have J0 : Inv (lamCx X (X.A.deeper (envOfC qg sg s.heap.objs.size g cdg)) (envOfC qg sg s.heap.objs.size g cdg :: X.stack) s1 HZ E scope f c') [] σ HZ { s1 with heap := h₁, toks := s1.toks + ([] : List (Str × Value)).length } := lam_start2 I L I1.env0 hr.hd un hns kp
    have J := J0.toTry (fun e s' => wpAny (model X.prog X.w) ((X.A.deeper (envOfC qg sg s.heap.objs.size g cdg)).deeper (lamEnv X scope s1.heap.objs.size f c')) (leaving (lamEnv X scope s1.heap.objs.size f c') e) (fun _ s2 => L2N.CX X.prog X.w (envOfC qg sg s.heap.objs.size g cdg :: X.stack) HZ s1 E e s2) (fun e' s2 => L2N.CX X.prog X.w (envOfC qg sg s.heap.objs.size g cdg :: X.stack) HZ s1 E e' s2) s')
    have z := (hbody (X.A.deeper (envOfC qg sg s.heap.objs.size g cdg)) (envOfC qg sg s.heap.objs.size g cdg :: X.stack) s1 HZ (hr.deeper _)).run [] _ _ HZ Q J ht
    refine PySem.W.kla_codeExpr (wpAny_mono z (fun v s' hq => ?_) fun e s' hq => hq)
    obtain ⟨w', H', J', rv, q⟩ := hq
    exact ⟨w', H', J'.os, J'.bare, J'.base, J'.hok, rv, q⟩
  refine wpAny_call (codeAny_mono rc fun r s' hq => ?_)
  cases r with
  | error e => exact tk e s' (L2N.XE.of_call I1 hV hq)
  | ok fl =>
    cases fl with
    | ret u => exact I1.after hq
    | _ => exact False.elim hq⟩
end
def GivesN (X : Cx) (Ng : List Str) (x : Str) (sg : Scope) (g : Addr) (cdg : Value) (bg : List Stmt) (a : Str) (q : Str) (k : Nat) (TT : (XK → Hp → VK → Prop) → Hp → VK → Prop) : Prop :=
  ∀ (f c' : Addr) (s : Shared) (H : Hp) (Q : VK) (tl : XK → Hp → VK → Prop), Room (k + 1) (X.A.deeper (envOfC x sg s.heap.objs.size g cdg)) →
    (∀ (V : WX) (pn : List (Addr × Obj)) (xe : Value → Shared → Prop) (E : XK) (p1 p2 : Pos), L2N.Takes ((cxOf L2.CX0 X.prog X.w X.K X.mg X.base Ng x sg g cdg X.A X.stack s H L2.E0).tr pn xe) V →
      PE ((cxOf L2.CX0 X.prog X.w X.K X.mg X.base Ng x sg g cdg X.A X.stack s H L2.E0).tr pn xe) (.Call (.Name a p1) [] [] p2) (fun σZ HZ Q => σZ[0]? = some (some (.ref f)) ∧ HZ c' = some (CodeO c' q) ∧ (∀ cls d H', E cls d H' → V cls d σZ H') ∧ tl E HZ Q)) →
    H c' = some (CodeO c' q) → TT tl H Q →
    ∃ t, PSs (cxOf L2.CX0 X.prog X.w X.K X.mg X.base Ng x sg g cdg X.A X.stack s H L2.E0) bg t ∧ t { nx := fun _ H' => Q .non H', rt := Q } (L2.start Ng [.ref f]) H
section
variable {X : Cx}
theorem pe_lamN {T : List (Addr × Str)} {TT : (XK → Hp → VK → Prop) → Hp → VK → Prop} {x a : Str} {g c P : Addr} {k : Nat} {pg : Arguments} {bg : List Stmt} {sg : Scope} {dV kV doc pm cdv ct oc : Value} {an od : Option Addr} {osl : Array (Option Value)} {Ng : List Str}
    {params : Arguments} {body : Expr} {scope : Scope} {t : XK → TE} {p lpos pos : Pos} (hg : Gl X x) (hm : X.mg x = some (.ref g)) (hk : PySem.W.keepIn X.K (.ref g) = true)
    (lk : X.K.lookup g = some ⟨oc, od, .func (PySem.W.fnOf x x pg bg sg dV kV doc pm an cdv ct), osl⟩) (hcg : PySem.W.codeIn X.K cdv x = true) (hb : L2.Binds X.K (PySem.W.fnOf x x pg bg sg dV kV doc pm an cdv ct) [a] []) (Sg : FnScope Ng [a] sg) (hNg : Ng[0]? = some a) (hva : Vis sg a)
    (hG : GivesN X Ng x sg g cdv bg a (X.env.qual ++ "<lambda>") k TT)
    (TB : TabB X.base X.mg c P) (hcode : X.env.code = .ref c) (hmT : (P, X.env.qual ++ "<lambda>") ∈ T) (hu : ∀ p ∈ T, p.1 = P → p.2 = X.env.qual ++ "<lambda>") (hr : Room (k + 2) X.A) (L : LamS X.env.scope scope) (hdef : defaultsOf params X.env = ([], []))
    (hbind : ∀ (q : Str) (cl : List (Str × Addr)) (pm cv ctv : Value), bindArgs (PySem.W.kla_fn "<lambda>" q params body scope cl pm cv ctv) ⟨[], []⟩ = pure [])
    (hbody : ∀ (A : Around) (outer : List Env) (s : Shared) (H : Hp) (E : XK) (f c' : Addr), Room k (A.deeper (lamEnv X scope s.heap.objs.size f c')) → PE (lamN X A outer s H E scope f c') body (t E))
    (hdb : (x == ("__debug__" : Str)) = false) (hd : (a == ("__debug__" : Str)) = false) (hcd : (a == ("__classdict__" : Str)) = false) :
    PE X (.Call (.Name x p) [.Lambda params body scope lpos] [] pos) (tLam T TT t) := ⟨fun pins s σ H Q I h => by
  obtain ⟨hT, h⟩ := h
  refine wpAny_Call_Name_kw (ld_glob I hg hm ?_ hdb)
  refine PySem.W.callWith_K (h₀ := X.base) I.ok.mod.kin hk ?_ (by rfl) (by rfl)
  refine Calls.spliced_cons (lam_make2 I TB hcode hmT hu hT hdef (L.has I.ok) fun f c' pm' ctv H1 s' I1 eN T1 hf hfn hfr hco => ?_)
  refine Calls.spliced_nil ⟨I1.kIn, ?_⟩
  have rc : codeAny (model X.prog X.w) X.A (.call (.ref g) ⟨[.ref f], []⟩) (CR L2.CX0 X.stack X.prog X.w H1 s' Q L2.E0) s' :=
    run_ofS (N := Ng) (ps := [a]) (us := [.ref f]) (vs := [.ref f]) lk hcg Sg hr I1.env0 (hb s' [.ref f] I1.kIn rfl) (.cons rfl .nil) rfl fun hr' =>
      hG f c' s' H1 Q (fun E H' Q' => t E σ H' Q') hr' (fun V pn xe E p1 p2 tk => pe_actN (i := 0) I1 L hf hfn hfr (hbind _ _ _ _ _) tk hr' (fun A outer s H hr2 => hbody A outer s H E f c' hr2) hNg hva hd hcd) hco (h H1 eN T1)
  refine wpAny_call (codeAny_mono rc fun r s2 hq => ?_)
  cases r with
  | error e => exact (show False from hq).elim
  | ok fl =>
    cases fl with
    | ret u => exact I1.after hq
    | _ => exact False.elim hq⟩
end
end WH
namespace WH
open PySem PySem.Spec L2 PyProof.Rows
variable [TabC] [ObjB]
theorem flyZ_keeps {B h h' : Heap} {l : List Env} {e : Addr} {Z : Obj → Prop} (R : HandSPX.FlyingZ B l e Z h) (k : ∀ b o, h.get? b = some o → h'.get? b = some o) : HandSPX.FlyingZ B l e Z h' := by
  obtain ⟨f1, f2, f3, oe, ws, T, oT, ts, he, hz, hd, h1, hn, hne, hT, hdT, h3⟩ := R
  exact ⟨fun b o q => k b o (f1 b o q), f2, f3.of_keeps fun b o q _ => ⟨o, k b o q, rfl⟩, oe, ws, T, oT, ts, k _ _ he, hz, hd, h1, hn, hne, k _ _ hT, hdT, h3⟩
section
variable {X : Cx}
theorem suite_ty {a : Addr} {oe : Obj} {pn : List (Addr × Obj)} {σ : L2.St} {H : Hp} {s : Shared} {cls : Value} {M : Model} (S : Inv (X.suite a ((a, oe) :: pn)) [] σ H s) (hc : oe.cls = cls) : PySem.W.Looks M s.heap (typeOf (.ref a)) cls := fun A Q E s2 k q =>
  wpAny_typeOf_ref (k _ _ (S.pin (a, oe) (List.mem_append.mpr (.inl List.mem_cons_self))).1) (by rw [hc]; exact q)
theorem tst1 {x : Str} {c : Value} {np : Pos} (hm : X.mg x = some c) (hg : Gl X x) (hdb : (x == ("__debug__" : Str)) = false) : Tst X (.Name x np) [c] := fun a oe pn σ H s cls b S hc he Q E q => by
  obtain ⟨b1, d1, e1, e2, rfl⟩ := PySem.W.exmAny_cons he
  cases e2
  rw [Bool.or_false] at q
  exact ld_glob (X := X.suite a ((a, oe) :: pn)) S hg hm ((PySem.W.exm_one S.kIn (suite_ty S hc) e1).here (q s.heap fun _ _ z => z)) hdb
theorem tst3 {x y z : Str} {c1 c2 c3 : Value} {p1 p2 p3 tp : Pos} {kk : Nat} (m1 : X.mg x = some c1) (m2 : X.mg y = some c2) (m3 : X.mg z = some c3) (g1 : Gl X x) (g2 : Gl X y) (g3 : Gl X z) (d1 : (x == ("__debug__" : Str)) = false) (d2 : (y == ("__debug__" : Str)) = false) (d3 : (z == ("__debug__" : Str)) = false) :
    Tst X (.Tuple [.Name x p1, .Name y p2, .Name z p3] kk tp) [c1, c2, c3] := fun a oe pn σ H s cls b S hc he Q E q => by
  have ld : ∀ {v : Str} {c : Value} {np : Pos} {Q : Value → Shared → Prop}, Gl X v → X.mg v = some c → (v == ("__debug__" : Str)) = false → Q c s → wpAny (model X.prog X.w) (X.A.mark (some (.ref a))) (eval (.Name v np) X.env) Q E s := fun {v c np Q} g m d h => ld_glob (X := X.suite a ((a, oe) :: pn)) S g m h d
  refine wpAny_Tuple (wpAny_items_cons (ld g1 m1 d1 (wpAny_items_cons (ld g2 m2 d2 (wpAny_items_cons (ld g3 m3 d3 (wpAny_items_nil ⟨by size_fits, ?_⟩)))))))
  have kp : ∀ u o, s.heap.get? u = some o → (s.heap.push { cls := .type "tuple", data := .seq [c1, c2, c3].toArray }).get? u = some o := fun _ _ h => Heap.get?_push_of_some _ h
  exact (PySem.W.exm_tup3 (S.kIn.keeps kp) ((suite_ty S hc).keeps kp) (Heap.get?_push_size s.heap rfl) he).here (q _ kp)
end
abbrev asEnds (i : Nat) (D : Ends) : Ends := { nx := fun σ' H' => D.nx (σ'.set i none) H', rt := D.rt, bk := fun σ' H' => D.bk (σ'.set i none) H', ct := fun σ' H' => D.ct (σ'.set i none) H' }
def wAll (K : PySem.W.Frag) (i : Nat) (D : Ends) : List (List Value × (Addr → Value → Option Addr → TS)) → WX
  | [] => fun _ _ _ _ => False
  | (cs, ts) :: r => fun cls d σ H => ∃ b, PySem.W.exmAny K cls cs = some b ∧ (b = true → ∀ a, H a = none → ts a cls d (asEnds i D) (σ.set i (some (.ref a))) H) ∧ (b = false → wAll K i D r cls d σ H)
theorem ps_tryA {X : Cx} {n : Str} {i : Nat} {body : List Stmt} {h0 : ExceptHandler} {hds : List ExceptHandler} {l : List (List Value × (Addr → Value → Option Addr → TS))} {pos : Pos} {tb : WX → TS} (hs : X.stack = X.env :: X.outer) (hf : X.env.frame = some X.env.locals)
    (hN : X.N.Nodup) (hi : X.N[i]? = some n) (hln : X.env.kindOf n = some .local)
    (hb : ∀ (W : WX) (pn : List (Addr × Obj)) (xe : Value → Shared → Prop), L2N.Takes (X.tr pn xe) W → PassesOwn (model X.prog X.w) X.A X.env xe → PSs (X.tr pn xe) body (tb W))
    (hh : Hds X n (h0 :: hds) l) : PS X (.Try body (h0 :: hds) [] [] pos) (fun D σ H => tb (wAll X.K i D l) D σ H) := ⟨fun pins s σ H D I h => by
  have ok := I.ok
  have hfr : X.A.frames = some (X.env :: X.outer) := by rw [ok.frames, hs]
  have hloc : Loc X.env.scope n := .inl hln
  refine wpAny_Try_except ?_
  have hB := hb (wAll X.K i D l) (X.pn ++ pins) (fun e s₁ => wpAny (model X.prog X.w) X.A (noteFrame e X.env) (fun _ s₂ => wpAny (model X.prog X.w) X.A (setFlight e none) (fun _ s₃ => wpAny (model X.prog X.w) X.A (handleBy e X.env (h0 :: hds)) (SP X pins D) X.xe s₃) X.xe s₂) X.xe s₁)
  refine wpAny_mono ((hB (fun u s' xx => ?_) PassesOwn.looking).run [] s σ H D (I.toTry _) h) (fun f s1 hsp => ?_) (fun e s1 he => he)
  · obtain ⟨a, B, sI, pins', σ', H', cls, d, rfl, J', nb, up, sky, na, os, ag, w⟩ := xx
    have J : Inv X pins σ' H' sI := J'.ofTry ok
    have sky' : Sky B (X.env :: X.outer) a (L2N.Zn cls d) X.env.locals s'.heap := by rw [← hs]; exact sky
    show wpAny (model X.prog X.w) X.A (noteFrame (.ref a) X.env) _ _ _
    refine L2N.Sky.land L2N.Zn.steady hfr hf sky' fun h3 fl3 up3 => ?_
    have go : ∀ {hds' : List ExceptHandler} {l' : List (List Value × (Addr → Value → Option Addr → TS))}, Hds X n hds' l' → wAll X.K i D l' cls d σ' H' → ∀ h3 : Heap, HandSPX.FlyingZ B (X.env :: X.outer) a (L2N.Zn cls d) h3 → s'.heap.UpToSlots h3 →
        wpAny (model X.prog X.w) X.A (handleBy (.ref a) X.env hds') (SP X pins D) X.xe { s' with heap := h3 } := by
      intro hds' l' hk
      induction hk with
      | nil => intro w; exact w.elim
      | @cons te cs ts b0 suite pos' hds2 l2 ht hsu r ih =>
        intro w h3 fl3 up3
        obtain ⟨b, hb1, hyes, hno⟩ := w
        have J3 : Inv X pins σ' H' { s' with heap := h3 } := J.landed nb fl3.1 (up.trans up3) os ag
        obtain ⟨oe3, vs3, he3, hz3, hd3⟩ := fl3.there
        have nfr : a ∉ frs (X.env :: X.outer) := fun hm => by
          obtain ⟨_, o', e', hnf⟩ := fl3.2.2.1.mem hm
          rw [he3] at e'
          cases e'
          exact hnf _ hd3
        have nL : a ≠ X.env.locals := fun z => nfr (List.mem_filterMap.mpr ⟨X.env, List.mem_cons_self, by rw [hf, z]⟩)
        have nF : a ∉ X.fs := fun hm => by
          obtain ⟨e, he, q⟩ := List.mem_filterMap.mp hm
          exact nfr (List.mem_filterMap.mpr ⟨e, List.mem_cons_of_mem _ he, q⟩)
        have S3 := J3.suite he3 hd3 na nL nF
        refine wpAny_handleBy_cons (codeAny_handlers_test (ht a oe3 (X.pn ++ pins) σ' H' _ cls b S3 hz3.1 hb1 _ _ fun h5 kp => ?_)) (by intro q; cases q)
        have fl5 := flyZ_keeps fl3 kp
        have up5 : s'.heap.UpToSlots h5 := up3.trans (Heap.UpToSlots.of_keeps kp)
        cases b with
        | true =>
          refine codeAny_handlers_suite_as (HandSPX.lands_againZ fl5 fun h4 fl4 up4 => ?_)
          have J4 : Inv X pins σ' H' { s' with heap := h4 } := J.landed nb fl4.1 ((up.trans up5).trans up4) os ag
          obtain ⟨oe4, vs4, he4, hz4, hd4⟩ := fl4.there
          have S4 := J4.suite he4 hd4 na nL nF
          refine store_ok (X := X.suite a ((a, oe4) :: (X.pn ++ pins))) (v := .ref a) S4 hN hi hloc rfl (fun s5 S5 => ?_) (.inr hln)
          refine wpAny_mono ((hsu a oe4 cls d (X.pn ++ pins) hz4 ⟨_, hd4⟩).run [] s5 _ H' _ S5 (hyes rfl a na)) (fun f s6 hsp => ?_) (fun _ _ z => False.elim z)
          have fin : ∀ {σ6 : L2.St} {H6 : Hp} {Q : Shared → Prop}, Inv (X.suite a ((a, oe4) :: (X.pn ++ pins))) [] σ6 H6 s6 → (∀ s7, Inv X pins (σ6.set i none) H6 s7 → Q s7) →
              wpAny (model X.prog X.w) X.A (do bindName X.env n .none; unbindBehindTheSuite X.env n pos') (fun _ s7 => Q s7) X.xe s6 := fun {σ6 H6 Q} S6 hq => gone_ok (S6.unsuite ok) hN hi hln hq
          cases f with
          | ret u =>
            obtain ⟨v6, σ6, H6, S6, r6, q6⟩ := hsp
            exact fin S6 fun s7 J7 => ⟨_, _, _, J7, r6, q6⟩
          | _ =>
            obtain ⟨σ6, H6, S6, q6⟩ := hsp
            exact fin S6 fun s7 J7 => ⟨_, _, J7, q6⟩
        | false => exact ih (hno rfl) h5 fl5 up5
    exact go hh w h3 fl3 up3
  · cases f with
    | next =>
      obtain ⟨σ', H', J', q⟩ := hsp
      exact wpAny_execs_nil ⟨σ', H', J'.ofTry ok, q⟩
    | ret u =>
      obtain ⟨v, σ', H', J', r, q⟩ := hsp
      exact ⟨v, σ', H', J'.ofTry ok, r, q⟩
    | _ =>
      obtain ⟨σ', H', J', q⟩ := hsp
      exact ⟨σ', H', J'.ofTry ok, q⟩⟩
end WH
namespace WH
open PySem PySem.Spec L2 PyProof.Rows HotX L2H
section
variable {prog : Program} {w : World} {A : Around} {E : Value → Shared → Prop} {s : Shared}
theorem next_end_hot {it l x1 : Addr} {i : Nat} {items : Array Value} {Q : Value → Shared → Prop} (hot : HotAt A x1 s.heap) (nx : x1 ≠ it) (hit : s.heap.IsListIter it l i) (hl : s.heap.IsList l items) (hx : items[i]? = none)
    (hE : ∀ h' e, Heap.ExtBut it s.heap h' → (∃ o, h'.get? e = some o ∧ o.cls = .type "StopIteration") → E (.ref e) { s with heap := h' }) :
    wpAny (model prog w) A (Builtin.SmallTypes.nextOf (.ref it)) Q E s := by
  obtain ⟨o, ho, hc, hd⟩ := id hit
  obtain ⟨ol, hol, _, nl, hdl⟩ := hl
  obtain ⟨hh, o1, vs1, h1, d1, c1⟩ := hot
  unfold Builtin.SmallTypes.nextOf
  refine wpAny_bind (wpAny_callSpecial?_slot (name := Str.ofString "__next__") hit.typeIs slot_listiter_next (wpAny_call_entry slot_listiter_next hit.typeIs entry_listiter_next ?_ (args_listiter_next _)))
  show wpAny _ _ (field (.ref it) 0 >>= _) _ _ s
  refine wpAny_bind (wpAny_field ho hd (x := .ref l) rfl ?_)
  show wpAny _ _ (if (Value.ref l == Value.none) = true then _ else _) _ _ s
  rw [if_neg (show ¬ ((Value.ref l == Value.none) = true) from Bool.false_ne_true)]
  show wpAny _ _ (field (.ref it) 1 >>= _) _ _ s
  refine wpAny_bind (wpAny_field ho hd (x := .int i 0) rfl ?_)
  show wpAny _ _ (seqItems? (.ref l) >>= _) _ _ s
  refine wpAny_bind (wpAny_seqItems hol hdl ?_)
  simp only [Int.toNat_natCast, hx]
  refine wpAny_bind (wpAny_rule (wpAny_bind (wpAny_setField ho hd (by simp) ?_)))
  show wpAny _ _ (newExc (.type "StopIteration") [] >>= _) _ _ _
  refine wpAny_bind ?_
  simp only [newExc, newTuple]
  refine wpAny_bind (wpAny_newObj_type ?_ (by size_fits))
  refine wpAny_bind (m := firstArgMember _ _) (wpAny_of_eq (a := Value.none) (by first | rfl | (simp only [firstArgMember]; rfl)) ?_)
  refine wpAny_newObj_type ?_ (by size_fits)
  have g1 : (s.heap.update it (Obj.mapFields (·.setIfInBounds 0 Value.none))).get? x1 = some o1 := by rw [Heap.get?_update_other _ _ nx.symm]; exact h1
  refine raiseNew_hot ⟨hh, o1, vs1, Heap.get?_push_of_some _ (Heap.get?_push_of_some _ g1), d1, c1⟩ (Nat.ne_of_lt (Heap.lt_size (Heap.get?_push_of_some _ g1))) (Heap.get?_push_size _ rfl) rfl (by first | (simp; done) | (simp; omega) | (simp only [Array.size_append]; simp; omega)) ?_
  refine hE _ _ (fun b u nb e => ?_) ⟨_, Heap.get?_update_self _ (Heap.get?_push_size _ rfl) rfl, rfl⟩
  have g2 : (s.heap.update it (Obj.mapFields (·.setIfInBounds 0 Value.none))).get? b = some u := by rw [Heap.get?_update_other _ _ (Ne.symm nb)]; exact e
  rw [Heap.get?_update_other _ _ (Nat.ne_of_gt (Heap.lt_size (Heap.get?_push_of_some _ g2)))]
  exact Heap.get?_push_of_some _ (Heap.get?_push_of_some _ g2)
theorem zip_end_hot {z TI TO i1 i2 l1 l2 x1 : Addr} {k1 : Nat} {xs : Array Value} {a b : Value} {Q : Option Value → Shared → Prop} (hot : HotAt A x1 s.heap) (n1 : x1 ≠ z) (n2 : x1 ≠ i1) (D : ZipApart z TI TO i1 i2 l1 l2)
    (hz : IsZip s.heap z TI TO .none) (hTI : IsPair s.heap TI (.ref i1) (.ref i2)) (hTO : IsPair s.heap TO a b)
    (h1 : s.heap.IsListIter i1 l1 k1) (hl1 : s.heap.IsList l1 xs) (hend : xs[k1]? = none)
    (hQ : ∀ h', (∀ c o, c ≠ z → c ≠ TO → c ≠ i1 → c ≠ i2 → s.heap.get? c = some o → h'.get? c = some o) → Q none { s with heap := h' }) : wpAny (model prog w) A (pyNext (.ref z)) Q E s := by
  have hT : s.TypeIs (.ref z) "zip" := ⟨_, hz, rfl⟩
  unfold pyNext
  refine wpAny_bind (wpAny_attempt (wpAny_callSpecial?_slot (name := Str.ofString "__next__") hT F.slot_zip_next (wpAny_call_entry F.slot_zip_next hT F.entry_zip_next ?_ (F.args_zip_next_1 _))))
  show wpAny _ _ (field (.ref z) 2 >>= _) _ _ _
  refine wpAny_bind (wpAny_field hz rfl (x := .bool false) rfl ?_)
  show wpAny _ _ (field (.ref z) 3 >>= _) _ _ _
  refine wpAny_bind (wpAny_field hz rfl (x := .ref TI) rfl ?_)
  refine wpAny_bind (wpAny_seqItems hTI rfl ?_)
  show wpAny _ _ (Builtin.SmallTypes.ownedTupleIsFree (.ref z) >>= _) _ _ _
  refine wpAny_bind ?_
  unfold Builtin.SmallTypes.ownedTupleIsFree
  refine wpAny_bind (wpAny_field hz rfl (x := .none) rfl (wpAny_pure ?_))
  simp only [if_true]
  refine wpAny_bind (wpAny_rule ?_)
  refine wpAny_bind (wpAny_field hz rfl (x := .ref TO) rfl ?_)
  refine wpAny_bind (wpAny_setField_rec hz (by simp) fun h₁ hz₁ hs₁ => ?_)
  replace hz₁ : IsZip h₁ z TI TO .ellipsis := hz₁
  refine wpAny_bind ?_
  simp only [List.zipIdx_cons, List.zipIdx_nil, List.forIn_cons, List.forIn_nil]
  refine wpAny_bind (wpAny_bind (wpAny_onRaise ?_))
  show wpAny _ _ (Builtin.SmallTypes.nextOf (.ref i1) >>= _) _ _ _
  obtain ⟨hh, o1, vs1, g1, d1, c1⟩ := hot
  have hot1 : HotAt A.in1 x1 h₁ := ⟨hh, o1, vs1, hs₁.extBut _ _ n1 g1, d1, c1⟩
  refine wpAny_bind (next_end_hot (s := { s with heap := h₁ }) hot1 n2 (h1.extBut hs₁.extBut D.i1z) (hl1.extBut hs₁.extBut D.l1z) hend fun h₂ e hs₂ he => ?_)
  obtain ⟨oe, hoe, hce⟩ := he
  have hz₂ : IsZip h₂ z TI TO .ellipsis := hs₂ _ _ D.i1z.symm hz₁
  have hez : e ≠ z := fun x => by subst x; rw [hz₂] at hoe; cases hoe; simp at hce
  refine wpAny_setField_rec hz₂ (by simp) fun h₃ _ hs₃ => ?_
  refine wpAny_bind (wpAny_isInstance (T := "StopIteration") (b := true) ⟨oe, hs₃.extBut _ _ hez hoe, hce⟩ isSubtype_stop ?_)
  exact wpAny_pure (hQ _ fun c o c1 _ c3 _ x => hs₃.extBut _ _ c1 (hs₂ _ _ c3 (hs₁.extBut _ _ c1 x)))
end
def ItzF (K : PySem.W.Frag) (a b : Addr) : It :=
  ⟨(Itz K a b).go, (Itz K a b).yld, fun i H => ∃ xs ys : List V, SqL K H a xs ∧ SqL K H b ys ∧ xs.length ≤ i⟩
theorem turn_zipH {P : Program} {w : World} {K : PySem.W.Frag} {elts : List Expr} {kk : Nat} {tpos : Pos} {a b z TI TO i1 i2 : Addr} (D : ZipApart z TI TO i1 i2 a b) :
    TurnH P w K (.Tuple elts kk tpos) (ItzF K a b) [z, TI, TO, i1, i2] z (fun i h => IsZip h z TI TO .none ∧ IsPair h TI (.ref i1) (.ref i2) ∧ (∃ x y, IsPair h TO x y) ∧ h.IsListIter i1 a i ∧ h.IsListIter i2 b i) where
  mem := by simp
  obj := (turn_zip (P := P) (w := w) (K := K) (elts := elts) (kk := kk) (tpos := tpos) D).obj
  keep := (turn_zip (P := P) (w := w) (K := K) (elts := elts) (kk := kk) (tpos := tpos) D).keep
  item := by
    intro X hP hw hK hc i pins s σ H E I hf st hg
    subst hP hw hK
    obtain ⟨hz, hTI, ⟨x0, y0, hTO⟩, h1, h2⟩ := st
    obtain ⟨xs, ys, x, y, hqx, hqy, hx, hy⟩ := hg
    obtain ⟨its, rv, p, _⟩ := I.list hqx
    obtain ⟨its2, rv2, p2, _⟩ := I.list hqy
    obtain ⟨u, hu, ru⟩ := rv.get hx
    obtain ⟨u2, hu2, ru2⟩ := rv2.get hy
    have hzl : z < s.heap.objs.size := Heap.lt_size hz
    refine wpAny_pyNext_zip_item D hz hTI hTO h1 h2 p.isList p2.isList (x := u) (y := u2) (by simpa using hu) (by simpa using hu2) fun h' z' TO' h1' h2' hT hsz hk => ?_
    refine ⟨_, rfl, wpAny_letOwnedTupleGo_zip (s := { s with heap := h' }) z' fun h3 z3 sb => ?_⟩
    have hT2 : h3.get? s.heap.objs.size = some { cls := .type "tuple", data := .seq #[u, u2] } := (sb.2 _ (Nat.ne_of_gt hzl)).trans hT
    have new : ObjOk X.prog X.w (upd H s.heap.objs.size (.tup [x, y])) h3 s.heap.objs.size (.tup [x, y]) := ⟨by show 2 ≤ sizeLine; decide, [u, u2], .cons ru (.cons ru2 .nil), ⟨_, hT2, rfl, _, rfl⟩⟩
    have I1 : Inv X pins σ (upd H s.heap.objs.size (.tup [x, y])) { s with heap := h3 } := I.turnedNew (t' := s.toks) (ch := [z, TI, TO, i1, i2]) (fun c o hb q => (sb.2 c (fun q' => hb (by simp [q']))).trans (hk c o (fun q' => hb (by simp [q'])) (fun q' => hb (by simp [q'])) (fun q' => hb (by simp [q'])) (fun q' => hb (by simp [q'])) q)) hf (Nat.le_refl _) new
    refine ⟨.ref s.heap.objs.size, _, I1, rfl, ⟨_, x, y, rfl, I.hok.fresh (Nat.le_refl _), rfl, fun l hl => by rw [I.list_inj hl hqx]; exact hx, fun l hl => by rw [I.list_inj hl hqy]; exact hy⟩, ⟨z3, (sb.2 _ D.TIz).trans (hk _ _ D.TIz D.TITO D.TIi1 D.TIi2 hTI), ⟨u, u2, (sb.2 _ D.TOz).trans TO'⟩, h1'.at fun o q => (sb.2 _ D.i1z).trans q, h2'.at fun o q => (sb.2 _ D.i2z).trans q⟩, fun c hcm => ?_⟩
    have hlt : c < s.heap.objs.size := by
      have e' : c = z ∨ c = TI ∨ c = TO ∨ c = i1 ∨ c = i2 := by simpa using hcm
      obtain ⟨_, e1, _⟩ := h1
      obtain ⟨_, e2, _⟩ := h2
      rcases e' with q | q | q | q | q <;> rw [q]
      · exact hzl
      · exact Heap.lt_size hTI
      · exact Heap.lt_size hTO
      · exact Heap.lt_size e1
      · exact Heap.lt_size e2
    rw [upd_ne (Nat.ne_of_lt hlt)]
    exact (hf c hcm).1
  done := by
    intro X hP hw hK hc i pins s σ H E I hf st hg
    subst hP hw hK
    obtain ⟨hz, hTI, ⟨x0, y0, hTO⟩, h1, h2⟩ := st
    obtain ⟨xs, ys, hqx, hqy, hend⟩ := hg
    obtain ⟨its, rv, p, _⟩ := I.list hqx
    have l1 := rv.length
    obtain ⟨pp, ⟨hh, v1, e1, c1⟩, hp⟩ := hc
    have hpin := I.pin pp (List.mem_append_left _ hp)
    have nz : pp.1 ≠ z := (hf z (by simp)).2.2.2.2.2 pp (List.mem_append_left _ hp)
    have ni : pp.1 ≠ i1 := (hf i1 (by simp)).2.2.2.2.2 pp (List.mem_append_left _ hp)
    exact zip_end_hot ⟨hh, pp.2, v1, hpin.1, e1, c1⟩ nz ni D hz hTI hTO h1 p.isList (by simp; omega) fun h' hk => ⟨rfl, I.turnedL (t' := s.toks) (ch := [z, TI, TO, i1, i2]) (fun c o hb q =>
      hk c o (fun q' => hb (by simp [q'])) (fun q' => hb (by simp [q'])) (fun q' => hb (by simp [q'])) (fun q' => hb (by simp [q'])) q) hf⟩
  self := fun A i s Q E st h => wpAny_pyIter_zip st.1 h
def iZipF (K : PySem.W.Frag) (ta : TA) : TI := fun σ H R => ta σ H fun vs H1 => ∃ a b xs ys, vs = [.ref a, .ref b] ∧ SqL K H1 a xs ∧ SqL K H1 b ys ∧ R (ItzF K a b) H1
theorem pi_zipH {X : Cx} {e e2 : Expr} {ta : TA} {p pos tpos : Pos} {elts : List Expr} {kk : Nat} (hg : Gl X "zip") (hm : X.mg "zip" = none) (ha : PA X [e, e2] ta)
    (hs : starEach [e, e2] X.env = (false, eval e X.env) :: starEach [e2] X.env := by rfl) (hpl : (backTo pos (starEach [e2] X.env)).any (·.1) = false := by rfl) :
    PIH X (.Tuple elts kk tpos) (.Call (.Name "zip" p) [e, e2] [] pos) (iZipF X.K ta) := ⟨fun pins s σ H R I h => by
  refine Call_ (ld_blt I hg hm PyProof.Rows.boot_zip (PyProof.Rows.callWith_type1 (thn (ha.run pos pins s σ H _ I h) fun us s1 z => ?_) hs hpl))
  obtain ⟨vs, H1, I1, r1, a, b, xs, ys, ex, hqx, hqy, q⟩ := z
  subst ex
  cases r1 with
  | cons r rr =>
    cases rr with
    | cons r' rr =>
      cases rr
      cases r
      cases r'
      obtain ⟨its, rv, p1, _⟩ := I1.list hqx
      obtain ⟨its2, rv2, p2, _⟩ := I1.list hqy
      have la : a < s1.heap.objs.size := p1.lt
      have lb : b < s1.heap.objs.size := p2.lt
      refine call_zip_2 p1.isList p2.isList fun h' hz hTI hTO h1 h2 hsz hk => wpAny_pyIter_zip hz ?_
      have I2 : Inv X pins σ H1 { s1 with heap := h' } := I1.kept (t' := s1.toks) hk
      refine ⟨s1.heap.objs.size + 4, [s1.heap.objs.size + 4, s1.heap.objs.size + 2, s1.heap.objs.size + 3, s1.heap.objs.size, s1.heap.objs.size + 1], _, _, H1, rfl, I2, turn_zipH (PySem.W.ktu_apart s1.heap.objs.size a b la lb), ⟨hz, hTI, ⟨_, _, hTO⟩, h1, h2⟩, fun c hcm => ?_, q⟩
      have hle : s1.heap.objs.size ≤ c := by
        have e' : c = s1.heap.objs.size + 4 ∨ c = s1.heap.objs.size + 2 ∨ c = s1.heap.objs.size + 3 ∨ c = s1.heap.objs.size ∨ c = s1.heap.objs.size + 1 := by simpa using hcm
        rcases e' with z | z | z | z | z <;> rw [z] <;> first | exact Nat.le_refl _ | exact Nat.le_add_right _ _
      exact I1.fpOk hle (I1.hok.fresh hle)⟩
abbrev blkH (X : Cx) (s : Shared) (H : Hp) (scope : Scope) (ce : Env) (fp : List Addr) : Cx := (X.blk s H scope ce fp).tr X.pn fun _ _ => False
section
variable {X : Cx}
theorem lc_hot {elt tg iter : Expr} {ifs : List Expr} {scope : Scope} {own : List (Str × Nat)} {pos : Pos} {wi : TI} {g : TG} {tt : TT} {te : TE} (hc : HotC X) (hN : X.N.Nodup) (hi : PIH X tg iter wi) (ok : BlkOk X.N X.env.scope scope own)
    (hg : ∀ (s : Shared) (H : Hp) (C : Addr) (cl : List (Str × Addr)) (fp : List Addr), PG (blkH X s H scope (compEnvC scope cl C X.env) fp) tg g) (ht : ∀ (s : Shared) (H : Hp) (C : Addr) (cl : List (Str × Addr)) (fp : List Addr), PTs (blkH X s H scope (compEnvC scope cl C X.env) fp) ifs tt)
    (he : ∀ (s : Shared) (H : Hp) (C : Addr) (cl : List (Str × Addr)) (fp : List Addr), PE (blkH X s H scope (compEnvC scope cl C X.env) fp) elt te) (hs : ∀ x, foldedSetIterable iter X.env x = pure x := by intro _; rfl) :
    PE X (.ListComp elt [⟨tg, iter, ifs, 0⟩] scope pos) (tLc wi g tt te (own.map (·.2))) := ⟨fun pins s σ H Q I h => by
  rw [eval_ListComp]
  have hfree : ∀ y ∈ scope.names, y.2 = .free → ∃ c, X.env.cells.lookup y.1 = some c := fun y hy e => I.ok.has _ (ok.free y hy e)
  refine wpAny_comprehension_free rfl hs (closure_ok hfree) ok.kind (fun y hy e => by rw [ok.uniq y hy, e]) (thn (hi.run pins s σ H _ I h) fun xv s1 hx => thn hx fun itv s2 h2 => ?_)
  obtain ⟨it, fp, tn, J, H2, e, I2, T, st2, f2, q⟩ := h2
  subst e
  refine wpAny_newObj_type (newEnv_comp ?_) (by show 0 ≤ sizeLine; decide)
  generalize hD : s2.heap.objs.size = D
  have hDn : H2 D = none := I2.hok.fresh (Nat.le_of_eq hD)
  obtain ⟨Wv, ⟨m0, w0⟩, turn⟩ := q D hDn
  generalize hs3 : ({ s2 with heap := s2.heap.push { cls := .type "list", data := .seq ([] : List Value).toArray } } : Shared) = s3
  have I3 : Inv X pins σ (upd H2 D (.lst [])) s3 := by
    rw [← hs3]
    refine I2.laid (t' := s2.toks) (fun b o e => Heap.get?_push_of_some _ e) (Nat.le_of_eq hD) ⟨Nat.zero_le _, [], 0, .nil, ?_⟩
    rw [← hD]
    exact Heap.get?_push_size _ rfl
  have h3 : s3.heap = s2.heap.push { cls := .type "list", data := .seq ([] : List Value).toArray } := by rw [← hs3]
  have f3 : ∀ b ∈ fp, FpOk X pins (upd H2 D (.lst [])) b ∧ b < s3.heap.objs.size := fun b hb => by
    obtain ⟨o, e, _⟩ := T.obj _ _ st2 b hb
    have hlt := Heap.lt_size e
    refine ⟨⟨?_, (f2 b hb).2⟩, by rw [h3, Heap.size_push]; exact Nat.lt_succ_of_lt hlt⟩
    rw [upd_ne (by rw [← hD]; exact Nat.ne_of_lt hlt)]
    exact (f2 b hb).1
  have st3 : tn 0 s3.heap := T.keep _ _ _ st2 fun b _ o e => by rw [h3]; exact Heap.get?_push_of_some _ e
  have I4 := block_start I3 ok hN f3
  have pg := hg s3 (upd H2 D (.lst [])) s3.heap.objs.size (cellsFrom (s3.heap.objs.size + 1) scope.names (cloFrom X.env.cells scope.names [])) fp
  have pt := ht s3 (upd H2 D (.lst [])) s3.heap.objs.size (cellsFrom (s3.heap.objs.size + 1) scope.names (cloFrom X.env.cells scope.names [])) fp
  have pe := he s3 (upd H2 D (.lst [])) s3.heap.objs.size (cellsFrom (s3.heap.objs.size + 1) scope.names (cloFrom X.env.cells scope.names [])) fp
  show codeAny _ _ (.compStart (.ListComp elt [⟨tg, iter, ifs, 0⟩] scope pos) 0 (.ref it) (.ref D) (compEnvC scope (cellsFrom (s3.heap.objs.size + 1) scope.names (cloFrom X.env.cells scope.names [])) s3.heap.objs.size X.env)) (compPost (model X.prog X.w) X.A X.xe none _ (.ref D) s3.heap.objs.size) { s3 with heap := pushCells (s3.heap.push { cls := .type "dict", data := .dict #[] }) scope.names }
  have nfp : ∀ b ∈ fp, (upd H2 D (.lst [])) b = none := fun b hb => (f3 b hb).1.1
  have pinC : ∀ p ∈ X.pn, p.1 < s3.heap.objs.size := fun p hp => Heap.lt_size (I3.pin p (List.mem_append_left _ hp)).1
  generalize hce : compEnvC scope (cellsFrom (s3.heap.objs.size + 1) scope.names (cloFrom X.env.cells scope.names [])) s3.heap.objs.size X.env = ce at I4 pg pt pe ⊢
  have cL : ce.locals = s3.heap.objs.size := by subst hce; rfl
  generalize hH3 : upd H2 D (.lst []) = H3 at I3 I4 pg pt pe w0 nfp f3
  generalize hs4 : ({ s3 with heap := pushCells (s3.heap.push { cls := .type "dict", data := .dict #[] }) scope.names } : Shared) = s4 at I4 ⊢
  have k34 : ∀ b o, s3.heap.get? b = some o → s4.heap.get? b = some o := fun b o e => by rw [← hs4]; exact pushCells_keeps _ _ _ _ (Heap.get?_push_of_some _ e)
  have st4 : tn 0 s4.heap := T.keep _ _ _ st3 fun b _ o e => k34 b o e
  have J4 : Inv (blkH X s3 H3 scope ce fp) [] (wipe σ (own.map (·.2))) H3 s4 := by
    refine ⟨I4.ok.toTry _ _, I4.os, I4.bare, I4.base, I4.loc, I4.cell, I4.free, I4.freeC, fun p hp => ?_, I4.hok, I4.len⟩
    have hp' : p ∈ X.pn := by simpa using (show p ∈ X.pn ++ ([] : List (Addr × Obj)) from hp)
    obtain ⟨a1, a2, a3, a4, a5⟩ := I3.pin p (List.mem_append_left _ hp')
    refine ⟨k34 _ _ a1, a2, ?_, fun hm => (List.mem_cons.mp (I3.stkSub p.1 hm)).elim a3 a4, a5⟩
    show p.1 ≠ ce.locals
    rw [cL]
    exact Nat.ne_of_lt (pinC p hp')
  have hcB : HotC (blkH X s3 H3 scope ce fp) := hc
  have stat : ∀ {σ' : L2.St} {H' : Hp} {s' : Shared}, Inv (blkH X s3 H3 scope ce fp) [] σ' H' s' → (∀ b ∈ fp, H' b = none) → ∀ b ∈ fp, FpOk (blkH X s3 H3 scope ce fp) [] H' b := fun {σ' H' s'} I' hn b hb =>
    ⟨hn b hb, (I'.ok.exf b hb).1, I'.ok.exfs b hb, .inl hb, fun x c e => (I'.ok.exf b hb).2 x c e, fun p hp => (f3 b hb).1.2.2.2.2.2 p (List.mem_append_left _ (by simpa using (show p ∈ X.pn ++ ([] : List (Addr × Obj)) from hp)))⟩
  have loop : codeAny (model X.prog X.w) X.A (.compLoop (.ListComp elt [⟨tg, iter, ifs, 0⟩] scope pos) 0 (.ref it) (.ref D) ce) (compPost (model X.prog X.w) X.A X.xe none (fun v s' => ∃ w' H', Inv X pins σ H' s' ∧ RelV w' v ∧ Q w' H') (.ref D) s3.heap.objs.size) s4 := by
    refine compLoop_any (fun n s' => ∃ i H', Inv (blkH X s3 H3 scope ce fp) [] (wipe σ (own.map (·.2))) H' s' ∧ tn i s'.heap ∧ (∀ b ∈ fp, H' b = none) ∧ Wv i n H') ?_ m0 ⟨0, H3, J4, st4, nfp, w0⟩
    rintro n s5 ⟨i, H5, I5, st5, n5, w5⟩
    rcases turn i n H5 w5 with ⟨stop, qq⟩ | ⟨go, Nx, hNx, step⟩
    · have td := T.done (blkH X s3 H3 scope ce fp) rfl rfl rfl hcB i [] s5 _ H5 (fun _ _ => False) I5 (stat I5 n5) st5 stop
      refine thnF td fun r s6 z => ?_
      obtain ⟨hr, I6⟩ := z
      subst hr
      have I7 : Inv X pins σ H5 s6 := I3.call' (ch := fp) I6.os I6.base I6.hok I6.bare fun b hb => ⟨(f3 b hb).1.2.2.2.1, (f3 b hb).1.2.1, (f3 b hb).1.2.2.2.2.1, (f3 b hb).1.2.2.2.2.2⟩
      have nC : H5 s3.heap.objs.size = none := by
        have z : H5 ce.locals = none := I6.free
        rw [cL] at z
        exact z
      obtain ⟨m, hn, _⟩ := I6.loc
      have hn : s6.heap.Ns ce.locals m := hn
      rw [cL] at hn
      obtain ⟨f0, f1, f2', f3', f4, f5⟩ := I3.fpOk (Nat.le_refl _) nC
      exact ⟨m, hn, fun h9 sb => ⟨.ref D, H5, I7.turned (t' := s6.toks) (fun b o hb e => (sb.2 b hb).trans e) f0 f1 f3' f4 f5, rfl, qq⟩⟩
    · have ti := T.item (blkH X s3 H3 scope ce fp) rfl rfl rfl hcB i [] s5 _ H5 (fun _ _ => False) I5 (stat I5 n5) st5 go
      refine thnF ti fun r s6 z => ?_
      obtain ⟨u, hr, h6⟩ := z
      subst hr
      refine thnF h6 fun _ s7 z => ?_
      obtain ⟨x, H7, I7, r7, y7, st7, n7⟩ := z
      have I7' := I7.pinned (stat I7 n7) (T.obj _ _ st7)
      refine thnF (pg.run _ s7 _ H7 x u _ I7' r7 (step x H7 y7)) fun _ s8 z => ?_
      obtain ⟨σ8, H8, I8, hw8, q8⟩ := z
      refine thnF (pt.run _ s8 σ8 H8 _ I8 q8) fun b s9 z => ?_
      obtain ⟨H9, I9, q9⟩ := z
      have fin : ∀ {s' : Shared} {H' : Hp}, Inv (blkH X s3 H3 scope ce fp) ([] ++ pinsAt fp s7.heap) σ8 H' s' → Nx H' → ∃ m, m < n ∧ ∃ i H', Inv (blkH X s3 H3 scope ce fp) [] (wipe σ (own.map (·.2))) H' s' ∧ tn i s'.heap ∧ (∀ b ∈ fp, H' b = none) ∧ Wv i m H' := fun {s' H'} I' nx => by
        obtain ⟨m', hm, w'⟩ := hNx H' nx
        have pin' : ∀ b ∈ fp, ∀ o, s7.heap.get? b = some o → s'.heap.get? b = some o ∧ H' b = none := fun b hb o e =>
          let z := I'.pin (b, o) (List.mem_append_right _ (List.mem_append_right _ (mem_pinsAt hb e)))
          ⟨z.1, z.2.1⟩
        have hl : (wipe σ (own.map (·.2))).length = σ8.length := by rw [← hw8, wipe_length]
        refine ⟨m', hm, i + 1, H', (I'.unpinned (pins := [])).weak hl (fun j v e => ?_), T.keep _ _ _ st7 fun b hb o e => (pin' b hb o e).1, fun b hb => ?_, w'⟩
        · rw [← hw8] at e
          exact (wipe_some e).1
        · obtain ⟨o, e, _⟩ := T.obj _ _ st7 b hb
          exact (pin' b hb o e).2
      cases b with
      | false =>
        simp only [Bool.false_eq_true, if_false] at q9 ⊢
        exact fin I9 q9
      | true =>
        simp only [if_true] at q9 ⊢
        refine thnF (pe.run _ s9 σ8 H9 _ I9 q9) fun z s10 zz => ?_
        obtain ⟨yv, H10, I10, r10, acc, hD10, hz10, nx⟩ := zz
        exact app_ok (X := blkH X s3 H3 scope ce fp) I10 hD10 hz10 r10 fun s11 I11 => fin I11 nx
  exact codeAny_compStart_list loop (T.self X.A 0 _ _ _ st4 loop)⟩
end
end WH
namespace WH
open PySem PySem.Spec PySem.W PySem.Calls PyProof.Rows
section
variable {prog : Program} {w : World} {A : Around} {E : Value → Shared → Prop} {s : Shared} {K : PySem.W.Frag} {x D : Addr} {ox : Obj} {od : Option Obj}
theorem findObj_data {C : Addr} {name : Str} {a g : Value} (hc : (clsIn K C).isSome = true) (ha : findIn K (.ref C) name = some (some a)) (hg : specialIn K a "__get__" = some (some g)) (ht : takesIn K a = some true) : findObj K C od name = some (.bind g a) := by
  obtain ⟨cd, hc⟩ := Option.isSome_iff_exists.mp hc
  unfold findObj
  rw [hc, Option.bind_some, ha, Option.bind_some]
  simp [hg, ht]
theorem kin_classO {Q : Option Value → Shared → Prop} (C : L2.ExcC K D) (X : K.In s.heap) (I : InstAt s.heap x ox D od) (h : Q (some (.ref D)) { s with toks := s.toks + 1 }) : wpAny (model prog w) A (getAttr? (.ref x) "__class__") Q E s := by
  have hf : findObj K D od "__class__" = some (.bind (.builtin "getset_descriptor.__get__") (.builtin "object.__class__")) := findObj_data (by obtain ⟨cd, hc, _⟩ := any_some C.hd; rw [hc]; rfl) C.ha C.hn C.ht
  obtain ⟨hp, g, d, t, os⟩ := s
  have L0 := I.type (M := model prog w)
  have L1 := looks_findIn (M := model prog w) X C.hg
  have L2 := looks_findIn (M := model prog w) X C.hk
  have L3 := looks_find (M := model prog w) X I hf
  have sub : Looks (model prog w) hp (isInstance (.ref x) (.type "BaseException")) true := L0.andThen (looks_subIn X C.hs)
  have hx0 : (false && onTheHeap (Value.builtin "BaseException.__getattribute__")) = false := rfl
  have hx2 : (Value.builtin "BaseException.__getattribute__" == Value.builtin "object.__getattribute__") = false := by decide +kernel
  have hx1 : (onTheHeap (Value.ref D) && Value.builtin "BaseException.__getattribute__" == Value.builtin "object.__getattribute__") = false := by rw [hx2]; rfl
  unfold getAttr? getAttrBy? getAttrBy
  refine wpAny_bind (wpAny_mkText (wpAny_bind (wpAny_attempt (wpAny_holding (wpAny_bind (L0.at (wpAny_bind (L1.at ?_))))))))
  show wpAny _ _ (if (onTheHeap (Value.ref D) && Value.builtin "BaseException.__getattribute__" == Value.builtin "object.__getattribute__") = true then _ else _) _ _ _
  rw [hx1, if_neg Bool.false_ne_true]
  unfold getAttrByItsOwn hookBefore
  refine wpAny_bind ?_
  rw [if_pos (show onTheHeap (Value.ref D) = true from rfl)]
  refine L2.at ?_
  refine wpAny_bind (wpAny_attempt (wpAny_holding ?_))
  unfold callGetattribute
  rw [hx0, if_neg Bool.false_ne_true]
  unfold boundAndCalled
  rw [PySem.F.excAttr_ValueError.ga.bind (.ref x)]
  refine wpAny_bind (wpAny_pure ?_)
  show wpAny _ _ (call (.builtin "BaseException.__getattribute__") [.ref x, .str "__class__" t]) _ _ _
  refine wpAny_call (codeAny_call_builtin PySem.F.excAttr_ValueError.ga.plain PySem.F.entry_bexc_ga ?_)
  refine @check_slot (model prog w) _ _ ⟨hp, g, d, t + 1, os⟩ "BaseException.__getattribute__" "BaseException" "__getattribute__" (.ref x) [.str "__class__" t] [] _ (by decide +kernel) (by decide +kernel) sub (PySem.F.args_bexc_ga (.ref x) (.str "__class__" t)) ?_
  unfold Builtin.«object.__getattribute__»
  refine wpAny_bind (wpAny_of_eq (a := ((Value.ref x : Value), [Value.str "__class__" t])) (by first | rfl | (simp only [slotArgs]; rfl)) ?_)
  refine wpAny_bind (wpAny_pure (wpAny_bind (L0.at (wpAny_bind (L3.at ?_)))))
  show wpAny _ _ (holding [Value.builtin "object.__class__"] (call (.builtin "getset_descriptor.__get__") [.builtin "object.__class__", .ref x, .ref D]) >>= ret) _ _ _
  refine wpAny_bind (wpAny_holding (wpAny_call (class_get (s := ⟨hp, g, d, t + 1, os⟩) (ox := ox) (od := od) X I C.hm ?_)))
  refine wpAny_pure ?_
  show wpAny _ _ (handedOut (.ref D)) _ _ _
  rw [handedOut_of (v := .ref D) rfl]
  first
    | exact wpAny_pure (wpAny_pure h)
    | exact wpAny_pure h
    | exact wpAny_pure (wpAny_bind (wpAny_pure (wpAny_pure h)))
theorem kitx_exc (C : L2.ExcC K D) : KitX K (.ref x) (.ref D) (fun h => ∃ od, InstAt h x ox D od) where
  ty := fun _ _ _ ⟨_, I⟩ => I.type
  it := fun _ _ X _ => by
    obtain ⟨cdD, hcD, _⟩ := any_some C.hd
    unfold clsIn at hcD
    split at hcD
    · rename_i c' d' cd' sl' ho
      intro A' Q' E' s' k q
      unfold isType loadHead
      exact wpAny_bind (wpAny_loadPart (k _ _ (X _ _ ho)) (wpAny_pure q))
    · cases hcD
  ne := fun h tp dd its n sl X htp => by
    obtain ⟨cdD, hcD, _⟩ := any_some C.hd
    refine Bool.eq_false_iff.mpr fun q => ?_
    have e : D = tp := Value.ref.inj (beq_iff_eq.mp q)
    subst e
    unfold clsIn at hcD
    split at hcD
    · rename_i c' d' cd' sl' ho
      have z := (X _ _ ho).symm.trans htp
      cases z
    · cases hcD
  ca := fun X ⟨_, I⟩ k => kin_classO C X I k
end
end WH
namespace WH
open PySem PySem.Spec L2 PyProof.Rows L2H
variable [TabC] [ObjB]
section
variable {X : Cx} {W : XW} {a D dd : Addr} {oe : Obj}
theorem ExP.inst {pins : List (Addr × Obj)} {σ : L2.St} {H : Hp} {s : Shared} {fs : List (Str × V)} (P : ExP X a oe D dd) (I : Inv X pins σ H s) (h : H dd = some (.xd fs)) : ∃ (od : Obj) (mA : Str → Option Value), PySem.W.InstAt s.heap a oe D (some od) ∧ (∀ n, PySem.W.lookIn n od = some (mA n)) ∧ ∀ f, RelO (fs.lookup f) (mA f) := by
  obtain ⟨ha, _⟩ := I.pin (a, oe) (List.mem_append_left _ P.pn)
  obtain ⟨vs, hd⟩ := P.f
  have hx : ObjOk X.prog X.w H s.heap dd (.xd fs) := I.hok dd _ h
  obtain ⟨mA, hns, hr⟩ := hx
  obtain ⟨od, ho, hl⟩ := lookIn_ns hns
  exact ⟨od, mA, ⟨ha, P.z.1, by unfold PySem.W.notCls; rw [hd] <;> rfl, by rw [P.z.2.1]; exact ho⟩, hl, hr⟩
def rIsX (K : PySem.W.Frag) (D a dd : Addr) : List V → Hp → VK → Prop := fun xs H Q => ∃ (c : V) (cv : Value) (b : Bool) (fs : List (Str × V)), xs = [.ref a, c] ∧ H dd = some (.xd fs) ∧ (∀ u, RelV c u → u = cv) ∧ PySem.W.kitOne K (.ref D) cv = some b ∧ Q (.bl b) H
theorem call_isX (C : ExcC X.K D) (P : ExP X a oe D dd) : CallR X (.builtin "isinstance") (rIsX X.K D a dd) := by
  intro pins s σ H xs us Q I r h
  obtain ⟨c, cv, b, fs, rfl, hx, hcv, e, q⟩ := h
  cases r with
  | cons rx rr =>
    cases rr with
    | cons rt rr =>
      cases rr
      cases rx
      have ec := hcv _ rt
      subst ec
      obtain ⟨od, mA, J, _⟩ := P.inst I hx
      exact PySem.W.kia_one (kitx_exc C) I.kIn ⟨_, J⟩ e (fun z => nomatch z) fun tk => ⟨.bl b, H, I.kept (t' := tk) fun _ _ z => z, rfl, q⟩
def dIsX (i : Nat) (a dd : Addr) (b : Bool) : DE := fun ρ Q _ => ∃ fs, ρ[i]? = some (Slot.raw (.ref a) (some (dd, fs))) ∧ Q (.bool b)
theorem qe_isX {x c : Str} {i : Nat} {b : Bool} {C : Addr} {p p1 p2 pos : Pos} (C0 : ExcC X.K D) (P : ExP X a oe D dd) (hm : X.mg "isinstance" = none) (hc : X.mg c = some (.ref C)) (hk : PySem.W.kitOne X.K (.ref D) (.ref C) = some b) (hi : X.N[i]? = some x := by rfl) (hv : Vis X.env.scope x := by first | exact .inl rfl | exact .inr (.inl rfl) | exact .inr (.inr rfl))
    (hd1 : (x == ("__debug__" : Str)) = false := by decide) (hd2 : (x == ("__classdict__" : Str)) = false := by decide) (hg : Gl X "isinstance" := by rfl) (hgc : Gl X c := by rfl) (hdc : (c == ("__debug__" : Str)) = false := by decide)
    (he : starEach [.Name x p1, .Name c p2] X.env = (false, eval (.Name x p1) X.env) :: starEach [.Name c p2] X.env := by rfl) (he2 : starEach [.Name c p2] X.env = (false, eval (.Name c p2) X.env) :: starEach [] X.env := by rfl) (hpl : (backTo pos (starEach [.Name c p2] X.env)).any (·.1) = false := by rfl) :
    QE X W (.Call (.Name "isinstance" p) [.Name x p1, .Name c p2] [] pos) (dIsX i a dd b) :=
  PE.sub (pe_callB (call_isX C0 P) hg hm (by decide +kernel) (pa_cons (pe_var (i := i) hi hv hd1 hd2) (pa_cons (pe_glob (v := .ref C) hgc hc rfl hdc) pa_nil he2) he) (by decide) (by decide) he hpl) fun σ H Q h => by
  obtain ⟨G0, H0, G, ρ, Qd, Xd, k, h, fn, xo⟩ := h
  obtain ⟨fs, hr, q⟩ := h
  obtain ⟨r1, r2⟩ := k.rw _ _ _ hr
  obtain ⟨vs, r3, _⟩ := r2 _ rfl
  exact ⟨_, r1, .ref C, .ref C, b, vs, rfl, k.gh _ _ r3, fun u z => z, hk, fn G H _ _ k Gr.refl (.bl _) q⟩
def dXf (i : Nat) (a dd : Addr) (n : Str) : DE := fun ρ Q _ => ∃ fs d, ρ[i]? = some (Slot.raw (.ref a) (some (dd, fs))) ∧ fs.lookup n = some d ∧ Q d
theorem dpF_look {K : PySem.W.Frag} {G : Hp} {n : Str} {d : PyData} : ∀ {vs : List (Str × V)} {fs : List (Str × PyData)}, DpF K G vs fs → fs.lookup n = some d → ∃ v, vs.lookup n = some v ∧ Rp K G v d
  | _, _, .nil, h => by cases h
  | _, _, .cons (k := k) (v := v) (d := d') r t, h => by
    rw [List.lookup_cons] at h ⊢
    cases q : n == k with
    | true => rw [q] at h; cases h; exact ⟨v, rfl, r⟩
    | false => rw [q] at h; exact dpF_look t h
theorem qe_xf {x n : Str} {i : Nat} {p1 pos : Pos} (T : XfC X.K D) (hno : PySem.W.findIn X.K (.ref D) n = some none) (P : ExP X a oe D dd) (hi : X.N[i]? = some x := by rfl) (hv : Vis X.env.scope x := by first | exact .inl rfl | exact .inr (.inl rfl) | exact .inr (.inr rfl))
    (hd1 : (x == ("__debug__" : Str)) = false := by decide) (hd2 : (x == ("__classdict__" : Str)) = false := by decide) (hb : attributeBase (.Name x p1) n X.env (eval (.Name x p1) X.env) = eval (.Name x p1) X.env := by rfl) : QE X W (.Attribute (.Name x p1) n pos) (dXf i a dd n) := ⟨fun pins s σ H Q I h => by
  obtain ⟨G0, H0, G, ρ, Qd, Xd, k, h, fn, xo⟩ := h
  obtain ⟨fs, d, hr, hl, q⟩ := h
  obtain ⟨r1, r2⟩ := k.rw _ _ _ hr
  obtain ⟨vs, r3, r4⟩ := r2 _ rfl
  obtain ⟨v, lv, rv⟩ := dpF_look r4 hl
  refine attr_of hb (thn ((pe_var (pos := p1) (i := i) hi hv hd1 hd2).run pins s σ H (fun y H1 => y = .ref a ∧ H1 = H) I ⟨.ref a, r1, rfl, rfl⟩) fun u s1 hh => ?_)
  obtain ⟨y, H1, I1, rx, ey, eH⟩ := hh
  subst ey
  subst eH
  obtain rfl : u = Value.ref a := rx
  obtain ⟨od, mA, J, hlk, hrl⟩ := P.inst I1 (k.gh _ _ r3)
  obtain ⟨u, hu, ru⟩ := RelO.some_of (v := v) (o := mA n) (by rw [← lv]; exact hrl n)
  exact HandSPX.exc_get I1.kIn J T.ga T.gg T.exC (PySem.W.findObj_own T.hdC hno rfl (by rw [hlk, hu])) (handed_of ru) ⟨v, H1, I1.tok _, ru, fn G H1 v d k Gr.refl rv q⟩⟩
end
end WH
namespace WH
open PySem PySem.Spec L2 PyProof.Rows L2H
variable [TabC] [ObjB]
def zipD (xs ys : List PyData) : List PyData := List.zipWith (fun x y => wk [x, y]) xs ys
theorem zipD_len {xs ys : List PyData} (h : xs.length = ys.length) : (zipD xs ys).length = xs.length := by simp [zipD, h]
theorem zipD_get {xs ys : List PyData} {i : Nat} {d : PyData} (h : (zipD xs ys)[i]? = some d) : ∃ x y, xs[i]? = some x ∧ ys[i]? = some y ∧ d = wk [x, y] := by
  unfold zipD at h
  rw [List.getElem?_zipWith] at h
  cases q : xs[i]? with
  | none => rw [q] at h; cases h
  | some x =>
    cases q2 : ys[i]? with
    | none => rw [q, q2] at h; cases h
    | some y => rw [q, q2] at h; cases h; exact ⟨x, y, rfl, rfl, rfl⟩
theorem iter_zipL {K : PySem.W.Frag} {G : Hp} {a b : Addr} {xs ys : List V} {ds es : List PyData} (h1 : G a = some (.lst xs)) (r1 : RpAll K G xs ds) (h2 : G b = some (.lst ys)) (r2 : RpAll K G ys es) (hl : ds.length = es.length) : IterOk K (ItzF K a b) G (zipD ds es) := fun G1 H1 g gh i => by
  have l1 := rpa_length r1
  have l2 := rpa_length r2
  have q1 : SqL K H1 a xs := SqL.of (nt_some (gh _ _ (g _ _ h1)))
  have q2 : SqL K H1 b ys := SqL.of (nt_some (gh _ _ (g _ _ h2)))
  rw [zipD_len hl]
  refine ⟨fun hi => ⟨xs, ys, xs[i]'(by omega), ys[i]'(by omega), q1, q2, by simp [show i < xs.length by omega], by simp [show i < ys.length by omega]⟩, fun hi => ⟨xs, ys, q1, q2, by omega⟩, fun d x H2 hd hy => ?_⟩
  obtain ⟨T, x, y, rfl, hT, rfl, hx, hy⟩ := hy
  obtain ⟨d1, d2, e1, e2, rfl⟩ := zipD_get hd
  obtain ⟨v1, z1, w1⟩ := rpa_get r1 e1
  obtain ⟨v2, z2, w2⟩ := rpa_get r2 e2
  rw [hx xs q1] at z1
  cases z1
  rw [hy ys q2] at z2
  cases z2
  exact grow_pair gh hT (.cons (rp_mono g w1) (.cons (rp_mono g w2) .nil))
def dZipL (da db : DE) : DI := fun ρ Q X => da ρ (fun x => db ρ (fun y => ∃ xs ys, x = .list xs ∧ y = .list ys ∧ xs.length = ys.length ∧ Q (zipD xs ys)) X) X
@[simp] theorem s_dZipL (da db : DE) (ρ : Sto) (Q : List PyData → Prop) (X : XD) : dZipL da db ρ Q X ↔ da ρ (fun x => db ρ (fun y => ∃ xs ys, x = .list xs ∧ y = .list ys ∧ xs.length = ys.length ∧ Q (zipD xs ys)) X) X := Iff.rfl
def QIH (X : Cx) (W : XW) (tg iter : Expr) (di : DI) : Prop := PIH X tg iter (upI X.K W di)
section
variable {X : Cx} {W : XW}
theorem qi_zipH {e f : Expr} {p pos tpos : Pos} {elts : List Expr} {kk : Nat} {de df : DE} (hm : X.mg "zip" = none) (he : QE X W e de) (hf : QE X W f df) (hg : Gl X "zip" := by rfl) (hs : starEach [e, f] X.env = (false, eval e X.env) :: starEach [f] X.env := by rfl) (hs2 : starEach [f] X.env = (false, eval f X.env) :: starEach [] X.env := by rfl) (hpl : (backTo pos (starEach [f] X.env)).any (·.1) = false := by rfl) :
    QIH X W (.Tuple elts kk tpos) (.Call (.Name "zip" p) [e, f] [] pos) (dZipL de df) := by
  have base := pi_zipH (X := X) (elts := elts) (kk := kk) (tpos := tpos) (p := p) (pos := pos) hg hm (pa_cons he (pa_cons hf pa_nil hs2) hs) hs hpl
  refine ⟨fun pins st σ H R I hw => base.run pins st σ H R I ?_⟩
  obtain ⟨G0, H0, G, ρ, Qd, Xd, k, h, fn, xo⟩ := hw
  refine ⟨G0, H0, G, ρ, _, Xd, k, h, fun G1 H1 v d k1 g1 rv q => ?_, xo⟩
  refine ⟨G0, H0, G1, ρ, _, Xd, k1, q, fun G2 H2 v2 d2 k2 g2 rv2 q2 => ?_, xo.mono g1⟩
  obtain ⟨xs, ys, rfl, rfl, hl, q2⟩ := q2
  have rv' := rp_mono g2.gg rv
  cases rv' with
  | lst a1 a2 =>
    cases rv2 with
    | lst b1 b2 => exact ⟨_, _, _, _, rfl, SqL.of (k2.gh _ _ a1), SqL.of (k2.gh _ _ b1), fn G2 H2 _ _ k2 (g1.trans g2) (iter_zipL a1 a2 b1 b2 hl) q2⟩
theorem qo_lcH {elt tg iter : Expr} {ifs : List Expr} {scope : Scope} {own : List (Str × Nat)} {pos : Pos} {vs ws : List Nat} {di : DI} {dg : DG} {dt : DT} {de : DE} (hc : HotC X) (hN : X.N.Nodup) (hi : QIH X W tg iter di) (ok : BlkOk X.N X.env.scope scope own)
    (hg : ∀ (s : Shared) (H : Hp) (C : Addr) (cl : List (Str × Addr)) (fp : List Addr), QG (blkH X s H scope (compEnvC scope cl C X.env) fp) vs tg dg) (ht : ∀ (s : Shared) (H : Hp) (C : Addr) (cl : List (Str × Addr)) (fp : List Addr), QTs (blkH X s H scope (compEnvC scope cl C X.env) fp) (W0 X.mg) ifs dt)
    (he : ∀ (s : Shared) (H : Hp) (C : Addr) (cl : List (Str × Addr)) (fp : List Addr), QE (blkH X s H scope (compEnvC scope cl C X.env) fp) (W0 X.mg) elt de) (hw : own.map (·.2) = ws := by rfl) (hv : ∀ i ∈ vs, i ∈ ws := by decide) (hs : ∀ x, foldedSetIterable iter X.env x = pure x := by intro _; rfl) :
    QO X W (.ListComp elt [⟨tg, iter, ifs, 0⟩] scope pos) (dLc ws di dg dt de) := by
  subst hw
  exact PE.sub (lc_hot (g := upG X.K vs dg) (tt := upT X.K (W0 X.mg) dt) (te := upE X.K (W0 X.mg) de) hc hN hi ok hg ht he hs) (up_lc hv)
end
end WH
namespace WH
open PySem PySem.Spec L2 PyProof.Rows L2H
variable [TabC] [ObjB]
section
variable {P : Program} {w : World} {K : PySem.W.Frag} {mg : Str → Option Value} {base : Heap}
def HotFn (P : Program) (w : World) (K : PySem.W.Frag) (mg : Str → Option Value) (base : Heap) (k : Nat) (f : Addr) (fd : FuncData) (ps : List Str) (sp : Addr × Obj → List V → Hp → VK → Prop) : Prop :=
  ∀ (A : Around) (outer : List Env) (s : Shared) (H : Hp) (args : Args) (us : List Value) (vs : List V) (Q : VK) (p : Addr × Obj), RoomH k A → Hot1 A p → PinOk outer H s p → Env0 P w K mg base A outer s H → BindsTo s fd args (ps.zip us) → Vals vs us → sp p vs H Q →
    codeAny (model P w) A (.call (.ref f) args) (CR L2.CX0 outer P w H s Q L2.E0) s
theorem fn_hot {x qual : Str} {params : Arguments} {body : List Stmt} {scope : Scope} {dvs : List V} {kws : List (Str × V)} {f : Addr} {fd : FuncData} {N ps : List Str} {k : Nat} {sp : Addr × Obj → List V → Hp → VK → Prop} (F : FunD K x qual params body scope dvs kws f fd) (S : FnScope N ps scope)
    (len : ∀ p vs H Q, sp p vs H Q → vs.length = ps.length)
    (hbody : ∀ (cdv : Value) (A : Around) (outer : List Env) (s : Shared) (H : Hp) (vs : List V) (Q : VK) (p : Addr × Obj), Hot1 A p → RoomH k (A.deeper (envOfC qual scope s.heap.objs.size f cdv)) → sp p vs H Q →
      ∃ t, PSs (cxH L2.CX0 P w K mg base N qual scope f cdv A outer s H L2.E0 p) body t ∧ t { nx := fun _ H' => Q .non H', rt := Q } (L2.start N vs) H) : HotFn P w K mg base (k + 1) f fd ps sp := by
  obtain ⟨oc, od, dV, kV, doc, pm, an, cdv, ct, osl, rfl, lk, hcd, _, _⟩ := F.ex
  intro A outer s H args us vs Q p hr hot hpin e0 hb r hsp
  have hl := len _ _ _ _ hsp
  have KX : K.In s.heap := e0.mod.kin.keeps fun b o e => (e0.bs b o e).1
  have lim : s.heap.NoLimit := e0.mod.nolimit.keeps fun b o e => (e0.bs b o e).1
  have hkind : ∀ y ∈ ps.zip us, scope.names.lookup y.1 = some .local ∨ (scope.names.lookup y.1 = some .cell ∧ ((cellsFrom (s.heap.objs.size + 1) scope.names []).lookup y.1).isSome = true) := fun ⟨n, v⟩ hy => by
    rcases S.par n (List.of_mem_zip hy).1 with q | q
    · exact .inl q
    · exact .inr ⟨q, PySem.W.cellsFrom_some _ _ _ (.inl q)⟩
  refine codeAny_call_function hr.depth (KX _ _ lk) rfl S.co S.gen rfl (PySem.W.codeRec_of KX hcd) (hb _ _ _ _ ?_)
  refine wpAny_newFunctionEnv_cells S.kind hkind fun env he s1 x => ?_
  subst he
  refine ⟨lim.keeps x.toInCall.keep, codeAny_func ?_⟩
  obtain ⟨t, ht, hq⟩ := hbody cdv A outer s H vs Q p hot (hr.deeper _) hsp
  have I := inv_startH (CX := L2.CX0) (E := L2.E0) S hpin e0 hl r x
  refine wpAny_mono (ht.run [] s1 (L2.start N vs) H _ I hq) (fun fl s' hs => ?_) fun e s' hs => hs
  cases fl with
  | ret u =>
    obtain ⟨v, σ', H', J, rv, q⟩ := hs
    exact ⟨v, H', J.os, J.bare, J.base, J.hok, rv, q⟩
  | next =>
    obtain ⟨σ', H', J, q⟩ := hs
    exact ⟨V.non, H', J.os, J.bare, J.base, J.hok, rfl, q⟩
  | brk =>
    obtain ⟨_, _, _, q⟩ := hs
    exact False.elim q
  | cont =>
    obtain ⟨_, _, _, q⟩ := hs
    exact False.elim q
end
theorem ok_startX {K : PySem.W.Frag} {G H : Hp} {n : Str} {N : List Str} {a dd : Addr} {fs : List (Str × PyData)} {vs : List (Str × V)} (gh : Same G (nt H)) (tb : LamX.Tabs TabC.T H) (h1 : G dd = some (.xd vs)) (h2 : DpF K G vs fs) (hB : Same ObjB.B (nt H)) :
    Ok K G H G H (L2.start (n :: N) [.ref a]) (Slot.raw (.ref a) (some (dd, fs)) :: List.replicate N.length Slot.no) := by
  have at0 : ∀ (i : Nat) (s : Slot), (Slot.raw (V.ref a) (some (dd, fs)) :: List.replicate N.length Slot.no)[i]? = some s → (i = 0 ∧ s = Slot.raw (.ref a) (some (dd, fs))) ∨ s = Slot.no := fun i s e => by
    cases i with
    | zero => cases e; exact .inl ⟨rfl, rfl⟩
    | succ i =>
      rw [List.getElem?_cons_succ, List.getElem?_replicate] at e
      split at e <;> cases e
      exact .inr rfl
  refine ⟨gh, Same.refl _, Ex.refl _, tb, fun a o e => .inl e, by simp [L2.start], fun i d e => ?_, fun i o e => ?_, fun i j o u b _ e => ?_, fun i v x e => ?_, fun i a t e => (by rcases at0 i _ e with ⟨_, z⟩ | z <;> cases z), hB⟩
  · rcases at0 i _ e with ⟨_, z⟩ | z <;> cases z
  · rcases at0 i _ e with ⟨_, z⟩ | z <;> cases z
  · rcases at0 i _ e with ⟨_, z⟩ | z <;> cases z
  · rcases at0 i _ e with ⟨z0, z⟩ | z
    · cases z
      subst z0
      exact ⟨rfl, fun q hq => by cases hq; exact ⟨vs, h1, h2⟩⟩
    · cases z
def spCal (K : PySem.W.Frag) (mg : Str → Option Value) (p : Addr × Obj) (vs : List V) (H : Hp) (Q : VK) : Prop :=
  ∃ G fs D dd nm xs, vs = [.ref p.1] ∧ Same G (nt H) ∧ LamX.Tabs TabC.T H ∧ L2N.Zn (.ref D) (some dd) p.2 ∧ (∃ ws, p.2.data = .fields ws) ∧ nm ∈ callNames ∧ CalF K mg nm D ∧ G dd = some (.xd xs) ∧ DpF K G xs fs ∧ fs.lookup ("word" : Str) = some (.str nm) ∧ ∀ v H', RetOk K G H (.sh (.str nm)) v H' → Q v H'
end WH
namespace WH
open PySem PySem.Spec L2 PyProof.Rows HotX L2H
section
variable {prog : Program} {w : World} {A : Around} {E : Value → Shared → Prop} {s : Shared}
theorem next_tup_hot {it t x1 : Addr} {i : Nat} {items : Array Value} {Q : Option Value → Shared → Prop} (hot : HotAt A x1 s.heap) (nx : x1 ≠ it) (hit : s.heap.IsTupleIter it t i) (ht : IsTup s.heap t items) (hx : items[i]? = none)
    (hQ : ∀ h', Heap.ExtBut it s.heap h' → Q none { s with heap := h' }) : wpAny (model prog w) A (pyNext (.ref it)) Q E s := by
  obtain ⟨o, ho, hc, hd⟩ := id hit
  obtain ⟨ol, hol, _, nl, hdl⟩ := ht
  obtain ⟨hh, o1, vs1, h1, d1, c1⟩ := hot
  unfold pyNext
  refine wpAny_bind (wpAny_attempt (wpAny_callSpecial?_slot (name := Str.ofString "__next__") hit.typeIs F.slot_tuple_iterator_next (wpAny_call_entry F.slot_tuple_iterator_next hit.typeIs F.entry_tuple_iterator_next ?_ (F.args_tuple_iterator_next_1 _))))
  show wpAny _ _ (field (.ref it) 0 >>= _) _ _ s
  refine wpAny_bind (wpAny_field ho hd (x := .ref t) rfl ?_)
  show wpAny _ _ (if (Value.ref t == Value.none) = true then _ else _) _ _ s
  rw [if_neg (show ¬ ((Value.ref t == Value.none) = true) from Bool.false_ne_true)]
  show wpAny _ _ (field (.ref it) 1 >>= _) _ _ s
  refine wpAny_bind (wpAny_field ho hd (x := .int i 0) rfl ?_)
  show wpAny _ _ (seqItems? (.ref t) >>= _) _ _ s
  refine wpAny_bind (wpAny_seqItems hol hdl ?_)
  simp only [Int.toNat_natCast, hx]
  refine wpAny_bind (wpAny_rule (wpAny_bind (wpAny_setField ho hd (by simp) ?_)))
  show wpAny _ _ (newExc (.type "StopIteration") [] >>= _) _ _ _
  refine wpAny_bind ?_
  simp only [newExc, newTuple]
  refine wpAny_bind (wpAny_newObj_type ?_ (by size_fits))
  refine wpAny_bind (m := firstArgMember _ _) (wpAny_of_eq (a := Value.none) (by first | rfl | (simp only [firstArgMember]; rfl)) ?_)
  refine wpAny_newObj_type ?_ (by size_fits)
  have g1 : (s.heap.update it (Obj.mapFields (·.setIfInBounds 0 Value.none))).get? x1 = some o1 := by rw [Heap.get?_update_other _ _ nx.symm]; exact h1
  refine raiseNew_hot ⟨hh, o1, vs1, Heap.get?_push_of_some _ (Heap.get?_push_of_some _ g1), d1, c1⟩ (Nat.ne_of_lt (Heap.lt_size (Heap.get?_push_of_some _ g1))) (Heap.get?_push_size _ rfl) rfl (by first | (simp; done) | (simp; omega) | (simp only [Array.size_append]; simp; omega)) ?_
  refine wpAny_bind (wpAny_isInstance (T := "StopIteration") (b := true) ⟨_, Heap.get?_update_self _ (Heap.get?_push_size _ rfl) rfl, rfl⟩ isSubtype_stop ?_)
  refine wpAny_pure (hQ _ fun b u nb e => ?_)
  have g2 : (s.heap.update it (Obj.mapFields (·.setIfInBounds 0 Value.none))).get? b = some u := by rw [Heap.get?_update_other _ _ (Ne.symm nb)]; exact e
  rw [Heap.get?_update_other _ _ (Nat.ne_of_gt (Heap.lt_size (Heap.get?_push_of_some _ g2)))]
  exact Heap.get?_push_of_some _ (Heap.get?_push_of_some _ g2)
theorem unpack_hot {env : Env} {elts : List Expr} {kk : Nat} {pos : Pos} {t x1 : Addr} {items : Array Value} {Q : Unit → Shared → Prop} (hot : HotAt A x1 s.heap) (ht : IsTup s.heap t items) (hn : (assignEach elts env).length = items.size) (hstar : (assignEach elts env).findIdx? (·.1) = none)
    (h : ∀ h', Heap.ExtBut s.heap.objs.size s.heap h' → wpAny (model prog w) A (assignInOrder ((assignEach elts env).map (·.2)) items.toList) Q E { s with heap := h' }) : wpAny (model prog w) A (assign (.Tuple elts kk pos) env (.ref t)) Q E s := by
  rw [assign_Tuple]
  refine wpAny_bind (wpAny_standAt ?_)
  unfold unpack
  rw [hn, hstar]
  refine wpAny_bind (wpAny_holding ?_)
  have hlt : t ≠ s.heap.objs.size := by obtain ⟨o, ho, _⟩ := ht; exact Nat.ne_of_lt (Heap.lt_size ho)
  obtain ⟨hh, o1, vs1, h1, d1, c1⟩ := hot
  have nx : x1 ≠ s.heap.objs.size := Nat.ne_of_lt (Heap.lt_size h1)
  unfold unpackItems
  refine wpAny_bind ?_
  unfold notIterableAtAll
  refine wpAny_bind (wpAny_specialOf ht.typeIs slot_tuple_iter.lookup (wpAny_pure ?_))
  simp only [Bool.false_eq_true, if_false]
  refine wpAny_bind (wpAny_holding (iter_tuple ht ?_))
  refine wpAny_bind (wpAny_holding (draw_tuple hlt items.size 0 _ _ ⟨_, Heap.get?_push_size _ rfl, rfl, rfl⟩ (ht.push _) (by omega) fun h₁ hit₁ hs₁ => ?_))
  have hall : List.take items.size (List.drop 0 items.toList) = items.toList := by
    rw [List.drop_zero]; exact List.take_of_length_le (by simp)
  rw [hall, if_neg (by simp)]
  have ht₁ : IsTup h₁ t items := (ht.push _).extBut hs₁.extBut hlt
  have hot₁ : HotAt A x1 h₁ := ⟨hh, o1, vs1, hs₁.extBut _ _ nx (Heap.get?_push_of_some _ h1), d1, c1⟩
  refine wpAny_bind (wpAny_holding (next_tup_hot (s := { s with heap := h₁ }) hot₁ nx hit₁ ht₁ (by simp) fun h₂ he₂ => ?_))
  simp only [Option.isSome_none, Bool.false_eq_true, if_false]
  exact wpAny_pure (h h₂ fun b o hb e => he₂ b o hb (hs₁.extBut b o hb (Heap.get?_push_of_some _ e)))
end
variable [TabC] [ObjB]
section
variable {X : Cx} {W : XW}
theorem pg_tupH {es : List Expr} {k : Nat} {pos : Pos} {t : TGs} {n : Nat} (hc : HotC X) (h : PGs X es t) (hn : (assignEach es X.env).length = n := by rfl) (hst : (assignEach es X.env).findIdx? (·.1) = none := by rfl) : PG X (.Tuple es k pos) (gTup X.K n t) := ⟨fun pins s σ H v u Q I r hw => by
  obtain ⟨a, xs, e1, hq, hl, hw⟩ := hw
  subst e1
  cases r
  obtain ⟨its, rv, ht, hz⟩ := I.tuple hq
  obtain ⟨x1, hot⟩ := hc.at I
  refine unpack_hot hot ht (by simp [hn, ← hl, rv.length]) hst fun h' hx => ?_
  have I1 : Inv X pins σ H { s with heap := h' } := I.kept (t' := s.toks) fun b o e => hx b o (Nat.ne_of_lt (Heap.lt_size e)) e
  exact h.run pins _ σ H xs _ Q I1 (by simpa using rv) hw⟩
theorem qg_tupH {es : List Expr} {kk : Nat} {pos : Pos} {vs : List Nat} {gs : DGs} {n : Nat} (hc : HotC X) (h : QGs X vs es gs) (hn : (assignEach es X.env).length = n := by rfl) (hst : (assignEach es X.env).findIdx? (·.1) = none := by rfl) : QG X vs (.Tuple es kk pos) (gT n gs) :=
  PG.sub (pg_tupH hc h hn hst) fun v σ H Q h => by
  obtain ⟨G0, H0, G, ρ, d, Qd, k, rv, ⟨ds, e, hl, h⟩, fn⟩ := h
  rcases e with rfl | rfl
  · cases rv with
    | tup s1 s2 => exact ⟨_, _, rfl, sqT_mono k.gh s1.t, (rpa_length s2).trans hl, G0, H0, G, ρ, ds, Qd, k, s2, h, fn⟩
  · obtain ⟨a, xs, rfl, s1, s2⟩ := rp_wk rv
    exact ⟨_, _, rfl, sqT_mono k.gh s1, (rpa_length s2).trans hl, G0, H0, G, ρ, ds, Qd, k, s2, h, fn⟩
theorem unitsH {k : Nat} {A : Around} (r : RoomH k A) : A.units + 64 < cLine := by have := r.un; omega
end
end WH
namespace WH
open PySem PySem.Spec L2 PyProof.Rows L2H
variable [TabC] [ObjB]
section
variable {X : Cx} {W : XW} {a D dd f : Addr} {oe : Obj} {pn : List (Addr × Obj)} {nm : Str} {fd : FuncData} {k : Nat}
theorem suite_ep (hz : L2N.Zn (.ref D) (some dd) oe) (hf : ∃ vs, oe.data = .fields vs) : ExP (X.suite a ((a, oe) :: pn)) a oe D dd := ⟨List.mem_cons_self, hz, hf⟩
theorem suite_hot (hz : L2N.Zn (.ref D) (some dd) oe) (hf : ∃ vs, oe.data = .fields vs) : Hot1 (X.suite a ((a, oe) :: pn)).A (a, oe) := by
  obtain ⟨vs, hv⟩ := hf
  exact ⟨rfl, vs, hv, hz.2.2 vs hv⟩
def dCalled (i : Nat) (a dd : Addr) (nm : Str) : DE := fun ρ Q _ => ∃ fs, ρ[i]? = some (Slot.raw (.ref a) (some (dd, fs))) ∧ fs.lookup ("word" : Str) = some (.str nm) ∧ Q (.str nm)
theorem qe_called {x : Str} {i : Nat} {p p1 pos : Pos} (F : HotFn X.prog X.w X.K X.mg X.base k f fd ["_law_e"] (spCal X.K X.mg)) (hr : RoomH k (X.A.mark (some (.ref a)))) (hz : L2N.Zn (.ref D) (some dd) oe) (hf : ∃ vs, oe.data = .fields vs) (cf : CalF X.K X.mg nm D) (hn : nm ∈ callNames)
    (hm : X.mg "_law_called" = some (.ref f)) (hk : PySem.W.keepIn X.K (.ref f) = true) (hb : Binds X.K fd ["_law_e"] []) (hi : X.N[i]? = some x := by rfl) (hv : Vis X.env.scope x := by first | exact .inl rfl | exact .inr (.inl rfl) | exact .inr (.inr rfl)) (hg : Gl X "_law_called" := by rfl)
    (hd1 : (x == ("__debug__" : Str)) = false := by decide) (hd2 : (x == ("__classdict__" : Str)) = false := by decide)
    (he : starEach [.Name x p1] X.env = (false, eval (.Name x p1) X.env) :: starEach [] X.env := by rfl) (hpl : (backTo pos (starEach [] X.env)).any (·.1) = false := by rfl) :
    QE (X.suite a ((a, oe) :: pn)) W (.Call (.Name "_law_called" p) [.Name x p1] [] pos) (dCalled i a dd nm) := ⟨fun pins s σ H Q I h => by
  obtain ⟨G0, H0, G, ρ, Qd, Xd, k, h, fn, xo⟩ := h
  obtain ⟨fs, hr1, hw, q⟩ := h
  obtain ⟨r1, r2⟩ := k.rw _ _ _ hr1
  obtain ⟨vs, r3, r4⟩ := r2 _ rfl
  refine wpAny_Call_Name_kw (ld_glob (X := X.suite a ((a, oe) :: pn)) I hg hm ?_ (by decide))
  have arg : PA (X.suite a ((a, oe) :: pn)) [.Name x p1] (tCons (tVar i) tNil) := pa_cons (pe_var (i := i) hi hv hd1 hd2) pa_nil he
  refine PySem.W.callWith_K (h₀ := X.base) I.ok.mod.kin hk (thn (arg.run pos pins s σ H (fun ys H1 => ys = [.ref a] ∧ H1 = H) I ⟨.ref a, r1, rfl, rfl⟩) fun us s1 z => ?_) he hpl
  obtain ⟨ys, H1, I1, r, ey, eH⟩ := z
  subst ey
  rw [eH] at I1
  refine ⟨I1.kIn, ?_⟩
  have hl : us.length = 1 := by rw [← r.length]; rfl
  have b := hb s1 us I1.kIn (by rw [List.append_nil]; exact hl)
  rw [List.append_nil] at b
  have P1 := I1.pin (a, oe) (List.mem_append_left _ List.mem_cons_self)
  have hpin : PinOk (X.suite a ((a, oe) :: pn)).stack H s1 (a, oe) := ⟨P1.1, P1.2.1, fun hmm => (List.mem_cons.mp (I1.stkSub a hmm)).elim P1.2.2.1 P1.2.2.2.1, P1.2.2.2.2⟩
  refine wpAny_call (codeAny_mono (F (X.A.mark (some (.ref a))) (X.suite a ((a, oe) :: pn)).stack s1 H ⟨us, []⟩ us [.ref a] Q (a, oe) hr (suite_hot (X := X) (pn := pn) hz hf) hpin I1.env0 b r ?_) fun r s' hq => ?_)
  · refine ⟨G, fs, D, dd, nm, vs, rfl, k.gn, k.tb, hz, hf, hn, cf, r3, r4, hw, fun v H' rr => ?_⟩
    obtain ⟨G', k', g', rv⟩ := RetOk.sh k rr rfl
    exact fn G' H' v _ k' g' rv q
  · cases r with
    | error e => exact (show False from hq).elim
    | ok fl =>
      cases fl with
      | ret u => exact I1.after hq
      | _ => exact False.elim hq⟩
end
def reprD : List PyData → (PyData → Prop) → Prop
  | [.int i], Q => i.natAbs < 2 ^ 200 ∧ Q (.str (PySem.Str.ofString (toString i)))
  | _, _ => False
theorem repr_E {K : PySem.W.Frag} : RAE K (fun xs H Q => ∃ i, xs = [.int i] ∧ i.natAbs.log2 < 1920 ∧ Q (.str (toString i)) H) reprD := by
  intro G0 H0 G H σ ρ xs ds Qd Q k rx hf fn
  cases rx with
  | nil => exact hf.elim
  | cons r t =>
    cases t with
    | cons _ _ => cases r <;> exact hf.elim
    | nil =>
      cases r with
      | int i => exact ⟨i, rfl, log_of hf.1, fn G H _ _ k Gr.refl (.str _) hf.2⟩
      | _ => exact hf.elim
section
variable {X : Cx} {W : XW} {e : Expr} {p pos : Pos}
theorem qe_repr {de : DE} (hm : X.mg "repr" = none) (ha : QE X W e de) (hg : Gl X "repr" := by rfl) (he : starEach [e] X.env = (false, eval e X.env) :: starEach [] X.env := by rfl) : QE X W (.Call (.Name "repr" p) [e] [] pos) (dCB reprD (dCons de dNil)) := qe_callB repr_E SkE.call_repr_int hm (by decide +kernel) (qa_cons ha qa_nil he) hg (he := he)
end
end WH
namespace WH
open PySem PySem.Spec PyProof.Rows L2
def lstTx (ns : List Int) : Str := (PyData.list (ns.map .int)).shown
def rReprL (K : PySem.W.Frag) : List V → Hp → VK → Prop := fun vs H Q => ∃ (a : Addr) (ns : List Int), vs = [V.ref a] ∧ SqL K H a (ns.map V.int) ∧ (∀ n ∈ ns, n.natAbs < 2 ^ 200) ∧ (lstTx ns).length ≤ 1000 ∧ Q (.str (lstTx ns)) H
theorem rdsAll_ints {h : Heap} : ∀ {ns : List Int} {vs : List Value}, Vals (ns.map V.int) vs → ReadsAll h vs (ns.map PyData.int) []
  | [], _, r => by cases r; exact .nil
  | n :: ns, _, r => by
    cases r with
    | cons a t =>
      obtain ⟨u, rfl⟩ := a
      exact ReadsAll.cons (as := []) (bs := []) (.int n u) (rdsAll_ints t)
theorem show_ints : ∀ {ns : List Int}, (∀ n ∈ ns, n.natAbs < 2 ^ 200) → PyData.showableAll (ns.map .int) = true
  | [], _ => rfl
  | n :: ns, h => by
    have h1 := h n List.mem_cons_self
    have h2 := show_ints fun x hx => h x (List.mem_cons_of_mem _ hx)
    simp only [List.map_cons, PyData.showableAll, h2, PyData.showable]
    have := log_of h1
    simp [this]
theorem noDict_ints : ∀ ns : List Int, PyData.hasDictAll (ns.map .int) = false
  | [] => rfl
  | n :: ns => by simp [PyData.hasDictAll, PyData.hasDict, noDict_ints ns]
theorem depth_ints : ∀ ns : List Int, PyData.depthAll (ns.map .int) = 0
  | [] => rfl
  | n :: ns => by simp [PyData.depthAll, PyData.depth, depth_ints ns]
theorem cr_reprL {X : Cx} (hg : X.A.guards = some []) (hu : X.A.units + 64 < cLine) : CallR X (.builtin "repr") (rReprL X.K) := by
  intro pins s σ H vs us Q I r h
  obtain ⟨a, ns, rfl, hs, hb, hz, q⟩ := h
  obtain ⟨its, rv, ⟨o, n, ho, hc, hd0, hd⟩, hl⟩ := I.list hs
  rw [Vals.ref1 r]
  have rd : Reads s.heap (.ref a) (.list (ns.map .int)) _ := Reads.list ho hc hd (by rw [List.toList_toArray]; exact rdsAll_ints (by simpa using rv))
  refine repr_of_reads' rd (by simp only [PyData.showable]; exact show_ints hb) (fun e => by simp [PyData.hasDict, noDict_ints] at e) hg (by simp only [PyData.depth, depth_ints]; omega) (fun _ _ e => e) (fun h' u tk hk => ⟨.str (lstTx ns), H, I.kept (t' := tk) hk, ⟨u, rfl⟩, q⟩) ?_
  have : sizeLine = sizeLine := rfl
  unfold lstTx at hz
  exact Nat.le_trans hz (by decide)
def reprLD : List PyData → (PyData → Prop) → Prop
  | [.list ds], Q => ∃ ns : List Int, ds = ns.map .int ∧ (∀ n ∈ ns, n.natAbs < 2 ^ 200) ∧ (lstTx ns).length ≤ 1000 ∧ Q (.str (lstTx ns))
  | _, _ => False
@[simp] theorem s_reprLD (ds : List PyData) (Q : PyData → Prop) : reprLD [.list ds] Q ↔ ∃ ns : List Int, ds = ns.map .int ∧ (∀ n ∈ ns, n.natAbs < 2 ^ 200) ∧ (lstTx ns).length ≤ 1000 ∧ Q (.str (lstTx ns)) := Iff.rfl
section
variable [TabC] [ObjB]
theorem reprL_E {K : PySem.W.Frag} : RAE K (rReprL K) reprLD := by
  intro G0 H0 G H σ ρ xs ds Qd Q k rx hf fn
  cases rx with
  | nil => exact hf.elim
  | cons r t =>
    cases t with
    | cons _ _ => cases r <;> exact hf.elim
    | nil =>
      cases r with
      | lst a1 a2 =>
        obtain ⟨ns, rfl, hb, hz, q⟩ := hf
        have ev := rpa_ofInts a2
        subst ev
        exact ⟨_, ns, rfl, SqL.of (k.gh _ _ a1), hb, hz, fn G H _ _ k Gr.refl (.str _) q⟩
      | _ => exact hf.elim
variable {X : Cx} {W : XW} {e : Expr} {p pos : Pos}
theorem qe_reprL {de : DE} (hgd : X.A.guards = some []) (hu : X.A.units + 64 < cLine) (hm : X.mg "repr" = none) (ha : QE X W e de) (hg : Gl X "repr" := by rfl) (he : starEach [e] X.env = (false, eval e X.env) :: starEach [] X.env := by rfl) : QE X W (.Call (.Name "repr" p) [e] [] pos) (dCB reprLD (dCons de dNil)) := qe_callB reprL_E (cr_reprL hgd hu) hm (by decide +kernel) (qa_cons ha qa_nil he) hg (he := he)
end
end WH
namespace WH
open PySem PySem.Spec L2 PyProof.Rows L2H LamX
variable [TabC] [ObjB]
def fieldOf : Nat → Str
  | 0 => "at"
  | 2 => "most"
  | _ => "level"
def TrD1 (x : Exn) (wd : Str) : Prop := ∃ i j : Int, x.2.lookup ("hand" : Str) = some (.int i) ∧ x.2.lookup ("row" : Str) = some (.int j) ∧ i.natAbs < 2 ^ 200 ∧ j.natAbs < 2 ^ 200 ∧ (lstTx [i, j]).length ≤ 1000 ∧ wd = x.1 ++ (" " : Str) ++ lstTx [i, j]
def TrD (c : Nat) (x : Exn) (wd : Str) : Prop := x.2.lookup ("word" : Str) = some (.str x.1) ∧ x.1.length ≤ 100 ∧ (match c with
  | 1 => TrD1 x wd
  | c => ((c = 4 ∧ wd = x.1) ∨ ((c = 0 ∨ c = 2 ∨ c = 3) ∧ ∃ i : Int, x.2.lookup (fieldOf c) = some (.int i) ∧ i.natAbs < 2 ^ 200 ∧ (PySem.Str.ofString (toString i)).length ≤ 1000 ∧ wd = x.1 ++ (" " : Str) ++ PySem.Str.ofString (toString i))))
theorem TrD.or {c : Nat} {x : Exn} {wd : Str} (h : TrD c x wd) : (c = 4 ∧ wd = x.1) ∨ ((c = 0 ∨ c = 2 ∨ c = 3) ∧ ∃ i : Int, x.2.lookup (fieldOf c) = some (.int i) ∧ i.natAbs < 2 ^ 200 ∧ (PySem.Str.ofString (toString i)).length ≤ 1000 ∧ wd = x.1 ++ (" " : Str) ++ PySem.Str.ofString (toString i)) ∨ (c = 1 ∧ TrD1 x wd) := by
  obtain ⟨_, _, h⟩ := h
  split at h
  · exact .inr (.inr ⟨rfl, h⟩)
  · rcases h with h | h
    · exact .inl h
    · exact .inr (.inl h)
def dTried (xn : List (Str × Nat)) (db : DE) : DE := fun ρ Q _ => db ρ (fun d => Q (.tuple [d, .str ""])) (fun x => ∃ c wd, (x.1, c) ∈ xn ∧ TrD c x wd ∧ Q (.tuple [.none, .str wd]))
@[simp] theorem s_dTried (xn : List (Str × Nat)) (db : DE) (ρ : Sto) (Q : PyData → Prop) (u : XD) : dTried xn db ρ Q u ↔ db ρ (fun d => Q (.tuple [d, .str ""])) (fun x => ∃ c wd, (x.1, c) ∈ xn ∧ TrD c x wd ∧ Q (.tuple [.none, .str wd])) := Iff.rfl
def WEX (K : PySem.W.Frag) (mg : Str → Option Value) (xn : List (Str × Nat)) (cls : Value) (d : Option Addr) (H : Hp) (Q : VK) : Prop :=
  ∃ x G c wd, ExcOk K mg G H x cls d ∧ (x.1, c) ∈ xn ∧ TrD c x wd ∧ Same G (nt H) ∧ Tabs TabC.T H ∧ ∀ G2 H2, Same G G2 → Ex H H2 → Same G2 (nt H2) → (∀ a o, G2 a = some o → G a = some o ∨ NS H a) → NewT H2 [.non, .str wd] Q
def TTr (K : PySem.W.Frag) (mg : Str → Option Value) (xn : List (Str × Nat)) : (XK → Hp → VK → Prop) → Hp → VK → Prop := fun tl H Q =>
  ∃ E : XK, (∀ cls d H', E cls d H' → WEX K mg xn cls d H' Q) ∧ ∀ (p0 : Addr) (its0 : List Value), H p0 = none → tl E (upd H p0 (tupN its0 [.non, .str ""])) (fun v H' => NewT H' [v, .str ""] Q)
theorem up_tried {K : PySem.W.Frag} {mg : Str → Option Value} {W : XW} {xn : List (Str × Nat)} {db : DE} (σ : L2.St) (H : Hp) (Q : VK) (h : upE K W (dTried xn db) σ H Q) : tLam TabC.T (TTr K mg xn) (fun E => upE K (WF mg E) db) σ H Q := by
  obtain ⟨G0, H0, G, ρ, Qd, Xd, k, h, fn, xo⟩ := h
  refine ⟨k.tb, fun H1 eN t1 => ?_⟩
  have ex : Ex H H1 := ⟨fun b o e => nt_of (eN b o (nt_some e) (nt_ntb e)) (nt_ntb e), fun _ => t1⟩
  have k1 : Ok K G0 H0 G H1 σ ρ := k.grow (Same.refl _) ex (k.gn.trans ex.s) fun a o e => .inl e
  have g1 : Gr G H G H1 := ⟨Same.refl _, ex, fun a o e => .inl e⟩
  refine ⟨fun cls d H' => ∃ G' x, Ok K G0 H0 G' H' σ ρ ∧ Gr G H1 G' H' ∧ ExcOk K mg G' H' x cls d ∧ ∃ c wd, (x.1, c) ∈ xn ∧ TrD c x wd ∧ Qd (.tuple [.none, .str wd]), fun cls d H' z => ?_, fun p0 its0 hp0 => ?_⟩
  · obtain ⟨G', x, k', g', eo, c, wd, hx, ht, q⟩ := z
    refine ⟨x, G', c, wd, eo, hx, ht, k'.gn, k'.tb, fun G2 H2 s1 s2 s3 s4 => ?_⟩
    have k2 : Ok K G0 H0 G2 H2 σ ρ := k'.grow s1 s2 s3 s4
    have g2 : Gr G H G2 H2 := (g1.trans g').trans ⟨s1, s2, s4⟩
    exact fin_tup k2 (fun G3 H3 v d k3 g3 rv q => fn G3 H3 v d k3 (g2.trans g3) rv q) (.cons .non (.cons (.str wd) .nil)) q
  · have gp : Gr G H1 G (upd H1 p0 (tupN its0 [.non, .str ""])) := Gr.fresh hp0
    refine ⟨G0, H0, G, ρ, _, _, k1.fresh hp0 (fun _ z => by cases z), h, fun G' H' v d k' g' rv q => ?_, fun G' H' x cls d k' g' eo z => ⟨G', x, k', gp.trans g', eo, z⟩⟩
    exact fin_tup k' (fun G3 H3 v d k3 g3 rv q => fn G3 H3 v d k3 (((g1.trans gp).trans g').trans g3) rv q) (.cons rv (.cons (.str _) .nil)) q
def tAsk (f c' : Addr) (q : Str) (V : WX) (tl : XK → Hp → VK → Prop) : TE := fun σ H Q => ∃ (E : XK) (Q' : VK), σ[0]? = some (some (.ref f)) ∧ H c' = some (CodeO c' q) ∧ (∀ cls d H', E cls d H' → V cls d σ H') ∧ tl E H Q' ∧ ∀ v H', Q' v H' → Q v H'
theorem pe_ask {Z : Cx} {e : Expr} {f c' : Addr} {q : Str} {V : WX} {tl : XK → Hp → VK → Prop} (h : ∀ E : XK, PE Z e (fun σZ HZ Q => σZ[0]? = some (some (.ref f)) ∧ HZ c' = some (CodeO c' q) ∧ (∀ cls d H', E cls d H' → V cls d σZ H') ∧ tl E HZ Q)) : PE Z e (tAsk f c' q V tl) :=
  ⟨fun pins s σ H Q I z => by
    obtain ⟨E, Q', h1, h2, h3, h4, h5⟩ := z
    refine thn ((h E).run pins s σ H Q' I ⟨h1, h2, h3, h4⟩) fun u s1 z => ?_
    obtain ⟨v, H1, I1, r, q⟩ := z
    exact ⟨v, H1, I1, r, h5 v H1 q⟩⟩
def tSu (K : PySem.W.Frag) (mg : Str → Option Value) (d1 : Addr → Addr → Str → DS) (a : Addr) (cls : Value) (d : Option Addr) : TS := fun Dn σ H => ∃ D dd nm, cls = .ref D ∧ d = some dd ∧ nm ∈ callNames ∧ CalF K mg nm D ∧ upS K (W0 mg) (d1 a dd nm) Dn σ H
theorem tsd {Y : Cx} {K : PySem.W.Frag} {mg : Str → Option Value} {d1 : Addr → Addr → Str → DS} {a : Addr} {oe : Obj} {cls : Value} {d : Option Addr} {st : List Stmt} (hz : L2N.Zn cls d oe) (h : ∀ D dd nm, L2N.Zn (.ref D) (some dd) oe → nm ∈ callNames → CalF K mg nm D → QSs Y (W0 mg) st (d1 a dd nm)) (hK : Y.K = K := by rfl) : PSs Y st (tSu K mg d1 a cls d) :=
  ⟨fun pins s σ H Dn I z => by
    subst hK
    obtain ⟨D, dd, nm, rfl, rfl, hn, cf, z⟩ := z
    exact (h D dd nm hz hn cf).run pins s σ H Dn I z⟩
theorem roomMk {k : Nat} {A : Around} (r : Room k A) (h : Option Value) : RoomH k (A.mark h) := ⟨r.dp, r.un⟩
def suN (f : Str) : Addr → Addr → Str → DS := fun a dd nm => dAsg 2 (d2 addD (d2 addD (dCalled 3 a dd nm) (dC (.str " "))) (dCB reprD (dCons (dXf 3 a dd f) dNil)))
def suP : Addr → Addr → Str → DS := fun a dd nm => dAsg 2 (dCalled 3 a dd nm)
def suL : Addr → Addr → Str → DS := fun a dd nm => dAsg 2 (d2 addD (d2 addD (dCalled 3 a dd nm) (dC (.str " "))) (dCB reprLD (dCons (dOfO (dLst (dCons (dXf 3 a dd "hand") (dCons (dXf 3 a dd "row") dNil)))) dNil)))
theorem ok_suite {K : PySem.W.Frag} {G H : Hp} {f a dd : Addr} {fs : List (Str × PyData)} {vs : List (Str × V)} (gh : Same G (nt H)) (tb : Tabs TabC.T H) (h1 : G dd = some (.xd vs)) (h2 : DpF K G vs fs) (hB : Same ObjB.B (nt H)) :
    Ok K G H G H [some (.ref f), some .non, some (.str ""), some (.ref a)] [Slot.no, .sh .none, .sh (.str ""), Slot.raw (.ref a) (some (dd, fs))] := by
  refine ⟨gh, Same.refl _, Ex.refl _, tb, fun a o e => .inl e, rfl, fun i d e => ?_, fun i o e => ?_, fun i j o u b _ e => ?_, fun i v x e => ?_, fun i a t e => (by
    match i, e with
    | 1, e => cases e
    | 2, e => cases e
    | 3, e => cases e
    | 0, e => cases e
    | n + 4, e => cases e), hB⟩
  · match i, e with
    | 1, e => cases e; exact ⟨_, rfl, .non⟩
    | 2, e => cases e; exact ⟨_, rfl, .str _⟩
    | 3, e => cases e
    | 0, e => cases e
    | n + 4, e => cases e
  · match i, e with
    | 1, e => cases e
    | 2, e => cases e
    | 3, e => cases e
    | 0, e => cases e
    | n + 4, e => cases e
  · match i, e with
    | 1, e => cases e
    | 2, e => cases e
    | 3, e => cases e
    | 0, e => cases e
    | n + 4, e => cases e
  · match i, e with
    | 3, e => cases e; exact ⟨rfl, fun q hq => by cases hq; exact ⟨vs, h1, h2⟩⟩
    | 1, e => cases e
    | 2, e => cases e
    | 0, e => cases e
    | n + 4, e => cases e
abbrev retEnds (Q : VK) : Ends := { nx := fun σ' H' => tRet (tTupN (tCons (tVar 1) (tCons (tVar 2) tNil))) { nx := fun _ H2 => Q .non H2, rt := Q } σ' H', rt := Q }
theorem su_run {K : PySem.W.Frag} {mg : Str → Option Value} {Q : VK} {D a dd f : Addr} {x : Exn} {wd : Str} {G H : Hp} {vs : List (Str × V)} {d1 : Addr → Addr → Str → DS} (gn : Same G (nt H)) (hB : Same ObjB.B (nt H)) (tb : Tabs TabC.T H) (hg : G dd = some (.xd vs)) (hd : DpF K G vs x.2) (cn : x.1 ∈ callNames) (cf : CalF K mg x.1 D)
    (fin : ∀ G2 H2, Same G G2 → Ex H H2 → Same G2 (nt H2) → (∀ a o, G2 a = some o → G a = some o ∨ NS H a) → NewT H2 [.non, .str wd] Q)
    (h : ∀ De : DEnds, De.nx [Slot.no, .sh .none, .sh (.str wd), Slot.raw (.ref a) (some (dd, x.2))] → d1 a dd x.1 De [Slot.no, .sh .none, .sh (.str ""), Slot.raw (.ref a) (some (dd, x.2))]) :
    tSu K mg d1 a (.ref D) (some dd) (asEnds 3 (retEnds Q)) [some (.ref f), some .non, some (.str ""), some (.ref a)] H := by
  refine ⟨D, dd, x.1, rfl, rfl, cn, cf, G, H, G, _, { nx := fun ρ' => ρ' = [Slot.no, .sh .none, .sh (.str wd), Slot.raw (.ref a) (some (dd, x.2))], rt := fun _ => False, ex := fun _ _ => False }, ok_suite gn tb hg hd hB, h _ rfl, fun G' H2 σ' ρ' k' e => ?_, fun _ _ _ _ z => z.elim, fun _ _ _ _ _ z => z.elim, fun _ _ _ _ _ z => z.elim, fun _ _ _ _ _ _ _ _ _ z => z.elim⟩
  subst e
  obtain ⟨v1, e1, r1⟩ := k'.sh 1 _ rfl
  obtain ⟨v2, e2, r2⟩ := k'.sh 2 _ rfl
  cases r1
  cases r2
  refine ⟨.non, by rw [getElem_set_eq, if_neg (by decide)]; exact e1, .str wd, by rw [getElem_set_eq, if_neg (by decide)]; exact e2, by show 2 ≤ sizeLine; decide, fin G' H2 k'.g0 k'.h0 k'.gn k'.nw⟩
theorem suN_run {nm f wd : Str} {a dd : Addr} {fs : List (Str × PyData)} {i : Int} (h1 : fs.lookup ("word" : Str) = some (.str nm)) (hl : nm.length ≤ 100) (h2 : fs.lookup f = some (.int i)) (h3 : i.natAbs < 2 ^ 200) (h4 : (PySem.Str.ofString (toString i)).length ≤ 1000) (hw : wd = nm ++ (" " : Str) ++ PySem.Str.ofString (toString i)) (De : DEnds)
    (h : De.nx [Slot.no, .sh .none, .sh (.str wd), Slot.raw (.ref a) (some (dd, fs))]) : suN f a dd nm De [Slot.no, .sh .none, .sh (.str ""), Slot.raw (.ref a) (some (dd, fs))] := by
  subst hw
  have e1 : (" " : Str).length = 1 := rfl
  have e2 : (nm ++ (" " : Str)).length = nm.length + 1 := by rw [len_app, e1]
  exact ⟨fs, rfl, h1, ⟨by omega, fs, _, rfl, h2, h3, by show (nm ++ (" " : Str)).length + (PySem.Str.ofString (toString i)).length ≤ 100000; omega, h⟩⟩
theorem suL_run {nm wd : Str} {a dd : Addr} {fs : List (Str × PyData)} {i j : Int} (h1 : fs.lookup ("word" : Str) = some (.str nm)) (hl : nm.length ≤ 100) (h2 : fs.lookup ("hand" : Str) = some (.int i)) (h5 : fs.lookup ("row" : Str) = some (.int j)) (h3 : i.natAbs < 2 ^ 200) (h6 : j.natAbs < 2 ^ 200) (h4 : (lstTx [i, j]).length ≤ 1000) (hw : wd = nm ++ (" " : Str) ++ lstTx [i, j]) (De : DEnds)
    (h : De.nx [Slot.no, .sh .none, .sh (.str wd), Slot.raw (.ref a) (some (dd, fs))]) : suL a dd nm De [Slot.no, .sh .none, .sh (.str ""), Slot.raw (.ref a) (some (dd, fs))] := by
  subst hw
  have e1 : (" " : Str).length = 1 := rfl
  have e2 : (nm ++ (" " : Str)).length = nm.length + 1 := by rw [len_app, e1]
  refine ⟨fs, rfl, h1, ⟨by omega, fs, _, rfl, h2, fs, _, rfl, h5, ?_⟩⟩
  refine ⟨by simp, _, rfl, [i, j], rfl, fun n hn => ?_, h4, by show (nm ++ (" " : Str)).length + (lstTx [i, j]).length ≤ 100000; omega, h⟩
  simp only [List.mem_cons, List.not_mem_nil, or_false] at hn
  rcases hn with rfl | rfl
  · exact h3
  · exact h6
theorem suP_run {nm : Str} {a dd : Addr} {fs : List (Str × PyData)} (h1 : fs.lookup ("word" : Str) = some (.str nm)) (De : DEnds)
    (h : De.nx [Slot.no, .sh .none, .sh (.str nm), Slot.raw (.ref a) (some (dd, fs))]) : suP a dd nm De [Slot.no, .sh .none, .sh (.str ""), Slot.raw (.ref a) (some (dd, fs))] := ⟨fs, rfl, h1, h⟩
theorem wall_of {K : PySem.W.Frag} {mg : Str → Option Value} {Q : VK} {f : Addr} {xn : List (Str × Nat)} {c1 c2 c3 c4 c5 c6 c7 c8 c9 : Value} (hx : ∀ nm c, (nm, c) ∈ xn → ∃ D, mg nm = some (.ref D) ∧ TrF K mg [[c1, c2, c3], [c4], [c5], [c6], [c7, c8, c9]] nm D c) {cls : Value} {d : Option Addr} {H : Hp} (h : WEX K mg xn cls d H Q) (hB : ∀ H : Hp, Same ObjB.B (nt H)) :
    wAll K 3 (retEnds Q) [([c1, c2, c3], fun a cls d => tSu K mg (suN "at") a cls d), ([c4], fun a cls d => tSu K mg suL a cls d), ([c5], fun a cls d => tSu K mg (suN "most") a cls d), ([c6], fun a cls d => tSu K mg (suN "level") a cls d), ([c7, c8, c9], fun a cls d => tSu K mg suP a cls d)] cls d [some (.ref f), some .non, some (.str ""), none] H := by
  obtain ⟨x, G, c, wd, ⟨hm, dd, vs, rfl, hg, hd⟩, hxn, htt, gn, tb, fin⟩ := h
  have ht := htt.or
  obtain ⟨hw, hl, _⟩ := htt
  replace hB := hB H
  obtain ⟨D, hD, tf⟩ := hx _ _ hxn
  have ec := hm.symm.trans hD
  cases ec
  have nt' : ∀ {P : Prop}, (true = false → P) := fun h => Bool.noConfusion h
  have nf' : ∀ {P : Prop}, (false = true → P) := fun h => Bool.noConfusion h
  rcases ht with ⟨rfl, rfl⟩ | ⟨hc, i, h2, h3, h4, hwd⟩ | ⟨rfl, i, j, h2, h5, h3, h6, h4, hwd⟩
  rotate_right
  · exact ⟨_, tf.no 0 (by omega), nf', fun _ => ⟨_, tf.ye, fun _ a ha => su_run gn hB tb hg hd tf.cn tf.cal fin fun De h => suL_run hw hl h2 h5 h3 h6 h4 hwd De h, nt'⟩⟩
  · exact ⟨_, tf.no 0 (by omega), nf', fun _ => ⟨_, tf.no 1 (by omega), nf', fun _ => ⟨_, tf.no 2 (by omega), nf', fun _ => ⟨_, tf.no 3 (by omega), nf', fun _ => ⟨_, tf.ye, fun _ a ha => su_run gn hB tb hg hd tf.cn tf.cal fin fun De h => suP_run hw De h, nt'⟩⟩⟩⟩⟩
  · rcases hc with rfl | rfl | rfl
    · exact ⟨_, tf.ye, fun _ a ha => su_run gn hB tb hg hd tf.cn tf.cal fin fun De h => suN_run hw hl h2 h3 h4 hwd De h, nt'⟩
    · exact ⟨_, tf.no 0 (by omega), nf', fun _ => ⟨_, tf.no 1 (by omega), nf', fun _ => ⟨_, tf.ye, fun _ a ha => su_run gn hB tb hg hd tf.cn tf.cal fin fun De h => suN_run hw hl h2 h3 h4 hwd De h, nt'⟩⟩⟩
    · exact ⟨_, tf.no 0 (by omega), nf', fun _ => ⟨_, tf.no 1 (by omega), nf', fun _ => ⟨_, tf.no 2 (by omega), nf', fun _ => ⟨_, tf.ye, fun _ a ha => su_run gn hB tb hg hd tf.cn tf.cal fin fun De h => suN_run hw hl h2 h3 h4 hwd De h, nt'⟩⟩⟩⟩
end WH
namespace WH
open PySem PySem.Spec L2 PyProof.Rows L2H LamX
variable [TabC] [ObjB]
section
variable {X : Cx} {W : XW}
theorem qe_tried {g : Addr} {k m : Nat} {pg : Arguments} {bg : List Stmt} {sg : Scope} {fd : FuncData} {Ng : List Str} {xn : List (Str × Nat)} {params : Arguments} {body : Expr} {scope : Scope} {db : DE} {p lpos pos : Pos}
    (F : FunD X.K "_law_tried" "_law_tried" pg bg sg [] [] g fd) (hm : X.mg "_law_tried" = some (.ref g)) (hb : L2.Binds X.K fd ["_law_ask"] []) (Sg : FnScope Ng ["_law_ask"] sg) (hNg : Ng[0]? = some ("_law_ask" : Str)) (hva : Vis sg "_law_ask")
    (hG : ∀ cdv q, GivesN X Ng "_law_tried" sg g cdv bg "_law_ask" q k (TTr X.K X.mg xn)) (TX : TabX X) (hr : Room m X.A) (hk : k + 2 ≤ m)
    (hbody : ∀ (A : Around) (outer : List Env) (s : Shared) (H : Hp) (E : XK) (f c' : Addr), Room k (A.deeper (lamEnv X scope s.heap.objs.size f c')) → QE (lamN X A outer s H E scope f c') (WF X.mg E) body db)
    (L : LamS X.env.scope scope := by exact lamS_by (by decide +kernel)) (hdef : defaultsOf params X.env = ([], []) := by rfl)
    (hbind : ∀ (q : Str) (cl : List (Str × Addr)) (pm cv ctv : Value), bindArgs (PySem.W.kla_fn "<lambda>" q params body scope cl pm cv ctv) ⟨[], []⟩ = pure [] := by intro _ _ _ _ _; rfl) (hg : Gl X "_law_tried" := by rfl) :
    QE X W (.Call (.Name "_law_tried" p) [.Lambda params body scope lpos] [] pos) (dTried xn db) := by
  obtain ⟨c, P, TB, hcode, hmT, hu⟩ := TX.ex
  have kp := F.kp
  obtain ⟨oc, od, dV, kV, doc, pm, an, cdv, ct, osl, rfl, lk, hcd, _, _⟩ := F.ex
  exact PE.sub (pe_lamN (T := TabC.T) (TT := TTr X.K X.mg xn) (t := fun E => upE X.K (WF X.mg E) db) hg hm kp lk hcd hb Sg hNg hva (hG cdv _) TB hcode hmT hu (hr.mono hk) L hdef hbind hbody (by decide) (by decide) (by decide)) up_tried
end
section
variable {P : Program} {w : World} {K : PySem.W.Frag} {mg : Str → Option Value} {base : Heap}
omit [ObjB] in
end
theorem takes_lam {X : Cx} {A : Around} {outer : List Env} {s : Shared} {H : Hp} {E : XK} {scope : Scope} {f c' : Addr} {mg : Str → Option Value} : L2N.Takes (lamN X A outer s H E scope f c') (WF mg E).2 := L2N.takes_of rfl rfl rfl rfl
end WH
namespace LamX
open PySem PySem.Spec PyProof.Rows L2
theorem fn_ofG {CX : CXT} {P : Program} {w : World} {K : PySem.W.Frag} {mg : Str → Option Value} {base : Heap} {k : Nat} {f : Addr} {name qual : Str} {params : Arguments} {body : List Stmt} {scope : Scope} {dV kV doc pm cdv ct oc : Value} {an od : Option Addr}
    {osl : Array (Option Value)} {N ps : List Str} {sp : Sp} (lk : K.lookup f = some ⟨oc, od, .func (PySem.W.fnOf name qual params body scope dV kV doc pm an cdv ct), osl⟩) (hcd : PySem.W.codeIn K cdv qual = true) (S : FnScope N ps scope)
    (len : ∀ vs H Q E, sp vs H Q E → vs.length = ps.length)
    (hbody : ∀ (A : Around) (outer : List Env) (s : Shared) (H : Hp) (vs : List V) (Q : VK) (E : XK), A.guards = some [] → Room k (A.deeper (envOfC qual scope s.heap.objs.size f cdv)) → sp vs H Q E →
      ∃ t, PSs (cxOf CX P w K mg base N qual scope f cdv A outer s H E) body t ∧ t { nx := fun _ H' => Q .non H', rt := Q } (start N vs) H) :
    FnOkG P w K mg base CX (k + 1) f (PySem.W.fnOf name qual params body scope dV kV doc pm an cdv ct) ps sp := by
  refine ⟨len, fun A outer s H args us vs Q E hr hgd e0 hb r hsp => ?_⟩
  have hl := len _ _ _ _ hsp
  have KX : K.In s.heap := e0.mod.kin.keeps fun b o e => (e0.bs b o e).1
  have lim : s.heap.NoLimit := e0.mod.nolimit.keeps fun b o e => (e0.bs b o e).1
  have hkind : ∀ y ∈ ps.zip us, scope.names.lookup y.1 = some .local ∨ (scope.names.lookup y.1 = some .cell ∧ ((cellsFrom (s.heap.objs.size + 1) scope.names []).lookup y.1).isSome = true) := fun ⟨n, v⟩ hy => by
    rcases S.par n (List.of_mem_zip hy).1 with q | q
    · exact .inl q
    · exact .inr ⟨q, PySem.W.cellsFrom_some _ _ _ (.inl q)⟩
  refine codeAny_call_function hr.depth (KX _ _ lk) rfl S.co S.gen rfl (PySem.W.codeRec_of KX hcd) (hb _ _ _ _ ?_)
  refine wpAny_newFunctionEnv_cells S.kind hkind fun env he s1 x => ?_
  subst he
  refine ⟨lim.keeps x.toInCall.keep, codeAny_func ?_⟩
  obtain ⟨t, ht, hq⟩ := hbody A outer s H vs Q E hgd (hr.deeper _) hsp
  have I : Inv (cxOf CX P w K mg base N qual scope f cdv A outer s H E) [] (start N vs) H s1 := inv_start S hr.hd e0 hl r x
  refine wpAny_mono (ht.run [] s1 (start N vs) H _ I hq) (fun fl s' hs => ?_) fun e s' hs => hs
  have fin : ∀ {σ' : L2.St} {H' : Hp} {v : V} {u : Value}, Inv (cxOf CX P w K mg base N qual scope f cdv A outer s H E) [] σ' H' s' → RelV v u → Q v H' → CE outer P w H s Q u s' :=
    fun {σ' H' v u} J rv q => ⟨v, H', J.os, J.bare, J.base, J.hok, rv, q⟩
  cases fl with
  | ret u =>
    obtain ⟨v, σ', H', J, rv, q⟩ := hs
    exact fin J rv q
  | next =>
    obtain ⟨σ', H', J, q⟩ := hs
    exact fin (v := V.non) (u := Value.none) J rfl q
  | brk =>
    obtain ⟨_, _, _, q⟩ := hs
    exact False.elim q
  | cont =>
    obtain ⟨_, _, _, q⟩ := hs
    exact False.elim q
theorem law_callTsG {P : Program} {w : World} {K : PySem.W.Frag} {mg mb : Str → Option Value} {CX : CXT} {k : Nat} {fa a : Addr} {cs : List (Addr × Addr)} {fd : FuncData} {x : Str} {sp : Sp} {s₁ : Shared} {vs : List Value} {ns : List Int}
    (KX : K.In s₁.heap) (hns : s₁.heap.Ns mainGlobals mg) (hb : s₁.heap.Ns builtinsNs mb) (hbb : ∀ x : Str, x ≠ "__name__" → mb x = bootBuiltins x) (hlim : s₁.heap.NoLimit) (hg : s₁.gens = #[])
    (hT : ∀ p ∈ cs, s₁.heap.get? p.2 = some { cls := .none, data := .fields #[] }) (nT : ∀ p ∈ cs, K.lookup p.2 = none) (C : ∀ p ∈ cs, PySem.W.CodeHd s₁.heap p.1 p.2)
    (hbm : ∃ (bm : Addr) (ob : Obj), mg "__builtins__" = some (.ref bm) ∧ bm ≠ builtinsNs ∧ s₁.heap.get? bm = some ob ∧ ob.cls = .type "module" ∧ ob.dict = some builtinsNs ∧ ob.data = .plain)
    (ha : s₁.heap.get? a = some { cls := .type "list", data := .seq vs.toArray }) (hi : IntsAre vs ns) (hl : ns.length ≤ sizeLine) (hr : Room k callerA)
    (F : ∀ base : Heap, K.In base → base.Ns mainGlobals mg → (∀ p ∈ cs, TabB base mg p.1 p.2) → FnOkG P w K mg base CX k fa fd [x] sp) (hbind : ∀ (s : Shared) (u : Value), BindsTo s fd ⟨[u], []⟩ [(x, u)])
    (hsp : ∀ H : Hp, (∀ p ∈ cs, H p.2 = some (.tbl #[])) → SqL K H a (ns.map V.int) → sp [.ref a] H (fun v _ => v = .bl true) fun _ _ _ => False)
    (hCX : ∀ H e s', CX [] H s₁ (fun _ _ _ => False) e s' → False) :
    codeAny (model P w) callerA (.call (.ref fa) ⟨[.ref a], []⟩) (fun r s' => r = .ok (.ret (.bool true)) ∧ OldK s₁.heap s'.heap ∧ s'.os = s₁.os ∧ AllBare s'.gens) s₁ := by
  have rv := vals_ints hi
  have lenV := hi.length
  have isT : ∀ b : Addr, b ∈ cs.map (·.2) → s₁.heap.get? b = some { cls := .none, data := .fields #[] } := fun b hb => by
    obtain ⟨p, hp, e⟩ := List.mem_map.mp hb
    rw [← e]
    exact hT p hp
  have aT : a ∉ cs.map (·.2) := fun z => by
    have q := isT a z
    rw [ha] at q
    have z' : Data.seq vs.toArray _ = Data.fields #[] := congrArg Obj.data (Option.some.inj q)
    cases z'
  have memT : ∀ p ∈ cs, p.2 ∈ cs.map (·.2) := fun p hp => List.mem_map.mpr ⟨p, hp, rfl⟩
  -- from an abstract heap in which nothing but the script and the tables may be tracked
  have core : ∀ H : Hp, (∀ p ∈ cs, H p.2 = some (.tbl #[])) → (∀ b, H b = none ∨ b ∈ cs.map (·.2) ∨ ∃ o xs, H b = some (.frz o (.lst xs))) → SqL K H a (ns.map V.int) → HOk P w H s₁.heap → (∀ b, H b ≠ none → b = a ∨ b ∈ cs.map (·.2)) → (H a ≠ none → K.lookup a = none) →
      codeAny (model P w) callerA (.call (.ref fa) ⟨[.ref a], []⟩) (fun r s' => r = .ok (.ret (.bool true)) ∧ OldK s₁.heap s'.heap ∧ s'.os = s₁.os ∧ AllBare s'.gens) s₁ := by
    intro H hH hO hS hok hA hK
    have base_of : ∀ {b : Addr} {o : Obj}, s₁.heap.get? b = some o → H b = none → (hidT s₁.heap H).get? b = some o := fun e n => hidT_get e n
    have noD : ∀ {b : Addr} {o : Obj}, s₁.heap.get? b = some o → (∀ vs n, o.data ≠ .seq vs n) → o.data ≠ .fields #[] → H b = none := fun {b o} e h1 h2 => by
      cases q : H b with
      | none => rfl
      | some u =>
        rcases hA b (by rw [q]; simp) with e' | e'
        · rw [e', ha] at e
          cases e
          exact (h1 _ _ rfl).elim
        · rw [isT b e'] at e
          cases e
          exact (h2 rfl).elim
    have noA : ∀ {b : Addr} {o : Obj} {es : Array DictEntry} {ep : Nat}, s₁.heap.get? b = some o → o.data = .dict es ep → H b = none := fun {b o es ep} e d => by
      refine noD e (fun vs n z => ?_) fun z => ?_
      · rw [d] at z
        cases z
      · rw [d] at z
        cases z
    have nsK : ∀ {b : Addr} {m : Str → Option Value}, s₁.heap.Ns b m → (hidT s₁.heap H).Ns b m := fun {b m} ⟨o, es, ep, e, d, r⟩ => ⟨o, es, ep, base_of e (noA e d), d, r⟩
    have hKb : K.In (hidT s₁.heap H) := fun b o e => base_of (KX b o e) (by
      cases q : H b with
      | none => rfl
      | some u =>
        rcases hA b (by rw [q]; simp) with e' | e'
        · rw [e'] at e q
          rw [hK (by rw [q]; simp)] at e
          cases e
        · obtain ⟨p, hp, ep⟩ := List.mem_map.mp e'
          rw [← ep, nT p hp] at e
          cases e)
    have hM : L2.Mod K mg (hidT s₁.heap H) := ⟨hKb, nsK hns, ⟨mb, nsK hb, hbb⟩, let ⟨mc, h1, h2⟩ := hlim; ⟨mc, nsK h1, h2⟩⟩
    have TB : ∀ p ∈ cs, TabB (hidT s₁.heap H) mg p.1 p.2 := fun p hp => by
      have hTp := hT p hp
      refine ⟨?_, ?_, fun z => ?_⟩
      · obtain ⟨o, us, file, tf, flags, tg, inF, text, tt, e1, r1, r2, r3, r4, r5, r6, r7, r8, hne⟩ := C p hp
        refine ⟨o, us, file, tf, flags, tg, inF, text, tt, base_of e1 (noD e1 (fun vs n z => ?_) fun z => ?_), r1, r2, r3, r4, r5, r6, r7, r8, hne⟩
        · rw [r2] at z
          cases z
        · rw [r2] at z
          cases z
          simp at r3
      · obtain ⟨bm, ob, b1, b2, b3, b4, b5, b6⟩ := hbm
        have nG : bm ≠ mainGlobals := fun q => by
          obtain ⟨o, es, ep, e, hd, _⟩ := hns
          rw [q, e] at b3
          cases b3
          rw [hd] at b6
          cases b6
        have nP : bm ≠ p.2 := fun q => by
          rw [q, hTp] at b3
          cases b3
          cases b6
        refine ⟨bm, ob, b1, b2, nG, nP, base_of b3 (noD b3 (fun vs n z => ?_) fun z => ?_), b4, b5, b6⟩
        · rw [b6] at z
          cases z
        · rw [b6] at z
          cases z
      · obtain ⟨o, es, ep, e, hd, _⟩ := hns
        rw [z, hTp] at e
        cases e
        cases hd
    have e0 : Env0 P w K mg (hidT s₁.heap H) callerA [] s₁ H := ⟨rfl, hM, fun b o e => of_hidT e, Nat.le_of_eq (hidT_size _ _), trivial, fun b hb => absurd (show b ∈ ([] : List Addr) from hb) (by simp), hok, .of_eq hg⟩
    refine codeAny_mono ((F _ hKb (nsK hns) TB).run callerA [] s₁ H ⟨[.ref a], []⟩ [.ref a] [.ref a] _ _ hr rfl e0 (hbind s₁ (.ref a)) (.cons rfl .nil) (hsp H hH hS)) fun r s' h => ?_
    cases r with
    | error e => exact (hCX H e s' h).elim
    | ok fl =>
      cases fl with
      | next => exact False.elim h
      | brk => exact False.elim h
      | cont => exact False.elim h
      | ret u =>
        obtain ⟨v, H', os, bare, un, hok', r', q⟩ := h
        have q' : v = .bl true := q
        subst q'
        obtain rfl : u = Value.bool true := r'
        have key : ∀ b o, b ∉ cs.map (·.2) → s₁.heap.get? b = some o → s'.heap.get? b = some o := fun b o nb e => by
          cases q : H b with
          | none => exact un.keep b o e q (by intro z; exact absurd (show b ∈ ([] : List Addr) from z) (by simp)) (by simp)
          | some u =>
            rcases hO b with z | z | ⟨ob, xs, z⟩
            · rw [q] at z; cases z
            · exact absurd z nb
            · have z2 := un.frzs b ob _ z
              obtain ⟨e1, _⟩ := hok b _ z
              obtain ⟨e2, _⟩ := hok' b _ z2
              rw [e] at e1; cases e1
              exact e2
        have grown : ∀ p ∈ cs, ∃ more : Array Value, s'.heap.get? p.2 = some { cls := .none, data := .fields more } := fun p hp => by
          obtain ⟨more, z⟩ := un.tbls p.2 #[] (hH p hp)
          exact ⟨_, hok' p.2 _ z⟩
        refine ⟨rfl, ⟨fun b o e => ?_, fun b o e => ?_⟩, os, bare⟩
        · by_cases hb : b ∈ cs.map (·.2)
          · obtain ⟨p, hp, ep⟩ := List.mem_map.mp hb
            obtain ⟨more, hm⟩ := grown p hp
            rw [← ep] at e ⊢
            rw [hT p hp] at e
            cases e
            exact .inr (.inl ⟨((C p hp).tab (hT p hp)).isCodeTable, rfl, #[], more, rfl, by rw [Array.empty_append]; exact hm⟩)
          · exact .inl (key b o hb e)
        · by_cases hb : b ∈ cs.map (·.2)
          · obtain ⟨p, hp, ep⟩ := List.mem_map.mp hb
            obtain ⟨more, hm⟩ := grown p hp
            rw [← ep]
            exact ⟨_, hm⟩
          · exact ⟨o, key b o hb e⟩
  cases hk : K.lookup a with
  | some o =>
    have e := KX a o hk
    rw [ha] at e
    cases e
    refine core (fun b => if b ∈ cs.map (·.2) then some (.tbl #[]) else none) (fun p hp => if_pos (memT p hp)) (fun b => ?_) (.inr ⟨_, vs.toArray, _, hk, rfl, rfl, rfl, by rw [List.size_toArray, lenV]; exact hl, by simpa using rv⟩) (fun b u z => ?_) (fun b z => ?_) fun z => absurd (show (if a ∈ cs.map (·.2) then some (HO.tbl #[]) else none) = none from if_neg aT) z
    · by_cases hb : b ∈ cs.map (·.2)
      · exact .inr (.inl hb)
      · exact .inl (if_neg hb)
    · by_cases hb : b ∈ cs.map (·.2)
      · have z' := (if_pos hb).symm.trans z
        cases z'
        exact isT b hb
      · have z' := (if_neg hb).symm.trans z
        cases z'
    · by_cases hb : b ∈ cs.map (·.2)
      · exact .inr hb
      · exact absurd (if_neg hb) z
  | none =>
    refine core (fun b => if b = a then some (.frz { cls := .type "list", data := .seq vs.toArray } (.lst (ns.map V.int))) else if b ∈ cs.map (·.2) then some (.tbl #[]) else none) (fun p hp => (if_neg (show ¬ p.2 = a from fun z => aT (by rw [← z]; exact memT p hp))).trans (if_pos (memT p hp))) (fun b => ?_)
      (.inl (.inr ⟨{ cls := .type "list", data := .seq vs.toArray }, if_pos rfl⟩)) (fun b u z => ?_) (fun b z => ?_) fun _ => hk
    · by_cases hb : b = a
      · exact .inr (.inr ⟨_, _, if_pos hb⟩)
      · by_cases hb2 : b ∈ cs.map (·.2)
        · exact .inr (.inl hb2)
        · exact .inl ((if_neg hb).trans (if_neg hb2))
    · by_cases hb : b = a
      · have z' := (if_pos hb).symm.trans z
        cases z'
        rw [hb]
        exact ⟨ha, by rw [List.length_map]; exact hl, vs, _, rv, ha⟩
      · have z1 := (if_neg hb).symm.trans z
        by_cases hb2 : b ∈ cs.map (·.2)
        · have z' := (if_pos hb2).symm.trans z1
          cases z'
          exact isT b hb2
        · have z' := (if_neg hb2).symm.trans z1
          cases z'
    · by_cases hb : b = a
      · exact .inl hb
      · by_cases hb2 : b ∈ cs.map (·.2)
        · exact .inr hb2
        · exact absurd ((if_neg hb).trans (if_neg hb2)) z
def LawAtSG (l : PySem.W.OpenLaw) (w : World) (K : PySem.W.Frag) (CX : CXT) (k n : Nat) (x : Str) (mg : Str → Option Value) (fa : Addr) (h : Heap) : Prop :=
  ∃ (fd : FuncData) (cs : List (Addr × Addr)) (sp : Sp), (∀ p ∈ cs, h.get? p.2 = some { cls := .none, data := .fields #[] }) ∧ (∀ p ∈ cs, K.lookup p.2 = none) ∧ (∀ p ∈ cs, PySem.W.CodeHd h p.1 p.2) ∧ (∀ (s : Shared) (u : Value), BindsTo s fd ⟨[u], []⟩ [(x, u)]) ∧
    (∀ (H : Hp) (a : Addr) (ns : List Int), ns.length ≤ n → (∀ z ∈ ns, Builtin.Int.intBits z ≤ 1048576) → (∀ p ∈ cs, H p.2 = some (.tbl #[])) → SqL K H a (ns.map V.int) → sp [.ref a] H (fun v _ => v = .bl true) fun _ _ _ => False) ∧
    ∀ base : Heap, K.In base → base.Ns mainGlobals mg → (∀ p ∈ cs, TabB base mg p.1 p.2) → FnOkG l.prog w K mg base CX k fa fd [x] sp
theorem walk_ofTsEG {l : PySem.W.OpenLaw} {n k : Nat} {q : Program} {loose : List Str} {XP : (Str → Option Value) → Heap → Prop} {YP : World → Heap → Prop} {d : DefRec} {CX : World → CXT} {x : Str}
    (hn : l.most = some n) (hn2 : n ≤ sizeLine) (hdf : d.params.defaults = []) (hr : Room k callerA)
    (F : ∀ (w : World) (mg : Str → Option Value) (fa : Addr) (h : Heap), YP w h → h.Ns mainGlobals mg → mg d.name = some (.ref fa) → ∃ K : PySem.W.Frag, K.In h ∧ LawAtSG l w K (CX w) k n x mg fa h)
    (hCX : ∀ (w : World) (H : Hp) (s : Shared) (e : Value) (s' : Shared), CX w [] H s (fun _ _ _ => False) e s' → False) :
    PySem.W.WalkO q loose XP YP l.row.toRowW d [] (fun f vs => PySem.call f vs) := by
  refine Att.attach_callB hn hdf fun w s₀ s₁ mg mb fa o pm cd doc a vs ns G Y ho hd hcd hmg hobj hints hlen hbits hg => ?_
  obtain ⟨K, KX, fd, cs, sp, hT, nT, C, hb, hsp, hF⟩ := F w mg fa _ Y G.T.g hmg
  exact law_callTsG KX G.T.g G.T.b G.T.builtins G.T.nolimit hg hT nT C G.T.bmain hobj hints (Nat.le_trans hlen hn2) hr hF hb (fun H hH hS => hsp H a ns hlen hbits hH hS) fun H e s' => hCX w H s₁ e s'
end LamX
namespace WH
open PySem PySem.Spec L2 PyProof.Rows L2H LamX
theorem rmH64 {k : Nat} {A : Around} (r : RoomH k A) : A.units + 64 < cLine := by have := r.un; omega
theorem FnOkG.mono {P : Program} {w : World} {K : PySem.W.Frag} {mg : Str → Option Value} {base : Heap} {CX : CXT} {j k : Nat} {f : Addr} {fd : FuncData} {ps : List Str} {sp : Sp} (F : LamX.FnOkG P w K mg base CX j f fd ps sp) (h : j ≤ k) : LamX.FnOkG P w K mg base CX k f fd ps sp := ⟨F.len, fun A outer s H args us vs Q E hr => F.run A outer s H args us vs Q E (hr.mono h)⟩
end WH
namespace WH
open PySem PySem.Spec L2 PyProof.Rows L2H LamX PySem.W
variable [TabC] [ObjB]
abbrev klD_fn (qual : Str) (params : Arguments) (body : Expr) (scope : Scope) (cl : List (Str × Addr)) (dV pm cdv ct : Value) : FuncData :=
  { name := "<lambda>", qualname := qual, params, body := .expr body, scope, globals := mainGlobals, closure := cl, defaults := dV, kwdefaults := .none, doc := .none, pyModule := pm, annotations := none, code := cdv, closureTuple := ct, builtins := builtinsNs }
abbrev klD_obj (qual : Str) (params : Arguments) (body : Expr) (scope : Scope) (clos : List (Str × Addr)) (dV pm : Value) (c' : Addr) (ctv : Value) : Obj :=
  { cls := .type "function", data := .func (klD_fn qual params body scope clos dV pm (.ref c') ctv) }
section
variable {M : Model} {A : Around} {E : Value → Shared → Prop} {s : Shared} {qual : Str} {params : Arguments} {body : Expr} {scope : Scope} {env : Env} {c P : Addr} {ps : Array Value} {pos : Pos} {firstLine : Nat} {mg : Str → Option Value}
  {clos : List (Str × Addr)} {Q : Value → Shared → Prop} {dV : Value}
theorem klD_makeTail (hcl : closureFor scope env = pure clos) (hge0 : env.globals = mainGlobals) (hg : s.heap.Ns mainGlobals mg) (hcode : env.code = .ref c) (C : CodeHd s.heap c P) (hP : s.heap.get? P = some (tabObj ps)) (ht : TriplesOk ps.toList)
    (hnf : codeAmong pos ps.toList = none) (hgP : mainGlobals ≠ P) (hb : s.heap.BuiltinsAt mg P)
    (h : ∀ c' ctv h' tk, Heap.ExtBut P s.heap h' → s.heap.objs.size ≤ c' → c' < h'.objs.size → h'.CodeRec (.ref c') qual → h'.get? P = some (tabObj (ps ++ #[rawInt pos.line, rawInt pos.col, .ref c'])) →
      Q (.ref h'.objs.size) { s with heap := h'.push (klD_obj qual params body scope clos dV ((mg "__name__").getD .none) c' ctv), toks := tk }) :
    wpAny M A (makeTail "<lambda>" qual params (.expr body) scope env dV .none none pos firstLine) Q E s := by
  obtain ⟨bm, ob, hbm, hne0, _, hneP, hbo, hcls, hdict, hdata⟩ := hb
  unfold makeTail
  rw [hcl, hge0]
  refine wpAny_bind (wpAny_pure ?_)
  cases clos with
  | nil =>
    simp only [List.isEmpty_nil, if_true]
    refine wpAny_bind (wpAny_pure ?_)
    refine wpAny_bind (wpAny_functionCodeX hcode (C.code hP ht) (C.tab hP) hnf fun c' h' tk hx hge hlt _ hrec htb _ => ?_)
    have hg' := hg.extBut hx hgP
    refine wpAny_bind (wpAny_builtinsFor hg' hbm hne0 (hx _ _ hneP hbo) hcls hdict hdata ?_)
    refine wpAny_bind (wpAny_nsGet hg' ?_)
    exact wpAny_bind (wpAny_pure (wpAny_newObj_type (h c' .none h' tk hx hge hlt hrec htb.2) (by size_fits)))
  | cons q r =>
    simp only [List.isEmpty_cons, Bool.false_eq_true, if_false]
    refine wpAny_bind (wpAny_newTextTuple ?_)
    refine wpAny_bind (wpAny_functionCodeX hcode ((C.keeps fun b o e => Heap.get?_push_of_some _ e).code (Heap.get?_push_of_some _ hP) ht) ((C.keeps fun b o e => Heap.get?_push_of_some _ e).tab (Heap.get?_push_of_some _ hP)) hnf fun c' h' tk hx hge hlt _ hrec htb _ => ?_)
    have hg' := (hg.push _).extBut hx hgP
    have hx' : Heap.ExtBut P s.heap h' := fun b o hb' e => hx b o hb' (Heap.get?_push_of_some _ e)
    have hge' : s.heap.objs.size ≤ c' := Nat.le_trans (by rw [Heap.size_push]; omega) hge
    refine wpAny_bind (wpAny_builtinsFor hg' hbm hne0 (hx' _ _ hneP hbo) hcls hdict hdata ?_)
    refine wpAny_bind (wpAny_nsGet hg' ?_)
    exact wpAny_bind (wpAny_pure (wpAny_newObj_type (h c' _ h' tk hx' hge' hlt hrec htb.2) (by size_fits)))
theorem klD_makeTailHit {cv : Value} (hcl : closureFor scope env = pure clos) (hge0 : env.globals = mainGlobals) (hg : s.heap.Ns mainGlobals mg) (hcode : env.code = .ref c) (C : CodeHd s.heap c P) (hP : s.heap.get? P = some (tabObj ps)) (ht : TriplesOk ps.toList)
    (hf : codeAmong pos ps.toList = some cv) (hb : s.heap.BuiltinsAt mg P)
    (h : ∀ (ctv : Value) (h' : Heap) (tk : Tok), (∀ b o, s.heap.get? b = some o → h'.get? b = some o) → s.heap.objs.size ≤ h'.objs.size →
      Q (.ref h'.objs.size) { s with heap := h'.push { cls := .type "function", data := .func (klD_fn qual params body scope clos dV ((mg "__name__").getD .none) cv ctv) }, toks := tk }) :
    wpAny M A (makeTail "<lambda>" qual params (.expr body) scope env dV .none none pos firstLine) Q E s := by
  obtain ⟨bm, ob, hbm, hne0, _, hneP, hbo, hcls, hdict, hdata⟩ := hb
  unfold makeTail
  rw [hcl, hge0]
  refine wpAny_bind (wpAny_pure ?_)
  cases clos with
  | nil =>
    simp only [List.isEmpty_nil, if_true]
    refine wpAny_bind (wpAny_pure ?_)
    refine wpAny_bind (wpAny_functionCode_hit hcode (C.code hP ht) hf ?_)
    refine wpAny_bind (wpAny_builtinsFor hg hbm hne0 hbo hcls hdict hdata ?_)
    refine wpAny_bind (wpAny_nsGet hg ?_)
    exact wpAny_bind (wpAny_pure (wpAny_newObj_type (h .none s.heap s.toks (fun _ _ e => e) (Nat.le_refl _)) (by size_fits)))
  | cons q r =>
    simp only [List.isEmpty_cons, Bool.false_eq_true, if_false]
    refine wpAny_bind (wpAny_newTextTuple ?_)
    refine wpAny_bind (wpAny_functionCode_hit hcode ((C.keeps fun b o e => Heap.get?_push_of_some _ e).code (Heap.get?_push_of_some _ hP) ht) hf ?_)
    refine wpAny_bind (wpAny_builtinsFor (hg.push _) hbm hne0 (Heap.get?_push_of_some _ hbo) hcls hdict hdata ?_)
    refine wpAny_bind (wpAny_nsGet (hg.push _) ?_)
    have hsz : ∀ oT : Obj, s.heap.objs.size ≤ (s.heap.push oT).objs.size := fun oT => by rw [Heap.size_push]; omega
    exact wpAny_bind (wpAny_pure (wpAny_newObj_type (h _ _ s.toks (fun b o e => Heap.get?_push_of_some _ e) (hsz _)) (by size_fits)))
end
section
variable {X : Cx} {pins : List (Addr × Obj)} {σ : L2.St} {H : Hp} {s : Shared}
theorem nofr_of (I : Inv X pins σ H s) {f : Addr} (hf : s.heap.objs.size ≤ f) : f ∉ frs X.stack := fun z => by
  rcases List.mem_cons.mp (I.stkSub _ z) with e | e
  · have h1 := I.lt
    rw [← e] at h1
    exact Nat.lt_irrefl _ (Nat.lt_of_lt_of_le h1 hf)
  · exact I.nofs hf e
theorem lam_tailD {T : List (Addr × Str)} {c P dt : Addr} {od : Obj} {params : Arguments} {body : Expr} {scope : Scope} {pos : Pos} {E : Value → Shared → Prop} {Q : Value → Shared → Prop} (I : Inv X pins σ H s) (TB : TabB X.base X.mg c P) (hcode : X.env.code = .ref c)
    (hm : (P, X.env.qual ++ "<lambda>") ∈ T) (hu : ∀ p ∈ T, p.1 = P → p.2 = X.env.qual ++ "<lambda>") (hT : Tabs T H) (hfree : ∀ y ∈ scope.names, y.2 = .free → ∃ c, X.env.cells.lookup y.1 = some c)
    (hd : s.heap.get? dt = some od) (hdn : H dt = none)
    (h : ∀ (f c' : Addr) (pm ctv : Value) (H1 : Hp) (s' : Shared), Inv X pins σ H1 s' → ExtN H H1 → Tabs T H1 →
      s'.heap.get? f = some (klD_obj (X.env.qual ++ "<lambda>") params body scope (cloFrom X.env.cells scope.names []) (.ref dt) pm c' ctv) → H1 f = none → f ∉ frs X.stack → H1 c' = some (CodeO c' (X.env.qual ++ "<lambda>")) → s'.heap.get? dt = some od → H1 dt = none → Q (.ref f) s') :
    wpAny (model X.prog X.w) X.A (makeTail "<lambda>" (X.env.qual ++ "<lambda>") params (.expr body) scope X.env (.ref dt) .none none pos pos.line) Q E s := by
  obtain ⟨ps, hP, ht, ha⟩ := hT _ hm
  have bP : s.heap.BuiltinsAt X.mg P := TB.bm.keeps I.bk
  have hP' : s.heap.get? P = some { cls := .none, data := .fields ps } := I.hok P _ hP
  have ndP : dt ≠ P := fun z => by rw [z, hP] at hdn; cases hdn
  cases hc : codeAmong pos ps.toList with
  | none =>
    refine klD_makeTail (mg := X.mg) (c := c) (P := P) (ps := ps) (closure_ok hfree) I.ok.glob (I.mod.glob.keeps I.bk) hcode (TB.code.keeps I.bk) hP' ht hc TB.gP bP fun c' ctv h' tk hx hge hlt hrec htb => ?_
    obtain ⟨c2, oc, vs, t, e2, hoc, hd', hv⟩ := hrec
    cases e2
    have hsz : s.heap.objs.size ≤ h'.objs.size := Nat.le_trans hge (Nat.le_of_lt hlt)
    have nC : H c' = none := I.hok.fresh hge
    have I1 := inv_table (t' := tk) (more := #[rawInt pos.line, rawInt pos.col, .ref c']) (h' := h'.push (klD_obj (X.env.qual ++ "<lambda>") params body scope (cloFrom X.env.cells scope.names []) (.ref dt) ((X.mg "__name__").getD .none) c' ctv)) I hP
      (fun b o hb e => Heap.get?_push_of_some _ (hx b o hb e)) (Heap.get?_push_of_some _ htb) hge ⟨oc, vs, t, Heap.get?_push_of_some _ hoc, hd', hv⟩
    have hE : ExtN H (upd (upd H P (.tbl (ps ++ #[rawInt pos.line, rawInt pos.col, .ref c']))) c' (CodeO c' (X.env.qual ++ "<lambda>"))) := fun b o e n => by
      rw [upd_ne (ne_of_none e nC), upd_ne (fun z => n ps (Option.some.inj (e.symm.trans (by rw [z]; exact hP))))]
      exact e
    have eL : (ps ++ #[rawInt pos.line, rawInt pos.col, .ref c']).toList = ps.toList ++ [rawInt pos.line, rawInt pos.col, .ref c'] := by simp
    have ndc : dt ≠ c' := fun z => by
      rw [z] at hd
      exact Nat.lt_irrefl _ (Nat.lt_of_lt_of_le (Heap.lt_size hd) hge)
    refine h h'.objs.size c' ((X.mg "__name__").getD .none) ctv _ _ I1 hE (fun p hp => ?_) (Heap.get?_push_size _ rfl) ?_ (nofr_of I hsz) upd_same (Heap.get?_push_of_some _ (hx _ _ ndP hd)) (by rw [upd_ne ndc, upd_ne ndP]; exact hdn)
    · by_cases hb : p.1 = P
      · rw [hu p hp hb, hb]
        refine ⟨_, by rw [upd_ne (ne_of_none hP nC), upd_same], by rw [eL]; exact PySem.TriplesOk_snoc _ _ _ _ ht, fun p' cv hcv => ?_⟩
        rw [eL] at hcv
        rcases among_app _ ht hcv with z | z
        · obtain ⟨c0, e1, e2⟩ := ha p' cv z
          exact ⟨c0, e1, hE _ _ e2 codeO_ne⟩
        · exact ⟨c', z, upd_same⟩
      · obtain ⟨ps', a1, a2, a3⟩ := hT p hp
        refine ⟨ps', by rw [upd_ne (ne_of_none a1 nC), upd_ne hb]; exact a1, a2, fun p' cv hcv => ?_⟩
        obtain ⟨c0, e1, e2⟩ := a3 p' cv hcv
        exact ⟨c0, e1, hE _ _ e2 codeO_ne⟩
    · have n1 : h'.objs.size ≠ c' := Nat.ne_of_gt hlt
      have n2 : h'.objs.size ≠ P := Nat.ne_of_gt (Nat.lt_of_lt_of_le (Heap.lt_size hP') hsz)
      rw [upd_ne n1, upd_ne n2]
      exact I.hok.fresh hsz
  | some cv =>
    obtain ⟨c', e, hco⟩ := ha pos cv hc
    subst e
    refine klD_makeTailHit (mg := X.mg) (c := c) (P := P) (ps := ps) (closure_ok hfree) I.ok.glob (I.mod.glob.keeps I.bk) hcode (TB.code.keeps I.bk) hP' ht hc bP fun ctv h' tk hx hsz => ?_
    have I1 : Inv X pins σ H { s with heap := h'.push (klD_obj (X.env.qual ++ "<lambda>") params body scope (cloFrom X.env.cells scope.names []) (.ref dt) ((X.mg "__name__").getD .none) c' ctv), toks := tk } := I.kept fun b o e => Heap.get?_push_of_some _ (hx b o e)
    exact h h'.objs.size c' ((X.mg "__name__").getD .none) ctv H _ I1 (ExtN.refl H) hT (Heap.get?_push_size _ rfl) (I.hok.fresh hsz) (nofr_of I hsz) hco (Heap.get?_push_of_some _ (hx _ _ hd)) hdn
theorem lam_makeD {T : List (Addr × Str)} {c P : Addr} {params : Arguments} {e0 body : Expr} {scope : Scope} {pos : Pos} {E : Value → Shared → Prop} {Q : Value → Shared → Prop} {i : Int} {j} {p0 : Pos} (I : Inv X pins σ H s) (TB : TabB X.base X.mg c P) (hcode : X.env.code = .ref c)
    (hm : (P, X.env.qual ++ "<lambda>") ∈ T) (hu : ∀ p ∈ T, p.1 = P → p.2 = X.env.qual ++ "<lambda>") (hT : Tabs T H) (hdef : defaultsOf params X.env = ([eval (.Constant (.int i) j p0) X.env], [])) (hfree : ∀ y ∈ scope.names, y.2 = .free → ∃ c, X.env.cells.lookup y.1 = some c)
    (h : ∀ (f c' dt : Addr) (v pm ctv : Value) (H1 : Hp) (s' : Shared), Inv X pins σ H1 s' → ExtN H H1 → Tabs T H1 →
      s'.heap.get? f = some (klD_obj (X.env.qual ++ "<lambda>") params body scope (cloFrom X.env.cells scope.names []) (.ref dt) pm c' ctv) → H1 f = none → f ∉ frs X.stack → H1 c' = some (CodeO c' (X.env.qual ++ "<lambda>")) → s'.heap.get? dt = some { cls := .type "tuple", data := .seq #[v] } → H1 dt = none → dt ∉ frs X.stack → Q (.ref f) s') :
    wpAny (model X.prog X.w) X.A (eval (.Lambda params body scope pos) X.env) Q E s := by
  rw [arm_eval_Lambda, hdef]
  show wpAny (model X.prog X.w) X.A (do let dv ← evalAll [eval (.Constant (.int i) j p0) X.env]; let kdv ← holding dv (evalAllOpt []); makeFunction "<lambda>" (X.env.qual ++ "<lambda>") params (.expr body) scope X.env dv kdv [] pos pos.line) Q E s
  refine wpAny_bind ?_
  show wpAny (model X.prog X.w) X.A (do let v ← eval (.Constant (.int i) j p0) X.env; return v :: (← holding [v] (evalAll []))) _ E s
  refine wpAny_bind (wpAny_Constant_int ?_)
  refine wpAny_bind (wpAny_holding (wpAny_pure (wpAny_pure ?_)))
  refine wpAny_bind (wpAny_holding (wpAny_pure ?_))
  rw [makeFunction_eq]
  simp only [List.zip_nil_right, List.filterMap_nil, List.isEmpty_nil, List.isEmpty_cons, if_true, pure_bind, Bool.false_eq_true, if_false]
  refine wpAny_bind (wpAny_newTextTuple ?_)
  have I2 : Inv X pins σ H { s with heap := s.heap.push { cls := .type "tuple", data := .seq #[.int i s.toks] }, toks := s.toks + 1 } := I.kept fun b o e => Heap.get?_push_of_some _ e
  refine lam_tailD (dt := s.heap.objs.size) I2 TB hcode hm hu hT hfree (Heap.get?_push_size _ rfl) (I.hok.fresh (Nat.le_refl _)) fun f c' pm ctv H1 s' J1 eN T1 hf hfn hfr hco hd hdn => ?_
  exact h f c' _ _ pm ctv H1 s' J1 eN T1 hf hfn hfr hco hd hdn (nofr_of I (Nat.le_refl _))
end
def lamPB (sc scope : Scope) (p : Str) : Bool :=
  decide (scope.kind = .function) && !scope.isCoroutine && !scope.isGenerator && (scope.names.all fun y => (!decide (y.2 = .local) || decide (y.1 = p)) && !decide (y.2 = .cell) && !decide (y.1 = "") && (!decide (y.2 = .free) || decide (sc.names.lookup y.1 = some .cell) || decide (sc.names.lookup y.1 = some .free))) && decide (scope.names.lookup p = some .local)
theorem lamP_by {sc scope : Scope} {p : Str} (h : lamPB sc scope p = true) : LamP sc scope p := by
  unfold lamPB at h
  simp only [Bool.and_eq_true, Bool.or_eq_true, Bool.not_eq_true', decide_eq_true_eq, decide_eq_false_iff_not, List.all_eq_true] at h
  obtain ⟨⟨⟨⟨h1, h2⟩, h3⟩, h4⟩, h5⟩ := h
  refine ⟨h1, h2, h3, fun y hy => ⟨fun e => ?_, (h4 y hy).1.1.2⟩, fun y hy => (h4 y hy).1.2, fun y hy e => ?_, h5⟩
  · rcases (h4 y hy).1.1.1 with z | z
    · exact absurd e z
    · exact z
  rcases (h4 y hy).2 with (z | z) | z
  · exact absurd e z
  · exact .inl z
  · exact .inr z
def hidN (p : Str) (N : List Str) : List Str := N.map fun y => if y = p then "" else y
def lamCxP (p : Str) (X : Cx) (A : Around) (outer : List Env) (s : Shared) (H : Hp) (E : XK) (scope : Scope) (f c' : Addr) : Cx where
  prog := X.prog
  w := X.w
  K := X.K
  mg := X.mg
  base := X.base
  A := A.deeper (lamEnv X scope s.heap.objs.size f c')
  N := hidN p X.N
  s_0 := s
  H_0 := H
  env := lamEnv X scope s.heap.objs.size f c'
  outer := outer
  stack := lamEnv X scope s.heap.objs.size f c' :: outer
  ex := []
  fn := fun _ => false
  calm := true
  pn := []
  xe := fun e s' => wpAny (model X.prog X.w) (A.deeper (lamEnv X scope s.heap.objs.size f c')) (leaving (lamEnv X scope s.heap.objs.size f c') e) (fun _ s'' => L2.CX X.prog X.w outer H s E e s'') (fun e' s'' => L2.CX X.prog X.w outer H s E e' s'') s'
abbrev lamNP (p : Str) (X : Cx) (A : Around) (outer : List Env) (s : Shared) (H : Hp) (E : XK) (scope : Scope) (f c' : Addr) : Cx :=
  (lamCxP p X A outer s H E scope f c').tr [] fun e s' => wpAny (model X.prog X.w) (A.deeper (lamEnv X scope s.heap.objs.size f c')) (leaving (lamEnv X scope s.heap.objs.size f c') e) (fun _ s2 => L2N.CX X.prog X.w outer H s E e s2) (fun e' s2 => L2N.CX X.prog X.w outer H s E e' s2) s'
section
variable {X : Cx} {pins : List (Addr × Obj)} {σ : L2.St} {H HZ : Hp} {s s1 : Shared}
theorem lam_startP {A : Around} {outer : List Env} {E : XK} {scope : Scope} {f c' : Addr} {h₁ : Heap} {tk : Nat} {p : Str} {m0 : Str → Option Value} (I : Inv X pins σ H s) (L : LamP X.env.scope scope p) (e0 : Env0 X.prog X.w X.K X.mg X.base A outer s1 HZ) (hd : A.handled = none)
    (un : Un (frs X.stack) [] H HZ s.heap s1.heap) (hns : h₁.Ns s1.heap.objs.size m0) (kp : ∀ b o, s1.heap.get? b = some o → h₁.get? b = some o) :
    Inv (lamCxP p X A outer s1 HZ E scope f c') [] σ HZ { s1 with heap := h₁, toks := tk } := by
  have hfree := L.has I.ok
  have cm : ∀ {y c}, (cloFrom X.env.cells scope.names []).lookup y = some c → X.env.cells.lookup y = some c := fun {y c} e => by
    rcases cloFrom_mem (PySem.mem_of_lookup e) with hm | ⟨h1, h2⟩
    · cases hm
    · obtain ⟨c1, hc⟩ := hfree _ h1 rfl
      have hc : X.env.cells.lookup y = some c1 := hc
      have e2 : c = c1 := by
        rw [h2, hc] <;> rfl
      rw [e2]
      exact hc
  have look : ∀ {y}, scope.names.lookup y = some .free → ∃ c, (cloFrom X.env.cells scope.names []).lookup y = some c := fun {y} hl => by
    have hy : (y, NameKind.free) ∈ scope.names := PySem.mem_of_lookup hl
    exact mem_lookup (cloFrom_has (cells := X.env.cells) (acc := []) hy)
  have cellK : ∀ {c : Addr} {v : Option Value}, H c = none → s.heap.IsCell c v → h₁.IsCell c v := fun {c v} n ⟨o, ho, hd⟩ => by
    obtain ⟨sl, q⟩ := un.any ho n (by simp)
    exact ⟨_, kp _ _ q, hd⟩
  have noA : ∀ b : Addr, b ∉ (lamCxP p X A outer s1 HZ E scope f c').ex := fun b z => absurd (show b ∈ ([] : List Addr) from z) (by simp)
  refine ⟨⟨e0.mod, L.kind, rfl, rfl, Nat.le_refl _, fun y z c e1 e2 => I.ok.inj y z c (cm e1) (cm e2), fun y hy => ?_, fun y c z _ => ?_, fun _ => hd, Around.frames_deeper e0.frames, .inr ⟨rfl, rfl⟩, fun b z => absurd z (noA b), e0.bs, e0.bsz, fun b _ _ => noA b,
      fun b z => absurd z (noA b), e0.funs, e0.frf⟩,
    rfl, e0.bare, Un.kept kp, ⟨_, hns, fun i y v e1 e2 e3 => ?_⟩, fun y c e => ?_, e0.hok.fresh (Nat.le_refl _), fun y c e => ?_, fun q hq => absurd (show q ∈ ([] : List (Addr × Obj)) ++ [] from hq) (by simp), e0.hok.kept kp, ?_⟩
  · have hy : scope.names.lookup y = some .cell ∨ scope.names.lookup y = some .free := hy
    rcases hy with hy | hy
    · exact absurd rfl (L.own _ (PySem.mem_of_lookup hy)).2
    · exact look hy
  · have z : false = true := z
    cases z
  · have e3 : Vis scope y := e3
    have e1 : (hidN p X.N)[i]? = some y := e1
    obtain ⟨y0, h0, ey⟩ : ∃ y0, X.N[i]? = some y0 ∧ (if y0 = p then ("" : Str) else y0) = y := by
      unfold hidN at e1
      rw [List.getElem?_map] at e1
      cases q : X.N[i]? with
      | none => rw [q] at e1; cases e1
      | some y0 =>
        rw [q] at e1
        exact ⟨y0, rfl, Option.some.inj e1⟩
    have nn : y ≠ "" := by
      rcases e3 with k | k | k
      · exact L.nul _ (PySem.mem_of_lookup k)
      · exact L.nul _ (PySem.mem_of_lookup k)
      · exact L.nul _ (PySem.mem_of_lookup k)
    have hne : y0 ≠ p := fun z => by
      rw [if_pos z] at ey
      exact nn ey.symm
    rw [if_neg hne] at ey
    subst ey
    rcases e3 with k | k | k
    · exact absurd ((L.own _ (PySem.mem_of_lookup k)).1 rfl) hne
    · exact absurd rfl (L.own _ (PySem.mem_of_lookup k)).2
    · obtain ⟨m, hn, hl⟩ := I.loc
      have hvis : Vis X.env.scope y0 := (L.free _ (PySem.mem_of_lookup k) rfl).elim (fun k => .inr (.inl k)) (fun k => .inr (.inr k))
      obtain ⟨w', r, q⟩ := hl i y0 v h0 e2 hvis
      obtain ⟨c2, h2⟩ := look k
      refine ⟨w', r, .inr ⟨.inr k, c2, h2, ?_⟩⟩
      have c1 := cm h2
      rcases q with ⟨k', _⟩ | ⟨_, c3, e', z⟩
      · have k' : X.env.scope.names.lookup y0 = some .local := k'
        rcases L.free _ (PySem.mem_of_lookup k) rfl with k2 | k2 <;> rw [show X.env.scope.names.lookup y0 = _ from k2] at k' <;> cases k'
      · rw [c1] at e'
        cases e'
        exact cellK (I.freeC y0 _ c1) z
  · obtain ⟨w', z⟩ := I.cell y c (cm e)
    exact ⟨w', cellK (I.freeC y c (cm e)) z⟩
  · obtain ⟨v, o, ho, hd⟩ := I.cell y c (cm e)
    exact un.free c o ho (I.freeC y c (cm e)) (by simp)
  · have := I.len
    show _ = (hidN p X.N).length
    unfold hidN
    rw [List.length_map]
    exact this
theorem pe_actP {CXg : CXT} {Eg : XK} {Ng : List Str} {qg : Str} {sg : Scope} {g f c' dt : Addr} {cdg pm ctv v0 : Value} {params : Arguments} {body : Expr} {scope : Scope} {k i : Nat} {a pr : Str} {pn : List (Addr × Obj)} {xe : Value → Shared → Prop} {V : WX} {E : XK} {tb : TE} {p1 p2 : Pos}
    (I : Inv X pins σ H s) (L : LamP X.env.scope scope pr) (hf : s.heap.get? f = some (klD_obj (X.env.qual ++ "<lambda>") params body scope (cloFrom X.env.cells scope.names []) (.ref dt) pm c' ctv)) (hfn : H f = none) (hfr : f ∉ frs X.stack)
    (hdt : s.heap.get? dt = some { cls := .type "tuple", data := .seq #[v0] }) (hdn : H dt = none) (hdf : dt ∉ frs X.stack)
    (hbind : ∀ s1 : Shared, s1.heap.get? dt = some { cls := .type "tuple", data := .seq #[v0] } → BindsTo s1 (klD_fn (X.env.qual ++ "<lambda>") params body scope (cloFrom X.env.cells scope.names []) (.ref dt) pm (.ref c') ctv) ⟨[], []⟩ [(pr, v0)])
    (tk : L2N.Takes ((cxOf CXg X.prog X.w X.K X.mg X.base Ng qg sg g cdg X.A X.stack s H Eg).tr pn xe) V) (hr : Room (k + 1) (X.A.deeper (envOfC qg sg s.heap.objs.size g cdg)))
    (hbody : ∀ (A : Around) (outer : List Env) (s : Shared) (H : Hp), Room k (A.deeper (lamEnv X scope s.heap.objs.size f c')) → PE (lamNP pr X A outer s H E scope f c') body tb)
    (hN : Ng[i]? = some a) (hv : Vis sg a) (hd : (a == ("__debug__" : Str)) = false) (hcd : (a == ("__classdict__" : Str)) = false) :
    PE ((cxOf CXg X.prog X.w X.K X.mg X.base Ng qg sg g cdg X.A X.stack s H Eg).tr pn xe) (.Call (.Name a p1) [] [] p2)
      (fun σZ HZ Q => σZ[i]? = some (some (.ref f)) ∧ HZ c' = some (CodeO c' (X.env.qual ++ "<lambda>")) ∧ (∀ cls d H', E cls d H' → V cls d σZ H') ∧ tb σ HZ Q) := ⟨fun pinsZ sZ σZ HZ Q IZ h => by
  obtain ⟨hs, hc, hV, ht⟩ := h
  refine wpAny_Call_Name_kw (thn ((pe_var (pos := p1) (i := i) hN hv hd hcd).run pinsZ sZ σZ HZ (fun v H1 => v = .ref f ∧ H1 = HZ) IZ ⟨.ref f, hs, rfl, rfl⟩) fun u s1 z => ?_)
  obtain ⟨v, H1, I1, r1, ev, eH⟩ := z
  subst ev
  rw [eH] at I1
  obtain rfl : u = Value.ref f := r1
  have of1 := I1.base.keep f _ hf hfn hfr (fun z => nomatch (show f ∈ ([] : List Addr) from z))
  have od1 := I1.base.keep dt _ hdt hdn hdf (fun z => nomatch (show dt ∈ ([] : List Addr) from z))
  refine PySem.W.callWith_F0 ⟨_, _, _, _, of1⟩ ?_
  have un : Un (frs X.stack) [] H HZ s.heap s1.heap := I1.base
  obtain ⟨⟨oc, vs, t, hoc, hdc, hvc⟩, _, _⟩ := I1.hok c' _ hc
  have rc : codeAny (model X.prog X.w) (X.A.deeper (envOfC qg sg s.heap.objs.size g cdg)) (.call (.ref f) ⟨[], []⟩) (CR (L2N.CX X.prog X.w) (envOfC qg sg s.heap.objs.size g cdg :: X.stack) X.prog X.w HZ s1 Q E) s1 := by
    refine PySem.W.kla_callFunE hr.depth of1 rfl L.co L.gen rfl ⟨c', oc, vs, t, rfl, hoc, hdc, hvc⟩ ?_
    refine hbind s1 od1 _ _ _ _ ?_
    refine wpAny_newFunctionEnv (fun y hy => (L.own y hy).2) (fun y hy => by rw [List.mem_singleton.mp hy]; exact L.par) (fun h₁ hns hsb => ⟨I1.nolimit.fresh _ hsb, ?_⟩) L.kind
    have kp : ∀ b o, s1.heap.get? b = some o → h₁.get? b = some o := fun b o e => hsb.extBut b o (Nat.ne_of_lt (Heap.lt_size e)) (Heap.get?_push_of_some _ e)
    have J0 : Inv (lamCxP pr X (X.A.deeper (envOfC qg sg s.heap.objs.size g cdg)) (envOfC qg sg s.heap.objs.size g cdg :: X.stack) s1 HZ E scope f c') [] σ HZ { s1 with heap := h₁, toks := s1.toks + ([(pr, v0)] : List (Str × Value)).length } := lam_startP I L I1.env0 hr.hd un hns kp
    have J := J0.toTry (fun e s' => wpAny (model X.prog X.w) ((X.A.deeper (envOfC qg sg s.heap.objs.size g cdg)).deeper (lamEnv X scope s1.heap.objs.size f c')) (leaving (lamEnv X scope s1.heap.objs.size f c') e) (fun _ s2 => L2N.CX X.prog X.w (envOfC qg sg s.heap.objs.size g cdg :: X.stack) HZ s1 E e s2) (fun e' s2 => L2N.CX X.prog X.w (envOfC qg sg s.heap.objs.size g cdg :: X.stack) HZ s1 E e' s2) s')
    have z := (hbody (X.A.deeper (envOfC qg sg s.heap.objs.size g cdg)) (envOfC qg sg s.heap.objs.size g cdg :: X.stack) s1 HZ (hr.deeper _)).run [] _ _ HZ Q J ht
    refine PySem.W.kla_codeExpr (wpAny_mono z (fun v s' hq => ?_) fun e s' hq => hq)
    obtain ⟨w', H', J', rv, q⟩ := hq
    exact ⟨w', H', J'.os, J'.bare, J'.base, J'.hok, rv, q⟩
  refine wpAny_call (codeAny_mono rc fun r s' hq => ?_)
  cases r with
  | error e => exact tk e s' (L2N.XE.of_call I1 hV hq)
  | ok fl =>
    cases fl with
    | ret u => exact I1.after hq
    | _ => exact False.elim hq⟩
end
section
variable {X : Cx} {W : XW}
theorem pe_lamP {T : List (Addr × Str)} {TT : (XK → Hp → VK → Prop) → Hp → VK → Prop} {x a pr : Str} {g c P : Addr} {k : Nat} {pg : Arguments} {bg : List Stmt} {sg : Scope} {dV kV doc pm cdv ct oc : Value} {an od : Option Addr} {osl : Array (Option Value)} {Ng : List Str}
    {params : Arguments} {body : Expr} {scope : Scope} {t : XK → TE} {p lpos pos : Pos} {i : Int} {j} {p0 : Pos} (hg : Gl X x) (hm : X.mg x = some (.ref g)) (hk : PySem.W.keepIn X.K (.ref g) = true)
    (lk : X.K.lookup g = some ⟨oc, od, .func (PySem.W.fnOf x x pg bg sg dV kV doc pm an cdv ct), osl⟩) (hcg : PySem.W.codeIn X.K cdv x = true) (hb : L2.Binds X.K (PySem.W.fnOf x x pg bg sg dV kV doc pm an cdv ct) [a] []) (Sg : FnScope Ng [a] sg) (hNg : Ng[0]? = some a) (hva : Vis sg a)
    (hG : GivesN X Ng x sg g cdv bg a (X.env.qual ++ "<lambda>") k TT)
    (TB : TabB X.base X.mg c P) (hcode : X.env.code = .ref c) (hmT : (P, X.env.qual ++ "<lambda>") ∈ T) (hu : ∀ p ∈ T, p.1 = P → p.2 = X.env.qual ++ "<lambda>") (hr : Room (k + 2) X.A) (L : LamP X.env.scope scope pr) (hdef : defaultsOf params X.env = ([eval (.Constant (.int i) j p0) X.env], []))
    (hbind : ∀ (q : Str) (cl : List (Str × Addr)) (dt : Addr) (v pm cv ctv : Value) (s1 : Shared), s1.heap.get? dt = some { cls := .type "tuple", data := .seq #[v] } → BindsTo s1 (klD_fn q params body scope cl (.ref dt) pm cv ctv) ⟨[], []⟩ [(pr, v)])
    (hbody : ∀ (A : Around) (outer : List Env) (s : Shared) (H : Hp) (E : XK) (f c' : Addr), Room k (A.deeper (lamEnv X scope s.heap.objs.size f c')) → PE (lamNP pr X A outer s H E scope f c') body (t E))
    (hdb : (x == ("__debug__" : Str)) = false) (hd : (a == ("__debug__" : Str)) = false) (hcd : (a == ("__classdict__" : Str)) = false) :
    PE X (.Call (.Name x p) [.Lambda params body scope lpos] [] pos) (tLam T TT t) := ⟨fun pins s σ H Q I h => by
  obtain ⟨hT, h⟩ := h
  refine wpAny_Call_Name_kw (ld_glob I hg hm ?_ hdb)
  refine PySem.W.callWith_K (h₀ := X.base) I.ok.mod.kin hk ?_ (by rfl) (by rfl)
  refine Calls.spliced_cons (lam_makeD (e0 := body) I TB hcode hmT hu hT hdef (L.has I.ok) fun f c' dt v pm' ctv H1 s' I1 eN T1 hf hfn hfr hco hdt hdn hdf => ?_)
  refine Calls.spliced_nil ⟨I1.kIn, ?_⟩
  have rc : codeAny (model X.prog X.w) X.A (.call (.ref g) ⟨[.ref f], []⟩) (CR L2.CX0 X.stack X.prog X.w H1 s' Q L2.E0) s' :=
    run_ofS (N := Ng) (ps := [a]) (us := [.ref f]) (vs := [.ref f]) lk hcg Sg hr I1.env0 (hb s' [.ref f] I1.kIn rfl) (.cons rfl .nil) rfl fun hr' =>
      hG f c' s' H1 Q (fun E H' Q' => t E σ H' Q') hr' (fun V pn xe E p1 p2 tk => pe_actP (i := 0) I1 L hf hfn hfr hdt hdn hdf (fun s1 h1 => hbind _ _ _ _ _ _ _ s1 h1) tk hr' (fun A outer s H hr2 => hbody A outer s H E f c' hr2) hNg hva hd hcd) hco (h H1 eN T1)
  refine wpAny_call (codeAny_mono rc fun r s2 hq => ?_)
  cases r with
  | error e => exact (show False from hq).elim
  | ok fl =>
    cases fl with
    | ret u => exact I1.after hq
    | _ => exact False.elim hq⟩
theorem qe_triedP {pr : Str} {g : Addr} {k m : Nat} {pg : Arguments} {bg : List Stmt} {sg : Scope} {fd : FuncData} {Ng : List Str} {xn : List (Str × Nat)} {params : Arguments} {body : Expr} {scope : Scope} {db : DE} {p lpos pos : Pos} {i : Int} {j} {p0 : Pos}
    (F : FunD X.K "_law_tried" "_law_tried" pg bg sg [] [] g fd) (hm : X.mg "_law_tried" = some (.ref g)) (hb : L2.Binds X.K fd ["_law_ask"] []) (Sg : FnScope Ng ["_law_ask"] sg) (hNg : Ng[0]? = some ("_law_ask" : Str)) (hva : Vis sg "_law_ask")
    (hG : ∀ cdv q, GivesN X Ng "_law_tried" sg g cdv bg "_law_ask" q k (TTr X.K X.mg xn)) (TX : TabX X) (hr : Room m X.A) (hk : k + 2 ≤ m)
    (hbody : ∀ (A : Around) (outer : List Env) (s : Shared) (H : Hp) (E : XK) (f c' : Addr), Room k (A.deeper (lamEnv X scope s.heap.objs.size f c')) → QE (lamNP pr X A outer s H E scope f c') (WF X.mg E) body db)
    (L : LamP X.env.scope scope pr) (hdef : defaultsOf params X.env = ([eval (.Constant (.int i) j p0) X.env], []))
    (hbind : ∀ (q : Str) (cl : List (Str × Addr)) (dt : Addr) (v pm cv ctv : Value) (s1 : Shared), s1.heap.get? dt = some { cls := .type "tuple", data := .seq #[v] } → BindsTo s1 (klD_fn q params body scope cl (.ref dt) pm cv ctv) ⟨[], []⟩ [(pr, v)]) (hg : Gl X "_law_tried") :
    QE X W (.Call (.Name "_law_tried" p) [.Lambda params body scope lpos] [] pos) (dTried xn db) := by
  obtain ⟨c, P, TB, hcode, hmT, hu⟩ := TX.ex
  have kp := F.kp
  obtain ⟨oc, od, dV, kV, doc, pm, an, cdv, ct, osl, rfl, lk, hcd, _, _⟩ := F.ex
  exact PE.sub (pe_lamP (T := TabC.T) (TT := TTr X.K X.mg xn) (t := fun E => upE X.K (WF X.mg E) db) hg hm kp lk hcd hb Sg hNg hva (hG cdv _) TB hcode hmT hu (hr.mono hk) L hdef hbind hbody (by decide) (by decide) (by decide)) up_tried
end
theorem takes_lamP {p : Str} {X : Cx} {A : Around} {outer : List Env} {s : Shared} {H : Hp} {E : XK} {scope : Scope} {f c' : Addr} {mg : Str → Option Value} : L2N.Takes (lamNP p X A outer s H E scope f c') (WF mg E).2 := L2N.takes_of rfl rfl rfl rfl
end WH
namespace WH
open PySem PySem.Spec L2
variable [TabC] [ObjB]
section
variable {X : Cx} {W : XW} {e : Expr} {p pos : Pos}
def dicD (kvs : List (Key × PyData)) : PyData := .dict (kvs.map fun p => (kD p.1, p.2))
def valD (kvs : List (Key × PyData)) (k : Key) : Option PyData := (kvs.find? fun kv => decide (kv.1 = k)).map (·.2)
theorem rpK_kv {K : PySem.W.Frag} {G : Hp} : ∀ {vs : List (Key × V)} {kvs : List (Key × PyData)}, RpK K G vs kvs → RpKv K G vs (kvs.map fun p => (kD p.1, p.2))
  | _, _, .nil => .nil
  | _, _, .cons a t => .cons a (rpK_kv t)
theorem kD_inj {a b : Key} (h : kD a = kD b) : a = b := by
  cases a <;> cases b <;> simp [kD] at h <;> rw [h]
theorem rpKv_k {K : PySem.W.Frag} {G : Hp} : ∀ {vs : List (Key × V)} {kvs : List (Key × PyData)}, RpKv K G vs (kvs.map fun p => (kD p.1, p.2)) → RpK K G vs kvs
  | [], [], _ => .nil
  | (k, v) :: vs, (k', d) :: kvs, h => by
    generalize hk : ((k', d) :: kvs).map (fun p => (kD p.1, p.2)) = l at h
    cases h with
    | cons a t =>
      simp only [List.map_cons, List.cons.injEq, Prod.mk.injEq] at hk
      obtain ⟨⟨e1, rfl⟩, rfl⟩ := hk
      rw [kD_inj e1]
      exact .cons a (rpKv_k t)
  | [], _ :: _, h => by cases h
  | _ :: _, [], h => by cases h
theorem rpK_val {K : PySem.W.Frag} {G : Hp} (k : Key) : ∀ {vs : List (Key × V)} {kvs : List (Key × PyData)}, RpK K G vs kvs → (∀ d, valD kvs k = some d → ∃ v, valV vs k = some v ∧ Rp K G v d) ∧ (valD kvs k = none → valV vs k = none)
  | _, _, .nil => ⟨fun _ h => (by cases h), fun _ => rfl⟩
  | _, _, .cons (k := k') (v := v) (d := d) (vs := vs) (ds := ds) a t => by
    have ih := rpK_val k t
    by_cases e : k' = k
    · subst e
      have e1 : valD ((k', d) :: ds) k' = some d := by simp [valD]
      have e2 : valV ((k', v) :: vs) k' = some v := by simp [valV]
      rw [e1, e2]
      exact ⟨fun d' h => ⟨v, rfl, (by cases h; exact a)⟩, fun h => (by cases h)⟩
    · have e1 : valD ((k', d) :: ds) k = valD ds k := by simp [valD, List.find?_cons, e]
      have e2 : valV ((k', v) :: vs) k = valV vs k := by simp [valV, List.find?_cons, e]
      rw [e1, e2]
      exact ih
abbrev DD := Sto → (List (Key × PyData) → Prop) → XD → Prop
def upD (K : PySem.W.Frag) (W : XW) (dd : DD) : TE := fun σ H Q => ∃ G0 H0 G ρ Qd Xd, Ok K G0 H0 G H σ ρ ∧ dd ρ Qd Xd ∧ (∀ G' H' a vs kvs, Ok K G0 H0 G' H' σ ρ → Gr G H G' H' → Rd H' a (.dK vs) → RpK K G' vs kvs → Qd kvs → Q (.ref a) H') ∧ XOk K W G0 H0 G H σ ρ Xd
def QD (X : Cx) (W : XW) (e : Expr) (dd : DD) : Prop := PE X e (upD X.K W dd)
def dVarD (i : Nat) : DD := fun ρ Q _ => (∃ kvs, ρ[i]? = some (Slot.sh (dicD kvs)) ∧ kvs ≠ [] ∧ Q kvs) ∨ ∃ kvs, ρ[i]? = some (Slot.ow (.dic kvs)) ∧ Q kvs
@[simp] theorem s_dVarD (i : Nat) (ρ : Sto) (Q : List (Key × PyData) → Prop) (X : XD) : dVarD i ρ Q X ↔ (∃ kvs, ρ[i]? = some (Slot.sh (dicD kvs)) ∧ kvs ≠ [] ∧ Q kvs) ∨ ∃ kvs, ρ[i]? = some (Slot.ow (.dic kvs)) ∧ Q kvs := Iff.rfl
theorem own_dic {K : PySem.W.Frag} {G0 H0 G H : Hp} {σ : L2.St} {ρ : Sto} {i : Nat} {kvs : List (Key × PyData)} (k : Ok K G0 H0 G H σ ρ) (hi : ρ[i]? = some (Slot.ow (.dic kvs))) : ∃ a vs, σ[i]? = some (some (V.ref a)) ∧ H a = some (.dK vs) ∧ G a = none ∧ NF H0 a ∧ RpK K G vs kvs := by
  obtain ⟨a, ho, h1, h2, h3, h4, h5⟩ := k.ow i _ hi
  cases ho with
  | dK xs => exact ⟨a, xs, h1, h2, h3, h4, h5⟩
  | _ => exact h5.elim
theorem rp_dic {K : PySem.W.Frag} {G : Hp} {v : V} {kvs : List (Key × PyData)} (h : Rp K G v (dicD kvs)) (hn : kvs ≠ []) : ∃ a vs, v = .ref a ∧ Rd G a (.dK vs) ∧ RpK K G vs kvs := by
  unfold dicD at h
  generalize hk : kvs.map (fun p => (kD p.1, p.2)) = l at h
  cases kvs with
  | nil => exact (hn rfl).elim
  | cons q r =>
    obtain ⟨qk, qd⟩ := q
    cases h with
    | dik h1 h2 => subst hk; exact ⟨_, _, rfl, .inr ⟨_, h1⟩, rpKv_k h2⟩
    | dit h1 h2 =>
      cases h2 with
      | nil => cases hk
      | cons a t =>
        simp only [List.map_cons, List.cons.injEq, Prod.mk.injEq] at hk
        obtain ⟨⟨e, _⟩, _⟩ := hk
        cases qk <;> cases e
    | scr h1 =>
      simp only [List.map_cons, List.cons.injEq, Prod.mk.injEq] at hk
      obtain ⟨⟨e, _⟩, _⟩ := hk
      cases qk <;> cases e
    | dnk h1 _ =>
      simp only [List.map_cons, List.cons.injEq, Prod.mk.injEq] at hk
      obtain ⟨⟨e, _⟩, _⟩ := hk
      cases qk <;> cases e
    | tpw h1 _ =>
      simp only [List.map_cons, List.cons.injEq, Prod.mk.injEq] at hk
      obtain ⟨⟨e, _⟩, _⟩ := hk
      cases qk <;> cases e
theorem qd_var (i : Nat) {x : Str} (hN : X.N[i]? = some x := by rfl) (hv : Vis X.env.scope x := by first | exact Or.inl rfl | exact Or.inr (Or.inl rfl) | exact Or.inr (Or.inr rfl)) (hd : (x == ("__debug__" : Str)) = false := by decide)
    (hcd : (x == ("__classdict__" : Str)) = false := by decide) : QD X W (.Name x pos) (dVarD i) := PE.sub (pe_var hN hv hd hcd) fun σ H Q h => by
  obtain ⟨G0, H0, G, ρ, Qd, Xd, k, h, fn, xo⟩ := h
  rcases h with ⟨kvs, hi, hn, q⟩ | ⟨kvs, hi, q⟩
  · obtain ⟨v, e1, r⟩ := k.sh i _ hi
    obtain ⟨a, vs, rfl, e2, r2⟩ := rp_dic r hn
    exact ⟨_, e1, fn G H a vs kvs k Gr.refl (rd_mono k.gh e2) r2 q⟩
  · obtain ⟨a, vs, e1, e2, _, _, r2⟩ := own_dic k hi
    exact ⟨_, e1, fn G H a vs kvs k Gr.refl (.inl e2) r2 q⟩
theorem ntb_dK {xs : List (Key × V)} : NTb (.dK xs) := fun _ z => by cases z
theorem Ex.rd {H H' : Hp} (e : Ex H H') {a : Addr} {u : HO} (n : NTb u) (h : Rd H a u) : Rd H' a u := by
  rcases h with h | ⟨o, h⟩
  · exact .inl (e.at h n)
  · exact .inr ⟨o, e.at h (fun _ z => by cases z)⟩
def dDGet (dd : DD) (dk : DE) : DE := fun ρ Q X => dd ρ (fun kvs => dk ρ (fun y => ∃ k d, y = kD k ∧ valD kvs k = some d ∧ Q d) X) X
@[simp] theorem s_dDGet (dd : DD) (dk : DE) (ρ : Sto) (Q : PyData → Prop) (X : XD) : dDGet dd dk ρ Q X ↔ dd ρ (fun kvs => dk ρ (fun y => ∃ k d, y = kD k ∧ valD kvs k = some d ∧ Q d) X) X := Iff.rfl
theorem rp_key {K : PySem.W.Frag} {G : Hp} {v : V} {k : Key} (h : Rp K G v (kD k)) : v = kV k := by
  cases k <;> cases h <;> rfl
theorem qe_dget {o i : Expr} {dd : DD} {dk : DE} (hu : X.A.units + 1 < cLine) (ho : QD X W o dd) (hi : QE X W i dk) (hs : NoSl i := by intro _ _; rfl) : QE X W (.Subscript o i pos) (dDGet dd dk) := PE.sub (pe_dget hu ho hi hs) fun σ H Q h => by
  obtain ⟨G0, H0, G, ρ, Qd, Xd, k, h, fn, xo⟩ := h
  refine ⟨G0, H0, G, ρ, _, Xd, k, h, fun G1 H1 a vs kvs k1 g1 ha rk q => ?_, xo⟩
  refine ⟨G0, H0, G1, ρ, _, Xd, k1, q, fun G2 H2 y d k2 g2 ry q2 => ?_, xo.mono g1⟩
  obtain ⟨key, d', rfl, hv, q2⟩ := q2
  obtain ⟨v, e1, e2⟩ := (rpK_val key (rpK_mono g2.gg rk)).1 d' hv
  rw [rp_key ry]
  exact ⟨a, v, rfl, by rw [← e1]; exact .inl ⟨_, _, g2.hh.rd ntb_dK ha, rfl, rfl⟩, fn G2 H2 v d' k2 (g1.trans g2) e2 q2⟩
end
end WH
namespace WH
open PySem PySem.Spec L2
variable [TabC] [ObjB]
theorem hu1 {k : Nat} {A : Around} (r : Room k A) : A.units + 1 < cLine := by have := r.un; omega
theorem ex_mutG {H0 H : Hp} {p : Addr} {ho ho' : HO} (e : Ex H0 H) (n : NF H0 p) (h : H p = some ho) (n1 : NTb ho) (n2 : ∀ f, ho ≠ .ext f) (n3 : NTb ho') : Ex H0 (upd H p ho') :=
  ⟨by rw [nt_upd n3]; exact same_mut e.s n, fun t => tabs_mut (e.t t) h n1 n2⟩
theorem ok_mutG {K : PySem.W.Frag} {G0 H0 G H : Hp} {σ : L2.St} {ρ : Sto} {Dl : Addr} {ho ho' : HO} (k : Ok K G0 H0 G H σ ρ) (hl : H Dl = some ho) (n1 : NTb ho) (n2 : ∀ f, ho ≠ .ext f) (n3 : NTb ho') (hg : G Dl = none) (n0 : NF H0 Dl) (hun : ∀ (j : Nat) (u : OD), ρ[j]? = some (Slot.ow u) → σ[j]? ≠ some (some (V.ref Dl))) : Ok K G0 H0 G (upd H Dl ho') σ ρ := by
  refine ⟨by rw [nt_upd n3]; exact same_mut k.gn hg, k.g0, ex_mutG k.h0 n0 hl n1 n2 n3, tabs_mut k.tb hl n1 n2, k.nw, k.len, k.sh, fun j o ho => ?_, k.ap, k.rw, k.tr, k.bB⟩
  obtain ⟨a, ho', b1, b2, b3, b4, b5⟩ := k.ow j o ho
  have ne : a ≠ Dl := fun z => hun j o ho (by rw [← z]; exact b1)
  exact ⟨a, ho', b1, by rw [upd_ne ne]; exact b2, b3, b4, b5⟩
variable {W : XW}
variable {X : Cx} {tg : Expr}
def lkO (f : Addr → Obj) (a : Addr) : HO → HO
  | .dK xs => .frz (f a) (.dK xs)
  | .dT xs => .frz (f a) (.dT xs)
  | o => o
def lkH (f : Addr → Obj) (L : List Addr) (H : Hp) : Hp := fun a => if a ∈ L then (H a).map (lkO f a) else H a
theorem lkH_in {f : Addr → Obj} {L : List Addr} {H : Hp} {a : Addr} (h : a ∈ L) : lkH f L H a = (H a).map (lkO f a) := if_pos h
theorem lkH_out {f : Addr → Obj} {L : List Addr} {H : Hp} {a : Addr} (h : a ∉ L) : lkH f L H a = H a := if_neg h
theorem lkO_or (f : Addr → Obj) (a : Addr) (o : HO) : ((∃ xs, o = .dK xs) ∨ ∃ xs, o = .dT xs) ∧ lkO f a o = .frz (f a) o ∨ (∀ g, lkO g a o = o) := by
  cases o <;> first | exact .inl ⟨.inl ⟨_, rfl⟩, rfl⟩ | exact .inl ⟨.inr ⟨_, rfl⟩, rfl⟩ | exact .inr fun _ => rfl
theorem inv_locks {X : Cx} {pins : List (Addr × Obj)} {σ : L2.St} {H : Hp} {s : Shared} (I : Inv X pins σ H s) : ∀ L : List Addr, (∀ d ∈ L, ∃ o, H d = some o) → ∃ f, Inv X pins σ (lkH f L H) s
  | [], _ => ⟨fun _ => default, by
      have e : lkH (fun _ => default) [] H = H := by
        funext a
        exact lkH_out (by simp)
      rw [e]
      exact I⟩
  | d :: L, h => by
    obtain ⟨f, I1⟩ := inv_locks I L fun x hx => h x (List.mem_cons_of_mem _ hx)
    by_cases hd : d ∈ L
    · have e : lkH f (d :: L) H = lkH f L H := by
        funext a
        unfold lkH
        by_cases ha : a ∈ L
        · simp [ha]
        · have : a ≠ d := fun z => ha (by rw [z]; exact hd)
          simp [ha, this]
      exact ⟨f, by rw [e]; exact I1⟩
    · obtain ⟨o, ho⟩ := h d List.mem_cons_self
      have h1 : lkH f L H d = some o := (lkH_out hd).trans ho
      have key : ∀ od u, lkO (fun a => if a = d then od else f a) d o = u → lkH (fun a => if a = d then od else f a) (d :: L) H = upd (lkH f L H) d u := fun od u hu => by
        funext a
        by_cases ha : a = d
        · rw [ha, upd_same, lkH_in List.mem_cons_self, ho]
          exact congrArg some hu
        · rw [upd_ne ha]
          unfold lkH
          by_cases hb : a ∈ L
          · rw [if_pos (List.mem_cons_of_mem _ hb), if_pos hb]
            congr 1
            funext o
            cases o <;> simp [lkO, ha]
          · rw [if_neg (by simp [ha, hb]), if_neg hb]
      rcases lkO_or f d o with ⟨q, _⟩ | q
      · obtain ⟨od, I2⟩ := I1.lock h1 (by rcases q with ⟨xs, rfl⟩ | ⟨xs, rfl⟩ <;> exact True.intro)
        refine ⟨fun a => if a = d then od else f a, ?_⟩
        rw [key od (.frz od o) (by rcases q with ⟨xs, rfl⟩ | ⟨xs, rfl⟩ <;> simp [lkO])]
        exact I2
      · refine ⟨fun a => if a = d then default else f a, ?_⟩
        rw [key default o (q _)]
        have e : upd (lkH f L H) d o = lkH f L H := by
          funext a
          by_cases ha : a = d
          · rw [ha, upd_same, h1]
          · rw [upd_ne ha]
        rw [e]
        exact I1
def tLocksA (t : TE) : TE := fun σ H Q => t σ H fun v H' => ∃ L : List Addr, (∀ d ∈ L, ∃ o, H' d = some o) ∧ ∀ f, Q v (lkH f L H')
section
variable {X : Cx}
theorem pe_locksA {e : Expr} {t : TE} (h : PE X e t) : PE X e (tLocksA t) := by
  refine ⟨fun pins s σ H Q I hw => ?_⟩
  refine thn (h.run pins s σ H _ I hw) fun v s1 ⟨x, H1, I2, r, L, hL, q⟩ => ?_
  obtain ⟨f, I3⟩ := inv_locks I2 L hL
  exact ⟨x, _, I3, r, q f⟩
end
def dOfD (dd : DO) : DE := fun ρ Q X => dd ρ (fun o => ∃ kvs, o = .dic kvs ∧ Q (dicD kvs)) X
@[simp] theorem s_dOfD (dd : DO) (ρ : Sto) (Q : PyData → Prop) (X : XD) : dOfD dd ρ Q X ↔ dd ρ (fun o => ∃ kvs, o = .dic kvs ∧ Q (dicD kvs)) X := Iff.rfl
theorem QO.qeD {e : Expr} {dd : DO} (h : QO X W e dd) : QE X W e (dOfD dd) := PE.sub (pe_locksA h) fun σ H Q h => by
  obtain ⟨G0, H0, G, ρ, Qd, Xd, k, h, fn, xo⟩ := h
  refine ⟨G0, H0, G, ρ, _, Xd, k, h, fun G1 H1 p ho o k1 g1 n1 n2 n3 n4 hb => ?_, xo⟩
  obtain ⟨kvs, rfl, q⟩ := hb
  cases ho with
  | dK xs =>
    refine ⟨[p], fun d hd => ⟨.dK xs, by rw [List.mem_singleton.mp hd]; exact n3⟩, fun f => ?_⟩
    have e : lkH f [p] H1 = upd H1 p (.frz (f p) (.dK xs)) := by
      funext a
      by_cases ha : a = p
      · rw [ha, upd_same, lkH_in (by simp), n3]; rfl
      · rw [upd_ne ha, lkH_out (by simpa using ha)]
    rw [e]
    have hun : ∀ (i : Nat) (u : OD), ρ[i]? = some (Slot.ow u) → σ[i]? ≠ some (some (V.ref p)) := fun i u e z => by
      obtain ⟨a, ho', z1, z2, _, _, z5⟩ := k.ow i u e
      rw [z1] at z
      cases z
      exact nf_no z2 (hoOk_ntb z5) n1
    have nd : NTb (.frz (f p) (.dK xs)) := fun _ z => by cases z
    have k2 := ok_mutG (ho' := .frz (f p) (.dK xs)) k1 n3 ntb_dK (fun _ z => by cases z) nd n2 (k.h0.free n1) hun
    have g2 : Gr G H G1 (upd H1 p (.frz (f p) (.dK xs))) := ⟨g1.gg, ex_mutG g1.hh n1 n3 ntb_dK (fun _ z => by cases z) nd, g1.nw⟩
    refine fn (upd G1 p (.frz (f p) (.dK xs))) _ (.ref p) (dicD kvs) (k2.freeze upd_same n2 (k.h0.free n1) hun) ⟨g2.gg.trans (same_upd n2), g2.hh, fun a u e => by
      by_cases ha : a = p
      · subst ha; exact .inr (.inl n1)
      · rw [upd_ne ha] at e; exact g2.nw a u e⟩ (.dik upd_same (rpK_kv (rpK_mono (same_upd n2) n4))) q
  | _ => exact n4.elim
end WH
namespace WH
open PySem PySem.Spec L2
theorem nf_mix {H0 H : Hp} {fp : List Addr} {a : Addr} (hn : ∀ a ∈ fp, Node H a) (h : NF (mixH H0 H fp) a) : a ∉ fp ∧ NF H0 a := by
  have ne : a ∉ fp := fun z => by
    obtain ⟨o, e, n, _⟩ := hn a z
    exact nf_no ((mix_in z).trans e) n h
  refine ⟨ne, ?_⟩
  have h' : nt (mixH H0 H fp) a = none := h
  rw [nt_congr (mix_out ne)] at h'
  exact h'
theorem nf_mix' {H0 H : Hp} {fp : List Addr} {a : Addr} (ne : a ∉ fp) (h : NF H0 a) : NF (mixH H0 H fp) a := by
  show nt (mixH H0 H fp) a = none
  rw [nt_congr (mix_out ne)]
  exact h
variable [TabC] [ObjB]
abbrev DST := DEndsT → Sto → Tau → Prop
section
variable {X : Cx} {W : XW}
def tIf (t : DT) (a b : DST) : DST := fun D ρ τ => t ρ (fun c => if c = true then a D ρ τ else b D ρ τ) (fun x => D.ex x ρ)
@[simp] theorem s_tIf (t : DT) (a b : DST) (D : DEndsT) (ρ : Sto) (τ : Tau) : tIf t a b D ρ τ ↔ t ρ (fun c => if c = true then a D ρ τ else b D ρ τ) (fun x => D.ex x ρ) := Iff.rfl
end
end WH
namespace WH
open PySem PySem.Spec L2
variable [TabC] [ObjB]
theorem mix_nil {H0 H : Hp} : mixH H0 H [] = H0 := by
  funext a
  exact mix_out (by simp)
theorem Ok.up {K : PySem.W.Frag} {G0 H0 G H : Hp} {σ : L2.St} {ρ : Sto} (k : Ok K G0 H0 G H σ ρ) : OkT K G0 H0 G H σ ρ [] := ⟨[], by rw [mix_nil]; exact k, .nil, List.nodup_nil, (fun _ h => nomatch h), k.h0⟩
def dn (ds : DST) : DS := fun D ρ => ds { nx := fun ρ' _ => D.nx ρ', rt := D.rt, ex := D.ex, bk := fun ρ' _ => D.bk ρ', ct := fun ρ' _ => D.ct ρ' } ρ []
@[simp] theorem s_dn (ds : DST) (D : DEnds) (ρ : Sto) : dn ds D ρ ↔ ds { nx := fun ρ' _ => D.nx ρ', rt := D.rt, ex := D.ex, bk := fun ρ' _ => D.bk ρ', ct := fun ρ' _ => D.ct ρ' } ρ [] := Iff.rfl
end WH
namespace WH
open PySem PySem.Spec PyProof.Rows L2
variable [TabC] [ObjB] {X : Cx} {W : XW}
theorem kbn_of {K : PySem.W.Frag} {x qual : Str} {params : Arguments} {body : List Stmt} {scope : Scope} {kws : List (Str × V)} {f : Addr} {fd : FuncData} {ps : List Str} (F : FunD K x qual params body scope [] kws f fd) (n : Nat) (kn : Str) (hk : kws ≠ [])
    (h : ∀ (D : Addr) (doc pm : Value) (an : Option Addr) (cdv ct : Value) (us ws : List Value), us.length = n → ws.length = 1 → bindArgs (PySem.W.fnOf x qual params body scope .none (.ref D) doc pm an cdv ct) ⟨us, [kn].zip ws⟩ = pure (ps.zip (us ++ ws))) : ∃ g, KBn K fd ps n [kn] g (fun vs zs => vs ++ zs) := by
  obtain ⟨mv, hb⟩ := F.kbinds0 (ps := ps) n [kn] [] (fun us _ ws => us ++ ws) hk (fun _ h => nomatch h) (fun r1 _ r2 => r1.append r2) (fun D doc pm an cdv ct us mv ws h1 _ h3 => h D doc pm an cdv ct us ws h1 h3)
  exact ⟨_, hb⟩
end WH
namespace WH
open PySem PySem.Spec L2
theorem g_at {ds : List PyData} {i : Int} {d : PyData} {Q : PyData → Prop} (h : atI ds i = some d) (q : Q d) : ixD ds (.int i) Q := (s_ixD ds i Q).mpr ⟨d, h, q⟩
end WH
namespace WH
open PySem PySem.Spec PyProof.Rows L2
variable [TabC] [ObjB]
section
variable {X : Cx} {W : XW}
theorem run_mkS {CX : CXT} {k n : Nat} {f Ca : Addr} {fd : FuncData} {ps ks : List Str} {sp : Sp} {E : L2.St → XK} {g : List Value → List Value → List Value} {gV : List V → List V → List V} {pins : List (Addr × Obj)} {σ : L2.St} {H : Hp} {s : Shared} {Q : VK} {us ws : List Value} {vs zs : List V} (M : Mk X.K Ca f) (F : FnOk X.prog X.w X.K X.mg X.base CX k f fd ps sp) (hr : Room (k + 1) X.A) (hb : KBn X.K fd ps (n + 1) ks g gV)
    (hx : PassesAt CX X σ (E σ)) (I : Inv X pins σ H s) (r : Vals vs us) (rz : Vals zs ws) (l1 : vs.length = n) (l2 : zs.length = ks.length)
    (h : ∀ y dy, H y = none → H dy = none → dy ≠ y → sp (gV (.ref y :: vs) zs) (upd (upd H dy (.own y)) y (.ins Ca dy [])) (fun v H2 => v = .non ∧ Q (.ref y) H2) (E σ)) : wpAny (model X.prog X.w) X.A (call (.ref Ca) us (ks.zip ws)) (EP X pins σ Q) X.xe s := by
  have q0 := h (s.heap.objs.size + 1) s.heap.objs.size (I.hok.fresh (Nat.le_succ _)) (I.hok.fresh (Nat.le_refl _)) (Nat.ne_of_lt (Nat.lt_succ_self _))
  have J := Inv.made (C := Ca) I
  have ra : Vals (V.ref (s.heap.objs.size + 1) :: vs) (Value.ref (s.heap.objs.size + 1) :: us) := .cons rfl r
  have rb := hb.rel ra rz
  have nn : (Value.ref (s.heap.objs.size + 1) :: us).length = n + 1 := by rw [← ra.length, List.length_cons, l1]
  refine wpAny_call (make_map (f := f) I.kIn M.makes M.init (beq_iff_eq.mp M.fn) (codeAny_mono (F.run _ X.stack _ _ ⟨Value.ref (s.heap.objs.size + 1) :: us, ks.zip ws⟩ (g (Value.ref (s.heap.objs.size + 1) :: us) ws) _ _ (E σ) (hr.make Ca us (ks.zip ws))
    (J.env0.make Ca us (ks.zip ws)) (hb.to _ (Value.ref (s.heap.objs.size + 1) :: us) ws J.kIn nn (rz.length.symm.trans l2)) rb q0) fun rr s' hq => ?_))
  cases rr with
  | error e => exact hx pins _ _ e s' J hq
  | ok fl =>
    cases fl with
    | ret u =>
      obtain ⟨v, H', J3, rv, ev, q3⟩ := J.after hq
      subst ev
      exact ⟨rv, ⟨V.ref (s.heap.objs.size + 1), H', J3, rfl, q3⟩⟩
    | next => exact False.elim hq
    | brk => exact False.elim hq
    | cont => exact False.elim hq
def tMkS (Ca : Addr) (n m : Nat) (sp : Sp) (gV : List V → List V → List V) (E : L2.St → XK) (t tk : TA) : TE := fun σ H Q => t σ H fun vs H1 => tk σ H1 fun zs H2 => vs.length = n ∧ zs.length = m ∧ ∀ y dy, H2 y = none → H2 dy = none → dy ≠ y →
  sp (gV (.ref y :: vs) zs) (upd (upd H2 dy (.own y)) y (.ins Ca dy [])) (fun v H3 => v = .non ∧ Q (.ref y) H3) (E σ)
theorem pe_mkS {CX : CXT} {k n : Nat} {f Ca : Addr} {fd : FuncData} {ps ks : List Str} {sp : Sp} {E : L2.St → XK} {x : Str} {p pos : Pos} {e : Expr} {es : List Expr} {kws : List Keyword} {t tk : TA} {g : List Value → List Value → List Value} {gV : List V → List V → List V} (M : Mk X.K Ca f) (F : FnOk X.prog X.w X.K X.mg X.base CX k f fd ps sp) (hr : Room (k + 1) X.A) (hg : Gl X x) (hm : X.mg x = some (.ref Ca)) (hb : KBn X.K fd ps (n + 1) ks g gV) (hx : ∀ σ, PassesAt CX X σ (E σ))
    (ha : PA X (e :: es) t) (hkw : PK X kws tk) (hall : (backToKw pos (keywordEach kws X.env)).all (·.1.isSome) = true) (hks : (backToKw pos (keywordEach kws X.env)).filterMap (·.1) = ks) (hdb : (x == ("__debug__" : Str)) = false)
    (he : starEach (e :: es) X.env = (false, eval e X.env) :: starEach es X.env) (hpl : ((backTo pos (starEach (e :: es) X.env)).any (·.1) || (backToKw pos (keywordEach kws X.env)).any (·.1.isNone)) = false) :
    PE X (.Call (.Name x p) (e :: es) kws pos) (tMkS Ca n ks.length sp gV E t tk) := by
  refine ⟨fun pins s σ H Q I h => ?_⟩
  refine wpAny_Call_Name_kw (ld_glob I hg hm ?_ hdb)
  refine PySem.W.callWith_KW (h₀ := X.base) I.ok.mod.kin M.kp hall (thn (ha.run pos pins s σ H _ I h) fun us s1 ⟨vs, H1, I1, r, q⟩ => ?_) hpl he
  refine thn (hkw.run pos pins s1 σ H1 _ I1 q) fun ws s2 ⟨zs, H2, I2, rz, l1, l2, q2⟩ => ⟨I2.kIn, ?_⟩
  rw [hks]
  exact run_mkS M F hr hb (hx σ) I2 r rz l1 l2 q2
end
end WH
namespace WH
open PySem PySem.Spec L2 PyProof.Rows L2H LamX
theorem ecB_ok {K : PySem.W.Frag} {D : Addr} (h : ecB K D = true) : ExcC K D := by
  simp only [ecB, Bool.and_eq_true, decide_eq_true_eq] at h
  obtain ⟨h1, h2, h3, h4, h5, h6, h7, h8⟩ := h
  exact ⟨h1, h2, h3, h4, h5, h6, h7, h8⟩
theorem calB_ok {K : PySem.W.Frag} {mg : Str → Option Value} {nm : Str} (h : calB K nm = true) (hn : nm ∈ callNames) (hm : ∀ c ∈ callNames, mg c = some (.ref (He.ga K c))) : CalF K mg nm (He.ga K nm) := by
  simp only [calB, Bool.and_eq_true, List.all_eq_true, decide_eq_true_eq] at h
  obtain ⟨h1, h2, h3, h4⟩ := h
  exact ⟨hm nm hn, ecB_ok h1, xfB_ok h2, h3, fun c hc => ⟨_, hm c hc, h4 c hc⟩⟩
theorem trB_ok {K : PySem.W.Frag} {mg : Str → Option Value} {nm : Str} {c : Nat} (h : trB K (nm, c) = true) (hm : ∀ c ∈ callNames, mg c = some (.ref (He.ga K c))) : ∃ D, mg nm = some (.ref D) ∧ TrF K mg (clsT K) nm D c := by
  simp only [trB, Bool.and_eq_true, List.all_eq_true, decide_eq_true_eq, List.contains_iff_mem, List.mem_range] at h
  obtain ⟨h1, h2, h3, h4⟩ := h
  exact ⟨_, hm nm h1, calB_ok h2 h1 hm, h1, h3, h4⟩
theorem code_at {K : PySem.W.Frag} {x qual : Str} {params : Arguments} {body : List Stmt} {scope : Scope} {dvs : List V} {kws : List (Str × V)} {p : He.Defn} {fd : FuncData} (F : FunD K x qual params body scope dvs kws (He.fAd K p) fd) : fd.code = .ref (He.cT K p).1 := by
  obtain ⟨oc, od, dV, kV, doc, pm, an, cdv, ct, osl, rfl, lk, hcd, _, _⟩ := F.ex
  obtain ⟨c, rfl⟩ := He.codeIn_ref hcd
  have := He.codeOf_eq lk (c := c) rfl
  show _ = Value.ref (He.codeOf K p)
  rw [this]
end WH
namespace WH
open PySem PySem.Spec PyProof.Rows L2
variable [TabC] [ObjB]
section
variable {K : PySem.W.Frag} {G0 H0 G H : Hp} {σ : L2.St} {ρ : Sto}
theorem Ok.regN (k : Ok K G0 H0 G H σ ρ) : Same ObjB.B (nt H) := fun a o e => k.h0.s a o (k.bB a o e)
theorem Ok.consTr (k : Ok K G0 H0 G H σ ρ) {p : Addr} {t : ST} {fp : List Addr} (h : SAt K G ObjB.B (.ref p) t fp) : Ok K G0 H0 G H (some (.ref p) :: σ) (.tr p t :: ρ) where
  gn := k.gn
  g0 := k.g0
  h0 := k.h0
  tb := k.tb
  nw := k.nw
  len := by simp [k.len]
  sh := fun i d e => by
    cases i with
    | zero => cases e
    | succ i => exact k.sh i d (by simpa using e)
  ow := fun i o e => by
    cases i with
    | zero => cases e
    | succ i => exact k.ow i o (by simpa using e)
  ap := fun i j o u a n e1 e2 e3 => by
    cases i with
    | zero => cases e1
    | succ i =>
      cases j with
      | zero => cases e2
      | succ j => exact k.ap i j o u a (fun z => n (by rw [z])) (by simpa using e1) (by simpa using e2) (by simpa using e3)
  rw := fun i w x e => by
    cases i with
    | zero => cases e
    | succ i => exact k.rw i w x (by simpa using e)
  tr := fun i a t' e => by
    cases i with
    | zero =>
      simp at e
      obtain ⟨rfl, rfl⟩ := e
      exact ⟨_, rfl, h⟩
    | succ i => exact k.tr i a t' (by simpa using e)
  bB := k.bB
end
section
variable {X : Cx} {W : XW}
def dFld (i : Nat) (C : Addr) (f : Str) : DE := fun ρ Q _ => ∃ a fs d, ρ[i]? = some (Slot.tr a (.ins C fs)) ∧ fs.lookup f = some (.dat d) ∧ Q d
def dFldC (i : Nat) (C : Addr) (f : Str) : DC := fun ρ Q _ => ∃ a fs, ρ[i]? = some (Slot.tr a (.ins C fs)) ∧ ((∃ ds, fs.lookup f = some (.dl ds) ∧ Q false ds) ∨ ∃ b ds, fs.lookup f = some (.dat (dat b ds)) ∧ Q b ds)
@[simp] theorem s_dFld (i : Nat) (C : Addr) (f : Str) (ρ : Sto) (Q : PyData → Prop) (u : XD) : dFld i C f ρ Q u ↔ ∃ a fs d, ρ[i]? = some (Slot.tr a (.ins C fs)) ∧ fs.lookup f = some (.dat d) ∧ Q d := Iff.rfl
@[simp] theorem s_dFldC (i : Nat) (C : Addr) (f : Str) (ρ : Sto) (Q : Bool → List PyData → Prop) (u : XD) : dFldC i C f ρ Q u ↔ ∃ a fs, ρ[i]? = some (Slot.tr a (.ins C fs)) ∧ ((∃ ds, fs.lookup f = some (.dl ds) ∧ Q false ds) ∨ ∃ b ds, fs.lookup f = some (.dat (dat b ds)) ∧ Q b ds) := Iff.rfl
theorem qe_fld {i : Nat} {C : Addr} {x f : Str} {p pos : Pos} (c : Cls X.K C) (n : NoAttr X.K C f) (hN : X.N[i]? = some x := by rfl) (hv : Vis X.env.scope x := by first | exact Or.inl rfl | exact Or.inr (Or.inl rfl) | exact Or.inr (Or.inr rfl)) (hd : (x == ("__debug__" : Str)) = false := by decide)
    (hcd : (x == ("__classdict__" : Str)) = false := by decide) (hb : attributeBase (.Name x p) f X.env (eval (.Name x p) X.env) = eval (.Name x p) X.env := by rfl) : QE X W (.Attribute (.Name x p) f pos) (dFld i C f) :=
  PE.sub (pe_fld (pe_var hN hv hd hcd) hb) fun σ H Q h => by
  obtain ⟨G0, H0, G, ρ, Qd, Xd, k, ⟨a, fs, d, hi, hf, q⟩, fn, xo⟩ := h
  obtain ⟨dx, vs, fp, h1, h2, h3, _⟩ := k.ins hi
  obtain ⟨v, g, e1, e2, _⟩ := (sAtF_at h3).1 _ hf
  cases e2 with
  | dat r => exact ⟨_, h1, a, C, dx, vs, v, rfl, h2, c, n, e1, fn G H v d k Gr.refl r q⟩
theorem qc_fld {i : Nat} {C : Addr} {x f : Str} {p pos : Pos} (c : Cls X.K C) (n : NoAttr X.K C f) (hN : X.N[i]? = some x := by rfl) (hv : Vis X.env.scope x := by first | exact Or.inl rfl | exact Or.inr (Or.inl rfl) | exact Or.inr (Or.inr rfl)) (hd : (x == ("__debug__" : Str)) = false := by decide)
    (hcd : (x == ("__classdict__" : Str)) = false := by decide) (hb : attributeBase (.Name x p) f X.env (eval (.Name x p) X.env) = eval (.Name x p) X.env := by rfl) : QC X W (.Attribute (.Name x p) f pos) (dFldC i C f) :=
  PE.sub (pe_fld (pe_var hN hv hd hcd) hb) fun σ H Q h => by
  obtain ⟨G0, H0, G, ρ, Qd, Xd, k, ⟨a, fs, hi, h⟩, fn, xo⟩ := h
  obtain ⟨dx, vs, fp, h1, h2, h3, _⟩ := k.ins hi
  rcases h with ⟨ds, hf, q⟩ | ⟨b, ds, hf, q⟩
  · obtain ⟨v, g, e1, e2, _⟩ := (sAtF_at h3).1 _ hf
    cases e2 with
    | dl z r => exact ⟨_, h1, a, C, dx, vs, _, rfl, h2, c, n, e1, fn G H _ _ false ds k Gr.refl (k.reg _ _ z) r q⟩
  · obtain ⟨v, g, e1, e2, _⟩ := (sAtF_at h3).1 _ hf
    cases e2 with
    | dat r =>
      obtain ⟨l, xs, rfl, s1, s2⟩ := rp_sq k.gh r
      exact ⟨_, h1, a, C, dx, vs, _, rfl, h2, c, n, e1, fn G H l xs b ds k Gr.refl s1 s2 q⟩
end
omit [ObjB] in
def PSpQ (K : PySem.W.Frag) (mg : Str → Option Value) (C : CtQ) : Sp := fun vs H Q E => ∃ p vs' G B t fp ds R Xd, vs = V.ref p :: vs' ∧ Same B (nt H) ∧ SAt K G B (.ref p) t fp ∧ Same G (nt H) ∧ LamX.Tabs TabC.T H ∧ RpAll K G vs' ds ∧ C ds t R Xd ∧ (∀ s v H', RetOk K G H s v H' → R s → Q v H') ∧
  ∀ G' H' x cls d, Same G G' → Ex H H' → Same G' (nt H') → (∀ a o, G' a = some o → G a = some o ∨ NS H a) → ExcOk K mg G' H' x cls d → Xd x → E cls d H'
section
variable {P : Program} {w : World} {K : PySem.W.Frag} {mg : Str → Option Value} {base : Heap}
omit [ObjB] in
theorem fn_okQ {x qual n0 p0 : Str} {st : Stmt} {f : Addr} {fd : FuncData} {N ps : List Str} {k : Nat} {C : CtQ} {db : DS} {dvs : List V} {kws : List (Str × V)} (F : FunD K x qual (defArgs st) (defBody st) (defScope st) dvs kws f fd) (S : FnScope (n0 :: N) (p0 :: ps) (defScope st)) (len : ∀ ds t R Xd, C ds t R Xd → ds.length = ps.length)
    (hbody : ∀ (B : ObjB) (cdv : Value) (A : Around) (outer : List Env) (s : Shared) (H : Hp) (E : XK), Room k (A.deeper (PyProof.Rows.envOfC qual (defScope st) s.heap.objs.size f cdv)) → @QSs _ B (cxOf (L2N.CX P w) P w K mg base (n0 :: N) qual (defScope st) f cdv A outer s H E) (WF mg E) (defBody st) db)
    (h : ∀ ds a t R Xd, C ds t R Xd → db { nx := fun _ => R (.sh .none), rt := R, ex := fun x _ => Xd x } (.tr a t :: st0 N ds)) : FnOk P w K mg base (L2N.CX P w) (k + 1) f fd (p0 :: ps) (PSpQ K mg C) := by
  refine F.ok S (fun vs H Q E h => ?_) (fun cdv A outer s H vs Q E hr hsp => ?_)
  · obtain ⟨a, vs', G, B, t, fp, ds, R, Xd, rfl, _, _, _, _, r, c, _⟩ := h
    rw [List.length_cons, rpa_length r, len _ _ _ _ c, List.length_cons]
  · obtain ⟨a, vs', G, B, t, fp, ds, R, Xd, rfl, hB, ta, gh, tb, r, c, rt, ex⟩ := hsp
    letI : ObjB := ⟨B⟩
    refine ⟨_, hbody ⟨B⟩ cdv A outer s H E hr, ?_⟩
    have k0 : Ok K G H G H (L2.start (n0 :: N) (V.ref a :: vs')) (.tr a t :: st0 N ds) := by
      have e : L2.start (n0 :: N) (V.ref a :: vs') = some (V.ref a) :: L2.start N vs' := by
        unfold L2.start
        simp
      rw [e]
      exact (ok_start gh tb r hB).consTr ta
    exact ⟨G, H, G, _, _, k0, h ds a t R Xd c, fun G' H' σ' ρ' k' q => rt (.sh .none) _ _ (retSh k' .non) q, rt, fun _ _ _ _ _ z => z.elim, fun _ _ _ _ _ z => z.elim, fun G' H' σ' ρ' x cls d k' e q => ex G' H' x cls d k'.g0 k'.h0 k'.gn k'.nw e q⟩
end
def MtQ (P : Program) (w : World) (K : PySem.W.Frag) (mg : Str → Option Value) (base : Heap) (Ca : Addr) (m : Str) (k : Nat) (C : CtQ) : Prop :=
  ∃ ps f fd, Cls K Ca ∧ Meth K Ca m f ∧ L2.Binds K fd ps [] ∧ FnOk P w K mg base (L2N.CX P w) k f fd ps (PSpQ K mg C)
def ClQ (P : Program) (w : World) (K : PySem.W.Frag) (mg : Str → Option Value) (base : Heap) (x : Str) (k : Nat) (C : CtQ) : Prop :=
  ∃ ps f fd, mg x = some (.ref f) ∧ PySem.W.keepIn K (.ref f) = true ∧ L2.Binds K fd ps [] ∧ FnOk P w K mg base (L2N.CX P w) k f fd ps (PSpQ K mg C)
section
variable {X : Cx} {CX : CXT} {k : Nat} {f C : Addr} {fd : FuncData} {ps : List Str} {sp : Sp} {dvs : List V} {ds : List Value} {E : L2.St → XK} {m : Str} {pos apos : Pos} {e o : Expr} {es : List Expr} {ta : TE} {t : TA}
def tMthS (C : Addr) (m : Str) (sp : Sp) (E : L2.St → XK) (ta : TE) (t : TA) : TE := fun σ H Q => ta σ H fun x H1 => ∃ a dx fs, x = .ref a ∧ H1 a = some (.ins C dx fs) ∧ fs.lookup m = none ∧ t σ H1 fun vs H2 => sp (x :: vs) H2 Q (E σ)
omit [TabC] [ObjB] in
theorem pe_mthS {pl : Sem Bool} (he : PE X o ta) (c : Cls X.K C) (hm : Meth X.K C m f) (F : FnOk X.prog X.w X.K X.mg X.base CX k f fd ps sp) (hr : Room k X.A) (hb : Binds X.K fd ps []) (hx : ∀ σ, PassesAt CX X σ (E σ)) (ha : PA X (e :: es) t)
    (hst : starEach (e :: es) X.env = (false, eval e X.env) :: starEach es X.env) (hpl : (backTo pos (starEach es X.env)).any (·.1) = false)
    (ht : eval (.Call (.Attribute o m apos) (e :: es) [] pos) X.env = (eval o X.env >>= fun ov => standAt apos.atName >>= fun _ => holding [ov] (getMethod ov m pl) >>= fun fm => callWith pos fm.1 fm.2 (backTo pos (starEach (e :: es) X.env)) (backToKw pos (keywordEach [] X.env)))) :
    PE X (.Call (.Attribute o m apos) (e :: es) [] pos) (tMthS C m sp E ta t) := ⟨fun pins s σ H Q I h => by
  refine PySem.W.methodCall_KW (pl := pl) (thn (he.run pins s σ H _ I h) fun u s1 ⟨x, H1, I1, rx, z⟩ => ?_) ht
  obtain ⟨a, dx, fs, ex, ea, l, q⟩ := z
  subst ex
  cases rx
  refine getmeth_ok I1 ea c hm l (PySem.W.callWith_K (first := [.ref a]) (h₀ := X.base) I1.ok.mod.kin hm.kp (thn (ha.run pos pins s1 σ H1 _ I1 q) fun us s2 z => ?_) hst hpl)
  obtain ⟨vs, H2, I2, r, q2⟩ := z
  have q3 := run_fnSD (us := .ref a :: us) (vs := .ref a :: vs) (dvs := []) F hr hb .nil (hx σ) I2 (.cons rfl r) (by rw [List.append_nil]; exact q2)
  exact ⟨I2.kIn, q3⟩⟩
omit [TabC] [ObjB] in
theorem pe_mthS0 {pl : Sem Bool} (he : PE X o ta) (c : Cls X.K C) (hm : Meth X.K C m f) (F : FnOk X.prog X.w X.K X.mg X.base CX k f fd ps sp) (hr : Room k X.A) (hb : Binds X.K fd ps []) (hx : ∀ σ, PassesAt CX X σ (E σ))
    (ht : eval (.Call (.Attribute o m apos) [] [] pos) X.env = (eval o X.env >>= fun ov => standAt apos.atName >>= fun _ => holding [ov] (getMethod ov m pl) >>= fun fm => callWith pos fm.1 fm.2 (backTo pos (starEach [] X.env)) (backToKw pos (keywordEach [] X.env)))) :
    PE X (.Call (.Attribute o m apos) [] [] pos) (tMthS C m sp E ta tNil) := ⟨fun pins s σ H Q I h => by
  refine PySem.W.methodCall_KW (pl := pl) (thn (he.run pins s σ H _ I h) fun u s1 ⟨x, H1, I1, rx, z⟩ => ?_) ht
  obtain ⟨a, dx, fs, ex, ea, l, q⟩ := z
  subst ex
  cases rx
  refine getmeth_ok I1 ea c hm l ?_
  have q3 := run_fnSD (us := [.ref a]) (vs := [.ref a]) (dvs := []) F hr hb .nil (hx σ) I1 (.cons rfl .nil) q
  exact PySem.W.callWith_K0 (first := [.ref a]) I1.kIn hm.kp q3⟩
end
section
variable {X : Cx} {W : XW} {k j i : Nat} {Ca : Addr} {Ct : CtQ} {x m : Str} {p p1 p2 pos : Pos} {e : Expr} {es : List Expr} {da : DA}
def noF (fs : List (Str × ST)) (m : Str) : Prop := fs.lookup m = none
def dMthQ (i : Nat) (Ca : Addr) (m : Str) (Ct : CtQ) (da : DA) : DE := fun ρ Q X => ∃ a fs, ρ[i]? = some (Slot.tr a (.ins Ca fs)) ∧ noF fs m ∧ da ρ (fun ds => Ct ds (.ins Ca fs) (fun s => ∃ d, slotD s = some d ∧ Q d) X) X
@[simp] theorem s_dMthQ (i : Nat) (Ca : Addr) (m : Str) (Ct : CtQ) (da : DA) (ρ : Sto) (Q : PyData → Prop) (X : XD) : dMthQ i Ca m Ct da ρ Q X ↔ ∃ a fs, ρ[i]? = some (Slot.tr a (.ins Ca fs)) ∧ noF fs m ∧ da ρ (fun ds => Ct ds (.ins Ca fs) (fun s => ∃ d, slotD s = some d ∧ Q d) X) X := Iff.rfl
theorem sp_query {G0 H0 G1 H1 G H : Hp} {σ : L2.St} {ρ : Sto} {Qd : PyData → Prop} {Xd : XD} {Q : VK} {t : ST} {fp : List Addr} {a : Addr} {vs : List V} {ds : List PyData} (hw : W.1 = X.mg) (k1 : Ok X.K G0 H0 G1 H1 σ ρ) (g1 : Gr G H G1 H1) (ta : SAt X.K G1 ObjB.B (.ref a) t fp) (rv : RpAll X.K G1 vs ds) (xo : XOk X.K W G0 H0 G H σ ρ Xd)
    (fn : Fin1 X.K G0 H0 G H σ ρ Qd Q) (q : Ct ds t (fun s => ∃ d, slotD s = some d ∧ Qd d) Xd) : PSpQ X.K X.mg Ct (V.ref a :: vs) H1 Q (WE W.2 σ) := by
  refine ⟨a, vs, G1, _, t, fp, ds, _, Xd, rfl, k1.regN, ta, k1.gn, k1.tb, rv, q, fun s v H' r q => ?_, excOk_of hw k1 g1 xo⟩
  obtain ⟨d, hd, q⟩ := q
  obtain ⟨G', k', g', rv'⟩ := RetOk.sh k1 r hd
  exact fn G' H' v d k' (g1.trans g') rv' q
theorem qe_mthQ {pl : Sem Bool} (c : MtQ X.prog X.w X.K X.mg X.base Ca m j Ct) (hr : Room k X.A) (hj : j ≤ k) (tk : L2N.Takes X W.2) (hw : W.1 = X.mg) (ha : QA X W (e :: es) da) (hN : X.N[i]? = some x := by rfl) (hv : Vis X.env.scope x := by first | exact Or.inl rfl | exact Or.inr (Or.inl rfl) | exact Or.inr (Or.inr rfl))
    (hst : starEach (e :: es) X.env = (false, eval e X.env) :: starEach es X.env := by rfl) (hpl : (backTo pos (starEach es X.env)).any (·.1) = false := by rfl)
    (ht : eval (.Call (.Attribute (.Name x p) m p1) (e :: es) [] pos) X.env = (eval (.Name x p) X.env >>= fun ov => standAt p1.atName >>= fun _ => holding [ov] (getMethod ov m pl) >>= fun fm => callWith pos fm.1 fm.2 (backTo pos (starEach (e :: es) X.env)) (backToKw pos (keywordEach [] X.env))) := by rfl)
    (hd : (x == ("__debug__" : Str)) = false := by decide) (hcd : (x == ("__classdict__" : Str)) = false := by decide) : QE X W (.Call (.Attribute (.Name x p) m p1) (e :: es) [] pos) (dMthQ i Ca m Ct da) := by
  obtain ⟨ps, f, fd, c1, c2, c3, c4⟩ := c
  refine PE.sub (pe_mthS (pl := pl) (pe_var hN hv hd hcd) c1 c2 c4 (hr.mono hj) c3 (fun σ => L2N.passAt tk σ) ha hst hpl ht) fun σ H Q h => ?_
  obtain ⟨G0, H0, G, ρ, Qd, Xd, k, ⟨a, fs, hi, hm, h⟩, fn, xo⟩ := h
  obtain ⟨dx, vs, fp, h1, h2, h3, h4⟩ := k.ins hi
  refine ⟨_, h1, a, dx, vs, rfl, h2, (sAtF_at h3).2 hm, G0, H0, G, ρ, _, Xd, k, h, fun G1 H1 us ds k1 g1 rv q => ?_, xo⟩
  exact sp_query hw k1 g1 (sAt_mono g1.gg h4) rv xo fn q
theorem qe_mthQ0 {pl : Sem Bool} (c : MtQ X.prog X.w X.K X.mg X.base Ca m j Ct) (hr : Room k X.A) (hj : j ≤ k) (tk : L2N.Takes X W.2) (hw : W.1 = X.mg) (hN : X.N[i]? = some x := by rfl) (hv : Vis X.env.scope x := by first | exact Or.inl rfl | exact Or.inr (Or.inl rfl) | exact Or.inr (Or.inr rfl))
    (ht : eval (.Call (.Attribute (.Name x p) m p1) [] [] pos) X.env = (eval (.Name x p) X.env >>= fun ov => standAt p1.atName >>= fun _ => holding [ov] (getMethod ov m pl) >>= fun fm => callWith pos fm.1 fm.2 (backTo pos (starEach [] X.env)) (backToKw pos (keywordEach [] X.env))) := by rfl)
    (hd : (x == ("__debug__" : Str)) = false := by decide) (hcd : (x == ("__classdict__" : Str)) = false := by decide) : QE X W (.Call (.Attribute (.Name x p) m p1) [] [] pos) (dMthQ i Ca m Ct dNil) := by
  obtain ⟨ps, f, fd, c1, c2, c3, c4⟩ := c
  refine PE.sub (pe_mthS0 (pl := pl) (pe_var hN hv hd hcd) c1 c2 c4 (hr.mono hj) c3 (fun σ => L2N.passAt tk σ) ht) fun σ H Q h => ?_
  obtain ⟨G0, H0, G, ρ, Qd, Xd, k, ⟨a, fs, hi, hm, h⟩, fn, xo⟩ := h
  obtain ⟨dx, vs, fp, h1, h2, h3, h4⟩ := k.ins hi
  exact ⟨_, h1, a, dx, vs, rfl, h2, (sAtF_at h3).2 hm, sp_query (vs := []) (ds := []) hw k Gr.refl h4 .nil xo fn h⟩
def dClQ (i : Nat) (Ct : CtQ) (da : DA) : DE := fun ρ Q X => ∃ a t, ρ[i]? = some (Slot.tr a t) ∧ da ρ (fun ds => Ct ds t (fun s => ∃ d, slotD s = some d ∧ Q d) X) X
@[simp] theorem s_dClQ (i : Nat) (Ct : CtQ) (da : DA) (ρ : Sto) (Q : PyData → Prop) (X : XD) : dClQ i Ct da ρ Q X ↔ ∃ a t, ρ[i]? = some (Slot.tr a t) ∧ da ρ (fun ds => Ct ds t (fun s => ∃ d, slotD s = some d ∧ Q d) X) X := Iff.rfl
theorem qe_clQ {y : Str} (c : ClQ X.prog X.w X.K X.mg X.base y j Ct) (hr : Room k X.A) (hj : j ≤ k) (tk : L2N.Takes X W.2) (hw : W.1 = X.mg) (ha : QA X W es da) (hN : X.N[i]? = some x := by rfl) (hv : Vis X.env.scope x := by first | exact Or.inl rfl | exact Or.inr (Or.inl rfl) | exact Or.inr (Or.inr rfl)) (hg : Gl X y := by rfl)
    (hdb : (y == ("__debug__" : Str)) = false := by decide) (he : starEach (.Name x p1 :: es) X.env = (false, eval (.Name x p1) X.env) :: starEach es X.env := by rfl) (hpl : (backTo pos (starEach es X.env)).any (·.1) = false := by rfl)
    (hd : (x == ("__debug__" : Str)) = false := by decide) (hcd : (x == ("__classdict__" : Str)) = false := by decide) : QE X W (.Call (.Name y p) (.Name x p1 :: es) [] pos) (dClQ i Ct da) := by
  obtain ⟨ps, f, fd, c1, c2, c3, c4⟩ := c
  refine PE.sub (pe_callS c4 (hr.mono hj) hg c1 c2 c3 (fun σ => L2N.passAt tk σ) (pa_cons (pe_var hN hv hd hcd) ha he) hdb he hpl) fun σ H Q h => ?_
  obtain ⟨G0, H0, G, ρ, Qd, Xd, k, ⟨a, t, hi, h⟩, fn, xo⟩ := h
  obtain ⟨fp, h1, h2⟩ := k.tr i a t hi
  refine ⟨_, h1, G0, H0, G, ρ, _, Xd, k, h, fun G1 H1 us ds k1 g1 rv q => ?_, xo⟩
  exact sp_query hw k1 g1 (sAt_mono g1.gg h2) rv xo fn q
end
end WH
namespace WH
open PySem PySem.Spec PyProof.Rows L2
section
variable {K : PySem.W.Frag} {G H G' H' : Hp}
theorem sr_split : ∀ {τ : STau} {fp : List Addr} {j : Nat} {a : Addr} {t : ST}, SRoots K G H τ fp → τ[j]? = some (a, t) → ∃ f1 fa f2, fp = f1 ++ (fa ++ f2) ∧ SAt K G H (.ref a) t fa ∧ SRoots K G H (τ.take j) f1 ∧ SRoots K G H (τ.drop (j + 1)) f2
  | _, _, 0, a, t, .cons x y, e => by
    simp at e
    obtain ⟨rfl, rfl⟩ := e
    exact ⟨[], _, _, rfl, x, .nil, y⟩
  | _, _, j + 1, a, t, .cons (f := f) x y, e => by
    obtain ⟨f1, fa, f2, e1, e2, e3, e4⟩ := sr_split (j := j) y (by simpa using e)
    exact ⟨f ++ f1, fa, f2, by rw [e1, List.append_assoc], e2, .cons x e3, e4⟩
theorem sr_set : ∀ {τ : STau} {j : Nat} {f1 f2 fa : List Addr} {a : Addr} {t : ST} {q : Addr × ST}, τ[j]? = some q → SRoots K G H (τ.take j) f1 → SAt K G H (.ref a) t fa → SRoots K G H (τ.drop (j + 1)) f2 → SRoots K G H (τ.set j (a, t)) (f1 ++ (fa ++ f2))
  | _ :: _, 0, _, _, _, _, _, _, _, .nil, y, z => (SRoots.cons y z : SRoots _ _ _ _ (_ ++ _))
  | _ :: τ, j + 1, _, _, _, _, _, q, e, .cons x w, y, z => by
    have := SRoots.cons x (sr_set (j := j) (q := q) (by simpa using e) w y z)
    rwa [List.append_assoc]
  | [], _, _, _, _, _, _, _, e, _, _, _ => by simp at e
end
theorem regH_in {H : Hp} {fp : List Addr} {a : Addr} (h : a ∈ fp) : regH H fp a = H a := if_pos h
@[simp] theorem trIn_nil (τ : STau) : trIn [] τ ↔ True := ⟨fun _ => trivial, fun _ i a t e => by simp at e⟩
theorem trIn_cons (s : Slot) (ρ : Sto) (τ : STau) : trIn (s :: ρ) τ ↔ (∀ a t, s = Slot.tr a t → (a, t) ∈ τ) ∧ trIn ρ τ := by
  constructor
  · intro h
    exact ⟨fun a t e => h 0 a t (by rw [e]; rfl), fun i a t e => h (i + 1) a t (by simpa using e)⟩
  · rintro ⟨h1, h2⟩ i a t e
    cases i with
    | zero => exact h1 a t (by simpa using e)
    | succ i => exact h2 i a t (by simpa using e)
@[simp] theorem trIn_no (ρ : Sto) (τ : STau) : trIn (.no :: ρ) τ ↔ trIn ρ τ := by rw [trIn_cons]; exact ⟨fun h => h.2, fun h => ⟨fun _ _ e => (nomatch e), h⟩⟩
@[simp] theorem trIn_sh (d : PyData) (ρ : Sto) (τ : STau) : trIn (.sh d :: ρ) τ ↔ trIn ρ τ := by rw [trIn_cons]; exact ⟨fun h => h.2, fun h => ⟨fun _ _ e => (nomatch e), h⟩⟩
@[simp] theorem trIn_ow (d : OD) (ρ : Sto) (τ : STau) : trIn (.ow d :: ρ) τ ↔ trIn ρ τ := by rw [trIn_cons]; exact ⟨fun h => h.2, fun h => ⟨fun _ _ e => (nomatch e), h⟩⟩
@[simp] theorem trIn_raw (v : V) (x : Option (Addr × List (Str × PyData))) (ρ : Sto) (τ : STau) : trIn (.raw v x :: ρ) τ ↔ trIn ρ τ := by rw [trIn_cons]; exact ⟨fun h => h.2, fun h => ⟨fun _ _ e => (nomatch e), h⟩⟩
@[simp] theorem trIn_tr (a : Addr) (t : ST) (ρ : Sto) (τ : STau) : trIn (.tr a t :: ρ) τ ↔ (a, t) ∈ τ ∧ trIn ρ τ := by
  rw [trIn_cons]
  exact ⟨fun h => ⟨h.1 a t rfl, h.2⟩, fun h => ⟨fun b u e => by cases e; exact h.1, h.2⟩⟩
variable [TabC]
section
variable {K : PySem.W.Frag} {G0 H0 G H G' H' : Hp} {σ σ' : L2.St} {ρ ρ' : Sto} {τ τ' : STau} {fp : List Addr}
theorem minus_out {a : Addr} (h : a ∉ fp) : minusH H fp a = H a := if_neg h
theorem nf_minus {a : Addr} (h : NF (minusH H fp) a) : a ∈ fp ∨ NF H a := by
  by_cases z : a ∈ fp
  · exact .inl z
  · refine .inr ?_
    have h' : nt (minusH H fp) a = none := h
    rw [nt_congr (minus_out z)] at h'
    exact h'
theorem ns_minus {a : Addr} (h : NS (minusH H fp) a) : a ∈ fp ∨ NS H a := by
  by_cases z : a ∈ fp
  · exact .inl z
  · refine .inr ?_
    unfold NS NF at h ⊢
    rw [nt_congr (minus_out z), minus_out z] at h
    exact h
theorem tabs_minus (hn : ∀ a ∈ fp, Node H a) (t : LamX.Tabs TabC.T H) : LamX.Tabs TabC.T (minusH H fp) := fun q hq => by
  obtain ⟨ps, e1, e2, e3⟩ := t q hq
  have ne : q.1 ∉ fp := fun z => by
    obtain ⟨o, e, n, _⟩ := hn _ z
    rw [e1] at e
    exact n ps (Option.some.inj e).symm
  refine ⟨ps, (minus_out ne).trans e1, e2, fun pos cv hc => ?_⟩
  obtain ⟨c, e4, e5⟩ := e3 pos cv hc
  refine ⟨c, e4, (minus_out fun z => ?_).trans e5⟩
  obtain ⟨o, e, _, n, _⟩ := hn _ z
  rw [e5] at e
  exact n _ (Option.some.inj e).symm
theorem okY_loc {i j : Nat} {a : Addr} {t t' : ST} {f1 fa f2 : List Addr} (k : @Ok _ ⟨regH H (f1 ++ (fa ++ f2))⟩ K G0 (mixH H0 H (f1 ++ (fa ++ f2))) G H σ ρ) (h1 : SRoots K G H (τ.take j) f1) (h2 : SRoots K G H (τ.drop (j + 1)) f2) (ha : SAt K G H (.ref a) t fa) (nd : (f1 ++ (fa ++ f2)).Nodup) (fr : ∀ a ∈ f1 ++ (fa ++ f2), NF H0 a ∧ G0 a = none ∧ G a = none) (h0 : Ex H0 H)
    (hi : ρ[i]? = some (Slot.tr a t)) (hj : τ[j]? = some (a, t)) (L : LocY K G H fa a t' G' H') (ti : trIn (ρ.set i (.tr a t')) (τ.set j (a, t'))) : OkY K G0 H0 G' H' σ (ρ.set i (.tr a t')) (τ.set j (a, t')) := by
  letI : ObjB := ⟨regH H (f1 ++ (fa ++ f2))⟩
  obtain ⟨gg, hh, gn, nw, fb, tb', nb, frb⟩ := L
  have na : ∀ b ∈ fa, Node H b := sAt_node ha
  have n1 : ∀ b ∈ f1, Node H b := sr_node h1
  have n2 : ∀ b ∈ f2, Node H b := sr_node h2
  have nall : ∀ b ∈ f1 ++ (fa ++ f2), Node H b := or_app n1 (or_app na n2)
  have ndl := List.nodup_append.mp nd
  have ndr := List.nodup_append.mp ndl.2.1
  have d1 : ∀ b ∈ f1, b ∉ fa := fun b hb z => ndl.2.2 b hb b (List.mem_append.mpr (.inl z)) rfl
  have d2 : ∀ b ∈ f2, b ∉ fa := fun b hb z => ndr.2.2 b z b hb rfl
  have d12 : ∀ b ∈ f1, b ∉ f2 := fun b hb z => ndl.2.2 b hb b (List.mem_append.mpr (.inr z)) rfl
  have keep : ∀ b o, b ∉ fa → H b = some o → NTb o → H' b = some o := fun b o nb e n => hh.at ((minus_out nb).trans e) n
  have knode : ∀ b, b ∉ fa → Node H b → H' b = H b := fun b nb n => by
    obtain ⟨o, e, n, _⟩ := n
    rw [e]
    exact keep b o nb e n
  have nfb : ∀ b ∈ fb, b ∉ f1 ∧ b ∉ f2 ∧ NF H0 b := fun b hb => by
    have q := (frb b hb).1
    have no : ∀ c, c ∉ fa → Node H c → ¬ NF (minusH H fa) c := fun c hc n z => by
      obtain ⟨o, e, n, _⟩ := n
      exact nf_no ((minus_out hc).trans e) n z
    refine ⟨fun z => no b (d1 b z) (n1 b z) q, fun z => no b (d2 b z) (n2 b z) q, ?_⟩
    rcases nf_minus q with z | z
    · exact (fr b (by simp [z])).1
    · exact h0.free z
  have r1 := sr_frame gg h1 fun b hb => knode b (d1 b hb) (n1 b hb)
  have r2 := sr_frame gg h2 fun b hb => knode b (d2 b hb) (n2 b hb)
  have tr' : SRoots K G' H' (τ.set j (a, t')) (f1 ++ (fb ++ f2)) := sr_set hj r1 tb' r2
  have nd' : (f1 ++ (fb ++ f2)).Nodup := by
    rw [List.nodup_append]
    refine ⟨ndl.1, ?_, fun b hb c hc z => ?_⟩
    · rw [List.nodup_append]
      exact ⟨nb, ndr.2.1, fun b hb c hc z => by subst z; exact (nfb b hb).2.1 hc⟩
    · subst z
      rcases List.mem_append.mp hc with y | y
      · exact (nfb b y).1 hb
      · exact d12 b hb y
  have g0n : ∀ b, G b = none → G0 b = none := fun b e => by
    cases q : G0 b with
    | none => rfl
    | some o => rw [k.g0 b o q] at e; cases e
  have gn' : ∀ b, b ∉ fa → Node H b → G b = none → G' b = none := fun b nb n e => by
    cases q : G' b with
    | none => rfl
    | some o =>
      rcases nw b o q with z | z
      · rw [e] at z; cases z
      · obtain ⟨u, e1, n1, _, n3⟩ := n
        exact (ns_no ((minus_out nb).trans e1) n1 n3 z).elim
  have fr' : ∀ b ∈ f1 ++ (fb ++ f2), NF H0 b ∧ G0 b = none ∧ G' b = none := fun b hb => by
    rcases List.mem_append.mp hb with z | z
    · have q := fr b (by simp [z])
      exact ⟨q.1, q.2.1, gn' b (d1 b z) (n1 b z) q.2.2⟩
    rcases List.mem_append.mp z with z | z
    · have q := frb b z
      exact ⟨(nfb b z).2.2, g0n b q.2.1, q.2.2⟩
    · have q := fr b (by simp [z])
      exact ⟨q.1, q.2.1, gn' b (d2 b z) (n2 b z) q.2.2⟩
  have tbm := tabs_minus na k.tb
  have tb2 : LamX.Tabs TabC.T H' := hh.t tbm
  have s0 : ∀ b o, nt H0 b = some o → nt H' b = some o := fun b o e => by
    have e1 := h0.s b o e
    have nb : b ∉ fa := fun z => by rw [show nt H0 b = none from (fr b (by simp [z])).1] at e; cases e
    exact nt_of (keep b o nb (nt_some e1) (nt_ntb e1)) (nt_ntb e1)
  have hsl := fun b (u : ST) (e : (b, u) ∈ τ.set j (a, t')) => sr_mem tr' e
  refine ⟨f1 ++ (fb ++ f2), ?_, tr', nd', fr', ⟨s0, fun _ => tb2⟩, ti⟩
  have hil : i < ρ.length := (List.getElem?_eq_some_iff.mp hi).1
  have other : ∀ {b : Nat} {s : Slot}, (∀ u v, s ≠ .tr u v) → (ρ.set i (.tr a t'))[b]? = some s → ρ[b]? = some s := fun {b s} ns e => by
    rw [getElem_set_eq] at e
    by_cases z : i = b
    · rw [if_pos z, if_pos hil] at e
      exact (ns a t' (Option.some.inj e).symm).elim
    · rwa [if_neg z] at e
  refine @Ok.mk _ ⟨regH H' (f1 ++ (fb ++ f2))⟩ _ _ _ _ _ _ _ gn (k.g0.trans gg) ⟨fun b o e => ?_, fun _ => tb2⟩ tb2 (fun b o e => ?_) (by rw [List.length_set]; exact k.len) (fun c d e => ?_) (fun c o e => ?_) (fun c d o u b n e1 e2 e3 => k.ap c d o u b n (other (fun _ _ z => by cases z) e1) (other (fun _ _ z => by cases z) e2) e3) (fun c v x e => ?_) (fun c b u e => ?_) (fun b o e => ?_)
  · by_cases hb : b ∈ f1 ++ (fb ++ f2)
    · rw [nt_congr (mix_in hb)] at e; exact e
    · rw [nt_congr (mix_out hb)] at e
      exact s0 b o e
  · have hb : b ∉ f1 ++ (fb ++ f2) := fun z => by rw [(fr' b z).2.2] at e; cases e
    rcases nw b o e with z | z
    · rcases k.nw b o z with y | y
      · exact .inl y
      · exact .inr (ns_mix' hb (ns_mix nall y).2)
    · refine .inr (ns_mix' hb ?_)
      rcases ns_minus z with y | y
      · exact .inl (fr b (by simp [y])).1
      · exact h0.freeS y
  · obtain ⟨v, e1, e2⟩ := k.sh c d (other (fun _ _ z => by cases z) e)
    exact ⟨v, e1, rp_mono gg e2⟩
  · obtain ⟨p, ho, e1, e2, e3, e4, e5⟩ := k.ow c o (other (fun _ _ z => by cases z) e)
    obtain ⟨p1, p2⟩ := nf_mix nall e4
    have pa : p ∉ fa := fun z => p1 (by simp [z])
    have pn : ¬ NS (minusH H fa) p := fun z => ns_no ((minus_out pa).trans e2) (hoOk_ntb e5) (hoOk_ntp e5) z
    refine ⟨p, ho, e1, keep p ho pa e2 (hoOk_ntb e5), ?_, nf_mix' (fun z => ?_) p2, hoOk_mono gg e5⟩
    · cases q : G' p with
      | none => rfl
      | some u =>
        rcases nw p u q with z | z
        · rw [e3] at z; cases z
        · exact (pn z).elim
    · rcases List.mem_append.mp z with y | y
      · exact p1 (by simp [y])
      rcases List.mem_append.mp y with y | y
      · exact pn (.inl (frb p y).1)
      · exact p1 (by simp [y])
  · obtain ⟨e1, e2⟩ := k.rw c v x (other (fun _ _ z => by cases z) e)
    exact ⟨e1, fun q hq => let ⟨vs, z1, z2⟩ := e2 q hq; ⟨vs, gg _ _ z1, dpF_mono gg z2⟩⟩
  · have e0 := e
    have im := ti c b u e
    obtain ⟨g, g1, g2⟩ := hsl b u im
    refine ⟨g, ?_, sAt_frame (Same.refl _) g1 fun x hx => regH_in (g2 x hx)⟩
    rw [getElem_set_eq] at e
    by_cases z : i = c
    · rw [if_pos z, if_pos hil] at e
      cases e
      subst z
      exact (k.tr i a t hi).choose_spec.1
    · rw [if_neg z] at e
      exact (k.tr c b u e).choose_spec.1
  · have e' : (if b ∈ f1 ++ (fb ++ f2) then H' b else none) = some o := e
    by_cases hb : b ∈ f1 ++ (fb ++ f2)
    · rw [if_pos hb] at e'
      obtain ⟨u, q1, q2, _⟩ := sr_node tr' b hb
      rw [q1] at e'
      cases e'
      rw [nt_congr (mix_in hb)]
      exact nt_of q1 q2
    · rw [if_neg hb] at e'
      cases e'
end
end WH
namespace WH
open PySem PySem.Spec PyProof.Rows L2
variable [TabC]
section
variable {K : PySem.W.Frag} {G0 H0 G H G' H' : Hp} {σ σ' : L2.St} {ρ ρ' : Sto} {τ τ' : STau}
theorem OkY.ret (k : OkY K G0 H0 G H σ ρ τ) {d : PyData} {v : V} (r : Rp K G v d) : RetY K G0 H0 d τ v H := by
  obtain ⟨g0, gn, nw⟩ := k.base
  obtain ⟨fp, k, tr, nd, fr, h0, ti⟩ := k
  exact ⟨G, fp, g0, h0, gn, nw, r, tr, nd, fr⟩
theorem retY_lift {fp : List Addr} {s : Slot} {v : V} {d : PyData} (k : @Ok _ ⟨regH H fp⟩ K G0 (mixH H0 H fp) G H σ ρ) (tr : SRoots K G H τ fp) (nd : fp.Nodup) (fr : ∀ a ∈ fp, NF H0 a ∧ G0 a = none ∧ G a = none) (r : RetOk K G (mixH H0 H fp) s v H') (hd : slotD s = some d) : RetY K G0 H0 d τ v H' := by
  letI : ObjB := ⟨regH H fp⟩
  have hn := sr_node tr
  obtain ⟨G', r1, r2, r3, r4, r5⟩ := r
  have at_ : ∀ a ∈ fp, H' a = H a := fun a ha => by
    obtain ⟨o, e, n, _⟩ := hn a ha
    rw [e]
    exact r2.at ((mix_in ha).trans e) n
  have nw' : ∀ a o, G' a = some o → G0 a = some o ∨ NS H0 a := fun a o e => by
    rcases r4 a o e with z | z
    · rcases k.nw a o z with y | y
      · exact .inl y
      · exact .inr (ns_mix hn y).2
    · exact .inr (ns_mix hn z).2
  have fn : ∀ a ∈ fp, NF H0 a ∧ G0 a = none ∧ G' a = none := fun a ha => ⟨(fr a ha).1, (fr a ha).2.1, by
    cases q : G' a with
    | none => rfl
    | some o =>
      rcases r4 a o q with z | z
      · rw [(fr a ha).2.2] at z; cases z
      · exact ((ns_mix hn z).1 ha).elim⟩
  have h0' : Ex H0 H' := ex_mix hn (fun a ha => (fr a ha).1) k.tb r2
  have tr' := sr_frame r1 tr at_
  cases s with
  | no => exact r5.elim
  | raw _ _ => cases hd
  | tr _ _ => cases hd
  | sh e =>
    cases hd
    exact ⟨G', fp, k.g0.trans r1, h0', r3, nw', r5, tr', nd, fn⟩
  | ow o =>
    obtain ⟨p, ho, rfl, n1, n2, n3, n4⟩ := r5
    cases o with
    | lst ds =>
      cases hd
      cases ho with
      | lst xs =>
        obtain ⟨p1, p2⟩ := nf_mix hn n1
        refine ⟨upd G' p (.lst xs), fp, (k.g0.trans r1).trans (same_upd n2), h0', fun a u e => ?_, fun a u e => ?_, rp_lstNew n2 n4, sr_frame (same_upd n2) tr' fun _ _ => rfl, nd, fun a ha => ⟨(fn a ha).1, (fn a ha).2.1, ?_⟩⟩
        · by_cases ha : a = p
          · subst ha; rw [upd_same] at e; cases e; exact nt_of n3 ntb_lst
          · rw [upd_ne ha] at e; exact r3 a u e
        · by_cases ha : a = p
          · subst ha; exact .inr (.inl p2)
          · rw [upd_ne ha] at e; exact nw' a u e
        · rw [upd_ne fun z => p1 (by rw [← z]; exact ha)]
          exact (fn a ha).2.2
      | _ => exact n4.elim
    | dic _ => cases hd
    | set _ _ => cases hd
    | ndic _ => cases hd
end
abbrev DSY := DEndsY → Sto → STau → Prop
def XOkY (K : PySem.W.Frag) (W : XW) (G0 H0 : Hp) (Xd : Exn → Sto → STau → Prop) : Prop := ∀ G' H' σ' ρ' τ' x cls d, OkY K G0 H0 G' H' σ' ρ' τ' → ExcOk K W.1 G' H' x cls d → Xd x ρ' τ' → W.2 cls d σ' H'
def upSY (K : PySem.W.Frag) (W : XW) (ds : DSY) : TS := fun D σ H => ∃ G0 H0 G ρ τ Dd, OkY K G0 H0 G H σ ρ τ ∧ ds Dd ρ τ ∧ (∀ G' H' σ' ρ' τ', OkY K G0 H0 G' H' σ' ρ' τ' → Dd.nx ρ' τ' → D.nx σ' H') ∧ (∀ d τ' v H', RetY K G0 H0 d τ' v H' → Dd.rt d τ' → D.rt v H') ∧
  (∀ G' H' σ' ρ' τ', OkY K G0 H0 G' H' σ' ρ' τ' → Dd.bk ρ' τ' → D.bk σ' H') ∧ (∀ G' H' σ' ρ' τ', OkY K G0 H0 G' H' σ' ρ' τ' → Dd.ct ρ' τ' → D.ct σ' H') ∧ XOkY K W G0 H0 Dd.ex
def QSY (X : Cx) (W : XW) (st : Stmt) (ds : DSY) : Prop := PS X st (upSY X.K W ds)
def QSsY (X : Cx) (W : XW) (st : List Stmt) (ds : DSY) : Prop := PSs X st (upSY X.K W ds)
def lfY (ds : DS) : DSY := fun D ρ τ => ds { nx := fun ρ' => trIn ρ' τ ∧ D.nx ρ' τ, rt := fun s => ∃ d, slotD s = some d ∧ D.rt d τ, ex := fun x ρ' => trIn ρ' τ ∧ D.ex x ρ' τ, bk := fun ρ' => trIn ρ' τ ∧ D.bk ρ' τ, ct := fun ρ' => trIn ρ' τ ∧ D.ct ρ' τ } ρ
@[simp] theorem s_lfY (ds : DS) (D : DEndsY) (ρ : Sto) (τ : STau) : lfY ds D ρ τ ↔ ds { nx := fun ρ' => trIn ρ' τ ∧ D.nx ρ' τ, rt := fun s => ∃ d, slotD s = some d ∧ D.rt d τ, ex := fun x ρ' => trIn ρ' τ ∧ D.ex x ρ' τ, bk := fun ρ' => trIn ρ' τ ∧ D.bk ρ' τ, ct := fun ρ' => trIn ρ' τ ∧ D.ct ρ' τ } ρ := Iff.rfl
theorem up_lfY {K : PySem.W.Frag} {W : XW} {ds : DS} (D : Ends) (σ : L2.St) (H : Hp) (h : upSY K W (lfY ds) D σ H) : ∃ B, @upS _ B K W ds D σ H := by
  obtain ⟨G0, H0, G, ρ, τ, Dd, ⟨fp, k, tr, nd, fr, h0, ti⟩, h, nx, rt, bk, ct, ex⟩ := h
  letI : ObjB := ⟨regH H fp⟩
  exact ⟨⟨regH H fp⟩, G, mixH H0 H fp, G, ρ, _, k.rebase, h, fun G' H' σ' ρ' k' q => nx G' H' σ' ρ' τ (okY_keep k tr nd fr k' q.1) q.2, fun s v H' r ⟨d, hd, q⟩ => rt d τ v H' (retY_lift k tr nd fr r hd) q, fun G' H' σ' ρ' k' q => bk G' H' σ' ρ' τ (okY_keep k tr nd fr k' q.1) q.2, fun G' H' σ' ρ' k' q => ct G' H' σ' ρ' τ (okY_keep k tr nd fr k' q.1) q.2,
    fun G' H' σ' ρ' x cls d k' e q => ex G' H' σ' ρ' τ x cls d (okY_keep k tr nd fr k' q.1) e q.2⟩
section
variable {X : Cx} {W : XW}
theorem qsy_lift {st : Stmt} {ds : DS} (h : ∀ B : ObjB, QS X W st ds) : QSY X W st (lfY ds) := PS.sub (PS.all h) up_lfY
def yNext : DSY := fun D ρ τ => D.nx ρ τ
@[simp] theorem s_yNext (D : DEndsY) (ρ : Sto) (τ : STau) : yNext D ρ τ ↔ D.nx ρ τ := Iff.rfl
def ySeq (d e : DSY) : DSY := fun D ρ τ => d { D with nx := e D } ρ τ
@[simp] theorem s_ySeq (d e : DSY) (D : DEndsY) (ρ : Sto) (τ : STau) : ySeq d e D ρ τ ↔ d { D with nx := e D } ρ τ := Iff.rfl
theorem qssy_nil : QSsY X W [] yNext := PSs.sub pss_nil fun D σ H h => by
  obtain ⟨G0, H0, G, ρ, τ, Dd, k, h, nx, rt, bk, ct, ex⟩ := h
  exact nx G H σ ρ τ k h
theorem qssy_cons {st : Stmt} {rest : List Stmt} {d e : DSY} (h1 : QSY X W st d) (h2 : QSsY X W rest e) : QSsY X W (st :: rest) (ySeq d e) := PSs.sub (pss_cons h1 h2) fun D σ H h => by
  obtain ⟨G0, H0, G, ρ, τ, Dd, k, h, nx, rt, bk, ct, ex⟩ := h
  exact ⟨G0, H0, G, ρ, τ, { Dd with nx := e Dd }, k, h, fun G' H' σ' ρ' τ' k' q => ⟨G0, H0, G', ρ', τ', Dd, k', q, nx, rt, bk, ct, ex⟩, rt, bk, ct, ex⟩
theorem qssy_one {st : Stmt} {d : DSY} (h1 : QSY X W st d) : QSsY X W [st] d := pss_one h1
def yIf (t : DT) (a b : DSY) : DSY := fun D ρ τ => t ρ (fun c => if c = true then a D ρ τ else b D ρ τ) (fun x => D.ex x ρ τ)
@[simp] theorem s_yIf (t : DT) (a b : DSY) (D : DEndsY) (ρ : Sto) (τ : STau) : yIf t a b D ρ τ ↔ t ρ (fun c => if c = true then a D ρ τ else b D ρ τ) (fun x => D.ex x ρ τ) := Iff.rfl
theorem qsy_if {c : Expr} {a b : List Stmt} {pos : Pos} {t : DT} {d e : DSY} (hc : ∀ B : ObjB, QT X W c t) (ha : QSsY X W a d) (hb : QSsY X W b e) : QSY X W (.If c a b pos) (yIf t d e) := PS.sub (ps_if (PT.all hc) ha hb) fun D σ H h => by
  obtain ⟨G0, H0, G, ρ, τ, Dd, ⟨fp, k, tr, nd, fr, h0, ti⟩, h, nx, rt, bk, ct, ex⟩ := h
  letI : ObjB := ⟨regH H fp⟩
  refine ⟨⟨regH H fp⟩, G, mixH H0 H fp, G, ρ, _, fun x => Dd.ex x ρ τ, k.rebase, h, fun G1 H1 c k1 g1 q => ?_, fun G' H' x cls d k' g' e z => ex G' H' σ ρ τ x cls d (okY_keep k tr nd fr k' ti) e z⟩
  have kT := okY_keep k tr nd fr k1 ti
  cases c with
  | true =>
    dsimp only at q ⊢
    rw [if_pos rfl] at q ⊢
    exact ⟨G0, H0, G1, ρ, τ, Dd, kT, q, nx, rt, bk, ct, ex⟩
  | false =>
    dsimp only at q ⊢
    rw [if_neg Bool.false_ne_true] at q ⊢
    exact ⟨G0, H0, G1, ρ, τ, Dd, kT, q, nx, rt, bk, ct, ex⟩
def forY (dg : DG) (body : DSY) (D : DEndsY) : List PyData → Sto → STau → Prop
  | [], ρ, τ => D.nx ρ τ
  | d :: ds, ρ, τ => dg d ρ fun ρ2 => trIn ρ2 τ ∧ body { D with nx := forY dg body D ds, ct := forY dg body D ds, bk := D.nx } ρ2 τ
def yFor (di : DI) (dg : DG) (body : DSY) : DSY := fun D ρ τ => di ρ (fun ds => forY dg body D ds ρ τ) (fun x => D.ex x ρ τ)
@[simp] theorem s_yFor (di : DI) (dg : DG) (body : DSY) (D : DEndsY) (ρ : Sto) (τ : STau) : yFor di dg body D ρ τ ↔ di ρ (fun ds => forY dg body D ds ρ τ) (fun x => D.ex x ρ τ) := Iff.rfl
@[simp] theorem s_forYn (dg : DG) (body : DSY) (D : DEndsY) (ρ : Sto) (τ : STau) : forY dg body D [] ρ τ ↔ D.nx ρ τ := Iff.rfl
end
theorem up_forY {K : PySem.W.Frag} {W : XW} {vs : List Nat} {di : DI} {dg : DG} {body : DSY} (D : Ends) (σ : L2.St) (H : Hp) (h : upSY K W (yFor di dg body) D σ H) : tFor (fun σ H R => ∃ B, @upI _ B K W di σ H R) (fun v σ H Q => ∃ B, @upG _ B K vs dg v σ H Q) (upSY K W body) D σ H := by
  obtain ⟨G0, H0, G, ρ, τ, Dd, ⟨fp, k, tr, nd, fr, h0, ti⟩, h, nx, rt, bk, ct, ex⟩ := h
  letI : ObjB := ⟨regH H fp⟩
  refine ⟨⟨regH H fp⟩, G, mixH H0 H fp, G, ρ, _, fun x => Dd.ex x ρ τ, k.rebase, h, fun G1 H1 J ds k1 g1 it q => ?_, fun G' H' x cls d k' g' e z => ex G' H' σ ρ τ x cls d (okY_keep k tr nd fr k' ti) e z⟩
  have kT := okY_keep k tr nd fr k1 ti
  refine ⟨fun i m σ' H' => m = ds.length - i ∧ i ≤ ds.length ∧ ∃ G' ρ' τ', Same G1 G' ∧ OkY K G0 H0 G' H' σ' ρ' τ' ∧ forY dg body Dd (ds.drop i) ρ' τ', ⟨ds.length, by omega, Nat.zero_le _, G1, ρ, τ, Same.refl _, kT, q⟩, ?_⟩
  rintro i m σ' H' ⟨rfl, hi, G', ρ', τ', gg, k', q'⟩
  obtain ⟨i1, i2, i3⟩ := it G' H' gg k'.base.2.1 i
  by_cases hlt : i < ds.length
  · refine .inr ⟨i1 hlt, fun σ2 H2 => ∃ G2 ρ2 τ2, Same G1 G2 ∧ OkY K G0 H0 G2 H2 σ2 ρ2 τ2 ∧ forY dg body Dd (ds.drop (i + 1)) ρ2 τ2, fun σ2 H2 ⟨G2, ρ2, τ2, a1, a2, a3⟩ => ⟨ds.length - (i + 1), by omega, rfl, by omega, G2, ρ2, τ2, a1, a2, a3⟩, fun x H2 hy => ?_⟩
    have hd : ds[i]? = some ds[i] := by simp [hlt]
    obtain ⟨G2, e1, e3, e5⟩ := i3 _ x H2 hd hy
    obtain ⟨fp', kk, tr', nd', fr', h0', ti'⟩ := k'
    have k2 : @Ok _ ⟨regH H' fp'⟩ K G' (mixH H0 H' fp') G2 H2 σ' ρ' := by
      letI : ObjB := ⟨regH H' fp'⟩
      exact kk.rebase.grow e1.gg e1.hh e3 e1.nw
    rw [List.drop_eq_getElem_cons hlt] at q'
    refine ⟨⟨regH H' fp'⟩, G', mixH H0 H' fp', G2, ρ', ds[i], _, k2, e5, q', fun σ3 ρ3 k3 _ _ q3 => ?_⟩
    have kT3 : OkY K G0 H0 G2 H2 σ3 ρ3 τ' := okY_keep kk tr' nd' fr' k3 q3.1
    have nxt : ∀ G4 H4 σ4 ρ4 τ4, OkY K G2 H0 G4 H4 σ4 ρ4 τ4 → forY dg body Dd (ds.drop (i + 1)) ρ4 τ4 → ∃ G5 ρ5 τ5, Same G1 G5 ∧ OkY K G0 H0 G5 H4 σ4 ρ5 τ5 ∧ forY dg body Dd (ds.drop (i + 1)) ρ5 τ5 := fun G4 H4 σ4 ρ4 τ4 k4 q4 => ⟨G4, ρ4, τ4, (gg.trans e1.gg).trans k4.base.1, kT3.unbase k4, q4⟩
    exact ⟨G2, H0, G2, ρ3, τ', _, kT3.rebase, q3.2, nxt, fun d τ5 v H5 r q => rt d τ5 v H5 (RetY.unbase kT3 r) q, fun G4 H4 σ4 ρ4 τ4 k4 q4 => nx G4 H4 σ4 ρ4 τ4 (kT3.unbase k4) q4, nxt, fun G4 H4 σ4 ρ4 τ4 x cls d k4 e4 q4 => ex G4 H4 σ4 ρ4 τ4 x cls d (kT3.unbase k4) e4 q4⟩
  · have e : ds.drop i = [] := List.drop_eq_nil_of_le (by omega)
    rw [e] at q'
    exact .inl ⟨i2 (by omega), nx G' H' σ' ρ' τ' k' q'⟩
section
variable {X : Cx} {W : XW}
theorem qsy_for {tg iter : Expr} {body : List Stmt} {vs : List Nat} {di : DI} {dg : DG} {db : DSY} {pos : Pos} (hp : PassesOwn (model X.prog X.w) X.A X.env X.xe) (hc : X.calm = true) (hi : ∀ B : ObjB, QI X W tg iter di) (hg : ∀ B : ObjB, QG X vs tg dg) (hb : QSsY X W body db)
    (hs : ∀ x, foldedSetIterable iter X.env x = pure x := by intro _; rfl) : QSY X W (.For tg iter body [] pos) (yFor di dg db) := PS.sub (ps_for hp hc (PI.all hi) (PG.all hg) hb hs) up_forY
theorem forY_inv {dg : DG} {body : DSY} {D : DEndsY} {ds : List PyData} {ρ : Sto} {τ : STau} (I : Nat → Sto → STau → Prop) (h0 : I 0 ρ τ) (hd : ∀ ρ' τ', I ds.length ρ' τ' → D.nx ρ' τ')
    (hs : ∀ (i : Nat) (d : PyData) (ρ' : Sto) (τ' : STau) (K : Sto → STau → Prop), ds[i]? = some d → I i ρ' τ' → (∀ ρ2 τ2, I (i + 1) ρ2 τ2 → K ρ2 τ2) → dg d ρ' fun ρ2 => trIn ρ2 τ' ∧ body { D with nx := K, ct := K, bk := D.nx } ρ2 τ') : forY dg body D ds ρ τ := by
  have key : ∀ (r : List PyData) (i : Nat) (ρ' : Sto) (τ' : STau), ds.drop i = r → i ≤ ds.length → I i ρ' τ' → forY dg body D r ρ' τ' := by
    intro r
    induction r with
    | nil =>
      intro i ρ' τ' e hi hI
      have : i = ds.length := by
        have := congrArg List.length e
        simp at this
        omega
      subst this
      exact hd ρ' τ' hI
    | cons d r ih =>
      intro i ρ' τ' e hi hI
      have hlt : i < ds.length := by
        have := congrArg List.length e
        simp at this
        omega
      rw [List.drop_eq_getElem_cons hlt] at e
      have he : ds[i]? = some d := by
        rw [List.getElem?_eq_getElem hlt]
        exact congrArg some (List.cons.inj e).1
      exact hs i d ρ' τ' (forY dg body D r) he hI fun ρ2 τ2 h2 => ih (i + 1) ρ2 τ2 (List.cons.inj e).2 (by omega) h2
  exact key ds 0 ρ τ rfl (by omega) h0
end
abbrev DY := Sto → STau → (PyData → Sto → STau → Prop) → (Exn → Sto → STau → Prop) → Prop
def upY (K : PySem.W.Frag) (W : XW) (dy : DY) : TE := fun σ H Q => ∃ G0 H0 G ρ τ Qd Xd, OkY K G0 H0 G H σ ρ τ ∧ dy ρ τ Qd Xd ∧ (∀ G' H' v d ρ' τ', OkY K G0 H0 G' H' σ ρ' τ' → Rp K G' v d → Qd d ρ' τ' → Q v H') ∧ (∀ G' H' x cls d ρ' τ', OkY K G0 H0 G' H' σ ρ' τ' → ExcOk K W.1 G' H' x cls d → Xd x ρ' τ' → W.2 cls d σ H')
def QY (X : Cx) (W : XW) (e : Expr) (dy : DY) : Prop := PE X e (upY X.K W dy)
def lfE (de : DE) : DY := fun ρ τ Q Xd => de ρ (fun d => Q d ρ τ) (fun x => Xd x ρ τ)
@[simp] theorem s_lfE (de : DE) (ρ : Sto) (τ : STau) (Q : PyData → Sto → STau → Prop) (Xd : Exn → Sto → STau → Prop) : lfE de ρ τ Q Xd ↔ de ρ (fun d => Q d ρ τ) (fun x => Xd x ρ τ) := Iff.rfl
theorem up_lfE {K : PySem.W.Frag} {W : XW} {de : DE} (σ : L2.St) (H : Hp) (Q : VK) (h : upY K W (lfE de) σ H Q) : ∃ B, @upE _ B K W de σ H Q := by
  obtain ⟨G0, H0, G, ρ, τ, Qd, Xd, ⟨fp, k, tr, nd, fr, h0, ti⟩, h, fn, xo⟩ := h
  letI : ObjB := ⟨regH H fp⟩
  exact ⟨⟨regH H fp⟩, G, mixH H0 H fp, G, ρ, _, _, k.rebase, h, fun G1 H1 v d k1 g1 rv q => fn G1 H1 v d ρ τ (okY_keep k tr nd fr k1 ti) rv q, fun G' H' x cls d k' g' e z => xo G' H' x cls d ρ τ (okY_keep k tr nd fr k' ti) e z⟩
section
variable {X : Cx} {W : XW}
theorem qy_lift {e : Expr} {de : DE} (h : ∀ B : ObjB, QE X W e de) : QY X W e (lfE de) := PE.sub (PE.all h) up_lfE
theorem okY_set {K : PySem.W.Frag} {G0 H0 G H : Hp} {σ : L2.St} {ρ : Sto} {τ : STau} {i : Nat} {v : V} {d : PyData} (k : OkY K G0 H0 G H σ ρ τ) (r : Rp K G v d) (ti : trIn (ρ.set i (.sh d)) τ) : OkY K G0 H0 G H (σ.set i (some v)) (ρ.set i (.sh d)) τ := by
  obtain ⟨fp, k, tr, nd, fr, h0, _⟩ := k
  exact ⟨fp, @Ok.setSh _ ⟨regH H fp⟩ _ _ _ _ _ _ _ k _ _ _ r, tr, nd, fr, h0, ti⟩
def yRet (dy : DY) : DSY := fun D ρ τ => dy ρ τ (fun d _ τ' => D.rt d τ') D.ex
@[simp] theorem s_yRet (dy : DY) (D : DEndsY) (ρ : Sto) (τ : STau) : yRet dy D ρ τ ↔ dy ρ τ (fun d _ τ' => D.rt d τ') D.ex := Iff.rfl
theorem qsy_ret {e : Expr} {dy : DY} {pos : Pos} (he : QY X W e dy) : QSY X W (.Return (some e) pos) (yRet dy) := PS.sub (ps_ret he) fun D σ H h => by
  obtain ⟨G0, H0, G, ρ, τ, Dd, k, h, nx, rt, bk, ct, ex⟩ := h
  exact ⟨G0, H0, G, ρ, τ, _, Dd.ex, k, h, fun G1 H1 v d ρ' τ' k1 rv q => rt d τ' v H1 (k1.ret rv) q, fun G' H' x cls d ρ' τ' k' e z => ex G' H' σ ρ' τ' x cls d k' e z⟩
end
end WH
namespace WH
open PySem PySem.Spec PyProof.Rows L2
section
variable [TabC]
section
variable {K : PySem.W.Frag} {G0 H0 G H G' H' : Hp} {σ σ' : L2.St} {ρ ρ' : Sto} {τ τ' : STau}
theorem LocY.ofY {fa : List Addr} {a : Addr} {t' : ST} (k : OkY K G (minusH H fa) G' H' σ ρ [(a, t')]) : LocY K G H fa a t' G' H' := by
  obtain ⟨g0, gn, nw⟩ := k.base
  obtain ⟨fp, k, tr, nd, fr, h0, ti⟩ := k
  cases tr with
  | cons x y =>
    cases y
    rw [List.append_nil] at nd fr
    exact ⟨g0, h0, gn, nw, _, x, nd, fr⟩
theorem st0_notr {N : List Str} {ds : List PyData} {i : Nat} {a : Addr} {t : ST} : (st0 N ds)[i]? ≠ some (Slot.tr a t) := fun e => by
  unfold st0 at e
  rw [List.getElem?_append] at e
  split at e
  · rw [List.getElem?_map] at e
    cases q : ds[i]? with
    | none => rw [q] at e; cases e
    | some d => rw [q] at e; cases e
  · rw [List.getElem?_replicate] at e
    split at e <;> cases e
theorem trIn_st0 (N : List Str) (ds : List PyData) (τ : STau) : trIn (st0 N ds) τ := fun i a t e => absurd e st0_notr
theorem mix_minus {fp : List Addr} : mixH (minusH H fp) H fp = H := by
  funext a
  by_cases z : a ∈ fp
  · rw [mix_in z]
  · rw [mix_out z, minus_out z]
theorem ex_minus {fp : List Addr} (tb : LamX.Tabs TabC.T H) : Ex (minusH H fp) H := ⟨fun a o e => by
  by_cases z : a ∈ fp
  · unfold nt minusH at e
    rw [if_pos z] at e
    cases e
  · rw [nt_congr (minus_out z)] at e
    exact e, fun _ => tb⟩
theorem nf_minusIn {fp : List Addr} {a : Addr} (h : a ∈ fp) : NF (minusH H fp) a := nf_of (if_pos h)
theorem same_reg {fp : List Addr} (hn : ∀ a ∈ fp, Node H a) : Same (regH H fp) (nt H) := fun a o e => by
  by_cases z : a ∈ fp
  · rw [regH_in z] at e
    obtain ⟨u, e1, n1, _⟩ := hn a z
    rw [e1] at e
    cases e
    exact nt_of e1 n1
  · unfold regH at e
    rw [if_neg z] at e
    cases e
theorem okY_start {N : List Str} {vs : List V} {ds : List PyData} (gh : Same G (nt H)) (tb : LamX.Tabs TabC.T H) (r : RpAll K G vs ds) : OkY K G H G H (L2.start N vs) (st0 N ds) [] := by
  refine ⟨[], ?_, .nil, .nil, fun a h => (nomatch h), Ex.refl H, trIn_st0 _ _ _⟩
  rw [mix_nil]
  exact @ok_start _ ⟨regH H []⟩ _ _ _ _ _ _ gh tb r (same_reg fun a h => nomatch h)
theorem okY_startT {n0 : Str} {N : List Str} {vs : List V} {ds : List PyData} {p : Addr} {t : ST} {fp : List Addr} (gh : Same G (nt H)) (tb : LamX.Tabs TabC.T H) (r : RpAll K G vs ds) (ta : SAt K G H (.ref p) t fp) (nd : fp.Nodup) (out : ∀ b ∈ fp, G b = none) :
    OkY K G (minusH H fp) G H (L2.start (n0 :: N) (V.ref p :: vs)) (.tr p t :: st0 N ds) [(p, t)] := by
  have hn := sAt_node ta
  have tr : SRoots K G H [(p, t)] (fp ++ []) := .cons ta .nil
  rw [List.append_nil] at tr
  refine ⟨fp, ?_, tr, nd, fun a h => ⟨nf_minusIn h, out a h, out a h⟩, ex_minus tb, (trIn_tr _ _ _ _).mpr ⟨List.mem_singleton.mpr rfl, trIn_st0 _ _ _⟩⟩
  rw [mix_minus]
  have e : L2.start (n0 :: N) (V.ref p :: vs) = some (V.ref p) :: L2.start N vs := by
    unfold L2.start
    simp
  rw [e]
  letI : ObjB := ⟨regH H fp⟩
  exact (ok_start gh tb r (same_reg hn)).consTr (sAt_frame (Same.refl _) ta fun a h => regH_in h)
end
def PSpY (K : PySem.W.Frag) (mg : Str → Option Value) (C : CtY) : Sp := fun vs H Q E => ∃ p vs' G t fp ds R Xd, vs = V.ref p :: vs' ∧ Same G (nt H) ∧ SAt K G H (.ref p) t fp ∧ fp.Nodup ∧ (∀ b ∈ fp, G b = none) ∧ LamX.Tabs TabC.T H ∧ RpAll K G vs' ds ∧ C ds t R Xd ∧
  (∀ d t' v H', RetY K G (minusH H fp) d [(p, t')] v H' → R d t' → Q v H') ∧ ∀ G' H' x cls d t', LocY K G H fp p t' G' H' → ExcOk K mg G' H' x cls d → Xd x t' → E cls d H'
section
variable {P : Program} {w : World} {K : PySem.W.Frag} {mg : Str → Option Value} {base : Heap}
theorem fn_okY {x qual n0 p0 : Str} {st : Stmt} {f : Addr} {fd : FuncData} {N ps : List Str} {k : Nat} {C : CtY} {db : DSY} {dvs : List V} {kws : List (Str × V)} (F : FunD K x qual (defArgs st) (defBody st) (defScope st) dvs kws f fd) (S : FnScope (n0 :: N) (p0 :: ps) (defScope st)) (len : ∀ ds t R Xd, C ds t R Xd → ds.length = ps.length)
    (hbody : ∀ (cdv : Value) (A : Around) (outer : List Env) (s : Shared) (H : Hp) (E : XK), Room k (A.deeper (PyProof.Rows.envOfC qual (defScope st) s.heap.objs.size f cdv)) → QSsY (cxOf (L2N.CX P w) P w K mg base (n0 :: N) qual (defScope st) f cdv A outer s H E) (WF mg E) (defBody st) db)
    (h : ∀ ds a t R Xd, C ds t R Xd → db { nx := fun _ τ => ∃ t', τ = [(a, t')] ∧ R .none t', rt := fun d τ => ∃ t', τ = [(a, t')] ∧ R d t', ex := fun x _ τ => ∃ t', τ = [(a, t')] ∧ Xd x t' } (.tr a t :: st0 N ds) [(a, t)]) : FnOk P w K mg base (L2N.CX P w) (k + 1) f fd (p0 :: ps) (PSpY K mg C) := by
  refine F.ok S (fun vs H Q E h => ?_) (fun cdv A outer s H vs Q E hr hsp => ?_)
  · obtain ⟨a, vs', G, t, fp, ds, R, Xd, rfl, _, _, _, _, _, r, c, _⟩ := h
    rw [List.length_cons, rpa_length r, len _ _ _ _ c, List.length_cons]
  · obtain ⟨a, vs', G, t, fp, ds, R, Xd, rfl, gh, ta, nd, out, tb, r, c, rt, ex⟩ := hsp
    refine ⟨_, hbody cdv A outer s H E hr, ?_⟩
    refine ⟨G, minusH H fp, G, _, _, _, okY_startT gh tb r ta nd out, h ds a t R Xd c, fun G' H' σ' ρ' τ' k' q => ?_, fun d τ' v H' r q => ?_, fun _ _ _ _ _ _ z => z.elim, fun _ _ _ _ _ _ z => z.elim, fun G' H' σ' ρ' τ' x cls d k' e q => ?_⟩
    · obtain ⟨t', rfl, q⟩ := q
      exact rt _ _ _ _ (k'.ret .non) q
    · obtain ⟨t', rfl, q⟩ := q
      exact rt _ _ _ _ r q
    · obtain ⟨t', rfl, q⟩ := q
      exact ex G' H' x cls d t' (LocY.ofY k') e q
def MtY (P : Program) (w : World) (K : PySem.W.Frag) (mg : Str → Option Value) (base : Heap) (Ca : Addr) (m : Str) (k : Nat) (C : CtY) : Prop :=
  ∃ ps f fd, Cls K Ca ∧ Meth K Ca m f ∧ L2.Binds K fd ps [] ∧ FnOk P w K mg base (L2N.CX P w) k f fd ps (PSpY K mg C)
def ClY (P : Program) (w : World) (K : PySem.W.Frag) (mg : Str → Option Value) (base : Heap) (x : Str) (k : Nat) (C : CtY) : Prop :=
  ∃ ps f fd, mg x = some (.ref f) ∧ PySem.W.keepIn K (.ref f) = true ∧ L2.Binds K fd ps [] ∧ FnOk P w K mg base (L2N.CX P w) k f fd ps (PSpY K mg C)
end
section
variable {X : Cx} {W : XW} {k j i : Nat} {Ca : Addr} {Ct : CtY} {x m : Str} {p p1 p2 pos : Pos} {e : Expr} {es : List Expr} {da : DA}
def yTre (Ct : CtY) (i : Nat) (ds : List PyData) (a : Addr) (t : ST) (ρ : Sto) (τ : STau) (Q : PyData → Sto → STau → Prop) (Xd : Exn → Sto → STau → Prop) : Prop := ∃ n, τ[n]? = some (a, t) ∧
  Ct ds t (fun d t' => trIn (ρ.set i (.tr a t')) (τ.set n (a, t')) ∧ Q d (ρ.set i (.tr a t')) (τ.set n (a, t'))) (fun x t' => trIn (ρ.set i (.tr a t')) (τ.set n (a, t')) ∧ Xd x (ρ.set i (.tr a t')) (τ.set n (a, t')))
theorem sp_tree {G0 H0 G H : Hp} {σ : L2.St} {ρ : Sto} {τ : STau} {Qd : PyData → Sto → STau → Prop} {Xd : Exn → Sto → STau → Prop} {Q : VK} {t : ST} {a : Addr} {vs : List V} {ds : List PyData} (hw : W.1 = X.mg) (k : OkY X.K G0 H0 G H σ ρ τ) (hi : ρ[i]? = some (Slot.tr a t)) (rv : RpAll X.K G vs ds)
    (fn : ∀ G' H' v d ρ' τ', OkY X.K G0 H0 G' H' σ ρ' τ' → Rp X.K G' v d → Qd d ρ' τ' → Q v H') (xo : ∀ G' H' x cls d ρ' τ', OkY X.K G0 H0 G' H' σ ρ' τ' → ExcOk X.K W.1 G' H' x cls d → Xd x ρ' τ' → W.2 cls d σ H') (q : yTre Ct i ds a t ρ τ Qd Xd) : PSpY X.K X.mg Ct (V.ref a :: vs) H Q (WE W.2 σ) := by
  obtain ⟨n, hn, q⟩ := q
  obtain ⟨fp, k, tr, nd, fr, h0, ti⟩ := k
  obtain ⟨f1, fa, f2, rfl, ta, t1, t2⟩ := sr_split tr hn
  letI : ObjB := ⟨regH H (f1 ++ (fa ++ f2))⟩
  have nda := (List.nodup_append.mp (List.nodup_append.mp nd).2.1).1
  refine ⟨a, vs, G, t, fa, ds, _, _, rfl, k.gn, ta, nda, fun b hb => (fr b (by simp [hb])).2.2, k.tb, rv, q, fun d t' v H' r q => ?_, fun G' H' x cls d t' L e q => ?_⟩
  · obtain ⟨G', L, rv'⟩ := LocY.of r
    exact fn G' H' v d _ _ (okY_loc k t1 t2 ta nd fr h0 hi hn L q.1) rv' q.2
  · rw [← hw] at e
    exact xo G' H' x cls d _ _ (okY_loc k t1 t2 ta nd fr h0 hi hn L q.1) e q.2
def yMth (i : Nat) (Ca : Addr) (m : Str) (Ct : CtY) (da : DA) : DY := fun ρ τ Q Xd => ∃ a fs, ρ[i]? = some (Slot.tr a (.ins Ca fs)) ∧ noF fs m ∧ da ρ (fun ds => yTre Ct i ds a (.ins Ca fs) ρ τ Q Xd) (fun x => Xd x ρ τ)
@[simp] theorem s_yMth (i : Nat) (Ca : Addr) (m : Str) (Ct : CtY) (da : DA) (ρ : Sto) (τ : STau) (Q : PyData → Sto → STau → Prop) (Xd : Exn → Sto → STau → Prop) : yMth i Ca m Ct da ρ τ Q Xd ↔ ∃ a fs, ρ[i]? = some (Slot.tr a (.ins Ca fs)) ∧ noF fs m ∧ da ρ (fun ds => yTre Ct i ds a (.ins Ca fs) ρ τ Q Xd) (fun x => Xd x ρ τ) := Iff.rfl
theorem qy_mth {pl : Sem Bool} (c : MtY X.prog X.w X.K X.mg X.base Ca m j Ct) (hr : Room k X.A) (hj : j ≤ k) (tk : L2N.Takes X W.2) (hw : W.1 = X.mg) (ha : ∀ B : ObjB, QA X W (e :: es) da) (hN : X.N[i]? = some x := by rfl) (hv : Vis X.env.scope x := by first | exact Or.inl rfl | exact Or.inr (Or.inl rfl) | exact Or.inr (Or.inr rfl))
    (hst : starEach (e :: es) X.env = (false, eval e X.env) :: starEach es X.env := by rfl) (hpl : (backTo pos (starEach es X.env)).any (·.1) = false := by rfl)
    (ht : eval (.Call (.Attribute (.Name x p) m p1) (e :: es) [] pos) X.env = (eval (.Name x p) X.env >>= fun ov => standAt p1.atName >>= fun _ => holding [ov] (getMethod ov m pl) >>= fun fm => callWith pos fm.1 fm.2 (backTo pos (starEach (e :: es) X.env)) (backToKw pos (keywordEach [] X.env))) := by rfl)
    (hd : (x == ("__debug__" : Str)) = false := by decide) (hcd : (x == ("__classdict__" : Str)) = false := by decide) : QY X W (.Call (.Attribute (.Name x p) m p1) (e :: es) [] pos) (yMth i Ca m Ct da) := by
  obtain ⟨ps, f, fd, c1, c2, c3, c4⟩ := c
  refine PE.sub (pe_mthS (pl := pl) (pe_var hN hv hd hcd) c1 c2 c4 (hr.mono hj) c3 (fun σ => L2N.passAt tk σ) (PA.all ha) hst hpl ht) fun σ H Q h => ?_
  obtain ⟨G0, H0, G, ρ, τ, Qd, Xd, ⟨fp, k, tr, nd, fr, h0, ti⟩, ⟨a, fs, hi, hm, h⟩, fn, xo⟩ := h
  letI : ObjB := ⟨regH H fp⟩
  obtain ⟨dx, vs, fq, h1, h2, h3, h4⟩ := k.ins hi
  refine ⟨_, h1, a, dx, vs, rfl, h2, (sAtF_at h3).2 hm, ⟨regH H fp⟩, G, mixH H0 H fp, G, ρ, _, _, k.rebase, h, fun G1 H1 us ds k1 g1 rv q => ?_, fun G' H' x cls d k' g' e z => xo G' H' x cls d ρ τ (okY_keep k tr nd fr k' ti) e z⟩
  exact sp_tree hw (okY_keep k tr nd fr k1 ti) hi rv fn xo q
def yCl (i : Nat) (Ct : CtY) (da : DA) : DY := fun ρ τ Q Xd => ∃ a t, ρ[i]? = some (Slot.tr a t) ∧ da ρ (fun ds => yTre Ct i ds a t ρ τ Q Xd) (fun x => Xd x ρ τ)
@[simp] theorem s_yCl (i : Nat) (Ct : CtY) (da : DA) (ρ : Sto) (τ : STau) (Q : PyData → Sto → STau → Prop) (Xd : Exn → Sto → STau → Prop) : yCl i Ct da ρ τ Q Xd ↔ ∃ a t, ρ[i]? = some (Slot.tr a t) ∧ da ρ (fun ds => yTre Ct i ds a t ρ τ Q Xd) (fun x => Xd x ρ τ) := Iff.rfl
theorem qy_cl {y : Str} (c : ClY X.prog X.w X.K X.mg X.base y j Ct) (hr : Room k X.A) (hj : j ≤ k) (tk : L2N.Takes X W.2) (hw : W.1 = X.mg) (ha : ∀ B : ObjB, QA X W es da) (hN : X.N[i]? = some x := by rfl) (hv : Vis X.env.scope x := by first | exact Or.inl rfl | exact Or.inr (Or.inl rfl) | exact Or.inr (Or.inr rfl)) (hg : Gl X y := by rfl)
    (hdb : (y == ("__debug__" : Str)) = false := by decide) (he : starEach (.Name x p1 :: es) X.env = (false, eval (.Name x p1) X.env) :: starEach es X.env := by rfl) (hpl : (backTo pos (starEach es X.env)).any (·.1) = false := by rfl)
    (hd : (x == ("__debug__" : Str)) = false := by decide) (hcd : (x == ("__classdict__" : Str)) = false := by decide) : QY X W (.Call (.Name y p) (.Name x p1 :: es) [] pos) (yCl i Ct da) := by
  obtain ⟨ps, f, fd, c1, c2, c3, c4⟩ := c
  refine PE.sub (pe_callS c4 (hr.mono hj) hg c1 c2 c3 (fun σ => L2N.passAt tk σ) (pa_cons (pe_var hN hv hd hcd) (PA.all ha) he) hdb he hpl) fun σ H Q h => ?_
  obtain ⟨G0, H0, G, ρ, τ, Qd, Xd, ⟨fp, k, tr, nd, fr, h0, ti⟩, ⟨a, t, hi, h⟩, fn, xo⟩ := h
  letI : ObjB := ⟨regH H fp⟩
  obtain ⟨fq, h1, h2⟩ := k.tr i a t hi
  refine ⟨_, h1, ⟨regH H fp⟩, G, mixH H0 H fp, G, ρ, _, _, k.rebase, h, fun G1 H1 us ds k1 g1 rv q => ?_, fun G' H' x cls d k' g' e z => xo G' H' x cls d ρ τ (okY_keep k tr nd fr k' ti) e z⟩
  exact sp_tree hw (okY_keep k tr nd fr k1 ti) hi rv fn xo q
end
section
variable {P : Program} {w : World} {K : PySem.W.Frag} {mg : Str → Option Value} {base : Heap}
def ClM (P : Program) (w : World) (K : PySem.W.Frag) (mg : Str → Option Value) (base : Heap) (Ca : Addr) (x : Str) (k : Nat) (C : CtY) (n : Nat) (kn : Str) (v0 : V) : Prop :=
  ∃ ps f fd, Mk K Ca f ∧ mg x = some (.ref Ca) ∧ (∃ ds, Vals [v0] ds ∧ L2.Binds K fd ps ds) ∧ (∃ g, KBn K fd ps (n + 1) [kn] g (fun vs zs => vs ++ zs)) ∧ FnOk P w K mg base (L2N.CX P w) k f fd ps (PSpY K mg C)
end
section
variable {K : PySem.W.Frag} {G0 H0 G H G' H' : Hp} {σ σ' : L2.St} {ρ ρ' : Sto} {τ τ' : STau}
theorem okY_add {H2 : Hp} {y : Addr} {t' : ST} {fb : List Addr} (k : OkY K G0 H0 G H2 σ ρ τ) (gg : Same G G') (hh : Ex H2 H') (gn : Same G' (nt H')) (nw : ∀ a o, G' a = some o → G a = some o ∨ NS H2 a) (tb : SAt K G' H' (.ref y) t' fb) (nb : fb.Nodup) (frb : ∀ b ∈ fb, NF H2 b ∧ G b = none ∧ G' b = none) : OkY K G0 H0 G' H' σ ρ ((y, t') :: τ) := by
  obtain ⟨fp, k, tr, nd, fr, h0, ti⟩ := k
  letI : ObjB := ⟨regH H2 fp⟩
  have hn := sr_node tr
  have at_ : ∀ a ∈ fp, H' a = H2 a := fun a ha => by
    obtain ⟨o, e, n, _⟩ := hn a ha
    rw [e]
    exact hh.at e n
  have tr2 : SRoots K G' H' τ fp := sr_frame gg tr at_
  have trA : SRoots K G' H' ((y, t') :: τ) (fb ++ fp) := .cons tb tr2
  have hnA := sr_node trA
  have key : ∀ b ∈ fb, b ∉ fp ∧ NF H0 b := fun b hb => ⟨fun z => by
    obtain ⟨o, e, n, _⟩ := hn b z
    exact nf_no e n (frb b hb).1, h0.free (frb b hb).1⟩
  have g0n : ∀ b, G b = none → G0 b = none := fun b e => by
    cases q : G0 b with
    | none => rfl
    | some o => rw [k.g0 b o q] at e; cases e
  have gn' : ∀ b, Node H2 b → G b = none → G' b = none := fun b n e => by
    cases q : G' b with
    | none => rfl
    | some o =>
      rcases nw b o q with z | z
      · rw [e] at z; cases z
      · obtain ⟨u, e1, n1, _, n3⟩ := n
        exact (ns_no e1 n1 n3 z).elim
  have frA : ∀ b ∈ fb ++ fp, NF H0 b ∧ G0 b = none ∧ G' b = none := fun b hb => by
    rcases List.mem_append.mp hb with z | z
    · exact ⟨(key b z).2, g0n b (frb b z).2.1, (frb b z).2.2⟩
    · exact ⟨(fr b z).1, (fr b z).2.1, gn' b (hn b z) (fr b z).2.2⟩
  have ndA : (fb ++ fp).Nodup := by
    rw [List.nodup_append]
    exact ⟨nb, nd, fun b hb c hc z => by subst z; exact (key b hb).1 hc⟩
  have tb2 : LamX.Tabs TabC.T H' := hh.t k.tb
  have h0' : Ex H0 H' := h0.trans hh
  refine ⟨fb ++ fp, ?_, trA, ndA, frA, h0', fun i a t e => List.mem_cons_of_mem _ (ti i a t e)⟩
  refine @Ok.mk _ ⟨regH H' (fb ++ fp)⟩ _ _ _ _ _ _ _ gn (k.g0.trans gg) ⟨fun b o e => ?_, fun _ => tb2⟩ tb2 (fun b o e => ?_) k.len (fun c d e => ?_) (fun c o e => ?_) k.ap (fun c v x e => ?_) (fun c b u e => ?_) (fun b o e => ?_)
  · by_cases hb : b ∈ fb ++ fp
    · rw [nt_congr (mix_in hb)] at e; exact e
    · rw [nt_congr (mix_out hb)] at e
      exact h0'.s b o e
  · have hb : b ∉ fb ++ fp := fun z => by rw [(frA b z).2.2] at e; cases e
    rcases nw b o e with z | z
    · rcases k.nw b o z with y | y
      · exact .inl y
      · exact .inr (ns_mix' hb (ns_mix hn y).2)
    · exact .inr (ns_mix' hb (h0.freeS z))
  · obtain ⟨v, e1, e2⟩ := k.sh c d e
    exact ⟨v, e1, rp_mono gg e2⟩
  · obtain ⟨p, ho, e1, e2, e3, e4, e5⟩ := k.ow c o e
    obtain ⟨p1, p2⟩ := nf_mix hn e4
    refine ⟨p, ho, e1, hh.at e2 (hoOk_ntb e5), ?_, nf_mix' (fun z => ?_) p2, hoOk_mono gg e5⟩
    · cases q : G' p with
      | none => rfl
      | some u =>
        rcases nw p u q with z | z
        · rw [e3] at z; cases z
        · exact (ns_no e2 (hoOk_ntb e5) (hoOk_ntp e5) z).elim
    · rcases List.mem_append.mp z with y | y
      · exact nf_no e2 (hoOk_ntb e5) (frb p y).1
      · exact p1 y
  · obtain ⟨e1, e2⟩ := k.rw c v x e
    exact ⟨e1, fun q hq => let ⟨vs, z1, z2⟩ := e2 q hq; ⟨vs, gg _ _ z1, dpF_mono gg z2⟩⟩
  · obtain ⟨g, g1, g2⟩ := sr_mem tr2 (ti c b u e)
    exact ⟨g, (k.tr c b u e).choose_spec.1, sAt_frame (Same.refl _) g1 fun x hx => regH_in (List.mem_append.mpr (.inr (g2 x hx)))⟩
  · have q := same_reg hnA b o e
    by_cases hb : b ∈ fb ++ fp
    · rw [nt_congr (mix_in hb)]; exact q
    · have e' : (if b ∈ fb ++ fp then H' b else none) = some o := e
      rw [if_neg hb] at e'; cases e'
theorem okY_new {H2 : Hp} {y dy C : Addr} {t' : ST} (k : OkY K G0 H0 G H2 σ ρ τ) (hy : H2 y = none) (hdy : H2 dy = none) (L : LocY K G (upd (upd H2 dy (.own y)) y (.ins C dy [])) [y, dy] y t' G' H') : OkY K G0 H0 G' H' σ ρ ((y, t') :: τ) := by
  have em : minusH (upd (upd H2 dy (.own y)) y (.ins C dy [])) [y, dy] = H2 := by
    funext a
    by_cases z : a = y
    · subst z; exact (if_pos (by simp)).trans hy.symm
    by_cases z2 : a = dy
    · subst z2; exact (if_pos (by simp)).trans hdy.symm
    rw [minus_out (by simp [z, z2]), upd_ne z, upd_ne z2]
  obtain ⟨gg, hh, gn, nw, fb, tb, nb, frb⟩ := L
  rw [em] at hh nw frb
  exact okY_add k gg hh gn nw tb nb frb
theorem okY_setT {i : Nat} {y : Addr} {t' : ST} (k : OkY K G0 H0 G H σ ρ τ) (hm : (y, t') ∈ τ) (ti' : trIn (ρ.set i (.tr y t')) τ) : OkY K G0 H0 G H (σ.set i (some (.ref y))) (ρ.set i (.tr y t')) τ := by
  obtain ⟨fp, k, tr, nd, fr, h0, ti⟩ := k
  letI : ObjB := ⟨regH H fp⟩
  refine ⟨fp, ?_, tr, nd, fr, h0, ti'⟩
  have ks := k.setSh (i := i) (v := .non) (d := .none) .non
  have other : ∀ {b : Nat} {s : Slot}, (∀ u v, s ≠ .tr u v) → (ρ.set i (.tr y t'))[b]? = some s → i ≠ b ∧ ρ[b]? = some s := fun {b s} ns e => by
    rw [getElem_set_eq] at e
    by_cases z : i = b
    · rw [if_pos z] at e
      split at e
      · exact (ns y t' (Option.some.inj e).symm).elim
      · cases e
    · exact ⟨z, by rwa [if_neg z] at e⟩
  have sg : ∀ {b : Nat}, i ≠ b → (σ.set i (some (V.ref y)))[b]? = σ[b]? := fun {b} ne => by rw [getElem_set_eq, if_neg ne]
  refine ⟨k.gn, k.g0, k.h0, k.tb, k.nw, by rw [List.length_set, List.length_set]; exact k.len, fun c d e => ?_, fun c o e => ?_, fun c d o u b n e1 e2 => ?_, fun c v x e => ?_, fun c b u e => ?_, k.bB⟩
  · obtain ⟨n, e⟩ := other (fun _ _ z => by cases z) e
    rw [sg n]; exact k.sh c d e
  · obtain ⟨n, e⟩ := other (fun _ _ z => by cases z) e
    rw [sg n]; exact k.ow c o e
  · obtain ⟨n1, e1⟩ := other (fun _ _ z => by cases z) e1
    obtain ⟨n2, e2⟩ := other (fun _ _ z => by cases z) e2
    rw [sg n1, sg n2]; exact k.ap c d o u b n e1 e2
  · obtain ⟨n, e⟩ := other (fun _ _ z => by cases z) e
    rw [sg n]; exact k.rw c v x e
  · obtain ⟨g, g1, g2⟩ := sr_mem tr (ti' c b u e)
    refine ⟨g, ?_, sAt_frame (Same.refl _) g1 fun x hx => regH_in (g2 x hx)⟩
    rw [getElem_set_eq] at e ⊢
    by_cases z : i = c
    · rw [if_pos z] at e ⊢
      rw [k.len]
      split at e
      · rename_i hl
        cases e
        rw [if_pos hl]
      · cases e
    · rw [if_neg z] at e ⊢
      exact (k.tr c b u e).choose_spec.1
end
section
variable {X : Cx} {W : XW} {k j i n : Nat} {Ca : Addr} {Ct : CtY} {x y kn : Str} {p pos kpos : Pos} {v0 : V} {d0 : PyData} {e : Expr} {es : List Expr} {da : DA} {ke : Expr} {dk : DE}
def yNew (i : Nat) (Ca : Addr) (Ct : CtY) (ds : List PyData) (D : DEndsY) (ρ : Sto) (τ : STau) : Prop := ∀ y : Addr, Ct ds (.ins Ca []) (fun d t' => d = .none ∧ trIn (ρ.set i (.tr y t')) ((y, t') :: τ) ∧ D.nx (ρ.set i (.tr y t')) ((y, t') :: τ)) (fun x _ => D.ex x ρ τ)
theorem okY_dropT {K : PySem.W.Frag} {G0 H0 G H : Hp} {σ : L2.St} {ρ : Sto} {τ : STau} {a : Addr} {t : ST} (k : OkY K G0 H0 G H σ ρ ((a, t) :: τ)) (ti' : trIn ρ τ) : OkY K G0 H0 G H σ ρ τ := by
  obtain ⟨fp, k, tr, nd, fr, h0, ti⟩ := k
  cases tr with
  | cons x tr =>
    rename_i f fs
    letI : ObjB := ⟨regH H (f ++ fs)⟩
    have hn := sr_node tr
    have nds := (List.nodup_append.mp nd).2.1
    refine ⟨fs, ?_, tr, nds, fun b hb => fr b (by simp [hb]), h0, ti'⟩
    refine @Ok.mk _ ⟨regH H fs⟩ _ _ _ _ _ _ _ k.gn k.g0 ⟨fun b o e => ?_, fun _ => k.tb⟩ k.tb (fun b o e => ?_) k.len k.sh (fun c o e => ?_) k.ap k.rw (fun c b u e => ?_) (fun b o e => ?_)
    · by_cases hb : b ∈ fs
      · rw [nt_congr (mix_in hb)] at e; exact e
      · rw [nt_congr (mix_out hb)] at e
        exact h0.s b o e
    · have hb : b ∉ f ++ fs := fun z => by rw [(fr b z).2.2] at e; cases e
      rcases k.nw b o e with z | z
      · exact .inl z
      · exact .inr (ns_mix' (fun z => hb (by simp [z])) (ns_mix (sr_node (.cons x tr)) z).2)
    · obtain ⟨p, ho, e1, e2, e3, e4, e5⟩ := k.ow c o e
      obtain ⟨p1, p2⟩ := nf_mix (sr_node (.cons x tr)) e4
      exact ⟨p, ho, e1, e2, e3, nf_mix' (fun z => p1 (by simp [z])) p2, e5⟩
    · obtain ⟨g, g1, g2⟩ := sr_mem tr (ti' c b u e)
      exact ⟨g, (k.tr c b u e).choose_spec.1, sAt_frame (Same.refl _) g1 fun x hx => regH_in (g2 x hx)⟩
    · have q := same_reg hn b o e
      by_cases hb : b ∈ fs
      · rw [nt_congr (mix_in hb)]; exact q
      · have e' : (if b ∈ fs then H b else none) = some o := e
        rw [if_neg hb] at e'; cases e'
theorem sp_new {G0 H0 G H2 : Hp} {σ : L2.St} {ρ : Sto} {τ : STau} {Dd : DEndsY} {Q : VK} {a dx : Addr} {vs : List V} {ds : List PyData} (hw : W.1 = X.mg) (k : OkY X.K G0 H0 G H2 σ ρ τ) (rv : RpAll X.K G vs ds) (h1 : H2 a = none) (h2 : H2 dx = none) (ne : dx ≠ a)
    (nx : ∀ G' H' τ' y t', OkY X.K G0 H0 G' H' σ ρ τ' → (y, t') ∈ τ' → trIn (ρ.set i (.tr y t')) τ' → Dd.nx (ρ.set i (.tr y t')) τ' → Q (.ref y) H') (ex : XOkY X.K W G0 H0 Dd.ex) (q : yNew i Ca Ct ds Dd ρ τ) :
    PSpY X.K X.mg Ct (V.ref a :: vs) (upd (upd H2 dx (.own a)) a (.ins Ca dx [])) (fun v H3 => v = .non ∧ Q (.ref a) H3) (WE W.2 σ) := by
  have n1 : NTb (HO.own a) := fun _ z => by cases z
  have n2 : NTb (HO.ins Ca dx []) := fun _ z => by cases z
  have h1' : upd H2 dx (.own a) a = none := by rw [upd_ne (Ne.symm ne)]; exact h1
  have gr := (Gr.fresh (G := G) h2 n1).trans (Gr.fresh h1' n2)
  have g2 : Same G (nt H2) := k.base.2.1
  have ga : ∀ b, H2 b = none → G b = none := fun b e => by
    cases z : G b with
    | none => rfl
    | some o => rw [nt_some (g2 b o z)] at e; cases e
  refine ⟨a, vs, G, .ins Ca [], [a, dx], ds, _, _, rfl, g2.trans gr.hh.s, .ins (vs := []) (fp := []) upd_same ((upd_ne ne).trans upd_same) .nil, ?_, fun b hb => ?_, ?_, rv, q a, fun d t' v H' r q => ?_, fun G' H' x cls d t' L e q => ?_⟩
  · simp [Ne.symm ne]
  · rcases List.mem_cons.mp hb with rfl | hb
    · exact ga _ h1
    · rw [List.mem_singleton.mp hb]; exact ga _ h2
  · obtain ⟨fp, k, _⟩ := k
    letI : ObjB := ⟨regH H2 fp⟩
    exact gr.hh.t k.tb
  · obtain ⟨G', L, rv'⟩ := LocY.of r
    obtain ⟨rfl, q1, q2⟩ := q
    cases rv'
    exact ⟨rfl, nx G' H' _ a t' (okY_new k h1 h2 L) List.mem_cons_self q1 q2⟩
  · rw [← hw] at e
    exact ex G' H' σ ρ τ x cls d (okY_dropT (okY_new k h1 h2 L) k.ti) e q
theorem run_mkSD {CX : CXT} {k : Nat} {f Ca : Addr} {fd : FuncData} {ps : List Str} {sp : Sp} {E : L2.St → XK} {ds : List Value} {dvs : List V} {pins : List (Addr × Obj)} {σ : L2.St} {H : Hp} {s : Shared} {Q : VK} {us : List Value} {vs : List V} (M : Mk X.K Ca f) (F : FnOk X.prog X.w X.K X.mg X.base CX k f fd ps sp) (hr : Room (k + 1) X.A) (hb : L2.Binds X.K fd ps ds) (hd : Vals dvs ds)
    (hx : PassesAt CX X σ (E σ)) (I : Inv X pins σ H s) (r : Vals vs us)
    (h : ∀ y dy, H y = none → H dy = none → dy ≠ y → sp (.ref y :: (vs ++ dvs)) (upd (upd H dy (.own y)) y (.ins Ca dy [])) (fun v H2 => v = .non ∧ Q (.ref y) H2) (E σ)) : wpAny (model X.prog X.w) X.A (call (.ref Ca) us) (EP X pins σ Q) X.xe s := by
  have q0 := h (s.heap.objs.size + 1) s.heap.objs.size (I.hok.fresh (Nat.le_succ _)) (I.hok.fresh (Nat.le_refl _)) (Nat.ne_of_lt (Nat.lt_succ_self _))
  have J := Inv.made (C := Ca) I
  have r2 : Vals (V.ref (s.heap.objs.size + 1) :: (vs ++ dvs)) (Value.ref (s.heap.objs.size + 1) :: (us ++ ds)) := .cons rfl (r.append hd)
  have hl : (Value.ref (s.heap.objs.size + 1) :: us ++ ds).length = ps.length := by
    have e := r2.length
    rw [F.len _ _ _ _ q0] at e
    exact e.symm
  refine wpAny_call (make_map (f := f) I.kIn M.makes M.init (beq_iff_eq.mp M.fn) (codeAny_mono (F.run _ X.stack _ _ ⟨Value.ref (s.heap.objs.size + 1) :: us, []⟩ (Value.ref (s.heap.objs.size + 1) :: (us ++ ds)) _ _ (E σ) (hr.make Ca us [])
    (J.env0.make Ca us []) (hb _ (Value.ref (s.heap.objs.size + 1) :: us) J.kIn hl) r2 q0) fun rr s' hq => ?_))
  cases rr with
  | error e => exact hx pins _ _ e s' J hq
  | ok fl =>
    cases fl with
    | ret u =>
      obtain ⟨v, H', J3, rv, ev, q3⟩ := J.after hq
      subst ev
      exact ⟨rv, ⟨V.ref (s.heap.objs.size + 1), H', J3, rfl, q3⟩⟩
    | next => exact False.elim hq
    | brk => exact False.elim hq
    | cont => exact False.elim hq
def tMkSD (Ca : Addr) (sp : Sp) (dvs : List V) (E : L2.St → XK) (t : TA) : TE := fun σ H Q => t σ H fun vs H1 => ∀ y dy, H1 y = none → H1 dy = none → dy ≠ y → sp (.ref y :: (vs ++ dvs)) (upd (upd H1 dy (.own y)) y (.ins Ca dy [])) (fun v H2 => v = .non ∧ Q (.ref y) H2) (E σ)
theorem pe_mkSD {CX : CXT} {k : Nat} {f Ca : Addr} {fd : FuncData} {ps : List Str} {sp : Sp} {E : L2.St → XK} {ds : List Value} {dvs : List V} {x : Str} {p pos : Pos} {e : Expr} {es : List Expr} {t : TA} (M : Mk X.K Ca f) (F : FnOk X.prog X.w X.K X.mg X.base CX k f fd ps sp) (hr : Room (k + 1) X.A) (hg : Gl X x) (hm : X.mg x = some (.ref Ca)) (hb : L2.Binds X.K fd ps ds) (hd : Vals dvs ds) (hx : ∀ σ, PassesAt CX X σ (E σ))
    (ha : PA X (e :: es) t) (hdb : (x == ("__debug__" : Str)) = false) (he : starEach (e :: es) X.env = (false, eval e X.env) :: starEach es X.env) (hpl : (backTo pos (starEach es X.env)).any (·.1) = false) :
    PE X (.Call (.Name x p) (e :: es) [] pos) (tMkSD Ca sp dvs E t) := by
  refine ⟨fun pins s σ H Q I h => ?_⟩
  refine wpAny_Call_Name_kw (ld_glob I hg hm ?_ hdb)
  refine PySem.W.callWith_K (h₀ := X.base) I.ok.mod.kin M.kp (thn (ha.run pos pins s σ H _ I h) fun us s1 ⟨vs, H1, I1, r, q⟩ => ⟨I1.kIn, ?_⟩) he hpl
  exact run_mkSD M F hr hb hd (hx σ) I1 r q
def yMk (i : Nat) (Ca : Addr) (Ct : CtY) (n : Nat) (da : DA) (dk : DE) : DSY := fun D ρ τ => da ρ (fun ds => ds.length = n ∧ dk ρ (fun y => yNew i Ca Ct (ds ++ [y]) D ρ τ) (fun x => D.ex x ρ τ)) (fun x => D.ex x ρ τ)
@[simp] theorem s_yMk (i : Nat) (Ca : Addr) (Ct : CtY) (n : Nat) (da : DA) (dk : DE) (D : DEndsY) (ρ : Sto) (τ : STau) : yMk i Ca Ct n da dk D ρ τ ↔ da ρ (fun ds => ds.length = n ∧ dk ρ (fun y => yNew i Ca Ct (ds ++ [y]) D ρ τ) (fun x => D.ex x ρ τ)) (fun x => D.ex x ρ τ) := Iff.rfl
def yMkD (i : Nat) (Ca : Addr) (Ct : CtY) (d0 : Int) (da : DA) : DSY := fun D ρ τ => da ρ (fun ds => yNew i Ca Ct (ds ++ [.int d0]) D ρ τ) (fun x => D.ex x ρ τ)
@[simp] theorem s_yMkD (i : Nat) (Ca : Addr) (Ct : CtY) (d0 : Int) (da : DA) (D : DEndsY) (ρ : Sto) (τ : STau) : yMkD i Ca Ct d0 da D ρ τ ↔ da ρ (fun ds => yNew i Ca Ct (ds ++ [.int d0]) D ρ τ) (fun x => D.ex x ρ τ) := Iff.rfl
theorem new_nx {K : PySem.W.Frag} {G0 H0 : Hp} {σ : L2.St} {ρ : Sto} {D : Ends} {Dd : DEndsY} (nx : ∀ G' H' σ' ρ' τ', OkY K G0 H0 G' H' σ' ρ' τ' → Dd.nx ρ' τ' → D.nx σ' H') : ∀ G' H' τ' y t', OkY K G0 H0 G' H' σ ρ τ' → (y, t') ∈ τ' → trIn (ρ.set i (.tr y t')) τ' → Dd.nx (ρ.set i (.tr y t')) τ' → D.nx (σ.set i (some (.ref y))) H' :=
  fun G' H' τ' y t' k hm ti q => nx G' H' _ _ _ (okY_setT k hm ti) q
theorem qsy_mk {pos' spos : Pos} {c : Str} {m0 : Int} (cl : ClM X.prog X.w X.K X.mg X.base Ca c j Ct n kn (.int m0)) (hN' : X.N.Nodup) (hr : Room k X.A) (hj : j + 1 ≤ k) (tk : L2N.Takes X W.2) (hw : W.1 = X.mg) (ha : ∀ B : ObjB, QA X W (e :: es) da) (hkv : ∀ B : ObjB, QE X W ke dk) (hi : X.N[i]? = some x := by rfl) (hx : Loc X.env.scope x := by first | exact Or.inl rfl | exact Or.inr rfl) (hg : Gl X c := by rfl)
    (hall : (backToKw pos (keywordEach [⟨some kn, ke, kpos⟩] X.env)).all (·.1.isSome) = true := by rfl) (hks : (backToKw pos (keywordEach [⟨some kn, ke, kpos⟩] X.env)).filterMap (·.1) = [kn] := by rfl)
    (hdb : (c == ("__debug__" : Str)) = false := by decide) (he : starEach (e :: es) X.env = (false, eval e X.env) :: starEach es X.env := by rfl)
    (hpl : ((backTo pos (starEach (e :: es) X.env)).any (·.1) || (backToKw pos (keywordEach [⟨some kn, ke, kpos⟩] X.env)).any (·.1.isNone)) = false := by rfl)
    (hf : X.fn x = true ∨ X.env.scope.names.lookup x = some .local := by first | exact .inl rfl | exact .inr rfl | assumption) (hs : swapsWith (.Call (.Name c p) (e :: es) [⟨some kn, ke, kpos⟩] pos) (some (.Name x pos')) spos.line X.env = pure false := by rfl) :
    QSY X W (.Assign [.Name x pos'] (.Call (.Name c p) (e :: es) [⟨some kn, ke, kpos⟩] pos) spos) (yMk i Ca Ct n da dk) := by
  obtain ⟨ps, f, fd, c1, c2, _, ⟨g, c3⟩, c4⟩ := cl
  refine PS.sub (ps_set hN' hi hx (pe_mkS c1 c4 (hr.mono hj) hg c2 c3 (fun σ => L2N.passAt tk σ) (PA.all ha) (pk_cons (PE.all hkv) pk_nil) hall hks hdb he hpl) hs hf) fun D σ H h => ?_
  obtain ⟨G0, H0, G, ρ, τ, Dd, ⟨fp, k, tr, nd, fr, h0, ti⟩, h, nx, rt, bk, ct, ex⟩ := h
  letI : ObjB := ⟨regH H fp⟩
  refine ⟨⟨regH H fp⟩, G, mixH H0 H fp, G, ρ, _, _, k.rebase, h, fun G1 H1 vs ds k1 g1 rv q => ?_, fun G' H' x cls d k' g' e z => ex G' H' σ ρ τ x cls d (okY_keep k tr nd fr k' ti) e z⟩
  obtain ⟨hn, q⟩ := q
  refine ⟨⟨regH H fp⟩, G, mixH H0 H fp, G1, ρ, _, _, k1, q, fun G2 H2 y d k2 g2 ry q2 => ?_, fun G' H' x cls d k' g' e z => ex G' H' σ ρ τ x cls d (okY_keep k tr nd fr k' ti) e z⟩
  refine ⟨by rw [rpa_length rv]; exact hn, rfl, fun a dx h1 h2 n12 => ?_⟩
  exact sp_new (Q := fun x H1 => gName i x σ H1 D.nx) hw (okY_keep k tr nd fr k2 ti) (rpa_append (rpa_mono g2.gg rv) (.cons ry .nil)) h1 h2 n12 (new_nx nx) ex q2
theorem qsy_mkD {pos' spos : Pos} {c : Str} {m0 : Int} (cl : ClM X.prog X.w X.K X.mg X.base Ca c j Ct n kn (.int m0)) (hN' : X.N.Nodup) (hr : Room k X.A) (hj : j + 1 ≤ k) (tk : L2N.Takes X W.2) (hw : W.1 = X.mg) (ha : ∀ B : ObjB, QA X W (e :: es) da) (hi : X.N[i]? = some x := by rfl) (hx : Loc X.env.scope x := by first | exact Or.inl rfl | exact Or.inr rfl) (hg : Gl X c := by rfl)
    (hdb : (c == ("__debug__" : Str)) = false := by decide) (he : starEach (e :: es) X.env = (false, eval e X.env) :: starEach es X.env := by rfl) (hpl : (backTo pos (starEach es X.env)).any (·.1) = false := by rfl)
    (hs : swapsWith (.Call (.Name c p) (e :: es) [] pos) (some (.Name x pos')) spos.line X.env = pure false := by rfl) (hf : X.fn x = true ∨ X.env.scope.names.lookup x = some .local := by first | exact .inl rfl | exact .inr rfl | assumption) :
    QSY X W (.Assign [.Name x pos'] (.Call (.Name c p) (e :: es) [] pos) spos) (yMkD i Ca Ct m0 da) := by
  obtain ⟨ps, f, fd, c1, c2, ⟨ds0, hd0, c3⟩, _, c4⟩ := cl
  refine PS.sub (ps_set hN' hi hx (pe_mkSD c1 c4 (hr.mono hj) hg c2 c3 hd0 (fun σ => L2N.passAt tk σ) (PA.all ha) hdb he hpl) hs hf) fun D σ H h => ?_
  obtain ⟨G0, H0, G, ρ, τ, Dd, ⟨fp, k, tr, nd, fr, h0, ti⟩, h, nx, rt, bk, ct, ex⟩ := h
  letI : ObjB := ⟨regH H fp⟩
  refine ⟨⟨regH H fp⟩, G, mixH H0 H fp, G, ρ, _, _, k.rebase, h, fun G1 H1 vs ds k1 g1 rv q => ?_, fun G' H' x cls d k' g' e z => ex G' H' σ ρ τ x cls d (okY_keep k tr nd fr k' ti) e z⟩
  exact fun a dx h1 h2 n12 => sp_new (Q := fun x H1 => gName i x σ H1 D.nx) hw (okY_keep k tr nd fr k1 ti) (rpa_append rv (.cons (.int m0) .nil)) h1 h2 n12 (new_nx nx) ex q
end
end
end WH
namespace WH
open PySem PySem.Spec PyProof.Rows L2
def putS (f : Str) (t : ST) : List (Str × ST) → List (Str × ST)
  | [] => [(f, t)]
  | (g, x) :: r => if g = f then (g, t) :: r else (g, x) :: putS f t r
section
variable {K : PySem.W.Frag} {G H G' H' : Hp}
theorem sAtF_put {f : Str} {v : V} {t : ST} {g : List Addr} (hv : SAt K G H v t g) : ∀ {vs : List (Str × V)} {fs : List (Str × ST)} {fp : List Addr}, SAtF K G H vs fs fp → (fp ++ g).Nodup → ∃ fq, SAtF K G H (putF f v vs) (putS f t fs) fq ∧ fq.Nodup ∧ ∀ b ∈ fq, b ∈ fp ∨ b ∈ g
  | _, _, _, .nil, nd => ⟨g ++ [], .cons hv .nil, by rw [List.append_nil]; exact (List.nodup_append.mp nd).2.1, fun b hb => .inr (by simpa using hb)⟩
  | _, _, _, .cons (k := k) (f := f1) (fs := f2) a r, nd => by
    rw [List.append_assoc] at nd
    have n1 := List.nodup_append.mp nd
    have n2 := List.nodup_append.mp n1.2.1
    unfold putF putS
    by_cases h : k = f
    · rw [if_pos h, if_pos h]
      refine ⟨g ++ f2, .cons hv r, List.nodup_append.mpr ⟨n2.2.1, n2.1, fun b hb c hc z => n2.2.2 c hc b hb z.symm⟩, fun b hb => ?_⟩
      rcases List.mem_append.mp hb with z | z
      · exact .inr z
      · exact .inl (by simp [z])
    · rw [if_neg h, if_neg h]
      obtain ⟨fq, i1, i2, i3⟩ := sAtF_put (f := f) hv r n1.2.1
      refine ⟨f1 ++ fq, .cons a i1, List.nodup_append.mpr ⟨n1.1, i2, fun b hb c hc z => ?_⟩, fun b hb => ?_⟩
      · exact n1.2.2 b hb c (List.mem_append.mpr (i3 c hc)) z
      · rcases List.mem_append.mp hb with z | z
        · exact .inl (by simp [z])
        · rcases i3 b z with y | y
          · exact .inl (by simp [y])
          · exact .inr y
theorem sAtF_list {f : Str} {ds : List PyData} : ∀ {vs : List (Str × V)} {fs : List (Str × ST)} {fp : List Addr}, SAtF K G H vs fs fp → fp.Nodup → fs.lookup f = some (.dl ds) → ∃ l xs, vs.lookup f = some (.ref l) ∧ H l = some (.lst xs) ∧ RpAll K G xs ds ∧ l ∈ fp ∧
    ∀ G' H' ys ds', Same G G' → RpAll K G' ys ds' → H' l = some (.lst ys) → (∀ b ∈ fp, b ≠ l → H' b = H b) → SAtF K G' H' vs (putS f (.dl ds') fs) fp
  | _, _, _, .nil, _, e => nomatch e
  | _, _, _, .cons (k := k) (v := v) (f := f1) (fs := f2) a r, nd, e => by
    have n1 := List.nodup_append.mp nd
    rw [List.lookup_cons] at e ⊢
    unfold putS
    by_cases h : f = k
    · have hb : (f == k) = true := beq_iff_eq.mpr h
      rw [hb] at e ⊢
      cases e
      simp only [if_pos h.symm]
      cases a with
      | dl z q =>
        rename_i l xs
        refine ⟨l, xs, rfl, z, q, List.mem_append.mpr (.inl (List.mem_singleton.mpr rfl)), fun G' H' ys ds' gg ry hl ho => .cons (.dl hl ry) (sAtF_frame gg r fun b hb => ho b (by simp [hb]) fun z => ?_)⟩
        subst z
        exact n1.2.2 b (List.mem_singleton.mpr rfl) b hb rfl
    · have hb : (f == k) = false := beq_eq_false_iff_ne.mpr h
      rw [hb] at e ⊢
      have h' : ¬ k = f := fun z => h z.symm
      simp only [if_neg h']
      obtain ⟨l, xs, i1, i2, i3, i4, i5⟩ := sAtF_list (f := f) r n1.2.1 e
      refine ⟨l, xs, i1, i2, i3, List.mem_append.mpr (.inr i4), fun G' H' ys ds' gg ry hl ho => .cons (sAt_frame gg a fun b hb => ho b (by simp [hb]) fun z => ?_) (i5 G' H' ys ds' gg ry hl fun b hb ne => ho b (by simp [hb]) ne)⟩
      subst z
      exact n1.2.2 b hb b i4 rfl
end
variable [TabC]
section
variable {K : PySem.W.Frag} {G0 H0 G H G1 H1 G' H' : Hp} {σ σ' : L2.St} {ρ ρ' : Sto} {τ τ' : STau}
theorem locY_write {fa : List Addr} {a b : Addr} {o : HO} {t' : ST} (g1 : Gr G H G1 H1) (gn : Same G1 (nt H1)) (tb : LamX.Tabs TabC.T H1) (hn : ∀ b ∈ fa, Node H b) (out : ∀ b ∈ fa, G b = none) (hb : b ∈ fa) (no : NTb o) (fb : List Addr) (ht : SAt K G1 (upd H1 b o) (.ref a) t' fb) (nb : fb.Nodup)
    (hf : ∀ c ∈ fb, c ∈ fa ∨ (NF H c ∧ G c = none ∧ G1 c = none)) : LocY K G H fa a t' G1 (upd H1 b o) := by
  have out1 : ∀ c ∈ fa, G1 c = none := fun c hc => by
    obtain ⟨u, e, n, _, n3⟩ := hn c hc
    exact g1.out (out c hc) e n n3
  have hH1 : ∃ u, H1 b = some u ∧ NTb u ∧ (∀ f, u ≠ .ext f) := by
    obtain ⟨u, e, n, n2, n3⟩ := hn b hb
    exact ⟨u, g1.hh.at e n, n, n2⟩
  obtain ⟨u, eu, nu, nu2⟩ := hH1
  have tb2 : LamX.Tabs TabC.T (upd H1 b o) := tabs_mut tb eu nu nu2
  refine ⟨g1.gg, ⟨fun c w e => ?_, fun _ => tb2⟩, ?_, fun c w e => ?_, fb, ht, nb, fun c hc => ?_⟩
  · have ne : c ∉ fa := fun z => by
      rw [show nt (minusH H fa) c = none from nf_minusIn z] at e; cases e
    rw [nt_congr (minus_out ne)] at e
    rw [nt_upd no, upd_ne fun z => ne (by rw [z]; exact hb)]
    exact g1.hh.s c w e
  · rw [nt_upd no]
    exact same_mut gn (out1 b hb)
  · rcases g1.nw c w e with z | z
    · exact .inl z
    · by_cases hc : c ∈ fa
      · exact .inr (.inl (nf_minusIn hc))
      · refine .inr ?_
        unfold NS NF at z ⊢
        rw [nt_congr (minus_out hc), minus_out hc]
        exact z
  · rcases hf c hc with z | ⟨z1, z2, z3⟩
    · exact ⟨nf_minusIn z, out c z, out1 c z⟩
    · refine ⟨?_, z2, z3⟩
      by_cases hc : c ∈ fa
      · exact nf_minusIn hc
      · show nt (minusH H fa) c = none
        rw [nt_congr (minus_out hc)]
        exact z1
theorem locY_put {fa : List Addr} {a C dx : Addr} {f : Str} {vs : List (Str × V)} {fs : List (Str × ST)} {v : V} {t : ST} {g : List Addr} (g1 : Gr G H G1 H1) (gn : Same G1 (nt H1)) (tb : LamX.Tabs TabC.T H1) (ta : SAt K G H (.ref a) (.ins C fs) fa) (hA : H a = some (.ins C dx vs)) (nd : fa.Nodup) (out : ∀ b ∈ fa, G b = none)
    (hv : SAt K G1 H1 v t g) (ng : g.Nodup) (fg : ∀ c ∈ g, NF H c ∧ G c = none ∧ G1 c = none) : LocY K G H fa a (.ins C (putS f t fs)) G1 (upd H1 a (.ins C dx (putF f v vs))) := by
  have hn := sAt_node ta
  cases ta with
  | ins e1 e2 e3 =>
    rename_i dx' vs' fp
    rw [hA] at e1
    cases e1
    have nd0 := nd
    rw [List.nodup_cons, List.nodup_cons] at nd
    obtain ⟨na, nx, nf⟩ := nd
    have at_ : ∀ b ∈ a :: dx :: fp, H1 b = H b := fun b hb => by
      obtain ⟨u, e, n, _⟩ := hn b hb
      rw [e]
      exact g1.hh.at e n
    have e31 : SAtF K G1 H1 vs fs fp := sAtF_frame g1.gg e3 fun b hb => at_ b (by simp [hb])
    have gne : ∀ b ∈ a :: dx :: fp, b ∉ g := fun b hb z => by
      obtain ⟨u, e, n, _⟩ := hn b hb
      exact nf_no e n (fg b z).1
    obtain ⟨fq, q1, q2, q3⟩ := sAtF_put (f := f) hv e31 (List.nodup_append.mpr ⟨nf, ng, fun b hb c hc z => by subst z; exact gne b (by simp [hb]) hc⟩)
    have aq : a ∉ fq := fun z => by
      rcases q3 a z with y | y
      · exact na (List.mem_cons_of_mem _ y)
      · exact gne a (by simp) y
    have dq : dx ∉ fq := fun z => by
      rcases q3 dx z with y | y
      · exact nx y
      · exact gne dx (by simp) y
    have dna : dx ≠ a := fun z => na (by rw [z]; simp)
    refine locY_write g1 gn tb hn out (by simp) (fun _ z => by cases z) (a :: dx :: fq) (.ins upd_same ?_ ?_) ?_ fun c hc => ?_
    · rw [upd_ne dna, at_ dx (by simp)]; exact e2
    · exact sAtF_frame (Same.refl _) q1 fun b hb => upd_ne fun z => aq (by rw [← z]; exact hb)
    · rw [List.nodup_cons, List.nodup_cons]
      refine ⟨fun z => ?_, dq, q2⟩
      rcases List.mem_cons.mp z with y | y
      · exact dna y.symm
      · exact aq y
    · rcases List.mem_cons.mp hc with rfl | hc
      · exact .inl (by simp)
      rcases List.mem_cons.mp hc with rfl | hc
      · exact .inl (by simp)
      · rcases q3 c hc with y | y
        · exact .inl (by simp [y])
        · exact .inr (fg c y)
theorem locY_list {fa : List Addr} {a C dx : Addr} {f : Str} {vs : List (Str × V)} {fs : List (Str × ST)} {ds : List PyData} (gn : Same G (nt H)) (tb : LamX.Tabs TabC.T H) (ta : SAt K G H (.ref a) (.ins C fs) fa) (hA : H a = some (.ins C dx vs)) (nd : fa.Nodup) (out : ∀ b ∈ fa, G b = none) (hf : fs.lookup f = some (.dl ds)) :
    ∃ l xs, vs.lookup f = some (.ref l) ∧ H l = some (.lst xs) ∧ RpAll K G xs ds ∧ ∀ ys ds', RpAll K G ys ds' → LocY K G H fa a (.ins C (putS f (.dl ds') fs)) G (upd H l (.lst ys)) := by
  have hn := sAt_node ta
  cases ta with
  | ins e1 e2 e3 =>
    rename_i dx' vs' fp
    rw [hA] at e1
    cases e1
    have nd0 := nd
    rw [List.nodup_cons, List.nodup_cons] at nd
    obtain ⟨na, nx, nf⟩ := nd
    obtain ⟨l, xs, i1, i2, i3, i4, i5⟩ := sAtF_list e3 nf hf
    refine ⟨l, xs, i1, i2, i3, fun ys ds' ry => ?_⟩
    have la : a ≠ l := fun z => na (by rw [z]; exact List.mem_cons_of_mem _ i4)
    have ld : dx ≠ l := fun z => nx (by rw [z]; exact i4)
    refine locY_write Gr.refl gn tb hn out (by simp [i4]) ntb_lst (a :: dx :: fp) (.ins (vs := vs) ?_ ?_ ?_) nd0 fun c hc => .inl hc
    · rw [upd_ne la]; exact hA
    · rw [upd_ne ld]; exact e2
    · exact i5 G _ ys ds' (Same.refl _) ry upd_same fun b hb ne => upd_ne ne
abbrev newY (ρ : Sto) (τ : STau) (i n : Nat) (a : Addr) (t : ST) (Q : Sto → STau → Prop) : Prop := trIn (ρ.set i (.tr a t)) (τ.set n (a, t)) ∧ Q (ρ.set i (.tr a t)) (τ.set n (a, t))
theorem okY_put (k : OkY K G0 H0 G H σ ρ τ) {i n : Nat} {a C dx : Addr} {fs : List (Str × ST)} {vs : List (Str × V)} {f : Str} {v : V} {d : PyData} (hi : ρ[i]? = some (Slot.tr a (.ins C fs))) (hn : τ[n]? = some (a, .ins C fs)) (hA : H a = some (.ins C dx vs)) (r : Rp K G v d)
    (ti' : trIn (ρ.set i (.tr a (.ins C (putS f (.dat d) fs)))) (τ.set n (a, .ins C (putS f (.dat d) fs)))) : OkY K G0 H0 G (upd H a (.ins C dx (putF f v vs))) σ (ρ.set i (.tr a (.ins C (putS f (.dat d) fs)))) (τ.set n (a, .ins C (putS f (.dat d) fs))) := by
  obtain ⟨fp, k, tr, nd, fr, h0, ti⟩ := k
  obtain ⟨f1, fa, f2, rfl, ta, t1, t2⟩ := sr_split tr hn
  letI : ObjB := ⟨regH H (f1 ++ (fa ++ f2))⟩
  have nda := (List.nodup_append.mp (List.nodup_append.mp nd).2.1).1
  exact okY_loc k t1 t2 ta nd fr h0 hi hn (locY_put Gr.refl k.gn k.tb ta hA nda (fun b hb => (fr b (by simp [hb])).2.2) (.dat r) .nil fun _ h => nomatch h) ti'
theorem okY_list (k : OkY K G0 H0 G H σ ρ τ) {i n : Nat} {a C : Addr} {fs : List (Str × ST)} {f : Str} {ds : List PyData} (hi : ρ[i]? = some (Slot.tr a (.ins C fs))) (hn : τ[n]? = some (a, .ins C fs)) (hf : fs.lookup f = some (.dl ds)) :
    ∃ dx vs l xs, H a = some (.ins C dx vs) ∧ vs.lookup f = some (.ref l) ∧ H l = some (.lst xs) ∧ RpAll K G xs ds ∧ ∀ ys ds', RpAll K G ys ds' → trIn (ρ.set i (.tr a (.ins C (putS f (.dl ds') fs)))) (τ.set n (a, .ins C (putS f (.dl ds') fs))) →
      OkY K G0 H0 G (upd H l (.lst ys)) σ (ρ.set i (.tr a (.ins C (putS f (.dl ds') fs)))) (τ.set n (a, .ins C (putS f (.dl ds') fs))) := by
  have k0 := k
  obtain ⟨e1, dx, vs, hA, _⟩ := k.at hi
  obtain ⟨fp, k, tr, nd, fr, h0, ti⟩ := k
  obtain ⟨f1, fa, f2, rfl, ta, t1, t2⟩ := sr_split tr hn
  letI : ObjB := ⟨regH H (f1 ++ (fa ++ f2))⟩
  have nda := (List.nodup_append.mp (List.nodup_append.mp nd).2.1).1
  obtain ⟨l, xs, q1, q2, q3, q4⟩ := locY_list k.gn k.tb ta hA nda (fun b hb => (fr b (by simp [hb])).2.2) hf
  exact ⟨dx, vs, l, xs, hA, q1, q2, q3, fun ys ds' ry ti' => okY_loc k t1 t2 ta nd fr h0 hi hn (q4 ys ds' ry) ti'⟩
end
end WH
namespace WH
open PySem PySem.Spec PyProof.Rows L2
variable [TabC]
section
variable {X : Cx} {W : XW} {i : Nat} {C : Addr} {x f : Str} {e ie : Expr} {p p1 p2 p3 p4 pos pos' : Pos}
def yFldE (i : Nat) (C : Addr) (f : Str) (de : DE) : DSY := fun D ρ τ => ∃ a fs n, ρ[i]? = some (Slot.tr a (.ins C fs)) ∧ τ[n]? = some (a, .ins C fs) ∧ fs.length < 1000 ∧ de ρ (fun d => newY ρ τ i n a (.ins C (putS f (.dat d) fs)) D.nx) (fun x => D.ex x ρ τ)
@[simp] theorem s_yFldE (i : Nat) (C : Addr) (f : Str) (de : DE) (D : DEndsY) (ρ : Sto) (τ : STau) : yFldE i C f de D ρ τ ↔ ∃ a fs n, ρ[i]? = some (Slot.tr a (.ins C fs)) ∧ τ[n]? = some (a, .ins C fs) ∧ fs.length < 1000 ∧ de ρ (fun d => newY ρ τ i n a (.ins C (putS f (.dat d) fs)) D.nx) (fun x => D.ex x ρ τ) := Iff.rfl
theorem qsy_fld {de : DE} (c : Cls X.K C) (nf : NoAttr X.K C f) (he : ∀ B : ObjB, QE X W e de) (hN : X.N[i]? = some x := by rfl) (hv : Vis X.env.scope x := by first | exact Or.inl rfl | exact Or.inr (Or.inl rfl) | exact Or.inr (Or.inr rfl)) (hs : swapsWith e (some (.Attribute (.Name x p) f pos')) pos.line X.env = pure false := by rfl)
    (hd : (x == ("__debug__" : Str)) = false := by decide) (hcd : (x == ("__classdict__" : Str)) = false := by decide) : QSY X W (.Assign [.Attribute (.Name x p) f pos'] e pos) (yFldE i C f de) := PS.sub (ps_fld (pe_var hN hv hd hcd) (PE.all he) hs) fun D σ H h => by
  obtain ⟨G0, H0, G, ρ, τ, Dd, ⟨fp, k, tr, nd, fr, h0, ti⟩, ⟨a, fs, n, hi, hn, hl, h⟩, nx, rt, bk, ct, ex⟩ := h
  letI : ObjB := ⟨regH H fp⟩
  refine ⟨⟨regH H fp⟩, G, mixH H0 H fp, G, ρ, _, _, k.rebase, h, fun G1 H1 v d k1 g1 rv q => ?_, fun G' H' x cls d k' g' e z => ex G' H' σ ρ τ x cls d (okY_keep k tr nd fr k' ti) e z⟩
  have kT := okY_keep k tr nd fr k1 ti
  obtain ⟨e1, dx, vs, hA, hlen, _⟩ := kT.at hi
  refine ⟨_, e1, a, C, dx, vs, rfl, hA, c, nf, by omega, ?_⟩
  exact nx _ _ _ _ _ (okY_put kT hi hn hA rv q.1) q.2
def yFldO (i : Nat) (C : Addr) (f : Str) (dd : DO) : DSY := fun D ρ τ => ∃ a fs n, ρ[i]? = some (Slot.tr a (.ins C fs)) ∧ τ[n]? = some (a, .ins C fs) ∧ fs.length < 1000 ∧ dd ρ (fun o => ∃ ds, o = .lst ds ∧ newY ρ τ i n a (.ins C (putS f (.dl ds) fs)) D.nx) (fun x => D.ex x ρ τ)
@[simp] theorem s_yFldO (i : Nat) (C : Addr) (f : Str) (dd : DO) (D : DEndsY) (ρ : Sto) (τ : STau) : yFldO i C f dd D ρ τ ↔ ∃ a fs n, ρ[i]? = some (Slot.tr a (.ins C fs)) ∧ τ[n]? = some (a, .ins C fs) ∧ fs.length < 1000 ∧ dd ρ (fun o => ∃ ds, o = .lst ds ∧ newY ρ τ i n a (.ins C (putS f (.dl ds) fs)) D.nx) (fun x => D.ex x ρ τ) := Iff.rfl
theorem qsy_fldO {dd : DO} (c : Cls X.K C) (nf : NoAttr X.K C f) (he : ∀ B : ObjB, QO X W e dd) (hN : X.N[i]? = some x := by rfl) (hv : Vis X.env.scope x := by first | exact Or.inl rfl | exact Or.inr (Or.inl rfl) | exact Or.inr (Or.inr rfl)) (hs : swapsWith e (some (.Attribute (.Name x p) f pos')) pos.line X.env = pure false := by rfl)
    (hd : (x == ("__debug__" : Str)) = false := by decide) (hcd : (x == ("__classdict__" : Str)) = false := by decide) : QSY X W (.Assign [.Attribute (.Name x p) f pos'] e pos) (yFldO i C f dd) := PS.sub (ps_fld (pe_var hN hv hd hcd) (PE.all he) hs) fun D σ H h => by
  obtain ⟨G0, H0, G, ρ, τ, Dd, k0, ⟨a, fs, n, hi, hn, hl, h⟩, nx, rt, bk, ct, ex⟩ := h
  obtain ⟨e1, dx, vs, hA, hlen, _⟩ := k0.at hi
  obtain ⟨fp, k, tr, nd, fr, h0, ti⟩ := k0
  letI : ObjB := ⟨regH H fp⟩
  refine ⟨⟨regH H fp⟩, G, mixH H0 H fp, G, ρ, _, _, k.rebase, h, fun G1 H1 p ho o k1 g1 n1 n2 n3 n4 q => ?_, fun G' H' x cls d k' g' e z => ex G' H' σ ρ τ x cls d (okY_keep k tr nd fr k' ti) e z⟩
  obtain ⟨ds, rfl, q⟩ := q
  cases ho with
  | lst xs =>
    refine ⟨_, e1, a, C, dx, vs, rfl, g1.ins hA, c, nf, by omega, ?_⟩
    obtain ⟨f1, fa, f2, rfl, ta, t1, t2⟩ := sr_split tr hn
    have nda := (List.nodup_append.mp (List.nodup_append.mp nd).2.1).1
    have gp : G p = none := by
      cases z : G p with
      | none => rfl
      | some o => rw [g1.gg p o z] at n2; cases n2
    exact nx _ _ _ _ _ (okY_loc k t1 t2 ta nd fr h0 hi hn (locY_put g1 k1.gn k1.tb ta hA nda (fun b hb => (fr b (by simp [hb])).2.2) (.dl n3 n4) (by simp) fun c hc => by rw [List.mem_singleton.mp hc]; exact ⟨n1, gp, n2⟩) q.1) q.2
  | _ => exact n4.elim
def yFldApp (i : Nat) (C : Addr) (f : Str) (de : DE) : DSY := fun D ρ τ => ∃ a fs n ds, ρ[i]? = some (Slot.tr a (.ins C fs)) ∧ τ[n]? = some (a, .ins C fs) ∧ fs.lookup f = some (.dl ds) ∧ de ρ (fun d => ds.length < 100000 ∧ newY ρ τ i n a (.ins C (putS f (.dl (ds ++ [d])) fs)) D.nx) (fun x => D.ex x ρ τ)
@[simp] theorem s_yFldApp (i : Nat) (C : Addr) (f : Str) (de : DE) (D : DEndsY) (ρ : Sto) (τ : STau) : yFldApp i C f de D ρ τ ↔ ∃ a fs n ds, ρ[i]? = some (Slot.tr a (.ins C fs)) ∧ τ[n]? = some (a, .ins C fs) ∧ fs.lookup f = some (.dl ds) ∧ de ρ (fun d => ds.length < 100000 ∧ newY ρ τ i n a (.ins C (putS f (.dl (ds ++ [d])) fs)) D.nx) (fun x => D.ex x ρ τ) := Iff.rfl
theorem qsy_app {de : DE} (c : Cls X.K C) (nf : NoAttr X.K C f) (hp : PE X (.Call (.Attribute (.Attribute (.Name x p1) f p2) "append" p3) [e] [] p4) (tBM X.K "list" rAppend (tFld X.K (tVar i) f) (tCons (fun σ H Q => ∃ B, @upE _ B X.K W de σ H Q) tNil))) (hs : swapsWith (.Call (.Attribute (.Attribute (.Name x p1) f p2) "append" p3) [e] [] p4) none pos.line X.env = pure false := by rfl) :
    QSY X W (.Expr (.Call (.Attribute (.Attribute (.Name x p1) f p2) "append" p3) [e] [] p4) pos) (yFldApp i C f de) := PS.sub (ps_expr hp hs) fun D σ H h => by
  obtain ⟨G0, H0, G, ρ, τ, Dd, k0, ⟨a, fs, n, ds, hi, hn, hf, h⟩, nx, rt, bk, ct, ex⟩ := h
  obtain ⟨e1, _, _, _, _⟩ := k0.at hi
  obtain ⟨dx, vs, l, xs, hA, q1, q2, q3, q4⟩ := okY_list k0 hi hn hf
  obtain ⟨fp, k, tr, nd, fr, h0, ti⟩ := k0
  letI : ObjB := ⟨regH H fp⟩
  refine ⟨_, e1, a, C, dx, vs, .ref l, rfl, hA, c, nf, q1, tyV_own q2, ?_⟩
  refine ⟨⟨regH H fp⟩, G, mixH H0 H fp, G, ρ, _, _, k.rebase, h, fun G1 H1 v d k1 g1 rv q => ?_, fun G' H' x cls d k' g' e z => ex G' H' σ ρ τ x cls d (okY_keep k tr nd fr k' ti) e z⟩
  obtain ⟨dx', vs', l', xs', hA', r1, r2, r3, r4⟩ := okY_list (okY_keep k tr nd fr k1 ti) hi hn hf
  rw [g1.ins hA] at hA'
  cases hA'
  rw [q1] at r1
  cases r1
  exact ⟨l, xs', v, rfl, rfl, r2, sz_lt (by rw [rpa_length r3]; exact q.1), nx _ _ _ _ _ (r4 (xs' ++ [v]) (ds ++ [d]) (rpa_append r3 (.cons rv .nil)) q.2.1) q.2.2⟩
abbrev DGY := PyData → Sto → STau → (Sto → STau → Prop) → (Exn → Sto → STau → Prop) → Prop
def upGY (K : PySem.W.Frag) (W : XW) (dg : DGY) : TG := fun v σ H Q => ∃ G0 H0 G ρ τ d Qd Xd, OkY K G0 H0 G H σ ρ τ ∧ Rp K G v d ∧ dg d ρ τ Qd Xd ∧ (∀ G' H' σ' ρ' τ', OkY K G0 H0 G' H' σ' ρ' τ' → Same G G' → Qd ρ' τ' → Q σ' H') ∧ XOkY K W G0 H0 Xd
def QGY (X : Cx) (W : XW) (tg : Expr) (dg : DGY) : Prop := PG X tg (upGY X.K W dg)
def gyN (i : Nat) : DGY := fun d ρ τ Q _ => trIn (ρ.set i (.sh d)) τ ∧ Q (ρ.set i (.sh d)) τ
@[simp] theorem s_gyN (i : Nat) (d : PyData) (ρ : Sto) (τ : STau) (Q : Sto → STau → Prop) (Xd : Exn → Sto → STau → Prop) : gyN i d ρ τ Q Xd ↔ trIn (ρ.set i (.sh d)) τ ∧ Q (ρ.set i (.sh d)) τ := Iff.rfl
theorem qgy_name (hN : X.N.Nodup) (hi : X.N[i]? = some x := by rfl) (hx : Loc X.env.scope x := by first | exact Or.inl rfl | exact Or.inr rfl) (hf : X.fn x = true ∨ X.env.scope.names.lookup x = some .local := by first | exact .inl rfl | exact .inr rfl | assumption) : QGY X W (.Name x pos) (gyN i) :=
  PG.sub (pg_name hN hi hx hf) fun v σ H Q h => by
  obtain ⟨G0, H0, G, ρ, τ, d, Qd, Xd, k, rv, h, fn, xo⟩ := h
  exact fn _ _ _ _ _ (okY_set k rv h.1) (Same.refl _) h.2
def gyF (i : Nat) (C : Addr) (f : Str) (di : DE) : DGY := fun d ρ τ Q Xd => ∃ a fs n ds, ρ[i]? = some (Slot.tr a (.ins C fs)) ∧ τ[n]? = some (a, .ins C fs) ∧ fs.lookup f = some (.dl ds) ∧ di ρ (fun iv => ∃ k j, iv = .int k ∧ ixN ds.length k = some j ∧ newY ρ τ i n a (.ins C (putS f (.dl (ds.set j d)) fs)) Q) (fun x => Xd x ρ τ)
@[simp] theorem s_gyF (i : Nat) (C : Addr) (f : Str) (di : DE) (d : PyData) (ρ : Sto) (τ : STau) (Q : Sto → STau → Prop) (Xd : Exn → Sto → STau → Prop) : gyF i C f di d ρ τ Q Xd ↔ ∃ a fs n ds, ρ[i]? = some (Slot.tr a (.ins C fs)) ∧ τ[n]? = some (a, .ins C fs) ∧ fs.lookup f = some (.dl ds) ∧ di ρ (fun iv => ∃ k j, iv = .int k ∧ ixN ds.length k = some j ∧ newY ρ τ i n a (.ins C (putS f (.dl (ds.set j d)) fs)) Q) (fun x => Xd x ρ τ) := Iff.rfl
theorem qgy_fld {di : DE} (c : Cls X.K C) (nf : NoAttr X.K C f) (hp : PG X (.Subscript (.Attribute (.Name x p1) f p2) ie pos) (gSub (tFld X.K (tVar i) f) (fun σ H Q => ∃ B, @upE _ B X.K W di σ H Q) rSetL)) : QGY X W (.Subscript (.Attribute (.Name x p1) f p2) ie pos) (gyF i C f di) :=
  PG.sub hp fun v σ H Q h => by
  obtain ⟨G0, H0, G, ρ, τ, d, Qd, Xd, k0, rv, ⟨a, fs, n, ds, hi, hn, hf, h⟩, fn, xo⟩ := h
  obtain ⟨e1, _, _, _, _⟩ := k0.at hi
  obtain ⟨dx, vs, l, xs, hA, q1, q2, q3, q4⟩ := okY_list k0 hi hn hf
  obtain ⟨fp, k, tr, nd, fr, h0, ti⟩ := k0
  letI : ObjB := ⟨regH H fp⟩
  refine ⟨_, e1, a, C, dx, vs, .ref l, rfl, hA, c, nf, q1, ?_⟩
  refine ⟨⟨regH H fp⟩, G, mixH H0 H fp, G, ρ, _, _, k.rebase, h, fun G1 H1 iv d1 k1 g1 ri q => ?_, fun G' H' x cls d k' g' e z => xo G' H' σ ρ τ x cls d (okY_keep k tr nd fr k' ti) e z⟩
  obtain ⟨m, j, rfl, hj, q⟩ := q
  cases ri
  obtain ⟨dx', vs', l', xs', hA', r1, r2, r3, r4⟩ := okY_list (okY_keep k tr nd fr k1 ti) hi hn hf
  rw [g1.ins hA] at hA'
  cases hA'
  rw [q1] at r1
  cases r1
  exact ⟨l, xs', m, j, rfl, rfl, r2, by rw [rpa_length r3]; exact hj, fn _ _ _ _ _ (r4 (xs'.set j v) (ds.set j d) (rpa_set j (rp_mono g1.gg rv) r3) q.1) g1.gg q.2⟩
abbrev DGsY := List PyData → Sto → STau → (Sto → STau → Prop) → (Exn → Sto → STau → Prop) → Prop
def upGsY (K : PySem.W.Frag) (W : XW) (dg : DGsY) : TGs := fun us σ H Q => ∃ G0 H0 G ρ τ ds Qd Xd, OkY K G0 H0 G H σ ρ τ ∧ RpAll K G us ds ∧ dg ds ρ τ Qd Xd ∧ (∀ G' H' σ' ρ' τ', OkY K G0 H0 G' H' σ' ρ' τ' → Same G G' → Qd ρ' τ' → Q σ' H') ∧ XOkY K W G0 H0 Xd
def QGsY (X : Cx) (W : XW) (tg : List Expr) (dg : DGsY) : Prop := PGs X tg (upGsY X.K W dg)
def gysNil : DGsY := fun ds ρ τ Q _ => ds = [] ∧ Q ρ τ
@[simp] theorem s_gysNil (ds : List PyData) (ρ : Sto) (τ : STau) (Q : Sto → STau → Prop) (Xd : Exn → Sto → STau → Prop) : gysNil ds ρ τ Q Xd ↔ ds = [] ∧ Q ρ τ := Iff.rfl
def gysCons (g : DGY) (gs : DGsY) : DGsY := fun ds ρ τ Q Xd => ∃ d r, ds = d :: r ∧ g d ρ τ (fun ρ' τ' => gs r ρ' τ' Q Xd) Xd
@[simp] theorem s_gysCons (g : DGY) (gs : DGsY) (ds : List PyData) (ρ : Sto) (τ : STau) (Q : Sto → STau → Prop) (Xd : Exn → Sto → STau → Prop) : gysCons g gs ds ρ τ Q Xd ↔ ∃ d r, ds = d :: r ∧ g d ρ τ (fun ρ' τ' => gs r ρ' τ' Q Xd) Xd := Iff.rfl
theorem qgsy_nil : QGsY X W [] gysNil := PGs.sub pgs_nil fun us σ H Q h => by
  obtain ⟨G0, H0, G, ρ, τ, ds, Qd, Xd, k, rv, ⟨rfl, h⟩, fn, xo⟩ := h
  cases rv
  exact ⟨rfl, fn _ _ _ _ _ k (Same.refl _) h⟩
theorem qgsy_cons {e : Expr} {es : List Expr} {g : DGY} {gs : DGsY} (h1 : QGY X W e g) (h2 : QGsY X W es gs) (hs : (assignEach (e :: es) X.env).map (·.2) = assign e X.env :: (assignEach es X.env).map (·.2) := by rfl) : QGsY X W (e :: es) (gysCons g gs) :=
  PGs.sub (pgs_cons h1 h2 hs) fun us σ H Q h => by
  obtain ⟨G0, H0, G, ρ, τ, ds, Qd, Xd, k, rv, ⟨d, r, rfl, h⟩, fn, xo⟩ := h
  cases rv with
  | cons r1 r2 =>
    exact ⟨_, _, rfl, G0, H0, G, ρ, τ, d, _, Xd, k, r1, h, fun G1 H1 σ1 ρ1 τ1 k1 g1 h1 => ⟨G0, H0, G1, ρ1, τ1, r, Qd, Xd, k1, rpa_mono g1 r2, h1, fun G2 H2 σ2 ρ2 τ2 k2 g2 q => fn G2 H2 σ2 ρ2 τ2 k2 (g1.trans g2) q, xo⟩, xo⟩
def gyT (n : Nat) (gs : DGsY) : DGY := fun d ρ τ Q Xd => ∃ ds, d = .tuple ds ∧ ds.length = n ∧ gs ds ρ τ Q Xd
@[simp] theorem s_gyT (n : Nat) (gs : DGsY) (d : PyData) (ρ : Sto) (τ : STau) (Q : Sto → STau → Prop) (Xd : Exn → Sto → STau → Prop) : gyT n gs d ρ τ Q Xd ↔ ∃ ds, d = .tuple ds ∧ ds.length = n ∧ gs ds ρ τ Q Xd := Iff.rfl
theorem qgy_tup {es : List Expr} {kk : Nat} {pos : Pos} {gs : DGsY} {n : Nat} (hc : X.calm = true) (h : QGsY X W es gs) (hn : (assignEach es X.env).length = n := by rfl) (hst : (assignEach es X.env).findIdx? (·.1) = none := by rfl) : QGY X W (.Tuple es kk pos) (gyT n gs) :=
  PG.sub (pg_tup hc h hn hst) fun v σ H Q h => by
  obtain ⟨G0, H0, G, ρ, τ, d, Qd, Xd, k, rv, ⟨ds, rfl, hl, h⟩, fn, xo⟩ := h
  cases rv with
  | tup s1 s2 => exact ⟨_, _, rfl, sqT_mono k.gh s1.t, (rpa_length s2).trans hl, G0, H0, G, ρ, τ, ds, Qd, Xd, k, s2, h, fn, xo⟩
def yAsgG (dy : DY) (dg : DGY) : DSY := fun D ρ τ => dy ρ τ (fun d ρ' τ' => dg d ρ' τ' D.nx D.ex) D.ex
@[simp] theorem s_yAsgG (dy : DY) (dg : DGY) (D : DEndsY) (ρ : Sto) (τ : STau) : yAsgG dy dg D ρ τ ↔ dy ρ τ (fun d ρ' τ' => dg d ρ' τ' D.nx D.ex) D.ex := Iff.rfl
theorem qsy_asg {tg e : Expr} {dy : DY} {dg : DGY} {pos : Pos} (he : QY X W e dy) (hg : QGY X W tg dg) (hs : swapsWithSole [tg] e pos.line X.env = pure false := by rfl) (hw : swappedStores [tg] e X.env = pure none := by rfl)
    (h1 : (assignEach [tg] X.env).map (·.2) = [assign tg X.env] := by rfl) : QSY X W (.Assign [tg] e pos) (yAsgG dy dg) := PS.sub (ps_asg he hg hs hw h1) fun D σ H h => by
  obtain ⟨G0, H0, G, ρ, τ, Dd, k, h, nx, rt, bk, ct, ex⟩ := h
  exact ⟨G0, H0, G, ρ, τ, _, Dd.ex, k, h, fun G1 H1 v d ρ1 τ1 k1 rv q => ⟨G0, H0, G1, ρ1, τ1, d, Dd.nx, Dd.ex, k1, rv, q, fun G' H' σ' ρ' τ' k' _ q => nx G' H' σ' ρ' τ' k' q, ex⟩, fun G' H' x cls d ρ' τ' k' e z => ex G' H' σ ρ' τ' x cls d k' e z⟩
def rGetL : V → V → Hp → VK → Prop := fun o i H Q => ∃ p xs k j y, o = .ref p ∧ i = .int k ∧ 0 ≤ k ∧ H p = some (.lst xs) ∧ ixN xs.length k = some j ∧ xs[j]? = some y ∧ Q y H
omit [TabC] in
theorem get_list : PGet X rGetL := by
  intro pins s σ H o i ov iv Q I ro ri h
  obtain ⟨p, xs, k, j, y, rfl, rfl, h0, hp, hj, hy, q⟩ := h
  cases ro
  obtain ⟨t, rfl⟩ := ri
  obtain ⟨its, n, r, ho, hz⟩ := I.lst hp
  obtain ⟨h1, h2, h3, h4⟩ := ixN_seq hj
  have hn := line63
  have hk : k.toNat = j := by
    rw [seqIndex_of h0 h4] at h1
    exact Option.some.inj h1
  obtain ⟨u, hu, ru⟩ := r.get hy
  exact getItem_listL (l := its) ⟨_, ho, rfl, _, rfl⟩ h0 (by omega) (by rw [hk]; exact hu) ⟨y, H, I, ru, q⟩
def yAugF (i : Nat) (C : Addr) (f : Str) (di de : DE) (op : Int → Int → Int) : DSY := fun D ρ τ => ∃ a fs n ds, ρ[i]? = some (Slot.tr a (.ins C fs)) ∧ τ[n]? = some (a, .ins C fs) ∧ fs.lookup f = some (.dl ds) ∧
  di ρ (fun iv => ∃ k j m, iv = .int k ∧ 0 ≤ k ∧ ixN ds.length k = some j ∧ ds[j]? = some (.int m) ∧ de ρ (fun y => ∃ r, y = .int r ∧ newY ρ τ i n a (.ins C (putS f (.dl (ds.set j (.int (op m r)))) fs)) D.nx) (fun x => D.ex x ρ τ)) (fun x => D.ex x ρ τ)
@[simp] theorem s_yAugF (i : Nat) (C : Addr) (f : Str) (di de : DE) (op : Int → Int → Int) (D : DEndsY) (ρ : Sto) (τ : STau) : yAugF i C f di de op D ρ τ ↔ ∃ a fs n ds, ρ[i]? = some (Slot.tr a (.ins C fs)) ∧ τ[n]? = some (a, .ins C fs) ∧ fs.lookup f = some (.dl ds) ∧
  di ρ (fun iv => ∃ k j m, iv = .int k ∧ 0 ≤ k ∧ ixN ds.length k = some j ∧ ds[j]? = some (.int m) ∧ de ρ (fun y => ∃ r, y = .int r ∧ newY ρ τ i n a (.ins C (putS f (.dl (ds.set j (.int (op m r)))) fs)) D.nx) (fun x => D.ex x ρ τ)) (fun x => D.ex x ρ τ) := Iff.rfl
theorem qsy_aug {di de : DE} {op : Operator} {o : Int → Int → Int} {tpos : Pos} (c : Cls X.K C) (nf : NoAttr X.K C f) (hp : PS X (.AugAssign (.Subscript (.Attribute (.Name x p1) f p2) ie tpos) op e pos) (tAugS (tFld X.K (tVar i) f) (fun σ H Q => ∃ B, @upE _ B X.K W di σ H Q) (fun σ H Q => ∃ B, @upE _ B X.K W de σ H Q) rGetL (ipI o) rSetL)) :
    QSY X W (.AugAssign (.Subscript (.Attribute (.Name x p1) f p2) ie tpos) op e pos) (yAugF i C f di de o) := PS.sub hp fun D σ H h => by
  obtain ⟨G0, H0, G, ρ, τ, Dd, k0, ⟨a, fs, n, ds, hi, hn, hf, h⟩, nx, rt, bk, ct, ex⟩ := h
  obtain ⟨e1, _, _, _, _⟩ := k0.at hi
  obtain ⟨dx, vs, l, xs, hA, q1, q2, q3, q4⟩ := okY_list k0 hi hn hf
  obtain ⟨fp, k, tr, nd, fr, h0, ti⟩ := k0
  letI : ObjB := ⟨regH H fp⟩
  refine ⟨_, e1, a, C, dx, vs, .ref l, rfl, hA, c, nf, q1, ?_⟩
  refine ⟨⟨regH H fp⟩, G, mixH H0 H fp, G, ρ, _, _, k.rebase, h, fun G1 H1 iv d1 k1 g1 ri q => ?_, fun G' H' x cls d k' g' e z => ex G' H' σ ρ τ x cls d (okY_keep k tr nd fr k' ti) e z⟩
  obtain ⟨m, j, v0, rfl, hm, hj, hv, q⟩ := q
  cases ri
  obtain ⟨dx', vs', l', xs', hA', r1, r2, r3, r4⟩ := okY_list (okY_keep k tr nd fr k1 ti) hi hn hf
  rw [g1.ins hA] at hA'
  cases hA'
  rw [q1] at r1
  cases r1
  obtain ⟨y, hy, ry⟩ := rpa_get r3 hv
  cases ry
  refine ⟨l, xs', m, j, _, rfl, rfl, hm, r2, by rw [rpa_length r3]; exact hj, hy, ?_⟩
  refine ⟨⟨regH H fp⟩, G, mixH H0 H fp, G1, ρ, _, _, k1, q, fun G2 H2 w d2 k2 g2 rw2 q => ?_, fun G' H' x cls d k' g' e z => ex G' H' σ ρ τ x cls d (okY_keep k tr nd fr k' ti) e z⟩
  obtain ⟨r, rfl, q⟩ := q
  cases rw2
  obtain ⟨dx', vs', l', xs2, hA', s1, s2, s3, s4⟩ := okY_list (okY_keep k tr nd fr k2 ti) hi hn hf
  rw [g2.ins (g1.ins hA)] at hA'
  cases hA'
  rw [q1] at s1
  cases s1
  exact ⟨v0, r, rfl, rfl, l, xs2, m, j, rfl, rfl, s2, by rw [rpa_length s3]; exact hj, nx _ _ _ _ _ (s4 _ (ds.set j (.int (o v0 r))) (rpa_set j (.int _) s3) q.1) q.2⟩
end
end WH
namespace WH
open PySem PySem.Spec PyProof.Rows L2
@[simp] theorem ex_tr {α β : Type} (a : α) (b : β) (P : α → β → Prop) : (∃ x y, (a = x ∧ b = y) ∧ P x y) ↔ P a b := ⟨fun ⟨_, _, ⟨rfl, rfl⟩, h⟩ => h, fun h => ⟨a, b, ⟨rfl, rfl⟩, h⟩⟩
@[simp] theorem ex_tr2 {α β : Type} (a : α) (b : β) : (∃ x y, (a = x ∧ b = y)) ↔ True := ⟨fun _ => trivial, fun _ => ⟨a, b, rfl, rfl⟩⟩
@[simp] theorem ex_tr3 {α β : Type} (a : α) (b : β) (P : α → β → Prop) : (∃ x y, (a = x ∧ y = b) ∧ P x y) ↔ P a b := ⟨fun ⟨_, _, ⟨rfl, rfl⟩, h⟩ => h, fun h => ⟨a, b, ⟨rfl, rfl⟩, h⟩⟩
@[simp] theorem s_xd [TabC] (D : DEnds) (ρ : Sto) (x : Exn) : D.xd ρ x ↔ D.ex x ρ := Iff.rfl
def KpQ (d : DS) (n : List Str) (C : CtQ) : Prop := ∀ ds a t R Xd, C ds t R Xd → d { nx := fun _ => R (.sh .none), rt := R, ex := fun x _ => Xd x } (.tr a t :: st0 (n.drop 1) ds)
def KpY (d : DSY) (n : List Str) (C : CtY) : Prop := ∀ ds a t R Xd, C ds t R Xd → d { nx := fun _ τ => ∃ t', τ = [(a, t')] ∧ R .none t', rt := fun d τ => ∃ t', τ = [(a, t')] ∧ R d t', ex := fun x _ τ => ∃ t', τ = [(a, t')] ∧ Xd x t' } (.tr a t :: st0 (n.drop 1) ds) [(a, t)]
def KpP (d : DSY) (n : List Str) (C : Ct) : Prop := ∀ ds R Xd, C ds R Xd → d { nx := fun _ _ => R (.sh .none), rt := fun d _ => R (.sh d), ex := fun x _ _ => Xd x } (st0 n ds) []
end WH
namespace WH
open PySem PySem.Spec PyProof.Rows L2 L2H LamX
theorem putK_new {k : Key} {v : V} {acc : List (Key × V)} (h : ∀ q ∈ acc, q.1 ≠ k) : putK acc k v = acc ++ [(k, v)] := by
  unfold putK
  rw [if_neg (by simp; exact fun x hx => h (k, x) hx rfl)]
theorem mergeK_new : ∀ {more acc : List (Key × V)}, ((acc ++ more).map (·.1)).Nodup → mergeK acc more = acc ++ more
  | [], acc, _ => by simp [mergeK]
  | q :: more, acc, h => by
    show mergeK (putK acc q.1 q.2) more = _
    rw [putK_new fun r hr e => ?_, mergeK_new (by simpa using h)]
    · simp
    · rw [List.map_append, List.nodup_append] at h
      exact h.2.2 r.1 (List.mem_map.mpr ⟨r, hr, rfl⟩) q.1 (by simp) e
section
variable [TabC] [ObjB]
variable {X : Cx} {W : XW}
def pairsS : List Str → List V → List (V × V)
  | k :: ks, v :: vs => (.str k, v) :: pairsS ks vs
  | _, _ => []
def upPr (K : PySem.W.Frag) (W : XW) (ks : List Str) (da : DA) (σ : L2.St) (H : Hp) (Q : List (V × V) → Hp → Prop) : Prop := ∃ G0 H0 G ρ Qd Xd, Ok K G0 H0 G H σ ρ ∧ da ρ Qd Xd ∧ (∀ G' H' vs ds, Ok K G0 H0 G' H' σ ρ → Gr G H G' H' → RpAll K G' vs ds → Qd ds → vs.length = ks.length → Q (pairsS ks vs) H') ∧ XOk K W G0 H0 G H σ ρ Xd
def QPs (X : Cx) (W : XW) (pos : Pos) (keys : List (Option Expr)) (values : List Expr) (ks : List Str) (da : DA) : Prop := ∃ trs, PPs X pos keys values trs ∧ ∀ σ H Q, upPr X.K W ks da σ H Q → tPairs trs σ H Q
theorem qps_nil {pos : Pos} : QPs X W pos [] [] [] dNil := ⟨_, pps_nil, fun σ H Q h => by
  obtain ⟨G0, H0, G, ρ, Qd, Xd, k, h, fn, xo⟩ := h
  exact fn G H [] [] k Gr.refl .nil h rfl⟩
theorem qps_cons {pos kp : Pos} {x : Str} {j : Nat} {v : Expr} {keys : List (Option Expr)} {values : List Expr} {ks : List Str} {dv : DE} {da : DA} (hv : QE X W v dv) (hr : QPs X W pos keys values ks da) : QPs X W pos (some (.Constant (.str x) j kp) :: keys) (v :: values) (x :: ks) (dCons dv da) := by
  obtain ⟨trs, hp, hq⟩ := hr
  refine ⟨_, pps_cons pe_str hv hp, fun σ H Q h => ?_⟩
  obtain ⟨G0, H0, G, ρ, Qd, Xd, k, h, fn, xo⟩ := h
  exact ⟨G0, H0, G, ρ, _, Xd, k, h, fun G1 H1 y d k1 g1 ry q => hq _ _ _ ⟨G0, H0, G1, ρ, _, Xd, k1, q, fun G2 H2 vs ds k2 g2 rv q2 hl => fn G2 H2 (y :: vs) (d :: ds) k2 (g1.trans g2) (.cons (rp_mono g2.gg ry) rv) q2 (by simp [hl]), xo.mono g1⟩, xo⟩
def keyS (ks : List Str) : List Key := ks.map Sum.inr
def dicS (ks : List Str) (ds : List PyData) : List (Key × PyData) := (keyS ks).zip ds
def dDispS (ks : List Str) (da : DA) : DO := fun ρ Q X => da ρ (fun ds => ds.length = ks.length ∧ Q (.dic (dicS ks ds))) X
@[simp] theorem s_dDispS (ks : List Str) (da : DA) (ρ : Sto) (Q : OD → Prop) (X : XD) : dDispS ks da ρ Q X ↔ da ρ (fun ds => ds.length = ks.length ∧ Q (.dic (dicS ks ds))) X := Iff.rfl
theorem pairsS_eq : ∀ (ks : List Str) (vs : List V), vs.length = ks.length → pairsS ks vs = ((keyS ks).zip vs).map (fun kv => (kV kv.1, kv.2))
  | [], [], _ => rfl
  | k :: ks, v :: vs, h => by
    simp only [pairsS, List.map_cons, List.zip_cons_cons]
    rw [pairsS_eq ks vs (by simpa using h)]
    rfl
theorem zip_fst : ∀ (ks : List Key) (vs : List V), vs.length = ks.length → (ks.zip vs).map (·.1) = ks
  | [], _, _ => by simp
  | k :: ks, v :: vs, h => by
    rw [List.zip_cons_cons, List.map_cons, zip_fst ks vs (by simpa using h)]
theorem rpK_zip {K : PySem.W.Frag} {G : Hp} : ∀ (ks : List Key) {vs : List V} {ds : List PyData}, RpAll K G vs ds → RpK K G (ks.zip vs) (ks.zip ds)
  | [], _, _, _ => .nil
  | _ :: _, _, _, .nil => .nil
  | k :: ks, _, _, .cons a r => .cons a (rpK_zip ks r)
theorem qo_dispS {pos : Pos} {keys : List (Option Expr)} {values : List Expr} {ks : List Str} {da : DA} (h : QPs X W pos keys values ks da) (hnd : ks.Nodup := by decide) (h0 : keys ≠ [] := by intro z; cases z) (hz : ks.length ≤ 15 := by decide) (hall : keys.all (·.isSome) = true := by rfl) (hl : keys.length = values.length := by rfl) (hkl : keys.length = ks.length := by rfl) : QO X W (.Dict keys values pos) (dDispS ks da) := by
  obtain ⟨trs, hp, hq⟩ := h
  refine PE.sub (pe_disp hp hall hl h0 (by omega)) fun σ H Q h => ?_
  obtain ⟨G0, H0, G, ρ, Qd, Xd, k, h, fn, xo⟩ := h
  intro p hp
  have hun : ∀ (j : Nat) (u : OD), ρ[j]? = some (Slot.ow u) → σ[j]? ≠ some (some (V.ref p)) := fun j u e z => by
    obtain ⟨a, ho, z1, z2, _⟩ := k.ow j u e
    rw [z1] at z
    cases z
    rw [hp] at z2
    cases z2
  have n0 : NF H0 p := k.h0.free (nf_of hp)
  have gf : Gr G H G (upd H p (.dK [])) := Gr.fresh hp
  refine hq _ _ _ ⟨G0, H0, G, ρ, _, Xd, k.fresh hp, h, fun G1 H1 vs ds k1 g1 rv q hlen => ?_, xo.mono gf⟩
  have a3 : H1 p = some (.dK []) := g1.hh.at upd_same ntb_dK
  have a4 : G1 p = none := g1.out (k.gh.free hp) upd_same
  have hk : ((keyS ks).zip vs).length ≤ 15 := by rw [List.length_zip, keyS, List.length_map]; omega
  refine ⟨a3, (keyS ks).zip vs, pairsS_eq ks vs hlen, hk, ?_⟩
  have em : mergeK [] ((keyS ks).zip vs) = (keyS ks).zip vs := by
    rw [mergeK_new (acc := []) (by
      rw [List.nil_append, zip_fst _ _ (by rw [keyS, List.length_map]; exact hlen)]
      exact List.Pairwise.map _ (fun a b ne e => ne (Sum.inr.inj e)) hnd), List.nil_append]
  rw [em]
  refine fn G1 _ p (.dK ((keyS ks).zip vs)) (.dic (dicS ks ds)) (ok_mutG k1 a3 ntb_dK (fun _ z => by cases z) ntb_dK a4 n0 hun) ⟨(gf.trans g1).gg, ?_, (gf.trans g1).nw⟩ (nf_of hp) a4 upd_same (rpK_zip _ rv) q.2
  exact ex_mutG (gf.trans g1).hh (nf_of hp) a3 ntb_dK (fun _ z => by cases z) ntb_dK
end
section
variable [TabC]
section
variable {K : PySem.W.Frag} {G0 H0 G H G' H' : Hp} {σ σ' : L2.St} {ρ ρ' : Sto} {τ τ' : STau}
theorem OkY.gr (k : OkY K G0 H0 G H σ ρ τ) (g : Gr G H G' H') (gn : Same G' (nt H')) : OkY K G0 H0 G' H' σ ρ τ := k.grow g.gg g.hh gn g.nw
theorem okY_tup (k : OkY K G0 H0 G H σ ρ τ) {vs : List V} {ds : List PyData} (rv : RpAll K G vs ds) {p : Addr} {its : List Value} (hp : H p = none) : ∃ G1, OkY K G0 H0 G1 (upd H p (tupN its vs)) σ ρ τ ∧ Gr G H G1 (upd H p (tupN its vs)) ∧ Rp K G1 (.ref p) (.tuple ds) := by
  have gp : G p = none := k.gh.free hp
  have g : Gr G H (upd G p (tupN its vs)) (upd H p (tupN its vs)) := Gr.share k.gh hp (fun _ z => by cases z)
  refine ⟨_, k.gr g fun a o e => ?_, g, rp_tupNew gp rv⟩
  rw [nt_upd (fun _ z => by cases z)]
  by_cases ha : a = p
  · subst ha; rw [upd_same] at e ⊢; exact e
  · rw [upd_ne ha] at e ⊢; exact k.base.2.1 a o e
end
abbrev DAY := Sto → STau → (List PyData → Sto → STau → Prop) → (Exn → Sto → STau → Prop) → Prop
def upAY (K : PySem.W.Frag) (W : XW) (dy : DAY) : TA := fun σ H Q => ∃ G0 H0 G ρ τ Qd Xd, OkY K G0 H0 G H σ ρ τ ∧ dy ρ τ Qd Xd ∧ (∀ G' H' vs ds ρ' τ', OkY K G0 H0 G' H' σ ρ' τ' → RpAll K G' vs ds → Qd ds ρ' τ' → Q vs H') ∧ (∀ G' H' x cls d ρ' τ', OkY K G0 H0 G' H' σ ρ' τ' → ExcOk K W.1 G' H' x cls d → Xd x ρ' τ' → W.2 cls d σ H')
def QAY (X : Cx) (W : XW) (es : List Expr) (dy : DAY) : Prop := PA X es (upAY X.K W dy)
def yNil : DAY := fun ρ τ Q _ => Q [] ρ τ
@[simp] theorem s_yNil (ρ : Sto) (τ : STau) (Q : List PyData → Sto → STau → Prop) (Xd : Exn → Sto → STau → Prop) : yNil ρ τ Q Xd ↔ Q [] ρ τ := Iff.rfl
def yCons (d : DY) (e : DAY) : DAY := fun ρ τ Q Xd => d ρ τ (fun x ρ' τ' => e ρ' τ' (fun xs ρ2 τ2 => Q (x :: xs) ρ2 τ2) Xd) Xd
@[simp] theorem s_yCons (d : DY) (e : DAY) (ρ : Sto) (τ : STau) (Q : List PyData → Sto → STau → Prop) (Xd : Exn → Sto → STau → Prop) : yCons d e ρ τ Q Xd ↔ d ρ τ (fun x ρ' τ' => e ρ' τ' (fun xs ρ2 τ2 => Q (x :: xs) ρ2 τ2) Xd) Xd := Iff.rfl
section
variable {X : Cx} {W : XW}
theorem qay_nil : QAY X W [] yNil := PA.sub pa_nil fun σ H Q h => by
  obtain ⟨G0, H0, G, ρ, τ, Qd, Xd, k, h, fn, xo⟩ := h
  exact fn G H [] [] ρ τ k .nil h
theorem qay_cons {e : Expr} {es : List Expr} {d : DY} {da : DAY} (ha : QY X W e d) (hr : QAY X W es da) (hs : starEach (e :: es) X.env = (false, eval e X.env) :: starEach es X.env := by rfl) : QAY X W (e :: es) (yCons d da) := PA.sub (pa_cons ha hr hs) fun σ H Q h => by
  obtain ⟨G0, H0, G, ρ, τ, Qd, Xd, k, h, fn, xo⟩ := h
  exact ⟨G0, H0, G, ρ, τ, _, Xd, k, h, fun G1 H1 x d ρ1 τ1 k1 rx hb => ⟨G1, H0, G1, ρ1, τ1, _, Xd, k1.rebase, hb, fun G2 H2 vs ds ρ2 τ2 k2 rv q => fn G2 H2 _ _ ρ2 τ2 (k1.unbase k2) (.cons (rp_mono k2.base.1 rx) rv) q, fun G2 H2 x cls d ρ2 τ2 k2 e z => xo G2 H2 x cls d ρ2 τ2 (k1.unbase k2) e z⟩, xo⟩
def yCallA (C : Ct) (da : DAY) : DY := fun ρ τ Q Xd => da ρ τ (fun ds ρ' τ' => C ds (fun s => ∃ d, slotD s = some d ∧ Q d ρ' τ') (fun x => Xd x ρ' τ')) Xd
@[simp] theorem s_yCallA (C : Ct) (da : DAY) (ρ : Sto) (τ : STau) (Q : PyData → Sto → STau → Prop) (Xd : Exn → Sto → STau → Prop) : yCallA C da ρ τ Q Xd ↔ da ρ τ (fun ds ρ' τ' => C ds (fun s => ∃ d, slotD s = some d ∧ Q d ρ' τ') (fun x => Xd x ρ' τ')) Xd := Iff.rfl
theorem OkY.callSh {K : PySem.W.Frag} {G0 H0 G H : Hp} {σ : L2.St} {ρ : Sto} {τ : STau} (k : OkY K G0 H0 G H σ ρ τ) {s : Slot} {v : V} {H' : Hp} {d : PyData} (r : RetOk K G H s v H') (hd : slotD s = some d) : ∃ G', OkY K G0 H0 G' H' σ ρ τ ∧ Rp K G' v d := by
  obtain ⟨fp, k, tr, nd, fr, h0, ti⟩ := k
  letI : ObjB := ⟨regH H fp⟩
  obtain ⟨G', k', g', rv⟩ := RetOk.sh k.rebase r hd
  exact ⟨G', okY_keep k tr nd fr k' ti, rv⟩
theorem qy_callA {k j : Nat} {C : Ct} {x : Str} {p pos : Pos} {e : Expr} {es : List Expr} {da : DAY} (c : Cl X.prog X.w X.K X.mg X.base x j C) (hr : Room k X.A) (hj : j ≤ k) (tk : L2N.Takes X W.2) (hw : W.1 = X.mg) (ha : QAY X W (e :: es) da) (hg : Gl X x := by rfl)
    (hdb : (x == ("__debug__" : Str)) = false := by decide) (he : starEach (e :: es) X.env = (false, eval e X.env) :: starEach es X.env := by rfl) (hpl : (backTo pos (starEach es X.env)).any (·.1) = false := by rfl) : QY X W (.Call (.Name x p) (e :: es) [] pos) (yCallA C da) := by
  obtain ⟨ps, f, fd, c1, c2, c3, c4⟩ := c
  refine PE.sub (pe_callS c4 (hr.mono hj) hg c1 c2 c3 (fun σ => L2N.passAt tk σ) ha hdb he hpl) fun σ H Q h => ?_
  obtain ⟨G0, H0, G, ρ, τ, Qd, Xd, k, h, fn, xo⟩ := h
  refine ⟨G0, H0, G, ρ, τ, _, _, k, h, fun G1 H1 us ds ρ1 τ1 k1 rv q => ?_, xo⟩
  refine ⟨G1, ds, _, _, k1.base.2.1, k1.tb, rv, q, fun s v H' r q => ?_, fun G' H' x cls d s1 s2 s3 s4 e z => ?_⟩
  · obtain ⟨d, hd, q⟩ := q
    obtain ⟨G', k', rv'⟩ := k1.callSh r hd
    exact fn G' H' v d ρ1 τ1 k' rv' q
  · rw [← hw] at e
    exact xo G' H' x cls d ρ1 τ1 (k1.grow s1 s2 s3 s4) e z
def yIfE (t : DT) (a b : DY) : DY := fun ρ τ Q Xd => t ρ (fun c => if c = true then a ρ τ Q Xd else b ρ τ Q Xd) (fun x => Xd x ρ τ)
@[simp] theorem s_yIfE (t : DT) (a b : DY) (ρ : Sto) (τ : STau) (Q : PyData → Sto → STau → Prop) (Xd : Exn → Sto → STau → Prop) : yIfE t a b ρ τ Q Xd ↔ t ρ (fun c => if c = true then a ρ τ Q Xd else b ρ τ Q Xd) (fun x => Xd x ρ τ) := Iff.rfl
theorem qy_ifE {t a b : Expr} {pos : Pos} {dt : DT} {da db : DY} (ht : ∀ B : ObjB, QT X W t dt) (ha : QY X W a da) (hb : QY X W b db) : QY X W (.IfExp t a b pos) (yIfE dt da db) := PE.sub (pe_ifExp (PT.all ht) ha hb) fun σ H Q h => by
  obtain ⟨G0, H0, G, ρ, τ, Qd, Xd, ⟨fp, k, tr, nd, fr, h0, ti⟩, h, fn, xo⟩ := h
  letI : ObjB := ⟨regH H fp⟩
  refine ⟨⟨regH H fp⟩, G, mixH H0 H fp, G, ρ, _, _, k.rebase, h, fun G1 H1 c k1 g1 q => ?_, fun G' H' x cls d k' g' e z => xo G' H' x cls d ρ τ (okY_keep k tr nd fr k' ti) e z⟩
  have kT := okY_keep k tr nd fr k1 ti
  cases c with
  | true =>
    dsimp only at q ⊢
    rw [if_pos rfl] at q ⊢
    exact ⟨G0, H0, G1, ρ, τ, Qd, Xd, kT, q, fn, xo⟩
  | false =>
    dsimp only at q ⊢
    rw [if_neg Bool.false_ne_true] at q ⊢
    exact ⟨G0, H0, G1, ρ, τ, Qd, Xd, kT, q, fn, xo⟩
abbrev DTY := Sto → STau → (Bool → Sto → STau → Prop) → (Exn → Sto → STau → Prop) → Prop
def upTY (K : PySem.W.Frag) (W : XW) (dy : DTY) : TT := fun σ H Q => ∃ G0 H0 G ρ τ Qd Xd, OkY K G0 H0 G H σ ρ τ ∧ dy ρ τ Qd Xd ∧ (∀ G' H' b ρ' τ', OkY K G0 H0 G' H' σ ρ' τ' → Qd b ρ' τ' → Q b H') ∧ (∀ G' H' x cls d ρ' τ', OkY K G0 H0 G' H' σ ρ' τ' → ExcOk K W.1 G' H' x cls d → Xd x ρ' τ' → W.2 cls d σ H')
def QTY (X : Cx) (W : XW) (e : Expr) (dy : DTY) : Prop := PT X e (upTY X.K W dy)
def yTst (d : DY) : DTY := fun ρ τ Q Xd => d ρ τ (fun x ρ' τ' => asB x fun b => Q b ρ' τ') Xd
@[simp] theorem s_yTst (d : DY) (ρ : Sto) (τ : STau) (Q : Bool → Sto → STau → Prop) (Xd : Exn → Sto → STau → Prop) : yTst d ρ τ Q Xd ↔ d ρ τ (fun x ρ' τ' => asB x fun b => Q b ρ' τ') Xd := Iff.rfl
theorem qty_val {e : Expr} {d : DY} (h : QY X W e d) (he : ∀ whole, isTrue e X.env whole = (do let v ← whole; standAt e.pos; holding [v] (truthy v)) := by intro _; rfl) : QTY X W e (yTst d) := PT.sub (pt_val h he) fun σ H Q h => by
  obtain ⟨G0, H0, G, ρ, τ, Qd, Xd, k, h, fn, xo⟩ := h
  refine ⟨G0, H0, G, ρ, τ, _, Xd, k, h, fun G1 H1 x d ρ1 τ1 k1 rx hb => ?_, xo⟩
  obtain ⟨b, rfl, q⟩ := hb
  cases rx
  exact ⟨b, rfl, fn G1 H1 b ρ1 τ1 k1 q⟩
def yNot (d : DTY) : DTY := fun ρ τ Q Xd => d ρ τ (fun b ρ' τ' => Q (!b) ρ' τ') Xd
@[simp] theorem s_yNot (d : DTY) (ρ : Sto) (τ : STau) (Q : Bool → Sto → STau → Prop) (Xd : Exn → Sto → STau → Prop) : yNot d ρ τ Q Xd ↔ d ρ τ (fun b ρ' τ' => Q (!b) ρ' τ') Xd := Iff.rfl
theorem qty_not {a : Expr} {pos : Pos} {d : DTY} (ha : QTY X W a d) : QTY X W (.UnaryOp .Not a pos) (yNot d) := PT.sub (pt_not ha) fun σ H Q h => by
  obtain ⟨G0, H0, G, ρ, τ, Qd, Xd, k, h, fn, xo⟩ := h
  exact ⟨G0, H0, G, ρ, τ, _, Xd, k, h, fun G1 H1 b ρ1 τ1 k1 q => fn G1 H1 _ ρ1 τ1 k1 q, xo⟩
def yIfT (t : DTY) (a b : DSY) : DSY := fun D ρ τ => t ρ τ (fun c ρ' τ' => if c = true then a D ρ' τ' else b D ρ' τ') D.ex
@[simp] theorem s_yIfT (t : DTY) (a b : DSY) (D : DEndsY) (ρ : Sto) (τ : STau) : yIfT t a b D ρ τ ↔ t ρ τ (fun c ρ' τ' => if c = true then a D ρ' τ' else b D ρ' τ') D.ex := Iff.rfl
theorem qsy_ifT {c : Expr} {a b : List Stmt} {pos : Pos} {t : DTY} {d e : DSY} (hc : QTY X W c t) (ha : QSsY X W a d) (hb : QSsY X W b e) : QSY X W (.If c a b pos) (yIfT t d e) := PS.sub (ps_if hc ha hb) fun D σ H h => by
  obtain ⟨G0, H0, G, ρ, τ, Dd, k, h, nx, rt, bk, ct, ex⟩ := h
  refine ⟨G0, H0, G, ρ, τ, _, Dd.ex, k, h, fun G1 H1 c ρ1 τ1 k1 q => ?_, fun G' H' x cls d ρ' τ' k' e z => ex G' H' σ ρ' τ' x cls d k' e z⟩
  cases c with
  | true =>
    rw [if_pos rfl] at q ⊢
    exact ⟨G0, H0, G1, ρ1, τ1, Dd, k1, q, nx, rt, bk, ct, ex⟩
  | false =>
    rw [if_neg Bool.false_ne_true] at q ⊢
    exact ⟨G0, H0, G1, ρ1, τ1, Dd, k1, q, nx, rt, bk, ct, ex⟩
def yTried (xn : List (Str × Nat)) (db : DY) : DY := fun ρ τ Q _ => db ρ τ (fun d ρ' τ' => Q (.tuple [d, .str ""]) ρ' τ') (fun x ρ' τ' => ∃ c wd, (x.1, c) ∈ xn ∧ TrD c x wd ∧ Q (.tuple [.none, .str wd]) ρ' τ')
@[simp] theorem s_yTried (xn : List (Str × Nat)) (db : DY) (ρ : Sto) (τ : STau) (Q : PyData → Sto → STau → Prop) (Xd : Exn → Sto → STau → Prop) : yTried xn db ρ τ Q Xd ↔ db ρ τ (fun d ρ' τ' => Q (.tuple [d, .str ""]) ρ' τ') (fun x ρ' τ' => ∃ c wd, (x.1, c) ∈ xn ∧ TrD c x wd ∧ Q (.tuple [.none, .str wd]) ρ' τ') := Iff.rfl
theorem up_triedY {K : PySem.W.Frag} {mg : Str → Option Value} {W : XW} {xn : List (Str × Nat)} {db : DY} (σ : L2.St) (H : Hp) (Q : VK) (h : upY K W (yTried xn db) σ H Q) : tLam TabC.T (TTr K mg xn) (fun E => upY K (WF mg E) db) σ H Q := by
  obtain ⟨G0, H0, G, ρ, τ, Qd, Xd, k, h, fn, xo⟩ := h
  refine ⟨k.tb, fun H1 eN t1 => ?_⟩
  have ex : Ex H H1 := ⟨fun b o e => nt_of (eN b o (nt_some e) (nt_ntb e)) (nt_ntb e), fun _ => t1⟩
  have k1 : OkY K G0 H0 G H1 σ ρ τ := k.grow (Same.refl _) ex (k.base.2.1.trans ex.s) fun a o e => .inl e
  refine ⟨fun cls d H' => ∃ G' x ρ' τ', OkY K G0 H0 G' H' σ ρ' τ' ∧ ExcOk K mg G' H' x cls d ∧ ∃ c wd, (x.1, c) ∈ xn ∧ TrD c x wd ∧ Qd (.tuple [.none, .str wd]) ρ' τ', fun cls d H' z => ?_, fun p0 its0 hp0 => ?_⟩
  · obtain ⟨G', x, ρ', τ', k', eo, c, wd, hx, ht, q⟩ := z
    refine ⟨x, G', c, wd, eo, hx, ht, k'.base.2.1, k'.tb, fun G2 H2 s1 s2 s3 s4 p its hp => ?_⟩
    obtain ⟨G3, k3, g3, r3⟩ := okY_tup (k'.grow s1 s2 s3 s4) (.cons .non (.cons (.str wd) .nil)) hp
    exact fn G3 _ _ _ ρ' τ' k3 r3 q
  · have k2 : OkY K G0 H0 G (upd H1 p0 (tupN its0 [.non, .str ""])) σ ρ τ := k1.gr (Gr.fresh hp0 (fun _ z => by cases z)) (by rw [nt_upd (fun _ z => by cases z)]; exact same_mut k1.base.2.1 (k1.gh.free hp0))
    refine ⟨G0, H0, G, ρ, τ, _, _, k2, h, fun G' H' v d ρ' τ' k' rv q => ?_, fun G' H' x cls d ρ' τ' k' eo z => ⟨G', x, ρ', τ', k', eo, z⟩⟩
    intro p its hp
    obtain ⟨G3, k3, g3, r3⟩ := okY_tup k' (.cons rv (.cons (.str _) .nil)) hp
    exact fn G3 _ _ _ ρ' τ' k3 r3 q
theorem qy_tried {g : Addr} {k m : Nat} {pg : Arguments} {bg : List Stmt} {sg : Scope} {fd : FuncData} {Ng : List Str} {xn : List (Str × Nat)} {params : Arguments} {body : Expr} {scope : Scope} {db : DY} {p lpos pos : Pos}
    (F : FunD X.K "_law_tried" "_law_tried" pg bg sg [] [] g fd) (hm : X.mg "_law_tried" = some (.ref g)) (hb : L2.Binds X.K fd ["_law_ask"] []) (Sg : FnScope Ng ["_law_ask"] sg) (hNg : Ng[0]? = some ("_law_ask" : Str)) (hva : Vis sg "_law_ask")
    (hG : ∀ cdv q, GivesN X Ng "_law_tried" sg g cdv bg "_law_ask" q k (TTr X.K X.mg xn)) (TX : TabX X) (hr : Room m X.A) (hk : k + 2 ≤ m)
    (hbody : ∀ (A : Around) (outer : List Env) (s : Shared) (H : Hp) (E : XK) (f c' : Addr), Room k (A.deeper (lamEnv X scope s.heap.objs.size f c')) → QY (lamN X A outer s H E scope f c') (WF X.mg E) body db)
    (L : LamS X.env.scope scope := by exact lamS_by (by decide +kernel)) (hdef : defaultsOf params X.env = ([], []) := by rfl)
    (hbind : ∀ (q : Str) (cl : List (Str × Addr)) (pm cv ctv : Value), bindArgs (PySem.W.kla_fn "<lambda>" q params body scope cl pm cv ctv) ⟨[], []⟩ = pure [] := by intro _ _ _ _ _; rfl) (hg : Gl X "_law_tried" := by rfl) :
    QY X W (.Call (.Name "_law_tried" p) [.Lambda params body scope lpos] [] pos) (yTried xn db) := by
  obtain ⟨c, P, TB, hcode, hmT, hu⟩ := TX.ex
  have kp := F.kp
  obtain ⟨oc, od, dV, kV, doc, pm, an, cdv, ct, osl, rfl, lk, hcd, _, _⟩ := F.ex
  exact PE.sub (pe_lamN (T := TabC.T) (TT := TTr X.K X.mg xn) (t := fun E => upY X.K (WF X.mg E) db) hg hm kp lk hcd hb Sg hNg hva (hG cdv _) TB hcode hmT hu (hr.mono hk) L hdef hbind hbody (by decide) (by decide) (by decide)) up_triedY
end
end
end WH
namespace WH
open PySem PySem.Spec PyProof.Rows L2
section
variable {X : Cx} {CX : CXT} {k : Nat} {f C : Addr} {fd : FuncData} {ps : List Str} {sp : Sp} {E : L2.St → XK}
theorem run_in1 {pins : List (Addr × Obj)} {σ : L2.St} {H : Hp} {s : Shared} {Q : VK} {us : List Value} {vs : List V} (F : FnOk X.prog X.w X.K X.mg X.base CX k f fd ps sp) (hr : Room (k + 1) X.A) (hb : Binds X.K fd ps []) (hx : PassesAt CX X σ (E σ)) (I : Inv X pins σ H s) (r : Vals vs us)
    (h : sp vs H Q (E σ)) : wpAny (model X.prog X.w) X.A.in1 (call (.ref f) us) (EP X pins σ Q) X.xe s := by
  have hl : us.length = ps.length := by rw [← r.length]; exact F.len _ _ _ _ h
  refine wpAny_call (codeAny_mono (F.run X.A.in1 X.stack s H ⟨us, []⟩ us vs Q (E σ) hr.in1 I.env0.in1 (by
    have := hb s us I.kIn (by simpa using hl)
    simpa using this) r h) fun r s' hq => ?_)
  cases r with
  | error e => exact hx pins H s e s' I hq
  | ok fl =>
    cases fl with
    | ret u => exact I.after hq
    | next => exact False.elim hq
    | brk => exact False.elim hq
    | cont => exact False.elim hq
def tLenO (C : Addr) (sp : Sp) (E : L2.St → XK) (ta : TE) : TE := fun σ H Q => ta σ H fun x H1 => ∃ a dx fs, x = .ref a ∧ H1 a = some (.ins C dx fs) ∧ sp [x] H1 (fun v H2 => ∃ i : Int, v = .int i ∧ 0 ≤ i ∧ i < 2 ^ 63 ∧ Q v H2) (E σ)
theorem pe_lenO {o : Expr} {ta : TE} {p pos : Pos} (he : PE X o ta) (hm : X.mg "len" = none) (me : Meth X.K C "__len__" f) (F : FnOk X.prog X.w X.K X.mg X.base CX k f fd ps sp) (hr : Room (k + 1) X.A) (hb : Binds X.K fd ps []) (hx : ∀ σ, PassesAt CX X σ (E σ)) (hg : Gl X "len")
    (hst : starEach [o] X.env = (false, eval o X.env) :: starEach [] X.env) (hpl : (backTo pos (starEach [] X.env)).any (·.1) = false) : PE X (.Call (.Name "len" p) [o] [] pos) (tLenO C sp E ta) := by
  refine ⟨fun pins s σ H Q I h => ?_⟩
  refine wpAny_Call_Name_kw (ld_blt (u := .builtin "len") I hg hm (by decide +kernel) ?_ (by decide) (by decide))
  refine PyProof.Rows.callWith_builtin1 (thn ((pa_cons he pa_nil hst).run pos pins s σ H (fun vs H1 => match vs with
    | [x] => ∃ a dx fs, x = .ref a ∧ H1 a = some (.ins C dx fs) ∧ sp [x] H1 (fun v H2 => ∃ i : Int, v = .int i ∧ 0 ≤ i ∧ i < 2 ^ 63 ∧ Q v H2) (E σ)
    | _ => False) I h) fun us s1 ⟨vs, H1, I1, r1, q1⟩ => ?_) hst hpl
  match vs, q1 with
  | [x], q1 =>
    obtain ⟨a, dx, fs, rfl, ea, q⟩ := q1
    obtain ⟨u, rfl, ru⟩ := vals1 r1
    cases (show u = Value.ref a from ru)
    obtain ⟨mA, J, _⟩ := ins_get I1.hok ea
    obtain ⟨od, J, _⟩ := J.look
    obtain ⟨m, hF⟩ := I1.fr
    refine PySem.W.len_K hF I1.ok.mod.kin J me.at_ me.fn (wpAny_mono (run_in1 (us := [.ref a]) (vs := [.ref a]) F hr hb (hx σ) I1 (.cons rfl .nil) q) (fun w s' z => ?_) fun _ _ y => y)
    obtain ⟨v, H', I', rv, i, rfl, h0, h1, q⟩ := z
    obtain ⟨t, rfl⟩ := rv
    exact ⟨⟨h0, h1⟩, .int i, H', I'.tok _, ⟨_, rfl⟩, q⟩
end
section
variable [TabC] [ObjB] {X : Cx} {W : XW}
def dLenO (i : Nat) (Ca : Addr) (Ct : CtQ) : DE := fun ρ Q Xd => ∃ a fs, ρ[i]? = some (Slot.tr a (.ins Ca fs)) ∧ Ct [] (.ins Ca fs) (fun s => ∃ n : Nat, s = .sh (.int n) ∧ n < 100000 ∧ Q (.int n)) Xd
@[simp] theorem s_dLenO (i : Nat) (Ca : Addr) (Ct : CtQ) (ρ : Sto) (Q : PyData → Prop) (Xd : XD) : dLenO i Ca Ct ρ Q Xd ↔ ∃ a fs, ρ[i]? = some (Slot.tr a (.ins Ca fs)) ∧ Ct [] (.ins Ca fs) (fun s => ∃ n : Nat, s = .sh (.int n) ∧ n < 100000 ∧ Q (.int n)) Xd := Iff.rfl
theorem qe_lenO {k j i : Nat} {Ca : Addr} {Ct : CtQ} {x : Str} {p p1 pos : Pos} (hm : X.mg "len" = none) (c : MtQ X.prog X.w X.K X.mg X.base Ca "__len__" j Ct) (hr : Room k X.A) (hj : j + 1 ≤ k) (tk : L2N.Takes X W.2) (hw : W.1 = X.mg) (hN : X.N[i]? = some x := by rfl) (hv : Vis X.env.scope x := by first | exact Or.inl rfl | exact Or.inr (Or.inl rfl) | exact Or.inr (Or.inr rfl)) (hg : Gl X "len" := by rfl)
    (hst : starEach [.Name x p] X.env = (false, eval (.Name x p) X.env) :: starEach [] X.env := by rfl) (hpl : (backTo pos (starEach [] X.env)).any (·.1) = false := by rfl) (hd : (x == ("__debug__" : Str)) = false := by decide) (hcd : (x == ("__classdict__" : Str)) = false := by decide) : QE X W (.Call (.Name "len" p1) [.Name x p] [] pos) (dLenO i Ca Ct) := by
  obtain ⟨ps, f, fd, c1, c2, c3, c4⟩ := c
  refine PE.sub (pe_lenO (pe_var hN hv hd hcd) hm c2 c4 (hr.mono hj) c3 (fun σ => L2N.passAt tk σ) hg hst hpl) fun σ H Q h => ?_
  obtain ⟨G0, H0, G, ρ, Qd, Xd, k, ⟨a, fs, hi, h⟩, fn, xo⟩ := h
  obtain ⟨dx, vs, fp, h1, h2, h3, h4⟩ := k.ins hi
  refine ⟨_, h1, a, dx, vs, rfl, h2, ?_⟩
  refine ⟨a, [], G, _, _, _, [], _, Xd, rfl, k.regN, h4, k.gn, k.tb, .nil, h, fun s v H' r q => ?_, excOk_of hw k Gr.refl xo⟩
  obtain ⟨n, rfl, hn, q⟩ := q
  obtain ⟨G', k', g', rv⟩ := RetOk.sh k r rfl
  cases rv
  exact ⟨n, rfl, by omega, by omega, fn G' H' _ _ k' g' (.int _) q⟩
def dClearO (dd : DO) : DS := fun D ρ => dd ρ (fun o => ∃ ds, o = .lst ds ∧ D.nx ρ) (D.xd ρ)
@[simp] theorem s_dClearO (dd : DO) (D : DEnds) (ρ : Sto) : dClearO dd D ρ ↔ dd ρ (fun o => ∃ ds, o = .lst ds ∧ D.nx ρ) (D.xd ρ) := Iff.rfl
theorem qs_clearO {dd : DO} {e : Expr} {p2 p3 pos : Pos} (hp : PE X (.Call (.Attribute e "clear" p2) [] [] p3) (tBM0 X.K "list" rClear (upO X.K W dd))) (hs : swapsWith (.Call (.Attribute e "clear" p2) [] [] p3) none pos.line X.env = pure false := by rfl) : QS X W (.Expr (.Call (.Attribute e "clear" p2) [] [] p3) pos) (dClearO dd) := PS.sub (ps_expr hp hs) fun D σ H h => by
  obtain ⟨G0, H0, G, ρ, Dd, k, h, nx, rt, bk, ct, ex⟩ := h
  refine ⟨G0, H0, G, ρ, _, Dd.xd ρ, k, h, fun G1 H1 p ho o k1 g1 n1 n2 n3 n4 q => ?_, xok_of ex⟩
  obtain ⟨ds, rfl, q⟩ := q
  cases ho with
  | lst xs =>
    refine ⟨tyV_own n3, p, xs, rfl, rfl, n3, ?_⟩
    refine nx G1 _ σ ρ (ok_mutL k1 n3 n2 (k.h0.free n1) fun j u e z => ?_) q
    obtain ⟨a, ho', z1, z2, _, _, z5⟩ := k.ow j u e
    rw [z1] at z
    cases z
    exact nf_no z2 (hoOk_ntb z5) n1
  | _ => exact n4.elim
end
section
variable [TabC] [ObjB] {X : Cx} {W : XW} {k j n : Nat} {Ca : Addr} {Ct : CtY} {x kn : Str} {p pos kpos : Pos} {m0 : Int} {e : Expr} {es : List Expr} {da : DA} {ke : Expr} {dk : DE}
theorem sp_no {G0 H0 G H2 G3 H3 : Hp} {σ : L2.St} {ρ : Sto} {Xd : XD} {Q : VK} {a dx : Addr} {vs : List V} {ds : List PyData} (hw : W.1 = X.mg) (k : Ok X.K G0 H0 G H2 σ ρ) (g : Gr G3 H3 G H2) (rv : RpAll X.K G vs ds) (h1 : H2 a = none) (h2 : H2 dx = none) (ne : dx ≠ a) (xo : XOk X.K W G0 H0 G3 H3 σ ρ Xd)
    (q : Ct ds (.ins Ca []) (fun _ _ => False) (fun x _ => Xd x)) : PSpY X.K X.mg Ct (V.ref a :: vs) (upd (upd H2 dx (.own a)) a (.ins Ca dx [])) (fun v H3 => v = .non ∧ Q (.ref a) H3) (WE W.2 σ) := by
  have n1 : NTb (HO.own a) := fun _ z => by cases z
  have n2 : NTb (HO.ins Ca dx []) := fun _ z => by cases z
  have h1' : upd H2 dx (.own a) a = none := by rw [upd_ne (Ne.symm ne)]; exact h1
  have gr := (Gr.fresh (G := G) h2 n1).trans (Gr.fresh h1' n2)
  have ga : ∀ b, H2 b = none → G b = none := fun b e => k.gh.free e
  refine ⟨a, vs, G, .ins Ca [], [a, dx], ds, _, _, rfl, k.gn.trans gr.hh.s, .ins (vs := []) (fp := []) upd_same ((upd_ne ne).trans upd_same) .nil, by simp [Ne.symm ne], fun b hb => ?_, gr.hh.t k.tb, rv, q, fun _ _ _ _ _ q => q.elim, fun G' H' x cls d t' L e z => ?_⟩
  · rcases List.mem_cons.mp hb with rfl | hb
    · exact ga _ h1
    · rw [List.mem_singleton.mp hb]; exact ga _ h2
  · have em : minusH (upd (upd H2 dx (.own a)) a (.ins Ca dx [])) [a, dx] = H2 := by
      funext b
      by_cases z : b = a
      · subst z; exact (if_pos (by simp)).trans h1.symm
      by_cases z2 : b = dx
      · subst z2; exact (if_pos (by simp)).trans h2.symm
      rw [minus_out (by simp [z, z2]), upd_ne z, upd_ne z2]
    obtain ⟨gg, hh, gn, nw, _⟩ := L
    rw [em] at hh nw
    rw [← hw] at e
    exact xo G' H' x cls d (k.grow gg hh gn nw) (g.trans ⟨gg, hh, nw⟩) e z
def dMkR (Ca : Addr) (C : CtY) (n : Nat) (da : DA) (dk : DE) : DE := fun ρ _ X => da ρ (fun ds => ds.length = n ∧ dk ρ (fun y => C (ds ++ [y]) (.ins Ca []) (fun _ _ => False) (fun x _ => X x)) X) X
@[simp] theorem s_dMkR (Ca : Addr) (C : CtY) (n : Nat) (da : DA) (dk : DE) (ρ : Sto) (Q : PyData → Prop) (X : XD) : dMkR Ca C n da dk ρ Q X ↔ da ρ (fun ds => ds.length = n ∧ dk ρ (fun y => C (ds ++ [y]) (.ins Ca []) (fun _ _ => False) (fun x _ => X x)) X) X := Iff.rfl
def dMkRD (Ca : Addr) (C : CtY) (d0 : Int) (da : DA) : DE := fun ρ _ X => da ρ (fun ds => C (ds ++ [.int d0]) (.ins Ca []) (fun _ _ => False) (fun x _ => X x)) X
@[simp] theorem s_dMkRD (Ca : Addr) (C : CtY) (d0 : Int) (da : DA) (ρ : Sto) (Q : PyData → Prop) (X : XD) : dMkRD Ca C d0 da ρ Q X ↔ da ρ (fun ds => C (ds ++ [.int d0]) (.ins Ca []) (fun _ _ => False) (fun x _ => X x)) X := Iff.rfl
theorem qe_mkRD (c : ClM X.prog X.w X.K X.mg X.base Ca x j Ct n kn (.int m0)) (hr : Room k X.A) (hj : j + 1 ≤ k) (tk : L2N.Takes X W.2) (hw : W.1 = X.mg) (ha : QA X W (e :: es) da) (hg : Gl X x := by rfl)
    (hdb : (x == ("__debug__" : Str)) = false := by decide) (he : starEach (e :: es) X.env = (false, eval e X.env) :: starEach es X.env := by rfl) (hpl : (backTo pos (starEach es X.env)).any (·.1) = false := by rfl) : QE X W (.Call (.Name x p) (e :: es) [] pos) (dMkRD Ca Ct m0 da) := by
  obtain ⟨ps, f, fd, c1, c2, ⟨ds0, hd0, c3⟩, _, c4⟩ := c
  refine PE.sub (pe_mkSD c1 c4 (hr.mono hj) hg c2 c3 hd0 (fun σ => L2N.passAt tk σ) ha hdb he hpl) fun σ H Q h => ?_
  obtain ⟨G0, H0, G, ρ, Qd, Xd, k, h, fn, xo⟩ := h
  refine ⟨G0, H0, G, ρ, _, Xd, k, h, fun G1 H1 vs ds k1 g1 rv q => ?_, xo⟩
  exact fun a dx h1 h2 n12 => sp_no hw k1 g1 (rpa_append rv (.cons (.int m0) .nil)) h1 h2 n12 xo q
end
end WH
namespace WH
open PySem PySem.Spec PyProof.Rows L2
variable [TabC] [ObjB] {X : Cx} {W : XW}
def dDofO (dd : DO) : DD := fun ρ Q X => dd ρ (fun o => ∃ kvs, o = .dic kvs ∧ Q kvs) X
@[simp] theorem s_dDofO (dd : DO) (ρ : Sto) (Q : List (Key × PyData) → Prop) (X : XD) : dDofO dd ρ Q X ↔ dd ρ (fun o => ∃ kvs, o = .dic kvs ∧ Q kvs) X := Iff.rfl
theorem QO.qd {e : Expr} {dd : DO} (h : QO X W e dd) : QD X W e (dDofO dd) := PE.sub h fun σ H Q h => by
  obtain ⟨G0, H0, G, ρ, Qd, Xd, k, h, fn, xo⟩ := h
  refine ⟨G0, H0, G, ρ, _, Xd, k, h, fun G1 H1 p ho o k1 g1 n1 n2 n3 n4 q => ?_, xo⟩
  obtain ⟨kvs, rfl, q⟩ := q
  cases ho with
  | dK vs => exact fn G1 H1 p vs kvs k1 g1 (.inl n3) n4 q
  | _ => exact n4.elim
end WH
namespace WH
open PySem PySem.Spec PyProof.Rows L2 L2H LamX
section
variable [TabC] [ObjB] {X : Cx} {W : XW}
omit [TabC] [ObjB] in
def dMthO0 (i : Nat) (Ca : Addr) (m : Str) (Ct : CtQ) : DO := fun ρ Q X => ∃ a fs, ρ[i]? = some (Slot.tr a (.ins Ca fs)) ∧ noF fs m ∧ Ct [] (.ins Ca fs) (fun s => ∃ o, s = .ow o ∧ Q o) X
@[simp] theorem s_dMthO0 (i : Nat) (Ca : Addr) (m : Str) (Ct : CtQ) (ρ : Sto) (Q : OD → Prop) (X : XD) : dMthO0 i Ca m Ct ρ Q X ↔ ∃ a fs, ρ[i]? = some (Slot.tr a (.ins Ca fs)) ∧ noF fs m ∧ Ct [] (.ins Ca fs) (fun s => ∃ o, s = .ow o ∧ Q o) X := Iff.rfl
theorem qo_mthQ0 {k j i : Nat} {Ca : Addr} {Ct : CtQ} {x m : Str} {p p1 pos : Pos} {pl : Sem Bool} (c : MtQ X.prog X.w X.K X.mg X.base Ca m j Ct) (hr : Room k X.A) (hj : j ≤ k) (tk : L2N.Takes X W.2) (hw : W.1 = X.mg) (hN : X.N[i]? = some x := by rfl) (hv : Vis X.env.scope x := by first | exact Or.inl rfl | exact Or.inr (Or.inl rfl) | exact Or.inr (Or.inr rfl))
    (ht : eval (.Call (.Attribute (.Name x p) m p1) [] [] pos) X.env = (eval (.Name x p) X.env >>= fun ov => standAt p1.atName >>= fun _ => holding [ov] (getMethod ov m pl) >>= fun fm => callWith pos fm.1 fm.2 (backTo pos (starEach [] X.env)) (backToKw pos (keywordEach [] X.env))) := by rfl)
    (hd : (x == ("__debug__" : Str)) = false := by decide) (hcd : (x == ("__classdict__" : Str)) = false := by decide) : QO X W (.Call (.Attribute (.Name x p) m p1) [] [] pos) (dMthO0 i Ca m Ct) := by
  obtain ⟨ps, f, fd, c1, c2, c3, c4⟩ := c
  refine PE.sub (pe_mthS0 (pl := pl) (pe_var hN hv hd hcd) c1 c2 c4 (hr.mono hj) c3 (fun σ => L2N.passAt tk σ) ht) fun σ H Q h => ?_
  obtain ⟨G0, H0, G, ρ, Qd, Xd, k, ⟨a, fs, hi, hm, h⟩, fn, xo⟩ := h
  obtain ⟨dx, vs, fp, h1, h2, h3, h4⟩ := k.ins hi
  refine ⟨_, h1, a, dx, vs, rfl, h2, (sAtF_at h3).2 hm, ?_⟩
  refine ⟨a, [], G, _, _, _, [], _, Xd, rfl, k.regN, h4, k.gn, k.tb, .nil, h, fun s v H' r q => ?_, excOk_of hw k Gr.refl xo⟩
  obtain ⟨o, rfl, q⟩ := q
  obtain ⟨G', r1, r2, r3, r4, p', ho, rfl, n1, n2, n3, n4⟩ := r
  exact fn G' H' p' ho o (k.grow r1 r2 r3 r4) ⟨r1, r2, r4⟩ n1 n2 n3 n4 q
end
section
variable [TabC] {X : Cx} {W : XW}
theorem qe_mkRV [ObjB] {k j n : Nat} {Ca : Addr} {Ct : CtY} {x kn : Str} {p pos kpos : Pos} {e : Expr} {es : List Expr} {da : DA} {ke : Expr} {dk : DE} {v0 : V} (c : ClM X.prog X.w X.K X.mg X.base Ca x j Ct n kn v0) (hr : Room k X.A) (hj : j + 1 ≤ k) (tk : L2N.Takes X W.2) (hw : W.1 = X.mg) (ha : QA X W (e :: es) da) (hkv : QE X W ke dk) (hg : Gl X x := by rfl)
    (hall : (backToKw pos (keywordEach [⟨some kn, ke, kpos⟩] X.env)).all (·.1.isSome) = true := by rfl) (hks : (backToKw pos (keywordEach [⟨some kn, ke, kpos⟩] X.env)).filterMap (·.1) = [kn] := by rfl)
    (hdb : (x == ("__debug__" : Str)) = false := by decide) (he : starEach (e :: es) X.env = (false, eval e X.env) :: starEach es X.env := by rfl)
    (hpl : ((backTo pos (starEach (e :: es) X.env)).any (·.1) || (backToKw pos (keywordEach [⟨some kn, ke, kpos⟩] X.env)).any (·.1.isNone)) = false := by rfl) : QE X W (.Call (.Name x p) (e :: es) [⟨some kn, ke, kpos⟩] pos) (dMkR Ca Ct n da dk) := by
  obtain ⟨ps, f, fd, c1, c2, _, ⟨g, c3⟩, c4⟩ := c
  refine PE.sub (pe_mkS c1 c4 (hr.mono hj) hg c2 c3 (fun σ => L2N.passAt tk σ) ha (pk_cons hkv pk_nil) hall hks hdb he hpl) fun σ H Q h => ?_
  obtain ⟨G0, H0, G, ρ, Qd, Xd, k, h, fn, xo⟩ := h
  refine ⟨G0, H0, G, ρ, _, Xd, k, h, fun G1 H1 vs ds k1 g1 rv q => ?_, xo⟩
  obtain ⟨hn, q⟩ := q
  refine ⟨G0, H0, G1, ρ, _, Xd, k1, q, fun G2 H2 y d k2 g2 ry q2 => ?_, xo.mono g1⟩
  exact ⟨by rw [rpa_length rv]; exact hn, rfl, fun a dx h1 h2 n12 => sp_no hw k2 (g1.trans g2) (rpa_append (rpa_mono g2.gg rv) (.cons ry .nil)) h1 h2 n12 xo q2⟩
end
section
variable [TabC] {P : Program} {w : World} {K : PySem.W.Frag} {mg : Str → Option Value} {base : Heap}
theorem fn_okPCG {x : Str} {st : Stmt} {f : Addr} {fd : FuncData} {N ps : List Str} {k : Nat} {C : Ct} {db : DSY} {dvs : List V} {kws : List (Str × V)} (F : FunD K x x (defArgs st) (defBody st) (defScope st) dvs kws f fd) (S : FnScope N ps (defScope st)) (len : ∀ ds R Xd, C ds R Xd → ds.length = ps.length)
    (hbody : ∀ (A : Around) (outer : List Env) (s : Shared) (H : Hp) (E : XK), A.guards = some [] → Room k (A.deeper (PyProof.Rows.envOfC x (defScope st) s.heap.objs.size f fd.code)) → QSsY (cxOf (L2N.CX P w) P w K mg base N x (defScope st) f fd.code A outer s H E) (WF mg E) (defBody st) db)
    (h : ∀ ds R Xd, C ds R Xd → db { nx := fun _ _ => R (.sh .none), rt := fun d _ => R (.sh d), ex := fun x _ _ => Xd x } (st0 N ds) []) : FnOkG P w K mg base (L2N.CX P w) (k + 1) f fd ps (PSp K mg C) := by
  obtain ⟨oc, od, dV, kV, doc, pm, an, cdv, ct, osl, rfl, lk, hcd, _, _⟩ := F.ex
  refine fn_ofG lk hcd S (fun vs H Q E h => ?_) (fun A outer s H vs Q E hgd hr hsp => ⟨_, hbody A outer s H E hgd hr, ?_⟩)
  · obtain ⟨G, ds, R, Xd, _, _, r, c, _⟩ := h
    rw [rpa_length r, len _ _ _ c]
  · obtain ⟨G, ds, R, Xd, gh, tb, r, c, rt, ex⟩ := hsp
    have fin : ∀ d τ' v H', RetY K G H d τ' v H' → RetOk K G H (.sh d) v H' := fun d τ' v H' r => let ⟨G', _, r1, r2, r3, r4, r5, _⟩ := r; ⟨G', r1, r2, r3, r4, r5⟩
    exact ⟨G, H, G, _, _, _, okY_start gh tb r, h ds R Xd c, fun G' H' σ' ρ' τ' k' q => rt (.sh .none) _ _ (fin _ _ _ _ (k'.ret .non)) q, fun d τ' v H' r q => rt (.sh d) _ _ (fin _ _ _ _ r) q, fun _ _ _ _ _ _ z => z.elim, fun _ _ _ _ _ _ z => z.elim,
      fun G' H' σ' ρ' τ' x cls d k' e q => ex G' H' x cls d k'.base.1 k'.h0 k'.base.2.1 k'.base.2.2 e q⟩
end
end WH
namespace WH
open PySem PySem.Spec PyProof.Rows L2 L2H LamX
@[simp] theorem lfrD_none : lfrD .none = true := rfl
@[simp] theorem lfrD_bool (b : Bool) : lfrD (.bool b) = true := rfl
@[simp] theorem lfrD_int (i : Int) : lfrD (.int i) = true := rfl
@[simp] theorem lfrD_str (s : Str) : lfrD (.str s) = true := rfl
section
variable [TabC] [ObjB]
section
variable {X : Cx} {W : XW}
def dParOO (i j : Nat) (da dd : DO) : DS := fun D ρ => da ρ (fun o => dd ρ (fun u => i ≠ j ∧ D.nx ((ρ.set i (.ow o)).set j (.ow u))) (D.xd ρ)) (D.xd ρ)
@[simp] theorem s_dParOO (i j : Nat) (da dd : DO) (D : DEnds) (ρ : Sto) : dParOO i j da dd D ρ ↔ da ρ (fun o => dd ρ (fun u => i ≠ j ∧ D.nx ((ρ.set i (.ow o)).set j (.ow u))) (D.xd ρ)) (D.xd ρ) := Iff.rfl
theorem qs_parOO {i j : Nat} {x y : Str} {a b : Expr} {da dd : DO} {px py pt ps pos : Pos} {k1 k2 : Nat} (hN : X.N.Nodup) (ha : QO X W a da) (hb : QO X W b dd) (hp : PA X [a, b] (tCons (upO X.K W da) (tCons (upO X.K W dd) tNil))) (hc : X.calm = true := by rfl) (hi : X.N[i]? = some x := by rfl) (hj : X.N[j]? = some y := by rfl) (hij : i ≠ j := by decide)
    (hx : X.env.scope.names.lookup x = some .local := by rfl) (hy : X.env.scope.names.lookup y = some .local := by rfl)
    (hw : swappedStores [.Tuple [.Name x px, .Name y py] k1 pt] (.Tuple [a, b] k2 ps) X.env = pure (some [x, y]) := by rfl)
    (hs : swapsWithSole [.Tuple [.Name x px, .Name y py] k1 pt] (.Tuple [a, b] k2 ps) pos.line X.env = pure false := by rfl) : QS X W (.Assign [.Tuple [.Name x px, .Name y py] k1 pt] (.Tuple [a, b] k2 ps) pos) (dParOO i j da dd) := PS.sub (ps_par hc hN hi hj hij hx hy hp hw hs) fun D σ H h => by
  obtain ⟨G0, H0, G, ρ, Dd, k, h, nx, rt, bk, ct, ex⟩ := h
  refine ⟨G0, H0, G, ρ, _, Dd.xd ρ, k, h, fun G1 H1 p ho o k1 g1 n1 n2 n3 n4 q => ?_, xok_of ex⟩
  refine ⟨G0, H0, G1, ρ, _, Dd.xd ρ, k1, q, fun G2 H2 p' ho' o' k2 g2 m1 m2 m3 m4 q2 => ?_, xok_of ex⟩
  refine ⟨.ref p, .ref p', rfl, ?_⟩
  have a1 := k.newOw (i := i) g1.hh k1 n1 n3 n2 n4
  have a2 := a1.grow g2.gg g2.hh k2.gn g2.nw
  exact nx G2 H2 _ _ (a1.newOw g2.hh a2 m1 m3 m2 m4) q2.2
end
end
section
variable [TabC] {X : Cx} {W : XW}
def yFreeze (i : Nat) (d : DSY) : DSY := fun D ρ τ => ∃ ds, ρ[i]? = some (Slot.ow (.lst ds)) ∧ d D (ρ.set i (.sh (.list ds))) τ
@[simp] theorem s_yFreeze (i : Nat) (d : DSY) (D : DEndsY) (ρ : Sto) (τ : STau) : yFreeze i d D ρ τ ↔ ∃ ds, ρ[i]? = some (Slot.ow (.lst ds)) ∧ d D (ρ.set i (.sh (.list ds))) τ := Iff.rfl
theorem trIn_setSh {ρ : Sto} {τ : STau} (h : trIn ρ τ) (i : Nat) (d : PyData) : trIn (ρ.set i (.sh d)) τ := fun j a t e => by
  rw [getElem_set_eq] at e
  by_cases hij : i = j
  · rw [if_pos hij] at e; split at e <;> cases e
  · rw [if_neg hij] at e; exact h j a t e
theorem qssy_freeze {sts : List Stmt} {d : DSY} (i : Nat) (h : QSsY X W sts d) : QSsY X W sts (yFreeze i d) := PSs.sub h fun D σ H h => by
  obtain ⟨G0, H0, G, ρ, τ, Dd, k, ⟨ds, hi, h⟩, nx, rt, bk, ct, ex⟩ := h
  obtain ⟨fp, kk, tr, nd, fr, h0, ti⟩ := k
  letI : ObjB := ⟨regH H fp⟩
  obtain ⟨G', gg, k'⟩ := kk.rebase.freezeSlot hi
  have kY := okY_keep kk tr nd fr k' (trIn_setSh ti i _)
  exact ⟨G0, H0, G', _, τ, Dd, kY, h, nx, rt, bk, ct, ex⟩
end
end WH
namespace WH
open PySem PySem.Spec PyProof.Rows L2
section
variable [TabC] [ObjB] {X : Cx} {W : XW}
def dAsgPut (ia ix : Nat) (de di : DE) : DS := fun D ρ => de ρ (fun d => ∃ u v, (d = .tuple [u, v] ∨ d = wk [u, v]) ∧ ia ≠ ix ∧ ∃ ds, ρ[ix]? = some (Slot.ow (.lst ds)) ∧ di (ρ.set ia (.sh u)) (fun iv => ∃ k j, iv = .int k ∧ ixN ds.length k = some j ∧ D.nx ((ρ.set ia (.sh u)).set ix (.ow (.lst (ds.set j v))))) (D.xd (ρ.set ia (.sh u)))) (D.xd ρ)
@[simp] theorem s_dAsgPut (ia ix : Nat) (de di : DE) (D : DEnds) (ρ : Sto) : dAsgPut ia ix de di D ρ ↔ de ρ (fun d => ∃ u v, (d = .tuple [u, v] ∨ d = wk [u, v]) ∧ ia ≠ ix ∧ ∃ ds, ρ[ix]? = some (Slot.ow (.lst ds)) ∧ di (ρ.set ia (.sh u)) (fun iv => ∃ k j, iv = .int k ∧ ixN ds.length k = some j ∧ D.nx ((ρ.set ia (.sh u)).set ix (.ow (.lst (ds.set j v))))) (D.xd (ρ.set ia (.sh u)))) (D.xd ρ) := Iff.rfl
theorem qs_asgPut {ia ix : Nat} {a x : Str} {e ie : Expr} {de di : DE} {pa p1 p2 pt pos : Pos} {kk : Nat} (hN : X.N.Nodup) (he : QE X W e de) (hi : QE X W ie di) (hv : PE X (.Name x p1) (tVar ix)) (hc : X.calm = true := by rfl)
    (hia : X.N[ia]? = some a := by rfl) (hx : Loc X.env.scope a := by first | exact Or.inl rfl | exact Or.inr rfl) (hf : X.fn a = true ∨ X.env.scope.names.lookup a = some .local := by first | exact .inl rfl | exact .inr rfl | assumption)
    (h0 : (assignEach [] X.env).length = 0 := by rfl)
    (h1 : (assignEach [.Subscript (.Name x p1) ie p2] X.env).map (·.2) = assign (.Subscript (.Name x p1) ie p2) X.env :: (assignEach [] X.env).map (·.2) := by rfl)
    (h2 : (assignEach [.Name a pa, .Subscript (.Name x p1) ie p2] X.env).map (·.2) = assign (.Name a pa) X.env :: (assignEach [.Subscript (.Name x p1) ie p2] X.env).map (·.2) := by rfl)
    (hn : (assignEach [.Name a pa, .Subscript (.Name x p1) ie p2] X.env).length = 2 := by rfl) (hst : (assignEach [.Name a pa, .Subscript (.Name x p1) ie p2] X.env).findIdx? (·.1) = none := by rfl)
    (ha : ∀ v, assign (.Subscript (.Name x p1) ie p2) X.env v = (do
      let ov ← holding [v] (eval (.Name x p1) X.env)
      let iv ← holding [v, ov] (eval ie X.env)
      standAt p2
      holding [v, ov, iv] (setItem ov iv v)
      release [v, ov, iv] []) := by intro _; rfl)
    (hs : swapsWithSole [.Tuple [.Name a pa, .Subscript (.Name x p1) ie p2] kk pt] e pos.line X.env = pure false := by rfl) (hw : swappedStores [.Tuple [.Name a pa, .Subscript (.Name x p1) ie p2] kk pt] e X.env = pure none := by rfl)
    (h3 : (assignEach [.Tuple [.Name a pa, .Subscript (.Name x p1) ie p2] kk pt] X.env).map (·.2) = [assign (.Tuple [.Name a pa, .Subscript (.Name x p1) ie p2] kk pt) X.env] := by rfl) :
    QS X W (.Assign [.Tuple [.Name a pa, .Subscript (.Name x p1) ie p2] kk pt] e pos) (dAsgPut ia ix de di) :=
  PS.sub (ps_asg he (pg_tup hc (pgs_cons (pg_name (pos := pa) hN hia hx hf) (pgs_cons (pg_sub hv hi set_list ha) pgs_nil h1) h2) hn hst) hs hw h3) fun D σ H h => by
  obtain ⟨G0, H0, G, ρ, Dd, k, h, nx, rt, bk, ct, ex⟩ := h
  refine ⟨G0, H0, G, ρ, _, Dd.xd ρ, k, h, fun G1 H1 v d k1 g1 rv q => ?_, xok_of ex⟩
  obtain ⟨u, w, hd, ne, ds, hix, q⟩ := q
  have key : ∀ (p : Addr) (xs : List V), SqT X.K H1 p xs → RpAll X.K G1 xs [u, w] → gTup X.K 2 (gCons (gName ia) (gCons (gSub (tVar ix) (upE X.K W di) rSetL) gNil)) (.ref p) σ H1 D.nx := fun p xs sq rs => by
    refine ⟨p, xs, rfl, sq, (rpa_length rs).trans rfl, ?_⟩
    cases rs with
    | cons r1 r2 =>
    cases r2 with
    | cons r2 r3 =>
    cases r3
    refine ⟨_, _, rfl, ?_⟩
    have k2 : Ok X.K G0 H0 G1 H1 (σ.set ia (some _)) (ρ.set ia (.sh u)) := k1.setSh r1
    have hix2 : (ρ.set ia (.sh u))[ix]? = some (Slot.ow (.lst ds)) := by rw [getElem_set_eq, if_neg ne]; exact hix
    refine ⟨_, [], rfl, ?_⟩
    obtain ⟨b, ys, b1, b2, b3, b4, b5⟩ := own_lst k2 hix2
    refine ⟨_, b1, G0, H0, G1, _, _, Dd.xd _, k2, q, fun G2 H2 z e k3 g2 rz q2 => ?_, xok_of ex⟩
    obtain ⟨n, j, rfl, hj, q2⟩ := q2
    obtain ⟨b', ys', b1', b2', b3', b4', b5'⟩ := own_lst k3 hix2
    rw [b1] at b1'
    cases b1'
    cases rz
    refine ⟨b, ys', n, j, rfl, rfl, b2', by rw [rpa_length b5']; exact hj, ?_⟩
    exact ⟨rfl, nx G2 _ _ _ (k3.mutOw (o' := .lst (ds.set j w)) hix2 b1 (show RpAll _ _ _ _ from rpa_set j (rp_mono g2.gg r2) b5')) q2⟩
  rcases hd with rfl | rfl
  · cases rv with
    | tup s1 s2 => exact key _ _ (sqT_mono k1.gh s1.t) s2
  · obtain ⟨p, xs, rfl, s1, s2⟩ := rp_wk rv
    exact key _ _ (sqT_mono k1.gh s1) s2
end
end WH
namespace WH
open PySem PySem.Spec L2
def Kp (d : DS) (n : List Str) (C : Ct) : Prop := ∀ ds R Xd, C ds R Xd → d { nx := fun _ => R (.sh .none), rt := R, ex := fun x _ => Xd x } (st0 n ds)
def n__law_numbers : List Str := ["_law_script", "_law_many", "_law_drawn", "_law_seed", "_law_cell", "_law_rest", "_law_k"]
def d__law_numbers : DS := (dSeq (dAsgO 2 (dLst dNil))
  (dSeq (dAsg 3 (dC (.int 61)))
  (dSeq (dFor (dIt (dScr 0)) (gN 4)
  (dSeq (dAsg 3 (d2 modD (d2 addD (d2 addD (d2 mulD (dVar 3) (dC (.int 40692))) (d2 modD (dVar 4) (dC (.int 999983)))) (dC (.int 29))) (dC (.int 2147483399))))
  (dSeq (dAsg 5 (d2 subD (dVar 4) (d2 powD (dC (.int 10)) (dC (.int 18)))))
  (dSeq (dIfS (dTst (d2 ltD (dVar 5) (dC (.int 0))))
  (dApp 2 (d2 modD (dVar 4) (dC (.int 9973))))
  dNext)
  (dFor (dRng1 (dC (.int 60))) (gN 6)
  (dIfS (dTst (d2 gtD (dVar 5) (dC (.int 0))))
  (dSeq (dApp 2 (d2 modD (dVar 5) (dC (.int 1019))))
  (dAsg 5 (d2 fdivD (dVar 5) (dC (.int 1019)))))
  dNext))))))
  (dSeq (dWhile (dTst (d2 ltD (dCBC lenC (dVarC 2)) (dVar 1)))
  (dSeq (dAsg 3 (d2 modD (d2 addD (d2 addD (d2 addD (d2 mulD (dVar 3) (dVar 3)) (d2 mulD (dC (.int 40014)) (dVar 3))) (d2 mulD (dC (.int 23)) (dCBC lenC (dVarC 2)))) (dC (.int 7))) (dC (.int 2147483563))))
  (dApp 2 (d2 modD (d2 fdivD (dVar 3) (dC (.int 1021))) (dC (.int 9973))))))
  (dRet (dSl (dVarC 2) dNo (dSome (dVar 1))))))))
def c__law_numbers : Ct := fun ds R _ => ∃ (ns : List Int) (many : Nat), ds = [scrD ns, .int many] ∧ ns.length ≤ 63 ∧ many ≤ 20000 ∧ ∀ out : List Int, out.length = many → (∀ z ∈ out, 0 ≤ z ∧ z < 9973) → R (.sh (.list (out.map .int)))
theorem l__law_numbers : ∀ ds R Xd, c__law_numbers ds R Xd → ds.length = 2 := by
  rintro ds R Xd ⟨d, lo, rfl, h⟩
  rfl
theorem Sm.snoc {ns : List Int} {z : Int} (h : Sm ns) (h0 : 0 ≤ z) (h1 : z < 9973) : Sm (ns ++ [z]) := by
  intro y hy
  rcases List.mem_append.mp hy with hy | hy
  · exact h y hy
  · rw [List.mem_singleton.mp hy]
    exact ⟨h0, h1⟩
theorem Sm.take {ns : List Int} (h : Sm ns) (n : Nat) : Sm (ns.take n) := fun z hz => h z (List.mem_of_mem_take hz)
theorem p__law_numbers : Kp d__law_numbers n__law_numbers c__law_numbers := by
  rintro ds R Xd ⟨ns, many, rfl, h1, h2, h⟩
  simp [d__law_numbers, st0, n__law_numbers]
  refine ⟨h1, ?_⟩
  refine forW_inv (fun n ρ' => ∃ (out : List Int) (seed : Int) (s4 s5 s6 : Slot), ρ' = [.sh (scrD ns), .sh (.int many), .ow (.lst (out.map .int)), .sh (.int seed), s4, s5, s6] ∧ Sm out ∧ out.length ≤ 61 * n ∧ 0 ≤ seed ∧ seed < 2147483648) ⟨[], 61, .no, .no, .no, rfl, fun _ h => absurd h (by simp), by simp, by omega, by omega⟩ ?_ ?_
  · rintro ρ' ⟨out, seed, s4, s5, s6, rfl, hs, hl, hs0, hs1⟩
    dsimp only [dSeq]
    refine while_inv (fun m ρ' => ∃ (out : List Int) (seed : Int) (s4 s5 s6 : Slot), ρ' = [.sh (scrD ns), .sh (.int many), .ow (.lst (out.map .int)), .sh (.int seed), s4, s5, s6] ∧ Sm out ∧ out.length ≤ 25000 ∧ 0 ≤ seed ∧ seed < 2147483648 ∧ m = many - out.length) _ ⟨out, seed, s4, s5, s6, rfl, hs, ?_, hs0, hs1, rfl⟩ ?_
    · simp at hl; omega
    rintro m ρ' K ⟨out, seed, s4, s5, s6, rfl, hs, hl, hs0, hs1, rfl⟩ hK
    simp
    split
    · rename_i hlt
      refine ⟨by omega, by omega, ?_⟩
      refine hK (many - (out.length + 1)) _ (by omega) ⟨out ++ [(seed * seed + 40014 * seed + 23 * ↑out.length + 7) % 2147483563 / 1021 % 9973], (seed * seed + 40014 * seed + 23 * ↑out.length + 7) % 2147483563, s4, s5, s6, by simp, hs.snoc (by omega) (by omega), by simp; omega, by omega, by omega, by simp⟩
    · rename_i hge
      rw [cutD_ints]
      refine h _ ?_ ?_
      · rw [HT.sIx_nat, HT.sIx_none]
        simp
        omega
      · intro z hz
        exact hs z (List.mem_of_mem_drop (List.mem_of_mem_take hz))
  · rintro n d ρ' K hd ⟨out, seed, s4, s5, s6, rfl, hs, hl, hs0, hs1⟩ hK
    obtain ⟨cell, _, rfl⟩ := ints_get hd
    have hn : n < 63 := by
      have := (List.getElem?_eq_some_iff.mp hd).1
      simp at this
      omega
    -- the inner loop, behind the first append
    have inner : ∀ (out2 : List Int) (z : Int) (D : DEnds), Sm out2 → out2.length ≤ 61 * n + 1 → (∀ out3 : List Int, ∀ s4 s5 s6 : Slot, Sm out3 → out3.length ≤ 61 * n + 61 → D.nx [.sh (scrD ns), .sh (.int many), .ow (.lst (out3.map .int)), .sh (.int ((seed * 40692 + cell % 999983 + 29) % 2147483399)), s4, s5, s6]) → ∀ (s4 s6 : Slot),
        forW (gN 6) (dIfS (dTst (d2 gtD (dVar 5) (dC (PyData.int 0)))) (dSeq (dApp 2 (d2 modD (dVar 5) (dC (PyData.int 1019)))) (dAsg 5 (d2 fdivD (dVar 5) (dC (PyData.int 1019))))) dNext) D (rngD 0 60) [.sh (scrD ns), .sh (.int many), .ow (.lst (out2.map .int)), .sh (.int ((seed * 40692 + cell % 999983 + 29) % 2147483399)), s4, .sh (.int z), s6] := by
      intro out2 z D hs2 hl2 hD s4 s6
      refine forW_inv (fun k ρ' => ∃ (out : List Int) (z : Int) (s6 : Slot), ρ' = [.sh (scrD ns), .sh (.int many), .ow (.lst (out.map .int)), .sh (.int ((seed * 40692 + cell % 999983 + 29) % 2147483399)), s4, .sh (.int z), s6] ∧ Sm out ∧ out.length ≤ 61 * n + 1 + k) ⟨out2, z, s6, rfl, hs2, by omega⟩ ?_ ?_
      · rintro ρ' ⟨out, z, s6, rfl, hs, hl⟩
        exact hD out _ _ _ hs (by simpa using hl)
      · rintro k d ρ' K hd ⟨out, z, s6, rfl, hs, hl⟩ hK
        obtain ⟨hk, rfl⟩ := rngD_get hd
        simp
        split
        · refine ⟨by omega, hK _ ⟨out ++ [z % 1019], z / 1019, _, by rw [List.map_append]; rfl, hs.snoc (by omega) (by omega), by simp; omega⟩⟩
        · exact hK _ ⟨out, z, _, rfl, hs, by omega⟩
    simp
    split
    · refine ⟨by omega, ?_⟩
      have e : List.map PyData.int out ++ [PyData.int (cell % 9973)] = List.map PyData.int (out ++ [cell % 9973]) := by simp
      rw [e]
      exact inner _ _ _ (hs.snoc (by omega) (by omega)) (by simp; omega) (fun out3 s4 s5 s6 h3 l3 => hK _ ⟨out3, _, s4, s5, s6, rfl, h3, by omega, by omega, by omega⟩) _ _
    · exact inner _ _ _ hs (by omega) (fun out3 s4 s5 s6 h3 l3 => hK _ ⟨out3, _, s4, s5, s6, rfl, h3, by omega, by omega, by omega⟩) _ _
def n_is_whole : List Str := ["thing", "low", "high"]
def d_is_whole : DS := (dRet (dAndV (dIsi "int" (dVar 0)) (dAndV (dNotV (dIsi "bool" (dVar 0))) (dChain leD leD (dVar 1) (dVar 0) (dVar 2)))))
def isWhole (d : PyData) (lo hi : Int) : Bool := match d with
  | .int i => decide (lo ≤ i) && decide (i ≤ hi)
  | _ => false
@[simp] theorem isWhole_int (i lo hi : Int) : isWhole (.int i) lo hi = (decide (lo ≤ i) && decide (i ≤ hi)) := rfl
def c_is_whole : Ct := fun ds R _ => ∃ d lo hi, ds = [d, .int lo, .int hi] ∧ isD1 d = true ∧ R (.sh (.bool (isWhole d lo hi)))
@[simp] theorem s_c_is_whole (d : PyData) (lo hi : Int) (R : Slot → Prop) (X : XD) : c_is_whole [d, .int lo, .int hi] R X ↔ (isD1 d = true ∧ R (.sh (.bool (isWhole d lo hi)))) := by
  constructor
  · rintro ⟨d', l', h', e, q⟩
    cases e
    exact q
  · exact fun q => ⟨d, lo, hi, rfl, q⟩
theorem l_is_whole : ∀ ds R Xd, c_is_whole ds R Xd → ds.length = 3 := by
  rintro ds R Xd ⟨d, lo, hi, rfl, h⟩
  rfl
theorem p_is_whole : Kp d_is_whole n_is_whole c_is_whole := by
  rintro ds R Xd ⟨d, lo, hi, rfl, h1, h⟩
  cases d <;> simp_all [d_is_whole, st0, n_is_whole, isT, tyN, isWhole]
  split <;> simp_all
def n_is_operation : List Str := ["rows", "many", "answer", "later"]
def d_is_operation : DS := (dSeq (dIfS (dOr (dNot (dTst (dChain leD leD (dC (.int 1)) (dVar 1) (dC (.int 5))))) (dTst (d2 neD (dCB lenD (dCons (dVar 0) dNil)) (dVar 1))))
  (dRet (dC (.bool false)))
  dNext)
  (dRet (dCBC allC (dCofO (dLc [2, 3] (dIt (dVar 0)) (gT 2 (gsCons (gN 2) (gsCons (gN 3) gsNil))) dYes (dAndV (dCall c_is_whole (dCons (dVar 2) (dCons (dC (.int 0)) (dCons (dC (.int 9)) dNil)))) (dCall c_is_whole (dCons (dVar 3) (dCons (dC (.int 0)) (dCons (d2 subD (dVar 1) (dC (.int 1))) dNil))))))))))
def rwD (r : Row) : PyData := .tuple [r.1, r.2]
def opD (rs : List Row) : PyData := .tuple (rs.map rwD)
def tbD (t : List (List Row)) : PyData := .tuple (t.map opD)
def RowOk (r : Row) : Prop := isD1 r.1 = true ∧ isD1 r.2 = true
def isOp (rs : List Row) (many : Int) : Bool := decide (1 ≤ many) && decide (many ≤ 5) && decide ((rs.length : Int) = many) && rs.all fun r => isWhole r.1 0 9 && isWhole r.2 0 (many - 1)
def c_is_operation : Ct := fun ds R _ => ∃ (rs : List Row) (many : Int), ds = [opD rs, .int many] ∧ rs.length ≤ 50000 ∧ (∀ r ∈ rs, RowOk r) ∧ R (.sh (.bool (isOp rs many)))
theorem l_is_operation : ∀ ds R Xd, c_is_operation ds R Xd → ds.length = 2 := by
  rintro ds R Xd ⟨d, lo, rfl, h⟩
  rfl
theorem p_is_operation : Kp d_is_operation n_is_operation c_is_operation := by
  rintro ds R Xd ⟨rs, many, rfl, hz, hr, h⟩
  simp [d_is_operation, st0, n_is_operation, opD]
  have hb : ∀ P : Prop, P → P := fun _ h => h
  by_cases h1 : 1 ≤ many
  · by_cases h2 : many ≤ 5
    · by_cases h3 : (rs.length : Int) = many
      · rw [if_pos h1, if_pos h2, if_pos h3]
        refine lc_mapM (fun r : Row => .bool (isWhole r.1 0 9 && isWhole r.2 0 (many - 1))) hz (fun r hr' K hK => ?_) ?_
        · have ho := hr r hr'
          simp [rwD, ho.1, ho.2]
          cases hw : isWhole r.1 0 9
          · simpa [hw] using hK
          · simpa [hw] using hK
        · refine ⟨rs.map fun r => isWhole r.1 0 9 && isWhole r.2 0 (many - 1), rfl, by simp, ?_⟩
          simp [isOp, h1, h2, h3] at h
          simpa [List.all_map, Function.comp_def] using h
      · rw [if_pos h1, if_pos h2, if_neg h3]
        simpa [isOp, h1, h2, h3] using h
    · rw [if_pos h1, if_neg h2]
      simpa [isOp, h1, h2] using h
  · rw [if_neg h1]
    simpa [isOp, h1] using h
end WH
namespace WH
open PySem PySem.Spec L2
def n_look_table : List Str := ["table", "many", "at", "rows"]
def d_look_table : DS := (dSeq (dIfS (dTst (d2 eqD (dCB lenD (dCons (dVar 0) dNil)) (dC (.int 0))))
  (dRaise "BadTable" (xfD "BadTable" ["at"]) 1 (dCons (dC (.int 0)) dNil))
  dNext)
  (dSeq (dAsg 1 (dCB lenD (dCons (dIx (dVarC 0) (dC (.int 0))) dNil)))
  (dFor (dEnum (dVar 0)) (gT 2 (gsCons (gN 2) (gsCons (gN 3) gsNil)))
  (dIfS (dOr (dTst (d2 geD (dVar 2) (dC (.int 4)))) (dNot (dTst (dCall c_is_operation (dCons (dVar 3) (dCons (dVar 1) dNil))))))
  (dRaise "BadTable" (xfD "BadTable" ["at"]) 1 (dCons (dVar 2) dNil))
  dNext))))
def faultFrom (many : Int) : List (List Row) → Nat → Option Nat
  | [], _ => none
  | rs :: t, i => if 4 ≤ i ∨ isOp rs many = false then some i else faultFrom many t (i + 1)
def fault : List (List Row) → Option Nat
  | [] => some 0
  | rs :: t => faultFrom rs.length (rs :: t) 0
def TbOk (t : List (List Row)) : Prop := t.length ≤ 1000 ∧ ∀ rs ∈ t, rs.length ≤ 1000 ∧ ∀ r ∈ rs, RowOk r
def xBadTable (n : Nat) : Exn := ("BadTable", xfD "BadTable" ["at"] [.int (n : Int)])
def c_look_table : Ct := fun ds R Xd => ∃ t, ds = [tbD t] ∧ TbOk t ∧ (fault t = none → R (.sh .none)) ∧ ∀ n, fault t = some n → Xd (xBadTable n)
theorem l_look_table : ∀ ds R Xd, c_look_table ds R Xd → ds.length = 1 := by
  rintro ds R Xd ⟨d, rfl, h⟩
  rfl
@[simp] theorem s_c_is_operation (rs : List Row) (many : Int) (R : Slot → Prop) (X : XD) : c_is_operation [opD rs, .int many] R X ↔ (∃ rs', opD rs' = opD rs ∧ rs'.length ≤ 50000 ∧ (∀ r ∈ rs', RowOk r) ∧ R (.sh (.bool (isOp rs' many)))) := by
  constructor
  · rintro ⟨rs', m', e, q⟩
    simp only [List.cons.injEq, PyData.int.injEq, and_true] at e
    obtain ⟨e1, rfl⟩ := e
    exact ⟨rs', e1.symm, q⟩
  · rintro ⟨rs', e, q⟩
    exact ⟨rs', many, by rw [e], q⟩
theorem p_look_table : Kp d_look_table n_look_table c_look_table := by
  rintro ds R Xd ⟨t, rfl, ⟨hz, hr⟩, h0, h1⟩
  cases t with
  | nil =>
    have := h1 0 rfl
    simp [d_look_table, st0, n_look_table, tbD]
    exact this
  | cons rs t =>
    simp [d_look_table, st0, n_look_table, tbD]
    have e0 : opD rs = .tuple (rs.map rwD) := rfl
    rw [show lenD [opD rs] = lenD [.tuple (rs.map rwD)] from rfl]
    simp
    have hl : (enumD (opD rs :: t.map opD)) = enumD ((rs :: t).map opD) := rfl
    rw [hl]
    refine forW_inv (fun n ρ' => ∃ s2 s3 : Slot, ρ' = [.sh (.tuple ((rs :: t).map opD)), .sh (.int rs.length), s2, s3] ∧ fault (rs :: t) = faultFrom rs.length ((rs :: t).drop n) n) ⟨.no, .no, rfl, rfl⟩ ?_ ?_
    · rintro ρ' ⟨s2, s3, rfl, hf⟩
      refine h0 ?_
      rw [hf, enumD_len, List.length_map, List.drop_length]
      rfl
    · rintro n d ρ' K hd ⟨s2, s3, rfl, hf⟩ hK
      obtain ⟨e, he, rfl⟩ := enumD_get hd
      rw [List.getElem?_map] at he
      cases q : (rs :: t)[n]? with
      | none => rw [q] at he; cases he
      | some op =>
        rw [q] at he
        cases he
        have hlt : n < (rs :: t).length := (List.getElem?_eq_some_iff.mp q).1
        have hop : (rs :: t)[n] = op := (List.getElem?_eq_some_iff.mp q).2
        have hm : op ∈ rs :: t := List.mem_of_getElem? q
        rw [List.drop_eq_getElem_cons hlt, hop] at hf
        simp
        by_cases h4 : 4 ≤ (n : Int)
        · rw [if_pos h4]
          refine h1 n ?_
          rw [hf]
          unfold faultFrom
          rw [if_pos (.inl (by omega))]
        · rw [if_neg h4]
          refine ⟨op, rfl, by have := (hr op hm).1; omega, fun a b hab => (hr op hm).2 (a, b) hab, ?_⟩
          cases hb : isOp op rs.length with
          | false =>
            simp
            refine h1 n ?_
            rw [hf]
            unfold faultFrom
            rw [if_pos (.inr hb)]
          | true =>
            simp
            refine hK _ ⟨_, _, rfl, ?_⟩
            rw [hf]
            conv => lhs; unfold faultFrom
            rw [if_neg (by rw [hb]; simp; omega)]
def rowI (r : Int × Int) : Row := (.int r.1, .int r.2)
def embT (t : Tab) : List (List Row) := t.map fun op => op.map rowI
def tabD (t : Tab) : PyData := tbD (embT t)
theorem isOp_good {n : Nat} {op : List (Int × Int)} (h1 : 1 ≤ n) (h5 : n ≤ 5) (h : GoodOp n op) : isOp (op.map rowI) n = true := by
  obtain ⟨hl, hr⟩ := h
  unfold isOp
  simp only [Bool.and_eq_true, decide_eq_true_eq, List.all_eq_true, List.length_map]
  refine ⟨⟨⟨by omega, by omega⟩, by omega⟩, fun r hr' => ?_⟩
  obtain ⟨q, hq, rfl⟩ := List.mem_map.mp hr'
  have := hr q hq
  simp [rowI, isWhole]
  omega
theorem faultFrom_good {n : Nat} (h1 : 1 ≤ n) (h5 : n ≤ 5) : ∀ (t : Tab) (i : Nat), i + t.length ≤ 4 → (∀ op ∈ t, GoodOp n op) → faultFrom n (embT t) i = none
  | [], _, _, _ => rfl
  | op :: t, i, hi, h => by
    simp only [List.length_cons] at hi
    show (if 4 ≤ i ∨ isOp (op.map rowI) n = false then some i else faultFrom n (embT t) (i + 1)) = none
    rw [if_neg (by rw [isOp_good h1 h5 (h op List.mem_cons_self)]; simp; omega)]
    exact faultFrom_good h1 h5 t (i + 1) (by omega) fun o ho => h o (List.mem_cons_of_mem _ ho)
theorem fault_good {n : Nat} {t : Tab} (g : GoodN n t) : fault (embT t) = none := by
  cases t with
  | nil => have := g.o1; simp at this
  | cons op t =>
    have hop := g.op op List.mem_cons_self
    show faultFrom ((op.map rowI).length : Nat) (embT (op :: t)) 0 = none
    have := faultFrom_good g.n1 g.n5 (op :: t) 0 (by have := g.o4; simpa using this) g.op
    rw [List.length_map, hop.1]
    exact this
theorem rowI_ok (r : Int × Int) : RowOk (rowI r) := ⟨rfl, rfl⟩
theorem tbOk_good {n : Nat} {t : Tab} (g : GoodN n t) : TbOk (embT t) := by
  refine ⟨by have := g.o4; simp [embT]; omega, fun rs hrs => ?_⟩
  obtain ⟨op, hop, rfl⟩ := List.mem_map.mp hrs
  have := (g.op op hop).1
  have := g.n5
  refine ⟨by simp; omega, fun r hr => ?_⟩
  obtain ⟨q, _, rfl⟩ := List.mem_map.mp hr
  exact rowI_ok q
def goodB (n : Nat) (t : Tab) : Bool := decide (1 ≤ n) && decide (n ≤ 5) && decide (1 ≤ t.length) && decide (t.length ≤ 4) && t.all fun op => decide (op.length = n) && op.all fun r => decide (0 ≤ r.1) && decide (r.1 ≤ 9) && decide (0 ≤ r.2) && decide (r.2 < n)
theorem good_of_B {n : Nat} {t : Tab} (h : goodB n t = true) : GoodN n t := by
  simp only [goodB, Bool.and_eq_true, decide_eq_true_eq, List.all_eq_true] at h
  obtain ⟨⟨⟨⟨h1, h2⟩, h3⟩, h4⟩, h5⟩ := h
  exact ⟨h1, h2, h3, h4, fun op ho => ⟨(h5 op ho).1, fun r hr => by have := (h5 op ho).2 r hr; omega⟩⟩
def n__law_known : List Str := ["_law_d", "_law_some"]
def d__law_known : DS := (dSeq (dAsg 1 (dOfO (dLst (dCons (dTup (dCons (dTup (dCons (dTup (dCons (dC (.int 0)) (dCons (dC (.int 1)) dNil))) (dCons (dTup (dCons (dC (.int 1)) (dCons (dC (.int 1)) dNil))) dNil))) dNil)) (dCons (dTup (dCons (dTup (dCons (dTup (dCons (dC (.int 0)) (dCons (dC (.int 1)) dNil))) (dCons (dTup (dCons (dC (.int 1)) (dCons (dC (.int 1)) dNil))) (dCons (dTup (dCons (dC (.int 2)) (dCons (dC (.int 2)) dNil))) dNil)))) (dCons (dTup (dCons (dTup (dCons (dC (.int 0)) (dCons (dC (.int 2)) dNil))) (dCons (dTup (dCons (dC (.int 1)) (dCons (dC (.int 1)) dNil))) (dCons (dTup (dCons (dC (.int 2)) (dCons (dC (.int 2)) dNil))) dNil)))) dNil))) dNil)))))
  (dSeq (dAsg 1 (d2 addD (dVar 1) (dOfO (dLst (dCons (dTup (dCons (dTup (dCons (dTup (dCons (dC (.int 0)) (dCons (dC (.int 1)) dNil))) (dCons (dTup (dCons (dC (.int 0)) (dCons (dC (.int 1)) dNil))) (dCons (dTup (dCons (dC (.int 0)) (dCons (dC (.int 1)) dNil))) dNil)))) (dCons (dTup (dCons (dTup (dCons (dC (.int 0)) (dCons (dC (.int 2)) dNil))) (dCons (dTup (dCons (dC (.int 0)) (dCons (dC (.int 2)) dNil))) (dCons (dTup (dCons (dC (.int 0)) (dCons (dC (.int 2)) dNil))) dNil)))) dNil))) dNil)))))
  (dSeq (dAsg 1 (d2 addD (dVar 1) (dOfO (dLst (dCons (dTup (dCons (dTup (dCons (dTup (dCons (dC (.int 0)) (dCons (dC (.int 1)) dNil))) (dCons (dTup (dCons (dC (.int 1)) (dCons (dC (.int 1)) dNil))) (dCons (dTup (dCons (dC (.int 2)) (dCons (dC (.int 1)) dNil))) dNil)))) (dCons (dTup (dCons (dTup (dCons (dC (.int 0)) (dCons (dC (.int 2)) dNil))) (dCons (dTup (dCons (dC (.int 1)) (dCons (dC (.int 2)) dNil))) (dCons (dTup (dCons (dC (.int 2)) (dCons (dC (.int 2)) dNil))) dNil)))) dNil))) dNil)))))
  (dSeq (dAsg 1 (d2 addD (dVar 1) (dOfO (dLst (dCons (dTup (dCons (dTup (dCons (dTup (dCons (dC (.int 0)) (dCons (dC (.int 1)) dNil))) (dCons (dTup (dCons (dC (.int 1)) (dCons (dC (.int 2)) dNil))) (dCons (dTup (dCons (dC (.int 2)) (dCons (dC (.int 0)) dNil))) dNil)))) dNil)) (dCons (dTup (dCons (dTup (dCons (dTup (dCons (dC (.int 0)) (dCons (dC (.int 1)) dNil))) (dCons (dTup (dCons (dC (.int 0)) (dCons (dC (.int 0)) dNil))) dNil))) dNil)) dNil))))))
  (dSeq (dAsg 1 (d2 addD (dVar 1) (dOfO (dLst (dCons (dTup (dCons (dTup (dCons (dTup (dCons (dC (.int 0)) (dCons (dC (.int 1)) dNil))) (dCons (dTup (dCons (dC (.int 0)) (dCons (dC (.int 1)) dNil))) (dCons (dTup (dCons (dC (.int 0)) (dCons (dC (.int 2)) dNil))) dNil)))) (dCons (dTup (dCons (dTup (dCons (dC (.int 0)) (dCons (dC (.int 2)) dNil))) (dCons (dTup (dCons (dC (.int 0)) (dCons (dC (.int 1)) dNil))) (dCons (dTup (dCons (dC (.int 0)) (dCons (dC (.int 2)) dNil))) dNil)))) dNil))) dNil)))))
  (dSeq (dAsg 1 (d2 addD (dVar 1) (dOfO (dLst (dCons (dTup (dCons (dTup (dCons (dTup (dCons (dC (.int 0)) (dCons (dC (.int 1)) dNil))) (dCons (dTup (dCons (dC (.int 0)) (dCons (dC (.int 2)) dNil))) (dCons (dTup (dCons (dC (.int 0)) (dCons (dC (.int 3)) dNil))) (dCons (dTup (dCons (dC (.int 0)) (dCons (dC (.int 3)) dNil))) dNil))))) (dCons (dTup (dCons (dTup (dCons (dC (.int 1)) (dCons (dC (.int 0)) dNil))) (dCons (dTup (dCons (dC (.int 1)) (dCons (dC (.int 0)) dNil))) (dCons (dTup (dCons (dC (.int 1)) (dCons (dC (.int 0)) dNil))) (dCons (dTup (dCons (dC (.int 1)) (dCons (dC (.int 0)) dNil))) dNil))))) dNil))) dNil)))))
  (dRet (dIx (dVarC 1) (d2 modD (dIx (dVarC 0) (dC (.int 0))) (dC (.int 8)))))))))))
def knownT : List Tab := [[[(0, 1), (1, 1)]], [[(0, 1), (1, 1), (2, 2)], [(0, 2), (1, 1), (2, 2)]], [[(0, 1), (0, 1), (0, 1)], [(0, 2), (0, 2), (0, 2)]],
  [[(0, 1), (1, 1), (2, 1)], [(0, 2), (1, 2), (2, 2)]], [[(0, 1), (1, 2), (2, 0)]], [[(0, 1), (0, 0)]], [[(0, 1), (0, 1), (0, 2)], [(0, 2), (0, 1), (0, 2)]],
  [[(0, 1), (0, 2), (0, 3), (0, 3)], [(1, 0), (1, 0), (1, 0), (1, 0)]]]
theorem known_good : ∀ t ∈ knownT, ∃ n, GoodN n t := by
  intro t ht
  have h : knownT.all (fun t => (List.range 6).any fun n => goodB n t) = true := by decide +kernel
  have := (List.all_eq_true.mp h) t ht
  obtain ⟨n, _, hn⟩ := List.any_eq_true.mp this
  exact ⟨n, good_of_B hn⟩
def c__law_known : Ct := fun ds R _ => ∃ (ns : List Int) (a : Int), ds = [.list (ns.map .int)] ∧ ns[0]? = some a ∧ 0 ≤ a ∧ ∀ t n, t ∈ knownT → GoodN n t → R (.sh (tabD t))
theorem l__law_known : ∀ ds R Xd, c__law_known ds R Xd → ds.length = 1 := by
  rintro ds R Xd ⟨d, _, rfl, h⟩
  rfl
theorem p__law_known : Kp d__law_known n__law_known c__law_known := by
  rintro ds R Xd ⟨ns, a, rfl, ha, h0, h⟩
  simp [d__law_known, st0, n__law_known, ha]
  have e : ∃ i : Nat, a % 8 = (i : Int) ∧ i < 8 := ⟨(a % 8).toNat, by omega, by omega⟩
  obtain ⟨i, hi, hlt⟩ := e
  rw [hi, atI_nat]
  have key : ∀ l : List PyData, l = knownT.map tabD → ∃ d, l[i]? = some d ∧ R (Slot.sh d) := by
    rintro l rfl
    have hk : i < knownT.length := hlt
    refine ⟨tabD knownT[i], by simp [hk], ?_⟩
    obtain ⟨n, hn⟩ := known_good _ (List.getElem_mem hk)
    exact h _ n (List.getElem_mem hk) hn
  exact key _ rfl
def n__law_rows : List Str := ["_law_d", "_law_many", "_law_answers", "_law_k"]
def d__law_rows : DS := (dSeq (dAsg 2 (dIx (dCofO (dLst (dCons (dC (.int 1)) (dCons (dC (.int 2)) (dCons (dC (.int 10)) dNil))))) (d2 modD (dIx (dVarC 0) (dC (.int 0))) (dC (.int 3)))))
  (dRet (dCBC tupC (dCofO (dLc [3] (dRng1 (dVar 1)) (gN 3) dYes (dTup (dCons (d2 modD (dIx (dVarC 0) (d2 addD (dC (.int 1)) (dVar 3))) (dVar 2)) (dCons (d2 modD (d2 fdivD (dIx (dVarC 0) (d2 addD (dC (.int 1)) (dVar 3))) (dC (.int 10))) (dVar 1)) dNil))))))))
def c__law_rows : Ct := fun ds R _ => ∃ (ns : List Int) (many : Nat), ds = [.list (ns.map .int), .int many] ∧ Sm ns ∧ many < ns.length ∧ 1 ≤ many ∧ many ≤ 5 ∧ ∀ op, GoodOp many op → R (.sh (opD (op.map rowI)))
theorem l__law_rows : ∀ ds R Xd, c__law_rows ds R Xd → ds.length = 2 := by
  rintro ds R Xd ⟨d, _, rfl, h⟩
  rfl
theorem ints_at {ns : List Int} {i : Nat} (h : i < ns.length) : (ns.map PyData.int)[i]? = some (.int ns[i]) := by simp [h]
theorem p__law_rows : Kp d__law_rows n__law_rows c__law_rows := by
  rintro ds R Xd ⟨ns, many, rfl, hs, hl, h1, h5, h⟩
  have h0 : ns[0]? = some ns[0] := by simp
  simp [d__law_rows, st0, n__law_rows, h0]
  have e : ∃ i : Nat, ns[0] % 3 = (i : Int) ∧ i < 3 := ⟨(ns[0] % 3).toNat, by omega, by omega⟩
  obtain ⟨i, hi, hlt⟩ := e
  rw [hi, atI_nat]
  obtain ⟨an, ha, han⟩ : ∃ an : Int, ([PyData.int 1, PyData.int 2, PyData.int 10] : List PyData)[i]? = some (.int an) ∧ 1 ≤ an ∧ an ≤ 10 := by
    match i, hlt with
    | 0, _ => exact ⟨1, rfl, by omega⟩
    | 1, _ => exact ⟨2, rfl, by omega⟩
    | 2, _ => exact ⟨10, rfl, by omega⟩
  rw [ha]
  simp
  refine ⟨by omega, ?_⟩
  refine lc_rel (fun k d x => ∃ a b : Int, x = .tuple [.int a, .int b] ∧ (0 ≤ a ∧ a ≤ 9) ∧ 0 ≤ b ∧ b < many) (by simp; omega) (fun k d hd K hK => ?_) fun out ho hp => ?_
  · obtain ⟨hk, rfl⟩ := rngD_get hd
    have hk1 : 1 + k < ns.length := by omega
    have e1 : (1 : Int) + (0 + (k : Int)) = ((1 + k : Nat) : Int) := by omega
    have e2 : atI (ns.map PyData.int) (1 + (k : Int)) = some (.int ns[1 + k]) := by
      have : (1 : Int) + (k : Int) = ((1 + k : Nat) : Int) := by omega
      rw [this, atI_nat]
      exact ints_at hk1
    simp [e2]
    refine ⟨by omega, by omega, hK _ ⟨_, _, rfl, ?_⟩⟩
    have m1 := Int.emod_nonneg ns[1 + k] (show an ≠ 0 by omega)
    have m2 := Int.emod_lt_of_pos ns[1 + k] (show 0 < an by omega)
    have m3 := Int.emod_nonneg (ns[1 + k] / 10) (show (many : Int) ≠ 0 by omega)
    have m4 := Int.emod_lt_of_pos (ns[1 + k] / 10) (show 0 < (many : Int) by omega)
    omega
  · simp at ho
    -- the rows, as numbers
    have key : ∀ l : List PyData, (∀ x ∈ l, ∃ a b : Int, x = .tuple [.int a, .int b] ∧ (0 ≤ a ∧ a ≤ 9) ∧ 0 ≤ b ∧ b < many) → ∃ op : List (Int × Int), l = (op.map rowI).map rwD ∧ op.length = l.length ∧ ∀ r ∈ op, (0 ≤ r.1 ∧ r.1 ≤ 9) ∧ 0 ≤ r.2 ∧ r.2 < many := by
      intro l
      induction l with
      | nil => intro _; exact ⟨[], rfl, rfl, by simp⟩
      | cons x l ih =>
        intro hx
        obtain ⟨a, b, rfl, hab⟩ := hx x List.mem_cons_self
        obtain ⟨op, e, el, eo⟩ := ih fun y hy => hx y (List.mem_cons_of_mem _ hy)
        refine ⟨(a, b) :: op, by rw [e]; rfl, by simp [el], fun r hr => ?_⟩
        rcases List.mem_cons.mp hr with rfl | hr
        · exact hab
        · exact eo r hr
    obtain ⟨op, e, el, eo⟩ := key out fun x hx => by
      obtain ⟨k, hk, hx⟩ := List.mem_iff_getElem.mp hx
      have hk2 : k < many := by omega
      exact hp k (.int (0 + (k : Int))) x (by simp [rngD, hk2]) (by simp [hk, hx])
    subst e
    exact h op ⟨by omega, eo⟩
def n__law_table : List Str := ["_law_d", "_law_most_stands", "_law_most_operations", "_law_many", "_law_k"]
def d__law_table : DS := (dSeq (dIfS (dTst (d2 ltD (d2 modD (dIx (dVarC 0) (dC (.int 0))) (dC (.int 5))) (dC (.int 2))))
  (dRet (dCall c__law_known (dCons (dSl (dVarC 0) (dSome (dC (.int 1))) dNo) dNil)))
  dNext)
  (dSeq (dAsg 3 (d2 addD (dC (.int 1)) (d2 modD (dIx (dVarC 0) (dC (.int 1))) (dVar 1))))
  (dRet (dCBC tupC (dCofO (dLc [4] (dRng1 (d2 addD (dC (.int 1)) (d2 modD (dIx (dVarC 0) (dC (.int 2))) (dVar 2)))) (gN 4) dYes (dCall c__law_rows (dCons (dSl (dVarC 0) (dSome (d2 addD (dC (.int 3)) (d2 mulD (dC (.int 6)) (dVar 4)))) dNo) (dCons (dVar 3) dNil)))))))))
def c__law_table : Ct := fun ds R _ => ∃ (ns : List Int) (ms mo : Nat), ds = [.list (ns.map .int), .int ms, .int mo] ∧ Sm ns ∧ 27 ≤ ns.length ∧ ns.length ≤ 50000 ∧ 1 ≤ ms ∧ ms ≤ 5 ∧ 1 ≤ mo ∧ mo ≤ 4 ∧ ∀ t n, GoodN n t → (t ∈ knownT ∨ (n ≤ ms ∧ t.length ≤ mo)) → R (.sh (tabD t))
theorem l__law_table : ∀ ds R Xd, c__law_table ds R Xd → ds.length = 3 := by
  rintro ds R Xd ⟨d, _, _, rfl, h⟩
  rfl
theorem Sm.drop {ns : List Int} (h : Sm ns) (n : Nat) : Sm (ns.drop n) := fun z hz => h z (List.mem_of_mem_drop hz)
theorem cut_from {ns : List Int} {k : Nat} (h : k ≤ ns.length) : cutD (ns.map PyData.int) (some (k : Int)) none = (ns.drop k).map PyData.int := by
  rw [cutD_ints, HT.sIx_nat, HT.sIx_none]
  rw [Nat.min_eq_left h, List.take_of_length_le (by simp)]
theorem cut_ab {ns : List Int} {a b : Nat} (hab : a ≤ b) (h : b ≤ ns.length) : cutD (ns.map PyData.int) (some (a : Int)) (some (b : Int)) = ((ns.drop a).take (b - a)).map PyData.int := by
  rw [cutD_ints, HT.sIx_nat, HT.sIx_nat]
  rw [Nat.min_eq_left h, Nat.min_eq_left (show a ≤ ns.length by omega)]
theorem p__law_table : Kp d__law_table n__law_table c__law_table := by
  rintro ds R Xd ⟨ns, ms, mo, rfl, hs, hl, hl2, a1, a5, b1, b4, h⟩
  have h0 : ns[0]? = some ns[0] := List.getElem?_eq_getElem (by omega)
  have h1 : ns[1]? = some ns[1] := List.getElem?_eq_getElem (by omega)
  have h2 : ns[2]? = some ns[2] := List.getElem?_eq_getElem (by omega)
  simp [d__law_table, st0, n__law_table, h0]
  split
  · refine ⟨ns.drop 1, ns[1], ?_, ?_, (hs.get (by omega)).1, fun t n ht hg => ⟨_, rfl, h t n hg (.inl ht)⟩⟩
    · rw [show (1 : Int) = ((1 : Nat) : Int) from rfl, cut_from (by omega)]
    · rw [List.getElem?_drop]; exact h1
  · simp [h1, h2]
    have p0 := hs.get (show 1 < ns.length by omega)
    have p2 := hs.get (show 2 < ns.length by omega)
    obtain ⟨n, hn, hn1⟩ : ∃ n : Nat, (1 : Int) + ns[1] % (ms : Int) = (n : Int) ∧ 1 ≤ n ∧ n ≤ ms := by
      have m3 := Int.emod_nonneg ns[1] (show (ms : Int) ≠ 0 by omega)
      have m4 := Int.emod_lt_of_pos ns[1] (show 0 < (ms : Int) by omega)
      exact ⟨(1 + ns[1] % (ms : Int)).toNat, by omega, by omega, by omega⟩
    obtain ⟨o, ho, ho1⟩ : ∃ n : Nat, (1 : Int) + ns[2] % (mo : Int) = (n : Int) ∧ 1 ≤ n ∧ n ≤ mo := by
      have m3 := Int.emod_nonneg ns[2] (show (mo : Int) ≠ 0 by omega)
      have m4 := Int.emod_lt_of_pos ns[2] (show 0 < (mo : Int) by omega)
      exact ⟨(1 + ns[2] % (mo : Int)).toNat, by omega, by omega, by omega⟩
    refine ⟨by omega, by omega, by omega, by omega, ?_⟩
    rw [hn, ho]
    simp
    refine lc_rel (fun k d x => ∃ op, x = opD (op.map rowI) ∧ GoodOp n op) (by simp; omega) (fun k d hd K hK => ?_) fun out hou hp => ?_
    · obtain ⟨hk, rfl⟩ := rngD_get hd
      simp
      have e3 : (3 : Int) + 6 * (k : Int) = ((3 + 6 * k : Nat) : Int) := by omega
      rw [e3]
      rw [cut_from (by omega)]
      refine ⟨ns.drop (3 + 6 * k), n, rfl, hs.drop _, by simp; omega, by omega, by omega, fun op hop => ⟨_, rfl, hK _ ⟨op, rfl, hop⟩⟩⟩
    · simp at hou
      have key : ∀ l : List PyData, (∀ x ∈ l, ∃ op, x = opD (op.map rowI) ∧ GoodOp n op) → ∃ t : Tab, l = (embT t).map opD ∧ t.length = l.length ∧ ∀ op ∈ t, GoodOp n op := by
        intro l
        induction l with
        | nil => intro _; exact ⟨[], rfl, rfl, by simp⟩
        | cons x l ih =>
          intro hx
          obtain ⟨op, rfl, hop⟩ := hx x List.mem_cons_self
          obtain ⟨t, e, el, eo⟩ := ih fun y hy => hx y (List.mem_cons_of_mem _ hy)
          refine ⟨op :: t, by rw [e]; rfl, by simp [el], fun r hr => ?_⟩
          rcases List.mem_cons.mp hr with rfl | hr
          · exact hop
          · exact eo r hr
      obtain ⟨t, e, el, eo⟩ := key out fun x hx => by
        obtain ⟨k, hk, hx⟩ := List.mem_iff_getElem.mp hx
        have hk2 : k < o := by omega
        exact hp k (.int (0 + (k : Int))) x (by simp [rngD, hk2]) (by simp [hk, hx])
      subst e
      exact h t n ⟨by omega, by omega, by omega, by omega, eo⟩ (.inr ⟨by omega, by omega⟩)
end WH
namespace WH
open PySem PySem.Spec L2
def n__law_same : List Str := ["_law_found", "_law_due", "_law_k"]
def d__law_same (c_self : Ct) : DS := (dSeq (dIfS (dTst (d2 isD (dVar 1) (dC .none)))
  (dRet (d2 isD (dVar 0) (dC .none)))
  dNext)
  (dSeq (dIfS (dTst (dIsi2 "list" "tuple" (dVar 1)))
  (dSeq (dIfS (dOr (dTst (d2 neD (dIsi "list" (dVar 0)) (dIsi "list" (dVar 1)))) (dTst (d2 neD (dIsi "tuple" (dVar 0)) (dIsi "tuple" (dVar 1)))))
  (dRet (dC (.bool false)))
  dNext)
  (dRet (dAndV (d2 eqD (dCB lenD (dCons (dVar 0) dNil)) (dCB lenD (dCons (dVar 1) dNil))) (dCBC allC (dCofO (dLc [2] (dRng1 (dCB lenD (dCons (dVar 1) dNil))) (gN 2) dYes (dCall c_self (dCons (dIx (dVarC 0) (dVar 2)) (dCons (dIx (dVarC 1) (dVar 2)) dNil)))))))))
  dNext)
  (dSeq (dIfS (dOr (dTst (d2 neD (dIsi "bool" (dVar 0)) (dIsi "bool" (dVar 1)))) (dTst (d2 neD (dIsi "str" (dVar 0)) (dIsi "str" (dVar 1)))))
  (dRet (dC (.bool false)))
  dNext)
  (dRet (dAndV (d2 eqD (dIsi "int" (dVar 0)) (dIsi "int" (dVar 1))) (d2 eqD (dVar 0) (dVar 1)))))))
def Sd : Nat → PyData → Prop
  | _, .none => True
  | _, .int _ => True
  | _, .bool _ => True
  | _, .str s => PyData.strOk s = true
  | n + 1, .list ds => ds.length ≤ 50000 ∧ ∀ d ∈ ds, Sd n d
  | n + 1, .tuple ds => ds.length ≤ 50000 ∧ ∀ d ∈ ds, Sd n d
  | _, _ => False
theorem Sd.mono : ∀ {n m : Nat} {d : PyData}, Sd n d → n ≤ m → Sd m d
  | n, m, .none, _, _ => by cases m <;> trivial
  | n, m, .int _, _, _ => by cases m <;> trivial
  | n, m, .bool _, _, _ => by cases m <;> trivial
  | n, m, .str _, h, _ => by cases m <;> cases n <;> exact h
  | n + 1, m + 1, .list ds, h, hm => ⟨h.1, fun d hd => (h.2 d hd).mono (by omega)⟩
  | n + 1, m + 1, .tuple ds, h, hm => ⟨h.1, fun d hd => (h.2 d hd).mono (by omega)⟩
  | n, m, .dict _, h, hm => by cases n <;> exact h.elim
theorem Sd.cl : ∀ {n : Nat} {d : PyData}, Sd n d → d.canLay0 = true ∧ d.depth ≤ n
  | n, .none, _ => ⟨rfl, by simp [PyData.depth]⟩
  | n, .int _, _ => ⟨rfl, by simp [PyData.depth]⟩
  | n, .bool _, _ => ⟨rfl, by simp [PyData.depth]⟩
  | n, .str _, h => ⟨by cases n <;> exact h, by simp [PyData.depth]⟩
  | n, .dict _, h => by cases n <;> exact h.elim
  | n + 1, .list ds, h => by
    have : PyData.canLayAll0 ds = true ∧ PyData.depthAll ds ≤ n := by
      have h2 := h.2
      clear h
      induction ds with
      | nil => exact ⟨rfl, by simp [PyData.depthAll]⟩
      | cons x xs ih =>
        have a := (h2 x (by simp)).cl
        have b := ih fun y hy => h2 y (List.mem_cons_of_mem _ hy)
        exact ⟨by simp [PyData.canLayAll0, a.1, b.1], by simp only [PyData.depthAll]; omega⟩
    exact ⟨this.1, by simp only [PyData.depth]; omega⟩
  | n + 1, .tuple ds, h => by
    have : PyData.canLayAll0 ds = true ∧ PyData.depthAll ds ≤ n := by
      have h2 := h.2
      clear h
      induction ds with
      | nil => exact ⟨rfl, by simp [PyData.depthAll]⟩
      | cons x xs ih =>
        have a := (h2 x (by simp)).cl
        have b := ih fun y hy => h2 y (List.mem_cons_of_mem _ hy)
        exact ⟨by simp [PyData.canLayAll0, a.1, b.1], by simp only [PyData.depthAll]; omega⟩
    exact ⟨this.1, by simp only [PyData.depth]; omega⟩
theorem Sd.shaped {n : Nat} {d : PyData} (h : Sd n d) (hn : n ≤ 64) : SeqAt.shaped d = true := by
  have := h.cl
  unfold SeqAt.shaped
  simp [this.1]
  omega
def cc__law_same : Nat → Ct
  | 0 => fun _ _ _ => False
  | n + 1 => fun ds R _ => ∃ a, ds = [a, a] ∧ Sd n a ∧ R (.sh (.bool true))
def c__law_same : Ct := cc__law_same 9
theorem l__law_same : ∀ n ds R Xd, cc__law_same n ds R Xd → ds.length = 2 := by
  intro n ds R Xd h
  cases n with
  | zero => exact h.elim
  | succ n => obtain ⟨a, rfl, h⟩ := h; rfl
theorem all_true {bs : List PyData} (h : ∀ x ∈ bs, x = .bool true) {Q : PyData → Prop} (q : Q (.bool true)) : allC false bs Q := by
  refine ⟨bs.map fun _ => true, rfl, ?_, ?_⟩
  · rw [List.map_map]
    apply List.ext_getElem
    · simp
    · intro i h1 h2
      simp
      exact h _ (List.getElem_mem h1)
  · have : (bs.map fun _ => true).all id = true := by simp
    rw [this]; exact q
theorem p__law_same : ∀ n, Kp (d__law_same (cc__law_same n)) n__law_same (cc__law_same (n + 1)) := by
  rintro n ds R Xd ⟨a, rfl, hs, h⟩
  cases a with
  | none => simpa [d__law_same, st0, n__law_same] using h
  | int i => simpa [d__law_same, st0, n__law_same] using h
  | bool i => simpa [d__law_same, st0, n__law_same] using h
  | str i =>
    have hs' : PyData.strOk i = true := by cases n <;> exact hs
    simpa [d__law_same, st0, n__law_same, hs'] using h
  | list ds =>
    cases n with
    | zero => exact hs.elim
    | succ n =>
    have hs1 : ds.length ≤ 50000 := hs.1
    simp [d__law_same, st0, n__law_same]
    refine ⟨by omega, ?_⟩
    refine lc_rel (fun _ _ x => x = .bool true) (by simpa using hs.1) (fun k d hd K hK => ?_) fun out hl hp => ?_
    · obtain ⟨hk, rfl⟩ := rngD_get hd
      simp [List.getElem?_eq_getElem hk]
      exact ⟨ds[k], rfl, hs.2 _ (List.getElem_mem hk), ⟨_, rfl, hK _ rfl⟩⟩
    · refine all_true (fun x hx => ?_) h
      obtain ⟨k, hk, rfl⟩ := List.mem_iff_getElem.mp hx
      exact hp k (.int (0 + (k : Int))) _ (by have : k < ds.length := by simpa [hl] using hk
                                              simp [rngD, this]) (List.getElem?_eq_getElem hk)
  | tuple ds =>
    cases n with
    | zero => exact hs.elim
    | succ n =>
    have hs1 : ds.length ≤ 50000 := hs.1
    simp [d__law_same, st0, n__law_same]
    refine ⟨by omega, ?_⟩
    refine lc_rel (fun _ _ x => x = .bool true) (by simpa using hs.1) (fun k d hd K hK => ?_) fun out hl hp => ?_
    · obtain ⟨hk, rfl⟩ := rngD_get hd
      simp [List.getElem?_eq_getElem hk]
      exact ⟨ds[k], rfl, hs.2 _ (List.getElem_mem hk), ⟨_, rfl, hK _ rfl⟩⟩
    · refine all_true (fun x hx => ?_) h
      obtain ⟨k, hk, rfl⟩ := List.mem_iff_getElem.mp hx
      exact hp k (.int (0 + (k : Int))) _ (by have : k < ds.length := by simpa [hl] using hk
                                              simp [rngD, this]) (List.getElem?_eq_getElem hk)
  | dict _ => cases n <;> exact hs.elim
end WH
namespace WH
open PySem PySem.Spec L2
variable [ClsA]
theorem cut_on {ds : List PyData} {k : Nat} (h : k ≤ ds.length) : cutD ds (some (k : Int)) none = ds.drop k := by
  unfold cutD
  rw [HT.sIx_nat, HT.sIx_none]
  rw [Nat.min_eq_left h, List.take_of_length_le (by simp)]
theorem mod_at (a : Int) {n : Nat} (h : 0 < n) : ∃ i : Nat, a % (n : Int) = (i : Int) ∧ i < n := by
  have m3 := Int.emod_nonneg a (show (n : Int) ≠ 0 by omega)
  have m4 := Int.emod_lt_of_pos a (show 0 < (n : Int) by omega)
  exact ⟨(a % (n : Int)).toNat, by omega, by omega⟩
abbrev xP (nm : Str) : Exn := (nm, [(("word" : Str), .str nm)])
def many0 (t : List (List Row)) : Nat := (t.headD []).length
def Gd (t : List (List Row)) (X : XD) (P : Prop) : Prop := TbOk t ∧ (∀ n, fault t = some n → X (xBadTable n)) ∧ (fault t = none → P)
theorem gd_good {n : Nat} {t : Tab} (g : GoodN n t) {X : XD} {P : Prop} (h : P) : Gd (embT t) X P := ⟨tbOk_good g, fun m hm => (by rw [fault_good g] at hm; cases hm), fun _ => h⟩
theorem many0_good {n : Nat} {t : Tab} (g : GoodN n t) : many0 (embT t) = n := by
  cases t with
  | nil => have := g.o1; simp at this
  | cons op t => simp [many0, embT, (g.op op List.mem_cons_self).1]
theorem gd_cons {t : List (List Row)} (h : fault t = none) : ∃ rs t', t = rs :: t' := by
  cases t with
  | nil => cases h
  | cons rs t => exact ⟨rs, t, rfl⟩
theorem c_look {t : List (List Row)} {R : Slot → Prop} {X : XD} {P : Prop} (h : Gd t X P) (k : P → fault t = none → R (.sh .none)) : c_look_table [tbD t] R X := ⟨t, rfl, h.1, fun e => k (h.2.2 e) e, h.2.1⟩
theorem small30 : ∀ n : Nat, n < 30 → (Str.ofString (toString (n : Int))).length ≤ 10 ∧ PyData.strOk (Str.ofString "BadTable " ++ Str.ofString (toString (n : Int))) = true := by decide +kernel
theorem same_of {d : PyData} (hs : Sd 8 d) {R : Slot → Prop} {X : XD} (h : R (.sh (.bool true))) : c__law_same [d, d] R X := ⟨d, rfl, hs, h⟩
theorem trd_P {nm : Str} (h : nm.length ≤ 100) : TrD 4 (xP nm) nm := ⟨by simp [List.lookup], h, .inl ⟨rfl, rfl⟩⟩
theorem trd_BT {n : Nat} (h : n < 30) : TrD 0 (xBadTable n) (("BadTable " : Str) ++ Str.ofString (toString (n : Int))) :=
  ⟨rfl, (by decide +kernel : (Str.ofString "BadTable").length ≤ 100), .inr ⟨.inl rfl, n, rfl, by simp; omega, by have := (small30 n h).1; omega, rfl⟩⟩
theorem sd_two {d : PyData} {s : Str} (h : Sd 7 d) (hs : PyData.strOk s = true) : Sd 8 (.tuple [d, .str s]) := ⟨by simp, fun x hx => by
  simp at hx
  rcases hx with rfl | rfl
  · exact h
  · exact hs⟩
@[simp] theorem atI_lit {α : Type} (xs : List α) (n : Nat) : atI xs (no_index (OfNat.ofNat n : Int)) = xs[(OfNat.ofNat n : Nat)]? := atI_nat xs n
def natD (h : Nat) : PyData := .int (h : Int)
theorem rngD_nat (n : Nat) : rngD 0 n = (List.range n).map natD := by
  apply List.ext_getElem
  · simp
  · intro i h1 h2
    simp [rngD, natD]
theorem tab_first {n : Nat} {t : Tab} (g : GoodN n t) : ∃ l t', tabD t = .tuple (.tuple l :: t') ∧ l.length = n ∧ t'.length + 1 = t.length := by
  cases t with
  | nil => have := g.o1; simp at this
  | cons op t => exact ⟨(op.map rowI).map rwD, (embT t).map opD, rfl, by simp [(g.op op List.mem_cons_self).1], by simp [embT]⟩
def rowAt (t : Tab) (a b : Nat) : Int × Int := ((t.getD a []).getD b (0, 0))
theorem rowAt_get {n : Nat} {t : Tab} (g : GoodN n t) {a b : Nat} (ha : a < t.length) (hb : b < n) : ∃ op, t[a]? = some op ∧ op.length = n ∧ op[b]? = some (rowAt t a b) ∧ (0 ≤ (rowAt t a b).1 ∧ (rowAt t a b).1 ≤ 9) ∧ 0 ≤ (rowAt t a b).2 ∧ (rowAt t a b).2 < n := by
  have h1 : t[a]? = some t[a] := List.getElem?_eq_getElem ha
  have go := g.op _ (List.getElem_mem ha)
  have h2 : t[a][b]? = some (t[a][b]'(by rw [go.1]; exact hb)) := List.getElem?_eq_getElem _
  have e : rowAt t a b = t[a][b]'(by rw [go.1]; exact hb) := by simp [rowAt, List.getD, h1, h2]
  refine ⟨t[a], h1, go.1, by rw [e]; exact h2, ?_⟩
  rw [e]
  exact go.2 _ (List.getElem_mem _)
def opI (op : List (Int × Int)) : PyData := opD (op.map rowI)
theorem tabD_map (t : Tab) : tabD t = .tuple (t.map opI) := by
  show PyData.tuple ((embT t).map opD) = _
  unfold embT
  rw [List.map_map]
  rfl
theorem opI_map (op : List (Int × Int)) : opI op = .tuple (op.map fun r => .tuple [.int r.1, .int r.2]) := by
  simp [opI, opD, rwD, rowI, Function.comp_def]
def n_look_stand : List Str := ["table", "stand"]
def d_look_stand : DS := (dSeq (dDrop (dCall c_look_table (dCons (dVar 0) dNil)))
  (dIfS (dNot (dTst (dChain leD ltD (dC (.int 0)) (dVar 1) (dCB lenD (dCons (dIx (dVarC 0) (dC (.int 0))) dNil)))))
  (dRaise "NoStand" (xfD "NoStand" []) 1 (dCons (dC (.str "no such stand")) dNil))
  dNext))
def c_look_stand : Ct := fun ds R X => ∃ (t : List (List Row)) (st : Int), ds = [tbD t, .int st] ∧ Gd t X ((0 ≤ st → st < many0 t → R (.sh .none)) ∧ ((st < 0 ∨ (many0 t : Int) ≤ st) → X (xP "NoStand")))
theorem l_look_stand : ∀ ds R Xd, c_look_stand ds R Xd → ds.length = 2 := by
  rintro ds R Xd ⟨_, _, rfl, _⟩
  rfl
theorem p_look_stand : Kp d_look_stand n_look_stand c_look_stand := by
  rintro ds R Xd ⟨t, st, rfl, h⟩
  simp [d_look_stand, st0, n_look_stand]
  refine c_look h fun ⟨h1, h2⟩ e => ⟨⟨_, rfl⟩, ?_⟩
  obtain ⟨rs, t', rfl⟩ := gd_cons e
  simp [tbD]
  rw [show lenD [opD rs] = lenD [.tuple (rs.map rwD)] from rfl]
  simp
  by_cases c1 : 0 ≤ st
  · by_cases c2 : st < (rs.length : Int)
    · rw [if_pos c1, if_pos c2]; exact h1 c1 c2
    · rw [if_pos c1, if_neg c2]; exact h2 (.inr (by simp [many0]; omega))
  · rw [if_neg c1]; exact h2 (.inl (by omega))
def n_look_operation : List Str := ["table", "operation"]
def d_look_operation : DS := (dIfS (dNot (dTst (dChain leD ltD (dC (.int 0)) (dVar 1) (dCB lenD (dCons (dVar 0) dNil)))))
  (dRaise "NoOperation" (xfD "NoOperation" []) 1 (dCons (dC (.str "no such operation")) dNil))
  dNext)
def c_look_operation : Ct := fun ds R X => ∃ (t : List (List Row)) (op : Int), ds = [tbD t, .int op] ∧ (0 ≤ op → op < t.length → R (.sh .none)) ∧ ((op < 0 ∨ (t.length : Int) ≤ op) → X (xP "NoOperation"))
theorem l_look_operation : ∀ ds R Xd, c_look_operation ds R Xd → ds.length = 2 := by
  rintro ds R Xd ⟨_, _, rfl, _⟩
  rfl
theorem p_look_operation : Kp d_look_operation n_look_operation c_look_operation := by
  rintro ds R Xd ⟨t, op, rfl, h1, h2⟩
  simp [d_look_operation, st0, n_look_operation, tbD]
  by_cases c1 : 0 ≤ op
  · by_cases c2 : op < (t.length : Int)
    · rw [if_pos c1, if_pos c2]; exact h1 c1 c2
    · rw [if_pos c1, if_neg c2]; exact h2 (.inr (by omega))
  · rw [if_neg c1]; exact h2 (.inl (by omega))
def n_look_many : List Str := ["many"]
def d_look_many : DS := (dIfS (dNot (dTst (dChain leD leD (dC (.int 2)) (dVar 0) (dC (.int 4)))))
  (dRaise "BadMany" (xfD "BadMany" []) 1 (dCons (dC (.str "so many hands there are not")) dNil))
  dNext)
def c_look_many : Ct := fun ds R X => ∃ z : Int, ds = [.int z] ∧ (2 ≤ z → z ≤ 4 → R (.sh .none)) ∧ ((z < 2 ∨ 4 < z) → X (xP "BadMany"))
theorem l_look_many : ∀ ds R Xd, c_look_many ds R Xd → ds.length = 1 := by
  rintro ds R Xd ⟨_, rfl, _⟩
  rfl
theorem p_look_many : Kp d_look_many n_look_many c_look_many := by
  rintro ds R Xd ⟨z, rfl, h1, h2⟩
  simp [d_look_many, st0, n_look_many]
  by_cases c1 : 2 ≤ z
  · by_cases c2 : z ≤ 4
    · rw [if_pos c1, if_pos c2]; exact h1 c1 c2
    · rw [if_pos c1, if_neg c2]; exact h2 (.inr (by omega))
  · rw [if_neg c1]; exact h2 (.inl (by omega))
def cellD (c : Nat × Nat) : PyData := .tuple [.int c.1, .int c.2]
def optD : Option Nat → PyData
  | none => .none
  | some k => .int k
def rollG (t m : PyData) (cells asked gone here : List PyData) : List (Str × ST) := [("table", .dat t), ("many", .dat m), ("cells", .dl cells), ("asked", .dl asked), ("gone", .dl gone), ("here", .dl here)]
section
variable (t m x : PyData) (c a g h y : List PyData)
@[simp] theorem rg_l1 : (rollG t m c a g h).lookup ("table" : Str) = some (.dat t) := rfl
@[simp] theorem rg_l2 : (rollG t m c a g h).lookup ("many" : Str) = some (.dat m) := rfl
@[simp] theorem rg_l3 : (rollG t m c a g h).lookup ("cells" : Str) = some (.dl c) := rfl
@[simp] theorem rg_l4 : (rollG t m c a g h).lookup ("asked" : Str) = some (.dl a) := rfl
@[simp] theorem rg_l5 : (rollG t m c a g h).lookup ("gone" : Str) = some (.dl g) := rfl
@[simp] theorem rg_l6 : (rollG t m c a g h).lookup ("here" : Str) = some (.dl h) := rfl
@[simp] theorem rg_m1 : noF (rollG t m c a g h) "look_hand" ↔ True := ⟨fun _ => trivial, fun _ => rfl⟩
@[simp] theorem rg_m2 : noF (rollG t m c a g h) "is_put" ↔ True := ⟨fun _ => trivial, fun _ => rfl⟩
@[simp] theorem rg_m3 : noF (rollG t m c a g h) "winner" ↔ True := ⟨fun _ => trivial, fun _ => rfl⟩
@[simp] theorem rg_m4 : noF (rollG t m c a g h) "pending" ↔ True := ⟨fun _ => trivial, fun _ => rfl⟩
@[simp] theorem rg_m5 : noF (rollG t m c a g h) "behind" ↔ True := ⟨fun _ => trivial, fun _ => rfl⟩
@[simp] theorem rg_m6 : noF (rollG t m c a g h) "ask" ↔ True := ⟨fun _ => trivial, fun _ => rfl⟩
@[simp] theorem rg_m7 : noF (rollG t m c a g h) "step" ↔ True := ⟨fun _ => trivial, fun _ => rfl⟩
@[simp] theorem rg_m8 : noF (rollG t m c a g h) "rows" ↔ True := ⟨fun _ => trivial, fun _ => rfl⟩
@[simp] theorem rg_m9 : noF (rollG t m c a g h) "stand" ↔ True := ⟨fun _ => trivial, fun _ => rfl⟩
@[simp] theorem rg_p3 : putS "cells" (.dl y) (rollG t m c a g h) = rollG t m y a g h := rfl
@[simp] theorem rg_p4 : putS "asked" (.dl y) (rollG t m c a g h) = rollG t m c y g h := rfl
@[simp] theorem rg_p5 : putS "gone" (.dl y) (rollG t m c a g h) = rollG t m c a y h := rfl
@[simp] theorem rg_p6 : putS "here" (.dl y) (rollG t m c a g h) = rollG t m c a g y := rfl
theorem rg_new : putS "here" (.dl h) (putS "gone" (.dl g) (putS "asked" (.dl a) (putS "cells" (.dl c) (putS "many" (.dat m) (putS "table" (.dat t) []))))) = rollG t m c a g h := rfl
end
def rollT (r : RS) : ST := .ins (ClsA.A "Roll") (rollG (tabD r.t) (.int r.m) (r.cells.map cellD) (r.asked.map optD) (r.gone.map natD) (r.here.map natD))
def RS.askd (r : RS) (h : Nat) : Option Nat := r.asked.getD h none
theorem map_at {α : Type} {l : List α} {h : Nat} (f : α → PyData) (d : α) (hl : h < l.length) : (l.map f)[h]? = some (f (l.getD h d)) := by
  rw [List.getElem?_map, List.getElem?_eq_getElem hl]
  simp [List.getD, hl]
section
variable {n : Nat} {r : RS} {h : Nat} (w : RW n r) (hh : h < r.m)
include w hh
theorem RW.a_at : (r.asked.map optD)[h]? = some (optD (r.askd h)) := map_at _ _ (by rw [w.la]; exact hh)
theorem RW.g_at : (r.gone.map natD)[h]? = some (.int (r.at h)) := map_at natD _ (by rw [w.lg]; exact hh)
theorem RW.h_at : (r.here.map natD)[h]? = some (.int (r.st h)) := map_at natD _ (by rw [w.lh]; exact hh)
theorem RW.at_le : r.at h ≤ r.cells.length := by
  refine w.og _ ?_
  have := w.lg
  simp [RS.at, List.getD, show h < r.gone.length by omega]
theorem RW.st_lt : r.st h < n := by
  refine w.oh _ ?_
  have := w.lh
  simp [RS.st, List.getD, show h < r.here.length by omega]
theorem RW.op_lt {o : Nat} (e : r.askd h = some o) : o < r.t.length := by
  refine w.oa _ ?_
  have := w.la
  rw [← e]
  simp [RS.askd, List.getD, show h < r.asked.length by omega]
end
def isPut (r : RS) (h : Nat) : Bool := (r.cells.drop (r.at h)).any fun c => c.1 == h
def winR (r : RS) (h : Nat) : Nat := if (r.askd (r.cells.length % r.m)).isSome && !isPut r (r.cells.length % r.m) then r.cells.length % r.m else h
theorem ixn_nat {n k : Nat} (h : k < n) : L2.ixN n (k : Int) = some k := by
  unfold L2.ixN
  rw [if_pos (by omega), if_pos (by omega)]
  simp
theorem set_opt {l : List (Option Nat)} {k : Nat} (o : Option Nat) : (l.map optD).set k (optD o) = (l.set k o).map optD := by rw [List.map_set]
theorem set_nat {l : List Nat} {k v : Nat} : (l.map natD).set k (.int (v : Int)) = (l.set k v).map natD := by rw [List.map_set]; rfl
def n_Roll_look_hand : List Str := ["self", "hand"]
def d_Roll_look_hand : DS := (dIfS (dNot (dTst (dChain leD ltD (dC (.int 0)) (dVar 1) (dFld 0 (ClsA.A "Roll") "many"))))
  (dRaise "NoHand" (xfD "NoHand" []) 1 (dCons (dC (.str "no such hand")) dNil))
  dNext)
def c_Roll_look_hand : CtQ := fun ds t R X => ∃ (r : RS) (h : Int), ds = [.int h] ∧ t = rollT r ∧ (0 ≤ h → h < r.m → R (.sh .none)) ∧ ((h < 0 ∨ (r.m : Int) ≤ h) → X (xP "NoHand"))
theorem l_Roll_look_hand : ∀ ds t R Xd, c_Roll_look_hand ds t R Xd → ds.length = 1 := by
  rintro ds t R Xd ⟨r, h, rfl, _⟩
  rfl
theorem p_Roll_look_hand : KpQ d_Roll_look_hand n_Roll_look_hand c_Roll_look_hand := by
  rintro ds a t R Xd ⟨r, h, rfl, rfl, h1, h2⟩
  simp [d_Roll_look_hand, st0, n_Roll_look_hand, rollT]
  by_cases c1 : 0 ≤ h
  · by_cases c2 : h < (r.m : Int)
    · rw [if_pos c1, if_pos c2]; exact h1 c1 c2
    · rw [if_pos c1, if_neg c2]; exact h2 (.inr (by omega))
  · rw [if_neg c1]; exact h2 (.inl (by omega))
theorem c_look_h {r : RS} {h : Nat} {R : Slot → Prop} {X : XD} (hh : h < r.m) (k : R (.sh .none)) : c_Roll_look_hand [.int h] (rollT r) R X := ⟨r, h, rfl, rfl, fun _ _ => k, fun c => by omega⟩
end WH
namespace WH
open PySem PySem.Spec L2
variable [ClsA]
def n_Roll_is_put : List Str := ["self", "hand", "own", "operation"]
def d_Roll_is_put : DS := (dRet (dCBC anyC (dCofO (dLc [2, 3] (dIt (dSl (dFldC 0 (ClsA.A "Roll") "cells") (dSome (dIx (dFldC 0 (ClsA.A "Roll") "gone") (dVar 1))) dNo)) (gT 2 (gsCons (gN 2) (gsCons (gN 3) gsNil))) dYes (d2 eqD (dVar 2) (dVar 1))))))
theorem any_mp {α : Type} {f : α → Bool} {L : List α} {Q : PyData → Prop} (q : Q (.bool (L.any f))) : anyC false (L.map fun c => .bool (f c)) Q := by
  refine ⟨L.map f, rfl, by rw [List.map_map]; rfl, ?_⟩
  rw [show (L.map f).any id = L.any f by simp [List.any_map, Function.comp_def]]
  exact q
theorem nat_beq (a b : Nat) : ((a : Int) == (b : Int)) = (a == b) := by
  by_cases h : a = b
  · subst h; simp
  · rw [beq_eq_false_iff_ne.mpr h, beq_eq_false_iff_ne.mpr (by omega)]
theorem cutD_map_some {α : Type} {f : α → PyData} {l : List α} {k : Nat} (h : k ≤ l.length) : cutD (l.map f) (some (k : Int)) none = (l.drop k).map f := by
  rw [cut_on (by simpa using h), List.map_drop]
def c_Roll_is_put : CtQ := fun ds t R X => ∃ (r : RS) (n h : Nat), RW n r ∧ ds = [.int h] ∧ t = rollT r ∧ h < r.m ∧ r.cells.length ≤ 50000 ∧ R (.sh (.bool (isPut r h)))
theorem l_Roll_is_put : ∀ ds t R Xd, c_Roll_is_put ds t R Xd → ds.length = 1 := by
  rintro ds t R Xd ⟨r, n, h, _, rfl, _⟩
  rfl
theorem p_Roll_is_put : KpQ d_Roll_is_put n_Roll_is_put c_Roll_is_put := by
  rintro ds a t R Xd ⟨r, n, h, w, rfl, rfl, hh, hz, q⟩
  have e1 := w.g_at hh
  simp [d_Roll_is_put, st0, n_Roll_is_put, rollT, e1]
  rw [cutD_map_some (w.at_le hh)]
  refine lcA_mapM (fun c : Nat × Nat => .bool (c.1 == h)) (by simp; omega) (fun c hc K hK => ?_) ?_
  · simp [cellD]
    rw [nat_beq]
    exact hK
  · simp only [List.nil_append]
    exact any_mp q
def n_Roll_winner : List Str := ["self", "hand", "turn"]
def d_Roll_winner : DS := (dSeq (dAsg 2 (d2 modD (dCBC lenC (dFldC 0 (ClsA.A "Roll") "cells")) (dFld 0 (ClsA.A "Roll") "many")))
  (dRet (dIf (dAnd (dTst (d2 isNotD (dIx (dFldC 0 (ClsA.A "Roll") "asked") (dVar 2)) (dC .none))) (dNot (dTst (dMthQ 0 (ClsA.A "Roll") "is_put" c_Roll_is_put (dCons (dVar 2) dNil))))) (dVar 2) (dVar 1))))
def c_Roll_winner : CtQ := fun ds t R X => ∃ (r : RS) (n h : Nat), RW n r ∧ ds = [.int h] ∧ t = rollT r ∧ h < r.m ∧ r.cells.length ≤ 50000 ∧ R (.sh (.int (winR r h)))
theorem l_Roll_winner : ∀ ds t R Xd, c_Roll_winner ds t R Xd → ds.length = 1 := by
  rintro ds t R Xd ⟨r, n, h, _, rfl, _⟩
  rfl
theorem p_Roll_winner : KpQ d_Roll_winner n_Roll_winner c_Roll_winner := by
  rintro ds a t R Xd ⟨r, n, h, w, rfl, rfl, hh, hz, q⟩
  simp [d_Roll_winner, st0, n_Roll_winner, rollT]
  have m2 := w.m2
  obtain ⟨u, eu, hu⟩ := mod_at (r.cells.length : Int) (show 0 < r.m by omega)
  have eu' : r.cells.length % r.m = u := by omega
  rw [eu, atI_nat]
  refine ⟨by omega, _, w.a_at hu, ?_⟩
  have e : winR r h = if (r.askd u).isSome && !isPut r u then u else h := by unfold winR; rw [eu']
  cases ha : r.askd u with
  | none =>
    rw [e, ha] at q
    simpa [optD] using q
  | some o =>
    rw [e, ha] at q
    simp [optD]
    refine ⟨r, n, u, w, rfl, rfl, hu, hz, _, rfl, ?_⟩
    cases hp : isPut r u with
    | true => rw [hp] at q; simpa using q
    | false => rw [hp] at q; simpa using q
def n_Roll_pending : List Str := ["self", "hand"]
def d_Roll_pending : DS := (dSeq (dDrop (dMthQ 0 (ClsA.A "Roll") "look_hand" c_Roll_look_hand (dCons (dVar 1) dNil)))
  (dRet (dIx (dFldC 0 (ClsA.A "Roll") "asked") (dVar 1))))
def c_Roll_pending : CtQ := fun ds t R X => ∃ (r : RS) (n h : Nat), RW n r ∧ ds = [.int h] ∧ t = rollT r ∧ h < r.m ∧ R (.sh (optD (r.askd h)))
theorem l_Roll_pending : ∀ ds t R Xd, c_Roll_pending ds t R Xd → ds.length = 1 := by
  rintro ds t R Xd ⟨r, n, h, _, rfl, _⟩
  rfl
theorem p_Roll_pending : KpQ d_Roll_pending n_Roll_pending c_Roll_pending := by
  rintro ds a t R Xd ⟨r, n, h, w, rfl, rfl, hh, q⟩
  have e1 := w.a_at hh
  simp [d_Roll_pending, st0, n_Roll_pending, rollT, -List.getElem?_map]
  refine c_look_h hh ⟨⟨_, rfl⟩, _, e1, q⟩
def n_Roll_rows : List Str := ["self"]
def d_Roll_rows : DS := (dRetO (dCBO lstC (dFldC 0 (ClsA.A "Roll") "cells")))
def c_Roll_rows : CtQ := fun ds t R X => ∃ (r : RS) (n : Nat), RW n r ∧ ds = [] ∧ t = rollT r ∧ r.cells.length ≤ 50000 ∧ R (.ow (.lst (r.cells.map cellD)))
theorem l_Roll_rows : ∀ ds t R Xd, c_Roll_rows ds t R Xd → ds.length = 0 := by
  rintro ds t R Xd ⟨r, n, _, rfl, _⟩
  rfl
theorem p_Roll_rows : KpQ d_Roll_rows n_Roll_rows c_Roll_rows := by
  rintro ds a t R Xd ⟨r, n, w, rfl, rfl, hz, q⟩
  simp [d_Roll_rows, st0, n_Roll_rows, rollT]
  exact q
def n_Roll_behind : List Str := ["self", "hand"]
def d_Roll_behind : DS := (dSeq (dDrop (dMthQ 0 (ClsA.A "Roll") "look_hand" c_Roll_look_hand (dCons (dVar 1) dNil)))
  (dRet (d2 subD (dCBC lenC (dFldC 0 (ClsA.A "Roll") "cells")) (dIx (dFldC 0 (ClsA.A "Roll") "gone") (dVar 1)))))
def c_Roll_behind : CtQ := fun ds t R X => ∃ (r : RS) (n h : Nat), RW n r ∧ ds = [.int h] ∧ t = rollT r ∧ h < r.m ∧ R (.sh (.int (r.cells.length - r.at h : Nat)))
theorem l_Roll_behind : ∀ ds t R Xd, c_Roll_behind ds t R Xd → ds.length = 1 := by
  rintro ds t R Xd ⟨r, n, h, _, rfl, _⟩
  rfl
theorem p_Roll_behind : KpQ d_Roll_behind n_Roll_behind c_Roll_behind := by
  rintro ds a t R Xd ⟨r, n, h, w, rfl, rfl, hh, q⟩
  have e1 := w.g_at hh
  have e2 := w.at_le hh
  simp [d_Roll_behind, st0, n_Roll_behind, rollT, -List.getElem?_map]
  refine c_look_h hh ⟨⟨_, rfl⟩, _, e1, ?_⟩
  simpa [Int.ofNat_sub e2] using q
def n_Roll_stand : List Str := ["self", "hand"]
def d_Roll_stand : DS := (dSeq (dDrop (dMthQ 0 (ClsA.A "Roll") "look_hand" c_Roll_look_hand (dCons (dVar 1) dNil)))
  (dRet (dIx (dFldC 0 (ClsA.A "Roll") "here") (dVar 1))))
def c_Roll_stand : CtQ := fun ds t R X => ∃ (r : RS) (n h : Nat), RW n r ∧ ds = [.int h] ∧ t = rollT r ∧ h < r.m ∧ R (.sh (.int (r.st h)))
theorem l_Roll_stand : ∀ ds t R Xd, c_Roll_stand ds t R Xd → ds.length = 1 := by
  rintro ds t R Xd ⟨r, n, h, _, rfl, _⟩
  rfl
theorem p_Roll_stand : KpQ d_Roll_stand n_Roll_stand c_Roll_stand := by
  rintro ds a t R Xd ⟨r, n, h, w, rfl, rfl, hh, q⟩
  have e1 := w.h_at hh
  simp [d_Roll_stand, st0, n_Roll_stand, rollT, -List.getElem?_map]
  exact c_look_h hh ⟨⟨_, rfl⟩, _, e1, q⟩
def n_Roll___len__ : List Str := ["self"]
def d_Roll___len__ : DS := (dRet (dCBC lenC (dFldC 0 (ClsA.A "Roll") "cells")))
def c_Roll___len__ : CtQ := fun ds t R X => ∃ (r : RS), ds = [] ∧ t = rollT r ∧ R (.sh (.int (r.cells.length : Nat)))
theorem l_Roll___len__ : ∀ ds t R Xd, c_Roll___len__ ds t R Xd → ds.length = 0 := by
  rintro ds t R Xd ⟨r, rfl, _⟩
  rfl
theorem p_Roll___len__ : KpQ d_Roll___len__ n_Roll___len__ c_Roll___len__ := by
  rintro ds a t R Xd ⟨r, rfl, rfl, q⟩
  simp [d_Roll___len__, st0, n_Roll___len__, rollT]
  exact q
end WH
namespace WH
open PySem PySem.Spec L2
variable [ClsA]
def d_Roll_ask_r4 : DSY := (yAsgG (lfE (dVar 2)) (gyF 0 (ClsA.A "Roll") "asked" (dVar 1)))
def d_Roll_ask_r2 : DSY := (ySeq (lfY (dDrop (dCall c_look_operation (dCons (dFld 0 (ClsA.A "Roll") "table") (dCons (dVar 2) dNil)))))
  d_Roll_ask_r4)
def d_Roll_ask_r1 : DSY := (ySeq (lfY (dIfS (dTst (d2 isNotD (dIx (dFldC 0 (ClsA.A "Roll") "asked") (dVar 1)) (dC .none)))
  (dRaise "Busy" (xfD "Busy" []) 1 (dCons (dC (.str "it has asked already")) dNil))
  dNext))
  d_Roll_ask_r2)
def n_Roll_ask : List Str := ["self", "hand", "operation"]
def d_Roll_ask : DSY := (ySeq (lfY (dDrop (dMthQ 0 (ClsA.A "Roll") "look_hand" c_Roll_look_hand (dCons (dVar 1) dNil))))
  d_Roll_ask_r1)
def askR (r : RS) (h o : Nat) : RS := { r with asked := r.asked.set h (some o) }
def c_Roll_ask : CtY := fun ds t R X => ∃ (r : RS) (n : Nat) (h o : Int), RW n r ∧ ds = [.int h, .int o] ∧ t = rollT r ∧ ((h < 0 ∨ (r.m : Int) ≤ h) → X (xP "NoHand") t) ∧
  ∀ k : Nat, h = k → k < r.m → (r.askd k ≠ none → X (xP "Busy") t) ∧ (r.askd k = none → ((o < 0 ∨ (r.t.length : Int) ≤ o) → X (xP "NoOperation") t) ∧ ∀ p : Nat, o = p → p < r.t.length → R .none (rollT (askR r k p)))
theorem l_Roll_ask : ∀ ds t R Xd, c_Roll_ask ds t R Xd → ds.length = 2 := by
  rintro ds t R Xd ⟨r, n, h, o, _, rfl, _⟩
  rfl
theorem p_Roll_ask : KpY d_Roll_ask n_Roll_ask c_Roll_ask := by
  rintro ds a t R Xd ⟨r, n, h, o, w, rfl, rfl, h1, h2⟩
  simp [d_Roll_ask, st0, n_Roll_ask, rollT, -List.getElem?_map]
  refine ⟨r, h, rfl, rfl, fun c1 c2 => ⟨⟨_, rfl⟩, ?_⟩, fun c => ⟨by simp, h1 c⟩⟩
  obtain ⟨k, rfl⟩ : ∃ k : Nat, h = k := ⟨h.toNat, by omega⟩
  have hk : k < r.m := by omega
  obtain ⟨q1, q2⟩ := h2 k rfl hk
  simp [d_Roll_ask_r1, -List.getElem?_map]
  refine ⟨_, w.a_at hk, ?_⟩
  cases ha : r.askd k with
  | some v =>
    simp [optD]
    exact q1 (by rw [ha]; simp)
  | none =>
    obtain ⟨q3, q4⟩ := q2 ha
    simp [optD, d_Roll_ask_r2]
    refine ⟨embT r.t, o, rfl, fun c1 c2 => ⟨⟨_, rfl⟩, ?_⟩, fun c => ⟨by simp, q3 (by simpa [embT] using c)⟩⟩
    obtain ⟨p, rfl⟩ : ∃ k : Nat, o = k := ⟨o.toNat, by omega⟩
    have q5 := q4 p rfl (by simp [embT] at c2; omega)
    simp [d_Roll_ask_r4, w.la, -List.map_set]
    refine ⟨0, rfl, k, ixn_nat hk, by simp, _, rfl, ?_⟩
    rw [show (PyData.int (p : Int)) = optD (some p) from rfl, set_opt]
    exact q5
def d_Roll_step_r5 : DSY := (yFldApp 0 (ClsA.A "Roll") "cells" (dTup (dCons (dVar 2) (dCons (dIx (dFldC 0 (ClsA.A "Roll") "asked") (dVar 2)) dNil))))
def d_Roll_step_r12 : DSY := (lfY (dRet (dVar 4)))
def d_Roll_step_r10 : DSY := (ySeq (yAsgG (lfE (dC .none)) (gyF 0 (ClsA.A "Roll") "asked" (dVar 1)))
  d_Roll_step_r12)
def d_Roll_step_r9 : DSY := (ySeq (lfY (dIfS (dTst (d2 neD (dVar 2) (dVar 1)))
  (dRet (dC .none))
  dNext))
  d_Roll_step_r10)
def d_Roll_step_r8 : DSY := (ySeq (yAugF 0 (ClsA.A "Roll") "gone" (dVar 1) (dC (.int 1)) (fun i j => i + j))
  d_Roll_step_r9)
def d_Roll_step_r7 : DSY := (ySeq (yAsgG (lfE (dIx (dCofE (dIx (dFldC 0 (ClsA.A "Roll") "table") (dVar 3))) (dIx (dFldC 0 (ClsA.A "Roll") "here") (dVar 1)))) (gyT 2 (gysCons (gyN 4) (gysCons (gyF 0 (ClsA.A "Roll") "here" (dVar 1)) gysNil))))
  d_Roll_step_r8)
def d_Roll_step_r4 : DSY := (ySeq (lfY (dAsgG (dIx (dFldC 0 (ClsA.A "Roll") "cells") (dIx (dFldC 0 (ClsA.A "Roll") "gone") (dVar 1))) (gT 2 (gsCons (gN 2) (gsCons (gN 3) gsNil)))))
  d_Roll_step_r7)
def d_Roll_step_r2 : DSY := (ySeq (yIf (dTst (d2 eqD (dIx (dFldC 0 (ClsA.A "Roll") "gone") (dVar 1)) (dCBC lenC (dFldC 0 (ClsA.A "Roll") "cells"))))
  (ySeq (lfY (dAsg 2 (dMthQ 0 (ClsA.A "Roll") "winner" c_Roll_winner (dCons (dVar 1) dNil))))
  d_Roll_step_r5)
  yNext)
  d_Roll_step_r4)
def d_Roll_step_r1 : DSY := (ySeq (lfY (dIfS (dTst (d2 isD (dIx (dFldC 0 (ClsA.A "Roll") "asked") (dVar 1)) (dC .none)))
  (dRaise "Idle" (xfD "Idle" []) 1 (dCons (dC (.str "it has asked nothing")) dNil))
  dNext))
  d_Roll_step_r2)
def n_Roll_step : List Str := ["self", "hand", "own", "operation", "answer"]
def d_Roll_step : DSY := (ySeq (lfY (dDrop (dMthQ 0 (ClsA.A "Roll") "look_hand" c_Roll_look_hand (dCons (dVar 1) dNil))))
  d_Roll_step_r1)
def putR (r : RS) (h : Nat) : RS := if r.at h = r.cells.length then { r with cells := r.cells ++ [(winR r h, (r.askd (winR r h)).getD 0)] } else r
def goR (r : RS) (h own op : Nat) : RS := { r with here := r.here.set h (rowAt r.t op (r.st h)).2.toNat, gone := r.gone.set h (r.at h + 1), asked := if own = h then r.asked.set h none else r.asked }
def cellR (r : RS) (h : Nat) : Nat × Nat := (putR r h).cells.getD (r.at h) (0, 0)
def stepR (r : RS) (h : Nat) : RS := goR (putR r h) h (cellR r h).1 (cellR r h).2
def toldR (r : RS) (h : Nat) : Option Int := if (cellR r h).1 = h then some (rowAt r.t (cellR r h).2 (r.st h)).1 else none
def optI : Option Int → PyData
  | none => .none
  | some k => .int k
theorem winR_ok {n h : Nat} {r : RS} (w : RW n r) (hh : h < r.m) (ha : r.askd h ≠ none) : winR r h < r.m ∧ r.askd (winR r h) ≠ none := by
  have m2 := w.m2
  have hu : r.cells.length % r.m < r.m := Nat.mod_lt _ (by omega)
  unfold winR
  split
  · rename_i c
    simp at c
    exact ⟨hu, fun z => by rw [z] at c; simp at c⟩
  · exact ⟨hh, ha⟩
theorem putR_w {n h : Nat} {r : RS} (w : RW n r) (hh : h < r.m) (ha : r.askd h ≠ none) : RW n (putR r h) := by
  unfold putR
  split
  · obtain ⟨w1, w2⟩ := winR_ok w hh ha
    refine ⟨w.g, w.m2, w.m4, w.la, w.lg, w.lh, w.oa, fun k hk => ?_, w.oh, fun c hc => ?_⟩
    · have := w.og k hk
      simp; omega
    · rcases List.mem_append.mp hc with hc | hc
      · exact w.oc c hc
      · rw [List.mem_singleton.mp hc]
        obtain ⟨o, ho⟩ := Option.ne_none_iff_exists'.mp w2
        exact ⟨w1, by rw [ho]; exact w.op_lt w1 ho⟩
  · exact w
theorem putR_at {n h : Nat} {r : RS} (w : RW n r) (hh : h < r.m) : r.at h < (putR r h).cells.length := by
  have := w.at_le hh
  unfold putR
  split
  · simp; omega
  · omega
theorem cellR_ok {n h : Nat} {r : RS} (w : RW n r) (hh : h < r.m) (ha : r.askd h ≠ none) : (putR r h).cells[r.at h]? = some (cellR r h) ∧ (cellR r h).1 < r.m ∧ (cellR r h).2 < r.t.length := by
  have e : (putR r h).cells[r.at h]? = some (cellR r h) := by
    have hl := putR_at w hh
    unfold cellR
    rw [List.getElem?_eq_getElem hl]
    simp [List.getD, hl]
  have q := (putR_w w hh ha).oc _ (List.mem_of_getElem? e)
  have em : (putR r h).m = r.m := by unfold putR; split <;> rfl
  have et : (putR r h).t = r.t := by unfold putR; split <;> rfl
  rw [em, et] at q
  exact ⟨e, q⟩
def c_Roll_step : CtY := fun ds t R X => ∃ (r : RS) (n : Nat) (h : Int), RW n r ∧ ds = [.int h] ∧ t = rollT r ∧ r.cells.length ≤ 49000 ∧ ((h < 0 ∨ (r.m : Int) ≤ h) → X (xP "NoHand") t) ∧
  ∀ k : Nat, h = k → k < r.m → (r.askd k = none → X (xP "Idle") t) ∧ (r.askd k ≠ none → R (optI (toldR r k)) (rollT (stepR r k)))
theorem l_Roll_step : ∀ ds t R Xd, c_Roll_step ds t R Xd → ds.length = 1 := by
  rintro ds t R Xd ⟨r, n, h, _, rfl, _⟩
  rfl
theorem step_r7 {D : DEndsY} {r : RS} {n k : Nat} {a : Addr} {c : Nat × Nat} (w : RW n r) (hk : k < r.m) (hc : r.cells[r.at k]? = some c) (q : D.rt (optI (if c.1 = k then some (rowAt r.t c.2 (r.st k)).1 else none)) [(a, rollT (goR r k c.1 c.2))]) :
    d_Roll_step_r7 D [.tr a (rollT r), .sh (.int k), .sh (.int c.1), .sh (.int c.2), .no] [(a, rollT r)] := by
  obtain ⟨c1, c2⟩ := w.oc c (List.mem_of_getElem? hc)
  have hb := w.st_lt hk
  obtain ⟨op, e1, e2, e3, e4, e5, e6⟩ := rowAt_get w.g c2 hb
  have e7 : (r.t.map opI)[c.2]? = some (opI op) := by rw [List.getElem?_map, e1]; rfl
  have e8 : (op.map fun q => PyData.tuple [.int q.1, .int q.2])[r.st k]? = some (.tuple [.int (rowAt r.t c.2 (r.st k)).1, .int (rowAt r.t c.2 (r.st k)).2]) := by rw [List.getElem?_map, e3]; rfl
  simp [d_Roll_step_r7, rollT, -List.getElem?_map, -List.map_set]
  rw [tabD_map]
  simp [e7, opI_map, -List.getElem?_map, -List.map_set]
  rw [← tabD_map]
  obtain ⟨v, ev⟩ : ∃ v : Nat, (rowAt r.t c.2 (r.st k)).2 = v := ⟨(rowAt r.t c.2 (r.st k)).2.toNat, by omega⟩
  refine ⟨_, w.h_at hk, ?_⟩
  rw [ev] at e8
  simp [e8, w.lh, -List.getElem?_map, -List.map_set]
  refine ⟨0, rfl, k, ixn_nat hk, by simp, ?_⟩
  simp only [true_and]
  rw [set_nat]
  simp [d_Roll_step_r8, w.lg, -List.getElem?_map, -List.map_set]
  refine ⟨0, rfl, k, ixn_nat hk, _, w.g_at hk, by simp, ?_⟩
  rw [show ((r.at k : Int) + 1) = ((r.at k + 1 : Nat) : Int) by omega, set_nat]
  simp [d_Roll_step_r9, -List.getElem?_map, -List.map_set]
  by_cases ce : c.1 = k
  · rw [if_pos ce] at q
    rw [if_pos (by omega)]
    simp [d_Roll_step_r10, w.la, -List.getElem?_map, -List.map_set]
    refine ⟨0, rfl, k, ixn_nat hk, by simp, ?_⟩
    rw [show PyData.none = optD none from rfl, set_opt]
    simp [d_Roll_step_r12, -List.getElem?_map, -List.map_set]
    simpa [goR, rollT, ev, ce, optI] using q
  · rw [if_neg ce] at q
    rw [if_neg (by omega)]
    simpa [goR, rollT, ev, ce, optI] using q
theorem step_r4 {D : DEndsY} {r : RS} {n k : Nat} {a : Addr} {c : Nat × Nat} {s2 : Slot} (w : RW n r) (hk : k < r.m) (hc : r.cells[r.at k]? = some c) (q : D.rt (optI (if c.1 = k then some (rowAt r.t c.2 (r.st k)).1 else none)) [(a, rollT (goR r k c.1 c.2))]) :
    d_Roll_step_r4 D [.tr a (rollT r), .sh (.int k), s2, .no, .no] [(a, rollT r)] := by
  have e1 : (r.cells.map cellD)[r.at k]? = some (cellD c) := by rw [List.getElem?_map, hc]; rfl
  simp [d_Roll_step_r4, rollT, -List.getElem?_map]
  refine ⟨_, w.g_at hk, ?_⟩
  simp [e1, cellD, -List.getElem?_map]
  exact step_r7 w hk hc q
theorem p_Roll_step : KpY d_Roll_step n_Roll_step c_Roll_step := by
  rintro ds a t R Xd ⟨r, n, h, w, rfl, rfl, hz, h1, h2⟩
  simp [d_Roll_step, st0, n_Roll_step, rollT, -List.getElem?_map]
  refine ⟨r, h, rfl, rfl, fun c1 c2 => ⟨⟨_, rfl⟩, ?_⟩, fun c => ⟨by simp, h1 c⟩⟩
  obtain ⟨k, rfl⟩ : ∃ k : Nat, h = k := ⟨h.toNat, by omega⟩
  have hk : k < r.m := by omega
  obtain ⟨q1, q2⟩ := h2 k rfl hk
  simp [d_Roll_step_r1, -List.getElem?_map]
  refine ⟨_, w.a_at hk, ?_⟩
  cases ha : r.askd k with
  | none =>
    simp [optD]
    exact q1 ha
  | some v =>
    have q3 := q2 (by rw [ha]; simp)
    simp [optD, d_Roll_step_r2, -List.getElem?_map]
    refine ⟨_, w.g_at hk, rfl, ?_⟩
    rw [eqv_int]
    by_cases ce : r.at k = r.cells.length
    · rw [if_pos (by simp [ce])]
      refine ⟨r, n, k, w, rfl, rfl, hk, by omega, _, rfl, ?_⟩
      obtain ⟨w1, w2⟩ := winR_ok w hk (by rw [ha]; simp)
      obtain ⟨o, ho⟩ := Option.ne_none_iff_exists'.mp w2
      simp [d_Roll_step_r5, -List.getElem?_map]
      refine ⟨0, rfl, _, w.a_at w1, by omega, by simp, ?_⟩
      have ep : putR r k = { r with cells := r.cells ++ [(winR r k, (r.askd (winR r k)).getD 0)] } := if_pos ce
      have hc := (cellR_ok w hk (by rw [ha]; simp)).1
      have wp := putR_w w hk (by rw [ha]; simp)
      have q5 := q3
      unfold stepR toldR at q5
      rw [ep] at hc wp q5
      have q6 := step_r4 (a := a) (s2 := .sh (.int (winR r k))) (D := { nx := fun x τ => ∃ t', τ = [(a, t')] ∧ R PyData.none t', rt := fun d τ => ∃ t', τ = [(a, t')] ∧ R d t', ex := fun x x_1 τ => ∃ t', τ = [(a, t')] ∧ Xd x t' }) wp hk hc ⟨_, rfl, q5⟩
      simpa [rollT, ho, optD, cellD] using q6
    · rw [if_neg (by simp; omega)]
      have ep : putR r k = r := if_neg ce
      have hc := (cellR_ok w hk (by rw [ha]; simp)).1
      have q5 := q3
      unfold stepR toldR at q5
      rw [ep] at hc q5
      exact step_r4 (a := a) (s2 := .no) (D := { nx := fun x τ => ∃ t', τ = [(a, t')] ∧ R PyData.none t', rt := fun d τ => ∃ t', τ = [(a, t')] ∧ R d t', ex := fun x x_1 τ => ∃ t', τ = [(a, t')] ∧ Xd x t' }) w hk hc ⟨_, rfl, q5⟩
def d_Roll_r7 : DSY := (yFldO 0 (ClsA.A "Roll") "here" (dRep (dCofO (dLst (dCons (dVar 3) dNil))) (dVar 2)))
def d_Roll_r6 : DSY := (ySeq (yFldO 0 (ClsA.A "Roll") "gone" (dRep (dCofO (dLst (dCons (dC (.int 0)) dNil))) (dVar 2)))
  d_Roll_r7)
def d_Roll_r5 : DSY := (ySeq (yFldO 0 (ClsA.A "Roll") "asked" (dRep (dCofO (dLst (dCons (dC .none) dNil))) (dVar 2)))
  d_Roll_r6)
def d_Roll_r4 : DSY := (ySeq (yFldO 0 (ClsA.A "Roll") "cells" (dLst dNil))
  d_Roll_r5)
def d_Roll_r3 : DSY := (ySeq (yFldE 0 (ClsA.A "Roll") "many" (dVar 2))
  d_Roll_r4)
def d_Roll_r2 : DSY := (ySeq (yFldE 0 (ClsA.A "Roll") "table" (dVar 1))
  d_Roll_r3)
def d_Roll_r1 : DSY := (ySeq (lfY (dDrop (dCall c_look_many (dCons (dVar 2) dNil))))
  d_Roll_r2)
def n_Roll : List Str := ["self", "table", "many", "start"]
def d_Roll : DSY := (ySeq (lfY (dDrop (dCall c_look_stand (dCons (dVar 1) (dCons (dVar 3) dNil)))))
  d_Roll_r1)
def newR (t : Tab) (m b : Nat) : RS := ⟨t, m, [], List.replicate m none, List.replicate m 0, List.replicate m b⟩
def c_Roll : CtY := fun ds t R X => ∃ (u : List (List Row)) (m b : Int), ds = [tbD u, .int m, .int b] ∧ t = .ins (ClsA.A "Roll") [] ∧ Gd u (fun x => X x t) (((b < 0 ∨ (many0 u : Int) ≤ b) → X (xP "NoStand") t) ∧ (0 ≤ b → b < many0 u → ((m < 2 ∨ 4 < m) → X (xP "BadMany") t) ∧
  (2 ≤ m → m ≤ 4 → ∃ (s : Tab) (n k c : Nat), GoodN n s ∧ u = embT s ∧ m = k ∧ b = c ∧ R .none (rollT (newR s k c)))))
theorem l_Roll : ∀ ds t R Xd, c_Roll ds t R Xd → ds.length = 3 := by
  rintro ds t R Xd ⟨r, n, h, rfl, _⟩
  rfl
theorem p_Roll : KpY d_Roll n_Roll c_Roll := by
  rintro ds a t R Xd ⟨u, m, b, rfl, rfl, h⟩
  simp [d_Roll, st0, n_Roll, -List.getElem?_map]
  refine ⟨u, b, rfl, h.1, fun i e => ⟨by simp, h.2.1 i e⟩, fun e => ?_⟩
  obtain ⟨h1, h2⟩ := h.2.2 e
  refine ⟨fun b0 b1 => ⟨⟨_, rfl⟩, ?_⟩, fun c => ⟨by simp, h1 c⟩⟩
  obtain ⟨h3, h4⟩ := h2 b0 b1
  simp [d_Roll_r1]
  refine ⟨m, rfl, fun m0 m1 => ⟨⟨_, rfl⟩, ?_⟩, fun c => ⟨by simp, h3 c⟩⟩
  simp [d_Roll_r2]
  refine ⟨0, rfl, by simp, ?_⟩
  obtain ⟨s, n, k, c, g, rfl, rfl, rfl, q⟩ := h4 (by omega) (by omega)
  simp [d_Roll_r3]
  refine ⟨0, rfl, (show 1 < 1000 by omega), by simp, ?_⟩
  simp [d_Roll_r4]
  refine ⟨0, rfl, (show 2 < 1000 by omega), by simp, ?_⟩
  simp [d_Roll_r5]
  refine ⟨0, rfl, (show 3 < 1000 by omega), by omega, by simp, ?_⟩
  simp [d_Roll_r6]
  refine ⟨0, rfl, (show 4 < 1000 by omega), by omega, by simp, ?_⟩
  simp [d_Roll_r7]
  refine ⟨0, rfl, (show 5 < 1000 by omega), by omega, by simp, ?_⟩
  rw [rg_new]
  simp
  simpa [newR, rollT, optD, natD, tabD] using q
theorem newR_w {n m b : Nat} {t : Tab} (g : GoodN n t) (m2 : 2 ≤ m) (m4 : m ≤ 4) (hb : b < n) : RW n (newR t m b) := by
  refine ⟨g, m2, m4, by simp [newR], by simp [newR], by simp [newR], fun o ho => ?_, fun k hk => ?_, fun k hk => ?_, fun c hc => by simp [newR] at hc⟩
  · simp [newR] at ho
  · simp [newR] at hk ⊢; omega
  · simp [newR] at hk; omega
end WH
namespace WH
open PySem PySem.Spec L2
variable [ClsA]
def n__law_roll_state : List Str := ["_law_many", "_law_begin"]
def d__law_roll_state : DS := (dRet (dOfD (dDispS ["cells", "asked", "gone", "stands"] (dCons (dOfO (dLst dNil)) (dCons (d2 mulD (dOfO (dLst (dCons (dC .none) dNil))) (dVar 0)) (dCons (d2 mulD (dOfO (dLst (dCons (dC (.int 0)) dNil))) (dVar 0)) (dCons (d2 mulD (dOfO (dLst (dCons (dVar 1) dNil))) (dVar 0)) dNil)))))))
def kvR (r : RS) : List (Key × PyData) := dicS ["cells", "asked", "gone", "stands"] [.list (r.cells.map cellD), .list (r.asked.map optD), .list (r.gone.map natD), .list (r.here.map natD)]
def rstD (r : RS) : PyData := dicD (kvR r)
theorem kvR_ne (r : RS) : ¬ kvR r = [] := fun z => by cases z
theorem kvR_c (r : RS) : valD (kvR r) (.inr "cells") = some (.list (r.cells.map cellD)) := rfl
theorem kvR_a (r : RS) : valD (kvR r) (.inr "asked") = some (.list (r.asked.map optD)) := rfl
theorem kvR_g (r : RS) : valD (kvR r) (.inr "gone") = some (.list (r.gone.map natD)) := rfl
theorem kvR_s (r : RS) : valD (kvR r) (.inr "stands") = some (.list (r.here.map natD)) := rfl
theorem cel_g {r : RS} {Q : PyData → Prop} (q : Q (.list (r.cells.map cellD))) : ∃ kvs, rstD r = dicD kvs ∧ ¬kvs = [] ∧ ∃ k, PyData.str (Str.ofString "cells") = kD k ∧ ∃ x, valD kvs k = some x ∧ Q x := ⟨kvR r, rfl, kvR_ne r, .inr "cells", rfl, _, kvR_c r, q⟩
theorem ask_g {r : RS} {Q : PyData → Prop} (q : Q (.list (r.asked.map optD))) : ∃ kvs, rstD r = dicD kvs ∧ ¬kvs = [] ∧ ∃ k, PyData.str (Str.ofString "asked") = kD k ∧ ∃ x, valD kvs k = some x ∧ Q x := ⟨kvR r, rfl, kvR_ne r, .inr "asked", rfl, _, kvR_a r, q⟩
theorem gon_g {r : RS} {Q : PyData → Prop} (q : Q (.list (r.gone.map natD))) : ∃ kvs, rstD r = dicD kvs ∧ ¬kvs = [] ∧ ∃ k, PyData.str (Str.ofString "gone") = kD k ∧ ∃ x, valD kvs k = some x ∧ Q x := ⟨kvR r, rfl, kvR_ne r, .inr "gone", rfl, _, kvR_g r, q⟩
theorem sta_g {r : RS} {Q : PyData → Prop} (q : Q (.list (r.here.map natD))) : ∃ kvs, rstD r = dicD kvs ∧ ¬kvs = [] ∧ ∃ k, PyData.str (Str.ofString "stands") = kD k ∧ ∃ x, valD kvs k = some x ∧ Q x := ⟨kvR r, rfl, kvR_ne r, .inr "stands", rfl, _, kvR_s r, q⟩
def c__law_roll_state : Ct := fun ds R _ => ∃ (t : Tab) (m b : Nat), ds = [.int m, .int b] ∧ 2 ≤ m ∧ m ≤ 4 ∧ R (.sh (rstD (newR t m b)))
theorem l__law_roll_state : ∀ ds R Xd, c__law_roll_state ds R Xd → ds.length = 2 := by
  rintro ds R Xd ⟨_, _, _, rfl, _⟩
  rfl
theorem p__law_roll_state : Kp d__law_roll_state n__law_roll_state c__law_roll_state := by
  rintro ds R Xd ⟨t, m, b, rfl, m2, m4, hR⟩
  simp [d__law_roll_state, st0, n__law_roll_state]
  refine ⟨by omega, ?_⟩
  simpa [rstD, kvR, newR, List.map_replicate, optD, natD] using hR
end WH
namespace WH
open PySem PySem.Spec L2
variable [ClsA]
theorem drawn_at {ns : List Int} (hp : ∀ z ∈ ns, 0 ≤ z) {i : Nat} (h : i < ns.length) : ∃ x : Nat, ns[i]? = some (x : Int) := by
  have := hp ns[i] (List.getElem_mem h)
  exact ⟨ns[i].toNat, by rw [List.getElem?_eq_getElem h]; congr 1; omega⟩
def n__law_roll_deed : List Str := ["_law_d", "_law_table_here", "_law_many", "_law_hand"]
def d__law_roll_deed : DS := (dSeq (dAsg 3 (d2 modD (dIx (dVarC 0) (dC (.int 0))) (dVar 2)))
  (dSeq (dIfS (dTst (d2 eqD (d2 modD (dIx (dVarC 0) (dC (.int 1))) (dC (.int 15))) (dC (.int 0))))
  (dAsg 3 (dIx (dCofO (dLst (dCons (dVar 2) (dCons (dNeg (dC (.int 1))) (dCons (dC (.int 999999999)) dNil))))) (d2 modD (d2 fdivD (dIx (dVarC 0) (dC (.int 1))) (dC (.int 15))) (dC (.int 3)))))
  dNext)
  (dSeq (dIfS (dTst (d2 ltD (d2 modD (dIx (dVarC 0) (dC (.int 2))) (dC (.int 5))) (dC (.int 3))))
  (dRet (dTup (dCons (dC (.str "step")) (dCons (dVar 3) dNil))))
  dNext)
  (dRet (dTup (dCons (dC (.str "ask")) (dCons (dVar 3) (dCons (dIf (dTst (d2 gtD (d2 modD (d2 fdivD (dIx (dVarC 0) (dC (.int 3))) (dC (.int 5))) (dC (.int 9))) (dC (.int 0)))) (d2 modD (dIx (dVarC 0) (dC (.int 3))) (dCB lenD (dCons (dVar 1) dNil))) (dIx (dCofO (dLst (dCons (dCB lenD (dCons (dVar 1) dNil)) (dCons (dNeg (dC (.int 1))) dNil)))) (d2 modD (dIx (dVarC 0) (dC (.int 3))) (dC (.int 2))))) dNil))))))))
def rdD (h : Int) : Option Int → PyData
  | none => .tuple [.str "step", .int h]
  | some o => .tuple [.str "ask", .int h, .int o]
def c__law_roll_deed : Ct := fun ds R _ => ∃ (ns : List Int) (n : Nat) (t : Tab) (m : Nat), ds = [.list (ns.map .int), tabD t, .int m] ∧ (∀ z ∈ ns, 0 ≤ z) ∧ 4 ≤ ns.length ∧ GoodN n t ∧ 2 ≤ m ∧ m ≤ 4 ∧ ∀ (h : Int) (o : Option Int), R (.sh (rdD h o))
theorem l__law_roll_deed : ∀ ds R Xd, c__law_roll_deed ds R Xd → ds.length = 3 := by
  rintro ds R Xd ⟨_, _, _, _, rfl, _⟩
  rfl
theorem p__law_roll_deed : Kp d__law_roll_deed n__law_roll_deed c__law_roll_deed := by
  rintro ds R Xd ⟨ns, n, t, m, rfl, hp, hl, g, m2, m4, hR⟩
  obtain ⟨x0, a0⟩ := drawn_at hp (show 0 < ns.length by omega)
  obtain ⟨x1, a1⟩ := drawn_at hp (show 1 < ns.length by omega)
  obtain ⟨x2, a2⟩ := drawn_at hp (show 2 < ns.length by omega)
  obtain ⟨x3, a3⟩ := drawn_at hp (show 3 < ns.length by omega)
  obtain ⟨h0, e0, q0⟩ : ∃ k : Nat, (x0 : Int) % (m : Int) = (k : Int) ∧ k < m := ⟨x0 % m, by omega, Nat.mod_lt _ (by omega)⟩
  obtain ⟨j, e1, q1⟩ : ∃ k : Nat, (x1 : Int) / 15 % 3 = (k : Int) ∧ k < 3 := ⟨x1 / 15 % 3, by omega, by omega⟩
  obtain ⟨z, e3, q3⟩ : ∃ k : Nat, (x3 : Int) % 2 = (k : Int) ∧ k < 2 := ⟨x3 % 2, by omega, by omega⟩
  simp [d__law_roll_deed, st0, n__law_roll_deed, a0, a1, e0, e1]
  have o1 := g.o1
  have hs : ∀ h : Int, R (.sh (.tuple [.str "step", .int h])) := fun h => hR h none
  have ha : ∀ h o : Int, R (.sh (.tuple [.str "ask", .int h, .int o])) := fun h o => hR h (some o)
  refine ⟨by omega, ?_⟩
  obtain ⟨v, ev⟩ : ∃ v : Int, [PyData.int (m : Int), PyData.int (-1), PyData.int 999999999][j]? = some (.int v) := by
    rcases (by omega : j = 0 ∨ j = 1 ∨ j = 2) with rfl | rfl | rfl <;> exact ⟨_, rfl⟩
  obtain ⟨u, eu⟩ : ∃ u : Int, [PyData.int (t.length : Int), PyData.int (-1)][z]? = some (.int u) := by
    rcases (by omega : z = 0 ∨ z = 1) with rfl | rfl <;> exact ⟨_, rfl⟩
  simp [ev, a2, a3, tabD_map, lenD, e3, eu]
  have fin : ∀ h : Int, (if (x2 : Int) % 5 < 3 then R (.sh (.tuple [.str "step", .int h])) else if 0 < (x3 : Int) / 5 % 9 then 0 < t.length ∧ R (.sh (.tuple [.str "ask", .int h, .int ((x3 : Int) % (t.length : Int))])) else R (.sh (.tuple [.str "ask", .int h, .int u]))) := fun h => by
    split
    · exact hs h
    · split
      · exact ⟨by omega, ha _ _⟩
      · exact ha _ _
  split
  · exact fin v
  · exact fin h0
end WH
namespace WH
open PySem PySem.Spec L2
variable [ClsA]
theorem strOk_of (s : String) : PyData.strOk (Str.ofString s) = true := by
  rw [PySem.Str.ofString_eq_toList]
  unfold PyData.strOk
  rw [List.all_toArray, List.all_eq_true]
  intro x hx
  obtain ⟨c, _, rfl⟩ := List.mem_map.mp hx
  rw [decide_eq_true_eq]
  have := c.valid
  rcases this with h | ⟨_, h⟩
  · exact Nat.lt_trans h (by decide)
  · exact h
theorem eqv_self {m : Nat} {d : PyData} (h : Sd m d) : PyData.eqv d d = true := PySem.SeqAt.eqv_refl d h.cl.1
def n__law_roll_word : List Str := ["_law_table_here", "_law_state", "_law_deed"]
def d__law_roll_word : DS := (dSeq (dIfS (dNot (dTst (dChain leD ltD (dC (.int 0)) (dIx (dVarC 2) (dC (.int 1))) (dCB lenD (dCons (dDGet (dVarD 1) (dC (.str "asked"))) dNil)))))
  (dRet (dC (.str "NoHand")))
  dNext)
  (dSeq (dIfS (dTst (d2 eqD (dIx (dVarC 2) (dC (.int 0))) (dC (.str "step"))))
  (dRet (dIf (dTst (d2 isD (dIx (dCofE (dDGet (dVarD 1) (dC (.str "asked")))) (dIx (dVarC 2) (dC (.int 1)))) (dC .none))) (dC (.str "Idle")) (dC (.str ""))))
  dNext)
  (dSeq (dIfS (dTst (d2 isNotD (dIx (dCofE (dDGet (dVarD 1) (dC (.str "asked")))) (dIx (dVarC 2) (dC (.int 1)))) (dC .none)))
  (dRet (dC (.str "Busy")))
  dNext)
  (dRet (dIf (dTst (dChain leD ltD (dC (.int 0)) (dIx (dVarC 2) (dC (.int 2))) (dCB lenD (dCons (dVar 0) dNil)))) (dC (.str "")) (dC (.str "NoOperation")))))))
def wordR (r : RS) (h : Int) (o : Option Int) : Str := if ¬ (0 ≤ h ∧ h < (r.m : Int)) then "NoHand" else match o with
  | none => if r.askd h.toNat = none then "Idle" else ""
  | some o => if r.askd h.toNat ≠ none then "Busy" else if 0 ≤ o ∧ o < (r.t.length : Int) then "" else "NoOperation"
def c__law_roll_word : Ct := fun ds R _ => ∃ (n : Nat) (r : RS) (h : Int) (o : Option Int), ds = [tabD r.t, rstD r, rdD h o] ∧ RW n r ∧ R (.sh (.str (wordR r h o)))
theorem l__law_roll_word : ∀ ds R Xd, c__law_roll_word ds R Xd → ds.length = 3 := by
  rintro ds R Xd ⟨_, _, _, _, rfl, _⟩
  rfl
theorem p__law_roll_word : Kp d__law_roll_word n__law_roll_word c__law_roll_word := by
  rintro ds R Xd ⟨n, r, h, o, rfl, w, hR⟩
  have m4 := w.m4
  have la := w.la
  unfold wordR at hR
  have em : (r.asked.map optD).length = r.m := by rw [List.length_map, la]
  by_cases c : 0 ≤ h ∧ h < (r.m : Int)
  · rw [if_neg (by simpa using c)] at hR
    obtain ⟨k, rfl⟩ : ∃ k : Nat, h = k := ⟨h.toNat, by omega⟩
    have hk : k < r.m := by omega
    have ea := w.a_at hk
    rw [show (k : Int).toNat = k by omega] at hR
    cases o with
    | none =>
      simp only [] at hR
      simp [d__law_roll_word, st0, n__law_roll_word, rdD]
      refine ask_g ?_
      simp [lenD]
      rw [if_pos (by omega)]
      refine ⟨strOk_of _, ask_g (.inl ⟨_, rfl, _, ea, ?_⟩)⟩
      cases ha : r.askd k with
      | none => rw [ha] at hR; simpa [optD, isNo] using hR
      | some v => rw [ha] at hR; simpa [optD, isNo] using hR
    | some o =>
      simp only [] at hR
      simp [d__law_roll_word, st0, n__law_roll_word, rdD]
      refine ask_g ?_
      simp [lenD]
      rw [if_pos (by omega)]
      refine ⟨strOk_of _, strOk_of _, ?_⟩
      rw [if_neg (by decide)]
      refine ask_g (.inl ⟨_, rfl, _, ea, ?_⟩)
      cases ha : r.askd k with
      | some v => rw [ha] at hR; simpa [optD, isNo] using hR
      | none =>
        rw [ha] at hR
        simp [optD, isNo, tabD_map, lenD]
        simp at hR
        by_cases c1 : 0 ≤ o
        · rw [if_pos c1]
          by_cases c2 : o < (r.t.length : Int)
          · rw [if_pos c2]
            rw [if_pos ⟨c1, c2⟩] at hR
            exact hR
          · rw [if_neg c2]
            rw [if_neg fun z => c2 z.2] at hR
            exact hR
        · rw [if_neg c1]
          rw [if_neg fun z => c1 z.1] at hR
          exact hR
  · rw [if_pos c] at hR
    have fin : d__law_roll_word { nx := fun x => R (Slot.sh PyData.none), rt := R, ex := fun x x_1 => Xd x } [.sh (tabD r.t), .sh (rstD r), .sh (rdD h o)] := by
      cases o with
      | none =>
        simp [d__law_roll_word, rdD]
        split
        · refine ask_g ?_
          simp [lenD]
          rw [if_neg (by omega)]
          exact hR
        · exact hR
      | some o =>
        simp [d__law_roll_word, rdD]
        split
        · refine ask_g ?_
          simp [lenD]
          rw [if_neg (by omega)]
          exact hR
        · exact hR
    exact fin
end WH
namespace WH
open PySem PySem.Spec L2
variable [ClsA]
def d__law_roll_after_r11 : DS := (dApp 3 (dTup (dCons (dVar 11) (dCons (dIx (dVarC 4) (dVar 11)) dNil))))
def d__law_roll_after_r10 : DS := (dSeq (dAsg 11 (dIf (dAnd (dTst (d2 isNotD (dIx (dVarC 4) (dVar 9)) (dC .none))) (dTst (d2 eqD (dVar 10) (dOfO (dLst dNil))))) (dVar 9) (dVar 7)))
  d__law_roll_after_r11)
def d__law_roll_after_r9 : DS := (dSeq (dAsg 10 (dOfO (dLc [14, 12] (dIt (dSl (dVarC 3) (dSome (dIx (dVarC 5) (dVar 9))) dNo)) (gT 2 (gsCons (gN 14) (gsCons (gN 12) gsNil))) (dTst (d2 eqD (dVar 14) (dVar 9))) (dVar 14))))
  d__law_roll_after_r10)
def d__law_roll_after_r17 : DS := (dPutL 4 (dVar 7) (dC .none))
def d__law_roll_after_r15 : DS := (dIfS (dTst (d2 eqD (dVar 11) (dVar 7)))
  (dSeq (dAsg 8 (dVar 13))
  d__law_roll_after_r17)
  dNext)
def d__law_roll_after_r14 : DS := (dSeq (dPutL 5 (dVar 7) (d2 addD (dIx (dVarC 5) (dVar 7)) (dC (.int 1))))
  d__law_roll_after_r15)
def d__law_roll_after_r13 : DS := (dSeq (dAsgPut 13 6 (dIx (dCofE (dIx (dVarC 0) (dVar 12))) (dIx (dVarC 6) (dVar 7))) (dVar 7))
  d__law_roll_after_r14)
def d__law_roll_after_r8 : DS := (dSeq (dAsgG (dIx (dVarC 3) (dIx (dVarC 5) (dVar 7))) (gT 2 (gsCons (gN 11) (gsCons (gN 12) gsNil))))
  d__law_roll_after_r13)
def d__law_roll_after_r5 : DS := (dFreeze 6 (dFreeze 5 (dFreeze 4 (dFreeze 3 (dRet (dTup (dCons (dOfD (dDispS ["cells", "asked", "gone", "stands"] (dCons (dVar 3) (dCons (dVar 4) (dCons (dVar 5) (dCons (dVar 6) dNil)))))) (dCons (dVar 8) dNil))))))))
def d__law_roll_after_r4 : DS := (dSeq (dIfS (dTst (d2 eqD (dIx (dVarC 2) (dC (.int 0))) (dC (.str "ask"))))
  (dPutL 4 (dVar 7) (dIx (dVarC 2) (dC (.int 2))))
  (dSeq (dIfS (dTst (d2 eqD (dIx (dVarC 5) (dVar 7)) (dCBC lenC (dVarC 3))))
  (dSeq (dAsg 9 (d2 modD (dCBC lenC (dVarC 3)) (dCBC lenC (dVarC 4))))
  d__law_roll_after_r9)
  dNext)
  d__law_roll_after_r8))
  d__law_roll_after_r5)
def d__law_roll_after_r3 : DS := (dSeq (dAsg 8 (dC .none))
  d__law_roll_after_r4)
def d__law_roll_after_r2 : DS := (dSeq (dAsg 7 (dIx (dVarC 2) (dC (.int 1))))
  d__law_roll_after_r3)
def d__law_roll_after_r1 : DS := (dSeq (dParOO 5 6 (dCBO lstC (dCofE (dDGet (dVarD 1) (dC (.str "gone"))))) (dCBO lstC (dCofE (dDGet (dVarD 1) (dC (.str "stands"))))))
  d__law_roll_after_r2)
def n__law_roll_after : List Str := ["_law_table_here", "_law_state", "_law_deed", "_law_cells", "_law_asked", "_law_spots", "_law_stands", "_law_hand", "_law_told", "_law_turn", "_law_put_in", "_law_own", "_law_operation", "_law_answer", "_law_one"]
def d__law_roll_after : DS := (dSeq (dParOO 3 4 (dCBO lstC (dCofE (dDGet (dVarD 1) (dC (.str "cells"))))) (dCBO lstC (dCofE (dDGet (dVarD 1) (dC (.str "asked"))))))
  d__law_roll_after_r1)
def c__law_roll_after : Ct := fun ds R _ => ∃ (n : Nat) (r : RS) (k : Nat) (o : Option Nat), ds = [tabD r.t, rstD r, rdD k (o.map fun x : Nat => (x : Int))] ∧ RW n r ∧ k < r.m ∧ r.cells.length ≤ 49000 ∧ (∀ p, o = some p → p < r.t.length ∧ R (.sh (.tuple [rstD (askR r k p), .none]))) ∧ (o = none → r.askd k ≠ none ∧ R (.sh (.tuple [rstD (stepR r k), optI (toldR r k)])))
theorem l__law_roll_after : ∀ ds R Xd, c__law_roll_after ds R Xd → ds.length = 3 := by
  rintro ds R Xd ⟨_, _, _, _, rfl, _⟩
  rfl
theorem after_r5 {R : Slot → Prop} {Xd : XD} {r' : RS} {d : PyData} {a0 a1 a2 a7 a9 a10 a11 a12 a13 a14 : Slot} (q : R (.sh (.tuple [rstD r', d]))) :
    d__law_roll_after_r5 { nx := fun x => R (Slot.sh PyData.none), rt := R, ex := fun x x_1 => Xd x } [a0, a1, a2, .ow (.lst (r'.cells.map cellD)), .ow (.lst (r'.asked.map optD)), .ow (.lst (r'.gone.map natD)), .ow (.lst (r'.here.map natD)), a7, .sh d, a9, a10, a11, a12, a13, a14] := by
  simp [d__law_roll_after_r5]
  exact q
theorem after_r8 {n k : Nat} {R : Slot → Prop} {Xd : XD} {r : RS} {c : Nat × Nat} {a1 a2 a9 a10 a11 a12 a13 a14 : Slot} (w : RW n r) (hk : k < r.m) (hc : r.cells[r.at k]? = some c) (q : R (.sh (.tuple [rstD (goR r k c.1 c.2), optI (if c.1 = k then some (rowAt r.t c.2 (r.st k)).1 else none)]))) :
    d__law_roll_after_r8 { nx := d__law_roll_after_r5 { nx := fun x => R (Slot.sh PyData.none), rt := R, ex := fun x x_1 => Xd x }, rt := R, ex := fun x x_1 => Xd x }
      [.sh (tabD r.t), a1, a2, .ow (.lst (r.cells.map cellD)), .ow (.lst (r.asked.map optD)), .ow (.lst (r.gone.map natD)), .ow (.lst (r.here.map natD)), .sh (.int (k : Int)), .sh .none, a9, a10, a11, a12, a13, a14] := by
  obtain ⟨c1, c2⟩ := w.oc c (List.mem_of_getElem? hc)
  have hb := w.st_lt hk
  obtain ⟨op, e1, e2, e3, e4, e5, e6⟩ := rowAt_get w.g c2 hb
  have e0 : (r.cells.map cellD)[r.at k]? = some (cellD c) := by rw [List.getElem?_map, hc]; rfl
  have e7 : (r.t.map opI)[c.2]? = some (opI op) := by rw [List.getElem?_map, e1]; rfl
  have e8 : (op.map fun q => PyData.tuple [.int q.1, .int q.2])[r.st k]? = some (.tuple [.int (rowAt r.t c.2 (r.st k)).1, .int (rowAt r.t c.2 (r.st k)).2]) := by rw [List.getElem?_map, e3]; rfl
  simp [d__law_roll_after_r8, -List.getElem?_map, -List.map_set]
  refine ⟨_, w.g_at hk, ?_⟩
  simp [e0, cellD, -List.getElem?_map, -List.map_set]
  rw [tabD_map]
  simp [d__law_roll_after_r13, e7, opI_map, -List.getElem?_map, -List.map_set]
  refine ⟨_, w.h_at hk, ?_⟩
  obtain ⟨v, ev⟩ : ∃ v : Nat, (rowAt r.t c.2 (r.st k)).2 = v := ⟨(rowAt r.t c.2 (r.st k)).2.toNat, by omega⟩
  rw [ev] at e8
  simp [e8, w.lh, -List.getElem?_map, -List.map_set]
  refine ⟨_, _, .inl ⟨rfl, rfl⟩, k, ixn_nat hk, ?_⟩
  rw [set_nat]
  simp [d__law_roll_after_r14, w.lg, -List.getElem?_map, -List.map_set]
  refine ⟨_, w.g_at hk, ?_⟩
  simp [-List.getElem?_map, -List.map_set]
  refine ⟨k, ixn_nat hk, ?_⟩
  rw [show ((r.at k : Int) + 1) = ((r.at k + 1 : Nat) : Int) by omega, set_nat, ← tabD_map]
  simp [d__law_roll_after_r15, -List.getElem?_map, -List.map_set]
  have fin := after_r5 (R := R) (Xd := Xd) (a0 := .sh (tabD r.t)) (a1 := a1) (a2 := a2) (a7 := .sh (.int (k : Int))) (a9 := a9) (a10 := a10) (a11 := .sh (.int (c.1 : Int))) (a12 := .sh (.int (c.2 : Int))) (a13 := .sh (.int (rowAt r.t c.2 (r.st k)).1)) (a14 := a14) q
  by_cases ce : c.1 = k
  · rw [if_pos (by omega)]
    simp [d__law_roll_after_r17, w.la, -List.getElem?_map, -List.map_set]
    refine ⟨k, ixn_nat hk, ?_⟩
    rw [show (r.asked.map optD).set k PyData.none = (r.asked.set k none).map optD from set_opt none]
    rw [if_pos ce] at fin
    simpa [goR, ev, ce, optI] using fin
  · rw [if_neg (by omega)]
    rw [if_neg ce] at fin
    simpa [goR, ev, ce, optI] using fin
theorem p__law_roll_after : Kp d__law_roll_after n__law_roll_after c__law_roll_after := by
  rintro ds R Xd ⟨n, r, k, o, rfl, w, hk, hl, h1, h2⟩
  have m4 := w.m4
  simp [d__law_roll_after, st0, n__law_roll_after]
  refine cel_g (.inl ⟨_, rfl, ask_g (.inl ⟨_, rfl, ?_⟩)⟩)
  simp [d__law_roll_after_r1]
  refine gon_g (.inl ⟨_, rfl, sta_g (.inl ⟨_, rfl, ?_⟩)⟩)
  have c4 := w.m4
  cases o with
  | some p =>
    obtain ⟨hp, q⟩ := h1 p rfl
    simp [d__law_roll_after_r2, rdD]
    simp [d__law_roll_after_r3]
    simp [d__law_roll_after_r4, -List.map_set]
    refine ⟨strOk_of _, k, ixn_nat (by rw [w.la]; exact hk), ?_⟩
    rw [show PyData.int (p : Int) = optD (some p) from rfl, set_opt]
    exact after_r5 (r' := askR r k p) q
  | none =>
    obtain ⟨ha, q⟩ := h2 rfl
    simp [d__law_roll_after_r2, rdD]
    simp [d__law_roll_after_r3]
    simp [d__law_roll_after_r4, -List.getElem?_map]
    refine ⟨strOk_of _, strOk_of _, by decide, _, w.g_at hk, rfl, ?_⟩
    rw [eqv_int]
    by_cases ce : r.at k = r.cells.length
    · rw [if_pos (by simp [ce])]
      have hu : r.cells.length % r.m < r.m := Nat.mod_lt _ (by omega)
      refine ⟨by have := w.la; omega, ?_⟩
      rw [show ((r.cells.length : Int) % (r.asked.length : Int)) = ((r.cells.length % r.m : Nat) : Int) by rw [w.la]; rfl]
      obtain ⟨u, eu⟩ : ∃ u, r.cells.length % r.m = u := ⟨_, rfl⟩
      rw [eu] at hu ⊢
      have ewin : winR r k = if (r.askd u).isSome && !isPut r u then u else k := by unfold winR; rw [eu]
      simp [d__law_roll_after_r9, -List.getElem?_map]
      refine ⟨_, w.g_at hu, _, rfl, ?_⟩
      rw [cutD_map_some (w.at_le hu)]
      refine lcA_filM (fun c : Nat × Nat => c.1 == u) (fun c => .int (c.1 : Int)) (by simp; omega) (fun c hc Kx K0 e1 e0 => ?_) ?_
      · simp [cellD]
        by_cases e : c.1 = u
        · rw [if_pos (by omega)]
          exact e1 (by simpa using e)
        · rw [if_neg (by omega)]
          exact e0 (by simpa using e)
      · simp only [List.nil_append]
        have eput : PyData.eqv (.list (((r.cells.drop (r.at u)).filter fun c => c.1 == u).map fun c => PyData.int (c.1 : Int))) (.list []) = !isPut r u := by
          have e2 : isPut r u = !((r.cells.drop (r.at u)).filter fun c => c.1 == u).isEmpty := by
            unfold isPut
            rw [Bool.eq_iff_iff]
            simp [List.any_eq_true, List.filter_eq_nil_iff]
          rw [e2]
          cases (r.cells.drop (r.at u)).filter fun c => c.1 == u <;> simp [PyData.eqv, PyData.eqvAll]
        have esp : SeqAt.shaped (.list (((r.cells.drop (r.at u)).filter fun c => c.1 == u).map fun c => PyData.int (c.1 : Int))) = true := by
          have sd : Sd 8 (.list (((r.cells.drop (r.at u)).filter fun c => c.1 == u).map fun c => PyData.int (c.1 : Int))) := ⟨by
            rw [List.length_map]
            have h1 := List.length_filter_le (fun c : Nat × Nat => c.1 == u) (r.cells.drop (r.at u))
            rw [List.length_drop] at h1
            omega, fun d hd => by
            obtain ⟨x, _, rfl⟩ := List.mem_map.mp hd
            trivial⟩
          exact sd.shaped (by omega)
        generalize (((r.cells.drop (r.at u)).filter fun c => c.1 == u).map fun c => PyData.int (c.1 : Int)) = pl at eput esp
        obtain ⟨w1, w2⟩ := winR_ok w hk ha
        have fin : ∀ own : Nat, own = winR r k → d__law_roll_after_r11 { nx := d__law_roll_after_r8 { nx := d__law_roll_after_r5 { nx := fun x => R (Slot.sh PyData.none), rt := R, ex := fun x x_1 => Xd x }, rt := R, ex := fun x x_1 => Xd x }, rt := R, ex := fun x x_1 => Xd x }
            [.sh (tabD r.t), .sh (rstD r), .sh (.tuple [.str "step", .int (k : Int)]), .ow (.lst (r.cells.map cellD)), .ow (.lst (r.asked.map optD)), .ow (.lst (r.gone.map natD)), .ow (.lst (r.here.map natD)), .sh (.int (k : Int)), .sh .none, .sh (.int (u : Int)), .sh (.list pl), .sh (.int (own : Int)), .no, .no, .no] := fun own eo => by
          subst eo
          obtain ⟨o, ho⟩ := Option.ne_none_iff_exists'.mp w2
          simp [d__law_roll_after_r11, -List.getElem?_map]
          refine ⟨_, w.a_at w1, by omega, ?_⟩
          have ep : putR r k = { r with cells := r.cells ++ [(winR r k, (r.askd (winR r k)).getD 0)] } := if_pos ce
          have hc := (cellR_ok w hk ha).1
          have wp := putR_w w hk ha
          have q5 := q
          unfold stepR toldR at q5
          rw [ep] at hc wp q5
          have q6 := after_r8 (R := R) (Xd := Xd) (a1 := .sh (rstD r)) (a2 := .sh (.tuple [.str "step", .int (k : Int)])) (a9 := .sh (.int (u : Int))) (a10 := .sh (.list pl)) (a11 := .sh (.int (winR r k : Int))) (a12 := .no) (a13 := .no) (a14 := .no) wp hk hc q5
          simpa [ho, optD, cellD] using q6
        simp [d__law_roll_after_r10, -List.getElem?_map]
        refine ⟨_, w.a_at hu, ?_⟩
        cases hau : r.askd u with
        | none =>
          rw [if_pos (by simp [optD, isNo])]
          exact fin k (by rw [ewin, hau]; rfl)
        | some v =>
          rw [if_neg (by simp [optD, isNo])]
          refine ⟨esp, rfl, ?_⟩
          rw [eput]
          cases hpu : isPut r u with
          | true =>
            rw [if_neg (by simp)]
            exact fin k (by rw [ewin, hau, hpu]; rfl)
          | false =>
            rw [if_pos (by simp)]
            exact fin u (by rw [ewin, hau, hpu]; rfl)
    · rw [if_neg (by simp; omega)]
      have ep : putR r k = r := if_neg ce
      have hc := (cellR_ok w hk ha).1
      have q5 := q
      unfold stepR toldR at q5
      rw [ep] at hc q5
      exact after_r8 w hk hc q5
end WH
namespace WH
open PySem PySem.Spec L2
variable [ClsA]
def n__law_roll_do : List Str := ["_law_roll_here", "_law_deed"]
def d__law_roll_do : DSY := (yRet (yIfE (dTst (d2 eqD (dIx (dVarC 1) (dC (.int 0))) (dC (.str "ask")))) (yMth 0 (ClsA.A "Roll") "ask" c_Roll_ask (dCons (dIx (dVarC 1) (dC (.int 1))) (dCons (dIx (dVarC 1) (dC (.int 2))) dNil))) (yMth 0 (ClsA.A "Roll") "step" c_Roll_step (dCons (dIx (dVarC 1) (dC (.int 1))) dNil))))
theorem wordR_no {r : RS} {h : Int} {o : Option Int} (c : h < 0 ∨ (r.m : Int) ≤ h) : wordR r h o = "NoHand" := by
  unfold wordR
  rw [if_pos (by omega)]
theorem wordR_step {r : RS} {k : Nat} (hk : k < r.m) : wordR r k none = if r.askd k = none then ("Idle" : Str) else "" := by
  unfold wordR
  rw [if_neg (by omega), show (k : Int).toNat = k by omega]
theorem wordR_ask {r : RS} {k : Nat} {o : Int} (hk : k < r.m) : wordR r k (some o) = if r.askd k ≠ none then ("Busy" : Str) else if 0 ≤ o ∧ o < (r.t.length : Int) then "" else "NoOperation" := by
  unfold wordR
  rw [if_neg (by omega), show (k : Int).toNat = k by omega]
def c__law_roll_do : CtY := fun ds t R X => ∃ (r : RS) (n : Nat) (h : Int) (o : Option Int), RW n r ∧ ds = [rdD h o] ∧ t = rollT r ∧ r.cells.length ≤ 49000 ∧ (wordR r h o ≠ "" → X (xP (wordR r h o)) (rollT r)) ∧
  (wordR r h o = "" → ∀ k : Nat, h = k → k < r.m → (∀ p : Nat, o = some (p : Int) → p < r.t.length → R .none (rollT (askR r k p))) ∧ (o = none → r.askd k ≠ none → R (optI (toldR r k)) (rollT (stepR r k))))
theorem l__law_roll_do : ∀ ds t R Xd, c__law_roll_do ds t R Xd → ds.length = 1 := by
  rintro ds t R Xd ⟨r, n, h, o, _, rfl, _⟩
  rfl
theorem p__law_roll_do : KpY d__law_roll_do n__law_roll_do c__law_roll_do := by
  rintro ds a t R Xd ⟨r, n, h, o, w, rfl, rfl, hl, hX, hR⟩
  cases o with
  | none =>
    simp [d__law_roll_do, st0, n__law_roll_do, rdD]
    refine ⟨strOk_of _, strOk_of _, by decide, a, _, ⟨rfl, rfl⟩, rfl, 0, rfl, r, n, h, w, rfl, rfl, hl, fun c => ?_, fun k e hk => ?_⟩
    · simp
      rw [wordR_no c] at hX
      exact hX (by decide)
    · subst e
      rw [wordR_step hk] at hX hR
      refine ⟨fun ha => ?_, fun ha => ?_⟩
      · simp
        rw [if_pos ha] at hX
        exact hX (by decide)
      · simp
        rw [if_neg ha] at hR
        exact (hR rfl k rfl hk).2 rfl ha
  | some o =>
    simp [d__law_roll_do, st0, n__law_roll_do, rdD]
    refine ⟨strOk_of _, a, _, ⟨rfl, rfl⟩, rfl, 0, rfl, r, n, h, o, w, rfl, rfl, fun c => ?_, fun k e hk => ?_⟩
    · simp
      rw [wordR_no c] at hX
      exact hX (by decide)
    · subst e
      rw [wordR_ask hk] at hX hR
      refine ⟨fun ha => ?_, fun ha => ⟨fun c => ?_, fun p e hp => ?_⟩⟩
      · simp
        rw [if_pos ha] at hX
        exact hX (by decide)
      · simp
        rw [if_neg (by simpa using ha), if_neg (by omega)] at hX
        exact hX (by decide)
      · subst e
        simp
        rw [if_neg (by simpa using ha), if_pos (by omega)] at hR
        exact (hR rfl k rfl hk).1 p rfl hp
end WH
namespace WH
open PySem PySem.Spec L2
variable [ClsA]
def d__law_roll_so_r4 : DS := (dRet (dCall c__law_same (dCons (dVar 3) (dCons (d2 addD (dVar 4) (dOfO (dLst (dCons (dOfO (dLc [6] (dIt (dDGet (dVarD 1) (dC (.str "gone")))) (gN 6) dYes (d2 subD (dCB lenD (dCons (dDGet (dVarD 1) (dC (.str "cells"))) dNil)) (dVar 6)))) (dCons (dDGet (dVarD 1) (dC (.str "stands"))) dNil))))) dNil))))
def d__law_roll_so_r3 : DS := (dSeq (dAsg 4 (dOfO (dLst (dCons (dDGet (dVarD 1) (dC (.str "cells"))) (dCons (dCB lenD (dCons (dDGet (dVarD 1) (dC (.str "cells"))) dNil)) (dCons (dDGet (dVarD 1) (dC (.str "asked"))) dNil))))))
  d__law_roll_so_r4)
def d__law_roll_so_r2 : DS := (dSeq (dAsg 3 (d2 addD (dVar 3) (dOfO (dLst (dCons (dOfO (dLc [5] (dRng1 (dVar 2)) (gN 5) dYes (dMthQ 0 (ClsA.A "Roll") "behind" c_Roll_behind (dCons (dVar 5) dNil)))) (dCons (dOfO (dLc [5] (dRng1 (dVar 2)) (gN 5) dYes (dMthQ 0 (ClsA.A "Roll") "stand" c_Roll_stand (dCons (dVar 5) dNil)))) dNil))))))
  d__law_roll_so_r3)
def d__law_roll_so_r1 : DS := (dSeq (dAsg 3 (dOfO (dLst (dCons (dMthQ 0 (ClsA.A "Roll") "rows" c_Roll_rows dNil) (dCons (dLenO 0 (ClsA.A "Roll") c_Roll___len__) (dCons (dOfO (dLc [5] (dRng1 (dVar 2)) (gN 5) dYes (dMthQ 0 (ClsA.A "Roll") "pending" c_Roll_pending (dCons (dVar 5) dNil)))) dNil))))))
  d__law_roll_so_r2)
def n__law_roll_so : List Str := ["_law_roll_here", "_law_state", "_law_many", "_law_found", "_law_due", "_law_hand", "_law_spot"]
def d__law_roll_so : DS := (dSeq (dAsg 2 (dCB lenD (dCons (dDGet (dVarD 1) (dC (.str "asked"))) dNil)))
  d__law_roll_so_r1)
def c__law_roll_so : CtQ := fun ds t R _ => ∃ (r : RS) (n : Nat), RW n r ∧ ds = [rstD r] ∧ t = rollT r ∧ r.cells.length ≤ 49000 ∧ R (.sh (.bool true))
theorem l__law_roll_so : ∀ ds t R Xd, c__law_roll_so ds t R Xd → ds.length = 1 := by
  rintro ds t R Xd ⟨r, n, _, rfl, _⟩
  rfl
theorem sdR_ofL {k : Nat} {l : List PyData} (hl : l.length ≤ 50000) (h : ∀ d ∈ l, Sd k d) : Sd (k + 1) (.list l) := ⟨hl, h⟩
theorem sdR_nat {k : Nat} {l : List Nat} (hl : l.length ≤ 50000) : Sd (k + 1) (.list (l.map natD)) := sdR_ofL (by simpa using hl) fun d hd => by
  obtain ⟨x, _, rfl⟩ := List.mem_map.mp hd
  cases k <;> trivial
theorem sdR_cells {k : Nat} {l : List (Nat × Nat)} (hl : l.length ≤ 50000) : Sd (k + 2) (.list (l.map cellD)) := sdR_ofL (by simpa using hl) fun d hd => by
  obtain ⟨x, _, rfl⟩ := List.mem_map.mp hd
  exact ⟨by simp, fun d hd => by
    simp only [List.mem_cons, List.not_mem_nil, or_false] at hd
    rcases hd with rfl | rfl <;> cases k <;> trivial⟩
theorem sdR_opt {k : Nat} {l : List (Option Nat)} (hl : l.length ≤ 50000) : Sd (k + 1) (.list (l.map optD)) := sdR_ofL (by simpa using hl) fun d hd => by
  obtain ⟨x, _, rfl⟩ := List.mem_map.mp hd
  cases x <;> cases k <;> trivial
theorem rng_map {α : Type} (f : α → PyData) (d : α) (l : List α) {m : Nat} (h : l.length = m) : (List.range m).map (fun j => f (l.getD j d)) = l.map f := by
  subst h
  apply List.ext_getElem
  · simp
  · intro i h1 h2
    simp at h1
    simp [List.getD, h1]
theorem p__law_roll_so : KpQ d__law_roll_so n__law_roll_so c__law_roll_so := by
  rintro ds a t R Xd ⟨r, n, w, rfl, rfl, hl, hR⟩
  have m4 := w.m4
  have la := w.la
  have lg := w.lg
  have lh := w.lh
  simp [d__law_roll_so, st0, n__law_roll_so]
  refine ask_g ?_
  simp [lenD]
  simp [d__law_roll_so_r1]
  refine ⟨a, _, ⟨rfl, rfl⟩, rfl, r, n, w, rfl, rfl, by omega, _, rfl, a, _, ⟨rfl, rfl⟩, r, rfl, rfl, _, rfl, by omega, by omega, ?_⟩
  have m2 := w.m2
  rw [rngD_nat, la]
  refine lcA_mapM (fun j : Nat => optD (r.askd j)) (by simp; omega) (fun j hj K hK => ?_) ?_
  · have hj : j < r.m := List.mem_range.mp hj
    simp [natD]
    exact ⟨a, _, ⟨rfl, rfl⟩, rfl, r, n, j, w, rfl, rfl, hj, _, rfl, hK⟩
  rw [List.nil_append, show (List.range r.m).map (fun j : Nat => optD (r.askd j)) = r.asked.map optD from rng_map optD none r.asked la]
  simp [d__law_roll_so_r2]
  refine ⟨by omega, ?_⟩
  rw [rngD_nat]
  refine lcA_mapM (fun j : Nat => .int ((r.cells.length - r.at j : Nat) : Int)) (by simp; omega) (fun j hj K hK => ?_) ?_
  · have hj : j < r.m := List.mem_range.mp hj
    simp [natD]
    exact ⟨a, _, ⟨rfl, rfl⟩, rfl, r, n, j, w, rfl, rfl, hj, _, rfl, hK⟩
  rw [List.nil_append, show (List.range r.m).map (fun j : Nat => PyData.int ((r.cells.length - r.at j : Nat) : Int)) = r.gone.map (fun s => PyData.int ((r.cells.length - s : Nat) : Int)) from rng_map (fun s => PyData.int ((r.cells.length - s : Nat) : Int)) 0 r.gone lg]
  refine ⟨by omega, ?_⟩
  refine lcA_mapM (fun j : Nat => .int (r.st j : Int)) (by simp; omega) (fun j hj K hK => ?_) ?_
  · have hj : j < r.m := List.mem_range.mp hj
    simp [natD]
    exact ⟨a, _, ⟨rfl, rfl⟩, rfl, r, n, j, w, rfl, rfl, hj, _, rfl, hK⟩
  rw [List.nil_append, show (List.range r.m).map (fun j : Nat => PyData.int (r.st j : Int)) = r.here.map natD from rng_map natD 0 r.here lh]
  simp [d__law_roll_so_r3]
  refine cel_g (cel_g ?_)
  simp [lenD]
  refine ask_g ?_
  simp [d__law_roll_so_r4]
  refine gon_g (.inl ⟨_, rfl, ?_⟩)
  refine lcA_mapM (fun s : Nat => .int ((r.cells.length - s : Nat) : Int)) (by simp; omega) (fun s hs K hK => ?_) ?_
  · simp [natD]
    refine cel_g ?_
    simp [lenD]
    have := w.og s hs
    rw [show (r.cells.length : Int) - (s : Int) = ((r.cells.length - s : Nat) : Int) by omega]
    exact hK
  rw [List.nil_append]
  refine sta_g (same_of ?_ ⟨_, rfl, hR⟩)
  refine sdR_ofL (by simp) fun d hd => ?_
  simp only [List.mem_cons, List.not_mem_nil, or_false] at hd
  rcases hd with rfl | rfl | rfl | rfl | rfl
  · exact sdR_cells (by omega)
  · trivial
  · exact sdR_opt (by omega)
  · refine sdR_ofL (by simp; omega) fun d hd => ?_
    obtain ⟨x, _, rfl⟩ := List.mem_map.mp hd
    trivial
  · exact sdR_nat (by omega)
end WH
namespace WH
open PySem PySem.Spec L2
variable [ClsA]
def n__law_called : List Str := ["_law_e", "_law_flags", "_law_every", "_law_found", "_law_name", "_law_here"]
def d__law_called (a dd : Addr) (nm : Str) : DS := (dSeq (dAsg 1 (dOfO (dLst (dCons (dIsX 0 a dd (decide (("BadTable" : Str) = nm))) (dCons (dIsX 0 a dd (decide (("BadText" : Str) = nm))) (dCons (dIsX 0 a dd (decide (("BadChoice" : Str) = nm))) (dCons (dIsX 0 a dd (decide (("BadOrder" : Str) = nm))) dNil)))))))
  (dSeq (dAsg 1 (d2 addD (dVar 1) (dOfO (dLst (dCons (dIsX 0 a dd (decide (("BadMany" : Str) = nm))) (dCons (dIsX 0 a dd (decide (("BadScheme" : Str) = nm))) (dCons (dIsX 0 a dd (decide (("BadWishes" : Str) = nm))) (dCons (dIsX 0 a dd (decide (("BadTurn" : Str) = nm))) dNil))))))))
  (dSeq (dAsg 1 (d2 addD (dVar 1) (dOfO (dLst (dCons (dIsX 0 a dd (decide (("Full" : Str) = nm))) (dCons (dIsX 0 a dd (decide (("TooWide" : Str) = nm))) dNil))))))
  (dSeq (dAsg 1 (d2 addD (dVar 1) (dOfO (dLst (dCons (dIsX 0 a dd (decide (("NoScheme" : Str) = nm))) (dCons (dIsX 0 a dd (decide (("Ended" : Str) = nm))) (dCons (dIsX 0 a dd (decide (("Still" : Str) = nm))) (dCons (dIsX 0 a dd (decide (("Busy" : Str) = nm))) dNil))))))))
  (dSeq (dAsg 1 (d2 addD (dVar 1) (dOfO (dLst (dCons (dIsX 0 a dd (decide (("Idle" : Str) = nm))) (dCons (dIsX 0 a dd (decide (("Undone" : Str) = nm))) (dCons (dIsX 0 a dd (decide (("NoStand" : Str) = nm))) (dCons (dIsX 0 a dd (decide (("NoOperation" : Str) = nm))) dNil))))))))
  (dSeq (dAsg 1 (d2 addD (dVar 1) (dOfO (dLst (dCons (dIsX 0 a dd (decide (("NoHand" : Str) = nm))) (dCons (dIsX 0 a dd (decide (("NothingLeft" : Str) = nm))) dNil))))))
  (dSeq (dAsg 2 (dC (.str "BadTable BadText BadChoice BadOrder BadMany BadScheme BadWishes BadTurn ")))
  (dSeq (dAsg 2 (d2 addD (dVar 2) (dC (.str "Full TooWide NoScheme Ended Still Busy Idle Undone NoStand NoOperation NoHand "))))
  (dSeq (dAsg 2 (d2 addD (dVar 2) (dC (.str "NothingLeft"))))
  (dSeq (dAsg 3 (dJoin (dC (.str "+")) (dCofO (dLc [4, 5] (dZipL (dOfO (dSplit (dVar 2) (dC (.str " ")))) (dVar 1)) (gT 2 (gsCons (gN 4) (gsCons (gN 5) gsNil))) (dTst (dVar 5)) (dVar 4)))))
  (dRet (dIf (dTst (d2 eqD (dXf 0 a dd "word") (dVar 3))) (dVar 3) (d2 addD (dVar 3) (dC (.str "?")))))))))))))))
@[simp] theorem s_dIsX (i : Nat) (a dd : Addr) (b : Bool) (ρ : Sto) (Q : PyData → Prop) (u : XD) : dIsX i a dd b ρ Q u ↔ ∃ fs, ρ[i]? = some (Slot.raw (.ref a) (some (dd, fs))) ∧ Q (.bool b) := Iff.rfl
@[simp] theorem s_dXf (i : Nat) (a dd : Addr) (n : Str) (ρ : Sto) (Q : PyData → Prop) (u : XD) : dXf i a dd n ρ Q u ↔ ∃ fs d, ρ[i]? = some (Slot.raw (.ref a) (some (dd, fs))) ∧ fs.lookup n = some d ∧ Q d := Iff.rfl
theorem p__law_called (a dd : Addr) {nm : Str} {fs : List (Str × PyData)} (hn : nm ∈ callNames) (hw : fs.lookup ("word" : Str) = some (.str nm)) :
    d__law_called a dd nm { nx := fun _ => False, rt := fun s => s = .sh (.str nm), ex := fun _ _ => False } (Slot.raw (.ref a) (some (dd, fs)) :: List.replicate 5 Slot.no) := by
  have hsp : Txt.split (("BadTable BadText BadChoice BadOrder BadMany BadScheme BadWishes BadTurn " : Str) ++ ("Full TooWide NoScheme Ended Still Busy Idle Undone NoStand NoOperation NoHand " : Str) ++ ("NothingLeft" : Str)) (" " : Str) = callNames := by decide +kernel
  have hone : ∀ c ∈ callNames, callNames.filter (fun d => decide (d = c)) = [c] := by decide +kernel
  have hlen : ∀ c ∈ callNames, c.length ≤ 20 ∧ PyData.strOk c = true := by decide +kernel
  simp [d__law_called, List.replicate, hsp]
  refine ⟨by decide +kernel, by decide +kernel, by decide +kernel, by decide +kernel, by decide +kernel, ?_⟩
  refine lc_filM (xs := callNames) (g := fun c => wk [.str c, .bool (decide (c = nm))]) (fun c => decide (c = nm)) (fun c => .str c) (by decide +kernel) (fun c hc K1 K0 h1 h0 => ?_) ?_
  · simp
    by_cases e : c = nm
    · simpa [e] using h1 (by simpa using e)
    · simpa [e] using h0 (by simpa using e)
  · rw [hone nm hn]
    have hl := hlen nm hn
    have hj : Txt.join ("+" : Str) [nm] = nm := rfl
    refine ⟨[nm], rfl, ?_, .str nm, hw, ?_⟩
    · have : ("+" : Str).length = 1 := rfl
      simp [this]
      omega
    · have hs : SeqAt.shaped (PyData.str nm) = true := by unfold SeqAt.shaped; simp [PyData.canLay0, PyData.depth, hl.2]
      rw [hj]
      exact ⟨hs, hl.2, by simp [PyData.eqv]⟩
theorem askR_w {n : Nat} {r : RS} {k o : Nat} (w : RW n r) (ho : o < r.t.length) : RW n (askR r k o) := by
  refine ⟨w.g, w.m2, w.m4, by simp [askR, w.la], w.lg, w.lh, fun p hp => ?_, w.og, w.oh, w.oc⟩
  rcases List.mem_or_eq_of_mem_set hp with h | h
  · exact w.oa p h
  · cases h; exact ho
theorem goR_w {n k own op : Nat} {r : RS} (w : RW n r) (hk : k < r.m) (hl : r.at k < r.cells.length) (ho : op < r.t.length) : RW n (goR r k own op) := by
  obtain ⟨_, _, _, _, _, q1, q2⟩ := rowAt_get w.g ho (w.st_lt hk)
  refine ⟨w.g, w.m2, w.m4, ?_, by simp [goR, w.lg], by simp [goR, w.lh], fun o h => ?_, fun x h => ?_, fun x h => ?_, w.oc⟩
  · unfold goR; dsimp only; split <;> simp [w.la]
  · unfold goR at h; dsimp only at h
    split at h
    · rcases List.mem_or_eq_of_mem_set h with z | z
      · exact w.oa o z
      · cases z
    · exact w.oa o h
  · rcases List.mem_or_eq_of_mem_set h with z | z
    · exact w.og x z
    · show x ≤ r.cells.length; omega
  · rcases List.mem_or_eq_of_mem_set h with z | z
    · exact w.oh x z
    · omega
theorem putR_tm (r : RS) (k : Nat) : (putR r k).t = r.t ∧ (putR r k).m = r.m ∧ (putR r k).gone = r.gone ∧ (putR r k).cells.length ≤ r.cells.length + 1 := by
  unfold putR
  split <;> simp
theorem stepR_w {n k : Nat} {r : RS} (w : RW n r) (hk : k < r.m) (ha : r.askd k ≠ none) : RW n (stepR r k) := by
  obtain ⟨e1, e2, e3, _⟩ := putR_tm r k
  have c := cellR_ok w hk ha
  have ea : (putR r k).at k = r.at k := by unfold RS.at; rw [e3]
  exact goR_w (putR_w w hk ha) (by rw [e2]; exact hk) (by rw [ea]; exact putR_at w hk) (by rw [e1]; exact c.2.2)
theorem stepR_tm (r : RS) (k : Nat) : (stepR r k).t = r.t ∧ (stepR r k).m = r.m ∧ (stepR r k).cells.length ≤ r.cells.length + 1 := by
  obtain ⟨e1, e2, _, e4⟩ := putR_tm r k
  exact ⟨e1, e2, e4⟩
end WH
namespace WH
open PySem PySem.Spec L2
variable [ClsA]
def d_law_r7 : DSY := (yMkD 5 (ClsA.A "Roll") c_Roll 0 (dCons (dVar 2) (dCons (dVar 3) dNil)))
def d_law_r20 : DSY := (lfY (dIfS (dNot (dTst (dClQ 5 c__law_roll_so (dCons (dVar 7) dNil))))
  (dRet (dC (.bool false)))
  dNext))
def d_law_r19 : DSY := (ySeq (lfY (dApp 8 (dTup (dCons (dMthQ 5 (ClsA.A "Roll") "rows" c_Roll_rows dNil) (dCons (dOfO (dCBO lstC (dCofE (dDGet (dVarD 7) (dC (.str "cells")))))) dNil)))))
  d_law_r20)
def d_law_r17 : DSY := (ySeq (lfY (dClearO (dMthO0 5 (ClsA.A "Roll") "rows" c_Roll_rows)))
  d_law_r19)
def d_law_r15 : DSY := (ySeq (yIfT (yNot (yTst (yCallA c__law_same (yCons (yTried xn_law (yCl 5 c__law_roll_do (dCons (dVar 10) dNil))) (yCons (lfE (dTup (dCons (dVar 12) (dCons (dVar 11) dNil)))) yNil)))))
  (lfY (dRet (dC (.bool false))))
  yNext)
  d_law_r17)
def d_law_r14 : DSY := (ySeq (lfY (dIfS (dTst (d2 eqD (dVar 11) (dC (.str ""))))
  (dAsgG (dCall c__law_roll_after (dCons (dVar 2) (dCons (dVar 7) (dCons (dVar 10) dNil)))) (gT 2 (gsCons (gN 7) (gsCons (gN 12) gsNil))))
  dNext))
  d_law_r15)
def d_law_r13 : DSY := (ySeq (lfY (dAsg 12 (dC .none)))
  d_law_r14)
def d_law_r12 : DSY := (ySeq (lfY (dAsg 11 (dCall c__law_roll_word (dCons (dVar 2) (dCons (dVar 7) (dCons (dVar 10) dNil))))))
  d_law_r13)
def d_law_r28 : DSY := (lfY (dRet (dClQ 6 c__law_roll_so (dCons (dCall c__law_roll_state (dCons (dVar 3) (dCons (dVar 4) dNil))) dNil))))
def d_law_r26 : DSY := (yFreeze 8 (ySeq (lfY (dIfS (dNot (dTst (dCBC allC (dCofO (dLc [16, 17] (dIt (dVar 8)) (gT 2 (gsCons (gN 16) (gsCons (gN 17) gsNil))) dYes (dCall c__law_same (dCons (dVar 16) (dCons (dVar 17) dNil))))))))
  (dRet (dC (.bool false)))
  dNext))
  d_law_r28))
def d_law_r25 : DSY := (ySeq (lfY (dIfS (dTst (d2 neD (dVar 14) (d2 addD (dOfO (dLst (dCons (dC (.str "BadTable 0")) (dCons (dC (.str "NoStand")) dNil)))) (d2 mulD (dOfO (dLst (dCons (dC (.str "BadMany")) dNil))) (dC (.int 4))))))
  (dRet (dC (.bool false)))
  dNext))
  d_law_r26)
def d_law_r24 : DSY := (ySeq (lfY (dAsg 14 (d2 addD (dVar 14) (dOfO (dLc [15] (dIt (dOfO (dLst (dCons (dC (.int 1)) (dCons (dC (.int 5)) (dCons (dC (.int 0)) (dCons (dNeg (dC (.int 3))) dNil))))))) (gN 15) dYes (dIx (dCofE (dTried xn_law (dMkRD (ClsA.A "Roll") c_Roll 0 (dCons (dVar 2) (dCons (dVar 15) dNil))))) (dC (.int 1))))))))
  d_law_r25)
def d_law_r23 : DSY := (ySeq (lfY (dAsg 14 (dOfO (dLst (dCons (dIx (dCofE (dTried xn_law (dMkR (ClsA.A "Roll") c_Roll 2 (dCons (dTup dNil) (dCons (dC (.int 9)) dNil)) (dC (.int 99))))) (dC (.int 1))) (dCons (dIx (dCofE (dTried xn_law (dMkR (ClsA.A "Roll") c_Roll 2 (dCons (dVar 2) (dCons (dC (.int 9)) dNil)) (dVar 13)))) (dC (.int 1))) dNil))))))
  d_law_r24)
def d_law_r11 : DSY := (ySeq (lfY (dAsg 13 (dIx (dCofO (dLst (dCons (dCB lenD (dCons (dIx (dVarC 2) (dC (.int 0))) dNil)) (dCons (dNeg (dC (.int 1))) dNil)))) (d2 modD (dIx (dVarC 1) (dC (.int 44))) (dC (.int 2))))))
  d_law_r23)
def d_law_r10 : DSY := (ySeq (yFor (dRng1 (d2 modD (dIx (dVarC 1) (dC (.int 43))) (dC (.int 51)))) (gN 9)
  (ySeq (lfY (dAsg 10 (dCall c__law_roll_deed (dCons (dSl (dVarC 1) (dSome (d2 addD (dC (.int 50)) (d2 mulD (dC (.int 4)) (dVar 9)))) (dSome (d2 addD (dC (.int 54)) (d2 mulD (dC (.int 4)) (dVar 9))))) (dCons (dVar 2) (dCons (dVar 3) dNil))))))
  d_law_r12))
  d_law_r11)
def d_law_r9 : DSY := (ySeq (lfY (dParO 7 8 (dCall c__law_roll_state (dCons (dVar 3) (dCons (dVar 4) dNil))) (dLst dNil)))
  d_law_r10)
def d_law_r6 : DSY := (ySeq (yMk 6 (ClsA.A "Roll") c_Roll 2 (dCons (dVar 2) (dCons (dVar 3) dNil)) (dVar 4))
  d_law_r9)
def d_law_r5 : DSY := (ySeq (yIf (dTst (d2 eqD (d2 modD (dIx (dVarC 1) (dC (.int 42))) (dC (.int 3))) (dC (.int 0))))
  (ySeq (lfY (dAsg 4 (dC (.int 0))))
  d_law_r7)
  yNext)
  d_law_r6)
def d_law_r4 : DSY := (ySeq (yMk 5 (ClsA.A "Roll") c_Roll 2 (dCons (dVar 2) (dCons (dVar 3) dNil)) (dVar 4))
  d_law_r5)
def d_law_r3 : DSY := (ySeq (lfY (dAsg 4 (d2 modD (dIx (dVarC 1) (dC (.int 41))) (dCB lenD (dCons (dIx (dVarC 2) (dC (.int 0))) dNil)))))
  d_law_r4)
def d_law_r2 : DSY := (ySeq (lfY (dAsg 3 (d2 addD (dC (.int 2)) (d2 modD (dIx (dVarC 1) (dC (.int 40))) (dC (.int 3))))))
  d_law_r3)
def d_law_r1 : DSY := (ySeq (lfY (dAsg 2 (dCall c__law_table (dCons (dVar 1) (dCons (dC (.int 5)) (dCons (dC (.int 4)) dNil))))))
  d_law_r2)
def n_law : List Str := ["_law_script", "_law_numbers_here", "_law_table_here", "_law_many", "_law_begin", "_law_roll_here", "_law_beside_it", "_law_state", "_law_held", "_law_k", "_law_deed", "_law_word", "_law_told", "_law_off", "_law_asked", "_law_one", "_law_shown", "_law_due"]
def d_law : DSY := (ySeq (lfY (dAsg 1 (dCall c__law_numbers (dCons (dVar 0) (dCons (dC (.int 300)) dNil)))))
  d_law_r1)
def c_law : Ct := fun ds R _ => ∃ ns : List Int, ds = [scrD ns] ∧ ns.length ≤ 63 ∧ R (.sh (.bool true))
theorem l_law : ∀ ds R Xd, c_law ds R Xd → ds.length = 1 := by
  rintro ds R Xd ⟨ns, rfl, h⟩
  rfl
def NT1 (s : Slot) : Prop := ∀ ρ τ, trIn (s :: ρ) τ ↔ trIn ρ τ
theorem nt1_sh (d : PyData) : NT1 (.sh d) := fun ρ τ => by simp
theorem nt1_no : NT1 .no := fun ρ τ => by simp
def HdOk (held : List PyData) : Prop := ∀ d ∈ held, ∃ e, d = .tuple [e, e] ∧ Sd 8 e
theorem wordR_nil {r : RS} {h : Int} {o : Option Int} (e : wordR r h o = "") : ∃ k : Nat, h = k ∧ k < r.m ∧ ((o = none ∧ r.askd k ≠ none) ∨ ∃ p : Nat, o = some (p : Int) ∧ p < r.t.length ∧ r.askd k = none) := by
  by_cases c : 0 ≤ h ∧ h < (r.m : Int)
  · obtain ⟨k, rfl⟩ : ∃ k : Nat, h = k := ⟨h.toNat, by omega⟩
    have hk : k < r.m := by omega
    refine ⟨k, rfl, hk, ?_⟩
    cases o with
    | none =>
      rw [wordR_step hk] at e
      refine .inl ⟨rfl, fun z => ?_⟩
      rw [if_pos z] at e
      exact absurd e (by decide)
    | some o =>
      rw [wordR_ask hk] at e
      by_cases ha : r.askd k = none
      · rw [if_neg (by simpa using ha)] at e
        by_cases c2 : 0 ≤ o ∧ o < (r.t.length : Int)
        · exact .inr ⟨o.toNat, by rw [show ((o.toNat : Nat) : Int) = o by omega], by omega, ha⟩
        · rw [if_neg c2] at e
          exact absurd e (by decide)
      · rw [if_pos ha] at e
        exact absurd e (by decide)
  · rw [wordR_no (by omega)] at e
    exact absurd e (by decide)
theorem wordR_ne {r : RS} {h : Int} {o : Option Int} (c : wordR r h o ≠ "") : wordR r h o = "NoHand" ∨ wordR r h o = "Idle" ∨ wordR r h o = "Busy" ∨ wordR r h o = "NoOperation" := by
  unfold wordR at c ⊢
  split
  · exact .inl rfl
  · rename_i c1
    rw [if_neg c1] at c
    cases o with
    | none =>
      simp only [] at c ⊢
      split
      · exact .inr (.inl rfl)
      · rename_i c2
        rw [if_neg c2] at c
        exact absurd rfl c
    | some o =>
      simp only [] at c ⊢
      split
      · exact .inr (.inr (.inl rfl))
      · rename_i c2
        rw [if_neg c2] at c
        split
        · rename_i c3
          rw [if_pos c3] at c
          exact absurd rfl c
        · exact .inr (.inr (.inr rfl))
theorem wordR_sok (r : RS) (h : Int) (o : Option Int) : PyData.strOk (wordR r h o) = true := by
  by_cases c : wordR r h o = ""
  · rw [c]; exact strOk_of _
  · rcases wordR_ne c with e | e | e | e <;> rw [e] <;> exact strOk_of _
theorem k51_r11 {n m b : Nat} {R : Slot → Prop} {Xd : XD} {t : Tab} {y z : Addr} {T : ST} {τ : STau} {out : List Int} {held : List PyData} {d0 d7 : PyData} {s9 s10 s11 s12 s13 s14 s15 s16 s17 : Slot} (g : GoodN n t) (m2 : 2 ≤ m) (m4 : m ≤ 4) (hb : b < n) (hp : ∀ z ∈ out, 0 ≤ z) (ho : 300 ≤ out.length) (hh : HdOk held) (hhl : held.length ≤ 1000)
    (n9 : NT1 s9) (n10 : NT1 s10) (n11 : NT1 s11) (n12 : NT1 s12) (n13 : NT1 s13) (n14 : NT1 s14) (n15 : NT1 s15) (n16 : NT1 s16) (n17 : NT1 s17) (hy : (y, T) ∈ τ) (hz : (z, rollT (newR t m b)) ∈ τ) (hR : R (.sh (.bool true))) :
    d_law_r11 { nx := fun x x_1 => R (Slot.sh PyData.none), rt := fun d x => R (Slot.sh d), ex := fun x x_1 x_2 => Xd x }
      [.sh d0, .sh (.list (out.map .int)), .sh (tabD t), .sh (.int (m : Int)), .sh (.int (b : Int)), .tr y T, .tr z (rollT (newR t m b)), .sh d7, .ow (.lst held), s9, s10, s11, s12, s13, s14, s15, s16, s17] τ := by
  obtain ⟨x44, a44⟩ := drawn_at hp (show 44 < out.length by omega)
  obtain ⟨l, t', et, el, et2⟩ := tab_first g
  obtain ⟨q, eq, hq⟩ : ∃ k : Nat, (x44 : Int) % 2 = (k : Int) ∧ k < 2 := ⟨x44 % 2, by omega, by omega⟩
  obtain ⟨v, ev⟩ : ∃ v : Int, [PyData.int (n : Int), PyData.int (-1)][q]? = some (.int v) ∧ (v < 0 ∨ (n : Int) ≤ v) := by
    rcases (by omega : q = 0 ∨ q = 1) with rfl | rfl
    · exact ⟨_, rfl, by omega⟩
    · exact ⟨_, rfl, by omega⟩
  simp [d_law_r11, a44, eq, et, lenD, el, ev.1, hy, hz, n9 _ _, n10 _ _, n11 _ _, n12 _ _, n13 _ _, n14 _ _, n15 _ _, n16 _ _, n17 _ _]
  rw [← et]
  simp [d_law_r23]
  refine ⟨[], 9, 99, rfl, rfl, ⟨?_, fun k ek => ?_, fun e => (by cases e)⟩⟩
  · exact ⟨by simp, fun _ h => nomatch h⟩
  cases ek
  refine ⟨0, by decide, _, trd_BT (by omega), embT t, 9, v, rfl, rfl, gd_good g ⟨fun _ => ⟨4, by decide, "NoStand", trd_P (by decide), ⟨hy, hz, by simp [n9 _ _, n10 _ _, n11 _ _, n12 _ _, n15 _ _, n16 _ _, n17 _ _]⟩, ?_⟩, fun a1 a2 => ?_⟩⟩
  rotate_left
  · rw [many0_good g] at a2
    omega
  simp [d_law_r24]
  rw [show [PyData.int 1, PyData.int 5, PyData.int 0, PyData.int (-3)] = ([1, 5, 0, -3] : List Int).map PyData.int from rfl]
  refine lcA_mapM (fun _ => .str "BadMany") (by simp) (fun k hk K hK => ?_) ?_
  · simp
    refine ⟨embT t, k, 0, rfl, rfl, gd_good g ⟨fun c => ?_, fun a1 a2 => ⟨fun c => ⟨4, by decide, "BadMany", trd_P (by decide), hK⟩, fun c1 c2 => ?_⟩⟩⟩
    · rw [many0_good g] at c
      omega
    · simp only [List.mem_cons, List.not_mem_nil, or_false] at hk
      omega
  simp [hy, hz, n9 _ _, n10 _ _, n11 _ _, n12 _ _, n15 _ _, n16 _ _, n17 _ _]
  simp [d_law_r25]
  rw [show (Str.ofString "BadTable " ++ Str.ofString (Int.repr 0)) = Str.ofString "BadTable 0" by decide +kernel]
  have sl : Sd 8 (.list [.str (Str.ofString "BadTable 0"), .str (Str.ofString "NoStand"), .str (Str.ofString "BadMany"), .str (Str.ofString "BadMany"), .str (Str.ofString "BadMany"), .str (Str.ofString "BadMany")]) := ⟨by simp, fun d hd => by
    simp only [List.mem_cons, List.not_mem_nil, or_false] at hd
    rcases hd with rfl | rfl | rfl | rfl | rfl | rfl <;> exact strOk_of _⟩
  refine ⟨sl.shaped (by omega), sl.shaped (by omega), ?_⟩
  rw [if_pos (eqv_self sl)]
  refine ⟨⟨hy, hz, by simp [n9 _ _, n10 _ _, n11 _ _, n12 _ _, n15 _ _, n16 _ _, n17 _ _]⟩, ?_⟩
  simp [d_law_r26]
  obtain ⟨L, rfl, hL⟩ : ∃ L : List PyData, held = L.map (fun e => .tuple [e, e]) ∧ ∀ e ∈ L, Sd 8 e := by
    clear hhl
    induction held with
    | nil => exact ⟨[], rfl, fun _ h => nomatch h⟩
    | cons d l ih =>
      obtain ⟨L, e1, e2⟩ := ih fun x hx => hh x (List.mem_cons_of_mem _ hx)
      obtain ⟨e, e3, e4⟩ := hh d List.mem_cons_self
      refine ⟨e :: L, by rw [e1, e3]; rfl, fun x hx => ?_⟩
      rcases List.mem_cons.mp hx with rfl | hx
      · exact e4
      · exact e2 x hx
  rw [List.length_map] at hhl
  refine lcA_mapM (fun _ => .bool true) (by simp; omega) (fun e he K hK => ?_) ?_
  · simp
    exact same_of (hL e he) ⟨_, rfl, hK⟩
  rw [List.nil_append]
  refine ⟨L.map fun _ => true, rfl, by rw [List.map_map]; rfl, ?_⟩
  rw [show (L.map fun _ => true).all id = true by simp]
  simp
  refine ⟨⟨hy, hz, by simp [n9 _ _, n10 _ _, n11 _ _, n12 _ _, n15 _ _, n16 _ _, n17 _ _]⟩, ?_⟩
  simp [d_law_r28]
  refine ⟨t, m, b, rfl, m2, m4, _, rfl, ?_⟩
  refine ⟨newR t m b, n, newR_w g m2 m4 hb, rfl, rfl, by simp [newR], _, rfl, hR⟩
theorem k51_r10 {n m b : Nat} {R : Slot → Prop} {Xd : XD} {t : Tab} {y z : Addr} {rest : STau} {out : List Int} {d0 : PyData} (g : GoodN n t) (m2 : 2 ≤ m) (m4 : m ≤ 4) (hb : b < n) (hp : ∀ z ∈ out, 0 ≤ z) (ho : 300 ≤ out.length) (hR : R (.sh (.bool true))) :
    d_law_r10 { nx := fun x x_1 => R (Slot.sh PyData.none), rt := fun d x => R (Slot.sh d), ex := fun x x_1 x_2 => Xd x }
      [.sh d0, .sh (.list (out.map .int)), .sh (tabD t), .sh (.int (m : Int)), .sh (.int (b : Int)), .tr y (rollT (newR t m b)), .tr z (rollT (newR t m b)), .sh (rstD (newR t m b)), .ow (.lst []), .no, .no, .no, .no, .no, .no, .no, .no, .no] ((z, rollT (newR t m b)) :: (y, rollT (newR t m b)) :: rest) := by
  obtain ⟨x43, a43⟩ := drawn_at hp (show 43 < out.length by omega)
  obtain ⟨q, eq, hq⟩ : ∃ k : Nat, (x43 : Int) % 51 = (k : Int) ∧ k < 51 := ⟨x43 % 51, by omega, by omega⟩
  simp [d_law_r10, a43, eq]
  refine ⟨by omega, ?_⟩
  refine forY_inv (fun i ρ τ => ∃ (r : RS) (held : List PyData) (s9 s10 s11 s12 : Slot), NT1 s9 ∧ NT1 s10 ∧ NT1 s11 ∧ NT1 s12 ∧ RW n r ∧ r.t = t ∧ r.m = m ∧ r.cells.length ≤ i ∧ HdOk held ∧ held.length ≤ i ∧ τ = (z, rollT (newR t m b)) :: (y, rollT r) :: rest ∧
    ρ = [.sh d0, .sh (.list (out.map .int)), .sh (tabD t), .sh (.int (m : Int)), .sh (.int (b : Int)), .tr y (rollT r), .tr z (rollT (newR t m b)), .sh (rstD r), .ow (.lst held), s9, s10, s11, s12, .no, .no, .no, .no, .no])
    ⟨newR t m b, [], .no, .no, .no, .no, nt1_no, nt1_no, nt1_no, nt1_no, newR_w g m2 m4 hb, rfl, rfl, Nat.le_refl 0, (fun _ h => nomatch h), Nat.le_refl 0, rfl, rfl⟩ ?_ ?_
  · rintro ρ τ ⟨r, held, s9, s10, s11, s12, n9, n10, n11, n12, w, et, em, hc, hh, hhl, rfl, rfl⟩
    exact k51_r11 g m2 m4 hb hp ho hh (by rw [rngD_nat, List.length_map, List.length_range] at hhl; omega) n9 n10 n11 n12 nt1_no nt1_no nt1_no nt1_no nt1_no (by simp) (by simp) hR
  · rintro i d ρ τ K hd ⟨r, held, s9, s10, s11, s12, n9, n10, n11, n12, w, et, em, hc, hh, hhl, rfl, rfl⟩ hK
    obtain ⟨hi, rfl⟩ := rngD_get hd
    have ec : cutD (out.map PyData.int) (some (50 + 4 * (i : Int))) (some (54 + 4 * (i : Int))) = ((out.drop (50 + 4 * i)).take 4).map PyData.int := by
      rw [show (50 + 4 * (i : Int)) = ((50 + 4 * i : Nat) : Int) by omega, show (54 + 4 * (i : Int)) = ((54 + 4 * i : Nat) : Int) by omega, cut_ab (by omega) (by omega)]
      congr 3
      omega
    simp [ec, n9 _ _, n10 _ _, n11 _ _, n12 _ _, -List.map_take, -List.map_drop]
    refine ⟨(out.drop (50 + 4 * i)).take 4, n, t, m, rfl, fun z hz => hp z (List.mem_of_mem_drop (List.mem_of_mem_take hz)), by rw [List.length_take, List.length_drop]; omega, g, m2, m4, fun h o => ⟨_, rfl, ?_⟩⟩
    simp [d_law_r12]
    refine ⟨n, r, h, o, by rw [et], w, _, rfl, ?_⟩
    simp [d_law_r13]
    refine ⟨by simp [n12 _ _], ?_⟩
    have fin : ∀ (r' : RS) (a b1 : PyData), RW n r' → r'.t = t → r'.m = m → r'.cells.length ≤ i + 1 → d_law_r17 { nx := K, rt := fun d x => R (Slot.sh d), ex := fun x x_1 x_2 => Xd x, bk := d_law_r11 { nx := fun x x_1 => R (Slot.sh PyData.none), rt := fun d x => R (Slot.sh d), ex := fun x x_1 x_2 => Xd x }, ct := K }
      [.sh d0, .sh (.list (out.map .int)), .sh (tabD t), .sh (.int (m : Int)), .sh (.int (b : Int)), .tr y (rollT r'), .tr z (rollT (newR t m b)), .sh (rstD r'), .ow (.lst held), .sh (.int (i : Int)), .sh (rdD h o), .sh a, .sh b1, .no, .no, .no, .no, .no] ((z, rollT (newR t m b)) :: (y, rollT r') :: rest) := fun r' a b1 w' et' em' hc' => by
      simp [d_law_r17]
      refine ⟨y, _, ⟨rfl, rfl⟩, rfl, r', n, w', rfl, rfl, by omega, _, rfl, ⟨_, rfl⟩, ?_⟩
      simp [d_law_r19]
      refine ⟨y, _, ⟨rfl, rfl⟩, rfl, r', n, w', rfl, rfl, by omega, _, rfl, cel_g (.inl ⟨_, rfl, by omega, ?_⟩)⟩
      simp [d_law_r20]
      refine ⟨r', n, w', rfl, rfl, by omega, _, rfl, ?_⟩
      simp
      refine hK _ _ ⟨r', held ++ [.tuple [.list (r'.cells.map cellD), .list (r'.cells.map cellD)]], .sh (.int (i : Int)), .sh (rdD h o), .sh a, .sh b1, nt1_sh _, nt1_sh _, nt1_sh _, nt1_sh _, w', et', em', hc', fun d hd => ?_, by simp; omega, rfl, rfl⟩
      rcases List.mem_append.mp hd with hd | hd
      · exact hh d hd
      · rw [List.mem_singleton.mp hd]
        exact ⟨_, rfl, sdR_cells (by omega)⟩
    by_cases c : wordR r h o = ""
    · simp [d_law_r14, c]
      obtain ⟨k, rfl, hk, hc2⟩ := wordR_nil c
      refine ⟨strOk_of _, ?_⟩
      rcases hc2 with ⟨rfl, ha⟩ | ⟨p, rfl, hpl, ha⟩
      · refine ⟨n, r, k, none, by rw [et]; rfl, w, hk, by omega, (fun p z => nomatch z), fun _ => ⟨ha, _, rfl, ?_⟩⟩
        simp
        simp [d_law_r15]
        refine ⟨1, rfl, r, n, (k : Int), none, w, rfl, rfl, by omega, fun ne => absurd c ne, fun _ k' e hk' => ⟨(fun p z => nomatch z), fun _ ha' => ?_⟩⟩
        obtain rfl : k = k' := by omega
        simp
        refine same_of (sd_two (by unfold optI; split <;> trivial) (strOk_of _)) ⟨_, rfl, ?_⟩
        simp
        obtain ⟨e1, e2, e3⟩ := stepR_tm r k
        exact fin (stepR r k) _ _ (stepR_w w hk ha) (by rw [e1, et]) (by rw [e2, em]) (by omega)
      · refine ⟨n, r, k, some p, by rw [et]; rfl, w, hk, by omega, fun p' z => ?_, fun z => nomatch z⟩
        cases z
        refine ⟨hpl, _, rfl, ?_⟩
        simp
        simp [d_law_r15]
        refine ⟨1, rfl, r, n, (k : Int), some (p : Int), w, rfl, rfl, by omega, fun ne => absurd c ne, fun _ k' e hk' => ⟨fun p' z hp' => ?_, fun z => nomatch z⟩⟩
        obtain rfl : k = k' := by omega
        obtain rfl : p = p' := by
          have := Option.some.inj z
          omega
        simp
        refine same_of (sd_two (d := .none) trivial (strOk_of _)) ⟨_, rfl, ?_⟩
        simp
        exact fin (askR r k p) _ _ (askR_w w hpl) et em (by show r.cells.length ≤ i + 1; omega)
    · simp [d_law_r14]
      refine ⟨wordR_sok _ _ _, strOk_of _, ?_⟩
      rw [if_neg c]
      simp [d_law_r15]
      refine ⟨1, rfl, r, n, h, o, w, rfl, rfl, by omega, fun _ => ?_, fun e => absurd e c⟩
      simp
      refine ⟨4, by rcases wordR_ne c with e | e | e | e <;> rw [e] <;> decide, wordR r h o, trd_P (by rcases wordR_ne c with e | e | e | e <;> rw [e] <;> decide), ?_⟩
      refine same_of (sd_two (d := .none) trivial (wordR_sok _ _ _)) ⟨_, rfl, ?_⟩
      simp
      exact fin r _ _ w et em (by omega)
theorem mk_c {n m b : Nat} {t : Tab} (g : GoodN n t) (m2 : 2 ≤ m) (m4 : m ≤ 4) (hb : b < n) {R : PyData → ST → Prop} {X : Exn → ST → Prop} (q : R .none (rollT (newR t m b))) : c_Roll [tabD t, .int (m : Int), .int (b : Int)] (.ins (ClsA.A "Roll") []) R X :=
  ⟨embT t, m, b, rfl, rfl, gd_good g ⟨fun c => (by rw [many0_good g] at c; omega), fun _ _ => ⟨fun c => (by omega), fun _ _ => ⟨t, n, m, b, g, rfl, rfl, rfl, q⟩⟩⟩⟩
theorem k51_r6 {n m b : Nat} {R : Slot → Prop} {Xd : XD} {t : Tab} {y : Addr} {rest : STau} {out : List Int} {d0 : PyData} (g : GoodN n t) (m2 : 2 ≤ m) (m4 : m ≤ 4) (hb : b < n) (hp : ∀ z ∈ out, 0 ≤ z) (ho : 300 ≤ out.length) (hR : R (.sh (.bool true))) :
    d_law_r6 { nx := fun x x_1 => R (Slot.sh PyData.none), rt := fun d x => R (Slot.sh d), ex := fun x x_1 x_2 => Xd x }
      [.sh d0, .sh (.list (out.map .int)), .sh (tabD t), .sh (.int (m : Int)), .sh (.int (b : Int)), .tr y (rollT (newR t m b)), .no, .no, .no, .no, .no, .no, .no, .no, .no, .no, .no, .no] ((y, rollT (newR t m b)) :: rest) := by
  simp [d_law_r6, yNew]
  intro z
  refine mk_c g m2 m4 hb ⟨rfl, ?_⟩
  simp [d_law_r9]
  refine ⟨t, m, b, rfl, m2, m4, _, rfl, ?_⟩
  exact k51_r10 g m2 m4 hb hp ho hR
theorem p_law : KpP d_law n_law c_law := by
  rintro ds R Xd ⟨ns, rfl, hn, hR⟩
  simp [d_law, st0, n_law]
  refine ⟨ns, 300, rfl, hn, by omega, fun out hl hs => ⟨_, rfl, ?_⟩⟩
  simp [d_law_r1]
  refine ⟨out, 5, 4, rfl, hs, by omega, by omega, by omega, by omega, by omega, by omega, fun t n g _ => ⟨_, rfl, ?_⟩⟩
  have hp : ∀ z ∈ out, 0 ≤ z := fun z hz => (hs z hz).1
  obtain ⟨x40, a40⟩ := drawn_at hp (show 40 < out.length by omega)
  obtain ⟨x41, a41⟩ := drawn_at hp (show 41 < out.length by omega)
  obtain ⟨x42, a42⟩ := drawn_at hp (show 42 < out.length by omega)
  obtain ⟨m, em, m2, m4⟩ : ∃ m : Nat, 2 + (x40 : Int) % 3 = (m : Int) ∧ 2 ≤ m ∧ m ≤ 4 := ⟨2 + x40 % 3, by push_cast; rfl, by omega, by omega⟩
  obtain ⟨l, t', et, el, et2⟩ := tab_first g
  have n1 := g.n1
  simp [d_law_r2, a40, em]
  obtain ⟨b, eb, hb⟩ : ∃ b : Nat, (x41 : Int) % (n : Int) = (b : Int) ∧ b < n := ⟨x41 % n, by omega, Nat.mod_lt _ (by omega)⟩
  simp [d_law_r3, a41, et, lenD, el, eb]
  refine ⟨by omega, ?_⟩
  rw [← et]
  simp [d_law_r4, yNew]
  intro y
  refine mk_c g m2 m4 hb ⟨rfl, ?_⟩
  simp [d_law_r5, a42]
  by_cases c : (x42 : Int) % 3 = 0
  · rw [if_pos c]
    simp [d_law_r7, yNew]
    intro y2
    refine mk_c (b := 0) g m2 m4 (by omega) ⟨rfl, ?_⟩
    exact k51_r6 (b := 0) g m2 m4 (by omega) hp (by omega) hR
  · rw [if_neg c]
    exact k51_r6 g m2 m4 hb hp (by omega) hR
end WH
namespace WH
open PySem PySem.Spec L2
theorem obsA_eq {as : List Addr} {fa : List He.Fa} {fn : List He.DefD} {ts : List He.Tab} {tf : List He.Defn} {ex : PySem.W.Frag → Bool} (s : PySem.W.SharedT) : obsA as fa fn ts tf ex (HandSHeadRun.getT s) = (hookA as fa fn ts tf ex).obs s.abs := by
  have e : HandSHeadRun.getT s = s.abs.heap.get? := funext (HandSHeadRun.getT_eq s)
  rw [e]
  rfl
end WH
namespace WH
open PySem PySem.Spec L2 L2H
variable [TabC]
theorem fn_cx0G {P : Program} {w : World} {K : PySem.W.Frag} {mg : Str → Option Value} {base : Heap} {k : Nat} {f : Addr} {fd : FuncData} {ps : List Str} {sp : Sp} (F : LamX.FnOkG P w K mg base (L2N.CX P w) k f fd ps sp) : LamX.FnOkG P w K mg base CX0 k f fd ps (fun vs H Q _ => sp vs H Q fun _ _ _ => False) :=
  ⟨fun vs H Q E h => F.len _ _ _ _ h, fun A outer s H args us vs Q E hr hgd he hb hv hs => codeAny_mono (F.run A outer s H args us vs Q _ hr hgd he hb hv hs) fun r s' q => by
    cases r with
    | ok x => cases x <;> exact q
    | error e =>
      obtain ⟨a, B, H', cls, d, _, _, _, _, _, _, _, z⟩ := q
      exact z.elim⟩
section
variable [ClsA] {P : Program} {w : World} {K : PySem.W.Frag} {mg : Str → Option Value} {base : Heap}
theorem sc__law_called : FnScope n__law_called ["_law_e"] (defScope s__law_called) := ⟨rfl, rfl, rfl, by decide +kernel, rfl, by decide +kernel, by decide +kernel⟩
theorem ok__law_called {f : Addr} {fd : FuncData} (T : Bt mg) (F : FunD K "_law_called" "_law_called" (defArgs s__law_called) (defBody s__law_called) (defScope s__law_called) [] [] f fd) : HotFn P w K mg base 1 f fd ["_law_e"] (spCal K mg) := by
  refine fn_hot (k := 0) F sc__law_called (fun p vs H Q h => ?_) (fun cdv A outer s H vs Q p hot hr h => ?_)
  · obtain ⟨_, _, _, _, _, _, rfl, _⟩ := h
    rfl
  obtain ⟨G, fs, D, dd, nm, xs, rfl, gh, tb, hz, hf, hn, cf, hx, hd, hw, hq⟩ := h
  obtain ⟨a, oe⟩ := p
  have ep : ExP (cxH L2.CX0 P w K mg base n__law_called "_law_called" (defScope s__law_called) f cdv A outer s H L2.E0 (a, oe)) a oe D dd := ⟨List.mem_cons_self, hz, hf⟩
  have hc : HotC (cxH L2.CX0 P w K mg base n__law_called "_law_called" (defScope s__law_called) f cdv A outer s H L2.E0 (a, oe)) := ⟨(a, oe), hot, List.mem_cons_self⟩
  obtain ⟨C_BadTable, mc_BadTable, kc_BadTable⟩ := cf.k "BadTable" (by simp [callNames])
  obtain ⟨C_BadText, mc_BadText, kc_BadText⟩ := cf.k "BadText" (by simp [callNames])
  obtain ⟨C_BadChoice, mc_BadChoice, kc_BadChoice⟩ := cf.k "BadChoice" (by simp [callNames])
  obtain ⟨C_BadOrder, mc_BadOrder, kc_BadOrder⟩ := cf.k "BadOrder" (by simp [callNames])
  obtain ⟨C_BadMany, mc_BadMany, kc_BadMany⟩ := cf.k "BadMany" (by simp [callNames])
  obtain ⟨C_BadScheme, mc_BadScheme, kc_BadScheme⟩ := cf.k "BadScheme" (by simp [callNames])
  obtain ⟨C_BadWishes, mc_BadWishes, kc_BadWishes⟩ := cf.k "BadWishes" (by simp [callNames])
  obtain ⟨C_BadTurn, mc_BadTurn, kc_BadTurn⟩ := cf.k "BadTurn" (by simp [callNames])
  obtain ⟨C_Full, mc_Full, kc_Full⟩ := cf.k "Full" (by simp [callNames])
  obtain ⟨C_TooWide, mc_TooWide, kc_TooWide⟩ := cf.k "TooWide" (by simp [callNames])
  obtain ⟨C_NoScheme, mc_NoScheme, kc_NoScheme⟩ := cf.k "NoScheme" (by simp [callNames])
  obtain ⟨C_Ended, mc_Ended, kc_Ended⟩ := cf.k "Ended" (by simp [callNames])
  obtain ⟨C_Still, mc_Still, kc_Still⟩ := cf.k "Still" (by simp [callNames])
  obtain ⟨C_Busy, mc_Busy, kc_Busy⟩ := cf.k "Busy" (by simp [callNames])
  obtain ⟨C_Idle, mc_Idle, kc_Idle⟩ := cf.k "Idle" (by simp [callNames])
  obtain ⟨C_Undone, mc_Undone, kc_Undone⟩ := cf.k "Undone" (by simp [callNames])
  obtain ⟨C_NoStand, mc_NoStand, kc_NoStand⟩ := cf.k "NoStand" (by simp [callNames])
  obtain ⟨C_NoOperation, mc_NoOperation, kc_NoOperation⟩ := cf.k "NoOperation" (by simp [callNames])
  obtain ⟨C_NoHand, mc_NoHand, kc_NoHand⟩ := cf.k "NoHand" (by simp [callNames])
  obtain ⟨C_NothingLeft, mc_NothingLeft, kc_NothingLeft⟩ := cf.k "NothingLeft" (by simp [callNames])
  have der : QSs (cxH L2.CX0 P w K mg base n__law_called "_law_called" (defScope s__law_called) f cdv A outer s H L2.E0 (a, oe)) (W0 mg) (defBody s__law_called) (d__law_called a dd nm) :=
    (qss_cons (qs_set (i := 1) sc__law_called.nd (qo_lst (qa_cons (qe_isX cf.C ep T.isinstance_ mc_BadTable kc_BadTable) (qa_cons (qe_isX cf.C ep T.isinstance_ mc_BadText kc_BadText) (qa_cons (qe_isX cf.C ep T.isinstance_ mc_BadChoice kc_BadChoice) (qa_cons (qe_isX cf.C ep T.isinstance_ mc_BadOrder kc_BadOrder) qa_nil))))).qe)
  (qss_cons (qs_set (i := 1) sc__law_called.nd (qe_add (qe_var 1) (qo_lst (qa_cons (qe_isX cf.C ep T.isinstance_ mc_BadMany kc_BadMany) (qa_cons (qe_isX cf.C ep T.isinstance_ mc_BadScheme kc_BadScheme) (qa_cons (qe_isX cf.C ep T.isinstance_ mc_BadWishes kc_BadWishes) (qa_cons (qe_isX cf.C ep T.isinstance_ mc_BadTurn kc_BadTurn) qa_nil))))).qe))
  (qss_cons (qs_set (i := 1) sc__law_called.nd (qe_add (qe_var 1) (qo_lst (qa_cons (qe_isX cf.C ep T.isinstance_ mc_Full kc_Full) (qa_cons (qe_isX cf.C ep T.isinstance_ mc_TooWide kc_TooWide) qa_nil))).qe))
  (qss_cons (qs_set (i := 1) sc__law_called.nd (qe_add (qe_var 1) (qo_lst (qa_cons (qe_isX cf.C ep T.isinstance_ mc_NoScheme kc_NoScheme) (qa_cons (qe_isX cf.C ep T.isinstance_ mc_Ended kc_Ended) (qa_cons (qe_isX cf.C ep T.isinstance_ mc_Still kc_Still) (qa_cons (qe_isX cf.C ep T.isinstance_ mc_Busy kc_Busy) qa_nil))))).qe))
  (qss_cons (qs_set (i := 1) sc__law_called.nd (qe_add (qe_var 1) (qo_lst (qa_cons (qe_isX cf.C ep T.isinstance_ mc_Idle kc_Idle) (qa_cons (qe_isX cf.C ep T.isinstance_ mc_Undone kc_Undone) (qa_cons (qe_isX cf.C ep T.isinstance_ mc_NoStand kc_NoStand) (qa_cons (qe_isX cf.C ep T.isinstance_ mc_NoOperation kc_NoOperation) qa_nil))))).qe))
  (qss_cons (qs_set (i := 1) sc__law_called.nd (qe_add (qe_var 1) (qo_lst (qa_cons (qe_isX cf.C ep T.isinstance_ mc_NoHand kc_NoHand) (qa_cons (qe_isX cf.C ep T.isinstance_ mc_NothingLeft kc_NothingLeft) qa_nil))).qe))
  (qss_cons (qs_set (i := 2) sc__law_called.nd qe_str)
  (qss_cons (qs_set (i := 2) sc__law_called.nd (qe_add (qe_var 2) qe_str))
  (qss_cons (qs_set (i := 2) sc__law_called.nd (qe_add (qe_var 2) qe_str))
  (qss_cons (qs_set (i := 3) sc__law_called.nd (qe_join qe_str (qo_lcH (own := [("_law_name", 4), ("_law_here", 5)]) hc sc__law_called.nd (qi_zipH T.zip_ (qo_split (qe_var 2) qe_str).qe (qe_var 1)) (blkOk_by (N := n__law_called) (sc := defScope s__law_called) (by decide +kernel)) (fun _ _ _ _ _ => (qg_tupH (by exact hc) (qgs_cons (qg_name (i := 4) sc__law_called.nd) (qgs_cons (qg_name (i := 5) sc__law_called.nd) qgs_nil)))) (fun _ _ _ _ _ => (qts_one (qt_val (qe_var 5)))) (fun _ _ _ _ _ => (qe_var 4))).qc))
  (qss_one (qs_ret (qe_if (qt_eq (unitsH hr) (qe_xf cf.T (cf.n _ (by simp)) ep) (qe_var 3)) (qe_var 3) (qe_add (qe_var 3) qe_str))))))))))))))
  refine ⟨_, der, G, H, G, _, { nx := fun _ => False, rt := fun s => s = .sh (.str nm), ex := fun _ _ => False }, ok_startX gh tb hx hd sameNil, p__law_called a dd hn hw, fun _ _ _ _ _ z => z.elim, fun s v H' r e => ?_, fun _ _ _ _ _ z => z.elim, fun _ _ _ _ _ z => z.elim, fun _ _ _ _ _ _ _ _ _ z => z.elim⟩
  subst e
  exact hq v H' r
def n__law_tried : List Str := ["_law_ask", "_law_told", "_law_word", "_law_e"]
theorem sc__law_tried : FnScope n__law_tried ["_law_ask"] (defScope s__law_tried) := ⟨rfl, rfl, rfl, by decide +kernel, rfl, by decide +kernel, by decide +kernel⟩
theorem gives__law_tried {X : Cx} {g fC : Addr} {fdC : FuncData} {cdv : Value} {q : Str} {k : Nat} {c1 c2 c3 c4 c5 c6 c7 c8 c9 : Value} {xn : List (Str × Nat)} (T : Bt X.mg) (m1 : X.mg "BadTable" = some c1) (m2 : X.mg "BadText" = some c2) (m3 : X.mg "Undone" = some c3) (m4 : X.mg "BadScheme" = some c4) (m5 : X.mg "TooWide" = some c5) (m6 : X.mg "NoScheme" = some c6) (m7 : X.mg "HandError" = some c7) (m8 : X.mg "Missing" = some c8) (m9 : X.mg "NothingLeft" = some c9)
    (hx : ∀ nm c, (nm, c) ∈ xn → ∃ D, X.mg nm = some (.ref D) ∧ TrF X.K X.mg [[c1, c2, c3], [c4], [c5], [c6], [c7, c8, c9]] nm D c) (F : HotFn X.prog X.w X.K X.mg X.base 1 fC fdC ["_law_e"] (spCal X.K X.mg)) (hmC : X.mg "_law_called" = some (.ref fC)) (hkC : PySem.W.keepIn X.K (.ref fC) = true) (hbC : Binds X.K fdC ["_law_e"] []) (hgd : X.A.guards = some []) :
    GivesN X n__law_tried "_law_tried" (defScope s__law_tried) g cdv (defBody s__law_tried) "_law_ask" q k (TTr X.K X.mg xn) := by
  intro f c' s H Q tl hr act hc htt
  obtain ⟨E, hE, htl⟩ := htt
  have der : PSs (cxOf L2.CX0 X.prog X.w X.K X.mg X.base n__law_tried "_law_tried" (defScope s__law_tried) g cdv X.A X.stack s H L2.E0) (defBody s__law_tried) _ := pss_cons (ps_asg (pe_tupN (pa_cons pe_non (pa_cons pe_str pa_nil))) (pg_tup rfl (pgs_cons (pg_name (i := 1) sc__law_tried.nd rfl (Or.inl rfl)) (pgs_cons (pg_name (i := 2) sc__law_tried.nd rfl (Or.inl rfl)) pgs_nil))) rfl rfl rfl)
    (pss_cons (ps_tryA (n := "_law_e") (i := 3) rfl rfl sc__law_tried.nd rfl rfl (fun V pn xe tk _ => pss_one (ps_set (i := 1) sc__law_tried.nd rfl (Or.inl rfl) (pe_ask (tl := tl) (act V pn xe · _ _ tk)))) (.cons (tst3 m1 m2 m3 rfl rfl rfl (by decide) (by decide) (by decide)) (fun a oe cls d pn hz hf => tsd (K := X.K) (mg := X.mg) (a := a) (d1 := suN "at") hz fun D dd nm hz hn cf => (qss_one (qs_set (i := 2) sc__law_tried.nd (qe_add (qe_add (qe_called (X := (cxOf L2.CX0 X.prog X.w X.K X.mg X.base n__law_tried "_law_tried" (defScope s__law_tried) g cdv X.A X.stack s H L2.E0)) (a := a) (oe := oe) (pn := pn) F (roomMk (hr.mono (by omega)) _) hz hf cf hn hmC hkC hbC) qe_str) (qe_repr T.repr_ (qe_xf cf.T (cf.n _ (by simp)) (suite_ep hz hf))))))) (.cons (tst1 m4 rfl (by decide)) (fun a oe cls d pn hz hf => tsd (K := X.K) (mg := X.mg) (a := a) (d1 := suL) hz fun D dd nm hz hn cf => (qss_one (qs_set (i := 2) sc__law_tried.nd (qe_add (qe_add (qe_called (X := (cxOf L2.CX0 X.prog X.w X.K X.mg X.base n__law_tried "_law_tried" (defScope s__law_tried) g cdv X.A X.stack s H L2.E0)) (a := a) (oe := oe) (pn := pn) F (roomMk (hr.mono (by omega)) _) hz hf cf hn hmC hkC hbC) qe_str) (qe_reprL hgd (rmH64 (roomMk (k := 0) (hr.mono (by omega)) _)) T.repr_ (QO.qe (qo_lst (qa_cons (qe_xf cf.T (cf.n _ (by simp)) (suite_ep hz hf)) (qa_cons (qe_xf cf.T (cf.n _ (by simp)) (suite_ep hz hf)) qa_nil))))))))) (.cons (tst1 m5 rfl (by decide)) (fun a oe cls d pn hz hf => tsd (K := X.K) (mg := X.mg) (a := a) (d1 := suN "most") hz fun D dd nm hz hn cf => (qss_one (qs_set (i := 2) sc__law_tried.nd (qe_add (qe_add (qe_called (X := (cxOf L2.CX0 X.prog X.w X.K X.mg X.base n__law_tried "_law_tried" (defScope s__law_tried) g cdv X.A X.stack s H L2.E0)) (a := a) (oe := oe) (pn := pn) F (roomMk (hr.mono (by omega)) _) hz hf cf hn hmC hkC hbC) qe_str) (qe_repr T.repr_ (qe_xf cf.T (cf.n _ (by simp)) (suite_ep hz hf))))))) (.cons (tst1 m6 rfl (by decide)) (fun a oe cls d pn hz hf => tsd (K := X.K) (mg := X.mg) (a := a) (d1 := suN "level") hz fun D dd nm hz hn cf => (qss_one (qs_set (i := 2) sc__law_tried.nd (qe_add (qe_add (qe_called (X := (cxOf L2.CX0 X.prog X.w X.K X.mg X.base n__law_tried "_law_tried" (defScope s__law_tried) g cdv X.A X.stack s H L2.E0)) (a := a) (oe := oe) (pn := pn) F (roomMk (hr.mono (by omega)) _) hz hf cf hn hmC hkC hbC) qe_str) (qe_repr T.repr_ (qe_xf cf.T (cf.n _ (by simp)) (suite_ep hz hf))))))) (.cons (tst3 m7 m8 m9 rfl rfl rfl (by decide) (by decide) (by decide)) (fun a oe cls d pn hz hf => tsd (K := X.K) (mg := X.mg) (a := a) (d1 := suP) hz fun D dd nm hz hn cf => (qss_one (qs_set (i := 2) sc__law_tried.nd (qe_called (X := (cxOf L2.CX0 X.prog X.w X.K X.mg X.base n__law_tried "_law_tried" (defScope s__law_tried) g cdv X.A X.stack s H L2.E0)) (a := a) (oe := oe) (pn := pn) F (roomMk (hr.mono (by omega)) _) hz hf cf hn hmC hkC hbC)))) .nil))))))
    (pss_one (ps_ret (pe_tupN (pa_cons (pv 1) (pa_cons (pv 2) pa_nil))))))
  refine ⟨_, der, ?_⟩
  refine ⟨by show 2 ≤ sizeLine; decide, fun p0 its0 hp0 => ⟨p0, _, rfl, (SqN.new upd_same).t, rfl, _, _, rfl, _, _, rfl, rfl, ?_⟩⟩
  refine ⟨E, _, rfl, by rw [upd_ne fun z => by rw [z, hp0] at hc; cases hc]; exact hc, fun cls d H' z => wall_of hx (hE cls d H' z) (fun _ => sameNil), htl p0 its0 hp0, fun v H' hv => ?_⟩
  exact ⟨v, rfl, _, rfl, by show 2 ≤ sizeLine; decide, hv⟩
def TrK (P : Program) (w : World) (K : PySem.W.Frag) (mg : Str → Option Value) (base : Heap) (xn : List (Str × Nat)) : Prop := ∃ g fd, FunD K "_law_tried" "_law_tried" (defArgs s__law_tried) (defBody s__law_tried) (defScope s__law_tried) [] [] g fd ∧ mg "_law_tried" = some (.ref g) ∧ Binds K fd ["_law_ask"] [] ∧
  ∀ (X : Cx), X.prog = P → X.w = w → X.K = K → X.mg = mg → X.base = base → X.A.guards = some [] → ∀ k cdv q, GivesN X n__law_tried "_law_tried" (defScope s__law_tried) g cdv (defBody s__law_tried) "_law_ask" q k (TTr X.K X.mg xn)
theorem qe_tr [ObjB] {X : Cx} {W : XW} {k m : Nat} {xn : List (Str × Nat)} {params : Arguments} {body : Expr} {scope : Scope} {db : DE} {p lpos pos : Pos} (tr : TrK X.prog X.w X.K X.mg X.base xn) (TX : TabX X) (hr : Room m X.A) (hgd : X.A.guards = some []) (hk : k + 2 ≤ m)
    (hbody : ∀ (A : Around) (outer : List Env) (s : Shared) (H : Hp) (E : XK) (f c' : Addr), Room k (A.deeper (LamX.lamEnv X scope s.heap.objs.size f c')) → QE (lamN X A outer s H E scope f c') (WF X.mg E) body db)
    (L : LamX.LamS X.env.scope scope := by exact LamX.lamS_by (by decide +kernel)) (hdef : defaultsOf params X.env = ([], []) := by rfl)
    (hbind : ∀ (q : Str) (cl : List (Str × Addr)) (pm cv ctv : Value), bindArgs (PySem.W.kla_fn "<lambda>" q params body scope cl pm cv ctv) ⟨[], []⟩ = pure [] := by intro _ _ _ _ _; rfl) (hg : Gl X "_law_tried" := by rfl) :
    QE X W (.Call (.Name "_law_tried" p) [.Lambda params body scope lpos] [] pos) (dTried xn db) := by
  obtain ⟨g, fd, F, hm, hb, hG⟩ := tr
  exact qe_tried (k := k) F hm hb sc__law_tried rfl (.inl rfl) (fun cdv q => hG X rfl rfl rfl rfl rfl hgd k cdv q) TX hr hk hbody L hdef hbind hg
theorem qe_trP [ObjB] {pr : Str} {X : Cx} {W : XW} {k m : Nat} {xn : List (Str × Nat)} {params : Arguments} {body : Expr} {scope : Scope} {db : DE} {p lpos pos : Pos} {i : Int} {j} {p0 : Pos} (tr : TrK X.prog X.w X.K X.mg X.base xn) (TX : TabX X) (hr : Room m X.A) (hgd : X.A.guards = some []) (hk : k + 2 ≤ m)
    (hbody : ∀ (A : Around) (outer : List Env) (s : Shared) (H : Hp) (E : XK) (f c' : Addr), Room k (A.deeper (LamX.lamEnv X scope s.heap.objs.size f c')) → QE (lamNP pr X A outer s H E scope f c') (WF X.mg E) body db)
    (L : LamP X.env.scope scope pr) (hdef : defaultsOf params X.env = ([eval (.Constant (.int i) j p0) X.env], []))
    (hbind : ∀ (q : Str) (cl : List (Str × Addr)) (dt : Addr) (v pm cv ctv : Value) (s1 : Shared), s1.heap.get? dt = some { cls := .type "tuple", data := .seq #[v] } → BindsTo s1 (klD_fn q params body scope cl (.ref dt) pm cv ctv) ⟨[], []⟩ [(pr, v)]) (hg : Gl X "_law_tried") :
    QE X W (.Call (.Name "_law_tried" p) [.Lambda params body scope lpos] [] pos) (dTried xn db) := by
  obtain ⟨g, fd, F, hm, hb, hG⟩ := tr
  exact qe_triedP (k := k) F hm hb sc__law_tried rfl (.inl rfl) (fun cdv q => hG X rfl rfl rfl rfl rfl hgd k cdv q) TX hr hk hbody L hdef hbind hg
theorem qy_tr {X : Cx} {W : XW} {k m : Nat} {xn : List (Str × Nat)} {params : Arguments} {body : Expr} {scope : Scope} {db : DY} {p lpos pos : Pos} (tr : TrK X.prog X.w X.K X.mg X.base xn) (TX : TabX X) (hr : Room m X.A) (hgd : X.A.guards = some []) (hk : k + 2 ≤ m)
    (hbody : ∀ (A : Around) (outer : List Env) (s : Shared) (H : Hp) (E : XK) (f c' : Addr), Room k (A.deeper (LamX.lamEnv X scope s.heap.objs.size f c')) → QY (lamN X A outer s H E scope f c') (WF X.mg E) body db)
    (L : LamX.LamS X.env.scope scope := by exact LamX.lamS_by (by decide +kernel)) (hdef : defaultsOf params X.env = ([], []) := by rfl)
    (hbind : ∀ (q : Str) (cl : List (Str × Addr)) (pm cv ctv : Value), bindArgs (PySem.W.kla_fn "<lambda>" q params body scope cl pm cv ctv) ⟨[], []⟩ = pure [] := by intro _ _ _ _ _; rfl) (hg : Gl X "_law_tried" := by rfl) :
    QY X W (.Call (.Name "_law_tried" p) [.Lambda params body scope lpos] [] pos) (yTried xn db) := by
  obtain ⟨g, fd, F, hm, hb, hG⟩ := tr
  exact qy_tried (k := k) F hm hb sc__law_tried rfl (.inl rfl) (fun cdv q => hG X rfl rfl rfl rfl rfl hgd k cdv q) TX hr hk hbody L hdef hbind hg
theorem sci_NoHand : FnScope ["self", "told"] ["self", "told"] (defScope i_NoHand) := ⟨rfl, rfl, rfl, by decide +kernel, rfl, by decide +kernel, by decide +kernel⟩
theorem rs_NoHand {fd : FuncData} (c : XC K "NoHand" ["word"]) (F : FunD K "__init__" "NoHand.__init__" (defArgs i_NoHand) (defBody i_NoHand) (defScope i_NoHand) [.str ""] [] (He.ma K (He.ga K "NoHand") "__init__") fd) (hm : mg "NoHand" = some (.ref (He.ga K "NoHand"))) : Rs P w K mg base "NoHand" 2 1 (xfV "NoHand" []) := by
  obtain ⟨ds, hds, hb⟩ := F.binds1 (ps := ["self", "told"]) 2 1 (by simp) rfl fun _ _ _ _ _ _ _ us its hl hi => match us, its, hl, hi with | [_, _], [_], _, _ => ⟨_, rfl, rfl⟩
  cases hds
  refine rs_ve (ps := ["self", "told"]) c.o c.i c.t (F.ok (k := 0) sci_NoHand (fun vs H Q E h => ?_) (fun cdv A outer s H vs Q E hr h => ⟨_, (pss_one (ps_osg (pv 0) pe_str)), ?_⟩)) hb hm
  · obtain ⟨a, ws, rfl, hl, _⟩ := h
    simp [hl]
  · obtain ⟨a, ws, rfl, hl, ha, hq⟩ := h
    match ws, hl with
    | [v1], _ =>
      refine ⟨_, rfl, a, He.ga K "NoHand", rfl, c.o, c.n _ (by simp), .inl ⟨ha, fun dx d1 d2 => ?_⟩⟩
      exact hq dx d1 d2
theorem sci_Idle : FnScope ["self", "told"] ["self", "told"] (defScope i_Idle) := ⟨rfl, rfl, rfl, by decide +kernel, rfl, by decide +kernel, by decide +kernel⟩
theorem rs_Idle {fd : FuncData} (c : XC K "Idle" ["word"]) (F : FunD K "__init__" "Idle.__init__" (defArgs i_Idle) (defBody i_Idle) (defScope i_Idle) [.str ""] [] (He.ma K (He.ga K "Idle") "__init__") fd) (hm : mg "Idle" = some (.ref (He.ga K "Idle"))) : Rs P w K mg base "Idle" 2 1 (xfV "Idle" []) := by
  obtain ⟨ds, hds, hb⟩ := F.binds1 (ps := ["self", "told"]) 2 1 (by simp) rfl fun _ _ _ _ _ _ _ us its hl hi => match us, its, hl, hi with | [_, _], [_], _, _ => ⟨_, rfl, rfl⟩
  cases hds
  refine rs_ve (ps := ["self", "told"]) c.o c.i c.t (F.ok (k := 0) sci_Idle (fun vs H Q E h => ?_) (fun cdv A outer s H vs Q E hr h => ⟨_, (pss_one (ps_osg (pv 0) pe_str)), ?_⟩)) hb hm
  · obtain ⟨a, ws, rfl, hl, _⟩ := h
    simp [hl]
  · obtain ⟨a, ws, rfl, hl, ha, hq⟩ := h
    match ws, hl with
    | [v1], _ =>
      refine ⟨_, rfl, a, He.ga K "Idle", rfl, c.o, c.n _ (by simp), .inl ⟨ha, fun dx d1 d2 => ?_⟩⟩
      exact hq dx d1 d2
theorem sci_Busy : FnScope ["self", "told"] ["self", "told"] (defScope i_Busy) := ⟨rfl, rfl, rfl, by decide +kernel, rfl, by decide +kernel, by decide +kernel⟩
theorem rs_Busy {fd : FuncData} (c : XC K "Busy" ["word"]) (F : FunD K "__init__" "Busy.__init__" (defArgs i_Busy) (defBody i_Busy) (defScope i_Busy) [.str ""] [] (He.ma K (He.ga K "Busy") "__init__") fd) (hm : mg "Busy" = some (.ref (He.ga K "Busy"))) : Rs P w K mg base "Busy" 2 1 (xfV "Busy" []) := by
  obtain ⟨ds, hds, hb⟩ := F.binds1 (ps := ["self", "told"]) 2 1 (by simp) rfl fun _ _ _ _ _ _ _ us its hl hi => match us, its, hl, hi with | [_, _], [_], _, _ => ⟨_, rfl, rfl⟩
  cases hds
  refine rs_ve (ps := ["self", "told"]) c.o c.i c.t (F.ok (k := 0) sci_Busy (fun vs H Q E h => ?_) (fun cdv A outer s H vs Q E hr h => ⟨_, (pss_one (ps_osg (pv 0) pe_str)), ?_⟩)) hb hm
  · obtain ⟨a, ws, rfl, hl, _⟩ := h
    simp [hl]
  · obtain ⟨a, ws, rfl, hl, ha, hq⟩ := h
    match ws, hl with
    | [v1], _ =>
      refine ⟨_, rfl, a, He.ga K "Busy", rfl, c.o, c.n _ (by simp), .inl ⟨ha, fun dx d1 d2 => ?_⟩⟩
      exact hq dx d1 d2
theorem sci_NoOperation : FnScope ["self", "told"] ["self", "told"] (defScope i_NoOperation) := ⟨rfl, rfl, rfl, by decide +kernel, rfl, by decide +kernel, by decide +kernel⟩
theorem rs_NoOperation {fd : FuncData} (c : XC K "NoOperation" ["word"]) (F : FunD K "__init__" "NoOperation.__init__" (defArgs i_NoOperation) (defBody i_NoOperation) (defScope i_NoOperation) [.str ""] [] (He.ma K (He.ga K "NoOperation") "__init__") fd) (hm : mg "NoOperation" = some (.ref (He.ga K "NoOperation"))) : Rs P w K mg base "NoOperation" 2 1 (xfV "NoOperation" []) := by
  obtain ⟨ds, hds, hb⟩ := F.binds1 (ps := ["self", "told"]) 2 1 (by simp) rfl fun _ _ _ _ _ _ _ us its hl hi => match us, its, hl, hi with | [_, _], [_], _, _ => ⟨_, rfl, rfl⟩
  cases hds
  refine rs_ve (ps := ["self", "told"]) c.o c.i c.t (F.ok (k := 0) sci_NoOperation (fun vs H Q E h => ?_) (fun cdv A outer s H vs Q E hr h => ⟨_, (pss_one (ps_osg (pv 0) pe_str)), ?_⟩)) hb hm
  · obtain ⟨a, ws, rfl, hl, _⟩ := h
    simp [hl]
  · obtain ⟨a, ws, rfl, hl, ha, hq⟩ := h
    match ws, hl with
    | [v1], _ =>
      refine ⟨_, rfl, a, He.ga K "NoOperation", rfl, c.o, c.n _ (by simp), .inl ⟨ha, fun dx d1 d2 => ?_⟩⟩
      exact hq dx d1 d2
theorem sci_BadMany : FnScope ["self", "told"] ["self", "told"] (defScope i_BadMany) := ⟨rfl, rfl, rfl, by decide +kernel, rfl, by decide +kernel, by decide +kernel⟩
theorem rs_BadMany {fd : FuncData} (c : XC K "BadMany" ["word"]) (F : FunD K "__init__" "BadMany.__init__" (defArgs i_BadMany) (defBody i_BadMany) (defScope i_BadMany) [.str ""] [] (He.ma K (He.ga K "BadMany") "__init__") fd) (hm : mg "BadMany" = some (.ref (He.ga K "BadMany"))) : Rs P w K mg base "BadMany" 2 1 (xfV "BadMany" []) := by
  obtain ⟨ds, hds, hb⟩ := F.binds1 (ps := ["self", "told"]) 2 1 (by simp) rfl fun _ _ _ _ _ _ _ us its hl hi => match us, its, hl, hi with | [_, _], [_], _, _ => ⟨_, rfl, rfl⟩
  cases hds
  refine rs_ve (ps := ["self", "told"]) c.o c.i c.t (F.ok (k := 0) sci_BadMany (fun vs H Q E h => ?_) (fun cdv A outer s H vs Q E hr h => ⟨_, (pss_one (ps_osg (pv 0) pe_str)), ?_⟩)) hb hm
  · obtain ⟨a, ws, rfl, hl, _⟩ := h
    simp [hl]
  · obtain ⟨a, ws, rfl, hl, ha, hq⟩ := h
    match ws, hl with
    | [v1], _ =>
      refine ⟨_, rfl, a, He.ga K "BadMany", rfl, c.o, c.n _ (by simp), .inl ⟨ha, fun dx d1 d2 => ?_⟩⟩
      exact hq dx d1 d2
theorem sci_NoStand : FnScope ["self", "told"] ["self", "told"] (defScope i_NoStand) := ⟨rfl, rfl, rfl, by decide +kernel, rfl, by decide +kernel, by decide +kernel⟩
theorem rs_NoStand {fd : FuncData} (c : XC K "NoStand" ["word"]) (F : FunD K "__init__" "NoStand.__init__" (defArgs i_NoStand) (defBody i_NoStand) (defScope i_NoStand) [.str ""] [] (He.ma K (He.ga K "NoStand") "__init__") fd) (hm : mg "NoStand" = some (.ref (He.ga K "NoStand"))) : Rs P w K mg base "NoStand" 2 1 (xfV "NoStand" []) := by
  obtain ⟨ds, hds, hb⟩ := F.binds1 (ps := ["self", "told"]) 2 1 (by simp) rfl fun _ _ _ _ _ _ _ us its hl hi => match us, its, hl, hi with | [_, _], [_], _, _ => ⟨_, rfl, rfl⟩
  cases hds
  refine rs_ve (ps := ["self", "told"]) c.o c.i c.t (F.ok (k := 0) sci_NoStand (fun vs H Q E h => ?_) (fun cdv A outer s H vs Q E hr h => ⟨_, (pss_one (ps_osg (pv 0) pe_str)), ?_⟩)) hb hm
  · obtain ⟨a, ws, rfl, hl, _⟩ := h
    simp [hl]
  · obtain ⟨a, ws, rfl, hl, ha, hq⟩ := h
    match ws, hl with
    | [v1], _ =>
      refine ⟨_, rfl, a, He.ga K "NoStand", rfl, c.o, c.n _ (by simp), .inl ⟨ha, fun dx d1 d2 => ?_⟩⟩
      exact hq dx d1 d2
theorem sci_BadTable : FnScope ["self", "at"] ["self", "at"] (defScope i_BadTable) := ⟨rfl, rfl, rfl, by decide +kernel, rfl, by decide +kernel, by decide +kernel⟩
theorem rs_BadTable {fd : FuncData} (c : XC K "BadTable" ["word", "at"]) (F : FunD K "__init__" "BadTable.__init__" (defArgs i_BadTable) (defBody i_BadTable) (defScope i_BadTable) [] [] (He.ma K (He.ga K "BadTable") "__init__") fd) (hm : mg "BadTable" = some (.ref (He.ga K "BadTable"))) : Rs P w K mg base "BadTable" 2 1 (xfV "BadTable" ["at"]) := by
  refine rs_ve (ps := ["self", "at"]) c.o c.i c.t (F.ok (k := 0) sci_BadTable (fun vs H Q E h => ?_) (fun cdv A outer s H vs Q E hr h => ⟨_, (pss_cons (ps_osg (pv 0) pe_str) (pss_one (ps_osg (pv 0) (pv 1)))), ?_⟩)) (F.bindsN (ps := ["self", "at"]) fun _ _ _ _ _ _ us hl => match us, hl with | [_, _], _ => rfl) hm
  · obtain ⟨a, ws, rfl, hl, _⟩ := h
    simp [hl]
  · obtain ⟨a, ws, rfl, hl, ha, hq⟩ := h
    match ws, hl with
    | [v1], _ =>
      refine ⟨_, rfl, a, He.ga K "BadTable", rfl, c.o, c.n _ (by simp), .inl ⟨ha, fun dx d1 d2 => ?_⟩⟩
      refine ⟨_, rfl, _, rfl, a, He.ga K "BadTable", rfl, c.o, c.n _ (by simp), .inr ⟨dx, _, upd_same, (upd_ne d2).trans upd_same, ?_, ?_⟩⟩
      · simp
      rw [upd_swap d2]
      exact hq dx d1 d2
theorem sc_is_whole : FnScope n_is_whole ["thing", "low", "high"] (defScope s_is_whole) := ⟨rfl, rfl, rfl, by decide +kernel, rfl, by decide +kernel, by decide +kernel⟩
theorem ok_is_whole   (T : Bt mg)       (F : FnP K mg "is_whole" s_is_whole) : Cl P w K mg base "is_whole" 1 c_is_whole := by
  obtain ⟨f, fd, F, gm⟩ := F
  refine ⟨["thing", "low", "high"], f, fd, gm, F.kp, F.bindsN (ps := ["thing", "low", "high"]) fun _ _ _ _ _ _ us hl => match us, hl with | [_, _, _], _ => rfl, fn_ok (db := d_is_whole) F sc_is_whole l_is_whole (fun cdv A outer s H E hr => ?_) p_is_whole⟩
  have tk := L2N.takes_of (X := cxOf (L2N.CX P w) P w K mg base n_is_whole "is_whole" (defScope s_is_whole) f cdv A outer s H E) (E := E) rfl rfl rfl rfl
  exact (qss_one (qs_ret (qe_and (qe_isi (T := "int") rfl T.isinstance_ T.int_ (by decide +kernel) (qe_var 0)) (qe_and (qe_not (qe_isi (T := "bool") rfl T.isinstance_ T.bool_ (by decide +kernel) (qe_var 0))) (qe_one (qe_chain le_E le_E op_le op_le (qe_var 1) (qe_var 0) (qe_var 2)))))))
theorem sc_is_operation : FnScope n_is_operation ["rows", "many"] (defScope s_is_operation) := ⟨rfl, rfl, rfl, by decide +kernel, rfl, by decide +kernel, by decide +kernel⟩
theorem ok_is_operation   (T : Bt mg) (k_is_whole : Cl P w K mg base "is_whole" 1 c_is_whole) (c_MOST_STANDS : GI mg "MOST_STANDS" 5)     (F : FnP K mg "is_operation" s_is_operation) : Cl P w K mg base "is_operation" 2 c_is_operation := by
  obtain ⟨f, fd, F, gm⟩ := F
  refine ⟨["rows", "many"], f, fd, gm, F.kp, F.bindsN (ps := ["rows", "many"]) fun _ _ _ _ _ _ us hl => match us, hl with | [_, _], _ => rfl, fn_ok (db := d_is_operation) F sc_is_operation l_is_operation (fun cdv A outer s H E hr => ?_) p_is_operation⟩
  have tk := L2N.takes_of (X := cxOf (L2N.CX P w) P w K mg base n_is_operation "is_operation" (defScope s_is_operation) f cdv A outer s H E) (E := E) rfl rfl rfl rfl
  exact (qss_cons (qs_if (qw_or (qt_not (qt_chain le_E le_E op_le op_le qe_int (qe_var 1) (qe_gi c_MOST_STANDS))) (qw_or1 (qt_ne hr.units (qe_len T.len_ (qe_var 0)) (qe_var 1)))).qt
  (qss_one (qs_ret qe_bl))
  qss_nil)
  (qss_one (qs_ret (qe_all rfl T.all_ (qo_lc (own := [("answer", 2), ("later", 3)]) rfl sc_is_operation.nd (qi_e (qe_var 0)) (blkOk_by (N := n_is_operation) (sc := defScope s_is_operation) (by decide +kernel)) (fun _ _ _ _ _ => (qg_tup rfl (qgs_cons (qg_name (i := 2) sc_is_operation.nd) (qgs_cons (qg_name (i := 3) sc_is_operation.nd) qgs_nil)))) (fun _ _ _ _ _ => qts_nil) (fun _ _ _ _ _ => (qe_and (qe_cl k_is_whole hr (by omega) takesN rfl (qa_cons (qe_var 2) (qa_cons qe_int (qa_cons qe_int qa_nil)))) (qe_one (qe_cl k_is_whole hr (by omega) takesN rfl (qa_cons (qe_var 3) (qa_cons qe_int (qa_cons (qe_sub (qe_var 1) qe_int) qa_nil)))))))).qc))))
theorem sc_look_table : FnScope n_look_table ["table"] (defScope s_look_table) := ⟨rfl, rfl, rfl, by decide +kernel, rfl, by decide +kernel, by decide +kernel⟩
theorem ok_look_table   (T : Bt mg) (k_is_operation : Cl P w K mg base "is_operation" 2 c_is_operation) (c_MOST_OPERATIONS : GI mg "MOST_OPERATIONS" 4)   (r_BadTable : Rs P w K mg base "BadTable" 2 1 (xfV "BadTable" ["at"]))  (F : FnP K mg "look_table" s_look_table) : Cl P w K mg base "look_table" 3 c_look_table := by
  obtain ⟨f, fd, F, gm⟩ := F
  refine ⟨["table"], f, fd, gm, F.kp, F.bindsN (ps := ["table"]) fun _ _ _ _ _ _ us hl => match us, hl with | [_], _ => rfl, fn_ok (db := d_look_table) F sc_look_table l_look_table (fun cdv A outer s H E hr => ?_) p_look_table⟩
  have tk := L2N.takes_of (X := cxOf (L2N.CX P w) P w K mg base n_look_table "look_table" (defScope s_look_table) f cdv A outer s H E) (E := E) rfl rfl rfl rfl
  exact (qss_cons (qs_if (qt_eq hr.units (qe_len T.len_ (qe_var 0)) qe_int)
  (qss_one (qs_raise r_BadTable hr (by omega) tk rfl (xf_ok "BadTable" ["at"] 1) (by decide) (qa_cons qe_int qa_nil)))
  qss_nil)
  (qss_cons (qs_set (i := 1) sc_look_table.nd (qe_len T.len_ (qe_ix (qc_var 0) qe_int)))
  (qss_one (qs_for (L2.passes_of rfl) rfl (qi_enum T.enumerate_ (qe_var 0)) (qg_tup rfl (qgs_cons (qg_name (i := 2) sc_look_table.nd) (qgs_cons (qg_name (i := 3) sc_look_table.nd) qgs_nil)))
  (qss_one (qs_if (qw_or (qt_ge (qe_var 2) (qe_gi c_MOST_OPERATIONS)) (qw_or1 (qt_not (qt_val (qe_cl k_is_operation hr (by omega) tk rfl (qa_cons (qe_var 3) (qa_cons (qe_var 1) qa_nil))))))).qt
  (qss_one (qs_raise r_BadTable hr (by omega) tk rfl (xf_ok "BadTable" ["at"] 1) (by decide) (qa_cons (qe_var 2) qa_nil)))
  qss_nil))))))
theorem sc_look_stand : FnScope n_look_stand ["table", "stand"] (defScope s_look_stand) := ⟨rfl, rfl, rfl, by decide +kernel, rfl, by decide +kernel, by decide +kernel⟩
theorem ok_look_stand   (T : Bt mg) (k_look_table : Cl P w K mg base "look_table" 3 c_look_table)    (r_NoStand : Rs P w K mg base "NoStand" 2 1 (xfV "NoStand" []))  (F : FnP K mg "look_stand" s_look_stand) : Cl P w K mg base "look_stand" 4 c_look_stand := by
  obtain ⟨f, fd, F, gm⟩ := F
  refine ⟨["table", "stand"], f, fd, gm, F.kp, F.bindsN (ps := ["table", "stand"]) fun _ _ _ _ _ _ us hl => match us, hl with | [_, _], _ => rfl, fn_ok (db := d_look_stand) F sc_look_stand l_look_stand (fun cdv A outer s H E hr => ?_) p_look_stand⟩
  have tk := L2N.takes_of (X := cxOf (L2N.CX P w) P w K mg base n_look_stand "look_stand" (defScope s_look_stand) f cdv A outer s H E) (E := E) rfl rfl rfl rfl
  exact (qss_cons (qs_expr (qe_cl k_look_table hr (by omega) tk rfl (qa_cons (qe_var 0) qa_nil)))
  (qss_one (qs_if (qt_not (qt_chain le_E lt_E op_le op_lt qe_int (qe_var 1) (qe_len T.len_ (qe_ix (qc_var 0) qe_int))))
  (qss_one (qs_raise r_NoStand hr (by omega) tk rfl (xf_ok "NoStand" [] 1) (by decide) (qa_cons qe_str qa_nil)))
  qss_nil)))
theorem sc_look_operation : FnScope n_look_operation ["table", "operation"] (defScope s_look_operation) := ⟨rfl, rfl, rfl, by decide +kernel, rfl, by decide +kernel, by decide +kernel⟩
theorem ok_look_operation   (T : Bt mg)     (r_NoOperation : Rs P w K mg base "NoOperation" 2 1 (xfV "NoOperation" []))  (F : FnP K mg "look_operation" s_look_operation) : Cl P w K mg base "look_operation" 3 c_look_operation := by
  obtain ⟨f, fd, F, gm⟩ := F
  refine ⟨["table", "operation"], f, fd, gm, F.kp, F.bindsN (ps := ["table", "operation"]) fun _ _ _ _ _ _ us hl => match us, hl with | [_, _], _ => rfl, fn_ok (db := d_look_operation) F sc_look_operation l_look_operation (fun cdv A outer s H E hr => ?_) p_look_operation⟩
  have tk := L2N.takes_of (X := cxOf (L2N.CX P w) P w K mg base n_look_operation "look_operation" (defScope s_look_operation) f cdv A outer s H E) (E := E) rfl rfl rfl rfl
  exact (qss_one (qs_if (qt_not (qt_chain le_E lt_E op_le op_lt qe_int (qe_var 1) (qe_len T.len_ (qe_var 0))))
  (qss_one (qs_raise r_NoOperation hr (by omega) tk rfl (xf_ok "NoOperation" [] 1) (by decide) (qa_cons qe_str qa_nil)))
  qss_nil))
theorem sc_look_many : FnScope n_look_many ["many"] (defScope s_look_many) := ⟨rfl, rfl, rfl, by decide +kernel, rfl, by decide +kernel, by decide +kernel⟩
theorem ok_look_many   (T : Bt mg)  (c_MOST_HANDS : GI mg "MOST_HANDS" 4)   (r_BadMany : Rs P w K mg base "BadMany" 2 1 (xfV "BadMany" []))  (F : FnP K mg "look_many" s_look_many) : Cl P w K mg base "look_many" 3 c_look_many := by
  obtain ⟨f, fd, F, gm⟩ := F
  refine ⟨["many"], f, fd, gm, F.kp, F.bindsN (ps := ["many"]) fun _ _ _ _ _ _ us hl => match us, hl with | [_], _ => rfl, fn_ok (db := d_look_many) F sc_look_many l_look_many (fun cdv A outer s H E hr => ?_) p_look_many⟩
  have tk := L2N.takes_of (X := cxOf (L2N.CX P w) P w K mg base n_look_many "look_many" (defScope s_look_many) f cdv A outer s H E) (E := E) rfl rfl rfl rfl
  exact (qss_one (qs_if (qt_not (qt_chain le_E le_E op_le op_le qe_int (qe_var 0) (qe_gi c_MOST_HANDS)))
  (qss_one (qs_raise r_BadMany hr (by omega) tk rfl (xf_ok "BadMany" [] 1) (by decide) (qa_cons qe_str qa_nil)))
  qss_nil))
theorem sc__law_numbers : FnScope n__law_numbers ["_law_script", "_law_many"] (defScope s__law_numbers) := ⟨rfl, rfl, rfl, by decide +kernel, rfl, by decide +kernel, by decide +kernel⟩
theorem ok__law_numbers   (T : Bt mg)       (F : FnP K mg "_law_numbers" s__law_numbers) : Cl P w K mg base "_law_numbers" 1 c__law_numbers := by
  obtain ⟨f, fd, F, gm⟩ := F
  refine ⟨["_law_script", "_law_many"], f, fd, gm, F.kp, F.bindsN (ps := ["_law_script", "_law_many"]) fun _ _ _ _ _ _ us hl => match us, hl with | [_, _], _ => rfl, fn_ok (db := d__law_numbers) F sc__law_numbers l__law_numbers (fun cdv A outer s H E hr => ?_) p__law_numbers⟩
  have tk := L2N.takes_of (X := cxOf (L2N.CX P w) P w K mg base n__law_numbers "_law_numbers" (defScope s__law_numbers) f cdv A outer s H E) (E := E) rfl rfl rfl rfl
  exact (qss_cons (qs_setO (i := 2) sc__law_numbers.nd (qo_lst qa_nil))
  (qss_cons (qs_set (i := 3) sc__law_numbers.nd qe_int)
  (qss_cons (qs_for (L2.passes_of rfl) rfl (qi_e (qe_scr 0)) (qg_name (i := 4) sc__law_numbers.nd)
  (qss_cons (qs_set (i := 3) sc__law_numbers.nd (qe_mod (qe_add (qe_add (qe_mul (qe_var 3) qe_int) (qe_mod (qe_var 4) qe_int)) qe_int) qe_int))
  (qss_cons (qs_set (i := 5) sc__law_numbers.nd (qe_sub (qe_var 4) (qe_pow qe_int qe_int)))
  (qss_cons (qs_if (qt_lt (qe_var 5) qe_int)
  (qss_one (qs_app (i := 2) (qe_mod (qe_var 4) qe_int) (hp := pe_bm PySem.F.plainAttrs_list PySem.F.slot_list_append PySem.F.type_list_append mt_append (pv 2) (pa_cons (qe_mod (qe_var 4) qe_int) pa_nil))))
  qss_nil)
  (qss_one (qs_for (L2.passes_of rfl) rfl (qi_range1 T.range_ qe_int) (qg_name (i := 6) sc__law_numbers.nd)
  (qss_one (qs_if (qt_gt (qe_var 5) qe_int)
  (qss_cons (qs_app (i := 2) (qe_mod (qe_var 5) qe_int) (hp := pe_bm PySem.F.plainAttrs_list PySem.F.slot_list_append PySem.F.type_list_append mt_append (pv 2) (pa_cons (qe_mod (qe_var 5) qe_int) pa_nil)))
  (qss_one (qs_set (i := 5) sc__law_numbers.nd (qe_fdiv (qe_var 5) qe_int))))
  qss_nil))))))))
  (qss_cons (qs_while (L2.passes_of rfl) (qt_lt (qe_lenC T.len_ (qc_var 2)) (qe_var 1))
  (qss_cons (qs_set (i := 3) sc__law_numbers.nd (qe_mod (qe_add (qe_add (qe_add (qe_mul (qe_var 3) (qe_var 3)) (qe_mul qe_int (qe_var 3))) (qe_mul qe_int (qe_lenC T.len_ (qc_var 2)))) qe_int) qe_int))
  (qss_one (qs_app (i := 2) (qe_mod (qe_fdiv (qe_var 3) qe_int) qe_int) (hp := pe_bm PySem.F.plainAttrs_list PySem.F.slot_list_append PySem.F.type_list_append mt_append (pv 2) (pa_cons (qe_mod (qe_fdiv (qe_var 3) qe_int) qe_int) pa_nil))))))
  (qss_one (qs_ret (qe_slice (qc_var 2) qp_none (qp_some (qe_var 1)))))))))
theorem sc__law_known : FnScope n__law_known ["_law_d"] (defScope s__law_known) := ⟨rfl, rfl, rfl, by decide +kernel, rfl, by decide +kernel, by decide +kernel⟩
theorem ok__law_known   (T : Bt mg)       (F : FnP K mg "_law_known" s__law_known) : Cl P w K mg base "_law_known" 1 c__law_known := by
  obtain ⟨f, fd, F, gm⟩ := F
  refine ⟨["_law_d"], f, fd, gm, F.kp, F.bindsN (ps := ["_law_d"]) fun _ _ _ _ _ _ us hl => match us, hl with | [_], _ => rfl, fn_ok (db := d__law_known) F sc__law_known l__law_known (fun cdv A outer s H E hr => ?_) p__law_known⟩
  have tk := L2N.takes_of (X := cxOf (L2N.CX P w) P w K mg base n__law_known "_law_known" (defScope s__law_known) f cdv A outer s H E) (E := E) rfl rfl rfl rfl
  exact (qss_cons (qs_set (i := 1) sc__law_known.nd (qo_lst (qa_cons (qe_tup (qa_cons (qe_tup (qa_cons (qe_tup (qa_cons qe_int (qa_cons qe_int qa_nil))) (qa_cons (qe_tup (qa_cons qe_int (qa_cons qe_int qa_nil))) qa_nil))) qa_nil)) (qa_cons (qe_tup (qa_cons (qe_tup (qa_cons (qe_tup (qa_cons qe_int (qa_cons qe_int qa_nil))) (qa_cons (qe_tup (qa_cons qe_int (qa_cons qe_int qa_nil))) (qa_cons (qe_tup (qa_cons qe_int (qa_cons qe_int qa_nil))) qa_nil)))) (qa_cons (qe_tup (qa_cons (qe_tup (qa_cons qe_int (qa_cons qe_int qa_nil))) (qa_cons (qe_tup (qa_cons qe_int (qa_cons qe_int qa_nil))) (qa_cons (qe_tup (qa_cons qe_int (qa_cons qe_int qa_nil))) qa_nil)))) qa_nil))) qa_nil))).qe)
  (qss_cons (qs_set (i := 1) sc__law_known.nd (qe_add (qe_var 1) (qo_lst (qa_cons (qe_tup (qa_cons (qe_tup (qa_cons (qe_tup (qa_cons qe_int (qa_cons qe_int qa_nil))) (qa_cons (qe_tup (qa_cons qe_int (qa_cons qe_int qa_nil))) (qa_cons (qe_tup (qa_cons qe_int (qa_cons qe_int qa_nil))) qa_nil)))) (qa_cons (qe_tup (qa_cons (qe_tup (qa_cons qe_int (qa_cons qe_int qa_nil))) (qa_cons (qe_tup (qa_cons qe_int (qa_cons qe_int qa_nil))) (qa_cons (qe_tup (qa_cons qe_int (qa_cons qe_int qa_nil))) qa_nil)))) qa_nil))) qa_nil)).qe))
  (qss_cons (qs_set (i := 1) sc__law_known.nd (qe_add (qe_var 1) (qo_lst (qa_cons (qe_tup (qa_cons (qe_tup (qa_cons (qe_tup (qa_cons qe_int (qa_cons qe_int qa_nil))) (qa_cons (qe_tup (qa_cons qe_int (qa_cons qe_int qa_nil))) (qa_cons (qe_tup (qa_cons qe_int (qa_cons qe_int qa_nil))) qa_nil)))) (qa_cons (qe_tup (qa_cons (qe_tup (qa_cons qe_int (qa_cons qe_int qa_nil))) (qa_cons (qe_tup (qa_cons qe_int (qa_cons qe_int qa_nil))) (qa_cons (qe_tup (qa_cons qe_int (qa_cons qe_int qa_nil))) qa_nil)))) qa_nil))) qa_nil)).qe))
  (qss_cons (qs_set (i := 1) sc__law_known.nd (qe_add (qe_var 1) (qo_lst (qa_cons (qe_tup (qa_cons (qe_tup (qa_cons (qe_tup (qa_cons qe_int (qa_cons qe_int qa_nil))) (qa_cons (qe_tup (qa_cons qe_int (qa_cons qe_int qa_nil))) (qa_cons (qe_tup (qa_cons qe_int (qa_cons qe_int qa_nil))) qa_nil)))) qa_nil)) (qa_cons (qe_tup (qa_cons (qe_tup (qa_cons (qe_tup (qa_cons qe_int (qa_cons qe_int qa_nil))) (qa_cons (qe_tup (qa_cons qe_int (qa_cons qe_int qa_nil))) qa_nil))) qa_nil)) qa_nil))).qe))
  (qss_cons (qs_set (i := 1) sc__law_known.nd (qe_add (qe_var 1) (qo_lst (qa_cons (qe_tup (qa_cons (qe_tup (qa_cons (qe_tup (qa_cons qe_int (qa_cons qe_int qa_nil))) (qa_cons (qe_tup (qa_cons qe_int (qa_cons qe_int qa_nil))) (qa_cons (qe_tup (qa_cons qe_int (qa_cons qe_int qa_nil))) qa_nil)))) (qa_cons (qe_tup (qa_cons (qe_tup (qa_cons qe_int (qa_cons qe_int qa_nil))) (qa_cons (qe_tup (qa_cons qe_int (qa_cons qe_int qa_nil))) (qa_cons (qe_tup (qa_cons qe_int (qa_cons qe_int qa_nil))) qa_nil)))) qa_nil))) qa_nil)).qe))
  (qss_cons (qs_set (i := 1) sc__law_known.nd (qe_add (qe_var 1) (qo_lst (qa_cons (qe_tup (qa_cons (qe_tup (qa_cons (qe_tup (qa_cons qe_int (qa_cons qe_int qa_nil))) (qa_cons (qe_tup (qa_cons qe_int (qa_cons qe_int qa_nil))) (qa_cons (qe_tup (qa_cons qe_int (qa_cons qe_int qa_nil))) (qa_cons (qe_tup (qa_cons qe_int (qa_cons qe_int qa_nil))) qa_nil))))) (qa_cons (qe_tup (qa_cons (qe_tup (qa_cons qe_int (qa_cons qe_int qa_nil))) (qa_cons (qe_tup (qa_cons qe_int (qa_cons qe_int qa_nil))) (qa_cons (qe_tup (qa_cons qe_int (qa_cons qe_int qa_nil))) (qa_cons (qe_tup (qa_cons qe_int (qa_cons qe_int qa_nil))) qa_nil))))) qa_nil))) qa_nil)).qe))
  (qss_one (qs_ret (qe_ix (qc_var 1) (qe_mod (qe_ix (qc_var 0) qe_int) qe_int))))))))))
theorem sc__law_rows : FnScope n__law_rows ["_law_d", "_law_many"] (defScope s__law_rows) := ⟨rfl, rfl, rfl, by decide +kernel, rfl, by decide +kernel, by decide +kernel⟩
theorem ok__law_rows   (T : Bt mg)       (F : FnP K mg "_law_rows" s__law_rows) : Cl P w K mg base "_law_rows" 1 c__law_rows := by
  obtain ⟨f, fd, F, gm⟩ := F
  refine ⟨["_law_d", "_law_many"], f, fd, gm, F.kp, F.bindsN (ps := ["_law_d", "_law_many"]) fun _ _ _ _ _ _ us hl => match us, hl with | [_, _], _ => rfl, fn_ok (db := d__law_rows) F sc__law_rows l__law_rows (fun cdv A outer s H E hr => ?_) p__law_rows⟩
  have tk := L2N.takes_of (X := cxOf (L2N.CX P w) P w K mg base n__law_rows "_law_rows" (defScope s__law_rows) f cdv A outer s H E) (E := E) rfl rfl rfl rfl
  exact (qss_cons (qs_set (i := 2) sc__law_rows.nd (qe_ix (qo_lst (qa_cons qe_int (qa_cons qe_int (qa_cons qe_int qa_nil)))).qc (qe_mod (qe_ix (qc_var 0) qe_int) qe_int)))
  (qss_one (qs_ret (qe_tuple T.tuple_ (qo_lc (own := [("_law_k", 3)]) rfl sc__law_rows.nd (qi_range1 T.range_ (qe_var 1)) (blkOk_by (N := n__law_rows) (sc := defScope s__law_rows) (by decide +kernel)) (fun _ _ _ _ _ => (qg_name (i := 3) sc__law_rows.nd)) (fun _ _ _ _ _ => qts_nil) (fun _ _ _ _ _ => (qe_tup (qa_cons (qe_mod (qe_ix (qc_var 0) (qe_add qe_int (qe_var 3))) (qe_var 2)) (qa_cons (qe_mod (qe_fdiv (qe_ix (qc_var 0) (qe_add qe_int (qe_var 3))) qe_int) (qe_var 1)) qa_nil))))).qc))))
theorem sc__law_table : FnScope n__law_table ["_law_d", "_law_most_stands", "_law_most_operations"] (defScope s__law_table) := ⟨rfl, rfl, rfl, by decide +kernel, rfl, by decide +kernel, by decide +kernel⟩
theorem ok__law_table   (T : Bt mg) (k__law_known : Cl P w K mg base "_law_known" 1 c__law_known) (k__law_rows : Cl P w K mg base "_law_rows" 1 c__law_rows)      (F : FnP K mg "_law_table" s__law_table) : Cl P w K mg base "_law_table" 2 c__law_table := by
  obtain ⟨f, fd, F, gm⟩ := F
  refine ⟨["_law_d", "_law_most_stands", "_law_most_operations"], f, fd, gm, F.kp, F.bindsN (ps := ["_law_d", "_law_most_stands", "_law_most_operations"]) fun _ _ _ _ _ _ us hl => match us, hl with | [_, _, _], _ => rfl, fn_ok (db := d__law_table) F sc__law_table l__law_table (fun cdv A outer s H E hr => ?_) p__law_table⟩
  have tk := L2N.takes_of (X := cxOf (L2N.CX P w) P w K mg base n__law_table "_law_table" (defScope s__law_table) f cdv A outer s H E) (E := E) rfl rfl rfl rfl
  exact (qss_cons (qs_if (qt_lt (qe_mod (qe_ix (qc_var 0) qe_int) qe_int) qe_int)
  (qss_one (qs_ret (qe_cl k__law_known hr (by omega) tk rfl (qa_cons (qe_slice (qc_var 0) (qp_some qe_int) qp_none) qa_nil))))
  qss_nil)
  (qss_cons (qs_set (i := 3) sc__law_table.nd (qe_add qe_int (qe_mod (qe_ix (qc_var 0) qe_int) (qe_var 1))))
  (qss_one (qs_ret (qe_tuple T.tuple_ (qo_lc (own := [("_law_k", 4)]) rfl sc__law_table.nd (qi_range1 T.range_ (qe_add qe_int (qe_mod (qe_ix (qc_var 0) qe_int) (qe_var 2)))) (blkOk_by (N := n__law_table) (sc := defScope s__law_table) (by decide +kernel)) (fun _ _ _ _ _ => (qg_name (i := 4) sc__law_table.nd)) (fun _ _ _ _ _ => qts_nil) (fun _ _ _ _ _ => (qe_cl k__law_rows hr (by omega) takesN rfl (qa_cons (qe_slice (qc_var 0) (qp_some (qe_add qe_int (qe_mul qe_int (qe_var 4)))) qp_none) (qa_cons (qe_var 3) qa_nil))))).qc)))))
theorem sc__law_roll_state : FnScope n__law_roll_state ["_law_many", "_law_begin"] (defScope s__law_roll_state) := ⟨rfl, rfl, rfl, by decide +kernel, rfl, by decide +kernel, by decide +kernel⟩
theorem ok__law_roll_state   (T : Bt mg)       (F : FnP K mg "_law_roll_state" s__law_roll_state) : Cl P w K mg base "_law_roll_state" 1 c__law_roll_state := by
  obtain ⟨f, fd, F, gm⟩ := F
  refine ⟨["_law_many", "_law_begin"], f, fd, gm, F.kp, F.bindsN (ps := ["_law_many", "_law_begin"]) fun _ _ _ _ _ _ us hl => match us, hl with | [_, _], _ => rfl, fn_ok (db := d__law_roll_state) F sc__law_roll_state l__law_roll_state (fun cdv A outer s H E hr => ?_) p__law_roll_state⟩
  have tk := L2N.takes_of (X := cxOf (L2N.CX P w) P w K mg base n__law_roll_state "_law_roll_state" (defScope s__law_roll_state) f cdv A outer s H E) (E := E) rfl rfl rfl rfl
  exact (qss_one (qs_ret (qo_dispS (qps_cons (qo_lst qa_nil).qe (qps_cons (qe_mul (qo_lst (qa_cons qe_non qa_nil)).qe (qe_var 0)) (qps_cons (qe_mul (qo_lst (qa_cons qe_int qa_nil)).qe (qe_var 0)) (qps_cons (qe_mul (qo_lst (qa_cons (qe_var 1) qa_nil)).qe (qe_var 0)) qps_nil))))).qeD))
theorem sc__law_roll_deed : FnScope n__law_roll_deed ["_law_d", "_law_table_here", "_law_many"] (defScope s__law_roll_deed) := ⟨rfl, rfl, rfl, by decide +kernel, rfl, by decide +kernel, by decide +kernel⟩
theorem ok__law_roll_deed   (T : Bt mg)       (F : FnP K mg "_law_roll_deed" s__law_roll_deed) : Cl P w K mg base "_law_roll_deed" 1 c__law_roll_deed := by
  obtain ⟨f, fd, F, gm⟩ := F
  refine ⟨["_law_d", "_law_table_here", "_law_many"], f, fd, gm, F.kp, F.bindsN (ps := ["_law_d", "_law_table_here", "_law_many"]) fun _ _ _ _ _ _ us hl => match us, hl with | [_, _, _], _ => rfl, fn_ok (db := d__law_roll_deed) F sc__law_roll_deed l__law_roll_deed (fun cdv A outer s H E hr => ?_) p__law_roll_deed⟩
  have tk := L2N.takes_of (X := cxOf (L2N.CX P w) P w K mg base n__law_roll_deed "_law_roll_deed" (defScope s__law_roll_deed) f cdv A outer s H E) (E := E) rfl rfl rfl rfl
  exact (qss_cons (qs_set (i := 3) sc__law_roll_deed.nd (qe_mod (qe_ix (qc_var 0) qe_int) (qe_var 2)))
  (qss_cons (qs_if (qt_eq hr.units (qe_mod (qe_ix (qc_var 0) qe_int) qe_int) qe_int)
  (qss_one (qs_set (i := 3) sc__law_roll_deed.nd (qe_ix (qo_lst (qa_cons (qe_var 2) (qa_cons (qe_neg qe_int) (qa_cons qe_int qa_nil)))).qc (qe_mod (qe_fdiv (qe_ix (qc_var 0) qe_int) qe_int) qe_int))))
  qss_nil)
  (qss_cons (qs_if (qt_lt (qe_mod (qe_ix (qc_var 0) qe_int) qe_int) qe_int)
  (qss_one (qs_ret (qe_tup (qa_cons qe_str (qa_cons (qe_var 3) qa_nil)))))
  qss_nil)
  (qss_one (qs_ret (qe_tup (qa_cons qe_str (qa_cons (qe_var 3) (qa_cons (qe_if (qt_gt (qe_mod (qe_fdiv (qe_ix (qc_var 0) qe_int) qe_int) qe_int) qe_int) (qe_mod (qe_ix (qc_var 0) qe_int) (qe_len T.len_ (qe_var 1))) (qe_ix (qo_lst (qa_cons (qe_len T.len_ (qe_var 1)) (qa_cons (qe_neg qe_int) qa_nil))).qc (qe_mod (qe_ix (qc_var 0) qe_int) qe_int))) qa_nil)))))))))
theorem sc__law_roll_word : FnScope n__law_roll_word ["_law_table_here", "_law_state", "_law_deed"] (defScope s__law_roll_word) := ⟨rfl, rfl, rfl, by decide +kernel, rfl, by decide +kernel, by decide +kernel⟩
theorem ok__law_roll_word   (T : Bt mg)       (F : FnP K mg "_law_roll_word" s__law_roll_word) : Cl P w K mg base "_law_roll_word" 1 c__law_roll_word := by
  obtain ⟨f, fd, F, gm⟩ := F
  refine ⟨["_law_table_here", "_law_state", "_law_deed"], f, fd, gm, F.kp, F.bindsN (ps := ["_law_table_here", "_law_state", "_law_deed"]) fun _ _ _ _ _ _ us hl => match us, hl with | [_, _, _], _ => rfl, fn_ok (db := d__law_roll_word) F sc__law_roll_word l__law_roll_word (fun cdv A outer s H E hr => ?_) p__law_roll_word⟩
  have tk := L2N.takes_of (X := cxOf (L2N.CX P w) P w K mg base n__law_roll_word "_law_roll_word" (defScope s__law_roll_word) f cdv A outer s H E) (E := E) rfl rfl rfl rfl
  exact (qss_cons (qs_if (qt_not (qt_chain le_E lt_E op_le op_lt qe_int (qe_ix (qc_var 2) qe_int) (qe_len T.len_ (qe_dget (hu1 hr) (qd_var 1) qe_str))))
  (qss_one (qs_ret qe_str))
  qss_nil)
  (qss_cons (qs_if (qt_eq hr.units (qe_ix (qc_var 2) qe_int) qe_str)
  (qss_one (qs_ret (qe_if (qt_is (qe_ix (qe_dget (hu1 hr) (qd_var 1) qe_str).qc (qe_ix (qc_var 2) qe_int)) qe_non) qe_str qe_str)))
  qss_nil)
  (qss_cons (qs_if (qt_isNot (qe_ix (qe_dget (hu1 hr) (qd_var 1) qe_str).qc (qe_ix (qc_var 2) qe_int)) qe_non)
  (qss_one (qs_ret qe_str))
  qss_nil)
  (qss_one (qs_ret (qe_if (qt_chain le_E lt_E op_le op_lt qe_int (qe_ix (qc_var 2) qe_int) (qe_len T.len_ (qe_var 0))) qe_str qe_str))))))
theorem sc__law_roll_after : FnScope n__law_roll_after ["_law_table_here", "_law_state", "_law_deed"] (defScope s__law_roll_after) := ⟨rfl, rfl, rfl, by decide +kernel, rfl, by decide +kernel, by decide +kernel⟩
theorem ok__law_roll_after   (T : Bt mg)       (F : FnP K mg "_law_roll_after" s__law_roll_after) : Cl P w K mg base "_law_roll_after" 1 c__law_roll_after := by
  obtain ⟨f, fd, F, gm⟩ := F
  refine ⟨["_law_table_here", "_law_state", "_law_deed"], f, fd, gm, F.kp, F.bindsN (ps := ["_law_table_here", "_law_state", "_law_deed"]) fun _ _ _ _ _ _ us hl => match us, hl with | [_, _, _], _ => rfl, fn_ok (db := d__law_roll_after) F sc__law_roll_after l__law_roll_after (fun cdv A outer s H E hr => ?_) p__law_roll_after⟩
  have tk := L2N.takes_of (X := cxOf (L2N.CX P w) P w K mg base n__law_roll_after "_law_roll_after" (defScope s__law_roll_after) f cdv A outer s H E) (E := E) rfl rfl rfl rfl
  exact (qss_cons (qs_parOO (i := 3) (j := 4) sc__law_roll_after.nd (qo_list T.list_ (qe_dget (hu1 hr) (qd_var 1) qe_str).qc) (qo_list T.list_ (qe_dget (hu1 hr) (qd_var 1) qe_str).qc) (pa_cons (qo_list T.list_ (qe_dget (hu1 hr) (qd_var 1) qe_str).qc) (pa_cons (qo_list T.list_ (qe_dget (hu1 hr) (qd_var 1) qe_str).qc) pa_nil)))
  (qss_cons (qs_parOO (i := 5) (j := 6) sc__law_roll_after.nd (qo_list T.list_ (qe_dget (hu1 hr) (qd_var 1) qe_str).qc) (qo_list T.list_ (qe_dget (hu1 hr) (qd_var 1) qe_str).qc) (pa_cons (qo_list T.list_ (qe_dget (hu1 hr) (qd_var 1) qe_str).qc) (pa_cons (qo_list T.list_ (qe_dget (hu1 hr) (qd_var 1) qe_str).qc) pa_nil)))
  (qss_cons (qs_set (i := 7) sc__law_roll_after.nd (qe_ix (qc_var 2) qe_int))
  (qss_cons (qs_set (i := 8) sc__law_roll_after.nd qe_non)
  (qss_cons (qs_if (qt_eq hr.units (qe_ix (qc_var 2) qe_int) qe_str)
  (qss_one (qs_putL (i := 4) (qe_ix (qc_var 2) qe_int) (qe_var 7) (ps_asg (qe_ix (qc_var 2) qe_int) (pg_sub (pv 4) (qe_var 7) set_list))))
  (qss_cons (qs_if (qt_eq hr.units (qe_ix (qc_var 5) (qe_var 7)) (qe_lenC T.len_ (qc_var 3)))
  (qss_cons (qs_set (i := 9) sc__law_roll_after.nd (qe_mod (qe_lenC T.len_ (qc_var 3)) (qe_lenC T.len_ (qc_var 4))))
  (qss_cons (qs_setLc (i := 10) (own := [("_law_one", 14), ("_law_operation", 12)]) rfl sc__law_roll_after.nd (sw_true rfl rfl rfl (by decide +kernel)) (qi_e (qe_slice (qc_var 3) (qp_some (qe_ix (qc_var 5) (qe_var 9))) qp_none)) (blkOk_by (N := n__law_roll_after) (sc := defScope s__law_roll_after) (by decide +kernel)) (fun _ _ _ _ _ => (qg_tup rfl (qgs_cons (qg_name (i := 14) sc__law_roll_after.nd) (qgs_cons (qg_name (i := 12) sc__law_roll_after.nd) qgs_nil)))) (fun _ _ _ _ _ => (qts_one (qt_eq hr.units (qe_var 14) (qe_var 9)))) (fun _ _ _ _ _ => (qe_var 14)))
  (qss_cons (qs_set (i := 11) sc__law_roll_after.nd (qe_if (qw_and (qt_isNot (qe_ix (qc_var 4) (qe_var 9)) qe_non) (qw_and1 (qt_eq hr.units (qe_var 10) (qo_lst qa_nil).qe))).qt (qe_var 9) (qe_var 7)))
  (qss_one (qs_app (i := 3) (qe_tup (qa_cons (qe_var 11) (qa_cons (qe_ix (qc_var 4) (qe_var 11)) qa_nil))) (hp := pe_bm PySem.F.plainAttrs_list PySem.F.slot_list_append PySem.F.type_list_append mt_append (pv 3) (pa_cons (qe_tup (qa_cons (qe_var 11) (qa_cons (qe_ix (qc_var 4) (qe_var 11)) qa_nil))) pa_nil)))))))
  qss_nil)
  (qss_cons (qs_asg (qe_ix (qc_var 3) (qe_ix (qc_var 5) (qe_var 7))) (qg_tup rfl (qgs_cons (qg_name (i := 11) sc__law_roll_after.nd) (qgs_cons (qg_name (i := 12) sc__law_roll_after.nd) qgs_nil))))
  (qss_cons (qs_asgPut (ia := 13) (ix := 6) sc__law_roll_after.nd (qe_ix (qe_ix (qc_var 0) (qe_var 12)).qc (qe_ix (qc_var 6) (qe_var 7))) (qe_var 7) (pv 6))
  (qss_cons (qs_putL (i := 5) (qe_add (qe_ix (qc_var 5) (qe_var 7)) qe_int) (qe_var 7) (ps_asg (qe_add (qe_ix (qc_var 5) (qe_var 7)) qe_int) (pg_sub (pv 5) (qe_var 7) set_list)))
  (qss_one (qs_if (qt_eq hr.units (qe_var 11) (qe_var 7))
  (qss_cons (qs_set (i := 8) sc__law_roll_after.nd (qe_var 13))
  (qss_one (qs_putL (i := 4) qe_non (qe_var 7) (ps_asg qe_non (pg_sub (pv 4) (qe_var 7) set_list)))))
  qss_nil)))))))
  (qss_freeze 6 (qss_freeze 5 (qss_freeze 4 (qss_freeze 3 (qss_one (qs_ret (qe_tup (qa_cons (qo_dispS (qps_cons (qe_var 3) (qps_cons (qe_var 4) (qps_cons (qe_var 5) (qps_cons (qe_var 6) qps_nil))))).qeD (qa_cons (qe_var 8) qa_nil))))))))))))))
theorem sc__law_same : FnScope n__law_same ["_law_found", "_law_due"] (defScope s__law_same) := ⟨rfl, rfl, rfl, by decide +kernel, rfl, by decide +kernel, by decide +kernel⟩
theorem oka__law_same   (T : Bt mg)       (F : FnP K mg "_law_same" s__law_same) (n : Nat) : Cl P w K mg base "_law_same" (0 + n) (cc__law_same n) := by
  induction n with
  | zero => exact cl_false ["_law_found", "_law_due"] F (fun _ _ _ _ _ _ us hl => match us, hl with | [_, _], _ => rfl) fun _ _ _ h => h
  | succ n k__law_same =>
  obtain ⟨f, fd, F, gm⟩ := F
  refine ⟨["_law_found", "_law_due"], f, fd, gm, F.kp, F.bindsN (ps := ["_law_found", "_law_due"]) fun _ _ _ _ _ _ us hl => match us, hl with | [_, _], _ => rfl, fn_ok (db := d__law_same (cc__law_same n)) (k := 0 + n) F sc__law_same (l__law_same (n + 1)) (fun cdv A outer s H E hr => ?_) (p__law_same n)⟩
  have tk := L2N.takes_of (X := cxOf (L2N.CX P w) P w K mg base n__law_same "_law_same" (defScope s__law_same) f cdv A outer s H E) (E := E) rfl rfl rfl rfl
  exact (qss_cons (qs_if (qt_is (qe_var 1) qe_non)
  (qss_one (qs_ret (qe_is (qe_var 0) qe_non)))
  qss_nil)
  (qss_cons (qs_if (qt_val (qe_isi2 (T := "list") (U := "tuple") rfl rfl T.isinstance_ T.list_ (by decide +kernel) T.tuple_ (by decide +kernel) (qe_var 1)))
  (qss_cons (qs_if (qw_or (qt_ne hr.units (qe_isi (T := "list") rfl T.isinstance_ T.list_ (by decide +kernel) (qe_var 0)) (qe_isi (T := "list") rfl T.isinstance_ T.list_ (by decide +kernel) (qe_var 1))) (qw_or1 (qt_ne hr.units (qe_isi (T := "tuple") rfl T.isinstance_ T.tuple_ (by decide +kernel) (qe_var 0)) (qe_isi (T := "tuple") rfl T.isinstance_ T.tuple_ (by decide +kernel) (qe_var 1))))).qt
  (qss_one (qs_ret qe_bl))
  qss_nil)
  (qss_one (qs_ret (qe_and (qe_eq hr.units (qe_len T.len_ (qe_var 0)) (qe_len T.len_ (qe_var 1))) (qe_one (qe_all rfl T.all_ (qo_lc (own := [("_law_k", 2)]) rfl sc__law_same.nd (qi_range1 T.range_ (qe_len T.len_ (qe_var 1))) (blkOk_by (N := n__law_same) (sc := defScope s__law_same) (by decide +kernel)) (fun _ _ _ _ _ => (qg_name (i := 2) sc__law_same.nd)) (fun _ _ _ _ _ => qts_nil) (fun _ _ _ _ _ => (qe_cl k__law_same hr (by omega) takesN rfl (qa_cons (qe_ix (qc_var 0) (qe_var 2)) (qa_cons (qe_ix (qc_var 1) (qe_var 2)) qa_nil))))).qc))))))
  qss_nil)
  (qss_cons (qs_if (qw_or (qt_ne hr.units (qe_isi (T := "bool") rfl T.isinstance_ T.bool_ (by decide +kernel) (qe_var 0)) (qe_isi (T := "bool") rfl T.isinstance_ T.bool_ (by decide +kernel) (qe_var 1))) (qw_or1 (qt_ne hr.units (qe_isi (T := "str") rfl T.isinstance_ T.str_ (by decide +kernel) (qe_var 0)) (qe_isi (T := "str") rfl T.isinstance_ T.str_ (by decide +kernel) (qe_var 1))))).qt
  (qss_one (qs_ret qe_bl))
  qss_nil)
  (qss_one (qs_ret (qe_and (qe_eq hr.units (qe_isi (T := "int") rfl T.isinstance_ T.int_ (by decide +kernel) (qe_var 0)) (qe_isi (T := "int") rfl T.isinstance_ T.int_ (by decide +kernel) (qe_var 1))) (qe_one (qe_eq hr.units (qe_var 0) (qe_var 1)))))))))
theorem ok__law_same   (T : Bt mg)       (F : FnP K mg "_law_same" s__law_same) : Cl P w K mg base "_law_same" 9 c__law_same := oka__law_same T F 9
theorem sc_Roll : FnScope n_Roll ["self", "table", "many", "start"] (defScope s_Roll) := ⟨rfl, rfl, rfl, by decide +kernel, rfl, by decide +kernel, by decide +kernel⟩
theorem ok_Roll  (o_Roll : ClsOk K (ClsA.A "Roll") ["table", "many", "cells", "asked", "gone", "here"]) (T : Bt mg) (k_look_stand : Cl P w K mg base "look_stand" 4 c_look_stand) (k_look_many : Cl P w K mg base "look_many" 3 c_look_many)       {f : Addr} {fd : FuncData} (M : Mk K (ClsA.A "Roll") f) (gm : mg "Roll" = some (.ref (ClsA.A "Roll"))) (F : FunD K "__init__" "Roll.__init__" (defArgs s_Roll) (defBody s_Roll) (defScope s_Roll) [] [("start", .int 0)] f fd) : ClM P w K mg base (ClsA.A "Roll") "Roll" 5 c_Roll 2 "start" (.int 0) := by
  refine ⟨["self", "table", "many", "start"], f, fd, M, gm, F.binds0 (ps := ["self", "table", "many", "start"]) 3 (by simp) rfl (fun D _ _ _ _ _ us ks hl hk => match us, ks, hl, hk with | [_, _, _], [_], _, _ => ⟨_, _, _, _, _, _, rfl, rfl, rfl⟩), kbn_of (ps := ["self", "table", "many", "start"]) F 3 "start" (by simp) (fun _ _ _ _ _ _ us ws hl hk => match us, ws, hl, hk with | [_, _, _], [_], _, _ => rfl), fn_okY (db := d_Roll) F sc_Roll l_Roll (fun cdv A outer s H E hr => ?_) p_Roll⟩
  have tk := L2N.takes_of (X := cxOf (L2N.CX P w) P w K mg base n_Roll "Roll.__init__" (defScope s_Roll) f cdv A outer s H E) (E := E) rfl rfl rfl rfl
  exact (qssy_cons (qsy_lift fun _ => (qs_expr (qe_cl k_look_stand hr (by omega) tk rfl (qa_cons (qe_var 1) (qa_cons (qe_var 3) qa_nil)))))
  (qssy_cons (qsy_lift fun _ => (qs_expr (qe_cl k_look_many hr (by omega) tk rfl (qa_cons (qe_var 2) qa_nil))))
  (qssy_cons (qsy_fld (i := 0) o_Roll.c (o_Roll.n "table" (by decide)) (fun _ => (qe_var 1)))
  (qssy_cons (qsy_fld (i := 0) o_Roll.c (o_Roll.n "many" (by decide)) (fun _ => (qe_var 2)))
  (qssy_cons (qsy_fldO (i := 0) o_Roll.c (o_Roll.n "cells" (by decide)) (fun _ => (qo_lst qa_nil)))
  (qssy_cons (qsy_fldO (i := 0) o_Roll.c (o_Roll.n "asked" (by decide)) (fun _ => (qo_mul (qo_lst (qa_cons qe_non qa_nil)).qc (qe_var 2))))
  (qssy_cons (qsy_fldO (i := 0) o_Roll.c (o_Roll.n "gone" (by decide)) (fun _ => (qo_mul (qo_lst (qa_cons qe_int qa_nil)).qc (qe_var 2))))
  (qssy_one (qsy_fldO (i := 0) o_Roll.c (o_Roll.n "here" (by decide)) (fun _ => (qo_mul (qo_lst (qa_cons (qe_var 3) qa_nil)).qc (qe_var 2))))))))))))
theorem sc_Roll___len__ : FnScope n_Roll___len__ ["self"] (defScope s_Roll___len__) := ⟨rfl, rfl, rfl, by decide +kernel, rfl, by decide +kernel, by decide +kernel⟩
theorem ok_Roll___len__  (o_Roll : ClsOk K (ClsA.A "Roll") ["table", "many", "cells", "asked", "gone", "here"]) (T : Bt mg)        {f : Addr} {fd : FuncData} (me : Meth K (ClsA.A "Roll") "__len__" f) (F : FunD K "__len__" "Roll.__len__" (defArgs s_Roll___len__) (defBody s_Roll___len__) (defScope s_Roll___len__) [] [] f fd) : MtQ P w K mg base (ClsA.A "Roll") "__len__" 1 c_Roll___len__ := by
  refine ⟨["self"], f, fd, o_Roll.c, me, F.bindsN (ps := ["self"]) fun _ _ _ _ _ _ us hl => match us, hl with | [_], _ => rfl, fn_okQ (db := d_Roll___len__) F sc_Roll___len__ l_Roll___len__ (fun B cdv A outer s H E hr => ?_) p_Roll___len__⟩
  have tk := L2N.takes_of (X := cxOf (L2N.CX P w) P w K mg base n_Roll___len__ "Roll.__len__" (defScope s_Roll___len__) f cdv A outer s H E) (E := E) rfl rfl rfl rfl
  exact (qss_one (qs_ret (qe_lenC T.len_ (qc_fld (i := 0) o_Roll.c (o_Roll.n "cells" (by decide))))))
theorem sc_Roll_look_hand : FnScope n_Roll_look_hand ["self", "hand"] (defScope s_Roll_look_hand) := ⟨rfl, rfl, rfl, by decide +kernel, rfl, by decide +kernel, by decide +kernel⟩
theorem ok_Roll_look_hand  (o_Roll : ClsOk K (ClsA.A "Roll") ["table", "many", "cells", "asked", "gone", "here"]) (T : Bt mg)     (r_NoHand : Rs P w K mg base "NoHand" 2 1 (xfV "NoHand" []))   {f : Addr} {fd : FuncData} (me : Meth K (ClsA.A "Roll") "look_hand" f) (F : FunD K "look_hand" "Roll.look_hand" (defArgs s_Roll_look_hand) (defBody s_Roll_look_hand) (defScope s_Roll_look_hand) [] [] f fd) : MtQ P w K mg base (ClsA.A "Roll") "look_hand" 3 c_Roll_look_hand := by
  refine ⟨["self", "hand"], f, fd, o_Roll.c, me, F.bindsN (ps := ["self", "hand"]) fun _ _ _ _ _ _ us hl => match us, hl with | [_, _], _ => rfl, fn_okQ (db := d_Roll_look_hand) F sc_Roll_look_hand l_Roll_look_hand (fun B cdv A outer s H E hr => ?_) p_Roll_look_hand⟩
  have tk := L2N.takes_of (X := cxOf (L2N.CX P w) P w K mg base n_Roll_look_hand "Roll.look_hand" (defScope s_Roll_look_hand) f cdv A outer s H E) (E := E) rfl rfl rfl rfl
  exact (qss_one (qs_if (qt_not (qt_chain le_E lt_E op_le op_lt qe_int (qe_var 1) (qe_fld (i := 0) o_Roll.c (o_Roll.n "many" (by decide)))))
  (qss_one (qs_raise r_NoHand hr (by omega) tk rfl (xf_ok "NoHand" [] 1) (by decide) (qa_cons qe_str qa_nil)))
  qss_nil))
theorem sc_Roll_ask : FnScope n_Roll_ask ["self", "hand", "operation"] (defScope s_Roll_ask) := ⟨rfl, rfl, rfl, by decide +kernel, rfl, by decide +kernel, by decide +kernel⟩
theorem ok_Roll_ask  (o_Roll : ClsOk K (ClsA.A "Roll") ["table", "many", "cells", "asked", "gone", "here"]) (T : Bt mg) (k_Roll_look_hand : MtQ P w K mg base (ClsA.A "Roll") "look_hand" 3 c_Roll_look_hand) (k_look_operation : Cl P w K mg base "look_operation" 3 c_look_operation)    (r_Busy : Rs P w K mg base "Busy" 2 1 (xfV "Busy" []))   {f : Addr} {fd : FuncData} (me : Meth K (ClsA.A "Roll") "ask" f) (F : FunD K "ask" "Roll.ask" (defArgs s_Roll_ask) (defBody s_Roll_ask) (defScope s_Roll_ask) [] [] f fd) : MtY P w K mg base (ClsA.A "Roll") "ask" 4 c_Roll_ask := by
  refine ⟨["self", "hand", "operation"], f, fd, o_Roll.c, me, F.bindsN (ps := ["self", "hand", "operation"]) fun _ _ _ _ _ _ us hl => match us, hl with | [_, _, _], _ => rfl, fn_okY (db := d_Roll_ask) F sc_Roll_ask l_Roll_ask (fun cdv A outer s H E hr => ?_) p_Roll_ask⟩
  have tk := L2N.takes_of (X := cxOf (L2N.CX P w) P w K mg base n_Roll_ask "Roll.ask" (defScope s_Roll_ask) f cdv A outer s H E) (E := E) rfl rfl rfl rfl
  exact (qssy_cons (qsy_lift fun _ => (qs_expr (qe_mthQ (i := 0) k_Roll_look_hand hr (by omega) tk rfl (qa_cons (qe_var 1) qa_nil))))
  (qssy_cons (qsy_lift fun _ => (qs_if (qt_isNot (qe_ix (qc_fld (i := 0) o_Roll.c (o_Roll.n "asked" (by decide))) (qe_var 1)) qe_non)
  (qss_one (qs_raise r_Busy hr (by omega) tk rfl (xf_ok "Busy" [] 1) (by decide) (qa_cons qe_str qa_nil)))
  qss_nil))
  (qssy_cons (qsy_lift fun _ => (qs_expr (qe_cl k_look_operation hr (by omega) tk rfl (qa_cons (qe_fld (i := 0) o_Roll.c (o_Roll.n "table" (by decide))) (qa_cons (qe_var 2) qa_nil)))))
  (qssy_one (qsy_asg (qy_lift fun _ => (qe_var 2)) (qgy_fld o_Roll.c (o_Roll.n "asked" (by decide)) (pg_sub (pe_fld (pv 0) rfl) (PE.all fun _ => (qe_var 1)) set_list)))))))
theorem sc_Roll_is_put : FnScope n_Roll_is_put ["self", "hand"] (defScope s_Roll_is_put) := ⟨rfl, rfl, rfl, by decide +kernel, rfl, by decide +kernel, by decide +kernel⟩
theorem ok_Roll_is_put  (o_Roll : ClsOk K (ClsA.A "Roll") ["table", "many", "cells", "asked", "gone", "here"]) (T : Bt mg)        {f : Addr} {fd : FuncData} (me : Meth K (ClsA.A "Roll") "is_put" f) (F : FunD K "is_put" "Roll.is_put" (defArgs s_Roll_is_put) (defBody s_Roll_is_put) (defScope s_Roll_is_put) [] [] f fd) : MtQ P w K mg base (ClsA.A "Roll") "is_put" 1 c_Roll_is_put := by
  refine ⟨["self", "hand"], f, fd, o_Roll.c, me, F.bindsN (ps := ["self", "hand"]) fun _ _ _ _ _ _ us hl => match us, hl with | [_, _], _ => rfl, fn_okQ (db := d_Roll_is_put) F sc_Roll_is_put l_Roll_is_put (fun B cdv A outer s H E hr => ?_) p_Roll_is_put⟩
  have tk := L2N.takes_of (X := cxOf (L2N.CX P w) P w K mg base n_Roll_is_put "Roll.is_put" (defScope s_Roll_is_put) f cdv A outer s H E) (E := E) rfl rfl rfl rfl
  exact (qss_one (qs_ret (qe_any rfl T.any_ (qo_lc (own := [("own", 2), ("operation", 3)]) rfl sc_Roll_is_put.nd (qi_e (qe_slice (qc_fld (i := 0) o_Roll.c (o_Roll.n "cells" (by decide))) (qp_some (qe_ix (qc_fld (i := 0) o_Roll.c (o_Roll.n "gone" (by decide))) (qe_var 1))) qp_none)) (blkOk_by (N := n_Roll_is_put) (sc := defScope s_Roll_is_put) (by decide +kernel)) (fun _ _ _ _ _ => (qg_tup rfl (qgs_cons (qg_name (i := 2) sc_Roll_is_put.nd) (qgs_cons (qg_name (i := 3) sc_Roll_is_put.nd) qgs_nil)))) (fun _ _ _ _ _ => qts_nil) (fun _ _ _ _ _ => (qe_eq hr.units (qe_var 2) (qe_var 1)))).qc)))
theorem sc_Roll_winner : FnScope n_Roll_winner ["self", "hand"] (defScope s_Roll_winner) := ⟨rfl, rfl, rfl, by decide +kernel, rfl, by decide +kernel, by decide +kernel⟩
theorem ok_Roll_winner  (o_Roll : ClsOk K (ClsA.A "Roll") ["table", "many", "cells", "asked", "gone", "here"]) (T : Bt mg) (k_Roll_is_put : MtQ P w K mg base (ClsA.A "Roll") "is_put" 1 c_Roll_is_put)       {f : Addr} {fd : FuncData} (me : Meth K (ClsA.A "Roll") "winner" f) (F : FunD K "winner" "Roll.winner" (defArgs s_Roll_winner) (defBody s_Roll_winner) (defScope s_Roll_winner) [] [] f fd) : MtQ P w K mg base (ClsA.A "Roll") "winner" 2 c_Roll_winner := by
  refine ⟨["self", "hand"], f, fd, o_Roll.c, me, F.bindsN (ps := ["self", "hand"]) fun _ _ _ _ _ _ us hl => match us, hl with | [_, _], _ => rfl, fn_okQ (db := d_Roll_winner) F sc_Roll_winner l_Roll_winner (fun B cdv A outer s H E hr => ?_) p_Roll_winner⟩
  have tk := L2N.takes_of (X := cxOf (L2N.CX P w) P w K mg base n_Roll_winner "Roll.winner" (defScope s_Roll_winner) f cdv A outer s H E) (E := E) rfl rfl rfl rfl
  exact (qss_cons (qs_set (i := 2) sc_Roll_winner.nd (qe_mod (qe_lenC T.len_ (qc_fld (i := 0) o_Roll.c (o_Roll.n "cells" (by decide)))) (qe_fld (i := 0) o_Roll.c (o_Roll.n "many" (by decide)))))
  (qss_one (qs_ret (qe_if (qw_and (qt_isNot (qe_ix (qc_fld (i := 0) o_Roll.c (o_Roll.n "asked" (by decide))) (qe_var 2)) qe_non) (qw_and1 (qt_not (qt_val (qe_mthQ (i := 0) k_Roll_is_put hr (by omega) tk rfl (qa_cons (qe_var 2) qa_nil)))))).qt (qe_var 2) (qe_var 1)))))
theorem sc_Roll_step : FnScope n_Roll_step ["self", "hand"] (defScope s_Roll_step) := ⟨rfl, rfl, rfl, by decide +kernel, rfl, by decide +kernel, by decide +kernel⟩
theorem ok_Roll_step  (o_Roll : ClsOk K (ClsA.A "Roll") ["table", "many", "cells", "asked", "gone", "here"]) (T : Bt mg) (k_Roll_look_hand : MtQ P w K mg base (ClsA.A "Roll") "look_hand" 3 c_Roll_look_hand) (k_Roll_winner : MtQ P w K mg base (ClsA.A "Roll") "winner" 2 c_Roll_winner)    (r_Idle : Rs P w K mg base "Idle" 2 1 (xfV "Idle" []))   {f : Addr} {fd : FuncData} (me : Meth K (ClsA.A "Roll") "step" f) (F : FunD K "step" "Roll.step" (defArgs s_Roll_step) (defBody s_Roll_step) (defScope s_Roll_step) [] [] f fd) : MtY P w K mg base (ClsA.A "Roll") "step" 4 c_Roll_step := by
  refine ⟨["self", "hand"], f, fd, o_Roll.c, me, F.bindsN (ps := ["self", "hand"]) fun _ _ _ _ _ _ us hl => match us, hl with | [_, _], _ => rfl, fn_okY (db := d_Roll_step) F sc_Roll_step l_Roll_step (fun cdv A outer s H E hr => ?_) p_Roll_step⟩
  have tk := L2N.takes_of (X := cxOf (L2N.CX P w) P w K mg base n_Roll_step "Roll.step" (defScope s_Roll_step) f cdv A outer s H E) (E := E) rfl rfl rfl rfl
  exact (qssy_cons (qsy_lift fun _ => (qs_expr (qe_mthQ (i := 0) k_Roll_look_hand hr (by omega) tk rfl (qa_cons (qe_var 1) qa_nil))))
  (qssy_cons (qsy_lift fun _ => (qs_if (qt_is (qe_ix (qc_fld (i := 0) o_Roll.c (o_Roll.n "asked" (by decide))) (qe_var 1)) qe_non)
  (qss_one (qs_raise r_Idle hr (by omega) tk rfl (xf_ok "Idle" [] 1) (by decide) (qa_cons qe_str qa_nil)))
  qss_nil))
  (qssy_cons (qsy_if (fun _ => (qt_eq hr.units (qe_ix (qc_fld (i := 0) o_Roll.c (o_Roll.n "gone" (by decide))) (qe_var 1)) (qe_lenC T.len_ (qc_fld (i := 0) o_Roll.c (o_Roll.n "cells" (by decide))))))
  (qssy_cons (qsy_lift fun _ => (qs_set (i := 2) sc_Roll_step.nd (qe_mthQ (i := 0) k_Roll_winner hr (by omega) tk rfl (qa_cons (qe_var 1) qa_nil))))
  (qssy_one (qsy_app o_Roll.c (o_Roll.n "cells" (by decide)) (pe_bm PySem.F.plainAttrs_list PySem.F.slot_list_append PySem.F.type_list_append mt_append (pe_fld (pv 0) rfl) (pa_cons (PE.all fun _ => (qe_tup (qa_cons (qe_var 2) (qa_cons (qe_ix (qc_fld (i := 0) o_Roll.c (o_Roll.n "asked" (by decide))) (qe_var 2)) qa_nil)))) pa_nil)))))
  qssy_nil)
  (qssy_cons (qsy_lift fun _ => (qs_asg (qe_ix (qc_fld (i := 0) o_Roll.c (o_Roll.n "cells" (by decide))) (qe_ix (qc_fld (i := 0) o_Roll.c (o_Roll.n "gone" (by decide))) (qe_var 1))) (qg_tup rfl (qgs_cons (qg_name (i := 2) sc_Roll_step.nd) (qgs_cons (qg_name (i := 3) sc_Roll_step.nd) qgs_nil)))))
  (qssy_cons (qsy_asg (qy_lift fun _ => (qe_ix (qe_ix (qc_fld (i := 0) o_Roll.c (o_Roll.n "table" (by decide))) (qe_var 3)).qc (qe_ix (qc_fld (i := 0) o_Roll.c (o_Roll.n "here" (by decide))) (qe_var 1)))) (qgy_tup rfl (qgsy_cons (qgy_name (i := 4) sc_Roll_step.nd) (qgsy_cons (qgy_fld o_Roll.c (o_Roll.n "here" (by decide)) (pg_sub (pe_fld (pv 0) rfl) (PE.all fun _ => (qe_var 1)) set_list)) qgsy_nil))))
  (qssy_cons (qsy_aug o_Roll.c (o_Roll.n "gone" (by decide)) (ps_augS (pe_fld (pv 0) rfl) (PE.all fun _ => (qe_var 1)) get_list (PE.all fun _ => qe_int) ip_add set_list))
  (qssy_cons (qsy_lift fun _ => (qs_if (qt_ne hr.units (qe_var 2) (qe_var 1))
  (qss_one (qs_ret qe_non))
  qss_nil))
  (qssy_cons (qsy_asg (qy_lift fun _ => qe_non) (qgy_fld o_Roll.c (o_Roll.n "asked" (by decide)) (pg_sub (pe_fld (pv 0) rfl) (PE.all fun _ => (qe_var 1)) set_list)))
  (qssy_one (qsy_lift fun _ => (qs_ret (qe_var 4))))))))))))
theorem sc__law_roll_do : FnScope n__law_roll_do ["_law_roll_here", "_law_deed"] (defScope s__law_roll_do) := ⟨rfl, rfl, rfl, by decide +kernel, rfl, by decide +kernel, by decide +kernel⟩
theorem ok__law_roll_do  (o_Roll : ClsOk K (ClsA.A "Roll") ["table", "many", "cells", "asked", "gone", "here"]) (T : Bt mg) (k_Roll_ask : MtY P w K mg base (ClsA.A "Roll") "ask" 4 c_Roll_ask) (k_Roll_step : MtY P w K mg base (ClsA.A "Roll") "step" 4 c_Roll_step)      (F : FnP K mg "_law_roll_do" s__law_roll_do) : ClY P w K mg base "_law_roll_do" 5 c__law_roll_do := by
  obtain ⟨f, fd, F, gm⟩ := F
  refine ⟨["_law_roll_here", "_law_deed"], f, fd, gm, F.kp, F.bindsN (ps := ["_law_roll_here", "_law_deed"]) fun _ _ _ _ _ _ us hl => match us, hl with | [_, _], _ => rfl, fn_okY (db := d__law_roll_do) F sc__law_roll_do l__law_roll_do (fun cdv A outer s H E hr => ?_) p__law_roll_do⟩
  have tk := L2N.takes_of (X := cxOf (L2N.CX P w) P w K mg base n__law_roll_do "_law_roll_do" (defScope s__law_roll_do) f cdv A outer s H E) (E := E) rfl rfl rfl rfl
  exact (qssy_one (qsy_ret (qy_ifE (fun _ => (qt_eq hr.units (qe_ix (qc_var 1) qe_int) qe_str)) (qy_mth (i := 0) k_Roll_ask hr (by omega) tk rfl (fun _ => (qa_cons (qe_ix (qc_var 1) qe_int) (qa_cons (qe_ix (qc_var 1) qe_int) qa_nil)))) (qy_mth (i := 0) k_Roll_step hr (by omega) tk rfl (fun _ => (qa_cons (qe_ix (qc_var 1) qe_int) qa_nil))))))
theorem sc_Roll_rows : FnScope n_Roll_rows ["self"] (defScope s_Roll_rows) := ⟨rfl, rfl, rfl, by decide +kernel, rfl, by decide +kernel, by decide +kernel⟩
theorem ok_Roll_rows  (o_Roll : ClsOk K (ClsA.A "Roll") ["table", "many", "cells", "asked", "gone", "here"]) (T : Bt mg)        {f : Addr} {fd : FuncData} (me : Meth K (ClsA.A "Roll") "rows" f) (F : FunD K "rows" "Roll.rows" (defArgs s_Roll_rows) (defBody s_Roll_rows) (defScope s_Roll_rows) [] [] f fd) : MtQ P w K mg base (ClsA.A "Roll") "rows" 1 c_Roll_rows := by
  refine ⟨["self"], f, fd, o_Roll.c, me, F.bindsN (ps := ["self"]) fun _ _ _ _ _ _ us hl => match us, hl with | [_], _ => rfl, fn_okQ (db := d_Roll_rows) F sc_Roll_rows l_Roll_rows (fun B cdv A outer s H E hr => ?_) p_Roll_rows⟩
  have tk := L2N.takes_of (X := cxOf (L2N.CX P w) P w K mg base n_Roll_rows "Roll.rows" (defScope s_Roll_rows) f cdv A outer s H E) (E := E) rfl rfl rfl rfl
  exact (qss_one (qs_retO (qo_list T.list_ (qc_fld (i := 0) o_Roll.c (o_Roll.n "cells" (by decide))))))
theorem sc_Roll_pending : FnScope n_Roll_pending ["self", "hand"] (defScope s_Roll_pending) := ⟨rfl, rfl, rfl, by decide +kernel, rfl, by decide +kernel, by decide +kernel⟩
theorem ok_Roll_pending  (o_Roll : ClsOk K (ClsA.A "Roll") ["table", "many", "cells", "asked", "gone", "here"]) (T : Bt mg) (k_Roll_look_hand : MtQ P w K mg base (ClsA.A "Roll") "look_hand" 3 c_Roll_look_hand)       {f : Addr} {fd : FuncData} (me : Meth K (ClsA.A "Roll") "pending" f) (F : FunD K "pending" "Roll.pending" (defArgs s_Roll_pending) (defBody s_Roll_pending) (defScope s_Roll_pending) [] [] f fd) : MtQ P w K mg base (ClsA.A "Roll") "pending" 4 c_Roll_pending := by
  refine ⟨["self", "hand"], f, fd, o_Roll.c, me, F.bindsN (ps := ["self", "hand"]) fun _ _ _ _ _ _ us hl => match us, hl with | [_, _], _ => rfl, fn_okQ (db := d_Roll_pending) F sc_Roll_pending l_Roll_pending (fun B cdv A outer s H E hr => ?_) p_Roll_pending⟩
  have tk := L2N.takes_of (X := cxOf (L2N.CX P w) P w K mg base n_Roll_pending "Roll.pending" (defScope s_Roll_pending) f cdv A outer s H E) (E := E) rfl rfl rfl rfl
  exact (qss_cons (qs_expr (qe_mthQ (i := 0) k_Roll_look_hand hr (by omega) tk rfl (qa_cons (qe_var 1) qa_nil)))
  (qss_one (qs_ret (qe_ix (qc_fld (i := 0) o_Roll.c (o_Roll.n "asked" (by decide))) (qe_var 1)))))
theorem sc_Roll_behind : FnScope n_Roll_behind ["self", "hand"] (defScope s_Roll_behind) := ⟨rfl, rfl, rfl, by decide +kernel, rfl, by decide +kernel, by decide +kernel⟩
theorem ok_Roll_behind  (o_Roll : ClsOk K (ClsA.A "Roll") ["table", "many", "cells", "asked", "gone", "here"]) (T : Bt mg) (k_Roll_look_hand : MtQ P w K mg base (ClsA.A "Roll") "look_hand" 3 c_Roll_look_hand)       {f : Addr} {fd : FuncData} (me : Meth K (ClsA.A "Roll") "behind" f) (F : FunD K "behind" "Roll.behind" (defArgs s_Roll_behind) (defBody s_Roll_behind) (defScope s_Roll_behind) [] [] f fd) : MtQ P w K mg base (ClsA.A "Roll") "behind" 4 c_Roll_behind := by
  refine ⟨["self", "hand"], f, fd, o_Roll.c, me, F.bindsN (ps := ["self", "hand"]) fun _ _ _ _ _ _ us hl => match us, hl with | [_, _], _ => rfl, fn_okQ (db := d_Roll_behind) F sc_Roll_behind l_Roll_behind (fun B cdv A outer s H E hr => ?_) p_Roll_behind⟩
  have tk := L2N.takes_of (X := cxOf (L2N.CX P w) P w K mg base n_Roll_behind "Roll.behind" (defScope s_Roll_behind) f cdv A outer s H E) (E := E) rfl rfl rfl rfl
  exact (qss_cons (qs_expr (qe_mthQ (i := 0) k_Roll_look_hand hr (by omega) tk rfl (qa_cons (qe_var 1) qa_nil)))
  (qss_one (qs_ret (qe_sub (qe_lenC T.len_ (qc_fld (i := 0) o_Roll.c (o_Roll.n "cells" (by decide)))) (qe_ix (qc_fld (i := 0) o_Roll.c (o_Roll.n "gone" (by decide))) (qe_var 1))))))
theorem sc_Roll_stand : FnScope n_Roll_stand ["self", "hand"] (defScope s_Roll_stand) := ⟨rfl, rfl, rfl, by decide +kernel, rfl, by decide +kernel, by decide +kernel⟩
theorem ok_Roll_stand  (o_Roll : ClsOk K (ClsA.A "Roll") ["table", "many", "cells", "asked", "gone", "here"]) (T : Bt mg) (k_Roll_look_hand : MtQ P w K mg base (ClsA.A "Roll") "look_hand" 3 c_Roll_look_hand)       {f : Addr} {fd : FuncData} (me : Meth K (ClsA.A "Roll") "stand" f) (F : FunD K "stand" "Roll.stand" (defArgs s_Roll_stand) (defBody s_Roll_stand) (defScope s_Roll_stand) [] [] f fd) : MtQ P w K mg base (ClsA.A "Roll") "stand" 4 c_Roll_stand := by
  refine ⟨["self", "hand"], f, fd, o_Roll.c, me, F.bindsN (ps := ["self", "hand"]) fun _ _ _ _ _ _ us hl => match us, hl with | [_, _], _ => rfl, fn_okQ (db := d_Roll_stand) F sc_Roll_stand l_Roll_stand (fun B cdv A outer s H E hr => ?_) p_Roll_stand⟩
  have tk := L2N.takes_of (X := cxOf (L2N.CX P w) P w K mg base n_Roll_stand "Roll.stand" (defScope s_Roll_stand) f cdv A outer s H E) (E := E) rfl rfl rfl rfl
  exact (qss_cons (qs_expr (qe_mthQ (i := 0) k_Roll_look_hand hr (by omega) tk rfl (qa_cons (qe_var 1) qa_nil)))
  (qss_one (qs_ret (qe_ix (qc_fld (i := 0) o_Roll.c (o_Roll.n "here" (by decide))) (qe_var 1)))))
theorem sc__law_roll_so : FnScope n__law_roll_so ["_law_roll_here", "_law_state"] (defScope s__law_roll_so) := ⟨rfl, rfl, rfl, by decide +kernel, rfl, by decide +kernel, by decide +kernel⟩
theorem ok__law_roll_so  (o_Roll : ClsOk K (ClsA.A "Roll") ["table", "many", "cells", "asked", "gone", "here"]) (T : Bt mg) (k_Roll_pending : MtQ P w K mg base (ClsA.A "Roll") "pending" 4 c_Roll_pending) (k_Roll___len__ : MtQ P w K mg base (ClsA.A "Roll") "__len__" 1 c_Roll___len__) (k_Roll_rows : MtQ P w K mg base (ClsA.A "Roll") "rows" 1 c_Roll_rows) (k_Roll_stand : MtQ P w K mg base (ClsA.A "Roll") "stand" 4 c_Roll_stand) (k_Roll_behind : MtQ P w K mg base (ClsA.A "Roll") "behind" 4 c_Roll_behind) (k__law_same : Cl P w K mg base "_law_same" 9 c__law_same)      (F : FnP K mg "_law_roll_so" s__law_roll_so) : ClQ P w K mg base "_law_roll_so" 10 c__law_roll_so := by
  obtain ⟨f, fd, F, gm⟩ := F
  refine ⟨["_law_roll_here", "_law_state"], f, fd, gm, F.kp, F.bindsN (ps := ["_law_roll_here", "_law_state"]) fun _ _ _ _ _ _ us hl => match us, hl with | [_, _], _ => rfl, fn_okQ (db := d__law_roll_so) F sc__law_roll_so l__law_roll_so (fun B cdv A outer s H E hr => ?_) p__law_roll_so⟩
  have tk := L2N.takes_of (X := cxOf (L2N.CX P w) P w K mg base n__law_roll_so "_law_roll_so" (defScope s__law_roll_so) f cdv A outer s H E) (E := E) rfl rfl rfl rfl
  exact (qss_cons (qs_set (i := 2) sc__law_roll_so.nd (qe_len T.len_ (qe_dget (hu1 hr) (qd_var 1) qe_str)))
  (qss_cons (qs_set (i := 3) sc__law_roll_so.nd (qo_lst (qa_cons (qe_mthQ0 (i := 0) k_Roll_rows hr (by omega) tk rfl) (qa_cons (qe_lenO (i := 0) T.len_ k_Roll___len__ hr (by omega) tk rfl) (qa_cons (qo_lc (own := [("_law_hand", 5)]) rfl sc__law_roll_so.nd (qi_range1 T.range_ (qe_var 2)) (blkOk_by (N := n__law_roll_so) (sc := defScope s__law_roll_so) (by decide +kernel)) (fun _ _ _ _ _ => (qg_name (i := 5) sc__law_roll_so.nd)) (fun _ _ _ _ _ => qts_nil) (fun _ _ _ _ _ => (qe_mthQ (i := 0) k_Roll_pending hr (by omega) takesN rfl (qa_cons (qe_var 5) qa_nil)))).qe qa_nil)))).qe)
  (qss_cons (qs_set (i := 3) sc__law_roll_so.nd (qe_add (qe_var 3) (qo_lst (qa_cons (qo_lc (own := [("_law_hand", 5)]) rfl sc__law_roll_so.nd (qi_range1 T.range_ (qe_var 2)) (blkOk_by (N := n__law_roll_so) (sc := defScope s__law_roll_so) (by decide +kernel)) (fun _ _ _ _ _ => (qg_name (i := 5) sc__law_roll_so.nd)) (fun _ _ _ _ _ => qts_nil) (fun _ _ _ _ _ => (qe_mthQ (i := 0) k_Roll_behind hr (by omega) takesN rfl (qa_cons (qe_var 5) qa_nil)))).qe (qa_cons (qo_lc (own := [("_law_hand", 5)]) rfl sc__law_roll_so.nd (qi_range1 T.range_ (qe_var 2)) (blkOk_by (N := n__law_roll_so) (sc := defScope s__law_roll_so) (by decide +kernel)) (fun _ _ _ _ _ => (qg_name (i := 5) sc__law_roll_so.nd)) (fun _ _ _ _ _ => qts_nil) (fun _ _ _ _ _ => (qe_mthQ (i := 0) k_Roll_stand hr (by omega) takesN rfl (qa_cons (qe_var 5) qa_nil)))).qe qa_nil))).qe))
  (qss_cons (qs_set (i := 4) sc__law_roll_so.nd (qo_lst (qa_cons (qe_dget (hu1 hr) (qd_var 1) qe_str) (qa_cons (qe_len T.len_ (qe_dget (hu1 hr) (qd_var 1) qe_str)) (qa_cons (qe_dget (hu1 hr) (qd_var 1) qe_str) qa_nil)))).qe)
  (qss_one (qs_ret (qe_cl k__law_same hr (by omega) tk rfl (qa_cons (qe_var 3) (qa_cons (qe_add (qe_var 4) (qo_lst (qa_cons (qo_lc (own := [("_law_spot", 6)]) rfl sc__law_roll_so.nd (qi_e (qe_dget (hu1 hr) (qd_var 1) qe_str)) (blkOk_by (N := n__law_roll_so) (sc := defScope s__law_roll_so) (by decide +kernel)) (fun _ _ _ _ _ => (qg_name (i := 6) sc__law_roll_so.nd)) (fun _ _ _ _ _ => qts_nil) (fun _ _ _ _ _ => (qe_sub (qe_len T.len_ (qe_dget (hu1 hr) (qd_var 1) qe_str)) (qe_var 6)))).qe (qa_cons (qe_dget (hu1 hr) (qd_var 1) qe_str) qa_nil))).qe) qa_nil)))))))))
theorem sc_law : FnScope n_law ["_law_script"] (defScope s_law) := ⟨rfl, rfl, rfl, by decide +kernel, rfl, by decide +kernel, by decide +kernel⟩
def lamQ : Str := (PyProof.Rows.envOfC "law" (defScope s_law) 0 0 .none).qual ++ "<lambda>"
theorem fin_law  (o_Roll : ClsOk K (ClsA.A "Roll") ["table", "many", "cells", "asked", "gone", "here"]) (T : Bt mg) (k__law_numbers : Cl P w K mg base "_law_numbers" 1 c__law_numbers) (k__law_table : Cl P w K mg base "_law_table" 2 c__law_table) (k_Roll : ClM P w K mg base (ClsA.A "Roll") "Roll" 5 c_Roll 2 "start" (.int 0)) (k__law_roll_state : Cl P w K mg base "_law_roll_state" 1 c__law_roll_state) (k__law_roll_deed : Cl P w K mg base "_law_roll_deed" 1 c__law_roll_deed) (k__law_roll_word : Cl P w K mg base "_law_roll_word" 1 c__law_roll_word) (k__law_roll_after : Cl P w K mg base "_law_roll_after" 1 c__law_roll_after) (k__law_same : Cl P w K mg base "_law_same" 9 c__law_same) (k__law_roll_do : ClY P w K mg base "_law_roll_do" 5 c__law_roll_do) (k_Roll_rows : MtQ P w K mg base (ClsA.A "Roll") "rows" 1 c_Roll_rows) (k__law_roll_so : ClQ P w K mg base "_law_roll_so" 10 c__law_roll_so)       {f : Addr} {fd : FuncData} (tr : TrK P w K mg base xn_law) (tc : ∃ c Pt, fd.code = .ref c ∧ LamX.TabB base mg c Pt ∧ (Pt, lamQ) ∈ TabC.T ∧ ∀ p ∈ TabC.T, p.1 = Pt → p.2 = lamQ) (F : FunD K "law" "law" (defArgs s_law) (defBody s_law) (defScope s_law) [] [] f fd) : LamX.FnOkG P w K mg base (L2N.CX P w) 11 f fd ["_law_script"] (PSp K mg c_law) := by
  refine fn_okPCG (db := d_law) F sc_law l_law (fun A outer s H E hgd hr => ?_) p_law
  have hgx : (cxOf (L2N.CX P w) P w K mg base n_law "law" (defScope s_law) f fd.code A outer s H E).A.guards = some [] := hgd
  have tk := L2N.takes_of (X := cxOf (L2N.CX P w) P w K mg base n_law "law" (defScope s_law) f fd.code A outer s H E) (E := E) rfl rfl rfl rfl
  have tx : TabX (cxOf (L2N.CX P w) P w K mg base n_law "law" (defScope s_law) f fd.code A outer s H E) := by
    obtain ⟨c, Pt, h1, h2, h3, h4⟩ := tc
    exact ⟨⟨c, Pt, h2, h1, h3, h4⟩⟩
  exact (qssy_cons (qsy_lift fun _ => (qs_set (i := 1) sc_law.nd (qe_cl k__law_numbers hr (by omega) tk rfl (qa_cons (qe_var 0) (qa_cons qe_int qa_nil)))))
  (qssy_cons (qsy_lift fun _ => (qs_set (i := 2) sc_law.nd (qe_cl k__law_table hr (by omega) tk rfl (qa_cons (qe_var 1) (qa_cons qe_int (qa_cons qe_int qa_nil))))))
  (qssy_cons (qsy_lift fun _ => (qs_set (i := 3) sc_law.nd (qe_add qe_int (qe_mod (qe_ix (qc_var 1) qe_int) qe_int))))
  (qssy_cons (qsy_lift fun _ => (qs_set (i := 4) sc_law.nd (qe_mod (qe_ix (qc_var 1) qe_int) (qe_len T.len_ (qe_ix (qc_var 2) qe_int)))))
  (qssy_cons (qsy_mk (i := 5) k_Roll sc_law.nd hr (by omega) tk rfl (fun _ => (qa_cons (qe_var 2) (qa_cons (qe_var 3) qa_nil))) (fun _ => (qe_var 4)))
  (qssy_cons (qsy_if (fun _ => (qt_eq hr.units (qe_mod (qe_ix (qc_var 1) qe_int) qe_int) qe_int))
  (qssy_cons (qsy_lift fun _ => (qs_set (i := 4) sc_law.nd qe_int))
  (qssy_one (qsy_mkD (i := 5) k_Roll sc_law.nd hr (by omega) tk rfl (fun _ => (qa_cons (qe_var 2) (qa_cons (qe_var 3) qa_nil))))))
  qssy_nil)
  (qssy_cons (qsy_mk (i := 6) k_Roll sc_law.nd hr (by omega) tk rfl (fun _ => (qa_cons (qe_var 2) (qa_cons (qe_var 3) qa_nil))) (fun _ => (qe_var 4)))
  (qssy_cons (qsy_lift fun _ => (qs_parO (i := 7) (j := 8) sc_law.nd (qe_cl k__law_roll_state hr (by omega) tk rfl (qa_cons (qe_var 3) (qa_cons (qe_var 4) qa_nil))) (qo_lst qa_nil) (pa_cons (qe_cl k__law_roll_state hr (by omega) tk rfl (qa_cons (qe_var 3) (qa_cons (qe_var 4) qa_nil))) (pa_cons (qo_lst qa_nil) pa_nil))))
  (qssy_cons (qsy_for (L2.passes_of rfl) rfl (fun _ => (qi_range1 T.range_ (qe_mod (qe_ix (qc_var 1) qe_int) qe_int))) (fun _ => (qg_name (i := 9) sc_law.nd))
  (qssy_cons (qsy_lift fun _ => (qs_set (i := 10) sc_law.nd (qe_cl k__law_roll_deed hr (by omega) tk rfl (qa_cons (qe_slice (qc_var 1) (qp_some (qe_add qe_int (qe_mul qe_int (qe_var 9)))) (qp_some (qe_add qe_int (qe_mul qe_int (qe_var 9))))) (qa_cons (qe_var 2) (qa_cons (qe_var 3) qa_nil))))))
  (qssy_cons (qsy_lift fun _ => (qs_set (i := 11) sc_law.nd (qe_cl k__law_roll_word hr (by omega) tk rfl (qa_cons (qe_var 2) (qa_cons (qe_var 7) (qa_cons (qe_var 10) qa_nil))))))
  (qssy_cons (qsy_lift fun _ => (qs_set (i := 12) sc_law.nd qe_non))
  (qssy_cons (qsy_lift fun _ => (qs_if (qt_eq hr.units (qe_var 11) qe_str)
  (qss_one (qs_asg (qe_cl k__law_roll_after hr (by omega) tk rfl (qa_cons (qe_var 2) (qa_cons (qe_var 7) (qa_cons (qe_var 10) qa_nil)))) (qg_tup rfl (qgs_cons (qg_name (i := 7) sc_law.nd) (qgs_cons (qg_name (i := 12) sc_law.nd) qgs_nil)))))
  qss_nil))
  (qssy_cons (qsy_ifT (qty_not (qty_val (qy_callA k__law_same hr (by omega) tk rfl (qay_cons (qy_tr (k := 6) tr tx hr hgx (by omega) (fun A outer s H E f c' hr => (qy_cl (i := 5) k__law_roll_do hr (by omega) takes_lam rfl (fun _ => (qa_cons (qe_var 10) qa_nil)))) (L := LamX.lamS_by (sc := defScope s_law) (by decide +kernel))) (qay_cons (qy_lift fun _ => (qe_tup (qa_cons (qe_var 12) (qa_cons (qe_var 11) qa_nil)))) qay_nil)))))
  (qssy_one (qsy_lift fun _ => (qs_ret qe_bl)))
  qssy_nil)
  (qssy_cons (qsy_lift fun _ => (qs_clearO (pe_bm0 PySem.F.plainAttrs_list PySem.F.slot_list_clear PySem.F.type_list_clear mt_clear (qo_mthQ0 (i := 5) k_Roll_rows hr (by omega) tk rfl))))
  (qssy_cons (qsy_lift fun _ => (qs_app (i := 8) (qe_tup (qa_cons (qe_mthQ0 (i := 5) k_Roll_rows hr (by omega) tk rfl) (qa_cons (qo_list T.list_ (qe_dget (hu1 hr) (qd_var 7) qe_str).qc).qe qa_nil))) (hp := pe_bm PySem.F.plainAttrs_list PySem.F.slot_list_append PySem.F.type_list_append mt_append (pv 8) (pa_cons (qe_tup (qa_cons (qe_mthQ0 (i := 5) k_Roll_rows hr (by omega) tk rfl) (qa_cons (qo_list T.list_ (qe_dget (hu1 hr) (qd_var 7) qe_str).qc).qe qa_nil))) pa_nil))))
  (qssy_one (qsy_lift fun _ => (qs_if (qt_not (qt_val (qe_clQ (i := 5) k__law_roll_so hr (by omega) tk rfl (qa_cons (qe_var 7) qa_nil))))
  (qss_one (qs_ret qe_bl))
  qss_nil)))))))))))
  (qssy_cons (qsy_lift fun _ => (qs_set (i := 13) sc_law.nd (qe_ix (qo_lst (qa_cons (qe_len T.len_ (qe_ix (qc_var 2) qe_int)) (qa_cons (qe_neg qe_int) qa_nil))).qc (qe_mod (qe_ix (qc_var 1) qe_int) qe_int))))
  (qssy_cons (qsy_lift fun _ => (qs_set (i := 14) sc_law.nd (qo_lst (qa_cons (qe_ix (qe_tr (k := 6) tr tx hr hgx (by omega) (fun A outer s H E f c' hr => (qe_mkRV k_Roll hr (by omega) takes_lam rfl (qa_cons (qe_tup qa_nil) (qa_cons qe_int qa_nil)) qe_int)) (L := LamX.lamS_by (sc := defScope s_law) (by decide +kernel))).qc qe_int) (qa_cons (qe_ix (qe_trP (pr := "_law_k") (k := 6) tr tx hr hgx (by omega) (fun A outer s H E f c' hr => (qe_mkRV k_Roll hr (by omega) takes_lamP rfl (qa_cons (qe_var 2) (qa_cons qe_int qa_nil)) (qe_var 13))) (lamP_by (sc := defScope s_law) (by decide +kernel)) rfl (fun _ _ _ _ _ _ _ _ h => BindsTo.of_defaults rfl h rfl rfl rfl) rfl).qc qe_int) qa_nil))).qe))
  (qssy_cons (qsy_lift fun _ => (qs_set (i := 14) sc_law.nd (qe_add (qe_var 14) (QO.qe (qo_lc (own := [("_law_one", 15)]) rfl sc_law.nd (qi_e (qo_lst (qa_cons qe_int (qa_cons qe_int (qa_cons qe_int (qa_cons (qe_neg qe_int) qa_nil))))).qe) (blkOk_by (N := n_law) (sc := defScope s_law) (by decide +kernel)) (fun _ _ _ _ _ => (qg_name (i := 15) sc_law.nd)) (fun _ _ _ _ _ => qts_nil) (fun _ _ _ _ _ => (qe_ix (QE.qc (qe_tr (k := 6) tr (by exact ⟨tx.ex⟩) hr (by exact hgx) (by omega) (fun A outer s H E f c' hr => (qe_mkRD k_Roll hr (by omega) takes_lam rfl (qa_cons (qe_var 2) (qa_cons (qe_var 15) qa_nil)))) (L := by exact LamX.lamS_by (by rfl)))) qe_int)))))))
  (qssy_cons (qsy_lift fun _ => (qs_if (qt_ne hr.units (qe_var 14) (qe_add (qo_lst (qa_cons qe_str (qa_cons qe_str qa_nil))).qe (qe_mul (qo_lst (qa_cons qe_str qa_nil)).qe qe_int)))
  (qss_one (qs_ret qe_bl))
  qss_nil))
  (qssy_freeze 8 (qssy_cons (qsy_lift fun _ => (qs_if (qt_not (qt_val (qe_all rfl T.all_ (qo_lc (own := [("_law_shown", 16), ("_law_due", 17)]) rfl sc_law.nd (qi_e (qe_var 8)) (blkOk_by (N := n_law) (sc := defScope s_law) (by decide +kernel)) (fun _ _ _ _ _ => (qg_tup rfl (qgs_cons (qg_name (i := 16) sc_law.nd) (qgs_cons (qg_name (i := 17) sc_law.nd) qgs_nil)))) (fun _ _ _ _ _ => qts_nil) (fun _ _ _ _ _ => (qe_cl k__law_same hr (by omega) takesN rfl (qa_cons (qe_var 16) (qa_cons (qe_var 17) qa_nil))))).qc)))
  (qss_one (qs_ret qe_bl))
  qss_nil))
  (qssy_one (qsy_lift fun _ => (qs_ret (qe_clQ (i := 6) k__law_roll_so hr (by omega) tk rfl (qa_cons (qe_cl k__law_roll_state hr (by omega) tk rfl (qa_cons (qe_var 3) (qa_cons (qe_var 4) qa_nil))) qa_nil))))))))))))))))))))
end
section
theorem ob_eq (s : PySem.W.SharedT) : ob s = hk.obs s.abs := obsA_eq s
theorem facts {P : Program} {w : World} {K : PySem.W.Frag} {h : Heap} {mg : Str → Option Value} {f : Addr} (X : K.In h) (G : h.Ns mainGlobals mg) (hfa : mg ("law" : Str) = some (.ref f)) (c : He.SaysX fa fn ([] : List He.Tab) [("law", none)] exB w h K) (hT : TabC.T = [((He.cT K ("law", none)).2, lamQ)]) :
    ∃ fd : FuncData, (∀ (s : Shared) (v : Value), BindsTo s fd ⟨[v], []⟩ [("_law_script", v)]) ∧ ∀ base : Heap, K.In base → base.Ns mainGlobals mg → LamX.TabB base mg (He.cT K ("law", none)).1 (He.cT K ("law", none)).2 → LamX.FnOkG P w K mg base CX0 11 f fd ["_law_script"] (spL K mg c_law) := by
  letI : ClsA := ⟨fun x => He.ga K x⟩
  have d := c.t.d
  have more := c.more
  have T : Bt mg := ⟨He.free_ok X G (d.fact 61 (f := .free "len") rfl), He.free_ok X G (d.fact 62 (f := .free "range") rfl), He.free_ok X G (d.fact 63 (f := .free "tuple") rfl), He.free_ok X G (d.fact 64 (f := .free "list") rfl), He.free_ok X G (d.fact 65 (f := .free "all") rfl), He.free_ok X G (d.fact 66 (f := .free "any") rfl), He.free_ok X G (d.fact 67 (f := .free "isinstance") rfl), He.free_ok X G (d.fact 68 (f := .free "int") rfl), He.free_ok X G (d.fact 69 (f := .free "bool") rfl), He.free_ok X G (d.fact 70 (f := .free "str") rfl), He.free_ok X G (d.fact 71 (f := .free "sorted") rfl), He.free_ok X G (d.fact 72 (f := .free "enumerate") rfl), He.free_ok X G (d.fact 73 (f := .free "zip") rfl), He.free_ok X G (d.fact 74 (f := .free "max") rfl), He.free_ok X G (d.fact 75 (f := .free "min") rfl), He.free_ok X G (d.fact 76 (f := .free "set") rfl), He.free_ok X G (d.fact 77 (f := .free "dict") rfl), He.free_ok X G (d.fact 78 (f := .free "sum") rfl), He.free_ok X G (d.fact 79 (f := .free "repr") rfl)⟩
  have o_Roll : ClsOk K (ClsA.A "Roll") ["table", "many", "cells", "asked", "gone", "here"] := ⟨He.cls_ok (d.fact 30 (f := .cls "Roll") rfl), fun f hf => by
    simp only [List.mem_cons, List.not_mem_nil, or_false] at hf
    rcases hf with rfl | rfl | rfl | rfl | rfl | rfl
    · exact He.noat_ok (d.fact 31 (f := .noat "Roll" "table") rfl)
    · exact He.noat_ok (d.fact 32 (f := .noat "Roll" "many") rfl)
    · exact He.noat_ok (d.fact 33 (f := .noat "Roll" "cells") rfl)
    · exact He.noat_ok (d.fact 34 (f := .noat "Roll" "asked") rfl)
    · exact He.noat_ok (d.fact 35 (f := .noat "Roll" "gone") rfl)
    · exact He.noat_ok (d.fact 36 (f := .noat "Roll" "here") rfl)⟩
  have F_is_whole : FnP K mg "is_whole" s_is_whole := by
    obtain ⟨fd, F⟩ := d.def_ 0 (d := dd0) rfl
    exact ⟨_, fd, F, He.glo_ok X G (d.fact 0 (f := .glo "is_whole") rfl)⟩
  have F_is_operation : FnP K mg "is_operation" s_is_operation := by
    obtain ⟨fd, F⟩ := d.def_ 1 (d := dd1) rfl
    exact ⟨_, fd, F, He.glo_ok X G (d.fact 1 (f := .glo "is_operation") rfl)⟩
  have F_look_table : FnP K mg "look_table" s_look_table := by
    obtain ⟨fd, F⟩ := d.def_ 2 (d := dd2) rfl
    exact ⟨_, fd, F, He.glo_ok X G (d.fact 2 (f := .glo "look_table") rfl)⟩
  have F_look_stand : FnP K mg "look_stand" s_look_stand := by
    obtain ⟨fd, F⟩ := d.def_ 3 (d := dd3) rfl
    exact ⟨_, fd, F, He.glo_ok X G (d.fact 3 (f := .glo "look_stand") rfl)⟩
  have F_look_operation : FnP K mg "look_operation" s_look_operation := by
    obtain ⟨fd, F⟩ := d.def_ 4 (d := dd4) rfl
    exact ⟨_, fd, F, He.glo_ok X G (d.fact 4 (f := .glo "look_operation") rfl)⟩
  have F_look_many : FnP K mg "look_many" s_look_many := by
    obtain ⟨fd, F⟩ := d.def_ 5 (d := dd5) rfl
    exact ⟨_, fd, F, He.glo_ok X G (d.fact 5 (f := .glo "look_many") rfl)⟩
  have F__law_numbers : FnP K mg "_law_numbers" s__law_numbers := by
    obtain ⟨fd, F⟩ := d.def_ 6 (d := dd6) rfl
    exact ⟨_, fd, F, He.glo_ok X G (d.fact 6 (f := .glo "_law_numbers") rfl)⟩
  have F__law_known : FnP K mg "_law_known" s__law_known := by
    obtain ⟨fd, F⟩ := d.def_ 7 (d := dd7) rfl
    exact ⟨_, fd, F, He.glo_ok X G (d.fact 7 (f := .glo "_law_known") rfl)⟩
  have F__law_rows : FnP K mg "_law_rows" s__law_rows := by
    obtain ⟨fd, F⟩ := d.def_ 8 (d := dd8) rfl
    exact ⟨_, fd, F, He.glo_ok X G (d.fact 8 (f := .glo "_law_rows") rfl)⟩
  have F__law_table : FnP K mg "_law_table" s__law_table := by
    obtain ⟨fd, F⟩ := d.def_ 9 (d := dd9) rfl
    exact ⟨_, fd, F, He.glo_ok X G (d.fact 9 (f := .glo "_law_table") rfl)⟩
  have F__law_roll_state : FnP K mg "_law_roll_state" s__law_roll_state := by
    obtain ⟨fd, F⟩ := d.def_ 10 (d := dd10) rfl
    exact ⟨_, fd, F, He.glo_ok X G (d.fact 10 (f := .glo "_law_roll_state") rfl)⟩
  have F__law_roll_deed : FnP K mg "_law_roll_deed" s__law_roll_deed := by
    obtain ⟨fd, F⟩ := d.def_ 11 (d := dd11) rfl
    exact ⟨_, fd, F, He.glo_ok X G (d.fact 11 (f := .glo "_law_roll_deed") rfl)⟩
  have F__law_roll_word : FnP K mg "_law_roll_word" s__law_roll_word := by
    obtain ⟨fd, F⟩ := d.def_ 12 (d := dd12) rfl
    exact ⟨_, fd, F, He.glo_ok X G (d.fact 12 (f := .glo "_law_roll_word") rfl)⟩
  have F__law_roll_after : FnP K mg "_law_roll_after" s__law_roll_after := by
    obtain ⟨fd, F⟩ := d.def_ 13 (d := dd13) rfl
    exact ⟨_, fd, F, He.glo_ok X G (d.fact 13 (f := .glo "_law_roll_after") rfl)⟩
  have F__law_same : FnP K mg "_law_same" s__law_same := by
    obtain ⟨fd, F⟩ := d.def_ 14 (d := dd14) rfl
    exact ⟨_, fd, F, He.glo_ok X G (d.fact 14 (f := .glo "_law_same") rfl)⟩
  obtain ⟨fd_Roll, F_Roll⟩ := d.def_ 15 (d := dd15) rfl
  have M_Roll := He.mkr_ok (d.fact 19 (f := .mkr "Roll") rfl)
  have gm_Roll := He.glo_ok X G (d.fact 15 (f := .glo "Roll") rfl)
  obtain ⟨fd_Roll___len__, F_Roll___len__⟩ := d.def_ 16 (d := dd16) rfl
  have me_Roll___len__ := He.meth_ok (d.fact 20 (f := .meth "Roll" "__len__") rfl)
  obtain ⟨fd_Roll_look_hand, F_Roll_look_hand⟩ := d.def_ 17 (d := dd17) rfl
  have me_Roll_look_hand := He.meth_ok (d.fact 21 (f := .meth "Roll" "look_hand") rfl)
  obtain ⟨fd_Roll_ask, F_Roll_ask⟩ := d.def_ 18 (d := dd18) rfl
  have me_Roll_ask := He.meth_ok (d.fact 22 (f := .meth "Roll" "ask") rfl)
  obtain ⟨fd_Roll_is_put, F_Roll_is_put⟩ := d.def_ 19 (d := dd19) rfl
  have me_Roll_is_put := He.meth_ok (d.fact 23 (f := .meth "Roll" "is_put") rfl)
  obtain ⟨fd_Roll_winner, F_Roll_winner⟩ := d.def_ 20 (d := dd20) rfl
  have me_Roll_winner := He.meth_ok (d.fact 24 (f := .meth "Roll" "winner") rfl)
  obtain ⟨fd_Roll_step, F_Roll_step⟩ := d.def_ 21 (d := dd21) rfl
  have me_Roll_step := He.meth_ok (d.fact 25 (f := .meth "Roll" "step") rfl)
  have F__law_roll_do : FnP K mg "_law_roll_do" s__law_roll_do := by
    obtain ⟨fd, F⟩ := d.def_ 22 (d := dd22) rfl
    exact ⟨_, fd, F, He.glo_ok X G (d.fact 16 (f := .glo "_law_roll_do") rfl)⟩
  obtain ⟨fd_Roll_rows, F_Roll_rows⟩ := d.def_ 23 (d := dd23) rfl
  have me_Roll_rows := He.meth_ok (d.fact 26 (f := .meth "Roll" "rows") rfl)
  obtain ⟨fd_Roll_pending, F_Roll_pending⟩ := d.def_ 24 (d := dd24) rfl
  have me_Roll_pending := He.meth_ok (d.fact 27 (f := .meth "Roll" "pending") rfl)
  obtain ⟨fd_Roll_behind, F_Roll_behind⟩ := d.def_ 25 (d := dd25) rfl
  have me_Roll_behind := He.meth_ok (d.fact 28 (f := .meth "Roll" "behind") rfl)
  obtain ⟨fd_Roll_stand, F_Roll_stand⟩ := d.def_ 26 (d := dd26) rfl
  have me_Roll_stand := He.meth_ok (d.fact 29 (f := .meth "Roll" "stand") rfl)
  have F__law_roll_so : FnP K mg "_law_roll_so" s__law_roll_so := by
    obtain ⟨fd, F⟩ := d.def_ 27 (d := dd27) rfl
    exact ⟨_, fd, F, He.glo_ok X G (d.fact 17 (f := .glo "_law_roll_so") rfl)⟩
  have c_MOST_HANDS : GI mg "MOST_HANDS" 4 := He.int_ok X G (d.fact 80 (f := .int "MOST_HANDS" 4) rfl)
  have c_MOST_OPERATIONS : GI mg "MOST_OPERATIONS" 4 := He.int_ok X G (d.fact 81 (f := .int "MOST_OPERATIONS" 4) rfl)
  have c_MOST_STANDS : GI mg "MOST_STANDS" 5 := He.int_ok X G (d.fact 82 (f := .int "MOST_STANDS" 5) rfl)
  simp only [exB, Bool.and_eq_true] at more
  obtain ⟨⟨⟨⟨⟨⟨⟨x_NoHand, x_Idle⟩, x_Busy⟩, x_NoOperation⟩, x_BadMany⟩, x_NoStand⟩, x_BadTable⟩, htr⟩ := more
  have m_NoHand := He.glo_ok X G (d.fact 37 (f := .glo "NoHand") rfl)
  have m_Idle := He.glo_ok X G (d.fact 38 (f := .glo "Idle") rfl)
  have m_Busy := He.glo_ok X G (d.fact 39 (f := .glo "Busy") rfl)
  have m_NoOperation := He.glo_ok X G (d.fact 40 (f := .glo "NoOperation") rfl)
  have m_BadMany := He.glo_ok X G (d.fact 41 (f := .glo "BadMany") rfl)
  have m_NoStand := He.glo_ok X G (d.fact 42 (f := .glo "NoStand") rfl)
  have m_BadTable := He.glo_ok X G (d.fact 43 (f := .glo "BadTable") rfl)
  obtain ⟨fx_NoHand, Fx_NoHand⟩ := d.def_ 31 (d := dd31) rfl
  obtain ⟨fx_Idle, Fx_Idle⟩ := d.def_ 32 (d := dd32) rfl
  obtain ⟨fx_Busy, Fx_Busy⟩ := d.def_ 33 (d := dd33) rfl
  obtain ⟨fx_NoOperation, Fx_NoOperation⟩ := d.def_ 34 (d := dd34) rfl
  obtain ⟨fx_BadMany, Fx_BadMany⟩ := d.def_ 35 (d := dd35) rfl
  obtain ⟨fx_NoStand, Fx_NoStand⟩ := d.def_ 36 (d := dd36) rfl
  obtain ⟨fx_BadTable, Fx_BadTable⟩ := d.def_ 37 (d := dd37) rfl
  obtain ⟨fd, F⟩ := d.def_ 28 (d := dd28) rfl
  have e := hfa.symm.trans (He.glo_ok X G (d.fact 18 (f := .glo "law") rfl))
  cases e
  have b := FunD.bindsA (ps := ["_law_script"]) F fun _ _ _ _ _ _ us hl => match us, hl with | [_], _ => rfl
  refine ⟨fd, fun s v => b s [v] rfl, fun base _ _ TB0 => fn_cx0G ?_⟩
  have r_NoHand : Rs P w K mg base "NoHand" 2 1 (xfV "NoHand" []) := rs_NoHand (xcB_ok x_NoHand) Fx_NoHand m_NoHand
  have r_Idle : Rs P w K mg base "Idle" 2 1 (xfV "Idle" []) := rs_Idle (xcB_ok x_Idle) Fx_Idle m_Idle
  have r_Busy : Rs P w K mg base "Busy" 2 1 (xfV "Busy" []) := rs_Busy (xcB_ok x_Busy) Fx_Busy m_Busy
  have r_NoOperation : Rs P w K mg base "NoOperation" 2 1 (xfV "NoOperation" []) := rs_NoOperation (xcB_ok x_NoOperation) Fx_NoOperation m_NoOperation
  have r_BadMany : Rs P w K mg base "BadMany" 2 1 (xfV "BadMany" []) := rs_BadMany (xcB_ok x_BadMany) Fx_BadMany m_BadMany
  have r_NoStand : Rs P w K mg base "NoStand" 2 1 (xfV "NoStand" []) := rs_NoStand (xcB_ok x_NoStand) Fx_NoStand m_NoStand
  have r_BadTable : Rs P w K mg base "BadTable" 2 1 (xfV "BadTable" ["at"]) := rs_BadTable (xcB_ok x_BadTable) Fx_BadTable m_BadTable
  obtain ⟨fd__law_called, F__law_called⟩ := d.def_ 29 (d := dd29) rfl
  have g__law_called := He.glo_ok X G (d.fact 60 (f := .glo "_law_called") rfl)
  obtain ⟨fd__law_tried, F__law_tried⟩ := d.def_ 30 (d := dd30) rfl
  have g__law_tried := He.glo_ok X G (d.fact 59 (f := .glo "_law_tried") rfl)
  have g_BadTable := He.glo_ok X G (d.fact 43 (f := .glo "BadTable") rfl)
  have g_BadText := He.glo_ok X G (d.fact 44 (f := .glo "BadText") rfl)
  have g_BadChoice := He.glo_ok X G (d.fact 45 (f := .glo "BadChoice") rfl)
  have g_BadOrder := He.glo_ok X G (d.fact 46 (f := .glo "BadOrder") rfl)
  have g_BadMany := He.glo_ok X G (d.fact 41 (f := .glo "BadMany") rfl)
  have g_BadScheme := He.glo_ok X G (d.fact 47 (f := .glo "BadScheme") rfl)
  have g_BadWishes := He.glo_ok X G (d.fact 48 (f := .glo "BadWishes") rfl)
  have g_BadTurn := He.glo_ok X G (d.fact 49 (f := .glo "BadTurn") rfl)
  have g_Full := He.glo_ok X G (d.fact 50 (f := .glo "Full") rfl)
  have g_TooWide := He.glo_ok X G (d.fact 51 (f := .glo "TooWide") rfl)
  have g_NoScheme := He.glo_ok X G (d.fact 52 (f := .glo "NoScheme") rfl)
  have g_Ended := He.glo_ok X G (d.fact 53 (f := .glo "Ended") rfl)
  have g_Still := He.glo_ok X G (d.fact 54 (f := .glo "Still") rfl)
  have g_Busy := He.glo_ok X G (d.fact 39 (f := .glo "Busy") rfl)
  have g_Idle := He.glo_ok X G (d.fact 38 (f := .glo "Idle") rfl)
  have g_Undone := He.glo_ok X G (d.fact 55 (f := .glo "Undone") rfl)
  have g_NoStand := He.glo_ok X G (d.fact 42 (f := .glo "NoStand") rfl)
  have g_NoOperation := He.glo_ok X G (d.fact 40 (f := .glo "NoOperation") rfl)
  have g_NoHand := He.glo_ok X G (d.fact 37 (f := .glo "NoHand") rfl)
  have g_NothingLeft := He.glo_ok X G (d.fact 56 (f := .glo "NothingLeft") rfl)
  have g_HandError := He.glo_ok X G (d.fact 57 (f := .glo "HandError") rfl)
  have g_Missing := He.glo_ok X G (d.fact 58 (f := .glo "Missing") rfl)
  have mall : ∀ c ∈ callNames, mg c = some (.ref (He.ga K c)) := by
    intro c hc
    simp only [callNames, List.mem_cons, List.not_mem_nil, or_false] at hc
    rcases hc with rfl | rfl | rfl | rfl | rfl | rfl | rfl | rfl | rfl | rfl | rfl | rfl | rfl | rfl | rfl | rfl | rfl | rfl | rfl | rfl
    · exact g_BadTable
    · exact g_BadText
    · exact g_BadChoice
    · exact g_BadOrder
    · exact g_BadMany
    · exact g_BadScheme
    · exact g_BadWishes
    · exact g_BadTurn
    · exact g_Full
    · exact g_TooWide
    · exact g_NoScheme
    · exact g_Ended
    · exact g_Still
    · exact g_Busy
    · exact g_Idle
    · exact g_Undone
    · exact g_NoStand
    · exact g_NoOperation
    · exact g_NoHand
    · exact g_NothingLeft
  have bC := F__law_called.bindsN (ps := ["_law_e"]) fun _ _ _ _ _ _ us hl => match us, hl with | [_], _ => rfl
  have bT := F__law_tried.bindsN (ps := ["_law_ask"]) fun _ _ _ _ _ _ us hl => match us, hl with | [_], _ => rfl
  have hx : ∀ nm c, (nm, c) ∈ xn_law → ∃ D, mg nm = some (.ref D) ∧ TrF K mg (clsT K) nm D c := fun nm c hc => trB_ok (List.all_eq_true.mp htr _ hc) mall
  have tr : TrK P w K mg base xn_law := by
    refine ⟨_, fd__law_tried, F__law_tried, g__law_tried, bT, fun Z e1 e2 e3 e4 e5 hgd k cdv q => ?_⟩
    subst e1 e2 e3 e4 e5
    exact gives__law_tried T g_BadTable g_BadText g_Undone g_BadScheme g_TooWide g_NoScheme g_HandError g_Missing g_NothingLeft hx (ok__law_called T F__law_called) g__law_called F__law_called.kp bC hgd
  have k_is_whole : Cl P w K mg base "is_whole" 1 c_is_whole := ok_is_whole T F_is_whole
  have k_is_operation : Cl P w K mg base "is_operation" 2 c_is_operation := ok_is_operation T k_is_whole c_MOST_STANDS F_is_operation
  have k_look_table : Cl P w K mg base "look_table" 3 c_look_table := ok_look_table T k_is_operation c_MOST_OPERATIONS r_BadTable F_look_table
  have k_look_stand : Cl P w K mg base "look_stand" 4 c_look_stand := ok_look_stand T k_look_table r_NoStand F_look_stand
  have k_look_operation : Cl P w K mg base "look_operation" 3 c_look_operation := ok_look_operation T r_NoOperation F_look_operation
  have k_look_many : Cl P w K mg base "look_many" 3 c_look_many := ok_look_many T c_MOST_HANDS r_BadMany F_look_many
  have k__law_numbers : Cl P w K mg base "_law_numbers" 1 c__law_numbers := ok__law_numbers T F__law_numbers
  have k__law_known : Cl P w K mg base "_law_known" 1 c__law_known := ok__law_known T F__law_known
  have k__law_rows : Cl P w K mg base "_law_rows" 1 c__law_rows := ok__law_rows T F__law_rows
  have k__law_table : Cl P w K mg base "_law_table" 2 c__law_table := ok__law_table T k__law_known k__law_rows F__law_table
  have k__law_roll_state : Cl P w K mg base "_law_roll_state" 1 c__law_roll_state := ok__law_roll_state T F__law_roll_state
  have k__law_roll_deed : Cl P w K mg base "_law_roll_deed" 1 c__law_roll_deed := ok__law_roll_deed T F__law_roll_deed
  have k__law_roll_word : Cl P w K mg base "_law_roll_word" 1 c__law_roll_word := ok__law_roll_word T F__law_roll_word
  have k__law_roll_after : Cl P w K mg base "_law_roll_after" 1 c__law_roll_after := ok__law_roll_after T F__law_roll_after
  have k__law_same : Cl P w K mg base "_law_same" 9 c__law_same := ok__law_same T F__law_same
  have k_Roll : ClM P w K mg base (ClsA.A "Roll") "Roll" 5 c_Roll 2 "start" (.int 0) := ok_Roll o_Roll T k_look_stand k_look_many M_Roll gm_Roll F_Roll
  have k_Roll___len__ : MtQ P w K mg base (ClsA.A "Roll") "__len__" 1 c_Roll___len__ := ok_Roll___len__ o_Roll T me_Roll___len__ F_Roll___len__
  have k_Roll_look_hand : MtQ P w K mg base (ClsA.A "Roll") "look_hand" 3 c_Roll_look_hand := ok_Roll_look_hand o_Roll T r_NoHand me_Roll_look_hand F_Roll_look_hand
  have k_Roll_ask : MtY P w K mg base (ClsA.A "Roll") "ask" 4 c_Roll_ask := ok_Roll_ask o_Roll T k_Roll_look_hand k_look_operation r_Busy me_Roll_ask F_Roll_ask
  have k_Roll_is_put : MtQ P w K mg base (ClsA.A "Roll") "is_put" 1 c_Roll_is_put := ok_Roll_is_put o_Roll T me_Roll_is_put F_Roll_is_put
  have k_Roll_winner : MtQ P w K mg base (ClsA.A "Roll") "winner" 2 c_Roll_winner := ok_Roll_winner o_Roll T k_Roll_is_put me_Roll_winner F_Roll_winner
  have k_Roll_step : MtY P w K mg base (ClsA.A "Roll") "step" 4 c_Roll_step := ok_Roll_step o_Roll T k_Roll_look_hand k_Roll_winner r_Idle me_Roll_step F_Roll_step
  have k__law_roll_do : ClY P w K mg base "_law_roll_do" 5 c__law_roll_do := ok__law_roll_do o_Roll T k_Roll_ask k_Roll_step F__law_roll_do
  have k_Roll_rows : MtQ P w K mg base (ClsA.A "Roll") "rows" 1 c_Roll_rows := ok_Roll_rows o_Roll T me_Roll_rows F_Roll_rows
  have k_Roll_pending : MtQ P w K mg base (ClsA.A "Roll") "pending" 4 c_Roll_pending := ok_Roll_pending o_Roll T k_Roll_look_hand me_Roll_pending F_Roll_pending
  have k_Roll_behind : MtQ P w K mg base (ClsA.A "Roll") "behind" 4 c_Roll_behind := ok_Roll_behind o_Roll T k_Roll_look_hand me_Roll_behind F_Roll_behind
  have k_Roll_stand : MtQ P w K mg base (ClsA.A "Roll") "stand" 4 c_Roll_stand := ok_Roll_stand o_Roll T k_Roll_look_hand me_Roll_stand F_Roll_stand
  have k__law_roll_so : ClQ P w K mg base "_law_roll_so" 10 c__law_roll_so := ok__law_roll_so o_Roll T k_Roll_pending k_Roll___len__ k_Roll_rows k_Roll_stand k_Roll_behind k__law_same F__law_roll_so
  have tc : ∃ c Pt, fd.code = .ref c ∧ LamX.TabB base mg c Pt ∧ (Pt, lamQ) ∈ TabC.T ∧ ∀ p ∈ TabC.T, p.1 = Pt → p.2 = lamQ := by
    refine ⟨_, _, code_at (p := ("law", none)) F, TB0, by rw [hT]; simp, fun p hp hpe => ?_⟩
    rw [hT] at hp
    simp only [List.mem_cons, List.not_mem_nil, or_false] at hp
    rcases hp with rfl
    · rfl
  exact fin_law o_Roll T k__law_numbers k__law_table k_Roll k__law_roll_state k__law_roll_deed k__law_roll_word k__law_roll_after k__law_same k__law_roll_do k_Roll_rows k__law_roll_so tr tc F
end
end WH
open PySem PySem.W PySem.Calls PyProof.Rows
theorem PySem.Challenge.cw_whofirst_k51_rolls_step_by_step_holds : PySem.Challenge.rw_whofirst_k51_rolls_step_by_step.Holds := by
  letI : WH.TabC := ⟨[]⟩
  w_on; o_law
  refine HandSHeadRun.head_any (r := OpenLaw.row PySem.Challenge.rw_whofirst_k51_rolls_step_by_step) (q := view (OpenLaw.row PySem.Challenge.rw_whofirst_k51_rolls_step_by_step).prog [50]) (H := WH.hk) (ob := WH.ob) (M := 20000) (loose := WH.loose) (d := HandSHeadRun.topDef (OpenLaw.row PySem.Challenge.rw_whofirst_k51_rolls_step_by_step).prog 50) (kwd := []) WH.ob_eq
    (by kernel_rfl) (fun s => by kernel_rfl) WH.run (by kernel_rfl) (by kernel_rfl) (by kernel_rfl) (by rfl) (by first | assumption | decide +kernel) (by decide +kernel) ⟨rfl, rfl, rfl, rfl, rfl, by decide +kernel⟩ ?hw ?hc
  case hw => w_witness2
  case hc =>
    refine LamX.walk_ofTsEG (l := PySem.Challenge.rw_whofirst_k51_rolls_step_by_step) (n := 63) (k := 11) (x := "_law_script") (CX := fun _ => L2.CX0) rfl (by decide) (by kernel_rfl) ⟨rfl, by decide, by decide⟩ ?F (fun _ _ _ _ _ z => z)
    intro w mg fa h Y G hmg0
    obtain ⟨K, KX, c⟩ := Y
    have hmg : mg ("law" : PySem.Str) = some (.ref fa) := by
      have e : (HandSHeadRun.topDef (OpenLaw.row PySem.Challenge.rw_whofirst_k51_rolls_step_by_step).prog 50).name = ("law" : PySem.Str) := by kernel_rfl
      rw [← e]
      exact hmg0
    letI : WH.TabC := ⟨[((He.cT K ("law", none)).2, WH.lamQ)]⟩
    obtain ⟨fd, hb, hF⟩ := WH.facts (P := (PySem.Challenge.rw_whofirst_k51_rolls_step_by_step).prog) (w := w) KX G hmg c rfl
    refine ⟨K, KX, fd, [He.cT K ("law", none)], WH.spL K mg WH.c_law, fun p hp => ?_, fun p hp => ?_, fun p hp => ?_, hb, fun H a ns hl _ hT hS => WH.law_sp (fun ns R h1 h2 => ⟨ns, rfl, h1, h2⟩) H a ns hl hS (fun p hp => ?_), fun base KB GB TB => hF base KB GB (TB _ (by simp))⟩
    · simp only [List.mem_cons, List.not_mem_nil, or_false] at hp
      rcases hp with rfl <;> exact c.empty _ (by simp)
    · simp only [List.mem_cons, List.not_mem_nil, or_false] at hp
      rcases hp with rfl <;> exact c.out _ (by simp)
    · simp only [List.mem_cons, List.not_mem_nil, or_false] at hp
      rcases hp with rfl <;> exact PySem.W.codeHd_of_K KX (c.hd _ (by simp))
    · replace hp : p ∈ ([((He.cT K ("law", none)).2, WH.lamQ)] : List (PySem.Addr × PySem.Str)) := hp
      simp only [List.mem_cons, List.not_mem_nil, or_false] at hp
      rcases hp with rfl <;> exact LamX.TabS.nil (hT _ (by simp))

